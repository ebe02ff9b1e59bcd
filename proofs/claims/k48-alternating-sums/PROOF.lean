import PyProof.Rows.All
import Wide.All
import OpenK.AllK
import Wide.FinOn
import PyProof.EqAt
import PyProof.EqKinds
import PyProof.TupleCall
import HandS.ForMost
import HandS.ForExc
import HandS.Wide
import HandS.WideBits
import HandS.Gcd
import HandS.Defaults
import HandS.IsInst
import HandS.More
import HandS.Flow
import HandS.Codes
import HandS.SlotsOwn
import HandS.WordsExc
import HandS.Head0
import HandS.Head1
import HandS.Head2
import HandS.HeadEnd
import HandS.HeadHook1
import HandS.HeadHook2
import HandS.Head3
import HandS.CallSlots
import HandS.ExcIs
import HandS.TryOnly
import HandS.Style
import HandS.TupAny
import HandS.SortInts
import HandS.ClsMeth
import HandS.HeadNt
import HandS.Nested
import HandS.ExcInit
import KE.KSuper
import KE.KExcIs
import HandS.ExcField
import KE.KExcSuper
import KE.KTupSum
import HandS.MakeKwOnly
import KE.GoesEnum
import HandS.Zip
import HandS.Star
import HandS.Strs
import HandS.Conv
import HandS.GenList
import PySem.Challenge.RW_dearestshelf_k48_alternating_sums
set_option Elab.async false
set_option linter.all false
set_option maxRecDepth 100000
set_option maxHeartbeats 40000000
namespace Z
open PySem L2
/-! ### what stands at an address; what stood stands -/
/-- o stands at a -/
def At (H : Hp) (a : Addr) (o : HO) : Prop := H a = some o
/-- a is free -/
def Fr (H : Hp) (a : Addr) : Prop := H a = none
theorem At.ne {H : Hp} {a b : Addr} {o : HO} (h : At H a o) (f : Fr H b) : a ≠ b := ne_of_none h f
theorem At.inj {H : Hp} {a : Addr} {o o' : HO} (h : At H a o) (h' : At H a o') : o = o' := Option.some.inj ((show H a = some o from h).symm.trans h')
theorem At.l {H : Hp} {a : Addr} {xs ys : List V} (h : At H a (.lst xs)) (e : xs = ys) : At H a (.lst ys) := e ▸ h
theorem At.t {H : Hp} {a : Addr} {xs ys : List V} (h : At H a (.tup xs)) (e : xs = ys) : At H a (.tup ys) := e ▸ h
theorem at_upd {H : Hp} {a : Addr} {o : HO} : At (upd H a o) a o := upd_same
/-- one step: what stood stands -/
class Ex (H H' : Hp) : Prop where
  get : ∀ {a : Addr} {o : HO}, At H a o → At H' a o
theorem Ex.refl (H : Hp) : Ex H H := ⟨fun h => h⟩
theorem Ex.trans {H H1 H2 : Hp} (a : Ex H H1) (b : Ex H1 H2) : Ex H H2 := ⟨fun h => b.get (a.get h)⟩
theorem Ex.new {H : Hp} {p : Addr} {o : HO} (h : Fr H p) : Ex H (upd H p o) := ⟨fun e => by
  show upd H p o _ = _
  rw [upd_ne (ne_of_none e h)]; exact e⟩
/-- an object that H does not know may change -/
theorem Ex.mut {H H' : Hp} {p : Addr} {o : HO} (e : Ex H H') (h : Fr H p) : Ex H (upd H' p o) := ⟨fun ha => by
  show upd H' p o _ = _
  rw [upd_ne (ne_of_none ha h)]; exact e.get ha⟩
theorem Ex.rd {H H' : Hp} {a : Addr} {u : HO} (e : Ex H H') (h : Rd H a u) : Rd H' a u := by
  rcases h with h | ⟨o, h⟩
  · exact Or.inl (e.get h)
  · exact Or.inr ⟨o, e.get h⟩
theorem Ex.l {K : PySem.W.Frag} {H H' : Hp} {a : Addr} {xs : List V} (e : Ex H H') (h : SqL K H a xs) : SqL K H' a xs := by
  rcases h with h | h
  · exact Or.inl (e.rd h)
  · exact Or.inr h
theorem Ex.t {K : PySem.W.Frag} {H H' : Hp} {a : Addr} {xs : List V} (e : Ex H H') (h : SqT K H a xs) : SqT K H' a xs := by
  rcases h with h | h
  · exact Or.inl (e.rd h)
  · exact Or.inr h
theorem Ex.back {H H' : Hp} {p : Addr} (e : Ex H H') (h : Fr H' p) : Fr H p := by
  cases h1 : H p with
  | none => exact h1
  | some o =>
    have z := e.get h1
    unfold At at z
    unfold Fr at h
    rw [z] at h
    cases h
/-- any number of steps -/
class Exs (H H' : Hp) : Prop where
  ex : Ex H H'
set_option synthInstance.checkSynthOrder false in
instance Exs.step {H H1 H2 : Hp} [b : Ex H1 H2] [a : Exs H H1] : Exs H H2 := ⟨a.ex.trans b⟩
instance Exs.here {H : Hp} : Exs H H := ⟨Ex.refl H⟩
theorem exE {H H' : Hp} (e : Exs H H') : Ex H H' := e.ex
theorem getE {H H' : Hp} {a : Addr} {o : HO} (h : At H a o) (e : Exs H H') : At H' a o := e.ex.get h
theorem frE {H H' : Hp} {a : Addr} (h : Fr H' a) (e : Exs H H') : Fr H a := e.ex.back h
theorem kmut {H H' H0 : Hp} {a : Addr} (hk : ∀ H0, Ex H0 H → Fr H0 a → Ex H0 H') (n : Fr H0 a) (e : Exs H0 H) : Ex H0 H' := hk H0 e.ex n
theorem sq_of {K : PySem.W.Frag} {H : Hp} {a : Addr} {xs : List V} (h : At H a (.lst xs)) : SqL K H a xs := Or.inl (Or.inl h)
theorem st_of {K : PySem.W.Frag} {H : Hp} {a : Addr} {xs : List V} (h : At H a (.tup xs)) : SqT K H a xs := Or.inl (Or.inl h)
section
variable {K : PySem.W.Frag} {H H' : Hp} {a : Addr} {xs : List V}
theorem lE (h : SqL K H a xs) (e : Exs H H') : SqL K H' a xs := e.ex.l h
theorem lA (h : At H a (.lst xs)) (e : Exs H H') : SqL K H' a xs := e.ex.l (sq_of h)
theorem tE (h : SqT K H a xs) (e : Exs H H') : SqT K H' a xs := e.ex.t h
theorem tA (h : At H a (.tup xs)) (e : Exs H H') : SqT K H' a xs := e.ex.t (st_of h)
end
/-- one step: all but lists stands -/
class Nl (H1 H2 : Hp) : Prop where
  get : ∀ {a : Addr} {o : HO}, (∀ l, o ≠ HO.lst l) → At H1 a o → At H2 a o
theorem Ex.nl {H1 H2 : Hp} (e : Ex H1 H2) : Nl H1 H2 := ⟨fun _ h => e.get h⟩
theorem Nl.trans {H1 H2 H3 : Hp} (a : Nl H1 H2) (b : Nl H2 H3) : Nl H1 H3 := ⟨fun h e => b.get h (a.get h e)⟩
theorem Nl.refl (H : Hp) : Nl H H := ⟨fun _ h => h⟩
theorem Nl.upd {H : Hp} {p : Addr} {xs ys : List V} (h : At H p (.lst xs)) : Nl H (upd H p (.lst ys)) := ⟨fun {a} {o} ho e => by
  show L2.upd H p _ a = _
  rw [upd_ne (fun z => ho xs (by subst z; exact (h.inj e).symm))]; exact e⟩
theorem Nl.of_other {H H2 : Hp} {p : Addr} {xs : List V} (h : At H p (.lst xs)) (ho : ∀ b o, b ≠ p → At H b o → At H2 b o) : Nl H H2 := ⟨fun {a} {o} hk e => ho a o (fun z => hk xs (by subst z; exact (h.inj e).symm)) e⟩
class Nls (H H' : Hp) : Prop where
  nl : Nl H H'
set_option synthInstance.checkSynthOrder false in
instance Nls.stepE {H H1 H2 : Hp} [b : Ex H1 H2] [a : Nls H H1] : Nls H H2 := ⟨a.nl.trans b.nl⟩
set_option synthInstance.checkSynthOrder false in
instance Nls.step {H H1 H2 : Hp} [b : Nl H1 H2] [a : Nls H H1] : Nls H H2 := ⟨a.nl.trans b⟩
instance Nls.here {H : Hp} : Nls H H := ⟨Nl.refl H⟩
theorem getTN {H H' : Hp} {a : Addr} {xs : List V} (h : At H a (.tup xs)) (e : Nls H H') : At H' a (.tup xs) := e.nl.get (fun l z => by cases z) h
theorem tNA {K : PySem.W.Frag} {H H' : Hp} {a : Addr} {xs : List V} (h : At H a (.tup xs)) (e : Nls H H') : SqT K H' a xs := st_of (getTN h e)
theorem getIN {H H' : Hp} {a C d : Addr} {fs : List (Str × V)} (h : At H a (.ins C d fs)) (e : Nls H H') : At H' a (.ins C d fs) := e.nl.get (fun l z => by cases z) h
/-! ### the row's defs by their names -/
abbrev FnP (K : PySem.W.Frag) (x : Str) (st : Stmt) (f : Addr) (fd : FuncData) : Prop := FunD K x x (defArgs st) (defBody st) (defScope st) [] [] f fd
def noFd : FuncData := PySem.W.fnOf "" "" { posonlyargs := [], args := [], vararg := none, kwonlyargs := [], kw_defaults := [], kwarg := none, defaults := [] } [] { kind := .function, names := [], isGenerator := false, isCoroutine := false } .none .none .none .none none .none .none
def fdOf (K : PySem.W.Frag) (a : Addr) : FuncData := match K.lookup a with
  | some ⟨_, _, .func fd, _⟩ => fd
  | _ => noFd
theorem fd_of {K : PySem.W.Frag} {x qual : Str} {params : Arguments} {body : List Stmt} {scope : Scope} {dvs : List V} {kws : List (Str × V)} {f : Addr} (h : ∃ fd, FunD K x qual params body scope dvs kws f fd) : FunD K x qual params body scope dvs kws f (fdOf K f) := by
  obtain ⟨fd, F⟩ := h
  have e : fdOf K f = fd := by
    obtain ⟨_, _, _, _, _, _, _, _, _, _, _, lk, _⟩ := F.ex
    unfold fdOf
    rw [lk]
  rw [e]
  exact F
/-! ### one step of a reading -/
def nT (Q : VK) : List V → Hp → Prop := fun xs H1 => xs.length ≤ sizeLine ∧ ∀ p, Fr H1 p → Q (.ref p) (upd H1 p (.tup xs))
def nL (Q : VK) : List V → Hp → Prop := fun xs H1 => xs.length ≤ sizeLine ∧ ∀ p, Fr H1 p → Q (.ref p) (upd H1 p (.lst xs))
section
variable {K : PySem.W.Frag} {σ : L2.St} {H H' : Hp} {Q : VK} {v x y : V} {ta tb te tc : TE} {r : R2} {D : Ends} {t u : TS} {c c1 c2 : TT} {ts : TA}
theorem w_var {i : Nat} (h : σ[i]? = some (some v)) (q : Q v H) : tVar i σ H Q := ⟨v, h, q⟩
theorem w_c (q : Q v H) : tC v σ H Q := q
theorem w_op (h : ta σ H fun x H1 => tb σ H1 fun y H2 => r x y H2 Q) : tOp r ta tb σ H Q := h
theorem w_un {r : V → Hp → VK → Prop} (h : ta σ H fun x H1 => r x H1 Q) : tUn r ta σ H Q := h
theorem w_cb {r : List V → Hp → VK → Prop} (h : ts σ H fun vs H1 => r vs H1 Q) : tCB r ts σ H Q := h
theorem w_nil {Q : List V → Hp → Prop} (h : Q [] H) : tNil σ H Q := h
theorem w_cons {Q : List V → Hp → Prop} (h : ta σ H fun x H1 => ts σ H1 fun xs H2 => Q (x :: xs) H2) : tCons ta ts σ H Q := h
theorem w_tup (h : ts σ H (nT Q)) : tTup ts σ H Q := h
theorem w_lst (h : ts σ H (nL Q)) : tLst ts σ H Q := h
theorem w_call {sp : Sp} {dvs : List V} {E : XK} (h : ts σ H fun vs H1 => sp (vs ++ dvs) H1 Q E) : tCall sp dvs E ts σ H Q := h
theorem w_call0 {sp : Sp} {E : XK} (h : ts σ H fun vs H1 => sp vs H1 Q E) : tCall sp [] E ts σ H Q := by
  show ts σ H fun vs H1 => sp (vs ++ []) H1 Q E
  simp only [List.append_nil]
  exact h
theorem w_test {Q : Bool → Hp → Prop} (h : te σ H fun x H1 => ∃ k, x = .bl k ∧ Q k H1) : tTest te σ H Q := h
theorem w_B {Q : Bool → Hp → Prop} (h : te σ H fun x H1 => ∃ k, x = .bl k ∧ Q k H1) : tB te σ H Q := h
theorem w_bl {R : Bool → Prop} {k : Bool} (h : R k) : ∃ k', (V.bl k) = .bl k' ∧ R k' := ⟨k, rfl, h⟩
theorem w_and {Q : Bool → Hp → Prop} (h : c1 σ H fun b H1 => if b = true then c2 σ H1 Q else Q false H1) : tAnd c1 c2 σ H Q := h
theorem w_or {Q : Bool → Hp → Prop} (h : c1 σ H fun b H1 => if b = true then Q true H1 else c2 σ H1 Q) : tOr c1 c2 σ H Q := h
theorem w_not {Q : Bool → Hp → Prop} (h : c σ H fun b H1 => Q (!b) H1) : tNot c σ H Q := h
theorem w_andV (h : ta σ H fun x H1 => ∃ k, x = .bl k ∧ if k = true then tb σ H1 Q else Q (.bl false) H1) : tAndV ta tb σ H Q := h
theorem w_orV (h : ta σ H fun x H1 => ∃ k, x = .bl k ∧ if k = true then Q (.bl true) H1 else tb σ H1 Q) : tOrV ta tb σ H Q := h
theorem w_notV (h : ta σ H fun x H1 => ∃ k, x = .bl k ∧ Q (.bl (!k)) H1) : tNotV ta σ H Q := h
theorem w_ifE (h : c σ H fun b H1 => if b = true then ta σ H1 Q else tb σ H1 Q) : tIf c ta tb σ H Q := h
theorem w_isN (h : ta σ H fun x H1 => Q (.bl (decide (x = .non))) H1) : tIsN ta σ H Q := h
theorem w_notN (h : ta σ H fun x H1 => Q (.bl (!decide (x = .non))) H1) : tNotN ta σ H Q := h
theorem w_seq (h : t ⟨u D, D.rt, D.bk, D.ct⟩ σ H) : tSeq t u D σ H := h
theorem w_asg {g : TG} (h : te σ H fun x H1 => g x σ H1 D.nx) : tAsg te g D σ H := h
theorem w_gn {i : Nat} {R : L2.St → Hp → Prop} (h : R (σ.set i (some v)) H) : gName i v σ H R := h
theorem w_ret (h : te σ H D.rt) : tRet te D σ H := h
theorem w_retN (h : D.rt .non H) : tRetN D σ H := h
theorem w_drop (h : te σ H fun _ H1 => D.nx σ H1) : tDrop te D σ H := h
theorem w_next (h : D.nx σ H) : tNext D σ H := h
theorem w_brk (h : D.bk σ H) : tBreak D σ H := h
theorem w_cnt (h : D.ct σ H) : tCont D σ H := h
theorem w_if (h : c σ H fun b H1 => if b = true then t D σ H1 else u D σ H1) : tIfS c t u D σ H := h
theorem w_par {i j : Nat} (h : ts σ H fun vs H1 => ∃ v w, vs = [v, w] ∧ D.nx ((σ.set i (some v)).set j (some w)) H1) : tPar i j ts D σ H := h
theorem w_exP {R : V → V → Prop} (h : R v x) : ∃ v' x', [v, x] = [v', x'] ∧ R v' x' := ⟨v, x, rfl, h⟩
theorem w_cut (Mid : L2.St → Hp → Prop) (h : t ⟨Mid, D.rt, D.bk, D.ct⟩ σ H) (k : ∀ σ' H', Mid σ' H' → u D σ' H') : C8.tCut t u D σ H := ⟨Mid, h, k⟩
theorem w_nx {f : L2.St → Hp → Prop} {g : VK} {bk ct : L2.St → Hp → Prop} (h : f σ H) : Ends.nx ⟨f, g, bk, ct⟩ σ H := h
theorem w_bk {f : L2.St → Hp → Prop} {g : VK} {bk ct : L2.St → Hp → Prop} (h : bk σ H) : Ends.bk ⟨f, g, bk, ct⟩ σ H := h
theorem w_ct {f : L2.St → Hp → Prop} {g : VK} {bk ct : L2.St → Hp → Prop} (h : ct σ H) : Ends.ct ⟨f, g, bk, ct⟩ σ H := h
theorem w_rt {f : L2.St → Hp → Prop} {g : VK} {bk ct : L2.St → Hp → Prop} (h : g v H) : Ends.rt ⟨f, g, bk, ct⟩ v H := h
theorem w_aug {i : Nat} {ti : TIp} {z : V} (h : σ[i]? = some (some z)) (q : te σ H fun y H1 => ti z y H1 fun z H2 => D.nx (σ.set i (some z)) H2) : tAug i te ti D σ H := ⟨z, h, q⟩
theorem w_ipI {f : Int → Int → Int} {i j : Int} (q : Q (.int (f i j)) H) : ipI f (.int i) (.int j) H Q := ⟨i, j, rfl, rfl, q⟩
theorem w_I0 {g : Int → Int → V} {i j : Int} (q : Q (g i j) H) : rI0 g (.int i) (.int j) H Q := ⟨i, j, rfl, rfl, q⟩
theorem w_I {C : Int → Int → Prop} {g : Int → Int → V} {i j : Int} (hc : C i j) (q : Q (g i j) H) : rI C g (.int i) (.int j) H Q := ⟨i, j, rfl, rfl, hc, q⟩
theorem w_pow {i j z : Int} (hc : CPow i j) (hz : i ^ j.toNat = z) (q : Q (.int z) H) : rI CPow (fun i j => .int (i ^ j.toNat)) (.int i) (.int j) H Q := ⟨i, j, rfl, rfl, hc, by show Q (.int (i ^ j.toNat)) H; rw [hz]; exact q⟩
theorem w_U {g : Int → V} {i : Int} (q : Q (g i) H) : rU g (.int i) H Q := ⟨i, rfl, q⟩
theorem w_eqI {i j : Int} (q : Q (.bl (decide (i = j))) H) : rEq (.int i) (.int j) H Q := ⟨rfl, by
  have e : decide (V.int i = V.int j) = decide (i = j) := by simp
  rw [e]; exact q⟩
theorem w_neI {i j : Int} (q : Q (.bl (!decide (i = j))) H) : rNe (.int i) (.int j) H Q := ⟨rfl, by
  have e : decide (V.int i = V.int j) = decide (i = j) := by simp
  rw [e]; exact q⟩
theorem w_eqS {i j : Str} (q : Q (.bl (decide (i = j))) H) : rEq (.str i) (.str j) H Q := ⟨rfl, by
  have e : decide (V.str i = V.str j) = decide (i = j) := by simp
  rw [e]; exact q⟩
theorem w_neS {i j : Str} (q : Q (.bl (!decide (i = j))) H) : rNe (.str i) (.str j) H Q := ⟨rfl, by
  have e : decide (V.str i = V.str j) = decide (i = j) := by simp
  rw [e]; exact q⟩
theorem w_isB {a b : Bool} (q : Q (.bl (decide (a = b))) H) : rIsB (.bl a) (.bl b) H Q := ⟨a, b, rfl, rfl, q⟩
theorem w_isnB {a b : Bool} (q : Q (.bl (!decide (a = b))) H) : rNotB (.bl a) (.bl b) H Q := ⟨a, b, rfl, rfl, q⟩
/-! tests -/
theorem w_dec {p : Prop} [Decidable p] {A B : Prop} (h1 : p → A) (h2 : ¬ p → B) : if decide p = true then A else B := by
  by_cases h : p
  · rw [decide_eq_true h]; exact h1 h
  · rw [decide_eq_false h]; exact h2 h
theorem w_ndec {p : Prop} [Decidable p] {A B : Prop} (h1 : ¬ p → A) (h2 : p → B) : if (!decide p) = true then A else B := by
  by_cases h : p
  · rw [decide_eq_true h]; exact h2 h
  · rw [decide_eq_false h]; exact h1 h
theorem w_decT {p : Prop} [Decidable p] {A B : Prop} (hp : p) (h : A) : if decide p = true then A else B := w_dec (fun _ => h) (fun n => absurd hp n)
theorem w_decF {p : Prop} [Decidable p] {A B : Prop} (hp : ¬ p) (h : B) : if decide p = true then A else B := w_dec (fun n => absurd n hp) (fun _ => h)
theorem w_ndecT {p : Prop} [Decidable p] {A B : Prop} (hp : ¬ p) (h : A) : if (!decide p) = true then A else B := w_ndec (fun _ => h) (fun n => absurd n hp)
theorem w_ndecF {p : Prop} [Decidable p] {A B : Prop} (hp : p) (h : B) : if (!decide p) = true then A else B := w_ndec (fun n => absurd hp n) (fun _ => h)
theorem w_bool {b : Bool} {A B : Prop} (h1 : b = true → A) (h2 : b = false → B) : if b = true then A else B := by
  cases b
  · exact h2 rfl
  · exact h1 rfl
theorem w_nbool {b : Bool} {A B : Prop} (h1 : b = false → A) (h2 : b = true → B) : if (!b) = true then A else B := by
  cases b
  · exact h1 rfl
  · exact h2 rfl
theorem w_T {A B : Prop} (h : A) : if true = true then A else B := h
theorem w_F {A B : Prop} (h : B) : if false = true then A else B := h
theorem w_nT {A B : Prop} (h : B) : if (!true) = true then A else B := h
theorem w_nF {A B : Prop} (h : A) : if (!false) = true then A else B := h

/-! new objects: the heap behind is named, what is known of it is said -/
theorem w_newT {xs : List V} (hz : xs.length ≤ sizeLine) (q : ∀ p H2, Fr H p → Ex H H2 → At H2 p (.tup xs) → Q (.ref p) H2) : nT Q xs H :=
  ⟨hz, fun p hp => q p _ hp (Ex.new hp) upd_same⟩
theorem w_newL {xs : List V} (hz : xs.length ≤ sizeLine) (q : ∀ p H2, Fr H p → Ex H H2 → At H2 p (.lst xs) → Q (.ref p) H2) : nL Q xs H :=
  ⟨hz, fun p hp => q p _ hp (Ex.new hp) upd_same⟩
end
/-! ### operators of several kinds -/
/-- a product that the model reckons -/
def CM (i j : Int) : Prop := CMul i j ∨ CMulX i j
theorem CM.of_left {i j : Int} (h : i.natAbs < 2 ^ 64) : CM i j := .inl (.inl ⟨by omega, by omega⟩)
theorem CM.of_right {i j : Int} (h : j.natAbs < 2 ^ 64) : CM i j := .inl (.inr ⟨by omega, by omega⟩)
theorem CM.of_pow {i j : Int} {a b : Nat} (ha : i.natAbs < 2 ^ a) (hb : j.natAbs < 2 ^ b) (h : a + b ≤ 134217728) : CM i j := .inr (mulx_ok ha hb h)
/-- bits of ints -/
theorem bt_mul {a b : Int} {n m : Nat} (ha : a.natAbs < 2 ^ n) (hb : b.natAbs < 2 ^ m) : (a * b).natAbs < 2 ^ (n + m) := by
  rw [Int.natAbs_mul, Nat.pow_add]
  exact Nat.mul_lt_mul'' ha hb
theorem bt_mono {a : Int} {n m : Nat} (ha : a.natAbs < 2 ^ n) (h : n ≤ m) : a.natAbs < 2 ^ m := Nat.lt_of_lt_of_le ha (Nat.pow_le_pow_right (by decide) h)
theorem bt_add {a b : Int} {n m : Nat} (ha : a.natAbs < 2 ^ n) (hb : b.natAbs < 2 ^ m) : (a + b).natAbs < 2 ^ (n + m + 1) := by
  have h := Int.natAbs_add_le a b
  have h1 : a.natAbs < 2 ^ (n + m) := bt_mono ha (by omega)
  have h2 : b.natAbs < 2 ^ (n + m) := bt_mono hb (by omega)
  rw [Nat.pow_succ]
  omega
theorem bt_addL {a b : Int} {n m k : Nat} (ha : a.natAbs < 2 ^ n) (hb : b.natAbs < 2 ^ m) (h1 : n ≤ k) (h2 : m ≤ k) : (a + b).natAbs < 2 ^ (k + 1) := by
  have h := Int.natAbs_add_le a b
  have h1 : a.natAbs < 2 ^ k := bt_mono ha h1
  have h2 : b.natAbs < 2 ^ k := bt_mono hb h2
  rw [Nat.pow_succ]
  omega
theorem bt_neg {a : Int} {n : Nat} (ha : a.natAbs < 2 ^ n) : (-a).natAbs < 2 ^ n := by rw [Int.natAbs_neg]; exact ha
theorem bt_sub {a b : Int} {n m : Nat} (ha : a.natAbs < 2 ^ n) (hb : b.natAbs < 2 ^ m) : (a - b).natAbs < 2 ^ (n + m + 1) := by
  rw [Int.sub_eq_add_neg]; exact bt_add ha (bt_neg hb)
theorem bt_subL {a b : Int} {n m k : Nat} (ha : a.natAbs < 2 ^ n) (hb : b.natAbs < 2 ^ m) (h1 : n ≤ k) (h2 : m ≤ k) : (a - b).natAbs < 2 ^ (k + 1) := by
  rw [Int.sub_eq_add_neg]; exact bt_addL ha (bt_neg hb) h1 h2
theorem bt_abs {a : Int} {n : Nat} (ha : a.natAbs < 2 ^ n) : ((a.natAbs : Int)).natAbs < 2 ^ n := by rw [Int.natAbs_natCast]; exact ha
theorem bt_fdiv {a b : Int} {n : Nat} (ha : a.natAbs < 2 ^ n) : (a / b).natAbs < 2 ^ n := Nat.lt_of_le_of_lt (Int.natAbs_ediv_le_natAbs _ _) ha
theorem cm {a b : Int} {n m : Nat} (ha : a.natAbs < 2 ^ n) (hb : b.natAbs < 2 ^ m) (h : n + m ≤ 100000) : CM a b := CM.of_pow ha hb (by omega)
def rInt1 : List V → Hp → VK → Prop := fun xs H Q => (∃ i, xs = [.int i] ∧ Q (.int i) H) ∨ ∃ k, xs = [.bl k] ∧ Q (.int (if k then 1 else 0)) H
def rTupOf (K : PySem.W.Frag) : List V → Hp → VK → Prop := fun xs H Q => ∃ p ys, xs = [.ref p] ∧ ((SqL K H p ys ∧ ∀ l, Fr H l → Q (.ref l) (upd H l (.tup ys))) ∨ (SqT K H p ys ∧ Q (.ref p) H))
def rListOf (K : PySem.W.Frag) : List V → Hp → VK → Prop := fun xs H Q => ∃ p ys, xs = [.ref p] ∧ (SqL K H p ys ∨ SqT K H p ys) ∧ ∀ l, Fr H l → Q (.ref l) (upd H l (.lst ys))
def rIns : V → List V → Hp → VK → Prop := fun x vs H Q => ∃ (l : Addr) (xs : List V) (i : Int) (y : V), x = .ref l ∧ vs = [.int i, y] ∧ At H l (.lst xs) ∧ xs.length < sizeLine ∧ 0 ≤ i ∧ i < 2 ^ 63 ∧ Q .non (upd H l (.lst (xs.take i.toNat ++ [y] ++ xs.drop i.toNat)))
def rShl : R2 := fun x y H Q => ∃ k : Nat, x = .int 1 ∧ y = .int (k : Int) ∧ k ≤ 134217727 ∧ Q (.int (2 ^ k)) H
def rShr : R2 := fun x y H Q => ∃ (n k : Nat), x = .int (n : Int) ∧ y = .int (k : Int) ∧ Q (.int ((n / 2 ^ k : Nat) : Int)) H
def rOdd : R2 := fun x y H Q => ∃ n : Nat, x = .int (n : Int) ∧ y = .int 1 ∧ Q (.int ((n % 2 : Nat) : Int)) H
def rMax2 : List V → Hp → VK → Prop := fun xs H Q => ∃ i j, xs = [.int i, .int j] ∧ Q (.int (if j > i then j else i)) H
def rMin2 : List V → Hp → VK → Prop := fun xs H Q => ∃ i j, xs = [.int i, .int j] ∧ Q (.int (if j < i then j else i)) H
def rAddZ : R2 := fun x y H Q => (rI0 fun i j => .int (i + j)) x y H Q ∨ rCat x y H Q
def rMulZ : R2 := fun x y H Q => rI CMul (fun i j => .int (i * j)) x y H Q ∨ rI CMulX (fun i j => .int (i * j)) x y H Q
def rEqZ (K : PySem.W.Frag) : R2 := fun x y H Q => rEq x y H Q ∨ rEqD K x y H Q
def rNeZ (K : PySem.W.Frag) : R2 := fun x y H Q => rNe x y H Q ∨ rNeD K x y H Q
section
variable {X : Cx}
theorem op_add : OpR X (binaryOp .Add) rAddZ := L2.op_add.or op_cat
theorem op_sub : OpR X (binaryOp .Sub) (rI0 fun i j => .int (i - j)) := L2.op_sub
theorem op_mul : OpR X (binaryOp .Mult) rMulZ := L2.op_mul.or op_mulX
theorem op_fdiv : OpR X (binaryOp .FloorDiv) (rI CDivW fun i j => .int (i / j)) := op_fdivW
theorem op_mod : OpR X (binaryOp .Mod) (rI (fun _ j => 0 < j) fun i j => .int (i % j)) := L2.op_mod
theorem un_neg : UnR X (unaryOp .USub) (rU fun i => .int (-i)) := L2.un_neg
theorem op_lt : OpR X (compareOp .Lt) (rI0 fun i j => .bl (decide (i < j))) := L2.op_lt
theorem op_le : OpR X (compareOp .LtE) (rI0 fun i j => .bl (decide (i ≤ j))) := L2.op_le
theorem op_gt : OpR X (compareOp .Gt) (rI0 fun i j => .bl (decide (j < i))) := L2.op_gt
theorem op_ge : OpR X (compareOp .GtE) (rI0 fun i j => .bl (decide (j ≤ i))) := L2.op_ge
theorem call_max2 (hc : X.calm = true) : CallR X (.builtin "max") rMax2 := L2.call_max2 hc
theorem call_min2 (hc : X.calm = true) : CallR X (.builtin "min") rMin2 := L2.call_min2 hc
theorem op_shl : OpR X (binaryOp .LShift) rShl := op_oneShl
theorem op_shr : OpR X (binaryOp .RShift) rShr := by
  intro pins s σ H x y u v Q I rx ry h
  obtain ⟨n, k, rfl, rfl, q⟩ := h
  refine op_shrN pins s σ H _ _ u v Q I rx ry ⟨(n : Int), k, rfl, rfl, ?_⟩
  have e : (n : Int) / 2 ^ k = ((n / 2 ^ k : Nat) : Int) := by rw [Int.natCast_ediv, Int.natCast_pow]; rfl
  rw [e]
  exact q
theorem op_and1 : OpR X (binaryOp .BitAnd) rOdd := op_odd
variable {K : PySem.W.Frag}
theorem op_eq (hK : X.K = K) (hu : X.A.units + 64 < cLine) : OpR X (compareOp .Eq) (rEqZ K) := hK ▸ L2.op_eq.or (op_eqD hu)
theorem op_ne (hK : X.K = K) (hu : X.A.units + 64 < cLine) : OpR X (compareOp .NotEq) (rNeZ K) := hK ▸ L2.op_ne.or (op_neD hu)
theorem op_in (hK : X.K = K) : OpR X (compareOp .In) (rIn K false) := hK ▸ op_in_seq
theorem op_notin (hK : X.K = K) : OpR X (compareOp .NotIn) (rIn K true) := hK ▸ op_notIn_seq
theorem ix (hK : X.K = K) : IxR X (rIx K) := hK ▸ ix_seq
theorem slL (hK : X.K = K) : SlR X (rSlL K) := hK ▸ sl_list
theorem slT (hK : X.K = K) : SlR X (rSlT K) := hK ▸ sl_tup
theorem call_len (hK : X.K = K) : CallR X (.builtin "len") (rLen K) := hK ▸ L2.call_len
theorem mt_ins : MtR X "list.insert" rIns := mt_insert
theorem call_int : CallR X (.type "int") rInt1 := call_int1
theorem call_tuple (hK : X.K = K) : CallR X (.type "tuple") (rTupOf K) := hK ▸ call_tuple_of
theorem call_list (hK : X.K = K) : CallR X (.type "list") (rListOf K) := hK ▸ call_list_of
theorem call_isi (hK : X.K = K) : CallR X (.builtin "isinstance") (rIsi K) := hK ▸ L2.call_isi
/-- sum of a list or a tuple of ints -/
def rSumA (K : PySem.W.Frag) : List V → Hp → VK → Prop := fun vs H Q => ∃ (a : Addr) (ns : List Int), vs = [V.ref a] ∧ (SqL K H a (ns.map V.int) ∨ SqT K H a (ns.map V.int)) ∧ Q (.int ns.sum) H
theorem call_sum (hK : X.K = K) (hc : X.calm = true) : CallR X (.builtin "sum") (rSumA K) := by
  subst hK
  intro pins s σ H vs us Q I r h
  obtain ⟨a, ns, rfl, hs, q⟩ := h
  rw [Vals.ref1 r]
  rcases hs with hs | hs
  · obtain ⟨its, rv, hl, _⟩ := I.list hs
    exact sum_raw (I.ok.hd hc) hl.isList rv.ints fun h' tk t' hk => ⟨.int _, H, I.kept hk, ⟨_, rfl⟩, q⟩
  · obtain ⟨its, rv, p, hz⟩ := I.tuple hs
    have hi := rv.ints
    obtain ⟨xs, e⟩ := hi.allInts.items
    have hn : numsOf (PySem.intItems xs).toList = ns := by rw [← e]; exact hi.numsOf
    rw [nums_intItems] at hn
    have p2 : s.heap.IsTuple a its.toArray := p
    rw [e] at p2
    refine PySem.W.ktm_sumG (I.ok.hd hc) p2 fun h' tk t' hk => ?_
    rw [PySem.preSum_eq, List.take_of_length_le (by simp), hn]
    exact ⟨.int _, H, I.kept hk, ⟨_, rfl⟩, q⟩
theorem call_min (hK : X.K = K) (hc : X.calm = true) : CallR X (.builtin "min") (rMin K) := hK ▸ cr_min hc
theorem call_max (hK : X.K = K) (hc : X.calm = true) : CallR X (.builtin "max") (rMax K) := hK ▸ cr_max hc
theorem call_any (hK : X.K = K) (hc : X.calm = true) : CallR X (.builtin "any") (rAny K) := hK ▸ cr_any hc
theorem call_all (hK : X.K = K) (hc : X.calm = true) : CallR X (.builtin "all") (rAll K) := hK ▸ cr_all hc
theorem call_sorted (hK : X.K = K) : CallR X (.builtin "sorted") (rSorted K) := hK ▸ cr_sorted
theorem piL (hK : X.K = K) {tg l : Expr} {tl : TE} (hl : PE X l tl) : PI X tg l (iList K tl) := hK ▸ pi_list hl
theorem piT (hK : X.K = K) {tg l : Expr} {tl : TE} (hl : PE X l tl) : PI X tg l (iTup K tl) := hK ▸ pi_tup hl
theorem fld (hK : X.K = K) {e : Expr} {ta : TE} {f : Str} {pos : Pos} (he : PE X e ta) (hb : attributeBase e f X.env (eval e X.env) = eval e X.env) : PE X (.Attribute e f pos) (tFld K ta f) := hK ▸ pe_fld he hb
theorem con (hK : X.K = K) {e : Expr} {ta : TE} {f : Str} {pos : Pos} (he : PE X e ta) (hb : attributeBase e f X.env (eval e X.env) = eval e X.env) : PE X (.Attribute e f pos) (tCon K ta f) := hK ▸ pe_con he hb
end
section
variable {K : PySem.W.Frag} {σ : L2.St} {H H' : Hp} {Q : VK} {v x y : V} {a b p : Addr} {xs ys : List V} {i j : Int}
theorem w_addI (q : Q (.int (i + j)) H) : rAddZ (.int i) (.int j) H Q := .inl ⟨i, j, rfl, rfl, q⟩
theorem w_addL (h1 : At H a (.lst xs)) (h2 : At H b (.lst ys)) (hz : xs.length + ys.length ≤ sizeLine) (q : ∀ p H2, Fr H p → Ex H H2 → At H2 p (.lst (xs ++ ys)) → Q (.ref p) H2) : rAddZ (.ref a) (.ref b) H Q :=
  .inr ⟨a, b, xs, ys, rfl, rfl, h1, h2, hz, fun p hp => q p _ hp (Ex.new hp) upd_same⟩
theorem w_mulI (hc : CM i j) (q : Q (.int (i * j)) H) : rMulZ (.int i) (.int j) H Q := hc.elim (fun h => .inl ⟨i, j, rfl, rfl, h, q⟩) fun h => .inr ⟨i, j, rfl, rfl, h, q⟩
theorem w_eqZI (q : Q (.bl (decide (i = j))) H) : rEqZ K (.int i) (.int j) H Q := .inl (w_eqI q)
theorem w_neZI (q : Q (.bl (!decide (i = j))) H) : rNeZ K (.int i) (.int j) H Q := .inl (w_neI q)
theorem w_eqZS {i j : Str} (q : Q (.bl (decide (i = j))) H) : rEqZ K (.str i) (.str j) H Q := .inl (w_eqS q)
theorem w_neZS {i j : Str} (q : Q (.bl (!decide (i = j))) H) : rNeZ K (.str i) (.str j) H Q := .inl (w_neS q)
theorem w_int1 (q : Q (.int i) H) : rInt1 [.int i] H Q := .inl ⟨i, rfl, q⟩
theorem w_tupL (h : SqL K H a xs) (q : ∀ p H2, Fr H p → Ex H H2 → At H2 p (.tup xs) → Q (.ref p) H2) : rTupOf K [.ref a] H Q := ⟨a, xs, rfl, .inl ⟨h, fun p hp => q p _ hp (Ex.new hp) upd_same⟩⟩
theorem w_tupT (h : SqT K H a xs) (q : Q (.ref a) H) : rTupOf K [.ref a] H Q := ⟨a, xs, rfl, .inr ⟨h, q⟩⟩
theorem w_listL (h : SqL K H a xs) (q : ∀ p H2, Fr H p → Ex H H2 → At H2 p (.lst xs) → Q (.ref p) H2) : rListOf K [.ref a] H Q := ⟨a, xs, rfl, .inl h, fun p hp => q p _ hp (Ex.new hp) upd_same⟩
theorem w_listT (h : SqT K H a xs) (q : ∀ p H2, Fr H p → Ex H H2 → At H2 p (.lst xs) → Q (.ref p) H2) : rListOf K [.ref a] H Q := ⟨a, xs, rfl, .inr h, fun p hp => q p _ hp (Ex.new hp) upd_same⟩
theorem w_lenL (h : SqL K H a xs) (q : Q (.int xs.length) H) : rLen K [.ref a] H Q := ⟨_, _, rfl, .inl ⟨xs, h, rfl⟩, q⟩
theorem w_lenT (h : SqT K H a xs) (q : Q (.int xs.length) H) : rLen K [.ref a] H Q := ⟨_, _, rfl, .inr ⟨xs, h, rfl⟩, q⟩
theorem w_lenLI {ns : List Int} (h : SqL K H a (ns.map V.int)) (q : Q (.int ns.length) H) : rLen K [.ref a] H Q := w_lenL h (by rw [List.length_map]; exact q)
theorem w_lenTI {ns : List Int} (h : SqT K H a (ns.map V.int)) (q : Q (.int ns.length) H) : rLen K [.ref a] H Q := w_lenT h (by rw [List.length_map]; exact q)
theorem atI_int {ns : List Int} (h0 : 0 ≤ i) (h1 : i < ns.length) : atI (ns.map V.int) i = some (.int (ns.getD i.toNat 0)) := by
  unfold atI ixN
  rw [if_pos h0, List.length_map, if_pos h1]
  show (ns.map V.int)[i.toNat]? = _
  have h : i.toNat < ns.length := by omega
  rw [List.getElem?_map, List.getD_eq_getElem?_getD, List.getElem?_eq_getElem h]
  rfl
theorem w_ixLI {ns : List Int} {k : Nat} (h : SqL K H a (ns.map V.int)) (hk : i.toNat = k) (h0 : 0 ≤ i) (h1 : i < ns.length) (q : Q (.int (ns.getD k 0)) H) : rIx K (.ref a) (.int i) H Q := .inl ⟨a, _, i, _, rfl, rfl, h, atI_int h0 h1, hk ▸ q⟩
theorem w_ixTI {ns : List Int} {k : Nat} (h : SqT K H a (ns.map V.int)) (hk : i.toNat = k) (h0 : 0 ≤ i) (h1 : i < ns.length) (q : Q (.int (ns.getD k 0)) H) : rIx K (.ref a) (.int i) H Q := .inr (.inl ⟨a, _, i, _, rfl, rfl, h, atI_int h0 h1, hk ▸ q⟩)
theorem w_ixL (h : SqL K H a xs) (ha : atI xs i = some v) (q : Q v H) : rIx K (.ref a) (.int i) H Q := .inl ⟨a, _, i, _, rfl, rfl, h, ha, q⟩
theorem w_ixT (h : SqT K H a xs) (ha : atI xs i = some v) (q : Q v H) : rIx K (.ref a) (.int i) H Q := .inr (.inl ⟨a, _, i, _, rfl, rfl, h, ha, q⟩)
theorem w_bm {T : String} {r : V → List V → Hp → VK → Prop} {to : TE} {t : TA} (h : to σ H fun x H1 => tyV K T x H1 ∧ t σ H1 fun xs H2 => r x xs H2 Q) : tBM K T r to t σ H Q := h
theorem w_bm0 {T : String} {r : V → List V → Hp → VK → Prop} {to : TE} (h : to σ H fun x H1 => tyV K T x H1 ∧ r x [] H1 Q) : tBM0 K T r to σ H Q := h
/-- the object of a list's method stands -/
theorem w_tyL {A : Prop} (h : At H a (.lst xs)) (k : A) : tyV K "list" (.ref a) H ∧ A := ⟨.inl ⟨rfl, _, sq_of h⟩, k⟩
theorem w_app (h : At H a (.lst xs)) (hz : xs.length < sizeLine) (q : ∀ H2, At H2 a (.lst (xs ++ [v])) → Nl H H2 → (∀ H0, Ex H0 H → Fr H0 a → Ex H0 H2) → (∀ b o, b ≠ a → At H b o → At H2 b o) → Q .non H2) : rAppend (.ref a) [v] H Q :=
  ⟨a, xs, v, rfl, rfl, h, hz, q _ upd_same (Nl.upd h) (fun H0 e n => Ex.mut e n) (fun b o hb e => by unfold At; rw [upd_ne hb]; exact e)⟩
theorem w_sl {r : V → Option Int → Option Int → Hp → VK → Prop} {te : TE} {tl th : TO} (h : te σ H fun x H1 => tl σ H1 fun l H2 => th σ H2 fun u H3 => r x l u H3 Q) : tSl r te tl th σ H Q := h
theorem w_noPart {Q : Option Int → Hp → Prop} (h : Q none H) : tNoPart σ H Q := h
theorem w_part {t : TE} {Q : Option Int → Hp → Prop} (h : t σ H fun x H1 => ∃ i, x = .int i ∧ Q (some i) H1) : tPart t σ H Q := h
theorem w_exI {R : Int → Prop} (h : R i) : ∃ i', V.int i = .int i' ∧ R i' := ⟨i, rfl, h⟩
theorem w_slL {lo hi : Option Int} (h : SqL K H a xs) (q : ∀ p H2, Fr H p → Ex H H2 → At H2 p (.lst (cutV xs lo hi)) → Q (.ref p) H2) : rSlL K (.ref a) lo hi H Q := ⟨a, xs, rfl, h, fun p hp => q p _ hp (Ex.new hp) upd_same⟩
theorem cut_from {xs : List V} (h : 0 ≤ i) : cutV xs (some i) none = xs.drop i.toNat := by
  obtain ⟨k, rfl⟩ := Int.eq_ofNat_of_zero_le h
  unfold cutV
  rw [HT.sIx_nat, HT.sIx_none, Int.toNat_natCast]
  by_cases hk : k ≤ xs.length
  · rw [Nat.min_eq_left hk, List.take_of_length_le]
    rw [List.length_drop]
    exact Nat.le_refl _
  · rw [Nat.min_eq_right (by omega), Nat.sub_self, List.take_zero, List.drop_eq_nil_of_le (by omega)]
theorem cut_to {xs : List V} (h : 0 ≤ i) : cutV xs none (some i) = xs.take i.toNat := by
  obtain ⟨k, rfl⟩ := Int.eq_ofNat_of_zero_le h
  unfold cutV
  rw [HT.sIx_nat, HT.sIx_none, Int.toNat_natCast, List.drop_zero, Nat.sub_zero]
  by_cases hk : k ≤ xs.length
  · rw [Nat.min_eq_left hk]
  · rw [Nat.min_eq_right (by omega), List.take_of_length_le (Nat.le_refl _), List.take_of_length_le (by omega)]
theorem cut_ft {xs : List V} (h : 0 ≤ i) (h2 : 0 ≤ j) : cutV xs (some i) (some j) = (xs.drop i.toNat).take (j.toNat - i.toNat) := by
  obtain ⟨k, rfl⟩ := Int.eq_ofNat_of_zero_le h
  obtain ⟨l, rfl⟩ := Int.eq_ofNat_of_zero_le h2
  unfold cutV
  rw [HT.sIx_nat, HT.sIx_nat, Int.toNat_natCast, Int.toNat_natCast]
  by_cases hk : k ≤ xs.length
  · rw [Nat.min_eq_left hk]
    by_cases hl : l ≤ xs.length
    · rw [Nat.min_eq_left hl]
    · rw [Nat.min_eq_right (by omega), List.take_of_length_le (by rw [List.length_drop]; exact Nat.le_refl _), List.take_of_length_le (by rw [List.length_drop]; omega)]
  · rw [Nat.min_eq_right (by omega : xs.length ≤ k), List.drop_eq_nil_of_le (Nat.le_refl _), List.drop_eq_nil_of_le (by omega), List.take_nil, List.take_nil]
theorem w_slLIf {ns : List Int} (h : SqL K H a (ns.map V.int)) (h0 : 0 ≤ i) (q : ∀ p H2, Fr H p → Ex H H2 → At H2 p (.lst ((ns.drop i.toNat).map V.int)) → Q (.ref p) H2) : rSlL K (.ref a) (some i) none H Q := w_slL h fun p H2 a b c => q p H2 a b (by unfold At at *; rw [c, cut_from h0, List.map_drop])
theorem w_slLIt {ns : List Int} (h : SqL K H a (ns.map V.int)) (h0 : 0 ≤ i) (q : ∀ p H2, Fr H p → Ex H H2 → At H2 p (.lst ((ns.take i.toNat).map V.int)) → Q (.ref p) H2) : rSlL K (.ref a) none (some i) H Q := w_slL h fun p H2 a b c => q p H2 a b (by unfold At at *; rw [c, cut_to h0, List.map_take])
theorem w_slLIft {ns : List Int} (h : SqL K H a (ns.map V.int)) (h0 : 0 ≤ i) (h1 : 0 ≤ j) (q : ∀ p H2, Fr H p → Ex H H2 → At H2 p (.lst (((ns.drop i.toNat).take (j.toNat - i.toNat)).map V.int)) → Q (.ref p) H2) : rSlL K (.ref a) (some i) (some j) H Q := w_slL h fun p H2 a b c => q p H2 a b (by unfold At at *; rw [c, cut_ft h0 h1, List.map_take, List.map_drop])
theorem w_ins {k : Nat} (h : At H a (.lst xs)) (hz : xs.length < sizeLine) (hk : i.toNat = k) (h0 : 0 ≤ i) (h1 : i < 2 ^ 63) (q : ∀ H2, At H2 a (.lst (xs.take k ++ [v] ++ xs.drop k)) → Nl H H2 → (∀ H0, Ex H0 H → Fr H0 a → Ex H0 H2) → (∀ b o, b ≠ a → At H b o → At H2 b o) → Q .non H2) : rIns (.ref a) [.int i, v] H Q :=
  ⟨a, xs, i, v, rfl, rfl, h, hz, h0, h1, q _ (by unfold At; rw [upd_same, hk]) (Nl.upd h) (fun H0 e n => Ex.mut e n) (fun b o hb e => by unfold At; rw [upd_ne hb]; exact e)⟩
theorem w_gT {n : Nat} {t : TGs} {R : L2.St → Hp → Prop} (h : SqT K H a xs) (hn : xs.length = n) (q : t xs σ H R) : gTup K n t (.ref a) σ H R := ⟨a, xs, rfl, h, hn, q⟩
theorem w_gC {g : TG} {u : TGs} {R : L2.St → Hp → Prop} (q : g v σ H fun σ' H' => u xs σ' H' R) : gCons g u (v :: xs) σ H R := ⟨v, xs, rfl, q⟩
theorem w_gN {R : L2.St → Hp → Prop} (q : R σ H) : gNil [] σ H R := ⟨rfl, q⟩
theorem w_yes {Q : Bool → Hp → Prop} (h : Q true H) : tYes σ H Q := h
theorem w_wp {A : Prop} {vs : List Nat} {σ1 σ2 : L2.St} (h : wipe σ1 vs = wipe σ2 vs) (k : A) : wipe σ1 vs = wipe σ2 vs ∧ A := ⟨h, k⟩
theorem w_setL {k : Nat} {R : Hp → Prop} (h : At H a (.lst xs)) (h0 : ixN xs.length i = some k) (q : ∀ H2, At H2 a (.lst (xs.set k v)) → Nl H H2 → (∀ H0, Ex H0 H → Fr H0 a → Ex H0 H2) → (∀ b o, b ≠ a → At H b o → At H2 b o) → R H2) : rSetL (.ref a) (.int i) v H R :=
  ⟨a, xs, i, k, rfl, rfl, h, h0, q _ upd_same (Nl.upd h) (fun H0 e n => Ex.mut e n) (fun b o hb e => by unfold At; rw [upd_ne hb]; exact e)⟩
/-! == of lists and tuples of ints that are the same -/
theorem dpAll_ints : ∀ ns : List Int, DpAll K H (ns.map V.int) (ns.map PyData.int)
  | [] => .nil
  | n :: r => .cons (.int n) (dpAll_ints r)
theorem eqvAll_ints : ∀ ns ms : List Int, PyData.eqvAll (ns.map PyData.int) (ms.map PyData.int) = decide (ns = ms)
  | [], [] => by simp [PyData.eqvAll]
  | [], _ :: _ => by simp [PyData.eqvAll]
  | _ :: _, [] => by simp [PyData.eqvAll]
  | a :: r, b :: t => by
    simp only [List.map_cons, PyData.eqvAll, PyData.eqv, eqvAll_ints r t]
    by_cases h : a = b <;> by_cases h' : r = t <;> simp [h, h']
theorem shaped_tup (ns : List Int) : SeqAt.shaped (.tuple (ns.map PyData.int)) = true := by
  simp [SeqAt.shaped, PyData.canLay0, PyData.depth, PySem.W.ke_canLayAll0, PySem.W.ke_depthAll]
theorem w_eqLI {ns ms : List Int} (h1 : SqL K H a (ns.map V.int)) (h2 : SqL K H b (ms.map V.int)) (q : Q (.bl (decide (ns = ms))) H) : rEqZ K (.ref a) (.ref b) H Q :=
  .inr ⟨_, _, .lst h1 (dpAll_ints ns), .lst h2 (dpAll_ints ms), PySem.W.ke_shaped_ints ns, PySem.W.ke_shaped_ints ms, by simp only [PyData.eqv, eqvAll_ints]; exact q⟩
theorem w_neLI {ns ms : List Int} (h1 : SqL K H a (ns.map V.int)) (h2 : SqL K H b (ms.map V.int)) (q : Q (.bl (!decide (ns = ms))) H) : rNeZ K (.ref a) (.ref b) H Q :=
  .inr ⟨_, _, .lst h1 (dpAll_ints ns), .lst h2 (dpAll_ints ms), PySem.W.ke_shaped_ints ns, PySem.W.ke_shaped_ints ms, by simp only [PyData.eqv, eqvAll_ints]; exact q⟩
theorem w_eqTI {ns ms : List Int} (h1 : SqT K H a (ns.map V.int)) (h2 : SqT K H b (ms.map V.int)) (q : Q (.bl (decide (ns = ms))) H) : rEqZ K (.ref a) (.ref b) H Q :=
  .inr ⟨_, _, .tup h1 (dpAll_ints ns), .tup h2 (dpAll_ints ms), shaped_tup ns, shaped_tup ms, by simp only [PyData.eqv, eqvAll_ints]; exact q⟩
theorem w_neTI {ns ms : List Int} (h1 : SqT K H a (ns.map V.int)) (h2 : SqT K H b (ms.map V.int)) (q : Q (.bl (!decide (ns = ms))) H) : rNeZ K (.ref a) (.ref b) H Q :=
  .inr ⟨_, _, .tup h1 (dpAll_ints ns), .tup h2 (dpAll_ints ms), shaped_tup ns, shaped_tup ms, by simp only [PyData.eqv, eqvAll_ints]; exact q⟩
theorem w_shl {k : Nat} (hk : k ≤ 134217727) (q : Q (.int (2 ^ k)) H) : rShl (.int 1) (.int (k : Int)) H Q := ⟨k, rfl, rfl, hk, q⟩
theorem w_shr {n k : Nat} (q : Q (.int ((n / 2 ^ k : Nat) : Int)) H) : rShr (.int (n : Int)) (.int (k : Int)) H Q := ⟨n, k, rfl, rfl, q⟩
theorem w_odd {n : Nat} (q : Q (.int ((n % 2 : Nat) : Int)) H) : rOdd (.int (n : Int)) (.int 1) H Q := ⟨n, rfl, rfl, q⟩
theorem w_sum {ns : List Int} (h : SqL K H a (ns.map V.int)) (q : Q (.int ns.sum) H) : rSumA K [.ref a] H Q := ⟨a, ns, rfl, .inl h, q⟩
theorem w_sumT {ns : List Int} (h : SqT K H a (ns.map V.int)) (q : Q (.int ns.sum) H) : rSumA K [.ref a] H Q := ⟨a, ns, rfl, .inr h, q⟩
theorem w_max2 (q : Q (.int (max i j)) H) : rMax2 [.int i, .int j] H Q := ⟨i, j, rfl, by
  have e : (if j > i then j else i) = max i j := by split <;> omega
  rw [e]; exact q⟩
theorem w_min2 (q : Q (.int (min i j)) H) : rMin2 [.int i, .int j] H Q := ⟨i, j, rfl, by
  have e : (if j < i then j else i) = min i j := by split <;> omega
  rw [e]; exact q⟩
/-! membership among ints -/
theorem inV_int {ns : List Int} : inV (.int i) (ns.map V.int) = decide (i ∈ ns) := by
  unfold inV
  induction ns with
  | nil => simp
  | cons n r ih =>
    rw [List.map_cons, List.any_cons, ih]
    have e : eqV (.int n) (.int i) = decide (n = i) := by unfold eqV; rfl
    rw [e]
    by_cases h : n = i
    · subst h; simp
    · have h' : ¬ i = n := fun z => h z.symm
      simp [h, h']
theorem flat_ints {ns : List Int} : (ns.map V.int).all flatV = true := by
  rw [List.all_map]
  exact List.all_eq_true.mpr fun _ _ => rfl
theorem w_inT {ns : List Int} (h : SqT K H a (ns.map V.int)) (q : Q (.bl (decide (i ∈ ns))) H) : rIn K false (.int i) (.ref a) H Q := ⟨a, _, rfl, .inr h, rfl, flat_ints, by rw [inV_int]; exact q⟩
theorem w_ninT {ns : List Int} (h : SqT K H a (ns.map V.int)) (q : Q (.bl (!decide (i ∈ ns))) H) : rIn K true (.int i) (.ref a) H Q := ⟨a, _, rfl, .inr h, rfl, flat_ints, by rw [inV_int]; exact q⟩
theorem w_inL {ns : List Int} (h : SqL K H a (ns.map V.int)) (q : Q (.bl (decide (i ∈ ns))) H) : rIn K false (.int i) (.ref a) H Q := ⟨a, _, rfl, .inl h, rfl, flat_ints, by rw [inV_int]; exact q⟩
theorem w_ninL {ns : List Int} (h : SqL K H a (ns.map V.int)) (q : Q (.bl (!decide (i ∈ ns))) H) : rIn K true (.int i) (.ref a) H Q := ⟨a, _, rfl, .inl h, rfl, flat_ints, by rw [inV_int]; exact q⟩
/-- the ints of a list of ints -/
def unI : List V → Option (List Int)
  | [] => some []
  | .int i :: r => match unI r with
    | some l => some (i :: l)
    | none => none
  | _ => none
theorem unI_ok : ∀ {xs : List V} {ns : List Int}, unI xs = some ns → xs = ns.map V.int
  | [], ns, h => by cases h; rfl
  | x :: r, ns, h => by
    cases x <;> simp only [unI, reduceCtorEq] at h
    split at h
    · rename_i l e
      cases h
      rw [unI_ok e]
      rfl
    · cases h
theorem lU {ns : List Int} (h : SqL K H a xs) (e : unI xs = some ns) : SqL K H a (ns.map V.int) := unI_ok e ▸ h
theorem tU {ns : List Int} (h : SqT K H a xs) (e : unI xs = some ns) : SqT K H a (ns.map V.int) := unI_ok e ▸ h
/-! lists of naturals -/
theorem getD_map_cast (os : List Nat) (k : Nat) : (os.map (fun n : Nat => (n : Int))).getD k 0 = ((os.getD k 0 : Nat) : Int) := by
  simp only [List.getD_eq_getElem?_getD, List.getElem?_map]
  cases os[k]? <;> rfl
theorem getD_get {α : Type} (xs : List α) (k : Nat) (d : α) (h : k < xs.length) : xs.getD k d = xs[k] := by
  rw [List.getD_eq_getElem?_getD, List.getElem?_eq_getElem h]; rfl
theorem w_ixTN {os : List Nat} {k : Nat} (h : SqT K H a ((os.map fun n : Nat => (n : Int)).map V.int)) (hk : i.toNat = k) (h0 : 0 ≤ i) (h1 : i < os.length) (q : Q (.int ((os.getD k 0 : Nat) : Int)) H) : rIx K (.ref a) (.int i) H Q :=
  w_ixTI h hk h0 (by rw [List.length_map]; exact h1) (by rw [getD_map_cast]; exact q)
theorem w_ixLN {os : List Nat} {k : Nat} (h : SqL K H a ((os.map fun n : Nat => (n : Int)).map V.int)) (hk : i.toNat = k) (h0 : 0 ≤ i) (h1 : i < os.length) (q : Q (.int ((os.getD k 0 : Nat) : Int)) H) : rIx K (.ref a) (.int i) H Q :=
  w_ixLI h hk h0 (by rw [List.length_map]; exact h1) (by rw [getD_map_cast]; exact q)
theorem get_nat {os : List Nat} {k : Nat} {x : V} (h : ((os.map fun n : Nat => (n : Int)).map V.int)[k]? = some x) : k < os.length ∧ x = .int ((os.getD k 0 : Nat) : Int) := by
  have h1 : k < os.length := by simpa using (List.getElem?_eq_some_iff.mp h).1
  have h2 : x = ((os.map fun n : Nat => (n : Int)).map V.int)[k]'(by simpa using h1) := by
    rw [List.getElem?_eq_getElem (by simpa using h1)] at h; exact (Option.some.inj h).symm
  refine ⟨h1, ?_⟩
  rw [h2, List.getElem_map, List.getElem_map, getD_get _ _ _ h1]
theorem get_int {ns : List Int} {k : Nat} {x : V} (h : (ns.map V.int)[k]? = some x) : k < ns.length ∧ x = .int (ns.getD k 0) := by
  rw [List.getElem?_map] at h
  cases e : ns[k]? with
  | none => rw [e] at h; cases h
  | some y =>
    rw [e] at h
    cases h
    exact ⟨(List.getElem?_eq_some_iff.mp e).1, by rw [List.getD_eq_getElem?_getD, e]; rfl⟩
theorem range_map {α : Type} (es : List Int) (f : Int → α) : (List.range es.length).map (fun i => f (es.getD i 0)) = es.map f := by
  apply List.ext_getElem
  · simp
  · intro i h1 h2
    simp at h1 h2
    simp [h1]
theorem range_filter {α : Type} (es : List Int) (P : Int → Bool) (f : Int → α) : ((List.range es.length).filter fun i => P (es.getD i 0)).map (fun i => f (es.getD i 0)) = (es.filter P).map f := by
  have e : (List.range es.length).map (fun i => es.getD i 0) = es := (range_map es id).trans (List.map_id es)
  conv => rhs; rw [← e]
  rw [List.filter_map, List.map_map]
  rfl
theorem range_id (es : List Int) : (List.range es.length).map (fun i => es.getD i 0) = es := (range_map es id).trans (List.map_id es)
/-! isinstance with a built-in class -/
theorem w_isiB {a b : String} {r : Bool} (ty : TyX K H x (.type a)) (h : kitB a b = some r) (q : Q (.bl r) H) : rIsi K [x, .ty b] H Q := ⟨x, _, _, _, r, rfl, .ty b, ty, kit_ty h, q⟩
theorem w_isiII (q : Q (.bl true) H) : rIsi K [.int i, .ty "int"] H Q := w_isiB (.base (.int _)) (by decide +kernel) q
theorem w_isiIB (q : Q (.bl false) H) : rIsi K [.int i, .ty "bool"] H Q := w_isiB (.base (.int _)) (by decide +kernel) q
theorem w_isiBI {k : Bool} (q : Q (.bl true) H) : rIsi K [.bl k, .ty "int"] H Q := w_isiB (.base (.bl _)) (by decide +kernel) q
theorem w_isiBB {k : Bool} (q : Q (.bl true) H) : rIsi K [.bl k, .ty "bool"] H Q := w_isiB (.base (.bl _)) (by decide +kernel) q
theorem w_isiTT (h : At H a (.tup xs)) (q : Q (.bl true) H) : rIsi K [.ref a, .ty "tuple"] H Q := w_isiB (.base (.tup h)) (by decide +kernel) q
theorem w_isiLL (h : At H a (.lst xs)) (q : Q (.bl true) H) : rIsi K [.ref a, .ty "list"] H Q := w_isiB (.base (.lst h)) (by decide +kernel) q
theorem w_isiSS {z : Str} (q : Q (.bl true) H) : rIsi K [.str z, .ty "str"] H Q := w_isiB (.base (.str _)) (by decide +kernel) q
end
/-! ### loops: what is walked (Src), the loop's goal (FG), a comprehension's (CG) -/
/-- J takes n turns while Φ holds; the i-th thing x stands in the heap behind as Y says -/
structure Src (J : It) (Φ : Hp → Prop) (n : Nat) (Y : Nat → V → Hp → Prop) : Prop where
  go : ∀ i H', Φ H' → i < n → J.go i H'
  stop : ∀ H', Φ H' → J.stop n H'
  yld : ∀ i H' x H'', Φ H' → i < n → J.yld i H' x H'' → Ex H' H'' ∧ Y i x H''
def FG (J : It) (g : TG) (tb : TS) (D : Ends) (σ : L2.St) (H1 : Hp) : Prop := ∃ W : Nat → Nat → L2.St → Hp → Prop, (∃ m, W 0 m σ H1) ∧ ∀ i m σ H, W i m σ H →
  (J.stop i H ∧ D.nx σ H) ∨ (J.go i H ∧ ∃ N : L2.St → Hp → Prop, (∀ σ' H', N σ' H' → ∃ m', m' < m ∧ W (i + 1) m' σ' H') ∧ ∀ x H', J.yld i H x H' → g x σ H' fun σ2 H2 => tb { D with nx := N, ct := N, bk := D.nx } σ2 H2)
def CG (J : It) (g : TG) (tt : TT) (te : TE) (vs : List Nat) (σ : L2.St) (H1 : Hp) (Q : VK) : Prop := ∀ D, H1 D = none → ∃ W : Nat → Nat → Hp → Prop, (∃ m, W 0 m (upd H1 D (.lst []))) ∧ ∀ i m H, W i m H →
  (J.stop i H ∧ Q (.ref D) H) ∨ (J.go i H ∧ ∃ Nx : Hp → Prop, (∀ H', Nx H' → ∃ m', m' < m ∧ W (i + 1) m' H') ∧ ∀ x H', J.yld i H x H' → g x (wipe σ vs) H' fun σ2 H2 => wipe σ2 vs = wipe σ vs ∧ tt σ2 H2 fun b H3 =>
    if b = true then te σ2 H3 fun y H4 => ∃ acc, H4 D = some (.lst acc) ∧ acc.length < sizeLine ∧ Nx (upd H4 D (.lst (acc ++ [y]))) else Nx H3)
section
variable {K : PySem.W.Frag} {σ : L2.St} {H H' : Hp} {Q : VK} {v x y : V} {a b p : Addr} {xs ys : List V} {i j : Int} {J : It} {Φ : Hp → Prop} {n : Nat} {Y : Nat → V → Hp → Prop} {g : TG} {tb : TS} {D : Ends} {R : It → Hp → Prop} {tt : TT} {te : TE} {vs : List Nat} {ta : TA}
def dL (K : PySem.W.Frag) (R : It → Hp → Prop) : VK := fun x H1 => ∃ a, x = .ref a ∧ (∃ xs, SqL K H1 a xs) ∧ R (Itl K a) H1
def dT (K : PySem.W.Frag) (R : It → Hp → Prop) : VK := fun x H1 => ∃ a, x = .ref a ∧ (∃ xs, SqT K H1 a xs) ∧ R (Itt K a) H1
def dR1 (R : It → Hp → Prop) : List V → Hp → Prop := fun vs H1 => ∃ j : Int, vs = [.int j] ∧ -(2 ^ 62) ≤ j ∧ j < 2 ^ 62 ∧ R (Itr 0 j.toNat) H1
def dR2 (R : It → Hp → Prop) : List V → Hp → Prop := fun vs H1 => ∃ i j : Int, vs = [.int i, .int j] ∧ (-(2 ^ 62) ≤ i ∧ i < 2 ^ 62 ∧ -(2 ^ 62) ≤ j ∧ j < 2 ^ 62) ∧ R (Itr i (j - i).toNat) H1
def dE (K : PySem.W.Frag) (R : It → Hp → Prop) : List V → Hp → Prop := fun vs H1 => ∃ a xs, vs = [.ref a] ∧ SqL K H1 a xs ∧ R (Ite K a) H1
theorem w_for {wi : TI} (h : wi σ H fun J H1 => FG J g tb D σ H1) : tFor wi g tb D σ H := h
theorem w_lc {wi : TI} (h : wi σ H fun J H1 => CG J g tt te vs σ H1 Q) : tLc wi g tt te vs σ H Q := h
theorem w_iL (h : te σ H (dL K R)) : iList K te σ H R := h
theorem w_iT (h : te σ H (dT K R)) : iTup K te σ H R := h
theorem w_iR1 (h : ta σ H (dR1 R)) : iRng1 ta σ H R := h
theorem w_iR2 (h : ta σ H (dR2 R)) : iRng2 ta σ H R := h
theorem w_iE (h : ta σ H (dE K R)) : iEnum K ta σ H R := h
theorem i_L (h : SqL K H a xs) (k : ∀ J, Src J (fun H' => SqL K H' a xs) xs.length (fun i x _ => xs[i]? = some x) → R J H) : dL K R (.ref a) H :=
  ⟨a, rfl, ⟨xs, h⟩, k _ ⟨fun i H' hp hi => ⟨xs, xs[i], hp, List.getElem?_eq_getElem hi⟩, fun H' hp => ⟨xs, hp, Nat.le_refl _⟩, fun i H' x H'' hp hi hy => by
    obtain ⟨e, f⟩ := hy
    exact ⟨by rw [e]; exact Ex.refl _, f xs hp⟩⟩⟩
theorem i_T (h : SqT K H a xs) (k : ∀ J, Src J (fun H' => SqT K H' a xs) xs.length (fun i x _ => xs[i]? = some x) → R J H) : dT K R (.ref a) H :=
  ⟨a, rfl, ⟨xs, h⟩, k _ ⟨fun i H' hp hi => ⟨xs, xs[i], hp, List.getElem?_eq_getElem hi⟩, fun H' hp => ⟨xs, hp, Nat.le_refl _⟩, fun i H' x H'' hp hi hy => by
    obtain ⟨e, f⟩ := hy
    exact ⟨by rw [e]; exact Ex.refl _, f xs hp⟩⟩⟩
theorem i_R1 (h1 : -(2 ^ 62) ≤ i) (h2 : i < 2 ^ 62) (k : ∀ J, Src J (fun _ => True) i.toNat (fun k x _ => x = .int (k : Nat)) → R J H) : dR1 R [.int i] H :=
  ⟨i, rfl, h1, h2, k _ ⟨fun i H' _ hi => hi, fun H' _ => Nat.le_refl _, fun i H' x H'' _ hi hy => by
    obtain ⟨e, f⟩ := hy
    exact ⟨by rw [e]; exact Ex.refl _, by rw [f, Int.zero_add]⟩⟩⟩
theorem i_R2 (h1 : -(2 ^ 62) ≤ i ∧ i < 2 ^ 62 ∧ -(2 ^ 62) ≤ j ∧ j < 2 ^ 62) (k : ∀ J, Src J (fun _ => True) (j - i).toNat (fun k x _ => x = .int (i + (k : Nat))) → R J H) : dR2 R [.int i, .int j] H :=
  ⟨i, j, rfl, h1, k _ ⟨fun i H' _ hi => hi, fun H' _ => Nat.le_refl _, fun i H' x H'' _ hi hy => by
    obtain ⟨e, f⟩ := hy
    exact ⟨by rw [e]; exact Ex.refl _, f⟩⟩⟩
theorem i_E (h : SqL K H a xs) (k : ∀ J, Src J (fun H' => SqL K H' a xs) xs.length (fun i x H'' => ∃ T y, x = .ref T ∧ At H'' T (.tup [.int (i : Nat), y]) ∧ xs[i]? = some y) → R J H) : dE K R [.ref a] H :=
  ⟨a, xs, rfl, h, k _ ⟨fun i H' hp hi => ⟨xs, xs[i], hp, List.getElem?_eq_getElem hi⟩, fun H' hp => ⟨xs, hp, Nat.le_refl _⟩, fun i H' x H'' hp hi hy => by
    obtain ⟨T, y, e1, e2, e3, f⟩ := hy
    exact ⟨by rw [e3]; exact Ex.new e2, T, y, e1, by rw [e3]; exact upd_same, f xs hp⟩⟩⟩
/-- a for loop by its invariant -/
theorem fg (S : Src J Φ n Y) (Pv : Nat → L2.St → Hp → Prop) (h0 : Pv 0 σ H) (hx : ∀ i σ' H', i ≤ n → Pv i σ' H' → Φ H')
    (hs : ∀ i x σ' H' H'', i < n → Pv i σ' H' → Ex H' H'' → Y i x H'' → g x σ' H'' fun σ2 H2 => tb ⟨Pv (i + 1), D.rt, D.nx, Pv (i + 1)⟩ σ2 H2) (hd : ∀ σ' H', Pv n σ' H' → D.nx σ' H') : FG J g tb D σ H := by
  refine ⟨fun i m σ H => m = n - i ∧ i ≤ n ∧ Pv i σ H, ⟨n, by simp, Nat.zero_le _, h0⟩, ?_⟩
  rintro i m σ H ⟨rfl, hi, p⟩
  have hp := hx i σ H hi p
  by_cases hlt : i < n
  · refine Or.inr ⟨S.go i H hp hlt, Pv (i + 1), fun σ' H' q => ⟨n - (i + 1), by omega, rfl, hlt, q⟩, fun x H' hy => ?_⟩
    obtain ⟨e, y⟩ := S.yld i H x H' hp hlt hy
    exact hs i x σ H H' hlt p e y
  · have e : i = n := by omega
    subst e
    exact Or.inl ⟨S.stop H hp, hd σ H p⟩
/-- a for loop that stores nothing but its own name (slot j) and changes nothing that stood -/
def EndE (H : Hp) (σ : L2.St) (j : Nat) : L2.St → Hp → Prop := fun σ' G' => (∃ v, σ' = σ.set j v) ∧ Ex H G'
theorem fgE (j : Nat) {v0 : Option V} (S : Src J Φ n Y) (hj : σ[j]? = some v0) (hx : ∀ G, Ex H G → Φ G) (hs : ∀ i x G v, i < n → Ex H G → Y i x G → g x (σ.set j v) G fun σ2 H2 => tb ⟨EndE H σ j, D.rt, D.nx, EndE H σ j⟩ σ2 H2) (hd : ∀ v G, Ex H G → D.nx (σ.set j v) G) : FG J g tb D σ H := by
  refine fg S (fun _ σ' G => EndE H σ j σ' G) ⟨⟨v0, ?_⟩, Ex.refl H⟩ (fun i σ' G _ z => hx G z.2) ?_ ?_
  · obtain ⟨h1, h2⟩ := List.getElem?_eq_some_iff.mp hj
    rw [← h2, List.set_getElem_self]
  · rintro i x σ' G G2 hi ⟨⟨v, rfl⟩, e⟩ e2 y
    exact hs i x G2 v hi (e.trans e2) y
  · rintro σ' G ⟨⟨v, rfl⟩, e⟩
    exact hd v G e
/-- a comprehension's list at Dl, between two turns -/
structure CD (H : Hp) (Dl : Addr) (acc : List V) (H' : Hp) : Prop where
  new : Fr H Dl
  ex : Ex H H'
  at_ : At H' Dl (.lst acc)
theorem CD.up {H H' H'' : Hp} {Dl : Addr} {acc : List V} (c : CD H Dl acc H') (e : Ex H' H'') : CD H Dl acc H'' := ⟨c.new, c.ex.trans e, e.get c.at_⟩
/-- behind a turn's element -/
def ElE (H : Hp) (Dl : Addr) (acc : List V) : VK := fun y H4 => ∃ acc', At H4 Dl (.lst acc') ∧ acc'.length < sizeLine ∧ CD H Dl acc (upd H4 Dl (.lst (acc' ++ [y])))
theorem ele {H H' H4 : Hp} {Dl : Addr} {acc : List V} {y : V} (c : CD H Dl acc H') (hz : acc.length < sizeLine) (e : Ex H' H4) : ElE H Dl (acc ++ [y]) y H4 :=
  ⟨acc, e.get c.at_, hz, c.new, Ex.mut (c.ex.trans e) c.new, upd_same⟩
/-- a comprehension without a test; the elements are values that hang on no object -/
theorem cgF (S : Src J Φ n Y) (f : Nat → V) (hx : ∀ H', Ex H H' → Φ H') (hz : n ≤ sizeLine)
    (hs : ∀ Dl i x H', i < n → Ex H H' → CD H Dl ((List.range i).map f) H' → Y i x H' → g x (wipe σ vs) H' fun σ2 H2 => wipe σ2 vs = wipe σ vs ∧ tt σ2 H2 fun b H3 => if b = true then te σ2 H3 (ElE H Dl ((List.range i).map f ++ [f i])) else False)
    (q : ∀ p H2, Fr H p → Ex H H2 → At H2 p (.lst ((List.range n).map f)) → Q (.ref p) H2) (htt : tt = tYes) : CG J g tt te vs σ H Q := by
  subst htt
  have er : ∀ i, (List.range i).map f ++ [f i] = (List.range (i + 1)).map f := fun i => by rw [List.range_succ, List.map_append]; rfl
  intro Dl hD
  refine ⟨fun i m H' => m = n - i ∧ i ≤ n ∧ CD H Dl ((List.range i).map f) H', ⟨n, by simp, Nat.zero_le _, hD, Ex.new hD, upd_same⟩, ?_⟩
  rintro i m H1 ⟨rfl, hi, c⟩
  have hp := hx H1 c.ex
  by_cases hlt : i < n
  · refine Or.inr ⟨S.go i H1 hp hlt, fun H' => CD H Dl ((List.range i).map f ++ [f i]) H', fun H' q => ⟨n - (i + 1), by omega, rfl, hlt, er i ▸ q⟩, fun x H' hy => ?_⟩
    obtain ⟨e', y⟩ := S.yld i H1 x H' hp hlt hy
    exact hs Dl i x H' hlt (c.ex.trans e') ⟨c.new, c.ex.trans e', e'.get c.at_⟩ y
  · have e2 : i = n := by omega
    subst e2
    exact Or.inl ⟨S.stop H1 hp, q Dl H1 hD c.ex c.at_⟩
/-- .. ints -/
theorem cgI (S : Src J Φ n Y) (f : Nat → Int) (hx : ∀ H', Ex H H' → Φ H') (hz : n ≤ sizeLine)
    (hs : ∀ Dl i x H', i < n → Ex H H' → CD H Dl ((List.range i).map fun k => V.int (f k)) H' → Y i x H' → g x (wipe σ vs) H' fun σ2 H2 => wipe σ2 vs = wipe σ vs ∧ tt σ2 H2 fun b H3 => if b = true then te σ2 H3 (ElE H Dl ((List.range i).map (fun k => V.int (f k)) ++ [V.int (f i)])) else False)
    (q : ∀ p H2, Fr H p → Ex H H2 → At H2 p (.lst (((List.range n).map f).map V.int)) → Q (.ref p) H2) (htt : tt = tYes) : CG J g tt te vs σ H Q :=
  cgF S (fun k => V.int (f k)) hx hz hs (fun p H2 hn he hp => q p H2 hn he (hp.l (by rw [List.map_map]; rfl))) htt
/-- .. one int again and again -/
theorem cgK {c : Int} (S : Src J Φ n Y) (hx : ∀ H', Ex H H' → Φ H') (hz : n ≤ sizeLine)
    (hs : ∀ Dl i x H' acc, i < n → Ex H H' → CD H Dl acc H' → acc.length < sizeLine → Y i x H' → g x (wipe σ vs) H' fun σ2 H2 => wipe σ2 vs = wipe σ vs ∧ tt σ2 H2 fun b H3 => if b = true then te σ2 H3 (ElE H Dl (acc ++ [V.int c])) else False)
    (q : ∀ p H2, Fr H p → Ex H H2 → At H2 p (.lst ((List.replicate n c).map V.int)) → Q (.ref p) H2) (htt : tt = tYes) : CG J g tt te vs σ H Q :=
  cgF S (fun _ => V.int c) hx hz (fun Dl i x H' hi ec cd y => hs Dl i x H' _ hi ec cd (by rw [List.length_map, List.length_range]; omega) y) (fun p H2 hn he hp => q p H2 hn he (hp.l (by
    apply List.ext_getElem
    · simp
    · intro i h1 h2; simp))) htt
/-- a comprehension with a test: which turns give an element (p), and which (f) -/
theorem cgP (S : Src J Φ n Y) (p : Nat → Bool) (f : Nat → V) (hx : ∀ H', Ex H H' → Φ H') (hz : n ≤ sizeLine)
    (hs : ∀ Dl i x H', i < n → Ex H H' → CD H Dl (((List.range i).filter p).map f) H' → (((List.range i).filter p).map f).length < sizeLine → Y i x H' → g x (wipe σ vs) H' fun σ2 H2 => wipe σ2 vs = wipe σ vs ∧ tt σ2 H2 fun b H3 => if b = true then te σ2 H3 (ElE H Dl (((List.range (i + 1)).filter p).map f)) else CD H Dl (((List.range (i + 1)).filter p).map f) H3)
    (q : ∀ p' H2, Fr H p' → Ex H H2 → At H2 p' (.lst (((List.range n).filter p).map f)) → Q (.ref p') H2) : CG J g tt te vs σ H Q := by
  intro Dl hD
  refine ⟨fun i m H' => m = n - i ∧ i ≤ n ∧ CD H Dl (((List.range i).filter p).map f) H', ⟨n, by simp, Nat.zero_le _, hD, Ex.new hD, upd_same⟩, ?_⟩
  rintro i m H1 ⟨rfl, hi, c⟩
  have hp := hx H1 c.ex
  by_cases hlt : i < n
  · refine Or.inr ⟨S.go i H1 hp hlt, fun H' => CD H Dl (((List.range (i + 1)).filter p).map f) H', fun H' q => ⟨n - (i + 1), by omega, rfl, hlt, q⟩, fun x H' hy => ?_⟩
    obtain ⟨e', y⟩ := S.yld i H1 x H' hp hlt hy
    refine hs Dl i x H' hlt (c.ex.trans e') ⟨c.new, c.ex.trans e', e'.get c.at_⟩ ?_ y
    rw [List.length_map]
    exact Nat.lt_of_le_of_lt (List.length_filter_le _ _) (by rw [List.length_range]; omega)
  · have e2 : i = n := by omega
    subst e2
    exact Or.inl ⟨S.stop H1 hp, q Dl H1 hD c.ex c.at_⟩
theorem fr_T {α : Type} {p : Nat → Bool} {f : Nat → α} {i : Nat} (h : p i = true) : ((List.range (i + 1)).filter p).map f = ((List.range i).filter p).map f ++ [f i] := by
  rw [List.range_succ, List.filter_append, List.map_append]
  simp [h]
theorem fr_F {α : Type} {p : Nat → Bool} {f : Nat → α} {i : Nat} (h : p i = false) : ((List.range (i + 1)).filter p).map f = ((List.range i).filter p).map f := by
  rw [List.range_succ, List.filter_append, List.map_append]
  simp [h]
/-- a comprehension without a test by an invariant of what it has made -/
def ElX (H : Hp) (Dl : Addr) (i : Nat) (Pv : Nat → List V → Hp → Prop) : VK := fun y H4 => ∃ acc, At H4 Dl (.lst acc) ∧ acc.length < sizeLine ∧ ∃ acc', CD H Dl acc' (upd H4 Dl (.lst (acc ++ [y]))) ∧ acc'.length = i + 1 ∧ Pv (i + 1) acc' (upd H4 Dl (.lst (acc ++ [y])))
theorem elx {H H' H4 : Hp} {Dl : Addr} {acc : List V} {y : V} {i : Nat} {Pv : Nat → List V → Hp → Prop} (c : CD H Dl acc H') (hl : acc.length = i) (hz : acc.length < sizeLine) (e : Ex H' H4) (hp : ∀ H5, Nl H4 H5 → Pv (i + 1) (acc ++ [y]) H5) : ElX H Dl i Pv y H4 :=
  ⟨acc, e.get c.at_, hz, acc ++ [y], ⟨c.new, Ex.mut (c.ex.trans e) c.new, upd_same⟩, by simp [hl], hp _ (Nl.upd (e.get c.at_))⟩
theorem cgX (S : Src J Φ n Y) (Pv : Nat → List V → Hp → Prop) (h0 : ∀ H', Ex H H' → Pv 0 [] H') (st : ∀ i acc H1 H2, Pv i acc H1 → Ex H1 H2 → Pv i acc H2) (hx : ∀ H', Ex H H' → Φ H') (hz : n ≤ sizeLine)
    (hs : ∀ Dl i x H' acc, i < n → Ex H H' → CD H Dl acc H' → acc.length = i → Pv i acc H' → Y i x H' → g x (wipe σ vs) H' fun σ2 H2 => wipe σ2 vs = wipe σ vs ∧ tt σ2 H2 fun b H3 => if b = true then te σ2 H3 (ElX H Dl i Pv) else ∃ acc', CD H Dl acc' H3 ∧ acc'.length = i + 1 ∧ Pv (i + 1) acc' H3)
    (q : ∀ p H2 acc, Fr H p → Ex H H2 → At H2 p (.lst acc) → acc.length = n → Pv n acc H2 → Q (.ref p) H2) (htt : tt = tYes) : CG J g tt te vs σ H Q := by
  subst htt
  intro Dl hD
  refine ⟨fun i m H' => m = n - i ∧ i ≤ n ∧ ∃ acc, CD H Dl acc H' ∧ acc.length = i ∧ Pv i acc H', ⟨n, by simp, Nat.zero_le _, [], ⟨hD, Ex.new hD, upd_same⟩, rfl, h0 _ (Ex.new hD)⟩, ?_⟩
  rintro i m H1 ⟨rfl, hi, acc, c, hl, hP⟩
  have hp := hx H1 c.ex
  by_cases hlt : i < n
  · refine Or.inr ⟨S.go i H1 hp hlt, fun H' => ∃ acc, CD H Dl acc H' ∧ acc.length = i + 1 ∧ Pv (i + 1) acc H', fun H' q => ⟨n - (i + 1), by omega, rfl, hlt, q⟩, fun x H' hy => ?_⟩
    obtain ⟨e', y⟩ := S.yld i H1 x H' hp hlt hy
    exact hs Dl i x H' acc hlt (c.ex.trans e') ⟨c.new, c.ex.trans e', e'.get c.at_⟩ hl (st _ _ _ _ hP e') y
  · have e2 : i = n := by omega
    subst e2
    exact Or.inl ⟨S.stop H1 hp, q Dl H1 acc hD c.ex c.at_ hl hP⟩
/-- a while by an invariant that tells a falling number -/
def WB (W : Nat → L2.St → Hp → Prop) (t : TS) (D : Ends) (m : Nat) (σ' : L2.St) : Bool → Hp → Prop := fun b H1 => if b = true then ∃ N : L2.St → Hp → Prop, (∀ σ' H', N σ' H' → ∃ m', m' < m ∧ W m' σ' H') ∧ t { D with nx := N, ct := N, bk := D.nx } σ' H1 else D.nx σ' H1
theorem w_while {c : TT} {t : TS} (W : Nat → L2.St → Hp → Prop) (m0 : Nat) (h0 : W m0 σ H) (hs : ∀ m σ' H', W m σ' H' → c σ' H' (WB W t D m σ')) : tWhile c t D σ H := ⟨W, ⟨m0, h0⟩, hs⟩
section
variable {W : Nat → L2.St → Hp → Prop} {t : TS} {m : Nat}
theorem wb_T (h : t ⟨fun σ2 H2 => ∃ m', m' < m ∧ W m' σ2 H2, D.rt, D.nx, fun σ2 H2 => ∃ m', m' < m ∧ W m' σ2 H2⟩ σ H) : WB W t D m σ true H := ⟨_, fun _ _ h => h, h⟩
theorem wb_F (h : D.nx σ H) : WB W t D m σ false H := h
theorem wb_dec {p : Prop} [Decidable p] (h1 : p → t ⟨fun σ2 H2 => ∃ m', m' < m ∧ W m' σ2 H2, D.rt, D.nx, fun σ2 H2 => ∃ m', m' < m ∧ W m' σ2 H2⟩ σ H) (h2 : ¬ p → D.nx σ H) : WB W t D m σ (decide p) H := by
  by_cases h : p
  · rw [decide_eq_true h]; exact wb_T (h1 h)
  · rw [decide_eq_false h]; exact wb_F (h2 h)
end
end
end Z
namespace Z
open PySem L2
/-! ### own classes: what the top says of one, as one truth value -/
structure OwnC (K : PySem.W.Frag) (C : Addr) : Prop where
  cl : Cls K C
  sf : PySem.W.selfFirst K C = true
  ca : PySem.W.findIn K (.ref C) "__class__" = some (some (.builtin "object.__class__"))
  cn : PySem.W.specialIn K (.builtin "object.__class__") "__get__" = some (some (.builtin "getset_descriptor.__get__"))
  ct : PySem.W.takesIn K (.builtin "object.__class__") = some true
  cm : PySem.W.mroIn K C (.type "object") = some true
  ni : PySem.W.subIn K (.type "int") (.ref C) = some false
  ni' : PySem.W.subIn K (.ref C) (.type "int") = some false
  kCI : PySem.W.kitOne K (.ref C) (.type "int") = some false
  kIC : PySem.W.kitOne K (.type "int") (.ref C) = some false
  kCC : PySem.W.kitOne K (.ref C) (.ref C) = some true
def ownB (K : PySem.W.Frag) (x : Str) : Bool := (He.Fa.cls x).ok K && (PySem.W.selfFirst K (He.ga K x) && (decide (PySem.W.findIn K (.ref (He.ga K x)) "__class__" = some (some (.builtin "object.__class__"))) &&
  (decide (PySem.W.specialIn K (.builtin "object.__class__") "__get__" = some (some (.builtin "getset_descriptor.__get__"))) && (decide (PySem.W.takesIn K (.builtin "object.__class__") = some true) && (decide (PySem.W.mroIn K (He.ga K x) (.type "object") = some true) &&
  (decide (PySem.W.subIn K (.type "int") (.ref (He.ga K x)) = some false) && (decide (PySem.W.subIn K (.ref (He.ga K x)) (.type "int") = some false) && (decide (PySem.W.kitOne K (.ref (He.ga K x)) (.type "int") = some false) &&
  (decide (PySem.W.kitOne K (.type "int") (.ref (He.ga K x)) = some false) && decide (PySem.W.kitOne K (.ref (He.ga K x)) (.ref (He.ga K x)) = some true))))))))))
theorem ownB_ok {K : PySem.W.Frag} {x : Str} (h : ownB K x = true) : OwnC K (He.ga K x) := by
  obtain ⟨h1, h⟩ := He.ba h
  obtain ⟨h2, h⟩ := He.ba h
  obtain ⟨h3, h⟩ := He.ba h
  obtain ⟨h4, h⟩ := He.ba h
  obtain ⟨h5, h⟩ := He.ba h
  obtain ⟨h6, h⟩ := He.ba h
  obtain ⟨h7, h⟩ := He.ba h
  obtain ⟨h8, h⟩ := He.ba h
  obtain ⟨h9, h⟩ := He.ba h
  obtain ⟨h10, h11⟩ := He.ba h
  exact ⟨He.cls_ok h1, h2, of_decide_eq_true h3, of_decide_eq_true h4, of_decide_eq_true h5, of_decide_eq_true h6, of_decide_eq_true h7, of_decide_eq_true h8, of_decide_eq_true h9, of_decide_eq_true h10, of_decide_eq_true h11⟩
/-! ### own operators -/
section
variable {X : Cx} {CX : CXT} {n : Nat} {C g : Addr} {sp : Sp} {E : XK}
theorem inst_of {pins : List (Addr × Obj)} {σ : L2.St} {H : Hp} {s : Shared} {a dx : Addr} {fs : List (Str × V)} (I : Inv X pins σ H s) (h : At H a (.ins C dx fs)) : ∃ od, PySem.W.InstAt s.heap a (PySem.W.instObj C dx) C (some od) := by
  obtain ⟨mA, O, _⟩ := ins_get I.hok h
  obtain ⟨od, J, _⟩ := O.look
  exact ⟨od, J⟩
/-- int has both slots of an operator, or it is known that it lacks one -/
def IntHas (nm : String) : Prop := ∀ K : PySem.W.Frag, (∃ fo, PySem.W.findIn K (.type "int") (PySem.dunder nm) = some fo) ∧ ∃ ro, PySem.W.findIn K (.type "int") (dunderR nm) = some ro
theorem has_add : IntHas "add" := fun _ => ⟨⟨some (.builtin "int.__add__"), by kernel_rfl⟩, some (.builtin "int.__radd__"), by kernel_rfl⟩
theorem has_sub : IntHas "sub" := fun _ => ⟨⟨some (.builtin "int.__sub__"), by kernel_rfl⟩, some (.builtin "int.__rsub__"), by kernel_rfl⟩
theorem has_mul : IntHas "mul" := fun _ => ⟨⟨some (.builtin "int.__mul__"), by kernel_rfl⟩, some (.builtin "int.__rmul__"), by kernel_rfl⟩
theorem has_floordiv : IntHas "floordiv" := fun _ => ⟨⟨some (.builtin "int.__floordiv__"), by kernel_rfl⟩, some (.builtin "int.__rfloordiv__"), by kernel_rfl⟩
theorem has_mod : IntHas "mod" := fun _ => ⟨⟨some (.builtin "int.__mod__"), by kernel_rfl⟩, some (.builtin "int.__rmod__"), by kernel_rfl⟩
/-- a op b, both of the class at C -/
def rOO (C : Addr) (sp : Sp) (E : XK) : R2 := fun x y H Q => ∃ a dx fs b dy gs, x = .ref a ∧ y = .ref b ∧ At H a (.ins C dx fs) ∧ At H b (.ins C dy gs) ∧ sp [x, y] H Q E
/-- a op i, a of the class at C, i an int -/
def rOI (C : Addr) (sp : Sp) (E : XK) : R2 := fun x y H Q => ∃ a dx fs i, x = .ref a ∧ y = .int i ∧ At H a (.ins C dx fs) ∧ sp [x, y] H Q E
theorem op_OO {op : Operator} (O : OwnC X.K C) (hs : PySem.W.findIn X.K (.ref C) (PySem.dunder op.info.2) = some (some (.ref g))) (hf : PySem.W.isFn X.K (.ref g) = true) (F : FnR X.prog X.w X.K X.mg X.base CX n g sp) (hr : Room n X.A) (hx : Passes CX X E) :
    OpR X (binaryOp op) (rOO C sp E) := by
  intro pins s σ H x y v u Q I rx ry h
  obtain ⟨a, dx, fs, b, dy, gs, rfl, rfl, ha, hb, q⟩ := h
  cases (show v = Value.ref a from rx)
  cases (show u = Value.ref b from ry)
  obtain ⟨od, J⟩ := inst_of I ha
  obtain ⟨od', J'⟩ := inst_of I hb
  obtain ⟨m, hF⟩ := I.fr
  refine PySem.W.binop_K hF I.ok.mod.kin J J'.type O.sf hs hf (wpAny_mono (wpAny_call (run_fnR (us := [.ref a, .ref b]) (vs := [.ref a, .ref b]) F hr hx I (.cons rfl (.cons rfl .nil)) q)) (fun w s' z => ?_) fun _ _ x => x)
  obtain ⟨z', H', I', rz, qz⟩ := z
  exact SlX.cmpback rz ⟨z', H', I', rz, qz⟩
theorem op_OI {op : Operator} {rc : Option Value} (O : OwnC X.K C) (hs : PySem.W.findIn X.K (.ref C) (PySem.dunder op.info.2) = some (some (.ref g))) (hf : PySem.W.isFn X.K (.ref g) = true)
    (hr' : PySem.W.findIn X.K (.ref C) (dunderR op.info.2) = some rc) (hp : rc = none ∨ ∃ g : Addr, rc = some (.ref g)) (h12 : IntHas op.info.2)
    (F : FnR X.prog X.w X.K X.mg X.base CX n g sp) (hr : Room n X.A) (hx : Passes CX X E) : OpR X (binaryOp op) (rOI C sp E) := by
  intro pins s σ H x y v u Q I rx ry h
  obtain ⟨a, dx, fs, i, rfl, rfl, ha, q⟩ := h
  cases (show v = Value.ref a from rx)
  obtain ⟨t, rfl⟩ := (show ∃ t, u = Value.int i t from ry)
  obtain ⟨od, J⟩ := inst_of I ha
  obtain ⟨m, hF⟩ := I.fr
  refine PySem.W.ksp_binT (T := "int") hF I.ok.mod.kin J rfl O.sf hs hf hr' hp (h12 X.K).1.choose_spec (h12 X.K).2.choose_spec O.ni (wpAny_mono (wpAny_call (run_fnR (us := [.ref a, .int i t]) (vs := [.ref a, .int i]) F hr hx I (.cons rfl (.cons ⟨t, rfl⟩ .nil)) q)) (fun w s' z => ?_) fun _ _ x => x)
  obtain ⟨z', H', I', rz, qz⟩ := z
  exact SlX.cmpback rz ⟨z', H', I', rz, qz⟩
/-- -a -/
def rUO (C : Addr) (sp : Sp) (E : XK) : V → Hp → VK → Prop := fun x H Q => ∃ a dx fs, x = .ref a ∧ At H a (.ins C dx fs) ∧ sp [x] H Q E
theorem un_O (hs : PySem.W.findIn X.K (.ref C) "__neg__" = some (some (.ref g))) (hf : PySem.W.isFn X.K (.ref g) = true) (F : FnR X.prog X.w X.K X.mg X.base CX n g sp) (hr : Room n X.A) (hx : Passes CX X E) : UnR X (unaryOp .USub) (rUO C sp E) := by
  intro pins s σ H x v Q I rx h
  obtain ⟨a, dx, fs, rfl, ha, q⟩ := h
  cases (show v = Value.ref a from rx)
  obtain ⟨od, J⟩ := inst_of I ha
  obtain ⟨m, hF⟩ := I.fr
  exact PySem.W.ksp_neg hF I.ok.mod.kin J hs hf (wpAny_call (run_fnR (us := [.ref a]) (vs := [.ref a]) F hr hx I (.cons rfl .nil) q))
/-- a op b by an own comparison, b of the same class or an int -/
theorem cmp_OO {op : CmpOp} (hop : ∀ a b, compareOp op a b = richCompare op a b) (O : OwnC X.K C) (hs : PySem.W.findIn X.K (.ref C) (cmpInfo op).2.1 = some (some (.ref g))) (hf : PySem.W.isFn X.K (.ref g) = true) (F : FnR X.prog X.w X.K X.mg X.base CX n g sp) (hr : Room n X.A) (hx : Passes CX X E) :
    OpR X (compareOp op) (rOO C sp E) := by
  intro pins s σ H x y v u Q I rx ry h
  obtain ⟨a, dx, fs, b, dy, gs, rfl, rfl, ha, hb, q⟩ := h
  cases (show v = Value.ref a from rx)
  cases (show u = Value.ref b from ry)
  obtain ⟨od, J⟩ := inst_of I ha
  obtain ⟨od', J'⟩ := inst_of I hb
  obtain ⟨m, hF⟩ := I.fr
  rw [hop]
  refine PySem.W.cmp_K (op := op) (tb := .ref C) hr.units0 hF I.ok.mod.kin J J'.type (by simp [PySem.W.notFirst]) hs hf (wpAny_mono (wpAny_call (run_fnR (us := [.ref a, .ref b]) (vs := [.ref a, .ref b]) F hr hx I (.cons rfl (.cons rfl .nil)) q)) (fun w s' z => ?_) fun _ _ x => x)
  obtain ⟨z', H', I', rz, qz⟩ := z
  exact SlX.cmpback rz ⟨z', H', I', rz, qz⟩
theorem cmp_OI {op : CmpOp} (hop : ∀ a b, compareOp op a b = richCompare op a b) (O : OwnC X.K C) (hs : PySem.W.findIn X.K (.ref C) (cmpInfo op).2.1 = some (some (.ref g))) (hf : PySem.W.isFn X.K (.ref g) = true) (F : FnR X.prog X.w X.K X.mg X.base CX n g sp) (hr : Room n X.A) (hx : Passes CX X E) :
    OpR X (compareOp op) (rOI C sp E) := by
  intro pins s σ H x y v u Q I rx ry h
  obtain ⟨a, dx, fs, i, rfl, rfl, ha, q⟩ := h
  cases (show v = Value.ref a from rx)
  obtain ⟨t, rfl⟩ := (show ∃ t, u = Value.int i t from ry)
  obtain ⟨od, J⟩ := inst_of I ha
  obtain ⟨m, hF⟩ := I.fr
  rw [hop]
  refine PySem.W.cmp_K (op := op) (tb := .type "int") hr.units0 hF I.ok.mod.kin J (PySem.W.Looks.of_pure rfl) (by simp [PySem.W.notFirst, O.ni]) hs hf (wpAny_mono (wpAny_call (run_fnR (us := [.ref a, .int i t]) (vs := [.ref a, .int i]) F hr hx I (.cons rfl (.cons ⟨t, rfl⟩ .nil)) q)) (fun w s' z => ?_) fun _ _ x => x)
  obtain ⟨z', H', I', rz, qz⟩ := z
  exact SlX.cmpback rz ⟨z', H', I', rz, qz⟩
/-! an int on the left: its own slot hands back NotImplemented -/
theorem asInt_ref {M : Model} {A : Around} {E : Value → Shared → Prop} {s : Shared} {x dx C : Addr} {Q : Option Int → Shared → Prop} (ho : s.heap.get? x = some (PySem.W.instObj C dx)) (h : Q none s) : wpAny M A (asInt? (.ref x)) Q E s := by
  unfold asInt?
  exact wpAny_bind (wpAny_load ho (wpAny_pure h))
theorem intBinary_ni {M : Model} {A : Around} {E : Value → Shared → Prop} {s : Shared} {x dx C : Addr} {nm : String} {f : Int → Int → Sem Fin} {i : Int} {t : Tok} {Q : Fin → Shared → Prop} (ho : s.heap.get? x = some (PySem.W.instObj C dx))
    (h : Q (.done (.ret .notImplemented)) s) : wpAny M A (Builtin.Int.intBinary nm f false ⟨[.int i t, .ref x], []⟩) Q E s := by
  unfold Builtin.Int.intBinary
  refine wpAny_bind (wpAny_of_eq (a := ((Value.int i t : Value), [Value.ref x])) (by first | rfl | (simp only [slotArgs]; rfl)) ?_)
  refine wpAny_bind (wpAny_of_eq (a := i) (by first | rfl | (simp only [Builtin.intOfSelf]; rfl)) ?_)
  refine wpAny_bind (asInt_ref ho ?_)
  exact wpAny_bind (wpAny_rule (wpAny_pure h))
theorem int_ni {prog : Program} {w : World} {A : Around} {E : Value → Shared → Prop} {s : Shared} {x dx C : Addr} {id : String} {name : Str} {B : Builtin} {i : Int} {t : Tok} {Q : Value → Shared → Prop} (slot : Slot "int" name id) (entry : entryFor table id = some B)
    (args : argsOk id ⟨[.int i t, .ref x], []⟩) (hB : ∃ nm f, B = Builtin.Int.intBinary nm f false) (ho : s.heap.get? x = some (PySem.W.instObj C dx)) (h : Q .notImplemented s) : wpAny (model prog w) A (call (.builtin id) [.int i t, .ref x]) Q E s := by
  obtain ⟨nm, f, rfl⟩ := hB
  exact call_meets (S := fun _ R s' => s' = s ∧ R (.ok (.ret .notImplemented)) s) slot (typeIs_int s i t) entry args (fun prog w A R s' hs => by
    obtain ⟨rfl, hs⟩ := hs
    exact intBinary_ni ho hs) ⟨rfl, h⟩
theorem bin_IO {prog : Program} {w : World} {A : Around} {E : Value → Shared → Prop} {s : Shared} {K : PySem.W.Frag} {x dx C f f' : Addr} {od : Option Obj} {op : Operator} {id : String} {B : Builtin} {i : Int} {t : Tok} {Q : Value → Shared → Prop}
    (X : K.In s.heap) (I : PySem.W.InstAt s.heap x (PySem.W.instObj C dx) C od) (hc : PySem.W.selfFirst K C = true) (fills : fillsNumberSlot (.type "int") op.info.2 = pure true) (slot : Slot "int" (PySem.dunder op.info.2) id) (entry : entryFor table id = some B)
    (args : argsOk id ⟨[.int i t, .ref x], []⟩) (hB : ∃ nm f, B = Builtin.Int.intBinary nm f false) (hs : PySem.W.findIn K (.ref C) (PySem.dunder op.info.2) = some (some (.ref f'))) (hR : PySem.W.findIn K (.ref C) (dunderR op.info.2) = some (some (.ref f))) (hf : PySem.W.isFn K (.ref f) = true)
    (hsub : PySem.W.subIn K (.ref C) (.type "int") = some false) (h : wpAny (model prog w) A (call (.ref f) [.ref x, .int i t]) (PySem.W.CmpBack Q) E s) : wpAny (model prog w) A (binaryOp op (.int i t) (.ref x)) Q E s := by
  obtain ⟨cd, rest, hcd, hm⟩ := PySem.W.ksp_first hc
  rcases hi : op.info with ⟨sym, nm⟩
  rw [hi] at fills slot hs hR
  dsimp only at fills slot hs hR
  have hx : s.heap.get? x = some (PySem.W.instObj C dx) := I.1
  have two := PySem.W.ksp_try X I hR hf h
  have one : wpAny (model prog w) A (tryMethod (.int i t) (PySem.dunder nm) (.ref x)) (fun r s' => r = none ∧ s' = s) E s := by
    simp only [tryMethod]
    exact wpAny_bind (wpAny_callSpecial?_slot (typeIs_int s i t) slot (int_ni slot entry args hB hx (wpAny_pure ⟨rfl, rfl⟩)))
  have L1 : PySem.W.Looks (model prog w) s.heap (typeOf (.ref x)) (.ref C) := I.type
  have L3 : PySem.W.Looks (model prog w) s.heap (fillsNumberSlot (.ref C) nm) true := PySem.W.fills_K X hcd hm hs
  have L5 : PySem.W.Looks (model prog w) s.heap (isSubtype (.ref C) (.type "int")) false := PySem.W.looks_subIn X hsub
  have L7 : numberSlotInPython (.type "int") nm = pure false := rfl
  have ne : (Value.type "int" == Value.ref C) = false := Bool.eq_false_iff.mpr fun q => by cases beq_iff_eq.mp q
  simp only [binaryOp, hi]
  refine wpAny_holding (wpAny_bind ?_)
  unfold binaryOp1
  refine wpAny_bind (wpAny_typeOf (typeIs_int s i t) (wpAny_bind (L1.here (wpAny_bind (wpAny_of_eq fills ?_)))))
  simp only [ne, Bool.false_eq_true, if_false]
  refine wpAny_bind (L3.here ?_)
  simp only [Bool.and_self, if_true]
  refine wpAny_bind (L5.here ?_)
  simp only [Bool.false_eq_true, if_false, Bool.not_false, Bool.and_self, if_true, pure_bind, L7]
  refine wpAny_bind (wpAny_mono one (fun r s' hr => ?_) fun _ _ e => e)
  obtain ⟨rfl, rfl⟩ := hr
  dsimp only
  refine wpAny_bind (wpAny_mono two (fun r s' hr => ?_) fun _ _ e => e)
  obtain ⟨v, rfl, hq⟩ := hr
  exact wpAny_bind (wpAny_rule (wpAny_pure (wpAny_pure hq)))
/-- i op a -/
def rIO (C : Addr) (sp : Sp) (E : XK) : R2 := fun x y H Q => ∃ a dx fs i, x = .int i ∧ y = .ref a ∧ At H a (.ins C dx fs) ∧ sp [y, x] H Q E
theorem op_IO {op : Operator} {id : String} {B : Builtin} {f' : Addr} (O : OwnC X.K C) (hR : PySem.W.findIn X.K (.ref C) (dunderR op.info.2) = some (some (.ref g))) (hf : PySem.W.isFn X.K (.ref g) = true) (hs : PySem.W.findIn X.K (.ref C) (PySem.dunder op.info.2) = some (some (.ref f')))
    (fills : fillsNumberSlot (.type "int") op.info.2 = pure true) (slot : Slot "int" (PySem.dunder op.info.2) id) (entry : entryFor table id = some B) (args : ∀ a b, argsOk id ⟨[a, b], []⟩) (hB : ∃ nm f, B = Builtin.Int.intBinary nm f false)
    (F : FnR X.prog X.w X.K X.mg X.base CX n g sp) (hr : Room n X.A) (hx : Passes CX X E) : OpR X (binaryOp op) (rIO C sp E) := by
  intro pins s σ H x y v u Q I rx ry h
  obtain ⟨a, dx, fs, i, rfl, rfl, ha, q⟩ := h
  obtain ⟨t, rfl⟩ := (show ∃ t, v = Value.int i t from rx)
  cases (show u = Value.ref a from ry)
  obtain ⟨od, J⟩ := inst_of I ha
  refine bin_IO I.kIn J O.sf fills slot entry (args _ _) hB hs hR hf O.ni' (wpAny_mono (wpAny_call (run_fnR (us := [.ref a, .int i t]) (vs := [.ref a, .int i]) F hr hx I (.cons rfl (.cons ⟨t, rfl⟩ .nil)) q)) (fun w s' z => ?_) fun _ _ x => x)
  obtain ⟨z', H', I', rz, qz⟩ := z
  exact SlX.cmpback rz ⟨z', H', I', rz, qz⟩
theorem addIO {f' : Addr} (O : OwnC X.K C) (hR : PySem.W.findIn X.K (.ref C) "__radd__" = some (some (.ref g))) (hf : PySem.W.isFn X.K (.ref g) = true) (hs : PySem.W.findIn X.K (.ref C) "__add__" = some (some (.ref f'))) (F : FnR X.prog X.w X.K X.mg X.base CX n g sp) (hr : Room n X.A) (hx : Passes CX X E) : OpR X (binaryOp .Add) (rIO C sp E) :=
  op_IO (op := .Add) O hR hf hs PySem.F.fills_int_add PySem.F.slot_int_add PySem.F.entry_int_add PySem.F.args_int_add_2 ⟨_, _, rfl⟩ F hr hx
theorem subIO {f' : Addr} (O : OwnC X.K C) (hR : PySem.W.findIn X.K (.ref C) "__rsub__" = some (some (.ref g))) (hf : PySem.W.isFn X.K (.ref g) = true) (hs : PySem.W.findIn X.K (.ref C) "__sub__" = some (some (.ref f'))) (F : FnR X.prog X.w X.K X.mg X.base CX n g sp) (hr : Room n X.A) (hx : Passes CX X E) : OpR X (binaryOp .Sub) (rIO C sp E) :=
  op_IO (op := .Sub) O hR hf hs PySem.F.fills_int_sub PySem.F.slot_int_sub PySem.F.entry_int_sub PySem.F.args_int_sub_2 ⟨_, _, rfl⟩ F hr hx
theorem mulIO {f' : Addr} (O : OwnC X.K C) (hR : PySem.W.findIn X.K (.ref C) "__rmul__" = some (some (.ref g))) (hf : PySem.W.isFn X.K (.ref g) = true) (hs : PySem.W.findIn X.K (.ref C) "__mul__" = some (some (.ref f'))) (F : FnR X.prog X.w X.K X.mg X.base CX n g sp) (hr : Room n X.A) (hx : Passes CX X E) : OpR X (binaryOp .Mult) (rIO C sp E) :=
  op_IO (op := .Mult) O hR hf hs PySem.F.fills_int_mul PySem.F.slot_int_mul PySem.F.entry_int_mul PySem.F.args_int_mul_2 ⟨_, _, rfl⟩ F hr hx
/-- abs(a) by an own __abs__ -/
def rC1 (C : Addr) (sp : Sp) (E : XK) : List V → Hp → VK → Prop := fun xs H Q => ∃ a dx fs, xs = [V.ref a] ∧ At H a (.ins C dx fs) ∧ sp [.ref a] H Q E
theorem call_absO (hs : PySem.W.findIn X.K (.ref C) "__abs__" = some (some (.ref g))) (hf : PySem.W.isFn X.K (.ref g) = true) (F : FnR X.prog X.w X.K X.mg X.base CX n g sp) (hr : Room (n + 1) X.A) (hx : Passes CX X E) : CallR X (.builtin "abs") (rC1 C sp E) := by
  intro pins s σ H xs us Q I r h
  obtain ⟨a, dx, fs, rfl, ha, q⟩ := h
  obtain ⟨u, rfl, ru⟩ := r.one
  cases (show u = Value.ref a from ru)
  obtain ⟨od, J⟩ := inst_of I ha
  refine PySem.Calls.call_function_entry PyProof.Rows.kind_abs PyProof.Rows.plain_abs PyProof.Rows.entry_abs (PyProof.Rows.args_abs _) ?_
  unfold Builtin.«abs»
  refine wpAny_bind (m := oneArg "abs" _) (wpAny_pure (wpAny_bind (PySem.W.special_fn I.kIn J hs (beq_iff_eq.mp hf) (wpAny_mono (wpAny_call (SlX.run_at (us := [.ref a]) (ws := [.ref a]) F hr.in1 I.env0.in1 hx I (.cons rfl .nil) q)) (fun w s' z => ?_) fun _ _ x => x))))
  exact wpAny_pure ⟨w, rfl, z⟩
end
/-! ### readings: fields, new instances, own operators -/
def dF (K : PySem.W.Frag) (f : Str) (Q : VK) : VK := fun x H1 => ∃ a C dx fs v, x = .ref a ∧ At H1 a (.ins C dx fs) ∧ Cls K C ∧ NoAttr K C f ∧ fs.lookup f = some v ∧ Q v H1
def dSF (K : PySem.W.Frag) (f : Str) (y : V) (R : Hp → Prop) : VK := fun x H2 => ∃ a C dx fs, x = .ref a ∧ At H2 a (.ins C dx fs) ∧ Cls K C ∧ NoAttr K C f ∧ fs.length < 1000 ∧ R (upd H2 a (.ins C dx (putF f y fs)))
section
variable {K : PySem.W.Frag} {σ : L2.St} {H H' : Hp} {Q : VK} {v x y : V} {a b C dx dy : Addr} {fs gs : List (Str × V)} {f : Str} {i j : Int} {sp : Sp} {E : XK} {D : Ends} {ts : TA}
theorem w_fld {ta : TE} (h : ta σ H (dF K f Q)) : tFld K ta f σ H Q := h
theorem w_dF (h : At H a (.ins C dx fs)) (cl : Cls K C) (na : NoAttr K C f) (hl : fs.lookup f = some v) (q : Q v H) : dF K f Q (.ref a) H := ⟨a, C, dx, fs, v, rfl, h, cl, na, hl, q⟩
theorem w_sfld {ta tv : TE} (h : tv σ H fun y H1 => ta σ H1 (dSF K f y (D.nx σ))) : sFld K ta tv f D σ H := h
theorem w_dSF {R : Hp → Prop} (h : At H a (.ins C dx fs)) (cl : Cls K C) (na : NoAttr K C f) (hl : fs.length < 1000) (q : ∀ H2, At H2 a (.ins C dx (putF f y fs)) → (∀ b o, b ≠ a → At H b o → At H2 b o) → (∀ b, Fr H2 b → Fr H b) → R H2) : dSF K f y R (.ref a) H :=
  ⟨a, C, dx, fs, rfl, h, cl, na, hl, q _ upd_same (fun b o hb e => by unfold At; rw [upd_ne hb]; exact e) fun b e => by
    unfold Fr at *
    by_cases hb : b = a
    · subst hb; rw [upd_same] at e; cases e
    · rwa [upd_ne hb] at e⟩
/-- a new instance, ahead of its __init__ -/
structure New (C : Addr) (H : Hp) (p dx : Addr) (H2 : Hp) : Prop where
  new : Fr H p
  dnew : Fr H dx
  ne : dx ≠ p
  ex : Ex H H2
  at_ : At H2 p (.ins C dx [])
  own : At H2 dx (.own p)
def dMk (C : Addr) (sp : Sp) (dvs : List V) (E : XK) (Q : VK) : List V → Hp → Prop := fun vs H1 => ∀ x dx, Fr H1 x → Fr H1 dx → dx ≠ x → sp (.ref x :: (vs ++ dvs)) (upd (upd H1 dx (.own x)) x (.ins C dx [])) (fun v H2 => v = .non ∧ Q (.ref x) H2) E
theorem w_make {dvs : List V} (h : ts σ H (dMk C sp dvs E Q)) : tMake C sp dvs E ts σ H Q := h
theorem w_dMk {dvs vs : List V} (h : ∀ p dx H2, New C H p dx H2 → sp (.ref p :: (vs ++ dvs)) H2 (fun v H3 => v = .non ∧ Q (.ref p) H3) E) : dMk C sp dvs E Q vs H := fun p dx hp hd hne =>
  h p dx _ ⟨hp, hd, hne, (Ex.new hd).trans (Ex.new (by unfold Fr; rw [upd_ne (Ne.symm hne)]; exact hp)), upd_same, by unfold At; rw [upd_ne hne, upd_same]⟩
theorem w_OO (ha : At H a (.ins C dx fs)) (hb : At H b (.ins C dy gs)) (q : sp [.ref a, .ref b] H Q E) : rOO C sp E (.ref a) (.ref b) H Q := ⟨a, dx, fs, b, dy, gs, rfl, rfl, ha, hb, q⟩
theorem w_OI (ha : At H a (.ins C dx fs)) (q : sp [.ref a, .int i] H Q E) : rOI C sp E (.ref a) (.int i) H Q := ⟨a, dx, fs, i, rfl, rfl, ha, q⟩
theorem w_IO (ha : At H a (.ins C dx fs)) (q : sp [.ref a, .int i] H Q E) : rIO C sp E (.int i) (.ref a) H Q := ⟨a, dx, fs, i, rfl, rfl, ha, q⟩
theorem w_UO (ha : At H a (.ins C dx fs)) (q : sp [.ref a] H Q E) : rUO C sp E (.ref a) H Q := ⟨a, dx, fs, rfl, ha, q⟩
theorem w_C1 (ha : At H a (.ins C dx fs)) (q : sp [.ref a] H Q E) : rC1 C sp E [.ref a] H Q := ⟨a, dx, fs, rfl, ha, q⟩
theorem w_gcd (q : Q (.int ((Nat.gcd i.natAbs j.natAbs : Nat) : Int)) H) : rGcd [.int i, .int j] H Q := ⟨i, j, rfl, q⟩
def rAbsI : List V → Hp → VK → Prop := fun xs H Q => ∃ i, xs = [.int i] ∧ Q (.int (if i < 0 then -i else i)) H
theorem call_absI {X : Cx} : CallR X (.builtin "abs") rAbsI := L2.call_abs
theorem w_absI (q : Q (.int (i.natAbs : Int)) H) : rAbsI [.int i] H Q := ⟨i, rfl, by
  have e : (if i < 0 then -i else i) = (i.natAbs : Int) := by split <;> omega
  rw [e]; exact q⟩
/-- isinstance of an instance, with an own class -/
theorem w_isiOC (O : OwnC K C) (ha : At H a (.ins C dx fs)) (q : Q (.bl true) H) : rIsi K [.ref a, .ref C] H Q := ⟨_, _, .ref C, .ref C, true, rfl, .own C, .base (.ins ha O.cl O.ca O.cn O.ct O.cm), O.kCC, q⟩
theorem w_isiOI (O : OwnC K C) (ha : At H a (.ins C dx fs)) (q : Q (.bl false) H) : rIsi K [.ref a, .ty "int"] H Q := ⟨_, _, .ref C, .type "int", false, rfl, .ty "int", .base (.ins ha O.cl O.ca O.cn O.ct O.cm), O.kCI, q⟩
theorem w_isiIC (O : OwnC K C) (q : Q (.bl false) H) : rIsi K [.int i, .ref C] H Q := ⟨_, _, .type "int", .ref C, false, rfl, .own C, .base (.int _), O.kIC, q⟩
end
theorem rawOk {P : Program} {w : World} {K : PySem.W.Frag} {mg : Str → Option Value} {base : Heap} {CX : CXT} {k : Nat} {f : Addr} {fd : FuncData} {ps : List Str} {sp : Sp} (F : FnOk P w K mg base CX k f fd ps sp) (hb : Binds K fd ps []) : FnR P w K mg base CX k f sp :=
  (F.raw hb .nil).imp fun vs H Q E h => by rw [List.append_nil]; exact h
/-! ### the head's facts as truth values of the written part -/
open He in
def obsZ (n : Nat) (ex : List (PySem.W.Frag → Bool)) (fn : List DefD) (g : Addr → Option Obj) : AlD := ((ex.all fun f => f (frG g (asD g n))) && fn.all fun d => d.ok (frG g (asD g n)), fn.map fun d => fnW (frG g (asD g n)) d.at_)
structure SaysZ (ex : List (PySem.W.Frag → Bool)) (fn : List He.DefD) (K : PySem.W.Frag) : Prop where
  facts : ∀ f ∈ ex, f K = true
  d : He.SaysD [] fn K
theorem SaysZ.fact {ex : List (PySem.W.Frag → Bool)} {fn : List He.DefD} {K : PySem.W.Frag} (c : SaysZ ex fn K) (i : Nat) {f : PySem.W.Frag → Bool} (h : ex[i]? = some f := by rfl) : f K = true := c.facts f (List.mem_of_getElem? h)
def hookZ (n : Nat) (ex : List (PySem.W.Frag → Bool)) (fn : List He.DefD) : PySem.W.Hook where
  α := He.AlD
  obs := fun s => obsZ n ex fn s.heap.get?
  val := fun _ => He.valD fn
  says := fun _ h => ∃ K : PySem.W.Frag, K.In h ∧ SaysZ ex fn K
  of := fun _ s e => by
    have e1 := congrArg (fun z : He.AlD => z.1) e
    have e2 := congrArg (fun z : He.AlD => z.2) e
    obtain ⟨h1, h2⟩ := He.ba e1
    refine ⟨He.frG s.heap.get? (He.asD s.heap.get? n), He.frG_in, fun f hf => List.all_eq_true.mp h1 f hf, ?_⟩
    show ((([] : List He.Fa).all fun f => f.ok _) && fn.all fun d => d.ok _, fn.map fun d => He.fnW _ d.at_) = (true, fn.map He.DefD.val)
    rw [h2]
    exact congrArg (fun z => (true, z)) e2
  keeps := fun _ _ _ ⟨K, hK, c⟩ k => ⟨K, PySem.W.Frag.In.keeps hK k, c⟩
theorem obsZ_eq {n : Nat} {ex : List (PySem.W.Frag → Bool)} {fn : List He.DefD} {g : Addr → Option Obj} {s : Shared} (h : ∀ a, g a = s.heap.get? a) : obsZ n ex fn g = (hookZ n ex fn).obs s := by
  have e : g = s.heap.get? := funext h
  rw [e]
  rfl
def bltB (x : Str) (id : String) (K : PySem.W.Frag) : Bool := He.eqO (PySem.W.nsIn K mainGlobals x) (some (some (.builtin id)))
theorem blt_ok {K : PySem.W.Frag} {h : Heap} {mg : Str → Option Value} (X : K.In h) (G : h.Ns mainGlobals mg) {x : Str} {id : String} (c : bltB x id K = true) : mg x = some (.builtin id) := PySem.W.mg_of X G (He.eqO_ok c)
def nometB (x f : Str) (K : PySem.W.Frag) : Bool := He.eqO (PySem.W.findIn K (.ref (He.ga K x)) f) (some none)
theorem nomet_ok {K : PySem.W.Frag} {x f : Str} (c : nometB x f K = true) : PySem.W.findIn K (.ref (He.ga K x)) f = some none := He.eqO_ok c
end Z
namespace Z
open PySem L2 PySem.Spec PyProof.Rows
/-! ### calls whose errors are wished for at the caller's slots -/
section
variable {X : Cx} {CX : CXT} {k : Nat} {f g C : Addr} {fd : FuncData} {ps : List Str} {sp : Sp} {dvs : List V} {ds : List Value} {E : L2.St → XK} {x m : Str} {p pos apos : Pos} {e o : Expr} {es : List Expr} {ta tb : TE} {t : TA} {a b : Expr}
theorem runR {pins : List (Addr × Obj)} {σ : L2.St} {G : Hp} {s : Shared} {Q : VK} {us : List Value} {vs : List V} (F : FnR X.prog X.w X.K X.mg X.base CX k f sp) (hr : Room k X.A) (hx : PassesAt CX X σ (E σ)) (I : Inv X pins σ G s) (r : Vals vs us) (h : sp vs G Q (E σ)) :
    codeAny (model X.prog X.w) X.A (.call (.ref f) ⟨us, []⟩) (fun r s' => match r with | .ok (.ret v) => EP X pins σ Q v s' | .ok _ => False | .error e => X.xe e s') s :=
  codeAny_mono (F X.A X.stack s G us vs Q (E σ) hr I.env0 r h) fun r s' hq => match r, hq with
    | .error e, hq => hx pins G s e s' I hq
    | .ok (.ret u), hq => I.after hq
    | .ok .next, hq => hq
    | .ok .brk, hq => hq
    | .ok .cont, hq => hq
def tCallZ (sp : Sp) (dvs : List V) (E : L2.St → XK) (t : TA) : TE := fun σ H Q => tCall sp dvs (E σ) t σ H Q
theorem pe_callZ (F : FnOk X.prog X.w X.K X.mg X.base CX k f fd ps sp) (hr : Room k X.A) (hg : Gl X x) (hm : X.mg x = some (.ref f)) (hk : PySem.W.keepIn X.K (.ref f) = true) (hb : Binds X.K fd ps ds) (hd : Vals dvs ds) (hx : ∀ σ, PassesAt CX X σ (E σ)) (ha : PA X (e :: es) t)
    (hdb : (x == ("__debug__" : Str)) = false := by decide) (hst : starEach (e :: es) X.env = (false, eval e X.env) :: starEach es X.env := by rfl) (hpl : (backTo pos (starEach es X.env)).any (·.1) = false := by rfl) : PE X (.Call (.Name x p) (e :: es) [] pos) (tCallZ sp dvs E t) :=
  pe_callSD F hr hg hm hk hb hd hx ha hdb hst hpl
theorem pe_callZ0 (F : FnOk X.prog X.w X.K X.mg X.base CX k f fd ps sp) (hr : Room k X.A) (hg : Gl X x) (hm : X.mg x = some (.ref f)) (hk : PySem.W.keepIn X.K (.ref f) = true) (hb : Binds X.K fd ps ds) (hd : Vals dvs ds) (hx : ∀ σ, PassesAt CX X σ (E σ))
    (hdb : (x == ("__debug__" : Str)) = false := by decide) : PE X (.Call (.Name x p) [] [] pos) (tCallZ sp dvs E tNil) :=
  ⟨fun pins s σ G Q I h => wpAny_Call_Name_kw (ld_glob I hg hm (PySem.W.callWith_K0 I.kIn hk (run_fnSD (us := []) F hr hb hd (hx σ) I .nil h)) hdb)⟩
def tMethZ (C : Addr) (m : Str) (sp : Sp) (dvs : List V) (E : L2.St → XK) (ta : TE) (t : TA) : TE := fun σ H Q => tMeth C m sp dvs (E σ) ta t σ H Q
theorem pe_methZ {pl : Sem Bool} (he : PE X o ta) (c : Cls X.K C) (hm : Meth X.K C m f) (F : FnOk X.prog X.w X.K X.mg X.base CX k f fd ps sp) (hr : Room k X.A) (hb : Binds X.K fd ps ds) (hd : Vals dvs ds) (hx : ∀ σ, PassesAt CX X σ (E σ)) (ha : PA X (e :: es) t)
    (hst : starEach (e :: es) X.env = (false, eval e X.env) :: starEach es X.env := by rfl) (hpl : (backTo pos (starEach es X.env)).any (·.1) = false := by rfl)
    (ht : eval (.Call (.Attribute o m apos) (e :: es) [] pos) X.env = (do let ov ← eval o X.env; standAt apos.atName; let (f, first) ← holding [ov] (getMethod ov m pl); callWith pos f first (backTo pos (starEach (e :: es) X.env)) (backToKw pos (keywordEach [] X.env))) := by rfl) :
    PE X (.Call (.Attribute o m apos) (e :: es) [] pos) (tMethZ C m sp dvs E ta t) :=
  ⟨fun pins s σ G Q I h => PySem.W.methodCall_KW (pl := pl) (thn (he.run pins s σ G _ I h) fun u s1 ⟨z, H1, I1, rx, a, dx, fs, ex, ea, l, q⟩ => by
    subst ex
    obtain rfl : u = Value.ref a := rx
    exact getmeth_ok I1 ea c hm l (PySem.W.callWith_K (first := [.ref a]) (h₀ := X.base) I.ok.mod.kin hm.kp (thn (ha.run pos pins s1 σ H1 _ I1 q) fun us s2 ⟨vs, H2, I2, r, q2⟩ => ⟨I2.kIn, run_fnSD (us := .ref a :: us) (vs := .ref a :: vs) F hr hb hd (hx σ) I2 (.cons rfl r) q2⟩) hst hpl)) ht⟩
theorem pe_methZ0 {pl : Sem Bool} (he : PE X o ta) (c : Cls X.K C) (hm : Meth X.K C m f) (F : FnOk X.prog X.w X.K X.mg X.base CX k f fd ps sp) (hr : Room k X.A) (hb : Binds X.K fd ps ds) (hd : Vals dvs ds) (hx : ∀ σ, PassesAt CX X σ (E σ))
    (ht : eval (.Call (.Attribute o m apos) [] [] pos) X.env = (do let ov ← eval o X.env; standAt apos.atName; let (f, first) ← holding [ov] (getMethod ov m pl); callWith pos f first (backTo pos (starEach [] X.env)) (backToKw pos (keywordEach [] X.env))) := by rfl) :
    PE X (.Call (.Attribute o m apos) [] [] pos) (tMethZ C m sp dvs E ta tNil) :=
  ⟨fun pins s σ G Q I h => PySem.W.methodCall_KW (pl := pl) (thn (he.run pins s σ G _ I h) fun u s1 ⟨z, H1, I1, rx, a, dx, fs, ex, ea, l, q⟩ => by
    subst ex
    obtain rfl : u = Value.ref a := rx
    exact getmeth_ok I1 ea c hm l (PySem.W.callWith_K0 (first := [.ref a]) I1.kIn hm.kp (run_fnSD (us := [.ref a]) (vs := [.ref a]) F hr hb hd (hx σ) I1 (.cons rfl .nil) q))) ht⟩
theorem run_makeZ {pins : List (Addr × Obj)} {σ : L2.St} {G : Hp} {s : Shared} {Q : VK} {us : List Value} {vs : List V} (M : Mk X.K C f) (F : FnOk X.prog X.w X.K X.mg X.base CX k f fd ps sp) (hr : Room (k + 1) X.A) (hb : Binds X.K fd ps ds) (hd : Vals dvs ds) (hx : PassesAt CX X σ (E σ)) (I : Inv X pins σ G s) (r : Vals vs us)
    (h : ∀ x dx, G x = none → G dx = none → dx ≠ x → sp (.ref x :: (vs ++ dvs)) (upd (upd G dx (.own x)) x (.ins C dx [])) (fun v H2 => v = .non ∧ Q (.ref x) H2) (E σ)) : wpAny (model X.prog X.w) X.A (call (.ref C) us) (EP X pins σ Q) X.xe s := by
  have hq := h (s.heap.objs.size + 1) s.heap.objs.size (I.hok.fresh (Nat.le_succ _)) (I.hok.fresh (Nat.le_refl _)) (Nat.ne_of_lt (Nat.lt_succ_self _))
  have J := Inv.made (C := C) I
  have w2 : Vals (V.ref (s.heap.objs.size + 1) :: (vs ++ dvs)) (Value.ref (s.heap.objs.size + 1) :: (us ++ ds)) := .cons rfl (r.append hd)
  have hn : (Value.ref (s.heap.objs.size + 1) :: us ++ ds).length = ps.length := (w2.length.symm.trans (F.len _ _ _ _ hq) : _)
  refine wpAny_call (make_map (f := f) I.kIn M.makes M.init (beq_iff_eq.mp M.fn) (codeAny_mono (F.run _ X.stack _ _ ⟨Value.ref (s.heap.objs.size + 1) :: us, []⟩ _ _ _ (E σ) (hr.make C us []) (J.env0.make C us []) (hb _ (Value.ref (s.heap.objs.size + 1) :: us) J.kIn hn) w2 hq) fun r s' z => ?_))
  match r, z with
  | .error e, z => exact hx pins _ _ e s' J z
  | .ok (.ret u), z =>
    obtain ⟨v, H', I3, rv, ev, q3⟩ := J.after z
    subst ev
    exact ⟨rv, V.ref (s.heap.objs.size + 1), H', I3, rfl, q3⟩
  | .ok .next, z => exact z.elim
  | .ok .brk, z => exact z.elim
  | .ok .cont, z => exact z.elim
def tMakeZ (C : Addr) (sp : Sp) (dvs : List V) (E : L2.St → XK) (t : TA) : TE := fun σ H Q => tMake C sp dvs (E σ) t σ H Q
theorem pe_makeZ (M : Mk X.K C f) (F : FnOk X.prog X.w X.K X.mg X.base CX k f fd ps sp) (hr : Room (k + 1) X.A) (hg : Gl X x) (hm : X.mg x = some (.ref C)) (hb : Binds X.K fd ps ds) (hd : Vals dvs ds) (hx : ∀ σ, PassesAt CX X σ (E σ)) (ha : PA X (e :: es) t)
    (hdb : (x == ("__debug__" : Str)) = false := by decide) (hst : starEach (e :: es) X.env = (false, eval e X.env) :: starEach es X.env := by rfl) (hpl : (backTo pos (starEach es X.env)).any (·.1) = false := by rfl) : PE X (.Call (.Name x p) (e :: es) [] pos) (tMakeZ C sp dvs E t) :=
  ⟨fun pins s σ G Q I h => wpAny_Call_Name_kw (ld_glob I hg hm (PySem.W.callWith_K (h₀ := X.base) I.ok.mod.kin M.kp (thn (ha.run pos pins s σ G _ I h) fun us s1 ⟨vs, H1, I1, r, q⟩ => ⟨I1.kIn, run_makeZ M F hr hb hd (hx σ) I1 r q⟩) hst hpl) hdb)⟩
theorem pe_makeZ0 (M : Mk X.K C f) (F : FnOk X.prog X.w X.K X.mg X.base CX k f fd ps sp) (hr : Room (k + 1) X.A) (hg : Gl X x) (hm : X.mg x = some (.ref C)) (hb : Binds X.K fd ps ds) (hd : Vals dvs ds) (hx : ∀ σ, PassesAt CX X σ (E σ))
    (hdb : (x == ("__debug__" : Str)) = false := by decide) : PE X (.Call (.Name x p) [] [] pos) (tMakeZ C sp dvs E tNil) :=
  ⟨fun pins s σ G Q I h => wpAny_Call_Name_kw (ld_glob I hg hm (PySem.W.callWith_K0 I.kIn M.kp (run_makeZ (us := []) M F hr hb hd (hx σ) I .nil h)) hdb)⟩
/-- an operator at the slots σ -/
def OpS (X : Cx) (op : Operator) (r : L2.St → R2) : Prop := ∀ (pins : List (Addr × Obj)) (s : Shared) (σ : L2.St) (G : Hp) (x y : V) (v u : Value) (Q : VK), Inv X pins σ G s → RelV x v → RelV y u → r σ x y G Q → wpAny (model X.prog X.w) X.A (binaryOp op v u) (EP X pins σ Q) X.xe s
def tOpS (r : L2.St → R2) (ta tb : TE) : TE := fun σ H Q => tOp (r σ) ta tb σ H Q
theorem pe_opS {op : Operator} {r : L2.St → R2} (ho : OpS X op r) (ha : PE X a ta) (hb : PE X b tb) : PE X (.BinOp a op b pos) (tOpS r ta tb) :=
  ⟨fun pins s σ G Q I h => wpAny_BinOp (binT ha hb I h fun v u s2 x y H2 I2 rx ry q => ho pins s2 σ H2 x y v u Q I2 rx ry q)⟩
theorem OpS.or {op : Operator} {r q : L2.St → R2} (h : OpS X op r) (g : OpS X op q) : OpS X op (fun σ x y H Q => r σ x y H Q ∨ q σ x y H Q) := fun pins s σ G x y v u Q I rx ry z => z.elim (h pins s σ G x y v u Q I rx ry) (g pins s σ G x y v u Q I rx ry)
theorem OpS.of {op : Operator} {r : R2} (h : OpR X (binaryOp op) r) : OpS X op (fun _ => r) := fun pins s σ G x y v u Q I rx ry z => h pins s σ G x y v u Q I rx ry z
theorem opS_OO {op : Operator} (O : OwnC X.K C) (hs : PySem.W.findIn X.K (.ref C) (PySem.dunder op.info.2) = some (some (.ref g))) (hf : PySem.W.isFn X.K (.ref g) = true) (F : FnR X.prog X.w X.K X.mg X.base CX k g sp) (hr : Room k X.A) (hx : ∀ σ, PassesAt CX X σ (E σ)) :
    OpS X op (fun σ => rOO C sp (E σ)) := by
  intro pins s σ G x y v u Q I rx ry h
  obtain ⟨a, dx, fs, b, dy, gs, rfl, rfl, ha, hb, q⟩ := h
  cases (show v = Value.ref a from rx)
  cases (show u = Value.ref b from ry)
  obtain ⟨od, J⟩ := inst_of I ha
  obtain ⟨od', J'⟩ := inst_of I hb
  obtain ⟨m, hF⟩ := I.fr
  exact PySem.W.binop_K hF I.ok.mod.kin J J'.type O.sf hs hf (wpAny_mono (wpAny_call (runR (us := [.ref a, .ref b]) (vs := [.ref a, .ref b]) F hr (hx σ) I (.cons rfl (.cons rfl .nil)) q)) (fun w s' ⟨z', H', I', rz, qz⟩ => SlX.cmpback rz ⟨z', H', I', rz, qz⟩) fun _ _ x => x)
theorem opS_OI {op : Operator} {rc : Option Value} (O : OwnC X.K C) (hs : PySem.W.findIn X.K (.ref C) (PySem.dunder op.info.2) = some (some (.ref g))) (hf : PySem.W.isFn X.K (.ref g) = true) (hr' : PySem.W.findIn X.K (.ref C) (dunderR op.info.2) = some rc) (hp : rc = none ∨ ∃ g : Addr, rc = some (.ref g)) (h12 : IntHas op.info.2)
    (F : FnR X.prog X.w X.K X.mg X.base CX k g sp) (hr : Room k X.A) (hx : ∀ σ, PassesAt CX X σ (E σ)) : OpS X op (fun σ => rOI C sp (E σ)) := by
  intro pins s σ G x y v u Q I rx ry h
  obtain ⟨a, dx, fs, i, rfl, rfl, ha, q⟩ := h
  cases (show v = Value.ref a from rx)
  obtain ⟨t, rfl⟩ := (show ∃ t, u = Value.int i t from ry)
  obtain ⟨od, J⟩ := inst_of I ha
  obtain ⟨m, hF⟩ := I.fr
  exact PySem.W.ksp_binT (T := "int") hF I.ok.mod.kin J rfl O.sf hs hf hr' hp (h12 X.K).1.choose_spec (h12 X.K).2.choose_spec O.ni (wpAny_mono (wpAny_call (runR (us := [.ref a, .int i t]) (vs := [.ref a, .int i]) F hr (hx σ) I (.cons rfl (.cons ⟨t, rfl⟩ .nil)) q)) (fun w s' ⟨z', H', I', rz, qz⟩ => SlX.cmpback rz ⟨z', H', I', rz, qz⟩) fun _ _ x => x)
end
/-! ### try .. except X as n; isinstance of the caught error -/
section
variable {X : Cx} {x n : Str} {c : Value} {i : Nat} {body suite : List Stmt} {b₀ : Stmt} {np pos pos' : Pos} {tb : WX → TS} {ts : Addr → Value → Option Addr → TS} {Wout : WX}
def tTryA (K : PySem.W.Frag) (c : Value) (i : Nat) (tb : WX → TS) (ts : Addr → Value → Option Addr → TS) (Wout : WX) : TS := fun D σ H => tb (wAs K c i ts Wout D) D σ H
theorem ps_tryA (hs : X.stack = X.env :: X.outer) (hf : X.env.frame = some X.env.locals) (hN : X.N.Nodup) (hi : X.N[i]? = some n) (hln : X.env.kindOf n = some .local) (hc : Names X x c) (tk : Takes X Wout)
    (hb : ∀ (W : WX) (pn : List (Addr × Obj)) (xe : Value → Shared → Prop), Takes (X.tr pn xe) W → PassesOwn (model X.prog X.w) X.A X.env xe → PSs (X.tr pn xe) body (tb W))
    (hsu : ∀ (a : Addr) (oe : Obj) (cls : Value) (d : Option Addr) (pn : List (Addr × Obj)), Zc cls d oe → (∃ vs, oe.data = .fields vs) → PSs (X.suite a ((a, oe) :: pn)) (b₀ :: suite) (ts a cls d)) :
    PS X (.Try body [.ExceptHandler (some (.Name x np)) (some n) (b₀ :: suite) pos'] [] [] pos) (tTryA X.K c i tb ts Wout) := ps_try_as hs hf hN hi hln hc tk hb hsu
def tTryO (K : PySem.W.Frag) (c : Value) (tb : WX → TS) (ts : Addr → Value → Option Addr → TS) (Wout : WX) : TS := fun D σ H => tb (wOnly K c ts Wout D) D σ H
theorem ps_tryO (hs : X.stack = X.env :: X.outer) (hf : X.env.frame = some X.env.locals) (hc : Names X x c) (tk : Takes X Wout)
    (hb : ∀ (W : WX) (pn : List (Addr × Obj)) (xe : Value → Shared → Prop), Takes (X.tr pn xe) W → PassesOwn (model X.prog X.w) X.A X.env xe → PSs (X.tr pn xe) body (tb W))
    (hsu : ∀ (a : Addr) (oe : Obj) (cls : Value) (d : Option Addr) (pn : List (Addr × Obj)), Zc cls d oe → (∃ vs, oe.data = .fields vs) → PSs (X.suite a ((a, oe) :: pn)) (b₀ :: suite) (ts a cls d)) :
    PS X (.Try body [.ExceptHandler (some (.Name x np)) none (b₀ :: suite) pos'] [] [] pos) (tTryO X.K c tb ts Wout) := ps_try_only hs hf hc tk hb hsu
def rIsZ (K : PySem.W.Frag) (cls : Value) (d : Option Addr) (a : Addr) : List V → Hp → VK → Prop := fun xs H Q => ∃ D, cls = .ref D ∧ d = none ∧ ExcC K D ∧ rIsE K D a xs H Q
theorem call_isZ {a : Addr} {oe : Obj} {cls : Value} {d : Option Addr} {pn : List (Addr × Obj)} (hz : Zc cls d oe) (hf : ∃ vs, oe.data = .fields vs) : CallR (X.suite a ((a, oe) :: pn)) (.builtin "isinstance") (rIsZ X.K cls d a) := by
  intro pins s σ G xs us Q I r h
  obtain ⟨D, rfl, rfl, C, h⟩ := h
  exact call_isE C hz hf pins s σ G xs us Q I r h
end
section
variable {K : PySem.W.Frag} {σ : L2.St} {H : Hp} {Q : VK} {D : Ends} {tb : WX → TS} {ts : Addr → Value → Option Addr → TS} {Wout : WX} {c cls : Value} {d : Option Addr} {i : Nat} {ta : TE} {t : TA} {sp : Sp} {dvs : List V} {E : L2.St → XK} {C a b dx : Addr} {m : Str} {fs : List (Str × V)}
theorem w_tryA (h : tb (wAs K c i ts Wout D) D σ H) : tTryA K c i tb ts Wout D σ H := h
theorem w_tryO (h : tb (wOnly K c ts Wout D) D σ H) : tTryO K c tb ts Wout D σ H := h
/-- behind an except suite with a name -/
def endAs (D : Ends) (i : Nat) : Ends := { nx := fun σ' H' => D.nx (σ'.set i none) H', rt := D.rt, bk := fun σ' H' => D.bk (σ'.set i none) H', ct := fun σ' H' => D.ct (σ'.set i none) H' }
theorem w_as (h : PySem.W.exmOne K cls c = some true) (q : ∀ a, Fr H a → ts a cls d (endAs D i) (σ.set i (some (.ref a))) H) : WE (wAs K c i ts Wout D) σ cls d H := ⟨true, h, fun _ a ha => q a ha, fun z => nomatch z⟩
theorem w_asN (h : PySem.W.exmOne K cls c = some false) (q : Wout cls d σ H) : WE (wAs K c i ts Wout D) σ cls d H := ⟨false, h, fun z => (nomatch z), fun _ => q⟩
theorem w_only (h : PySem.W.exmOne K cls c = some true) (q : ∀ a, Fr H a → ts a cls d D σ H) : WE (wOnly K c ts Wout D) σ cls d H := ⟨true, h, fun _ a ha => q a ha, fun z => nomatch z⟩
theorem w_onlyN (h : PySem.W.exmOne K cls c = some false) (q : Wout cls d σ H) : WE (wOnly K c ts Wout D) σ cls d H := ⟨false, h, fun z => (nomatch z), fun _ => q⟩
theorem w_enx (h : D.nx (σ.set i none) H) : (endAs D i).nx σ H := h
theorem w_ert {v : V} (h : D.rt v H) : (endAs D i).rt v H := h
theorem w_ebk (h : D.bk (σ.set i none) H) : (endAs D i).bk σ H := h
theorem w_ect (h : D.ct (σ.set i none) H) : (endAs D i).ct σ H := h
theorem w_callZ0 (h : t σ H fun vs H1 => sp vs H1 Q (E σ)) : tCallZ sp [] E t σ H Q := by
  show t σ H fun vs H1 => sp (vs ++ []) H1 Q (E σ)
  simp only [List.append_nil]
  exact h
theorem w_callZ (h : t σ H fun vs H1 => sp (vs ++ dvs) H1 Q (E σ)) : tCallZ sp dvs E t σ H Q := h
def dMe (C : Addr) (m : Str) (sp : Sp) (dvs : List V) (E : XK) (t : TA) (σ : L2.St) (Q : VK) : VK := fun x H1 => ∃ a dx fs, x = .ref a ∧ H1 a = some (.ins C dx fs) ∧ fs.lookup m = none ∧ t σ H1 fun vs H2 => sp (x :: (vs ++ dvs)) H2 Q E
theorem w_methZ (h : ta σ H (dMe C m sp dvs (E σ) t σ Q)) : tMethZ C m sp dvs E ta t σ H Q := h
theorem w_meth {E : XK} (h : ta σ H (dMe C m sp dvs E t σ Q)) : tMeth C m sp dvs E ta t σ H Q := h
theorem w_dMe {E : XK} (h : At H a (.ins C dx fs)) (hl : fs.lookup m = none) (q : t σ H fun vs H2 => sp (.ref a :: (vs ++ dvs)) H2 Q E) : dMe C m sp dvs E t σ Q (.ref a) H := ⟨a, dx, fs, rfl, h, hl, q⟩
theorem w_dMe0 {E : XK} (h : At H a (.ins C dx fs)) (hl : fs.lookup m = none) (q : t σ H fun vs H2 => sp (.ref a :: vs) H2 Q E) : dMe C m sp [] E t σ Q (.ref a) H := ⟨a, dx, fs, rfl, h, hl, by simp only [List.append_nil]; exact q⟩
theorem w_makeZ (h : t σ H (dMk C sp dvs (E σ) Q)) : tMakeZ C sp dvs E t σ H Q := h
theorem w_opS {r : L2.St → R2} {tb : TE} (h : ta σ H fun x H1 => tb σ H1 fun y H2 => r σ x y H2 Q) : tOpS r ta tb σ H Q := h
/-- isinstance(e, c) of the caught error, c an own class -/
theorem w_isZ {b : Bool} {e : Addr} (x : ExcC K C) (h : PySem.W.kitOne K (.ref C) (.ref a) = some b) (q : Q (.bl b) H) : rIsZ K (.ref C) none e [.ref e, .ref a] H Q := ⟨C, rfl, rfl, x, .ref a, .ref a, b, rfl, fun u r => r, h, q⟩
theorem w_isZt {b : Bool} {e : Addr} {t : String} (x : ExcC K C) (h : PySem.W.kitOne K (.ref C) (.type t) = some b) (q : Q (.bl b) H) : rIsZ K (.ref C) none e [.ref e, .ty t] H Q := ⟨C, rfl, rfl, x, .ty t, .type t, b, rfl, fun u r => r, h, q⟩
end
def excB (x : Str) (K : PySem.W.Frag) : Bool := decide (PySem.W.findIn K (.ref (He.ga K x)) "__getattribute__" = some (some (.builtin "BaseException.__getattribute__"))) && (decide (PySem.W.findIn K (.ref (He.ga K x)) "__getattr__" = some none) && (decide (PySem.W.subIn K (.ref (He.ga K x)) (.type "BaseException") = some true) &&
  (PySem.W.hasDictIn K (He.ga K x) && (decide (PySem.W.findIn K (.ref (He.ga K x)) "__class__" = some (some (.builtin "object.__class__"))) && (decide (PySem.W.specialIn K (.builtin "object.__class__") "__get__" = some (some (.builtin "getset_descriptor.__get__"))) &&
  (decide (PySem.W.takesIn K (.builtin "object.__class__") = some true) && decide (PySem.W.mroIn K (He.ga K x) (.type "object") = some true)))))))
theorem excB_ok {K : PySem.W.Frag} {x : Str} (h : excB x K = true) : ExcC K (He.ga K x) := by
  obtain ⟨h1, h⟩ := He.ba h
  obtain ⟨h2, h⟩ := He.ba h
  obtain ⟨h3, h⟩ := He.ba h
  obtain ⟨h4, h⟩ := He.ba h
  obtain ⟨h5, h⟩ := He.ba h
  obtain ⟨h6, h⟩ := He.ba h
  obtain ⟨h7, h8⟩ := He.ba h
  exact ⟨of_decide_eq_true h1, of_decide_eq_true h2, of_decide_eq_true h3, h4, of_decide_eq_true h5, of_decide_eq_true h6, of_decide_eq_true h7, of_decide_eq_true h8⟩
/-- what the except clause 'except y' says to an error of the class x -/
def exmB (x y : Str) (b : Bool) (K : PySem.W.Frag) : Bool := decide (PySem.W.exmOne K (.ref (He.ga K x)) (.ref (He.ga K y)) = some b)
theorem exmB_ok {K : PySem.W.Frag} {x y : Str} {b : Bool} (h : exmB x y b K = true) : PySem.W.exmOne K (.ref (He.ga K x)) (.ref (He.ga K y)) = some b := of_decide_eq_true h
def kitB2 (x y : Str) (b : Bool) (K : PySem.W.Frag) : Bool := decide (PySem.W.kitOne K (.ref (He.ga K x)) (.ref (He.ga K y)) = some b)
theorem kitB2_ok {K : PySem.W.Frag} {x y : Str} {b : Bool} (h : kitB2 x y b K = true) : PySem.W.kitOne K (.ref (He.ga K x)) (.ref (He.ga K y)) = some b := of_decide_eq_true h
def kitBt (x : Str) (t : String) (b : Bool) (K : PySem.W.Frag) : Bool := decide (PySem.W.kitOne K (.ref (He.ga K x)) (.type t) = some b)
theorem kitBt_ok {K : PySem.W.Frag} {x : Str} {t : String} {b : Bool} (h : kitBt x t b K = true) : PySem.W.kitOne K (.ref (He.ga K x)) (.type t) = some b := of_decide_eq_true h
/-! ### an int on the left of a comparison -/
theorem one_int {op : CmpOp} {i : Int} {t : Tok} {x : Addr} : oneThing? op (.int i t) (.ref x) = none := by rfl
theorem cmpIO {prog : Program} {w : World} {A : Around} {E : Value → Shared → Prop} {s : Shared} {K : PySem.W.Frag} {x dx C f : Addr} {od : Option Obj} {op : CmpOp} {id : String} {B : Builtin} {i : Int} {t : Tok} {Q : Value → Shared → Prop} (hu : A.units < cLine)
    (X : K.In s.heap) (I : PySem.W.InstAt s.heap x (PySem.W.instObj C dx) C od) (slot : Slot "int" (cmpInfo op).2.1 id) (entry : entryFor table id = some B) (args : argsOk id ⟨[.int i t, .ref x], []⟩) (hB : ∃ nm f, B = Builtin.Int.intBinary nm f false)
    (hs : PySem.W.findIn K (.ref C) (cmpInfo op).2.2 = some (some (.ref f))) (hf : PySem.W.isFn K (.ref f) = true) (hsub : PySem.W.subIn K (.ref C) (.type "int") = some false)
    (h : wpAny (model prog w) A (call (.ref f) [.ref x, .int i t]) (PySem.W.CmpBack Q) E s) : wpAny (model prog w) A (richCompare op (.int i t) (.ref x)) Q E s := by
  have hx : s.heap.get? x = some (PySem.W.instObj C dx) := I.1
  have one : wpAny (model prog w) A (tryCompare (.int i t) (cmpInfo op).2.1 (.ref x)) (fun r s' => r = none ∧ s' = s) E s := by
    simp only [tryCompare]
    exact wpAny_bind (wpAny_callSpecialIfBound?_slot (typeIs_int s i t) slot (int_ni slot entry args hB hx (wpAny_pure ⟨rfl, rfl⟩)))
  have two : wpAny (model prog w) A (tryCompare (.ref x) (cmpInfo op).2.2 (.int i t)) (fun r s' => ∃ v, r = some v ∧ Q v s') E s := by
    simp only [tryCompare]
    refine wpAny_bind (PySem.W.ifBound_K X I hs hf (wpAny_mono h (fun v s' hv => ?_) fun _ _ e => e))
    cases v <;> first | exact wpAny_pure ⟨_, rfl, hv⟩ | exact hv.elim
  have ne : (Value.type "int" != Value.ref C) = true := by
    have : (Value.type "int" == Value.ref C) = false := Bool.eq_false_iff.mpr fun q => by cases beq_iff_eq.mp q
    simp only [bne, this, Bool.not_false]
  have L1 : PySem.W.Looks (model prog w) s.heap (typeOf (.ref x)) (.ref C) := I.type
  have L5 : PySem.W.Looks (model prog w) s.heap (isSubtype (.ref C) (.type "int")) false := PySem.W.looks_subIn X hsub
  unfold richCompare
  simp only [one_int]
  refine wpAny_holding (wpAny_bind (wpAny_cRoomFor hu ?_))
  refine wpAny_bind (wpAny_typeOf (typeIs_int s i t) (wpAny_bind (L1.here ?_)))
  simp only [ne, if_true]
  refine wpAny_bind (L5.here ?_)
  simp only [Bool.false_eq_true, if_false, Bool.not_false, if_true]
  refine wpAny_bind (wpAny_mono one (fun r s' hr => ?_) fun _ _ e => e)
  obtain ⟨rfl, rfl⟩ := hr
  dsimp only
  refine wpAny_bind (wpAny_mono two (fun r s' hr => ?_) fun _ _ e => e)
  obtain ⟨v, rfl, hq⟩ := hr
  exact wpAny_pure hq
section
variable {X : Cx} {CX : CXT} {n : Nat} {C g : Addr} {sp : Sp} {E : XK}
theorem cmp_IO {op : CmpOp} {id : String} {B : Builtin} (hop : ∀ a b, compareOp op a b = richCompare op a b) (O : OwnC X.K C) (slot : Slot "int" (cmpInfo op).2.1 id) (entry : entryFor table id = some B) (args : ∀ a b, argsOk id ⟨[a, b], []⟩) (hB : ∃ nm f, B = Builtin.Int.intBinary nm f false)
    (hs : PySem.W.findIn X.K (.ref C) (cmpInfo op).2.2 = some (some (.ref g))) (hf : PySem.W.isFn X.K (.ref g) = true) (F : FnR X.prog X.w X.K X.mg X.base CX n g sp) (hr : Room n X.A) (hx : Passes CX X E) : OpR X (compareOp op) (rIO C sp E) := by
  intro pins s σ G x y v u Q I rx ry h
  obtain ⟨a, dx, fs, i, rfl, rfl, ha, q⟩ := h
  obtain ⟨t, rfl⟩ := (show ∃ t, v = Value.int i t from rx)
  cases (show u = Value.ref a from ry)
  obtain ⟨od, J⟩ := inst_of I ha
  rw [hop]
  exact cmpIO hr.units0 I.kIn J slot entry (args _ _) hB hs hf O.ni' (wpAny_mono (wpAny_call (run_fnR (us := [.ref a, .int i t]) (vs := [.ref a, .int i]) F hr hx I (.cons rfl (.cons ⟨t, rfl⟩ .nil)) q)) (fun w s' ⟨z', H', I', rz, qz⟩ => SlX.cmpback rz ⟨z', H', I', rz, qz⟩) fun _ _ x => x)
theorem cmp_IO_lt (O : OwnC X.K C) (hs : PySem.W.findIn X.K (.ref C) "__gt__" = some (some (.ref g))) (hf : PySem.W.isFn X.K (.ref g) = true) (F : FnR X.prog X.w X.K X.mg X.base CX n g sp) (hr : Room n X.A) (hx : Passes CX X E) : OpR X (compareOp .Lt) (rIO C sp E) :=
  cmp_IO (op := .Lt) (fun _ _ => rfl) O PySem.F.slot_int_lt PySem.F.entry_int_lt PySem.F.args_int_lt_2 ⟨_, _, rfl⟩ hs hf F hr hx
theorem cmp_IO_le (O : OwnC X.K C) (hs : PySem.W.findIn X.K (.ref C) "__ge__" = some (some (.ref g))) (hf : PySem.W.isFn X.K (.ref g) = true) (F : FnR X.prog X.w X.K X.mg X.base CX n g sp) (hr : Room n X.A) (hx : Passes CX X E) : OpR X (compareOp .LtE) (rIO C sp E) :=
  cmp_IO (op := .LtE) (fun _ _ => rfl) O PySem.F.slot_int_le PySem.F.entry_int_le PySem.F.args_int_le_2 ⟨_, _, rfl⟩ hs hf F hr hx
theorem cmp_IO_gt (O : OwnC X.K C) (hs : PySem.W.findIn X.K (.ref C) "__lt__" = some (some (.ref g))) (hf : PySem.W.isFn X.K (.ref g) = true) (F : FnR X.prog X.w X.K X.mg X.base CX n g sp) (hr : Room n X.A) (hx : Passes CX X E) : OpR X (compareOp .Gt) (rIO C sp E) :=
  cmp_IO (op := .Gt) (fun _ _ => rfl) O PySem.F.slot_int_gt PySem.F.entry_int_gt PySem.F.args_int_gt_2 ⟨_, _, rfl⟩ hs hf F hr hx
theorem cmp_IO_ge (O : OwnC X.K C) (hs : PySem.W.findIn X.K (.ref C) "__le__" = some (some (.ref g))) (hf : PySem.W.isFn X.K (.ref g) = true) (F : FnR X.prog X.w X.K X.mg X.base CX n g sp) (hr : Room n X.A) (hx : Passes CX X E) : OpR X (compareOp .GtE) (rIO C sp E) :=
  cmp_IO (op := .GtE) (fun _ _ => rfl) O PySem.F.slot_int_ge PySem.F.entry_int_ge PySem.F.args_int_ge_2 ⟨_, _, rfl⟩ hs hf F hr hx
theorem cmp_IO_eq (O : OwnC X.K C) (hs : PySem.W.findIn X.K (.ref C) "__eq__" = some (some (.ref g))) (hf : PySem.W.isFn X.K (.ref g) = true) (F : FnR X.prog X.w X.K X.mg X.base CX n g sp) (hr : Room n X.A) (hx : Passes CX X E) : OpR X (compareOp .Eq) (rIO C sp E) :=
  cmp_IO (op := .Eq) (fun _ _ => rfl) O PySem.F.slot_int_eq PySem.F.entry_int_eq PySem.F.args_int_eq_2 ⟨_, _, rfl⟩ hs hf F hr hx
end
/-! ### bool(x) -/
theorem bool_own {prog : Program} {w : World} {A : Around} {E : Value → Shared → Prop} {s : Shared} {K : PySem.W.Frag} {x C f L : Addr} {h₀ : Heap} {m : Str → Option Value} {ox : Obj} {od : Option Obj} {Q : Value → Shared → Prop} (F : PyProof.Rows.Fr h₀ L s.heap m) (X : K.In h₀)
    (I : PySem.W.InstAt s.heap x ox C od) (hs : PySem.W.findIn K (.ref C) "__bool__" = some (some (.ref f))) (hf : PySem.W.isFn K (.ref f) = true)
    (h : wpAny (model prog w) A.in1.in1 (call (.ref f) [.ref x]) (fun r s₁ => ∃ b, r = Value.bool b ∧ Q r s₁) E s) : wpAny (model prog w) A (call (.type "bool") [.ref x]) Q E s := by
  refine callType_codes (T := "bool") (Bi := Builtin.«object.__init__») (Q₁ := fun r s₁ => ∃ b, r = Value.bool b ∧ Q r s₁) PySem.F.called_bool (PySem.F.typeCall_bool_1 _) PySem.F.entry_object_init ?_ ?_
  · refine codeAny_of_tree ?_
    show wpAny _ A.in1.in1 (do checkBuiltinCall "bool.__new__" ⟨[.type "bool", .ref x], []⟩; again (.builtin "bool.__new__" ⟨[.type "bool", .ref x], []⟩)) _ _ s
    refine wpAny_bind (wpAny_of_eq (PySem.F.newCall_bool_1 _) (wpAny_pure ⟨plainId_quiet (by decide +kernel) _, codeAny_builtin PySem.F.entry_bool_new ?_⟩))
    rw [Around.under_plainId (by decide +kernel) _]
    unfold Builtin.«bool.__new__»
    refine wpAny_bind (wpAny_of_eq (a := true) (by first | rfl | kernel_rfl) ?_)
    refine PySem.W.KFB.if_not rfl ?_
    refine wpAny_bind (wpAny_of_eq (a := true) PySem.F.conv_sub_bool ?_)
    refine PySem.W.KFB.if_not rfl ?_
    refine wpAny_bind (wpAny_of_eq (a := [Value.ref x]) (by first | rfl | kernel_rfl) ?_)
    refine wpAny_bind (PySem.W.truthy_K F X I hs hf (wpAny_mono h (fun r s₁ hr => ?_) fun _ _ y => y))
    obtain ⟨b, rfl, hq⟩ := hr
    exact wpAny_pure ⟨b, rfl, hq⟩
  · rintro obj s₁ ⟨b, rfl, hq⟩
    exact ⟨PySem.typeIs_bool _ _, PySem.F.args_object_init_2 _ _, object_init_meets PySem.F.called_bool.init.lookup PySem.F.called_bool.made (by decide) prog w A.in1 _ s₁ ⟨PySem.typeIs_bool _ _, rfl, hq⟩⟩
section
variable {X : Cx} {CX : CXT} {n : Nat} {C g : Addr} {sp : Sp} {E : XK}
/-- bool(x) of an instance -/
def rBoolO (C : Addr) (sp : Sp) (E : XK) : List V → Hp → VK → Prop := fun xs H Q => ∃ a dx fs, xs = [V.ref a] ∧ H a = some (.ins C dx fs) ∧ sp [.ref a] H (fun z H' => ∃ b, z = .bl b ∧ Q z H') E
theorem call_boolO (hs : PySem.W.findIn X.K (.ref C) "__bool__" = some (some (.ref g))) (hf : PySem.W.isFn X.K (.ref g) = true) (F : FnR X.prog X.w X.K X.mg X.base CX n g sp) (hr : Room (n + 2) X.A) (hx : Passes CX X E) : CallR X (.type "bool") (rBoolO C sp E) := by
  intro pins s σ G xs us Q I r h
  obtain ⟨a, dx, fs, rfl, ha, q⟩ := h
  obtain ⟨u, rfl, ru⟩ := r.one
  cases (show u = Value.ref a from ru)
  obtain ⟨od, J⟩ := inst_of I ha
  obtain ⟨m, hF⟩ := I.fr
  have hr2 : Room n X.A.in1.in1 := (show Room (n + 1) X.A.in1 from Room.in1 hr).in1
  refine bool_own hF I.ok.mod.kin J hs hf (wpAny_mono (wpAny_call (SlX.run_at (us := [.ref a]) (ws := [.ref a]) F hr2 I.env0.in1.in1 hx I (.cons rfl .nil) q)) (fun w s' z => ?_) fun _ _ x => x)
  obtain ⟨z', H', I', rz, b, rfl, qz⟩ := z
  cases (show w = Value.bool b from rz)
  exact ⟨b, rfl, .bl b, H', I', rfl, qz⟩
end
theorem w_boolO {C a dx : Addr} {sp : Sp} {E : XK} {H : Hp} {Q : VK} {fs : List (Str × V)} (ha : At H a (.ins C dx fs)) (q : sp [.ref a] H (fun z H' => ∃ b, z = .bl b ∧ Q z H') E) : rBoolO C sp E [.ref a] H Q := ⟨a, dx, fs, rfl, ha, q⟩
def rBool1 : List V → Hp → VK → Prop := fun xs H Q => (∃ i, xs = [.int i] ∧ Q (.bl (i != 0)) H) ∨ ∃ k, xs = [.bl k] ∧ Q (.bl k) H
theorem call_boolI {X : Cx} : CallR X (.type "bool") rBool1 := call_bool1
theorem w_bool1 {i : Int} {H : Hp} {Q : VK} (q : Q (.bl (!decide (i = 0))) H) : rBool1 [.int i] H Q := .inl ⟨i, rfl, by
  have e : (i != 0) = !decide (i = 0) := by by_cases h : i = 0 <;> simp [h]
  rw [e]; exact q⟩
section
variable {K : PySem.W.Frag} {H : Hp} {Q : VK} {a b : Bool}
theorem w_eqZB (q : Q (.bl (decide (a = b))) H) : rEqZ K (.bl a) (.bl b) H Q := .inl ⟨rfl, by
  have e : decide (V.bl a = V.bl b) = decide (a = b) := by simp
  rw [e]; exact q⟩
theorem w_neZB (q : Q (.bl (!decide (a = b))) H) : rNeZ K (.bl a) (.bl b) H Q := .inl ⟨rfl, by
  have e : decide (V.bl a = V.bl b) = decide (a = b) := by simp
  rw [e]; exact q⟩
end
end Z
namespace Z
open PySem L2 PySem.Spec PyProof.Rows
/-! ### super() -/
/-- what is known where a def of the class at D says super(); x its first parameter -/
structure SupX (X : Cx) (D f : Addr) (x : Str) : Prop where
  ks : X.env.kindOf "super" = some .globalImplicit
  kc : X.env.kindOf "__class__" = some .free
  fu : X.env.func = some f
  fn : ∃ (oc : Value) (od : Option Addr) (fd : FuncData) (osl : Array (Option Value)) (ar : Arg), X.K.lookup f = some ⟨oc, od, .func fd, osl⟩ ∧ (fd.params.posonlyargs ++ fd.params.args).head? = some ar ∧ ar.arg = x
  co : ∃ (cda : Addr) (cl : Value) (cd : Option Addr) (vs : Array Value) (cs : Array (Option Value)) (file : Str) (tf : Tok), X.env.code = .ref cda ∧ X.K.lookup cda = some ⟨cl, cd, .fields vs, cs⟩ ∧ vs[2]? = some (.str file tf) ∧ ((X.prog.main.file : Str) == file) = true
  top : (X.prog.main.scope.names.lookup ("super" : Str)).isSome = false
  nm : X.N[0]? = some x
  vis : Vis X.env.scope x
  xd : (x == ("__classdict__" : Str)) = false
  ce : ∃ (cc : Addr) (cl : Value) (cd : Option Addr) (cs : Array (Option Value)), X.env.cells.lookup ("__class__" : Str) = some cc ∧ X.K.lookup cc = some ⟨cl, cd, .cell (some (.ref D)), cs⟩
  mg : X.mg "super" = none
  cl : ∃ cd, PySem.W.clsIn X.K D = some cd
section
variable {X : Cx} {D f g a C : Addr} {x m : Str} {pins : List (Addr × Obj)} {σ : L2.St} {H : Hp} {s : Shared} {ox : Obj} {od : Option Obj} {body : List Stmt} {p0 p1 : Pos} {attr : Str} {whole : Sem Value} {E : Value → Shared → Prop}
theorem sup_base {Q : Value → Shared → Prop} (S : SupX X D f x) (I : Inv X pins σ H s) (h0 : σ[0]? = some (some (.ref a))) (J : PySem.W.InstAt s.heap a ox C od) (hsub : PySem.W.mroIn X.K C (.ref D) = some true) (hat : (attr == ("__class__" : Str)) = false)
    (hq : ∀ so h', (∀ b o, s.heap.get? b = some o → h'.get? b = some o) → h'.get? so = some (PySem.W.ks_superObj D a C) → Q (.ref so) { s with heap := h' }) :
    PySem.wpAt (model X.prog X.w) X.A (.func body X.env) (attributeBase (.Call (.Name "super" p0) [] [] p1) attr X.env whole) Q E s := by
  have KX : X.K.In s.heap := I.kIn
  obtain ⟨oc, odf, fd, osl, ar, hf, hp, rfl⟩ := S.fn
  obtain ⟨cda, ccl, ccd, vs, ccs, file, tf, hco, hcode, hvs, hfile⟩ := S.co
  obtain ⟨cc, cel, ced, ces, hcc, hcell⟩ := S.ce
  obtain ⟨cdD, hD⟩ := S.cl
  obtain ⟨mb, hb1, hb2⟩ := I.mod.blt
  obtain ⟨ml, hn, hl⟩ := I.loc
  obtain ⟨u, r, l⟩ := hl 0 ar.arg (.ref a) S.nm h0 S.vis
  cases (show u = Value.ref a from r)
  obtain ⟨oD, hD1, hD2⟩ : ∃ oD, s.heap.get? D = some oD ∧ oD.data = .cls cdD := by
    unfold PySem.W.clsIn at hD
    split at hD
    · rename_i c d cd' sl ho
      cases hD
      exact ⟨_, KX _ _ ho, rfl⟩
    · cases hD
  refine PySem.ks_wpAt_super_base (env := X.env) S.ks S.kc hat S.fu (KX _ _ hf) rfl hp hco (KX _ _ hcode) rfl hvs hfile S.top ?_
  refine PySem.W.ks_loadName_global I.ok.kind S.ks (Calls.loadGlobal_builtin (by rw [I.ok.glob]; exact I.mod.glob.keeps I.bk) S.mg (by rw [I.ok.blt]; exact hb1.keeps I.bk) ((hb2 "super" (by decide)).trans (by decide +kernel)) ⟨rfl, ?_⟩)
  refine wpAny_loadName_free I.ok.kind S.kc hcc ⟨_, KX _ _ hcell, rfl⟩ ?_
  have fin : wpAny (model X.prog X.w) X.A (isType (.ref D)) (fun b s₄ => b = true ∧ wpAny (model X.prog X.w) X.A (call (.type "super") [.ref D, .ref a]) Q E s₄) E s := by
    obtain ⟨hh, gg, dd, tt, os⟩ := s
    refine PySem.ks_wpAny_isType_cls hD1 hD2 ⟨rfl, ?_⟩
    refine PySem.ks_wpAny_call_super hD1 hD2 J.at_ J.cls (fun c e => ?_) (PySem.W.looks_mroIn KX hsub) (fun h' e k => ?_)
    · have := J.no
      unfold PySem.W.notCls at this
      rw [e] at this
      exact Bool.noConfusion this
    · exact hq _ h' k e
  rcases l with ⟨hk, hm⟩ | ⟨hk, c, hc, hce⟩
  · exact wpAny_loadName_local I.ok.kind hk hn hm fin
  · rcases hk with hk | hk
    · exact wpAny_loadName_cell I.ok.kind hk hc hce fin
    · exact wpAny_loadName_free I.ok.kind hk hc hce fin S.xd
/-- an expression in the body of the running def -/
structure PEat (X : Cx) (c : Code) (e : Expr) (t : TE) : Prop where
  run : ∀ (pins : List (Addr × Obj)) (s : Shared) (σ : L2.St) (G : Hp) (Q : VK), Inv X pins σ G s → t σ G Q → PySem.wpAt (model X.prog X.w) X.A c (eval e X.env) (EP X pins σ Q) X.xe s
structure PSat (X : Cx) (c : Code) (st : Stmt) (t : TS) : Prop where
  run : ∀ (pins : List (Addr × Obj)) (s : Shared) (σ : L2.St) (G : Hp) (D : Ends), Inv X pins σ G s → t D σ G → PySem.wpAt (model X.prog X.w) X.A c (exec st X.env) (SP X pins D) X.xe s
/-- super().m(e, ..), m a def of a class above -/
def tSup (C : Addr) (sp : Sp) (E : L2.St → XK) (t : TA) : TE := fun σ H Q => ∃ a dx fs, σ[0]? = some (some (.ref a)) ∧ H a = some (.ins C dx fs) ∧ t σ H fun vs H2 => sp (.ref a :: vs) H2 Q (E σ)
theorem pe_sup {CX : CXT} {k : Nat} {sp : Sp} {E : L2.St → XK} {e : Expr} {es : List Expr} {t : TA} {apos pos : Pos} {pl : Sem Bool} (S : SupX X D f x) (hsub : PySem.W.mroIn X.K C (.ref D) = some true) (ho : PySem.W.nsIn X.K PySem.cStatics "thirdparty.any" = some none)
    (hm : PySem.W.ks_superIn X.K C D m = some (some (.ref g))) (ht : PySem.W.typeIn X.K (.ref g) = some (.type "function")) (hfn : PySem.W.fnIn X.K g = true) (F : FnR X.prog X.w X.K X.mg X.base CX k g sp) (hr : Room k X.A) (hx : ∀ σ, PassesAt CX X σ (E σ)) (ha : PA X (e :: es) t)
    (hat : (m == ("__class__" : Str)) = false := by decide +kernel) (hst : starEach (e :: es) X.env = (false, eval e X.env) :: starEach es X.env := by rfl) (hpl : (backTo pos (starEach es X.env)).any (·.1) = false := by rfl)
    (hev : eval (.Call (.Attribute (.Call (.Name "super" p0) [] [] p1) m apos) (e :: es) [] pos) X.env = (do let ov ← attributeBase (.Call (.Name "super" p0) [] [] p1) m X.env (eval (.Call (.Name "super" p0) [] [] p1) X.env); standAt apos.atName; let (f, first) ← holding [ov] (getMethod ov m pl); callWith pos f first (backTo pos (starEach (e :: es) X.env)) []) := by rfl) :
    PEat X (.func body X.env) (.Call (.Attribute (.Call (.Name "super" p0) [] [] p1) m apos) (e :: es) [] pos) (tSup C sp E t) := by
  refine ⟨fun pins s σ G Q I h => ?_⟩
  obtain ⟨a, dx, fs, h0, hins, q⟩ := h
  obtain ⟨od, J⟩ := inst_of I hins
  refine PySem.ks_wpAt_MethodCall (pl := pl) (sup_base S I h0 J hsub hat fun so h' up hso => ?_) hev
  have I1 : Inv X pins σ G { s with heap := h' } := I.kept (t' := s.toks) up
  have KX : X.K.In h' := I1.kIn
  obtain ⟨cd, hcd⟩ : ∃ cd, PySem.W.clsIn X.K C = some cd := by
    cases hc : PySem.W.clsIn X.K C with
    | none => unfold PySem.W.ks_superIn at hm; rw [hc] at hm; cases hm
    | some cd => exact ⟨cd, rfl⟩
  have hal : PySem.W.alongIn X.K m ((cd.mro.dropWhile (· != .ref D)).drop 1) = some (some (.ref g)) := by
    unfold PySem.W.ks_superIn at hm
    rw [hcd] at hm
    exact hm
  obtain ⟨og, hog, hogc⟩ : ∃ og, h'.get? g = some og ∧ og.cls = .type "function" := by
    have ht' : (X.K.lookup g).map (·.cls) = some (.type "function") := ht
    cases z : X.K.lookup g with
    | none => rw [z] at ht'; cases ht'
    | some og => rw [z] at ht'; exact ⟨og, KX _ _ z, Option.some.inj ht'⟩
  obtain ⟨hh, gg, dd, tt, os⟩ := s
  refine PySem.ks_wpAny_getMethod_super hso (PySem.W.looks_opaque KX ho) (l₀ := cd.mro) (fun A Q E s k q => wpAny_bind ((PySem.W.looks_clsIn KX hcd) A _ E s k (wpAny_pure q))) rfl KX hal hog hogc (PySem.W.ks_ne I.kIn J hcd) hat ?_
  have I2 := ClX.met_new (g := g) (C := a) I1
  have hb := ClX.base_none I1 (Nat.le_refl _)
  refine ClX.callwith_cm I2 hb hfn (thn (ha.run pos _ _ σ G _ I2 q) fun us s2 ⟨vs, H2, I3, r, q2⟩ => ⟨⟨ClX.pin_at I3, I3.kIn⟩, ?_⟩) hst hpl
  exact thn (wpAny_call (PySem.W.method_call (ClX.pin_at I3) (runR (us := .ref a :: us) (vs := .ref a :: vs) F hr (hx σ) I3 (.cons rfl r) q2))) fun _ _ y => ClX.unpinE y
theorem ps_supE {c : Code} {e : Expr} {pos : Pos} {t : TE} (h : PEat X c e t) (hi : interactive X.env = false := by rfl) (hs : swapsWith e none pos.line X.env = pure false := by rfl) : PSat X c (.Expr e pos) (tDrop t) :=
  ⟨fun pins s σ G D I q => PySem.ks_wpAt_Expr_any (PySem.ks_wpAt_mono (h.run pins s σ G _ I q) (fun v s1 ⟨y, H1, I1, r1, q1⟩ => ⟨σ, H1, I1, q1⟩) fun _ _ z => z) hi hs⟩
theorem ps_supA {c : Code} {e : Expr} {i : Nat} {y : Str} {pos pos' : Pos} {t : TE} (hN : X.N.Nodup) (hi : X.N[i]? = some y) (hy : Loc X.env.scope y) (h : PEat X c e t) (hs : swapsWith e (some (.Name y pos')) pos.line X.env = pure false := by rfl)
    (hf : X.fn y = true ∨ X.env.scope.names.lookup y = some .local := by first | exact .inl rfl | exact .inr rfl) : PSat X c (.Assign [.Name y pos'] e pos) (tAsg t (gName i)) :=
  ⟨fun pins s σ G D I q => PySem.ks_wpAt_Assign_Name (PySem.ks_wpAt_mono (h.run pins s σ G _ I q) (fun v s1 ⟨z, H1, I1, r1, q1⟩ => store_ok I1 hN hi hy r1 (fun s2 I2 => ⟨_, H1, I2, q1⟩) hf) fun _ _ z => z) hs⟩
end
/-- the def at f, of the class at D, that captures the cell of its class -/
structure FunS (P : Program) (K : PySem.W.Frag) (x qual : Str) (params : Arguments) (body : List Stmt) (scope : Scope) (D f : Addr) (fd : FuncData) : Prop where
  ex : ∃ (oc : Value) (od : Option Addr) (doc pm : Value) (an : Option Addr) (cda : Addr) (ct : Value) (osl : Array (Option Value)) (cc : Addr), fd = PySem.W.fnX x qual params body scope [("__class__", cc)] .none .none doc pm an (.ref cda) ct ∧ K.lookup f = some ⟨oc, od, .func fd, osl⟩ ∧
    PySem.W.codeIn K (.ref cda) qual = true ∧ (∃ (cl : Value) (cd : Option Addr) (cs : Array (Option Value)), K.lookup cc = some ⟨cl, cd, .cell (some (.ref D)), cs⟩) ∧
    ∃ (cl : Value) (cd : Option Addr) (vs : Array Value) (cs : Array (Option Value)) (file : Str) (tf : Tok), K.lookup cda = some ⟨cl, cd, .fields vs, cs⟩ ∧ vs[2]? = some (.str file tf) ∧ ((P.main.file : Str) == file) = true
  kp : PySem.W.keepIn K (.ref f) = true
/-- THE RULE for such a def; its first statement says super() -/
theorem FunS.ok {CX : CXT} {P : Program} {w : World} {K : PySem.W.Frag} {mg : Str → Option Value} {base : Heap} {x qual x0 : Str} {params : Arguments} {st : Stmt} {rest : List Stmt} {scope : Scope} {D f : Addr} {fd : FuncData} {N ps : List Str} {k : Nat} {sp : Sp} {ar : Arg}
    (F : FunS P K x qual params (st :: rest) scope D f fd) (S : NdefX.NScope N ps ["__class__"] scope) (hs : scope.names.lookup ("super" : Str) = some .globalImplicit) (hp : (params.posonlyargs ++ params.args).head? = some ar) (har : ar.arg = x0) (hN : N[0]? = some x0) (hx : scope.names.lookup x0 = some .local) (hxd : (x0 == ("__classdict__" : Str)) = false)
    (top : (P.main.scope.names.lookup ("super" : Str)).isSome = false) (hm : mg "super" = none) (hD : ∃ cd, PySem.W.clsIn K D = some cd) (len : ∀ vs H Q E, sp vs H Q E → vs.length = ps.length)
    (hbody : ∀ (cc cda : Addr) (A : Around) (outer : List Env) (s : Shared) (H : Hp) (vs : List V) (Q : VK) (E : XK), Room k (A.deeper (PySem.W.envX qual scope s.heap.objs.size f (.ref cda) [("__class__", cc)])) → sp vs H Q E →
      SupX (NdefX.ncx CX P w K mg base N ⟨x, qual, params, st :: rest, scope, [("__class__", cc)], cda⟩ f A outer s H E) D f x0 →
      ∃ t1 t2, PSat (NdefX.ncx CX P w K mg base N ⟨x, qual, params, st :: rest, scope, [("__class__", cc)], cda⟩ f A outer s H E) (.func (st :: rest) (PySem.W.envX qual scope s.heap.objs.size f (.ref cda) [("__class__", cc)])) st t1 ∧
        PSs (NdefX.ncx CX P w K mg base N ⟨x, qual, params, st :: rest, scope, [("__class__", cc)], cda⟩ f A outer s H E) rest t2 ∧ tSeq t1 t2 { nx := fun _ H' => Q .non H', rt := Q } (NdefX.startF N vs [none]) H) : FnOk P w K mg base CX (k + 1) f fd ps sp := by
  obtain ⟨oc, od, doc, pm, an, cda, ct, osl, cc, rfl, lk, hcd, ⟨cl1, cd1, cs1, hcell⟩, cl2, cd2, vs2, cs2, file, tf, hcode, hvs2, hfile⟩ := F.ex
  refine ⟨len, fun A outer s H args us vs Q E hr e0 hb r hsp => ?_⟩
  have hl := len _ _ _ _ hsp
  have KX : K.In s.heap := e0.mod.kin.keeps fun b o e => (e0.bs b o e).1
  have lim : s.heap.NoLimit := e0.mod.nolimit.keeps fun b o e => (e0.bs b o e).1
  refine PySem.ks_codeAny_call_defAt (fd := PySem.W.fnX x qual params (st :: rest) scope [("__class__", cc)] .none .none doc pm an (.ref cda) ct) (body := st :: rest) (binds := ps.zip us) hr.depth (KX _ _ lk) rfl lim (PySem.W.codeRec_of KX hcd) rfl hb S.nocell (fun y hy => S.par y.1 (List.of_mem_zip hy).1) (fun h₁ hns hk₁ => ?_) S.co S.gen S.kind
  have C : NdefX.CellsAt [(("__class__" : Str), cc)] ["__class__"] [none] s.heap H := by
    refine ⟨rfl, fun y c hc => ?_, fun a b c h1 h2 => ?_, fun i y hy => ?_⟩
    · have e : y = "__class__" ∧ c = cc := by
        simp only [List.lookup] at hc
        split at hc
        · rename_i q; exact ⟨by simpa using q, (Option.some.inj hc).symm⟩
        · cases hc
      obtain ⟨rfl, rfl⟩ := e
      have z := e0.mod.kin _ _ hcell
      exact ⟨(e0.bs _ _ z).2, _, _, KX _ _ hcell, rfl⟩
    · simp only [List.lookup] at h1 h2
      split at h1
      · rename_i q1
        split at h2
        · rename_i q2
          have a1 : a = "__class__" := by simpa using q1
          have b1 : b = "__class__" := by simpa using q2
          rw [a1, b1]
        · cases h2
      · cases h1
    · cases i with
      | zero =>
        cases hy
        refine ⟨cc, by simp [List.lookup], fun v hv => ?_⟩
        cases hv
      | succ i => cases hy
  have I := NdefX.inv_startN (CX := CX) (E := E) (f := f) (F := ⟨x, qual, params, st :: rest, scope, [("__class__", cc)], cda⟩) (ws := [none]) (tk := s.toks + (ps.zip us).length) S hr.hd e0 hl r C hns hk₁
  have SX : SupX (NdefX.ncx CX P w K mg base N ⟨x, qual, params, st :: rest, scope, [("__class__", cc)], cda⟩ f A outer s H E) D f x0 :=
    ⟨hs, S.frk _ (by simp), rfl, ⟨_, _, _, _, ar, lk, hp, har⟩, ⟨cda, _, _, _, _, file, tf, rfl, hcode, hvs2, hfile⟩, top, hN, .inl hx, hxd, ⟨cc, _, _, _, by simp [List.lookup, NdefX.ncx], hcell⟩, hm, hD⟩
  obtain ⟨t1, t2, p1, p2, hq⟩ := hbody cc cda A outer s H vs Q E (hr.deeper _) hsp SX
  have fin : ∀ {σ' : L2.St} {H' : Hp} {v : V} {u : Value} {s' : Shared}, Inv (NdefX.ncx CX P w K mg base N ⟨x, qual, params, st :: rest, scope, [("__class__", cc)], cda⟩ f A outer s H E) [] σ' H' s' → RelV v u → Q v H' → CE outer P w H s Q u s' :=
    fun {σ' H' v u s'} J rv q => ⟨v, H', J.os, J.bare, J.base, J.hok, rv, q⟩
  refine PySem.ks_wpAt_execs_cons (PySem.ks_wpAt_mono (p1.run [] _ _ H _ I hq) (fun fl s' hs' => ?_) fun e s' z => z)
  cases fl with
  | ret u =>
    obtain ⟨v, σ', H', J, rv, q⟩ := hs'
    exact fin J rv q
  | brk => obtain ⟨_, _, _, q⟩ := hs'; exact q.elim
  | cont => obtain ⟨_, _, _, q⟩ := hs'; exact q.elim
  | next =>
    obtain ⟨σ', H', J, q⟩ := hs'
    refine wpAt_of_wpAny (wpAny_mono (p2.run [] s' σ' H' _ J q) (fun fl s2 h2 => ?_) fun e s2 z => z)
    cases fl with
    | ret u =>
      obtain ⟨v, σ2, H2, J2, rv, q⟩ := h2
      exact fin J2 rv q
    | next =>
      obtain ⟨σ2, H2, J2, q⟩ := h2
      exact fin (v := V.non) (u := Value.none) J2 rfl q
    | brk => obtain ⟨_, _, _, q⟩ := h2; exact q.elim
    | cont => obtain ⟨_, _, _, q⟩ := h2; exact q.elim
/-! ### an own error's super().__init__(..) -/
section
variable {X : Cx} {D f a C u : Addr} {x : Str} {pins : List (Addr × Obj)} {σ : L2.St} {H : Hp} {s : Shared} {body : List Stmt} {p0 p1 : Pos} {A : Around} {E : Value → Shared → Prop}
theorem mw_call {us : List Value} {Q : Value → Shared → Prop} (T : OexC X.K C) (I : Inv X pins σ H s) (hu : s.heap.get? u = some (PySem.W.kxs_mw "ValueError.__init__" a)) (e : H a = some (exo a C none)) (hl : us.length ≤ sizeLine) (h : ∀ s', Inv X pins σ H s' → Q .none s') :
    wpAny (model X.prog X.w) A (call (.ref u) us) Q E s := by
  obtain ⟨nm, q, N, bs, bm, sn, sub, ab, col, dd, k0, k1, k2, k3, k5, hC, hbm⟩ := T.cls
  obtain ⟨t1, ho⟩ := exo_at I.hok e
  obtain ⟨hh, gg, d, tt, os⟩ := s
  refine wpAny_call (codeAny_of_tree (show wpAny _ A.in1 (callAny (.ref u) ⟨us, []⟩) _ _ _ from ?_))
  simp only [callAny]
  refine wpAny_bind (wpAny_load hu (?_ : wpAny _ _ _ _ _ _))
  simp only [PySem.W.kxs_mw]
  refine PySem.W.KFB.if_so (by decide) (wpAny_bind (PySem.W.check_bound_init PySem.F.excBase_ValueError.toExcCallFacts (I.kIn _ _ hC) ho rfl (wpAny_bind (wpAny_pure (wpAny_pure ⟨plainId_quiet PySem.F.excBase_ValueError.init.plain _, codeAny_builtin PySem.F.excBase_ValueError.initEntry ?_⟩)))))
  refine PySem.W.exc_init_tree (cls := .ref C) (t0 := t1) (dv := none) (c2 := .none) (c3 := .none) (b4 := .bool false) ho hl fun h' k hx hy => ?_
  have J := I.write (t' := tt) (x := a) (e := a) (o := exo a C none) (by rw [e]; exact True.intro) (.inl rfl) k ⟨_, hx⟩ (exo_ok hx)
  have eu : upd H a (exo a C none) = H := by
    funext b
    by_cases hb : b = a
    · rw [hb, upd_same, e]
    · rw [upd_ne hb]
  rw [eu] at J
  exact h _ J
def tSupX (K : PySem.W.Frag) (C : Addr) (t : TA) : TE := fun σ H Q => ∃ a, σ[0]? = some (some (.ref a)) ∧ OexC K C ∧ H a = some (exo a C none) ∧ t σ H fun vs H2 => vs.length ≤ 1000 ∧ H2 a = some (exo a C none) ∧ Q .non H2
theorem pe_supX {e : Expr} {es : List Expr} {t : TA} {apos pos : Pos} {pl : Sem Bool} (S : SupX X D f x) (hsub : PySem.W.mroIn X.K C (.ref D) = some true) (ho : PySem.W.nsIn X.K PySem.cStatics "thirdparty.any" = some none)
    (hm : PySem.W.ks_superIn X.K C D "__init__" = some (some (.builtin "ValueError.__init__"))) (hI : PySem.W.subIn X.K (.ref C) (.type "ValueError") = some true) (ha : PA X (e :: es) t)
    (hst : starEach (e :: es) X.env = (false, eval e X.env) :: starEach es X.env := by rfl) (hpl : (backTo pos (starEach es X.env)).any (·.1) = false := by rfl)
    (hev : eval (.Call (.Attribute (.Call (.Name "super" p0) [] [] p1) "__init__" apos) (e :: es) [] pos) X.env = (do let ov ← attributeBase (.Call (.Name "super" p0) [] [] p1) "__init__" X.env (eval (.Call (.Name "super" p0) [] [] p1) X.env); standAt apos.atName; let (f, first) ← holding [ov] (getMethod ov "__init__" pl); callWith pos f first (backTo pos (starEach (e :: es) X.env)) []) := by rfl) :
    PEat X (.func body X.env) (.Call (.Attribute (.Call (.Name "super" p0) [] [] p1) "__init__" apos) (e :: es) [] pos) (tSupX X.K C t) := by
  refine ⟨fun pins s σ G Q I h => ?_⟩
  obtain ⟨a, h0, T, hexo, q⟩ := h
  obtain ⟨t1, hoa⟩ := exo_at I.hok hexo
  have J : PySem.W.InstAt s.heap a ({ cls := .ref C, dict := none, data := .fields #[.ref t1, .none, .none, .none, .bool false, .none] } : Obj) C none := ⟨hoa, rfl, rfl, trivial⟩
  refine PySem.ks_wpAt_MethodCall (pl := pl) (sup_base S I h0 J hsub (by decide +kernel) fun so h' up hso => ?_) hev
  have I1 : Inv X pins σ G { s with heap := h' } := I.kept (t' := s.toks) up
  have KX : X.K.In h' := I1.kIn
  obtain ⟨cd, hcd⟩ : ∃ cd, PySem.W.clsIn X.K C = some cd := by
    cases hc : PySem.W.clsIn X.K C with
    | none => unfold PySem.W.ks_superIn at hm; rw [hc] at hm; cases hm
    | some cd => exact ⟨cd, rfl⟩
  have hal : PySem.W.alongIn X.K "__init__" ((cd.mro.dropWhile (· != .ref D)).drop 1) = some (some (.builtin "ValueError.__init__")) := by
    unfold PySem.W.ks_superIn at hm
    rw [hcd] at hm
    exact hm
  have J1 : PySem.W.InstAt h' a ({ cls := .ref C, dict := none, data := .fields #[.ref t1, .none, .none, .none, .bool false, .none] } : Obj) C none := ⟨up _ _ hoa, rfl, rfl, trivial⟩
  have LI : PySem.W.Looks (model X.prog X.w) h' (isInstance (.ref a) (.type "ValueError")) true := (J1.type (M := model X.prog X.w)).andThen (PySem.W.looks_subIn KX hI)
  obtain ⟨hh, gg, dd, tt, os⟩ := s
  refine PySem.W.kxs_getMethod PySem.W.kxs_ValueError hso (PySem.W.looks_opaque KX ho) (l₀ := cd.mro) (fun A Q E s k q => wpAny_bind ((PySem.W.looks_clsIn KX hcd) A _ E s k (wpAny_pure q))) rfl KX hal LI (PySem.W.ks_ne I.kIn J hcd) (by decide +kernel) ?_
  have I2 : Inv X ((h'.objs.size, PySem.W.kxs_mw "ValueError.__init__" a) :: pins) σ G ⟨h'.push (PySem.W.kxs_mw "ValueError.__init__" a), gg, dd, tt + 1, os⟩ := ClX.pin_new I1 (fun _ _ z => Heap.get?_push_of_some _ z) (Nat.le_refl _) (Heap.get?_push_size h' rfl) (fun v z => nomatch z)
  show wpAny _ _ (callWith pos (.ref h'.objs.size) [] (backTo pos (starEach (e :: es) X.env)) []) _ _ _
  have hrun := ha.run pos _ _ σ G _ I2 q
  rw [hst] at hrun ⊢
  refine PySem.W.kxs_callWith (i := "ValueError.__init__") (x := a) (by show (false || (backTo pos (starEach es X.env)).any (·.1)) = false; rw [hpl]; rfl) (PySem.Calls.evalArgs_plain (thn hrun fun us s2 ⟨vs, H2, I3, r, hv, he2, q2⟩ => ⟨ClX.pin_at I3, ?_⟩))
  refine mw_call T I3 (ClX.pin_at I3) he2 ?_ fun s3 I4 => ⟨.non, H2, ClX.unpin I4, rfl, q2⟩
  show us.length ≤ sizeLine
  rw [← r.length, sizeLine_eq]
  omega
end
end Z
namespace Z
open PySem L2 PySem.Spec PyProof.Rows
/-! ### the head's facts of own errors and of defs that say super() -/
def oexB (x : Str) (K : PySem.W.Frag) : Bool := (match K.lookup (He.ga K x) with
  | some ⟨.type "type", _, .cls cd, sl⟩ => (match cd.mro, sl.toList with
    | .ref C' :: bm, [_, _, _, _, some (.builtin n), _] => C' == He.ga K x && n == "ValueError.__new__" && !cd.hasDel && cd.hasDict && PySem.HandSPX.refsVE bm
    | _, _ => false)
  | _ => false) && (decide (PySem.W.findIn K (.ref (He.ga K x)) "__setattr__" = some (some (.builtin "object.__setattr__"))) && (decide (PySem.W.subIn K (.ref (He.ga K x)) (.type "BaseException") = some true) && (decide (PySem.W.typeIn K (.ref (He.ga K x)) = some (.type "type")) && PySem.W.keepIn K (.ref (He.ga K x)))))
theorem oexB_ok {K : PySem.W.Frag} {x : Str} (h : oexB x K = true) : OexC K (He.ga K x) := by
  obtain ⟨q, h⟩ := He.ba h
  obtain ⟨h2, h⟩ := He.ba h
  obtain ⟨h3, h⟩ := He.ba h
  obtain ⟨h4, h5⟩ := He.ba h
  refine ⟨?_, of_decide_eq_true h2, of_decide_eq_true h3, of_decide_eq_true h4, h5⟩
  split at q
  · rename_i dd cd sl ho
    split at q
    · rename_i C' bm k0 k1 k2 k3 n k5 hm hs
      simp only [Bool.and_eq_true, beq_iff_eq, Bool.not_eq_true'] at q
      obtain ⟨⟨⟨⟨rfl, rfl⟩, hdel⟩, hdi⟩, ht⟩ := q
      obtain ⟨nm, bs, mro, ns, qn, hd, sn, sub, ab, col, del⟩ := cd
      dsimp only at hm hdel hdi
      subst hm hdel hdi
      have hsl : sl = #[k0, k1, k2, k3, some (.builtin "ValueError.__new__"), k5] := by
        obtain ⟨l⟩ := sl
        simp only at hs
        rw [hs]
      subst hsl
      exact ⟨nm, qn, ns, bs, bm, sn, sub, ab, col, dd, k0, k1, k2, k3, k5, ho, ht⟩
    · cases q
  · cases q
/-- the def of the classmethod m of the class C -/
def wfA (K : PySem.W.Frag) (C m : Str) : Addr := He5.wf K (He.ga K C) "classmethod" m
/-- a def with its closure left out; of a classmethod its def -/
def fnWs (K : PySem.W.Frag) (p : Str × Option Str) : He.FnW := match K.lookup (He.fAd K p) with
  | some ⟨_, _, .func fd, _⟩ => some (fd.name, fd.qualname, fd.params, fd.body, fd.scope, fd.globals, [], fd.builtins)
  | _ => match p with
    | (C, some m) => He5.fnA K (wfA K C m)
    | _ => none
def supB (d : He.DefD) (D file : Str) (K : PySem.W.Frag) : Bool := PySem.W.keepIn K (.ref (He.fAd K d.at_)) && (match K.lookup (He.fAd K d.at_) with
  | some ⟨_, _, .func fd, _⟩ => (match fd.closure, fd.code with
    | [(n, cc)], .ref cda => (match fd.defaults, fd.kwdefaults with
      | .none, .none => true
      | _, _ => false) && (decide (n = "__class__") && (PySem.W.codeIn K (.ref cda) d.qual && ((match K.lookup cc with
        | some ⟨_, _, .cell (some (.ref D')), _⟩ => decide (D' = He.ga K D)
        | _ => false) && (match K.lookup cda with
        | some ⟨_, _, .fields vs, _⟩ => (match (vs[2]? : Option Value) with
          | some (Value.str fl _) => file == fl
          | _ => false)
        | _ => false))))
    | _, _ => false)
  | _ => false)
theorem supB_ok {P : Program} {K : PySem.W.Frag} {d : He.DefD} {D : Str} (e : fnWs K d.at_ = d.val) (c : supB d D P.main.file K = true) : ∃ fd, FunS P K d.name d.qual d.params d.body d.scope (He.ga K D) (He.fAd K d.at_) fd := by
  obtain ⟨kp, c2⟩ := He.ba c
  unfold fnWs at e
  cases q : K.lookup (He.fAd K d.at_) with
  | none =>
    rw [q] at c2
    cases c2
  | some o =>
    obtain ⟨oc, od, dt, osl⟩ := o
    rw [q] at c2 e
    cases dt with
    | func fd =>
      obtain ⟨n1, n2, n3, n4, n5, n6, n7, n8, n9, n10, n11, n12, n13, n14, n15⟩ := fd
      have e2 : (some (n1, n2, n3, n4, n5, n6, ([] : List (Str × Addr)), n15) : He.FnW) = some (d.name, d.qual, d.params, .stmts d.body, d.scope, mainGlobals, [], builtinsNs) := e
      simp only [Option.some.injEq, Prod.mk.injEq] at e2
      obtain ⟨h1, h2, h3, h4, h5, h6, _, h8⟩ := e2
      subst h1 h2 h3 h4 h5 h6 h8
      dsimp only at c2
      split at c2
      · rename_i x1 x2 n cc cda
        obtain ⟨k0, c2⟩ := He.ba c2
        obtain ⟨k1, c3⟩ := He.ba c2
        obtain ⟨k2, c4⟩ := He.ba c3
        obtain ⟨k3, k4⟩ := He.ba c4
        have en : n = "__class__" := of_decide_eq_true k1
        subst en
        split at k0
        case h_2 => cases k0
        refine ⟨_, ⟨oc, od, n10, n11, n12, cda, n14, osl, cc, rfl, q, k2, ?_, ?_⟩, kp⟩
        · split at k3
          · rename_i cl cd D' cs hc
            have eD : D' = He.ga K D := of_decide_eq_true k3
            subst eD
            exact ⟨_, _, _, hc⟩
          · cases k3
        · split at k4
          · rename_i cl cd vs cs hc
            split at k4
            · rename_i fl tf hv
              exact ⟨_, _, vs, _, fl, tf, hc, hv, k4⟩
            · cases k4
          · cases k4
      · cases c2
    | _ => cases c2
def fdOf_S {P : Program} {K : PySem.W.Frag} {x qual : Str} {params : Arguments} {body : List Stmt} {scope : Scope} {D f : Addr} (h : ∃ fd, FunS P K x qual params body scope D f fd) : FunS P K x qual params body scope D f (fdOf K f) := by
  obtain ⟨fd, F⟩ := h
  have e : fdOf K f = fd := by
    obtain ⟨_, _, _, _, _, _, _, _, _, _, lk, _⟩ := F.ex
    unfold fdOf
    rw [lk]
  rw [e]
  exact F
/-- the facts that a super() call wants -/
def clsB (x : Str) (K : PySem.W.Frag) : Bool := (PySem.W.clsIn K (He.ga K x)).isSome
theorem clsB_ok {K : PySem.W.Frag} {x : Str} (h : clsB x K = true) : ∃ cd, PySem.W.clsIn K (He.ga K x) = some cd := Option.isSome_iff_exists.mp h
def mroB (x y : Str) (K : PySem.W.Frag) : Bool := decide (PySem.W.mroIn K (He.ga K x) (.ref (He.ga K y)) = some true)
theorem mroB_ok {K : PySem.W.Frag} {x y : Str} (h : mroB x y K = true) : PySem.W.mroIn K (He.ga K x) (.ref (He.ga K y)) = some true := of_decide_eq_true h
def thirdB (K : PySem.W.Frag) : Bool := decide (PySem.W.nsIn K PySem.cStatics "thirdparty.any" = some none)
theorem thirdB_ok {K : PySem.W.Frag} (h : thirdB K = true) : PySem.W.nsIn K PySem.cStatics "thirdparty.any" = some none := of_decide_eq_true h
/-- super().m from the class at y of an object of the class at x is the def m of the class at z -/
def supmB (x y m z : Str) (K : PySem.W.Frag) : Bool := decide (PySem.W.ks_superIn K (He.ga K x) (He.ga K y) m = some (some (.ref (He.ma K (He.ga K z) m)))) && (decide (PySem.W.typeIn K (.ref (He.ma K (He.ga K z) m)) = some (.type "function")) && PySem.W.fnIn K (He.ma K (He.ga K z) m))
theorem supmB_ok {K : PySem.W.Frag} {x y m z : Str} (h : supmB x y m z K = true) : PySem.W.ks_superIn K (He.ga K x) (He.ga K y) m = some (some (.ref (He.ma K (He.ga K z) m))) ∧ PySem.W.typeIn K (.ref (He.ma K (He.ga K z) m)) = some (.type "function") ∧ PySem.W.fnIn K (He.ma K (He.ga K z) m) = true := by
  obtain ⟨h1, h⟩ := He.ba h
  obtain ⟨h2, h3⟩ := He.ba h
  exact ⟨of_decide_eq_true h1, of_decide_eq_true h2, h3⟩
def supiB (x : Str) (K : PySem.W.Frag) : Bool := decide (PySem.W.ks_superIn K (He.ga K x) (He.ga K x) "__init__" = some (some (.builtin "ValueError.__init__"))) && (decide (PySem.W.subIn K (.ref (He.ga K x)) (.type "ValueError") = some true) && (decide (PySem.W.findIn K (.ref (He.ga K x)) "__init__" = some (some (.ref (He.ma K (He.ga K x) "__init__")))) && decide (PySem.W.typeIn K (.ref (He.ma K (He.ga K x) "__init__")) = some (.type "function"))))
theorem supiB_ok {K : PySem.W.Frag} {x : Str} (h : supiB x K = true) : PySem.W.ks_superIn K (He.ga K x) (He.ga K x) "__init__" = some (some (.builtin "ValueError.__init__")) ∧ PySem.W.subIn K (.ref (He.ga K x)) (.type "ValueError") = some true ∧ PySem.W.findIn K (.ref (He.ga K x)) "__init__" = some (some (.ref (He.ma K (He.ga K x) "__init__"))) ∧ PySem.W.typeIn K (.ref (He.ma K (He.ga K x) "__init__")) = some (.type "function") := by
  obtain ⟨h1, h⟩ := He.ba h
  obtain ⟨h2, h⟩ := He.ba h
  obtain ⟨h3, h4⟩ := He.ba h
  exact ⟨of_decide_eq_true h1, of_decide_eq_true h2, of_decide_eq_true h3, of_decide_eq_true h4⟩
/-! the hook with such defs -/
open He in
def obsY (n : Nat) (ex : List (PySem.W.Frag → Bool)) (fn fs : List DefD) (g : Addr → Option Obj) : AlD := ((ex.all fun f => f (frG g (PySem.cStatics :: asD g n))) && fn.all fun d => d.ok (frG g (PySem.cStatics :: asD g n)), (fn.map fun d => fnW (frG g (PySem.cStatics :: asD g n)) d.at_) ++ fs.map fun d => fnWs (frG g (PySem.cStatics :: asD g n)) d.at_)
structure SaysY (ex : List (PySem.W.Frag → Bool)) (fn fs : List He.DefD) (K : PySem.W.Frag) : Prop where
  facts : ∀ f ∈ ex, f K = true
  d : He.SaysD [] fn K
  s : fs.map (fun d => fnWs K d.at_) = fs.map He.DefD.val
theorem SaysY.fact {ex : List (PySem.W.Frag → Bool)} {fn fs : List He.DefD} {K : PySem.W.Frag} (c : SaysY ex fn fs K) (i : Nat) {f : PySem.W.Frag → Bool} (h : ex[i]? = some f := by rfl) : f K = true := c.facts f (List.mem_of_getElem? h)
theorem SaysY.sup {ex : List (PySem.W.Frag → Bool)} {fn fs : List He.DefD} {K : PySem.W.Frag} (c : SaysY ex fn fs K) (i : Nat) {d : He.DefD} (h : fs[i]? = some d := by rfl) : fnWs K d.at_ = d.val := by
  have e : (fs.map fun d => fnWs K d.at_)[i]? = (fs.map He.DefD.val)[i]? := by rw [c.s]
  rw [List.getElem?_map, List.getElem?_map, h] at e
  exact Option.some.inj e
def hookY (n : Nat) (ex : List (PySem.W.Frag → Bool)) (fn fs : List He.DefD) : PySem.W.Hook where
  α := He.AlD
  obs := fun s => obsY n ex fn fs s.heap.get?
  val := fun _ => (true, fn.map He.DefD.val ++ fs.map He.DefD.val)
  says := fun _ h => ∃ K : PySem.W.Frag, K.In h ∧ SaysY ex fn fs K
  of := fun _ s e => by
    have e1 := congrArg (fun z : He.AlD => z.1) e
    have e2 := congrArg (fun z : He.AlD => z.2) e
    obtain ⟨h1, h2⟩ := He.ba e1
    obtain ⟨e3, e4⟩ := List.append_inj e2 (by rw [List.length_map, List.length_map])
    refine ⟨He.frG s.heap.get? (PySem.cStatics :: He.asD s.heap.get? n), He.frG_in, fun f hf => List.all_eq_true.mp h1 f hf, ?_, e4⟩
    show ((([] : List He.Fa).all fun f => f.ok _) && fn.all fun d => d.ok _, fn.map fun d => He.fnW _ d.at_) = (true, fn.map He.DefD.val)
    rw [h2]
    exact congrArg (fun z => (true, z)) e3
  keeps := fun _ _ _ ⟨K, hK, c⟩ k => ⟨K, PySem.W.Frag.In.keeps hK k, c⟩
theorem obsY_eq {n : Nat} {ex : List (PySem.W.Frag → Bool)} {fn fs : List He.DefD} {g : Addr → Option Obj} {s : Shared} (h : ∀ a, g a = s.heap.get? a) : obsY n ex fn fs g = (hookY n ex fn fs).obs s := by
  have e : g = s.heap.get? := funext h
  rw [e]
  rfl
/-! ### own errors with fields -/
/-- __init__ of an error: super().__init__(text), then self.f = v for each of the names -/
def spX (C : Addr) (names : List Str) : Sp := fun vs H Q _ => ∃ (a : Addr) (ws : List V), vs = .ref a :: ws ∧ ws.length = names.length ∧ H a = some (exo a C none) ∧ ∀ dx, H dx = none → dx ≠ a → Q .non (upd (upd H dx (exd dx (names.zip ws).reverse)) a (exo a C (some dx)))
section
variable {K : PySem.W.Frag} {σ : L2.St} {H : Hp} {Q : VK} {D : Ends} {C a dx : Addr} {f : Str} {y : V} {fs : List (Str × V)} {t : TA} {to te : TE}
theorem w_supX (h0 : σ[0]? = some (some (.ref a))) (T : OexC K C) (ha : H a = some (exo a C none)) (q : t σ H fun vs H2 => vs.length ≤ 1000 ∧ H2 a = some (exo a C none) ∧ Q .non H2) : tSupX K C t σ H Q := ⟨a, h0, T, ha, q⟩
theorem upd_swap {H : Hp} {p q : Addr} {o u u' : HO} (h : p ≠ q) : upd (upd (upd H p u) q o) p u' = upd (upd H p u') q o := by
  funext b
  by_cases hp : b = p
  · subst hp; rw [upd_same, upd_ne h, upd_same]
  · by_cases hq : b = q
    · subst hq; rw [upd_ne hp, upd_same, upd_same]
    · rw [upd_ne hp, upd_ne hq, upd_ne hp, upd_ne hq, upd_ne hp]
end
/-- raise C(v, ..) -/
theorem mkX {C : Addr} {names : List Str} {H : Hp} {Q : XK} {vs : List V} (hl : vs.length = names.length) (hn : names.length ≤ 1000) (q : ∀ d H', Fr H d → Ex H H' → At H' d (.xd (names.zip vs).reverse) → Q (.ref C) (some d) H') :
    vs.length ≤ 1000 ∧ ∀ a, H a = none → spX C names (.ref a :: (vs ++ [])) (upd H a (exo a C none)) (fun v H2 => v = .non ∧ ∃ (d : Addr) (fs : List (Str × V)), H2 a = some (exo a C (some d)) ∧ H2 d = some (exd d fs) ∧ H d = none ∧ Q (.ref C) (some d) (upd (del H2 a) d (.xd fs))) (fun _ _ _ => False) := by
  refine ⟨by omega, fun a ha => ⟨a, vs, by rw [List.append_nil], hl, upd_same, fun dx hd hne => ⟨rfl, dx, _, upd_same, by rw [upd_ne hne, upd_same], by rw [upd_ne hne] at hd; exact hd, ?_⟩⟩⟩
  have hd' : H dx = none := by rw [upd_ne hne] at hd; exact hd
  have e : upd (del (upd (upd (upd H a (exo a C none)) dx (exd dx (names.zip vs).reverse)) a (exo a C (some dx))) a) dx (.xd (names.zip vs).reverse) = upd H dx (.xd (names.zip vs).reverse) := by
    funext b
    by_cases hb : b = dx
    · subst hb; rw [upd_same, upd_same]
    · rw [upd_ne hb, upd_ne hb]
      by_cases hba : b = a
      · subst hba; rw [del_same, ha]
      · rw [del_ne hba, upd_ne hba, upd_ne hb, upd_ne hba]
  rw [e]
  exact q dx _ hd' (Ex.new hd') upd_same
theorem FunS.binds {P : Program} {K : PySem.W.Frag} {x qual : Str} {params : Arguments} {body : List Stmt} {scope : Scope} {D f : Addr} {fd : FuncData} {ps : List Str} (F : FunS P K x qual params body scope D f fd)
    (h : ∀ (cl : List (Str × Addr)) (doc pm : Value) (an : Option Addr) (c1 c2 : Value) (us : List Value), us.length = ps.length → bindArgs (PySem.W.fnX x qual params body scope cl .none .none doc pm an c1 c2) ⟨us, []⟩ = pure (ps.zip us)) : Binds K fd ps [] := by
  obtain ⟨oc, od, doc, pm, an, cda, ct, osl, cc, rfl, _⟩ := F.ex
  intro s us _ hl
  rw [List.append_nil] at hl ⊢
  have e := h [("__class__", cc)] doc pm an (.ref cda) ct us hl
  intro M A Q E hq
  rw [e]
  exact wpAny_pure hq
/-! ### the caught error: isinstance, with or without fields; its fields -/
section
variable {X : Cx} {a : Addr} {oe : Obj} {cls : Value} {d : Option Addr} {pn : List (Addr × Obj)}
def rIsY (K : PySem.W.Frag) (cls : Value) (d : Option Addr) (a : Addr) : List V → Hp → VK → Prop := fun xs H Q => ∃ D, cls = .ref D ∧ ExcC K D ∧ (d = none ∨ ∃ dd fs, d = some dd ∧ H dd = some (.xd fs)) ∧ rIsE K D a xs H Q
theorem call_isY (hz : Zc cls d oe) (hf : ∃ vs, oe.data = .fields vs) : CallR (X.suite a ((a, oe) :: pn)) (.builtin "isinstance") (rIsY X.K cls d a) := by
  intro pins s σ G xs us Q I r h
  obtain ⟨D, rfl, C, hd, h⟩ := h
  rcases hd with rfl | ⟨dd, fs, rfl, hxd⟩
  · exact call_isE C hz hf pins s σ G xs us Q I r h
  · obtain ⟨c, cv, b, rfl, hcv, e, q⟩ := h
    cases r with
    | cons rx rr =>
      cases rr with
      | cons rt rr =>
        cases rr
        cases rx
        have ec := hcv _ rt
        subst ec
        obtain ⟨hget, _⟩ := I.pin (a, oe) (List.mem_append.mpr (.inl List.mem_cons_self))
        obtain ⟨vs, hv⟩ := hf
        obtain ⟨mA, hns, hr⟩ := (show ObjOk X.prog X.w G s.heap dd (.xd fs) from I.hok dd _ hxd)
        obtain ⟨od, ho, hl⟩ := lookIn_ns hns
        have J : PySem.W.InstAt s.heap a oe D (some od) := ⟨hget, hz.1, by unfold PySem.W.notCls; rw [hv] <;> rfl, by rw [hz.2]; exact ho⟩
        have hcl : (PySem.W.clsIn X.K D).isSome = true := by
          obtain ⟨cd, hc, _⟩ := PySem.W.any_some C.hd
          rw [hc]; rfl
        exact PySem.W.kia_one (PySem.W.kitx_exc hcl C.hg C.hk C.hs C.ha C.hn C.ht C.hm) I.kIn J e (fun z => nomatch z) fun tk => ⟨.bl b, G, I.kept (t' := tk) fun _ _ z => z, rfl, q⟩
end
section
variable {K : PySem.W.Frag} {σ : L2.St} {H : Hp} {Q : VK} {C a dd : Addr} {f : Str} {v : V} {fs : List (Str × V)} {te : TE} {b : Bool}
theorem w_isY (x : ExcC K C) (h : PySem.W.kitOne K (.ref C) (.ref a) = some b) (q : Q (.bl b) H) {e : Addr} : rIsY K (.ref C) none e [.ref e, .ref a] H Q := ⟨C, rfl, x, .inl rfl, .ref a, .ref a, b, rfl, fun u r => r, h, q⟩
theorem w_isYt {t : String} (x : ExcC K C) (h : PySem.W.kitOne K (.ref C) (.type t) = some b) (q : Q (.bl b) H) {e : Addr} : rIsY K (.ref C) none e [.ref e, .ty t] H Q := ⟨C, rfl, x, .inl rfl, .ty t, .type t, b, rfl, fun u r => r, h, q⟩
theorem w_isYd (x : ExcC K C) (hd : At H dd (.xd fs)) (h : PySem.W.kitOne K (.ref C) (.ref a) = some b) (q : Q (.bl b) H) {e : Addr} : rIsY K (.ref C) (some dd) e [.ref e, .ref a] H Q := ⟨C, rfl, x, .inr ⟨dd, fs, rfl, hd⟩, .ref a, .ref a, b, rfl, fun u r => r, h, q⟩
theorem w_isYdt {t : String} (x : ExcC K C) (hd : At H dd (.xd fs)) (h : PySem.W.kitOne K (.ref C) (.type t) = some b) (q : Q (.bl b) H) {e : Addr} : rIsY K (.ref C) (some dd) e [.ref e, .ty t] H Q := ⟨C, rfl, x, .inr ⟨dd, fs, rfl, hd⟩, .ty t, .type t, b, rfl, fun u r => r, h, q⟩
/-- e.f of the caught error -/
def dXf (a : Addr) (cls : Value) (d : Option Addr) (C : Addr) (f : Str) (Q : VK) : VK := fun x H1 => x = .ref a ∧ cls = .ref C ∧ ∃ (dd : Addr) (fs : List (Str × V)) (v : V), d = some dd ∧ H1 dd = some (.xd fs) ∧ fs.lookup f = some v ∧ Q v H1
theorem w_xf {cls : Value} {d : Option Addr} (h : te σ H (dXf a cls d C f Q)) : tXf a cls d C f te σ H Q := h
theorem w_dXf (hd : At H dd (.xd fs)) (hl : fs.lookup f = some v) (q : Q v H) : dXf a (.ref C) (some dd) C f Q (.ref a) H := ⟨rfl, rfl, dd, fs, v, rfl, hd, hl, q⟩
end
def xfcB (x : Str) (K : PySem.W.Frag) : Bool := xfB K (He.ga K x)
theorem xfcB_ok {K : PySem.W.Frag} {x : Str} (h : xfcB x K = true) : XfC K (He.ga K x) := xfB_ok h
/-! ### raise -/
def tRaise (t : L2.St → Hp → XK → Prop) (W : WX) : TS := fun _ σ H => t σ H fun cls d H' => W cls d σ H'
theorem ps_raiseZ {X : Cx} {W : WX} {e : Expr} {t : L2.St → Hp → XK → Prop} {pos : Pos} (hc : X.calm = true) (tk : Takes X W) (he : PMk X e t) : PS X (.Raise (some e) none pos) (tRaise t W) := ps_raise hc tk he
def dMX (C : Addr) (sp : Sp) (dvs : List V) (Q : XK) : List V → Hp → Prop := fun vs H1 => vs.length ≤ 1000 ∧ ∀ a, H1 a = none → sp (.ref a :: (vs ++ dvs)) (upd H1 a (exo a C none)) (fun v H2 => v = .non ∧ ∃ (d : Addr) (fs : List (Str × V)), H2 a = some (exo a C (some d)) ∧ H2 d = some (exd d fs) ∧ H1 d = none ∧ Q (.ref C) (some d) (upd (del H2 a) d (.xd fs))) (fun _ _ _ => False)
section
variable {σ : L2.St} {H : Hp} {Q : XK} {D : Ends} {C : Addr} {sp : Sp} {dvs vs : List V} {ta : TA} {names : List Str} {t : L2.St → Hp → XK → Prop} {W : WX}
theorem w_raise (h : t σ H fun cls d H' => W cls d σ H') : tRaise t W D σ H := h
theorem w_mkO (h : ta σ H (dMX C sp dvs Q)) : tMkO C sp dvs ta σ H Q := h
theorem w_dMX (hl : vs.length = names.length) (hn : names.length ≤ 1000) (q : ∀ d H', Fr H d → Ex H H' → At H' d (.xd (names.zip vs).reverse) → Q (.ref C) (some d) H') : dMX C (spX C names) [] Q vs H := mkX hl hn q
end
/-! ### slices of tuples, sorted -/
theorem slA {X : Cx} {K : PySem.W.Frag} (hK : X.K = K) : SlR X (rSlA K) := hK ▸ sl_tupA
theorem call_sortI {X : Cx} {K : PySem.W.Frag} (hK : X.K = K) : CallR X (.builtin "sorted") (rSortedI K) := hK ▸ cr_sortedI
section
variable {K : PySem.W.Frag} {H : Hp} {Q : VK} {a : Addr} {i : Int} {ns : List Int}
theorem w_slTo (h : SqT K H a (ns.map V.int)) (h0 : 0 ≤ i) (q : ∀ p H2, Ex H H2 → SqT K H2 p ((ns.take i.toNat).map V.int) → Q (.ref p) H2) : rSlA K (.ref a) none (some i) H Q := by
  refine ⟨a, _, rfl, h, fun hw => ?_, fun hw p hp => q p _ (Ex.new hp) (st_of ?_)⟩
  · refine q a H (Ex.refl H) ?_
    have e : ns.take i.toNat = ns := by
      have := hw.2
      obtain ⟨k, rfl⟩ := Int.eq_ofNat_of_zero_le h0
      rw [HT.sIx_nat, List.length_map] at this
      rw [Int.toNat_natCast]
      exact List.take_of_length_le (by omega)
    rw [e]; exact h
  · show upd H p _ p = _
    rw [upd_same, cut_to h0, List.map_take]
theorem w_slFrom (h : SqT K H a (ns.map V.int)) (h0 : 0 ≤ i) (q : ∀ p H2, Ex H H2 → SqT K H2 p ((ns.drop i.toNat).map V.int) → Q (.ref p) H2) : rSlA K (.ref a) (some i) none H Q := by
  refine ⟨a, _, rfl, h, fun hw => ?_, fun hw p hp => q p _ (Ex.new hp) (st_of ?_)⟩
  · refine q a H (Ex.refl H) ?_
    have e : ns.drop i.toNat = ns := by
      have := hw.1
      obtain ⟨k, rfl⟩ := Int.eq_ofNat_of_zero_le h0
      rw [HT.sIx_nat, List.length_map] at this
      rw [Int.toNat_natCast]
      rcases Nat.eq_zero_or_pos k with z | z
      · rw [z]; rfl
      · have : ns.length = 0 := by omega
        rw [List.length_eq_zero_iff.mp this]; simp
    rw [e]; exact h
  · show upd H p _ p = _
    rw [upd_same, cut_from h0, List.map_drop]
theorem w_sortI (h : SqL K H a (ns.map V.int)) (q : ∀ p H2 (ms : List Int), Fr H p → Ex H H2 → At H2 p (.lst (ms.map V.int)) → ms.Perm ns → ms.Pairwise (· ≤ ·) → Q (.ref p) H2) : rSortedI K [.ref a] H Q :=
  ⟨a, ns, rfl, h, fun ms p h1 h2 hp => q p _ ms hp (Ex.new hp) at_upd h1 h2⟩
end
/-! ### xs.pop(i) -/
theorem w_popI {H : Hp} {Q : VK} {a : Addr} {i : Int} {ns : List Int} (h : At H a (.lst (ns.map V.int))) (h0 : 0 ≤ i) (h1 : i < ns.length) (h2 : ns.length < 2 ^ 62)
    (q : ∀ H2, At H2 a (.lst ((ns.eraseIdx i.toNat).map V.int)) → Nl H H2 → (∀ H0, Ex H0 H → Fr H0 a → Ex H0 H2) → (∀ b o, b ≠ a → At H b o → At H2 b o) → Q (.int (ns.getD i.toNat 0)) H2) : rPopAt (.ref a) [.int i] H Q := by
  have hk : i.toNat < ns.length := by omega
  refine ⟨a, _, i, i.toNat, .int (ns.getD i.toNat 0), rfl, rfl, h, by omega, by omega, ?_, ?_, q _ ?_ (Nl.upd h) (fun H0 e n => Ex.mut e n) (fun b o hb e => by unfold At; rw [upd_ne hb]; exact e)⟩
  · unfold seqIndex?
    rw [List.length_map]
    simp only [show ¬ i < 0 by omega, if_false]
    simp [h0, h1]
  · rw [List.getElem?_map, List.getD_eq_getElem?_getD, List.getElem?_eq_getElem hk]
    rfl
  · unfold At
    rw [upd_same]
    congr 2
    apply List.ext_getElem?
    intro j
    simp only [List.getElem?_eraseIdx, List.getElem?_map]
    split <;> rfl
end Z
namespace Z
open PySem L2 PySem.Spec PyProof.Rows
/-! ### methods of classes above; constants of a class; stores into own fields -/
/-- the method m of the class x is the def m of the class y -/
def methB (x m y : Str) (K : PySem.W.Frag) : Bool := He.eqO (PySem.W.findIn K (.ref (He.ga K x)) m) (some (some (.ref (He.ma K (He.ga K y) m)))) && (PySem.W.isFn K (.ref (He.ma K (He.ga K y) m)) && PySem.W.keepIn K (.ref (He.ma K (He.ga K y) m)))
theorem methB_ok {K : PySem.W.Frag} {x m y : Str} (c : methB x m y K = true) : Meth K (He.ga K x) m (He.ma K (He.ga K y) m) := by
  obtain ⟨c1, c⟩ := He.ba c
  obtain ⟨c2, c3⟩ := He.ba c
  exact ⟨He.eqO_ok c1, c2, c3⟩
/-- the class x makes instances by the __init__ of the class y -/
def mkrB (x y : Str) (K : PySem.W.Frag) : Bool := PySem.W.makesIn K (He.ga K x) && (He.eqO (PySem.W.findIn K (.ref (He.ga K x)) "__init__") (some (some (.ref (He.ma K (He.ga K y) "__init__")))) && (PySem.W.isFn K (.ref (He.ma K (He.ga K y) "__init__")) && PySem.W.keepIn K (.ref (He.ga K x))))
theorem mkrB_ok {K : PySem.W.Frag} {x y : Str} (c : mkrB x y K = true) : Mk K (He.ga K x) (He.ma K (He.ga K y) "__init__") := by
  obtain ⟨c1, c⟩ := He.ba c
  obtain ⟨c2, c⟩ := He.ba c
  obtain ⟨c3, c4⟩ := He.ba c
  exact ⟨c1, He.eqO_ok c2, c3, c4⟩
/-- the class x has the int i as its constant f -/
def conIB (x f : Str) (i : Int) (K : PySem.W.Frag) : Bool := match PySem.W.findIn K (.ref (He.ga K x)) f with
  | some (some (.int j t)) => decide (j = i) && He.eqO (PySem.W.specialIn K (.int j t) "__get__") (some none)
  | _ => false
theorem conIB_ok {K : PySem.W.Frag} {x f : Str} {i : Int} (h : conIB x f i K = true) (hc : PySem.W.copiedNames.contains f = false) : ∃ u, Con K (He.ga K x) f (.int i) u := by
  unfold conIB at h
  split at h
  · rename_i j t e
    obtain ⟨h1, h2⟩ := He.ba h
    have ej : j = i := of_decide_eq_true h1
    subst ej
    exact ⟨_, e, ⟨t, rfl⟩, He.eqO_ok h2, hc⟩
  · cases h
def dCon (K : PySem.W.Frag) (f : Str) (Q : VK) : VK := fun x H1 => ∃ a C dx fs v u, x = .ref a ∧ H1 a = some (.ins C dx fs) ∧ Cls K C ∧ Con K C f v u ∧ fs.lookup f = none ∧ Q v H1
section
variable {K : PySem.W.Frag} {σ : L2.St} {H H' : Hp} {Q : VK} {v x y : V} {a b C dx dy : Addr} {fs gs : List (Str × V)} {f : Str} {i j : Int} {sp : Sp} {D : Ends} {ts : TA}
theorem w_con {ta : TE} (h : ta σ H (dCon K f Q)) : tCon K ta f σ H Q := h
theorem w_dCon (h : At H a (.ins C dx fs)) (cl : Cls K C) (k : ∃ u, Con K C f v u) (hl : fs.lookup f = none) (q : Q v H) : dCon K f Q (.ref a) H := by
  obtain ⟨u, k⟩ := k
  exact ⟨a, C, dx, fs, v, u, rfl, h, cl, k, hl, q⟩
theorem w_put {R : Hp → Prop} (h : At H a (.ins C dx fs)) (cl : Cls K C) (na : NoAttr K C f) (hl : fs.length < 1000) (q : ∀ H2, At H2 a (.ins C dx (putF f y fs)) → (∀ H0, Ex H0 H → Fr H0 a → Ex H0 H2) → (∀ b o, b ≠ a → At H b o → At H2 b o) → R H2) : dSF K f y R (.ref a) H :=
  ⟨a, C, dx, fs, rfl, h, cl, na, hl, q _ upd_same (fun H0 e n => Ex.mut e n) (fun b o hb e => by unfold At; rw [upd_ne hb]; exact e)⟩
theorem w_sup {E : L2.St → XK} {t : TA} (h0 : σ[0]? = some (some (.ref a))) (ha : At H a (.ins C dx fs)) (q : t σ H fun vs H2 => sp (.ref a :: vs) H2 Q (E σ)) : tSup C sp E t σ H Q := ⟨a, dx, fs, h0, ha, q⟩
/-- an object of fs, by its class -/
theorem At.fd {fs gs : List (Str × V)} (h : At H a (.ins C dx fs)) (e : fs = gs) : At H a (.ins C dx gs) := e ▸ h
end
theorem putF_len {f : Str} {y : V} : ∀ {fs : List (Str × V)}, (putF f y fs).length ≤ fs.length + 1
  | [] => Nat.le_refl _
  | (g, z) :: r => by
    unfold putF
    split
    · simp
    · simpa using putF_len (fs := r)
theorem putF_end {f : Str} {y : V} : ∀ {fs : List (Str × V)}, (fs.map Prod.fst).contains f = false → putF f y fs = fs ++ [(f, y)]
  | [], _ => rfl
  | (g, z) :: r, h => by
    rw [List.map_cons, List.contains_cons, Bool.or_eq_false_iff] at h
    have h1 : ¬ g = f := fun e => by
      have := h.1
      rw [e] at this
      simp at this
    unfold putF
    rw [if_neg h1, putF_end h.2]
    rfl
/-- a new field behind the others -/
theorem w_putE {K : PySem.W.Frag} {H : Hp} {a C dx : Addr} {f : Str} {y : V} {fs : List (Str × V)} {R : Hp → Prop} (h : At H a (.ins C dx fs)) (cl : Cls K C) (na : NoAttr K C f) (hl : fs.length < 900) (hn : (fs.map Prod.fst).contains f = false) (q : ∀ H2, At H2 a (.ins C dx (fs ++ [(f, y)])) → (∀ H0, Ex H0 H → Fr H0 a → Ex H0 H2) → (∀ b o, b ≠ a → At H b o → At H2 b o) → R H2) : dSF K f y R (.ref a) H :=
  w_put h cl na (by omega) fun H2 h2 => q H2 (by rw [putF_end hn] at h2; exact h2)
/-- isinstance of an instance with the class y, of the class x -/
theorem w_isiOA {K : PySem.W.Frag} {H : Hp} {Q : VK} {a C D dx : Addr} {fs : List (Str × V)} {b : Bool} (O : OwnC K C) (ha : At H a (.ins C dx fs)) (h : PySem.W.kitOne K (.ref C) (.ref D) = some b) (q : Q (.bl b) H) : rIsi K [.ref a, .ref D] H Q := ⟨_, _, .ref C, .ref D, b, rfl, .own D, .base (.ins ha O.cl O.ca O.cn O.ct O.cm), h, q⟩
end Z
namespace Z
open PySem L2 PySem.Spec PyProof.Rows
/-! ### try with several except clauses that give the error a name -/
abbrev TSx := Addr → Value → Option Addr → TS
/-- what clauses wish, one behind the other -/
def wCl (K : PySem.W.Frag) (W0 : WX) (D : Ends) : List (Value × Option Nat × TSx) → WX
  | [] => W0
  | (c, some i, ts) :: r => wAs K c i ts (wCl K W0 D r) D
  | (c, none, ts) :: r => wOnly K c ts (wCl K W0 D r) D
inductive Clauses (X : Cx) : List ExceptHandler → List (Value × Option Nat × TSx) → Prop
  | nil : Clauses X [] []
  | as {x n : Str} {c : Value} {i : Nat} {ts : TSx} {b0 : Stmt} {su : List Stmt} {p1 p2 : Pos} {hs : List ExceptHandler} {l : List (Value × Option Nat × TSx)} (hc : Names X x c) (hi : X.N[i]? = some n) (hn : X.env.kindOf n = some .local)
      (hp : ∀ (a : Addr) (ob : Obj) (cls : Value) (d : Option Addr) (pl : List (Addr × Obj)), Zc cls d ob → (∃ fv, ob.data = .fields fv) → PSs (X.suite a ((a, ob) :: pl)) (b0 :: su) (ts a cls d)) (r : Clauses X hs l) : Clauses X (.ExceptHandler (some (.Name x p1)) (some n) (b0 :: su) p2 :: hs) ((c, some i, ts) :: l)
  | no {x : Str} {c : Value} {ts : TSx} {b0 : Stmt} {su : List Stmt} {p1 p2 : Pos} {hs : List ExceptHandler} {l : List (Value × Option Nat × TSx)} (hc : Names X x c)
      (hp : ∀ (a : Addr) (ob : Obj) (cls : Value) (d : Option Addr) (pl : List (Addr × Obj)), Zc cls d ob → (∃ fv, ob.data = .fields fv) → PSs (X.suite a ((a, ob) :: pl)) (b0 :: su) (ts a cls d)) (r : Clauses X hs l) : Clauses X (.ExceptHandler (some (.Name x p1)) none (b0 :: su) p2 :: hs) ((c, none, ts) :: l)
section
variable {X : Cx} {body : List Stmt} {e0 : ExceptHandler} {er : List ExceptHandler} {l : List (Value × Option Nat × TSx)} {pos : Pos} {tb : WX → TS} {W0 : WX}
def tTryM (K : PySem.W.Frag) (l : List (Value × Option Nat × TSx)) (tb : WX → TS) (W0 : WX) : TS := fun D σ H => tb (wCl K W0 D l) D σ H
theorem ps_tryM (hst : X.stack = X.env :: X.outer) (hfm : X.env.frame = some X.env.locals) (nd : X.N.Nodup) (tk : Takes X W0)
    (pb : ∀ (W : WX) (pl : List (Addr × Obj)) (xe : Value → Shared → Prop), Takes (X.tr pl xe) W → PassesOwn (model X.prog X.w) X.A X.env xe → PSs (X.tr pl xe) body (tb W))
    (cs : Clauses X (e0 :: er) l) : PS X (.Try body (e0 :: er) [] [] pos) (tTryM X.K l tb W0) := by
  refine ⟨fun pins st σ G D I hg => ?_⟩
  have okX := I.ok
  have hfrs : X.A.frames = some (X.env :: X.outer) := by rw [okX.frames, hst]
  refine wpAny_Try_except (wpAny_mono ((pb (wCl X.K W0 D l) (X.pn ++ pins) (fun er1 z1 => wpAny (model X.prog X.w) X.A (noteFrame er1 X.env) (fun _ z2 => wpAny (model X.prog X.w) X.A (setFlight er1 none) (fun _ z3 => wpAny (model X.prog X.w) X.A (handleBy er1 X.env (e0 :: er)) (SP X pins D) X.xe z3) X.xe z2) X.xe z1) (fun u st' xx => ?_) PassesOwn.looking).run [] st σ G D (I.toTry _) hg) (fun fl st1 hsp => ?_) fun _ _ z => z)
  · obtain ⟨a, B, sJ, pins', σ', G', cls, d, rfl, J', nob, upJ, skyJ, nfree, osJ, agJ, wish⟩ := xx
    have J : Inv X pins σ' G' sJ := J'.ofTry okX
    have sky1 : Sky B (X.env :: X.outer) a (Zc cls d) X.env.locals st'.heap := by rw [← hst]; exact skyJ
    show wpAny (model X.prog X.w) X.A (noteFrame (.ref a) X.env) _ _ _
    refine Sky.land Zc.steady hfrs hfm sky1 fun hp3 fly3 upp3 => ?_
    have J3 : Inv X pins σ' G' { st' with heap := hp3 } := J.landed nob fly3.1 (upJ.trans upp3) osJ agJ
    obtain ⟨ob3, fv3, get3, zc3, dat3⟩ := fly3.there
    have notF : a ∉ frs (X.env :: X.outer) := fun hm => by
      obtain ⟨_, o2, g2, hnf⟩ := fly3.2.2.1.mem hm
      rw [get3] at g2
      cases g2
      exact hnf _ dat3
    have neL : a ≠ X.env.locals := fun z => notF (List.mem_filterMap.mpr ⟨X.env, List.mem_cons_self, by rw [hfm, z]⟩)
    have neF : a ∉ X.fs := fun hm => by
      obtain ⟨en, hen, q⟩ := List.mem_filterMap.mp hm
      exact notF (List.mem_filterMap.mpr ⟨en, List.mem_cons_of_mem _ hen, q⟩)
    have SU := J3.suite get3 dat3 nfree neL neF
    have LT : PySem.W.Looks (model X.prog X.w) hp3 (typeOf (.ref a)) cls := fun A Q E z k q => wpAny_typeOf_ref (k _ _ get3) (by rw [zc3.1]; exact q)
    have each : ∀ {hs2 : List ExceptHandler} {l2 : List (Value × Option Nat × TSx)}, Clauses X hs2 l2 → wCl X.K W0 D l2 cls d σ' G' → wpAny (model X.prog X.w) X.A (handleBy (.ref a) X.env hs2) (SP X pins D) X.xe { st' with heap := hp3 } := by
      intro hs2 l2 hcs
      induction hcs with
      | nil =>
        intro wsh
        refine wpAny_handleBy_nil ?_
        obtain ⟨_, _, _, ob, fv, tbk, _, _, g1, _, dd, i1, _⟩ := id fly3
        unfold PySem.passOn
        refine wpAny_bind (wpAny_field g1 dd i1 ?_)
        rw [if_neg (show ¬ ((Value.ref tbk == Value.none) = true) by simp)]
        have out : wpAny (model X.prog X.w) X.A (setFlight (.ref a) X.env.frame) (fun _ z4 => wpAny (model X.prog X.w) X.A (throw (.ref a) : Sem Flow) (SP X pins D) X.xe z4) X.xe { st' with heap := hp3 } := by
          rw [hfm]
          exact HandSPX.setFlight_upZ fly3 fun hp4 fly4 upp4 => wpAny_throw (tk _ _ ⟨a, B, sJ, pins, σ', G', cls, d, rfl, J, nob, (upJ.trans upp3).trans upp4, .inr (.inr (by rw [hst]; exact fly4)), nfree, osJ, agJ, wsh⟩)
        first
          | exact wpAny_bind (wpAny_pure (wpAny_bind out))
          | exact wpAny_bind out
      | @as x n c i ts b0 su p1 p2 hs3 l3 hc hi hn hp r ih =>
        rintro ⟨b, hb1, yes, no⟩
        refine wpAny_handleBy_cons (codeAny_handlers_test ?_) (fun q => by cases q)
        have look : ∀ {Q : Value → Shared → Prop} {E : Value → Shared → Prop}, Q c { st' with heap := hp3 } → wpAny (model X.prog X.w) (X.A.mark (some (.ref a))) (eval (.Name x p1) X.env) Q E { st' with heap := hp3 } := fun {Q E} q => by
          obtain ⟨gx, dx, mx | ⟨mx, vx, nx⟩⟩ := hc
          · exact ld_glob (X := X.suite a ((a, ob3) :: (X.pn ++ pins))) SU gx mx q dx
          · exact ld_blt (X := X.suite a ((a, ob3) :: (X.pn ++ pins))) SU gx mx vx q nx dx
        refine look ((PySem.W.exm_one (M := model X.prog X.w) J3.kIn LT hb1).here ?_)
        cases b with
        | false =>
          show wpAny _ X.A (handleBy (.ref a) X.env hs3) _ _ _
          exact ih (no rfl)
        | true =>
          refine codeAny_handlers_suite_as (HandSPX.lands_againZ fly3 fun hp4 fly4 upp4 => ?_)
          have J4 : Inv X pins σ' G' { st' with heap := hp4 } := J.landed nob fly4.1 ((upJ.trans upp3).trans upp4) osJ agJ
          obtain ⟨ob4, fv4, get4, zc4, dat4⟩ := fly4.there
          refine store_ok (X := X.suite a ((a, ob4) :: (X.pn ++ pins))) (v := .ref a) (J4.suite get4 dat4 nfree neL neF) nd hi (.inl hn) rfl (fun st5 S5 => ?_) (.inr hn)
          refine wpAny_mono ((hp a ob4 cls d (X.pn ++ pins) zc4 ⟨_, dat4⟩).run [] st5 _ G' _ S5 (yes rfl a nfree)) (fun fl st6 hsp => ?_) (fun _ _ z => False.elim z)
          have bye : ∀ {σ6 : L2.St} {G6 : Hp} {Q : Shared → Prop}, Inv (X.suite a ((a, ob4) :: (X.pn ++ pins))) [] σ6 G6 st6 → (∀ z7, Inv X pins (σ6.set i none) G6 z7 → Q z7) →
              wpAny (model X.prog X.w) X.A (do bindName X.env n .none; unbindBehindTheSuite X.env n p2) (fun _ z7 => Q z7) X.xe st6 := fun {σ6 G6 Q} S6 hq => gone_ok (S6.unsuite okX) nd hi hn hq
          cases fl with
          | next => obtain ⟨_, _, S6, q6⟩ := hsp; exact bye S6 fun _ J7 => ⟨_, _, J7, q6⟩
          | brk => obtain ⟨_, _, S6, q6⟩ := hsp; exact bye S6 fun _ J7 => ⟨_, _, J7, q6⟩
          | cont => obtain ⟨_, _, S6, q6⟩ := hsp; exact bye S6 fun _ J7 => ⟨_, _, J7, q6⟩
          | ret u => obtain ⟨_, _, _, S6, r6, q6⟩ := hsp; exact bye S6 fun _ J7 => ⟨_, _, _, J7, r6, q6⟩
      | @no x c ts b0 su p1 p2 hs3 l3 hc hp r ih =>
        rintro ⟨b, hb1, yes, no⟩
        refine wpAny_handleBy_cons (codeAny_handlers_test ?_) (fun q => by cases q)
        have look : ∀ {Q : Value → Shared → Prop} {E : Value → Shared → Prop}, Q c { st' with heap := hp3 } → wpAny (model X.prog X.w) (X.A.mark (some (.ref a))) (eval (.Name x p1) X.env) Q E { st' with heap := hp3 } := fun {Q E} q => by
          obtain ⟨gx, dx, mx | ⟨mx, vx, nx⟩⟩ := hc
          · exact ld_glob (X := X.suite a ((a, ob3) :: (X.pn ++ pins))) SU gx mx q dx
          · exact ld_blt (X := X.suite a ((a, ob3) :: (X.pn ++ pins))) SU gx mx vx q nx dx
        refine look ((PySem.W.exm_one (M := model X.prog X.w) J3.kIn LT hb1).here ?_)
        cases b with
        | false =>
          show wpAny _ X.A (handleBy (.ref a) X.env hs3) _ _ _
          exact ih (no rfl)
        | true =>
          refine codeAny_handlers_suite (HandSPX.lands_againZ fly3 fun hp4 fly4 upp4 => ?_)
          have J4 : Inv X pins σ' G' { st' with heap := hp4 } := J.landed nob fly4.1 ((upJ.trans upp3).trans upp4) osJ agJ
          obtain ⟨ob4, fv4, get4, zc4, dat4⟩ := fly4.there
          refine wpAny_mono ((hp a ob4 cls d (X.pn ++ pins) zc4 ⟨_, dat4⟩).run [] _ _ G' _ (J4.suite get4 dat4 nfree neL neF) (yes rfl a nfree)) (fun fl st6 hsp => ?_) (fun _ _ z => False.elim z)
          cases fl with
          | next => obtain ⟨_, _, S6, q6⟩ := hsp; exact ⟨_, _, S6.unsuite okX, q6⟩
          | brk => obtain ⟨_, _, S6, q6⟩ := hsp; exact ⟨_, _, S6.unsuite okX, q6⟩
          | cont => obtain ⟨_, _, S6, q6⟩ := hsp; exact ⟨_, _, S6.unsuite okX, q6⟩
          | ret u => obtain ⟨_, _, _, S6, r6, q6⟩ := hsp; exact ⟨_, _, _, S6.unsuite okX, r6, q6⟩
    exact each cs wish
  · cases fl with
    | next => obtain ⟨_, _, J', q⟩ := hsp; exact wpAny_execs_nil ⟨_, _, J'.ofTry okX, q⟩
    | brk => obtain ⟨_, _, J', q⟩ := hsp; exact ⟨_, _, J'.ofTry okX, q⟩
    | cont => obtain ⟨_, _, J', q⟩ := hsp; exact ⟨_, _, J'.ofTry okX, q⟩
    | ret u => obtain ⟨_, _, _, J', r, q⟩ := hsp; exact ⟨_, _, _, J'.ofTry okX, r, q⟩
end
section
variable {K : PySem.W.Frag} {σ : L2.St} {H : Hp} {D : Ends} {tb : WX → TS} {W0 : WX} {c cls : Value} {d : Option Addr} {i : Nat} {ts : TSx} {l : List (Value × Option Nat × TSx)}
theorem w_tryM (h : tb (wCl K W0 D l) D σ H) : tTryM K l tb W0 D σ H := h
theorem w_cl (h : PySem.W.exmOne K cls c = some true) (q : ∀ a, Fr H a → ts a cls d (endAs D i) (σ.set i (some (.ref a))) H) : WE (wCl K W0 D ((c, some i, ts) :: l)) σ cls d H := w_as h q
theorem w_clN (h : PySem.W.exmOne K cls c = some false) (q : WE (wCl K W0 D l) σ cls d H) : WE (wCl K W0 D ((c, some i, ts) :: l)) σ cls d H := w_asN h q
theorem w_clO (h : PySem.W.exmOne K cls c = some true) (q : ∀ a, Fr H a → ts a cls d D σ H) : WE (wCl K W0 D ((c, none, ts) :: l)) σ cls d H := w_only h q
theorem w_clON (h : PySem.W.exmOne K cls c = some false) (q : WE (wCl K W0 D l) σ cls d H) : WE (wCl K W0 D ((c, none, ts) :: l)) σ cls d H := w_onlyN h q
theorem w_cl0 (q : W0 cls d σ H) : WE (wCl K W0 D []) σ cls d H := q
end
/-! ### ways that join: only slot i has changed -/
theorem w_cutI {t u : TS} {D : Ends} {σ : L2.St} {H : Hp} (i : Nat) (P : Int → Prop) (h : t ⟨fun σ' G => G = H ∧ ∃ w : Int, P w ∧ σ' = σ.set i (some (.int w)), D.rt, D.bk, D.ct⟩ σ H) (k : ∀ w, P w → u D (σ.set i (some (.int w))) H) : C8.tCut t u D σ H :=
  w_cut _ h fun σ' G ⟨e1, w, hw, e2⟩ => by subst e1 e2; exact k w hw
theorem w_cutV {t u : TS} {D : Ends} {σ : L2.St} {H : Hp} (i : Nat) (P : V → Hp → Prop) (h : t ⟨fun σ' G => Ex H G ∧ ∃ w, P w G ∧ σ' = σ.set i (some w), D.rt, D.bk, D.ct⟩ σ H) (k : ∀ w G, Ex H G → P w G → u D (σ.set i (some w)) G) : C8.tCut t u D σ H :=
  w_cut _ h fun σ' G ⟨e1, w, hw, e2⟩ => by subst e2; exact k w G e1 hw
/-! ### xs[i] = v -/
theorem w_gSub {to ti : TE} {t : TSet} {v : V} {σ : L2.St} {H : Hp} {Q : L2.St → Hp → Prop} (h : to σ H fun o H1 => ti σ H1 fun i H2 => t o i v H2 fun H3 => Q σ H3) : gSub to ti t v σ H Q := h
theorem ixN_pos {n : Nat} {i : Int} (h0 : 0 ≤ i) (h1 : i < n) : ixN n i = some i.toNat := by unfold ixN; rw [if_pos h0, if_pos h1]
theorem map_set {α β : Type} (f : α → β) (l : List α) (i : Nat) (a : α) : (l.map f).set i (f a) = (l.set i a).map f := by
  apply List.ext_getElem
  · simp
  · intro j h1 h2
    simp only [List.getElem_map, List.getElem_set]
    split <;> rfl
theorem w_setI {H : Hp} {a : Addr} {i v : Int} {ns : List Int} {R : Hp → Prop} (h : At H a (.lst (ns.map V.int))) (h0 : 0 ≤ i) (h1 : i < ns.length) (q : ∀ H2, At H2 a (.lst ((ns.set i.toNat v).map V.int)) → Nl H H2 → (∀ H0, Ex H0 H → Fr H0 a → Ex H0 H2) → (∀ b o, b ≠ a → At H b o → At H2 b o) → R H2) : rSetL (.ref a) (.int i) (.int v) H R :=
  w_setL h (ixN_pos h0 (by rw [List.length_map]; exact h1)) fun H2 h2 => q H2 (by rw [map_set] at h2; exact h2)
/-- .. of values -/
theorem w_setV {H : Hp} {a : Addr} {i : Int} {v : V} {xs : List V} {R : Hp → Prop} (h : At H a (.lst xs)) (h0 : 0 ≤ i) (h1 : i < xs.length) (q : ∀ H2, At H2 a (.lst (xs.set i.toNat v)) → Nl H H2 → (∀ H0, Ex H0 H → Fr H0 a → Ex H0 H2) → (∀ b o, b ≠ a → At H b o → At H2 b o) → R H2) : rSetL (.ref a) (.int i) v H R :=
  w_setL h (ixN_pos h0 h1) q
/-! ### a number with itself -/
section
variable {K : PySem.W.Frag} {H : Hp} {Q : VK} {i : Int} {t : Str}
theorem w_eqIr (q : Q (.bl true) H) : rEqZ K (.int i) (.int i) H Q := w_eqZI (by rw [decide_eq_true rfl]; exact q)
theorem w_neIr (q : Q (.bl false) H) : rNeZ K (.int i) (.int i) H Q := w_neZI (by rw [decide_eq_true rfl]; exact q)
theorem w_eqSr (q : Q (.bl true) H) : rEqZ K (.str t) (.str t) H Q := w_eqZS (by rw [decide_eq_true rfl]; exact q)
theorem w_neSr (q : Q (.bl false) H) : rNeZ K (.str t) (.str t) H Q := w_neZS (by rw [decide_eq_true rfl]; exact q)
end
/-! ### isinstance, the object first -/
section
variable {K : PySem.W.Frag} {H : Hp} {Q : VK} {a C D dx : Addr} {fs : List (Str × V)} {b : Bool}
theorem w_isiOC2 (ha : At H a (.ins C dx fs)) (O : OwnC K C) (q : Q (.bl true) H) : rIsi K [.ref a, .ref C] H Q := w_isiOC O ha q
theorem w_isiOI2 (ha : At H a (.ins C dx fs)) (O : OwnC K C) (q : Q (.bl false) H) : rIsi K [.ref a, .ty "int"] H Q := w_isiOI O ha q
theorem w_isiOA2 (ha : At H a (.ins C dx fs)) (O : OwnC K C) (h : PySem.W.kitOne K (.ref C) (.ref D) = some b) (q : Q (.bl b) H) : rIsi K [.ref a, .ref D] H Q := w_isiOA O ha h q
end
/-! ### is None -/
def dIsN (Q : VK) : VK := fun x H1 => Q (.bl (decide (x = .non))) H1
def dNotN (Q : VK) : VK := fun x H1 => Q (.bl (!decide (x = .non))) H1
section
variable {σ : L2.St} {H : Hp} {Q : VK} {ta : TE} {i : Int} {t : Str} {a : Addr} {b : Bool}
theorem w_isN2 (h : ta σ H (dIsN Q)) : tIsN ta σ H Q := h
theorem w_notN2 (h : ta σ H (dNotN Q)) : tNotN ta σ H Q := h
theorem isN_n (q : Q (.bl true) H) : dIsN Q .non H := q
theorem isN_i (q : Q (.bl false) H) : dIsN Q (.int i) H := q
theorem isN_s (q : Q (.bl false) H) : dIsN Q (.str t) H := q
theorem isN_r (q : Q (.bl false) H) : dIsN Q (.ref a) H := q
theorem isN_b (q : Q (.bl false) H) : dIsN Q (.bl b) H := q
theorem notN_n (q : Q (.bl false) H) : dNotN Q .non H := q
theorem notN_i (q : Q (.bl true) H) : dNotN Q (.int i) H := q
theorem notN_s (q : Q (.bl true) H) : dNotN Q (.str t) H := q
theorem notN_r (q : Q (.bl true) H) : dNotN Q (.ref a) H := q
theorem notN_b (q : Q (.bl true) H) : dNotN Q (.bl b) H := q
end
end Z
namespace Z
open PySem L2 PySem.Spec PyProof.Rows HT
/-! ### t[::-1] of a tuple -/
theorem pick_back (xs : Array Value) : ((List.range xs.size).filterMap fun (m : Nat) => xs[(((xs.size : Int) - 1) + (m : Int) * (-1)).toNat]?).toArray = xs.toList.reverse.toArray := by
  congr 1
  have e : ∀ m, m < xs.size → xs[(((xs.size : Int) - 1) + (m : Int) * (-1)).toNat]? = xs.toList.reverse[m]? := fun m hm => by
    rw [List.getElem?_reverse (by rw [Array.length_toList]; exact hm), Array.length_toList, show (((xs.size : Int) - 1) + (m : Int) * (-1)).toNat = xs.size - 1 - m by omega]
    simp
  have e2 : (List.range xs.size).filterMap (fun (m : Nat) => xs[(((xs.size : Int) - 1) + (m : Int) * (-1)).toNat]?) = (List.range xs.size).filterMap fun m => xs.toList.reverse[m]? := by
    have gen : ∀ l : List Nat, (∀ m ∈ l, m < xs.size) → l.filterMap (fun (m : Nat) => xs[(((xs.size : Int) - 1) + (m : Int) * (-1)).toNat]?) = l.filterMap fun m => xs.toList.reverse[m]? := fun l hl => by
      induction l with
      | nil => rfl
      | cons a r ih =>
        rw [List.filterMap_cons, List.filterMap_cons, e a (hl a (by simp)), ih fun m hm => hl m (by simp [hm])]
    exact gen _ fun m hm => List.mem_range.mp hm
  rw [e2]
  have all : ∀ l : List Value, (List.range l.length).filterMap (fun m => l[m]?) = l := fun l => by
    induction l with
    | nil => rfl
    | cons a r ih =>
      rw [List.length_cons, List.range_succ_eq_map, List.filterMap_cons]
      simp only [List.getElem?_cons_zero, List.filterMap_map]
      congr 1
  have := all xs.toList.reverse
  rwa [List.length_reverse, Array.length_toList] at this
section
variable {prog : Program} {w : World} {A : Around} {E : Value → Shared → Prop} {s : Shared}
theorem tuple_back {t sl : Addr} {its : Array Value} {vl vu vs : Value} {Q : Value → Shared → Prop} (ht : IsTup s.heap t its) (hs : s.heap.IsSliceOf sl vl vu vs) (pl : IsPart vl none) (pu : IsPart vu none) (ps : IsPart vs (some (-1)))
    (h : Q (.ref s.heap.objs.size) { s with heap := s.heap.push { cls := .type "tuple", data := .seq its.toList.reverse.toArray } }) (hz : its.size ≤ sizeLine) : wpAny (model prog w) A (getItem (.ref t) (.ref sl)) Q E s := by
  obtain ⟨ob, hob, hcl, hda⟩ := id hs
  have hT : s.TypeIs (.ref sl) "slice" := ⟨ob, hob, hcl⟩
  have fits : sizeOk (.seq its.toList.reverse.toArray) := by
    show its.toList.reverse.toArray.size ≤ sizeLine
    rw [List.size_toArray, List.length_reverse, Array.length_toList]
    exact hz
  unfold getItem
  try with_reducible refine wpAny_holding ?_
  first | refine wpAny_bind (wpAny_pure ?_) | skip
  refine wpAny_bind (wpAny_sequenceKey ht.typeIs (by decide) ?_)
  refine wpAny_bind (wpAny_callSpecial?_slot (name := Str.ofString "__getitem__") ht.typeIs PyProof.Rows.slot_tuple_getitem (wpAny_call_entry PyProof.Rows.slot_tuple_getitem ht.typeIs entry_tuple_getitem ?_ (args_tuple_getitem _ _)))
  show wpAny _ _ (Builtin.Tuple.tupleItemsOf (.ref t) >>= _) _ _ s
  refine wpAny_bind (tupleItemsOf_ ht (wpAny_bind (wpAny_typeOf hT ?_)))
  rw [if_pos (by decide)]
  have ap : ∀ {Q' : Int × Int × Nat → Shared → Prop} {A' : Around} {E' : Value → Shared → Prop}, Q' ((its.size : Int) - 1, -1, its.size) s → wpAny (model prog w) A' (Builtin.Slice.sliceApplied (.ref sl) (pure (its.size : Int))) Q' E' s := by
    intro Q' A' E' q
    unfold Builtin.Slice.sliceApplied Builtin.Slice.sliceFields
    refine wpAny_bind (wpAny_bind (wpAny_field hob hda (x := vl) rfl (wpAny_bind (wpAny_field hob hda (x := vu) rfl (wpAny_bind (wpAny_field hob hda (x := vs) rfl (wpAny_pure ?_)))))))
    refine wpAny_bind (slicePart_ ps ?_)
    show wpAny _ _ (if ((-1 : Int) == 0) = true then _ else _) _ _ s
    rw [if_neg (by decide)]
    refine wpAny_bind (slicePart_ pl (wpAny_bind (slicePart_ pu (wpAny_bind (wpAny_pure ?_)))))
    show wpAny _ _ (pure ((its.size : Int) - 1, (-1 : Int), Builtin.Slice.slicePlaces ((its.size : Int) - 1) (-1) (-1))) _ _ s
    have e : Builtin.Slice.slicePlaces ((its.size : Int) - 1) (-1) (-1) = its.size := by
      unfold Builtin.Slice.slicePlaces
      rw [if_neg (by decide)]
      by_cases h0 : its.size = 0
      · rw [h0]; decide
      · rw [if_pos (by omega), show (-(-1) : Int) = 1 from rfl, Int.ediv_one]; omega
    rw [e]
    exact wpAny_pure q
  refine wpAny_bind (ap ?_)
  have hno : ¬ ((((its.size : Int) - 1) == 0 && (-1 : Int) == 1 && its.size == its.size) = true) := fun q => by
    rw [Bool.and_eq_true, Bool.and_eq_true] at q
    exact absurd q.1.2 (by decide)
  show wpAny _ _ (if (((its.size : Int) - 1) == 0 && (-1 : Int) == 1 && its.size == its.size) = true then _ else _) _ _ s
  rw [if_neg hno, pick_back]
  first
    | exact wpAny_bind (m := Builtin.Tuple.tupleExact _) (wpAny_newObj_type (wpAny_pure ⟨_, rfl, wpAny_pure h⟩) fits)
    | exact wpAny_bind (wpAny_bind (m := Builtin.Tuple.tupleExact _) (wpAny_newObj_type (wpAny_pure (wpAny_pure ⟨_, rfl, wpAny_pure h⟩)) fits))
    | exact wpAny_bind (wpAny_bind (m := Builtin.Tuple.tupleExact _) (wpAny_newObj_type (wpAny_pure ⟨_, rfl, wpAny_pure h⟩) fits))
end
section
variable {X : Cx}
def tRevT (K : PySem.W.Frag) (te : TE) : TE := fun σ H Q => te σ H fun x H1 => ∃ a xs, x = .ref a ∧ SqT K H1 a xs ∧ ∀ p, Fr H1 p → Q (.ref p) (upd H1 p (.tup xs.reverse))
theorem pe_revT {K : PySem.W.Frag} (hK : X.K = K) {e : Expr} {te : TE} {k : Nat} {p1 p2 p3 pos : Pos} (he : PE X e te) : PE X (.Subscript e (.Slice none none (some (.UnaryOp .USub (.Constant (.int 1) k p1) p2)) p3) pos) (tRevT K te) := by
  subst hK
  refine ⟨fun pins s σ G Q I h => Subscript_ (thn (he.run pins s σ G _ I h) fun v s1 ⟨x, G1, I1, r1, a, xs, ex, hx, q⟩ => ?_)⟩
  subst ex
  cases r1
  have hst : PO X (some (.UnaryOp .USub (.Constant (.int 1) k p1) p2)) (tPart (tUn (rU fun i => .int (-i)) (tC (.int 1)))) := po_some (pe_un L2.un_neg pe_int)
  refine wpAny_Slice (thn (po_none.run pins s1 σ G1 (fun o G2 => o = none ∧ G2 = G1) I1 ⟨rfl, rfl⟩) fun vl s2 ⟨l, G2, I2, pl, el, eg2⟩ => ?_)
  subst el eg2
  refine thn (po_none.run pins s2 σ G2 (fun o G3 => o = none ∧ G3 = G2) I2 ⟨rfl, rfl⟩) fun vu s3 ⟨u, G3, I3, pu, eu, eg3⟩ => ?_
  subst eu eg3
  refine thn (hst.run pins s3 σ G3 (fun o G4 => o = some (-1) ∧ G4 = G3) I3 ⟨1, rfl, -1, rfl, rfl, rfl⟩) fun vs s4 ⟨o, G4, I4, ps, eo, eg4⟩ => ?_
  subst eo eg4
  have I5 : Inv X pins σ G4 { s4 with heap := s4.heap.push { cls := .type "slice", data := .fields #[vl, vu, vs] } } := I4.kept (t' := s4.toks) fun b ob q => Heap.get?_push_of_some _ q
  obtain ⟨its, r, ht, hz⟩ := I5.tuple hx
  have hlen := r.length
  refine tail_any (ops := [.ref a, .ref s4.heap.objs.size]) ht.typeIs PyProof.Rows.slot_tuple_getitem.lookup ?_ (by with_unfolding_all rfl)
  refine tuple_back ht (Heap.IsSliceOf.new _ vl vu vs) pl pu ps ?_ (by rw [List.size_toArray]; omega)
  refine ⟨.ref _, _, I5.laid (t' := s4.toks) (o := .tup xs.reverse) (fun b ob q => Heap.get?_push_of_some _ q) (Nat.le_refl _) ?_, rfl, q _ (I5.hok.fresh (Nat.le_refl _))⟩
  exact ⟨by rw [List.length_reverse]; exact hz, _, r.reverse, IsTup.new _ _⟩
theorem revL {K : PySem.W.Frag} (hK : X.K = K) {e : Expr} {te : TE} {k : Nat} {p1 p2 p3 pos : Pos} (he : PE X e te) : PE X (.Subscript e (.Slice none none (some (.UnaryOp .USub (.Constant (.int 1) k p1) p2)) p3) pos) (tRevL K te) := hK ▸ pe_revL he
theorem catA {K : PySem.W.Frag} (hK : X.K = K) : OpR X (binaryOp .Add) (rCatA K) := hK ▸ op_catA
end
def dRevT (K : PySem.W.Frag) (Q : VK) : VK := fun x H1 => ∃ a xs, x = .ref a ∧ SqT K H1 a xs ∧ ∀ p, Fr H1 p → Q (.ref p) (upd H1 p (.tup xs.reverse))
def dRevL (K : PySem.W.Frag) (Q : VK) : VK := fun x H1 => ∃ a xs, x = .ref a ∧ SqL K H1 a xs ∧ ∀ p, H1 p = none → Q (.ref p) (upd H1 p (.lst xs.reverse))
section
variable {K : PySem.W.Frag} {σ : L2.St} {H : Hp} {Q : VK} {te : TE} {a b : Addr} {ns ms : List Int} {xs ys : List V}
theorem w_revT (h : te σ H (dRevT K Q)) : tRevT K te σ H Q := h
theorem w_revL (h : te σ H (dRevL K Q)) : tRevL K te σ H Q := h
theorem w_dRevT (h : SqT K H a (ns.map V.int)) (q : ∀ p H2, Fr H p → Ex H H2 → At H2 p (.tup (ns.reverse.map V.int)) → Q (.ref p) H2) : dRevT K Q (.ref a) H := ⟨a, _, rfl, h, fun p hp => q p _ hp (Ex.new hp) (by rw [List.map_reverse]; exact at_upd)⟩
theorem w_dRevL (h : SqL K H a (ns.map V.int)) (q : ∀ p H2, Fr H p → Ex H H2 → At H2 p (.lst (ns.reverse.map V.int)) → Q (.ref p) H2) : dRevL K Q (.ref a) H := ⟨a, _, rfl, h, fun p hp => q p _ hp (Ex.new hp) (by rw [List.map_reverse]; exact at_upd)⟩
/-- t + u of tuples of ints -/
theorem w_catI (h1 : SqT K H a (ns.map V.int)) (h2 : SqT K H b (ms.map V.int)) (hz : ns.length + ms.length ≤ 16777216) (q : ∀ p H2, Ex H H2 → SqT K H2 p ((ns ++ ms).map V.int) → Q (.ref p) H2) : rCatA K (.ref a) (.ref b) H Q := by
  refine ⟨a, b, _, _, rfl, rfl, h1, h2, by rw [List.length_map, List.length_map]; exact hz, fun e => ?_, fun _ e => ?_, fun _ _ p hp => q p _ (Ex.new hp) (st_of (by rw [List.map_append]; exact at_upd))⟩
  · have : ns = [] := by simpa using e
    subst this
    exact q b H (Ex.refl H) h2
  · have : ms = [] := by simpa using e
    subst this
    rw [List.append_nil] at q
    exact q a H (Ex.refl H) h1
/-- any slice of a tuple of ints is one, and no longer -/
theorem w_slAny {lo hi : Option Int} (h : SqT K H a (ns.map V.int)) (q : ∀ p H2 (ms : List Int), Ex H H2 → ms.Sublist ns → SqT K H2 p (ms.map V.int) → Q (.ref p) H2) : rSlA K (.ref a) lo hi H Q := by
  refine ⟨a, _, rfl, h, fun hw => q a H ns (Ex.refl H) (List.Sublist.refl _) h, fun hw p hp => ?_⟩
  refine q p _ ((ns.drop (HT.sIx (ns.map V.int).length 0 lo)).take (HT.sIx (ns.map V.int).length (ns.map V.int).length hi - HT.sIx (ns.map V.int).length 0 lo)) (Ex.new hp) ((List.take_sublist _ _).trans (List.drop_sublist _ _)) (st_of ?_)
  show upd H p _ p = _
  rw [upd_same]
  unfold cutV
  rw [List.map_take, List.map_drop]
end
/-- ways that join with the slots as they were -/
theorem w_cutS {t u : TS} {D : Ends} {σ : L2.St} {H : Hp} (H0 : Hp) (h : t ⟨fun σ' G => σ' = σ ∧ Ex H0 G, D.rt, D.bk, D.ct⟩ σ H) (k : ∀ G, Ex H0 G → u D σ G) : C8.tCut t u D σ H :=
  w_cut _ h fun σ' G ⟨e1, e2⟩ => by subst e1; exact k G e2
/-- tuples stand behind an append -/
theorem Nl.t {K : PySem.W.Frag} {H H' : Hp} {a : Addr} {xs : List V} (e : Nl H H') (h : SqT K H a xs) : SqT K H' a xs := by
  rcases h with (h | ⟨o, h⟩) | h
  · exact .inl (.inl (e.get (fun l z => by cases z) h))
  · exact .inl (.inr ⟨o, e.get (fun l z => by cases z) h⟩)
  · exact .inr h
theorem tEN {K : PySem.W.Frag} {H H' : Hp} {a : Addr} {xs : List V} (h : SqT K H a xs) (e : Nls H H') : SqT K H' a xs := e.nl.t h
/-- t[-1:] of a tuple of ints that is not empty -/
theorem w_slBack {K : PySem.W.Frag} {H : Hp} {Q : VK} {a : Addr} {ns : List Int} (h : SqT K H a (ns.map V.int)) (h0 : 0 < ns.length) (q : ∀ p H2, Ex H H2 → SqT K H2 p ((ns.drop (ns.length - 1)).map V.int) → Q (.ref p) H2) : rSlA K (.ref a) (some (-1)) none H Q := by
  have e : HT.sIx (ns.map V.int).length 0 (some (-1)) = ns.length - 1 := by
    rw [List.length_map]
    unfold HT.sIx
    simp
    omega
  refine ⟨a, _, rfl, h, fun hw => ?_, fun hw p hp => q p _ (Ex.new hp) (st_of ?_)⟩
  · have := hw.1
    rw [e] at this
    refine q a H (Ex.refl H) ?_
    rw [this, List.drop_zero]
    exact h
  · show upd H p _ p = _
    rw [upd_same]
    unfold cutV
    rw [e, HT.sIx_none, List.length_map, List.take_of_length_le (by rw [List.length_drop, List.length_map]; exact Nat.le_refl _), List.map_drop]
/-- xs.pop() of ints -/
theorem w_pop0 {H : Hp} {Q : VK} {a : Addr} {ns : List Int} (h : At H a (.lst (ns.map V.int))) (h0 : 0 < ns.length) (q : ∀ H2, At H2 a (.lst (ns.dropLast.map V.int)) → Nl H H2 → (∀ H0, Ex H0 H → Fr H0 a → Ex H0 H2) → (∀ b o, b ≠ a → At H b o → At H2 b o) → Q (.int (ns.getD (ns.length - 1) 0)) H2) : rPop (.ref a) [] H Q := by
  refine ⟨a, _, _, rfl, rfl, h, ?_, q _ ?_ (Nl.upd h) (fun H0 e n => Ex.mut e n) (fun b o hb e => by unfold At; rw [upd_ne hb]; exact e)⟩
  · rw [List.length_map, List.getElem?_map, List.getD_eq_getElem?_getD, List.getElem?_eq_getElem (by omega)]
    rfl
  · unfold At
    rw [upd_same, List.map_dropLast]
section
variable {K : PySem.W.Frag} {H : Hp} {Q : VK} {a b : Addr} {ns : List Int}
theorem w_eqLr (h1 : SqL K H a (ns.map V.int)) (h2 : SqL K H b (ns.map V.int)) (q : Q (.bl true) H) : rEqZ K (.ref a) (.ref b) H Q := w_eqLI h1 h2 (by rw [decide_eq_true rfl]; exact q)
theorem w_neLr (h1 : SqL K H a (ns.map V.int)) (h2 : SqL K H b (ns.map V.int)) (q : Q (.bl false) H) : rNeZ K (.ref a) (.ref b) H Q := w_neLI h1 h2 (by rw [decide_eq_true rfl]; exact q)
theorem w_eqTr (h1 : SqT K H a (ns.map V.int)) (h2 : SqT K H b (ns.map V.int)) (q : Q (.bl true) H) : rEqZ K (.ref a) (.ref b) H Q := w_eqTI h1 h2 (by rw [decide_eq_true rfl]; exact q)
theorem w_neTr (h1 : SqT K H a (ns.map V.int)) (h2 : SqT K H b (ns.map V.int)) (q : Q (.bl false) H) : rNeZ K (.ref a) (.ref b) H Q := w_neTI h1 h2 (by rw [decide_eq_true rfl]; exact q)
end
/-! ### slots as a written list -/
class SetsTo (σ : List (Option V)) (i : Nat) (v : Option V) (σ' : outParam (List (Option V))) : Prop where
  eq : σ.set i v = σ'
instance SetsTo.zero {x v : Option V} {r : List (Option V)} : SetsTo (x :: r) 0 v (v :: r) := ⟨rfl⟩
instance SetsTo.succ {x v : Option V} {r r' : List (Option V)} {i : Nat} [s : SetsTo r i v r'] : SetsTo (x :: r) (i + 1) v (x :: r') := ⟨by rw [← s.eq]; rfl⟩
theorem w_gnS {i : Nat} {v : V} {σ σ' : L2.St} {H : Hp} {R : L2.St → Hp → Prop} [s : SetsTo σ i (some v) σ'] (h : R σ' H) : gName i v σ H R := by
  have e := s.eq
  show R (σ.set i (some v)) H
  rw [e]
  exact h
end Z
namespace Z
open PySem L2 PySem.Spec PyProof.Rows
/-! ### for x in a list or a tuple -/
def SqA (K : PySem.W.Frag) (H : Hp) (a : Addr) (xs : List V) : Prop := SqL K H a xs ∨ SqT K H a xs
def dA (K : PySem.W.Frag) (R : It → Hp → Prop) : VK := fun x H1 => ∃ a, x = .ref a ∧ (((∃ xs, SqL K H1 a xs) ∧ R (Itl K a) H1) ∨ ((∃ xs, SqT K H1 a xs) ∧ R (Itt K a) H1))
def iAny (K : PySem.W.Frag) (tl : TE) : TI := fun σ H R => tl σ H (dA K R)
theorem piA {X : Cx} {K : PySem.W.Frag} (hK : X.K = K) {tg l : Expr} {tl : TE} (hl : PE X l tl) : PI X tg l (iAny K tl) := by
  subst hK
  constructor
  intro pins s σ H R I h
  refine thn (hl.run pins s σ H _ I h) ?_
  rintro v s1 ⟨x, H1, I1, r1, a, rfl, q1⟩
  cases r1
  have new : ∀ b ∈ [s1.heap.objs.size], FpOk X pins H1 b := fun b hb => by
    rw [List.mem_singleton.mp hb]
    exact I1.fpOk (Nat.le_refl _) (I1.hok.fresh (Nat.le_refl _))
  rcases q1 with ⟨⟨xs, hq⟩, q⟩ | ⟨⟨xs, hq⟩, q⟩
  · obtain ⟨its, rv, p, hz⟩ := I1.list hq
    exact wpAny_pyIter_list p.isList ⟨_, [s1.heap.objs.size], _, _, H1, rfl, I1.kept (t' := s1.toks) fun b o e => Heap.get?_push_of_some _ e, turn_list a _, ⟨_, Heap.get?_push_size _ rfl, rfl, rfl⟩, new, q⟩
  · obtain ⟨its, rv, p, hz⟩ := I1.tuple hq
    exact wpAny_pyIter_tuple (show s1.heap.IsTuple a its.toArray from p) ⟨_, [s1.heap.objs.size], _, _, H1, rfl, I1.kept (t' := s1.toks) fun b o e => Heap.get?_push_of_some _ e, turn_tuple a _, ⟨_, Heap.get?_push_size _ rfl, rfl, rfl⟩, new, q⟩
section
variable {K : PySem.W.Frag} {σ : L2.St} {H H' : Hp} {Q : VK} {te : TE} {a : Addr} {xs : List V} {R : It → Hp → Prop}
theorem w_iA (h : te σ H (dA K R)) : iAny K te σ H R := h
theorem Ex.sa (e : Ex H H') (h : SqA K H a xs) : SqA K H' a xs := h.imp e.l e.t
theorem aE (h : SqA K H a xs) (e : Exs H H') : SqA K H' a xs := e.ex.sa h
theorem i_A (h : SqA K H a xs) (k : ∀ J, Src J (fun H' => SqA K H' a xs ∧ (SqL K H a xs → SqL K H' a xs) ∧ (SqT K H a xs → SqT K H' a xs)) xs.length (fun i x _ => xs[i]? = some x) → R J H) : dA K R (.ref a) H := by
  refine ⟨a, rfl, ?_⟩
  rcases h with h | h
  · refine .inl ⟨⟨xs, h⟩, k _ ⟨fun i H' hp hi => ⟨xs, xs[i], hp.2.1 h, List.getElem?_eq_getElem hi⟩, fun H' hp => ⟨xs, hp.2.1 h, Nat.le_refl _⟩, fun i H' x H'' hp hi hy => ?_⟩⟩
    obtain ⟨e, f⟩ := hy
    exact ⟨by rw [e]; exact Ex.refl _, f xs (hp.2.1 h)⟩
  · refine .inr ⟨⟨xs, h⟩, k _ ⟨fun i H' hp hi => ⟨xs, xs[i], hp.2.2 h, List.getElem?_eq_getElem hi⟩, fun H' hp => ⟨xs, hp.2.2 h, Nat.le_refl _⟩, fun i H' x H'' hp hi hy => ?_⟩⟩
    obtain ⟨e, f⟩ := hy
    exact ⟨by rw [e]; exact Ex.refl _, f xs (hp.2.2 h)⟩
theorem aOk (h : SqA K H a xs) (e : Ex H H') : SqA K H' a xs ∧ (SqL K H a xs → SqL K H' a xs) ∧ (SqT K H a xs → SqT K H' a xs) := ⟨e.sa h, e.l, e.t⟩
end
end Z
namespace Z
open PySem L2 PySem.Spec PyProof.Rows
/-! ### == of lists and tuples of flat values -/
def flD : V → Option PyData
  | .non => some .none
  | .bl b => some (.bool b)
  | .int i => some (.int i)
  | .str x => some (.str x)
  | _ => none
def okV : V → Bool
  | .str x => PyData.strOk x
  | _ => true
def okVs : List V → Bool
  | [] => true
  | v :: r => okV v && okVs r
def fls : List V → Option (List PyData)
  | [] => some []
  | v :: r => match flD v, fls r with
    | some d, some ds => some (d :: ds)
    | _, _ => none
theorem fls_cons {v : V} {r : List V} {es : List PyData} (h : fls (v :: r) = some es) : ∃ d ds, flD v = some d ∧ fls r = some ds ∧ es = d :: ds := by
  unfold fls at h
  split at h
  · rename_i d ds h1 h2
    exact ⟨d, ds, h1, h2, (Option.some.inj h).symm⟩
  · cases h
theorem flD_dp {K : PySem.W.Frag} {H : Hp} {v : V} {d : PyData} (h : flD v = some d) : Dp K H v d := by
  cases v <;> simp only [flD, reduceCtorEq, Option.some.injEq] at h <;> subst h <;> constructor
theorem fls_dp {K : PySem.W.Frag} {H : Hp} : ∀ {xs : List V} {ds : List PyData}, fls xs = some ds → DpAll K H xs ds
  | [], ds, h => by cases h; exact .nil
  | v :: r, es, h => by
    obtain ⟨d, ds, h1, h2, rfl⟩ := fls_cons h
    exact .cons (flD_dp h1) (fls_dp h2)
theorem flD_can {v : V} {d : PyData} (h : flD v = some d) (o : okV v = true) : d.canLay0 = true ∧ d.depth = 0 ∧ PyData.eqv d d = true := by
  cases v <;> simp only [flD, reduceCtorEq, Option.some.injEq] at h <;> subst h <;> first | (simp [PyData.canLay0, PyData.depth, PyData.eqv]; done) | (simp only [okV] at o; simp [PyData.canLay0, PyData.depth, PyData.eqv, o])
theorem fls_can : ∀ {xs : List V} {ds : List PyData}, fls xs = some ds → okVs xs = true → PyData.canLayAll0 ds = true ∧ PyData.depthAll ds = 0 ∧ PyData.eqvAll ds ds = true
  | [], ds, h, _ => by cases h; simp [PyData.canLayAll0, PyData.depthAll, PyData.eqvAll]
  | v :: r, es, h, o => by
    obtain ⟨d, ds, h1, h2, rfl⟩ := fls_cons h
    obtain ⟨o1, o2⟩ := Bool.and_eq_true_iff.mp (show (okV v && okVs r) = true from o)
    obtain ⟨a1, a2, a3⟩ := flD_can h1 o1
    obtain ⟨b1, b2, b3⟩ := fls_can h2 o2
    simp [PyData.canLayAll0, PyData.depthAll, PyData.eqvAll, a1, a2, a3, b1, b2, b3]
theorem fls_shL {xs : List V} {ds : List PyData} (h : fls xs = some ds) (o : okVs xs = true) : SeqAt.shaped (.list ds) = true := by
  obtain ⟨b1, b2, b3⟩ := fls_can h o
  simp [SeqAt.shaped, PyData.canLay0, PyData.depth, b1, b2]
theorem fls_shT {xs : List V} {ds : List PyData} (h : fls xs = some ds) (o : okVs xs = true) : SeqAt.shaped (.tuple ds) = true := by
  obtain ⟨b1, b2, b3⟩ := fls_can h o
  simp [SeqAt.shaped, PyData.canLay0, PyData.depth, b1, b2]
section
variable {K : PySem.W.Frag} {H : Hp} {Q : VK} {a b : Addr} {xs ys : List V} {ds es : List PyData}
theorem w_eqLF (h1 : SqL K H a xs) (h2 : SqL K H b ys) (e1 : fls xs = some ds) (e2 : fls ys = some es) (o1 : okVs xs = true) (o2 : okVs ys = true) (q : Q (.bl (PyData.eqvAll ds es)) H) : rEqZ K (.ref a) (.ref b) H Q := .inr ⟨_, _, .lst h1 (fls_dp e1), .lst h2 (fls_dp e2), fls_shL e1 o1, fls_shL e2 o2, by unfold PyData.eqv; exact q⟩
theorem w_neLF (h1 : SqL K H a xs) (h2 : SqL K H b ys) (e1 : fls xs = some ds) (e2 : fls ys = some es) (o1 : okVs xs = true) (o2 : okVs ys = true) (q : Q (.bl (!PyData.eqvAll ds es)) H) : rNeZ K (.ref a) (.ref b) H Q := .inr ⟨_, _, .lst h1 (fls_dp e1), .lst h2 (fls_dp e2), fls_shL e1 o1, fls_shL e2 o2, by unfold PyData.eqv; exact q⟩
theorem w_eqTF (h1 : SqT K H a xs) (h2 : SqT K H b ys) (e1 : fls xs = some ds) (e2 : fls ys = some es) (o1 : okVs xs = true) (o2 : okVs ys = true) (q : Q (.bl (PyData.eqvAll ds es)) H) : rEqZ K (.ref a) (.ref b) H Q := .inr ⟨_, _, .tup h1 (fls_dp e1), .tup h2 (fls_dp e2), fls_shT e1 o1, fls_shT e2 o2, by unfold PyData.eqv; exact q⟩
theorem w_neTF (h1 : SqT K H a xs) (h2 : SqT K H b ys) (e1 : fls xs = some ds) (e2 : fls ys = some es) (o1 : okVs xs = true) (o2 : okVs ys = true) (q : Q (.bl (!PyData.eqvAll ds es)) H) : rNeZ K (.ref a) (.ref b) H Q := .inr ⟨_, _, .tup h1 (fls_dp e1), .tup h2 (fls_dp e2), fls_shT e1 o1, fls_shT e2 o2, by unfold PyData.eqv; exact q⟩
theorem w_eqLFr (h1 : SqL K H a xs) (h2 : SqL K H b xs) (e1 : fls xs = some ds) (o1 : okVs xs = true) (q : Q (.bl true) H) : rEqZ K (.ref a) (.ref b) H Q := w_eqLF h1 h2 e1 e1 o1 o1 (by rw [(fls_can e1 o1).2.2]; exact q)
theorem w_neLFr (h1 : SqL K H a xs) (h2 : SqL K H b xs) (e1 : fls xs = some ds) (o1 : okVs xs = true) (q : Q (.bl false) H) : rNeZ K (.ref a) (.ref b) H Q := w_neLF h1 h2 e1 e1 o1 o1 (by rw [(fls_can e1 o1).2.2]; exact q)
theorem w_eqTFr (h1 : SqT K H a xs) (h2 : SqT K H b xs) (e1 : fls xs = some ds) (o1 : okVs xs = true) (q : Q (.bl true) H) : rEqZ K (.ref a) (.ref b) H Q := w_eqTF h1 h2 e1 e1 o1 o1 (by rw [(fls_can e1 o1).2.2]; exact q)
theorem w_neTFr (h1 : SqT K H a xs) (h2 : SqT K H b xs) (e1 : fls xs = some ds) (o1 : okVs xs = true) (q : Q (.bl false) H) : rNeZ K (.ref a) (.ref b) H Q := w_neTF h1 h2 e1 e1 o1 o1 (by rw [(fls_can e1 o1).2.2]; exact q)
end
example (i : Int) : okVs [.str "prices", .int i, .non] = true := by kernel_rfl
end Z
namespace Z
open PySem L2 PySem.Spec PyProof.Rows
/-! ### C(e, .., k = v, ..): keyword-only parameters without defaults -/
theorem kb_of {K : PySem.W.Frag} {x qual : Str} {params : Arguments} {body : List Stmt} {scope : Scope} {kws : List (Str × V)} {f : Addr} {fd : FuncData} {ps ks : List Str} {n : Nat} (F : FunD K x qual params body scope [] kws f fd)
    (h : ∀ (kV doc pm : Value) (an : Option Addr) (cdv ct : Value) (us ws : List Value), us.length = n → ws.length = ks.length → bindArgs (PySem.W.fnOf x qual params body scope .none kV doc pm an cdv ct) ⟨us, ks.zip ws⟩ = pure (ps.zip (us ++ ws))) : KBn K fd ps n ks (fun us ws => us ++ ws) (fun vs zs => vs ++ zs) := by
  obtain ⟨oc, od, dV, kV, doc, pm, an, cdv, ct, osl, rfl, lk, hcd, hD, hK⟩ := F.ex
  rcases hD with ⟨_, rfl⟩ | ⟨e, _⟩
  · exact ⟨fun s us ws _ l1 l2 => .of_eq (h kV doc pm an cdv ct us ws l1 l2), fun r1 r2 => r1.append r2⟩
  · exact absurd rfl e
section
variable {X : Cx} {CX : CXT} {k n : Nat} {f C : Addr} {fd : FuncData} {ps ks : List Str} {sp : Sp} {E : L2.St → XK} {x : Str} {p pos : Pos} {e : Expr} {es : List Expr} {kws : List Keyword} {t tk : TA} {g : List Value → List Value → List Value} {gV : List V → List V → List V}
theorem run_makeKZ {pins : List (Addr × Obj)} {σ : L2.St} {G : Hp} {s : Shared} {Q : VK} {us ws : List Value} {vs zs : List V} (M : Mk X.K C f) (F : FnOk X.prog X.w X.K X.mg X.base CX k f fd ps sp) (hr : Room (k + 1) X.A) (hb : KBn X.K fd ps (n + 1) ks g gV) (hx : PassesAt CX X σ (E σ)) (I : Inv X pins σ G s) (r : Vals vs us) (rz : Vals zs ws) (l1 : vs.length = n) (l2 : zs.length = ks.length)
    (h : ∀ x dx, G x = none → G dx = none → dx ≠ x → sp (gV (.ref x :: vs) zs) (upd (upd G dx (.own x)) x (.ins C dx [])) (fun v H2 => v = .non ∧ Q (.ref x) H2) (E σ)) : wpAny (model X.prog X.w) X.A (call (.ref C) us (ks.zip ws)) (EP X pins σ Q) X.xe s := by
  have J := Inv.made (C := C) I
  have w2 := hb.rel (show Vals (V.ref (s.heap.objs.size + 1) :: vs) (Value.ref (s.heap.objs.size + 1) :: us) from .cons rfl r) rz
  have n1 : (Value.ref (s.heap.objs.size + 1) :: us).length = n + 1 := by rw [List.length_cons, ← r.length, l1]
  have hq := h (s.heap.objs.size + 1) s.heap.objs.size (I.hok.fresh (Nat.le_succ _)) (I.hok.fresh (Nat.le_refl _)) (Nat.ne_of_lt (Nat.lt_succ_self _))
  have hB := hb.to _ (Value.ref (s.heap.objs.size + 1) :: us) ws J.kIn n1 (rz.length.symm.trans l2)
  refine wpAny_call (make_map (f := f) I.kIn M.makes M.init (beq_iff_eq.mp M.fn) (codeAny_mono (F.run _ X.stack _ _ _ _ _ _ (E σ) (hr.make C us (ks.zip ws)) (J.env0.make C us (ks.zip ws)) hB w2 hq) fun r s' z => ?_))
  match r, z with
  | .error e, z => exact hx pins _ _ e s' J z
  | .ok (.ret u), z =>
    obtain ⟨v, H', I3, rv, ev, q3⟩ := J.after z
    subst ev
    exact ⟨rv, V.ref (s.heap.objs.size + 1), H', I3, rfl, q3⟩
  | .ok .next, z => exact z.elim
  | .ok .brk, z => exact z.elim
  | .ok .cont, z => exact z.elim
def tMakeKZ (C : Addr) (n m : Nat) (sp : Sp) (gV : List V → List V → List V) (E : L2.St → XK) (t tk : TA) : TE := fun σ H Q => tMakeK C n m sp gV (E σ) t tk σ H Q
theorem pe_makeKZ (M : Mk X.K C f) (F : FnOk X.prog X.w X.K X.mg X.base CX k f fd ps sp) (hr : Room (k + 1) X.A) (hg : Gl X x) (hm : X.mg x = some (.ref C)) (hb : KBn X.K fd ps (n + 1) ks g gV) (hx : ∀ σ, PassesAt CX X σ (E σ)) (ha : PA X (e :: es) t) (hkw : PK X kws tk)
    (hall : (backToKw pos (keywordEach kws X.env)).all (·.1.isSome) = true := by rfl) (hks : (backToKw pos (keywordEach kws X.env)).filterMap (·.1) = ks := by rfl) (hdb : (x == ("__debug__" : Str)) = false := by decide)
    (he : starEach (e :: es) X.env = (false, eval e X.env) :: starEach es X.env := by rfl) (hpl : ((backTo pos (starEach (e :: es) X.env)).any (·.1) || (backToKw pos (keywordEach kws X.env)).any (·.1.isNone)) = false := by rfl) :
    PE X (.Call (.Name x p) (e :: es) kws pos) (tMakeKZ C n ks.length sp gV E t tk) := by
  constructor
  intro pins s σ G Q I h
  have go : ∀ us s1, (∃ vs H1, Inv X pins σ H1 s1 ∧ Vals vs us ∧ tk σ H1 fun zs H2 => vs.length = n ∧ zs.length = ks.length ∧ ∀ x dx, H2 x = none → H2 dx = none → dx ≠ x → sp (gV (.ref x :: vs) zs) (upd (upd H2 dx (.own x)) x (.ins C dx [])) (fun v H3 => v = .non ∧ Q (.ref x) H3) (E σ)) →
      wpAny (model X.prog X.w) X.A (evalAll ((backToKw pos (keywordEach kws X.env)).map (·.2))) (fun ws s2 => X.K.In s2.heap ∧ wpAny (model X.prog X.w) X.A (call (.ref C) us (((backToKw pos (keywordEach kws X.env)).filterMap (·.1)).zip ws)) (EP X pins σ Q) X.xe s2) X.xe s1 := by
    rintro us s1 ⟨vs, H1, I1, r, q⟩
    refine thn (hkw.run pos pins s1 σ H1 _ I1 q) ?_
    rintro ws s2 ⟨zs, H2, I2, rz, l1, l2, q2⟩
    refine ⟨I2.kIn, ?_⟩
    rw [hks]
    exact run_makeKZ M F hr hb (hx σ) I2 r rz l1 l2 q2
  exact wpAny_Call_Name_kw (ld_glob I hg hm (PySem.W.callWith_KW (h₀ := X.base) I.ok.mod.kin M.kp hall (thn (ha.run pos pins s σ G _ I h) go) hpl he) hdb)
end
section
variable {K : PySem.W.Frag} {σ : L2.St} {H : Hp} {Q : VK} {C : Addr} {n m : Nat} {sp : Sp} {t tk : TA} {i : Int} {z : Str} {b : Bool}
theorem w_makeK {E : XK} (h : t σ H fun vs H1 => tk σ H1 fun zs H2 => vs.length = n ∧ zs.length = m ∧ dMk C sp [] E Q (vs ++ zs) H2) : tMakeK C n m sp (fun vs zs => vs ++ zs) E t tk σ H Q := by
  show t σ H fun vs H1 => tk σ H1 fun zs H2 => vs.length = n ∧ zs.length = m ∧ ∀ x dx, H2 x = none → H2 dx = none → dx ≠ x → sp ((.ref x :: vs) ++ zs) (upd (upd H2 dx (.own x)) x (.ins C dx [])) (fun v H3 => v = .non ∧ Q (.ref x) H3) E
  simp only [dMk, List.append_nil] at h
  exact h
theorem w_makeKZ {E : L2.St → XK} (h : t σ H fun vs H1 => tk σ H1 fun zs H2 => vs.length = n ∧ zs.length = m ∧ dMk C sp [] (E σ) Q (vs ++ zs) H2) : tMakeKZ C n m sp (fun vs zs => vs ++ zs) E t tk σ H Q := w_makeK h
theorem w_two {A B R : Prop} (h1 : A) (h2 : B) (h : R) : A ∧ B ∧ R := ⟨h1, h2, h⟩
theorem w_isiIS (q : Q (.bl false) H) : rIsi K [.int i, .ty "str"] H Q := w_isiB (.base (.int _)) (by decide +kernel) q
theorem w_isiSI (q : Q (.bl false) H) : rIsi K [.str z, .ty "int"] H Q := w_isiB (.base (.str _)) (by decide +kernel) q
end
end Z
namespace Z
open PySem L2 PySem.Spec PyProof.Rows
open AutoSeq1 (wpAny_loadPart')
/-! ### enumerate of a tuple -/
theorem meets_enumT (t : Addr) (its : Array Value) (n : Nat) (dct : Option Addr) (sl : Array (Option Value)) :
    Meets (Builtin.«enumerate.__new__» ⟨[.type "enumerate", .ref t], []⟩) (fun _ R s => s.heap.get? t = some { cls := .type "tuple", dict := dct, data := .seq its n, slots := sl } ∧
      R (.ok (.ret (.ref (s.heap.push { cls := .type "tuple_iterator", data := .fields #[.ref t, .int 0 0] }).objs.size)))
        { s with heap := (s.heap.push { cls := .type "tuple_iterator", data := .fields #[.ref t, .int 0 0] }).push { cls := .type "enumerate", data := .fields #[.none, .bool false, .ref s.heap.objs.size, rawInt 0, .none, .none] } }) :=
  .of_wp fun prog w A R s h => by
    obtain ⟨hp, g, d, tk, os⟩ := s
    obtain ⟨ht, h⟩ := h
    have hsub := sub_enumerate
    have hT : Heap.IsTuple (Shared.heap ⟨hp, g, d, tk, os⟩) t its := ⟨_, ht, rfl, n, rfl⟩
    wp_walk using wpAny_loadPart' ht
    refine wpAny_stack_any fun st => wpAny_pure ?_
    split
    · rename_i c _ _ _ _ _
      cases (c == Value.type "enumerate") <;> (wp_walk using wpAny_loadPart' ht, wpAny_pyIter_tuple hT; exact ⟨_, rfl, h⟩)
    · wp_walk using wpAny_loadPart' ht, wpAny_pyIter_tuple hT
      exact ⟨_, rfl, h⟩
theorem call_enumT {prog : Program} {w : World} {A : Around} {E : Value → Shared → Prop} {s : Shared} {t : Addr} {its : Array Value} {Q : Value → Shared → Prop} (hT : s.heap.IsTuple t its)
    (h : ∀ h', IsEnum h' (s.heap.objs.size + 1) s.heap.objs.size 0 .none → h'.IsTupleIter s.heap.objs.size t 0 → (∀ b o, s.heap.get? b = some o → h'.get? b = some o) → Q (.ref (s.heap.objs.size + 1)) { s with heap := h' }) :
    wpAny (model prog w) A (call (.type "enumerate") [.ref t]) Q E s := by
  obtain ⟨⟨c, dct, dt, sl⟩, hl, hc, n, hd⟩ := hT
  cases (show c = .type "tuple" from hc)
  cases (show dt = .seq its n from hd)
  refine callType_new F.called_enumerate (by decide) (F.typeCall_enumerate_1 _) (F.newCall_enumerate_1 _) (fun obj => F.args_object_init_2 obj _) F.entry_enumerate_new (meets_enumT t its n dct sl) ⟨hl, ?_⟩
  have hz : (s.heap.push { cls := .type "tuple_iterator", data := .fields #[.ref t, .int 0 0] }).objs.size = s.heap.objs.size + 1 := Heap.size_push ..
  have he : IsEnum ((s.heap.push { cls := .type "tuple_iterator", data := .fields #[.ref t, .int 0 0] }).push { cls := .type "enumerate", data := .fields #[.none, .bool false, .ref s.heap.objs.size, rawInt 0, .none, .none] }) (s.heap.objs.size + 1) s.heap.objs.size 0 .none := by
    rw [← hz]
    exact Heap.get?_push_size _ rfl
  show _ ∧ _
  rw [hz]
  exact ⟨⟨_, he, rfl⟩, h _ he ⟨_, Heap.get?_push_of_some _ (Heap.get?_push_size _ rfl), rfl, rfl⟩ fun b o x => Heap.get?_push_of_some _ (Heap.get?_push_of_some _ x)⟩
theorem enum_endT {prog : Program} {w : World} {A : Around} {E : Value → Shared → Prop} {s : Shared} {e it t : Addr} {j : Nat} {k : Int} {old : Value} {its : Array Value} {Q : Option Value → Shared → Prop} (hh : A.handled = none) (he : IsEnum s.heap e it k old) (hit : s.heap.IsTupleIter it t j) (ht : s.heap.IsTuple t its) (hx : its[j]? = none)
    (hQ : ∀ h', Heap.ExtBut it s.heap h' → Q none { s with heap := h' }) : wpAny (model prog w) A (pyNext (.ref e)) Q E s := by
  have ty : s.TypeIs (.ref e) "enumerate" := ⟨_, he, rfl⟩
  have body : ∀ {A' : Around} {R : PySem.Fin → Shared → Prop} {E' : Value → Shared → Prop}, A'.handled = none → (∀ h' x, Heap.ExtBut it s.heap h' → (∃ o, h'.get? x = some o ∧ o.cls = .type "StopIteration") → E' (.ref x) { s with heap := h' }) → wpAny (model prog w) A' (Builtin.«enumerate.__next__» ⟨[.ref e], []⟩) R E' s := fun {A' R E'} h0 hE => by
    show wpAny _ _ (field (.ref e) 2 >>= _) _ _ _
    exact wpAny_bind (wpAny_field he rfl (x := .ref it) rfl (wpAny_bind (wpAny_nextOf_tuple_end h0 hit ht hx hE)))
  unfold pyNext
  refine wpAny_bind (wpAny_attempt (wpAny_callSpecial?_slot (name := Str.ofString "__next__") ty F.slot_enumerate_next (wpAny_call_entry F.slot_enumerate_next ty F.entry_enumerate_next (body (by exact hh) ?_) (F.args_enumerate_next_1 _))))
  rintro h' x eb ⟨o, ho, hc⟩
  exact wpAny_bind (wpAny_isInstance (T := "StopIteration") (b := true) ⟨o, ho, hc⟩ isSubtype_stop (wpAny_pure (hQ _ eb)))
/-- the tuple at a, each item in a new pair -/
def IteT (K : PySem.W.Frag) (a : Addr) : It :=
  ⟨fun i H => ∃ (xs : List V) (x : V), SqT K H a xs ∧ xs[i]? = some x, fun i H v H' => ∃ T x, v = .ref T ∧ H T = none ∧ H' = upd H T (.tup [.int (i : Nat), x]) ∧ ∀ xs, SqT K H a xs → xs[i]? = some x, fun i H => ∃ xs : List V, SqT K H a xs ∧ xs.length ≤ i⟩
theorem turn_enumT {P : Program} {w : World} {K : PySem.W.Frag} {elts : List Expr} {kk : Nat} {tpos : Pos} (a e it : Addr) :
    Turn P w K (.Tuple elts kk tpos) (IteT K a) [e, it] e (fun i h => (∃ old, IsEnum h e it ((i : Nat) : Int) old) ∧ h.IsTupleIter it a i ∧ e ≠ it ∧ a ≠ it ∧ a ≠ e) where
  mem := List.mem_cons_self
  obj := by
    rintro i h ⟨⟨old, he⟩, ⟨o, ho, hc, hd⟩, _⟩ b hb
    rcases List.mem_cons.mp hb with rfl | hb
    · exact ⟨_, he, fun v q => nomatch q⟩
    · rw [List.mem_singleton.mp hb]
      exact ⟨o, ho, fun v q => by rw [hd] at q; cases q⟩
  keep := by
    rintro i h h' ⟨⟨old, he⟩, hi, hne⟩ k
    exact ⟨⟨old, k e List.mem_cons_self _ he⟩, hi.at fun o q => k it (by simp) o q, hne⟩
  item := by
    intro X hP hw hK hc i pins s σ H E I hf st hg
    subst hP hw hK
    obtain ⟨⟨old, he⟩, hit, hne, hai, hae⟩ := st
    obtain ⟨xs, x, hq, hx⟩ := hg
    obtain ⟨its, rv, p, hz⟩ := I.tuple hq
    obtain ⟨u, hu, ru⟩ := rv.get hx
    have hlt : i < its.toArray.size := by
      have := (List.getElem?_eq_some_iff.mp hu).1
      simpa using this
    have hel : e < s.heap.objs.size := Heap.lt_size he
    have hil : it < s.heap.objs.size := by obtain ⟨_, q, _⟩ := hit; exact Heap.lt_size q
    refine wpAny_pyNext_enum_itemD (Draws.tuple (A := X.A.in1) (I.ok.hd hc) it a hai its.toArray) he ⟨hit, p⟩ hlt hne (fun z => ?_) fun y h' tk hy ho hit' hT hsz hk => ?_
    · rcases List.mem_cons.mp z with z | z
      · exact hne z
      · exact hae (List.mem_singleton.mp z).symm
    have ey : y = u := by
      have h1 : its.toArray[i]? = some y := hy
      rw [List.getElem?_toArray, hu] at h1
      exact (Option.some.inj h1).symm
    subst ey
    refine ⟨_, rfl, wpAny_letOwnedTupleGo_enum (s := { s with heap := h', toks := tk + 1 }) ho fun h'' he' sb => ?_⟩
    have hT2 : h''.get? s.heap.objs.size = some { cls := .type "tuple", data := .seq #[.int i tk, y] } := (sb.2 _ (Nat.ne_of_gt hel)).trans hT
    have new : ObjOk X.prog X.w (upd H s.heap.objs.size (.tup [.int (i : Nat), x])) h'' s.heap.objs.size (.tup [.int (i : Nat), x]) := by
      refine ⟨?_, [.int i tk, y], .cons ⟨_, rfl⟩ (.cons ru .nil), ⟨_, hT2, rfl, _, rfl⟩⟩
      show 2 ≤ sizeLine
      decide
    have I1 : Inv X pins σ (upd H s.heap.objs.size (.tup [.int (i : Nat), x])) { s with heap := h'', toks := tk + 1 } :=
      I.turnedNew (ch := [e, it]) (fun b ob hb q => (sb.2 b (fun z => hb (by simp [z]))).trans (hk b ob (fun z => hb (by simp [z])) (fun z => hb (by simp [z])) q)) hf (Nat.le_refl _) new
    refine ⟨.ref s.heap.objs.size, _, I1, rfl, ⟨_, x, rfl, I.hok.fresh (Nat.le_refl _), rfl, fun ys hy => by rw [I.tuple_inj hy hq]; exact hx⟩, ⟨⟨y, ?_⟩, hit'.1.at fun o q => (sb.2 it (Ne.symm hne)).trans q, hne, hai, hae⟩, fun b hb => ?_⟩
    · rw [show ((i + 1 : Nat) : Int) = (i : Int) + 1 by omega]
      exact he'
    · have hb' : b < s.heap.objs.size := by
        rcases List.mem_cons.mp hb with z | z
        · rw [z]; exact hel
        · rw [List.mem_singleton.mp z]; exact hil
      rw [upd_ne (Nat.ne_of_lt hb')]
      exact (hf b hb).1
  done := by
    intro X hP hw hK hc i pins s σ H E I hf st hg
    subst hP hw hK
    obtain ⟨⟨old, he⟩, hit, hne, hai, hae⟩ := st
    obtain ⟨xs, hq, hx⟩ := hg
    obtain ⟨its, rv, p, hz⟩ := I.tuple hq
    obtain ⟨f0, f1, f2, f3, f4, f5⟩ := hf it (by simp)
    have hl := rv.length
    refine enum_endT (I.ok.hd hc) he hit p (by simp; omega) fun h' eb => ⟨rfl, I.turned (t' := s.toks) (fun b o hb q => eb b o hb q) f0 f1 f3 f4 f5⟩
  self := by
    rintro A i s Q E ⟨⟨_, he⟩, _⟩ h
    exact wpAny_pyIter_enum he h
/-- enumerate of a list or a tuple -/
def dEA (K : PySem.W.Frag) (R : It → Hp → Prop) : List V → Hp → Prop := fun vs H1 => ∃ a xs, vs = [.ref a] ∧ ((SqL K H1 a xs ∧ R (Ite K a) H1) ∨ (SqT K H1 a xs ∧ R (IteT K a) H1))
def iEnA (K : PySem.W.Frag) (ta : TA) : TI := fun σ H R => ta σ H (dEA K R)
theorem pi_enumA {X : Cx} {K : PySem.W.Frag} (hK : X.K = K) {e : Expr} {ta : TA} {p pos tpos : Pos} {elts : List Expr} {kk : Nat} (hg : Gl X "enumerate") (hm : X.mg "enumerate" = none) (ha : PA X [e] ta) (hs : starEach [e] X.env = [(false, eval e X.env)] := by rfl) :
    PI X (.Tuple elts kk tpos) (.Call (.Name "enumerate" p) [e] [] pos) (iEnA K ta) := by
  subst hK
  constructor
  intro pins s σ H R I h
  have go : ∀ us s1, (∃ vs H1, Inv X pins σ H1 s1 ∧ Vals vs us ∧ dEA X.K R vs H1) → wpAny (model X.prog X.w) X.A (call (.type "enumerate") us) (fun v s2 => wpAny (model X.prog X.w) X.A (pyIter v) (PIE X pins σ (.Tuple elts kk tpos) R) X.xe s2) X.xe s1 := by
    rintro us s1 ⟨vs, H1, I1, r1, a, xs, rfl, q⟩
    cases r1 with
    | cons r rr =>
      cases rr
      cases r
      have new : ∀ b ∈ [s1.heap.objs.size + 1, s1.heap.objs.size], FpOk X pins H1 b := fun b hb => by
        have hle : s1.heap.objs.size ≤ b := by
          rcases List.mem_cons.mp hb with z | z
          · omega
          · rw [List.mem_singleton.mp z]; exact Nat.le_refl _
        exact I1.fpOk hle (I1.hok.fresh hle)
      rcases q with ⟨hq, q⟩ | ⟨hq, q⟩
      · obtain ⟨its, rv, p', hz⟩ := I1.list hq
        exact call_enumerate_list p'.isList fun h' he hit hsz hk => wpAny_pyIter_enum he ⟨s1.heap.objs.size + 1, _, _, _, H1, rfl, I1.kept (t' := s1.toks) hk, turn_enum a (s1.heap.objs.size + 1) s1.heap.objs.size, ⟨⟨.none, he⟩, hit, Nat.succ_ne_self _⟩, new, q⟩
      · obtain ⟨its, rv, p', hz⟩ := I1.tuple hq
        have hlt : a < s1.heap.objs.size := by obtain ⟨o, ho, _⟩ := (show s1.heap.IsTuple a its.toArray from p'); exact Heap.lt_size ho
        exact call_enumT (show s1.heap.IsTuple a its.toArray from p') fun h' he hit hk => wpAny_pyIter_enum he ⟨s1.heap.objs.size + 1, _, _, _, H1, rfl, I1.kept (t' := s1.toks) hk, turn_enumT a (s1.heap.objs.size + 1) s1.heap.objs.size, ⟨⟨.none, he⟩, hit, Nat.succ_ne_self _, Nat.ne_of_lt hlt, Nat.ne_of_lt (Nat.lt_succ_of_lt hlt)⟩, new, q⟩
  exact Call_ (ld_blt I hg hm boot_enumerate (PyProof.Rows.callWith_type1 (thn (ha.run pos pins s σ H _ I h) go) hs rfl))
section
variable {K : PySem.W.Frag} {σ : L2.St} {H H' : Hp} {a : Addr} {xs : List V} {R : It → Hp → Prop} {ta : TA}
theorem w_iEA (h : ta σ H (dEA K R)) : iEnA K ta σ H R := h
theorem i_EA (h : SqA K H a xs) (k : ∀ J, Src J (fun H' => SqA K H' a xs ∧ (SqL K H a xs → SqL K H' a xs) ∧ (SqT K H a xs → SqT K H' a xs)) xs.length (fun i x H'' => ∃ T y, x = .ref T ∧ At H'' T (.tup [.int (i : Nat), y]) ∧ xs[i]? = some y) → R J H) : dEA K R [.ref a] H := by
  refine ⟨a, xs, rfl, ?_⟩
  rcases h with h | h
  · refine .inl ⟨h, k _ ⟨fun i H' hp hi => ⟨xs, xs[i], hp.2.1 h, List.getElem?_eq_getElem hi⟩, fun H' hp => ⟨xs, hp.2.1 h, Nat.le_refl _⟩, fun i H' x H'' hp hi hy => ?_⟩⟩
    obtain ⟨T, y, e1, e2, e3, f⟩ := hy
    exact ⟨by rw [e3]; exact Ex.new e2, T, y, e1, by rw [e3]; exact upd_same, f xs (hp.2.1 h)⟩
  · refine .inr ⟨h, k _ ⟨fun i H' hp hi => ⟨xs, xs[i], hp.2.2 h, List.getElem?_eq_getElem hi⟩, fun H' hp => ⟨xs, hp.2.2 h, Nat.le_refl _⟩, fun i H' x H'' hp hi hy => ?_⟩⟩
    obtain ⟨T, y, e1, e2, e3, f⟩ := hy
    exact ⟨by rw [e3]; exact Ex.new e2, T, y, e1, by rw [e3]; exact upd_same, f xs (hp.2.2 h)⟩
/-- slices of lists of anything -/
theorem w_slLVt {Q : VK} {i : Int} (h : SqL K H a xs) (h0 : 0 ≤ i) (q : ∀ p H2, Fr H p → Ex H H2 → At H2 p (.lst (xs.take i.toNat)) → Q (.ref p) H2) : rSlL K (.ref a) none (some i) H Q := w_slL h fun p H2 a b c => q p H2 a b (by rw [cut_to h0] at c; exact c)
theorem w_slLVf {Q : VK} {i : Int} (h : SqL K H a xs) (h0 : 0 ≤ i) (q : ∀ p H2, Fr H p → Ex H H2 → At H2 p (.lst (xs.drop i.toNat)) → Q (.ref p) H2) : rSlL K (.ref a) (some i) none H Q := w_slL h fun p H2 a b c => q p H2 a b (by rw [cut_from h0] at c; exact c)
end
/-! ### isinstance of a tuple, a list, None or a text with an own class -/
def kitBo (t : String) (y : Str) (K : PySem.W.Frag) : Bool := decide (PySem.W.kitOne K (.type t) (.ref (He.ga K y)) = some false)
theorem kitBo_ok {K : PySem.W.Frag} {t : String} {y : Str} (h : kitBo t y K = true) : PySem.W.kitOne K (.type t) (.ref (He.ga K y)) = some false := of_decide_eq_true h
theorem w_isiTC {K : PySem.W.Frag} {H : Hp} {Q : VK} {a C : Addr} {xs : List V} (ha : At H a (.tup xs)) (h : PySem.W.kitOne K (.type "tuple") (.ref C) = some false) (q : Q (.bl false) H) : rIsi K [.ref a, .ref C] H Q := ⟨_, _, .type "tuple", .ref C, false, rfl, .own C, .base (.tup ha), h, q⟩
theorem w_isiLC {K : PySem.W.Frag} {H : Hp} {Q : VK} {a C : Addr} {xs : List V} (ha : At H a (.lst xs)) (h : PySem.W.kitOne K (.type "list") (.ref C) = some false) (q : Q (.bl false) H) : rIsi K [.ref a, .ref C] H Q := ⟨_, _, .type "list", .ref C, false, rfl, .own C, .base (.lst ha), h, q⟩
end Z
namespace Z
open PySem L2
/-! ### // of great ints -/
/-- the model reckons i // j -/
def CDivZ (i j : Int) : Prop := 0 < j ∧ Builtin.divisionGoesByPylong i j = false
theorem CDivZ.of {i j : Int} (h : CDivW i j) : CDivZ i j := ⟨h.1, PyProof.noPylong_of_log2 h.2⟩
theorem cdivz {i j : Int} (h : 0 < j) (hi : i.natAbs < 2 ^ 13400) : CDivZ i j := by
  refine ⟨h, ?_⟩
  have h1 : i.natAbs.log2 < 13400 := PySem.Flt.log2_lt_of (by decide) hi
  have h2 : (if i == 0 then 0 else i.natAbs.log2 / 30 + 1) ≤ 447 := by
    split <;> omega
  show (decide ((if j == 0 then 0 else j.natAbs.log2 / 30 + 1) > 300) && decide ((if i == 0 then 0 else i.natAbs.log2 / 30 + 1) > (if j == 0 then 0 else j.natAbs.log2 / 30 + 1) + 150)) = false
  by_cases hj : (if j == 0 then 0 else j.natAbs.log2 / 30 + 1) > 300
  · rw [decide_eq_false (p := (if i == 0 then 0 else i.natAbs.log2 / 30 + 1) > (if j == 0 then 0 else j.natAbs.log2 / 30 + 1) + 150) (by omega), Bool.and_false]
  · rw [decide_eq_false hj, Bool.false_and]
theorem op_fdivP {X : Cx} : OpR X (binaryOp .FloorDiv) (rI CDivZ fun i j => .int (i / j)) := opI fun i j _ _ _ _ _ hc q => by
  have h1 : (0 : Int) < j := hc.1
  exact PyProof.Rows.floordiv_int (by omega) (by rw [Int.fdiv_eq_ediv_of_nonneg i (by omega)]; exact q) (.inl hc.2)
/-! ### a < b < c -/
section
variable {σ : L2.St} {H : Hp} {Q : VK} {ta tb tc : TE} {r r' : R2}
theorem w_chain (h : ta σ H fun x H1 => tb σ H1 fun y H2 => r x y H2 fun z H3 => ∃ k, z = .bl k ∧ (if k = true then tc σ H3 fun w' H4 => r' y w' H4 Q else Q (.bl false) H3)) : tChain r r' ta tb tc σ H Q := h
end
end Z
namespace Z
open PySem L2 PySem.Spec PyProof.Rows
/-! ### zip of two tuples, of two lists -/
theorem pi_zipA {X : Cx} {K : PySem.W.Frag} (hK : X.K = K) {e e2 : Expr} {ta : TA} {p pos tpos : Pos} {elts : List Expr} {kk : Nat} (hg : Gl X "zip") (hm : X.mg "zip" = none) (ha : PA X [e, e2] ta)
    (hs : starEach [e, e2] X.env = (false, eval e X.env) :: starEach [e2] X.env := by rfl) (hpl : (backTo pos (starEach [e2] X.env)).any (·.1) = false := by rfl) :
    PI X (.Tuple elts kk tpos) (.Call (.Name "zip" p) [e, e2] [] pos) (RZ.iZipA K ta) := hK ▸ RZ.pi_zipA hg hm ha hs hpl
def dZA (K : PySem.W.Frag) (R : It → Hp → Prop) : List V → Hp → Prop := fun vs H1 => ∃ a b xs ys, vs = [.ref a, .ref b] ∧ ((SqL K H1 a xs ∧ SqL K H1 b ys ∧ R (Itz K a b) H1) ∨ (SqT K H1 a xs ∧ SqT K H1 b ys ∧ R (RZ.ItzT K a b) H1))
section
variable {K : PySem.W.Frag} {σ : L2.St} {H H' : Hp} {a b : Addr} {xs ys : List V} {R : It → Hp → Prop} {ta : TA}
theorem w_iZA (h : ta σ H (dZA K R)) : RZ.iZipA K ta σ H R := h
theorem i_ZT (hx : SqT K H a xs) (hy : SqT K H b ys) (hl : xs.length = ys.length) (k : ∀ J, Src J (fun H' => SqT K H' a xs ∧ SqT K H' b ys) xs.length (fun i x H'' => ∃ T y z, x = .ref T ∧ At H'' T (.tup [y, z]) ∧ xs[i]? = some y ∧ ys[i]? = some z) → R J H) : dZA K R [.ref a, .ref b] H := by
  refine ⟨a, b, xs, ys, rfl, .inr ⟨hx, hy, k _ ⟨fun i H' hp hi => ⟨xs, ys, xs[i], ys[i]'(by omega), hp.1, hp.2, List.getElem?_eq_getElem hi, List.getElem?_eq_getElem (by omega)⟩, fun H' hp => ⟨xs, ys, hp.1, hp.2, .inl (Nat.le_refl _)⟩, fun i H' x H'' hp hi hy => ?_⟩⟩⟩
  obtain ⟨T, y, z, e1, e2, e3, f1, f2⟩ := hy
  exact ⟨by rw [e3]; exact Ex.new e2, T, y, z, e1, by rw [e3]; exact upd_same, f1 xs hp.1, f2 ys hp.2⟩
theorem i_ZL (hx : SqL K H a xs) (hy : SqL K H b ys) (hl : xs.length = ys.length) (k : ∀ J, Src J (fun H' => SqL K H' a xs ∧ SqL K H' b ys) xs.length (fun i x H'' => ∃ T y z, x = .ref T ∧ At H'' T (.tup [y, z]) ∧ xs[i]? = some y ∧ ys[i]? = some z) → R J H) : dZA K R [.ref a, .ref b] H := by
  refine ⟨a, b, xs, ys, rfl, .inl ⟨hx, hy, k _ ⟨fun i H' hp hi => ⟨xs, ys, xs[i], ys[i]'(by omega), hp.1, hp.2, List.getElem?_eq_getElem hi, List.getElem?_eq_getElem (by omega)⟩, fun H' hp => ⟨xs, ys, hp.1, hp.2, .inl (Nat.le_refl _)⟩, fun i H' x H'' hp hi hy => ?_⟩⟩⟩
  obtain ⟨T, y, z, e1, e2, e3, f1, f2⟩ := hy
  exact ⟨by rw [e3]; exact Ex.new e2, T, y, z, e1, by rw [e3]; exact upd_same, f1 xs hp.1, f2 ys hp.2⟩
end
end Z
namespace Z
open PySem L2 PySem.Spec PyProof.Rows
/-! ### sets of ints -/
theorem cr_set0 {X : Cx} {w : World} (hw : X.w = w) : CallR X (.type "set") (rSet0 w) := hw ▸ L2.cr_set0
theorem or_sin {X : Cx} {w : World} (hw : X.w = w) : OpR X (compareOp .In) (rSIn w) := hw ▸ L2.or_sin
theorem pe_sadd {X : Cx} {w : World} (hw : X.w = w) {o e : Expr} {es : List Expr} {to : TE} {t : TA} {apos cpos : Pos} (ho : PE X o to) (ha : PA X (e :: es) t)
    (hbase : attributeBase o "add" X.env (eval o X.env) = eval o X.env := by rfl)
    (hfew : ((backTo cpos (starEach (e :: es) X.env)).all (fun x => !x.1) && (backToKw cpos (keywordEach [] X.env)).all (fun x => x.1.isSome)
      && decide ((e :: es).length + ([] : List Keyword).length + (if ([] : List Keyword).isEmpty then 0 else 1) < 30)) = true := by rfl)
    (hline : (apos.endLine == cpos.line) = true := by rfl) (hs : starEach (e :: es) X.env = (false, eval e X.env) :: starEach es X.env := by rfl) (hplain : (backTo cpos (starEach es X.env)).any (·.1) = false := by rfl) :
    PE X (.Call (.Attribute o "add" apos) (e :: es) [] cpos) (tSAdd w to t) := hw ▸ L2.pe_sadd ho ha hbase hfew hline hs hplain
section
variable {K : PySem.W.Frag} {w : World} {σ : L2.St} {H H' : Hp} {Q : VK} {a : Addr} {S : Int → Bool} {n : Nat} {k : Int}
theorem w_set0 (q : ∀ p H2, Fr H p → Ex H H2 → At H2 p (SetO w p (fun _ => false) 0) → Q (.ref p) H2) : rSet0 w [] H Q := ⟨rfl, fun p hp => q p _ hp (Ex.new hp) upd_same⟩
theorem w_tSAdd {to : TE} {t : TA} (h : to σ H fun x H1 => (∃ a S n, x = V.ref a ∧ H1 a = some (SetO w a S n)) ∧ t σ H1 fun xs H2 => rSAdd w x xs H2 Q) : tSAdd w to t σ H Q := h
theorem w_tyS {A : Prop} (h : At H a (SetO w a S n)) (q : A) : (∃ a' S n, V.ref a = V.ref a' ∧ H a' = some (SetO w a' S n)) ∧ A := ⟨⟨a, S, n, rfl, h⟩, q⟩
theorem w_sadd (h : At H a (SetO w a S n)) (hr : n + 1 < scanBound) (q : ∀ H2, At H2 a (SetO w a (fun j => S j || decide (j = k)) (if S k = true then n else n + 1)) → (∀ H0, Ex H0 H → Fr H0 a → Ex H0 H2) → (∀ b o, b ≠ a → At H b o → At H2 b o) → Q .non H2) : rSAdd w (.ref a) [.int k] H Q :=
  ⟨a, k, S, n, rfl, rfl, h, hr, q _ upd_same (fun H0 e n => Ex.mut e n) (fun b o hb e => by unfold At; rw [upd_ne hb]; exact e)⟩
theorem w_sin (h : At H a (SetO w a S n)) (q : Q (.bl (S k)) H) : rSIn w (.int k) (.ref a) H Q := ⟨k, a, S, n, rfl, rfl, h, q⟩
end
/-! ### an instance is called -/
/-- instances of the class x are called by the def __call__ of the class y -/
def callB (x y : Str) (K : PySem.W.Frag) : Bool := He.eqO (PySem.W.findIn K (.ref (He.ga K x)) "__call__") (some (some (.ref (He.ma K (He.ga K y) "__call__")))) && (PySem.W.isFn K (.ref (He.ma K (He.ga K y) "__call__")) && PySem.W.fnIn K (He.ma K (He.ga K y) "__call__"))
theorem callB_ok {K : PySem.W.Frag} {x y : Str} (c : callB x y K = true) : StX.CallO K (He.ga K x) (He.ma K (He.ga K y) "__call__") := by
  obtain ⟨c1, c⟩ := He.ba c
  obtain ⟨c2, c3⟩ := He.ba c
  exact ⟨He.eqO_ok c1, c2, c3⟩
def dCO (C : Addr) (sp : Sp) (E : XK) (t : TA) (σ : L2.St) (Q : VK) : VK := fun y H1 => ∃ a, y = V.ref a ∧ t σ H1 fun vs H2 => (∃ dx fs, At H2 a (.ins C dx fs)) ∧ sp (V.ref a :: vs) H2 Q E
def tCO (C : Addr) (sp : Sp) (E : XK) (tf : TE) (t : TA) : TE := fun σ H Q => tf σ H (dCO C sp E t σ Q)
theorem pe_callO {X : Cx} {CX : CXT} {k : Nat} {C g : Addr} {sp : Sp} {E : XK} {fe e : Expr} {es : List Expr} {tf : TE} {t : TA} {pos : Pos} (hf : PE X fe tf) (c : StX.CallO X.K C g) (F : FnR X.prog X.w X.K X.mg X.base CX k g sp) (hr : Room k X.A) (hx : Passes CX X E) (ha : PA X (e :: es) t)
    (ht : eval (.Call fe (e :: es) [] pos) X.env = (do callWith pos (← eval fe X.env) [] (backTo pos (starEach (e :: es) X.env)) (backToKw pos (keywordEach [] X.env))) := by rfl)
    (he : starEach (e :: es) X.env = (false, eval e X.env) :: starEach es X.env := by rfl) (hpl : (backTo pos (starEach es X.env)).any (·.1) = false := by rfl) : PE X (.Call fe (e :: es) [] pos) (tCO C sp E tf t) := by
  refine ⟨fun pins s σ H Q I h => ?_⟩
  refine Call_ (thn (hf.run pins s σ H _ I h) fun u s1 ⟨y, H1, I1, ry, a, ey, q⟩ => ?_) ht
  subst ey
  obtain rfl : u = Value.ref a := ry
  refine StX.callO_with (thn (ha.run pos pins s1 σ H1 _ I1 q) fun us s2 ⟨vs, H2, I2, r, ⟨dx, fs, hi⟩, q2⟩ => ?_) he hpl
  have hI : StX.InsC X H2 a C := .inr ⟨dx, fs, hi⟩
  obtain ⟨ox, od, J, hd⟩ := StX.insC_at I2 hI
  exact ⟨⟨C, ox, od, J, hd⟩, StX.run_callO c F hr hx I2 hI r q2⟩
section
variable {σ : L2.St} {H : Hp} {Q : VK} {C a dx : Addr} {fs : List (Str × V)} {sp : Sp} {E : XK} {tf : TE} {t : TA}
theorem w_tCO (h : tf σ H (dCO C sp E t σ Q)) : tCO C sp E tf t σ H Q := h
theorem w_dCO (q : t σ H fun vs H2 => (∃ dx fs, At H2 a (.ins C dx fs)) ∧ sp (V.ref a :: vs) H2 Q E) : dCO C sp E t σ Q (.ref a) H := ⟨a, rfl, q⟩
theorem w_insC {A : Prop} (h : At H a (.ins C dx fs)) (q : A) : (∃ dx fs, At H a (.ins C dx fs)) ∧ A := ⟨⟨dx, fs, h⟩, q⟩
end
end Z
namespace Z
open PySem L2 PySem.Spec PyProof.Rows
/-! ### list * int, list.extend -/
section
variable {K : PySem.W.Frag} {H : Hp} {Q : VK} {a b : Addr} {xs ys : List V} {k : Int}
theorem w_rep (h : At H a (.lst xs)) (h1 : 0 ≤ k) (h2 : k ≤ 1000) (h3 : xs.length ≤ 1000) (q : ∀ p H2, Fr H p → Ex H H2 → At H2 p (.lst (List.replicate k.toNat xs).flatten) → Q (.ref p) H2) : rRep (.ref a) (.int k) H Q :=
  ⟨a, k, xs, rfl, rfl, h, by omega, by omega, by
    have := Nat.mul_le_mul h3 (show k.toNat ≤ 1000 by omega)
    show _ ≤ 16777216
    omega, fun p hp => q p _ hp (Ex.new hp) upd_same⟩
theorem w_ext (h : At H a (.lst xs)) (h2 : At H b (.lst ys)) (hz : xs.length + ys.length ≤ sizeLine) (q : ∀ H2, At H2 a (.lst (xs ++ ys)) → Nl H H2 → (∀ H0, Ex H0 H → Fr H0 a → Ex H0 H2) → (∀ b o, b ≠ a → At H b o → At H2 b o) → Q .non H2) : rExtend (.ref a) [.ref b] H Q :=
  ⟨a, b, xs, ys, rfl, rfl, h, h2, hz, q _ upd_same (Nl.upd h) (fun H0 e n => Ex.mut e n) (fun b o hb e => by unfold At; rw [upd_ne hb]; exact e)⟩
/-! ### tuple(range(n)), list(range(n)) -/
theorem rgV0 {n : Int} : rgV 0 n = ((List.range n.toNat).map fun i : Nat => (i : Int)).map V.int := by
  unfold rgV
  rw [Int.sub_zero, List.map_map]
  refine List.map_congr_left fun i _ => ?_
  show V.int (0 + (i : Int)) = V.int (i : Int)
  rw [Int.zero_add]
def dRgT (Q : VK) : VK := fun x H1 => ∃ n, x = .int n ∧ RgOk 0 n ∧ ∀ q, H1 q = none → Q (.ref q) (upd H1 q (.tup (rgV 0 n)))
def dRgL (Q : VK) : VK := fun x H1 => ∃ n, x = .int n ∧ RgOk 0 n ∧ ∀ q, H1 q = none → Q (.ref q) (upd H1 q (.lst (rgV 0 n)))
theorem w_tupRg1 {ta : TE} {σ : L2.St} (h : ta σ H (dRgT Q)) : tTupRg (tRg1 ta) σ H Q := h
theorem w_lstRg1 {ta : TE} {σ : L2.St} (h : ta σ H (dRgL Q)) : tLstRg (tRg1 ta) σ H Q := h
theorem w_dRgT {n : Int} (h0 : 0 ≤ n) (h1 : n ≤ 16777216) (q : ∀ p H2, Fr H p → Ex H H2 → At H2 p (.tup (((List.range n.toNat).map fun i : Nat => (i : Int)).map V.int)) → Q (.ref p) H2) : dRgT Q (.int n) H :=
  ⟨n, rfl, RgOk.of_le (by omega) h1 (by omega) h0, fun p hp => q p _ hp (Ex.new hp) (by rw [← rgV0]; exact upd_same)⟩
theorem w_dRgL {n : Int} (h0 : 0 ≤ n) (h1 : n ≤ 16777216) (q : ∀ p H2, Fr H p → Ex H H2 → At H2 p (.lst (((List.range n.toNat).map fun i : Nat => (i : Int)).map V.int)) → Q (.ref p) H2) : dRgL Q (.int n) H :=
  ⟨n, rfl, RgOk.of_le (by omega) h1 (by omega) h0, fun p hp => q p _ hp (Ex.new hp) (by rw [← rgV0]; exact upd_same)⟩
end
end Z
namespace Z
open PySem L2 PySem.Spec PyProof.Rows
/-! ### a def that captures the cell of its class and has cells of its own -/
theorem cells_app : ∀ (nms : List (Str × NameKind)) (n : Nat) (acc : List (Str × Addr)), cellsFrom n nms acc = cellsFrom n nms [] ++ acc
  | [], n, acc => rfl
  | (x, k) :: r, n, acc => by
    show (if k == .cell then cellsFrom (n + 1) r ((x, n) :: acc) else cellsFrom n r acc) = (if k == .cell then cellsFrom (n + 1) r [(x, n)] else cellsFrom n r []) ++ acc
    by_cases e : (k == .cell) = true
    · rw [if_pos e, if_pos e, cells_app r (n + 1) ((x, n) :: acc), cells_app r (n + 1) [(x, n)], List.append_assoc]
      rfl
    · rw [if_neg e, if_neg e]
      exact cells_app r n acc
theorem cells_mem : ∀ (nms : List (Str × NameKind)) (n : Nat) {y : Str} {c : Addr}, (cellsFrom n nms []).lookup y = some c → (y, NameKind.cell) ∈ nms
  | [], n, y, c, h => by cases h
  | (x, k) :: r, n, y, c, h => by
    have h : (if k == .cell then cellsFrom (n + 1) r [(x, n)] else cellsFrom n r []).lookup y = some c := h
    by_cases e : (k == .cell) = true
    · rw [if_pos e, cells_app, List.lookup_append] at h
      cases z : (cellsFrom (n + 1) r []).lookup y with
      | some d => exact List.mem_cons_of_mem _ (cells_mem r (n + 1) z)
      | none =>
        rw [z] at h
        simp only [Option.none_or, List.lookup] at h
        split at h
        · rename_i g
          have g : y = x := by simpa using g
          have e : k = .cell := by simpa using e
          rw [g, e]
          exact List.mem_cons_self
        · cases h
    · rw [if_neg e] at h
      exact List.mem_cons_of_mem _ (cells_mem r n h)
abbrev ownC (L : Addr) (sc : Scope) : List (Str × Addr) := cellsFrom (L + 1) sc.names []
section
variable {M : Model} {A : Around} {E : Value → Shared → Prop} {s₀ s : Shared} {m cm : Str → Option Value} {env : Env} {own : List (Str × Addr)}
theorem putL {n : Str} {v : Value} {Q : Unit → Shared → Prop} (x : InCallC s₀ env.locals m own cm s) (fk : env.scope.kind = .function) (kl : env.kindOf n = some .local)
    (q : ∀ s', InCallC s₀ env.locals (fun y => if y = n then some v else m y) own cm s' → Q () s') : wpAny M A (storeName env n v) Q E s := by
  obtain ⟨⟨⟨h1, tk, e1⟩, ns, kp, fr⟩, cl, ap, ab⟩ := x
  subst e1
  refine wpAny_storeName_local kl ns (fun h2 n2 b2 => q _ ⟨⟨⟨h2, _, rfl⟩, n2, fun b o e => ?_, fr⟩, fun k c z => ?_, ap, ab⟩) (by rw [fk]; rfl)
  · have lt := Nat.lt_of_lt_of_le (Heap.lt_size e) fr
    exact b2.extBut b o (Nat.ne_of_lt lt) (kp b o e)
  · have lt := ab k c (mem_of_lookup z)
    exact (cl k c z).sameBut b2 (Nat.ne_of_gt lt)
theorem putC {n : Str} {c : Addr} {v : Value} {Q : Unit → Shared → Prop} (x : InCallC s₀ env.locals m own cm s) (fk : env.scope.kind = .function) (kc : env.kindOf n = some .cell) (ho : own.lookup n = some c) (he : env.cells.lookup n = some c)
    (q : ∀ s', InCallC s₀ env.locals m own (fun y => if y = n then some v else cm y) s' → Q () s') : wpAny M A (storeName env n v) Q E s := by
  obtain ⟨⟨⟨h1, tk, e1⟩, ns, kp, fr⟩, cl, ap, ab⟩ := x
  subst e1
  have hc := mem_of_lookup ho
  have hL := ab n c hc
  refine wpAny_storeName_cell fk kc he (cl n c ho) fun h2 i2 b2 => q _ ⟨⟨⟨h2, _, rfl⟩, ns.sameBut b2 (Nat.ne_of_lt hL), fun b o e => ?_, fr⟩, fun k c' z => ?_, ap, ab⟩
  · have lt := Nat.lt_trans (Nat.lt_of_lt_of_le (Heap.lt_size e) fr) hL
    exact b2.extBut b o (Nat.ne_of_lt lt) (kp b o e)
  · by_cases g : k = n
    · subst g
      cases ho.symm.trans z
      rw [if_pos rfl]
      exact i2
    · rw [if_neg g]
      refine (cl k c' z).sameBut b2 fun w => g ?_
      subst w
      exact name_of_addr ap (mem_of_lookup z) hc
theorem putAll (f : Str × Value → PUnit → Sem (ForInStep PUnit)) (hf : ∀ n v u, f (n, v) u = (storeName env n v >>= fun _ => pure (.yield ⟨⟩))) (fk : env.scope.kind = .function) (hown : ∀ n c, own.lookup n = some c → env.cells.lookup n = some c) :
    ∀ (bs : List (Str × Value)) (m cm : Str → Option Value) (s : Shared) (Q : PUnit → Shared → Prop), InCallC s₀ env.locals m own cm s → (∀ y ∈ bs, env.kindOf y.1 = some .local ∨ (env.kindOf y.1 = some .cell ∧ (own.lookup y.1).isSome = true)) →
      (∀ s', InCallC s₀ env.locals (bindL env.kindOf bs m) own (bindC env.kindOf bs cm) s' → Q ⟨⟩ s') → wpAny M A (forIn bs ⟨⟩ f) Q E s
  | [], m, cm, s, Q, x, _, q => by
    rw [List.forIn_nil]
    exact wpAny_pure (q s x)
  | (n, v) :: r, m, cm, s, Q, x, hk, q => by
    rw [List.forIn_cons, hf]
    have kr := fun y hy => hk y (List.mem_cons_of_mem _ hy)
    unfold bindL bindC at q
    refine wpAny_bind (wpAny_bind ?_)
    rcases hk (n, v) List.mem_cons_self with kl | ⟨kc, hc⟩
    · rw [if_pos kl, if_pos kl] at q
      exact putL x fk kl fun s2 x2 => wpAny_pure (putAll f hf fk hown r _ _ s2 Q x2 kr q)
    · have nl : ¬ env.kindOf n = some .local := by rw [kc]; decide
      rw [if_neg nl, if_neg nl] at q
      obtain ⟨c, hc⟩ := Option.isSome_iff_exists.mp hc
      exact putC x fk kc hc (hown n c hc) fun s2 x2 => wpAny_pure (putAll f hf fk hown r _ _ s2 Q x2 kr q)
theorem newEnv_cl {sc : Scope} {gl : Addr} {cl : List (Str × Addr)} {bs : List (Str × Value)} {qual : Str} {fn : Option Addr} {cd : Value} {blt : Addr} {Q : Env → Shared → Prop} (fk : sc.kind = .function)
    (hk : ∀ y ∈ bs, sc.names.lookup y.1 = some .local ∨ (sc.names.lookup y.1 = some .cell ∧ ((ownC s.heap.objs.size sc).lookup y.1).isSome = true))
    (q : ∀ s', InCallC s s.heap.objs.size (bindL (newEnv sc s.heap.objs.size gl (ownC s.heap.objs.size sc ++ cl) qual fn cd none blt).kindOf bs fun _ => none) (ownC s.heap.objs.size sc) (bindC (newEnv sc s.heap.objs.size gl (ownC s.heap.objs.size sc ++ cl) qual fn cd none blt).kindOf bs fun _ => none) s' →
      Q (newEnv sc s.heap.objs.size gl (ownC s.heap.objs.size sc ++ cl) qual fn cd none blt) s') : wpAny M A (newFunctionEnv sc gl cl bs qual fn cd none blt) Q E s := by
  simp only [newFunctionEnv, Option.isSome_none, Bool.false_eq_true, if_false]
  refine wpAny_bind (wpAny_alloc (wpAny_bind (wpAny_layCells _ (fun x k cs => by cases e : k == NameKind.cell <;> simp [e]) _ _ _ _ ?_)))
  have ok := cellsFrom_ok sc.names (s.heap.push { cls := .type "frame", data := .dict #[] }) (s.heap.objs.size + 1) [] ⟨fun _ _ z => (nomatch z), List.Pairwise.nil⟩ (by rw [Heap.size_push]; exact Nat.le_refl _)
  have es : ({ s with heap := s.heap.push { cls := .type "frame", data := .dict #[] } } : Shared).heap.objs.size = s.heap.objs.size + 1 := Heap.size_push ..
  rw [Heap.size_push] at ok
  rw [es, cells_app]
  have kp := fun b o (e : s.heap.get? b = some o) => pushCells_keeps sc.names _ b o (Heap.get?_push_of_some { cls := .type "frame", data := .dict #[] } e)
  refine wpAny_bind (putAll (s₀ := s) (own := ownC s.heap.objs.size sc) (env := newEnv sc s.heap.objs.size gl (ownC s.heap.objs.size sc ++ cl) qual fn cd none blt) _ (fun _ _ _ => rfl) fk (fun n c e => ?_) bs (fun _ => none) (fun _ => none) _ _ ⟨⟨⟨_, _, rfl⟩, ?_, kp, Nat.le_refl _⟩, ?_, ok.apart, ?_⟩ hk fun s2 x => wpAny_pure (q s2 x))
  · show (ownC s.heap.objs.size sc ++ cl).lookup n = some c
    rw [List.lookup_append, e]
    rfl
  · exact (Heap.Ns.new s.heap (.type "frame")).keeps (pushCells_keeps _ _)
  · exact fun n c e => (ok.empty n c (mem_of_lookup e)).1
  · exact fun n c e => (ok.empty n c e).2
end
/-- its names: the parameters, the class's cell, its locals -/
structure SScope (N ps fr : List Str) (sc : Scope) : Prop where
  kind : sc.kind = .function
  co : sc.isCoroutine = false
  gen : sc.isGenerator = false
  nd : N.Nodup
  pre : N.take (ps.length + fr.length) = ps ++ fr
  par : ∀ x ∈ ps, sc.names.lookup x = some .local ∨ sc.names.lookup x = some .cell
  free : ∀ y ∈ sc.names, y.2 = .free → y.1 ∈ fr
  frk : ∀ x ∈ fr, sc.names.lookup x = some .free
  ncl : ∀ y ∈ sc.names, y.2 = .cell → y.1 ∉ fr
def sscB (N ps fr : List Str) (sc : Scope) : Bool :=
  decide (sc.kind = .function) && (!sc.isCoroutine && (!sc.isGenerator && (decide N.Nodup && (decide (N.take (ps.length + fr.length) = ps ++ fr) && (ps.all (fun x => decide (sc.names.lookup x = some .local ∨ sc.names.lookup x = some .cell)) && (sc.names.all (fun y => decide (y.2 = .free → y.1 ∈ fr)) && (fr.all (fun x => decide (sc.names.lookup x = some .free)) && sc.names.all (fun y => decide (y.2 = .cell → y.1 ∉ fr)))))))))
theorem sscope_by {N ps fr : List Str} {sc : Scope} (h : sscB N ps fr sc = true) : SScope N ps fr sc := by
  unfold sscB at h
  simp only [Bool.and_eq_true, Bool.not_eq_true', decide_eq_true_eq, List.all_eq_true] at h
  obtain ⟨h1, h2, h3, h4, h5, h6, h7, h8, h9⟩ := h
  exact ⟨h1, h2, h3, h4, h5, h6, h7, h8, h9⟩
/-- the context of such a body -/
def scx (CX : CXT) (P : Program) (w : World) (K : PySem.W.Frag) (mg : Str → Option Value) (base : Heap) (N : List Str) (F : NdefX.NF) (f : Addr) (A : Around) (outer : List Env) (s : Shared) (H : Hp) (E : XK) : Cx :=
  { NdefX.ncx CX P w K mg base N F f A outer s H E with fn := fun y => match F.scope.names.lookup y with | some .cell => true | _ => false }
theorem inv_scx {CX : CXT} {P : Program} {w : World} {K : PySem.W.Frag} {mg : Str → Option Value} {base : Heap} {N ps : List Str} {x0 qual : Str} {params : Arguments} {body : List Stmt} {scope : Scope} {cda cc f : Addr} {A : Around} {outer : List Env} {s s1 : Shared} {H : Hp} {E : XK} {us : List Value} {vs : List V}
    (S : SScope N ps ["__class__"] scope) (hd : A.handled = none) (e0 : Env0 P w K mg base A outer s H) (hl : vs.length = ps.length) (r : Vals vs us) (hcc : H cc = none) (hcv : ∃ v, s.heap.IsCell cc v)
    (x : InCallC s s.heap.objs.size (bindL (fun y => scope.names.lookup y) (ps.zip us) fun _ => none) (ownC s.heap.objs.size scope) (bindC (fun y => scope.names.lookup y) (ps.zip us) fun _ => none) s1) :
    Inv (scx CX P w K mg base N ⟨x0, qual, params, body, scope, ownC s.heap.objs.size scope ++ [(("__class__" : Str), cc)], cda⟩ f A outer s H E) [] (NdefX.startF N vs [none]) H s1 := by
  have hpl : ps.length + 1 ≤ N.length := by
    have z := congrArg List.length S.pre
    rw [List.length_take, List.length_append, List.length_singleton] at z
    omega
  obtain ⟨h1, tk, e1, kp⟩ := x.done
  subst e1
  have noA : ∀ (b : Addr) (z : b ∈ ([] : List Addr)), False := fun b z => by cases z
  obtain ⟨v0, hcv⟩ := hcv
  have hck : h1.IsCell cc v0 := hcv.keeps kp
  have lk : ∀ y c, (ownC s.heap.objs.size scope ++ [(("__class__" : Str), cc)]).lookup y = some c → (ownC s.heap.objs.size scope).lookup y = some c ∨ (y = "__class__" ∧ c = cc) := fun y c e => by
    rw [List.lookup_append] at e
    cases z : (ownC s.heap.objs.size scope).lookup y with
    | some d => rw [z] at e; cases e; exact .inl rfl
    | none =>
      rw [z] at e
      simp only [Option.none_or, List.lookup] at e
      split at e
      · rename_i g; exact .inr ⟨by simpa using g, (Option.some.inj e).symm⟩
      · cases e
  have ltc : cc < s.heap.objs.size := hcv.lt
  have gt : ∀ y c, (ownC s.heap.objs.size scope).lookup y = some c → s.heap.objs.size < c := fun y c e => x.above y c (PySem.mem_of_lookup e)
  have has : ∀ y, scope.names.lookup y = some .cell → ∃ c, (ownC s.heap.objs.size scope).lookup y = some c := fun y e => cell_has e
  have dom : ∀ y c, (ownC s.heap.objs.size scope ++ [(("__class__" : Str), cc)]).lookup y = some c → (∃ v, h1.IsCell c v) ∧ H c = none := fun y c e => by
    rcases lk y c e with z | ⟨_, rfl⟩
    · exact ⟨⟨_, x.cell y c z⟩, e0.hok.fresh (Nat.le_of_lt (gt y c z))⟩
    · exact ⟨⟨_, hck⟩, hcc⟩
  refine ⟨⟨e0.mod, S.kind, rfl, rfl, Nat.le_refl _, fun y z c g1 g2 => ?_, fun y hy => ?_, fun y c z g => ?_, fun _ => hd, Around.frames_deeper e0.frames, .inr ⟨rfl, rfl⟩, fun b z => (noA b z).elim, e0.bs, e0.bsz, fun b _ _ z => noA b z, fun b z => (noA b z).elim, e0.funs, e0.frf⟩,
    rfl, e0.bare, Un.kept kp, ⟨_, x.toInCall.ns, fun i y v g1 g2 g3 => ?_⟩, fun y c e => (dom y c e).1, e0.hok.fresh (Nat.le_refl _), fun y c e => (dom y c e).2, fun p hp => absurd (show p ∈ ([] : List (Addr × Obj)) ++ [] from hp) (by simp), e0.hok.kept kp, ?_⟩
  · rcases lk y c g1 with a1 | ⟨a1, b1⟩
    · rcases lk z c g2 with a2 | ⟨a2, b2⟩
      · exact name_of_addr x.apart (PySem.mem_of_lookup a1) (PySem.mem_of_lookup a2)
      · exact absurd (b2 ▸ gt y c a1) (Nat.not_lt.mpr (Nat.le_of_lt ltc))
    · rcases lk z c g2 with a2 | ⟨a2, b2⟩
      · exact absurd (b1 ▸ gt z c a2) (Nat.not_lt.mpr (Nat.le_of_lt ltc))
      · rw [a1, a2]
  · have hy : scope.names.lookup y = some .cell ∨ scope.names.lookup y = some .free := hy
    show ∃ c, (ownC s.heap.objs.size scope ++ [(("__class__" : Str), cc)]).lookup y = some c
    rw [List.lookup_append]
    rcases hy with hy | hy
    · obtain ⟨c, e⟩ := has y hy
      exact ⟨c, by rw [e]; rfl⟩
    · have hm := List.mem_singleton.mp (S.free _ (PySem.mem_of_lookup hy) rfl)
      have hm : y = "__class__" := hm
      subst hm
      cases (ownC s.heap.objs.size scope).lookup ("__class__" : Str) with
      | some c => exact ⟨c, rfl⟩
      | none => exact ⟨cc, by simp [List.lookup]⟩
  · have z : (match scope.names.lookup y with | some .cell => true | _ => false) = true := z
    have hy : scope.names.lookup y = some .cell := by
      split at z
      · assumption
      · cases z
    obtain ⟨d, e⟩ := has y hy
    have g : (ownC s.heap.objs.size scope ++ [(("__class__" : Str), cc)]).lookup y = some c := g
    rw [List.lookup_append, e] at g
    cases g
    exact Nat.le_of_lt (gt y _ e)
  · have g1 : N[i]? = some y := g1
    unfold NdefX.startF at g2
    by_cases hi : i < ps.length
    · have hq : (ps ++ [("__class__" : Str)])[i]? = some y := by
        rw [← S.pre, List.getElem?_take_of_lt (by rw [List.length_singleton]; omega)]
        exact g1
      rw [List.getElem?_append_left hi] at hq
      rw [List.getElem?_append_left (by rw [List.length_map]; omega), List.getElem?_map] at g2
      have ha : vs[i]? = some v := by
        cases e : vs[i]? with
        | none => rw [e] at g2; cases g2
        | some a => rw [e] at g2; cases g2; rfl
      obtain ⟨u, hu, rv⟩ := r.get ha
      have nd : ps.Nodup := by
        have z := S.nd.sublist (List.take_sublist (ps.length + [("__class__" : Str)].length) N)
        rw [S.pre] at z
        exact (List.nodup_append.mp z).1
      refine ⟨u, rv, ?_⟩
      rcases S.par y (List.mem_of_getElem? hq) with k | k
      · exact .inl ⟨k, bindL_get nd hq hu k⟩
      · obtain ⟨c, e⟩ := has y k
        have hc := x.cell y c e
        rw [bindC_get nd hq hu (by rw [k]; decide)] at hc
        refine .inr ⟨.inl k, c, ?_, hc⟩
        show (ownC s.heap.objs.size scope ++ [(("__class__" : Str), cc)]).lookup y = some c
        rw [List.lookup_append, e]
        rfl
    · rw [List.getElem?_append_right (by rw [List.length_map]; omega), List.length_map] at g2
      by_cases h2 : i - vs.length < 1
      · have e0 : i - vs.length = 0 := by omega
        rw [e0] at g2
        cases g2
      · rw [List.getElem?_append_right (by rw [List.length_singleton]; omega), List.getElem?_replicate] at g2
        split at g2 <;> cases g2
  · unfold NdefX.startF
    show _ = N.length
    rw [List.length_append, List.length_append, List.length_map, List.length_replicate, List.length_singleton]
    omega
/-- THE RULE for such a def; its first statement says super() -/
theorem FunS.okC {CX : CXT} {P : Program} {w : World} {K : PySem.W.Frag} {mg : Str → Option Value} {base : Heap} {x qual x0 : Str} {params : Arguments} {st : Stmt} {rest : List Stmt} {scope : Scope} {D f : Addr} {fd : FuncData} {N ps : List Str} {k : Nat} {sp : Sp} {ar : Arg}
    (F : FunS P K x qual params (st :: rest) scope D f fd) (S : SScope N ps ["__class__"] scope) (hs : scope.names.lookup ("super" : Str) = some .globalImplicit) (hp : (params.posonlyargs ++ params.args).head? = some ar) (har : ar.arg = x0) (hN : N[0]? = some x0) (hx : scope.names.lookup x0 = some .local ∨ scope.names.lookup x0 = some .cell) (hxd : (x0 == ("__classdict__" : Str)) = false)
    (top : (P.main.scope.names.lookup ("super" : Str)).isSome = false) (hm : mg "super" = none) (hD : ∃ cd, PySem.W.clsIn K D = some cd) (hnc : scope.names.lookup ("__class__" : Str) = some .free) (len : ∀ vs H Q E, sp vs H Q E → vs.length = ps.length)
    (hbody : ∀ (cc cda : Addr) (A : Around) (outer : List Env) (s : Shared) (H : Hp) (vs : List V) (Q : VK) (E : XK), Room k (A.deeper (PySem.W.envX qual scope s.heap.objs.size f (.ref cda) (ownC s.heap.objs.size scope ++ [(("__class__" : Str), cc)]))) → sp vs H Q E →
      SupX (scx CX P w K mg base N ⟨x, qual, params, st :: rest, scope, ownC s.heap.objs.size scope ++ [(("__class__" : Str), cc)], cda⟩ f A outer s H E) D f x0 →
      ∃ t1 t2, PSat (scx CX P w K mg base N ⟨x, qual, params, st :: rest, scope, ownC s.heap.objs.size scope ++ [(("__class__" : Str), cc)], cda⟩ f A outer s H E) (.func (st :: rest) (PySem.W.envX qual scope s.heap.objs.size f (.ref cda) (ownC s.heap.objs.size scope ++ [(("__class__" : Str), cc)]))) st t1 ∧
        PSs (scx CX P w K mg base N ⟨x, qual, params, st :: rest, scope, ownC s.heap.objs.size scope ++ [(("__class__" : Str), cc)], cda⟩ f A outer s H E) rest t2 ∧ tSeq t1 t2 { nx := fun _ H' => Q .non H', rt := Q } (NdefX.startF N vs [none]) H) : FnOk P w K mg base CX (k + 1) f fd ps sp := by
  obtain ⟨oc, od, doc, pm, an, cda, ct, osl, cc, rfl, lk, hcd, ⟨cl1, cd1, cs1, hcell⟩, cl2, cd2, vs2, cs2, file, tf, hcode, hvs2, hfile⟩ := F.ex
  refine ⟨len, fun A outer s H args us vs Q E hr e0 hb r hsp => ?_⟩
  have hl := len _ _ _ _ hsp
  have KX : K.In s.heap := e0.mod.kin.keeps fun b o e => (e0.bs b o e).1
  have lim : s.heap.NoLimit := e0.mod.nolimit.keeps fun b o e => (e0.bs b o e).1
  have hk : ∀ y ∈ ps.zip us, scope.names.lookup y.1 = some .local ∨ (scope.names.lookup y.1 = some .cell ∧ ((ownC s.heap.objs.size scope).lookup y.1).isSome = true) := fun y hy => by
    rcases S.par y.1 (List.of_mem_zip hy).1 with z | z
    · exact .inl z
    · obtain ⟨c, e⟩ := cell_has (n := s.heap.objs.size + 1) z
      exact .inr ⟨z, by show ((ownC s.heap.objs.size scope).lookup y.1).isSome = true; rw [e]; rfl⟩
  refine codeAny_call_function hr.depth (KX _ _ lk) rfl S.co S.gen rfl (PySem.W.codeRec_of KX hcd) (hb _ _ _ _ ?_)
  refine newEnv_cl S.kind hk fun s1 xx => ⟨lim.keeps xx.toInCall.keep, PySem.ks_codeAny_funcAt ?_⟩
  have zc := e0.mod.kin _ _ hcell
  have I := inv_scx (CX := CX) (E := E) (f := f) (x0 := x) (qual := qual) (params := params) (body := st :: rest) (cda := cda) S hr.hd e0 hl r (e0.bs _ _ zc).2 ⟨_, _, KX _ _ hcell, rfl⟩ xx
  have hcl : (ownC s.heap.objs.size scope ++ [(("__class__" : Str), cc)]).lookup ("__class__" : Str) = some cc := by
    rw [List.lookup_append]
    cases z : (ownC s.heap.objs.size scope).lookup ("__class__" : Str) with
    | none => simp [List.lookup]
    | some c => exact absurd (List.mem_singleton_self _) (S.ncl _ (cells_mem _ _ z) rfl)
  have SX : SupX (scx CX P w K mg base N ⟨x, qual, params, st :: rest, scope, ownC s.heap.objs.size scope ++ [(("__class__" : Str), cc)], cda⟩ f A outer s H E) D f x0 :=
    ⟨hs, hnc, rfl, ⟨_, _, _, _, ar, lk, hp, har⟩, ⟨cda, _, _, _, _, file, tf, rfl, hcode, hvs2, hfile⟩, top, hN, hx.elim .inl fun z => .inr (.inl z), hxd, ⟨cc, _, _, _, hcl, hcell⟩, hm, hD⟩
  obtain ⟨t1, t2, p1, p2, hq⟩ := hbody cc cda A outer s H vs Q E (hr.deeper _) hsp SX
  have fin : ∀ {σ' : L2.St} {H' : Hp} {v : V} {u : Value} {s' : Shared}, Inv (scx CX P w K mg base N ⟨x, qual, params, st :: rest, scope, ownC s.heap.objs.size scope ++ [(("__class__" : Str), cc)], cda⟩ f A outer s H E) [] σ' H' s' → RelV v u → Q v H' → CE outer P w H s Q u s' :=
    fun {σ' H' v u s'} J rv q => ⟨v, H', J.os, J.bare, J.base, J.hok, rv, q⟩
  refine PySem.ks_wpAt_execs_cons (PySem.ks_wpAt_mono (p1.run [] _ _ H _ I hq) (fun fl s' z => ?_) fun e s' z => z)
  cases fl with
  | brk => obtain ⟨_, _, _, q⟩ := z; exact q.elim
  | cont => obtain ⟨_, _, _, q⟩ := z; exact q.elim
  | ret u =>
    obtain ⟨v, σ', H', J, rv, q⟩ := z
    exact fin J rv q
  | next =>
    obtain ⟨σ', H', J, q⟩ := z
    refine wpAt_of_wpAny (wpAny_mono (p2.run [] s' σ' H' _ J q) (fun fl s2 z2 => ?_) fun e s2 z2 => z2)
    cases fl with
    | brk => obtain ⟨_, _, _, q⟩ := z2; exact q.elim
    | cont => obtain ⟨_, _, _, q⟩ := z2; exact q.elim
    | ret u =>
      obtain ⟨v, σ2, H2, J2, rv, q⟩ := z2
      exact fin J2 rv q
    | next =>
      obtain ⟨σ2, H2, J2, q⟩ := z2
      exact fin (v := V.non) (u := Value.none) J2 rfl q
end Z
namespace Z
open PySem L2 StX PySem.Spec PyProof.Rows
/-! ### a def with a star parameter whose second statement says super() -/
def StarSp (n : Nat) (sp : Sp) : Sp := fun vs H Q E => ∃ ws rest, vs = ws ++ rest ∧ ws.length = n ∧ rest.length ≤ sizeLine ∧ ∀ p, H p = Option.none → sp (ws ++ [V.ref p]) (upd H p (.tup rest)) Q E
def BindsS (fd : FuncData) (ps : List Str) (pv : Str) : Prop := ∀ us rest : List Value, us.length = ps.length → bindArgs fd ⟨us ++ rest, []⟩ = (newTuple rest >>= fun t => pure (ps.zip us ++ [(pv, t)]))
theorem FunS.bindsS {P : Program} {K : PySem.W.Frag} {x qual pv : Str} {params : Arguments} {body : List Stmt} {scope : Scope} {D f : Addr} {fd : FuncData} {ps : List Str} (F : FunS P K x qual params body scope D f fd)
    (h : ∀ (cl : List (Str × Addr)) (doc pm : Value) (an : Option Addr) (c1 c2 : Value) (us rest : List Value), us.length = ps.length → bindArgs (PySem.W.fnX x qual params body scope cl .none .none doc pm an c1 c2) ⟨us ++ rest, []⟩ = (newTuple rest >>= fun t => pure (ps.zip us ++ [(pv, t)]))) : BindsS fd ps pv := by
  obtain ⟨oc, od, doc, pm, an, cda, ct, osl, cc, rfl, _⟩ := F.ex
  exact fun us rest hl => h _ _ _ _ _ _ us rest hl
theorem FunS.okS {CX : CXT} {P : Program} {w : World} {K : PySem.W.Frag} {mg : Str → Option Value} {base : Heap} {x qual x0 pv : Str} {params : Arguments} {st0 st : Stmt} {rest : List Stmt} {scope : Scope} {D f : Addr} {fd : FuncData} {N ps : List Str} {k : Nat} {sp : Sp} {ar : Arg}
    (F : FunS P K x qual params (st0 :: st :: rest) scope D f fd) (S : SScope N (ps ++ [pv]) ["__class__"] scope) (hCX : CXUp CX) (hbs : BindsS fd ps pv) (hs : scope.names.lookup ("super" : Str) = some .globalImplicit) (hp : (params.posonlyargs ++ params.args).head? = some ar) (har : ar.arg = x0) (hN : N[0]? = some x0) (hx : scope.names.lookup x0 = some .local ∨ scope.names.lookup x0 = some .cell) (hxd : (x0 == ("__classdict__" : Str)) = false)
    (top : (P.main.scope.names.lookup ("super" : Str)).isSome = false) (hm : mg "super" = Option.none) (hD : ∃ cd, PySem.W.clsIn K D = some cd) (hnc : scope.names.lookup ("__class__" : Str) = some .free)
    (hbody : ∀ (cc cda : Addr) (A : Around) (outer : List Env) (s : Shared) (H : Hp) (vs : List V) (Q : VK) (E : XK), Room k (A.deeper (PySem.W.envX qual scope s.heap.objs.size f (.ref cda) (ownC s.heap.objs.size scope ++ [(("__class__" : Str), cc)]))) → sp vs H Q E →
      SupX (scx CX P w K mg base N ⟨x, qual, params, st0 :: st :: rest, scope, ownC s.heap.objs.size scope ++ [(("__class__" : Str), cc)], cda⟩ f A outer s H E) D f x0 →
      ∃ t0 t1 t2, PS (scx CX P w K mg base N ⟨x, qual, params, st0 :: st :: rest, scope, ownC s.heap.objs.size scope ++ [(("__class__" : Str), cc)], cda⟩ f A outer s H E) st0 t0 ∧
        PSat (scx CX P w K mg base N ⟨x, qual, params, st0 :: st :: rest, scope, ownC s.heap.objs.size scope ++ [(("__class__" : Str), cc)], cda⟩ f A outer s H E) (.func (st0 :: st :: rest) (PySem.W.envX qual scope s.heap.objs.size f (.ref cda) (ownC s.heap.objs.size scope ++ [(("__class__" : Str), cc)]))) st t1 ∧
        PSs (scx CX P w K mg base N ⟨x, qual, params, st0 :: st :: rest, scope, ownC s.heap.objs.size scope ++ [(("__class__" : Str), cc)], cda⟩ f A outer s H E) rest t2 ∧ tSeq t0 (tSeq t1 t2) { nx := fun _ H' => Q .non H', rt := Q } (NdefX.startF N vs [Option.none]) H) : FnR P w K mg base CX (k + 1) f (StarSp ps.length sp) := by
  obtain ⟨oc, od, doc, pm, an, cda, ct, osl, cc, rfl, lk, hcd, ⟨cl1, cd1, cs1, hcell⟩, cl2, cd2, vs2, cs2, file, tf, hcode, hvs2, hfile⟩ := F.ex
  intro A outer s H us vs Q E hr e0 r hsp
  obtain ⟨ws, rst, ev, hl, hz, hq0⟩ := hsp
  subst ev
  obtain ⟨u1, u2, eu, r1, r2⟩ := vals_split r
  subst eu
  have hn : H s.heap.objs.size = Option.none := e0.hok.fresh (Nat.le_refl _)
  have hl1 : u1.length = ps.length := by rw [← r1.length]; exact hl
  have hl2 : u2.length ≤ sizeLine := by rw [← r2.length]; exact hz
  have hbnd : Bnd CX P w K mg base (PySem.W.fnX x qual params (st0 :: st :: rest) scope [("__class__", cc)] .none .none doc pm an (.ref cda) ct) ⟨u1 ++ u2, []⟩ (ps ++ [pv]) A outer s H E (fun xs H2 => ∃ p, H p = Option.none ∧ xs = ws ++ [V.ref p] ∧ H2 = upd H p (.tup rst)) := fun A' Ex Q' h => by
    rw [hbs u1 u2 hl1]
    refine wpAny_bind (wpAny_newTuple (wpAny_pure ?_) hl2)
    have new : ObjOk P w (upd H s.heap.objs.size (.tup rst)) (s.heap.push ({ cls := .type "tuple", data := .seq u2.toArray } : Obj)) s.heap.objs.size (.tup rst) := ⟨hz, u2, r2, ⟨_, Heap.get?_push_size _ rfl, rfl, _, rfl⟩⟩
    have un := un_laid (fs := frs outer) (s := s) (o := ({ cls := .type "tuple", data := .seq u2.toArray } : Obj)) (u := .tup rst) hn
    have z := h _ _ (ws ++ [V.ref s.heap.objs.size]) (u1 ++ [Value.ref s.heap.objs.size]) (env0_laid e0 new) un rfl (fun e s' => hCX outer s H _ _ E e s' un (fun b o q => Heap.get?_push_of_some _ q) rfl) (r1.append (.cons rfl .nil))
      (by rw [List.length_append, List.length_append, hl] <;> rfl) ⟨_, hn, rfl, rfl⟩
    rw [List.zip_append hl1.symm] at z
    exact z
  have KX0 : K.In s.heap := e0.mod.kin.keeps fun b o e => (e0.bs b o e).1
  refine codeAny_call_function hr.depth (KX0 _ _ lk) rfl S.co S.gen rfl (PySem.W.codeRec_of KX0 hcd) (hbnd _ _ _ fun s2 H2 vs us e2 un ho hxe r hl2 g => ?_)
  obtain ⟨p, hpn, rfl, rfl⟩ := g
  have hsp := hq0 p hpn
  have KX : K.In s2.heap := e2.mod.kin.keeps fun b o e => (e2.bs b o e).1
  have lim : s2.heap.NoLimit := e2.mod.nolimit.keeps fun b o e => (e2.bs b o e).1
  have hk : ∀ y ∈ (ps ++ [pv]).zip us, scope.names.lookup y.1 = some .local ∨ (scope.names.lookup y.1 = some .cell ∧ ((ownC s2.heap.objs.size scope).lookup y.1).isSome = true) := fun y hy => by
    rcases S.par y.1 (List.of_mem_zip hy).1 with z | z
    · exact .inl z
    · obtain ⟨c, e⟩ := cell_has (n := s2.heap.objs.size + 1) z
      exact .inr ⟨z, by show ((ownC s2.heap.objs.size scope).lookup y.1).isSome = true; rw [e]; rfl⟩
  refine newEnv_cl S.kind hk fun s1 xx => ⟨lim.keeps xx.toInCall.keep, PySem.ks_codeAny_funcAt ?_⟩
  have zc := e2.mod.kin _ _ hcell
  have I := inv_scx (CX := CX) (E := E) (f := f) (x0 := x) (qual := qual) (params := params) (body := st0 :: st :: rest) (cda := cda) S hr.hd e2 hl2 r (e2.bs _ _ zc).2 ⟨_, _, KX _ _ hcell, rfl⟩ xx
  have hcl : (ownC s2.heap.objs.size scope ++ [(("__class__" : Str), cc)]).lookup ("__class__" : Str) = some cc := by
    rw [List.lookup_append]
    cases z : (ownC s2.heap.objs.size scope).lookup ("__class__" : Str) with
    | none => simp [List.lookup]
    | some c => exact absurd (List.mem_singleton_self _) (S.ncl _ (cells_mem _ _ z) rfl)
  have SX : SupX (scx CX P w K mg base N ⟨x, qual, params, st0 :: st :: rest, scope, ownC s2.heap.objs.size scope ++ [(("__class__" : Str), cc)], cda⟩ f A outer s2 (upd H p (.tup rst)) E) D f x0 :=
    ⟨hs, hnc, rfl, ⟨_, _, _, _, ar, lk, hp, har⟩, ⟨cda, _, _, _, _, file, tf, rfl, hcode, hvs2, hfile⟩, top, hN, hx.elim .inl fun z => .inr (.inl z), hxd, ⟨cc, _, _, _, hcl, hcell⟩, hm, hD⟩
  obtain ⟨t0, t1, t2, p0, p1, p2, hq⟩ := hbody cc cda A outer s2 _ _ Q E (hr.deeper _) hsp SX
  have fin : ∀ {σ' : L2.St} {H' : Hp} {v : V} {u : Value} {s' : Shared}, Inv (scx CX P w K mg base N ⟨x, qual, params, st0 :: st :: rest, scope, ownC s2.heap.objs.size scope ++ [(("__class__" : Str), cc)], cda⟩ f A outer s2 (upd H p (.tup rst)) E) [] σ' H' s' → RelV v u → Q v H' → CE outer P w H s Q u s' :=
    fun {σ' H' v u s'} J rv q => ⟨v, H', J.os.trans ho, J.bare, un.trans J.base, J.hok, rv, q⟩
  refine PySem.ks_wpAt_mono (PySem.ks_wpAt_execs_cons (wpAt_of_wpAny (wpAny_mono (p0.run [] _ _ _ _ I hq) (fun fl s' z => ?_) fun e s' z => z))) (fun fl s' z => z) (fun e s' hs => wpAny_mono hs (fun _ s'' z => hxe e s'' z) fun e' s'' z => hxe e' s'' z)
  cases fl with
  | brk => obtain ⟨_, _, _, q⟩ := z; exact q.elim
  | cont => obtain ⟨_, _, _, q⟩ := z; exact q.elim
  | ret u =>
    obtain ⟨v, σ', H', J, rv, q⟩ := z
    exact fin J rv q
  | next =>
    obtain ⟨σ0, H0, J0, q0⟩ := z
    refine PySem.ks_wpAt_execs_cons (PySem.ks_wpAt_mono (p1.run [] _ _ H0 _ J0 q0) (fun fl s' z => ?_) fun e s' z => z)
    cases fl with
    | brk => obtain ⟨_, _, _, q⟩ := z; exact q.elim
    | cont => obtain ⟨_, _, _, q⟩ := z; exact q.elim
    | ret u =>
      obtain ⟨v, σ', H', J, rv, q⟩ := z
      exact fin J rv q
    | next =>
      obtain ⟨σ', H', J, q⟩ := z
      refine wpAt_of_wpAny (wpAny_mono (p2.run [] s' σ' H' _ J q) (fun fl s2 z2 => ?_) fun e s2 z2 => z2)
      cases fl with
      | brk => obtain ⟨_, _, _, q⟩ := z2; exact q.elim
      | cont => obtain ⟨_, _, _, q⟩ := z2; exact q.elim
      | ret u =>
        obtain ⟨v, σ2, H2, J2, rv, q⟩ := z2
        exact fin J2 rv q
      | next =>
        obtain ⟨σ2, H2, J2, q⟩ := z2
        exact fin (v := V.non) (u := Value.none) J2 rfl q
/-! ### making an instance by a positional promise -/
theorem pe_imp {X : Cx} {e : Expr} {t u : TE} (h : PE X e t) (i : ∀ σ H Q, u σ H Q → t σ H Q) : PE X e u := ⟨fun pins s σ H Q I q => h.run pins s σ H Q I (i σ H Q q)⟩
section
variable {X : Cx} {CX : CXT} {k : Nat} {f C : Addr} {sp : Sp} {E : XK} {x : Str} {e : Expr} {es : List Expr} {t : TA} {p pos : Pos}
theorem pe_mkS (M : Mk X.K C f) (F : FnR X.prog X.w X.K X.mg X.base CX k f sp) (hr : Room (k + 1) X.A) (hg : Gl X x) (hm : X.mg x = some (.ref C)) (hx : Passes CX X E) (ha : PA X (e :: es) t) (hdb : (x == ("__debug__" : Str)) = false := by decide)
    (he : starEach (e :: es) X.env = (false, eval e X.env) :: starEach es X.env := by rfl) (hpl : (backTo pos (starEach es X.env)).any (·.1) = false := by rfl) : PE X (.Call (.Name x p) (e :: es) [] pos) (tMake C sp [] E t) := by
  refine pe_imp (pe_makeR M F hr hg hm hx ha hdb he hpl) fun σ H Q h => ?_
  unfold tMake at h
  simp only [List.append_nil] at h
  exact h
theorem pe_mkS0 (M : Mk X.K C f) (F : FnR X.prog X.w X.K X.mg X.base CX k f sp) (hr : Room (k + 1) X.A) (hg : Gl X x) (hm : X.mg x = some (.ref C)) (hx : Passes CX X E) (hdb : (x == ("__debug__" : Str)) = false := by decide) : PE X (.Call (.Name x p) [] [] pos) (tMake C sp [] E tNil) := by
  refine ⟨fun pins s σ H Q I h => ?_⟩
  refine wpAny_Call_Name_kw (ld_glob I hg hm ?_ hdb)
  exact PySem.W.callWith_K0 I.kIn M.kp (run_makeR (us := []) M F hr hx I .nil (by simpa only [tMake, tNil, List.append_nil] using h))
theorem run_makeRZ {pins : List (Addr × Obj)} {σ : L2.St} {H : Hp} {s : Shared} {Q : VK} {us : List Value} {vs : List V} {E : L2.St → XK} (M : Mk X.K C f) (F : FnR X.prog X.w X.K X.mg X.base CX k f sp) (hr : Room (k + 1) X.A) (hx : PassesAt CX X σ (E σ)) (I : Inv X pins σ H s) (r : Vals vs us)
    (h : ∀ x dx, H x = Option.none → H dx = Option.none → dx ≠ x → sp (V.ref x :: vs) (upd (upd H dx (.own x)) x (.ins C dx [])) (fun v H2 => v = .non ∧ Q (.ref x) H2) (E σ)) :
    wpAny (model X.prog X.w) X.A (call (.ref C) us) (EP X pins σ Q) X.xe s := by
  have hq := h (s.heap.objs.size + 1) s.heap.objs.size (I.hok.fresh (Nat.le_succ _)) (I.hok.fresh (Nat.le_refl _)) (Nat.ne_of_lt (Nat.lt_succ_self _))
  have J := Inv.made (C := C) I
  have w2 : Vals (V.ref (s.heap.objs.size + 1) :: vs) (Value.ref (s.heap.objs.size + 1) :: us) := .cons rfl r
  refine wpAny_call (make_map (f := f) I.kIn M.makes M.init (beq_iff_eq.mp M.fn) (codeAny_mono (F _ X.stack _ _ (Value.ref (s.heap.objs.size + 1) :: us) _ _ (E σ) (hr.make C us []) (J.env0.make C us []) w2 hq) fun r s' z => ?_))
  match r, z with
  | .error e, z => exact hx pins _ _ e s' J z
  | .ok (.ret u), z =>
    obtain ⟨v, H', I3, rv, ev, q3⟩ := J.after z
    subst ev
    exact ⟨rv, V.ref (s.heap.objs.size + 1), H', I3, rfl, q3⟩
  | .ok .next, z => exact z.elim
  | .ok .brk, z => exact z.elim
  | .ok .cont, z => exact z.elim
theorem pe_mkSZ {E : L2.St → XK} (M : Mk X.K C f) (F : FnR X.prog X.w X.K X.mg X.base CX k f sp) (hr : Room (k + 1) X.A) (hg : Gl X x) (hm : X.mg x = some (.ref C)) (hx : ∀ σ, PassesAt CX X σ (E σ)) (ha : PA X (e :: es) t) (hdb : (x == ("__debug__" : Str)) = false := by decide)
    (he : starEach (e :: es) X.env = (false, eval e X.env) :: starEach es X.env := by rfl) (hpl : (backTo pos (starEach es X.env)).any (·.1) = false := by rfl) : PE X (.Call (.Name x p) (e :: es) [] pos) (tMakeZ C sp [] E t) :=
  ⟨fun pins s σ G Q I h => wpAny_Call_Name_kw (ld_glob I hg hm (PySem.W.callWith_K (h₀ := X.base) I.ok.mod.kin M.kp (thn (ha.run pos pins s σ G _ I h) fun us s1 ⟨vs, H1, I1, r, q⟩ => ⟨I1.kIn, run_makeRZ M F hr (hx σ) I1 r (by simpa only [List.append_nil] using q)⟩) he hpl) hdb)⟩
theorem pe_mkSZ0 {E : L2.St → XK} (M : Mk X.K C f) (F : FnR X.prog X.w X.K X.mg X.base CX k f sp) (hr : Room (k + 1) X.A) (hg : Gl X x) (hm : X.mg x = some (.ref C)) (hx : ∀ σ, PassesAt CX X σ (E σ)) (hdb : (x == ("__debug__" : Str)) = false := by decide) : PE X (.Call (.Name x p) [] [] pos) (tMakeZ C sp [] E tNil) :=
  ⟨fun pins s σ G Q I h => wpAny_Call_Name_kw (ld_glob I hg hm (PySem.W.callWith_K0 I.kIn M.kp (run_makeRZ (us := []) M F hr (hx σ) I .nil (by simpa only [tMakeZ, tMake, tNil, List.append_nil] using h))) hdb)⟩
/-- a statement that is never reached -/
theorem ps_dead {st : Stmt} : PS X st (fun _ _ _ => False) := ⟨fun _ _ _ _ _ _ h => h.elim⟩
/-- one of two derivations -/
theorem pe_or {e : Expr} {t u : TE} (h : PE X e t) (g : PE X e u) : PE X e (fun σ H Q => t σ H Q ∨ u σ H Q) := ⟨fun pins s σ H Q I q => q.elim (h.run pins s σ H Q I) (g.run pins s σ H Q I)⟩
end
end Z
namespace Z
open PySem L2 PySem.Spec PyProof.Rows
/-! ### zip of a tuple and a list -/
def ItzM (K : PySem.W.Frag) (a b : Addr) : It where
  go i H := ∃ (xs ys : List V) (x y : V), SqT K H a xs ∧ SqL K H b ys ∧ xs[i]? = some x ∧ ys[i]? = some y
  yld i H v H' := ∃ T x y, v = .ref T ∧ Fr H T ∧ H' = upd H T (.tup [x, y]) ∧ (∀ xs, SqT K H a xs → xs[i]? = some x) ∧ ∀ ys, SqL K H b ys → ys[i]? = some y
  stop i H := ∃ xs ys : List V, SqT K H a xs ∧ SqL K H b ys ∧ i = xs.length ∧ xs.length = ys.length
/-- the five cells of a zip -/
def zCells (n : Nat) : List Addr := [n + 4, n + 2, n + 3, n, n + 1]
theorem zCells_le {n c : Nat} (h : c ∈ zCells n) : n ≤ c ∧ c < n + 5 := by
  simp only [zCells, List.mem_cons, List.not_mem_nil, or_false] at h
  omega
theorem neN {a b : Nat} (h : a < b ∨ b < a) : a ≠ b := by omega
theorem zSep {n a b : Nat} (ha : a < n) (hb : b < n) : ZipSep2 (n + 4) (n + 2) (n + 3) n (n + 1) [n, a] [n + 1, b] := by
  constructor <;> first
    | (show ¬ _ ∈ _; simp only [List.mem_cons, List.not_mem_nil, or_false, not_or]; exact ⟨neN (by omega), neN (by omega)⟩)
    | (simp only [List.mem_cons, true_or])
    | (show (_ : Nat) ≠ _; omega)
def tnM (n a b : Nat) (i : Nat) (h : Heap) : Prop := IsZip h (n + 4) (n + 2) (n + 3) .none ∧ IsTupOf2 h (n + 2) (.ref n) (.ref (n + 1)) ∧ (∃ x y, IsTupOf2 h (n + 3) x y) ∧ h.IsTupleIter n a i ∧ h.IsListIter (n + 1) b i
theorem turn_zipM {P : Program} {w : World} {K : PySem.W.Frag} {elts : List Expr} {kk : Nat} {tpos : Pos} {n a b : Nat} (ha : a < n) (hb : b < n) : Turn P w K (.Tuple elts kk tpos) (ItzM K a b) (zCells n) (n + 4) (tnM n a b) := by
  refine ⟨by simp [zCells], ?_, ?_, ?_, ?_, fun A i s Q E st q => wpAny_pyIter_zip st.1 q⟩
  · rintro i h ⟨t1, t2, ⟨x, y, t3⟩, ⟨u, t4, _, t6⟩, v, t7, _, t9⟩ c hc
    simp only [zCells, List.mem_cons, List.not_mem_nil, or_false] at hc
    rcases hc with rfl | rfl | rfl | rfl | rfl
    · exact ⟨_, t1, nofun⟩
    · exact ⟨_, t2, nofun⟩
    · exact ⟨_, t3, nofun⟩
    · exact ⟨u, t4, fun w e => by rw [e] at t6; cases t6⟩
    · exact ⟨v, t7, fun w e => by rw [e] at t9; cases t9⟩
  · rintro i h g ⟨t1, t2, ⟨x, y, t3⟩, t4, t5⟩ up
    have up' : ∀ c, c ∈ zCells n → ∀ o, h.get? c = some o → g.get? c = some o := up
    exact ⟨up' _ (by simp [zCells]) _ t1, up' _ (by simp [zCells]) _ t2, ⟨x, y, up' _ (by simp [zCells]) _ t3⟩, t4.at (up' _ (by simp [zCells])), t5.at (up' _ (by simp [zCells]))⟩
  · rintro X rfl rfl rfl hc i pins s σ H E I hf ⟨t1, t2, ⟨x0, y0, t3⟩, t4, t5⟩ ⟨xs, ys, x, y, qa, qb, ex, ey⟩
    obtain ⟨ta, ra, pa, _⟩ := I.tuple qa
    obtain ⟨tb, rb, pb, _⟩ := I.list qb
    obtain ⟨u, eu, ru⟩ := ra.get ex
    obtain ⟨v, ev, rv⟩ := rb.get ey
    have hz : n + 4 < s.heap.objs.size := Heap.lt_size t1
    have la : i < ta.toArray.size := by
      have := (List.getElem?_eq_some_iff.mp eu).1; simpa using this
    have lb : i < tb.toArray.size := by
      have := (List.getElem?_eq_some_iff.mp ev).1; simpa using this
    refine wpAny_pyNext_zipD2_item (zSep ha hb) (Draws.tuple (A := X.A.in1) (I.ok.hd hc) n a (neN (by omega)) ta.toArray) (Draws.list (A := X.A.in1) (I.ok.hd hc) (n + 1) b (neN (by omega)) tb.toArray) t1 t2 t3 ⟨t4, pa⟩ ⟨t5, pb.isList⟩ la lb fun p q g tk yp yq g1 g3 s1 s2 gT gs up => ?_
    have ep : p = u := by
      have := yp
      rw [List.getElem?_toArray, eu] at this
      exact (Option.some.inj this).symm
    have eq : q = v := by
      have := yq
      rw [List.getElem?_toArray, ev] at this
      exact (Option.some.inj this).symm
    subst ep eq
    refine ⟨_, rfl, wpAny_letOwnedTupleGo_zip (s := { s with heap := g, toks := tk }) g1 fun g' z' sb => ?_⟩
    have cT : g'.get? s.heap.objs.size = some { cls := .type "tuple", data := .seq #[p, q] } := (sb.2 _ (neN (by omega))).trans gT
    have old : ∀ c o, c ∉ zCells n → s.heap.get? c = some o → g'.get? c = some o := fun c o hn e => by
      simp only [zCells, List.mem_cons, List.not_mem_nil, or_false, not_or] at hn
      exact (sb.2 c hn.1).trans (up c o hn.1 hn.2.2.1 hn.2.2.2.1 hn.2.2.2.2 e)
    have I2 : Inv X pins σ (upd H s.heap.objs.size (.tup [x, y])) { s with heap := g', toks := tk } :=
      I.turnedNew (ch := zCells n) (fun c o hn e => old c o hn e) hf (Nat.le_refl _) ⟨by show 2 ≤ sizeLine; decide, [p, q], .cons ru (.cons rv .nil), _, cT, rfl, _, rfl⟩
    refine ⟨.ref s.heap.objs.size, _, I2, rfl, ⟨_, x, y, rfl, I.hok.fresh (Nat.le_refl _), rfl, fun l e => by rw [I.tuple_inj e qa]; exact ex, fun l e => by rw [I.list_inj e qb]; exact ey⟩, ⟨z', ?_, ⟨p, q, ?_⟩, ?_, ?_⟩, fun c hcm => ?_⟩
    · exact (sb.2 _ (neN (by omega))).trans (up _ _ (neN (by omega)) (neN (by omega)) (neN (by omega)) (neN (by omega)) t2)
    · exact (sb.2 _ (neN (by omega))).trans g3
    · exact s1.1.at fun o e => (sb.2 _ (neN (by omega))).trans e
    · exact s2.1.at fun o e => (sb.2 _ (neN (by omega))).trans e
    · rw [upd_ne (neN (by have := zCells_le hcm; omega))]
      exact (hf c hcm).1
  · rintro X rfl rfl rfl hc i pins s σ H E I hf ⟨t1, t2, ⟨x0, y0, t3⟩, t4, t5⟩ ⟨xs, ys, qa, qb, hle, hll⟩
    obtain ⟨ta, ra, pa, _⟩ := I.tuple qa
    obtain ⟨tb, rb, pb, _⟩ := I.list qb
    have la := ra.length
    have lb := rb.length
    refine wpAny_pyNext_zipD2_end (zSep ha hb) (Draws.tuple (A := X.A.in1) (I.ok.hd hc) n a (neN (by omega)) ta.toArray) (Draws.list (A := X.A.in1) (I.ok.hd hc) (n + 1) b (neN (by omega)) tb.toArray) t1 t2 t3 ⟨t4, pa⟩ ⟨t5, pb.isList⟩ (by simp; omega) (by simp; omega) (.inl (by simp; omega)) fun g tk up => ⟨rfl, ?_⟩
    obtain ⟨f0, f1, f2, f3, f4, f5⟩ := hf (n + 4) (by simp [zCells])
    exact I.turnedL (t' := tk) (ch := zCells n) (fun c o hn e => by
      simp only [zCells, List.mem_cons, List.not_mem_nil, or_false, not_or] at hn
      exact up c o hn.1 hn.2.2.1 hn.2.2.2.1 hn.2.2.2.2 e) hf
def dZM (K : PySem.W.Frag) (R : It → Hp → Prop) : List V → Hp → Prop := fun vs H1 => ∃ a b xs ys, vs = [.ref a, .ref b] ∧ SqT K H1 a xs ∧ SqL K H1 b ys ∧ R (ItzM K a b) H1
def iZipM (K : PySem.W.Frag) (ta : TA) : TI := fun σ H R => ta σ H (dZM K R)
theorem pi_zipM {X : Cx} {K : PySem.W.Frag} (hK : X.K = K) {e e2 : Expr} {ta : TA} {p pos tpos : Pos} {elts : List Expr} {kk : Nat} (hg : Gl X "zip") (hm : X.mg "zip" = none) (ha : PA X [e, e2] ta)
    (h1 : starEach [e, e2] X.env = (false, eval e X.env) :: starEach [e2] X.env := by rfl) (h2 : (backTo pos (starEach [e2] X.env)).any (·.1) = false := by rfl) :
    PI X (.Tuple elts kk tpos) (.Call (.Name "zip" p) [e, e2] [] pos) (iZipM K ta) := by
  subst hK
  constructor
  intro pins s σ H R I h
  have go : ∀ us s1, (∃ vs H1, Inv X pins σ H1 s1 ∧ Vals vs us ∧ dZM X.K R vs H1) → wpAny (model X.prog X.w) X.A (call (.type "zip") us) (fun v s2 => wpAny (model X.prog X.w) X.A (pyIter v) (PIE X pins σ (.Tuple elts kk tpos) R) X.xe s2) X.xe s1 := by
    rintro us s1 ⟨vs, H1, I1, r1, a, b, xs, ys, rfl, qa, qb, q⟩
    cases r1 with
    | cons r rr =>
      cases rr with
      | cons r' rr =>
        cases rr; cases r; cases r'
        obtain ⟨ta', ra, pa, _⟩ := I1.tuple qa
        obtain ⟨tb, rb, pb, _⟩ := I1.list qb
        have la : a < s1.heap.objs.size := by obtain ⟨o, ho, _⟩ := id pa; exact Heap.lt_size ho
        have lb : b < s1.heap.objs.size := pb.lt
        refine zip_begins2 (begins_tuple a ta'.toArray) (begins_list b tb.toArray) pa pb.isList fun g gZ gT gO g1 g2 gs up => wpAny_pyIter_zip gZ ?_
        refine ⟨s1.heap.objs.size + 4, zCells s1.heap.objs.size, tnM s1.heap.objs.size a b, _, H1, rfl, I1.kept (t' := s1.toks) up, turn_zipM la lb, ⟨gZ, gT, ⟨_, _, gO⟩, ⟨_, g1, rfl, rfl⟩, _, g2, rfl, rfl⟩, fun c hc => ?_, q⟩
        have := (zCells_le hc).1
        exact I1.fpOk this (I1.hok.fresh this)
  exact Call_ (ld_blt I hg hm boot_zip (PyProof.Rows.callWith_type1 (thn (ha.run pos pins s σ H _ I h) go) h1 h2))
section
variable {K : PySem.W.Frag} {σ : L2.St} {H H' : Hp} {a b : Addr} {xs ys : List V} {R : It → Hp → Prop} {ta : TA}
theorem w_iZM (h : ta σ H (dZM K R)) : iZipM K ta σ H R := h
theorem i_ZM (hx : SqT K H a xs) (hy : SqL K H b ys) (hl : xs.length = ys.length) (k : ∀ J, Src J (fun H' => SqT K H' a xs ∧ SqL K H' b ys) xs.length (fun i x H'' => ∃ T y z, x = .ref T ∧ At H'' T (.tup [y, z]) ∧ xs[i]? = some y ∧ ys[i]? = some z) → R J H) : dZM K R [.ref a, .ref b] H := by
  refine ⟨a, b, xs, ys, rfl, hx, hy, k _ ⟨fun i H' hp hi => ⟨xs, ys, xs[i], ys[i]'(by omega), hp.1, hp.2, List.getElem?_eq_getElem hi, List.getElem?_eq_getElem (by omega)⟩, fun H' hp => ⟨xs, ys, hp.1, hp.2, rfl, hl⟩, fun i H' x H'' hp hi hy => ?_⟩⟩
  obtain ⟨T, y, z, e1, e2, e3, f1, f2⟩ := hy
  exact ⟨by rw [e3]; exact Ex.new e2, T, y, z, e1, by rw [e3]; exact upd_same, f1 xs hp.1, f2 ys hp.2⟩
end
end Z
namespace Z
open PySem PySem.Spec PyProof.Rows
open Sem (wp)
/-! ### what sleeps is not touched: a run that never wakes a generator is the same whatever that generator is -/
/-- a frame that is no generator's -/
def plainF : Frame → Frame
  | .gen _ _ _ c p => .ret (fun _ => .unsupported "") none false [] c p []
  | f => f
theorem plainF_where (f : Frame) : (plainF f).where_ = f.where_ := by cases f <;> rfl
/-- it may not be woken, and looks as it did -/
def poison : GenState → GenState
  | .suspended _ l c p fs _ => .suspended (fun _ => .unsupported "") l c p (fs.map plainF) false
  | x => x
def isSusp : GenState → Bool
  | .suspended .. => true
  | _ => false
theorem poison_seen (x : GenState) : (poison x).seen = x.seen := by
  cases x with
  | suspended k l c p fs cl =>
    show (GenStatus.suspended, some ((c, p) :: (fs.map plainF).map Frame.where_)) = (GenStatus.suspended, some ((c, p) :: fs.map Frame.where_))
    rw [List.map_map]
    congr 4
    funext f
    exact plainF_where f
  | _ => rfl
theorem poison_bare (x : GenState) (h : isSusp x = true) : (poison x).bare = true := by
  cases x with
  | suspended k l c p fs cl => rfl
  | _ => cases h
/-- no generator's frame among its frames -/
def Cln : GenState → Prop
  | .suspended _ _ _ _ fs _ => splitAtGen fs = none
  | _ => True
theorem split_plain : ∀ fs : List Frame, splitAtGen (fs.map plainF) = none
  | [] => rfl
  | .gen g k l c p :: r => by
    show (splitAtGen (r.map plainF)).map _ = none
    rw [split_plain r]; rfl
  | .ret k h g l c p kp :: r => by
    show (splitAtGen (r.map plainF)).map _ = none
    rw [split_plain r]; rfl
theorem poison_cln (x : GenState) : Cln (poison x) := by
  cases x with
  | suspended k l c p fs cl => exact split_plain fs
  | _ => trivial
def ClnE : End → Prop
  | .susp _ _ _ _ _ _ fs => splitAtGen fs = none
  | _ => True
theorem ClnE.state {e : End} (h : ClnE e) : Cln e.genState := by
  cases e with
  | ret r => trivial
  | susp v g l k c p fs => exact h
theorem split_ret {k h g l c p kp} {fs : List Frame} : splitAtGen (.ret k h g l c p kp :: fs) = none ↔ splitAtGen fs = none := by
  show (splitAtGen fs).map _ = none ↔ _
  rw [Option.map_eq_none_iff]
theorem split_app : ∀ {a b : List Frame}, splitAtGen a = none → splitAtGen b = none → splitAtGen (a ++ b) = none
  | [], _, _, h => h
  | .gen .. :: _, _, h, _ => by cases h
  | .ret .. :: r, b, h, h2 => split_ret.mpr (split_app (split_ret.mp h) h2)
/-- u: as s, but what is in pz is poisoned -/
structure Sim (pz : Nat → Option GenState) (u s : Shared) : Prop where
  heap : u.heap = s.heap
  drawn : u.drawn = s.drawn
  toks : u.toks = s.toks
  os : u.os = s.os
  size : u.gens.size = s.gens.size
  froz : ∀ (g : Nat) (x : GenState), pz g = some x → isSusp x = true ∧ u.gens[g]? = some (poison x) ∧ s.gens[g]? = some x
  else_ : ∀ g : Nat, pz g = none → u.gens[g]? = s.gens[g]?
  cln : ∀ (g : Nat) (x : GenState), u.gens[g]? = some x → Cln x
theorem Sim.set {pz : Nat → Option GenState} {u s : Shared} {g : Nat} {x : GenState} (h : Sim pz u s) (hg : pz g = none) (hx : Cln x) : Sim pz (u.setGen g x) (s.setGen g x) := by
  refine ⟨h.heap, h.drawn, h.toks, h.os, ?_, fun g' y hy => ?_, fun g' hy => ?_, fun g' y hy => ?_⟩
  · show (u.gens.setIfInBounds g x).size = (s.gens.setIfInBounds g x).size
    rw [Array.size_setIfInBounds, Array.size_setIfInBounds, h.size]
  · have hne : g ≠ g' := fun z => by rw [z, hy] at hg; cases hg
    obtain ⟨a, b, c⟩ := h.froz g' y hy
    refine ⟨a, ?_, ?_⟩
    · show (u.gens.setIfInBounds g x)[g']? = _
      rw [Array.getElem?_setIfInBounds_ne hne]; exact b
    · show (s.gens.setIfInBounds g x)[g']? = _
      rw [Array.getElem?_setIfInBounds_ne hne]; exact c
  · show (u.gens.setIfInBounds g x)[g']? = (s.gens.setIfInBounds g x)[g']?
    by_cases hne : g = g'
    · subst hne
      rw [Array.getElem?_setIfInBounds_self, Array.getElem?_setIfInBounds_self, h.size]
    · rw [Array.getElem?_setIfInBounds_ne hne, Array.getElem?_setIfInBounds_ne hne]; exact h.else_ g' hy
  · have hy : (u.gens.setIfInBounds g x)[g']? = some y := hy
    by_cases hne : g = g'
    · subst hne
      rw [Array.getElem?_setIfInBounds_self] at hy
      split at hy
      · cases hy; exact hx
      · cases hy
    · rw [Array.getElem?_setIfInBounds_ne hne] at hy
      exact h.cln g' y hy
theorem Sim.push {pz : Nat → Option GenState} {u s : Shared} {c : Code} (h : Sim pz u s) : Sim pz { u with gens := u.gens.push (.fresh c) } { s with gens := s.gens.push (.fresh c) } := by
  refine ⟨h.heap, h.drawn, h.toks, h.os, ?_, fun g y hy => ?_, fun g hy => ?_, fun g y hy => ?_⟩
  · show (u.gens.push _).size = (s.gens.push _).size
    rw [Array.size_push, Array.size_push, h.size]
  · obtain ⟨a, b, d⟩ := h.froz g y hy
    refine ⟨a, ?_, ?_⟩
    · show (u.gens.push _)[g]? = _
      rw [Array.getElem?_push, if_neg (Nat.ne_of_lt (Array.getElem?_eq_some_iff.mp b).1)]; exact b
    · show (s.gens.push _)[g]? = _
      rw [Array.getElem?_push, if_neg (Nat.ne_of_lt (Array.getElem?_eq_some_iff.mp d).1)]; exact d
  · show (u.gens.push _)[g]? = (s.gens.push _)[g]?
    rw [Array.getElem?_push, Array.getElem?_push, h.size, h.else_ g hy]
  · have hy : (u.gens.push (.fresh c))[g]? = some y := hy
    rw [Array.getElem?_push] at hy
    split at hy
    · cases hy; trivial
    · exact h.cln g y hy
theorem Sim.at {pz : Nat → Option GenState} {u s : Shared} {g : Nat} {x : GenState} (h : Sim pz u s) (hx : u.gens[g]? = some x) (hs : isSusp x = false) : pz g = none ∧ s.gens[g]? = some x := by
  have e : pz g = none := by
    cases q : pz g with
    | none => rfl
    | some y =>
      obtain ⟨a, b, c⟩ := h.froz g y q
      rw [hx] at b
      cases b
      cases y with
      | suspended => cases hs
      | _ => cases a
  exact ⟨e, by rw [← h.else_ g e]; exact hx⟩
theorem Sim.to {pz : Nat → Option GenState} {u s : Shared} (h : Sim pz u s) : s = { u with gens := s.gens } := by
  obtain ⟨a, b, c, d, e⟩ := u
  obtain ⟨a', b', c', d', e'⟩ := s
  obtain ⟨h1, h2, h3, h4, _⟩ := h
  cases h1; cases h2; cases h3; cases h4
  rfl
variable {M : Model}
theorem no_uns {Γ : PySem.Ctx} {p : Pos} {w : String} {s s' : Shared} {e : End} : ∀ {fs : List Frame}, ¬ Runs M Γ p (.unsupported w) fs s e s' := by
  have base : ∀ {Γ : PySem.Ctx} {e : End} {s' : Shared}, ¬ Runs M Γ p (.unsupported w) [] s e s' := fun h => by cases h
  intro fs h
  cases h with
  | segRet a b => exact base a
  | segGen a b => exact base a
  | segSuspOut a b => exact base b
  | segSuspGen a b => exact base b
theorem Sim.back {pz : Nat → Option GenState} {u s : Shared} (h : Sim pz u s) {u' s' : Shared} (e1 : u'.gens = u.gens) (e2 : s'.gens = s.gens) (a : u'.heap = s'.heap) (b : u'.drawn = s'.drawn) (c : u'.toks = s'.toks) (d : u'.os = s'.os) : Sim pz u' s' :=
  ⟨a, b, c, d, by rw [e1, e2]; exact h.size, fun g x q => by rw [e1, e2]; exact h.froz g x q, fun g q => by rw [e1, e2]; exact h.else_ g q, fun g x q => h.cln g x (by rw [← e1]; exact q)⟩
theorem Sim.seen {pz : Nat → Option GenState} {u s : Shared} {g : Nat} {x : GenState} (h : Sim pz u s) (hx : u.gens[g]? = some x) : ∃ y, s.gens[g]? = some y ∧ y.seen = x.seen := by
  cases q : pz g with
  | none => exact ⟨x, (h.else_ g q).symm.trans hx, rfl⟩
  | some y =>
    obtain ⟨h1, h2, h3⟩ := h.froz g y q
    rw [hx] at h2
    cases h2
    exact ⟨y, h3, (poison_seen y).symm⟩
theorem runs_sim {Γ : PySem.Ctx} {p : Pos} {t : Sem PySem.Fin} {fs : List Frame} {u u' : Shared} {e : End} {pz : Nat → Option GenState} (h : Runs M Γ p t fs u e u') :
    ∀ s : Shared, splitAtGen fs = none → Sim pz u s → ∃ s', Runs M Γ p t fs s e s' ∧ Sim pz u' s' ∧ ClnE e := by
  induction h with
  | done => exact fun _ _ z => ⟨_, .done, z, trivial⟩
  | raise => exact fun _ _ z => ⟨_, .raise, z, trivial⟩
  | again q _ ih => exact fun s n z => let ⟨s', a, b⟩ := ih s n z; ⟨s', .again q a, b⟩
  | rule _ ih => exact fun s n z => let ⟨s', a, b⟩ := ih s n z; ⟨s', .rule a, b⟩
  | «at» _ ih => exact fun s n z => let ⟨s', a, b⟩ := ih s n z; ⟨s', .at a, b⟩
  | load ho _ ih =>
    intro s n z
    obtain ⟨s', a, b⟩ := ih s n z
    exact ⟨s', .load (by rw [← z.heap]; exact ho) a, b⟩
  | update ho _ ih =>
    intro s n z
    obtain ⟨s', a, b⟩ := ih { s with heap := s.heap.update _ _ } n (z.back rfl rfl (by rw [z.heap]) z.drawn z.toks z.os)
    exact ⟨s', .update (by rw [← z.heap]; exact ho) a, b⟩
  | loadIfAlive _ ih =>
    intro s n z
    obtain ⟨s', a, b⟩ := ih s n z
    exact ⟨s', .loadIfAlive (by rw [z.heap] at a; exact a), b⟩
  | point _ ih => exact fun s n z => let ⟨s', a, b⟩ := ih s n z; ⟨s', .point a, b⟩
  | alloc _ ih =>
    intro s n z
    obtain ⟨s', a, b⟩ := ih { s with heap := s.heap.push _ } n (z.back rfl rfl (by rw [z.heap]) z.drawn z.toks z.os)
    exact ⟨s', .alloc (by rw [z.heap] at a; exact a), b⟩
  | fresh _ ih =>
    intro s n z
    obtain ⟨s', a, b⟩ := ih { s with toks := s.toks + 1 } n (z.back rfl rfl z.heap z.drawn (by rw [z.toks]) z.os)
    exact ⟨s', .fresh (by rw [z.toks] at a; exact a), b⟩
  | ask _ ih => exact fun s n z => let ⟨s', a, b⟩ := ih s n z; ⟨s', .ask a, b⟩
  | choose hn _ ih =>
    intro s n z
    obtain ⟨s', a, b⟩ := ih { s with drawn := s.drawn.bump _ } n (z.back rfl rfl z.heap (by rw [z.drawn]) z.toks z.os)
    exact ⟨s', .choose hn (by rw [z.drawn] at a; exact a), b⟩
  | os _ ih =>
    intro s n z
    obtain ⟨s', a, b⟩ := ih { s with os := (Os.step s.os _).1 } n (z.back rfl rfl z.heap z.drawn z.toks (by rw [z.os]))
    exact ⟨s', .os (by rw [z.os] at a; exact a), b⟩
  | handled _ ih => exact fun s n z => let ⟨s', a, b⟩ := ih s n z; ⟨s', .handled a, b⟩
  | genState hg _ ih =>
    intro s1 n z
    obtain ⟨s2, a, b⟩ := ih s1 n z
    obtain ⟨y, h1, h2⟩ := z.seen hg
    rw [← h2] at a
    exact ⟨s2, .genState h1 a, b⟩
  | stack _ ih => exact fun s n z => let ⟨s', a, b⟩ := ih s n z; ⟨s', .stack a, b⟩
  | thread _ ih => exact fun s n z => let ⟨s', a, b⟩ := ih s n z; ⟨s', .thread a, b⟩
  | newGen _ ih =>
    intro s n z
    obtain ⟨s', a, b⟩ := ih _ n z.push
    exact ⟨s', .newGen (by rw [z.size] at a; exact a), b⟩
  | call _ _ ih1 ih2 =>
    intro s n z
    obtain ⟨s1, a1, b1, _⟩ := ih1 _ rfl z
    obtain ⟨s2, a2, b2⟩ := ih2 _ rfl b1
    exact ⟨s2, .call a1 a2, b2⟩
  | callSusp _ ih =>
    intro s n z
    obtain ⟨s1, a1, b1, c1⟩ := ih _ rfl z
    exact ⟨s1, .callSusp a1, b1, split_app c1 rfl⟩
  | yield => exact fun _ _ z => ⟨_, .yield, z, rfl⟩
  | resumeFresh hg _ hq _ ih1 ih2 =>
    intro s n z
    obtain ⟨g1, g2⟩ := z.at hg rfl
    obtain ⟨s1, a1, b1, c1⟩ := ih1 _ rfl (z.set g1 trivial)
    obtain ⟨s2, a2, b2⟩ := ih2 _ rfl (b1.set g1 c1.state)
    exact ⟨s2, .resumeFresh g2 a1 hq a2, b2⟩
  | @resumeSuspended Γ p g r l k s0 k0 l0 c0 p0 fs0 cl e1 u1 e u2 hg hr hq _ ih1 ih2 =>
    intro s n z
    cases q : pz g with
    | none =>
      obtain ⟨s1, a1, b1, c1⟩ := ih1 _ (z.cln g _ hg) (z.set q trivial)
      obtain ⟨s2, a2, b2⟩ := ih2 _ rfl (b1.set q c1.state)
      exact ⟨s2, .resumeSuspended ((z.else_ g q).symm.trans hg) a1 hq a2, b2⟩
    | some y =>
      obtain ⟨h1, h2, h3⟩ := z.froz g y q
      rw [hg] at h2
      cases y with
      | suspended =>
        cases h2
        exact (no_uns hr).elim
      | _ => cases h1
  | resumeJustStarted hg hv _ ih =>
    intro s n z
    obtain ⟨g1, g2⟩ := z.at hg rfl
    obtain ⟨s1, a1, b1⟩ := ih _ rfl z
    exact ⟨s1, .resumeJustStarted g2 hv a1, b1⟩
  | resumeThrowFresh hg _ ih =>
    intro s n z
    obtain ⟨g1, g2⟩ := z.at hg rfl
    obtain ⟨s1, a1, b1⟩ := ih _ rfl (z.set g1 trivial)
    exact ⟨s1, .resumeThrowFresh g2 a1, b1⟩
  | resumeRunning hg _ ih =>
    intro s n z
    obtain ⟨g1, g2⟩ := z.at hg rfl
    obtain ⟨s1, a1, b1⟩ := ih _ rfl z
    exact ⟨s1, .resumeRunning g2 a1, b1⟩
  | resumeFinished hg _ ih =>
    intro s n z
    obtain ⟨g1, g2⟩ := z.at hg rfl
    obtain ⟨s1, a1, b1⟩ := ih _ rfl z
    exact ⟨s1, .resumeFinished g2 a1, b1⟩
  | segRet _ _ ih1 ih2 =>
    intro s n z
    obtain ⟨s1, a1, b1, _⟩ := ih1 _ rfl z
    obtain ⟨s2, a2, b2⟩ := ih2 _ (split_ret.mp n) b1
    exact ⟨s2, .segRet a1 a2, b2⟩
  | segGen => exact fun _ n => by cases n
  | segSuspOut hn _ ih =>
    intro s n z
    obtain ⟨s1, a1, b1, c1⟩ := ih _ rfl z
    exact ⟨s1, .segSuspOut hn a1, b1, split_app c1 hn⟩
  | segSuspGen hn => exact fun _ n => by rw [n] at hn; cases hn

theorem wakes_sim {Γ : PySem.Ctx} {p : Pos} {g : Nat} {r : Resume} {u u' : Shared} {res : GenResult} {pz : Nat → Option GenState} (h : Wakes M Γ p g r u res u') {s : Shared} (z : Sim pz u s) : ∃ s', Wakes M Γ p g r s res s' ∧ Sim pz u' s' := by
  unfold Wakes at h
  cases q : u.gens[g]? with
  | none => simp only [q] at h
  | some x =>
    simp only [q] at h
    cases x with
    | fresh c =>
      obtain ⟨g1, g2⟩ := z.at q rfl
      cases r with
      | throw e =>
        obtain ⟨rfl, rfl⟩ := h
        exact ⟨s.setGen g .finished, by unfold Wakes; rw [g2]; exact ⟨rfl, rfl⟩, z.set g1 trivial⟩
      | send v =>
        by_cases hv : v = .none
        · subst hv
          obtain ⟨e1, s1, hr, hq, rfl, rfl⟩ := h
          obtain ⟨s2, a, b, c⟩ := runs_sim hr _ rfl (z.set g1 trivial)
          exact ⟨s2.setGen g e1.genState, by unfold Wakes; rw [g2]; exact ⟨e1, s2, a, hq, rfl, rfl⟩, b.set g1 c.state⟩
        · have : res = .justStarted ∧ u' = u := by cases v <;> first | exact absurd rfl hv | exact h
          obtain ⟨rfl, rfl⟩ := this
          exact ⟨s, Sem.wakes_justStarted M Γ g2 hv, z⟩
    | suspended k l c p0 fs cl =>
      obtain ⟨e1, s1, hr, hq, rfl, rfl⟩ := h
      cases e : pz g with
      | none =>
        obtain ⟨s2, a, b, c⟩ := runs_sim hr _ (z.cln g _ q) (z.set e trivial)
        exact ⟨s2.setGen g e1.genState, by unfold Wakes; rw [(z.else_ g e).symm.trans q]; exact ⟨e1, s2, a, hq, rfl, rfl⟩, b.set e c.state⟩
      | some y =>
        obtain ⟨h1, h2, h3⟩ := z.froz g y e
        rw [q] at h2
        cases y with
        | suspended =>
          cases h2
          exact (no_uns hr).elim
        | _ => cases h1
    | running =>
      obtain ⟨g1, g2⟩ := z.at q rfl
      obtain ⟨rfl, rfl⟩ := h
      exact ⟨s, by unfold Wakes; rw [g2]; exact ⟨rfl, rfl⟩, z⟩
    | finished =>
      obtain ⟨g1, g2⟩ := z.at q rfl
      obtain ⟨rfl, rfl⟩ := h
      exact ⟨s, by unfold Wakes; rw [g2]; exact ⟨rfl, rfl⟩, z⟩
theorem wp_sim {α : Type} (Γ : PySem.Ctx) (pz : Nat → Option GenState) (t : Sem α) : ∀ (Q : α → Pos → Shared → Prop) (E : Value → Pos → Shared → Prop) (p : Pos) (u s : Shared), Sim pz u s → wp M Γ t Q E p u →
    wp M Γ t (fun a p' s' => ∃ u', Sim pz u' s' ∧ Q a p' u') (fun e p' s' => ∃ u', Sim pz u' s' ∧ E e p' u') p s := by
  induction t with
  | pure a => exact fun Q E p u s z h => ⟨u, z, h⟩
  | raise e => exact fun Q E p u s z h => ⟨u, z, h⟩
  | unsupported _ => exact fun Q E p u s _ h => h
  | finish _ => exact fun Q E p u s _ h => h
  | rule _ k ih => exact fun Q E p u s z h => ih () Q E p u s z h
  | «at» p' k ih => exact fun Q E p u s z h => ih () Q E p' u s z h
  | load a _ k ih => exact fun Q E p u s z ⟨o, ho, h⟩ => ⟨o, by rw [← z.heap]; exact ho, ih o Q E p u s z h⟩
  | update a _ f k ih =>
    exact fun Q E p u s z ⟨h1, h⟩ => by
      have z2 : Sim pz { u with heap := u.heap.update a f } { s with heap := s.heap.update a f } := z.back rfl rfl (by rw [z.heap]) z.drawn z.toks z.os
      exact ⟨by rw [← z.heap]; exact h1, ih () Q E p _ _ z2 h⟩
  | loadIfAlive a k ih =>
    exact fun Q E p u s z h => by
      have h2 : wp M Γ (k (u.heap.get? a)) Q E p u := h
      rw [z.heap] at h2
      exact ih _ Q E p u s z h2
  | point _ k ih => exact fun Q E p u s z h => ih () Q E p u s z h
  | register _ _ => exact fun Q E p u s _ h => h
  | alloc o k ih =>
    exact fun Q E p u s z h => by
      have h2 : wp M Γ (k u.heap.objs.size) Q E p { u with heap := u.heap.push o } := h
      have z2 : Sim pz { u with heap := u.heap.push o } { s with heap := s.heap.push o } := z.back rfl rfl (by rw [z.heap]) z.drawn z.toks z.os
      have e : u.heap.objs.size = s.heap.objs.size := by rw [z.heap]
      rw [e] at h2
      exact ih _ Q E p _ _ z2 h2
  | fresh k ih =>
    exact fun Q E p u s z h => by
      have h2 : wp M Γ (k u.toks) Q E p { u with toks := u.toks + 1 } := h
      have z2 : Sim pz { u with toks := u.toks + 1 } { s with toks := s.toks + 1 } := z.back rfl rfl z.heap z.drawn (by rw [z.toks]) z.os
      have e : u.toks = s.toks := z.toks
      have h3 := ih _ Q E p _ _ z2 h2
      rw [e] at h3
      exact h3
  | ask k ih => exact fun Q E p u s z h => ih _ Q E p u s z h
  | choose src n k ih =>
    exact fun Q E p u s z ⟨h1, h⟩ => by
      have z2 : Sim pz { u with drawn := u.drawn.bump src } { s with drawn := s.drawn.bump src } := z.back rfl rfl z.heap (by rw [z.drawn]) z.toks z.os
      have h3 := ih _ Q E p _ _ z2 h
      rw [z.drawn] at h3
      exact ⟨h1, h3⟩
  | os q l k ih =>
    exact fun Q E p u s z h => by
      have h2 : wp M Γ (k (Os.step u.os q).2) Q E p { u with os := (Os.step u.os q).1 } := h
      have z2 : Sim pz { u with os := (Os.step u.os q).1 } { s with os := (Os.step s.os q).1 } := z.back rfl rfl z.heap z.drawn z.toks (by rw [z.os])
      have h3 := ih _ Q E p _ _ z2 h2
      rw [z.os] at h3
      exact h3
  | call c hd g l k ih =>
    intro Q E p u s z h
    obtain ⟨r, u', hr, h⟩ := h
    obtain ⟨s', a, b, _⟩ := runs_sim hr s rfl z
    exact ⟨r, s', a, ih r Q E p u' s' b h⟩
  | handled own k ih => exact fun Q E p u s z h => ih _ Q E p u s z h
  | genState g k ih =>
    intro Q E p u s z h
    obtain ⟨st, hs, h⟩ := h
    obtain ⟨y, h1, h2⟩ := z.seen hs
    rw [← h2] at h
    exact ⟨y, h1, ih _ Q E p u s z h⟩
  | newGen c k ih =>
    exact fun Q E p u s z h => by
      have h2 : wp M Γ (k u.gens.size) Q E p { u with gens := u.gens.push (.fresh c) } := h
      have h3 := ih _ Q E p _ _ (z.push (c := c)) h2
      rw [z.size] at h3
      exact h3
  | resume g r l k ih =>
    intro Q E p u s z h
    obtain ⟨res, u', hw, h⟩ := h
    obtain ⟨s', a, b⟩ := wakes_sim hw z
    exact ⟨res, s', a, ih res Q E p u' s' b h⟩
  | yield _ _ _ _ => exact fun Q E p u s _ h => h
  | stack k ih => exact fun Q E p u s z h => ih _ Q E p u s z h
  | fork _ _ => exact fun Q E p u s _ h => h
  | thread k ih => exact fun Q E p u s z h => ih _ Q E p u s z h
  | await _ _ _ _ _ => exact fun Q E p u s _ h => h
theorem wpAny_sim {α : Type} {A : Around} {t : Sem α} {Q : α → Shared → Prop} {E : Value → Shared → Prop} {pz : Nat → Option GenState} {u s : Shared} (z : Sim pz u s) (h : wpAny M A t Q E u) :
    wpAny M A t (fun a s' => ∃ u', Sim pz u' s' ∧ Q a u') (fun e s' => ∃ u', Sim pz u' s' ∧ E e u') s := fun Γ p hΓ => wp_sim Γ pz t _ _ p u s z (h Γ p hΓ)
/-- what sleeps in s -/
def slp (s : Shared) (g : Nat) : Option GenState := match s.gens[g]? with
  | some x => if isSusp x = true then some x else none
  | none => none
/-- s, all that sleeps poisoned -/
def psn (s : Shared) : Shared := { s with gens := s.gens.map poison }
theorem slp_some {s : Shared} {g : Nat} {x : GenState} : slp s g = some x ↔ s.gens[g]? = some x ∧ isSusp x = true := by
  unfold slp
  cases q : s.gens[g]? with
  | none => simp
  | some y =>
    by_cases h : isSusp y = true
    · simp only [h, if_true]
      constructor
      · intro e; cases e; exact ⟨rfl, h⟩
      · rintro ⟨e, _⟩; exact e
    · simp only [h]
      constructor
      · intro e; cases e
      · rintro ⟨e, e2⟩; cases e; exact absurd e2 h
theorem sim_psn (s : Shared) : Sim (slp s) (psn s) s := by
  have hg : ∀ g : Nat, (psn s).gens[g]? = s.gens[g]?.map poison := fun g => Array.getElem?_map
  refine ⟨rfl, rfl, rfl, rfl, Array.size_map, fun g x q => ?_, fun g q => ?_, fun g x q => ?_⟩
  · obtain ⟨h1, h2⟩ := slp_some.mp q
    exact ⟨h2, by rw [hg, h1]; rfl, h1⟩
  · rw [hg]
    cases e : s.gens[g]? with
    | none => rfl
    | some y =>
      cases hy : isSusp y with
      | true => exact absurd (slp_some.mpr ⟨e, hy⟩) (by rw [q]; exact fun z => by cases z)
      | false =>
        cases y with
        | suspended => cases hy
        | _ => rfl
  · rw [hg] at q
    cases e : s.gens[g]? with
    | none => rw [e] at q; cases q
    | some y => rw [e] at q; cases q; exact poison_cln y
theorem bare_psn {s : Shared} (h : AllBare s.gens) : AllBare (psn s).gens := fun y hy => by
  obtain ⟨x, hx, rfl⟩ := Array.mem_map.mp hy
  cases q : isSusp x with
  | true => exact poison_bare x q
  | false =>
    cases x with
    | suspended => cases q
    | _ => rfl
theorem Sim.bare {s0 u s : Shared} (z : Sim (slp s0) u s) (h0 : AllBare s0.gens) (hu : AllBare u.gens) : AllBare s.gens := fun y hy => by
  obtain ⟨g, hg, e⟩ := Array.mem_iff_getElem.mp hy
  have e' : s.gens[g]? = some y := by rw [Array.getElem?_eq_getElem hg, e]
  cases q : slp s0 g with
  | none => exact hu y (Array.mem_of_getElem? ((z.else_ g q).trans e'))
  | some x =>
    obtain ⟨h1, h2⟩ := slp_some.mp q
    obtain ⟨_, _, h3⟩ := z.froz g x q
    rw [e'] at h3
    cases h3
    exact h0 _ (Array.mem_of_getElem? h1)
theorem Sim.still {s0 u s : Shared} (z : Sim (slp s0) u s) {g : Nat} {x : GenState} (h : s0.gens[g]? = some x) (hx : isSusp x = true) : s.gens[g]? = some x := (z.froz g x (slp_some.mpr ⟨h, hx⟩)).2.2
/-- what is true of a run from the poisoned state is true of the run -/
theorem wpAny_still {α : Type} {A : Around} {t : Sem α} {Q : α → Shared → Prop} {E : Value → Shared → Prop} {s : Shared} (hb : AllBare s.gens) (h : wpAny M A t Q E (psn s)) :
    wpAny M A t (fun a s' => ∃ u, Sim (slp s) u s' ∧ Q a u) (fun e s' => ∃ u, Sim (slp s) u s' ∧ E e u) s := wpAny_sim (sim_psn s) h
/-- other generators, the same invariant -/
theorem _root_.L2.Inv.gens {X : L2.Cx} {pins : List (Addr × Obj)} {σ : L2.St} {H : L2.Hp} {s s' : Shared} (I : L2.Inv X pins σ H s) (h1 : s'.heap = s.heap) (h2 : s'.os = s.os) (hb : AllBare s'.gens) : L2.Inv X pins σ H s' := by
  obtain ⟨a, b, c, d, e⟩ := s
  obtain ⟨a', b', c', d', e'⟩ := s'
  cases h1
  cases h2
  exact ⟨I.ok, I.os, hb, I.base, I.loc, I.cell, I.free, I.freeC, I.pin, I.hok, I.len⟩
end Z
namespace Z
open PySem PySem.Spec PyProof.Rows GenW
open L2
/-! ### generators between whose turns other code runs -/
/-- the objects below n, as they stand in s -/
def cutS (n : Nat) (s : Shared) : Shared := { s with heap := { s.heap with objs := s.heap.objs.extract 0 n } }
theorem ext_get {objs : Array Obj} {n b : Nat} (h : b < n) : (objs.extract 0 n)[b]? = objs[b]? := by
  rw [Array.getElem?_extract]
  by_cases hb : b < objs.size
  · rw [if_pos (by omega), Nat.zero_add]
  · rw [if_neg (by omega), Array.getElem?_eq_none (by omega)]
theorem ext_size (objs : Array Obj) (n : Nat) : (objs.extract 0 n).size = min n objs.size := by simp
theorem cut_lt {n : Nat} {s : Shared} {b : Addr} (h : b < n) : (cutS n s).heap.get? b = s.heap.get? b := by
  show Heap.get? ⟨s.heap.objs.extract 0 n, _⟩ b = _
  unfold Heap.get?
  rw [show (s.heap.objs.extract 0 n)[b]? = s.heap.objs[b]? from ext_get h]
theorem cut_size {n : Nat} {s : Shared} (h : n ≤ s.heap.objs.size) : (cutS n s).heap.objs.size = n := by
  show (s.heap.objs.extract 0 n).size = n
  rw [ext_size]
  exact Nat.min_eq_left h
theorem cut_some {n : Nat} {s : Shared} {b : Addr} {o : Obj} (h : (cutS n s).heap.get? b = some o) : s.heap.get? b = some o ∧ b < n := by
  have hb : b < n := by
    refine Nat.lt_of_lt_of_le (Heap.lt_size h) ?_
    show (s.heap.objs.extract 0 n).size ≤ n
    rw [ext_size]
    exact Nat.min_le_left _ _
  exact ⟨(cut_lt hb).symm.trans h, hb⟩
theorem cut_frames {n : Nat} {s : Shared} {base : Heap} : ∀ {l : List Env}, s.heap.FunFrames base l → (∀ b ∈ frs l, b < n) → (cutS n s).heap.FunFrames base l
  | [], _, _ => trivial
  | env :: r, h, hb => by
    obtain ⟨hk, ⟨L, o, hf, hn, ho, hd⟩, hr⟩ := h
    have e : frs (env :: r) = L :: frs r := by
      unfold frs
      rw [List.filterMap_cons, hf]
    rw [e] at hb
    exact ⟨hk, ⟨L, o, hf, hn, (cut_lt (hb L List.mem_cons_self)).trans ho, hd⟩, cut_frames hr fun b z => hb b (List.mem_cons_of_mem _ z)⟩
/-- a generator's frame -/
structure GCx where
  P : Program
  w : World
  K : PySem.W.Frag
  mg : Str → Option Value
  base : Heap
  N : List Str
  qual : Str
  scope : Scope
  f : Addr
  cd : Value
  A : Around
  outer : List Env
  n0 : Nat
  pn : List (Addr × Obj)
abbrev GCx.env (c : GCx) : Env := envOfC c.qual c.scope c.n0 c.f c.cd
/-- it runs: woken in s0, H0 -/
def GCx.X (c : GCx) (s0 : Shared) (H0 : Hp) : Cx where
  prog := c.P
  w := c.w
  K := c.K
  mg := c.mg
  base := c.base
  A := c.A.deeper (envOfC c.qual c.scope c.n0 c.f c.cd)
  N := c.N
  s_0 := cutS c.n0 s0
  H_0 := H0
  env := envOfC c.qual c.scope c.n0 c.f c.cd
  outer := c.outer
  stack := envOfC c.qual c.scope c.n0 c.f c.cd :: c.outer
  ex := []
  calm := true
  fn := fun _ => true
  pn := c.pn
  xe := fun _ _ => False
/-- it may be woken in s', H' after it slept in s -/
structure WakeOk (c : GCx) (ip : List (Addr × Obj)) (s : Shared) (H' : Hp) (s' : Shared) : Prop where
  env : Env0 c.P c.w c.K c.mg c.base c.A c.outer s' H'
  os : s'.os = s.os
  loc : ∀ o, s.heap.get? c.n0 = some o → s'.heap.get? c.n0 = some o
  free : H' c.n0 = none
  pin : ∀ p ∈ c.pn ++ ip, s'.heap.get? p.1 = some p.2 ∧ H' p.1 = none
theorem rebase {c : GCx} {ip : List (Addr × Obj)} {σ : L2.St} {H H' H0 : Hp} {s s' s0 : Shared} (hc : (c.X s0 H0).env.cells = []) (I : L2.Inv (c.X s0 H0) ip σ H s) (w : WakeOk c ip s H' s') : L2.Inv (c.X s' H') ip σ H' s' := by
  have nocell : ∀ {x : Str} {b : Addr}, (c.X s0 H0).env.cells.lookup x = some b → False := fun {x b} h => by rw [hc] at h; cases h
  obtain ⟨m, ⟨oL, es, ep, hoL, rL⟩, hloc⟩ := id I.loc
  have hoL : s.heap.get? c.n0 = some oL := hoL
  have hn0 : c.n0 < s'.heap.objs.size := Heap.lt_size (w.loc oL hoL)
  have hsz := cut_size (s := s') (Nat.le_of_lt hn0)
  have hbz : c.base.objs.size ≤ c.n0 := Nat.le_trans I.ok.bsz I.ok.above
  have hfr : ∀ b ∈ frs c.outer, b < c.n0 := fun b hb => by
    obtain ⟨_, o, ho, _⟩ := I.ok.funs.mem hb
    exact (cut_some ho).2
  have ok' : (c.X s' H').Ok := {
    mod := w.env.mod
    kind := I.ok.kind
    glob := I.ok.glob
    blt := I.ok.blt
    above := by
      show (cutS c.n0 s').heap.objs.size ≤ c.n0
      rw [hsz]; exact Nat.le_refl _
    inj := fun x y b h _ => (nocell h).elim
    has := I.ok.has
    cab := fun x b _ h => (nocell h).elim
    hd := I.ok.hd
    frames := I.ok.frames
    stk := I.ok.stk
    exf := fun b hb => by cases hb
    bs := fun b o e => by
      obtain ⟨h1, h2⟩ := w.env.bs b o e
      exact ⟨(cut_lt (Nat.lt_of_lt_of_le (Heap.lt_size e) hbz)).trans h1, h2⟩
    bsz := by
      show c.base.objs.size ≤ (cutS c.n0 s').heap.objs.size
      rw [hsz]; exact hbz
    noex := fun b o _ hb => by cases hb
    exfs := fun b hb => by cases hb
    funs := cut_frames w.env.funs hfr
    frf := w.env.frf }
  refine ⟨ok', rfl, w.env.bare, Un.kept fun b o e => (cut_some e).1, ⟨m, ⟨oL, es, ep, w.loc oL hoL, rL⟩, fun i x v h1 h2 h3 => ?_⟩, fun x b h => (nocell h).elim, w.free, fun x b h => (nocell h).elim, fun p hp => ?_, w.env.hok, I.len⟩
  · obtain ⟨u, r, q⟩ := hloc i x v h1 h2 h3
    refine ⟨u, r, ?_⟩
    rcases q with q | ⟨_, b, q, _⟩
    · exact .inl q
    · exact (nocell q).elim
  · obtain ⟨h1, h2⟩ := w.pin p hp
    obtain ⟨_, _, h3, h4, h5⟩ := I.pin p hp
    exact ⟨h1, h2, h3, h4, h5⟩
/-- so many items; what the i-th is, where it comes out; what has to stay while the generator sleeps -/
structure GPar where
  n : Nat
  Yp : Nat → V → Hp → Prop
  rel : Hp → Hp → Prop
/-- the consumer is ready for the i-th item -/
abbrev Rdy := Nat → Hp → Shared → Prop
def YG (c : GCx) (g : GPar) (R : Rdy) : Protocol := fun n s0 v s kap => ∃ i x ip σ H Hw, n + i = g.n ∧ i < g.n ∧ RelV x v ∧ R i Hw s0 ∧ c.n0 < s0.heap.objs.size ∧ (∀ p ∈ ip, c.n0 ≤ p.1) ∧ L2.Inv (c.X s0 Hw) ip σ H s ∧ Ex Hw H ∧ g.Yp i x H ∧
  ∀ s' H', WakeOk c ip s H' s' → g.rel H H' → R (i + 1) H' s' → kap (.send .none) s' ∧ kap (.send (.bool true)) s'
def RG (c : GCx) (g : GPar) (R : Rdy) : GenEnd := fun n s0 r s => r = .ok (.ret .none) ∧ ∃ ip σ H Hw, n = 1 ∧ R g.n Hw s0 ∧ c.n0 < s0.heap.objs.size ∧ L2.Inv (c.X s0 Hw) ip σ H s ∧ Ex Hw H
/-- what is wanted behind a statement of a generator; the items that are out, the heap at the last waking -/
structure GD where
  nx : Nat → Hp → L2.St → Hp → Prop
  bk : Nat → Hp → L2.St → Hp → Prop := fun _ _ _ _ => False
  ct : Nat → Hp → L2.St → Hp → Prop := fun _ _ _ _ => False
abbrev TGz := GD → Nat → Hp → L2.St → Hp → Prop
def GP (D : GD) (i : Nat) (Hw : Hp) (σ : L2.St) (H : Hp) : Flow → Prop
  | .next => D.nx i Hw σ H
  | .brk => D.bk i Hw σ H
  | .cont => D.ct i Hw σ H
  | .ret _ => False
/-- where the code stands -/
structure GCz (c : GCx) (A : Around) (code : Code) (fs : List Frame) (gd : Bool → Bool) : Prop where
  over : A.over code fs = c.A.deeper c.env
  split : splitAtGen fs = none
  guard : fs.any Frame.guarded = false
  gd : gd false = false
  cells : c.env.cells = []
structure GAt (c : GCx) (g : GPar) (R : Rdy) (n i : Nat) (s0 : Shared) (Hw : Hp) (ip : List (Addr × Obj)) (σ : L2.St) (H : Hp) (s : Shared) : Prop where
  cnt : n + i = g.n + 1
  rdy : R i Hw s0
  sz : c.n0 < s0.heap.objs.size
  low : ∀ p ∈ ip, c.n0 ≤ p.1
  inv : L2.Inv (c.X s0 Hw) ip σ H s
/-- what follows -/
def GKz (c : GCx) (g : GPar) (A : Around) (R : Rdy) (ip : List (Addr × Obj)) (code : Code) (fs : List Frame) (K : Flow → Sem PySem.Fin) (D : GD) : Prop :=
  ∀ n i s0 Hw σ H s f, GAt c g R n i s0 Hw ip σ H s → GP D i Hw σ H f → Seg (model c.P c.w) A (RG c g R) (YG c g R) n s0 code (K f) fs s
structure GSz (c : GCx) (g : GPar) (st : Stmt) (t : TGz) : Prop where
  run : ∀ (A : Around) (R : Rdy) (ip : List (Addr × Obj)) (n i : Nat) (s0 s : Shared) (Hw : Hp) (code : Code) (fs : List Frame) (K : Flow → Sem PySem.Fin) (J : Value → Sem PySem.Fin) (gd : Bool → Bool) (lv : List Value → List Value) (σ : L2.St) (H : Hp) (D : GD),
    GCz c A code fs gd → GAt c g R n i s0 Hw ip σ H s → GKz c g A R ip code fs K D → t D i Hw σ H → Seg (model c.P c.w) A (RG c g R) (YG c g R) n s0 code ((exec st c.env).wrap K J gd lv) fs s
structure GSzs (c : GCx) (g : GPar) (st : List Stmt) (t : TGz) : Prop where
  run : ∀ (A : Around) (R : Rdy) (ip : List (Addr × Obj)) (n i : Nat) (s0 s : Shared) (Hw : Hp) (code : Code) (fs : List Frame) (K : Flow → Sem PySem.Fin) (J : Value → Sem PySem.Fin) (gd : Bool → Bool) (lv : List Value → List Value) (σ : L2.St) (H : Hp) (D : GD),
    GCz c A code fs gd → GAt c g R n i s0 Hw ip σ H s → GKz c g A R ip code fs K D → t D i Hw σ H → Seg (model c.P c.w) A (RG c g R) (YG c g R) n s0 code ((execs st c.env).wrap K J gd lv) fs s
section
variable {c : GCx} {g : GPar} {st : Stmt} {rest : List Stmt}
/-- a statement that hands out nothing -/
def tPl (t : TS) : TGz := fun D i Hw σ H => t ⟨D.nx i Hw, fun _ _ => False, D.bk i Hw, D.ct i Hw⟩ σ H
theorem gz_ps {t : TS} (h : ∀ s0 H0, PS (c.X s0 H0) st t) : GSz c g st (tPl t) := by
  refine ⟨fun A R ip n i s0 s Hw code fs K J gd lv σ H D G a k ht => ?_⟩
  refine seg_wrap ?_
  rw [G.over]
  refine wpAny_mono ((h s0 Hw).run ip s σ H _ a.inv ht) (fun f s' hs => ?_) fun x s' hx => hx.elim
  cases f with
  | next => obtain ⟨σ', H', I, q⟩ := hs; exact k n i s0 Hw σ' H' s' .next ⟨a.cnt, a.rdy, a.sz, a.low, I⟩ q
  | brk => obtain ⟨σ', H', I, q⟩ := hs; exact k n i s0 Hw σ' H' s' .brk ⟨a.cnt, a.rdy, a.sz, a.low, I⟩ q
  | cont => obtain ⟨σ', H', I, q⟩ := hs; exact k n i s0 Hw σ' H' s' .cont ⟨a.cnt, a.rdy, a.sz, a.low, I⟩ q
  | ret u => obtain ⟨_, _, _, _, _, q⟩ := hs; exact q.elim
def tGz0 : TGz := fun D i Hw σ H => D.nx i Hw σ H
theorem gzs_nil : GSzs c g [] tGz0 := ⟨fun A R ip n i s0 s Hw code fs K J gd lv σ H D G a k ht => seg_execs_nil (k n i s0 Hw σ H s .next a ht)⟩
def tGzT (t u : TGz) : TGz := fun D i Hw σ H => t { D with nx := fun i' Hw' σ' H' => u D i' Hw' σ' H' } i Hw σ H
theorem gzs_cons {t u : TGz} (a : GSz c g st t) (b : GSzs c g rest u) : GSzs c g (st :: rest) (tGzT t u) := by
  refine ⟨fun A R ip n i s0 s Hw code fs K J gd lv σ H D G z k ht => ?_⟩
  refine seg_execs_cons (a.run A R ip n i s0 s Hw code fs _ J gd lv σ H _ G z (fun n' i' s0' Hw' σ' H' s' f z' hf => ?_) ht)
  cases f with
  | next => exact b.run A R ip n' i' s0' s' Hw' code fs K J gd lv σ' H' D G z' k hf
  | brk => exact k n' i' s0' Hw' σ' H' s' .brk z' hf
  | cont => exact k n' i' s0' Hw' σ' H' s' .cont z' hf
  | ret u => exact hf.elim
/-! ### yield -/
def tYl (g : GPar) (te : TE) : TGz := fun D i Hw σ H => i < g.n ∧ te σ H fun x H1 => Ex Hw H1 ∧ g.Yp i x H1 ∧ ∀ H2, g.rel H1 H2 → D.nx (i + 1) H2 σ H2
theorem gz_yield {e : Expr} {yp pos : Pos} {te : TE} (he : ∀ s0 H0, PE (c.X s0 H0) e te) (hco : c.env.scope.isCoroutine = false) (hi : interactive c.env = false) : GSz c g (.Expr (.Yield (some e) yp) pos) (tYl g te) := by
  refine ⟨fun A R ip n i s0 s Hw code fs K J gd lv σ H D G a k ht => ?_⟩
  obtain ⟨hlt, ht⟩ := ht
  have hc := a.cnt
  obtain ⟨n, rfl⟩ : ∃ m, n = m + 1 := ⟨n - 1, by omega⟩
  refine seg_Expr_Yield G.split G.gd G.guard ?_ hco hi
  rw [G.over]
  refine wpAny_mono ((he s0 Hw).run ip s σ H _ a.inv ht) (fun v s' hv => ?_) fun x s' hx => hx.elim
  obtain ⟨x, H1, I1, rv, ex, yp', q⟩ := hv
  intro kap hk
  refine ⟨i, x, ip, σ, H1, Hw, by omega, hlt, rv, a.rdy, a.sz, a.low, I1, ex, yp', fun s2 H2 w hr hR => ?_⟩
  have I2 := rebase G.cells I1 w
  have hz : c.n0 < s2.heap.objs.size := by
    obtain ⟨m, ⟨oL, _, _, hoL, _⟩, _⟩ := I2.loc
    exact Heap.lt_size hoL
  have z : Seg (model c.P c.w) A (RG c g R) (YG c g R) n s2 code (K .next) fs s2 := k n (i + 1) s2 H2 σ H2 s2 .next ⟨by omega, hR, hz, a.low, I2⟩ (q H2 hr)
  exact ⟨hk .none s2 z, hk (.bool true) s2 z⟩
/-! ### while -/
def tGzW (tc : TT) (tb : TGz) : TGz := fun D i Hw σ H => ∃ W : Nat → Nat → Hp → L2.St → Hp → Prop, (∃ m, W m i Hw σ H) ∧ ∀ m i Hw σ H, W m i Hw σ H →
  tc σ H fun b H1 => if b = true then ∃ Nx : Nat → Hp → L2.St → Hp → Prop, (∀ i' Hw' σ' H', Nx i' Hw' σ' H' → ∃ m', m' < m ∧ W m' i' Hw' σ' H') ∧ tb ⟨Nx, D.nx, Nx⟩ i Hw σ H1 else D.nx i Hw σ H1
theorem GCz.loop {A : Around} {code code' : Code} {fs : List Frame} {gd : Bool → Bool} {kk : Result → Sem PySem.Fin} {l kp : List Value} {p : Pos} (G : GCz c A code fs gd) (hw : code'.weight = 0) (hu : code'.cUnits = 0) :
    GCz c A code' (.ret kk none (gd false) l code p kp :: fs) id := by
  refine ⟨(over_loop hw hu).trans G.over, split_ret.mpr G.split, ?_, rfl, G.cells⟩
  rw [List.any_cons, G.guard]
  show (gd false || false) = false
  rw [G.gd]; rfl
theorem gz_while {test : Expr} {body : List Stmt} {pos : Pos} {tc : TT} {tb : TGz} (hc : ∀ s0 H0, PT (c.X s0 H0) test tc) (hb : GSzs c g body tb) : GSz c g (.While test body [] pos) (tGzW tc tb) := by
  refine ⟨fun A R ip n i s0 s Hw code fs K J gd lv σ H D G a k ht => ?_⟩
  obtain ⟨W, ⟨m0, w0⟩, turn⟩ := ht
  refine seg_While fun p => ?_
  suffices loop : ∀ (m n i : Nat) (s0 s : Shared) (Hw : Hp) (σ : L2.St) (H : Hp), GAt c g R n i s0 Hw ip σ H s → W m i Hw σ H →
      Seg (model c.P c.w) A (RG c g R) (YG c g R) n s0 (.whileLoop test body [] c.env) ((model c.P c.w).den (.whileLoop test body [] c.env)) _ s from loop m0 n i s0 s Hw σ H a w0
  intro m
  induction m using Nat.strongRecOn with
  | ind m ih =>
    intro n i s0 s Hw σ H a w
    refine seg_whileLoop ?_
    rw [(G.loop rfl rfl).over]
    refine wpAny_mono ((hc s0 Hw).run ip s σ H _ a.inv (turn m i Hw σ H w)) (fun b s' hb' => ?_) fun x s' hx => hx.elim
    obtain ⟨H2, I2, q⟩ := hb'
    have a2 : GAt c g R n i s0 Hw ip σ H2 s' := ⟨a.cnt, a.rdy, a.sz, a.low, I2⟩
    cases b with
    | false =>
      rw [if_neg Bool.false_ne_true] at q ⊢
      exact seg_execs_nil (seg_leaf (.ok .next) (k n i s0 Hw σ H2 s' .next a2 q))
    | true =>
      rw [if_pos rfl] at q ⊢
      obtain ⟨Nx, hN, q⟩ := q
      refine hb.run A R ip n i s0 s' Hw _ _ _ _ id id σ H2 _ (G.loop rfl rfl) a2 (fun n' i' s0' Hw' σ' H' s3 f z hf => ?_) q
      cases f with
      | next =>
        obtain ⟨m', hm, w'⟩ := hN i' Hw' σ' H' hf
        exact seg_again rfl (ih m' hm n' i' s0' s3 Hw' σ' H' z w')
      | cont =>
        obtain ⟨m', hm, w'⟩ := hN i' Hw' σ' H' hf
        exact seg_again rfl (ih m' hm n' i' s0' s3 Hw' σ' H' z w')
      | brk => exact seg_leaf (.ok .next) (k n' i' s0' Hw' σ' H' s3 .next z hf)
      | ret u => exact hf.elim
/-! ### for -/
def tGzF (wi : TI) (tg : TG) (tb : TGz) : TGz := fun D i Hw σ H => wi σ H fun J H1 => ∃ W : Nat → Nat → Nat → Hp → L2.St → Hp → Prop, (∃ m, W 0 m i Hw σ H1) ∧ ∀ j m i Hw σ H, W j m i Hw σ H →
  (J.stop j H ∧ D.nx i Hw σ H) ∨ (J.go j H ∧ ∃ Nx : Nat → Hp → L2.St → Hp → Prop, (∀ i' Hw' σ' H', Nx i' Hw' σ' H' → ∃ m', m' < m ∧ W (j + 1) m' i' Hw' σ' H') ∧ ∀ x H', J.yld j H x H' → tg x σ H' fun σ2 H2 => tb ⟨Nx, D.nx, Nx⟩ i Hw σ2 H2)
theorem GAt.fp {R : Rdy} {n i : Nat} {s0 s : Shared} {Hw H : Hp} {ip : List (Addr × Obj)} {σ : L2.St} (a : GAt c g R n i s0 Hw ip σ H s) {b : Addr} (h : H b = none) (h2 : b ≠ c.n0) (h3 : b ∉ frs c.outer) (h4 : c.n0 ≤ b) (h5 : c.env.cells = []) (h6 : ∀ p ∈ c.pn ++ ip, p.1 ≠ b) : FpOk (c.X s0 Hw) ip H b := by
  refine ⟨h, h2, h3, .inr ?_, fun x d q => ?_, h6⟩
  · show (cutS c.n0 s0).heap.objs.size ≤ b
    rw [cut_size (Nat.le_of_lt a.sz)]; exact h4
  · have q : c.env.cells.lookup x = some d := q
    rw [h5] at q; cases q
theorem gz_for {iter tgt : Expr} {body : List Stmt} {pos : Pos} {wi : TI} {tg : TG} {tb : TGz} (hi : ∀ s0 H0, PI (c.X s0 H0) tgt iter wi) (hg : ∀ s0 H0, PG (c.X s0 H0) tgt tg) (hb : GSzs c g body tb)
    (hs : ∀ x, foldedSetIterable iter c.env x = pure x := by intro _; rfl) : GSz c g (.For tgt iter body [] pos) (tGzF wi tg tb) := by
  refine ⟨fun A R ip n i s0 s Hw code fs K J gd lv σ H D G a k ht => ?_⟩
  rw [exec_For]
  refine seg_bind_wrap (wpAny_standAt ?_)
  refine seg_bind_wrap ?_
  rw [G.over]
  refine wpAny_mono ((hi s0 Hw).run ip s σ H _ a.inv ht) (fun v s1 h1 => ?_) fun x s' hx => hx.elim
  refine seg_bind_wrap (wpAny_of_eq (hs v) ?_)
  refine seg_bind_wrap (wpAny_standAt ?_)
  refine seg_bind_wrap (wpAny_holding ?_)
  rw [G.over]
  refine wpAny_mono h1 (fun itv s2 h2 => ?_) fun x s' hx => hx.elim
  obtain ⟨it, fp, tn, J2, H2, rfl, I2, T, st2, f2, W, ⟨m0, w0⟩, turn⟩ := h2
  have low : ∀ b ∈ fp, b ≠ c.n0 ∧ b ∉ frs c.outer ∧ c.n0 ≤ b ∧ ∀ p ∈ c.pn ++ ip, p.1 ≠ b := fun b hb' => by
    obtain ⟨_, q1, q2, q3, _, q5⟩ := f2 b hb'
    refine ⟨q1, q2, ?_, q5⟩
    rcases q3 with q | q
    · cases q
    · have q : (cutS c.n0 s0).heap.objs.size ≤ b := q
      rw [cut_size (Nat.le_of_lt a.sz)] at q
      exact q
  refine seg_call fun p => ?_
  suffices loop : ∀ (m j n i : Nat) (s0 s : Shared) (Hw : Hp) (σ : L2.St) (H : Hp), GAt c g R n i s0 Hw ip σ H s → tn j s.heap → (∀ b ∈ fp, H b = none) → W j m i Hw σ H →
      Seg (model c.P c.w) A (RG c g R) (YG c g R) n s0 (.forLoop tgt (.ref it) body [] c.env) ((model c.P c.w).den (.forLoop tgt (.ref it) body [] c.env)) _ s from
    loop m0 0 n i s0 s2 Hw σ H2 ⟨a.cnt, a.rdy, a.sz, a.low, I2⟩ st2 (fun b hb' => (f2 b hb').1) w0
  intro m
  induction m using Nat.strongRecOn with
  | ind m ih =>
    intro j n i s0 s Hw σ H a st fr w
    have G2 := fun (kk : Result → Sem PySem.Fin) => G.loop (kk := kk) (code' := .forLoop tgt (.ref it) body [] c.env) (l := lv []) (kp := []) (p := p) rfl rfl
    have fpk : ∀ b ∈ fp, FpOk (c.X s0 Hw) ip H b := fun b hb' => by
      obtain ⟨q1, q2, q3, q4⟩ := low b hb'
      exact a.fp (fr b hb') q1 q2 q3 G.cells q4
    show Seg _ _ _ _ _ _ _ ((forTurn tgt (.ref it) body [] c.env).onRaise (fun x => do noteFrame x c.env; theTreesLotGoes x)) _ _
    rw [Sem.onRaise_eq_wrap]
    unfold forTurn
    refine seg_bind_wrap (wpAny_standAt ?_)
    refine seg_bind_wrap (wpAny_onRaise ?_)
    rw [(G2 _).over]
    rcases turn j m i Hw σ H w with ⟨stop, qn⟩ | ⟨go, Nx, hN, step⟩
    · refine wpAny_mono (T.done (c.X s0 Hw) rfl rfl rfl rfl j ip s σ H (fun _ _ => False) a.inv fpk st stop) (fun r s3 h3 => ?_) fun x s' hx => hx.elim
      obtain ⟨rfl, I3⟩ := h3
      refine seg_again (c' := .block [] c.env) rfl ?_
      exact seg_leaf (.ok .next) (k n i s0 Hw σ H s3 .next ⟨a.cnt, a.rdy, a.sz, a.low, I3⟩ qn)
    · refine wpAny_mono (T.item (c.X s0 Hw) rfl rfl rfl rfl j ip s σ H (fun _ _ => False) a.inv fpk st go) (fun r s3 h3 => ?_) fun x s' hx => hx.elim
      obtain ⟨u, rfl, h3⟩ := h3
      refine seg_bind_wrap ?_
      rw [(G2 _).over]
      refine wpAny_mono h3 (fun _ s4 h4 => ?_) fun x s' hx => hx.elim
      obtain ⟨x, H4, I4, r4, y4, st4, fr4⟩ := h4
      have a4 : GAt c g R n i s0 Hw ip σ H4 s4 := ⟨a.cnt, a.rdy, a.sz, a.low, I4⟩
      have fpk4 : ∀ b ∈ fp, FpOk (c.X s0 Hw) ip H4 b := fun b hb' => by
        obtain ⟨q1, q2, q3, q4⟩ := low b hb'
        exact a4.fp (fr4 b hb') q1 q2 q3 G.cells q4
      have I4' := I4.pinned fpk4 (T.obj _ _ st4)
      refine seg_bind_wrap ?_
      rw [(G2 _).over]
      refine wpAny_mono ((hg s0 Hw).run _ s4 σ H4 x u _ I4' r4 (step x H4 y4)) (fun _ s5 h5 => ?_) fun x s' hx => hx.elim
      obtain ⟨σ5, H5, I5, q5⟩ := h5
      rw [Sem.bind_eq_wrap', Sem.wrap_wrap]
      refine hb.run A R (ip ++ pinsAt fp s4.heap) n i s0 s5 Hw _ _ _ _ _ _ σ5 H5 _ ⟨(G2 _).over, (G2 _).split, (G2 _).guard, rfl, G.cells⟩ ⟨a.cnt, a.rdy, a.sz, fun p hp => ?_, I5⟩ (fun n' i' s0' Hw' σ' H' s6 f z hf => ?_) q5
      · rcases List.mem_append.mp hp with hp | hp
        · exact a.low p hp
        · exact (low p.1 (of_pinsAt hp).1).2.2.1
      have z2 : GAt c g R n' i' s0' Hw' ip σ' H' s6 := ⟨z.cnt, z.rdy, z.sz, a.low, z.inv.unpinned⟩
      have stay : ∀ b ∈ fp, ∀ o, s4.heap.get? b = some o → s6.heap.get? b = some o ∧ H' b = none := fun b hb' o e => by
        obtain ⟨q1, q2, _⟩ := z.inv.pin (b, o) (List.mem_append_right _ (List.mem_append_right _ (mem_pinsAt hb' e)))
        exact ⟨q1, q2⟩
      have again : Nx i' Hw' σ' H' → Seg (model c.P c.w) A (RG c g R) (YG c g R) n' s0' (.forLoop tgt (.ref it) body [] c.env) ((model c.P c.w).den (.forLoop tgt (.ref it) body [] c.env)) _ s6 := fun hN' => by
        obtain ⟨m', hm, w'⟩ := hN i' Hw' σ' H' hN'
        exact ih m' hm (j + 1) n' i' s0' s6 Hw' σ' H' z2 (T.keep _ _ _ st4 fun b hb' o e => (stay b hb' o e).1) (fun b hb' => by
          obtain ⟨o, e, _⟩ := T.obj _ _ st4 b hb'
          exact (stay b hb' o e).2) w'
      cases f with
      | next => exact seg_again rfl (again hf)
      | cont => exact seg_again rfl (again hf)
      | brk => exact seg_leaf (.ok .next) (k n' i' s0' Hw' σ' H' s6 .next z2 hf)
      | ret u => exact hf.elim
end
/-! ### the call of a generator def -/
/-- what such a def promises, by its arguments and the heap -/
abbrev SpZ := List V → Hp → GPar → Prop
/-- a generator that has not begun -/
def GMz (P : Program) (w : World) (K : PySem.W.Frag) (mg : Str → Option Value) (base : Heap) (k : Nat) (outer : List Env) (H : Hp) (s : Shared) (g : GPar) (A0 : Hp → Prop) (u : Value) (s' : Shared) : Prop :=
  ∃ (a : Addr) (gi : Nat) (code : Code) (N : List Str) (qual : Str) (scope : Scope) (f : Addr) (cd : Value) (go : Obj), u = .ref a ∧ s.heap.objs.size < a ∧ s'.heap.IsGen a gi ∧ s'.gens[gi]? = some (.fresh code) ∧ s'.os = s.os ∧ AllBare s'.gens ∧ (∀ b o, s.heap.get? b = some o → s'.heap.get? b = some o) ∧
    H s.heap.objs.size = none ∧ s'.heap.get? a = some go ∧ H a = none ∧ (envOfC qual scope s.heap.objs.size f cd).cells = [] ∧
    ∀ (A : Around) (R : Rdy) (s2 : Shared) (H2 : Hp), Room k A → A.frames = some outer → A0 H2 → WakeOk ⟨P, w, K, mg, base, N, qual, scope, f, cd, A, outer, s.heap.objs.size, [(a, go)]⟩ [] s' H2 s2 → R 0 H2 s2 →
      Seg (model P w) A (RG ⟨P, w, K, mg, base, N, qual, scope, f, cd, A, outer, s.heap.objs.size, [(a, go)]⟩ g R) (YG ⟨P, w, K, mg, base, N, qual, scope, f, cd, A, outer, s.heap.objs.size, [(a, go)]⟩ g R) (g.n + 1) s2 code ((model P w).den code) [] s2
structure GFz (P : Program) (w : World) (K : PySem.W.Frag) (mg : Str → Option Value) (base : Heap) (k : Nat) (f : Addr) (fd : FuncData) (ps : List Str) (sp : SpZ) : Prop where
  len : ∀ vs H g, sp vs H g → vs.length = ps.length
  run : ∀ (A : Around) (outer : List Env) (s : Shared) (H : Hp) (args : Args) (us : List Value) (vs : List V) (g : GPar), Room k A → Env0 P w K mg base A outer s H → BindsTo s fd args (ps.zip us) → Vals vs us → sp vs H g →
    codeAny (model P w) A (.call (.ref f) args) (fun r s' => match r with | .ok (.ret u) => GMz P w K mg base k outer H s g (fun H2 => sp vs H2 g) u s' | _ => False) s
/-- THE RULE: a generator def, by its body -/
theorem gfz_of {P : Program} {w : World} {K : PySem.W.Frag} {mg : Str → Option Value} {base : Heap} {k : Nat} {f : Addr} {name qual : Str} {params : Arguments} {body : List Stmt} {scope : Scope} {dV kV doc pm cdv ct oc : Value} {an od : Option Addr}
    {osl : Array (Option Value)} {N ps : List Str} {sp : SpZ} (lk : K.lookup f = some ⟨oc, od, .func (PySem.W.fnOf name qual params body scope dV kV doc pm an cdv ct), osl⟩) (hcd : PySem.W.codeIn K cdv qual = true) (S : GScope N ps scope) (hcl : ∀ n, cellsFrom (n + 1) scope.names [] = [])
    (len : ∀ vs H g, sp vs H g → vs.length = ps.length)
    (hbody : ∀ (A : Around) (outer : List Env) (n0 : Nat) (pn : List (Addr × Obj)) (H : Hp) (vs : List V) (g : GPar), Room k (A.deeper (envOfC qual scope n0 f cdv)) → sp vs H g →
      ∃ t, GSzs ⟨P, w, K, mg, base, N, qual, scope, f, cdv, A, outer, n0, pn⟩ g body t ∧ t { nx := fun i Hw _ H' => i = g.n ∧ Ex Hw H' } 0 H (start N vs) H) :
    GFz P w K mg base (k + 1) f (PySem.W.fnOf name qual params body scope dV kV doc pm an cdv ct) ps sp := by
  refine ⟨len, fun A outer s H args us vs g hr e0 hb r hsp => ?_⟩
  have hlen := len _ _ _ hsp
  have kin : K.In s.heap := e0.mod.kin.keeps fun b o q => (e0.bs b o q).1
  have nolim : s.heap.NoLimit := e0.mod.nolimit.keeps fun b o q => (e0.bs b o q).1
  have par : ∀ y ∈ ps.zip us, scope.names.lookup y.1 = some .local ∨ (scope.names.lookup y.1 = some .cell ∧ ((cellsFrom (s.heap.objs.size + 1) scope.names []).lookup y.1).isSome = true) := by
    rintro ⟨y, v⟩ hy
    rcases S.par y (List.of_mem_zip hy).1 with q | q
    · exact .inl q
    · exact .inr ⟨q, PySem.W.cellsFrom_some _ _ _ (.inl q)⟩
  refine codeAny_call_generator hr.depth (kin _ _ lk) rfl S.co S.gen rfl (PySem.W.codeRec_of kin hcd) (hb _ _ _ _ ?_)
  refine wpAny_newFunctionEnv_cells S.kind par fun env he s1 x => ?_
  subst he
  refine ⟨nolim.keeps x.toInCall.keep, ?_⟩
  obtain ⟨h1, tk, es1, _⟩ := x.done
  have eos : s1.os = s.os := by rw [es1]
  have egen : s1.gens = s.gens := by rw [es1]
  have lt1 : s.heap.objs.size < s1.heap.objs.size := x.toInCall.ns.lt
  have kp : ∀ b o, s.heap.get? b = some o → s1.heap.get? b = some o := x.toInCall.keep
  have fin : ∀ (go : Obj) (v1 v2 : Value) (tk2 : Nat), go.cls = .type "generator" → go.data = .fields #[.int s1.gens.size 0, v1, v2] → go.slots = #[] → (∀ h : Heap, (h.push go).get? h.objs.size = some go) →
      GMz P w K mg base (k + 1) outer H s g (fun H2 => sp vs H2 g) (.ref s1.heap.objs.size) { s1 with gens := s1.gens.push (.fresh (.func body (envOfC qual scope s.heap.objs.size f cdv))), toks := tk2, heap := s1.heap.push go } := by
    intro go v1 v2 tk2 g1 g2 g3 g4
    have here : (s1.heap.push go).get? s1.heap.objs.size = some go := g4 _
    have kp2 : ∀ b o, s1.heap.get? b = some o → (s1.heap.push go).get? b = some o := fun b o e => Heap.get?_push_of_some _ e
    have kp3 : ∀ b o, s.heap.get? b = some o → (s1.heap.push go).get? b = some o := fun b o e => kp2 b o (kp b o e)
    have hcl' : (envOfC qual scope s.heap.objs.size f cdv).cells = [] := hcl _
    have fr1 : H s.heap.objs.size = none := e0.hok.fresh (Nat.le_refl _)
    have fr2 : H s1.heap.objs.size = none := e0.hok.fresh (Nat.le_of_lt lt1)
    have bare2 : AllBare (s1.gens.push (.fresh (.func body (envOfC qual scope s.heap.objs.size f cdv)))) := AllBare.push (by rw [egen]; exact e0.bare) rfl
    refine ⟨s1.heap.objs.size, s1.gens.size, _, N, qual, scope, f, cdv, go, rfl, lt1, ⟨go, v1, v2, here, g1, g2, g3⟩, Array.getElem?_push_size .., eos, bare2, kp3, fr1, here, fr2, hcl', ?_⟩
    intro Aw R s2 H2 hrw hfr hA ww hR
    have e0w : Env0 P w K mg base Aw outer s H := ⟨hfr, e0.mod, e0.bs, e0.bsz, e0.funs, e0.frf, e0.hok, e0.bare⟩
    have I1 : L2.Inv (gcxOf P w K mg base N qual scope f cdv Aw outer s H E0 []) [] (start N vs) H s1 := inv_startG S hrw.hd e0w hlen r x
    have frl : ∀ b ∈ frs outer, b < s.heap.objs.size := fun b hb' => by
      obtain ⟨_, o, ho, _⟩ := e0.funs.mem hb'
      exact Heap.lt_size ho
    have nocell : ∀ {x : Str} {b : Addr}, (envOfC qual scope s.heap.objs.size f cdv).cells.lookup x = some b → False := fun {x b} h => by rw [hcl'] at h; cases h
    have hsz : (cutS s.heap.objs.size { s1 with gens := s1.gens.push (.fresh (.func body (envOfC qual scope s.heap.objs.size f cdv))), toks := tk2, heap := s1.heap.push go }).heap.objs.size = s.heap.objs.size := cut_size (by
      show s.heap.objs.size ≤ (s1.heap.push go).objs.size
      rw [Heap.size_push]; omega)
    have I0 : L2.Inv (GCx.X ⟨P, w, K, mg, base, N, qual, scope, f, cdv, Aw, outer, s.heap.objs.size, [(s1.heap.objs.size, go)]⟩ { s1 with gens := s1.gens.push (.fresh (.func body (envOfC qual scope s.heap.objs.size f cdv))), toks := tk2, heap := s1.heap.push go } H) [] (start N vs) H
        { s1 with gens := s1.gens.push (.fresh (.func body (envOfC qual scope s.heap.objs.size f cdv))), toks := tk2, heap := s1.heap.push go } := by
      refine ⟨{
        mod := e0.mod
        kind := I1.ok.kind
        glob := I1.ok.glob
        blt := I1.ok.blt
        above := Nat.le_of_eq hsz
        inj := fun x y b h _ => (nocell h).elim
        has := I1.ok.has
        cab := fun x b _ h => (nocell h).elim
        hd := I1.ok.hd
        frames := I1.ok.frames
        stk := I1.ok.stk
        exf := fun b z => nomatch z
        bs := fun b o e => ⟨(cut_lt (Nat.lt_of_lt_of_le (Heap.lt_size e) e0.bsz)).trans (kp3 b o (e0.bs b o e).1), (e0.bs b o e).2⟩
        bsz := Nat.le_trans e0.bsz (Nat.le_of_eq hsz.symm)
        noex := fun b o _ z => nomatch z
        exfs := fun b z => nomatch z
        funs := cut_frames (e0.funs.of_keeps fun b o e _ => ⟨o, kp3 b o e, rfl⟩) frl
        frf := e0.frf }, rfl, bare2, Un.kept fun b o e => (cut_some e).1, ?_, fun x b h => (nocell h).elim, fr1, fun x b h => (nocell h).elim, fun p hp => ?_, e0.hok.kept kp3, I1.len⟩
      · obtain ⟨m, ⟨o, es, ep, ho, rr⟩, hl⟩ := I1.loc
        refine ⟨m, ⟨o, es, ep, kp2 _ o ho, rr⟩, fun i y v q1 q2 q3 => ?_⟩
        obtain ⟨u, ru, z⟩ := hl i y v q1 q2 q3
        refine ⟨u, ru, ?_⟩
        rcases z with z | ⟨_, b, z, _⟩
        · exact .inl z
        · exact (nocell z).elim
      · have hp : p ∈ [(s1.heap.objs.size, go)] ++ [] := hp
        rw [List.append_nil] at hp
        rw [List.mem_singleton.mp hp]
        exact ⟨here, fr2, Nat.ne_of_gt lt1, fun z => absurd (Nat.lt_trans (frl _ z) lt1) (Nat.lt_irrefl _), fun v q => by rw [g2] at q; cases q⟩
    have I2 := rebase (c := ⟨P, w, K, mg, base, N, qual, scope, f, cdv, Aw, outer, s.heap.objs.size, [(s1.heap.objs.size, go)]⟩) hcl' I0 ww
    obtain ⟨t, ht, hq⟩ := hbody Aw outer s.heap.objs.size [(s1.heap.objs.size, go)] H2 vs g (hrw.deeper _) hA
    have hz : s.heap.objs.size < s2.heap.objs.size := by
      obtain ⟨m, ⟨oL, _, _, hoL, _⟩, _⟩ := I2.loc
      exact Heap.lt_size hoL
    refine seg_func ?_
    refine ht.run Aw R [] (g.n + 1) 0 s2 s2 H2 _ [] _ _ id id (start N vs) H2 _ ⟨over_func, rfl, rfl, rfl, hcl'⟩ ⟨rfl, hR, hz, fun p hp => (by cases hp), I2⟩ (fun n' i' s0' Hw' σ' H' s6 f' z hf => ?_) hq
    cases f' with
    | next =>
      obtain ⟨z1, z2⟩ := hf
      have z3 := z.cnt
      exact seg_end (.ok (.ret .none)) ⟨rfl, [], σ', H', Hw', by omega, by rw [← z1]; exact z.rdy, z.sz, z.inv, z2⟩
    | brk => exact hf.elim
    | cont => exact hf.elim
    | ret u => exact hf.elim
  exact fin _ _ _ _ rfl rfl rfl fun h => Heap.get?_push_size _ rfl
end Z
namespace Z
open PySem PySem.Spec PyProof.Rows GenW
open L2
/-! ### for x in g(..) -/
/-- an exception's place is not told by the generators that sleep -/
def XeOk (X : Cx) : Prop := ∀ (e : Value) (s0 u s : Shared), AllBare s0.gens → Sim (slp s0) u s → X.xe e u → X.xe e s
abbrev TZe := L2.St → Hp → (GPar → Hp → Prop) → Prop
/-- an expression whose value is a generator that has not begun -/
structure PGz (X : Cx) (k : Nat) (e : Expr) (tg : TZe) : Prop where
  run : ∀ (pins : List (Addr × Obj)) (s : Shared) (σ : L2.St) (H : Hp) (cont : GPar → Hp → Prop), L2.Inv X pins σ H s → tg σ H cont → wpAny (model X.prog X.w) X.A (eval e X.env)
    (fun u s' => ∃ H1 sc g A0, L2.Inv X pins σ H1 sc ∧ A0 H1 ∧ GMz X.prog X.w X.K X.mg X.base k X.stack H1 sc g A0 u s' ∧ cont g H1) X.xe s
/-- .. and where else it may be woken first -/
abbrev TZa := L2.St → Hp → (GPar → (Hp → Prop) → Hp → Prop) → Prop
structure PGa (X : Cx) (k : Nat) (e : Expr) (tg : TZa) : Prop where
  run : ∀ (pins : List (Addr × Obj)) (s : Shared) (σ : L2.St) (H : Hp) (cont : GPar → (Hp → Prop) → Hp → Prop), L2.Inv X pins σ H s → tg σ H cont → wpAny (model X.prog X.w) X.A (eval e X.env)
    (fun u s' => ∃ H1 sc g A0, L2.Inv X pins σ H1 sc ∧ A0 H1 ∧ GMz X.prog X.w X.K X.mg X.base k X.stack H1 sc g A0 u s' ∧ cont g A0 H1) X.xe s
def nrm (s : Shared) : Shared := { s with gens := #[] }
theorem yg_mono {c : GCx} {g : GPar} {R : Rdy} {n : Nat} {s0 s : Shared} {v : Value} {kap kap' : Resume → Shared → Prop} (h : ∀ r s', kap r s' → kap' r s') (y : YG c g R n s0 v s kap) : YG c g R n s0 v s kap' := by
  obtain ⟨i, x, ip, σ, H, Hw, y1, y2, y3, y4, y5, y6, y7, y8, y9, y10⟩ := y
  exact ⟨i, x, ip, σ, H, Hw, y1, y2, y3, y4, y5, y6, y7, y8, y9, fun s' H' a b d => ⟨h _ _ (y10 s' H' a b d).1, h _ _ (y10 s' H' a b d).2⟩⟩
theorem goes_imp {M : Model} {A : Around} {E E' : GenEnd} {c : GCx} {g : GPar} {R : Rdy} (h : ∀ n s0 r s, E n s0 r s → E' n s0 r s) {gs : GenState} {n : Nat} {r : Resume} {s : Shared} (z : gs.Goes M A E (YG c g R) n r s) : gs.Goes M A E' (YG c g R) n r s := by
  cases gs with
  | fresh q => exact ⟨z.1, seg_imp (Y := YG c g R) (Y' := YG c g R) h (fun _ _ _ _ _ _ kk => yg_mono kk) n z.2⟩
  | suspended k l q p fs cl => exact seg_imp (Y := YG c g R) (Y' := YG c g R) h (fun _ _ _ _ _ _ kk => yg_mono kk) n z
  | running => exact z
  | finished => exact z
def tForG (tg : TZe) (gt : TG) (tb : TS) : TS := fun D σ H => tg σ H fun g H1 => ∃ W : Nat → L2.St → Hp → Prop, W 0 σ H1 ∧
  (∀ i σ H, i < g.n → W i σ H → ∀ x H', Ex H H' → g.Yp i x H' → gt x σ H' fun σ2 H2 => tb ⟨fun σ3 H3 => g.rel H' H3 ∧ W (i + 1) σ3 H3, D.rt, D.nx, fun σ3 H3 => g.rel H' H3 ∧ W (i + 1) σ3 H3⟩ σ2 H2) ∧
  ∀ σ H, W g.n σ H → ∀ H', Ex H H' → D.nx σ H'
theorem ps_forG {X : Cx} {k : Nat} {tgt e : Expr} {body : List Stmt} {pos : Pos} {tg : TZe} {gt : TG} {tb : TS} (hp : PassesOwn (model X.prog X.w) X.A X.env X.xe) (hxe : XeOk X) (hc : X.calm = true) (hr : Room (k + 1) X.A) (he : PGz X k e tg) (hg : PG X tgt gt) (hb : PSs X body tb)
    (hs : ∀ x, foldedSetIterable e X.env x = pure x := by intro _; rfl) : PS X (.For tgt e body [] pos) (tForG tg gt tb) := by
  refine ⟨fun pins s σ H D I h => ?_⟩
  refine wpAny_For (thn (he.run pins s σ H _ I h) fun v s1 h1 => ?_) hs
  obtain ⟨H1, sc, g, A0, I1, hA0, hG, W, w0, step, done⟩ := h1
  obtain ⟨a, gi, code, N, qual, scope, f, cd, go, rfl, ha, hgen, hgs, hos, hbare, hkp, hfree, hgo, hfa, hcells, wake⟩ := hG
  refine wpAny_pyIter_gen hgen ?_
  have Ic : L2.Inv X pins σ H1 s1 := I1.call' (ch := []) hos (Un.kept hkp) (I1.hok.kept hkp) hbare fun b hb' => by cases hb'
  have lo0 : X.s_0.heap.objs.size ≤ sc.heap.objs.size := I1.sz
  have loL : X.env.locals < sc.heap.objs.size := I1.lt
  have loC : ∀ x b, X.env.cells.lookup x = some b → b < sc.heap.objs.size := fun x b q => by
    obtain ⟨v, o, ho, _⟩ := I1.cell x b q
    exact Heap.lt_size ho
  have loP : ∀ p ∈ X.pn ++ pins, p.1 < sc.heap.objs.size := fun p q => Heap.lt_size (I1.pin p q).1
  have loF : ∀ b ∈ frs X.stack, b < sc.heap.objs.size := fun b q => by
    obtain ⟨_, o, ho, _⟩ := I1.env0.funs.mem q
    exact Heap.lt_size ho
  have loX : ∀ b ∈ X.fs, b < sc.heap.objs.size := fun b q => by
    obtain ⟨_, o, ho, _⟩ := I1.ok.funs.mem q
    exact Nat.lt_of_lt_of_le (Heap.lt_size ho) lo0
  obtain ⟨oG, nm, qn, hoG, hcG, hdG, hsG⟩ := id hgen
  rw [hgo] at hoG
  cases hoG
  generalize hn0 : sc.heap.objs.size = n0 at *
  let R : Rdy := fun i H' s' => ∃ σ', L2.Inv X pins σ' H' (nrm s') ∧ W i σ' H'
  have env0 : ∀ {σ' : L2.St} {H' : Hp} {s' : Shared} {pins' : List (Addr × Obj)}, L2.Inv X pins' σ' H' s' → Env0 X.prog X.w X.K X.mg X.base X.A.in1 X.stack (s'.setGen gi .running) H' := fun {σ' H' s' pins'} J => by
    have e := J.env0
    exact ⟨e.frames, e.mod, e.bs, e.bsz, e.funs, e.frf, e.hok, allBare_setGen e.bare rfl⟩
  let F : Nat → Shared → Shared → Prop := fun n s0 s => ∃ ip σ H Hw, n = 1 ∧ R g.n Hw s0 ∧ n0 < s0.heap.objs.size ∧ L2.Inv (GCx.X ⟨X.prog, X.w, X.K, X.mg, X.base, N, qual, scope, f, cd, X.A.in1, X.stack, n0, [(a, go)]⟩ s0 Hw) ip σ H s ∧ Ex Hw H
  let RE : GenEnd := fun n s0 r s => ((r = .ok (.ret .none) ∨ r = .ok .next) ∧ F n s0 s) ∨ ∃ e : Value, r = .error e ∧ False
  let LI : Nat → Shared → Prop := fun m s => ∃ i σ H, m + i = g.n ∧ L2.Inv X pins σ H s ∧ W i σ H ∧ s.heap.IsGen a gi ∧ ∃ gs, s.gens[gi]? = some gs ∧
    gs.Goes (model X.prog X.w) X.A.in1 RE (YG ⟨X.prog, X.w, X.K, X.mg, X.base, N, qual, scope, f, cd, X.A.in1, X.stack, n0, [(a, go)]⟩ g R) (m + 1) (.send .none) (s.setGen gi .running)
  have init : LI g.n s1 := by
    refine ⟨0, σ, H1, rfl, Ic, w0, hgen, .fresh code, hgs, goes_imp (E := RG ⟨X.prog, X.w, X.K, X.mg, X.base, N, qual, scope, f, cd, X.A.in1, X.stack, n0, [(a, go)]⟩ g R) (fun n s0 r s z => .inl ⟨.inl z.1, z.2⟩) (gs := .fresh code) ⟨rfl, ?_⟩⟩
    refine wake X.A.in1 R (s1.setGen gi .running) H1 hr.in1 I1.ok.frames hA0 ⟨env0 Ic, rfl, fun o q => q, hfree, fun p hp => ?_⟩ ⟨σ, Ic.gens rfl rfl (fun y hy => by simp [nrm] at hy), w0⟩
    have hp : p ∈ [(a, go)] ++ [] := hp
    rw [List.append_nil] at hp
    rw [List.mem_singleton.mp hp]
    exact ⟨hgo, hfa⟩
  refine codeAny_forLoop_any LI ?_ g.n init
  rintro m s3 ⟨i, σ3, H3, hmi, I3, w3, hg3, gs, hgs3, hgo3⟩
  have hgl : gi < s3.gens.size := (Array.getElem?_eq_some_iff.mp hgs3).1
  -- the consumer's frame behind a turn of the generator
  have turn2 : ∀ {ip : List (Addr × Obj)} {σ' σg : L2.St} {Hw Hg : Hp} {s4 : Shared}, L2.Inv X pins σ' Hw s3 → L2.Inv (GCx.X ⟨X.prog, X.w, X.K, X.mg, X.base, N, qual, scope, f, cd, X.A.in1, X.stack, n0, [(a, go)]⟩ (s3.setGen gi .running) Hw) ip σg Hg s4 → L2.Inv X pins σ' Hg s4 := fun {ip σ' σg Hw Hg s4} I J => by
    have old : ∀ b o, s3.heap.get? b = some o → b ∉ (List.range s3.heap.objs.size).filter (fun b => decide (n0 ≤ b)) → b < n0 := fun b o q hx => by
      refine Nat.lt_of_not_le fun z => hx (List.mem_filter.mpr ⟨List.mem_range.mpr (Heap.lt_size q), by simpa using z⟩)
    have noex : ∀ b : Addr, b ∉ ([] : List Addr) := fun b z => by cases z
    have cut : ∀ b o, s3.heap.get? b = some o → b ∉ (List.range s3.heap.objs.size).filter (fun b => decide (n0 ≤ b)) → (cutS n0 (s3.setGen gi .running)).heap.get? b = some o := fun b o q hx => (cut_lt (old b o q hx)).trans q
    refine I.call' (ch := (List.range s3.heap.objs.size).filter fun b => decide (n0 ≤ b)) J.os ⟨fun b o q hn hf hx => J.base.keep b o (cut b o q hx) hn hf (noex b), fun b o q hn hf hx => J.base.slot b o (cut b o q hx) hn hf (noex b), fun b o q hn hx => J.base.free b o (cut b o q hx) hn (noex b), fun b o q hx => J.base.there b o (cut b o q hx) (noex b), J.base.tups, J.base.frzs, J.base.tbls⟩ J.hok J.bare fun b hb' => ?_
    have hn : n0 ≤ b := by simpa using (List.mem_filter.mp hb').2
    exact ⟨.inr (Nat.le_trans lo0 hn), fun z => absurd (Nat.lt_of_lt_of_le loL hn) (by rw [z]; exact Nat.lt_irrefl _), fun x d q z => absurd (Nat.lt_of_lt_of_le (loC x d q) hn) (by rw [z]; exact Nat.lt_irrefl _), fun p hp z => absurd (Nat.lt_of_lt_of_le (loP p hp) hn) (by rw [z]; exact Nat.lt_irrefl _)⟩
  refine wpAny_passesOwn hp (wpAny_gsz (n := gi + 1) hgl (next_genG (A := X.A) (F := F) (Er := fun _ _ => False) (n := m + 1) (I3.ok.hd hc) I3.nolimit hr.depth hg3 hgs3 hgo3 (fun v s4 gs4 hb4 hv => ?_) (fun s4 h4 h' hk => ?_) fun e s4 z => z.elim))
  · intro hsz
    obtain ⟨i', x, ip, σg, Hg, Hw, cnt, hlt, rv, ⟨σ', I', w'⟩, hz, lowp, Ig, ex, yp, kp⟩ := hv
    have ei : i' = i := by omega
    subst ei
    obtain ⟨m, rfl⟩ : ∃ m', m = m' + 1 := ⟨m - 1, by omega⟩
    have I2 : L2.Inv X pins σ' Hw s3 := I'.gens rfl rfl I3.bare
    have I4 : L2.Inv X pins σ' Hg (s4.setGen gi gs4) := (turn2 I2 Ig).gens rfl rfl (allBare_setGen Ig.bare hb4)
    have hsz4 : gi < s4.gens.size := by
      have q : (s4.setGen gi gs4).gens.size = s4.gens.size := setGen_size _ _ _
      have hsz' : gi + 1 ≤ (s4.setGen gi gs4).gens.size := hsz
      omega
    have gat4 : (s4.setGen gi gs4).gens[gi]? = some gs4 := setGen_at hsz4
    obtain ⟨mL, ⟨oL, es, ep, hoL, hdL, hrL⟩, _⟩ := id Ig.loc
    have hoL : s4.heap.get? n0 = some oL := hoL
    have hgo4 : s4.heap.get? a = some go := (Ig.pin (a, go) (List.mem_append_left _ (List.mem_singleton.mpr rfl))).1
    have ne_of_le : ∀ b, n0 ≤ b → b ≠ X.env.locals ∧ b ∉ X.fs := fun b hb' => ⟨fun z => absurd (Nat.lt_of_lt_of_le loL hb') (by rw [z]; exact Nat.lt_irrefl _), fun z => absurd (Nat.lt_of_lt_of_le (loX b z) hb') (Nat.lt_irrefl _)⟩
    have Ip : L2.Inv X (pins ++ ((n0, oL) :: (a, go) :: ip)) σ' Hg (s4.setGen gi gs4) := by
      refine I4.pins_of fun p hp => ?_
      rcases List.mem_append.mp hp with hp | hp
      · exact I4.pin p (List.mem_append_right _ hp)
      rcases List.mem_cons.mp hp with hp | hp
      · rw [hp]
        obtain ⟨q1, q2⟩ := ne_of_le n0 (Nat.le_refl _)
        exact ⟨hoL, Ig.free, q1, q2, fun v q => by rw [hdL] at q; cases q⟩
      · have hp' : p ∈ [(a, go)] ++ ip := hp
        obtain ⟨h1, h2, _, _, h5⟩ := Ig.pin p hp'
        have h6 : n0 ≤ p.1 := by
          rcases List.mem_append.mp hp' with z | z
          · rw [List.mem_singleton.mp z]; exact Nat.le_of_lt ha
          · exact lowp p z
        obtain ⟨q1, q2⟩ := ne_of_le p.1 h6
        exact ⟨h1, h2, q1, q2, h5⟩
    have Iu : L2.Inv X (pins ++ ((n0, oL) :: (a, go) :: ip)) σ' Hg (psn (s4.setGen gi gs4)) := Ip.gens rfl rfl (bare_psn Ip.bare)
    refine go_of (s := s4.setGen gi gs4) (o := go) hgo4 hcG hdG (by decide) ?_
    refine wpAny_passesOwn hp (wpAny_mono (wpAny_sim (sim_psn (s4.setGen gi gs4)) (hg.run _ _ σ' Hg x v _ Iu rv (step i' σ' Hw hlt w' x Hg ex yp))) (fun _ s5 h5 => ?_) fun e s5 h5 => ?_)
    · obtain ⟨u5, z5, σ5, H5, I5, q5⟩ := h5
      refine wpAny_passesOwn hp (wpAny_mono (wpAny_sim z5 (hb.run _ u5 σ5 H5 _ I5 q5)) (fun fl s6 h6 => ?_) fun e s6 h6 => ?_)
      · obtain ⟨u6, z6, q6⟩ := h6
        have real : ∀ {σ7 : L2.St} {H7 : Hp}, L2.Inv X (pins ++ ((n0, oL) :: (a, go) :: ip)) σ7 H7 u6 → L2.Inv X (pins ++ ((n0, oL) :: (a, go) :: ip)) σ7 H7 s6 := fun J => J.gens z6.heap.symm z6.os.symm (z6.bare Ip.bare J.bare)
        have again : ∀ {σ7 : L2.St} {H7 : Hp}, L2.Inv X (pins ++ ((n0, oL) :: (a, go) :: ip)) σ7 H7 u6 → g.rel Hg H7 ∧ W (i' + 1) σ7 H7 → ∃ m', m' < m + 1 ∧ LI m' s6 := fun {σ7 H7} J0 h => by
          have J := real J0
          have J1 : L2.Inv X pins σ7 H7 s6 := J.unpinned
          have pk : ∀ p, p ∈ ((n0, oL) :: (a, go) :: ip) → s6.heap.get? p.1 = some p.2 ∧ H7 p.1 = none := fun p hp => by
            obtain ⟨q1, q2, _⟩ := J.pin p (List.mem_append_right _ (List.mem_append_right _ hp))
            exact ⟨q1, q2⟩
          have wk : WakeOk ⟨X.prog, X.w, X.K, X.mg, X.base, N, qual, scope, f, cd, X.A.in1, X.stack, n0, [(a, go)]⟩ ip s4 H7 (s6.setGen gi .running) := by
            refine ⟨env0 J, ?_, fun o q => ?_, (pk (n0, oL) List.mem_cons_self).2, fun p hp => pk p (List.mem_cons_of_mem _ hp)⟩
            · have e1 : s6.os = X.s_0.os := J.os
              have e2 : s4.os = X.s_0.os := I4.os
              exact e1.trans e2.symm
            · have q : s4.heap.get? n0 = some o := q
              rw [hoL] at q
              cases q
              exact (pk (n0, oL) List.mem_cons_self).1
          obtain ⟨k1, k2⟩ := kp (s6.setGen gi .running) H7 wk h.1 ⟨σ7, J1.gens rfl rfl (fun y hy => by simp [nrm] at hy), h.2⟩
          have hsus : isSusp gs4 = true := by
            cases gs4 with
            | suspended => rfl
            | fresh q => exact absurd k2.1 (by simp)
            | running => exact k2.elim
            | finished => exact k2.elim
          exact ⟨m, Nat.lt_succ_self m, i' + 1, σ7, H7, by omega, J1, h.2, ⟨go, nm, qn, (pk (a, go) (List.mem_cons_of_mem _ List.mem_cons_self)).1, hcG, hdG, hsG⟩, gs4, z6.still gat4 hsus, k1⟩
        cases fl with
        | next => obtain ⟨σ7, H7, J, q⟩ := q6; exact again J q
        | cont => obtain ⟨σ7, H7, J, q⟩ := q6; exact again J q
        | brk => obtain ⟨σ7, H7, J, q⟩ := q6; exact ⟨σ7, H7, (real J).unpinned, q⟩
        | ret u => obtain ⟨v7, σ7, H7, J, r7, q⟩ := q6; exact ⟨v7, σ7, H7, (real J).unpinned, r7, q⟩
      · obtain ⟨u6, z6, q6⟩ := h6
        exact hxe e _ u6 s6 Ip.bare z6 q6
    · obtain ⟨u5, z5, q5⟩ := h5
      exact hxe e _ u5 s5 Ip.bare z5 q5
  · intro hsz
    obtain ⟨ip, σg, H, Hw, hm, ⟨σ', I', w'⟩, hz, Ig, ex⟩ := h4
    have I2 : L2.Inv X pins σ' Hw s3 := I'.gens rfl rfl I3.bare
    have I4 := turn2 I2 Ig
    have I5 : L2.Inv X pins σ' H { s4.setGen gi .finished with heap := h' } := (I4.kept (t' := s4.toks) hk).gens rfl rfl (allBare_setGen (s := s4) Ig.bare rfl)
    exact wpAny_execs_nil ⟨σ', H, I5, done σ' Hw w' H ex⟩
theorem xe_nox {X : Cx} : XeOk X.nox := fun _ _ _ _ _ _ h => h.elim
theorem cx_sim {P : Program} {w : World} {outer : List Env} {H : Hp} {s : Shared} {E : XK} {e : Value} {s0 u r : Shared} (h0 : AllBare s0.gens) (z : Sim (slp s0) u r) (h : L2.CX P w outer H s E e u) : L2.CX P w outer H s E e r := by
  obtain ⟨a, B, H', cls, d, h1, h2, h3, h4, h5, h6, h7, h8⟩ := h
  exact ⟨a, B, H', cls, d, h1, by rw [← z.heap]; exact h2, h3, by rw [← z.heap]; exact h4, h5, by rw [← z.os]; exact h6, z.bare h0 h7, h8⟩
theorem xe_cx {P : Program} {w : World} {K : PySem.W.Frag} {mg : Str → Option Value} {base : Heap} {N : List Str} {qual : Str} {scope : Scope} {f : Addr} {cd : Value} {A : Around} {outer : List Env} {s : Shared} {H : Hp} {E : XK} : XeOk (cxOf (L2.CX P w) P w K mg base N qual scope f cd A outer s H E) := fun e s0 u r h0 z h =>
  wpAny_mono (wpAny_sim z h) (fun _ r' ⟨u', z', q⟩ => cx_sim h0 z' q) fun _ r' ⟨u', z', q⟩ => cx_sim h0 z' q
/-! ### the def, the calls -/
theorem FunD.gz {P : Program} {w : World} {K : PySem.W.Frag} {mg : Str → Option Value} {base : Heap} {x qual : Str} {params : Arguments} {body : List Stmt} {scope : Scope} {dvs : List V} {kws : List (Str × V)} {f : Addr} {fd : FuncData} {N ps : List Str} {k : Nat} {sp : SpZ}
    (F : L2.FunD K x qual params body scope dvs kws f fd) (S : GScope N ps scope) (hcl : ∀ n, cellsFrom (n + 1) scope.names [] = []) (len : ∀ vs H g, sp vs H g → vs.length = ps.length)
    (hbody : ∀ (cdv : Value) (A : Around) (outer : List Env) (n0 : Nat) (pn : List (Addr × Obj)) (H : Hp) (vs : List V) (g : GPar), Room k (A.deeper (envOfC qual scope n0 f cdv)) → sp vs H g →
      ∃ t, GSzs ⟨P, w, K, mg, base, N, qual, scope, f, cdv, A, outer, n0, pn⟩ g body t ∧ t { nx := fun i Hw _ H' => i = g.n ∧ Ex Hw H' } 0 H (start N vs) H) : GFz P w K mg base (k + 1) f fd ps sp := by
  obtain ⟨oc, od, dV, kV, doc, pm, an, cdv, ct, osl, rfl, lk, hcd, _, _⟩ := F.ex
  exact gfz_of lk hcd S hcl len fun A outer n0 pn H vs g hr hsp => hbody cdv A outer n0 pn H vs g hr hsp
section
variable {X : Cx} {k : Nat} {f C : Addr} {fd : FuncData} {ps : List Str} {sp : SpZ} {dvs : List V} {ds : List Value} {x m : Str} {p pos pos' apos : Pos} {o : Expr} {ta : TE}
theorem run_gfz {pins : List (Addr × Obj)} {σ : L2.St} {H : Hp} {s : Shared} {us : List Value} {vs : List V} {cont : GPar → (Hp → Prop) → Hp → Prop} {E1 : Value → Shared → Prop} (F : GFz X.prog X.w X.K X.mg X.base k f fd ps sp) (hr : Room k X.A) (hb : Binds X.K fd ps ds) (hd : Vals dvs ds)
    (I : L2.Inv X pins σ H s) (r : Vals vs us) (h : ∃ g, sp (vs ++ dvs) H g ∧ cont g (fun H2 => sp (vs ++ dvs) H2 g) H) : wpAny (model X.prog X.w) X.A (call (.ref f) us) (fun u s' => ∃ H1 sc g A0, L2.Inv X pins σ H1 sc ∧ A0 H1 ∧ GMz X.prog X.w X.K X.mg X.base k X.stack H1 sc g A0 u s' ∧ cont g A0 H1) E1 s := by
  obtain ⟨g, hsp, hc⟩ := h
  have rr : Vals (vs ++ dvs) (us ++ ds) := r.append hd
  have ll : (us ++ ds).length = ps.length := rr.length.symm.trans (F.len _ _ _ hsp)
  refine wpAny_call (codeAny_mono (F.run X.A X.stack s H ⟨us, []⟩ (us ++ ds) (vs ++ dvs) g hr I.env0 (hb s us I.kIn ll) rr hsp) fun q s' hq => ?_)
  match q, hq with
  | .ok (.ret u), hq => exact ⟨H, s, g, _, I, hsp, hq, hc⟩
  | .ok .next, hq => exact hq.elim
  | .ok .brk, hq => exact hq.elim
  | .ok .cont, hq => exact hq.elim
  | .error e, hq => exact hq.elim
def tCallG (sp : SpZ) (dvs : List V) (t : TA) : TZe := fun σ H cont => t σ H fun vs H1 => ∃ g, sp (vs ++ dvs) H1 g ∧ cont g H1
/-- f(e, ..) of a generator def -/
theorem pgz_call {e : Expr} {es : List Expr} {t : TA} (F : GFz X.prog X.w X.K X.mg X.base k f fd ps sp) (hr : Room k X.A) (hg : Gl X x) (hm : X.mg x = some (.ref f)) (hk : PySem.W.keepIn X.K (.ref f) = true) (hb : Binds X.K fd ps ds) (hd : Vals dvs ds) (ha : PA X (e :: es) t)
    (hdb : (x == ("__debug__" : Str)) = false := by decide) (he : starEach (e :: es) X.env = (false, eval e X.env) :: starEach es X.env := by rfl) (hpl : (backTo pos' (starEach es X.env)).any (·.1) = false := by rfl) : PGz X k (.Call (.Name x p) (e :: es) [] pos') (tCallG sp dvs t) :=
  ⟨fun pins s σ H cont I h => wpAny_Call_Name_kw (ld_glob I hg hm (PySem.W.callWith_K (h₀ := X.base) I.ok.mod.kin hk (thn (ha.run pos' pins s σ H _ I h) fun us s1 hq => by
    obtain ⟨vs, H1, I1, r, q⟩ := hq
    exact ⟨I1.kIn, run_gfz (cont := fun g _ H => cont g H) F hr hb hd I1 r q⟩) he hpl) hdb)⟩
def tCallGa (sp : SpZ) (dvs : List V) (t : TA) : TZa := fun σ H cont => t σ H fun vs H1 => ∃ g, sp (vs ++ dvs) H1 g ∧ cont g (fun H2 => sp (vs ++ dvs) H2 g) H1
theorem pga_call {e : Expr} {es : List Expr} {t : TA} (F : GFz X.prog X.w X.K X.mg X.base k f fd ps sp) (hr : Room k X.A) (hg : Gl X x) (hm : X.mg x = some (.ref f)) (hk : PySem.W.keepIn X.K (.ref f) = true) (hb : Binds X.K fd ps ds) (hd : Vals dvs ds) (ha : PA X (e :: es) t)
    (hdb : (x == ("__debug__" : Str)) = false := by decide) (he : starEach (e :: es) X.env = (false, eval e X.env) :: starEach es X.env := by rfl) (hpl : (backTo pos' (starEach es X.env)).any (·.1) = false := by rfl) : PGa X k (.Call (.Name x p) (e :: es) [] pos') (tCallGa sp dvs t) :=
  ⟨fun pins s σ H cont I h => wpAny_Call_Name_kw (ld_glob I hg hm (PySem.W.callWith_K (h₀ := X.base) I.ok.mod.kin hk (thn (ha.run pos' pins s σ H _ I h) fun us s1 hq => by
    obtain ⟨vs, H1, I1, r, q⟩ := hq
    exact ⟨I1.kIn, run_gfz F hr hb hd I1 r q⟩) he hpl) hdb)⟩
def tMethG (C : Addr) (m : Str) (sp : SpZ) (dvs : List V) (ta : TE) (t : TA) : TZe := fun σ H cont => ta σ H fun x H1 => ∃ a dx fs, x = .ref a ∧ H1 a = some (.ins C dx fs) ∧ fs.lookup m = none ∧ t σ H1 fun vs H2 => ∃ g, sp (x :: (vs ++ dvs)) H2 g ∧ cont g H2
/-- o.m() of a generator method -/
theorem pgz_meth0 {pl : Sem Bool} (he : PE X o ta) (c : Cls X.K C) (hm : Meth X.K C m f) (F : GFz X.prog X.w X.K X.mg X.base k f fd ps sp) (hr : Room k X.A) (hb : Binds X.K fd ps ds) (hd : Vals dvs ds)
    (ht : eval (.Call (.Attribute o m apos) [] [] pos') X.env = (do
      let ov ← eval o X.env
      standAt apos.atName
      let (f, first) ← holding [ov] (getMethod ov m pl)
      callWith pos' f first (backTo pos' (starEach [] X.env)) (backToKw pos' (keywordEach [] X.env))) := by rfl) : PGz X k (.Call (.Attribute o m apos) [] [] pos') (tMethG C m sp dvs ta tNil) := by
  refine ⟨fun pins s σ H cont I h => PySem.W.methodCall_KW (pl := pl) (thn (he.run pins s σ H _ I h) fun u s1 hq => ?_) ht⟩
  obtain ⟨x, H1, I1, rx, a, dx, fs, rfl, ea, l, q⟩ := hq
  obtain rfl : u = Value.ref a := rx
  exact getmeth_ok I1 ea c hm l (PySem.W.callWith_K0 (first := [.ref a]) I1.kIn hm.kp (run_gfz (cont := fun g _ H => cont g H) (us := [.ref a]) (vs := [.ref a]) F hr hb hd I1 (.cons rfl .nil) q))
end
/-! ### readings -/
def FGz (g : GPar) (gt : TG) (tb : TS) (D : Ends) (σ : L2.St) (H1 : Hp) : Prop := ∃ W : Nat → L2.St → Hp → Prop, W 0 σ H1 ∧
  (∀ i σ H, i < g.n → W i σ H → ∀ x H', Ex H H' → g.Yp i x H' → gt x σ H' fun σ2 H2 => tb ⟨fun σ3 H3 => g.rel H' H3 ∧ W (i + 1) σ3 H3, D.rt, D.nx, fun σ3 H3 => g.rel H' H3 ∧ W (i + 1) σ3 H3⟩ σ2 H2) ∧
  ∀ σ H, W g.n σ H → ∀ H', Ex H H' → D.nx σ H'
section
variable {tg : TZe} {gt : TG} {tb : TS} {D : Ends} {σ : L2.St} {H : Hp} {sp : SpZ} {dvs : List V} {t : TA} {ta : TE} {C : Addr} {m : Str} {cont : GPar → Hp → Prop} {c : GCx} {g : GPar} {i : Nat} {Hw : Hp} {te : TE} {GDe : GD}
theorem w_forG (h : tg σ H fun g H1 => FGz g gt tb D σ H1) : tForG tg gt tb D σ H := h
theorem w_callG0 (h : t σ H fun vs H1 => ∃ g, sp vs H1 g ∧ cont g H1) : tCallG sp [] t σ H cont := by
  unfold tCallG
  simp only [List.append_nil]
  exact h
theorem w_callGa0 {cont : GPar → (Hp → Prop) → Hp → Prop} (h : t σ H fun vs H1 => ∃ g, sp vs H1 g ∧ cont g (fun H2 => sp vs H2 g) H1) : tCallGa sp [] t σ H cont := by
  unfold tCallGa
  simp only [List.append_nil]
  exact h
theorem w_methG0 (h : ta σ H fun x H1 => ∃ a dx fs, x = .ref a ∧ H1 a = some (.ins C dx fs) ∧ fs.lookup m = none ∧ t σ H1 fun vs H2 => ∃ g, sp (x :: vs) H2 g ∧ cont g H2) : tMethG C m sp [] ta t σ H cont := by
  unfold tMethG
  simp only [List.append_nil]
  exact h
theorem w_gzT {t u : TGz} (h : t { GDe with nx := fun i' Hw' σ' H' => u GDe i' Hw' σ' H' } i Hw σ H) : tGzT t u GDe i Hw σ H := h
theorem w_gz0 (h : GDe.nx i Hw σ H) : tGz0 GDe i Hw σ H := h
theorem w_pl {t : TS} (h : t ⟨GDe.nx i Hw, fun _ _ => False, GDe.bk i Hw, GDe.ct i Hw⟩ σ H) : tPl t GDe i Hw σ H := h
theorem w_yl (hi : i < g.n) (h : te σ H fun x H1 => Ex Hw H1 ∧ g.Yp i x H1 ∧ ∀ H2, g.rel H1 H2 → GDe.nx (i + 1) H2 σ H2) : tYl g te GDe i Hw σ H := ⟨hi, h⟩
end
def GFG (J : It) (gt : TG) (tb : TGz) (D : GD) (i : Nat) (Hw : Hp) (σ : L2.St) (H1 : Hp) : Prop := ∃ W : Nat → Nat → Nat → Hp → L2.St → Hp → Prop, (∃ m, W 0 m i Hw σ H1) ∧ ∀ j m i Hw σ H, W j m i Hw σ H →
  (J.stop j H ∧ D.nx i Hw σ H) ∨ (J.go j H ∧ ∃ Nx : Nat → Hp → L2.St → Hp → Prop, (∀ i' Hw' σ' H', Nx i' Hw' σ' H' → ∃ m', m' < m ∧ W (j + 1) m' i' Hw' σ' H') ∧ ∀ x H', J.yld j H x H' → gt x σ H' fun σ2 H2 => tb ⟨Nx, D.nx, Nx⟩ i Hw σ2 H2)
theorem w_gzF {wi : TI} {gt : TG} {tb : TGz} {D : GD} {i : Nat} {Hw : Hp} {σ : L2.St} {H : Hp} (h : wi σ H fun J H1 => GFG J gt tb D i Hw σ H1) : tGzF wi gt tb D i Hw σ H := h
theorem gfg {J : It} {Φ : Hp → Prop} {n : Nat} {Y : Nat → V → Hp → Prop} {gt : TG} {tb : TGz} {D : GD} {i : Nat} {Hw : Hp} {σ : L2.St} {H : Hp} (S : Src J Φ n Y) (Pv : Nat → Nat → Hp → L2.St → Hp → Prop) (h0 : Pv 0 i Hw σ H) (hx : ∀ j i' Hw' σ' H', j ≤ n → Pv j i' Hw' σ' H' → Φ H')
    (hs : ∀ j x i' Hw' σ' H' H'', j < n → Pv j i' Hw' σ' H' → Ex H' H'' → Y j x H'' → gt x σ' H'' fun σ2 H2 => tb ⟨Pv (j + 1), D.nx, Pv (j + 1)⟩ i' Hw' σ2 H2) (hd : ∀ i' Hw' σ' H', Pv n i' Hw' σ' H' → D.nx i' Hw' σ' H') : GFG J gt tb D i Hw σ H := by
  refine ⟨fun j m i Hw σ H => m = n - j ∧ j ≤ n ∧ Pv j i Hw σ H, ⟨n, by simp, Nat.zero_le _, h0⟩, ?_⟩
  rintro j m i Hw σ H ⟨rfl, hj, p⟩
  have hp := hx j i Hw σ H hj p
  by_cases hlt : j < n
  · refine Or.inr ⟨S.go j H hp hlt, Pv (j + 1), fun i' Hw' σ' H' q => ⟨n - (j + 1), by omega, rfl, hlt, q⟩, fun x H' hy => ?_⟩
    obtain ⟨e, y⟩ := S.yld j H x H' hp hlt hy
    exact hs j x i Hw σ H H' hlt p e y
  · have e : j = n := by omega
    subst e
    exact Or.inl ⟨S.stop H hp, hd i Hw σ H p⟩
def GWG (tc : TT) (tb : TGz) (D : GD) (i : Nat) (Hw : Hp) (σ : L2.St) (H : Hp) : Prop := tGzW tc tb D i Hw σ H
theorem w_gzW {tc : TT} {tb : TGz} {D : GD} {i : Nat} {Hw : Hp} {σ : L2.St} {H : Hp} (h : GWG tc tb D i Hw σ H) : tGzW tc tb D i Hw σ H := h
end Z
namespace Z
open PySem L2 PySem.Spec PyProof.Rows
/-! ### o.m() of a generator method, o of one of several classes -/
theorem GMz.mono {P : Program} {w : World} {K : PySem.W.Frag} {mg : Str → Option Value} {base : Heap} {k j : Nat} {outer : List Env} {H : Hp} {s s' : Shared} {g : GPar} {A0 : Hp → Prop} {u : Value} (h : GMz P w K mg base k outer H s g A0 u s') (hj : k ≤ j) : GMz P w K mg base j outer H s g A0 u s' := by
  obtain ⟨a, gi, code, N, qual, scope, f, cd, go, h1, h2, h3, h4, h5, h6, h7, h8, h9, h10, h11, h12⟩ := h
  exact ⟨a, gi, code, N, qual, scope, f, cd, go, h1, h2, h3, h4, h5, h6, h7, h8, h9, h10, h11, fun A R s2 H2 hr => h12 A R s2 H2 (hr.mono hj)⟩
theorem PGz.mono {X : Cx} {k j : Nat} {e : Expr} {t : TZe} (h : PGz X k e t) (hj : k ≤ j) : PGz X j e t := ⟨fun pins s σ H cont I q => by
  refine thn (h.run pins s σ H cont I q) fun u s' hq => ?_
  obtain ⟨H1, sc, g, A0, I1, hA, hG, hc⟩ := hq
  exact ⟨H1, sc, g, A0, I1, hA, hG.mono hj, hc⟩⟩
theorem pgz_or {X : Cx} {k : Nat} {e : Expr} {t u : TZe} (h : PGz X k e t) (g : PGz X k e u) : PGz X k e (fun σ H cont => t σ H cont ∨ u σ H cont) := ⟨fun pins s σ H cont I q => q.elim (h.run pins s σ H cont I) (g.run pins s σ H cont I)⟩
end Z
namespace Z
open PySem PySem.Spec PyProof.Rows GenW
open L2
/-! ### [e for x in g(..)], g a generator -/
/-- one address out of the abstract heap -/
def era (H : Hp) (a : Addr) : Hp := fun b => if b = a then none else H b
theorem era_same {H : Hp} {a : Addr} : era H a a = none := by unfold era; rw [if_pos rfl]
theorem era_ne {H : Hp} {a b : Addr} (h : b ≠ a) : era H a b = H b := by unfold era; rw [if_neg h]
theorem era_none {H : Hp} {a b : Addr} (h : H b = none) : era H a b = none := by
  unfold era
  split
  · rfl
  · exact h
/-- the frame at C kept in sight -/
def lay (H : Hp) (C : Addr) (oC : Obj) : Hp := upd H C (.ext fun h => h.get? C = some oC)
theorem lay_ne {H : Hp} {C b : Addr} {oC : Obj} (h : b ≠ C) : lay H C oC b = H b := upd_ne h
theorem lay_same {H : Hp} {C : Addr} {oC : Obj} : lay H C oC C = some (.ext fun h => h.get? C = some oC) := upd_same
section
variable {P : Program} {w : World} {H H' : Hp} {h : Heap} {C : Addr} {oC : Obj}
theorem hok_lay (x : HOk P w H h) (hn : H C = none) (e : h.get? C = some oC) : HOk P w (lay H C oC) h := fun b u q => by
  by_cases hb : b = C
  · subst hb
    rw [lay_same] at q
    cases q
    exact ⟨e, ⟨_, e⟩, fun h1 h2 e1 k => k _ e1⟩
  · rw [lay_ne hb] at q
    exact (x b u q).stay (fun c v _ q => q) (fun c q => by rw [lay_ne (ne_of_none q hn)]; exact q) fun c xs q => by rw [lay_ne (ne_of_none q hn)]; exact q
theorem hok_era {φ : Heap → Prop} (x : HOk P w H h) (hC : H C = some (.ext φ)) : HOk P w (era H C) h := fun b u q => by
  have hb : b ≠ C := fun z => by subst z; rw [era_same] at q; cases q
  rw [era_ne hb] at q
  exact (x b u q).stay (fun c v _ q => q) (fun c q => by rw [era_ne (fun z => by subst z; rw [hC] at q; cases q)]; exact q) fun c xs q => by rw [era_ne (fun z => by subst z; rw [hC] at q; cases q)]; exact q
theorem ex_lay (hn : H C = none) (e : Ex (lay H C oC) H') : Ex H (era H' C) := ⟨fun {b} {o} q => by
  have q : H b = some o := q
  have hb : b ≠ C := ne_of_none q hn
  show era H' C b = some o
  rw [era_ne hb]
  exact e.get (show lay H C oC b = some o by rw [lay_ne hb]; exact q)⟩
theorem ex_to_lay (hn : H C = none) : Ex H (lay H C oC) := Ex.new hn
end
/-- the new list over a generator: W by the number of items that are in -/
def tLcG (tg : TZa) (gt : TG) (te : TE) (vs : List Nat) : TE := fun σ H Q => tg σ H fun g A0 H1 => (∀ A B, g.rel A B) ∧ (∀ B, Ex H1 B → A0 B) ∧ (∀ i x A C φ, A C = some (.ext φ) → g.Yp i x A → g.Yp i x (era A C)) ∧ ∀ D, H1 D = none → ∃ W : Nat → Hp → Prop, W 0 (upd H1 D (.lst [])) ∧
  (∀ i A, i < g.n → W i A → ∀ x B, Ex A B → g.Yp i x B → gt x (wipe σ vs) B fun σ2 H2 => wipe σ2 vs = wipe σ vs ∧ te σ2 H2 fun y H4 => ∃ acc, H4 D = some (.lst acc) ∧ acc.length < sizeLine ∧ W (i + 1) (upd H4 D (.lst (acc ++ [y])))) ∧
  ∀ A, W g.n A → ∀ B, Ex A B → Q (.ref D) B
theorem lcG_core {X : Cx} {k : Nat} {pins : List (Addr × Obj)} {s : Shared} {σ : L2.St} {H : Hp} {Q : VK} {elt tgt iter : Expr} {scope : Scope} {own : List (Str × Nat)} {pos pos' : Pos} {tg : TZa} {gt : TG} {te : TE} {use : Option (Value → Sem Unit)} {Qf : Value → Shared → Prop}
    (hc : X.calm = true) (hN : X.N.Nodup) (hr : Room (k + 1) X.A) (I : L2.Inv X pins σ H s) (hi : PGa X k iter tg) (ok : BlkOk X.N X.env.scope scope own) (hcl : ∀ n acc, cellsFrom n scope.names acc = acc) (hpc : ∀ h : Heap, pushCells h scope.names = h)
    (hg : ∀ (s : Shared) (H : Hp) (C : Addr) (cl : List (Str × Addr)) (fp : List Addr), PG (X.blk s H scope (compEnvC scope cl C X.env) fp) tgt gt)
    (he : ∀ (s : Shared) (H : Hp) (C : Addr) (cl : List (Str × Addr)) (fp : List Addr), PE (X.blk s H scope (compEnvC scope cl C X.env) fp) elt te) (hs : ∀ x, foldedSetIterable iter X.env x = pure x)
    (h : tLcG tg gt te (own.map (·.2)) σ H Q)
    (hRR : ∀ D C s' m H', L2.Inv X pins σ H' s' → Q (.ref D) H' → s'.heap.Ns C m → FpOk X pins H' C → compPost (model X.prog X.w) X.A X.xe use Qf (.ref D) C (.ok .next) s') :
    wpAny (model X.prog X.w) X.A (comprehension (.ListComp elt [⟨tgt, iter, [], 0⟩] scope pos) scope X.env pos' (newList []) false (eval iter X.env) use) Qf X.xe s := by
  have hfree : ∀ y ∈ scope.names, y.2 = .free → ∃ c, X.env.cells.lookup y.1 = some c := fun y hy e => by
    rcases ok.free y hy e with k | k
    · exact I.ok.has _ (.inl k)
    · exact I.ok.has _ (.inr k)
  refine wpAny_comprehension_free (use := use) rfl hs (closure_ok hfree) ok.kind (fun y hy e => by rw [ok.uniq y hy, e])
    (thn (hi.run pins s σ H _ I h) fun v s1 h1 => ?_)
  obtain ⟨H1, sc, g, A0, I1, hA0, hG, hrel, hwk, hera, q⟩ := h1
  obtain ⟨a, gi, code, N, qual, gscope, f, cd, go, rfl, ha, hgen, hgs, hos, hbare, hkp, hfree0, hgo, hfa, hcells, wake⟩ := hG
  refine wpAny_pyIter_gen hgen ?_
  have Ic : L2.Inv X pins σ H1 s1 := I1.call' (ch := []) hos (Un.kept hkp) (I1.hok.kept hkp) hbare fun b hb' => by cases hb'
  have lo0 : X.s_0.heap.objs.size ≤ sc.heap.objs.size := I1.sz
  have loL : X.env.locals < sc.heap.objs.size := I1.lt
  have loC : ∀ x b, X.env.cells.lookup x = some b → b < sc.heap.objs.size := fun x b q => by
    obtain ⟨v, o, ho, _⟩ := I1.cell x b q
    exact Heap.lt_size ho
  have loF : ∀ b ∈ frs X.stack, b < sc.heap.objs.size := fun b q => by
    obtain ⟨_, o, ho, _⟩ := I1.env0.funs.mem q
    exact Heap.lt_size ho
  have loB : ∀ b o, X.base.get? b = some o → b < sc.heap.objs.size := fun b o e => Nat.lt_of_lt_of_le (Heap.lt_size e) (Nat.le_trans I1.ok.bsz lo0)
  have fr1 : ∀ b, sc.heap.objs.size ≤ b → H1 b = none := fun b hb => I1.hok.fresh hb
  have aLt : a < s1.heap.objs.size := Heap.lt_size hgo
  obtain ⟨oG, nm, qn, hoG, hcG, hdG, hsG⟩ := id hgen
  rw [hgo] at hoG
  cases hoG
  have fpok : ∀ {H' : Hp} {b : Addr}, sc.heap.objs.size ≤ b → H' b = none → FpOk X pins H' b := fun hb hn => I1.fpOk hb hn
  have clX : ∀ {y c}, (y, c) ∈ cloFrom X.env.cells scope.names [] → X.env.cells.lookup y = some c := fun {y c} hm => by
    rcases cloFrom_mem hm with hm | ⟨h1, rfl⟩
    · cases hm
    · obtain ⟨c, hc⟩ := hfree _ h1 rfl
      rw [hc]
      rfl
  generalize hn0 : sc.heap.objs.size = n0 at *
  refine wpAny_newObj_type (newEnv_comp ?_) (by show 0 ≤ sizeLine; decide)
  generalize hD : s1.heap.objs.size = D
  have hDn : H1 D = none := Ic.hok.fresh (Nat.le_of_eq hD)
  obtain ⟨W, w0, step, done⟩ := q D hDn
  generalize hs3 : ({ s1 with heap := s1.heap.push { cls := .type "list", data := .seq ([] : List Value).toArray } } : Shared) = s3
  have I3 : L2.Inv X pins σ (upd H1 D (.lst [])) s3 := by
    rw [← hs3]
    refine Ic.laid (t' := s1.toks) (fun b o e => Heap.get?_push_of_some _ e) (Nat.le_of_eq hD) ⟨Nat.zero_le _, [], 0, .nil, ?_⟩
    rw [← hD]
    exact Heap.get?_push_size _ rfl
  have h3 : s3.heap = s1.heap.push { cls := .type "list", data := .seq ([] : List Value).toArray } := by rw [← hs3]
  have z3 : s3.heap.objs.size = D + 1 := by rw [h3, Heap.size_push, hD]
  have nD : n0 < D := by rw [← hD]; exact Nat.lt_trans ha aLt
  have aD : a < D := by rw [← hD]; exact aLt
  have neC : ∀ b : Addr, b < n0 → b ≠ D + 1 := fun b h => Nat.ne_of_lt (Nat.lt_trans h (Nat.lt_succ_of_lt nD))
  have dN : D ≠ D + 1 := by omega
  generalize hfpd : (List.range D).filter (fun b => decide (n0 ≤ b)) = fp
  have mfp : ∀ b, b ∈ fp ↔ b < D ∧ n0 ≤ b := fun b => by rw [← hfpd]; simp
  have f3 : ∀ b ∈ fp, FpOk X pins (upd H1 D (.lst [])) b ∧ b < s3.heap.objs.size := fun b hb => by
    obtain ⟨h1, h2⟩ := (mfp b).mp hb
    exact ⟨fpok h2 (by rw [upd_ne (Nat.ne_of_lt h1)]; exact fr1 b h2), by rw [z3]; omega⟩
  have I4 := block_start I3 ok hN f3
  have pg := hg s3 (upd H1 D (.lst [])) s3.heap.objs.size (cellsFrom (s3.heap.objs.size + 1) scope.names (cloFrom X.env.cells scope.names [])) fp
  have pe := he s3 (upd H1 D (.lst [])) s3.heap.objs.size (cellsFrom (s3.heap.objs.size + 1) scope.names (cloFrom X.env.cells scope.names [])) fp
  show codeAny _ _ (.compStart (.ListComp elt [⟨tgt, iter, [], 0⟩] scope pos) 0 (.ref a) (.ref D) (compEnvC scope (cellsFrom (s3.heap.objs.size + 1) scope.names (cloFrom X.env.cells scope.names [])) s3.heap.objs.size X.env)) (compPost (model X.prog X.w) X.A X.xe use Qf (.ref D) s3.heap.objs.size) { s3 with heap := pushCells (s3.heap.push { cls := .type "dict", data := .dict #[] }) scope.names }
  generalize hce : compEnvC scope (cellsFrom (s3.heap.objs.size + 1) scope.names (cloFrom X.env.cells scope.names [])) s3.heap.objs.size X.env = ce at I4 pg pe ⊢
  have cL : ce.locals = D + 1 := by subst hce; exact z3
  have cC : ∀ x c, ce.cells.lookup x = some c → c < n0 := fun x c e => by
    have e : (cellsFrom (s3.heap.objs.size + 1) scope.names (cloFrom X.env.cells scope.names [])).lookup x = some c := by subst hce; exact e
    rw [hcl] at e
    exact loC x c (clX (PySem.mem_of_lookup e))
  have gen4 : ({ s3 with heap := pushCells (s3.heap.push { cls := .type "dict", data := .dict #[] }) scope.names } : Shared) = { s3 with heap := s3.heap.push { cls := .type "dict", data := .dict #[] } } := by rw [hpc]
  rw [gen4] at I4 ⊢
  rw [z3]
  generalize hs4 : ({ s3 with heap := s3.heap.push { cls := .type "dict", data := .dict #[] } } : Shared) = s4 at I4 ⊢
  have kp4 : ∀ b o, s1.heap.get? b = some o → s4.heap.get? b = some o := fun b o e => by
    rw [← hs4]
    refine Heap.get?_push_of_some _ ?_
    show s3.heap.get? b = some o
    rw [h3]
    exact Heap.get?_push_of_some _ e
  have gs4 : s4.gens = s1.gens := by rw [← hs4, ← hs3]
  have os4 : s4.os = s1.os := by rw [← hs4, ← hs3]
  generalize hH3 : upd H1 D (.lst []) = H3 at I3 I4 pg pe w0 f3
  have H3D : H3 D = some (.lst []) := by rw [← hH3]; exact upd_same
  have ex3 : Ex H1 H3 := by rw [← hH3]; exact Ex.new hDn
  -- the block's context
  let B : Cx := X.blk s3 H3 scope ce fp
  have pg : PG B tgt gt := pg
  have pe : PE B elt te := pe
  have I4 : L2.Inv B [] (wipe σ (own.map (·.2))) H3 s4 := I4
  have bL : B.env.locals = D + 1 := cL
  have locAt : ∀ {pins' : List (Addr × Obj)} {σ' : L2.St} {H' : Hp} {s' : Shared}, L2.Inv B pins' σ' H' s' → ∃ oC, s'.heap.get? (D + 1) = some oC ∧ H' (D + 1) = none := fun J => by
    obtain ⟨m, ⟨o, _, _, ho, _⟩, _⟩ := id J.loc
    have f := J.free
    rw [bL] at ho f
    exact ⟨o, ho, f⟩
  let gc : GCx := ⟨X.prog, X.w, X.K, X.mg, X.base, N, qual, gscope, f, cd, X.A.in1, X.stack, n0, [(a, go)]⟩
  have env0 : ∀ {pins' : List (Addr × Obj)} {σ' : L2.St} {H' : Hp} {s' : Shared} {oC : Obj}, L2.Inv B pins' σ' H' s' → s'.heap.get? (D + 1) = some oC → Env0 X.prog X.w X.K X.mg X.base X.A.in1 X.stack (s'.setGen gi .running) (lay H' (D + 1) oC) := fun {pins' σ' H' s' oC} J eC => by
    have e : Env0 X.prog X.w X.K X.mg X.base X.A X.stack s' H' := J.env0
    obtain ⟨_, _, hn⟩ := locAt J
    refine ⟨e.frames, e.mod, fun b o q => ?_, e.bsz, e.funs, fun b hb => ?_, hok_lay e.hok hn eC, allBare_setGen e.bare rfl⟩
    · obtain ⟨z1, z2⟩ := e.bs b o q
      have := loB b o q
      exact ⟨z1, by rw [lay_ne (neC b this)]; exact z2⟩
    · have := loF b hb
      rw [lay_ne (neC b this)]
      exact e.frf b hb
  let R : Rdy := fun i H' s' => ∃ H5 oC acc, H' = lay H5 (D + 1) oC ∧ s'.heap.get? (D + 1) = some oC ∧ H5 D = some (.lst acc) ∧ L2.Inv B [] (wipe σ (own.map (·.2))) H5 (nrm s') ∧ W i H5
  let F : Nat → Shared → Shared → Prop := fun n s0 s => ∃ ip σ H Hw, n = 1 ∧ R g.n Hw s0 ∧ n0 < s0.heap.objs.size ∧ L2.Inv (GCx.X gc s0 Hw) ip σ H s ∧ Ex Hw H
  let RE : GenEnd := fun n s0 r s => ((r = .ok (.ret .none) ∨ r = .ok .next) ∧ F n s0 s) ∨ ∃ e : Value, r = .error e ∧ False
  let LI : Nat → Shared → Prop := fun m s => ∃ i H acc, m + i = g.n ∧ L2.Inv B [] (wipe σ (own.map (·.2))) H s ∧ H D = some (.lst acc) ∧ W i H ∧ s.heap.IsGen a gi ∧ ∃ gs, s.gens[gi]? = some gs ∧
    gs.Goes (model X.prog X.w) X.A.in1 RE (YG gc g R) (m + 1) (.send .none) (s.setGen gi .running)
  have init : LI g.n s4 := by
    obtain ⟨oC, eC, hn⟩ := locAt I4
    refine ⟨0, H3, [], rfl, I4, H3D, w0, ⟨go, nm, qn, kp4 _ _ hgo, hcG, hdG, hsG⟩, .fresh code, by rw [gs4]; exact hgs, goes_imp (E := RG gc g R) (fun n s0 r s z => .inl ⟨.inl z.1, z.2⟩) (gs := .fresh code) ⟨rfl, ?_⟩⟩
    refine wake X.A.in1 R (s4.setGen gi .running) (lay H3 (D + 1) oC) hr.in1 I1.ok.frames (hwk _ (ex3.trans (ex_to_lay hn))) ⟨env0 I4 eC, os4, fun o q => kp4 _ _ q, ?_, fun p hp => ?_⟩ ⟨H3, oC, [], rfl, eC, H3D, I4.gens rfl rfl (fun y hy => by simp [nrm] at hy), w0⟩
    · rw [lay_ne (Nat.ne_of_lt (Nat.lt_succ_of_lt nD)), ← hH3, upd_ne (Nat.ne_of_lt nD)]
      exact fr1 n0 (Nat.le_refl _)
    · have hp : p ∈ [(a, go)] ++ [] := hp
      rw [List.append_nil] at hp
      rw [List.mem_singleton.mp hp]
      refine ⟨kp4 _ _ hgo, ?_⟩
      show lay H3 (D + 1) oC a = none
      rw [lay_ne (Nat.ne_of_lt (Nat.lt_succ_of_lt aD)), ← hH3, upd_ne (Nat.ne_of_lt aD)]
      exact hfa
  -- the block's frame behind a turn of the generator
  have turn2 : ∀ {ip : List (Addr × Obj)} {σ' σg : L2.St} {H5 Hg : Hp} {oC : Obj} {acc : List V} {s5 s6 : Shared}, L2.Inv B [] σ' H5 s5 → s5.heap.get? (D + 1) = some oC → H5 D = some (.lst acc) → L2.Inv (GCx.X gc (s5.setGen gi .running) (lay H5 (D + 1) oC)) ip σg Hg s6 → Ex (lay H5 (D + 1) oC) Hg → L2.Inv B [] σ' (era Hg (D + 1)) s6 := fun {ip σ' σg H5 Hg oC acc s5 s6} J eC hDl G ex => by
    obtain ⟨_, _, hnC⟩ := locAt J
    have hgC : Hg (D + 1) = some (.ext fun h => h.get? (D + 1) = some oC) := ex.get lay_same
    have atC : s6.heap.get? (D + 1) = some oC := (G.hok _ _ hgC).1
    have hgD : Hg D = some (.lst acc) := ex.get (show lay H5 (D + 1) oC D = _ by rw [lay_ne dN]; exact hDl)
    have ex2 := ex_lay hnC ex
    have sz5 : D + 1 < s5.heap.objs.size := Heap.lt_size eC
    have hch : ∀ b, b ∈ (List.range s5.heap.objs.size).filter (fun b => decide (n0 ≤ b ∧ b ≠ D + 1 ∧ b ≠ D)) ↔ b < s5.heap.objs.size ∧ n0 ≤ b ∧ b ≠ D + 1 ∧ b ≠ D := fun b => by simp
    have old : ∀ b o, s5.heap.get? b = some o → b ∉ (List.range s5.heap.objs.size).filter (fun b => decide (n0 ≤ b ∧ b ≠ D + 1 ∧ b ≠ D)) → b < n0 ∨ b = D + 1 ∨ b = D := fun b o q hx => by
      have hlt := Heap.lt_size q
      rw [hch] at hx
      by_cases c1 : b < n0
      · exact .inl c1
      by_cases c2 : b = D + 1
      · exact .inr (.inl c2)
      by_cases c3 : b = D
      · exact .inr (.inr c3)
      exact absurd ⟨hlt, Nat.le_of_not_lt c1, c2, c3⟩ hx
    have cut : ∀ b o, s5.heap.get? b = some o → b < n0 → (cutS n0 (s5.setGen gi .running)).heap.get? b = some o := fun b o q hx => (cut_lt hx).trans q
    have noex : ∀ b : Addr, b ∉ ([] : List Addr) := fun b z => by cases z
    have ll : ∀ b, b < n0 → lay H5 (D + 1) oC b = H5 b := fun b hb => lay_ne (neC b hb)
    have osq : s6.os = s5.os := G.os
    have hokG : HOk X.prog X.w Hg s6.heap := G.hok
    obtain ⟨h', g', d', t', o'⟩ := s6
    have osq : o' = s5.os := osq
    subst osq
    refine J.step (g' := g') (t' := t') (d' := d') (ch := (List.range s5.heap.objs.size).filter (fun b => decide (n0 ≤ b ∧ b ≠ D + 1 ∧ b ≠ D))) (fun b hb => ?_) (fun b o hL hF hx q hn => ?_) (fun b o hL hF hx q hn => ?_) (fun b o hx q hn => ?_) (fun b o hx q => ?_)
      (fun b xs q => ex2.get q) (fun b o u q => ex2.get q) (fun b ps q => ⟨#[], by rw [Array.append_empty]; exact ex2.get q⟩) (fun m hm => ?_) (hok_era hokG hgC) G.bare
    · obtain ⟨h1, h2, h3', h4⟩ := (hch b).mp hb
      refine ⟨?_, by rw [bL]; exact h3', fun x c e z => ?_, fun p hp => absurd (show p ∈ ([] : List (Addr × Obj)) ++ [] from hp) (by simp)⟩
      · by_cases hb2 : b < D
        · exact .inl ((mfp b).mpr ⟨hb2, h2⟩)
        · right
          show s3.heap.objs.size ≤ b
          rw [z3]
          exact Nat.lt_of_le_of_ne (Nat.le_of_not_lt hb2) (Ne.symm h4)
      · have q := cC x c e
        rw [z] at q
        exact absurd (Nat.lt_of_lt_of_le q h2) (Nat.lt_irrefl _)
    · rcases old b o q hx with z | z | z
      · exact G.base.keep b o (cut b o q z) ((ll b z).trans hn) hF (noex b)
      · exact absurd z (by rw [← bL]; exact hL)
      · rw [z, hDl] at hn
        cases hn
    · rcases old b o q hx with z | z | z
      · exact G.base.slot b o (cut b o q z) ((ll b z).trans hn) hF (noex b)
      · exact absurd z (by rw [← bL]; exact hL)
      · rw [z, hDl] at hn
        cases hn
    · rcases old b o q hx with z | z | z
      · exact era_none (G.base.free b o (cut b o q z) ((ll b z).trans hn) (noex b))
      · rw [z]
        exact era_same
      · rw [z, hDl] at hn
        cases hn
    · rcases old b o q hx with z | z | z
      · exact G.base.there b o (cut b o q z) (noex b)
      · rw [z]
        exact ⟨oC, atC⟩
      · obtain ⟨_, its, n, _, e⟩ := hokG D _ hgD
        rw [z]
        exact ⟨_, e⟩
    · rw [bL] at hm ⊢
      obtain ⟨o, es, ep, ho, r⟩ := hm
      rw [eC] at ho
      cases ho
      exact ⟨_, es, ep, atC, r⟩
  have loop : codeAny (model X.prog X.w) X.A (.compLoop (.ListComp elt [⟨tgt, iter, [], 0⟩] scope pos) 0 (.ref a) (.ref D) ce) (compPost (model X.prog X.w) X.A X.xe use Qf (.ref D) (D + 1)) s4 := by
    refine compLoop_any LI ?_ g.n init
    rintro m s5 ⟨i, H5, acc5, hmi, I5, hD5, w5, hg5, gs, hgs5, hgo5⟩
    have hgl : gi < s5.gens.size := (Array.getElem?_eq_some_iff.mp hgs5).1
    refine wpAny_gsz (n := gi + 1) hgl (next_genG (A := X.A) (F := F) (Er := fun _ _ => False) (n := m + 1) (I5.ok.hd hc) I5.nolimit hr.depth hg5 hgs5 hgo5 (fun v s6 gs6 hb6 hv => ?_) (fun s6 h6 h' hk => ?_) fun e s6 z => z.elim)
    · intro hsz
      obtain ⟨i', x, ip, σg, Hg, Hw, cnt, hlt, rv, ⟨H5', oC, acc, rfl, eC, hDl, I', w'⟩, hz, lowp, Ig, ex, yp, kp⟩ := hv
      have ei : i' = i := by omega
      subst ei
      obtain ⟨m, rfl⟩ : ∃ m', m = m' + 1 := ⟨m - 1, by omega⟩
      have I2 : L2.Inv B [] (wipe σ (own.map (·.2))) H5' s5 := I'.gens rfl rfl I5.bare
      obtain ⟨_, _, hnC⟩ := locAt I2
      have I6 : L2.Inv B [] (wipe σ (own.map (·.2))) (era Hg (D + 1)) s6 := turn2 I2 eC hDl Ig ex
      have I6' : L2.Inv B [] (wipe σ (own.map (·.2))) (era Hg (D + 1)) (s6.setGen gi gs6) := I6.gens rfl rfl (allBare_setGen Ig.bare hb6)
      have hgC : Hg (D + 1) = some (.ext fun h => h.get? (D + 1) = some oC) := ex.get lay_same
      have hsz6 : gi < s6.gens.size := by
        have q : (s6.setGen gi gs6).gens.size = s6.gens.size := setGen_size _ _ _
        have hsz' : gi + 1 ≤ (s6.setGen gi gs6).gens.size := hsz
        omega
      have gat6 : (s6.setGen gi gs6).gens[gi]? = some gs6 := setGen_at hsz6
      obtain ⟨mL, ⟨oL, es, ep, hoL, hdL, hrL⟩, _⟩ := id Ig.loc
      have hoL : s6.heap.get? n0 = some oL := hoL
      have hgo6 : s6.heap.get? a = some go := (Ig.pin (a, go) (List.mem_append_left _ (List.mem_singleton.mpr rfl))).1
      have nfs : ∀ b, n0 ≤ b → b ∉ frs X.stack := fun b hb' z => absurd (Nat.lt_of_lt_of_le (loF b z) hb') (Nat.lt_irrefl _)
      have Ip : L2.Inv B ((n0, oL) :: (a, go) :: ip) (wipe σ (own.map (·.2))) (era Hg (D + 1)) (s6.setGen gi gs6) := by
        refine I6'.pins_of fun p hp => ?_
        rcases List.mem_cons.mp hp with hp | hp
        · rw [hp]
          exact ⟨hoL, era_none Ig.free, by rw [bL]; show n0 ≠ D + 1; omega, nfs n0 (Nat.le_refl _), fun v q => by rw [hdL] at q; cases q⟩
        · have hp' : p ∈ [(a, go)] ++ ip := hp
          obtain ⟨h1, h2, _, _, h5⟩ := Ig.pin p hp'
          have h6 : n0 ≤ p.1 := by
            rcases List.mem_append.mp hp' with z | z
            · rw [List.mem_singleton.mp z]; exact Nat.le_of_lt ha
            · exact lowp p z
          exact ⟨h1, era_none h2, (fun z => by rw [show p.1 = D + 1 from z.trans bL, hgC] at h2; cases h2), nfs _ h6, h5⟩
      have Iu : L2.Inv B ((n0, oL) :: (a, go) :: ip) (wipe σ (own.map (·.2))) (era Hg (D + 1)) (psn (s6.setGen gi gs6)) := Ip.gens rfl rfl (bare_psn Ip.bare)
      have yp2 : g.Yp i' x (era Hg (D + 1)) := hera i' x Hg (D + 1) _ hgC yp
      refine go_of (s := s6.setGen gi gs6) (o := go) hgo6 hcG hdG (by decide) ?_
      refine wpAny_mono (wpAny_sim (sim_psn (s6.setGen gi gs6)) (pg.run _ _ _ _ x v _ Iu rv (step i' H5' hlt w' x _ (ex_lay hnC ex) yp2))) (fun _ s7 h7 => ?_) fun e s7 h7 => ?_
      · obtain ⟨u7, z7, σ7, H7, I7, hw7, q7⟩ := h7
        refine wpAny_tests_nil ?_
        rw [if_pos rfl]
        refine wpAny_mono (wpAny_sim z7 (pe.run _ u7 σ7 H7 _ I7 q7)) (fun y s8 h8 => ?_) fun e s8 h8 => ?_
        · obtain ⟨u8, z8, yv, H8, I8, r8, acc8, hD8, hz8, w8⟩ := h8
          refine wpAny_mono (wpAny_sim z8 (app_ok (X := B) (E := fun _ _ => False) (Q := fun _ s' => L2.Inv B ((n0, oL) :: (a, go) :: ip) σ7 (upd H8 D (.lst (acc8 ++ [yv]))) s') I8 hD8 hz8 r8 fun s' I' => I')) (fun _ s9 h9 => ?_) fun e s9 h9 => ?_
          · obtain ⟨u9, z9, I9⟩ := h9
            have J : L2.Inv B ((n0, oL) :: (a, go) :: ip) σ7 (upd H8 D (.lst (acc8 ++ [yv]))) s9 := I9.gens z9.heap.symm z9.os.symm (z9.bare Ip.bare I9.bare)
            generalize hH9 : upd H8 D (.lst (acc8 ++ [yv])) = H9 at J w8
            have D9 : H9 D = some (.lst (acc8 ++ [yv])) := by rw [← hH9]; exact upd_same
            have hl : (wipe σ (own.map (·.2))).length = σ7.length := by rw [← hw7, wipe_length]
            have J1 : L2.Inv B [] (wipe σ (own.map (·.2))) H9 s9 := (L2.Inv.unpinned (pins := []) (pl := (n0, oL) :: (a, go) :: ip) J).weak hl fun j v e => by
              rw [← hw7] at e
              exact (wipe_some e).1
            have pk : ∀ p, p ∈ ((n0, oL) :: (a, go) :: ip) → s9.heap.get? p.1 = some p.2 ∧ H9 p.1 = none ∧ p.1 ≠ D + 1 := fun p hp => by
              obtain ⟨q1, q2, q3, _⟩ := J.pin p (List.mem_append_right _ hp)
              rw [bL] at q3
              exact ⟨q1, q2, q3⟩
            obtain ⟨o9, e9, hn9⟩ := locAt J
            have wk : WakeOk gc ip s6 (lay H9 (D + 1) o9) (s9.setGen gi .running) := by
              refine ⟨env0 J e9, ?_, fun o q => ?_, ?_, fun p hp => ?_⟩
              · have e1 : s9.os = s3.os := J.os
                have e2 : s6.os = s3.os := I6.os
                exact e1.trans e2.symm
              · have q : s6.heap.get? n0 = some o := q
                rw [hoL] at q
                cases q
                exact (pk (n0, oL) List.mem_cons_self).1
              · obtain ⟨_, q2, q3⟩ := pk (n0, oL) List.mem_cons_self
                show lay H9 (D + 1) o9 n0 = none
                rw [lay_ne q3]
                exact q2
              · obtain ⟨q1, q2, q3⟩ := pk p (List.mem_cons_of_mem _ hp)
                exact ⟨q1, by rw [lay_ne q3]; exact q2⟩
            obtain ⟨k1, k2⟩ := kp (s9.setGen gi .running) (lay H9 (D + 1) o9) wk (hrel _ _) ⟨H9, o9, _, rfl, e9, D9, J1.gens rfl rfl (fun y hy => by simp [nrm] at hy), w8⟩
            have hsus : isSusp gs6 = true := by
              cases gs6 with
              | suspended => rfl
              | fresh q => exact absurd k2.1 (by simp)
              | running => exact k2.elim
              | finished => exact k2.elim
            exact ⟨m, Nat.lt_succ_self m, i' + 1, H9, _, by omega, J1, D9, w8, ⟨go, nm, qn, (pk (a, go) (List.mem_cons_of_mem _ List.mem_cons_self)).1, hcG, hdG, hsG⟩, gs6, z9.still gat6 hsus, k1⟩
          · obtain ⟨_, _, z⟩ := h9
            exact z.elim
        · obtain ⟨_, _, z⟩ := h8
          exact z.elim
      · obtain ⟨_, _, z⟩ := h7
        exact z.elim
    · intro hsz
      obtain ⟨ip, σg, Hg, Hw, hm, ⟨H5', oC, acc, rfl, eC, hDl, I', w'⟩, hz, Ig, ex⟩ := h6
      have I2 : L2.Inv B [] (wipe σ (own.map (·.2))) H5' s5 := I'.gens rfl rfl I5.bare
      obtain ⟨_, _, hnC⟩ := locAt I2
      have I6 : L2.Inv B [] (wipe σ (own.map (·.2))) (era Hg (D + 1)) s6 := turn2 I2 eC hDl Ig ex
      have I7 : L2.Inv B [] (wipe σ (own.map (·.2))) (era Hg (D + 1)) { s6.setGen gi .finished with heap := h' } := (I6.kept (t' := s6.toks) hk).gens rfl rfl (allBare_setGen (s := s6) Ig.bare rfl)
      have I8 : L2.Inv X pins σ (era Hg (D + 1)) { s6.setGen gi .finished with heap := h' } := I3.call' (ch := fp) I7.os I7.base I7.hok I7.bare fun b hb => ⟨(f3 b hb).1.2.2.2.1, (f3 b hb).1.2.1, (f3 b hb).1.2.2.2.2.1, (f3 b hb).1.2.2.2.2.2⟩
      obtain ⟨mm, hn, _⟩ := I7.loc
      rw [bL] at hn
      exact hRR D (D + 1) _ mm _ I8 (done H5' w' _ (ex_lay hnC ex)) hn (I3.fpOk (by rw [z3]; exact Nat.le_refl _) era_same)
  exact codeAny_compStart_list loop (wpAny_pyIter_gen ⟨go, nm, qn, kp4 _ _ hgo, hcG, hdG, hsG⟩ loop)
section
variable {X : Cx}
/-- as a value -/
theorem pe_lcG {k : Nat} {elt tgt iter : Expr} {scope : Scope} {own : List (Str × Nat)} {pos : Pos} {tg : TZa} {gt : TG} {te : TE} (hc : X.calm = true) (hN : X.N.Nodup) (hr : Room (k + 1) X.A) (hi : PGa X k iter tg) (ok : BlkOk X.N X.env.scope scope own)
    (hg : ∀ (s : Shared) (H : Hp) (C : Addr) (cl : List (Str × Addr)) (fp : List Addr), PG (X.blk s H scope (compEnvC scope cl C X.env) fp) tgt gt)
    (he : ∀ (s : Shared) (H : Hp) (C : Addr) (cl : List (Str × Addr)) (fp : List Addr), PE (X.blk s H scope (compEnvC scope cl C X.env) fp) elt te) (hcl : ∀ n acc, cellsFrom n scope.names acc = acc := by intro _ _; rfl) (hpc : ∀ h : Heap, pushCells h scope.names = h := by intro _; rfl) (hs : ∀ x, foldedSetIterable iter X.env x = pure x := by intro _; rfl) :
    PE X (.ListComp elt [⟨tgt, iter, [], 0⟩] scope pos) (tLcG tg gt te (own.map (·.2))) := by
  refine ⟨fun pins s σ H Q I h => ?_⟩
  rw [eval_ListComp]
  refine lcG_core hc hN hr I hi ok hcl hpc hg he hs h fun D C s' m H' I' q hn f => ⟨m, hn, fun h'' sb => ?_⟩
  obtain ⟨f0, f1, f2, f3, f4, f5⟩ := f
  exact ⟨.ref D, H', I'.turned (t' := s'.toks) (fun b o hb e => (sb.2 b hb).trans e) f0 f1 f3 f4 f5, rfl, q⟩
/-- name = [..] on one line, the name a local -/
theorem ps_setLcG {k i : Nat} {y : Str} {py : Pos} {elt tgt iter : Expr} {scope : Scope} {own : List (Str × Nat)} {pos spos : Pos} {tg : TZa} {gt : TG} {te : TE} (hc : X.calm = true) (hN : X.N.Nodup) (hr : Room (k + 1) X.A) (hy : X.N[i]? = some y) (hyl : X.env.scope.names.lookup y = some .local)
    (hsw : swapsWith (.ListComp elt [⟨tgt, iter, [], 0⟩] scope pos) (some (.Name y py)) spos.line X.env = pure true) (hi : PGa X k iter tg) (ok : BlkOk X.N X.env.scope scope own)
    (hg : ∀ (s : Shared) (H : Hp) (C : Addr) (cl : List (Str × Addr)) (fp : List Addr), PG (X.blk s H scope (compEnvC scope cl C X.env) fp) tgt gt)
    (he : ∀ (s : Shared) (H : Hp) (C : Addr) (cl : List (Str × Addr)) (fp : List Addr), PE (X.blk s H scope (compEnvC scope cl C X.env) fp) elt te) (hcl : ∀ n acc, cellsFrom n scope.names acc = acc := by intro _ _; rfl) (hpc : ∀ h : Heap, pushCells h scope.names = h := by intro _; rfl) (hs : ∀ x, foldedSetIterable iter X.env x = pure x := by intro _; rfl) :
    PS X (.Assign [.Name y py] (.ListComp elt [⟨tgt, iter, [], 0⟩] scope pos) spos) (tAsg (tLcG tg gt te (own.map (·.2))) (gName i)) := by
  refine ⟨fun pins s σ H D I h => ?_⟩
  rw [exec_Assign_Name_used _ _ _ _ hsw]
  refine wpAny_bind (wpAny_standAt (wpAny_bind ?_))
  show wpAny _ X.A (do let _ ← comprehension (.ListComp elt [⟨tgt, iter, [], 0⟩] scope pos) scope X.env (firstIterPos [⟨tgt, iter, [], 0⟩] pos) (newList []) false (eval iter X.env) (some (assign (.Name y py) X.env))) _ _ s
  have h : tLcG tg gt te (own.map (·.2)) σ H (fun x H1 => gName i x σ H1 D.nx) := h
  refine wpAny_bind (thn (lcG_core (Qf := fun _ s' => SP X pins D .next s') hc hN hr I hi ok hcl hpc hg he hs h fun L C s' m H' I' q hn f => ?_) fun _ s' hq => wpAny_pure (wpAny_pure hq))
  show wpAny _ _ (assign (.Name y py) X.env (.ref L)) _ _ _
  refine wpAny_assign_Name (store_ok2 (v := V.ref L) I' hN hy (.inl hyl) rfl (fun s2 I2 ⟨a, sb, ha⟩ => ?_) (.inr hyl))
  obtain ⟨f0, f1, f2, f3, f4, f5⟩ := f
  have haC : C ≠ a := by
    rcases ha with z | z
    · rw [z]; exact f1
    · exact fun e => f4 y a z e.symm
  refine ⟨m, hn.sameBut sb haC, fun h3 sb3 => ?_⟩
  exact ⟨_, H', I2.turned (t' := s2.toks) (fun b o hb e => (sb3.2 b hb).trans e) f0 f1 f3 f4 f5, q⟩
end
/-! ### the reading's use -/
def FLG (g : GPar) (A0 : Hp → Prop) (gt : TG) (te : TE) (vs : List Nat) (σ : L2.St) (Q : VK) (H1 : Hp) : Prop := (∀ A B, g.rel A B) ∧ (∀ B, Ex H1 B → A0 B) ∧ (∀ i x A C φ, A C = some (.ext φ) → g.Yp i x A → g.Yp i x (era A C)) ∧ ∀ D, H1 D = none → ∃ W : Nat → Hp → Prop, W 0 (upd H1 D (.lst [])) ∧
  (∀ i A, i < g.n → W i A → ∀ x B, Ex A B → g.Yp i x B → gt x (wipe σ vs) B fun σ2 H2 => wipe σ2 vs = wipe σ vs ∧ te σ2 H2 fun y H4 => ∃ acc, H4 D = some (.lst acc) ∧ acc.length < sizeLine ∧ W (i + 1) (upd H4 D (.lst (acc ++ [y])))) ∧
  ∀ A, W g.n A → ∀ B, Ex A B → Q (.ref D) B
theorem w_lcG {tg : TZa} {gt : TG} {te : TE} {vs : List Nat} {σ : L2.St} {H : Hp} {Q : VK} (h : tg σ H fun g A0 H1 => FLG g A0 gt te vs σ Q H1) : tLcG tg gt te vs σ H Q := h
/-- by what holds behind each item -/
theorem cgXG {g : GPar} {A0 : Hp → Prop} {gt : TG} {te : TE} {vs : List Nat} {σ : L2.St} {Q : VK} {H : Hp} (Pv : Nat → List V → Hp → Prop) (hrel : ∀ A B, g.rel A B) (hA : ∀ B, Ex H B → A0 B) (hy : ∀ i x A C φ, A C = some (.ext φ) → g.Yp i x A → g.Yp i x (era A C)) (h0 : ∀ H', Ex H H' → Pv 0 [] H') (st : ∀ i acc H1 H2, Pv i acc H1 → Ex H1 H2 → Pv i acc H2)
    (hs : ∀ Dl i x H' acc, i < g.n → Ex H H' → CD H Dl acc H' → acc.length = i → Pv i acc H' → g.Yp i x H' → gt x (wipe σ vs) H' fun σ2 H2 => wipe σ2 vs = wipe σ vs ∧ te σ2 H2 (ElX H Dl i Pv))
    (q : ∀ p H2 acc, Fr H p → Ex H H2 → At H2 p (.lst acc) → acc.length = g.n → Pv g.n acc H2 → Q (.ref p) H2) : FLG g A0 gt te vs σ Q H := by
  refine ⟨hrel, hA, hy, fun Dl hD => ⟨fun i A => ∃ acc, CD H Dl acc A ∧ acc.length = i ∧ Pv i acc A, ⟨[], ⟨hD, Ex.new hD, upd_same⟩, rfl, h0 _ (Ex.new hD)⟩, ?_, ?_⟩⟩
  · rintro i A hi ⟨acc, c, hl, hP⟩ x B e y
    exact hs Dl i x B acc hi (c.ex.trans e) (c.up e) hl (st _ _ _ _ hP e) y
  · rintro A ⟨acc, c, hl, hP⟩ B e
    exact q Dl B acc hD (c.ex.trans e) (e.get c.at_) hl (st _ _ _ _ hP e)
end Z
namespace Z
open PySem HandSHeadRun
/-! ### the head in parts: each runs the top anew, none looks at all -/
theorem opt_two {α β γ : Type} {R : Option α} {f : α → β} {g : α → γ} {b : β} {c : γ} (h1 : R.map f = some b) (h2 : R.map g = some c) : R.map (fun x => (f x, g x)) = some (b, c) := by
  cases R with
  | none => cases h1
  | some x =>
    cases h1
    cases h2
    rfl
abbrev KX (n : Nat) (s : PySem.W.SharedT) : PySem.W.Frag := He.frG (getT s) (PySem.cStatics :: He.asD (getT s) n)
theorem run_join {r : PySem.W.OpenRow} {q : Program} {n M : Nat} {fa fa1 fa2 : List (PySem.W.Frag → Bool)} {fn fs : List He.DefD} {loose : List Str} {w : World} (e : fa = fa1 ++ fa2)
    (h1 : (wholeF (fun p => stepQ (denQ tabQ) p w) fenceQ M r.prog).map (fun x => (looksF r.prog x.1.heap x.2.abs, seenQ q loose (importedModules r.prog.main.body) (fun s => PySem.W.xlAt q [] s && PySem.W.recOk r.toRowW.records s) x.2.abs)) = some (true, PySem.W.openGood q loose))
    (h2 : (wholeF (fun p => stepQ (denQ tabQ) p w) fenceQ M r.prog).map (fun x => fa1.all fun f => f (KX n x.2)) = some true)
    (h3 : (wholeF (fun p => stepQ (denQ tabQ) p w) fenceQ M r.prog).map (fun x => fa2.all fun f => f (KX n x.2)) = some true)
    (h4 : (wholeF (fun p => stepQ (denQ tabQ) p w) fenceQ M r.prog).map (fun x => (fn.all fun d => d.ok (KX n x.2), fn.map (fun d => He.fnW (KX n x.2) d.at_), fs.map fun d => fnWs (KX n x.2) d.at_)) = some (true, fn.map He.DefD.val, fs.map He.DefD.val)) :
    RunEqI r q (hookY n fa fn fs) (fun s => obsY n fa fn fs (getT s)) M loose w := by
  subst e
  unfold RunEqI
  generalize wholeF (fun p => stepQ (denQ tabQ) p w) fenceQ M r.prog = R at *
  cases R with
  | none => cases h1
  | some x =>
    have a1 := Option.some.inj h1
    have a2 : (fa1.all fun f => f (KX n x.2)) = true := Option.some.inj h2
    have a3 : (fa2.all fun f => f (KX n x.2)) = true := Option.some.inj h3
    have a4 := Option.some.inj h4
    obtain ⟨b1, b2⟩ := Prod.mk.inj a1
    obtain ⟨b3, b4⟩ := Prod.mk.inj a4
    obtain ⟨b4, b5⟩ := Prod.mk.inj b4
    refine congrArg some (Prod.ext b1 (Prod.ext b2 (Prod.ext ?_ ?_)))
    · show (((fa1 ++ fa2).all fun f => f (KX n x.2)) && fn.all fun d => d.ok (KX n x.2)) = true
      rw [List.all_append, a2, a3, b3]
      rfl
    · show (fn.map (fun d => He.fnW (KX n x.2) d.at_) ++ fs.map fun d => fnWs (KX n x.2) d.at_) = fn.map He.DefD.val ++ fs.map He.DefD.val
      rw [b4, b5]
end Z
namespace Z
open PySem HandSHeadRun
/-! ### the head by a list of addresses -/
abbrev KL (L : List Nat) (s : PySem.W.SharedT) : PySem.W.Frag := He.frG (getT s) L
def obsL (L : List Nat) (ex : List (PySem.W.Frag → Bool)) (fn fs : List He.DefD) (g : Addr → Option Obj) : He.AlD := ((ex.all fun f => f (He.frG g L)) && fn.all fun d => d.ok (He.frG g L), (fn.map fun d => He.fnW (He.frG g L) d.at_) ++ fs.map fun d => fnWs (He.frG g L) d.at_)
def hookL (L : List Nat) (ex : List (PySem.W.Frag → Bool)) (fn fs : List He.DefD) : PySem.W.Hook where
  α := He.AlD
  obs := fun s => obsL L ex fn fs s.heap.get?
  val := fun _ => (true, fn.map He.DefD.val ++ fs.map He.DefD.val)
  says := fun _ h => ∃ K : PySem.W.Frag, K.In h ∧ SaysY ex fn fs K
  of := fun _ s e => by
    have e1 := congrArg (fun z : He.AlD => z.1) e
    have e2 := congrArg (fun z : He.AlD => z.2) e
    obtain ⟨h1, h2⟩ := He.ba e1
    obtain ⟨e3, e4⟩ := List.append_inj e2 (by rw [List.length_map, List.length_map])
    refine ⟨He.frG s.heap.get? L, He.frG_in, fun f hf => List.all_eq_true.mp h1 f hf, ?_, e4⟩
    show ((([] : List He.Fa).all fun f => f.ok _) && fn.all fun d => d.ok _, fn.map fun d => He.fnW _ d.at_) = (true, fn.map He.DefD.val)
    rw [h2]
    exact congrArg (fun z => (true, z)) e3
  keeps := fun _ _ _ ⟨K, hK, c⟩ k => ⟨K, PySem.W.Frag.In.keeps hK k, c⟩
theorem obsL_eq {L : List Nat} {ex : List (PySem.W.Frag → Bool)} {fn fs : List He.DefD} {g : Addr → Option Obj} {s : Shared} (h : ∀ a, g a = s.heap.get? a) : obsL L ex fn fs g = (hookL L ex fn fs).obs s := by
  have e : g = s.heap.get? := funext h
  rw [e]
  rfl
theorem run_joinL {r : PySem.W.OpenRow} {q : Program} {M : Nat} {L : List Nat} {fa fa1 fa2 : List (PySem.W.Frag → Bool)} {fn fs : List He.DefD} {loose : List Str} {w : World} (e : fa = fa1 ++ fa2)
    (h1 : (wholeF (fun p => stepQ (denQ tabQ) p w) fenceQ M r.prog).map (fun x => (looksF r.prog x.1.heap x.2.abs, seenQ q loose (importedModules r.prog.main.body) (fun s => PySem.W.xlAt q [] s && PySem.W.recOk r.toRowW.records s) x.2.abs)) = some (true, PySem.W.openGood q loose))
    (h2 : (wholeF (fun p => stepQ (denQ tabQ) p w) fenceQ M r.prog).map (fun x => fa1.all fun f => f (KL L x.2)) = some true)
    (h3 : (wholeF (fun p => stepQ (denQ tabQ) p w) fenceQ M r.prog).map (fun x => fa2.all fun f => f (KL L x.2)) = some true)
    (h4 : (wholeF (fun p => stepQ (denQ tabQ) p w) fenceQ M r.prog).map (fun x => (fn.all fun d => d.ok (KL L x.2), fn.map (fun d => He.fnW (KL L x.2) d.at_), fs.map fun d => fnWs (KL L x.2) d.at_)) = some (true, fn.map He.DefD.val, fs.map He.DefD.val)) :
    RunEqI r q (hookL L fa fn fs) (fun s => obsL L fa fn fs (getT s)) M loose w := by
  subst e
  unfold RunEqI
  generalize wholeF (fun p => stepQ (denQ tabQ) p w) fenceQ M r.prog = R at *
  cases R with
  | none => cases h1
  | some x =>
    have a1 := Option.some.inj h1
    have a2 : (fa1.all fun f => f (KL L x.2)) = true := Option.some.inj h2
    have a3 : (fa2.all fun f => f (KL L x.2)) = true := Option.some.inj h3
    have a4 := Option.some.inj h4
    obtain ⟨b1, b2⟩ := Prod.mk.inj a1
    obtain ⟨b3, b4⟩ := Prod.mk.inj a4
    obtain ⟨b4, b5⟩ := Prod.mk.inj b4
    refine congrArg some (Prod.ext b1 (Prod.ext b2 (Prod.ext ?_ ?_)))
    · show (((fa1 ++ fa2).all fun f => f (KL L x.2)) && fn.all fun d => d.ok (KL L x.2)) = true
      rw [List.all_append, a2, a3, b3]
      rfl
    · show (fn.map (fun d => He.fnW (KL L x.2) d.at_) ++ fs.map fun d => fnWs (KL L x.2) d.at_) = fn.map He.DefD.val ++ fs.map He.DefD.val
      rw [b4, b5]
end Z
namespace Z
open PySem L2 PySem.Spec PyProof.Rows
/-! ### classmethods: the head's facts -/
/-- one def that is a classmethod's -/
def clmB (d : He.DefD) (C m : Str) (K : PySem.W.Frag) : Bool := (match K.lookup (He.fAd K (C, some m)) with
  | some ⟨_, _, .func _, _⟩ => false
  | _ => true) && He5.DefA.ok K ⟨fun K => wfA K C m, d.name, d.qual, d.params, d.body, d.scope, [], []⟩
theorem clmB_ok {K : PySem.W.Frag} {d : He.DefD} {C m : Str} (e : fnWs K (C, some m) = d.val) (c : clmB d C m K = true) : ∃ fd, FunD K d.name d.qual d.params d.body d.scope [] [] (wfA K C m) fd := by
  obtain ⟨c1, c2⟩ := He.ba c
  have e2 : He5.fnA K (wfA K C m) = d.val := by
    rw [← e]
    unfold fnWs
    split
    · rename_i h
      rw [h] at c1
      cases c1
    · rfl
  exact He5.DefA.funD (d := ⟨fun K => wfA K C m, d.name, d.qual, d.params, d.body, d.scope, [], []⟩) e2 c2
/-- C.m is a classmethod -/
def cmB (C m : Str) (K : PySem.W.Frag) : Bool := He5.wrapB K (He.ga K C) "classmethod" "classmethod.__get__" m && PySem.W.fnIn K (wfA K C m)
theorem cmB_ok {K : PySem.W.Frag} {C m : Str} (c : cmB C m K = true) : ClX.CMet K (He.ga K C) (.type "type") m (He.ma K (He.ga K C) m) (wfA K C m) := He5.cmet_of (He.ba c).1 (He.ba c).2
def crB (C : Str) (K : PySem.W.Frag) : Bool := PySem.W.readsIn K (He.ga K C) (.type "type")
theorem crB_ok {K : PySem.W.Frag} {C : Str} (c : crB C K = true) : ClX.CRead K (He.ga K C) (.type "type") := by
  refine ⟨c, ?_⟩
  have g := c
  unfold crB PySem.W.readsIn at g
  have g3 := (He.ba (He.ba (He.ba g).1).1)
  have g4 := (He.ba g3.1).2
  have g5 := g3.2
  unfold PySem.W.specialIn
  rw [beq_iff_eq.mp g4]
  exact beq_iff_eq.mp g5
/-- C.f is the int n -/
def cvB (C f : Str) (n : Int) (K : PySem.W.Frag) : Bool := match PySem.W.findCls K (.ref (He.ga K C)) (.type "type") f with
  | some (.val (.int k _)) => decide (k = n)
  | _ => false
theorem cvB_ok {K : PySem.W.Frag} {C f : Str} {n : Int} (c : cvB C f n K = true) : ∃ u, ClX.CVal K (He.ga K C) (.type "type") f (.int n) u := by
  unfold cvB at c
  split at c
  · rename_i k tk h
    have := of_decide_eq_true c
    subst this
    exact ⟨_, h, ⟨tk, rfl⟩⟩
  · cases c
theorem passOf {CX : CXT} {X : Cx} {E : XK} (h : Passes CX X E) (σ : L2.St) : PassesAt CX X σ E := fun pins H s e s' I c => h pins σ H s e s' I c
/-! ### C.m(..) -/
section
variable {X : Cx} {CX : CXT} {k : Nat} {C f g p : Addr} {mc : Value} {fd : FuncData} {ps : List Str} {sp : Sp} {dvs : List V} {ds : List Value} {E : L2.St → XK} {x m : Str} {np pos apos : Pos} {o e : Expr} {es : List Expr} {tf ta : TE} {t : TA}
def dCM (C : Addr) (sp : Sp) (E : XK) (t : TA) (σ : L2.St) (Q : VK) : VK := fun y H1 => y = .ref C ∧ t σ H1 fun vs H2 => sp (.ref C :: vs) H2 Q E
def tCM (C : Addr) (sp : Sp) (E : L2.St → XK) (ta : TE) (t : TA) : TE := fun σ H Q => ta σ H (dCM C sp (E σ) t σ Q)
theorem pe_cm {pl : Sem Bool} (he : PE X o ta) (r : ClX.CRead X.K C mc) (c : ClX.CMet X.K C mc m p g) (F : FnR X.prog X.w X.K X.mg X.base CX k g sp) (hr : Room k X.A) (hx : ∀ σ, PassesAt CX X σ (E σ)) (ha : PA X (e :: es) t)
    (hst : starEach (e :: es) X.env = (false, eval e X.env) :: starEach es X.env := by rfl) (hpl : (backTo pos (starEach es X.env)).any (·.1) = false := by rfl)
    (ht : eval (.Call (.Attribute o m apos) (e :: es) [] pos) X.env = (do let ov ← eval o X.env; standAt apos.atName; let (f, first) ← holding [ov] (getMethod ov m pl); callWith pos f first (backTo pos (starEach (e :: es) X.env)) (backToKw pos (keywordEach [] X.env))) := by rfl) :
    PE X (.Call (.Attribute o m apos) (e :: es) [] pos) (tCM C sp E ta t) := by
  refine ⟨fun pins s σ G Q I h => PySem.W.methodCall_KW (pl := pl) (thn (he.run pins s σ G _ I h) fun u s1 ⟨z, H1, I1, rx, ex, q⟩ => ?_) ht⟩
  subst ex
  obtain rfl : u = Value.ref C := rx
  refine ClX.getmethcm_ok I1 r c fun s2 I2 => ClX.callwith_cm I2 (ClX.base_none I1 (Nat.le_refl _)) c.fi (thn (ha.run pos _ s2 σ H1 _ I2 q) fun us s3 ⟨vs, H2, I3, rv, q2⟩ => ⟨⟨ClX.pin_at I3, I3.kIn⟩, ?_⟩) hst hpl
  have y : wpAny (model X.prog X.w) X.A (call (.ref s1.heap.objs.size) us) (EP X ((s1.heap.objs.size, PySem.W.methodObj (.ref g) (.ref C)) :: pins) σ Q) X.xe s3 :=
    wpAny_call (PySem.W.method_call (ClX.pin_at I3) (runR (us := .ref C :: us) (vs := .ref C :: vs) F hr (hx σ) I3 (.cons rfl rv) q2))
  exact thn y fun _ _ z => ClX.unpinE z
/-! ### cls(..), the class in a slot -/
def dMkV (C : Addr) (sp : Sp) (dvs : List V) (E : XK) (t : TA) (σ : L2.St) (Q : VK) : VK := fun y H1 => y = .ref C ∧ t σ H1 (dMk C sp dvs E Q)
def tMkV (C : Addr) (sp : Sp) (dvs : List V) (E : L2.St → XK) (tf : TE) (t : TA) : TE := fun σ H Q => tf σ H (dMkV C sp dvs (E σ) t σ Q)
theorem pe_mkV (M : Mk X.K C f) (F : FnOk X.prog X.w X.K X.mg X.base CX k f fd ps sp) (hr : Room (k + 1) X.A) (hb : Binds X.K fd ps ds) (hd : Vals dvs ds) (hx : ∀ σ, PassesAt CX X σ (E σ)) (hf : PE X (.Name x np) tf) (ha : PA X (e :: es) t)
    (hst : starEach (e :: es) X.env = (false, eval e X.env) :: starEach es X.env := by rfl) (hpl : (backTo pos (starEach es X.env)).any (·.1) = false := by rfl) : PE X (.Call (.Name x np) (e :: es) [] pos) (tMkV C sp dvs E tf t) := by
  refine ⟨fun pins s σ G Q I h => wpAny_Call_Name_kw (thn (hf.run pins s σ G _ I h) fun u s1 ⟨c, H1, I1, rc, ec, q1⟩ => ?_)⟩
  subst ec
  obtain rfl : u = Value.ref C := rc
  exact PySem.W.callWith_K (h₀ := X.base) I.ok.mod.kin M.kp (thn (ha.run pos pins s1 σ H1 _ I1 q1) fun us s2 ⟨vs, H2, I2, r, q⟩ => ⟨I2.kIn, run_makeZ M F hr hb hd (hx σ) I2 r q⟩) hst hpl
/-! ### cls.f -/
def dCV (K : PySem.W.Frag) (f : Str) (Q : VK) : VK := fun y H1 => ∃ C mc v u, y = .ref C ∧ ClX.CRead K C mc ∧ ClX.CVal K C mc f v u ∧ Q v H1
def tCV (K : PySem.W.Frag) (ta : TE) (f : Str) : TE := fun σ H Q => ta σ H (dCV K f Q)
theorem pe_cv {K : PySem.W.Frag} (hK : X.K = K) {f : Str} {pos : Pos} (he : PE X e ta) (hb : attributeBase e f X.env (eval e X.env) = eval e X.env := by rfl) : PE X (.Attribute e f pos) (tCV K ta f) := hK ▸ ClX.pe_cval he hb
end
section
variable {K : PySem.W.Frag} {σ : L2.St} {H : Hp} {Q : VK} {C : Addr} {mc : Value} {sp : Sp} {dvs : List V} {ta tf : TE} {t : TA} {f : Str} {v : V}
theorem w_tCM {E : L2.St → XK} (h : ta σ H (dCM C sp (E σ) t σ Q)) : tCM C sp E ta t σ H Q := h
theorem w_dCM {E : XK} (h : t σ H fun vs H2 => sp (.ref C :: vs) H2 Q E) : dCM C sp E t σ Q (.ref C) H := ⟨rfl, h⟩
theorem w_tMkV {E : L2.St → XK} (h : tf σ H (dMkV C sp dvs (E σ) t σ Q)) : tMkV C sp dvs E tf t σ H Q := h
theorem w_dMkV {E : XK} (h : t σ H (dMk C sp dvs E Q)) : dMkV C sp dvs E t σ Q (.ref C) H := ⟨rfl, h⟩
theorem w_tCV (h : ta σ H (dCV K f Q)) : tCV K ta f σ H Q := h
theorem w_dCV (r : ClX.CRead K C mc) (c : ∃ u, ClX.CVal K C mc f v u) (q : Q v H) : dCV K f Q (.ref C) H := by
  obtain ⟨u, c⟩ := c
  exact ⟨C, mc, v, u, rfl, r, c, q⟩
end
/-! ### math.lcm of two ints -/
def rLcm : List V → Hp → VK → Prop := fun vs H Q => ∃ a b : Int, vs = [.int a, .int b] ∧ a.natAbs < 2 ^ 13400 ∧ b.natAbs < 2 ^ 13400 ∧ Q (.int ((Nat.lcm a.natAbs b.natAbs : Nat) : Int)) H
theorem log_le {n k : Nat} (h : n < 2 ^ (k + 1)) : n.log2 ≤ k := PySem.W.mg_log h
theorem cr_lcm {X : Cx} : CallR X (.builtin "math.lcm") rLcm := by
  intro pins s σ H vs us Q I r h
  obtain ⟨a, b, rfl, ha, hb, q⟩ := h
  obtain ⟨t, u, rfl⟩ := Vals.int2 r
  have p1 : (1 : Nat) < 2 ^ 13400 := Nat.one_lt_two_pow (by decide)
  have h1 : (max 1 a.natAbs).log2 ≤ 13399 := log_le (by rw [Nat.max_lt]; exact ⟨p1, ha⟩)
  have h2 : (max a.natAbs b.natAbs).log2 ≤ 13399 := log_le (by rw [Nat.max_lt]; exact ⟨ha, hb⟩)
  have e1 : (Nat.lcm 1 a.natAbs).lcm b.natAbs = a.natAbs.lcm b.natAbs := by rw [Nat.lcm_one_left]
  have hl : a.natAbs.lcm b.natAbs < 2 ^ (13400 + 13400) := by
    refine Nat.lt_of_le_of_lt (PySem.W.mc_lcm_le _ _) ?_
    rw [Nat.pow_add]
    exact Nat.mul_lt_mul'' ha hb
  have h3 : (a.natAbs.lcm b.natAbs).log2 ≤ 26799 := log_le hl
  refine PySem.call_function_meets PySem.W.MGF.kind_lcm PySem.W.MGF.plain_lcm PySem.W.MGF.entry_lcm (PySem.W.MGF.args_lcm _ _) (PySem.W.mg_run_lcm a t b u (by omega) (by omega) ?_).meets ?_
  · rw [e1, Int.natAbs_natCast]
    exact Nat.lt_of_le_of_lt h3 (by decide)
  · rw [e1]
    exact ⟨.int _, H, I.tok _, ⟨_, rfl⟩, q⟩
theorem w_lcm {H : Hp} {Q : VK} {i j : Int} (hi : i.natAbs < 2 ^ 13400) (hj : j.natAbs < 2 ^ 13400) (q : Q (.int ((Nat.lcm i.natAbs j.natAbs : Nat) : Int)) H) : rLcm [.int i, .int j] H Q := ⟨i, j, rfl, hi, hj, q⟩
end Z
namespace R
open PySem L2 Z
def top (i : Nat) : Stmt := PySem.Challenge.pw_dearestshelf_k48_alternating_sums.main.body.getD i (.Pass ⟨0, 0, 0, 0⟩)
abbrev s_Ratio___add__ : Stmt := inClass (top 18) 1
theorem sc_Ratio___add__ : FnScope ["self", "other"] ["self", "other"] (defScope s_Ratio___add__) := ⟨rfl, rfl, rfl, by decide +kernel, rfl, by decide +kernel, by decide +kernel⟩
abbrev s_Ratio___init__ : Stmt := inClass (top 18) 0
theorem sc_Ratio___init__ : FnScope ["self", "top", "bottom", "shared"] ["self", "top", "bottom"] (defScope s_Ratio___init__) := ⟨rfl, rfl, rfl, by decide +kernel, rfl, by decide +kernel, by decide +kernel⟩
abbrev s_Ratio___neg__ : Stmt := inClass (top 18) 9
theorem sc_Ratio___neg__ : FnScope ["self"] ["self"] (defScope s_Ratio___neg__) := ⟨rfl, rfl, rfl, by decide +kernel, rfl, by decide +kernel, by decide +kernel⟩
abbrev s_Ratio___sub__ : Stmt := inClass (top 18) 3
theorem sc_Ratio___sub__ : FnScope ["self", "other"] ["self", "other"] (defScope s_Ratio___sub__) := ⟨rfl, rfl, rfl, by decide +kernel, rfl, by decide +kernel, by decide +kernel⟩
abbrev s_Rule___init__ : Stmt := inClass (top 20) 2
theorem sc_Rule___init__ : FnScope ["self", "many"] ["self", "many"] (defScope s_Rule___init__) := ⟨rfl, rfl, rfl, by decide +kernel, rfl, by decide +kernel, by decide +kernel⟩
abbrev s_Rule_away : Stmt := inClass (top 20) 4
theorem sc_Rule_away : FnScope ["self", "lot", "left", "share"] ["self", "lot"] (defScope s_Rule_away) := ⟨rfl, rfl, rfl, by decide +kernel, rfl, by decide +kernel, by decide +kernel⟩
abbrev s_Rule_shares : Stmt := inClass (top 20) 3
theorem sc_Rule_shares : FnScope ["self", "lot", "_"] ["self", "lot"] (defScope s_Rule_shares) := ⟨rfl, rfl, rfl, by decide +kernel, rfl, by decide +kernel, by decide +kernel⟩
abbrev s__law_alternating : Stmt := top 40
theorem sc__law_alternating : FnScope ["_law_rows", "_law_many", "_law_lot_here", "_law_thing", "_law_total", "_law_number", "_law_other", "_law_row", "_law_count", "_law_k"] ["_law_rows", "_law_many", "_law_lot_here", "_law_thing"] (defScope s__law_alternating) := ⟨rfl, rfl, rfl, by decide +kernel, rfl, by decide +kernel, by decide +kernel⟩
abbrev s__law_cell : Stmt := top 31
theorem sc__law_cell : FnScope ["_law_script", "_law_place"] ["_law_script", "_law_place"] (defScope s__law_cell) := ⟨rfl, rfl, rfl, by decide +kernel, rfl, by decide +kernel, by decide +kernel⟩
abbrev s__law_classes : Stmt := top 43
theorem sc__law_classes : FnScope ["_law_table_here", "_law_lot_here", "e"] ["_law_table_here", "_law_lot_here"] (defScope s__law_classes) := ⟨rfl, rfl, rfl, by decide +kernel, rfl, by decide +kernel, by decide +kernel⟩
abbrev s__law_draws : Stmt := top 32
theorem sc__law_draws : FnScope ["_law_cell_here", "_law_sizes", "_law_left", "_law_found", "_law_size", "_law_k", "_law_low", "_law_high"] ["_law_cell_here", "_law_sizes"] (defScope s__law_draws) := ⟨rfl, rfl, rfl, by decide +kernel, rfl, by decide +kernel, by decide +kernel⟩
abbrev s__law_is_int : Stmt := top 36
theorem sc__law_is_int : FnScope ["_law_x"] ["_law_x"] (defScope s__law_is_int) := ⟨rfl, rfl, rfl, by decide +kernel, rfl, by decide +kernel, by decide +kernel⟩
abbrev s__law_lot : Stmt := top 33
theorem sc__law_lot : FnScope ["_law_bits", "_law_many", "_law_found", "_law_left", "_law_thing"] ["_law_bits", "_law_many"] (defScope s__law_lot) := ⟨rfl, rfl, rfl, by decide +kernel, rfl, by decide +kernel, by decide +kernel⟩
abbrev s__law_no_lot : Stmt := top 39
theorem sc__law_no_lot : FnScope ["_law_lot_here", "_law_many", "_law_way", "_law_k"] ["_law_lot_here", "_law_many", "_law_way"] (defScope s__law_no_lot) := ⟨rfl, rfl, rfl, by decide +kernel, rfl, by decide +kernel, by decide +kernel⟩
abbrev s__law_plus : Stmt := top 38
theorem sc__law_plus : FnScope ["_law_a", "_law_b"] ["_law_a", "_law_b"] (defScope s__law_plus) := ⟨rfl, rfl, rfl, by decide +kernel, rfl, by decide +kernel, by decide +kernel⟩
abbrev s__law_power : Stmt := top 34
theorem sc__law_power : FnScope ["_law_many", "_law_power_here", "_law_k"] ["_law_many"] (defScope s__law_power) := ⟨rfl, rfl, rfl, by decide +kernel, rfl, by decide +kernel, by decide +kernel⟩
abbrev s__law_refuses : Stmt := top 42
theorem sc__law_refuses : FnScope ["_law_table_here", "_law_lot_here"] ["_law_table_here", "_law_lot_here"] (defScope s__law_refuses) := ⟨rfl, rfl, rfl, by decide +kernel, rfl, by decide +kernel, by decide +kernel⟩
abbrev s__law_right : Stmt := top 41
theorem sc__law_right : FnScope ["_law_table_here", "_law_rows", "_law_many", "_law_lot_here", "_law_things", "_law_thing", "_law_due"] ["_law_table_here", "_law_rows", "_law_many", "_law_lot_here"] (defScope s__law_right) := ⟨rfl, rfl, rfl, by decide +kernel, rfl, by decide +kernel, by decide +kernel⟩
abbrev s__law_same : Stmt := top 37
theorem sc__law_same : FnScope ["_law_x", "_law_top", "_law_bottom"] ["_law_x", "_law_top", "_law_bottom"] (defScope s__law_same) := ⟨rfl, rfl, rfl, by decide +kernel, rfl, by decide +kernel, by decide +kernel⟩
abbrev s__law_table : Stmt := top 35
theorem sc__law_table : FnScope ["_law_cell_here", "_law_many", "_law_size", "_law_drawn", "_law_bound", "_law_rows", "_law_k", "_law_part", "_law_lot_here", "_law_counts", "_law_total", "_law_value", "_law_thing"] ["_law_cell_here", "_law_many"] (defScope s__law_table) := ⟨rfl, rfl, rfl, by decide +kernel, rfl, by decide +kernel, by decide +kernel⟩
abbrev s_alternating : Stmt := top 24
theorem sc_alternating : FnScope ["table", "lot", "thing"] ["table", "lot", "thing"] (defScope s_alternating) := ⟨rfl, rfl, rfl, by decide +kernel, rfl, by decide +kernel, by decide +kernel⟩
abbrev s_check_lot : Stmt := top 11
theorem sc_check_lot : FnScope ["lot", "many", "before", "thing"] ["lot", "many"] (defScope s_check_lot) := ⟨rfl, rfl, rfl, by decide +kernel, rfl, by decide +kernel, by decide +kernel⟩
abbrev s_common_row : Stmt := top 28
theorem sc_common_row : FnScope ["shares", "total", "share"] ["shares"] (defScope s_common_row) := ⟨rfl, rfl, rfl, by decide +kernel, rfl, by decide +kernel, by decide +kernel⟩
abbrev s_fits_lot : Stmt := top 26
theorem sc_fits_lot : FnScope ["row", "lot", "many", "thing"] ["row", "lot", "many"] (defScope s_fits_lot) := ⟨rfl, rfl, rfl, by decide +kernel, rfl, by decide +kernel, by decide +kernel⟩
abbrev s_law : Stmt := top 44
theorem sc_law : FnScope ["_law_script", "_law_d", "_law_many", "_law_lot_here", "_law_first", "_law_second", "_law_passed", "_law_one", "_law_two", "_law_none", "_law_row"] ["_law_script"] (defScope s_law) := ⟨rfl, rfl, rfl, by decide +kernel, rfl, by decide +kernel, by decide +kernel⟩
abbrev s_lot_at : Stmt := top 13
theorem sc_lot_at : FnScope ["number", "many", "thing"] ["number", "many"] (defScope s_lot_at) := ⟨rfl, rfl, rfl, by decide +kernel, rfl, by decide +kernel, by decide +kernel⟩
abbrev s_lot_number : Stmt := top 12
theorem sc_lot_number : FnScope ["lot", "thing"] ["lot"] (defScope s_lot_number) := ⟨rfl, rfl, rfl, by decide +kernel, rfl, by decide +kernel, by decide +kernel⟩
abbrev s_lots : Stmt := top 14
theorem sc_lots : GScope ["many", "number"] ["many"] (defScope s_lots) := ⟨rfl, rfl, rfl, by decide +kernel, rfl, by decide +kernel, by decide +kernel⟩
abbrev s_lowest : Stmt := top 27
theorem sc_lowest : FnScope ["row", "shared", "number"] ["row"] (defScope s_lowest) := ⟨rfl, rfl, rfl, by decide +kernel, rfl, by decide +kernel, by decide +kernel⟩
abbrev s_sum_over : Stmt := top 23
theorem sc_sum_over : FnScope ["rows", "lot", "thing", "base", "place", "total", "number", "other", "shares", "share"] ["rows", "lot", "thing"] (defScope s_sum_over) := ⟨rfl, rfl, rfl, by decide +kernel, rfl, by decide +kernel, by decide +kernel⟩
abbrev s_told_rows : Stmt := top 22
theorem sc_told_rows : FnScope ["table", "lot"] ["table"] (defScope s_told_rows) := ⟨rfl, rfl, rfl, by decide +kernel, rfl, by decide +kernel, by decide +kernel⟩
abbrev s_BadTable___init__ : Stmt := inClass (top 8) 0
theorem sc_BadTable___init__ : NdefX.NScope ["self", "at", "__class__"] ["self", "at"] ["__class__"] (defScope s_BadTable___init__) := NdefX.nscope_by (by decide +kernel)
abbrev s_Tabled___init__ : Stmt := inClass (top 29) 1
theorem sc_Tabled___init__ : NdefX.NScope ["self", "many", "rows", "__class__", "number", "row"] ["self", "many", "rows"] ["__class__"] (defScope s_Tabled___init__) := NdefX.nscope_by (by decide +kernel)
abbrev s_Tabled_shares : Stmt := inClass (top 29) 2
theorem sc_Tabled_shares : NdefX.NScope ["self", "lot", "__class__", "row", "told", "thing"] ["self", "lot"] ["__class__"] (defScope s_Tabled_shares) := NdefX.nscope_by (by decide +kernel)
abbrev s_TooMany___init__ : Stmt := inClass (top 7) 0
theorem sc_TooMany___init__ : NdefX.NScope ["self", "many", "most", "__class__"] ["self", "many", "most"] ["__class__"] (defScope s_TooMany___init__) := NdefX.nscope_by (by decide +kernel)
structure Tx (P : Program) (K : PySem.W.Frag) (mg : Str → Option Value) : Prop where
  n_ValueError : mg "ValueError" = none
  n_bool : mg "bool" = none
  n_enumerate : mg "enumerate" = none
  n_int : mg "int" = none
  n_isinstance : mg "isinstance" = none
  n_len : mg "len" = none
  n_list : mg "list" = none
  n_range : mg "range" = none
  n_sum : mg "sum" = none
  n_super : mg "super" = none
  n_tuple : mg "tuple" = none
  m_gcd : mg "gcd" = some (.builtin "math.gcd")
  m_lcm : mg "lcm" = some (.builtin "math.lcm")
  g__law_alternating : mg "_law_alternating" = some (.ref (He.ga K "_law_alternating"))
  g__law_cell : mg "_law_cell" = some (.ref (He.ga K "_law_cell"))
  g__law_classes : mg "_law_classes" = some (.ref (He.ga K "_law_classes"))
  g__law_draws : mg "_law_draws" = some (.ref (He.ga K "_law_draws"))
  g__law_is_int : mg "_law_is_int" = some (.ref (He.ga K "_law_is_int"))
  g__law_lot : mg "_law_lot" = some (.ref (He.ga K "_law_lot"))
  g__law_no_lot : mg "_law_no_lot" = some (.ref (He.ga K "_law_no_lot"))
  g__law_plus : mg "_law_plus" = some (.ref (He.ga K "_law_plus"))
  g__law_power : mg "_law_power" = some (.ref (He.ga K "_law_power"))
  g__law_refuses : mg "_law_refuses" = some (.ref (He.ga K "_law_refuses"))
  g__law_right : mg "_law_right" = some (.ref (He.ga K "_law_right"))
  g__law_same : mg "_law_same" = some (.ref (He.ga K "_law_same"))
  g__law_table : mg "_law_table" = some (.ref (He.ga K "_law_table"))
  g_alternating : mg "alternating" = some (.ref (He.ga K "alternating"))
  g_check_lot : mg "check_lot" = some (.ref (He.ga K "check_lot"))
  g_fits_lot : mg "fits_lot" = some (.ref (He.ga K "fits_lot"))
  g_law : mg "law" = some (.ref (He.ga K "law"))
  g_lot_at : mg "lot_at" = some (.ref (He.ga K "lot_at"))
  g_lot_number : mg "lot_number" = some (.ref (He.ga K "lot_number"))
  g_lots : mg "lots" = some (.ref (He.ga K "lots"))
  g_lowest : mg "lowest" = some (.ref (He.ga K "lowest"))
  g_sum_over : mg "sum_over" = some (.ref (He.ga K "sum_over"))
  g_told_rows : mg "told_rows" = some (.ref (He.ga K "told_rows"))
  g_ShelfError : mg "ShelfError" = some (.ref (He.ga K "ShelfError"))
  ec_ShelfError : ExcC K (He.ga K "ShelfError")
  exm_ShelfError_BadLot : PySem.W.exmOne K (.ref (He.ga K "ShelfError")) (.ref (He.ga K "BadLot")) = some false
  exm_ShelfError_ShelfError : PySem.W.exmOne K (.ref (He.ga K "ShelfError")) (.ref (He.ga K "ShelfError")) = some true
  ki_ShelfError_ValueError : PySem.W.kitOne K (.ref (He.ga K "ShelfError")) (.type "ValueError") = some true
  ki_ShelfError_BadLot : PySem.W.kitOne K (.ref (He.ga K "ShelfError")) (.ref (He.ga K "BadLot")) = some false
  ki_ShelfError_BadTable : PySem.W.kitOne K (.ref (He.ga K "ShelfError")) (.ref (He.ga K "BadTable")) = some false
  ki_ShelfError_NotLists : PySem.W.kitOne K (.ref (He.ga K "ShelfError")) (.ref (He.ga K "NotLists")) = some false
  g_ZeroBottom : mg "ZeroBottom" = some (.ref (He.ga K "ZeroBottom"))
  ec_ZeroBottom : ExcC K (He.ga K "ZeroBottom")
  exm_ZeroBottom_BadLot : PySem.W.exmOne K (.ref (He.ga K "ZeroBottom")) (.ref (He.ga K "BadLot")) = some false
  exm_ZeroBottom_ShelfError : PySem.W.exmOne K (.ref (He.ga K "ZeroBottom")) (.ref (He.ga K "ShelfError")) = some true
  ki_ZeroBottom_ValueError : PySem.W.kitOne K (.ref (He.ga K "ZeroBottom")) (.type "ValueError") = some true
  ki_ZeroBottom_BadLot : PySem.W.kitOne K (.ref (He.ga K "ZeroBottom")) (.ref (He.ga K "BadLot")) = some false
  ki_ZeroBottom_BadTable : PySem.W.kitOne K (.ref (He.ga K "ZeroBottom")) (.ref (He.ga K "BadTable")) = some false
  ki_ZeroBottom_NotLists : PySem.W.kitOne K (.ref (He.ga K "ZeroBottom")) (.ref (He.ga K "NotLists")) = some false
  x_ZeroBottom : PySem.W.excIn K (He.ga K "ZeroBottom") He.veBase "ValueError.__new__" = true ∧ PySem.W.keepIn K (.ref (He.ga K "ZeroBottom")) = true ∧ PySem.W.subIn K (.ref (He.ga K "ZeroBottom")) (.type "BaseException") = some true ∧ PySem.W.typeIn K (.ref (He.ga K "ZeroBottom")) = some (.type "type")
  ec_BadText : ExcC K (He.ga K "BadText")
  exm_BadText_BadLot : PySem.W.exmOne K (.ref (He.ga K "BadText")) (.ref (He.ga K "BadLot")) = some false
  exm_BadText_ShelfError : PySem.W.exmOne K (.ref (He.ga K "BadText")) (.ref (He.ga K "ShelfError")) = some true
  ki_BadText_ValueError : PySem.W.kitOne K (.ref (He.ga K "BadText")) (.type "ValueError") = some true
  ki_BadText_BadLot : PySem.W.kitOne K (.ref (He.ga K "BadText")) (.ref (He.ga K "BadLot")) = some false
  ki_BadText_BadTable : PySem.W.kitOne K (.ref (He.ga K "BadText")) (.ref (He.ga K "BadTable")) = some false
  ki_BadText_NotLists : PySem.W.kitOne K (.ref (He.ga K "BadText")) (.ref (He.ga K "NotLists")) = some false
  g_BadLot : mg "BadLot" = some (.ref (He.ga K "BadLot"))
  ec_BadLot : ExcC K (He.ga K "BadLot")
  exm_BadLot_BadLot : PySem.W.exmOne K (.ref (He.ga K "BadLot")) (.ref (He.ga K "BadLot")) = some true
  exm_BadLot_ShelfError : PySem.W.exmOne K (.ref (He.ga K "BadLot")) (.ref (He.ga K "ShelfError")) = some true
  ki_BadLot_ValueError : PySem.W.kitOne K (.ref (He.ga K "BadLot")) (.type "ValueError") = some true
  ki_BadLot_BadLot : PySem.W.kitOne K (.ref (He.ga K "BadLot")) (.ref (He.ga K "BadLot")) = some true
  ki_BadLot_BadTable : PySem.W.kitOne K (.ref (He.ga K "BadLot")) (.ref (He.ga K "BadTable")) = some false
  ki_BadLot_NotLists : PySem.W.kitOne K (.ref (He.ga K "BadLot")) (.ref (He.ga K "NotLists")) = some false
  x_BadLot : PySem.W.excIn K (He.ga K "BadLot") He.veBase "ValueError.__new__" = true ∧ PySem.W.keepIn K (.ref (He.ga K "BadLot")) = true ∧ PySem.W.subIn K (.ref (He.ga K "BadLot")) (.type "BaseException") = some true ∧ PySem.W.typeIn K (.ref (He.ga K "BadLot")) = some (.type "type")
  g_TooMany : mg "TooMany" = some (.ref (He.ga K "TooMany"))
  oe_TooMany : OexC K (He.ga K "TooMany")
  si_TooMany : PySem.W.ks_superIn K (He.ga K "TooMany") (He.ga K "TooMany") "__init__" = some (some (.builtin "ValueError.__init__")) ∧ PySem.W.subIn K (.ref (He.ga K "TooMany")) (.type "ValueError") = some true ∧ PySem.W.findIn K (.ref (He.ga K "TooMany")) "__init__" = some (some (.ref (He.ma K (He.ga K "TooMany") "__init__"))) ∧ PySem.W.typeIn K (.ref (He.ma K (He.ga K "TooMany") "__init__")) = some (.type "function")
  nf_TooMany_many : PySem.W.findIn K (.ref (He.ga K "TooMany")) "many" = some none
  nf_TooMany_most : PySem.W.findIn K (.ref (He.ga K "TooMany")) "most" = some none
  ec_TooMany : ExcC K (He.ga K "TooMany")
  exm_TooMany_BadLot : PySem.W.exmOne K (.ref (He.ga K "TooMany")) (.ref (He.ga K "BadLot")) = some false
  exm_TooMany_ShelfError : PySem.W.exmOne K (.ref (He.ga K "TooMany")) (.ref (He.ga K "ShelfError")) = some true
  ki_TooMany_ValueError : PySem.W.kitOne K (.ref (He.ga K "TooMany")) (.type "ValueError") = some true
  ki_TooMany_BadLot : PySem.W.kitOne K (.ref (He.ga K "TooMany")) (.ref (He.ga K "BadLot")) = some false
  ki_TooMany_BadTable : PySem.W.kitOne K (.ref (He.ga K "TooMany")) (.ref (He.ga K "BadTable")) = some false
  ki_TooMany_NotLists : PySem.W.kitOne K (.ref (He.ga K "TooMany")) (.ref (He.ga K "NotLists")) = some false
  g_BadTable : mg "BadTable" = some (.ref (He.ga K "BadTable"))
  oe_BadTable : OexC K (He.ga K "BadTable")
  si_BadTable : PySem.W.ks_superIn K (He.ga K "BadTable") (He.ga K "BadTable") "__init__" = some (some (.builtin "ValueError.__init__")) ∧ PySem.W.subIn K (.ref (He.ga K "BadTable")) (.type "ValueError") = some true ∧ PySem.W.findIn K (.ref (He.ga K "BadTable")) "__init__" = some (some (.ref (He.ma K (He.ga K "BadTable") "__init__"))) ∧ PySem.W.typeIn K (.ref (He.ma K (He.ga K "BadTable") "__init__")) = some (.type "function")
  nf_BadTable_at : PySem.W.findIn K (.ref (He.ga K "BadTable")) "at" = some none
  ec_BadTable : ExcC K (He.ga K "BadTable")
  exm_BadTable_BadLot : PySem.W.exmOne K (.ref (He.ga K "BadTable")) (.ref (He.ga K "BadLot")) = some false
  exm_BadTable_ShelfError : PySem.W.exmOne K (.ref (He.ga K "BadTable")) (.ref (He.ga K "ShelfError")) = some true
  ki_BadTable_ValueError : PySem.W.kitOne K (.ref (He.ga K "BadTable")) (.type "ValueError") = some true
  ki_BadTable_BadLot : PySem.W.kitOne K (.ref (He.ga K "BadTable")) (.ref (He.ga K "BadLot")) = some false
  ki_BadTable_BadTable : PySem.W.kitOne K (.ref (He.ga K "BadTable")) (.ref (He.ga K "BadTable")) = some true
  ki_BadTable_NotLists : PySem.W.kitOne K (.ref (He.ga K "BadTable")) (.ref (He.ga K "NotLists")) = some false
  g_NotLists : mg "NotLists" = some (.ref (He.ga K "NotLists"))
  ec_NotLists : ExcC K (He.ga K "NotLists")
  exm_NotLists_BadLot : PySem.W.exmOne K (.ref (He.ga K "NotLists")) (.ref (He.ga K "BadLot")) = some false
  exm_NotLists_ShelfError : PySem.W.exmOne K (.ref (He.ga K "NotLists")) (.ref (He.ga K "ShelfError")) = some true
  ki_NotLists_ValueError : PySem.W.kitOne K (.ref (He.ga K "NotLists")) (.type "ValueError") = some true
  ki_NotLists_BadLot : PySem.W.kitOne K (.ref (He.ga K "NotLists")) (.ref (He.ga K "BadLot")) = some false
  ki_NotLists_BadTable : PySem.W.kitOne K (.ref (He.ga K "NotLists")) (.ref (He.ga K "BadTable")) = some false
  ki_NotLists_NotLists : PySem.W.kitOne K (.ref (He.ga K "NotLists")) (.ref (He.ga K "NotLists")) = some true
  g_Ratio : mg "Ratio" = some (.ref (He.ga K "Ratio"))
  o_Ratio : Z.OwnC K (He.ga K "Ratio")
  mk_Ratio : Mk K (He.ga K "Ratio") (He.ma K (He.ga K "Ratio") "__init__")
  na_Ratio_top : NoAttr K (He.ga K "Ratio") "top"
  na_Ratio_bottom : NoAttr K (He.ga K "Ratio") "bottom"
  me_Ratio___add__ : Meth K (He.ga K "Ratio") "__add__" (He.ma K (He.ga K "Ratio") "__add__")
  me_Ratio___sub__ : Meth K (He.ga K "Ratio") "__sub__" (He.ma K (He.ga K "Ratio") "__sub__")
  me_Ratio___neg__ : Meth K (He.ga K "Ratio") "__neg__" (He.ma K (He.ga K "Ratio") "__neg__")
  o_Rule : Z.OwnC K (He.ga K "Rule")
  g_Tabled : mg "Tabled" = some (.ref (He.ga K "Tabled"))
  o_Tabled : Z.OwnC K (He.ga K "Tabled")
  mk_Tabled : Mk K (He.ga K "Tabled") (He.ma K (He.ga K "Tabled") "__init__")
  k_Tabled_MOST : ∃ u, Con K (He.ga K "Tabled") "MOST" (.int 6) u
  na_Tabled_rows : NoAttr K (He.ga K "Tabled") "rows"
  na_Tabled_many : NoAttr K (He.ga K "Tabled") "many"
  me_Tabled_shares : Meth K (He.ga K "Tabled") "shares" (He.ma K (He.ga K "Tabled") "shares")
  me_Tabled_away : Meth K (He.ga K "Tabled") "away" (He.ma K (He.ga K "Rule") "away")
  third : PySem.W.nsIn K PySem.cStatics "thirdparty.any" = some none
  c_TooMany : ∃ cd, PySem.W.clsIn K (He.ga K "TooMany") = some cd
  mro_TooMany_TooMany : PySem.W.mroIn K (He.ga K "TooMany") (.ref (He.ga K "TooMany")) = some true
  c_BadTable : ∃ cd, PySem.W.clsIn K (He.ga K "BadTable") = some cd
  mro_BadTable_BadTable : PySem.W.mroIn K (He.ga K "BadTable") (.ref (He.ga K "BadTable")) = some true
  c_Tabled : ∃ cd, PySem.W.clsIn K (He.ga K "Tabled") = some cd
  mro_Tabled_Tabled : PySem.W.mroIn K (He.ga K "Tabled") (.ref (He.ga K "Tabled")) = some true
  sm_Tabled_Tabled___init__ : PySem.W.ks_superIn K (He.ga K "Tabled") (He.ga K "Tabled") "__init__" = some (some (.ref (He.ma K (He.ga K "Rule") "__init__"))) ∧ PySem.W.typeIn K (.ref (He.ma K (He.ga K "Rule") "__init__")) = some (.type "function") ∧ PySem.W.fnIn K (He.ma K (He.ga K "Rule") "__init__") = true
  sm_Tabled_Tabled_shares : PySem.W.ks_superIn K (He.ga K "Tabled") (He.ga K "Tabled") "shares" = some (some (.ref (He.ma K (He.ga K "Rule") "shares"))) ∧ PySem.W.typeIn K (.ref (He.ma K (He.ga K "Rule") "shares")) = some (.type "function") ∧ PySem.W.fnIn K (He.ma K (He.ga K "Rule") "shares") = true
  F_Ratio___add__ : FunD K "__add__" "Ratio.__add__" (defArgs s_Ratio___add__) (defBody s_Ratio___add__) (defScope s_Ratio___add__) [] [] (He.ma K (He.ga K "Ratio") "__add__") (Z.fdOf K (He.ma K (He.ga K "Ratio") "__add__"))
  b_Ratio___add__ : Binds K (Z.fdOf K (He.ma K (He.ga K "Ratio") "__add__")) ["self", "other"] []
  F_Ratio___init__ : FunD K "__init__" "Ratio.__init__" (defArgs s_Ratio___init__) (defBody s_Ratio___init__) (defScope s_Ratio___init__) [V.int 1] [] (He.ma K (He.ga K "Ratio") "__init__") (Z.fdOf K (He.ma K (He.ga K "Ratio") "__init__"))
  b2_Ratio___init__ : ∃ ds, Vals (([V.int 1] : List V).drop 0) ds ∧ Binds K (Z.fdOf K (He.ma K (He.ga K "Ratio") "__init__")) ["self", "top", "bottom"] ds
  b3_Ratio___init__ : ∃ ds, Vals (([V.int 1] : List V).drop 1) ds ∧ Binds K (Z.fdOf K (He.ma K (He.ga K "Ratio") "__init__")) ["self", "top", "bottom"] ds
  F_Ratio___neg__ : FunD K "__neg__" "Ratio.__neg__" (defArgs s_Ratio___neg__) (defBody s_Ratio___neg__) (defScope s_Ratio___neg__) [] [] (He.ma K (He.ga K "Ratio") "__neg__") (Z.fdOf K (He.ma K (He.ga K "Ratio") "__neg__"))
  b_Ratio___neg__ : Binds K (Z.fdOf K (He.ma K (He.ga K "Ratio") "__neg__")) ["self"] []
  F_Ratio___sub__ : FunD K "__sub__" "Ratio.__sub__" (defArgs s_Ratio___sub__) (defBody s_Ratio___sub__) (defScope s_Ratio___sub__) [] [] (He.ma K (He.ga K "Ratio") "__sub__") (Z.fdOf K (He.ma K (He.ga K "Ratio") "__sub__"))
  b_Ratio___sub__ : Binds K (Z.fdOf K (He.ma K (He.ga K "Ratio") "__sub__")) ["self", "other"] []
  F_Rule___init__ : FunD K "__init__" "Rule.__init__" (defArgs s_Rule___init__) (defBody s_Rule___init__) (defScope s_Rule___init__) [] [] (He.ma K (He.ga K "Rule") "__init__") (Z.fdOf K (He.ma K (He.ga K "Rule") "__init__"))
  b_Rule___init__ : Binds K (Z.fdOf K (He.ma K (He.ga K "Rule") "__init__")) ["self", "many"] []
  F_Rule_away : FunD K "away" "Rule.away" (defArgs s_Rule_away) (defBody s_Rule_away) (defScope s_Rule_away) [] [] (He.ma K (He.ga K "Rule") "away") (Z.fdOf K (He.ma K (He.ga K "Rule") "away"))
  b_Rule_away : Binds K (Z.fdOf K (He.ma K (He.ga K "Rule") "away")) ["self", "lot"] []
  F_Rule_shares : FunD K "shares" "Rule.shares" (defArgs s_Rule_shares) (defBody s_Rule_shares) (defScope s_Rule_shares) [] [] (He.ma K (He.ga K "Rule") "shares") (Z.fdOf K (He.ma K (He.ga K "Rule") "shares"))
  b_Rule_shares : Binds K (Z.fdOf K (He.ma K (He.ga K "Rule") "shares")) ["self", "lot"] []
  F__law_alternating : FunD K "_law_alternating" "_law_alternating" (defArgs s__law_alternating) (defBody s__law_alternating) (defScope s__law_alternating) [] [] (He.ga K "_law_alternating") (Z.fdOf K (He.ga K "_law_alternating"))
  b__law_alternating : Binds K (Z.fdOf K (He.ga K "_law_alternating")) ["_law_rows", "_law_many", "_law_lot_here", "_law_thing"] []
  F__law_cell : FunD K "_law_cell" "_law_cell" (defArgs s__law_cell) (defBody s__law_cell) (defScope s__law_cell) [] [] (He.ga K "_law_cell") (Z.fdOf K (He.ga K "_law_cell"))
  b__law_cell : Binds K (Z.fdOf K (He.ga K "_law_cell")) ["_law_script", "_law_place"] []
  F__law_classes : FunD K "_law_classes" "_law_classes" (defArgs s__law_classes) (defBody s__law_classes) (defScope s__law_classes) [] [] (He.ga K "_law_classes") (Z.fdOf K (He.ga K "_law_classes"))
  b__law_classes : Binds K (Z.fdOf K (He.ga K "_law_classes")) ["_law_table_here", "_law_lot_here"] []
  F__law_draws : FunD K "_law_draws" "_law_draws" (defArgs s__law_draws) (defBody s__law_draws) (defScope s__law_draws) [] [] (He.ga K "_law_draws") (Z.fdOf K (He.ga K "_law_draws"))
  b__law_draws : Binds K (Z.fdOf K (He.ga K "_law_draws")) ["_law_cell_here", "_law_sizes"] []
  F__law_is_int : FunD K "_law_is_int" "_law_is_int" (defArgs s__law_is_int) (defBody s__law_is_int) (defScope s__law_is_int) [] [] (He.ga K "_law_is_int") (Z.fdOf K (He.ga K "_law_is_int"))
  b__law_is_int : Binds K (Z.fdOf K (He.ga K "_law_is_int")) ["_law_x"] []
  F__law_lot : FunD K "_law_lot" "_law_lot" (defArgs s__law_lot) (defBody s__law_lot) (defScope s__law_lot) [] [] (He.ga K "_law_lot") (Z.fdOf K (He.ga K "_law_lot"))
  b__law_lot : Binds K (Z.fdOf K (He.ga K "_law_lot")) ["_law_bits", "_law_many"] []
  F__law_no_lot : FunD K "_law_no_lot" "_law_no_lot" (defArgs s__law_no_lot) (defBody s__law_no_lot) (defScope s__law_no_lot) [] [] (He.ga K "_law_no_lot") (Z.fdOf K (He.ga K "_law_no_lot"))
  b__law_no_lot : Binds K (Z.fdOf K (He.ga K "_law_no_lot")) ["_law_lot_here", "_law_many", "_law_way"] []
  F__law_plus : FunD K "_law_plus" "_law_plus" (defArgs s__law_plus) (defBody s__law_plus) (defScope s__law_plus) [] [] (He.ga K "_law_plus") (Z.fdOf K (He.ga K "_law_plus"))
  b__law_plus : Binds K (Z.fdOf K (He.ga K "_law_plus")) ["_law_a", "_law_b"] []
  F__law_power : FunD K "_law_power" "_law_power" (defArgs s__law_power) (defBody s__law_power) (defScope s__law_power) [] [] (He.ga K "_law_power") (Z.fdOf K (He.ga K "_law_power"))
  b__law_power : Binds K (Z.fdOf K (He.ga K "_law_power")) ["_law_many"] []
  F__law_refuses : FunD K "_law_refuses" "_law_refuses" (defArgs s__law_refuses) (defBody s__law_refuses) (defScope s__law_refuses) [] [] (He.ga K "_law_refuses") (Z.fdOf K (He.ga K "_law_refuses"))
  b__law_refuses : Binds K (Z.fdOf K (He.ga K "_law_refuses")) ["_law_table_here", "_law_lot_here"] []
  F__law_right : FunD K "_law_right" "_law_right" (defArgs s__law_right) (defBody s__law_right) (defScope s__law_right) [] [] (He.ga K "_law_right") (Z.fdOf K (He.ga K "_law_right"))
  b__law_right : Binds K (Z.fdOf K (He.ga K "_law_right")) ["_law_table_here", "_law_rows", "_law_many", "_law_lot_here"] []
  F__law_same : FunD K "_law_same" "_law_same" (defArgs s__law_same) (defBody s__law_same) (defScope s__law_same) [] [] (He.ga K "_law_same") (Z.fdOf K (He.ga K "_law_same"))
  b__law_same : Binds K (Z.fdOf K (He.ga K "_law_same")) ["_law_x", "_law_top", "_law_bottom"] []
  F__law_table : FunD K "_law_table" "_law_table" (defArgs s__law_table) (defBody s__law_table) (defScope s__law_table) [] [] (He.ga K "_law_table") (Z.fdOf K (He.ga K "_law_table"))
  b__law_table : Binds K (Z.fdOf K (He.ga K "_law_table")) ["_law_cell_here", "_law_many"] []
  F_alternating : FunD K "alternating" "alternating" (defArgs s_alternating) (defBody s_alternating) (defScope s_alternating) [] [] (He.ga K "alternating") (Z.fdOf K (He.ga K "alternating"))
  b_alternating : Binds K (Z.fdOf K (He.ga K "alternating")) ["table", "lot", "thing"] []
  F_check_lot : FunD K "check_lot" "check_lot" (defArgs s_check_lot) (defBody s_check_lot) (defScope s_check_lot) [] [] (He.ga K "check_lot") (Z.fdOf K (He.ga K "check_lot"))
  b_check_lot : Binds K (Z.fdOf K (He.ga K "check_lot")) ["lot", "many"] []
  F_common_row : FunD K "common_row" "common_row" (defArgs s_common_row) (defBody s_common_row) (defScope s_common_row) [] [] (He.ga K "common_row") (Z.fdOf K (He.ga K "common_row"))
  b_common_row : Binds K (Z.fdOf K (He.ga K "common_row")) ["shares"] []
  F_fits_lot : FunD K "fits_lot" "fits_lot" (defArgs s_fits_lot) (defBody s_fits_lot) (defScope s_fits_lot) [] [] (He.ga K "fits_lot") (Z.fdOf K (He.ga K "fits_lot"))
  b_fits_lot : Binds K (Z.fdOf K (He.ga K "fits_lot")) ["row", "lot", "many"] []
  F_law : FunD K "law" "law" (defArgs s_law) (defBody s_law) (defScope s_law) [] [] (He.ga K "law") (Z.fdOf K (He.ga K "law"))
  b_law : Binds K (Z.fdOf K (He.ga K "law")) ["_law_script"] []
  F_lot_at : FunD K "lot_at" "lot_at" (defArgs s_lot_at) (defBody s_lot_at) (defScope s_lot_at) [] [] (He.ga K "lot_at") (Z.fdOf K (He.ga K "lot_at"))
  b_lot_at : Binds K (Z.fdOf K (He.ga K "lot_at")) ["number", "many"] []
  F_lot_number : FunD K "lot_number" "lot_number" (defArgs s_lot_number) (defBody s_lot_number) (defScope s_lot_number) [] [] (He.ga K "lot_number") (Z.fdOf K (He.ga K "lot_number"))
  b_lot_number : Binds K (Z.fdOf K (He.ga K "lot_number")) ["lot"] []
  F_lots : FunD K "lots" "lots" (defArgs s_lots) (defBody s_lots) (defScope s_lots) [] [] (He.ga K "lots") (Z.fdOf K (He.ga K "lots"))
  b_lots : Binds K (Z.fdOf K (He.ga K "lots")) ["many"] []
  F_lowest : FunD K "lowest" "lowest" (defArgs s_lowest) (defBody s_lowest) (defScope s_lowest) [] [] (He.ga K "lowest") (Z.fdOf K (He.ga K "lowest"))
  b_lowest : Binds K (Z.fdOf K (He.ga K "lowest")) ["row"] []
  F_sum_over : FunD K "sum_over" "sum_over" (defArgs s_sum_over) (defBody s_sum_over) (defScope s_sum_over) [] [] (He.ga K "sum_over") (Z.fdOf K (He.ga K "sum_over"))
  b_sum_over : Binds K (Z.fdOf K (He.ga K "sum_over")) ["rows", "lot", "thing"] []
  F_told_rows : FunD K "told_rows" "told_rows" (defArgs s_told_rows) (defBody s_told_rows) (defScope s_told_rows) [] [] (He.ga K "told_rows") (Z.fdOf K (He.ga K "told_rows"))
  b_told_rows : Binds K (Z.fdOf K (He.ga K "told_rows")) ["table"] []
  F_BadTable___init__ : Z.FunS P K "__init__" "BadTable.__init__" (defArgs s_BadTable___init__) (defBody s_BadTable___init__) (defScope s_BadTable___init__) (He.ga K "BadTable") (He.ma K (He.ga K "BadTable") "__init__") (Z.fdOf K (He.ma K (He.ga K "BadTable") "__init__"))
  b_BadTable___init__ : Binds K (Z.fdOf K (He.ma K (He.ga K "BadTable") "__init__")) ["self", "at"] []
  F_Tabled___init__ : Z.FunS P K "__init__" "Tabled.__init__" (defArgs s_Tabled___init__) (defBody s_Tabled___init__) (defScope s_Tabled___init__) (He.ga K "Tabled") (He.ma K (He.ga K "Tabled") "__init__") (Z.fdOf K (He.ma K (He.ga K "Tabled") "__init__"))
  b_Tabled___init__ : Binds K (Z.fdOf K (He.ma K (He.ga K "Tabled") "__init__")) ["self", "many", "rows"] []
  F_Tabled_shares : Z.FunS P K "shares" "Tabled.shares" (defArgs s_Tabled_shares) (defBody s_Tabled_shares) (defScope s_Tabled_shares) (He.ga K "Tabled") (He.ma K (He.ga K "Tabled") "shares") (Z.fdOf K (He.ma K (He.ga K "Tabled") "shares"))
  b_Tabled_shares : Binds K (Z.fdOf K (He.ma K (He.ga K "Tabled") "shares")) ["self", "lot"] []
  F_TooMany___init__ : Z.FunS P K "__init__" "TooMany.__init__" (defArgs s_TooMany___init__) (defBody s_TooMany___init__) (defScope s_TooMany___init__) (He.ga K "TooMany") (He.ma K (He.ga K "TooMany") "__init__") (Z.fdOf K (He.ma K (He.ga K "TooMany") "__init__"))
  b_TooMany___init__ : Binds K (Z.fdOf K (He.ma K (He.ga K "TooMany") "__init__")) ["self", "many", "most"] []
  p_top : (P.main.scope.names.lookup ("super" : Str)).isSome = false
variable {P : Program} {w : World} {K : PySem.W.Frag} {mg : Str → Option Value} {base : Heap}
def d_Ratio___add__ : He.DefD := ⟨("Ratio", some "__add__"), "__add__", "Ratio.__add__", defArgs s_Ratio___add__, defBody s_Ratio___add__, defScope s_Ratio___add__, [], []⟩
def d_Ratio___init__ : He.DefD := ⟨("Ratio", some "__init__"), "__init__", "Ratio.__init__", defArgs s_Ratio___init__, defBody s_Ratio___init__, defScope s_Ratio___init__, [.int 1], []⟩
def d_Ratio___neg__ : He.DefD := ⟨("Ratio", some "__neg__"), "__neg__", "Ratio.__neg__", defArgs s_Ratio___neg__, defBody s_Ratio___neg__, defScope s_Ratio___neg__, [], []⟩
def d_Ratio___sub__ : He.DefD := ⟨("Ratio", some "__sub__"), "__sub__", "Ratio.__sub__", defArgs s_Ratio___sub__, defBody s_Ratio___sub__, defScope s_Ratio___sub__, [], []⟩
def d_Rule___init__ : He.DefD := ⟨("Rule", some "__init__"), "__init__", "Rule.__init__", defArgs s_Rule___init__, defBody s_Rule___init__, defScope s_Rule___init__, [], []⟩
def d_Rule_away : He.DefD := ⟨("Rule", some "away"), "away", "Rule.away", defArgs s_Rule_away, defBody s_Rule_away, defScope s_Rule_away, [], []⟩
def d_Rule_shares : He.DefD := ⟨("Rule", some "shares"), "shares", "Rule.shares", defArgs s_Rule_shares, defBody s_Rule_shares, defScope s_Rule_shares, [], []⟩
def d__law_alternating : He.DefD := ⟨("_law_alternating", none), "_law_alternating", "_law_alternating", defArgs s__law_alternating, defBody s__law_alternating, defScope s__law_alternating, [], []⟩
def d__law_cell : He.DefD := ⟨("_law_cell", none), "_law_cell", "_law_cell", defArgs s__law_cell, defBody s__law_cell, defScope s__law_cell, [], []⟩
def d__law_classes : He.DefD := ⟨("_law_classes", none), "_law_classes", "_law_classes", defArgs s__law_classes, defBody s__law_classes, defScope s__law_classes, [], []⟩
def d__law_draws : He.DefD := ⟨("_law_draws", none), "_law_draws", "_law_draws", defArgs s__law_draws, defBody s__law_draws, defScope s__law_draws, [], []⟩
def d__law_is_int : He.DefD := ⟨("_law_is_int", none), "_law_is_int", "_law_is_int", defArgs s__law_is_int, defBody s__law_is_int, defScope s__law_is_int, [], []⟩
def d__law_lot : He.DefD := ⟨("_law_lot", none), "_law_lot", "_law_lot", defArgs s__law_lot, defBody s__law_lot, defScope s__law_lot, [], []⟩
def d__law_no_lot : He.DefD := ⟨("_law_no_lot", none), "_law_no_lot", "_law_no_lot", defArgs s__law_no_lot, defBody s__law_no_lot, defScope s__law_no_lot, [], []⟩
def d__law_plus : He.DefD := ⟨("_law_plus", none), "_law_plus", "_law_plus", defArgs s__law_plus, defBody s__law_plus, defScope s__law_plus, [], []⟩
def d__law_power : He.DefD := ⟨("_law_power", none), "_law_power", "_law_power", defArgs s__law_power, defBody s__law_power, defScope s__law_power, [], []⟩
def d__law_refuses : He.DefD := ⟨("_law_refuses", none), "_law_refuses", "_law_refuses", defArgs s__law_refuses, defBody s__law_refuses, defScope s__law_refuses, [], []⟩
def d__law_right : He.DefD := ⟨("_law_right", none), "_law_right", "_law_right", defArgs s__law_right, defBody s__law_right, defScope s__law_right, [], []⟩
def d__law_same : He.DefD := ⟨("_law_same", none), "_law_same", "_law_same", defArgs s__law_same, defBody s__law_same, defScope s__law_same, [], []⟩
def d__law_table : He.DefD := ⟨("_law_table", none), "_law_table", "_law_table", defArgs s__law_table, defBody s__law_table, defScope s__law_table, [], []⟩
def d_alternating : He.DefD := ⟨("alternating", none), "alternating", "alternating", defArgs s_alternating, defBody s_alternating, defScope s_alternating, [], []⟩
def d_check_lot : He.DefD := ⟨("check_lot", none), "check_lot", "check_lot", defArgs s_check_lot, defBody s_check_lot, defScope s_check_lot, [], []⟩
def d_common_row : He.DefD := ⟨("common_row", none), "common_row", "common_row", defArgs s_common_row, defBody s_common_row, defScope s_common_row, [], []⟩
def d_fits_lot : He.DefD := ⟨("fits_lot", none), "fits_lot", "fits_lot", defArgs s_fits_lot, defBody s_fits_lot, defScope s_fits_lot, [], []⟩
def d_law : He.DefD := ⟨("law", none), "law", "law", defArgs s_law, defBody s_law, defScope s_law, [], []⟩
def d_lot_at : He.DefD := ⟨("lot_at", none), "lot_at", "lot_at", defArgs s_lot_at, defBody s_lot_at, defScope s_lot_at, [], []⟩
def d_lot_number : He.DefD := ⟨("lot_number", none), "lot_number", "lot_number", defArgs s_lot_number, defBody s_lot_number, defScope s_lot_number, [], []⟩
def d_lots : He.DefD := ⟨("lots", none), "lots", "lots", defArgs s_lots, defBody s_lots, defScope s_lots, [], []⟩
def d_lowest : He.DefD := ⟨("lowest", none), "lowest", "lowest", defArgs s_lowest, defBody s_lowest, defScope s_lowest, [], []⟩
def d_sum_over : He.DefD := ⟨("sum_over", none), "sum_over", "sum_over", defArgs s_sum_over, defBody s_sum_over, defScope s_sum_over, [], []⟩
def d_told_rows : He.DefD := ⟨("told_rows", none), "told_rows", "told_rows", defArgs s_told_rows, defBody s_told_rows, defScope s_told_rows, [], []⟩
def d_BadTable___init__ : He.DefD := ⟨("BadTable", some "__init__"), "__init__", "BadTable.__init__", defArgs s_BadTable___init__, defBody s_BadTable___init__, defScope s_BadTable___init__, [], []⟩
def d_Tabled___init__ : He.DefD := ⟨("Tabled", some "__init__"), "__init__", "Tabled.__init__", defArgs s_Tabled___init__, defBody s_Tabled___init__, defScope s_Tabled___init__, [], []⟩
def d_Tabled_shares : He.DefD := ⟨("Tabled", some "shares"), "shares", "Tabled.shares", defArgs s_Tabled_shares, defBody s_Tabled_shares, defScope s_Tabled_shares, [], []⟩
def d_TooMany___init__ : He.DefD := ⟨("TooMany", some "__init__"), "__init__", "TooMany.__init__", defArgs s_TooMany___init__, defBody s_TooMany___init__, defScope s_TooMany___init__, [], []⟩
def fs : List He.DefD := [d_BadTable___init__, d_Tabled___init__, d_Tabled_shares, d_TooMany___init__]
def fn : List He.DefD := [d_Ratio___add__, d_Ratio___init__, d_Ratio___neg__, d_Ratio___sub__, d_Rule___init__, d_Rule_away, d_Rule_shares, d__law_alternating, d__law_cell, d__law_classes, d__law_draws, d__law_is_int, d__law_lot, d__law_no_lot, d__law_plus, d__law_power, d__law_refuses, d__law_right, d__law_same, d__law_table, d_alternating, d_check_lot, d_common_row, d_fits_lot, d_law, d_lot_at, d_lot_number, d_lots, d_lowest, d_sum_over, d_told_rows]
def fa : List (PySem.W.Frag → Bool) := [(He.Fa.free "ValueError").ok,
  (He.Fa.free "bool").ok,
  (He.Fa.free "enumerate").ok,
  (He.Fa.free "int").ok,
  (He.Fa.free "isinstance").ok,
  (He.Fa.free "len").ok,
  (He.Fa.free "list").ok,
  (He.Fa.free "range").ok,
  (He.Fa.free "sum").ok,
  (He.Fa.free "super").ok,
  (He.Fa.free "tuple").ok,
  Z.bltB "gcd" "math.gcd",
  Z.bltB "lcm" "math.lcm",
  (He.Fa.glo "_law_alternating").ok,
  (He.Fa.glo "_law_cell").ok,
  (He.Fa.glo "_law_classes").ok,
  (He.Fa.glo "_law_draws").ok,
  (He.Fa.glo "_law_is_int").ok,
  (He.Fa.glo "_law_lot").ok,
  (He.Fa.glo "_law_no_lot").ok,
  (He.Fa.glo "_law_plus").ok,
  (He.Fa.glo "_law_power").ok,
  (He.Fa.glo "_law_refuses").ok,
  (He.Fa.glo "_law_right").ok,
  (He.Fa.glo "_law_same").ok,
  (He.Fa.glo "_law_table").ok,
  (He.Fa.glo "alternating").ok,
  (He.Fa.glo "check_lot").ok,
  (He.Fa.glo "fits_lot").ok,
  (He.Fa.glo "law").ok,
  (He.Fa.glo "lot_at").ok,
  (He.Fa.glo "lot_number").ok,
  (He.Fa.glo "lots").ok,
  (He.Fa.glo "lowest").ok,
  (He.Fa.glo "sum_over").ok,
  (He.Fa.glo "told_rows").ok,
  (He.Fa.glo "ShelfError").ok,
  Z.excB "ShelfError",
  Z.exmB "ShelfError" "BadLot" false,
  Z.exmB "ShelfError" "ShelfError" true,
  Z.kitBt "ShelfError" "ValueError" true,
  Z.kitB2 "ShelfError" "BadLot" false,
  Z.kitB2 "ShelfError" "BadTable" false,
  Z.kitB2 "ShelfError" "NotLists" false,
  (He.Fa.glo "ZeroBottom").ok,
  Z.excB "ZeroBottom",
  Z.exmB "ZeroBottom" "BadLot" false,
  Z.exmB "ZeroBottom" "ShelfError" true,
  Z.kitBt "ZeroBottom" "ValueError" true,
  Z.kitB2 "ZeroBottom" "BadLot" false,
  Z.kitB2 "ZeroBottom" "BadTable" false,
  Z.kitB2 "ZeroBottom" "NotLists" false,
  (He.Fa.exc "ZeroBottom").ok,
  Z.excB "BadText",
  Z.exmB "BadText" "BadLot" false,
  Z.exmB "BadText" "ShelfError" true,
  Z.kitBt "BadText" "ValueError" true,
  Z.kitB2 "BadText" "BadLot" false,
  Z.kitB2 "BadText" "BadTable" false,
  Z.kitB2 "BadText" "NotLists" false,
  (He.Fa.glo "BadLot").ok,
  Z.excB "BadLot",
  Z.exmB "BadLot" "BadLot" true,
  Z.exmB "BadLot" "ShelfError" true,
  Z.kitBt "BadLot" "ValueError" true,
  Z.kitB2 "BadLot" "BadLot" true,
  Z.kitB2 "BadLot" "BadTable" false,
  Z.kitB2 "BadLot" "NotLists" false,
  (He.Fa.exc "BadLot").ok,
  (He.Fa.glo "TooMany").ok,
  Z.oexB "TooMany",
  Z.supiB "TooMany",
  Z.nometB "TooMany" "many",
  Z.nometB "TooMany" "most",
  Z.excB "TooMany",
  Z.exmB "TooMany" "BadLot" false,
  Z.exmB "TooMany" "ShelfError" true,
  Z.kitBt "TooMany" "ValueError" true,
  Z.kitB2 "TooMany" "BadLot" false,
  Z.kitB2 "TooMany" "BadTable" false,
  Z.kitB2 "TooMany" "NotLists" false,
  (He.Fa.glo "BadTable").ok,
  Z.oexB "BadTable",
  Z.supiB "BadTable",
  Z.nometB "BadTable" "at",
  Z.excB "BadTable",
  Z.exmB "BadTable" "BadLot" false,
  Z.exmB "BadTable" "ShelfError" true,
  Z.kitBt "BadTable" "ValueError" true,
  Z.kitB2 "BadTable" "BadLot" false,
  Z.kitB2 "BadTable" "BadTable" true,
  Z.kitB2 "BadTable" "NotLists" false,
  (He.Fa.glo "NotLists").ok,
  Z.excB "NotLists",
  Z.exmB "NotLists" "BadLot" false,
  Z.exmB "NotLists" "ShelfError" true,
  Z.kitBt "NotLists" "ValueError" true,
  Z.kitB2 "NotLists" "BadLot" false,
  Z.kitB2 "NotLists" "BadTable" false,
  Z.kitB2 "NotLists" "NotLists" true,
  (He.Fa.glo "Ratio").ok,
  (fun K => Z.ownB K "Ratio"),
  Z.mkrB "Ratio" "Ratio",
  (He.Fa.noat "Ratio" "top").ok,
  (He.Fa.noat "Ratio" "bottom").ok,
  Z.methB "Ratio" "__add__" "Ratio",
  Z.methB "Ratio" "__sub__" "Ratio",
  Z.methB "Ratio" "__neg__" "Ratio",
  (fun K => Z.ownB K "Rule"),
  (He.Fa.glo "Tabled").ok,
  (fun K => Z.ownB K "Tabled"),
  Z.mkrB "Tabled" "Tabled",
  Z.conIB "Tabled" "MOST" 6,
  (He.Fa.noat "Tabled" "rows").ok,
  (He.Fa.noat "Tabled" "many").ok,
  Z.methB "Tabled" "shares" "Tabled",
  Z.methB "Tabled" "away" "Rule",
  Z.thirdB,
  Z.clsB "TooMany",
  Z.mroB "TooMany" "TooMany",
  Z.clsB "BadTable",
  Z.mroB "BadTable" "BadTable",
  Z.clsB "Tabled",
  Z.mroB "Tabled" "Tabled",
  Z.supmB "Tabled" "Tabled" "__init__" "Rule",
  Z.supmB "Tabled" "Tabled" "shares" "Rule",
  Z.supB d_BadTable___init__ "BadTable" PySem.Challenge.pw_dearestshelf_k48_alternating_sums.main.file,
  Z.supB d_Tabled___init__ "Tabled" PySem.Challenge.pw_dearestshelf_k48_alternating_sums.main.file,
  Z.supB d_Tabled_shares "Tabled" PySem.Challenge.pw_dearestshelf_k48_alternating_sums.main.file,
  Z.supB d_TooMany___init__ "TooMany" PySem.Challenge.pw_dearestshelf_k48_alternating_sums.main.file]
abbrev Rw : PySem.W.OpenRow := PySem.W.OpenLaw.row PySem.Challenge.rw_dearestshelf_k48_alternating_sums
def aL : List Nat := [3, 59, 96, 138, 58, 117, 480, 159, 345, 479, 346, 400, 399, 72, 116, 84, 137, 135, 114, 454, 462, 95, 207, 214, 376, 270, 364, 369, 71, 228, 444, 461, 544, 551, 558, 565, 570, 185, 168, 83, 173, 409, 416, 158, 167, 172, 177, 184, 2, 423, 408, 415, 422, 429, 434, 439, 430, 488, 493, 500, 507, 512, 519, 526, 533, 538, 543, 550, 557, 564, 569, 435, 440, 178, 489, 494, 501, 508, 513, 520, 527, 534, 113, 102, 134, 123, 206, 200, 213, 227, 269, 363, 368, 375, 453, 539]
abbrev hk : PySem.W.Hook := Z.hookL aL fa fn fs
def ob (s : PySem.W.SharedT) : He.AlD := Z.obsL aL fa fn fs (HandSHeadRun.getT s)
theorem ob_eq (s : PySem.W.SharedT) : ob s = hk.obs s.abs := Z.obsL_eq (HandSHeadRun.getT_eq s)
def fa1 : List (PySem.W.Frag → Bool) := [(He.Fa.free "ValueError").ok,
  (He.Fa.free "bool").ok,
  (He.Fa.free "enumerate").ok,
  (He.Fa.free "int").ok,
  (He.Fa.free "isinstance").ok,
  (He.Fa.free "len").ok,
  (He.Fa.free "list").ok,
  (He.Fa.free "range").ok,
  (He.Fa.free "sum").ok,
  (He.Fa.free "super").ok,
  (He.Fa.free "tuple").ok,
  Z.bltB "gcd" "math.gcd",
  Z.bltB "lcm" "math.lcm",
  (He.Fa.glo "_law_alternating").ok,
  (He.Fa.glo "_law_cell").ok,
  (He.Fa.glo "_law_classes").ok,
  (He.Fa.glo "_law_draws").ok,
  (He.Fa.glo "_law_is_int").ok,
  (He.Fa.glo "_law_lot").ok,
  (He.Fa.glo "_law_no_lot").ok,
  (He.Fa.glo "_law_plus").ok,
  (He.Fa.glo "_law_power").ok,
  (He.Fa.glo "_law_refuses").ok,
  (He.Fa.glo "_law_right").ok,
  (He.Fa.glo "_law_same").ok,
  (He.Fa.glo "_law_table").ok,
  (He.Fa.glo "alternating").ok,
  (He.Fa.glo "check_lot").ok,
  (He.Fa.glo "fits_lot").ok,
  (He.Fa.glo "law").ok,
  (He.Fa.glo "lot_at").ok,
  (He.Fa.glo "lot_number").ok,
  (He.Fa.glo "lots").ok,
  (He.Fa.glo "lowest").ok,
  (He.Fa.glo "sum_over").ok,
  (He.Fa.glo "told_rows").ok,
  (He.Fa.glo "ShelfError").ok,
  Z.excB "ShelfError",
  Z.exmB "ShelfError" "BadLot" false,
  Z.exmB "ShelfError" "ShelfError" true,
  Z.kitBt "ShelfError" "ValueError" true,
  Z.kitB2 "ShelfError" "BadLot" false,
  Z.kitB2 "ShelfError" "BadTable" false,
  Z.kitB2 "ShelfError" "NotLists" false,
  (He.Fa.glo "ZeroBottom").ok,
  Z.excB "ZeroBottom",
  Z.exmB "ZeroBottom" "BadLot" false,
  Z.exmB "ZeroBottom" "ShelfError" true,
  Z.kitBt "ZeroBottom" "ValueError" true,
  Z.kitB2 "ZeroBottom" "BadLot" false,
  Z.kitB2 "ZeroBottom" "BadTable" false,
  Z.kitB2 "ZeroBottom" "NotLists" false,
  (He.Fa.exc "ZeroBottom").ok,
  Z.excB "BadText",
  Z.exmB "BadText" "BadLot" false,
  Z.exmB "BadText" "ShelfError" true,
  Z.kitBt "BadText" "ValueError" true,
  Z.kitB2 "BadText" "BadLot" false,
  Z.kitB2 "BadText" "BadTable" false,
  Z.kitB2 "BadText" "NotLists" false,
  (He.Fa.glo "BadLot").ok,
  Z.excB "BadLot",
  Z.exmB "BadLot" "BadLot" true,
  Z.exmB "BadLot" "ShelfError" true,
  Z.kitBt "BadLot" "ValueError" true]
def fa2 : List (PySem.W.Frag → Bool) := [Z.kitB2 "BadLot" "BadLot" true,
  Z.kitB2 "BadLot" "BadTable" false,
  Z.kitB2 "BadLot" "NotLists" false,
  (He.Fa.exc "BadLot").ok,
  (He.Fa.glo "TooMany").ok,
  Z.oexB "TooMany",
  Z.supiB "TooMany",
  Z.nometB "TooMany" "many",
  Z.nometB "TooMany" "most",
  Z.excB "TooMany",
  Z.exmB "TooMany" "BadLot" false,
  Z.exmB "TooMany" "ShelfError" true,
  Z.kitBt "TooMany" "ValueError" true,
  Z.kitB2 "TooMany" "BadLot" false,
  Z.kitB2 "TooMany" "BadTable" false,
  Z.kitB2 "TooMany" "NotLists" false,
  (He.Fa.glo "BadTable").ok,
  Z.oexB "BadTable",
  Z.supiB "BadTable",
  Z.nometB "BadTable" "at",
  Z.excB "BadTable",
  Z.exmB "BadTable" "BadLot" false,
  Z.exmB "BadTable" "ShelfError" true,
  Z.kitBt "BadTable" "ValueError" true,
  Z.kitB2 "BadTable" "BadLot" false,
  Z.kitB2 "BadTable" "BadTable" true,
  Z.kitB2 "BadTable" "NotLists" false,
  (He.Fa.glo "NotLists").ok,
  Z.excB "NotLists",
  Z.exmB "NotLists" "BadLot" false,
  Z.exmB "NotLists" "ShelfError" true,
  Z.kitBt "NotLists" "ValueError" true,
  Z.kitB2 "NotLists" "BadLot" false,
  Z.kitB2 "NotLists" "BadTable" false,
  Z.kitB2 "NotLists" "NotLists" true,
  (He.Fa.glo "Ratio").ok,
  (fun K => Z.ownB K "Ratio"),
  Z.mkrB "Ratio" "Ratio",
  (He.Fa.noat "Ratio" "top").ok,
  (He.Fa.noat "Ratio" "bottom").ok,
  Z.methB "Ratio" "__add__" "Ratio",
  Z.methB "Ratio" "__sub__" "Ratio",
  Z.methB "Ratio" "__neg__" "Ratio",
  (fun K => Z.ownB K "Rule"),
  (He.Fa.glo "Tabled").ok,
  (fun K => Z.ownB K "Tabled"),
  Z.mkrB "Tabled" "Tabled",
  Z.conIB "Tabled" "MOST" 6,
  (He.Fa.noat "Tabled" "rows").ok,
  (He.Fa.noat "Tabled" "many").ok,
  Z.methB "Tabled" "shares" "Tabled",
  Z.methB "Tabled" "away" "Rule",
  Z.thirdB,
  Z.clsB "TooMany",
  Z.mroB "TooMany" "TooMany",
  Z.clsB "BadTable",
  Z.mroB "BadTable" "BadTable",
  Z.clsB "Tabled",
  Z.mroB "Tabled" "Tabled",
  Z.supmB "Tabled" "Tabled" "__init__" "Rule",
  Z.supmB "Tabled" "Tabled" "shares" "Rule",
  Z.supB d_BadTable___init__ "BadTable" PySem.Challenge.pw_dearestshelf_k48_alternating_sums.main.file,
  Z.supB d_Tabled___init__ "Tabled" PySem.Challenge.pw_dearestshelf_k48_alternating_sums.main.file,
  Z.supB d_Tabled_shares "Tabled" PySem.Challenge.pw_dearestshelf_k48_alternating_sums.main.file,
  Z.supB d_TooMany___init__ "TooMany" PySem.Challenge.pw_dearestshelf_k48_alternating_sums.main.file]
theorem run1 (w : World) : (HandSHeadRun.wholeF (fun p => HandSHeadRun.stepQ (HandSHeadRun.denQ HandSHeadRun.tabQ) p w) HandSHeadRun.fenceQ 20000 Rw.prog).map (fun x => (HandSHeadRun.looksF Rw.prog x.1.heap x.2.abs, HandSHeadRun.seenQ (PySem.W.view Rw.prog [0, 44]) ((["_wall", "ShelfError", "ZeroBottom", "BadText", "BadLot", "TooMany", "BadTable", "NotLists", "check_lot", "lot_number", "lot_at", "lots", "DIGITS", "read_whole", "Ratio", "Rule", "told_rows", "sum_over", "alternating", "fits_lot", "lowest", "common_row", "Tabled", "_law_cell", "_law_draws"] : List Str) ++ (["_law_lot", "_law_power", "_law_table", "_law_is_int", "_law_same", "_law_plus", "_law_no_lot", "_law_alternating", "_law_right", "_law_refuses", "_law_classes"] : List Str)) (importedModules Rw.prog.main.body) (fun s => PySem.W.xlAt (PySem.W.view Rw.prog [0, 44]) [] s && PySem.W.recOk Rw.toRowW.records s) x.2.abs)) = some (true, PySem.W.openGood (PySem.W.view Rw.prog [0, 44]) ((["_wall", "ShelfError", "ZeroBottom", "BadText", "BadLot", "TooMany", "BadTable", "NotLists", "check_lot", "lot_number", "lot_at", "lots", "DIGITS", "read_whole", "Ratio", "Rule", "told_rows", "sum_over", "alternating", "fits_lot", "lowest", "common_row", "Tabled", "_law_cell", "_law_draws"] : List Str) ++ (["_law_lot", "_law_power", "_law_table", "_law_is_int", "_law_same", "_law_plus", "_law_no_lot", "_law_alternating", "_law_right", "_law_refuses", "_law_classes"] : List Str))) := by
  kernel_rfl
theorem run2 (w : World) : (HandSHeadRun.wholeF (fun p => HandSHeadRun.stepQ (HandSHeadRun.denQ HandSHeadRun.tabQ) p w) HandSHeadRun.fenceQ 20000 Rw.prog).map (fun x => fa1.all fun f => f (Z.KL aL x.2)) = some true := by
  kernel_rfl
theorem run3 (w : World) : (HandSHeadRun.wholeF (fun p => HandSHeadRun.stepQ (HandSHeadRun.denQ HandSHeadRun.tabQ) p w) HandSHeadRun.fenceQ 20000 Rw.prog).map (fun x => fa2.all fun f => f (Z.KL aL x.2)) = some true := by
  kernel_rfl
theorem run4 (w : World) : (HandSHeadRun.wholeF (fun p => HandSHeadRun.stepQ (HandSHeadRun.denQ HandSHeadRun.tabQ) p w) HandSHeadRun.fenceQ 20000 Rw.prog).map (fun x => (fn.all fun d => d.ok (Z.KL aL x.2), fn.map (fun d => He.fnW (Z.KL aL x.2) d.at_), fs.map fun d => Z.fnWs (Z.KL aL x.2) d.at_)) = some (true, fn.map He.DefD.val, fs.map He.DefD.val) := by
  kernel_rfl
theorem run (w : World) : HandSHeadRun.RunEqI Rw (PySem.W.view Rw.prog [0, 44]) hk ob 20000 ((["_wall", "ShelfError", "ZeroBottom", "BadText", "BadLot", "TooMany", "BadTable", "NotLists", "check_lot", "lot_number", "lot_at", "lots", "DIGITS", "read_whole", "Ratio", "Rule", "told_rows", "sum_over", "alternating", "fits_lot", "lowest", "common_row", "Tabled", "_law_cell", "_law_draws"] : List Str) ++ (["_law_lot", "_law_power", "_law_table", "_law_is_int", "_law_same", "_law_plus", "_law_no_lot", "_law_alternating", "_law_right", "_law_refuses", "_law_classes"] : List Str)) w := Z.run_joinL (fa1 := fa1) (fa2 := fa2) rfl (run1 w) (run2 w) (run3 w) (run4 w)
theorem tx {K : PySem.W.Frag} {h : Heap} {mg : Str → Option Value} (X : K.In h) (G : h.Ns mainGlobals mg) (c : Z.SaysY fa fn fs K) : Tx PySem.Challenge.pw_dearestshelf_k48_alternating_sums K mg := by
  have F_Ratio___add__ := Z.fd_of (c.d.def_ 0 (d := d_Ratio___add__) rfl)
  have F_Ratio___init__ := Z.fd_of (c.d.def_ 1 (d := d_Ratio___init__) rfl)
  have F_Ratio___neg__ := Z.fd_of (c.d.def_ 2 (d := d_Ratio___neg__) rfl)
  have F_Ratio___sub__ := Z.fd_of (c.d.def_ 3 (d := d_Ratio___sub__) rfl)
  have F_Rule___init__ := Z.fd_of (c.d.def_ 4 (d := d_Rule___init__) rfl)
  have F_Rule_away := Z.fd_of (c.d.def_ 5 (d := d_Rule_away) rfl)
  have F_Rule_shares := Z.fd_of (c.d.def_ 6 (d := d_Rule_shares) rfl)
  have F__law_alternating := Z.fd_of (c.d.def_ 7 (d := d__law_alternating) rfl)
  have F__law_cell := Z.fd_of (c.d.def_ 8 (d := d__law_cell) rfl)
  have F__law_classes := Z.fd_of (c.d.def_ 9 (d := d__law_classes) rfl)
  have F__law_draws := Z.fd_of (c.d.def_ 10 (d := d__law_draws) rfl)
  have F__law_is_int := Z.fd_of (c.d.def_ 11 (d := d__law_is_int) rfl)
  have F__law_lot := Z.fd_of (c.d.def_ 12 (d := d__law_lot) rfl)
  have F__law_no_lot := Z.fd_of (c.d.def_ 13 (d := d__law_no_lot) rfl)
  have F__law_plus := Z.fd_of (c.d.def_ 14 (d := d__law_plus) rfl)
  have F__law_power := Z.fd_of (c.d.def_ 15 (d := d__law_power) rfl)
  have F__law_refuses := Z.fd_of (c.d.def_ 16 (d := d__law_refuses) rfl)
  have F__law_right := Z.fd_of (c.d.def_ 17 (d := d__law_right) rfl)
  have F__law_same := Z.fd_of (c.d.def_ 18 (d := d__law_same) rfl)
  have F__law_table := Z.fd_of (c.d.def_ 19 (d := d__law_table) rfl)
  have F_alternating := Z.fd_of (c.d.def_ 20 (d := d_alternating) rfl)
  have F_check_lot := Z.fd_of (c.d.def_ 21 (d := d_check_lot) rfl)
  have F_common_row := Z.fd_of (c.d.def_ 22 (d := d_common_row) rfl)
  have F_fits_lot := Z.fd_of (c.d.def_ 23 (d := d_fits_lot) rfl)
  have F_law := Z.fd_of (c.d.def_ 24 (d := d_law) rfl)
  have F_lot_at := Z.fd_of (c.d.def_ 25 (d := d_lot_at) rfl)
  have F_lot_number := Z.fd_of (c.d.def_ 26 (d := d_lot_number) rfl)
  have F_lots := Z.fd_of (c.d.def_ 27 (d := d_lots) rfl)
  have F_lowest := Z.fd_of (c.d.def_ 28 (d := d_lowest) rfl)
  have F_sum_over := Z.fd_of (c.d.def_ 29 (d := d_sum_over) rfl)
  have F_told_rows := Z.fd_of (c.d.def_ 30 (d := d_told_rows) rfl)
  have F_BadTable___init__ := Z.fdOf_S (P := PySem.Challenge.pw_dearestshelf_k48_alternating_sums) (Z.supB_ok (c.sup 0 rfl) (c.fact 126 rfl))
  have F_Tabled___init__ := Z.fdOf_S (P := PySem.Challenge.pw_dearestshelf_k48_alternating_sums) (Z.supB_ok (c.sup 1 rfl) (c.fact 127 rfl))
  have F_Tabled_shares := Z.fdOf_S (P := PySem.Challenge.pw_dearestshelf_k48_alternating_sums) (Z.supB_ok (c.sup 2 rfl) (c.fact 128 rfl))
  have F_TooMany___init__ := Z.fdOf_S (P := PySem.Challenge.pw_dearestshelf_k48_alternating_sums) (Z.supB_ok (c.sup 3 rfl) (c.fact 129 rfl))
  exact {
    n_ValueError := He.free_ok X G (c.fact 0 rfl)
    n_bool := He.free_ok X G (c.fact 1 rfl)
    n_enumerate := He.free_ok X G (c.fact 2 rfl)
    n_int := He.free_ok X G (c.fact 3 rfl)
    n_isinstance := He.free_ok X G (c.fact 4 rfl)
    n_len := He.free_ok X G (c.fact 5 rfl)
    n_list := He.free_ok X G (c.fact 6 rfl)
    n_range := He.free_ok X G (c.fact 7 rfl)
    n_sum := He.free_ok X G (c.fact 8 rfl)
    n_super := He.free_ok X G (c.fact 9 rfl)
    n_tuple := He.free_ok X G (c.fact 10 rfl)
    m_gcd := Z.blt_ok X G (c.fact 11 rfl)
    m_lcm := Z.blt_ok X G (c.fact 12 rfl)
    g__law_alternating := He.glo_ok X G (c.fact 13 rfl)
    g__law_cell := He.glo_ok X G (c.fact 14 rfl)
    g__law_classes := He.glo_ok X G (c.fact 15 rfl)
    g__law_draws := He.glo_ok X G (c.fact 16 rfl)
    g__law_is_int := He.glo_ok X G (c.fact 17 rfl)
    g__law_lot := He.glo_ok X G (c.fact 18 rfl)
    g__law_no_lot := He.glo_ok X G (c.fact 19 rfl)
    g__law_plus := He.glo_ok X G (c.fact 20 rfl)
    g__law_power := He.glo_ok X G (c.fact 21 rfl)
    g__law_refuses := He.glo_ok X G (c.fact 22 rfl)
    g__law_right := He.glo_ok X G (c.fact 23 rfl)
    g__law_same := He.glo_ok X G (c.fact 24 rfl)
    g__law_table := He.glo_ok X G (c.fact 25 rfl)
    g_alternating := He.glo_ok X G (c.fact 26 rfl)
    g_check_lot := He.glo_ok X G (c.fact 27 rfl)
    g_fits_lot := He.glo_ok X G (c.fact 28 rfl)
    g_law := He.glo_ok X G (c.fact 29 rfl)
    g_lot_at := He.glo_ok X G (c.fact 30 rfl)
    g_lot_number := He.glo_ok X G (c.fact 31 rfl)
    g_lots := He.glo_ok X G (c.fact 32 rfl)
    g_lowest := He.glo_ok X G (c.fact 33 rfl)
    g_sum_over := He.glo_ok X G (c.fact 34 rfl)
    g_told_rows := He.glo_ok X G (c.fact 35 rfl)
    g_ShelfError := He.glo_ok X G (c.fact 36 rfl)
    ec_ShelfError := Z.excB_ok (c.fact 37 rfl)
    exm_ShelfError_BadLot := Z.exmB_ok (c.fact 38 rfl)
    exm_ShelfError_ShelfError := Z.exmB_ok (c.fact 39 rfl)
    ki_ShelfError_ValueError := Z.kitBt_ok (c.fact 40 rfl)
    ki_ShelfError_BadLot := Z.kitB2_ok (c.fact 41 rfl)
    ki_ShelfError_BadTable := Z.kitB2_ok (c.fact 42 rfl)
    ki_ShelfError_NotLists := Z.kitB2_ok (c.fact 43 rfl)
    g_ZeroBottom := He.glo_ok X G (c.fact 44 rfl)
    ec_ZeroBottom := Z.excB_ok (c.fact 45 rfl)
    exm_ZeroBottom_BadLot := Z.exmB_ok (c.fact 46 rfl)
    exm_ZeroBottom_ShelfError := Z.exmB_ok (c.fact 47 rfl)
    ki_ZeroBottom_ValueError := Z.kitBt_ok (c.fact 48 rfl)
    ki_ZeroBottom_BadLot := Z.kitB2_ok (c.fact 49 rfl)
    ki_ZeroBottom_BadTable := Z.kitB2_ok (c.fact 50 rfl)
    ki_ZeroBottom_NotLists := Z.kitB2_ok (c.fact 51 rfl)
    x_ZeroBottom := He.exc_ok (c.fact 52 rfl)
    ec_BadText := Z.excB_ok (c.fact 53 rfl)
    exm_BadText_BadLot := Z.exmB_ok (c.fact 54 rfl)
    exm_BadText_ShelfError := Z.exmB_ok (c.fact 55 rfl)
    ki_BadText_ValueError := Z.kitBt_ok (c.fact 56 rfl)
    ki_BadText_BadLot := Z.kitB2_ok (c.fact 57 rfl)
    ki_BadText_BadTable := Z.kitB2_ok (c.fact 58 rfl)
    ki_BadText_NotLists := Z.kitB2_ok (c.fact 59 rfl)
    g_BadLot := He.glo_ok X G (c.fact 60 rfl)
    ec_BadLot := Z.excB_ok (c.fact 61 rfl)
    exm_BadLot_BadLot := Z.exmB_ok (c.fact 62 rfl)
    exm_BadLot_ShelfError := Z.exmB_ok (c.fact 63 rfl)
    ki_BadLot_ValueError := Z.kitBt_ok (c.fact 64 rfl)
    ki_BadLot_BadLot := Z.kitB2_ok (c.fact 65 rfl)
    ki_BadLot_BadTable := Z.kitB2_ok (c.fact 66 rfl)
    ki_BadLot_NotLists := Z.kitB2_ok (c.fact 67 rfl)
    x_BadLot := He.exc_ok (c.fact 68 rfl)
    g_TooMany := He.glo_ok X G (c.fact 69 rfl)
    oe_TooMany := Z.oexB_ok (c.fact 70 rfl)
    si_TooMany := Z.supiB_ok (c.fact 71 rfl)
    nf_TooMany_many := Z.nomet_ok (c.fact 72 rfl)
    nf_TooMany_most := Z.nomet_ok (c.fact 73 rfl)
    ec_TooMany := Z.excB_ok (c.fact 74 rfl)
    exm_TooMany_BadLot := Z.exmB_ok (c.fact 75 rfl)
    exm_TooMany_ShelfError := Z.exmB_ok (c.fact 76 rfl)
    ki_TooMany_ValueError := Z.kitBt_ok (c.fact 77 rfl)
    ki_TooMany_BadLot := Z.kitB2_ok (c.fact 78 rfl)
    ki_TooMany_BadTable := Z.kitB2_ok (c.fact 79 rfl)
    ki_TooMany_NotLists := Z.kitB2_ok (c.fact 80 rfl)
    g_BadTable := He.glo_ok X G (c.fact 81 rfl)
    oe_BadTable := Z.oexB_ok (c.fact 82 rfl)
    si_BadTable := Z.supiB_ok (c.fact 83 rfl)
    nf_BadTable_at := Z.nomet_ok (c.fact 84 rfl)
    ec_BadTable := Z.excB_ok (c.fact 85 rfl)
    exm_BadTable_BadLot := Z.exmB_ok (c.fact 86 rfl)
    exm_BadTable_ShelfError := Z.exmB_ok (c.fact 87 rfl)
    ki_BadTable_ValueError := Z.kitBt_ok (c.fact 88 rfl)
    ki_BadTable_BadLot := Z.kitB2_ok (c.fact 89 rfl)
    ki_BadTable_BadTable := Z.kitB2_ok (c.fact 90 rfl)
    ki_BadTable_NotLists := Z.kitB2_ok (c.fact 91 rfl)
    g_NotLists := He.glo_ok X G (c.fact 92 rfl)
    ec_NotLists := Z.excB_ok (c.fact 93 rfl)
    exm_NotLists_BadLot := Z.exmB_ok (c.fact 94 rfl)
    exm_NotLists_ShelfError := Z.exmB_ok (c.fact 95 rfl)
    ki_NotLists_ValueError := Z.kitBt_ok (c.fact 96 rfl)
    ki_NotLists_BadLot := Z.kitB2_ok (c.fact 97 rfl)
    ki_NotLists_BadTable := Z.kitB2_ok (c.fact 98 rfl)
    ki_NotLists_NotLists := Z.kitB2_ok (c.fact 99 rfl)
    g_Ratio := He.glo_ok X G (c.fact 100 rfl)
    o_Ratio := Z.ownB_ok (c.fact 101 rfl)
    mk_Ratio := Z.mkrB_ok (c.fact 102 rfl)
    na_Ratio_top := He.noat_ok (c.fact 103 rfl)
    na_Ratio_bottom := He.noat_ok (c.fact 104 rfl)
    me_Ratio___add__ := Z.methB_ok (c.fact 105 rfl)
    me_Ratio___sub__ := Z.methB_ok (c.fact 106 rfl)
    me_Ratio___neg__ := Z.methB_ok (c.fact 107 rfl)
    o_Rule := Z.ownB_ok (c.fact 108 rfl)
    g_Tabled := He.glo_ok X G (c.fact 109 rfl)
    o_Tabled := Z.ownB_ok (c.fact 110 rfl)
    mk_Tabled := Z.mkrB_ok (c.fact 111 rfl)
    k_Tabled_MOST := (Z.conIB_ok (c.fact 112 rfl) (by decide +kernel))
    na_Tabled_rows := He.noat_ok (c.fact 113 rfl)
    na_Tabled_many := He.noat_ok (c.fact 114 rfl)
    me_Tabled_shares := Z.methB_ok (c.fact 115 rfl)
    me_Tabled_away := Z.methB_ok (c.fact 116 rfl)
    third := Z.thirdB_ok (c.fact 117 rfl)
    c_TooMany := Z.clsB_ok (c.fact 118 rfl)
    mro_TooMany_TooMany := Z.mroB_ok (c.fact 119 rfl)
    c_BadTable := Z.clsB_ok (c.fact 120 rfl)
    mro_BadTable_BadTable := Z.mroB_ok (c.fact 121 rfl)
    c_Tabled := Z.clsB_ok (c.fact 122 rfl)
    mro_Tabled_Tabled := Z.mroB_ok (c.fact 123 rfl)
    sm_Tabled_Tabled___init__ := Z.supmB_ok (c.fact 124 rfl)
    sm_Tabled_Tabled_shares := Z.supmB_ok (c.fact 125 rfl)
    F_Ratio___add__ := F_Ratio___add__
    F_Ratio___init__ := F_Ratio___init__
    F_Ratio___neg__ := F_Ratio___neg__
    F_Ratio___sub__ := F_Ratio___sub__
    F_Rule___init__ := F_Rule___init__
    F_Rule_away := F_Rule_away
    F_Rule_shares := F_Rule_shares
    F__law_alternating := F__law_alternating
    F__law_cell := F__law_cell
    F__law_classes := F__law_classes
    F__law_draws := F__law_draws
    F__law_is_int := F__law_is_int
    F__law_lot := F__law_lot
    F__law_no_lot := F__law_no_lot
    F__law_plus := F__law_plus
    F__law_power := F__law_power
    F__law_refuses := F__law_refuses
    F__law_right := F__law_right
    F__law_same := F__law_same
    F__law_table := F__law_table
    F_alternating := F_alternating
    F_check_lot := F_check_lot
    F_common_row := F_common_row
    F_fits_lot := F_fits_lot
    F_law := F_law
    F_lot_at := F_lot_at
    F_lot_number := F_lot_number
    F_lots := F_lots
    F_lowest := F_lowest
    F_sum_over := F_sum_over
    F_told_rows := F_told_rows
    F_BadTable___init__ := F_BadTable___init__
    F_Tabled___init__ := F_Tabled___init__
    F_Tabled_shares := F_Tabled_shares
    F_TooMany___init__ := F_TooMany___init__
    p_top := by kernel_rfl
    b_Ratio___add__ := F_Ratio___add__.bindsN fun _ _ _ _ _ _ us hl => match us, hl with | [_, _], _ => rfl
    b2_Ratio___init__ := F_Ratio___init__.binds1 2 0 (by intro z; cases z) rfl fun _ _ _ _ _ _ _ us its hl hi => match us, hl, its, hi with | [_, _], _, [_], _ => ⟨_, rfl, rfl⟩
    b3_Ratio___init__ := F_Ratio___init__.binds1 3 1 (by intro z; cases z) rfl fun _ _ _ _ _ _ _ us its hl hi => match us, hl, its, hi with | [_, _, _], _, [_], _ => ⟨_, rfl, rfl⟩
    b_Ratio___neg__ := F_Ratio___neg__.bindsN fun _ _ _ _ _ _ us hl => match us, hl with | [_], _ => rfl
    b_Ratio___sub__ := F_Ratio___sub__.bindsN fun _ _ _ _ _ _ us hl => match us, hl with | [_, _], _ => rfl
    b_Rule___init__ := F_Rule___init__.bindsN fun _ _ _ _ _ _ us hl => match us, hl with | [_, _], _ => rfl
    b_Rule_away := F_Rule_away.bindsN fun _ _ _ _ _ _ us hl => match us, hl with | [_, _], _ => rfl
    b_Rule_shares := F_Rule_shares.bindsN fun _ _ _ _ _ _ us hl => match us, hl with | [_, _], _ => rfl
    b__law_alternating := F__law_alternating.bindsN fun _ _ _ _ _ _ us hl => match us, hl with | [_, _, _, _], _ => rfl
    b__law_cell := F__law_cell.bindsN fun _ _ _ _ _ _ us hl => match us, hl with | [_, _], _ => rfl
    b__law_classes := F__law_classes.bindsN fun _ _ _ _ _ _ us hl => match us, hl with | [_, _], _ => rfl
    b__law_draws := F__law_draws.bindsN fun _ _ _ _ _ _ us hl => match us, hl with | [_, _], _ => rfl
    b__law_is_int := F__law_is_int.bindsN fun _ _ _ _ _ _ us hl => match us, hl with | [_], _ => rfl
    b__law_lot := F__law_lot.bindsN fun _ _ _ _ _ _ us hl => match us, hl with | [_, _], _ => rfl
    b__law_no_lot := F__law_no_lot.bindsN fun _ _ _ _ _ _ us hl => match us, hl with | [_, _, _], _ => rfl
    b__law_plus := F__law_plus.bindsN fun _ _ _ _ _ _ us hl => match us, hl with | [_, _], _ => rfl
    b__law_power := F__law_power.bindsN fun _ _ _ _ _ _ us hl => match us, hl with | [_], _ => rfl
    b__law_refuses := F__law_refuses.bindsN fun _ _ _ _ _ _ us hl => match us, hl with | [_, _], _ => rfl
    b__law_right := F__law_right.bindsN fun _ _ _ _ _ _ us hl => match us, hl with | [_, _, _, _], _ => rfl
    b__law_same := F__law_same.bindsN fun _ _ _ _ _ _ us hl => match us, hl with | [_, _, _], _ => rfl
    b__law_table := F__law_table.bindsN fun _ _ _ _ _ _ us hl => match us, hl with | [_, _], _ => rfl
    b_alternating := F_alternating.bindsN fun _ _ _ _ _ _ us hl => match us, hl with | [_, _, _], _ => rfl
    b_check_lot := F_check_lot.bindsN fun _ _ _ _ _ _ us hl => match us, hl with | [_, _], _ => rfl
    b_common_row := F_common_row.bindsN fun _ _ _ _ _ _ us hl => match us, hl with | [_], _ => rfl
    b_fits_lot := F_fits_lot.bindsN fun _ _ _ _ _ _ us hl => match us, hl with | [_, _, _], _ => rfl
    b_law := F_law.bindsN fun _ _ _ _ _ _ us hl => match us, hl with | [_], _ => rfl
    b_lot_at := F_lot_at.bindsN fun _ _ _ _ _ _ us hl => match us, hl with | [_, _], _ => rfl
    b_lot_number := F_lot_number.bindsN fun _ _ _ _ _ _ us hl => match us, hl with | [_], _ => rfl
    b_lots := F_lots.bindsN fun _ _ _ _ _ _ us hl => match us, hl with | [_], _ => rfl
    b_lowest := F_lowest.bindsN fun _ _ _ _ _ _ us hl => match us, hl with | [_], _ => rfl
    b_sum_over := F_sum_over.bindsN fun _ _ _ _ _ _ us hl => match us, hl with | [_, _, _], _ => rfl
    b_told_rows := F_told_rows.bindsN fun _ _ _ _ _ _ us hl => match us, hl with | [_], _ => rfl
    b_BadTable___init__ := Z.FunS.binds F_BadTable___init__ fun _ _ _ _ _ _ us hl => match us, hl with | [_, _], _ => rfl
    b_Tabled___init__ := Z.FunS.binds F_Tabled___init__ fun _ _ _ _ _ _ us hl => match us, hl with | [_, _, _], _ => rfl
    b_Tabled_shares := Z.FunS.binds F_Tabled_shares fun _ _ _ _ _ _ us hl => match us, hl with | [_, _], _ => rfl
    b_TooMany___init__ := Z.FunS.binds F_TooMany___init__ fun _ _ _ _ _ _ us hl => match us, hl with | [_, _, _], _ => rfl }
def sp_law0 (K : PySem.W.Frag) : Sp := fun vs H Q _ => ∃ (a : Addr) (ns : List Int), vs = [.ref a] ∧ SqL K H a (ns.map V.int) ∧ ∀ H', Q (.bl true) H'
end R
section
open PySem PySem.W PySem.Calls PyProof.Rows
set_option maxRecDepth 100000 in
set_option maxHeartbeats 0 in
theorem R.fin (ok : ∀ {w : World} {K : PySem.W.Frag} {mg : PySem.Str → Option Value} {base : Heap}, R.Tx PySem.Challenge.pw_dearestshelf_k48_alternating_sums K mg → L2.FnOk PySem.Challenge.pw_dearestshelf_k48_alternating_sums w K mg base L2.CX0 9 (He.ga K "law") (Z.fdOf K (He.ga K "law")) ["_law_script"] (R.sp_law0 K)) : PySem.Challenge.rw_dearestshelf_k48_alternating_sums.Holds := by
  w_on; o_law
  refine HandSHeadRun.head_imp (r := OpenLaw.row PySem.Challenge.rw_dearestshelf_k48_alternating_sums) (q := view (OpenLaw.row PySem.Challenge.rw_dearestshelf_k48_alternating_sums).prog [0, 44]) (H := R.hk) (ob := R.ob) (M := 20000) (loose := ((["_wall", "ShelfError", "ZeroBottom", "BadText", "BadLot", "TooMany", "BadTable", "NotLists", "check_lot", "lot_number", "lot_at", "lots", "DIGITS", "read_whole", "Ratio", "Rule", "told_rows", "sum_over", "alternating", "fits_lot", "lowest", "common_row", "Tabled", "_law_cell", "_law_draws"] : List Str) ++ (["_law_lot", "_law_power", "_law_table", "_law_is_int", "_law_same", "_law_plus", "_law_no_lot", "_law_alternating", "_law_right", "_law_refuses", "_law_classes"] : List Str))) (d := HandSHeadRun.topDef (OpenLaw.row PySem.Challenge.rw_dearestshelf_k48_alternating_sums).prog 44) (kwd := []) R.ob_eq
    R.run (by kernel_rfl) (by kernel_rfl) (by kernel_rfl) (by rfl) (by first | assumption | decide +kernel) (by decide +kernel) ⟨rfl, rfl, rfl, rfl, rfl, by decide +kernel⟩ ?hw ?hc
  case hw => w_witness2
  case hc =>
    refine L2.walk_ofE (l := PySem.Challenge.rw_dearestshelf_k48_alternating_sums) (n := 63) (k := 9) (x := "_law_script") (CX := L2.CX0) rfl (by decide) (by kernel_rfl) ⟨rfl, by decide, by decide⟩ ?F (fun _ _ _ _ z => z)
    intro w mg fa h Y G hmg0
    obtain ⟨K, KX, c⟩ := Y
    have hmg : mg ("law" : PySem.Str) = some (.ref fa) := by
      have e : (HandSHeadRun.topDef (OpenLaw.row PySem.Challenge.rw_dearestshelf_k48_alternating_sums).prog 44).name = ("law" : PySem.Str) := by kernel_rfl
      rw [← e]
      exact hmg0
    have T := R.tx KX G c
    have e := hmg.symm.trans T.g_law
    cases e
    have b := L2.FunD.bindsA (ps := ["_law_script"]) T.F_law fun _ _ _ _ _ _ us hl => match us, hl with | [_], _ => rfl
    exact ⟨K, _, R.sp_law0 K, KX, fun s v => b s [v] rfl, fun H a ns hl _ hS => ⟨a, ns, rfl, hS, fun _ => rfl⟩, fun base _ _ => ok T⟩
end
namespace R
open PySem L2 Z
variable {P : Program} {w : World} {K : PySem.W.Frag} {mg : Str → Option Value} {base : Heap}
--lib
/-! ### a Ratio stands for a Rat -/
def rF (t b : Int) : List (Str × V) := [("top", .int t), ("bottom", .int b)]
theorem rF_top (t b : Int) : (rF t b).lookup ("top" : Str) = some (.int t) := rfl
theorem rF_bottom (t b : Int) : (rF t b).lookup ("bottom" : Str) = some (.int b) := by
  have h : (("bottom" : Str) == ("top" : Str)) = false := by decide +kernel
  simp only [rF, List.lookup, h]
  rfl
theorem rF_put (t b : Int) : putF "bottom" (.int b) (putF "top" (.int t) []) = rF t b := by
  have h : ¬ (("top" : Str) = ("bottom" : Str)) := by decide +kernel
  show (if ("top" : Str) = "bottom" then _ else _) = _
  rw [if_neg h]
  rfl
theorem rF_no (t b : Int) {m : Str} (h1 : (m == ("top" : Str)) = false) (h2 : (m == ("bottom" : Str)) = false) : (rF t b).lookup m = none := by
  simp only [rF, List.lookup, h1, h2]
/-- numbers of less than n bits -/
def Sz (q : Rat) (n : Nat) : Prop := q.num.natAbs < 2 ^ n ∧ q.den < 2 ^ n
theorem Sz.mono {q : Rat} {n m : Nat} (h : Sz q n) (hm : n ≤ m) : Sz q m := ⟨Nat.lt_of_lt_of_le h.1 (Nat.pow_le_pow_right (by decide) hm), Nat.lt_of_lt_of_le h.2 (Nat.pow_le_pow_right (by decide) hm)⟩
theorem Sz.den {q : Rat} {n : Nat} (h : Sz q n) : ((q.den : Int)).natAbs < 2 ^ n := by rw [Int.natAbs_natCast]; exact h.2
theorem Sz.num {q : Rat} {n : Nat} (h : Sz q n) : q.num.natAbs < 2 ^ n := h.1
/-- the Ratio of q stands at a, its numbers have less than n bits -/
structure RN (C : Addr) (H : Hp) (a : Addr) (q : Rat) (n : Nat) : Prop where
  at_ : ∃ dx, At H a (.ins C dx (rF q.num q.den))
  sz : Sz q n
  le : n ≤ 13400
theorem RN.ex {C a : Addr} {H H' : Hp} {q : Rat} {n : Nat} (h : RN C H a q n) (e : Ex H H') : RN C H' a q n := ⟨⟨h.at_.choose, e.get h.at_.choose_spec⟩, h.sz, h.le⟩
theorem RN.nl {C a : Addr} {H H' : Hp} {q : Rat} {n : Nat} (h : RN C H a q n) (e : Nl H H') : RN C H' a q n := ⟨⟨h.at_.choose, e.get (fun l z => by cases z) h.at_.choose_spec⟩, h.sz, h.le⟩
theorem rnE {C a : Addr} {H H' : Hp} {q : Rat} {n : Nat} (h : RN C H a q n) (e : Exs H H') : RN C H' a q n := h.ex e.ex
theorem rnN {C a : Addr} {H H' : Hp} {q : Rat} {n : Nat} (h : RN C H a q n) (e : Nls H H') : RN C H' a q n := h.nl e.nl
theorem RN.eq {C a : Addr} {H : Hp} {q r : Rat} {n m : Nat} (h : RN C H a q n) (e : q = r) (hm : n ≤ m) (h9 : m ≤ 13400) : RN C H a r m := ⟨e ▸ h.at_, e ▸ h.sz.mono hm, h9⟩
/-- an int or a Ratio -/
inductive RZ (C : Addr) (H : Hp) : V → Rat → Nat → Prop where
  | int {i : Int} {n : Nat} (h : i.natAbs < 2 ^ n) : RZ C H (.int i) (i : Rat) n
  | rat {a : Addr} {q : Rat} {n : Nat} (h : RN C H a q n) : RZ C H (.ref a) q n
theorem RZ.ex {C : Addr} {H H' : Hp} {v : V} {q : Rat} {n : Nat} (h : RZ C H v q n) (e : Ex H H') : RZ C H' v q n := by
  cases h with
  | int h => exact .int h
  | rat h => exact .rat (h.ex e)
/-- what __init__ reckons -/
theorem div_num {t b : Int} (hb : 0 < b) : (Rat.divInt t b).num = t / ((Nat.gcd t.natAbs b.natAbs : Nat) : Int) := by
  rw [Rat.num_divInt, Int.sign_eq_one_of_pos hb, Int.one_mul, Int.gcd_comm]; rfl
theorem div_den {t b : Int} (hb : 0 < b) : ((Rat.divInt t b).den : Int) = b / ((Nat.gcd t.natAbs b.natAbs : Nat) : Int) := by
  rw [Rat.den_divInt, if_neg (by omega), Int.gcd_comm, Int.natCast_ediv, Int.natAbs_of_nonneg (by omega)]; rfl
theorem sz_div {t b : Int} {n : Nat} (hb : b ≠ 0) (h1 : t.natAbs < 2 ^ n) (h2 : b.natAbs < 2 ^ n) : Sz (Rat.divInt t b) n := by
  constructor
  · rw [Rat.num_divInt]
    refine Nat.lt_of_le_of_lt ?_ h1
    refine Nat.le_trans (Int.natAbs_ediv_le_natAbs _ _) ?_
    rw [Int.natAbs_mul, Int.natAbs_sign_of_ne_zero hb]
    omega
  · rw [Rat.den_divInt, if_neg hb]
    exact Nat.lt_of_le_of_lt (Nat.div_le_self _ _) h2
theorem rat_eq (q : Rat) : q = Rat.divInt q.num q.den := (Rat.num_divInt_den q).symm
theorem div1 (n : Int) : (n : Rat) = Rat.divInt n 1 := by
  apply Rat.ext
  · rw [Rat.num_divInt]; simp
  · rw [Rat.den_divInt]; simp
theorem sz_int {i : Int} {n : Nat} (h : i.natAbs < 2 ^ n) : Sz (i : Rat) (n + 1) := by
  rw [div1]
  exact sz_div (by decide) (bt_mono h (by omega)) (by rw [Nat.pow_succ]; have := Nat.pow_pos (n := n) (show 0 < 2 by decide); show 1 < _; omega)
theorem den0 (q : Rat) : (q.den : Int) ≠ 0 := by have := q.den_pos; omega
theorem den1 (q : Rat) : (0 : Int) < q.den := by have := q.den_pos; omega
/-- sums, products, as __init__ is called for them -/
theorem add_int (q : Rat) (n : Int) : q + (n : Rat) = Rat.divInt (q.num + n * q.den) q.den := by
  conv => lhs; rw [div1 n, rat_eq q]
  rw [Rat.divInt_add_divInt _ _ (den0 q) (by decide), Int.mul_one, Int.mul_one]
theorem sub_int (q : Rat) (n : Int) : q - (n : Rat) = Rat.divInt (q.num - n * q.den) q.den := by
  conv => lhs; rw [div1 n, rat_eq q]
  rw [Rat.divInt_sub_divInt _ _ (den0 q) (by decide), Int.mul_one, Int.mul_one]
theorem mul_int' (q : Rat) (n : Int) : q * (n : Rat) = Rat.divInt (q.num * n) q.den := by
  conv => lhs; rw [div1 n, rat_eq q]
  rw [Rat.divInt_mul_divInt, Int.mul_one]
theorem add_rat (q r : Rat) : q + r = Rat.divInt (q.num * r.den + r.num * q.den) (q.den * r.den) := by
  conv => lhs; rw [rat_eq q, rat_eq r]
  rw [Rat.divInt_add_divInt _ _ (den0 q) (den0 r)]
theorem sub_rat (q r : Rat) : q - r = Rat.divInt (q.num * r.den - r.num * q.den) (q.den * r.den) := by
  conv => lhs; rw [rat_eq q, rat_eq r]
  rw [Rat.divInt_sub_divInt _ _ (den0 q) (den0 r)]
theorem mul_rat (q r : Rat) : q * r = Rat.divInt (q.num * r.num) (q.den * r.den) := by
  conv => lhs; rw [rat_eq q, rat_eq r]
  rw [Rat.divInt_mul_divInt]
theorem up9 {a : Int} {n : Nat} (h : a.natAbs < 2 ^ n) (hn : n ≤ 13400) : a.natAbs < 2 ^ 13400 := bt_mono h hn
theorem num0 {q : Rat} : q.num = 0 ↔ q = 0 := by
  constructor
  · intro h
    rw [rat_eq q, h]
    exact Rat.zero_divInt _
  · intro h; rw [h]; rfl
/-- quotients -/
theorem div_int (q : Rat) {n : Int} (h : n ≠ 0) : q / (n : Rat) = Rat.divInt q.num (q.den * n) := by
  conv => lhs; rw [div1 n, rat_eq q]
  rw [Rat.div_def, Rat.inv_divInt, Rat.divInt_mul_divInt, Int.mul_one]
theorem div_rat (q r : Rat) : q / r = Rat.divInt (q.num * r.den) (q.den * r.num) := by
  conv => lhs; rw [rat_eq q, rat_eq r]
  rw [Rat.div_def, Rat.inv_divInt, Rat.divInt_mul_divInt]
/-- order by whole numbers -/
theorem lt_rat (q r : Rat) : q < r ↔ q.num * r.den < r.num * q.den := Rat.lt_iff q r
theorem le_rat (q r : Rat) : q ≤ r ↔ q.num * r.den ≤ r.num * q.den := Rat.le_iff q r
theorem lt_int (q : Rat) (n : Int) : q < (n : Rat) ↔ q.num < n * q.den := by rw [lt_rat]; simp
theorem le_int (q : Rat) (n : Int) : q ≤ (n : Rat) ↔ q.num ≤ n * q.den := by rw [le_rat]; simp
theorem int_lt (q : Rat) (n : Int) : (n : Rat) < q ↔ n * q.den < q.num := by rw [lt_rat]; simp
theorem int_le (q : Rat) (n : Int) : (n : Rat) ≤ q ↔ n * q.den ≤ q.num := by rw [le_rat]; simp
theorem eq_rat (q r : Rat) : q = r ↔ (q.num = r.num ∧ (q.den : Int) = r.den) := by
  constructor
  · rintro rfl; exact ⟨rfl, rfl⟩
  · rintro ⟨h1, h2⟩
    exact Rat.ext h1 (by omega)
/-- a Ratio's fields, behind its __init__ -/
theorem mk_rat {C p dx : Addr} {H H2 H' : Hp} {q : Rat} {n : Nat} (nw : New C H p dx H2) (h1 : ∀ c o, c ≠ p → At H2 c o → At H' c o) (h2 : At H' p (.ins C dx (rF q.num q.den))) (hs : Sz q n) (hn : n ≤ 13400) : Ex H H' ∧ RN C H' p q n :=
  ⟨⟨fun {a} {o} e => h1 a o (e.ne nw.new) (nw.ex.get e)⟩, ⟨dx, h2⟩, hs, hn⟩
theorem floor_nd (q : Rat) : q.floor = q.num / q.den := by
  unfold Rat.floor
  split
  · rename_i h; rw [h]; simp
  · rfl
theorem le_divI {f t b : Int} (hb : 0 < b) : (f : Rat) ≤ Rat.divInt t b ↔ f * b ≤ t := by
  have h0 : (0 : Rat) < (b : Rat) := by exact_mod_cast hb
  rw [Rat.divInt_eq_div, ← Rat.not_lt, Rat.div_lt_iff h0, Rat.not_lt]
  exact_mod_cast Iff.rfl
theorem divI_lt {f t b : Int} (hb : 0 < b) : Rat.divInt t b < (f : Rat) ↔ t < f * b := by
  have h0 : (0 : Rat) < (b : Rat) := by exact_mod_cast hb
  rw [Rat.divInt_eq_div, Rat.div_lt_iff h0]
  exact_mod_cast Iff.rfl
/-- the floor of a fraction -/
theorem floor_div {t b : Int} (hb : 0 < b) : (Rat.divInt t b).floor * b ≤ t ∧ t < ((Rat.divInt t b).floor + 1) * b :=
  ⟨(le_divI hb).mp (Rat.floor_le _), (divI_lt hb).mp (Rat.lt_floor_add_one _)⟩
theorem floor_bt {q : Rat} {n : Nat} (h : Sz q n) : q.floor.natAbs < 2 ^ n := by rw [floor_nd]; exact bt_fdiv h.1
theorem floor_divI {t b : Int} (hb : 0 < b) : (Rat.divInt t b).floor = t / b := by
  obtain ⟨h1, h2⟩ := floor_div (t := t) hb
  apply Int.le_antisymm
  · exact (Int.le_ediv_iff_mul_le hb).mpr h1
  · exact Int.le_of_lt_add_one ((Int.ediv_lt_iff_lt_mul hb).mpr h2)
/-- the rest is smaller than the divisor -/
theorem rest_lt {t b : Int} (hb : b ≠ 0) : (t - b * (Rat.divInt t b).floor).natAbs < b.natAbs := by
  by_cases h : 0 < b
  · rw [floor_divI h]
    have h1 := Int.emod_nonneg t hb
    have h2 := Int.emod_lt_of_pos t h
    have h3 := Int.mul_ediv_add_emod t b
    omega
  · have hn : 0 < -b := by omega
    have e : Rat.divInt t b = Rat.divInt (-t) (-b) := (Rat.neg_divInt_neg t b).symm
    rw [e, floor_divI hn]
    have h1 := Int.emod_nonneg (-t) (show -b ≠ 0 by omega)
    have h2 := Int.emod_lt_of_pos (-t) hn
    have h3 := Int.mul_ediv_add_emod (-t) (-b)
    have h4 : -b * (-t / -b) = -(b * (-t / -b)) := Int.neg_mul _ _
    omega
theorem sz_mod {q r : Rat} {n m : Nat} (hq : Sz q n) (hr : Sz r m) (h0 : r ≠ 0) : Sz (q - r * ((q / r).floor : Rat)) (n + m) := by
  have hn : r.num ≠ 0 := fun z => h0 (num0.mp z)
  have hd := den0 q
  have e : q - r * ((q / r).floor : Rat) = Rat.divInt (q.num * r.den - r.num * q.den * (q / r).floor) (q.den * r.den) := by
    conv => lhs; rw [rat_eq q, rat_eq r]
    rw [← rat_eq q, ← rat_eq r]
    generalize (q / r).floor = f
    have e1 : r * (f : Rat) = Rat.divInt (r.num * f) r.den := mul_int' r f
    rw [e1]
    conv => lhs; rw [rat_eq q]
    rw [Rat.divInt_sub_divInt _ _ hd (den0 r)]
    congr 1
    grind
  have hb : (q.den : Int) * r.num ≠ 0 := Int.mul_ne_zero hd hn
  have hl := rest_lt (t := q.num * r.den) hb
  rw [← div_rat] at hl
  have hl2 : (q.num * r.den - r.num * q.den * (q / r).floor).natAbs < 2 ^ (n + m) := by
    rw [Int.mul_comm r.num q.den]
    exact Nat.lt_trans hl (bt_mul hq.den hr.1)
  rw [e]
  exact sz_div (Int.mul_ne_zero hd (den0 r)) hl2 (bt_mul hq.den hr.den)
theorem div_lt {a b c d : Int} (hb : 0 < b) (hd : 0 < d) : Rat.divInt a b < Rat.divInt c d ↔ a * d < c * b := by
  have h1 : (0 : Rat) < (b : Rat) := by exact_mod_cast hb
  have h2 : (0 : Rat) < (d : Rat) := by exact_mod_cast hd
  have e : (c : Rat) / d * b = (c : Rat) * b / d := by rw [Rat.div_def, Rat.div_def]; grind
  rw [Rat.divInt_eq_div, Rat.divInt_eq_div, Rat.div_lt_iff h1, e, Rat.lt_div_iff h2]
  exact_mod_cast Iff.rfl
theorem div_le {a b c d : Int} (hb : 0 < b) (hd : 0 < d) : Rat.divInt a b ≤ Rat.divInt c d ↔ a * d ≤ c * b := by
  rw [← Rat.not_lt, div_lt hd hb, Int.not_lt]
theorem RN.tight {C a : Addr} {H : Hp} {q r : Rat} {n m : Nat} (h : RN C H a q n) (e : q = r) (hs : Sz r m) (h9 : m ≤ 13400) : RN C H a r m := ⟨e ▸ h.at_, hs, h9⟩
theorem sz0 {n : Nat} (h : 1 ≤ n) : Sz 0 n := Sz.mono (n := 1) ⟨by decide, by decide⟩ h
theorem sz1 {n : Nat} (h : 1 ≤ n) : Sz 1 n := Sz.mono (n := 1) ⟨by decide, by decide⟩ h
theorem divI_le_q (q : Rat) {B T : Int} (hT : 0 < T) : Rat.divInt B T ≤ q ↔ B * q.den ≤ q.num * T := by
  have h := div_le (a := B) (c := q.num) hT (den1 q)
  rwa [← rat_eq q] at h
theorem divI_lt_q (q : Rat) {B T : Int} (hT : 0 < T) : Rat.divInt B T < q ↔ B * q.den < q.num * T := by
  have h := div_lt (a := B) (c := q.num) hT (den1 q)
  rwa [← rat_eq q] at h
theorem divI_eq_q (q : Rat) {B T : Int} (hT : 0 < T) : Rat.divInt B T = q ↔ B * q.den = q.num * T := by
  have h := Rat.divInt_eq_divInt_iff (n₁ := B) (n₂ := q.num) (show T ≠ 0 by omega) (den0 q)
  rwa [← rat_eq q] at h

--lib
/-! ### what Ratio's methods promise -/
/-- q op r -/
def spBin (C : Addr) (f : Rat → Rat → Rat) : Sp := fun vs H Q _ => ∃ (a : Addr) (v : V) (q r : Rat) (n m : Nat), vs = [.ref a, v] ∧ RN C H a q n ∧ RZ C H v r m ∧ n + m + 1 ≤ 13400 ∧ ∀ p H', Fr H p → Ex H H' → RN C H' p (f q r) (n + m + 1) → Q (.ref p) H'
/-- i op q, i an int on the left -/
def spRev (C : Addr) (f : Rat → Rat → Rat) : Sp := fun vs H Q _ => ∃ (a : Addr) (i : Int) (q : Rat) (n m : Nat), vs = [.ref a, .int i] ∧ RN C H a q n ∧ i.natAbs < 2 ^ m ∧ n + m + 1 ≤ 13400 ∧ ∀ p H', Fr H p → Ex H H' → RN C H' p (f (i : Rat) q) (n + m + 1) → Q (.ref p) H'
def spUn (C : Addr) (f : Rat → Rat) : Sp := fun vs H Q _ => ∃ (a : Addr) (q : Rat) (n : Nat), vs = [.ref a] ∧ RN C H a q n ∧ ∀ p H', Fr H p → Ex H H' → RN C H' p (f q) n → Q (.ref p) H'
/-- q < r and the like -/
def spCmp (C : Addr) (f : Rat → Rat → Bool) : Sp := fun vs H Q _ => ∃ (a : Addr) (v : V) (q r : Rat) (n m : Nat), vs = [.ref a, v] ∧ RN C H a q n ∧ RZ C H v r m ∧ m ≤ 50000 ∧ Q (.bl (f q r)) H
/-- q == r; an int is never equal -/
def spEq (C : Addr) : Sp := fun vs H Q _ => ∃ (a : Addr) (q : Rat) (n : Nat), RN C H a q n ∧ ((∃ (b : Addr) (r : Rat) (m : Nat), vs = [.ref a, .ref b] ∧ RN C H b r m ∧ Q (.bl (decide (q = r))) H) ∨ ∃ i : Int, vs = [.ref a, .int i] ∧ Q (.bl false) H)
def spBool (C : Addr) : Sp := fun vs H Q _ => ∃ (a : Addr) (q : Rat) (n : Nat), vs = [.ref a] ∧ RN C H a q n ∧ Q (.bl (!decide (q = 0))) H
/-- q.over(r) -/
def spOver (K : PySem.W.Frag) : Sp := fun vs H Q E => ∃ (a : Addr) (v : V) (q r : Rat) (n m : Nat), vs = [.ref a, v] ∧ RN (He.ga K "Ratio") H a q n ∧ RZ (He.ga K "Ratio") H v r m ∧ n + m + 1 ≤ 13400 ∧
  (r = 0 → ∀ H', Ex H H' → E (.ref (He.ga K "ZeroBottom")) none H') ∧ (r ≠ 0 → ∀ p H', Fr H p → Ex H H' → RN (He.ga K "Ratio") H' p (q / r) (n + m + 1) → Q (.ref p) H')
/-- q // r -/
def spFloor (K : PySem.W.Frag) : Sp := fun vs H Q E => ∃ (a : Addr) (v : V) (q r : Rat) (n m : Nat), vs = [.ref a, v] ∧ RN (He.ga K "Ratio") H a q n ∧ RZ (He.ga K "Ratio") H v r m ∧ n + m + 1 ≤ 13400 ∧
  (r = 0 → ∀ H', Ex H H' → E (.ref (He.ga K "ZeroBottom")) none H') ∧ (r ≠ 0 → ∀ H', Ex H H' → (q / r).floor.natAbs < 2 ^ (n + m + 1) → Q (.int (q / r).floor) H')
/-- q % r -/
def spMod (K : PySem.W.Frag) : Sp := fun vs H Q E => ∃ (a : Addr) (v : V) (q r : Rat) (n m : Nat), vs = [.ref a, v] ∧ RN (He.ga K "Ratio") H a q n ∧ RZ (He.ga K "Ratio") H v r m ∧ 3 * n + 3 * m + 9 ≤ 13400 ∧
  (r = 0 → ∀ H', Ex H H' → E (.ref (He.ga K "ZeroBottom")) none H') ∧ (r ≠ 0 → ∀ p H', Fr H p → Ex H H' → RN (He.ga K "Ratio") H' p (q - r * ((q / r).floor : Rat)) (n + m + 1) → Q (.ref p) H')
section
variable {C : Addr} {H : Hp} {Q : VK} {E : XK} {a b : Addr} {q r : Rat} {n m : Nat} {i : Int} {f : Rat → Rat → Rat} {f1 : Rat → Rat} {fc : Rat → Rat → Bool} {K : PySem.W.Frag}
theorem u_OO (ha : RN C H a q n) (hb : RN C H b r m) (hs : n + m + 1 ≤ 13400) (k : ∀ p H', Fr H p → Ex H H' → RN C H' p (f q r) (n + m + 1) → Q (.ref p) H') : rOO C (spBin C f) E (.ref a) (.ref b) H Q := by
  obtain ⟨dx, hx⟩ := ha.at_
  obtain ⟨dy, hy⟩ := hb.at_
  exact ⟨a, dx, _, b, dy, _, rfl, rfl, hx, hy, a, _, q, r, n, m, rfl, ha, .rat hb, hs, k⟩
theorem u_OI (ha : RN C H a q n) (hb : i.natAbs < 2 ^ m) (hs : n + m + 1 ≤ 13400) (k : ∀ p H', Fr H p → Ex H H' → RN C H' p (f q (i : Rat)) (n + m + 1) → Q (.ref p) H') : rOI C (spBin C f) E (.ref a) (.int i) H Q := by
  obtain ⟨dx, hx⟩ := ha.at_
  exact ⟨a, dx, _, i, rfl, rfl, hx, a, _, q, _, n, m, rfl, ha, .int hb, hs, k⟩
theorem u_IO (ha : RN C H a q n) (hb : i.natAbs < 2 ^ m) (hs : n + m + 1 ≤ 13400) (k : ∀ p H', Fr H p → Ex H H' → RN C H' p (f (i : Rat) q) (n + m + 1) → Q (.ref p) H') : rIO C (spRev C f) E (.int i) (.ref a) H Q := by
  obtain ⟨dx, hx⟩ := ha.at_
  exact ⟨a, dx, _, i, rfl, rfl, hx, a, i, q, n, m, rfl, ha, hb, hs, k⟩
theorem u_UO (ha : RN C H a q n) (k : ∀ p H', Fr H p → Ex H H' → RN C H' p (f1 q) n → Q (.ref p) H') : rUO C (spUn C f1) E (.ref a) H Q := by
  obtain ⟨dx, hx⟩ := ha.at_
  exact ⟨a, dx, _, rfl, hx, a, q, n, rfl, ha, k⟩
theorem u_C1 (ha : RN C H a q n) (k : ∀ p H', Fr H p → Ex H H' → RN C H' p (f1 q) n → Q (.ref p) H') : rC1 C (spUn C f1) E [.ref a] H Q := by
  obtain ⟨dx, hx⟩ := ha.at_
  exact ⟨a, dx, _, rfl, hx, a, q, n, rfl, ha, k⟩
theorem u_cOO (ha : RN C H a q n) (hb : RN C H b r m) (k : Q (.bl (fc q r)) H) : rOO C (spCmp C fc) E (.ref a) (.ref b) H Q := by
  obtain ⟨dx, hx⟩ := ha.at_
  obtain ⟨dy, hy⟩ := hb.at_
  have := hb.le
  exact ⟨a, dx, _, b, dy, _, rfl, rfl, hx, hy, a, _, q, r, n, m, rfl, ha, .rat hb, by omega, k⟩
theorem u_cOI (ha : RN C H a q n) (hb : i.natAbs < 2 ^ m) (hm : m ≤ 50000) (k : Q (.bl (fc q (i : Rat))) H) : rOI C (spCmp C fc) E (.ref a) (.int i) H Q := by
  obtain ⟨dx, hx⟩ := ha.at_
  exact ⟨a, dx, _, i, rfl, rfl, hx, a, _, q, _, n, m, rfl, ha, .int hb, hm, k⟩
theorem u_cIO (ha : RN C H a q n) (hb : i.natAbs < 2 ^ m) (hm : m ≤ 50000) (k : Q (.bl (fc q (i : Rat))) H) : rIO C (spCmp C fc) E (.int i) (.ref a) H Q := by
  obtain ⟨dx, hx⟩ := ha.at_
  exact ⟨a, dx, _, i, rfl, rfl, hx, a, _, q, _, n, m, rfl, ha, .int hb, hm, k⟩
theorem u_eOO (ha : RN C H a q n) (hb : RN C H b r m) (k : Q (.bl (decide (q = r))) H) : rOO C (spEq C) E (.ref a) (.ref b) H Q := by
  obtain ⟨dx, hx⟩ := ha.at_
  obtain ⟨dy, hy⟩ := hb.at_
  exact ⟨a, dx, _, b, dy, _, rfl, rfl, hx, hy, a, q, n, ha, .inl ⟨b, r, m, rfl, hb, k⟩⟩
theorem u_eOI (ha : RN C H a q n) (k : Q (.bl false) H) : rOI C (spEq C) E (.ref a) (.int i) H Q := by
  obtain ⟨dx, hx⟩ := ha.at_
  exact ⟨a, dx, _, i, rfl, rfl, hx, a, q, n, ha, .inr ⟨i, rfl, k⟩⟩
theorem u_eIO (ha : RN C H a q n) (k : Q (.bl false) H) : rIO C (spEq C) E (.int i) (.ref a) H Q := by
  obtain ⟨dx, hx⟩ := ha.at_
  exact ⟨a, dx, _, i, rfl, rfl, hx, a, q, n, ha, .inr ⟨i, rfl, k⟩⟩
theorem u_bO (ha : RN C H a q n) (k : Q (.bl (!decide (q = 0))) H) : rBoolO C (spBool C) E [.ref a] H Q := by
  obtain ⟨dx, hx⟩ := ha.at_
  exact ⟨a, dx, _, rfl, hx, a, q, n, rfl, ha, _, rfl, k⟩
theorem u_me {m : Str} {sp : Sp} {t : TA} {σ : L2.St} {k : Nat} (ha : RN C H a q k) (h1 : (m == ("top" : Str)) = false) (h2 : (m == ("bottom" : Str)) = false) (k : t σ H fun vs H2 => sp (.ref a :: vs) H2 Q E) : dMe C m sp [] E t σ Q (.ref a) H := by
  obtain ⟨dx, hx⟩ := ha.at_
  exact w_dMe0 hx (rF_no _ _ h1 h2) k
theorem u_top (ha : RN C H a q n) (cl : Cls K C) (na : NoAttr K C "top") (k : Q (.int q.num) H) : dF K "top" Q (.ref a) H := by
  obtain ⟨dx, hx⟩ := ha.at_
  exact w_dF hx cl na (rF_top _ _) k
theorem u_bot (ha : RN C H a q n) (cl : Cls K C) (na : NoAttr K C "bottom") (k : Q (.int q.den) H) : dF K "bottom" Q (.ref a) H := by
  obtain ⟨dx, hx⟩ := ha.at_
  exact w_dF hx cl na (rF_bottom _ _) k
theorem u_isR (ha : RN C H a q n) (O : OwnC K C) (k : Q (.bl true) H) : rIsi K [.ref a, .ref C] H Q := by
  obtain ⟨dx, hx⟩ := ha.at_
  exact w_isiOC O hx k
end
/-- a.over(v) -/
theorem u_over {K : PySem.W.Frag} {H : Hp} {Q : VK} {E : XK} {a : Addr} {v : V} {q r : Rat} {n m : Nat} (ha : RN (He.ga K "Ratio") H a q n) (hv : RZ (He.ga K "Ratio") H v r m) (hs : n + m + 1 ≤ 13400) (h0 : r ≠ 0) (k : ∀ p H', Fr H p → Ex H H' → RN (He.ga K "Ratio") H' p (q / r) (n + m + 1) → Q (.ref p) H') :
    spOver K [.ref a, v] H Q E := ⟨a, v, q, r, n, m, rfl, ha, hv, hs, fun z => absurd z h0, fun _ => k⟩

--lib
/-- a tuple of naturals -/
abbrev nats (os : List Nat) : List V := (os.map fun n : Nat => (n : Int)).map V.int
/-! ### lots and their numbers -/
/-- the bit t of n -/
def tb (n t : Nat) : Bool := n / 2 ^ t % 2 == 1
/-- the lot with the number n, of the things below m -/
def lotOf (n m : Nat) : List Nat := (List.range m).filter (tb n)
def sum2 (l : List Nat) : Nat := (l.map fun t => 2 ^ t).sum
theorem sum2_append (l r : List Nat) : sum2 (l ++ r) = sum2 l + sum2 r := by simp [sum2]
theorem lotOf_succ (n m : Nat) : lotOf n (m + 1) = lotOf n m ++ (if tb n m then [m] else []) := by
  unfold lotOf
  rw [List.range_succ, List.filter_append]
  by_cases h : tb n m <;> simp [h]
theorem sum2_lotOf (n m : Nat) : sum2 (lotOf n m) = n % 2 ^ m := by
  induction m with
  | zero => simp [lotOf, sum2, Nat.mod_one]
  | succ m ih =>
    rw [lotOf_succ, sum2_append, ih, Nat.mod_pow_succ]
    have h2 : n / 2 ^ m % 2 = 0 ∨ n / 2 ^ m % 2 = 1 := by omega
    unfold tb
    rcases h2 with h | h <;> simp [h, sum2]
theorem lotOf_more {n m : Nat} (h : n < 2 ^ m) : lotOf n (m + 1) = lotOf n m := by
  rw [lotOf_succ]
  have : tb n m = false := by
    unfold tb
    rw [Nat.div_eq_of_lt h]
    rfl
  simp [this]
theorem lotOf_lt {n m x : Nat} (h : x ∈ lotOf n m) : x < m := List.mem_range.mp (List.mem_filter.mp h).1
theorem lotOf_sorted (n m : Nat) : (lotOf n m).Pairwise (· < ·) := List.Pairwise.filter _ List.pairwise_lt_range
theorem lotOf_len (n m : Nat) : (lotOf n m).length ≤ m := by
  unfold lotOf
  exact Nat.le_trans (List.length_filter_le _ _) (by simp)
theorem sum2_take {l : List Nat} {i : Nat} (h : i < l.length) : sum2 (l.take (i + 1)) = sum2 (l.take i) + 2 ^ (l.getD i 0) := by
  rw [List.take_succ_eq_append_getElem h, sum2_append, Z.getD_get _ _ _ h]
  simp [sum2]

--lib
/-! ### lots, prices, rules (behind lots) -/
def IsLot (n : Int) (lot : List Int) : Prop := lot.Pairwise (· < ·) ∧ ∀ x ∈ lot, 0 ≤ x ∧ x < n
/-- above what stood before, below n -/
def okFrom (n : Int) : Int → List Int → Prop
  | _, [] => True
  | b, x :: r => b < x ∧ x < n ∧ okFrom n x r
theorem okFrom_iff (n : Int) : ∀ (lot : List Int) (b : Int), okFrom n b lot ↔ (lot.Pairwise (· < ·) ∧ ∀ x ∈ lot, b < x ∧ x < n)
  | [], b => ⟨fun _ => ⟨.nil, fun x hx => by simp at hx⟩, fun _ => trivial⟩
  | y :: r, b => by
    show (b < y ∧ y < n ∧ okFrom n y r) ↔ _
    rw [okFrom_iff n r y, List.pairwise_cons]
    constructor
    · rintro ⟨h1, h2, h3, h4⟩
      refine ⟨⟨fun x hx => (h4 x hx).1, h3⟩, fun x hx => ?_⟩
      rcases List.mem_cons.mp hx with rfl | hx
      · exact ⟨h1, h2⟩
      · have := h4 x hx; omega
    · rintro ⟨⟨h1, h2⟩, h3⟩
      exact ⟨(h3 y (by simp)).1, (h3 y (by simp)).2, h2, fun x hx => ⟨h1 x hx, (h3 x (by simp [hx])).2⟩⟩
theorem isLot_iff {n : Int} {lot : List Int} : IsLot n lot ↔ okFrom n (-1) lot := by
  rw [okFrom_iff]
  constructor
  · rintro ⟨h1, h2⟩; exact ⟨h1, fun x hx => by have := h2 x hx; omega⟩
  · rintro ⟨h1, h2⟩; exact ⟨h1, fun x hx => by have := h2 x hx; omega⟩
theorem lot_len : ∀ (lot : List Int) (b n : Int), okFrom n b lot → (lot.length : Int) ≤ max 0 (n - 1 - b)
  | [], b, n, _ => by simp; omega
  | x :: r, b, n, ⟨h1, h2, h3⟩ => by
    have := lot_len r x n h3
    rw [List.length_cons]
    omega
theorem IsLot.len {n : Int} {lot : List Int} (h : IsLot n lot) : lot.length ≤ n.toNat := by
  have := lot_len lot (-1) n (isLot_iff.mp h)
  omega
/-- prices that check_prices lets pass -/
def PricesOk (n : Int) (ps : List Int) : Prop := (ps.length : Int) = n ∧ ∀ x ∈ ps, 0 ≤ x
/-- the errors of check_prices -/
def PErr (K : PySem.W.Frag) (n : Int) (ps : List Int) (E : XK) (H : Hp) : Prop :=
  ((ps.length : Int) ≠ n → ∀ d H', Fr H d → Ex H H' → At H' d (.xd [("at", .non), ("what", .str "prices")]) → E (.ref (He.ga K "BadNumber")) (some d) H') ∧
  ((ps.length : Int) = n → ∀ i, i < ps.length → ps.getD i 0 < 0 → (∀ j, j < i → 0 ≤ ps.getD j 0) → ∀ d H', Fr H d → Ex H H' → At H' d (.xd [("at", .int (i : Nat)), ("what", .str "prices")]) → E (.ref (He.ga K "BadNumber")) (some d) H')
theorem PErr.up {K : PySem.W.Frag} {n : Int} {ps : List Int} {E : XK} {H H1 : Hp} (h : PErr K n ps E H) (e : Ex H H1) : PErr K n ps E H1 :=
  ⟨fun a d H' f g => h.1 a d H' (e.back f) (e.trans g), fun a i b c j d H' f g => h.2 a i b c j d H' (e.back f) (e.trans g)⟩
theorem PErr.ok {K : PySem.W.Frag} {n : Int} {ps : List Int} {E : XK} {H : Hp} (h : PricesOk n ps) : PErr K n ps E H :=
  ⟨fun z => absurd h.1 z, fun _ i hi hn => by rw [getD_get _ _ _ hi] at hn; have := h.2 _ (List.getElem_mem hi); omega⟩
theorem all_getD {ps : List Int} {c : Int} (h : ∀ j, j < ps.length → c ≤ ps.getD j 0) : ∀ x ∈ ps, c ≤ x := fun w hw => by
  obtain ⟨i, hi, rfl⟩ := List.mem_iff_getElem.mp hw
  have := h i hi
  rwa [getD_get _ _ _ hi] at this
/-- a list of Ratios -/
def RL (C : Addr) (H : Hp) (xs : List V) (qs : List Rat) (b : Nat) : Prop := xs.length = qs.length ∧ ∀ i, i < qs.length → ∃ a, xs[i]? = some (.ref a) ∧ RN C H a (qs.getD i 0) b
theorem RL.ex {C : Addr} {H H' : Hp} {xs : List V} {qs : List Rat} {b : Nat} (h : RL C H xs qs b) (e : Ex H H') : RL C H' xs qs b := ⟨h.1, fun i hi => by
  obtain ⟨a, h1, h2⟩ := h.2 i hi
  exact ⟨a, h1, h2.ex e⟩⟩
theorem RL.nl {C : Addr} {H H' : Hp} {xs : List V} {qs : List Rat} {b : Nat} (h : RL C H xs qs b) (e : Nl H H') : RL C H' xs qs b := ⟨h.1, fun i hi => by
  obtain ⟨a, h1, h2⟩ := h.2 i hi
  exact ⟨a, h1, h2.nl e⟩⟩
theorem rlE {C : Addr} {H H' : Hp} {xs : List V} {qs : List Rat} {b : Nat} (h : RL C H xs qs b) (e : Exs H H') : RL C H' xs qs b := h.ex e.ex
theorem rlN {C : Addr} {H H' : Hp} {xs : List V} {qs : List Rat} {b : Nat} (h : RL C H xs qs b) (e : Nls H H') : RL C H' xs qs b := h.nl e.nl
theorem RL.mono {C : Addr} {H : Hp} {xs : List V} {qs : List Rat} {b c : Nat} (h : RL C H xs qs b) (hb : b ≤ c) (h9 : c ≤ 13400) : RL C H xs qs c := ⟨h.1, fun i hi => by
  obtain ⟨a, h1, h2⟩ := h.2 i hi
  exact ⟨a, h1, h2.eq rfl hb h9⟩⟩
theorem RL.nil {C : Addr} {H : Hp} {b : Nat} : RL C H [] [] b := ⟨rfl, fun i hi => absurd hi (by simp)⟩
theorem RL.snoc {C : Addr} {H : Hp} {xs : List V} {qs : List Rat} {b : Nat} {a : Addr} {q : Rat} (h : RL C H xs qs b) (r : RN C H a q b) : RL C H (xs ++ [.ref a]) (qs ++ [q]) b := by
  refine ⟨by simp [h.1], fun i hi => ?_⟩
  by_cases e : i < qs.length
  · obtain ⟨c, h1, h2⟩ := h.2 i e
    refine ⟨c, by rw [List.getElem?_append_left (by rw [h.1]; exact e)]; exact h1, ?_⟩
    rw [List.getD_eq_getElem?_getD, List.getElem?_append_left e, ← List.getD_eq_getElem?_getD]
    exact h2
  · have ei : i = qs.length := by simp at hi; omega
    subst ei
    refine ⟨a, by rw [← h.1]; simp, ?_⟩
    rw [List.getD_eq_getElem?_getD]
    simpa using r
theorem RL.set {C : Addr} {H : Hp} {xs : List V} {qs : List Rat} {b i : Nat} {a : Addr} {q : Rat} (h : RL C H xs qs b) (r : RN C H a q b) : RL C H (xs.set i (.ref a)) (qs.set i q) b := by
  refine ⟨by simp [h.1], fun j hj => ?_⟩
  rw [List.length_set] at hj
  by_cases e : i = j
  · subst e
    refine ⟨a, by simp [h.1, hj], ?_⟩
    rw [List.getD_eq_getElem?_getD]
    simpa [hj] using r
  · obtain ⟨c, h1, h2⟩ := h.2 j hj
    refine ⟨c, by rw [List.getElem?_set_ne e]; exact h1, ?_⟩
    rw [List.getD_eq_getElem?_getD, List.getElem?_set_ne e, ← List.getD_eq_getElem?_getD]
    exact h2
theorem RL.at {C : Addr} {H : Hp} {xs : List V} {qs : List Rat} {b : Nat} {i : Int} (h : RL C H xs qs b) (h0 : 0 ≤ i) (h1 : i < qs.length) : ∃ a, atI xs i = some (.ref a) ∧ RN C H a (qs.getD i.toNat 0) b := by
  obtain ⟨a, h2, h3⟩ := h.2 i.toNat (by omega)
  refine ⟨a, ?_, h3⟩
  unfold atI
  rw [ixN_pos h0 (by rw [h.1]; exact h1)]
  exact h2
/-- rl[i] -/
theorem u_ixR {K : PySem.W.Frag} {C : Addr} {H : Hp} {Q : VK} {l : Addr} {xs : List V} {qs : List Rat} {b : Nat} {i : Int} (hl : SqL K H l xs) (h : RL C H xs qs b) (h0 : 0 ≤ i) (h1 : i < qs.length) (k : ∀ a, RN C H a (qs.getD i.toNat 0) b → Q (.ref a) H) : rIx K (.ref l) (.int i) H Q := by
  obtain ⟨a, h2, h3⟩ := h.at h0 h1
  exact w_ixL hl h2 (k a h3)
/-- what a lot brings -/
def worthQ (sh : List Rat) (lot ps : List Int) : Rat := (lot.map fun t => sh.getD t.toNat 0 * (ps.getD t.toNat 0 : Rat)).sum
theorem sum_snocQ (l : List Rat) (q : Rat) : (l ++ [q]).sum = l.sum + q := by
  induction l with
  | nil => simp [Rat.add_comm, Rat.add_zero]
  | cons a r ih => rw [List.cons_append, List.sum_cons, List.sum_cons, ih, Rat.add_assoc]
/-- the plain rule -/
def Rep_Rule (K : PySem.W.Frag) (H : Hp) (x : Addr) (n : Int) (sh : List Int → List Rat) (b : Nat) : Prop := (∃ dx, At H x (.ins (He.ga K "Rule") dx [("many", .int n)])) ∧ 0 ≤ n ∧ n ≤ 24 ∧ sh = (fun _ => List.replicate n.toNat 0) ∧ 1 ≤ b ∧ b ≤ 13400
theorem Rep_Rule.ex {K : PySem.W.Frag} {H H' : Hp} {x : Addr} {n : Int} {sh : List Int → List Rat} {b : Nat} (h : Rep_Rule K H x n sh b) (e : Ex H H') : Rep_Rule K H' x n sh b := by
  obtain ⟨⟨dx, h1⟩, h2⟩ := h
  exact ⟨⟨dx, e.get h1⟩, h2⟩
theorem Rep_Rule.nl {K : PySem.W.Frag} {H H' : Hp} {x : Addr} {n : Int} {sh : List Int → List Rat} {b : Nat} (h : Rep_Rule K H x n sh b) (e : Nl H H') : Rep_Rule K H' x n sh b := by
  obtain ⟨⟨dx, h1⟩, h2⟩ := h
  exact ⟨⟨dx, e.get (fun l z => by cases z) h1⟩, h2⟩
/-- what all rules have: the number of things and methods -/
def RB (C : Addr) (H : Hp) (x : Addr) (n : Int) : Prop := ∃ dx fs, At H x (.ins C dx fs) ∧ fs.lookup ("many" : Str) = some (.int n) ∧ (∀ m ∈ (["shares", "away", "worth", "best", "best_dearest", "MOST", "SMALL", "total_of", "reduced", "bound", "thing_values"] : List Str), fs.lookup m = none) ∧ 0 ≤ n ∧ n ≤ 24
theorem RB.ex {C : Addr} {H H' : Hp} {x : Addr} {n : Int} (h : RB C H x n) (e : Ex H H') : RB C H' x n := by
  obtain ⟨dx, fs, h1, h2⟩ := h
  exact ⟨dx, fs, e.get h1, h2⟩
theorem RB.nl {C : Addr} {H H' : Hp} {x : Addr} {n : Int} (h : RB C H x n) (e : Nl H H') : RB C H' x n := by
  obtain ⟨dx, fs, h1, h2⟩ := h
  exact ⟨dx, fs, e.get (fun l z => by cases z) h1, h2⟩
theorem rbE {C : Addr} {H H' : Hp} {x : Addr} {n : Int} (h : RB C H x n) (e : Exs H H') : RB C H' x n := h.ex e.ex
theorem rbN {C : Addr} {H H' : Hp} {x : Addr} {n : Int} (h : RB C H x n) (e : Nls H H') : RB C H' x n := h.nl e.nl
theorem Rep_Rule.rb {K : PySem.W.Frag} {H : Hp} {x : Addr} {n : Int} {sh : List Int → List Rat} {b : Nat} (h : Rep_Rule K H x n sh b) : RB (He.ga K "Rule") H x n := by
  obtain ⟨⟨dx, h1⟩, h2, h3, _⟩ := h
  refine ⟨dx, _, h1, rfl, fun m hm => ?_, h2, h3⟩
  have : (m == ("many" : Str)) = false := by revert m; decide +kernel
  simp only [List.lookup, this]
theorem Rep_Rule.len {K : PySem.W.Frag} {H : Hp} {x : Addr} {n : Int} {sh : List Int → List Rat} {b : Nat} (h : Rep_Rule K H x n sh b) (lot : List Int) : (sh lot).length = n.toNat := by
  obtain ⟨_, _, _, rfl, _⟩ := h
  simp
section
variable {K : PySem.W.Frag} {C : Addr} {H : Hp} {Q : VK} {E : XK} {x : Addr} {n : Int}
theorem u_rmany (h : RB C H x n) (cl : Cls K C) (na : NoAttr K C "many") (k : Q (.int n) H) : dF K "many" Q (.ref x) H := by
  obtain ⟨dx, fs, h1, h2, _⟩ := h
  exact w_dF h1 cl na h2 k
theorem u_rme {m : Str} {sp : Sp} {t : TA} {σ : L2.St} (h : RB C H x n) (hm : m ∈ (["shares", "away", "worth", "best", "best_dearest", "MOST", "SMALL", "total_of", "reduced", "bound", "thing_values"] : List Str)) (k : t σ H fun vs H2 => sp (.ref x :: vs) H2 Q E) : dMe C m sp [] E t σ Q (.ref x) H := by
  obtain ⟨dx, fs, h1, h2, h3, _⟩ := h
  exact w_dMe0 h1 (h3 m hm) k
theorem u_rcon {f : Str} {v : V} (h : RB C H x n) (cl : Cls K C) (hk : ∃ u, Con K C f v u) (hm : f ∈ (["shares", "away", "worth", "best", "best_dearest", "MOST", "SMALL", "total_of", "reduced", "bound", "thing_values"] : List Str)) (k : Q v H) : dCon K f Q (.ref x) H := by
  obtain ⟨dx, fs, h1, h2, h3, _⟩ := h
  exact w_dCon h1 cl hk (h3 f hm) k
theorem u_risC2 {D : Addr} {b : Bool} (h : RB C H x n) (O : OwnC K C) (hk : PySem.W.kitOne K (.ref C) (.ref D) = some b) (k : Q (.bl b) H) : rIsi K [.ref x, .ref D] H Q := by
  obtain ⟨dx, fs, h1, _⟩ := h
  exact w_isiOA O h1 hk k
theorem u_risO2 (h : RB C H x n) (O : OwnC K C) (k : Q (.bl true) H) : rIsi K [.ref x, .ref C] H Q := by
  obtain ⟨dx, fs, h1, _⟩ := h
  exact w_isiOC O h1 k
end
theorem sum_take {qs : List Rat} {i : Nat} (h : i < qs.length) : (qs.take (i + 1)).sum = (qs.take i).sum + qs.getD i 0 := by
  rw [List.take_succ_eq_append_getElem h, sum_snocQ, getD_get _ _ _ h]
theorem take_snoc {α : Type} {l : List α} {i : Nat} (h : i < l.length) (d : α) : l.take (i + 1) = l.take i ++ [l.getD i d] := by
  rw [List.take_succ_eq_append_getElem h, getD_get _ _ _ h]
theorem adj_pw : ∀ (l : List Int), (∀ j, j + 1 < l.length → l.getD j 0 < l.getD (j + 1) 0) → l.Pairwise (· < ·)
  | [], _ => .nil
  | [a], _ => by simp
  | a :: b :: r, h => by
    have ih := adj_pw (b :: r) fun j hj => by
      have := h (j + 1) (by simpa using hj)
      simpa using this
    have hab : a < b := by have := h 0 (by simp); simpa using this
    refine List.pairwise_cons.mpr ⟨fun x hx => ?_, ih⟩
    rcases List.mem_cons.mp hx with rfl | hx
    · exact hab
    · have := (List.pairwise_cons.mp ih).1 x hx
      omega
theorem pw_adj {l : List Int} (h : l.Pairwise (· < ·)) (j : Nat) (hj : j + 1 < l.length) : l.getD j 0 < l.getD (j + 1) 0 := by
  rw [getD_get _ _ _ hj, getD_get _ _ _ (show j < l.length by omega)]
  exact List.pairwise_iff_getElem.mp h j (j + 1) (by omega) hj (by omega)
theorem lotOf_isLot (c m : Nat) : IsLot (m : Int) ((lotOf c m).map fun n : Nat => (n : Int)) := by
  constructor
  · rw [List.pairwise_map]
    exact (lotOf_sorted c m).imp fun h => by omega
  · intro x hx
    obtain ⟨t, ht, rfl⟩ := List.mem_map.mp hx
    have := lotOf_lt ht
    omega
/-- a plain rule of n things -/
abbrev RuleAt (K : PySem.W.Frag) (H : Hp) (x : Addr) (n : Int) : Prop := Rep_Rule K H x n (fun _ => List.replicate n.toNat 0) 1
theorem sum_rep0 (n : Nat) : (List.replicate n (0 : Rat)).sum = 0 := by
  induction n with
  | zero => rfl
  | succ n ih => rw [List.replicate_succ, List.sum_cons, ih]; exact Rat.add_zero 0
theorem getD_rep0 (n i : Nat) : (List.replicate n (0 : Rat)).getD i 0 = 0 := by
  rw [List.getD_eq_getElem?_getD, List.getElem?_replicate]
  split <;> rfl
theorem worth0 (n : Nat) (lot ps : List Int) : worthQ (List.replicate n 0) lot ps = 0 := by
  unfold worthQ
  induction lot with
  | nil => rfl
  | cons t r ih => rw [List.map_cons, List.sum_cons, ih, getD_rep0]; grind
/-- all things -/
theorem allLot {n : Int} (hn : 0 ≤ n) : IsLot n ((List.range n.toNat).map fun k : Nat => (k : Int)) := by
  constructor
  · rw [List.pairwise_map]
    exact List.pairwise_lt_range.imp fun h => by omega
  · intro x hx
    obtain ⟨k, hk, rfl⟩ := List.mem_map.mp hx
    have := List.mem_range.mp hk
    omega
/-- a list of pairs of ints -/
def PL (H : Hp) (xs : List V) (ps : List (Int × Int)) : Prop := xs.length = ps.length ∧ ∀ i, i < ps.length → ∃ a, xs[i]? = some (.ref a) ∧ At H a (.tup [.int (ps.getD i (0, 0)).1, .int (ps.getD i (0, 0)).2])
theorem PL.ex {H H' : Hp} {xs : List V} {ps : List (Int × Int)} (h : PL H xs ps) (e : Ex H H') : PL H' xs ps := ⟨h.1, fun i hi => by
  obtain ⟨a, h1, h2⟩ := h.2 i hi
  exact ⟨a, h1, e.get h2⟩⟩
theorem PL.nl {H H' : Hp} {xs : List V} {ps : List (Int × Int)} (h : PL H xs ps) (e : Nl H H') : PL H' xs ps := ⟨h.1, fun i hi => by
  obtain ⟨a, h1, h2⟩ := h.2 i hi
  exact ⟨a, h1, e.get (fun l z => by cases z) h2⟩⟩
theorem plE {H H' : Hp} {xs : List V} {ps : List (Int × Int)} (h : PL H xs ps) (e : Exs H H') : PL H' xs ps := h.ex e.ex
theorem plN {H H' : Hp} {xs : List V} {ps : List (Int × Int)} (h : PL H xs ps) (e : Nls H H') : PL H' xs ps := h.nl e.nl
theorem PL.nil {H : Hp} : PL H [] [] := ⟨rfl, fun i hi => absurd hi (by simp)⟩
theorem PL.snoc {H : Hp} {xs : List V} {ps : List (Int × Int)} {a : Addr} {p : Int × Int} (h : PL H xs ps) (r : At H a (.tup [.int p.1, .int p.2])) : PL H (xs ++ [.ref a]) (ps ++ [p]) := by
  refine ⟨by simp [h.1], fun i hi => ?_⟩
  by_cases e : i < ps.length
  · obtain ⟨c, h1, h2⟩ := h.2 i e
    refine ⟨c, by rw [List.getElem?_append_left (by rw [h.1]; exact e)]; exact h1, ?_⟩
    rw [List.getD_eq_getElem?_getD, List.getElem?_append_left e, ← List.getD_eq_getElem?_getD]
    exact h2
  · have ei : i = ps.length := by simp at hi; omega
    subst ei
    refine ⟨a, by rw [← h.1]; simp, ?_⟩
    rw [List.getD_eq_getElem?_getD]
    simpa using r
theorem u_ixP {K : PySem.W.Frag} {H : Hp} {Q : VK} {l : Addr} {xs : List V} {ps : List (Int × Int)} {i : Int} (hl : SqL K H l xs) (h : PL H xs ps) (h0 : 0 ≤ i) (h1 : i < ps.length) (k : ∀ a, At H a (.tup [.int (ps.getD i.toNat (0, 0)).1, .int (ps.getD i.toNat (0, 0)).2]) → Q (.ref a) H) : rIx K (.ref l) (.int i) H Q := by
  obtain ⟨a, h2, h3⟩ := h.2 i.toNat (by omega)
  refine w_ixL hl ?_ (k a h3)
  unfold atI
  rw [ixN_pos h0 (by rw [h.1]; exact h1)]
  exact h2
/-- what comes of worth, and the place of the first wrong price -/
inductive PRes (n : Int) (ps : List Int) : V → Int → Prop
  | len (h : (ps.length : Int) ≠ n) : PRes n ps .non (-1)
  | neg (h : (ps.length : Int) = n) (i : Nat) (hi : i < ps.length) (hw : ps.getD i 0 < 0) (hb : ∀ j, j < i → 0 ≤ ps.getD j 0) : PRes n ps (.int (i : Nat)) (i : Nat)
theorem PRes.det {n : Int} {ps : List Int} {v w : V} {i j : Int} (h : PRes n ps v i) (g : PRes n ps w j) : v = w ∧ i = j := by
  cases h with
  | len h => cases g <;> first | exact ⟨rfl, rfl⟩ | contradiction
  | neg h i hi hw hb =>
    cases g with
    | len h => contradiction
    | neg h2 i2 hi2 hw2 hb2 =>
      have : i = i2 := by
        rcases Nat.lt_trichotomy i i2 with q | q | q
        · have := hb2 i q; omega
        · exact q
        · have := hb i2 q; omega
      subst this
      exact ⟨rfl, rfl⟩
theorem PRes.no {n : Int} {ps : List Int} {v : V} {i : Int} (h : PRes n ps v i) (g : PricesOk n ps) : False := by
  cases h with
  | len h => exact h g.1
  | neg h i hi hw hb =>
    have := g.2 _ (List.getElem_mem hi)
    rw [getD_get _ _ _ hi] at hw
    omega
theorem PRes.lt {n : Int} {ps : List Int} {v : V} {i : Int} (h : PRes n ps v i) (hn : 0 ≤ n) : i < n := by
  cases h with
  | len h => omega
  | neg h i hi hw hb => omega

--lib
/-! ### the lot of a number -/
theorem tb_add {s k t : Nat} (h : t < k) : tb (s + 2 ^ k) t = tb s t := by
  unfold tb
  obtain ⟨d, rfl⟩ : ∃ d, k = t + (d + 1) := ⟨k - t - 1, by omega⟩
  rw [Nat.pow_add, Nat.add_mul_div_left _ _ (Nat.pow_pos (by decide)), Nat.pow_succ, Nat.mul_comm (2 ^ d) 2, Nat.add_mul_mod_self_left]
theorem lotOf_sum2 : ∀ (m : Nat) (l : List Nat), l.Pairwise (· < ·) → (∀ t ∈ l, t < m) → sum2 l < 2 ^ m ∧ lotOf (sum2 l) m = l
  | 0, l, _, h => by
    cases l with
    | nil => exact ⟨by decide, rfl⟩
    | cons a r => exact absurd (h a (by simp)) (by omega)
  | m + 1, l, hp, h => by
    rcases List.eq_nil_or_concat l with rfl | ⟨r, a, rfl⟩
    · refine ⟨Nat.pow_pos (by decide), ?_⟩
      have ih := (lotOf_sum2 m [] .nil (fun t ht => by simp at ht)).2
      rw [lotOf_succ, ih]
      have : tb (sum2 []) m = false := by unfold tb sum2; simp
      rw [this]; rfl
    · rw [List.concat_eq_append] at *
      have h1 := List.pairwise_append.mp hp
      have hlt : ∀ t ∈ r, t < a := fun t ht => h1.2.2 t ht a (by simp)
      have h3 := h a (by simp)
      have h5 : sum2 [a] = 2 ^ a := by simp [sum2]
      by_cases e : a = m
      · subst e
        obtain ⟨i1, i2⟩ := lotOf_sum2 a r h1.1 hlt
        rw [sum2_append, h5]
        refine ⟨by rw [Nat.pow_succ]; omega, ?_⟩
        have e1 : tb (sum2 r + 2 ^ a) a = true := by
          unfold tb
          rw [Nat.add_div_right _ (Nat.pow_pos (by decide)), Nat.div_eq_of_lt i1]
          rfl
        rw [lotOf_succ, e1]
        have e2 : lotOf (sum2 r + 2 ^ a) a = lotOf (sum2 r) a := by
          unfold lotOf
          exact List.filter_congr fun t ht => tb_add (List.mem_range.mp ht)
        rw [e2, i2]; rfl
      · obtain ⟨i1, i2⟩ := lotOf_sum2 m (r ++ [a]) hp fun t ht => by
          rcases List.mem_append.mp ht with q | q
          · have := hlt t q; omega
          · rw [List.mem_singleton.mp q]; omega
        refine ⟨by rw [Nat.pow_succ]; omega, ?_⟩
        rw [lotOf_succ, i2]
        have : tb (sum2 (r ++ [a])) m = false := by
          unfold tb
          rw [Nat.div_eq_of_lt i1]; rfl
        rw [this]; simp
/-- every lot is the lot of its number -/
theorem lot_is {m : Nat} {lot : List Int} (h : IsLot (m : Int) lot) : sum2 (lot.map Int.toNat) < 2 ^ m ∧ lot = (lotOf (sum2 (lot.map Int.toNat)) m).map fun k : Nat => (k : Int) := by
  have h2 := h.2
  obtain ⟨i1, i2⟩ := lotOf_sum2 m (lot.map Int.toNat) (by
    rw [List.pairwise_map]
    refine h.1.imp_of_mem fun {a b} ha hb hab => ?_
    have := h2 a ha
    have := h2 b hb
    omega) fun t ht => by
      obtain ⟨x, hx, rfl⟩ := List.mem_map.mp ht
      have := h2 x hx
      omega
  refine ⟨i1, ?_⟩
  rw [i2, List.map_map]
  conv => lhs; rw [← List.map_id lot]
  refine List.map_congr_left fun x hx => ?_
  have := h2 x hx
  show x = ((x.toNat : Nat) : Int)
  omega

--lib
/-! ### Weighted rules -/
/-- fields of a Weighted -/
abbrev wF (n : Int) (t : Addr) (a : Int) : List (Str × V) := [("many", .int n), ("weights", .ref t), ("aside", .int a)]
/-- a Weighted with these numbers stands at x -/
structure WR (K : PySem.W.Frag) (H : Hp) (x : Addr) (ws : List Int) (a : Int) : Prop where
  at_ : ∃ dx t, At H x (.ins (He.ga K "Weighted") dx (wF ws.length t a)) ∧ At H t (.tup (ws.map V.int))
  len : ws.length ≤ 24
  pos : ∀ w ∈ ws, 1 ≤ w
  apos : 1 ≤ a
theorem WR.ex {K : PySem.W.Frag} {H H' : Hp} {x : Addr} {ws : List Int} {a : Int} (h : WR K H x ws a) (e : Ex H H') : WR K H' x ws a := by
  obtain ⟨⟨dx, t, h1, h2⟩, h3, h4, h5⟩ := h
  exact ⟨⟨dx, t, e.get h1, e.get h2⟩, h3, h4, h5⟩
theorem WR.nl {K : PySem.W.Frag} {H H' : Hp} {x : Addr} {ws : List Int} {a : Int} (h : WR K H x ws a) (e : Nl H H') : WR K H' x ws a := by
  obtain ⟨⟨dx, t, h1, h2⟩, h3, h4, h5⟩ := h
  exact ⟨⟨dx, t, e.get (fun l z => by cases z) h1, e.get (fun l z => by cases z) h2⟩, h3, h4, h5⟩
theorem wrE {K : PySem.W.Frag} {H H' : Hp} {x : Addr} {ws : List Int} {a : Int} (h : WR K H x ws a) (e : Exs H H') : WR K H' x ws a := h.ex e.ex
theorem wrN {K : PySem.W.Frag} {H H' : Hp} {x : Addr} {ws : List Int} {a : Int} (h : WR K H x ws a) (e : Nls H H') : WR K H' x ws a := h.nl e.nl
theorem WR.posD {K : PySem.W.Frag} {H : Hp} {x : Addr} {ws : List Int} {a : Int} (h : WR K H x ws a) (i : Nat) (hi : i < ws.length) : 1 ≤ ws.getD i 0 := by
  rw [getD_get _ _ _ hi]; exact h.pos _ (List.getElem_mem hi)
section
variable {K : PySem.W.Frag} {H : Hp} {Q : VK} {E : XK} {x : Addr} {ws : List Int} {a : Int}
theorem u_wts (h : WR K H x ws a) (cl : Cls K (He.ga K "Weighted")) (na : NoAttr K (He.ga K "Weighted") "weights") (k : ∀ t, SqT K H t (ws.map V.int) → At H t (.tup (ws.map V.int)) → Q (.ref t) H) : dF K "weights" Q (.ref x) H := by
  obtain ⟨⟨dx, t, h1, h2⟩, h3, h4, h5⟩ := h
  exact w_dF h1 cl na rfl (k t (st_of h2) h2)
theorem u_asd (h : WR K H x ws a) (cl : Cls K (He.ga K "Weighted")) (na : NoAttr K (He.ga K "Weighted") "aside") (k : Q (.int a) H) : dF K "aside" Q (.ref x) H := by
  obtain ⟨⟨dx, t, h1, h2⟩, h3, h4, h5⟩ := h
  exact w_dF h1 cl na rfl k
theorem u_many (h : WR K H x ws a) (cl : Cls K (He.ga K "Weighted")) (na : NoAttr K (He.ga K "Weighted") "many") (k : Q (.int ws.length) H) : dF K "many" Q (.ref x) H := by
  obtain ⟨⟨dx, t, h1, h2⟩, h3, h4, h5⟩ := h
  exact w_dF h1 cl na rfl k
theorem u_meW {m : Str} {sp : Sp} {t : TA} {σ : L2.St} (h : WR K H x ws a) (h1 : (m == ("many" : Str)) = false) (h2 : (m == ("weights" : Str)) = false) (h3 : (m == ("aside" : Str)) = false) (k : t σ H fun vs H2 => sp (.ref x :: vs) H2 Q E) : dMe (He.ga K "Weighted") m sp [] E t σ Q (.ref x) H := by
  obtain ⟨⟨dx, t', h4, h5⟩, h6, h7, h8⟩ := h
  exact w_dMe0 h4 (by simp only [wF, List.lookup, h1, h2, h3]) k
theorem u_isW (h : WR K H x ws a) (O : OwnC K (He.ga K "Weighted")) (k : Q (.bl true) H) : rIsi K [.ref x, .ref (He.ga K "Weighted")] H Q := by
  obtain ⟨⟨dx, t', h4, h5⟩, h6, h7, h8⟩ := h
  exact w_isiOC O h4 k
end
/-! the greatest divisor of all -/
def gL (a : Nat) (ws : List Int) : Nat := ws.foldl (fun g w => Nat.gcd g w.natAbs) a
theorem gL_snoc (a : Nat) (ws : List Int) (w : Int) : gL a (ws ++ [w]) = Nat.gcd (gL a ws) w.natAbs := by unfold gL; rw [List.foldl_append]; rfl
theorem gL_dvd : ∀ (ws : List Int) (a : Nat), gL a ws ∣ a ∧ ∀ w ∈ ws, gL a ws ∣ w.natAbs
  | [], a => ⟨Nat.dvd_refl _, fun w h => by simp at h⟩
  | w :: r, a => by
    obtain ⟨h1, h2⟩ := gL_dvd r (Nat.gcd a w.natAbs)
    refine ⟨Nat.dvd_trans h1 (Nat.gcd_dvd_left _ _), fun x hx => ?_⟩
    rcases List.mem_cons.mp hx with rfl | hx
    · exact Nat.dvd_trans h1 (Nat.gcd_dvd_right _ _)
    · exact h2 x hx
theorem gL_div : ∀ (ws : List Int) (a d : Nat), 0 < d → d ∣ a → (∀ w ∈ ws, 0 ≤ w ∧ d ∣ w.natAbs) → gL (a / d) (ws.map fun w => w / (d : Int)) = gL a ws / d
  | [], a, d, _, _, _ => rfl
  | w :: r, a, d, hd, ha, hw => by
    obtain ⟨h0, h1⟩ := hw w (by simp)
    have e : (w / (d : Int)).natAbs = w.natAbs / d := by
      obtain ⟨n, rfl⟩ := Int.eq_ofNat_of_zero_le h0
      rfl
    show gL (Nat.gcd (a / d) (w / (d : Int)).natAbs) (r.map fun w => w / (d : Int)) = gL (Nat.gcd a w.natAbs) r / d
    rw [e, Nat.gcd_div ha h1]
    exact gL_div r _ d hd (Nat.dvd_gcd ha h1) fun x hx => hw x (List.mem_cons_of_mem _ hx)
theorem gL_one (a : Nat) (ws : List Int) (ha : 0 < a) (hw : ∀ w ∈ ws, 0 ≤ w) : gL (a / gL a ws) (ws.map fun w => w / (gL a ws : Int)) = 1 := by
  obtain ⟨h1, h2⟩ := gL_dvd ws a
  have h3 : 0 < gL a ws := Nat.pos_of_dvd_of_pos h1 ha
  rw [gL_div ws a (gL a ws) h3 h1 fun w hx => ⟨hw w hx, h2 w hx⟩]
  exact Nat.div_self h3

--lib
/-! ### shares by weights -/
def wsum (ws lot : List Int) : Int := (lot.map fun t => ws.getD t.toNat 0).sum
/-- shares when the things of the lot up to place i have got theirs -/
def shWi (ws : List Int) (tot : Int) (part : List Int) : List Rat := (List.range ws.length).map fun t : Nat => if (t : Int) ∈ part then Rat.divInt (ws.getD t 0) tot else 0
def shW (ws : List Int) (a : Int) (lot : List Int) : List Rat := shWi ws (a + wsum ws lot) lot
theorem shWi_len (ws : List Int) (tot : Int) (part : List Int) : (shWi ws tot part).length = ws.length := by unfold shWi; simp
theorem shWi_get (ws : List Int) (tot : Int) (part : List Int) {t : Nat} (h : t < ws.length) : (shWi ws tot part).getD t 0 = if (t : Int) ∈ part then Rat.divInt (ws.getD t 0) tot else 0 := by
  rw [getD_get _ _ _ (by rw [shWi_len]; exact h)]
  unfold shWi
  simp
theorem shWi_nil (ws : List Int) (tot : Int) : shWi ws tot [] = List.replicate ws.length 0 := by
  unfold shWi
  apply List.ext_getElem
  · simp
  · intro i h1 h2; simp
theorem shWi_snoc (ws : List Int) (tot : Int) (part : List Int) {t : Int} (h0 : 0 ≤ t) (h1 : t < ws.length) : (shWi ws tot part).set t.toNat (Rat.divInt (ws.getD t.toNat 0) tot) = shWi ws tot (part ++ [t]) := by
  obtain ⟨t, rfl⟩ := Int.eq_ofNat_of_zero_le h0
  unfold shWi
  apply List.ext_getElem
  · simp
  · intro i h2 h3
    simp only [List.length_set, List.length_map, List.length_range] at h2
    rw [List.getElem_set]
    simp only [List.getElem_map, List.getElem_range, Int.toNat_natCast, List.mem_append, List.mem_singleton]
    by_cases e : t = i
    · subst e; simp
    · have e' : ¬ (i : Int) = (t : Int) := by omega
      simp [e, e']
theorem wsum_snoc (ws lot : List Int) (t : Int) : wsum ws (lot ++ [t]) = wsum ws lot + ws.getD t.toNat 0 := by unfold wsum; simp
theorem wsum_nonneg {ws : List Int} (h : ∀ w ∈ ws, 1 ≤ w) (lot : List Int) : 0 ≤ wsum ws lot := by
  unfold wsum
  induction lot with
  | nil => simp
  | cons t r ih =>
    rw [List.map_cons, List.sum_cons]
    have : 0 ≤ ws.getD t.toNat 0 := by
      rw [List.getD_eq_getElem?_getD]
      cases e : ws[t.toNat]? with
      | none => simp
      | some w =>
        have := h w (List.mem_of_getElem? e)
        simp; omega
    omega
theorem wsum_le {ws : List Int} {B : Int} (hB : 0 ≤ B) (h : ∀ w ∈ ws, w ≤ B) : ∀ (lot : List Int), wsum ws lot ≤ (lot.length : Int) * B
  | [] => by simp [wsum]
  | t :: r => by
    have ih := wsum_le hB h r
    unfold wsum at *
    rw [List.map_cons, List.sum_cons, List.length_cons]
    have : ws.getD t.toNat 0 ≤ B := by
      rw [List.getD_eq_getElem?_getD]
      cases e : ws[t.toNat]? with
      | none => simpa using hB
      | some w => exact h w (List.mem_of_getElem? e)
    rw [Int.natCast_add, Int.add_mul]
    omega
/-- the things of a lot among all things -/
theorem lot_filter {n : Int} {lot : List Int} (h : IsLot n lot) : (((List.range n.toNat).filter fun t : Nat => decide ((t : Int) ∈ lot)).map fun t : Nat => (t : Int)) = lot := by
  refine List.Perm.eq_of_pairwise (le := (· ≤ ·)) (fun a b _ _ h g => by omega) ?_ (h.1.imp fun h => by omega) ?_
  · rw [List.pairwise_map]
    exact (List.pairwise_lt_range.filter _).imp fun h => by omega
  · refine (List.perm_ext_iff_of_nodup ?_ (h.1.imp fun h => by omega)).mpr fun a => ?_
    · unfold List.Nodup
      rw [List.pairwise_map]
      exact (List.pairwise_lt_range.filter _).imp fun h => by omega
    · rw [List.mem_map]
      constructor
      · rintro ⟨t, ht, rfl⟩
        have := (List.mem_filter.mp ht).2
        simpa using this
      · intro ha
        have := h.2 a ha
        refine ⟨a.toNat, ?_, by omega⟩
        rw [List.mem_filter, List.mem_range]
        refine ⟨by omega, ?_⟩
        rw [Int.toNat_of_nonneg this.1]
        simpa using ha
theorem sum_if {α : Type} (l : List α) (p : α → Bool) (f : α → Rat) : (l.map fun t => if p t = true then f t else 0).sum = ((l.filter p).map f).sum := by
  induction l with
  | nil => rfl
  | cons a r ih =>
    rw [List.map_cons, List.sum_cons, ih, List.filter_cons]
    by_cases h : p a
    · simp [h]
    · simp [h]; exact Rat.zero_add _
theorem sum_divInt {α : Type} (l : List α) (f : α → Int) {d : Int} (hd : d ≠ 0) : (l.map fun t => Rat.divInt (f t) d).sum = Rat.divInt (l.map f).sum d := by
  induction l with
  | nil => simp
  | cons a r ih =>
    rw [List.map_cons, List.sum_cons, ih, List.map_cons, List.sum_cons, Rat.divInt_add_divInt _ _ hd hd]
    have : f a * d + (r.map f).sum * d = (f a + (r.map f).sum) * d := by rw [Int.add_mul]
    rw [this]
    exact Rat.divInt_mul_right hd
theorem shW_sum {ws : List Int} {a : Int} {lot : List Int} (h : IsLot ws.length lot) (ht : a + wsum ws lot ≠ 0) : (shW ws a lot).sum = Rat.divInt (wsum ws lot) (a + wsum ws lot) := by
  unfold shW shWi
  have e : (List.range ws.length).map (fun t : Nat => if (t : Int) ∈ lot then Rat.divInt (ws.getD t 0) (a + wsum ws lot) else 0) = (List.range ws.length).map (fun t : Nat => if decide ((t : Int) ∈ lot) = true then Rat.divInt (ws.getD t 0) (a + wsum ws lot) else 0) := by
    simp only [decide_eq_true_eq]
  rw [e, sum_if (List.range ws.length) (fun t : Nat => decide ((t : Int) ∈ lot)) fun t : Nat => Rat.divInt (ws.getD t 0) (a + wsum ws lot)]
  have f := lot_filter h
  rw [Int.toNat_natCast] at f
  have g : (((List.range ws.length).filter fun t : Nat => decide ((t : Int) ∈ lot)).map fun t : Nat => Rat.divInt (ws.getD t 0) (a + wsum ws lot)) = lot.map fun t => Rat.divInt (ws.getD t.toNat 0) (a + wsum ws lot) := by
    generalize a + wsum ws lot = tot
    have q : ∀ l : List Int, l = lot → (((List.range ws.length).filter fun t : Nat => decide ((t : Int) ∈ lot)).map fun t : Nat => (t : Int)) = l → (((List.range ws.length).filter fun t : Nat => decide ((t : Int) ∈ lot)).map fun t : Nat => Rat.divInt (ws.getD t 0) tot) = l.map fun t => Rat.divInt (ws.getD t.toNat 0) tot := fun l _ hl => by
      rw [← hl, List.map_map]
      rfl
    exact q lot rfl f
  rw [g, sum_divInt lot (fun t => ws.getD t.toNat 0) ht]
  rfl
theorem awayW {ws : List Int} {a : Int} {lot : List Int} (h : IsLot ws.length lot) (ht : a + wsum ws lot ≠ 0) : 1 - (shW ws a lot).sum = Rat.divInt a (a + wsum ws lot) := by
  rw [shW_sum h ht]
  have e : (1 : Rat) = Rat.divInt (a + wsum ws lot) (a + wsum ws lot) := (Rat.divInt_self' ht).symm
  rw [e, Rat.divInt_sub_divInt _ _ ht ht, ← Int.sub_mul, Rat.divInt_mul_right ht]
  congr 1
  omega
/-- weight times price -/
def wpsum (ws ps lot : List Int) : Int := (lot.map fun t => ws.getD t.toNat 0 * ps.getD t.toNat 0).sum
theorem worthW {ws ps : List Int} {a : Int} {lot : List Int} (h : IsLot ws.length lot) (ht : a + wsum ws lot ≠ 0) : worthQ (shW ws a lot) lot ps = Rat.divInt (wpsum ws ps lot) (a + wsum ws lot) := by
  unfold worthQ wpsum
  rw [← sum_divInt lot _ ht]
  congr 1
  apply List.map_congr_left
  intro t hm
  have := h.2 t hm
  have e : (shW ws a lot).getD t.toNat 0 = Rat.divInt (ws.getD t.toNat 0) (a + wsum ws lot) := by
    unfold shW
    rw [shWi_get _ _ _ (by omega), Int.toNat_of_nonneg this.1, if_pos hm]
  rw [e, div1 (ps.getD t.toNat 0), Rat.divInt_mul_divInt, Int.mul_one]
/-- a Weighted as a rule; its weights have B bits -/
def Rep_Weighted (K : PySem.W.Frag) (H : Hp) (x : Addr) (n : Int) (sh : List Int → List Rat) (b : Nat) : Prop := ∃ ws a B, WR K H x ws a ∧ n = ws.length ∧ sh = shW ws a ∧ (∀ w ∈ ws, w < 2 ^ B) ∧ a < 2 ^ B ∧ B + 5 ≤ b ∧ b ≤ 13400
theorem Rep_Weighted.ex {K : PySem.W.Frag} {H H' : Hp} {x : Addr} {n : Int} {sh : List Int → List Rat} {b : Nat} (h : Rep_Weighted K H x n sh b) (e : Ex H H') : Rep_Weighted K H' x n sh b := by
  obtain ⟨ws, a, B, h1, h2⟩ := h
  exact ⟨ws, a, B, h1.ex e, h2⟩
theorem Rep_Weighted.nl {K : PySem.W.Frag} {H H' : Hp} {x : Addr} {n : Int} {sh : List Int → List Rat} {b : Nat} (h : Rep_Weighted K H x n sh b) (e : Nl H H') : Rep_Weighted K H' x n sh b := by
  obtain ⟨ws, a, B, h1, h2⟩ := h
  exact ⟨ws, a, B, h1.nl e, h2⟩
theorem WR.rb {K : PySem.W.Frag} {H : Hp} {x : Addr} {ws : List Int} {a : Int} (h : WR K H x ws a) : RB (He.ga K "Weighted") H x ws.length := by
  obtain ⟨⟨dx, t, h1, h2⟩, h3, _⟩ := h
  refine ⟨dx, _, h1, rfl, fun m hm => ?_, by omega, by omega⟩
  have e1 : (m == ("many" : Str)) = false := by revert m; decide +kernel
  have e2 : (m == ("weights" : Str)) = false := by revert m; decide +kernel
  have e3 : (m == ("aside" : Str)) = false := by revert m; decide +kernel
  simp only [wF, List.lookup, e1, e2, e3]
theorem Rep_Weighted.rb {K : PySem.W.Frag} {H : Hp} {x : Addr} {n : Int} {sh : List Int → List Rat} {b : Nat} (h : Rep_Weighted K H x n sh b) : RB (He.ga K "Weighted") H x n := by
  obtain ⟨ws, a, B, h1, rfl, _⟩ := h
  exact h1.rb
theorem Rep_Weighted.len {K : PySem.W.Frag} {H : Hp} {x : Addr} {n : Int} {sh : List Int → List Rat} {b : Nat} (h : Rep_Weighted K H x n sh b) (lot : List Int) : (sh lot).length = n.toNat := by
  obtain ⟨ws, a, B, h1, rfl, rfl, _⟩ := h
  unfold shW
  rw [shWi_len]
  rfl
theorem WR.rep {K : PySem.W.Frag} {H : Hp} {x : Addr} {ws : List Int} {a : Int} {B : Nat} (h : WR K H x ws a) (hw : ∀ w ∈ ws, w < 2 ^ B) (ha : a < 2 ^ B) (hB : B + 5 ≤ 13400) : Rep_Weighted K H x ws.length (shW ws a) (B + 5) := ⟨ws, a, B, h, rfl, rfl, hw, ha, Nat.le_refl _, hB⟩
/-- the total has B + 5 bits -/
theorem tot_bt {ws lot : List Int} {a : Int} {B : Nat} (hp : ∀ w ∈ ws, 1 ≤ w) (ha0 : 1 ≤ a) (hw : ∀ w ∈ ws, w < 2 ^ B) (ha : a < 2 ^ B) (hl : lot.length ≤ 24) : 1 ≤ a + wsum ws lot ∧ (a + wsum ws lot).natAbs < 2 ^ (B + 5) := by
  have h1 := wsum_nonneg hp lot
  have h2 := wsum_le (B := 2 ^ B) (by exact_mod_cast Nat.zero_le _) (fun w hx => by have := hw w hx; omega) lot
  have h3 : (lot.length : Int) * 2 ^ B ≤ 24 * 2 ^ B := Int.mul_le_mul_of_nonneg_right (by omega) (by exact_mod_cast Nat.zero_le _)
  refine ⟨by omega, ?_⟩
  have h4 : a + wsum ws lot < 32 * 2 ^ B := by omega
  have h5 : ((a + wsum ws lot).natAbs : Int) < ((2 ^ (B + 5) : Nat) : Int) := by
    rw [Int.natAbs_of_nonneg (by omega), Nat.pow_add]
    push_cast
    omega
  exact_mod_cast h5
theorem others_lot {n : Int} (hn : 0 ≤ n) (p : Nat → Bool) : IsLot n (((List.range n.toNat).filter p).map fun k : Nat => (k : Int)) := by
  constructor
  · rw [List.pairwise_map]
    exact (List.pairwise_lt_range.filter _).imp fun h => by omega
  · intro x hx
    obtain ⟨k, hk, rfl⟩ := List.mem_map.mp hx
    have := List.mem_range.mp (List.mem_filter.mp hk).1
    omega

--lib
/-! ### the best of all lots -/
def lotI (i m : Nat) : List Int := (lotOf i m).map fun k : Nat => (k : Int)
theorem lotI_isLot (i m : Nat) : IsLot (m : Int) (lotI i m) := by
  refine ⟨?_, fun x hx => ?_⟩
  · unfold lotI
    rw [List.pairwise_map]
    exact (lotOf_sorted i m).imp fun h => by omega
  · obtain ⟨k, hk, rfl⟩ := List.mem_map.1 hx
    have := lotOf_lt hk
    omega
theorem lotI_len (i m : Nat) : (lotI i m).length ≤ m := by unfold lotI; rw [List.length_map]; exact lotOf_len i m
theorem lotI_zero (m : Nat) : lotI 0 m = [] := by
  unfold lotI lotOf
  rw [List.filter_eq_nil_iff.mpr (fun t _ => by unfold tb; rw [Nat.zero_div]; decide)]
  rfl
/-- what the lot with the number i brings -/
def wv (sh : List Int → List Rat) (ps : List Int) (m i : Nat) : Rat := worthQ (sh (lotI i m)) (lotI i m) ps
/-- the best among the first k lots: the one with the number f -/
structure BestTo (sh : List Int → List Rat) (ps : List Int) (m k f : Nat) : Prop where
  lt : f < 2 ^ m
  top : ∀ j, j < k → wv sh ps m j ≤ wv sh ps m f
  few : ∀ j, j < k → wv sh ps m j = wv sh ps m f → (lotI f m).length ≤ (lotI j m).length
  first : ∀ j, j < f → wv sh ps m j = wv sh ps m f → (lotI f m).length < (lotI j m).length
theorem BestTo.zero {sh : List Int → List Rat} {ps : List Int} {m : Nat} : BestTo sh ps m 0 0 := ⟨Nat.pow_pos (by decide), fun j h => absurd h (by omega), fun j h => absurd h (by omega), fun j h => absurd h (by omega)⟩
theorem BestTo.take {sh : List Int → List Rat} {ps : List Int} {m k f : Nat} (h : BestTo sh ps m k f) (hk : k < 2 ^ m) (g : wv sh ps m f < wv sh ps m k ∨ wv sh ps m k = wv sh ps m f ∧ (lotI k m).length < (lotI f m).length) : BestTo sh ps m (k + 1) k := by
  refine ⟨hk, fun j hj => ?_, fun j hj e => ?_, fun j hj e => ?_⟩
  · by_cases z : j = k
    · rw [z]; exact Rat.le_refl
    · have := h.top j (by omega)
      rcases g with g | g
      · exact Rat.le_trans this (Rat.le_of_lt g)
      · rw [g.1]; exact this
  · by_cases z : j = k
    · rw [z]; exact Nat.le_refl _
    · have h1 := h.top j (by omega)
      rcases g with g | g
      · rw [e] at h1; exact absurd g (Rat.not_lt.mpr h1)
      · have := h.few j (by omega) (e.trans g.1)
        omega
  · have h1 := h.top j (by omega)
    rcases g with g | g
    · rw [e] at h1; exact absurd g (Rat.not_lt.mpr h1)
    · have := h.few j (by omega) (e.trans g.1)
      omega
theorem BestTo.keep {sh : List Int → List Rat} {ps : List Int} {m k f : Nat} (h : BestTo sh ps m k f) (g : ¬ (wv sh ps m f < wv sh ps m k)) (g2 : wv sh ps m k = wv sh ps m f → ¬ (lotI k m).length < (lotI f m).length) : BestTo sh ps m (k + 1) f := by
  refine ⟨h.lt, fun j hj => ?_, fun j hj e => ?_, h.first⟩
  · by_cases z : j = k
    · rw [z]; exact Rat.not_lt.mp g
    · exact h.top j (by omega)
  · by_cases z : j = k
    · subst z; exact Nat.not_lt.mp (g2 e)
    · exact h.few j (by omega) e

--lib
/-! ### rows of a table -/
/-- the row is a total and counts of the things of the lot -/
def Fits (r lot : List Int) (m : Int) : Prop := (r.length : Int) = m + 1 ∧ 1 ≤ r.getD 0 0 ∧ (r.drop 1).sum ≤ r.getD 0 0 ∧ ∀ t : Nat, (t : Int) < m → 0 ≤ r.getD (t + 1) 0 ∧ (0 < r.getD (t + 1) 0 → (t : Int) ∈ lot)
/-- divided by what divides all -/
abbrev lowR (r : List Int) : List Int := r.map fun x => x / ((gL 0 r : Nat) : Int)
theorem fits_pos {r lot : List Int} {m : Int} (h : Fits r lot m) (hm : 0 ≤ m) : 0 < r.length := by have := h.1; omega
/-- tuples of ints -/
def LTt (H : Hp) (xs : List V) (ls : List (List Int)) : Prop := xs.length = ls.length ∧ ∀ i, i < ls.length → ∃ a, xs[i]? = some (.ref a) ∧ At H a (.tup ((ls.getD i []).map V.int))
theorem LTt.ex {H H' : Hp} {xs : List V} {ls : List (List Int)} (h : LTt H xs ls) (e : Ex H H') : LTt H' xs ls := ⟨h.1, fun i hi => by
  obtain ⟨a, h1, h2⟩ := h.2 i hi
  exact ⟨a, h1, e.get h2⟩⟩
theorem LTt.nl {H H' : Hp} {xs : List V} {ls : List (List Int)} (h : LTt H xs ls) (e : Nl H H') : LTt H' xs ls := ⟨h.1, fun i hi => by
  obtain ⟨a, h1, h2⟩ := h.2 i hi
  exact ⟨a, h1, e.get (fun l z => by cases z) h2⟩⟩
theorem LTt.nil {H : Hp} : LTt H [] [] := ⟨rfl, fun i hi => absurd hi (by simp)⟩
theorem LTt.snoc {H : Hp} {xs : List V} {ls : List (List Int)} {a : Addr} {l : List Int} (h : LTt H xs ls) (r : At H a (.tup (l.map V.int))) : LTt H (xs ++ [.ref a]) (ls ++ [l]) := by
  refine ⟨by simp [h.1], fun i hi => ?_⟩
  by_cases e : i < ls.length
  · obtain ⟨c, h1, h2⟩ := h.2 i e
    exact ⟨c, by rw [List.getElem?_append_left (by rw [h.1]; exact e)]; exact h1, by rw [(show (ls ++ [l]).getD i [] = ls.getD i [] by rw [List.getD_eq_getElem?_getD, List.getElem?_append_left e, ← List.getD_eq_getElem?_getD])]; exact h2⟩
  · have ei : i = ls.length := by simp at hi; omega
    subst ei
    exact ⟨a, by rw [← h.1]; simp, by rw [(show (ls ++ [l]).getD ls.length [] = l by rw [List.getD_eq_getElem?_getD, List.getElem?_append_right (Nat.le_refl _), Nat.sub_self]; rfl)]; exact r⟩

--lib
/-! ### lists of lists of ints -/
def LLi (H : Hp) (xs : List V) (nss : List (List Int)) : Prop := xs.length = nss.length ∧ ∀ i, i < nss.length → ∃ a, xs[i]? = some (.ref a) ∧ At H a (.lst ((nss.getD i []).map V.int))
theorem LLi.ex {H H' : Hp} {xs : List V} {nss : List (List Int)} (h : LLi H xs nss) (e : Ex H H') : LLi H' xs nss := ⟨h.1, fun i hi => by
  obtain ⟨a, h1, h2⟩ := h.2 i hi
  exact ⟨a, h1, e.get h2⟩⟩
theorem LLi.nil {H : Hp} : LLi H [] [] := ⟨rfl, fun i hi => absurd hi (by simp)⟩
theorem LLi.snoc {H : Hp} {xs : List V} {nss : List (List Int)} {a : Addr} {ns : List Int} (h : LLi H xs nss) (r : At H a (.lst (ns.map V.int))) : LLi H (xs ++ [.ref a]) (nss ++ [ns]) := by
  refine ⟨by simp [h.1], fun i hi => ?_⟩
  by_cases e : i < nss.length
  · obtain ⟨c, h1, h2⟩ := h.2 i e
    refine ⟨c, by rw [List.getElem?_append_left (by rw [h.1]; exact e)]; exact h1, ?_⟩
    rw [List.getD_eq_getElem?_getD, List.getElem?_append_left e, ← List.getD_eq_getElem?_getD]
    exact h2
  · have ei : i = nss.length := by simp at hi; omega
    subst ei
    refine ⟨a, by rw [← h.1]; simp, ?_⟩
    rw [List.getD_eq_getElem?_getD]
    simpa using r
/-- what is not the list at p stands: the lists in it too, if p is none of them -/
theorem LLi.of {H H' : Hp} {xs : List V} {nss : List (List Int)} {p : Addr} (h : LLi H xs nss) (ho : ∀ b o, b ≠ p → At H b o → At H' b o) (hp : V.ref p ∉ xs) : LLi H' xs nss := ⟨h.1, fun i hi => by
  obtain ⟨a, h1, h2⟩ := h.2 i hi
  exact ⟨a, h1, ho a _ (fun z => hp (by rw [← z]; exact List.mem_of_getElem? h1)) h2⟩⟩
theorem LLi.app {H : Hp} {xs ys : List V} {nss mss : List (List Int)} (h : LLi H xs nss) (g : LLi H ys mss) : LLi H (xs ++ ys) (nss ++ mss) := by
  refine ⟨by simp [h.1, g.1], fun i hi => ?_⟩
  by_cases e : i < nss.length
  · obtain ⟨c, h1, h2⟩ := h.2 i e
    refine ⟨c, by rw [List.getElem?_append_left (by rw [h.1]; exact e)]; exact h1, ?_⟩
    rw [List.getD_eq_getElem?_getD, List.getElem?_append_left e, ← List.getD_eq_getElem?_getD]
    exact h2
  · obtain ⟨c, h1, h2⟩ := g.2 (i - nss.length) (by simp at hi; omega)
    refine ⟨c, by rw [List.getElem?_append_right (by rw [h.1]; omega), h.1]; exact h1, ?_⟩
    rw [List.getD_eq_getElem?_getD, List.getElem?_append_right (by omega), ← List.getD_eq_getElem?_getD]
    exact h2
/-- the lists hold ints alone: the outer list is none of them -/
theorem LLi.nself {H : Hp} {xs : List V} {nss : List (List Int)} {p : Addr} (h : LLi H xs nss) (hp : At H p (.lst xs)) : V.ref p ∉ xs := by
  intro hm
  obtain ⟨j, hj, e⟩ := List.getElem_of_mem hm
  obtain ⟨a, h1, h2⟩ := h.2 j (by rw [← h.1]; exact hj)
  rw [List.getElem?_eq_getElem hj, e] at h1
  cases h1
  unfold At at hp h2
  rw [hp] at h2
  have h3 := HO.lst.inj (Option.some.inj h2)
  rw [h3] at hm
  obtain ⟨z, _, hz⟩ := List.mem_map.1 hm
  cases hz
theorem LLi.set {H : Hp} {xs : List V} {nss : List (List Int)} {a : Addr} {ns : List Int} {n : Nat} (h : LLi H xs nss) (r : At H a (.lst (ns.map V.int))) : LLi H (xs.set n (.ref a)) (nss.set n ns) := by
  refine ⟨by simp [h.1], fun i hi => ?_⟩
  rw [List.length_set] at hi
  by_cases e : n = i
  · subst e
    refine ⟨a, by rw [List.getElem?_set_self (by rw [h.1]; exact hi)], ?_⟩
    rw [List.getD_eq_getElem?_getD, List.getElem?_set_self hi]
    exact r
  · obtain ⟨c, h1, h2⟩ := h.2 i hi
    refine ⟨c, by rw [List.getElem?_set_ne e]; exact h1, ?_⟩
    rw [List.getD_eq_getElem?_getD, List.getElem?_set_ne e, ← List.getD_eq_getElem?_getD]
    exact h2
theorem LLi.drop {H : Hp} {xs : List V} {nss : List (List Int)} {n : Nat} (h : LLi H xs nss) : LLi H (xs.drop n) (nss.drop n) := by
  refine ⟨by simp [h.1], fun i hi => ?_⟩
  rw [List.length_drop] at hi
  obtain ⟨c, h1, h2⟩ := h.2 (n + i) (by omega)
  refine ⟨c, by rw [List.getElem?_drop]; exact h1, ?_⟩
  rw [List.getD_eq_getElem?_getD, List.getElem?_drop, ← List.getD_eq_getElem?_getD]
  exact h2
/-- the end of a comprehension's turn that makes a list of ints -/
theorem elxL {H H' H4 : Hp} {Dl a : Addr} {acc : List V} {i : Nat} (nss : Nat → List (List Int)) {ns : List Int} (c : CD H Dl acc H') (hl : acc.length = i) (hz : acc.length < sizeLine) (e : Ex H' H4) (hP : LLi H' acc (nss i)) (hn : nss (i + 1) = nss i ++ [ns]) (ha : At H4 a (.lst (ns.map V.int))) (hne : a ≠ Dl) : ElX H Dl i (fun i acc H' => LLi H' acc (nss i)) (.ref a) H4 := by
  have hD := e.get c.at_
  have hP4 := hP.ex e
  refine ⟨acc, hD, hz, acc ++ [V.ref a], ⟨c.new, Ex.mut (c.ex.trans e) c.new, (upd_same : At (upd H4 Dl (HO.lst (acc ++ [V.ref a]))) Dl (HO.lst (acc ++ [V.ref a])))⟩, by simp [hl], ?_⟩
  show LLi _ _ (nss (i + 1))
  rw [hn]
  refine LLi.snoc (hP4.of (fun b o hb h => ?_) (hP4.nself hD)) ?_
  · unfold At; rw [upd_ne hb]; exact h
  · unfold At; rw [upd_ne hne]; exact ha
/-! ### == of lists of lists of ints -/
def dIs (r : List Int) : List PyData := r.map PyData.int
def dLL (nss : List (List Int)) : List PyData := nss.map fun r => .list (dIs r)
theorem dpIs {K : PySem.W.Frag} {H : Hp} : ∀ (r : List Int), DpAll K H (r.map V.int) (dIs r)
  | [] => .nil
  | z :: r => .cons (.int z) (dpIs r)
theorem LLi.tail {H : Hp} {x : V} {xs : List V} {r : List Int} {nss : List (List Int)} (h : LLi H (x :: xs) (r :: nss)) : LLi H xs nss := ⟨by have := h.1; simpa using this, fun i hi => h.2 (i + 1) (by simpa using hi)⟩
theorem LLi.dp {K : PySem.W.Frag} {H : Hp} : ∀ {nss : List (List Int)} {xs : List V}, LLi H xs nss → DpAll K H xs (dLL nss)
  | [], xs, h => by
    cases xs with
    | nil => exact .nil
    | cons x xs => exact absurd h.1 (by simp)
  | r :: nss, xs, h => by
    cases xs with
    | nil => exact absurd h.1 (by simp)
    | cons x xs =>
      obtain ⟨a, h1, h2⟩ := h.2 0 (by simp)
      cases h1
      exact .cons (.lst (sq_of h2) (dpIs r)) (LLi.dp h.tail)
theorem can_dIs : ∀ (r : List Int), PyData.canLayAll0 (dIs r) = true ∧ PyData.depthAll (dIs r) = 0
  | [] => by simp [dIs, PyData.canLayAll0, PyData.depthAll]
  | z :: r => by
    obtain ⟨h1, h2⟩ := can_dIs r
    unfold dIs at *
    simp [PyData.canLayAll0, PyData.depthAll, PyData.canLay0, PyData.depth, h1, h2]
theorem can_dLL : ∀ (nss : List (List Int)), PyData.canLayAll0 (dLL nss) = true ∧ PyData.depthAll (dLL nss) ≤ 1
  | [] => by simp [dLL, PyData.canLayAll0, PyData.depthAll]
  | r :: nss => by
    obtain ⟨h1, h2⟩ := can_dLL nss
    obtain ⟨h3, h4⟩ := can_dIs r
    unfold dLL at *
    simp [PyData.canLayAll0, PyData.depthAll, PyData.canLay0, PyData.depth, h1, h2, h3, h4]
theorem eqv_dIs : ∀ (a b : List Int), PyData.eqvAll (dIs a) (dIs b) = decide (a = b)
  | [], [] => by simp [dIs, PyData.eqvAll]
  | [], _ :: _ => by simp [dIs, PyData.eqvAll]
  | _ :: _, [] => by simp [dIs, PyData.eqvAll]
  | x :: a, y :: b => by
    have h := eqv_dIs a b
    unfold dIs at *
    have e : (x == y) = decide (x = y) := by by_cases e : x = y <;> simp [e]
    simp [PyData.eqvAll, PyData.eqv, h, e]
theorem eqv_dLL : ∀ (a b : List (List Int)), PyData.eqvAll (dLL a) (dLL b) = decide (a = b)
  | [], [] => by simp [dLL, PyData.eqvAll]
  | [], _ :: _ => by simp [dLL, PyData.eqvAll]
  | _ :: _, [] => by simp [dLL, PyData.eqvAll]
  | x :: a, y :: b => by
    have h := eqv_dLL a b
    have h2 := eqv_dIs x y
    unfold dLL at *
    simp [PyData.eqvAll, PyData.eqv, h, h2]
theorem sh_dLL (nss : List (List Int)) : SeqAt.shaped (.list (dLL nss)) = true := by
  obtain ⟨h1, h2⟩ := can_dLL nss
  simp [SeqAt.shaped, PyData.canLay0, PyData.depth, h1]
  omega
theorem w_eqLL {K : PySem.W.Frag} {H : Hp} {Q : VK} {a b : Addr} {xs ys : List V} {nss mss : List (List Int)} (h1 : SqL K H a xs) (h2 : SqL K H b ys) (l1 : LLi H xs nss) (l2 : LLi H ys mss) (q : Q (.bl (decide (nss = mss))) H) : rEqZ K (.ref a) (.ref b) H Q := .inr ⟨_, _, .lst h1 l1.dp, .lst h2 l2.dp, sh_dLL _, sh_dLL _, by unfold PyData.eqv; rw [eqv_dLL]; exact q⟩
theorem w_neLL {K : PySem.W.Frag} {H : Hp} {Q : VK} {a b : Addr} {xs ys : List V} {nss mss : List (List Int)} (h1 : SqL K H a xs) (h2 : SqL K H b ys) (l1 : LLi H xs nss) (l2 : LLi H ys mss) (q : Q (.bl (!decide (nss = mss))) H) : rNeZ K (.ref a) (.ref b) H Q := .inr ⟨_, _, .lst h1 l1.dp, .lst h2 l2.dp, sh_dLL _, sh_dLL _, by unfold PyData.eqv; rw [eqv_dLL]; exact q⟩
/-! ### lists of lists of ints, each of its own -/
structure LLn (H0 H : Hp) (xs : List V) (nss : List (List Int)) : Prop where
  ll : LLi H xs nss
  nd : xs.Nodup
  fr : ∀ v ∈ xs, ∃ a, v = .ref a ∧ Fr H0 a
theorem LLn.ex {H0 H H' : Hp} {xs : List V} {nss : List (List Int)} (h : LLn H0 H xs nss) (e : Ex H H') : LLn H0 H' xs nss := ⟨h.ll.ex e, h.nd, h.fr⟩
theorem LLn.nil {H0 H : Hp} : LLn H0 H [] [] := ⟨.nil, .nil, fun v hv => by simp at hv⟩
theorem LLi.ne {H G : Hp} {xs : List V} {nss : List (List Int)} {a : Addr} (h : LLi H xs nss) (e : Ex H G) (n : Fr G a) : V.ref a ∉ xs := by
  intro hm
  obtain ⟨j, hj, ej⟩ := List.getElem_of_mem hm
  obtain ⟨b, h1, h2⟩ := h.2 j (by rw [← h.1]; exact hj)
  rw [List.getElem?_eq_getElem hj, ej] at h1
  cases h1
  exact (e.get h2).ne n rfl
theorem LLn.snoc {H0 H : Hp} {xs : List V} {nss : List (List Int)} {a : Addr} {ns : List Int} (h : LLn H0 H xs nss) (r : At H a (.lst (ns.map V.int))) (hm : V.ref a ∉ xs) (hf : Fr H0 a) : LLn H0 H (xs ++ [.ref a]) (nss ++ [ns]) := by
  refine ⟨h.ll.snoc r, ?_, fun v hv => ?_⟩
  · rw [List.nodup_append]
    exact ⟨h.nd, by simp, fun v hv w hw e => by rw [List.mem_singleton.1 hw] at e; rw [e] at hv; exact hm hv⟩
  · rcases List.mem_append.1 hv with q | q
    · exact h.fr v q
    · exact ⟨a, List.mem_singleton.1 q, hf⟩
theorem LLn.of {H0 H H' : Hp} {xs : List V} {nss : List (List Int)} {p : Addr} (h : LLn H0 H xs nss) (ho : ∀ b o, b ≠ p → At H b o → At H' b o) (hp : V.ref p ∉ xs) : LLn H0 H' xs nss := ⟨h.ll.of ho hp, h.nd, h.fr⟩
/-- an inner list is changed -/
theorem LLn.inner {H0 H H' : Hp} {xs : List V} {nss : List (List Int)} {i : Nat} {a : Addr} {ns : List Int} (h : LLn H0 H xs nss) (hx : xs[i]? = some (.ref a)) (hi : i < nss.length) (ho : ∀ b o, b ≠ a → At H b o → At H' b o) (r : At H' a (.lst (ns.map V.int))) : LLn H0 H' xs (nss.set i ns) := by
  refine ⟨⟨by rw [List.length_set]; exact h.ll.1, fun j hj => ?_⟩, h.nd, h.fr⟩
  rw [List.length_set] at hj
  by_cases e : i = j
  · subst e
    exact ⟨a, hx, by rw [List.getD_eq_getElem?_getD, List.getElem?_set_self hi]; exact r⟩
  · obtain ⟨b, h1, h2⟩ := h.ll.2 j hj
    refine ⟨b, h1, ?_⟩
    rw [List.getD_eq_getElem?_getD, List.getElem?_set_ne e, ← List.getD_eq_getElem?_getD]
    refine ho b _ (fun z => e ?_) h2
    subst z
    obtain ⟨hi2, ei⟩ := List.getElem?_eq_some_iff.mp hx
    obtain ⟨hj2, ej⟩ := List.getElem?_eq_some_iff.mp h1
    have hp := List.pairwise_iff_getElem.mp h.nd
    rcases Nat.lt_trichotomy i j with q | q | q
    · exact absurd (ei.trans ej.symm) (hp i j hi2 hj2 q)
    · exact q
    · exact absurd (ej.trans ei.symm) (hp j i hj2 hi2 q)
/-- the end of a turn of [list(row) for row in ..] -/
theorem elxN {H H' H4 : Hp} {Dl a : Addr} {acc : List V} {i : Nat} (nss : Nat → List (List Int)) {ns : List Int} (c : CD H Dl acc H') (hl : acc.length = i) (hz : acc.length < sizeLine) (n : Fr H' a) (e : Ex H' H4) (hP : LLn H H' acc (nss i)) (hn : nss (i + 1) = nss i ++ [ns]) (ha : At H4 a (.lst (ns.map V.int))) : ElX H Dl i (fun i acc H' => LLn H H' acc (nss i)) (.ref a) H4 := by
  have hD := e.get c.at_
  have hP4 := hP.ex e
  have hne : a ≠ Dl := fun z => c.at_.ne (z ▸ n) rfl
  refine ⟨acc, hD, hz, acc ++ [V.ref a], ⟨c.new, Ex.mut (c.ex.trans e) c.new, (upd_same : At (upd H4 Dl (HO.lst (acc ++ [V.ref a]))) Dl (HO.lst (acc ++ [V.ref a])))⟩, by simp [hl], ?_⟩
  show LLn H _ _ (nss (i + 1))
  rw [hn]
  refine LLn.snoc (hP4.of (fun b o hb h => ?_) (hP4.ll.nself hD)) ?_ (hP.ll.ne (Ex.refl _) n) (c.ex.back n)
  · unfold At; rw [upd_ne hb]; exact h
  · unfold At; rw [upd_ne hne]; exact ha

--lib
/-! ### pairs of ints that stand for fractions -/
def PQ (p : Int × Int) (q : Rat) (n : Nat) : Prop := q = Rat.divInt p.1 p.2 ∧ 0 < p.2 ∧ p.1.natAbs < 2 ^ n ∧ p.2.natAbs < 2 ^ n
theorem PQ.mono {p : Int × Int} {q : Rat} {n m : Nat} (h : PQ p q n) (e : n ≤ m) : PQ p q m := ⟨h.1, h.2.1, bt_mono h.2.2.1 e, bt_mono h.2.2.2 e⟩
theorem PQ.add {p r : Int × Int} {q s : Rat} {n m : Nat} (h : PQ p q n) (g : PQ r s m) : PQ (p.1 * r.2 + r.1 * p.2, p.2 * r.2) (q + s) (n + m + 1) := by
  obtain ⟨rfl, h1, h2, h3⟩ := h
  obtain ⟨rfl, g1, g2, g3⟩ := g
  refine ⟨Rat.divInt_add_divInt _ _ (by omega) (by omega), Int.mul_pos h1 g1, bt_addL (bt_mul h2 g3) (bt_mul g2 h3) (Nat.le_refl _) (by omega), bt_mono (bt_mul h3 g3) (by omega)⟩
theorem PQ.mul {p r : Int × Int} {q s : Rat} {n m : Nat} (h : PQ p q n) (g : PQ r s m) : PQ (p.1 * r.1, p.2 * r.2) (q * s) (n + m) := by
  obtain ⟨rfl, h1, h2, h3⟩ := h
  obtain ⟨rfl, g1, g2, g3⟩ := g
  exact ⟨Rat.divInt_mul_divInt _ _, Int.mul_pos h1 g1, bt_mul h2 g2, bt_mul h3 g3⟩
theorem PQ.neg {p : Int × Int} {q : Rat} {n : Nat} (h : PQ p q n) : PQ (-p.1, p.2) (-q) n := by
  obtain ⟨rfl, h1, h2, h3⟩ := h
  exact ⟨(Rat.neg_divInt _ _), h1, bt_neg h2, h3⟩
theorem PQ.int {i : Int} {n : Nat} (h : i.natAbs < 2 ^ n) (h1 : 1 ≤ n) : PQ (i, 1) (i : Rat) n := ⟨div1 i, Int.one_pos, h, by
  show (1 : Int).natAbs < _
  exact Nat.one_lt_two_pow (by omega)⟩
/-- a list of such pairs -/
def RPL (H : Hp) (xs : List V) (qs : List Rat) (n : Nat) : Prop := ∃ ps : List (Int × Int), PL H xs ps ∧ ps.length = qs.length ∧ ∀ i, i < ps.length → PQ (ps.getD i (0, 0)) (qs.getD i 0) n
theorem RPL.ex {H H' : Hp} {xs : List V} {qs : List Rat} {n : Nat} (h : RPL H xs qs n) (e : Ex H H') : RPL H' xs qs n := by
  obtain ⟨ps, h1, h2⟩ := h
  exact ⟨ps, h1.ex e, h2⟩
theorem RPL.nl {H H' : Hp} {xs : List V} {qs : List Rat} {n : Nat} (h : RPL H xs qs n) (e : Nl H H') : RPL H' xs qs n := by
  obtain ⟨ps, h1, h2⟩ := h
  exact ⟨ps, h1.nl e, h2⟩
theorem RPL.nil {H : Hp} {n : Nat} : RPL H [] [] n := ⟨[], PL.nil, rfl, fun i hi => absurd hi (by simp)⟩
theorem RPL.snoc {H : Hp} {xs : List V} {qs : List Rat} {n : Nat} {a : Addr} {p : Int × Int} {q : Rat} (h : RPL H xs qs n) (r : At H a (.tup [.int p.1, .int p.2])) (hq : PQ p q n) : RPL H (xs ++ [.ref a]) (qs ++ [q]) n := by
  obtain ⟨ps, h1, h2, h3⟩ := h
  refine ⟨ps ++ [p], h1.snoc r, by simp [h2], fun i hi => ?_⟩
  by_cases e : i < ps.length
  · rw [List.getD_eq_getElem?_getD, List.getD_eq_getElem?_getD, List.getElem?_append_left e, List.getElem?_append_left (by omega), ← List.getD_eq_getElem?_getD, ← List.getD_eq_getElem?_getD]
    exact h3 i e
  · have ei : i = ps.length := by simp at hi; omega
    subst ei
    rw [List.getD_eq_getElem?_getD, List.getD_eq_getElem?_getD, List.getElem?_append_right (Nat.le_refl _), List.getElem?_append_right (by omega), h2, Nat.sub_self]
    exact hq
theorem RPL.at {H : Hp} {xs : List V} {qs : List Rat} {n i : Nat} (h : RPL H xs qs n) (hi : i < qs.length) : ∃ a p, xs[i]? = some (.ref a) ∧ At H a (.tup [.int p.1, .int p.2]) ∧ PQ p (qs.getD i 0) n := by
  obtain ⟨ps, h1, h2, h3⟩ := h
  obtain ⟨a, g1, g2⟩ := h1.2 i (by omega)
  exact ⟨a, _, g1, g2, h3 i (by omega)⟩
theorem RPL.len {H : Hp} {xs : List V} {qs : List Rat} {n : Nat} (h : RPL H xs qs n) : xs.length = qs.length := by
  obtain ⟨ps, h1, h2, h3⟩ := h
  rw [h1.1, h2]

--lib
/-! ### records of sales -/
/-- a record: the lot that stood, how often each of its things was sold, how many went away -/
abbrev Rc := List Int × List Int × Int
def rc0 : Rc := ([], [], 0)
def RcGood (n : Int) (r : Rc) : Prop := IsLot n r.1 ∧ r.2.1.length = r.1.length ∧ (∀ x ∈ r.2.1, 0 ≤ x) ∧ 0 ≤ r.2.2
/-- as it is handed in: the numbers sold stand in a list -/
def RcIn (K : PySem.W.Frag) (H : Hp) (a : Addr) (r : Rc) : Prop := ∃ l s, SqT K H a [.ref l, .ref s, .int r.2.2] ∧ SqT K H l (r.1.map V.int) ∧ SqL K H s (r.2.1.map V.int)
/-- as it is kept -/
def RcAt (K : PySem.W.Frag) (H : Hp) (a : Addr) (r : Rc) : Prop := ∃ l s, At H a (.tup [.ref l, .ref s, .int r.2.2]) ∧ SqT K H l (r.1.map V.int) ∧ SqT K H s (r.2.1.map V.int)
theorem RcIn.ex {K : PySem.W.Frag} {H H' : Hp} {a : Addr} {r : Rc} (h : RcIn K H a r) (e : Ex H H') : RcIn K H' a r := by
  obtain ⟨l, s, h1, h2, h3⟩ := h
  exact ⟨l, s, e.t h1, e.t h2, e.l h3⟩
theorem RcAt.ex {K : PySem.W.Frag} {H H' : Hp} {a : Addr} {r : Rc} (h : RcAt K H a r) (e : Ex H H') : RcAt K H' a r := by
  obtain ⟨l, s, h1, h2, h3⟩ := h
  exact ⟨l, s, e.get h1, e.t h2, e.t h3⟩
def RcErr (K : PySem.W.Frag) (n : Int) (r : Rc) (E : XK) (H : Hp) : Prop :=
  (¬ IsLot n r.1 → ∀ H', Ex H H' → E (.ref (He.ga K "BadLot")) none H') ∧
  (IsLot n r.1 → r.2.1.length ≠ r.1.length → ∀ d H', Ex H H' → At H' d (.xd [("at", .non), ("what", .str "sold")]) → E (.ref (He.ga K "BadNumber")) (some d) H') ∧
  (IsLot n r.1 → r.2.1.length = r.1.length → ∀ i : Nat, i < r.2.1.length → r.2.1.getD i 0 < 0 → (∀ j, j < i → 0 ≤ r.2.1.getD j 0) → ∀ d H', Ex H H' → At H' d (.xd [("at", .int i), ("what", .str "sold")]) → E (.ref (He.ga K "BadNumber")) (some d) H') ∧
  (IsLot n r.1 → r.2.1.length = r.1.length → (∀ x ∈ r.2.1, 0 ≤ x) → r.2.2 < 0 → ∀ d H', Ex H H' → At H' d (.xd [("at", .non), ("what", .str "gone")]) → E (.ref (He.ga K "BadNumber")) (some d) H')
theorem RcErr.ex {K : PySem.W.Frag} {n : Int} {r : Rc} {E : XK} {H H' : Hp} (h : RcErr K n r E H) (e : Ex H H') : RcErr K n r E H' :=
  ⟨fun a G g => h.1 a G (e.trans g), fun a b d G g => h.2.1 a b d G (e.trans g), fun a b i c c2 c3 d G g => h.2.2.1 a b i c c2 c3 d G (e.trans g), fun a b c c2 d G g => h.2.2.2 a b c c2 d G (e.trans g)⟩
theorem RcErr.good {K : PySem.W.Frag} {n : Int} {r : Rc} {E : XK} {H : Hp} (g : RcGood n r) : RcErr K n r E H := by
  obtain ⟨g1, g2, g3, g4⟩ := g
  refine ⟨fun h => absurd g1 h, fun _ h => absurd g2 h, fun _ _ i hi h => ?_, fun _ _ _ h => absurd h (by omega)⟩
  have := g3 _ (show r.2.1.getD i 0 ∈ r.2.1 by rw [getD_get _ _ _ hi]; exact List.getElem_mem _)
  omega
theorem rdNl {H H' : Hp} {a : Addr} {xs : List V} (e : Nl H H') (h : Rd H a (.tup xs)) : Rd H' a (.tup xs) := by
  rcases h with h | ⟨o, h⟩
  · exact Or.inl (e.get (fun l z => by cases z) h)
  · exact Or.inr ⟨o, e.get (fun l z => by cases z) h⟩
theorem sqT_nl2 {K : PySem.W.Frag} {H H' : Hp} {a : Addr} {xs : List V} (h : SqT K H a xs) (e : Nl H H') : SqT K H' a xs := by
  rcases h with h | h
  · exact .inl (rdNl e h)
  · exact .inr h
theorem RcAt.nl {K : PySem.W.Frag} {H H' : Hp} {a : Addr} {r : Rc} (h : RcAt K H a r) (e : Nl H H') : RcAt K H' a r := by
  obtain ⟨l, s, h1, h2, h3⟩ := h
  exact ⟨l, s, e.get (fun l z => by cases z) h1, sqT_nl2 h2 e, sqT_nl2 h3 e⟩
/-- all but an instance stands -/
theorem sqT_off {K : PySem.W.Frag} {H H' : Hp} {x a dx C : Addr} {fs : List (Str × V)} {xs : List V} (h : SqT K H a xs) (hx : At H x (.ins C dx fs)) (ho : ∀ b o, b ≠ x → At H b o → At H' b o) : SqT K H' a xs := by
  rcases h with (h | ⟨o, h⟩) | h
  · exact .inl (.inl (ho a _ (fun z => by subst z; have := h.symm.trans hx; cases this) h))
  · exact .inl (.inr ⟨o, ho a _ (fun z => by subst z; have := h.symm.trans hx; cases this) h⟩)
  · exact .inr h
theorem RcAt.off {K : PySem.W.Frag} {H H' : Hp} {x a dx C : Addr} {fs : List (Str × V)} {r : Rc} (h : RcAt K H a r) (hx : At H x (.ins C dx fs)) (ho : ∀ b o, b ≠ x → At H b o → At H' b o) : RcAt K H' a r := by
  obtain ⟨l, s, h1, h2, h3⟩ := h
  exact ⟨l, s, ho a _ (fun z => by subst z; have := h1.symm.trans hx; cases this) h1, sqT_off h2 hx ho, sqT_off h3 hx ho⟩
/-- the records that are handed in -/
def RcsIn (K : PySem.W.Frag) (H : Hp) (xs : List V) (rs : List Rc) : Prop := xs.length = rs.length ∧ ∀ i, i < rs.length → ∃ a, xs[i]? = some (.ref a) ∧ RcIn K H a (rs.getD i rc0)
theorem RcsIn.ex {K : PySem.W.Frag} {H H' : Hp} {xs : List V} {rs : List Rc} (h : RcsIn K H xs rs) (e : Ex H H') : RcsIn K H' xs rs := ⟨h.1, fun i hi => by
  obtain ⟨a, h1, h2⟩ := h.2 i hi
  exact ⟨a, h1, h2.ex e⟩⟩
/-- .. that are kept -/
def RcsAt (K : PySem.W.Frag) (H : Hp) (xs : List V) (rs : List Rc) : Prop := xs.length = rs.length ∧ ∀ i, i < rs.length → ∃ a, xs[i]? = some (.ref a) ∧ RcAt K H a (rs.getD i rc0)
theorem RcsAt.ex {K : PySem.W.Frag} {H H' : Hp} {xs : List V} {rs : List Rc} (h : RcsAt K H xs rs) (e : Ex H H') : RcsAt K H' xs rs := ⟨h.1, fun i hi => by
  obtain ⟨a, h1, h2⟩ := h.2 i hi
  exact ⟨a, h1, h2.ex e⟩⟩
theorem RcsAt.nl {K : PySem.W.Frag} {H H' : Hp} {xs : List V} {rs : List Rc} (h : RcsAt K H xs rs) (e : Nl H H') : RcsAt K H' xs rs := ⟨h.1, fun i hi => by
  obtain ⟨a, h1, h2⟩ := h.2 i hi
  exact ⟨a, h1, h2.nl e⟩⟩
theorem RcsAt.off {K : PySem.W.Frag} {H H' : Hp} {x dx C : Addr} {fs : List (Str × V)} {xs : List V} {rs : List Rc} (h : RcsAt K H xs rs) (hx : At H x (.ins C dx fs)) (ho : ∀ b o, b ≠ x → At H b o → At H' b o) : RcsAt K H' xs rs := ⟨h.1, fun i hi => by
  obtain ⟨a, h1, h2⟩ := h.2 i hi
  exact ⟨a, h1, h2.off hx ho⟩⟩
theorem RcsAt.nil {K : PySem.W.Frag} {H : Hp} : RcsAt K H [] [] := ⟨rfl, fun i hi => absurd hi (by simp)⟩
theorem RcsAt.snoc {K : PySem.W.Frag} {H : Hp} {xs : List V} {rs : List Rc} {a : Addr} {r : Rc} (h : RcsAt K H xs rs) (q : RcAt K H a r) : RcsAt K H (xs ++ [.ref a]) (rs ++ [r]) := by
  refine ⟨by simp [h.1], fun i hi => ?_⟩
  by_cases e : i < rs.length
  · obtain ⟨c, h1, h2⟩ := h.2 i e
    have eg : (rs ++ [r]).getD i rc0 = rs.getD i rc0 := by rw [List.getD_eq_getElem?_getD, List.getElem?_append_left e, ← List.getD_eq_getElem?_getD]
    exact ⟨c, by rw [List.getElem?_append_left (by rw [h.1]; exact e)]; exact h1, by rw [eg]; exact h2⟩
  · have ei : i = rs.length := by simp at hi; omega
    subst ei
    have eg : (rs ++ [r]).getD rs.length rc0 = r := by rw [List.getD_eq_getElem?_getD, List.getElem?_append_right (Nat.le_refl _), Nat.sub_self]; rfl
    exact ⟨a, by rw [← h.1]; simp, by rw [eg]; exact q⟩
/-- a book of n things with the records rs stands at x, its list at l -/
def Bk (K : PySem.W.Frag) (H : Hp) (x l : Addr) (n : Int) (rs : List Rc) : Prop := ∃ dx ys, At H x (.ins (He.ga K "SalesBook") dx [("many", .int n), ("records", .ref l)]) ∧ At H l (.lst ys) ∧ RcsAt K H ys rs
theorem Bk.ex {K : PySem.W.Frag} {H H' : Hp} {x l : Addr} {n : Int} {rs : List Rc} (h : Bk K H x l n rs) (e : Ex H H') : Bk K H' x l n rs := by
  obtain ⟨dx, ys, h1, h2, h3⟩ := h
  exact ⟨dx, ys, e.get h1, e.get h2, h3.ex e⟩
theorem RcsAt.len {K : PySem.W.Frag} {H : Hp} {xs : List V} {rs : List Rc} (h : RcsAt K H xs rs) : xs.length = rs.length := h.1
theorem rc_take {rs : List Rc} {i : Nat} (h : i < rs.length) : rs.take (i + 1) = rs.take i ++ [rs.getD i rc0] := by
  rw [List.take_succ_eq_append_getElem h, getD_get _ _ _ h]
def RcsGood (n : Int) (rs : List Rc) : Prop := ∀ i, i < rs.length → RcGood n (rs.getD i rc0)
/-- how many buyers took a thing -/
def soldR (r : Rc) (t : Int) : Int := ((List.range r.1.length).map fun i => if r.1.getD i 0 = t then r.2.1.getD i 0 else 0).sum
def soldP (r : Rc) (t : Int) (j : Nat) : Int := ((List.range j).map fun i => if r.1.getD i 0 = t then r.2.1.getD i 0 else 0).sum
theorem soldP_succ {r : Rc} {t : Int} {j : Nat} : soldP r t (j + 1) = soldP r t j + if r.1.getD j 0 = t then r.2.1.getD j 0 else 0 := by
  unfold soldP
  rw [List.range_succ, List.map_append, List.sum_append]
  simp
def soldOf (rs : List Rc) (t : Int) : Int := (rs.map fun r => soldR r t).sum

--lib
/-! ### records as the laws make them -/
/-- lists of ints, so many, each with P -/
def LLp (P : List Int → Prop) (H : Hp) (acc : List V) (i : Nat) : Prop := ∃ nss, LLi H acc nss ∧ nss.length = i ∧ ∀ r ∈ nss, P r
theorem elxLp {P : List Int → Prop} {H H' H4 : Hp} {Dl a : Addr} {acc : List V} {i : Nat} {ns : List Int} (c : CD H Dl acc H') (hl : acc.length = i) (hz : acc.length < sizeLine) (e : Ex H' H4) (hP : LLp P H' acc i) (hn : P ns) (ha : At H4 a (.lst (ns.map V.int))) (hne : a ≠ Dl) : ElX H Dl i (fun i acc H' => LLp P H' acc i) (.ref a) H4 := by
  obtain ⟨nss, hL, hL2, hL3⟩ := hP
  have hD := e.get c.at_
  have hP4 := hL.ex e
  refine ⟨acc, hD, hz, acc ++ [V.ref a], ⟨c.new, Ex.mut (c.ex.trans e) c.new, (upd_same : At (upd H4 Dl (HO.lst (acc ++ [V.ref a]))) Dl (HO.lst (acc ++ [V.ref a])))⟩, by simp [hl], nss ++ [ns], LLi.snoc (hP4.of (fun b o hb h => ?_) (hP4.nself hD)) ?_, by rw [List.length_append, hL2]; rfl, fun r hr => ?_⟩
  · unfold At; rw [upd_ne hb]; exact h
  · unfold At; rw [upd_ne hne]; exact ha
  · rcases List.mem_append.mp hr with h | h
    · exact hL3 r h
    · rw [List.mem_singleton] at h
      subst h
      exact hn
/-- how many buyers a record tells of -/
def buyR (r : Rc) : Int := r.2.1.sum + r.2.2
/-- a record as the law makes it -/
def RcL (H : Hp) (a : Addr) (r : Rc) : Prop := ∃ l s, At H a (.tup [.ref l, .ref s, .int r.2.2]) ∧ At H l (.tup (r.1.map V.int)) ∧ At H s (.lst (r.2.1.map V.int))
theorem RcL.ex {H H' : Hp} {a : Addr} {r : Rc} (h : RcL H a r) (e : Ex H H') : RcL H' a r := by
  obtain ⟨l, s, h1, h2, h3⟩ := h
  exact ⟨l, s, e.get h1, e.get h2, e.get h3⟩
theorem RcL.in_ {K : PySem.W.Frag} {H : Hp} {a : Addr} {r : Rc} (h : RcL H a r) : RcIn K H a r := by
  obtain ⟨l, s, h1, h2, h3⟩ := h
  exact ⟨l, s, st_of h1, st_of h2, sq_of h3⟩
def RcsL (H : Hp) (xs : List V) (rs : List Rc) : Prop := xs.length = rs.length ∧ ∀ i, i < rs.length → ∃ a, xs[i]? = some (.ref a) ∧ RcL H a (rs.getD i rc0)
theorem RcsL.ex {H H' : Hp} {xs : List V} {rs : List Rc} (h : RcsL H xs rs) (e : Ex H H') : RcsL H' xs rs := ⟨h.1, fun i hi => by
  obtain ⟨a, h1, h2⟩ := h.2 i hi
  exact ⟨a, h1, h2.ex e⟩⟩
theorem RcsL.len {H : Hp} {xs : List V} {rs : List Rc} (h : RcsL H xs rs) : xs.length = rs.length := h.1
theorem RcsL.in_ {K : PySem.W.Frag} {H : Hp} {xs : List V} {rs : List Rc} (h : RcsL H xs rs) : RcsIn K H xs rs := ⟨h.1, fun i hi => by
  obtain ⟨a, h1, h2⟩ := h.2 i hi
  exact ⟨a, h1, h2.in_⟩⟩
theorem RcsL.nil {H : Hp} : RcsL H [] [] := ⟨rfl, fun i hi => absurd hi (by simp)⟩
theorem RcsL.snoc {H : Hp} {xs : List V} {rs : List Rc} {a : Addr} {r : Rc} (h : RcsL H xs rs) (q : RcL H a r) : RcsL H (xs ++ [.ref a]) (rs ++ [r]) := by
  refine ⟨by simp [h.1], fun i hi => ?_⟩
  by_cases e : i < rs.length
  · obtain ⟨c, h1, h2⟩ := h.2 i e
    have eg : (rs ++ [r]).getD i rc0 = rs.getD i rc0 := by rw [List.getD_eq_getElem?_getD, List.getElem?_append_left e, ← List.getD_eq_getElem?_getD]
    exact ⟨c, by rw [List.getElem?_append_left (by rw [h.1]; exact e)]; exact h1, by rw [eg]; exact h2⟩
  · have ei : i = rs.length := by simp at hi; omega
    subst ei
    have eg : (rs ++ [r]).getD rs.length rc0 = r := by rw [List.getD_eq_getElem?_getD, List.getElem?_append_right (Nat.le_refl _), Nat.sub_self]; rfl
    exact ⟨a, by rw [← h.1]; simp, by rw [eg]; exact q⟩
/-- a list that holds other things than ints is none of the records' own -/
theorem RcL.of {H H' : Hp} {a p : Addr} {r : Rc} {xs : List V} (h : RcL H a r) (hp : At H p (.lst xs)) (hx : ∀ ns : List Int, xs ≠ ns.map V.int) (ho : ∀ b o, b ≠ p → At H b o → At H' b o) : RcL H' a r := by
  obtain ⟨l, s, h1, h2, h3⟩ := h
  refine ⟨l, s, ho a _ (fun z => ?_) h1, ho l _ (fun z => ?_) h2, ho s _ (fun z => ?_) h3⟩
  · subst z; have := h1.symm.trans hp; cases this
  · subst z; have := h2.symm.trans hp; cases this
  · subst z
    have := h3.symm.trans hp
    exact hx r.2.1 (HO.lst.inj (Option.some.inj this)).symm
theorem RcsL.of {H H' : Hp} {p : Addr} {xs : List V} {rs : List Rc} (h : RcsL H xs rs) (hp : At H p (.lst xs)) (ho : ∀ b o, b ≠ p → At H b o → At H' b o) : RcsL H' xs rs := ⟨h.1, fun i hi => by
  obtain ⟨a, h1, h2⟩ := h.2 i hi
  refine ⟨a, h1, h2.of hp (fun ns z => ?_) ho⟩
  rw [z] at h1
  rw [List.getElem?_map] at h1
  cases e : ns[i]? with
  | none => rw [e] at h1; cases h1
  | some y => rw [e] at h1; cases h1⟩
/-- the end of a comprehension's turn that makes a record -/
theorem elxRc {P : Nat → List Rc → Prop} {H H' H4 : Hp} {Dl a : Addr} {acc : List V} {i : Nat} {r : Rc} (c : CD H Dl acc H') (hl : acc.length = i) (hz : acc.length < sizeLine) (e : Ex H' H4) (hP : ∃ rs, RcsL H' acc rs ∧ P i rs) (hn : ∀ rs, RcsL H' acc rs → P i rs → P (i + 1) (rs ++ [r])) (ha : RcL H4 a r) (hf : Fr H' a) (hne : ∀ l s, At H4 a (.tup [.ref l, .ref s, .int r.2.2]) → s ≠ Dl) : ElX H Dl i (fun i acc H' => ∃ rs, RcsL H' acc rs ∧ P i rs) (.ref a) H4 := by
  obtain ⟨rs, hR, hR2⟩ := hP
  have hD := e.get c.at_
  have hR4 := hR.ex e
  refine ⟨acc, hD, hz, acc ++ [V.ref a], ⟨c.new, Ex.mut (c.ex.trans e) c.new, (upd_same : At (upd H4 Dl (HO.lst (acc ++ [V.ref a]))) Dl (HO.lst (acc ++ [V.ref a])))⟩, by simp [hl], rs ++ [r], RcsL.snoc (hR4.of hD fun b o hb h => ?_) ?_, hn rs hR hR2⟩
  · unfold At; rw [upd_ne hb]; exact h
  · obtain ⟨l, s, h1, h2, h3⟩ := ha
    have g : ∀ b o, b ≠ Dl → At H4 b o → At (upd H4 Dl (HO.lst (acc ++ [V.ref a]))) b o := fun b o hb h => by unfold At; rw [upd_ne hb]; exact h
    exact ⟨l, s, g a _ (fun z => by subst z; have := h1.symm.trans hD; cases this) h1, g l _ (fun z => by subst z; have := h2.symm.trans hD; cases this) h2, g s _ (hne l s h1) h3⟩
/-- what the law says of its records -/
structure RcsLaw (m cnt : Nat) (lift : Int) (rs : List Rc) : Prop where
  len : rs.length = cnt
  good : ∀ r ∈ rs, RcGood m r
  buy : (rs.map buyR).sum ≤ 24
  lift_ : lift = 1 → ∀ r ∈ rs, ∀ c ∈ r.2.1, 1 ≤ c
/-- the item at a place, as the walk looks for it -/
def Ix (xs : List V) (i : Int) (v : V) : Prop := atI xs i = some v
theorem ix_nat {xs : List V} {i : Nat} {v : V} (h : xs[i]? = some v) : Ix xs (i : Int) v := by
  have h1 : i < xs.length := (List.getElem?_eq_some_iff.mp h).1
  unfold Ix atI ixN
  rw [if_pos (by omega), if_pos (by omega)]
  exact h
theorem w_ixLx {K : PySem.W.Frag} {H : Hp} {Q : VK} {a : Addr} {xs : List V} {i : Int} {v : V} (h : SqL K H a xs) (ha : Ix xs i v) (q : Q v H) : rIx K (.ref a) (.int i) H Q := w_ixL h ha q
theorem w_ixTx {K : PySem.W.Frag} {H : Hp} {Q : VK} {a : Addr} {xs : List V} {i : Int} {v : V} (h : SqT K H a xs) (ha : Ix xs i v) (q : Q v H) : rIx K (.ref a) (.int i) H Q := w_ixT h ha q
/-- xs[:-1] -/
theorem w_slLinit {K : PySem.W.Frag} {H : Hp} {Q : VK} {a : Addr} {xs : List V} (h : SqL K H a xs) (q : ∀ p H2, Fr H p → Ex H H2 → At H2 p (.lst (xs.take (xs.length - 1))) → Q (.ref p) H2) : rSlL K (.ref a) none (some (-1)) H Q := by
  have e : HT.sIx xs.length xs.length (some (-1)) = xs.length - 1 := by
    unfold HT.sIx
    simp
    omega
  refine w_slL h fun p H2 a b c => q p H2 a b ?_
  unfold cutV at c
  rw [e, HT.sIx_none, List.drop_zero, Nat.sub_zero] at c
  exact c
/-- xs[-1] -/
theorem ix_last {xs : List V} {v : V} (h : xs[xs.length - 1]? = some v) : Ix xs (-1) v := by
  have h1 : xs.length - 1 < xs.length := (List.getElem?_eq_some_iff.mp h).1
  unfold Ix atI ixN
  rw [if_neg (by omega), if_pos (by omega)]
  show xs[((-1 : Int) + (xs.length : Int)).toNat]? = _
  rw [show ((-1 : Int) + (xs.length : Int)).toNat = xs.length - 1 by omega]
  exact h
theorem RcsL.take {H : Hp} {xs : List V} {rs : List Rc} (h : RcsL H xs rs) (n : Nat) : RcsL H (xs.take n) (rs.take n) := by
  refine ⟨by rw [List.length_take, List.length_take, h.1], fun i hi => ?_⟩
  rw [List.length_take] at hi
  obtain ⟨a, h1, h2⟩ := h.2 i (by omega)
  refine ⟨a, by rw [List.getElem?_take_of_lt (by omega)]; exact h1, ?_⟩
  rw [List.getD_eq_getElem?_getD, List.getElem?_take_of_lt (by omega), ← List.getD_eq_getElem?_getD]
  exact h2
theorem sum_nnI : ∀ {l : List Int}, (∀ x ∈ l, 0 ≤ x) → 0 ≤ l.sum
  | [], _ => by simp
  | x :: l, h => by
    rw [List.sum_cons]
    have := h x (by simp)
    have := sum_nnI fun y hy => h y (List.mem_cons_of_mem _ hy)
    omega
theorem buyR_nn {n : Int} {r : Rc} (g : RcGood n r) : 0 ≤ buyR r := by
  have := sum_nnI g.2.2.1
  have := g.2.2.2
  unfold buyR
  omega
theorem RcsGood.mem {n : Int} {rs : List Rc} (h : RcsGood n rs) : ∀ r ∈ rs, RcGood n r := fun r hr => by
  obtain ⟨i, hi, e⟩ := List.getElem_of_mem hr
  have := h i hi
  rw [getD_get _ _ _ hi, e] at this
  exact this
/-! records whose lots may be known to their objects -/
theorem rdEx {H H' : Hp} {a : Addr} {u : HO} (h : Rd H a u) (e : Ex H H') : Rd H' a u := by
  rcases h with h | ⟨o, h⟩
  · exact .inl (e.get h)
  · exact .inr ⟨o, e.get h⟩
theorem rdNe {H : Hp} {a b : Addr} {xs ys : List V} (h : Rd H a (.tup xs)) (h2 : At H b (.lst ys)) : a ≠ b := fun z => by
  subst z
  rcases h with h | ⟨o, h⟩
  · have := h.symm.trans h2; cases this
  · have := h.symm.trans h2; cases this
theorem rdOff {H H' : Hp} {a b : Addr} {xs ys : List V} (h : Rd H a (.tup xs)) (h2 : At H b (.lst ys)) (ho : ∀ c o, c ≠ b → At H c o → At H' c o) : Rd H' a (.tup xs) := by
  have hn := rdNe h h2
  rcases h with h | ⟨o, h⟩
  · exact .inl (ho _ _ hn h)
  · exact .inr ⟨o, ho _ _ hn h⟩
def RcZ (H : Hp) (a : Addr) (r : Rc) : Prop := ∃ l s, At H a (.tup [.ref l, .ref s, .int r.2.2]) ∧ Rd H l (.tup (r.1.map V.int)) ∧ At H s (.lst (r.2.1.map V.int))
theorem RcZ.ex {H H' : Hp} {a : Addr} {r : Rc} (h : RcZ H a r) (e : Ex H H') : RcZ H' a r := by
  obtain ⟨l, s, h1, h2, h3⟩ := h
  exact ⟨l, s, e.get h1, rdEx h2 e, e.get h3⟩
theorem RcZ.in_ {K : PySem.W.Frag} {H : Hp} {a : Addr} {r : Rc} (h : RcZ H a r) : RcIn K H a r := by
  obtain ⟨l, s, h1, h2, h3⟩ := h
  exact ⟨l, s, st_of h1, .inl h2, sq_of h3⟩
def RcsZ (H : Hp) (xs : List V) (rs : List Rc) : Prop := xs.length = rs.length ∧ ∀ i, i < rs.length → ∃ a, xs[i]? = some (.ref a) ∧ RcZ H a (rs.getD i rc0)
theorem RcsZ.ex {H H' : Hp} {xs : List V} {rs : List Rc} (h : RcsZ H xs rs) (e : Ex H H') : RcsZ H' xs rs := ⟨h.1, fun i hi => by
  obtain ⟨a, h1, h2⟩ := h.2 i hi
  exact ⟨a, h1, h2.ex e⟩⟩
theorem RcsZ.len {H : Hp} {xs : List V} {rs : List Rc} (h : RcsZ H xs rs) : xs.length = rs.length := h.1
theorem RcsZ.in_ {K : PySem.W.Frag} {H : Hp} {xs : List V} {rs : List Rc} (h : RcsZ H xs rs) : RcsIn K H xs rs := ⟨h.1, fun i hi => by
  obtain ⟨a, h1, h2⟩ := h.2 i hi
  exact ⟨a, h1, h2.in_⟩⟩
theorem RcsL.z {H : Hp} {xs : List V} {rs : List Rc} (h : RcsL H xs rs) : RcsZ H xs rs := ⟨h.1, fun i hi => by
  obtain ⟨a, h1, l, s, h2, h3, h4⟩ := h.2 i hi
  exact ⟨a, h1, l, s, h2, .inl h3, h4⟩⟩
theorem RcsZ.nil {H : Hp} : RcsZ H [] [] := ⟨rfl, fun i hi => absurd hi (by simp)⟩
theorem RcsZ.snoc {H : Hp} {xs : List V} {rs : List Rc} {a : Addr} {r : Rc} (h : RcsZ H xs rs) (q : RcZ H a r) : RcsZ H (xs ++ [.ref a]) (rs ++ [r]) := by
  refine ⟨by simp [h.1], fun i hi => ?_⟩
  by_cases e : i < rs.length
  · obtain ⟨c, h1, h2⟩ := h.2 i e
    have eg : (rs ++ [r]).getD i rc0 = rs.getD i rc0 := by rw [List.getD_eq_getElem?_getD, List.getElem?_append_left e, ← List.getD_eq_getElem?_getD]
    exact ⟨c, by rw [List.getElem?_append_left (by rw [h.1]; exact e)]; exact h1, by rw [eg]; exact h2⟩
  · have ei : i = rs.length := by simp at hi; omega
    subst ei
    have eg : (rs ++ [r]).getD rs.length rc0 = r := by rw [List.getD_eq_getElem?_getD, List.getElem?_append_right (Nat.le_refl _), Nat.sub_self]; rfl
    exact ⟨a, by rw [← h.1]; simp, by rw [eg]; exact q⟩
theorem RcZ.of {H H' : Hp} {a p : Addr} {r : Rc} {xs : List V} (h : RcZ H a r) (hp : At H p (.lst xs)) (hx : ∀ ns : List Int, xs ≠ ns.map V.int) (ho : ∀ b o, b ≠ p → At H b o → At H' b o) : RcZ H' a r := by
  obtain ⟨l, s, h1, h2, h3⟩ := h
  refine ⟨l, s, ho a _ (fun z => ?_) h1, rdOff h2 hp ho, ho s _ (fun z => ?_) h3⟩
  · subst z; have := h1.symm.trans hp; cases this
  · subst z
    have := h3.symm.trans hp
    exact hx r.2.1 (HO.lst.inj (Option.some.inj this)).symm
theorem RcsZ.of {H H' : Hp} {p : Addr} {xs : List V} {rs : List Rc} (h : RcsZ H xs rs) (hp : At H p (.lst xs)) (ho : ∀ b o, b ≠ p → At H b o → At H' b o) : RcsZ H' xs rs := ⟨h.1, fun i hi => by
  obtain ⟨a, h1, h2⟩ := h.2 i hi
  refine ⟨a, h1, h2.of hp (fun ns z => ?_) ho⟩
  rw [z] at h1
  rw [List.getElem?_map] at h1
  cases e : ns[i]? with
  | none => rw [e] at h1; cases h1
  | some y => rw [e] at h1; cases h1⟩
theorem elxRcZ {P : Nat → List Rc → Prop} {H H' H4 : Hp} {Dl a : Addr} {acc : List V} {i : Nat} {r : Rc} (c : CD H Dl acc H') (hl : acc.length = i) (hz : acc.length < sizeLine) (e : Ex H' H4) (hP : ∃ rs, RcsZ H' acc rs ∧ P i rs) (hn : ∀ rs, RcsZ H' acc rs → P i rs → P (i + 1) (rs ++ [r])) (ha : RcZ H4 a r) (hne : ∀ l s, At H4 a (.tup [.ref l, .ref s, .int r.2.2]) → s ≠ Dl) : ElX H Dl i (fun i acc H' => ∃ rs, RcsZ H' acc rs ∧ P i rs) (.ref a) H4 := by
  obtain ⟨rs, hR, hR2⟩ := hP
  have hD := e.get c.at_
  have hR4 := hR.ex e
  have g : ∀ b o, b ≠ Dl → At H4 b o → At (upd H4 Dl (HO.lst (acc ++ [V.ref a]))) b o := fun b o hb h => by unfold At; rw [upd_ne hb]; exact h
  refine ⟨acc, hD, hz, acc ++ [V.ref a], ⟨c.new, Ex.mut (c.ex.trans e) c.new, (upd_same : At (upd H4 Dl (HO.lst (acc ++ [V.ref a]))) Dl (HO.lst (acc ++ [V.ref a])))⟩, by simp [hl], rs ++ [r], RcsZ.snoc (hR4.of hD g) ?_, hn rs hR hR2⟩
  obtain ⟨l, s, h1, h2, h3⟩ := ha
  exact ⟨l, s, g a _ (fun z => by subst z; have := h1.symm.trans hD; cases this) h1, rdOff h2 hD g, g s _ (hne l s h1) h3⟩

local macro_rules | `(tactic| walk_at "ex") => `(tactic| first | with_reducible assumption | ((with_reducible apply Z.exE); exact inferInstance))
local macro_rules | `(tactic| walk_at "fr") => `(tactic| first | with_reducible assumption | ((with_reducible apply Z.frE); (with_reducible assumption); exact inferInstance))
local macro_rules | `(tactic| walk_at "fx") => `(tactic| first | with_reducible assumption | ((with_reducible apply Z.getE); (with_reducible assumption); exact inferInstance) | ((with_reducible apply Z.getTN); (with_reducible assumption); exact inferInstance) | ((with_reducible apply Z.getIN); (with_reducible assumption); exact inferInstance))
local macro_rules | `(tactic| walk_at "fl") => `(tactic| first | with_reducible assumption | ((with_reducible apply Z.lA); (with_reducible assumption); exact inferInstance) | ((with_reducible apply Z.lE); (with_reducible assumption); exact inferInstance))
local macro_rules | `(tactic| walk_at "fi") => `(tactic| first | walk_at "fl" | ((with_reducible apply Z.lU); (walk_at "fl"); exact rfl))
local macro_rules | `(tactic| walk_at "ti") => `(tactic| first | walk_at "ft" | ((with_reducible apply Z.tU); (walk_at "ft"); exact rfl))
local macro_rules | `(tactic| walk_at "ft") => `(tactic| first | with_reducible assumption | ((with_reducible apply Z.tA); (with_reducible assumption); exact inferInstance) | ((with_reducible apply Z.tE); (with_reducible assumption); exact inferInstance) | ((with_reducible apply Z.tNA); (with_reducible assumption); exact inferInstance) | ((with_reducible apply Z.tEN); (with_reducible assumption); exact inferInstance))
local macro_rules | `(tactic| walk_at "fa") => `(tactic| first | with_reducible assumption | ((with_reducible apply Z.aE); (with_reducible assumption); exact inferInstance) | ((with_reducible apply Or.inl); (walk_at "fl")) | ((with_reducible apply Or.inr); (walk_at "ft")))
local macro_rules | `(tactic| walk_at "num") => `(tactic| first | with_reducible assumption | omega | (simp only [List.length_map, List.length_append, List.length_cons, List.length_nil, List.length_range, List.length_take, List.length_drop, List.length_replicate]; omega) | (simp only [List.length_map, List.length_append, List.length_cons, List.length_nil, List.length_range, List.length_take, List.length_drop, List.length_replicate] at *; omega) | decide | exact rfl)
local macro_rules | `(tactic| walk_at "nat") => `(tactic| first | with_reducible assumption | (simp only [Int.reduceToNat]; exact rfl) | (simp only [Int.toNat_natCast]; exact rfl) | exact rfl)
local macro_rules | `(tactic| walk_at "sz") => `(tactic| first | with_reducible assumption | (show _ ≤ 16777216; walk_at "num") | (show _ < 16777216; walk_at "num"))
local macro_rules | `(tactic| walk_at "div") => `(tactic| first | with_reducible assumption | ((with_reducible apply Z.CDivZ.of); with_reducible assumption) | exact Z.CDivZ.of (L2.wide_div (b := 64) (by omega) (by omega) (by decide) (by decide)) | exact Z.CDivZ.of (L2.wide_div (b := 64) (by decide) (by decide) (by decide) (by decide)))
local macro_rules | `(tactic| walk_at "look") => `(tactic| first | with_reducible assumption | exact R.rF_top _ _ | exact R.rF_bottom _ _ | exact rfl)
local macro_rules | `(tactic| walk_at "call") => `(tactic| fail)
local macro_rules | `(tactic| walk_at "rn") => `(tactic| (first | with_reducible assumption | ((with_reducible apply R.rnE); (with_reducible assumption); exact inferInstance) | ((with_reducible apply R.rnN); (with_reducible assumption); exact inferInstance)))
local macro_rules | `(tactic| walk_at "rb") => `(tactic| (first | with_reducible assumption | ((with_reducible apply R.rbE); (with_reducible assumption); exact inferInstance) | ((with_reducible apply R.rbN); (with_reducible assumption); exact inferInstance)))
local macro_rules | `(tactic| walk_at "rl") => `(tactic| (first | with_reducible assumption | ((with_reducible apply R.rlE); (with_reducible assumption); exact inferInstance) | ((with_reducible apply R.rlN); (with_reducible assumption); exact inferInstance)))
local macro_rules | `(tactic| walk_at "call") => `(tactic| ((with_reducible apply R.u_rme); (walk_at "rb"); (decide +kernel)))
local macro_rules | `(tactic| walk_at "call") => `(tactic| ((with_reducible apply R.u_rmany); (walk_at "rb"); (with_reducible assumption); (with_reducible assumption)))
local macro_rules | `(tactic| walk_at "call") => `(tactic| ((with_reducible apply R.u_rcon); (walk_at "rb"); (with_reducible assumption); (with_reducible assumption); (decide +kernel)))
local macro_rules | `(tactic| walk_at "call") => `(tactic| ((with_reducible apply R.u_risC2); (walk_at "rb"); (with_reducible assumption); (with_reducible assumption)))
local macro_rules | `(tactic| walk_at "call") => `(tactic| ((with_reducible apply R.u_risO2); (walk_at "rb"); (with_reducible assumption)))
local macro_rules | `(tactic| walk_at "call") => `(tactic| ((with_reducible apply R.u_ixR); (walk_at "fl"); (walk_at "rl"); (walk_at "num"); (walk_at "num"); (intro ra hra)))
local macro_rules | `(tactic| walk_at "pl") => `(tactic| (first | with_reducible assumption | ((with_reducible apply R.plE); (with_reducible assumption); exact inferInstance) | ((with_reducible apply R.plN); (with_reducible assumption); exact inferInstance)))
local macro_rules | `(tactic| walk_at "call") => `(tactic| ((with_reducible apply R.u_ixP); (walk_at "fl"); (walk_at "pl"); (walk_at "num"); (walk_at "num"); (intro pa hpa)))
local macro_rules | `(tactic| walk_at "wr") => `(tactic| (first | with_reducible assumption | ((with_reducible apply R.wrE); (with_reducible assumption); exact inferInstance) | ((with_reducible apply R.wrN); (with_reducible assumption); exact inferInstance)))
local macro_rules | `(tactic| walk_at "call") => `(tactic| ((with_reducible apply R.u_meW); (walk_at "wr"); (decide +kernel); (decide +kernel); (decide +kernel)))
local macro_rules | `(tactic| walk_at "call") => `(tactic| ((with_reducible apply R.u_wts); (walk_at "wr"); (with_reducible assumption); (with_reducible assumption); (intro tw htw htw2)))
local macro_rules | `(tactic| walk_at "call") => `(tactic| ((with_reducible apply R.u_asd); (walk_at "wr"); (with_reducible assumption); (with_reducible assumption)))
local macro_rules | `(tactic| walk_at "call") => `(tactic| ((with_reducible apply R.u_many); (walk_at "wr"); (with_reducible assumption); (with_reducible assumption)))
local macro_rules | `(tactic| walk_at "call") => `(tactic| ((with_reducible apply R.u_isW); (walk_at "wr"); (with_reducible assumption)))
local macro_rules | `(tactic| walk_at "call") => `(tactic| ((with_reducible apply R.u_OO); (walk_at "rn"); (walk_at "rn"); (first | decide | omega); (intro p H2 hn he hr)))
local macro_rules | `(tactic| walk_at "call") => `(tactic| ((with_reducible apply R.u_OI); (walk_at "rn"); (walk_at "bt"); (first | decide | omega); (intro p H2 hn he hr)))
local macro_rules | `(tactic| walk_at "call") => `(tactic| ((with_reducible apply R.u_IO); (walk_at "rn"); (walk_at "bt"); (first | decide | omega); (intro p H2 hn he hr)))
local macro_rules | `(tactic| walk_at "call") => `(tactic| ((with_reducible apply R.u_UO); (walk_at "rn"); (intro p H2 hn he hr)))
local macro_rules | `(tactic| walk_at "call") => `(tactic| ((with_reducible apply R.u_C1); (walk_at "rn"); (intro p H2 hn he hr)))
local macro_rules | `(tactic| walk_at "call") => `(tactic| ((with_reducible apply R.u_eOO); (walk_at "rn"); (walk_at "rn")))
local macro_rules | `(tactic| walk_at "call") => `(tactic| ((with_reducible apply R.u_eOI); (walk_at "rn")))
local macro_rules | `(tactic| walk_at "call") => `(tactic| ((with_reducible apply R.u_eIO); (walk_at "rn")))
local macro_rules | `(tactic| walk_at "call") => `(tactic| ((with_reducible apply R.u_bO); (walk_at "rn")))
local macro_rules | `(tactic| walk_at "call") => `(tactic| ((with_reducible apply R.u_cIO); (walk_at "rn"); (walk_at "bt"); (first | decide | omega)))
local macro_rules | `(tactic| walk_at "call") => `(tactic| ((with_reducible apply R.u_cOO); (walk_at "rn"); (walk_at "rn")))
local macro_rules | `(tactic| walk_at "call") => `(tactic| ((with_reducible apply R.u_cOI); (walk_at "rn"); (walk_at "bt"); (first | decide | omega)))
local macro_rules | `(tactic| walk_at "call") => `(tactic| ((with_reducible apply R.u_me); (walk_at "rn"); (decide +kernel); (decide +kernel)))
local macro_rules | `(tactic| walk_at "call") => `(tactic| ((with_reducible apply R.u_top); (walk_at "rn"); (with_reducible assumption); (with_reducible assumption)))
local macro_rules | `(tactic| walk_at "call") => `(tactic| ((with_reducible apply R.u_bot); (walk_at "rn"); (with_reducible assumption); (with_reducible assumption)))
local macro_rules | `(tactic| walk_at "call") => `(tactic| ((with_reducible apply R.u_isR); (walk_at "rn"); (with_reducible assumption)))
local macro_rules | `(tactic| walk_at "st1") => `(tactic| (first
  | ((with_reducible apply Z.w_var); exact rfl)
  | with_reducible refine Z.w_c ?_
  | with_reducible refine Z.w_op ?_
  | with_reducible refine Z.w_un ?_
  | with_reducible refine Z.w_cb ?_
  | with_reducible refine Z.w_nil ?_
  | with_reducible refine Z.w_cons ?_
  | with_reducible refine Z.w_tup ?_
  | with_reducible refine Z.w_lst ?_
  | with_reducible refine Z.w_call0 ?_
  | with_reducible refine Z.w_call ?_
  | with_reducible refine Z.w_test ?_
  | with_reducible refine Z.w_B ?_
  | with_reducible refine Z.w_bl ?_
  | with_reducible refine Z.w_and ?_
  | with_reducible refine Z.w_or ?_
  | with_reducible refine Z.w_not ?_
  | with_reducible refine Z.w_andV ?_
  | with_reducible refine Z.w_orV ?_
  | with_reducible refine Z.w_notV ?_
  | with_reducible refine Z.w_ifE ?_
  | with_reducible refine Z.w_isN2 ?_
  | with_reducible refine Z.w_notN2 ?_
  | with_reducible refine Z.isN_n ?_
  | with_reducible refine Z.isN_i ?_
  | with_reducible refine Z.isN_s ?_
  | with_reducible refine Z.isN_r ?_
  | with_reducible refine Z.isN_b ?_
  | with_reducible refine Z.notN_n ?_
  | with_reducible refine Z.notN_i ?_
  | with_reducible refine Z.notN_s ?_
  | with_reducible refine Z.notN_r ?_
  | with_reducible refine Z.notN_b ?_
  | with_reducible refine Z.w_seq ?_
  | with_reducible refine Z.w_asg ?_
  | with_reducible refine Z.w_gnS ?_
  | with_reducible refine Z.w_gn ?_
  | with_reducible refine Z.w_ret ?_
  | with_reducible refine Z.w_retN ?_
  | with_reducible refine Z.w_drop ?_
  | with_reducible refine Z.w_next ?_
  | with_reducible refine Z.w_brk ?_
  | with_reducible refine Z.w_cnt ?_
  | with_reducible refine Z.w_if ?_
  | with_reducible refine Z.w_enx ?_
  | with_reducible refine Z.w_ert ?_
  | with_reducible refine Z.w_ebk ?_
  | with_reducible refine Z.w_ect ?_
  | ((with_reducible show L2.Ends.nx _ _ _); with_reducible refine Z.w_nx ?_)
  | ((with_reducible show L2.Ends.bk _ _ _); with_reducible refine Z.w_bk ?_)
  | ((with_reducible show L2.Ends.ct _ _ _); with_reducible refine Z.w_ct ?_)
  | ((with_reducible show L2.Ends.rt _ _ _); with_reducible refine Z.w_rt ?_)
  | ((with_reducible apply Z.w_aug); exact rfl)
  | with_reducible refine Z.w_for ?_
  | with_reducible refine Z.w_lc ?_
  | with_reducible refine Z.w_iL ?_
  | with_reducible refine Z.w_iT ?_
  | with_reducible refine Z.w_iA ?_
  | with_reducible refine Z.w_iR1 ?_
  | with_reducible refine Z.w_iR2 ?_
  | with_reducible refine Z.w_iE ?_
  | with_reducible refine Z.w_iEA ?_
  | with_reducible refine Z.w_iZA ?_
  | with_reducible refine Z.w_tSAdd ?_
  | with_reducible refine Z.w_tCO ?_
  | with_reducible refine Z.w_dCO ?_
  | with_reducible refine Z.w_bm ?_
  | with_reducible refine Z.w_bm0 ?_
  | with_reducible refine Z.w_yes ?_
  | with_reducible refine Z.w_par ?_
  | with_reducible refine Z.w_exP ?_
  | with_reducible refine Z.w_fld ?_
  | with_reducible refine Z.w_sfld ?_
  | with_reducible refine Z.w_make ?_
  | with_reducible refine Z.w_raise ?_
  | with_reducible refine Z.w_mkO ?_
  | with_reducible refine Z.w_xf ?_
  | with_reducible refine Z.w_gSub ?_
  | with_reducible refine Z.w_revT ?_
  | with_reducible refine Z.w_revL ?_
  | with_reducible refine Z.w_tryA ?_
  | with_reducible refine Z.w_tryO ?_
  | with_reducible refine Z.w_tryM ?_
  | with_reducible refine Z.w_con ?_
  | with_reducible refine Z.w_callZ0 ?_
  | with_reducible refine Z.w_callZ ?_
  | with_reducible refine Z.w_methZ ?_
  | with_reducible refine Z.w_meth ?_
  | with_reducible refine Z.w_makeZ ?_
  | with_reducible refine Z.w_makeK ?_
  | with_reducible refine Z.w_makeKZ ?_
  | with_reducible refine Z.w_opS ?_
  | with_reducible refine Z.w_chain ?_
  | with_reducible refine Z.w_sl ?_
  | with_reducible refine Z.w_noPart ?_
  | with_reducible refine Z.w_part ?_
  | with_reducible refine Z.w_tupRg1 ?_
  | with_reducible refine Z.w_lstRg1 ?_
  | with_reducible refine Z.w_iZM ?_
  | ((with_reducible refine Z.w_wp ?_ ?_); exact rfl)))
local macro_rules | `(tactic| walk_at "st2") => `(tactic| (first
  | walk_at "call"
  | with_reducible refine Z.w_ipI ?_
  | with_reducible refine Z.w_I0 ?_
  | with_reducible refine Z.w_U ?_
  | with_reducible refine Z.w_addI ?_
  | ((with_reducible refine Z.w_mulI ?_ ?_); (walk_at "mul"))
  | with_reducible refine Z.w_eqIr ?_
  | with_reducible refine Z.w_neIr ?_
  | with_reducible refine Z.w_eqSr ?_
  | with_reducible refine Z.w_neSr ?_
  | with_reducible refine Z.w_eqZB ?_
  | with_reducible refine Z.w_neZB ?_
  | with_reducible refine Z.w_bool1 ?_
  | with_reducible refine Z.w_eqZI ?_
  | with_reducible refine Z.w_neZI ?_
  | with_reducible refine Z.w_eqZS ?_
  | with_reducible refine Z.w_neZS ?_
  | with_reducible refine Z.w_T ?_
  | with_reducible refine Z.w_F ?_
  | with_reducible refine Z.w_nT ?_
  | with_reducible refine Z.w_nF ?_
  | with_reducible refine Z.w_int1 ?_
  | with_reducible refine Z.w_exI ?_
  | with_reducible refine Z.w_max2 ?_
  | with_reducible refine Z.w_min2 ?_
  | with_reducible refine Z.w_gcd ?_
  | with_reducible refine Z.w_absI ?_
  | ((with_reducible apply Z.w_dF); (walk_at "fx"); (with_reducible assumption); (with_reducible assumption); (walk_at "look"))
  | ((with_reducible apply Z.w_dCon); (walk_at "fx"); (with_reducible assumption); (with_reducible assumption); (first | with_reducible assumption | rfl | decide +kernel))
  | ((with_reducible apply Z.w_sup); (exact rfl); (walk_at "fx"))
  | ((with_reducible apply Z.w_dMe0); (walk_at "fx"); (exact rfl))
  | with_reducible refine Z.w_isB ?_
  | with_reducible refine Z.w_isnB ?_
  | with_reducible refine Z.w_isiII ?_
  | with_reducible refine Z.w_isiIB ?_
  | ((with_reducible apply Z.w_cl); (with_reducible assumption); (intro ea hea))
  | ((with_reducible apply Z.w_clN); (with_reducible assumption))
  | ((with_reducible apply Z.w_clO); (with_reducible assumption); (intro ea hea))
  | ((with_reducible apply Z.w_clON); (with_reducible assumption))
  | with_reducible refine Z.w_cl0 ?_
  | ((with_reducible apply Z.w_as); (with_reducible assumption); (intro ea hea))
  | ((with_reducible apply Z.w_only); (with_reducible assumption); (intro ea hea))
  | ((with_reducible apply Z.w_asN); (with_reducible assumption))
  | ((with_reducible apply Z.w_onlyN); (with_reducible assumption))
  | ((with_reducible apply Z.w_isY); (with_reducible assumption); (with_reducible assumption))
  | ((with_reducible apply Z.w_isYt); (with_reducible assumption); (with_reducible assumption))
  | ((with_reducible apply Z.w_isYd); (with_reducible assumption); (walk_at "fx"); (with_reducible assumption))
  | ((with_reducible apply Z.w_isYdt); (with_reducible assumption); (walk_at "fx"); (with_reducible assumption))
  | ((with_reducible apply Z.w_dXf); (walk_at "fx"); (first | rfl | (simp only [List.zip_cons_cons, List.zip_nil_right, List.zip_nil_left, List.reverse_cons, List.reverse_nil, List.nil_append, List.singleton_append, List.cons_append, List.lookup]; rfl) | decide +kernel))
  | ((with_reducible apply Z.w_dMX); (exact rfl); (decide); (intro d H2 hn he hp))
  | ((with_reducible apply Z.w_isiOC2); (walk_at "fx"); (with_reducible assumption))
  | ((with_reducible apply Z.w_isiOA2); (walk_at "fx"); (with_reducible assumption); (with_reducible assumption))
  | ((with_reducible apply Z.w_isiOI2); (walk_at "fx"); (with_reducible assumption))
  | ((with_reducible apply Z.w_isiIC); (with_reducible assumption))
  | ((with_reducible apply Z.w_OO); (walk_at "fx"); (walk_at "fx"))
  | ((with_reducible apply Z.w_OI); (walk_at "fx"))
  | ((with_reducible apply Z.w_IO); (walk_at "fx"))
  | ((with_reducible apply Z.w_UO); (walk_at "fx"))
  | ((with_reducible apply Z.w_C1); (walk_at "fx"))
  | ((with_reducible refine Z.w_shl ?_ ?_); (walk_at "num"))
  | with_reducible refine Z.w_shr ?_
  | with_reducible refine Z.w_odd ?_
  | ((with_reducible apply Z.w_dRgT); (walk_at "num"); (walk_at "num"); (intro p H2 hn he hp))
  | ((with_reducible apply Z.w_dRgL); (walk_at "num"); (walk_at "num"); (intro p H2 hn he hp))
  | ((with_reducible apply Z.w_sum); (walk_at "fl"))
  | ((with_reducible apply Z.w_sumT); (walk_at "ft"))
  | ((with_reducible apply Z.w_eqLr); (walk_at "fi"); (walk_at "fi"))
  | ((with_reducible apply Z.w_neLr); (walk_at "fi"); (walk_at "fi"))
  | ((with_reducible apply Z.w_eqTr); (walk_at "ti"); (walk_at "ti"))
  | ((with_reducible apply Z.w_neTr); (walk_at "ti"); (walk_at "ti"))
  | ((with_reducible apply Z.w_eqLI); (walk_at "fi"); (walk_at "fi"))
  | ((with_reducible apply Z.w_neLI); (walk_at "fi"); (walk_at "fi"))
  | ((with_reducible apply Z.w_eqTI); (walk_at "ti"); (walk_at "ti"))
  | ((with_reducible apply Z.w_neTI); (walk_at "ti"); (walk_at "ti"))
  | ((with_reducible apply Z.w_eqLFr); (walk_at "fl"); (walk_at "fl"); (exact rfl); (kernel_rfl))
  | ((with_reducible apply Z.w_neLFr); (walk_at "fl"); (walk_at "fl"); (exact rfl); (kernel_rfl))
  | ((with_reducible apply Z.w_eqTFr); (walk_at "ft"); (walk_at "ft"); (exact rfl); (kernel_rfl))
  | ((with_reducible apply Z.w_neTFr); (walk_at "ft"); (walk_at "ft"); (exact rfl); (kernel_rfl))
  | ((with_reducible apply Z.w_eqLF); (walk_at "fl"); (walk_at "fl"); (exact rfl); (exact rfl); (kernel_rfl); (kernel_rfl))
  | ((with_reducible apply Z.w_neLF); (walk_at "fl"); (walk_at "fl"); (exact rfl); (exact rfl); (kernel_rfl); (kernel_rfl))
  | ((with_reducible apply Z.w_eqTF); (walk_at "ft"); (walk_at "ft"); (exact rfl); (exact rfl); (kernel_rfl); (kernel_rfl))
  | ((with_reducible apply Z.w_neTF); (walk_at "ft"); (walk_at "ft"); (exact rfl); (exact rfl); (kernel_rfl); (kernel_rfl))
  | ((with_reducible apply Z.w_inT); (walk_at "ft"))
  | ((with_reducible apply Z.w_ninT); (walk_at "ft"))
  | ((with_reducible apply Z.w_inL); (walk_at "fl"))
  | ((with_reducible apply Z.w_ninL); (walk_at "fl"))
  | with_reducible refine Z.wb_F ?_
  | with_reducible refine Z.wb_T ?_
  | ((with_reducible apply Z.w_ins); (walk_at "fx"); (walk_at "sz"); (walk_at "nat"); (walk_at "num"); (walk_at "num"); (intro H2 hp hnl hk ho); (try (have hke := Z.kmut hk (by with_reducible assumption) inferInstance; clear hk)))
  | ((with_reducible apply Z.w_popI); (walk_at "fx"); (walk_at "num"); (walk_at "num"); (walk_at "num"); (intro H2 hp hnl hk ho); (try (have hke := Z.kmut hk (by with_reducible assumption) inferInstance; clear hk)))
  | ((with_reducible apply Z.w_pop0); (walk_at "fx"); (walk_at "num"); (intro H2 hp hnl hk ho); (try (have hke := Z.kmut hk (by with_reducible assumption) inferInstance; clear hk)))
  | ((with_reducible apply Z.w_setI); (walk_at "fx"); (walk_at "num"); (walk_at "num"); (intro H2 hp hnl hk ho); (try (have hke := Z.kmut hk (by with_reducible assumption) inferInstance; clear hk)))
  | ((with_reducible apply Z.w_setV); (walk_at "fx"); (walk_at "num"); (walk_at "num"); (intro H2 hp hnl hk ho); (try (have hke := Z.kmut hk (by with_reducible assumption) inferInstance; clear hk)))
  | ((with_reducible apply Z.w_gT); (walk_at "ft"); (exact rfl))
  | with_reducible refine Z.w_gC ?_
  | with_reducible refine Z.w_gN ?_
  | with_reducible refine Z.w_isiBI ?_
  | with_reducible refine Z.w_isiBB ?_
  | with_reducible refine Z.w_isiSS ?_
  | with_reducible refine Z.w_isiIS ?_
  | with_reducible refine Z.w_isiSI ?_
  | ((with_reducible refine Z.w_two ?_ ?_ ?_); (exact rfl); (exact rfl))
  | ((with_reducible apply Z.w_isiTT); (walk_at "fx"))
  | ((with_reducible apply Z.w_isiLL); (walk_at "fx"))
  | ((with_reducible apply Z.w_addL); (walk_at "fx"); (walk_at "fx"); (walk_at "sz"); (intro p H2 hn he hp))
  | ((with_reducible apply Z.w_dRevT); (walk_at "ti"); (intro p H2 hn he hp))
  | ((with_reducible apply Z.w_dRevL); (walk_at "fi"); (intro p H2 hn he hp))
  | ((with_reducible apply Z.w_catI); (walk_at "ti"); (walk_at "ti"); (walk_at "num"); (intro p H2 he hp))
  | ((with_reducible apply Z.w_slTo); (walk_at "ti"); (walk_at "num"); (intro p H2 he hp))
  | ((with_reducible apply Z.w_slFrom); (walk_at "ti"); (walk_at "num"); (intro p H2 he hp))
  | ((with_reducible apply Z.w_slBack); (walk_at "ti"); (walk_at "num"); (intro p H2 he hp))
  | ((with_reducible apply Z.w_slAny); (walk_at "ti"); (intro p H2 ms he hsub hp))
  | ((with_reducible apply Z.w_sortI); (walk_at "fi"); (intro p H2 ms hn he hp hperm hsort))
  | ((with_reducible apply Z.w_slLIf); (walk_at "fl"); (walk_at "num"); (intro p H2 hn he hp))
  | ((with_reducible apply Z.w_slLIt); (walk_at "fl"); (walk_at "num"); (intro p H2 hn he hp))
  | ((with_reducible apply Z.w_slLIft); (walk_at "fl"); (walk_at "num"); (walk_at "num"); (intro p H2 hn he hp))
  | ((with_reducible apply R.w_slLinit); (walk_at "fl"); (intro p H2 hn he hp))
  | ((with_reducible apply Z.w_slLVt); (walk_at "fl"); (walk_at "num"); (intro p H2 hn he hp))
  | ((with_reducible apply Z.w_slLVf); (walk_at "fl"); (walk_at "num"); (intro p H2 hn he hp))
  | ((with_reducible apply Z.w_app); (walk_at "fx"); (walk_at "sz"); (intro H2 hp hnl hk ho); (try (have hke := Z.kmut hk (by with_reducible assumption) inferInstance; clear hk)))
  | ((with_reducible apply Z.w_ext); (walk_at "fx"); (walk_at "fx"); (walk_at "sz"); (intro H2 hp hnl hk ho); (try (have hke := Z.kmut hk (by with_reducible assumption) inferInstance; clear hk)))
  | ((with_reducible apply Z.w_rep); (walk_at "fx"); (walk_at "num"); (walk_at "num"); (walk_at "num"); (intro p H2 hn he hp))
  | ((with_reducible apply Z.ele); (with_reducible assumption); (walk_at "sz"); (walk_at "ex"))
  | ((with_reducible apply Z.w_tupL); (walk_at "fl"); (intro p H2 hn he hp))
  | ((with_reducible apply Z.w_tupT); (walk_at "ft"))
  | ((with_reducible apply Z.w_listL); (walk_at "fl"); (intro p H2 hn he hp))
  | ((with_reducible apply Z.w_listT); (walk_at "ft"); (intro p H2 hn he hp))
  | ((with_reducible refine Z.w_newT ?_ (fun p H2 hn he hp => ?_)); (walk_at "sz"))
  | ((with_reducible refine Z.w_newL ?_ (fun p H2 hn he hp => ?_)); (walk_at "sz"))
  | ((with_reducible apply Z.w_lenLI); (walk_at "fl"))
  | ((with_reducible apply Z.w_lenTI); (walk_at "ft"))
  | ((with_reducible apply Z.w_lenL); (walk_at "fl"))
  | ((with_reducible apply Z.w_lenT); (walk_at "ft"))
  | ((with_reducible apply Z.w_pow); (exact ⟨by decide, by decide, by decide⟩); (simp only [Int.reduceToNat, Int.reducePow]; exact rfl))
  | ((with_reducible refine Z.w_I (C := Z.CDivZ) ?_ ?_); (walk_at "div"))
  | ((with_reducible refine Z.w_I (C := fun _ j => 0 < j) ?_ ?_); (first | assumption | omega | decide))
  | ((with_reducible apply Z.cgK); (with_reducible assumption); (intro H2 ex2; first | exact trivial | walk_at "fl"); (walk_at "sz"); (focus (intro Dl i x H2 acc hi ec cd hz y; walk_at "go"; done)); (intro p H2 hn he hp); (rotate_left); (exact rfl))
  | ((with_reducible apply Z.w_ixT); (walk_at "ft"); (exact rfl))
  | ((with_reducible apply Z.w_ixL); (walk_at "fl"); (exact rfl))
  | ((with_reducible apply R.w_ixLx); (walk_at "fl"); (with_reducible assumption))
  | ((with_reducible apply R.w_ixTx); (walk_at "ft"); (with_reducible assumption))
  | ((with_reducible apply Z.w_ixLN); (walk_at "fl"); (walk_at "nat"); (walk_at "num"); (walk_at "num"))
  | ((with_reducible apply Z.w_ixTN); (walk_at "ft"); (walk_at "nat"); (walk_at "num"); (walk_at "num"))
  | ((with_reducible apply Z.w_ixLI); (walk_at "fi"); (walk_at "nat"); (walk_at "num"); (walk_at "num"))
  | ((with_reducible apply Z.w_ixTI); (walk_at "ti"); (walk_at "nat"); (walk_at "num"); (walk_at "num"))
  | ((with_reducible apply Z.i_L); (walk_at "fl"); (intro J S))
  | ((with_reducible apply Z.i_A); (walk_at "fa"); (intro J S))
  | ((with_reducible apply Z.i_T); (walk_at "ft"); (intro J S))
  | ((with_reducible apply Z.i_E); (walk_at "fl"); (intro J S))
  | ((with_reducible apply Z.i_EA); (walk_at "fa"); (intro J S))
  | ((with_reducible apply Z.i_ZT); (walk_at "ft"); (walk_at "ft"); (walk_at "num"); (intro J S))
  | ((with_reducible apply Z.i_ZL); (walk_at "fl"); (walk_at "fl"); (walk_at "num"); (intro J S))
  | ((with_reducible apply Z.i_ZM); (walk_at "ft"); (walk_at "fl"); (walk_at "num"); (intro J S))
  | ((with_reducible refine Z.i_R1 ?_ ?_ (fun J S => ?_)); (walk_at "num"); (walk_at "num"))
  | ((with_reducible refine Z.i_R2 ?_ (fun J S => ?_)); (exact ⟨by walk_at "num", by walk_at "num", by walk_at "num", by walk_at "num"⟩))
  | ((with_reducible apply Z.w_tyL); (walk_at "fx"))
  | ((with_reducible apply Z.w_set0); (intro p H2 hn he hp))
  | ((with_reducible apply Z.w_tyS); (walk_at "fx"))
  | ((with_reducible apply Z.w_sin); (walk_at "fx"))
  | ((with_reducible apply Z.w_insC); (walk_at "fx"))
  | ((with_reducible apply Or.inl); (walk_at "st2"))
  | ((with_reducible apply Or.inr); (walk_at "st2"))))
local macro_rules | `(tactic| walk_at "go") => `(tactic| repeat (first | walk_at "st1" | walk_at "st2"))
local macro_rules | `(tactic| walk_at "numb") => `(tactic| first | with_reducible assumption | omega | (simp only [List.length_map, List.length_append, List.length_cons, List.length_nil, List.length_range, List.length_take, List.length_drop, List.length_replicate]; omega) | decide | exact rfl)
local macro_rules | `(tactic| walk_at "br") => `(tactic| (first
  | ((with_reducible refine Z.w_decT ?_ ?_); (walk_at "numb"))
  | ((with_reducible refine Z.w_decF ?_ ?_); (walk_at "numb"))
  | ((with_reducible refine Z.w_ndecF ?_ ?_); (walk_at "numb"))
  | ((with_reducible refine Z.w_ndecT ?_ ?_); (walk_at "numb"))))
local macro_rules | `(tactic| walk_at "run") => `(tactic| repeat (first | walk_at "st1" | walk_at "st2" | walk_at "br"))
local macro_rules | `(tactic| walk_at "bt") => `(tactic| (first | with_reducible assumption | ((with_reducible apply Z.bt_mul); (walk_at "bt"); (walk_at "bt")) | ((with_reducible apply Z.bt_add); (walk_at "bt"); (walk_at "bt")) | ((with_reducible apply Z.bt_sub); (walk_at "bt"); (walk_at "bt")) | ((with_reducible apply Z.bt_neg); (walk_at "bt")) | ((with_reducible apply Z.bt_abs); (walk_at "bt")) | ((with_reducible apply R.Sz.den); with_reducible assumption) | ((with_reducible apply R.Sz.num); with_reducible assumption) | (show _ < 2 ^ 64; omega) | (show _ < 2 ^ 200; omega)))
local macro_rules | `(tactic| walk_at "mul") => `(tactic| first | with_reducible assumption | exact Z.CM.of_right (by decide) | exact Z.CM.of_left (by decide) | exact Z.CM.of_right (by omega) | exact Z.CM.of_left (by omega) | ((with_reducible apply Z.cm); (walk_at "bt"); (walk_at "bt"); (first | decide | omega)))
local macro_rules | `(tactic| walk_at "st1") => `(tactic| (first
  | with_reducible refine Z.w_forG ?_
  | with_reducible refine Z.w_callG0 ?_
  | with_reducible refine Z.w_lcG ?_
  | with_reducible refine Z.w_callGa0 ?_
  | with_reducible refine Z.w_methG0 ?_
  | with_reducible refine Z.w_gzT ?_
  | with_reducible refine Z.w_gz0 ?_
  | with_reducible refine Z.w_gzF ?_
  | with_reducible refine Z.w_gzW ?_
  | with_reducible refine Z.w_pl ?_))
local macro_rules | `(tactic| walk_at "st1") => `(tactic| (first
  | with_reducible refine Z.w_tCM ?_
  | with_reducible refine Z.w_dCM ?_
  | with_reducible refine Z.w_tMkV ?_
  | with_reducible refine Z.w_dMkV ?_
  | with_reducible refine Z.w_tCV ?_
  | ((with_reducible apply Z.w_dCV); (with_reducible assumption); (with_reducible assumption))))
def sp_check_lot (K : PySem.W.Frag) : Sp := fun vs H Q E => ∃ (a : Addr) (lot : List Int) (n : Int), vs = [.ref a, .int n] ∧ SqT K H a (lot.map V.int) ∧ (¬ IsLot n lot → ∀ H', Ex H H' → E (.ref (He.ga K "BadLot")) none H') ∧ (IsLot n lot → ∀ H', Ex H H' → Q .non H')
theorem ok_check_lot (T : Tx P K mg) : FnOk P w K mg base (L2.CX P w) 1 (He.ga K "check_lot") (Z.fdOf K (He.ga K "check_lot")) ["lot", "many"] (sp_check_lot K) := by
  refine T.F_check_lot.ok sc_check_lot (fun vs H Q E h => ?_) (fun cdv A outer s H vs Q E hr h => ?_)
  · obtain ⟨a, lot, n, rfl, _⟩ := h
    rfl
  · obtain ⟨a, lot, n, rfl, ha, hE, k⟩ := h
    rw [isLot_iff] at hE k
    refine ⟨_, (pss_cons (ps_set (i := 2) sc_check_lot.nd rfl (Or.inl rfl) (pe_un Z.un_neg pe_int))
      (pss_one (ps_for (passes_of rfl) rfl (Z.piT (K := K) rfl (pv 0)) (pg_name (i := 3) sc_check_lot.nd rfl (by first | exact Or.inl rfl | exact Or.inr rfl)) (pss_cons (ps_if (PW.pt (pw_or (pt_cmpR Z.op_le (pv 3) (pv 2) (nomark _)) (pw_or1 (pt_cmpR Z.op_ge (pv 3) (pv 1) (nomark _))))) (pss_one (ps_raise rfl (takes_of rfl rfl rfl rfl) (pmk_own PySem.F.excBase_ValueError T.x_BadLot.1 T.g_BadLot T.x_BadLot.2.1 (raises_own T.x_BadLot.2.2.1 T.x_BadLot.2.2.2) (by exact rfl)))) pss_nil)
      (pss_one (ps_set (i := 2) sc_check_lot.nd rfl (Or.inl rfl) (pv 3))))))), ?_⟩
    try dsimp only [cxOf, Cx.nox, Cx.wish]
    try (show (_ : TS) _ [some _, some _, none, none] _)
    walk_at "go"
    rename_i J S
    refine Z.fg S (fun i σ G => ∃ (b : Int) (v : Option V), σ = [some (.ref a), some (.int n), some (.int b), v] ∧ Ex H G ∧ (okFrom n b (lot.drop i) ↔ okFrom n (-1) lot)) ⟨-1, none, rfl, Ex.refl H, Iff.rfl⟩ (fun i σ' G _ ⟨_, _, _, e, _⟩ => e.t ha) ?_ ?_
    · rintro i y σ' G G2 hi ⟨b, v, rfl, eG, hiff⟩ e2 hy
      obtain ⟨hi2, rfl⟩ := get_int hy
      rw [List.drop_eq_getElem_cons hi2, ← getD_get lot i 0 hi2] at hiff
      have hiff : (b < lot.getD i 0 ∧ lot.getD i 0 < n ∧ okFrom n (lot.getD i 0) (lot.drop (i + 1))) ↔ okFrom n (-1) lot := hiff
      walk_at "go"
      refine Z.w_dec (fun h => ?_) (fun h => ?_)
      · walk_at "go"
        exact hE (fun z => by have := hiff.mpr z; omega) _ (by walk_at "ex")
      · walk_at "go"
        refine Z.w_dec (fun h' => ?_) (fun h' => ?_)
        · walk_at "go"
          exact hE (fun z => by have := hiff.mpr z; omega) _ (by walk_at "ex")
        · walk_at "go"
          exact ⟨_, _, rfl, eG.trans e2, ⟨fun z => hiff.mp ⟨by omega, by omega, z⟩, fun z => (hiff.mpr z).2.2⟩⟩
    · rintro σ' G ⟨b, v, rfl, eG, hiff⟩
      rw [List.length_map, List.drop_length] at hiff
      walk_at "go"
      exact k (hiff.mp trivial) G eG

def sp_lot_number (K : PySem.W.Frag) : Sp := fun vs H Q _ => ∃ (a : Addr) (os : List Nat), vs = [.ref a] ∧ SqT K H a (nats os) ∧ os.length ≤ 1000 ∧ (∀ x ∈ os, x ≤ 1000) ∧ ∀ H', Ex H H' → Q (.int ((sum2 os : Nat) : Int)) H'
theorem sum_pows (os : List Nat) : ((List.range os.length).map fun i => (2 : Int) ^ (os.getD i 0)).sum = ((sum2 os : Nat) : Int) := by
  have e : ((List.range os.length).map fun i => (2 : Int) ^ (os.getD i 0)) = os.map fun t => (2 : Int) ^ t := by
    apply List.ext_getElem
    · simp
    · intro i h1 h2
      simp at h1 h2
      simp [h1]
  rw [e]
  unfold sum2
  induction os with
  | nil => rfl
  | cons x r ih =>
    simp only [List.map_cons, List.sum_cons]
    rw [Int.natCast_add, Int.natCast_pow]
    have : ((List.range r.length).map fun i => (2 : Int) ^ (r.getD i 0)) = r.map fun t => (2 : Int) ^ t := by
      apply List.ext_getElem
      · simp
      · intro i h1 h2
        simp at h1 h2
        simp [h1]
    rw [ih this]
    rfl
theorem ok_lot_number (T : Tx P K mg) : FnOk P w K mg base (L2.CX P w) 1 (He.ga K "lot_number") (Z.fdOf K (He.ga K "lot_number")) ["lot"] (sp_lot_number K) := by
  refine T.F_lot_number.ok sc_lot_number (fun vs H Q E h => ?_) (fun cdv A outer s H vs Q E hr h => ?_)
  · obtain ⟨a, os, rfl, _⟩ := h
    rfl
  · obtain ⟨a, os, rfl, ha, hl, hx, k⟩ := h
    refine ⟨_, PSs.nox (pss_one (ps_ret (pe_callB (Z.call_sum (K := K) rfl rfl) (by rfl) T.n_sum (by decide +kernel) (pa_cons (pe_lc (own := [("thing", 1)]) rfl sc_lot_number.nd (Z.piT (K := K) rfl (pv 0)) (blkOk_by (N := ["lot", "thing"]) (sc := defScope s_lot_number) (by decide +kernel)) (fun _ _ _ _ _ => (pg_name (i := 1) sc_lot_number.nd rfl (by first | exact Or.inl rfl | exact Or.inr rfl))) (fun _ _ _ _ _ => pts_nil) (fun _ _ _ _ _ => (pe_op Z.op_shl pe_int (pv 1)))) pa_nil)))), ?_⟩
    try dsimp only [cxOf, Cx.nox, Cx.wish]
    try (show (_ : TS) _ [some _, none] _)
    walk_at "go"
    refine Z.cgI (by assumption) (fun i => 2 ^ (os.getD i 0)) (fun H2 e => by walk_at "ft") (by walk_at "sz") (fun Dl i x H2 hi ec c y => ?_) (fun p H2 hn he hp => ?_) rfl
    · obtain ⟨h1, rfl⟩ := get_nat y
      have hb : os.getD i 0 ≤ 1000 := by rw [getD_get _ _ _ h1]; exact hx _ (List.getElem_mem h1)
      walk_at "go"
    · walk_at "go"
      have e : (List.map (fun i => (2 : Int) ^ os.getD i 0) (List.range (nats os).length)).sum = ((sum2 os : Nat) : Int) := by
        rw [← sum_pows os]; simp
      rw [e]
      exact k _ he

def sp_lot_at (K : PySem.W.Frag) : Sp := fun vs H Q _ => ∃ (n m : Nat), vs = [.int (n : Int), .int (m : Int)] ∧ m ≤ 1000 ∧ ∀ p H', Fr H p → Ex H H' → At H' p (.tup (nats (lotOf n m))) → Q (.ref p) H'
theorem ok_lot_at (T : Tx P K mg) : FnOk P w K mg base (L2.CX P w) 1 (He.ga K "lot_at") (Z.fdOf K (He.ga K "lot_at")) ["number", "many"] (sp_lot_at K) := by
  refine T.F_lot_at.ok sc_lot_at (fun vs H Q E h => ?_) (fun cdv A outer s H vs Q E hr h => ?_)
  · obtain ⟨n, m, rfl, _⟩ := h
    rfl
  · obtain ⟨n, m, rfl, hm, k⟩ := h
    refine ⟨_, PSs.nox (pss_one (ps_ret (pe_callTy (Z.call_tuple (K := K) rfl) (by rfl) T.n_tuple (by decide +kernel) (pa_cons (pe_lc (own := [("thing", 2)]) rfl sc_lot_at.nd (pi_range1 (by rfl) T.n_range (pa_cons (pv 1) pa_nil)) (blkOk_by (N := ["number", "many", "thing"]) (sc := defScope s_lot_at) (by decide +kernel)) (fun _ _ _ _ _ => (pg_name (i := 2) sc_lot_at.nd rfl (by first | exact Or.inl rfl | exact Or.inr rfl))) (fun _ _ _ _ _ => (pts_one (pt_cmpR (Z.op_eq (K := K) rfl hr.units) (pe_op Z.op_and1 (pe_op Z.op_shr (pv 0) (pv 2)) pe_int) pe_int (nomark _)))) (fun _ _ _ _ _ => (pv 2))) pa_nil)))), ?_⟩
    try dsimp only [cxOf, Cx.nox, Cx.wish]
    try (show (_ : TS) _ [some _, some _, none] _)
    walk_at "go"
    refine Z.cgP (by assumption) (tb n) (fun i => V.int (i : Nat)) (fun _ _ => trivial) (by walk_at "sz") (fun Dl i x H' hi ec c hz y => ?_) (fun p H2 hn he hp => ?_)
    · subst y
      walk_at "go"
      refine Z.w_dec (fun hc => ?_) (fun hc => ?_)
      · rw [Z.fr_T (by unfold tb; simpa using (by omega : n / 2 ^ i % 2 = 1))]
        walk_at "go"
      · rw [Z.fr_F (by unfold tb; simpa using (by omega : ¬ n / 2 ^ i % 2 = 1))]
        exact c
    · walk_at "go"
      rename_i p2 H3 hn3 he3 hp3
      refine k p2 H3 (he.back hn3) (he.trans he3) ?_
      refine hp3.t ?_
      simp [lotOf, nats]

/-- all lots of m things, by their numbers -/
def gLots (m : Nat) : GPar := { n := 2 ^ m, Yp := fun i x H => ∃ a, x = .ref a ∧ At H a (.tup (nats (lotOf i m))), rel := fun _ _ => True }
def sp_lots (K : PySem.W.Frag) : SpZ := fun vs H g => ∃ m : Nat, vs = [.int (m : Int)] ∧ m ≤ 24 ∧ g = gLots m
theorem ok_lots (T : Tx P K mg) : Z.GFz P w K mg base 2 (He.ga K "lots") (Z.fdOf K (He.ga K "lots")) ["many"] (sp_lots K) := by
  refine Z.FunD.gz T.F_lots sc_lots (fun _ => rfl) (fun vs H g h => ?_) (fun cdv A outer n0 pn H vs g hr h => ?_)
  · obtain ⟨m, rfl, _⟩ := h
    rfl
  · obtain ⟨m, rfl, hm, rfl⟩ := h
    have hpw : (1 : Int) ≤ 2 ^ m ∧ (2 : Int) ^ m ≤ 16777216 := by
      have h1 : 2 ^ m ≤ 2 ^ 24 := Nat.pow_le_pow_right (by decide) hm
      have h2 : 0 < 2 ^ m := Nat.pow_pos (by decide)
      have h3 : ((2 ^ m : Nat) : Int) = (2 : Int) ^ m := by push_cast; rfl
      omega
    have hpn : ((2 : Int) ^ m).toNat = 2 ^ m := by
      have h3 : ((2 ^ m : Nat) : Int) = (2 : Int) ^ m := by push_cast; rfl
      omega
    refine ⟨_, (Z.gzs_cons (Z.gz_for (fun s0 H0 => (pi_range1 (by rfl) T.n_range (pa_cons (pe_op Z.op_shl pe_int (pv 0)) pa_nil))) (fun s0 H0 => (pg_name (i := 1) sc_lots.nd rfl (by first | exact Or.inl rfl | exact Or.inr rfl))) (Z.gzs_cons (Z.gz_yield (fun s0 H0 => (pe_call (ok_lot_at T) (hr.mono (by decide)) (by rfl) T.g_lot_at T.F_lot_at.kp T.b_lot_at .nil passL (pa_cons (pv 1) (pa_cons (pv 0) pa_nil)))) rfl rfl) Z.gzs_nil)) Z.gzs_nil), ?_⟩
    try dsimp only [Z.GCx.X]
    try (show (_ : Z.TGz) _ _ _ [some _, none] _)
    walk_at "go"
    rename_i J S
    rw [hpn] at S
    refine Z.gfg S (fun j i Hw σ G => i = j ∧ (∃ v1, σ = [some (.int (m : Int)), v1]) ∧ Ex Hw G) ⟨rfl, ⟨none, rfl⟩, Ex.refl _⟩ (fun j i Hw σ G _ _ => trivial) ?_ ?_
    · rintro j x i Hw σ G G2 hj ⟨rfl, ⟨v1, rfl⟩, eG⟩ e2 rfl
      walk_at "go"
      refine Z.w_yl hj ?_
      walk_at "go"
      refine ⟨i, m, rfl, by omega, fun p H3 hn he hp => ?_⟩
      exact ⟨eG.trans (e2.trans he), ⟨p, rfl, hp⟩, fun H4 _ => ⟨rfl, ⟨_, rfl⟩, Ex.refl _⟩⟩
    · rintro i Hw σ G ⟨rfl, ⟨v1, rfl⟩, eG⟩
      walk_at "go"
      exact ⟨rfl, eG⟩

/-- Ratio(t, b) -/
def sp_Ratio___init__ (K : PySem.W.Frag) : Sp := fun vs H Q E => ∃ (x dx : Addr) (t b : Int), vs = [.ref x, .int t, .int b] ∧ At H x (.ins (He.ga K "Ratio") dx []) ∧ b.natAbs < 2 ^ 13400 ∧ t.natAbs < 2 ^ 13400 ∧
  (b = 0 → E (.ref (He.ga K "ZeroBottom")) none H) ∧ (b ≠ 0 → ∀ H', (∀ c o, c ≠ x → At H c o → At H' c o) → (∀ c, Fr H' c → Fr H c) → At H' x (.ins (He.ga K "Ratio") dx (rF (Rat.divInt t b).num (Rat.divInt t b).den)) → Q .non H')
theorem ok_Ratio___init__ (T : Tx P K mg) : FnOk P w K mg base (L2.CX P w) 1 (He.ma K (He.ga K "Ratio") "__init__") (Z.fdOf K (He.ma K (He.ga K "Ratio") "__init__")) ["self", "top", "bottom"] (sp_Ratio___init__ K) := by
  refine T.F_Ratio___init__.ok sc_Ratio___init__ (fun vs H Q E h => ?_) (fun cdv A outer s H vs Q E hr h => ?_)
  · obtain ⟨x, dx, t, b, rfl, _⟩ := h
    rfl
  · obtain ⟨x, dx, t, b, rfl, hx, hsz, hst, hE, k⟩ := h
    have cl := T.o_Ratio.cl
    have na1 := T.na_Ratio_top
    have na2 := T.na_Ratio_bottom
    refine ⟨_, (pss_cons (ps_if (pt_cmpR (Z.op_eq (K := K) rfl hr.units) (pv 2) pe_int (nomark _)) (pss_one (ps_raise rfl (takes_of rfl rfl rfl rfl) (pmk_own PySem.F.excBase_ValueError T.x_ZeroBottom.1 T.g_ZeroBottom T.x_ZeroBottom.2.1 (raises_own T.x_ZeroBottom.2.2.1 T.x_ZeroBottom.2.2.2) (by exact rfl)))) pss_nil)
      (C8.pss_cut (ps_if (pt_cmpR Z.op_lt (pv 2) pe_int (nomark _)) (pss_one (ps_par (i := 1) (j := 2) (by rfl) sc_Ratio___init__.nd rfl rfl (by decide) rfl rfl (pa_cons (pe_un Z.un_neg (pv 1)) (pa_cons (pe_un Z.un_neg (pv 2)) pa_nil)) (by rfl))) pss_nil)
      (pss_cons (ps_set (i := 3) sc_Ratio___init__.nd rfl (Or.inl rfl) (pe_callBfun cr_gcd (by rfl) T.m_gcd (pa_cons (pv 1) (pa_cons (pv 2) pa_nil))))
      (pss_cons (ps_fld (pv 0) (pe_op Z.op_fdivP (pv 1) (pv 3)) rfl)
      (pss_one (ps_fld (pv 0) (pe_op Z.op_fdivP (pv 2) (pv 3)) rfl)))))), ?_⟩
    try dsimp only [cxOf, Cx.nox, Cx.wish]
    try (show (_ : TS) _ [some _, some _, some _, none] _)
    walk_at "go"
    refine Z.w_dec (fun hb => hE hb) (fun hb => ?_)
    have kk := k hb
    walk_at "go"
    refine Z.w_cut (fun σ G => ∃ t' b' : Int, 0 < b' ∧ b'.natAbs < 2 ^ 13400 ∧ t'.natAbs < 2 ^ 13400 ∧ Rat.divInt t b = Rat.divInt t' b' ∧ G = H ∧ σ = [some (.ref x), some (.int t'), some (.int b'), none]) ?_ ?_
    · walk_at "go"
      refine Z.w_dec (fun hc => ?_) (fun hc => ?_)
      · walk_at "go"
        exact ⟨-t, -b, by omega, by rw [Int.natAbs_neg]; exact hsz, by rw [Int.natAbs_neg]; exact hst, (Rat.neg_divInt_neg t b).symm, rfl, rfl⟩
      · walk_at "go"
        exact ⟨t, b, by omega, hsz, hst, rfl, rfl, rfl⟩
    rintro σ G ⟨t', b', hb0, hb1, ht1, he, rfl, rfl⟩
    rw [he, div_num hb0, div_den hb0] at kk
    have hg0 : 0 < Nat.gcd t'.natAbs b'.natAbs := Nat.gcd_pos_of_pos_right _ (by omega)
    have hg1 : Nat.gcd t'.natAbs b'.natAbs ≤ b'.natAbs := Nat.gcd_le_right _ (by omega)
    have hd1 : CDivZ t' ((Nat.gcd t'.natAbs b'.natAbs : Nat) : Int) := cdivz (by omega) ht1
    have hd2 : CDivZ b' ((Nat.gcd t'.natAbs b'.natAbs : Nat) : Int) := cdivz (by omega) hb1
    walk_at "go"
    refine Z.w_dSF hx cl na1 (by decide) fun H2 h2 o2 f2 => ?_
    walk_at "go"
    refine Z.w_dSF h2 cl na2 (by show 1 < 1000; decide) fun H3 h3 o3 f3 => ?_
    walk_at "go"
    exact kk H3 (fun c o hc e => o3 c o hc (o2 c o hc e)) (fun c e => f2 c (f3 c e)) (by rw [rF_put] at h3; exact h3)
/-- Ratio(t, b) as a new object -/
theorem mkR {H : Hp} {Q : VK} {E : XK} {t b : Int} {n m : Nat} (ht : t.natAbs < 2 ^ n) (hs : b.natAbs < 2 ^ m) (hn : max n m ≤ 13400) (hb : b ≠ 0) (q : ∀ p H', Fr H p → Ex H H' → RN (He.ga K "Ratio") H' p (Rat.divInt t b) (max n m) → Q (.ref p) H') :
    dMk (He.ga K "Ratio") (sp_Ratio___init__ K) (([V.int 1] : List V).drop 1) E Q [.int t, .int b] H :=
  w_dMk fun p dx H2 nw => ⟨p, dx, t, b, rfl, nw.at_, up9 hs (by omega), up9 ht (by omega), fun z => absurd z hb, fun _ H' h1 _ h3 =>
    have z := mk_rat nw h1 h3 (sz_div hb (bt_mono ht (Nat.le_max_left n m)) (bt_mono hs (Nat.le_max_right n m))) hn
    ⟨rfl, q p H' nw.new z.1 z.2⟩⟩
/-- Ratio(t) as a new object -/
theorem mkR1 {H : Hp} {Q : VK} {E : XK} {t : Int} {n : Nat} (ht : t.natAbs < 2 ^ n) (hn : n + 1 ≤ 13400) (q : ∀ p H', Fr H p → Ex H H' → RN (He.ga K "Ratio") H' p (t : Rat) (n + 1) → Q (.ref p) H') :
    dMk (He.ga K "Ratio") (sp_Ratio___init__ K) (([V.int 1] : List V).drop 0) E Q [.int t] H :=
  w_dMk fun p dx H2 nw => ⟨p, dx, t, 1, rfl, nw.at_, by rw [show (1 : Int).natAbs = 1 from rfl]; exact Nat.one_lt_two_pow (by decide), up9 ht (by omega), fun z => absurd z (by decide), fun _ H' h1 _ h3 =>
    have z := mk_rat (q := (t : Rat)) nw h1 (by rw [div1]; exact h3) (sz_int ht) hn
    ⟨rfl, q p H' nw.new z.1 z.2⟩⟩
/-- Ratio(t, 0) raises -/
theorem mkR0 {H : Hp} {Q : VK} {E : XK} {t b : Int} (hb : b = 0) (ht : t.natAbs < 2 ^ 13400) (q : ∀ H', Ex H H' → E (.ref (He.ga K "ZeroBottom")) none H') :
    dMk (He.ga K "Ratio") (sp_Ratio___init__ K) (([V.int 1] : List V).drop 1) E Q [.int t, .int b] H :=
  w_dMk fun p dx H2 nw => ⟨p, dx, t, b, rfl, nw.at_, by rw [hb]; exact Nat.pow_pos (by decide), ht, fun _ => q _ nw.ex, fun z => absurd hb z⟩
local macro_rules | `(tactic| walk_at "call") => `(tactic| ((with_reducible apply R.mkR); (walk_at "bt"); (walk_at "bt"); (first | decide | omega); (first | with_reducible assumption | omega); (intro p H2 hn he hr)))
local macro_rules | `(tactic| walk_at "call") => `(tactic| ((with_reducible apply R.mkR1); (walk_at "bt"); (first | decide | omega); (intro p H2 hn he hr)))

/-- Rule.shares of an object of the class Tabled -/
def sp_Tabled_Rule_shares (K : PySem.W.Frag) : Sp := fun vs H Q E => ∃ (x l : Addr) (n : Int) (lot : List Int), vs = [.ref x, .ref l] ∧ RB (He.ga K "Tabled") H x n ∧ SqT K H l (lot.map V.int) ∧ (¬ IsLot n lot → ∀ H', Ex H H' → E (.ref (He.ga K "BadLot")) none H') ∧
  (IsLot n lot → ∀ p H' xs, Fr H p → Ex H H' → At H' p (.lst xs) → RL (He.ga K "Ratio") H' xs (List.replicate n.toNat 0) 1 → Q (.ref p) H')
theorem ok_Tabled_Rule_shares (T : Tx P K mg) : FnOk P w K mg base (L2.CX P w) 3 (He.ma K (He.ga K "Rule") "shares") (Z.fdOf K (He.ma K (He.ga K "Rule") "shares")) ["self", "lot"] (sp_Tabled_Rule_shares K) := by
  refine T.F_Rule_shares.ok sc_Rule_shares (fun vs H Q E h => ?_) (fun cdv A outer s H vs Q E hr h => ?_)
  · obtain ⟨x, l, n, lot, rfl, _⟩ := h
    rfl
  · obtain ⟨x, l, n, lot, rfl, hx, hl, hE, k⟩ := h
    obtain ⟨_, _, _, _, _, hn0, hn1⟩ := id hx
    obtain ⟨ds2_Ratio___init__, vd2_Ratio___init__, bd2_Ratio___init__⟩ := T.b2_Ratio___init__
    have fx0 := T.o_Tabled.cl
    have fx1 := T.na_Tabled_many
    refine ⟨_, (pss_cons (ps_expr (Z.pe_callZ (ok_check_lot T) (hr.mono (by decide)) (by rfl) T.g_check_lot T.F_check_lot.kp T.b_check_lot .nil (fun σ => passAt (takes_of rfl rfl rfl rfl) σ) (pa_cons (pv 1) (pa_cons (Z.fld (K := K) rfl (pv 0) rfl) pa_nil))))
      (pss_one (ps_ret (pe_lc (own := [("_", 2)]) rfl sc_Rule_shares.nd (pi_range1 (by rfl) T.n_range (pa_cons (Z.fld (K := K) rfl (pv 0) rfl) pa_nil)) (blkOk_by (N := ["self", "lot", "_"]) (sc := defScope s_Rule_shares) (by decide +kernel)) (fun _ _ _ _ _ => (pg_name (i := 2) sc_Rule_shares.nd rfl (by first | exact Or.inl rfl | exact Or.inr rfl))) (fun _ _ _ _ _ => pts_nil) (fun _ _ _ _ _ => (pe_make T.mk_Ratio (ok_Ratio___init__ T) (hr.mono (by decide)) (by rfl) T.g_Ratio bd2_Ratio___init__ vd2_Ratio___init__ passL (pa_cons pe_int pa_nil))))))), ?_⟩
    try dsimp only [cxOf, Cx.nox, Cx.wish]
    try (show (_ : TS) _ [some _, some _, none] _)
    walk_at "go"
    refine ⟨l, lot, n, rfl, hl, hE, fun hlot H1 e1 => ?_⟩
    walk_at "go"
    rename_i J S
    refine Z.cgX S (fun i acc G => RL (He.ga K "Ratio") G acc (List.replicate i 0) 1) (fun H' e => RL.nil) (fun i acc G1 G2 h e => h.ex e) (fun H' e => trivial) (by show _ ≤ 16777216; omega) (fun Dl i y G acc hi ec cd hal hP hy => ?_) (fun p G acc hn he hp hal hP => ?_) rfl
    · subst hy
      walk_at "go"
      rename_i p G2 hn he hr
      have hr := hr.tight (r := 0) (m := 1) (by exact_mod_cast rfl) (sz0 (by decide)) (by decide)
      refine Z.elx cd hal (by show _ < 16777216; omega) he fun G3 hnl => ?_
      rw [List.replicate_succ']
      exact ((hP.ex he).nl hnl).snoc (hr.nl hnl)
    · exact k hlot p G acc (e1.back hn) (e1.trans he) hp hP

def sp_fits_lot (K : PySem.W.Frag) : Sp := fun vs H Q _ => ∃ (a l : Addr) (r lot : List Int) (m : Int), vs = [.ref a, .ref l, .int m] ∧ SqL K H a (r.map V.int) ∧ SqT K H l (lot.map V.int) ∧ 0 ≤ m ∧ m ≤ 1000 ∧ (Fits r lot m → ∀ H', Ex H H' → Q (.bl true) H') ∧ (¬ Fits r lot m → ∀ H', Ex H H' → Q (.bl false) H')
theorem ok_fits_lot (T : Tx P K mg) : FnOk P w K mg base (L2.CX P w) 1 (He.ga K "fits_lot") (Z.fdOf K (He.ga K "fits_lot")) ["row", "lot", "many"] (sp_fits_lot K) := by
  refine T.F_fits_lot.ok sc_fits_lot (fun vs H Q E h => ?_) (fun cdv A outer s H vs Q E hr h => ?_)
  · obtain ⟨a, l, r, lot, m, rfl, _⟩ := h
    rfl
  · obtain ⟨a, l, r, lot, m, rfl, ha, hl, hm0, hm1, kT, kF⟩ := h
    refine ⟨_, PSs.nox (pss_cons (ps_if (PW.pt (pw_or (pt_cmpR (Z.op_ne (K := K) rfl hr.units) (pe_callB (Z.call_len (K := K) rfl) (by rfl) T.n_len (by decide +kernel) (pa_cons (pv 0) pa_nil)) (pe_op Z.op_add (pv 2) pe_int) (nomark _)) (pw_or (pt_cmpR Z.op_lt (pe_ix (Z.ix (K := K) rfl) (pv 0) pe_int (fun _ _ => rfl)) pe_int (nomark _)) (pw_or1 (pt_cmpR Z.op_gt (pe_callB (Z.call_sum (K := K) rfl rfl) (by rfl) T.n_sum (by decide +kernel) (pa_cons (pe_slice (Z.slL (K := K) rfl) (pv 0) (po_some pe_int) po_none) pa_nil)) (pe_ix (Z.ix (K := K) rfl) (pv 0) pe_int (fun _ _ => rfl)) (nomark _)))))) (pss_one (ps_ret pe_bl)) pss_nil)
      (pss_cons (ps_for PassesOwn.never rfl (pi_range1 (by rfl) T.n_range (pa_cons (pv 2) pa_nil)) (pg_name (i := 3) sc_fits_lot.nd rfl (by first | exact Or.inl rfl | exact Or.inr rfl)) (pss_one (ps_if (PW.pt (pw_or (pt_cmpR Z.op_lt (pe_ix (Z.ix (K := K) rfl) (pv 0) (pe_op Z.op_add (pv 3) pe_int) (fun _ _ => rfl)) pe_int (nomark _)) (pw_or1 (PW.pt (pw_and (pt_cmpR Z.op_gt (pe_ix (Z.ix (K := K) rfl) (pv 0) (pe_op Z.op_add (pv 3) pe_int) (fun _ _ => rfl)) pe_int (nomark _)) (pw_and1 (pt_cmpR (Z.op_notin (K := K) rfl) (pv 3) (pv 1) (by rfl)))))))) (pss_one (ps_ret pe_bl)) pss_nil)))
      (pss_one (ps_ret pe_bl)))), ?_⟩
    try dsimp only [cxOf, Cx.nox, Cx.wish]
    try (show (_ : TS) _ [some _, some _, some _, none] _)
    walk_at "go"
    refine Z.w_ndec (fun h1 => ?_) (fun h1 => ?_)
    · walk_at "go"
      exact kF (fun z => h1 z.1) _ (Ex.refl _)
    walk_at "go"
    refine Z.w_dec (fun h2 => ?_) (fun h2 => ?_)
    · walk_at "go"
      exact kF (fun z => by have := z.2.1; omega) _ (Ex.refl _)
    walk_at "go"
    rename_i p1 H1 hn1 he1 hp1
    refine Z.w_dec (fun h3 => ?_) (fun h3 => ?_)
    · walk_at "go"
      exact kF (fun z => by have h4 : (r.drop 1).sum ≤ _ := z.2.2.1; have h5 : r.getD 0 0 < (r.drop 1).sum := h3; omega) _ he1
    have h3 : ¬ r.getD 0 0 < (r.drop 1).sum := h3
    walk_at "go"
    rename_i J S
    refine Z.fg S (fun i σ G => ∃ (v3 : Option V), σ = [some (.ref a), some (.ref l), some (.int m), v3] ∧ Ex H1 G ∧ ∀ t : Nat, t < i → 0 ≤ r.getD (t + 1) 0 ∧ (0 < r.getD (t + 1) 0 → (t : Int) ∈ lot)) ⟨none, rfl, Ex.refl _, fun t ht => absurd ht (by omega)⟩ (fun i σ' G _ _ => trivial) ?_ ?_
    · rintro i y σ' G G2 hi ⟨v3, rfl, eG, hall⟩ e2 rfl
      have hi2 : (i : Int) < m := by omega
      have eG2 := he1.trans (eG.trans e2)
      have e1 : ((i : Int) + 1).toNat = i + 1 := by omega
      walk_at "go"
      refine Z.w_dec (fun h4 => ?_) (fun h4 => ?_)
      · walk_at "go"
        exact kF (fun z => by have := (z.2.2.2 i hi2).1; omega) _ eG2
      walk_at "go"
      refine Z.w_dec (fun h5 => ?_) (fun h5 => ?_)
      · walk_at "go"
        refine Z.w_ndec (fun h6 => ?_) (fun h6 => ?_)
        · walk_at "go"
          exact kF (fun z => h6 ((z.2.2.2 i hi2).2 h5)) _ eG2
        · walk_at "go"
          refine ⟨_, rfl, eG.trans e2, fun t ht => ?_⟩
          by_cases e : t = i
          · subst e; exact ⟨by omega, fun _ => h6⟩
          · exact hall t (by omega)
      · walk_at "go"
        refine ⟨_, rfl, eG.trans e2, fun t ht => ?_⟩
        by_cases e : t = i
        · subst e; exact ⟨by omega, fun z => absurd z h5⟩
        · exact hall t (by omega)
    · rintro σ' G ⟨v3, rfl, eG, hall⟩
      walk_at "go"
      exact kT ⟨h1, by omega, by omega, fun t ht => hall t (by omega)⟩ _ (he1.trans eG)

def sp_lowest (K : PySem.W.Frag) : Sp := fun vs H Q _ => ∃ (a : Addr) (r : List Int), vs = [.ref a] ∧ SqL K H a (r.map V.int) ∧ r.length ≤ 1000 ∧ 1 ≤ r.getD 0 0 ∧ 0 < r.length ∧ (∀ x ∈ r, x.natAbs < 2 ^ 13400) ∧ ∀ p H', Fr H p → Ex H H' → At H' p (.tup ((lowR r).map V.int)) → Q (.ref p) H'
theorem ok_lowest (T : Tx P K mg) : FnOk P w K mg base (L2.CX P w) 1 (He.ga K "lowest") (Z.fdOf K (He.ga K "lowest")) ["row"] (sp_lowest K) := by
  refine T.F_lowest.ok sc_lowest (fun vs H Q E h => ?_) (fun cdv A outer s H vs Q E hr h => ?_)
  · obtain ⟨a, r, rfl, _⟩ := h
    rfl
  · obtain ⟨a, r, rfl, ha, hl, h1, hl0, hb, k⟩ := h
    have hg := gL_dvd r 0
    have h0 : r.getD 0 0 ∈ r := by rw [getD_get _ _ _ hl0]; exact List.getElem_mem _
    have hgd := hg.2 _ h0
    have hg0 : 0 < gL 0 r := Nat.pos_of_dvd_of_pos hgd (by omega)
    have hdv : ∀ i, i < r.length → CDivZ (r.getD i 0) ((gL 0 r : Nat) : Int) := fun i hi => cdivz (by omega) (hb _ (by rw [getD_get _ _ _ hi]; exact List.getElem_mem _))
    clear hb
    refine ⟨_, PSs.nox (pss_cons (ps_set (i := 1) sc_lowest.nd rfl (Or.inr rfl) pe_int)
      (pss_cons (ps_for PassesOwn.never rfl (Z.piL (K := K) rfl (pv 0)) (pg_name (i := 2) sc_lowest.nd rfl (by first | exact Or.inl rfl | exact Or.inr rfl)) (pss_one (ps_set (i := 1) sc_lowest.nd rfl (Or.inr rfl) (pe_callBfun cr_gcd (by rfl) T.m_gcd (pa_cons (pv 1) (pa_cons (pv 2) pa_nil))))))
      (pss_one (ps_ret (pe_callTy (Z.call_tuple (K := K) rfl) (by rfl) T.n_tuple (by decide +kernel) (pa_cons (pe_lc (own := [("number", 2)]) rfl sc_lowest.nd (Z.piL (K := K) rfl (pv 0)) (blkOk_by (N := ["row", "shared", "number"]) (sc := defScope s_lowest) (by decide +kernel)) (fun _ _ _ _ _ => (pg_name (i := 2) sc_lowest.nd rfl (by first | exact Or.inl rfl | exact Or.inr rfl))) (fun _ _ _ _ _ => pts_nil) (fun _ _ _ _ _ => (pe_op Z.op_fdivP (pv 2) (pv 1)))) pa_nil)))))), ?_⟩
    try dsimp only [cxOf, Cx.nox, Cx.wish]
    try (show (_ : TS) _ [some _, none, none] _)
    walk_at "go"
    rename_i J S
    refine Z.fg S (fun i σ G => ∃ v2, σ = [some (.ref a), some (.int ((gL 0 (r.take i) : Nat) : Int)), v2] ∧ Ex H G) ⟨none, rfl, Ex.refl H⟩ (fun i σ' G _ ⟨_, _, e⟩ => e.l ha) ?_ ?_
    · rintro i y σ' G G2 hi ⟨v2, rfl, eG⟩ e2 hy
      obtain ⟨hi2, rfl⟩ := get_int hy
      walk_at "go"
      have e : gL 0 (r.take (i + 1)) = Nat.gcd (gL 0 (r.take i)) (r.getD i 0).natAbs := by
        rw [List.take_succ, List.getElem?_eq_getElem hi2, getD_get _ _ _ hi2]
        exact gL_snoc _ _ _
      exact ⟨_, by rw [e]; try rfl, eG.trans e2⟩
    · rintro σ' G ⟨v2, rfl, eG⟩
      rw [List.length_map, List.take_length]
      walk_at "go"
      rename_i J2 S2
      refine Z.cgI S2 (fun i => r.getD i 0 / ((gL 0 r : Nat) : Int)) (fun H' e => by walk_at "fl") (by rw [List.length_map]; show _ ≤ 16777216; omega) (fun Dl i x H' hi ec c y => ?_) (fun p8 H8 hn8 he8 hp8 => ?_) rfl
      · obtain ⟨hi2, rfl⟩ := get_int y
        have hd2 := hdv i (by omega)
        walk_at "go"
      · rw [List.length_map, range_map r (fun w => w / ((gL 0 r : Nat) : Int))] at hp8
        walk_at "go"
        rename_i p9 H9 hn9 he9 hp9
        exact k p9 H9 (eG.back (he8.back hn9)) (eG.trans (he8.trans he9)) hp9

theorem ok_TooMany___init__ (T : Tx P K mg) : FnOk P w K mg base (L2.CX P w) 1 (He.ma K (He.ga K "TooMany") "__init__") (Z.fdOf K (He.ma K (He.ga K "TooMany") "__init__")) ["self", "many", "most"] (Z.spX (He.ga K "TooMany") ["many", "most"]) := by
  refine Z.FunS.ok (x0 := "self") T.F_TooMany___init__ sc_TooMany___init__ (by decide +kernel) rfl rfl rfl (by decide +kernel) (by decide +kernel) T.p_top T.n_super T.c_TooMany (fun vs H Q E h => ?_) (fun cc cda A outer s H vs Q E hr h S => ?_)
  · obtain ⟨a, ws, rfl, hl, _⟩ := h
    simpa using hl
  · obtain ⟨a, ws, rfl, hl, ha, k⟩ := h
    obtain ⟨v1, v2, rfl⟩ : ∃ v1 v2, ws = [v1, v2] := by
      match ws, hl with
      | [v1, v2], _ => exact ⟨v1, v2, rfl⟩
    refine ⟨_, _, Z.ps_supE (Z.pe_supX S T.mro_TooMany_TooMany T.third T.si_TooMany.1 T.si_TooMany.2.1 (pa_cons pe_str pa_nil)), (pss_cons (ps_ost (pv 0) (pv 1)) (pss_one (ps_ost (pv 0) (pv 2)))), ?_⟩
    refine ⟨a, rfl, T.oe_TooMany, ha, by decide, ha, ?_⟩
    refine ⟨_, rfl, _, rfl, a, He.ga K "TooMany", rfl, T.oe_TooMany, T.nf_TooMany_many, .inl ⟨ha, fun dx hd hne => ?_⟩⟩
    refine ⟨_, rfl, _, rfl, a, He.ga K "TooMany", rfl, T.oe_TooMany, T.nf_TooMany_most, .inr ⟨dx, _, upd_same, by rw [upd_ne hne, upd_same], by simp, ?_⟩⟩
    rw [Z.upd_swap hne]
    exact k dx hd hne

/-- Rule.__init__ of an object of the class Tabled that is new -/
def sp_Tabled_Rule___init__ (K : PySem.W.Frag) : Sp := fun vs H Q E => ∃ (H0 : Hp) (x dx : Addr) (n : Int), vs = [.ref x, .int n] ∧ At H x (.ins (He.ga K "Tabled") dx []) ∧ Fr H0 x ∧ Ex H0 H ∧
  (6 < n → ∀ d H', Ex H0 H' → At H' d (.xd [("most", .int 6), ("many", .int n)]) → E (.ref (He.ga K "TooMany")) (some d) H') ∧ (n ≤ 6 → ∀ H', Ex H0 H' → At H' x (.ins (He.ga K "Tabled") dx [("many", .int n)]) → (∀ b o, b ≠ x → At H b o → At H' b o) → Q .non H')
theorem ok_Tabled_Rule___init__ (T : Tx P K mg) : FnOk P w K mg base (L2.CX P w) 3 (He.ma K (He.ga K "Rule") "__init__") (Z.fdOf K (He.ma K (He.ga K "Rule") "__init__")) ["self", "many"] (sp_Tabled_Rule___init__ K) := by
  refine T.F_Rule___init__.ok sc_Rule___init__ (fun vs H Q E h => ?_) (fun cdv A outer s H vs Q E hr h => ?_)
  · obtain ⟨H0, x, dx, n, rfl, _⟩ := h
    rfl
  · obtain ⟨H0, x, dx, n, rfl, hx, hf, e0, hE, k⟩ := h
    have cl := T.o_Tabled.cl
    have kM := T.k_Tabled_MOST
    have na := T.na_Tabled_many
    have fx0 := T.o_Tabled.cl
    have fx1 := T.na_Tabled_many
    have fx2 := T.k_Tabled_MOST
    refine ⟨_, (pss_cons (ps_if (pt_cmpR Z.op_gt (pv 1) (Z.con (K := K) rfl (pv 0) rfl) (nomark _)) (pss_one (Z.ps_raiseZ rfl (takes_of rfl rfl rfl rfl) (pmk_oex T.oe_TooMany T.si_TooMany.2.2.1 T.si_TooMany.2.2.2 (ok_TooMany___init__ T) (hr.mono (by decide)) T.b_TooMany___init__ .nil passL (by rfl) T.g_TooMany (pa_cons (pv 1) (pa_cons (Z.con (K := K) rfl (pv 0) rfl) pa_nil))))) pss_nil)
      (pss_one (ps_fld (pv 0) (pv 1) rfl))), ?_⟩
    try dsimp only [cxOf, Cx.nox, Cx.wish]
    try (show (_ : TS) _ [some _, some _] _)
    walk_at "go"
    refine Z.w_dec (fun h1 => ?_) (fun h1 => ?_)
    · walk_at "go"
      rename_i d H2 hn he hp
      exact hE h1 d H2 (e0.trans he) hp
    · walk_at "go"
      refine Z.w_put hx cl na (by decide) fun H2 h2 hk ho => ?_
      walk_at "go"
      exact k (by omega) H2 (hk H0 e0 hf) h2 ho

theorem ok_BadTable___init__ (T : Tx P K mg) : FnOk P w K mg base (L2.CX P w) 1 (He.ma K (He.ga K "BadTable") "__init__") (Z.fdOf K (He.ma K (He.ga K "BadTable") "__init__")) ["self", "at"] (Z.spX (He.ga K "BadTable") ["at"]) := by
  refine Z.FunS.ok (x0 := "self") T.F_BadTable___init__ sc_BadTable___init__ (by decide +kernel) rfl rfl rfl (by decide +kernel) (by decide +kernel) T.p_top T.n_super T.c_BadTable (fun vs H Q E h => ?_) (fun cc cda A outer s H vs Q E hr h S => ?_)
  · obtain ⟨a, ws, rfl, hl, _⟩ := h
    simpa using hl
  · obtain ⟨a, ws, rfl, hl, ha, k⟩ := h
    obtain ⟨v1, rfl⟩ : ∃ v1, ws = [v1] := by
      match ws, hl with
      | [v1], _ => exact ⟨v1, rfl⟩
    refine ⟨_, _, Z.ps_supE (Z.pe_supX S T.mro_BadTable_BadTable T.third T.si_BadTable.1 T.si_BadTable.2.1 (pa_cons pe_str pa_nil)), (pss_one (ps_ost (pv 0) (pv 1))), ?_⟩
    refine ⟨a, rfl, T.oe_BadTable, ha, by decide, ha, ?_⟩
    refine ⟨_, rfl, _, rfl, a, He.ga K "BadTable", rfl, T.oe_BadTable, T.nf_BadTable_at, .inl ⟨ha, fun dx hd hne => ?_⟩⟩
    exact k dx hd hne

/-- what of its making is refused: at a row, or as a whole -/
inductive TRes (n : Int) (rows : List (List Int)) : V → Prop
  | len (h : n ≤ 6) (hr : (rows.length : Int) ≠ (2 ^ n.toNat : Nat)) : TRes n rows .non
  | row (h : n ≤ 6) (hr : (rows.length : Int) = (2 ^ n.toNat : Nat)) (i : Nat) (hi : i < rows.length) (hw : ¬ Fits (rows.getD i []) ((lotOf i n.toNat).map fun k : Nat => (k : Int)) n) (hb : ∀ j, j < i → Fits (rows.getD j []) ((lotOf j n.toNat).map fun k : Nat => (k : Int)) n) : TRes n rows (.int (i : Nat))
def TGood (n : Int) (rows : List (List Int)) : Prop := n ≤ 6 ∧ (rows.length : Int) = (2 ^ n.toNat : Nat) ∧ ∀ j, j < rows.length → Fits (rows.getD j []) ((lotOf j n.toNat).map fun k : Nat => (k : Int)) n
def TErr (K : PySem.W.Frag) (n : Int) (rows : List (List Int)) (E : XK) (H : Hp) : Prop :=
  (6 < n → ∀ d H', Ex H H' → At H' d (.xd [("most", .int 6), ("many", .int n)]) → E (.ref (He.ga K "TooMany")) (some d) H') ∧ (∀ v, TRes n rows v → ∀ d H', Ex H H' → At H' d (.xd [("at", v)]) → E (.ref (He.ga K "BadTable")) (some d) H')
def sp_Tabled___init__ (K : PySem.W.Frag) : Sp := fun vs H Q E => ∃ (H0 : Hp) (x dx pl : Addr) (n : Int) (xs : List V) (rows : List (List Int)), vs = [.ref x, .int n, .ref pl] ∧ At H x (.ins (He.ga K "Tabled") dx []) ∧ Fr H0 x ∧ Ex H0 H ∧ At H0 pl (.lst xs) ∧ LLi H0 xs rows ∧ 0 ≤ n ∧ rows.length ≤ 1000 ∧ (∀ r ∈ rows, ∀ z ∈ r, z.natAbs < 2 ^ 13400) ∧ TErr K n rows E H0 ∧
  (TGood n rows → ∀ H' tp ys, Ex H0 H' → At H' x (.ins (He.ga K "Tabled") dx [("many", .int n), ("rows", .ref tp)]) → At H' tp (.tup ys) → LTt H' ys (rows.map lowR) → Q .non H')
theorem ok_Tabled___init__ (T : Tx P K mg) : FnOk P w K mg base (L2.CX P w) 5 (He.ma K (He.ga K "Tabled") "__init__") (Z.fdOf K (He.ma K (He.ga K "Tabled") "__init__")) ["self", "many", "rows"] (sp_Tabled___init__ K) := by
  refine Z.FunS.ok (x0 := "self") T.F_Tabled___init__ sc_Tabled___init__ (by decide +kernel) rfl rfl rfl (by decide +kernel) (by decide +kernel) T.p_top T.n_super T.c_Tabled (fun vs H Q E h => ?_) (fun cc cda A outer s H vs Q E hr h S => ?_)
  · obtain ⟨H0, x, dx, pl, n, xs, rows, rfl, _⟩ := h
    rfl
  · obtain ⟨H0, x, dx, pl, n, xs, rows, rfl, hx, hf, e0, hp0, hL0, hn0, hrl, hrb, hE, k⟩ := h
    have fx0 := T.o_Tabled.cl
    have fx1 := T.na_Tabled_rows
    refine ⟨_, _, (Z.ps_supE (Z.pe_sup S T.mro_Tabled_Tabled T.third T.sm_Tabled_Tabled___init__.1 T.sm_Tabled_Tabled___init__.2.1 T.sm_Tabled_Tabled___init__.2.2 (Z.rawOk (ok_Tabled_Rule___init__ T) T.b_Rule___init__) (hr.mono (by decide)) (fun σ => passAt (takes_of rfl rfl rfl rfl) σ) (pa_cons (pv 1) pa_nil))), (pss_cons (ps_if (pt_cmpR (Z.op_ne (K := K) rfl hr.units) (pe_callB (Z.call_len (K := K) rfl) (by rfl) T.n_len (by decide +kernel) (pa_cons (pv 2) pa_nil)) (pe_op Z.op_shl pe_int (pv 1)) (nomark _)) (pss_one (Z.ps_raiseZ rfl (takes_of rfl rfl rfl rfl) (pmk_oex T.oe_BadTable T.si_BadTable.2.2.1 T.si_BadTable.2.2.2 (ok_BadTable___init__ T) (hr.mono (by decide)) T.b_BadTable___init__ .nil passL (by rfl) T.g_BadTable (pa_cons pe_non pa_nil)))) pss_nil)
      (pss_cons (ps_for (passes_of rfl) rfl (pi_enum (by rfl) T.n_enumerate (pa_cons (pv 2) pa_nil)) (pg_tup (by rfl) (pgs_cons (pg_name (i := 4) sc_Tabled___init__.nd rfl (by first | exact Or.inl rfl | exact Or.inr rfl)) (pgs_cons (pg_name (i := 5) sc_Tabled___init__.nd rfl (by first | exact Or.inl rfl | exact Or.inr rfl)) pgs_nil))) (pss_one (ps_if (pt_not (pt_val (Z.pe_callZ (ok_fits_lot T) (hr.mono (by decide)) (by rfl) T.g_fits_lot T.F_fits_lot.kp T.b_fits_lot .nil (fun σ => passAt (takes_of rfl rfl rfl rfl) σ) (pa_cons (pv 5) (pa_cons (Z.pe_callZ (ok_lot_at T) (hr.mono (by decide)) (by rfl) T.g_lot_at T.F_lot_at.kp T.b_lot_at .nil (fun σ => passAt (takes_of rfl rfl rfl rfl) σ) (pa_cons (pv 4) (pa_cons (pv 1) pa_nil))) (pa_cons (pv 1) pa_nil)))))) (pss_one (Z.ps_raiseZ rfl (takes_of rfl rfl rfl rfl) (pmk_oex T.oe_BadTable T.si_BadTable.2.2.1 T.si_BadTable.2.2.2 (ok_BadTable___init__ T) (hr.mono (by decide)) T.b_BadTable___init__ .nil passL (by rfl) T.g_BadTable (pa_cons (pv 4) pa_nil)))) pss_nil)))
      (pss_one (ps_fld (pv 0) (pe_callTy (Z.call_tuple (K := K) rfl) (by rfl) T.n_tuple (by decide +kernel) (pa_cons (pe_lc (own := [("row", 5)]) rfl sc_Tabled___init__.nd (Z.piL (K := K) rfl (pv 2)) (blkOk_by (N := ["self", "many", "rows", "__class__", "number", "row"]) (sc := defScope s_Tabled___init__) (by decide +kernel)) (fun _ _ _ _ _ => (pg_name (i := 5) sc_Tabled___init__.nd rfl (by first | exact Or.inl rfl | exact Or.inr rfl))) (fun _ _ _ _ _ => pts_nil) (fun _ _ _ _ _ => (pe_call (ok_lowest T) (hr.mono (by decide)) (by rfl) T.g_lowest T.F_lowest.kp T.b_lowest .nil passL (pa_cons (pv 5) pa_nil)))) pa_nil)) rfl)))), ?_⟩
    change tSeq _ _ _ [some _, some _, some _, none, none, none] _
    try dsimp only [Z.scx, NdefX.ncx]
    walk_at "go"
    obtain ⟨m, rfl⟩ := Int.eq_ofNat_of_zero_le hn0
    refine ⟨H0, x, dx, m, rfl, hx, hf, e0, fun h d H' e hd => hE.1 h d H' e hd, fun hn6 H1 e1 hx1 ho1 => ?_⟩
    have hp1 := e1.get hp0
    have hL1 := hL0.ex e1
    have hxl := hL1.1
    have hpw : (2 ^ m : Nat) ≤ 2 ^ 6 := Nat.pow_le_pow_right (by decide) (by omega)
    have hcast : ((2 : Int) ^ m) = ((2 ^ m : Nat) : Int) := by rw [Int.natCast_pow]; rfl
    have hm6 : m ≤ 134217727 := by omega
    walk_at "go"
    rw [hcast]
    refine Z.w_ndec (fun h => ?_) (fun h => ?_)
    · walk_at "go"
      rename_i d H5 hn5 he5 hp5
      exact hE.2 _ (.len hn6 (by rw [Int.toNat_natCast]; omega)) d H5 (e1.trans he5) hp5
    have hrl2 : (rows.length : Int) = (2 ^ (m : Int).toNat : Nat) := by rw [Int.toNat_natCast]; omega
    walk_at "go"
    rename_i J S
    refine Z.fg S (fun i σ G => ∃ (v4 v5 : Option V), σ = [some (.ref x), some (.int m), some (.ref pl), none, v4, v5] ∧ Ex H1 G ∧ ∀ j, j < i → Fits (rows.getD j []) ((lotOf j (m : Int).toNat).map fun k : Nat => (k : Int)) m)
      ⟨none, none, rfl, Ex.refl _, fun j hj => absurd hj (by omega)⟩ (fun i σ' G _ ⟨_, _, _, e, _⟩ => e.l (sq_of hp1)) ?_ ?_
    · rintro i y σ' G G2 hi ⟨v4, v5, rfl, eG, hall⟩ e2 ⟨t, z, rfl, ht, hz⟩
      have hi2 : i < rows.length := by omega
      obtain ⟨rr, g1, g2⟩ := hL1.2 i hi2
      rw [g1] at hz
      cases hz
      have g22 := (eG.trans e2).get g2
      have eG2 := eG.trans e2
      walk_at "go"
      refine ⟨i, m, rfl, by omega, fun lt H3 hn3 he3 hp3 => ?_⟩
      walk_at "go"
      refine ⟨rr, lt, _, _, m, rfl, sq_of (he3.get g22), st_of hp3, by omega, by omega, fun hF H4 he4 => ?_, fun hF H4 he4 => ?_⟩
      · walk_at "go"
        refine ⟨_, _, rfl, by walk_at "ex", fun j hj => ?_⟩
        by_cases e : j = i
        · subst e
          rw [Int.toNat_natCast]
          exact hF
        · exact hall j (by omega)
      · walk_at "go"
        rename_i d H5 hn5 he5 hp5
        exact hE.2 _ (.row hn6 hrl2 i hi2 (by rw [Int.toNat_natCast]; exact hF) hall) d H5 (e1.trans (eG2.trans (he3.trans (he4.trans he5)))) hp5
    · rintro σ' G ⟨v4, v5, rfl, eG, hall⟩
      rw [hxl] at hall
      have hxG := eG.get hx1
      have hpG := eG.get hp1
      have hLG := hL1.ex eG
      walk_at "go"
      rename_i J2 S2
      refine Z.cgX S2 (fun k acc G' => LTt G' acc ((rows.take k).map lowR)) (fun H' e => LTt.nil) (fun k acc Ga Gb h e => h.ex e) (fun H' e => e.l (sq_of hpG)) (by rw [hxl]; show _ ≤ 16777216; omega) (fun Dl kq z G2 acc hk ec cd hl hP hy => ?_) (fun p7 H7 acc hn7 he7 hp7 hl7 hP7 => ?_) rfl
      · have hk2 : kq < rows.length := by omega
        obtain ⟨rr, g1, g2⟩ := hLG.2 kq hk2
        rw [g1] at hy
        cases hy
        have hmem : rows.getD kq [] ∈ rows := by rw [getD_get _ _ _ hk2]; exact List.getElem_mem _
        have hF := hall kq hk2
        have hlen : (rows.getD kq []).length ≤ 1000 := by have := hF.1; omega
        have htk : (rows.take (kq + 1)).map lowR = (rows.take kq).map lowR ++ [lowR (rows.getD kq [])] := by rw [List.take_succ_eq_append_getElem hk2, List.map_append, getD_get _ _ _ hk2]; rfl
        have g22 := ec.get g2
        walk_at "go"
        refine ⟨rr, _, rfl, sq_of g22, hlen, hF.2.1, fits_pos hF (by omega), hrb _ hmem, fun pt H3 hn3 he3 hp3 => ?_⟩
        refine Z.elx cd hl (by rw [hl]; show kq < 16777216; omega) he3 fun H5 hnl => ?_
        rw [htk]
        exact ((hP.ex he3).nl hnl).snoc (hnl.get (fun l z => by cases z) hp3)
      · rw [hxl, List.take_length] at hP7
        walk_at "go"
        rename_i tp H8 hn8 he8 hp8
        have hx8 := he8.get (he7.get hxG)
        refine Z.w_putE hx8 fx0 fx1 (by show 1 < 900; decide) (by simp only [List.map_cons, List.map_nil]; decide +kernel) fun H9 h9 hk9 ho9 => ?_
        have e09 : Ex H0 H9 := hk9 H0 (e1.trans (eG.trans (he7.trans he8))) hf
        walk_at "go"
        have hL8 := hP7.ex he8
        refine k ⟨hn6, hrl2, hall⟩ H9 tp acc e09 h9 (ho9 tp _ (fun z => by subst z; cases hx8.inj hp8) hp8) ⟨hL8.1, fun i hi => ?_⟩
        obtain ⟨a, q1, q2⟩ := hL8.2 i hi
        exact ⟨a, q1, ho9 a _ (fun z => by subst z; cases hx8.inj q2) q2⟩
/-- a Tabled stands at x -/
def TdR (K : PySem.W.Frag) (H : Hp) (x : Addr) (n : Int) (rows : List (List Int)) : Prop := ∃ dx tp ys, At H x (.ins (He.ga K "Tabled") dx [("many", .int n), ("rows", .ref tp)]) ∧ At H tp (.tup ys) ∧ LTt H ys (rows.map lowR)
theorem TdR.ex {K : PySem.W.Frag} {H H' : Hp} {x : Addr} {n : Int} {rows : List (List Int)} (h : TdR K H x n rows) (e : Ex H H') : TdR K H' x n rows := by
  obtain ⟨dx, tp, ys, h1, h2, h3⟩ := h
  exact ⟨dx, tp, ys, e.get h1, e.get h2, h3.ex e⟩
/-- .. of great numbers -/
theorem mkTdB {H : Hp} {Q : VK} {E : XK} {pl : Addr} {n : Int} {xs : List V} {rows : List (List Int)} (hp : At H pl (.lst xs)) (hL : LLi H xs rows) (hn : 0 ≤ n) (hl : rows.length ≤ 1000) (hb : ∀ r ∈ rows, ∀ z ∈ r, z.natAbs < 2 ^ 13400) (hE : TErr K n rows E H) (k : TGood n rows → ∀ x H', Fr H x → Ex H H' → TdR K H' x n rows → Q (.ref x) H') :
    dMk (He.ga K "Tabled") (sp_Tabled___init__ K) [] E Q [.int n, .ref pl] H :=
  w_dMk fun x dx H2 nw => ⟨H, x, dx, pl, n, xs, rows, rfl, nw.at_, nw.new, nw.ex, hp, hL, hn, hl, hb, hE, fun h1 H' tp ys e h2 h3 h4 => ⟨rfl, k h1 x H' nw.new e ⟨dx, tp, ys, h2, h3, h4⟩⟩⟩
/-- Tabled(n, pl) -/
theorem mkTd {H : Hp} {Q : VK} {E : XK} {pl : Addr} {n : Int} {xs : List V} {rows : List (List Int)} (hp : At H pl (.lst xs)) (hL : LLi H xs rows) (hn : 0 ≤ n) (hl : rows.length ≤ 1000) (hb : ∀ r ∈ rows, ∀ z ∈ r, z.natAbs < 2 ^ 64) (hE : TErr K n rows E H) (k : TGood n rows → ∀ x H', Fr H x → Ex H H' → TdR K H' x n rows → Q (.ref x) H') :
    dMk (He.ga K "Tabled") (sp_Tabled___init__ K) [] E Q [.int n, .ref pl] H :=
  mkTdB hp hL hn hl (fun r hr z hz => Nat.lt_trans (hb r hr z hz) (Nat.pow_lt_pow_right (by decide) (by decide))) hE k

/-- the shares that a table tells -/
def tbW (n : Int) (r : List Int) : List Int := (List.range n.toNat).map fun t : Nat => (lowR r).getD (t + 1) 0
theorem tbW_len (n : Int) (r : List Int) : (tbW n r).length = n.toNat := by unfold tbW; simp
theorem tbW_get {n : Int} {r : List Int} {t : Nat} (h : t < n.toNat) : (tbW n r).getD t 0 = (lowR r).getD (t + 1) 0 := by
  rw [getD_get _ _ _ (by rw [tbW_len]; exact h)]
  unfold tbW
  simp
def tbR (rows : List (List Int)) (lot : List Int) : List Int := rows.getD (sum2 (lot.map Int.toNat)) []
def tbSh (n : Int) (rows : List (List Int)) (lot : List Int) : List Rat := shWi (tbW n (tbR rows lot)) ((lowR (tbR rows lot)).getD 0 0) lot
theorem nats_lot {lot : List Int} (h : ∀ t ∈ lot, 0 ≤ t) : nats (lot.map Int.toNat) = lot.map V.int := by
  unfold nats
  rw [List.map_map, List.map_map]
  refine List.map_congr_left fun t ht => ?_
  show V.int ((t.toNat : Nat) : Int) = V.int t
  rw [Int.toNat_of_nonneg (h t ht)]
theorem sum2_lt : ∀ (l : List Nat) (m : Nat), l.Pairwise (· < ·) → (∀ t ∈ l, t < m) → sum2 l < 2 ^ m := by
  intro l m
  induction m generalizing l with
  | zero =>
    intro _ h
    cases l with
    | nil => simp [sum2]
    | cons a r => exact absurd (h a (by simp)) (by omega)
  | succ m ih =>
    intro hp h
    rcases List.eq_nil_or_concat l with rfl | ⟨r, a, rfl⟩
    · simp only [sum2, List.map_nil, List.sum_nil]; exact Nat.pow_pos (by decide)
    · rw [List.concat_eq_append] at *
      have h1 := List.pairwise_append.mp hp
      have hlt : ∀ t ∈ r, t < a := fun t ht => h1.2.2 t ht a (by simp)
      have h3 := h a (by simp)
      rw [Nat.pow_succ]
      by_cases e : a = m
      · subst e
        have h2 := ih r h1.1 hlt
        have h5 : sum2 [a] = 2 ^ a := by simp [sum2]
        rw [sum2_append]
        omega
      · have h2 := ih (r ++ [a]) hp (fun t ht => by
          rcases List.mem_append.mp ht with q | q
          · have := hlt t q; omega
          · rw [List.mem_singleton.mp q]; omega)
        omega
theorem lot_num {n : Int} {lot : List Int} (h : IsLot n lot) : sum2 (lot.map Int.toNat) < 2 ^ n.toNat := by
  refine sum2_lt _ _ ?_ fun t ht => ?_
  · rw [List.pairwise_map]
    have h2 := h.2
    refine h.1.imp_of_mem fun {a b} ha hb hab => ?_
    have := h2 a ha
    have := h2 b hb
    omega
  · obtain ⟨x, hx, rfl⟩ := List.mem_map.mp ht
    have := h.2 x hx
    omega
def sp_Tabled_shares (K : PySem.W.Frag) : Sp := fun vs H Q E => ∃ (x l : Addr) (n : Int) (rows : List (List Int)) (B : Nat) (lot : List Int), vs = [.ref x, .ref l] ∧ TdR K H x n rows ∧ TGood n rows ∧ 0 ≤ n ∧ SqT K H l (lot.map V.int) ∧ (∀ r ∈ rows, ∀ z ∈ r, z.natAbs < 2 ^ B) ∧ B ≤ 13400 ∧ 1 ≤ B ∧ (¬ IsLot n lot → ∀ H', Ex H H' → E (.ref (He.ga K "BadLot")) none H') ∧
  (IsLot n lot → ∀ p H' xs, Fr H p → Ex H H' → At H' p (.lst xs) → RL (He.ga K "Ratio") H' xs (tbSh n rows lot) B → Q (.ref p) H')
theorem TdR.rb {K : PySem.W.Frag} {H : Hp} {x : Addr} {n : Int} {rows : List (List Int)} (h : TdR K H x n rows) (h0 : 0 ≤ n) (h6 : n ≤ 6) : RB (He.ga K "Tabled") H x n := by
  obtain ⟨dx, tp, ys, h1, h2, h3⟩ := h
  refine ⟨dx, _, h1, rfl, fun m hm => ?_, h0, by omega⟩
  have e1 : (m == ("many" : Str)) = false := by revert m; decide +kernel
  have e2 : (m == ("rows" : Str)) = false := by revert m; decide +kernel
  simp only [List.lookup, e1, e2]
theorem lowR_bd {r : List Int} {B : Nat} (h : ∀ z ∈ r, z.natAbs < 2 ^ B) : ∀ z ∈ lowR r, z.natAbs < 2 ^ B := fun z hz => by
  obtain ⟨v, hv, rfl⟩ := List.mem_map.mp hz
  exact Nat.lt_of_le_of_lt (Int.natAbs_ediv_le_natAbs _ _) (h v hv)
theorem getD_mapL {α β : Type} (l : List (List α)) (f : List α → List β) {i : Nat} (h : i < l.length) : (l.map f).getD i [] = f (l.getD i []) := by
  rw [getD_get _ _ _ (by rw [List.length_map]; exact h), getD_get _ _ _ h, List.getElem_map]
theorem lowR_get (r : List Int) (i : Nat) : (lowR r).getD i 0 = r.getD i 0 / ((gL 0 r : Nat) : Int) := by
  by_cases h : i < r.length
  · rw [getD_get _ _ _ (by rw [List.length_map]; exact h), getD_get _ _ _ h, List.getElem_map]
  · rw [List.getD_eq_getElem?_getD, List.getD_eq_getElem?_getD, List.getElem?_eq_none (by rw [List.length_map]; omega), List.getElem?_eq_none (by omega)]
    exact (Int.zero_ediv _).symm
theorem gL_row {r lot : List Int} {m : Int} (h : Fits r lot m) (hm : 0 ≤ m) : 0 < gL 0 r ∧ ∀ i, ((gL 0 r : Nat) : Int) ∣ r.getD i 0 := by
  have hg := gL_dvd r 0
  have hl := fits_pos h hm
  have h0 := hg.2 (r.getD 0 0) (by rw [getD_get _ _ _ hl]; exact List.getElem_mem _)
  have h1 := h.2.1
  refine ⟨Nat.pos_of_dvd_of_pos h0 (by omega), fun i => ?_⟩
  by_cases hi : i < r.length
  · rw [getD_get _ _ _ hi]
    exact Int.ofNat_dvd_left.mpr (hg.2 _ (List.getElem_mem _))
  · rw [List.getD_eq_getElem?_getD, List.getElem?_eq_none (by omega)]
    exact Int.dvd_zero _
theorem lowR_pos {r lot : List Int} {m : Int} (h : Fits r lot m) (hm : 0 ≤ m) : 1 ≤ (lowR r).getD 0 0 := by
  obtain ⟨h1, h2⟩ := gL_row h hm
  rw [lowR_get]
  have h3 := h.2.1
  obtain ⟨c, hc⟩ := h2 0
  rw [hc, Int.mul_ediv_cancel_left _ (by omega)]
  rcases Int.lt_or_le 0 c with q | q
  · omega
  · have := Int.mul_nonpos_of_nonneg_of_nonpos (show 0 ≤ ((gL 0 r : Nat) : Int) by omega) q
    omega
theorem ok_Tabled_shares (T : Tx P K mg) : FnOk P w K mg base (L2.CX P w) 4 (He.ma K (He.ga K "Tabled") "shares") (Z.fdOf K (He.ma K (He.ga K "Tabled") "shares")) ["self", "lot"] (sp_Tabled_shares K) := by
  refine Z.FunS.ok (x0 := "self") T.F_Tabled_shares sc_Tabled_shares (by decide +kernel) rfl rfl rfl (by decide +kernel) (by decide +kernel) T.p_top T.n_super T.c_Tabled (fun vs H Q E h => ?_) (fun cc cda A outer s H vs Q E hr h S => ?_)
  · obtain ⟨x, l, n, rows, B, lot, rfl, _⟩ := h
    rfl
  · obtain ⟨x, l, n, rows, B, lot, rfl, hx, hg, hn0, hl, hbd, hB9, hB1, hE, k⟩ := h
    have hrb := hx.rb hn0 hg.1
    obtain ⟨dx0, tp0, ys0, hat0, htp0, hLT0⟩ := id hx
    obtain ⟨ds3_Ratio___init__, vd3_Ratio___init__, bd3_Ratio___init__⟩ := T.b3_Ratio___init__
    have fx0 := T.o_Tabled.cl
    have fx1 := T.na_Tabled_rows
    refine ⟨_, _, (Z.ps_supA (i := 3) sc_Tabled_shares.nd rfl (by first | exact Or.inl rfl | exact Or.inr rfl) (Z.pe_sup S T.mro_Tabled_Tabled T.third T.sm_Tabled_Tabled_shares.1 T.sm_Tabled_Tabled_shares.2.1 T.sm_Tabled_Tabled_shares.2.2 (Z.rawOk (ok_Tabled_Rule_shares T) T.b_Rule_shares) (hr.mono (by decide)) (fun σ => passAt (takes_of rfl rfl rfl rfl) σ) (pa_cons (pv 1) pa_nil))), (pss_cons (ps_set (i := 4) sc_Tabled_shares.nd rfl (Or.inl rfl) (pe_ix (Z.ix (K := K) rfl) (Z.fld (K := K) rfl (pv 0) rfl) (Z.pe_callZ (ok_lot_number T) (hr.mono (by decide)) (by rfl) T.g_lot_number T.F_lot_number.kp T.b_lot_number .nil (fun σ => passAt (takes_of rfl rfl rfl rfl) σ) (pa_cons (pv 1) pa_nil)) (fun _ _ => rfl)))
      (pss_cons (ps_for (passes_of rfl) rfl (Z.piT (K := K) rfl (pv 1)) (pg_name (i := 5) sc_Tabled_shares.nd rfl (by first | exact Or.inl rfl | exact Or.inr rfl)) (pss_one (ps_asg (Z.pe_makeZ T.mk_Ratio (ok_Ratio___init__ T) (hr.mono (by decide)) (by rfl) T.g_Ratio bd3_Ratio___init__ vd3_Ratio___init__ (fun σ => passAt (takes_of rfl rfl rfl rfl) σ) (pa_cons (pe_ix (Z.ix (K := K) rfl) (pv 4) (pe_op Z.op_add (pv 5) pe_int) (fun _ _ => rfl)) (pa_cons (pe_ix (Z.ix (K := K) rfl) (pv 4) pe_int (fun _ _ => rfl)) pa_nil))) (pg_sub (pv 3) (pv 5) set_list))))
      (pss_one (ps_ret (pv 3))))), ?_⟩
    change tSeq _ _ _ [some _, some _, none, none, none, none] _
    try dsimp only [Z.scx, NdefX.ncx]
    walk_at "go"
    refine ⟨x, l, n, lot, rfl, hrb, hl, hE, fun hlot p H1 xs hp e1 hat hxs => ?_⟩
    have hnum := lot_num hlot
    have hll := hlot.len
    have hat1 := e1.get hat0
    have htp1 := e1.get htp0
    have hLT1 := hLT0.ex e1
    have hl1 : SqT K H1 l (nats (lot.map Int.toNat)) := by rw [nats_lot fun t ht => (hlot.2 t ht).1]; exact e1.t hl
    have hgl := hg.2.1
    have hn6 := hg.1
    have hkl : sum2 (lot.map Int.toNat) < rows.length := by omega
    have hF := hg.2.2 _ hkl
    have hrm : rows.getD (sum2 (lot.map Int.toNat)) [] ∈ rows := by rw [getD_get _ _ _ hkl]; exact List.getElem_mem _
    obtain ⟨rr, g1, g2⟩ := hLT1.2 (sum2 (lot.map Int.toNat)) (by rw [List.length_map]; exact hkl)
    rw [getD_mapL rows lowR hkl] at g2
    have hidx : atI ys0 ((sum2 (lot.map Int.toNat) : Nat) : Int) = some (.ref rr) := by
      unfold atI
      rw [ixN_pos (by omega) (by rw [hLT0.1, List.length_map]; omega), Int.toNat_natCast]
      exact g1
    walk_at "go"
    refine ⟨l, lot.map Int.toNat, rfl, hl1, by rw [List.length_map]; omega, fun z hz => ?_, fun H2 e2 => ?_⟩
    · obtain ⟨t, ht, rfl⟩ := List.mem_map.mp hz
      have := hlot.2 t ht
      omega
    have htp2 := e2.get htp1
    have hat2 := e2.get hat1
    have g3 := e2.get g2
    have hrl : (lowR (rows.getD (sum2 (lot.map Int.toNat)) [])).length = n.toNat + 1 := by
      rw [List.length_map]
      have := hF.1
      omega
    have hr1 := lowR_pos hF hn0
    have hrb := lowR_bd (hbd _ hrm)
    have hW : tbW n (tbR rows lot) = tbW n (rows.getD (sum2 (lot.map Int.toNat)) []) := rfl
    have hsh : tbSh n rows lot = shWi (tbW n (rows.getD (sum2 (lot.map Int.toNat)) [])) ((lowR (rows.getD (sum2 (lot.map Int.toNat)) [])).getD 0 0) lot := rfl
    clear hl1 hat1 htp1 g2 hat0 htp0 hLT0 hLT1 g1
    walk_at "go"
    refine w_ixT (st_of htp2) hidx ?_
    generalize rows.getD (sum2 (lot.map Int.toNat)) [] = rw0 at *
    have hwl := tbW_len n rw0
    have hwg : ∀ t : Nat, t < n.toNat → (tbW n rw0).getD t 0 = (lowR rw0).getD (t + 1) 0 := fun t ht => tbW_get ht
    generalize tbW n rw0 = ws at *
    generalize lowR rw0 = lr at *
    walk_at "go"
    rename_i J S
    have e02 := e1.trans e2
    have hR0 := hxs.ex e2
    have hat3 := e2.get hat
    refine Z.fg S (fun i σ G => ∃ (v5 : Option V) (ys : List V), σ = [some (.ref x), some (.ref l), none, some (.ref p), some (.ref rr), v5] ∧ Ex H G ∧ At G rr (.tup (lr.map V.int)) ∧ At G p (.lst ys) ∧ RL (He.ga K "Ratio") G ys (shWi ws (lr.getD 0 0) (lot.take i)) B)
      ⟨none, xs, rfl, e02, g3, hat3, ?_⟩ (fun i σ' G _ ⟨_, _, _, e, _⟩ => e.t hl) ?_ ?_
    · rw [List.take_zero, shWi_nil, hwl]
      exact hR0.mono (by omega) hB9
    · rintro i y σ' G G2 hi ⟨v5, ys, rfl, eG, hrr, hG, hR⟩ e2' hy
      obtain ⟨hi2, rfl⟩ := get_int hy
      have ht := hlot.2 (lot.getD i 0) (by rw [getD_get _ _ _ hi2]; exact List.getElem_mem hi2)
      have hrr2 := e2'.get hrr
      have hG2 := e2'.get hG
      have hR2 := hR.ex e2'
      have hyl : ys.length = n.toNat := by rw [hR.1, shWi_len, hwl]
      have hm1 : ∀ k : Nat, k < lr.length → (lr.getD k 0).natAbs < 2 ^ B := fun k hk => by rw [getD_get _ _ _ hk]; exact hrb _ (List.getElem_mem _)
      have hb0 := hm1 0 (by omega)
      have hb1 := hm1 ((lot.getD i 0).toNat + 1) (by omega)
      have e3 : ((lot.getD i 0) + 1).toNat = (lot.getD i 0).toNat + 1 := by omega
      have hnz : lr.getD 0 0 ≠ 0 := by omega
      clear hrr hG
      walk_at "go"
      rename_i p3 H3 hn3 he3 hr3 H4 hp4 hnl4 ho4 hke4
      refine ⟨_, _, rfl, hke4, hnl4.get (fun l z => by cases z) (he3.get hrr2), hp4, ?_⟩
      rw [take_snoc hi2 0, ← shWi_snoc ws _ _ ht.1 (by omega)]
      rw [← hwg _ (by omega)] at hr3
      exact ((hR2.ex he3).nl hnl4).set ((hr3.eq rfl (by omega) hB9).nl hnl4)
    · rintro σ' G ⟨v5, ys, rfl, eG, hrr, hG, hR⟩
      rw [List.length_map, List.take_length] at hR
      walk_at "go"
      exact k hlot p G ys hp eG hG (by rw [hsh]; exact hR)
/-- a table -/
def Rep_Tabled (K : PySem.W.Frag) (H : Hp) (x : Addr) (n : Int) (sh : List Int → List Rat) (b : Nat) : Prop := ∃ rows B, TdR K H x n rows ∧ TGood n rows ∧ 0 ≤ n ∧ sh = tbSh n rows ∧ (∀ r ∈ rows, ∀ z ∈ r, z.natAbs < 2 ^ B) ∧ 1 ≤ B ∧ B ≤ b ∧ b ≤ 13400
theorem Rep_Tabled.ex {K : PySem.W.Frag} {H H' : Hp} {x : Addr} {n : Int} {sh : List Int → List Rat} {b : Nat} (h : Rep_Tabled K H x n sh b) (e : Ex H H') : Rep_Tabled K H' x n sh b := by
  obtain ⟨rows, B, h1, h2⟩ := h
  exact ⟨rows, B, h1.ex e, h2⟩
theorem TdR.nl {K : PySem.W.Frag} {H H' : Hp} {x : Addr} {n : Int} {rows : List (List Int)} (h : TdR K H x n rows) (e : Nl H H') : TdR K H' x n rows := by
  obtain ⟨dx, tp, ys, h1, h2, h3⟩ := h
  exact ⟨dx, tp, ys, e.get (fun l z => by cases z) h1, e.get (fun l z => by cases z) h2, h3.nl e⟩
theorem Rep_Tabled.nl {K : PySem.W.Frag} {H H' : Hp} {x : Addr} {n : Int} {sh : List Int → List Rat} {b : Nat} (h : Rep_Tabled K H x n sh b) (e : Nl H H') : Rep_Tabled K H' x n sh b := by
  obtain ⟨rows, B, h1, h2⟩ := h
  exact ⟨rows, B, h1.nl e, h2⟩
theorem Rep_Tabled.rb {K : PySem.W.Frag} {H : Hp} {x : Addr} {n : Int} {sh : List Int → List Rat} {b : Nat} (h : Rep_Tabled K H x n sh b) : RB (He.ga K "Tabled") H x n := by
  obtain ⟨rows, B, h1, h2, h3, _⟩ := h
  exact h1.rb h3 h2.1
theorem Rep_Tabled.len {K : PySem.W.Frag} {H : Hp} {x : Addr} {n : Int} {sh : List Int → List Rat} {b : Nat} (h : Rep_Tabled K H x n sh b) (lot : List Int) : (sh lot).length = n.toNat := by
  obtain ⟨rows, B, h1, h2, h3, rfl, _⟩ := h
  unfold tbSh
  rw [shWi_len, tbW_len]
theorem TdR.rep {K : PySem.W.Frag} {H : Hp} {x : Addr} {n : Int} {rows : List (List Int)} {B : Nat} (h : TdR K H x n rows) (hg : TGood n rows) (h0 : 0 ≤ n) (hb : ∀ r ∈ rows, ∀ z ∈ r, z.natAbs < 2 ^ B) (h1 : 1 ≤ B) (h9 : B ≤ 13400) : Rep_Tabled K H x n (tbSh n rows) B := ⟨rows, B, h, hg, h0, rfl, hb, h1, Nat.le_refl _, h9⟩
theorem use_Tabled_shares {H : Hp} {Q : VK} {E : XK} {x l : Addr} {n : Int} {sh : List Int → List Rat} {b : Nat} {lot : List Int} (hx : Rep_Tabled K H x n sh b) (hl : SqT K H l (lot.map V.int)) (hE : ¬ IsLot n lot → ∀ H', Ex H H' → E (.ref (He.ga K "BadLot")) none H')
    (k : IsLot n lot → ∀ p H' xs, Fr H p → Ex H H' → At H' p (.lst xs) → RL (He.ga K "Ratio") H' xs (sh lot) b → Q (.ref p) H') : sp_Tabled_shares K [.ref x, .ref l] H Q E := by
  obtain ⟨rows, B, h1, h2, h3, rfl, h4, h5, h6, h7⟩ := hx
  exact ⟨x, l, n, rows, B, lot, rfl, h1, h2, h3, hl, h4, by omega, h5, hE, fun h p H' xs g1 g2 g3 g4 => k h p H' xs g1 g2 g3 (g4.mono h6 h7)⟩
theorem tbR_row {m : Nat} {i : Nat} {rows : List (List Int)} (hi : i < 2 ^ m) : tbR rows ((lotOf i m).map fun k : Nat => (k : Int)) = rows.getD i [] := by
  unfold tbR
  rw [List.map_map]
  have e : (lotOf i m).map (Int.toNat ∘ fun k : Nat => (k : Int)) = lotOf i m := by
    conv => rhs; rw [← List.map_id (lotOf i m)]
    exact List.map_congr_left fun x _ => rfl
  rw [e, sum2_lotOf, Nat.mod_eq_of_lt hi]
theorem divInt_low {a b g : Int} (hg : 0 < g) (ha : g ∣ a) (hb : g ∣ b) : Rat.divInt (a / g) (b / g) = Rat.divInt a b := by
  obtain ⟨c, rfl⟩ := ha
  obtain ⟨d, rfl⟩ := hb
  rw [Int.mul_ediv_cancel_left _ (by omega), Int.mul_ediv_cancel_left _ (by omega), Rat.divInt_mul_left (by omega)]
/-- for a right row the shares are its counts over its total -/
theorem tbSh_row {m : Nat} {i : Nat} {rows : List (List Int)} (hg : TGood (m : Int) rows) (hi : i < rows.length) : tbSh (m : Int) rows ((lotOf i m).map fun k : Nat => (k : Int)) = ((rows.getD i []).drop 1).map fun z => Rat.divInt z ((rows.getD i []).getD 0 0) := by
  have h2 := hg.2.1
  have hF := hg.2.2 i hi
  rw [Int.toNat_natCast] at h2 hF
  unfold tbSh
  rw [tbR_row (by omega)]
  generalize rows.getD i [] = r at *
  obtain ⟨g0, g1⟩ := gL_row hF (by omega)
  have hl := hF.1
  apply List.ext_getElem
  · rw [shWi_len, tbW_len, List.length_map, List.length_drop]; omega
  · intro t h1 h3
    rw [shWi_len, tbW_len, Int.toNat_natCast] at h1
    rw [← getD_get _ _ 0, shWi_get _ _ _ (by rw [tbW_len]; omega), tbW_get (by omega), List.getElem_map, List.getElem_drop]
    have h4 := hF.2.2.2 t (by omega)
    have e : r[1 + t]'(by omega) = r.getD (t + 1) 0 := by rw [getD_get _ _ _ (show t + 1 < r.length by omega)]; congr 1; omega
    rw [e]
    by_cases hm : (t : Int) ∈ (lotOf i m).map fun k : Nat => (k : Int)
    · rw [if_pos hm, lowR_get, lowR_get]
      exact divInt_low (by omega) (g1 _) (g1 _)
    · rw [if_neg hm]
      have : r.getD (t + 1) 0 = 0 := by
        rcases Int.lt_or_le 0 (r.getD (t + 1) 0) with q | q
        · exact absurd (h4.2 q) hm
        · omega
      rw [this, Rat.zero_divInt]
theorem tbAway {m : Nat} {i : Nat} {rows : List (List Int)} (hg : TGood (m : Int) rows) (hi : i < rows.length) : 1 - (tbSh (m : Int) rows ((lotOf i m).map fun k : Nat => (k : Int))).sum = Rat.divInt ((rows.getD i []).getD 0 0 - ((rows.getD i []).drop 1).sum) ((rows.getD i []).getD 0 0) := by
  have hF := hg.2.2 i hi
  rw [tbSh_row hg hi, sum_divInt _ _ (by have := hF.2.1; omega)]
  have h1 := hF.2.1
  generalize (rows.getD i []).getD 0 0 = d at *
  rw [List.map_id']
  have e : (1 : Rat) = Rat.divInt d d := (Rat.divInt_self' (by omega)).symm
  rw [e, Rat.divInt_sub_divInt _ _ (by omega) (by omega), ← Int.sub_mul, Rat.divInt_mul_right (by omega)]

theorem ok_Ratio___sub__ (T : Tx P K mg) : FnOk P w K mg base (L2.CX P w) 3 (He.ma K (He.ga K "Ratio") "__sub__") (Z.fdOf K (He.ma K (He.ga K "Ratio") "__sub__")) ["self", "other"] (spBin (He.ga K "Ratio") fun q r => q - r) := by
  refine T.F_Ratio___sub__.ok sc_Ratio___sub__ (fun vs H Q E h => ?_) (fun cdv A outer s H vs Q E hr h => ?_)
  · obtain ⟨a, v, q, r, n, m, rfl, _⟩ := h
    rfl
  · obtain ⟨a, v, q, r, n, m, rfl, ha, hv, hnm, k⟩ := h
    have O := T.o_Ratio
    have cl := T.o_Ratio.cl
    have na1 := T.na_Ratio_top
    have na2 := T.na_Ratio_bottom
    obtain ⟨⟨dx, hx⟩, sq, h9⟩ := ha
    have b1 := sq.1
    have b2 := sq.den
    cases hv with
    | @int i _ hi =>
      dsimp only at k
      rw [sub_int] at k
      obtain ⟨ds3_Ratio___init__, vd3_Ratio___init__, bd3_Ratio___init__⟩ := T.b3_Ratio___init__
      have fx0 := T.o_Ratio
      have fx1 := T.o_Rule
      have fx2 := T.o_Tabled
      refine ⟨_, PSs.nox (pss_cons (ps_if (pt_val (pe_callB (Z.call_isi (K := K) rfl) (by rfl) T.n_isinstance (by decide +kernel) (pa_cons (pv 1) (pa_cons (pe_bltn (v := .ty "int") (u := .type "int") (by rfl) T.n_int (by decide +kernel) rfl) pa_nil)))) (pss_one (ps_ret (pe_make T.mk_Ratio (ok_Ratio___init__ T) (hr.mono (by decide)) (by rfl) T.g_Ratio bd3_Ratio___init__ vd3_Ratio___init__ passL (pa_cons (pe_op Z.op_sub (Z.fld (K := K) rfl (pv 0) rfl) (pe_op Z.op_mul (pv 1) (Z.fld (K := K) rfl (pv 0) rfl))) (pa_cons (Z.fld (K := K) rfl (pv 0) rfl) pa_nil))))) pss_nil)
      (pss_cons (ps_if (pt_not (pt_val (pe_callB (Z.call_isi (K := K) rfl) (by rfl) T.n_isinstance (by decide +kernel) (pa_cons (pv 1) (pa_cons (pe_glob (v := .ref (He.ga K "Ratio")) (by rfl) T.g_Ratio rfl) pa_nil))))) (pss_one ps_never) pss_nil)
      (pss_one (ps_ret (pe_make T.mk_Ratio (ok_Ratio___init__ T) (hr.mono (by decide)) (by rfl) T.g_Ratio bd3_Ratio___init__ vd3_Ratio___init__ passL (pa_cons (pe_op Z.op_sub (pe_op Z.op_mul (Z.fld (K := K) rfl (pv 0) rfl) (Z.fld (K := K) rfl (pv 1) rfl)) (pe_op Z.op_mul (Z.fld (K := K) rfl (pv 1) rfl) (Z.fld (K := K) rfl (pv 0) rfl))) (pa_cons (pe_op Z.op_mul (Z.fld (K := K) rfl (pv 0) rfl) (Z.fld (K := K) rfl (pv 1) rfl)) pa_nil))))))), ?_⟩
      try dsimp only [cxOf, Cx.nox, Cx.wish]
      try (show (_ : TS) _ [some _, some _] _)
      walk_at "go"
      refine mkR (n := n + m + 1) (m := n + m + 1) ?_ (bt_mono b2 (by omega)) (by omega) (den0 q) (fun p H' hn he hr => k p H' hn he (by rw [Nat.max_self] at hr; exact hr))
      exact bt_subL b1 (bt_mul hi b2) (by omega) (by omega)
    | @rat b r _ hb =>
      obtain ⟨⟨dy, hy⟩, sr, g9⟩ := hb
      have b3 := sr.1
      have b4 := sr.den
      dsimp only at k
      rw [sub_rat] at k
      obtain ⟨ds3_Ratio___init__, vd3_Ratio___init__, bd3_Ratio___init__⟩ := T.b3_Ratio___init__
      have fx0 := T.o_Ratio
      have fx1 := T.o_Rule
      have fx2 := T.o_Tabled
      refine ⟨_, PSs.nox (pss_cons (ps_if (pt_val (pe_callB (Z.call_isi (K := K) rfl) (by rfl) T.n_isinstance (by decide +kernel) (pa_cons (pv 1) (pa_cons (pe_bltn (v := .ty "int") (u := .type "int") (by rfl) T.n_int (by decide +kernel) rfl) pa_nil)))) (pss_one (ps_ret (pe_make T.mk_Ratio (ok_Ratio___init__ T) (hr.mono (by decide)) (by rfl) T.g_Ratio bd3_Ratio___init__ vd3_Ratio___init__ passL (pa_cons (pe_op Z.op_sub (Z.fld (K := K) rfl (pv 0) rfl) (pe_op Z.op_mul (pv 1) (Z.fld (K := K) rfl (pv 0) rfl))) (pa_cons (Z.fld (K := K) rfl (pv 0) rfl) pa_nil))))) pss_nil)
      (pss_cons (ps_if (pt_not (pt_val (pe_callB (Z.call_isi (K := K) rfl) (by rfl) T.n_isinstance (by decide +kernel) (pa_cons (pv 1) (pa_cons (pe_glob (v := .ref (He.ga K "Ratio")) (by rfl) T.g_Ratio rfl) pa_nil))))) (pss_one ps_never) pss_nil)
      (pss_one (ps_ret (pe_make T.mk_Ratio (ok_Ratio___init__ T) (hr.mono (by decide)) (by rfl) T.g_Ratio bd3_Ratio___init__ vd3_Ratio___init__ passL (pa_cons (pe_op Z.op_sub (pe_op Z.op_mul (Z.fld (K := K) rfl (pv 0) rfl) (Z.fld (K := K) rfl (pv 1) rfl)) (pe_op Z.op_mul (Z.fld (K := K) rfl (pv 1) rfl) (Z.fld (K := K) rfl (pv 0) rfl))) (pa_cons (pe_op Z.op_mul (Z.fld (K := K) rfl (pv 0) rfl) (Z.fld (K := K) rfl (pv 1) rfl)) pa_nil))))))), ?_⟩
      try dsimp only [cxOf, Cx.nox, Cx.wish]
      try (show (_ : TS) _ [some _, some _] _)
      walk_at "go"
      refine mkR (n := n + m + 1) (m := n + m + 1) ?_ (bt_mono (bt_mul b2 b4) (by omega)) (by omega) (Int.mul_ne_zero (den0 q) (den0 r)) (fun p H' hn he hr => k p H' hn he (by rw [Nat.max_self] at hr; exact hr))
      exact bt_subL (bt_mul b1 b4) (bt_mul b3 b2) (by omega) (by omega)

def sp_Tabled_away (K : PySem.W.Frag) : Sp := fun vs H Q E => ∃ (x l : Addr) (n : Int) (sh : List Int → List Rat) (b : Nat) (lot : List Int), vs = [.ref x, .ref l] ∧ Rep_Tabled K H x n sh b ∧ SqT K H l (lot.map V.int) ∧ n.toNat * (b + 1) + 66 ≤ 13400 ∧
  (¬ IsLot n lot → ∀ H', Ex H H' → E (.ref (He.ga K "BadLot")) none H') ∧ (IsLot n lot → ∀ p H', Fr H p → Ex H H' → RN (He.ga K "Ratio") H' p (1 - (sh lot).sum) (n.toNat * (b + 1) + 65) → Q (.ref p) H')
theorem ok_Tabled_away (T : Tx P K mg) : FnOk P w K mg base (L2.CX P w) 5 (He.ma K (He.ga K "Rule") "away") (Z.fdOf K (He.ma K (He.ga K "Rule") "away")) ["self", "lot"] (sp_Tabled_away K) := by
  refine T.F_Rule_away.ok sc_Rule_away (fun vs H Q E h => ?_) (fun cdv A outer s H vs Q E hr h => ?_)
  · obtain ⟨x, l, n, sh, b, lot, rfl, _⟩ := h
    rfl
  · obtain ⟨x, l, n, sh, b, lot, rfl, hx, hl, hb, hE, k⟩ := h
    have hrb := hx.rb
    have hlen := hx.len lot
    obtain ⟨_, _, _, _, _, hn0, hn1⟩ := id hrb
    obtain ⟨ds2_Ratio___init__, vd2_Ratio___init__, bd2_Ratio___init__⟩ := T.b2_Ratio___init__
    refine ⟨_, (pss_cons (ps_set (i := 2) sc_Rule_away.nd rfl (Or.inl rfl) (Z.pe_makeZ T.mk_Ratio (ok_Ratio___init__ T) (hr.mono (by decide)) (by rfl) T.g_Ratio bd2_Ratio___init__ vd2_Ratio___init__ (fun σ => passAt (takes_of rfl rfl rfl rfl) σ) (pa_cons pe_int pa_nil)))
      (pss_cons (ps_for (passes_of rfl) rfl (Z.piL (K := K) rfl (Z.pe_methZ (pv 0) T.o_Tabled.cl T.me_Tabled_shares (ok_Tabled_shares T) (hr.mono (by decide)) T.b_Tabled_shares .nil (fun σ => passAt (takes_of rfl rfl rfl rfl) σ) (pa_cons (pv 1) pa_nil))) (pg_name (i := 3) sc_Rule_away.nd rfl (by first | exact Or.inl rfl | exact Or.inr rfl)) (pss_one (ps_set (i := 2) sc_Rule_away.nd rfl (Or.inl rfl) (Z.pe_opS (Z.opS_OO T.o_Ratio T.me_Ratio___sub__.at_ T.me_Ratio___sub__.fn (Z.rawOk (ok_Ratio___sub__ T) T.b_Ratio___sub__) (hr.mono (by decide)) (fun σ => passAt (takes_of rfl rfl rfl rfl) σ)) (pv 2) (pv 3)))))
      (pss_one (ps_ret (pv 2))))), ?_⟩
    try dsimp only [cxOf, Cx.nox, Cx.wish]
    try (show (_ : TS) _ [some _, some _, none, none] _)
    walk_at "go"
    rename_i p0 H0 hp0 he0 hr0
    refine use_Tabled_shares (hx.ex he0) (he0.t hl) (fun h H' e => hE h H' (he0.trans e)) fun hlot p1 H1 xs hp1 he1 hat hxs => ?_
    walk_at "go"
    rename_i J S
    have hxl : xs.length = n.toNat := by rw [hxs.1, hlen]
    refine Z.fg S (fun i σ G => ∃ (a : Addr) (v3 : Option V), σ = [some (.ref x), some (.ref l), some (.ref a), v3] ∧ Ex H1 G ∧ Fr H a ∧ RN (He.ga K "Ratio") G a (1 - ((sh lot).take i).sum) (65 + i * (b + 1)))
      ⟨p0, none, rfl, Ex.refl _, hp0, (hr0.ex he1).eq (by simp; grind) (by omega) (by omega)⟩ (fun i σ' G _ ⟨_, _, _, e, _⟩ => e.l (sq_of hat)) ?_ ?_
    · rintro i y σ' G G2 hi ⟨a, v3, rfl, eG, ha, hra⟩ e2 hy
      obtain ⟨c, hc, hrc⟩ := hxs.2 i (by rw [← hxs.1]; exact hi)
      rw [hc] at hy
      cases hy
      have hi2 : i * (b + 1) + (b + 1) ≤ n.toNat * (b + 1) := by
        have := Nat.mul_le_mul_right (b + 1) (show i + 1 ≤ n.toNat by omega)
        rw [Nat.add_mul, Nat.one_mul] at this
        exact this
      have hrc2 := (hrc.ex eG).ex e2
      have hra2 := hra.ex e2
      walk_at "go"
      rename_i p3 H3 hn3 he3 hr3
      refine ⟨p3, _, rfl, (eG.trans e2).trans he3, ?_, hr3.eq ?_ ?_ ?_⟩
      · exact he0.back (he1.back ((eG.trans e2).back hn3))
      · rw [sum_take (by rw [hlen]; omega)]
        grind
      · rw [Nat.add_mul, Nat.one_mul]; omega
      · rw [Nat.add_mul, Nat.one_mul]; omega
    · rintro σ' G ⟨a, v3, rfl, eG, ha, hra⟩
      rw [hxl, List.take_of_length_le (by rw [hlen]; exact Nat.le_refl _)] at hra
      walk_at "go"
      exact k hlot a G ha ((he0.trans he1).trans eG) (hra.eq rfl (by omega) (by omega))

/-- what a rule tells of a lot: each thing's share, the share that goes away -/
def shA (sh : List Int → List Rat) (lot : List Int) : List Rat := sh lot ++ [1 - (sh lot).sum]
/-- the rows that are told -/
def ToR (K : PySem.W.Frag) (H : Hp) (acc : List V) (sh : List Int → List Rat) (m B k : Nat) : Prop := acc.length = k ∧ ∀ i, i < k → ∃ a l q xs, acc[i]? = some (.ref a) ∧ At H a (.tup [.ref l, .ref q]) ∧ At H l (.tup ((lotI i m).map V.int)) ∧ At H q (.lst xs) ∧ RL (He.ga K "Ratio") H xs (shA sh (lotI i m)) B
theorem ToR.ex {K : PySem.W.Frag} {H H' : Hp} {acc : List V} {sh : List Int → List Rat} {m B k : Nat} (h : ToR K H acc sh m B k) (e : Ex H H') : ToR K H' acc sh m B k := ⟨h.1, fun i hi => by
  obtain ⟨a, l, q, xs, h1, h2, h3, h4, h5⟩ := h.2 i hi
  exact ⟨a, l, q, xs, h1, e.get h2, e.get h3, e.get h4, h5.ex e⟩⟩
theorem lotI_nats (i m : Nat) : (lotI i m).map V.int = nats (lotOf i m) := by
  unfold lotI nats
  rw [List.map_map]
  try rfl
theorem elxTo {K : PySem.W.Frag} {H H' H4 : Hp} {Dl a l q : Addr} {acc xs : List V} {sh : List Int → List Rat} {m B i : Nat} (c : CD H Dl acc H') (hl : acc.length = i) (hz : acc.length < sizeLine) (e : Ex H' H4) (hP : ToR K H' acc sh m B i) (ha : At H4 a (.tup [.ref l, .ref q])) (h2 : At H4 l (.tup ((lotI i m).map V.int))) (h3 : At H4 q (.lst xs)) (h4 : RL (He.ga K "Ratio") H4 xs (shA sh (lotI i m)) B) (fq : Fr H' q) : ElX H Dl i (fun i acc G => ToR K G acc sh m B i) (.ref a) H4 := by
  have hD := e.get c.at_
  have hP4 := hP.ex e
  have hn : Nl H4 (upd H4 Dl (HO.lst (acc ++ [V.ref a]))) := Nl.upd hD
  have up : ∀ b o, b ≠ Dl → At H4 b o → At (upd H4 Dl (HO.lst (acc ++ [V.ref a]))) b o := fun b o hb h => by unfold At; rw [upd_ne hb]; exact h
  refine ⟨acc, hD, hz, acc ++ [V.ref a], ⟨c.new, Ex.mut (c.ex.trans e) c.new, (upd_same : At (upd H4 Dl (HO.lst (acc ++ [V.ref a]))) Dl (HO.lst (acc ++ [V.ref a])))⟩, by simp [hl], by simp [hl], fun j hj => ?_⟩
  by_cases cj : j = i
  · subst cj
    exact ⟨a, l, q, xs, by rw [← hl]; simp, hn.get (fun l z => by cases z) ha, hn.get (fun l z => by cases z) h2, up q _ (fun z => by subst z; have := fq.symm.trans c.at_; cases this) h3, h4.nl hn⟩
  · obtain ⟨a2, l2, q2, xs2, g1, g2, g3, g4, g5⟩ := hP4.2 j (by omega)
    refine ⟨a2, l2, q2, xs2, by rw [List.getElem?_append_left (by omega)]; exact g1, hn.get (fun l z => by cases z) g2, hn.get (fun l z => by cases z) g3, up q2 _ (fun z => ?_) g4, g5.nl hn⟩
    subst z
    have e1 := HO.lst.inj (Option.some.inj (g4.symm.trans hD))
    obtain ⟨a0, l0, q0, xs0, k1, k2, _⟩ := hP4.2 0 (by omega)
    have hlen : 0 < (shA sh (lotI j m)).length := by unfold shA; simp
    obtain ⟨s, s1, s2⟩ := g5.2 0 hlen
    rw [e1, k1] at s1
    cases s1
    obtain ⟨dx, s3⟩ := s2.at_
    have := s3.symm.trans k2
    cases this
def sp_told_rows (K : PySem.W.Frag) : Sp := fun vs H Q _ => ∃ (x : Addr) (m : Nat) (sh : List Int → List Rat) (b : Nat), vs = [.ref x] ∧ Rep_Tabled K H x (m : Int) sh b ∧ m ≤ 6 ∧ b ≤ 13400 ∧ m * (b + 66) + 66 ≤ 13400 ∧ (∀ i, i < 2 ^ m → Sz (1 - (sh (lotI i m)).sum) b) ∧ ∀ p H' acc, Fr H p → Ex H H' → At H' p (.lst acc) → ToR K H' acc sh m b (2 ^ m) → Q (.ref p) H'
theorem ok_told_rows (T : Tx P K mg) : FnOk P w K mg base (L2.CX P w) 6 (He.ga K "told_rows") (Z.fdOf K (He.ga K "told_rows")) ["table"] (sp_told_rows K) := by
  refine T.F_told_rows.ok sc_told_rows (fun vs H Q E h => ?_) (fun cdv A outer s H vs Q E hr h => ?_)
  · obtain ⟨x, m, sh, b, rfl, _⟩ := h
    rfl
  · obtain ⟨x, m, sh, b, rfl, hx, hm, hb0, hb, hsz, k⟩ := h
    have hrb := hx.rb
    obtain ⟨dx, fs, h1, h2, h3, hn0, hn1⟩ := id hrb
    have fx0 := T.o_Tabled.cl
    have fx1 := T.na_Tabled_many
    refine ⟨_, PSs.nox (pss_one (ps_ret (Z.pe_lcG (own := [("lot", 1)]) rfl sc_told_rows.nd (hr.mono (by decide)) (Z.pga_call (ok_lots T) (hr.mono (by decide)) (by rfl) T.g_lots T.F_lots.kp T.b_lots .nil (pa_cons (Z.fld (K := K) rfl (pv 0) rfl) pa_nil)) (blkOk_by (N := ["table", "lot"]) (sc := defScope s_told_rows) (by decide +kernel)) (fun _ _ _ _ _ => (pg_name (i := 1) sc_told_rows.nd rfl (by first | exact Or.inl rfl | exact Or.inr rfl))) (fun _ _ _ _ _ => (pe_tup (pa_cons (pv 1) (pa_cons (pe_op Z.op_add (pe_meth (pv 0) T.o_Tabled.cl T.me_Tabled_shares (ok_Tabled_shares T) (hr.mono (by decide)) T.b_Tabled_shares .nil passL (pa_cons (pv 1) pa_nil)) (pe_lst (pa_cons (pe_meth (pv 0) T.o_Tabled.cl T.me_Tabled_away (ok_Tabled_away T) (hr.mono (by decide)) T.b_Rule_away .nil passL (pa_cons (pv 1) pa_nil)) pa_nil))) pa_nil))))))), ?_⟩
    try dsimp only [cxOf, Cx.nox, Cx.wish]
    try (show (_ : TS) _ [some _, none] _)
    walk_at "go"
    clear hr
    have hpw : (2 ^ m : Nat) ≤ 2 ^ 6 := Nat.pow_le_pow_right (by decide) (by omega)
    refine ⟨_, ⟨m, rfl, by omega, rfl⟩, ?_⟩
    refine Z.cgXG (fun i acc G => ToR K G acc sh m b i) (fun _ _ => trivial) (fun B _ => ⟨m, rfl, by omega, rfl⟩) (fun i y A C φ hC ⟨a, h1, h2⟩ => ⟨a, h1, ?_⟩) (fun G _ => ⟨rfl, fun i hi => absurd hi (Nat.not_lt_zero _)⟩) (fun i acc G1 G2 h e => h.ex e) (fun Dl i y G acc hi ec cd hal hP hy => ?_) (fun p3 H3 acc hn3 he3 hp3 hl3 hP3 => ?_)
    · show era A C a = _
      rw [era_ne (fun z => by subst z; cases hC.symm.trans h2)]
      exact h2
    · obtain ⟨l, rfl, hl⟩ := hy
      have hi2 : i < 2 ^ m := hi
      have hxG := hx.ex ec
      have hrbG := hxG.rb
      have hlen := hx.len (lotI i m)
      have hl' : At G l (.tup ((lotI i m).map V.int)) := by rw [lotI_nats]; exact hl
      have hab : (m : Int).toNat * (b + 1) + 66 ≤ 13400 := by
        rw [Int.toNat_natCast]
        have := Nat.mul_le_mul_left m (show b + 1 ≤ b + 66 by omega)
        omega
      walk_at "go"
      refine use_Tabled_shares hxG (st_of hl') (fun h => absurd (lotI_isLot i m) h) fun _ q1 H4 xs hn4 he4 hq hR => ?_
      have hx4 := hxG.ex he4
      have hrb4 := hx4.rb
      clear hrbG
      walk_at "go"
      refine ⟨x, l, _, sh, b, lotI i m, rfl, hx4, he4.t (st_of hl'), hab, fun h => absurd (lotI_isLot i m) h, fun _ w H5 hn5 he5 hw => ?_⟩
      have hq5 := he5.get hq
      have hR5 := hR.ex he5
      have hl5 := (he4.trans he5).get hl'
      have hwb : RN (He.ga K "Ratio") H5 w (1 - (sh (lotI i m)).sum) b := ⟨hw.at_, hsz i hi2, hb0⟩
      have hxl := hR5.1
      clear hq hR hrb4
      walk_at "go"
      rename_i p6 H6 hn6 he6 hp6 p7 H7 hn7 he7 hp7 p8 H8 hn8 he8 hp8
      have e47 := (he4.trans he5).trans (he6.trans he7)
      exact elxTo cd hal (by rw [hal]; show i < 16777216; omega) (e47.trans he8) hP hp8 (((he6.trans he7).trans he8).get hl5) (he8.get hp7) (((hR5.ex (he6.trans he7)).ex he8).snoc (((hwb.ex he6).ex he7).ex he8)) (((he4.trans he5).trans he6).back hn7)
    · exact k p3 H3 acc hn3 he3 hp3 hP3

theorem ok_Ratio___add__ (T : Tx P K mg) : FnOk P w K mg base (L2.CX P w) 3 (He.ma K (He.ga K "Ratio") "__add__") (Z.fdOf K (He.ma K (He.ga K "Ratio") "__add__")) ["self", "other"] (spBin (He.ga K "Ratio") fun q r => q + r) := by
  refine T.F_Ratio___add__.ok sc_Ratio___add__ (fun vs H Q E h => ?_) (fun cdv A outer s H vs Q E hr h => ?_)
  · obtain ⟨a, v, q, r, n, m, rfl, _⟩ := h
    rfl
  · obtain ⟨a, v, q, r, n, m, rfl, ha, hv, hnm, k⟩ := h
    have O := T.o_Ratio
    have cl := T.o_Ratio.cl
    have na1 := T.na_Ratio_top
    have na2 := T.na_Ratio_bottom
    obtain ⟨⟨dx, hx⟩, sq, h9⟩ := ha
    have b1 := sq.1
    have b2 := sq.den
    cases hv with
    | @int i _ hi =>
      dsimp only at k
      rw [add_int] at k
      obtain ⟨ds3_Ratio___init__, vd3_Ratio___init__, bd3_Ratio___init__⟩ := T.b3_Ratio___init__
      have fx0 := T.o_Ratio
      have fx1 := T.o_Rule
      have fx2 := T.o_Tabled
      refine ⟨_, PSs.nox (pss_cons (ps_if (pt_val (pe_callB (Z.call_isi (K := K) rfl) (by rfl) T.n_isinstance (by decide +kernel) (pa_cons (pv 1) (pa_cons (pe_bltn (v := .ty "int") (u := .type "int") (by rfl) T.n_int (by decide +kernel) rfl) pa_nil)))) (pss_one (ps_ret (pe_make T.mk_Ratio (ok_Ratio___init__ T) (hr.mono (by decide)) (by rfl) T.g_Ratio bd3_Ratio___init__ vd3_Ratio___init__ passL (pa_cons (pe_op Z.op_add (Z.fld (K := K) rfl (pv 0) rfl) (pe_op Z.op_mul (pv 1) (Z.fld (K := K) rfl (pv 0) rfl))) (pa_cons (Z.fld (K := K) rfl (pv 0) rfl) pa_nil))))) pss_nil)
      (pss_cons (ps_if (pt_not (pt_val (pe_callB (Z.call_isi (K := K) rfl) (by rfl) T.n_isinstance (by decide +kernel) (pa_cons (pv 1) (pa_cons (pe_glob (v := .ref (He.ga K "Ratio")) (by rfl) T.g_Ratio rfl) pa_nil))))) (pss_one ps_never) pss_nil)
      (pss_one (ps_ret (pe_make T.mk_Ratio (ok_Ratio___init__ T) (hr.mono (by decide)) (by rfl) T.g_Ratio bd3_Ratio___init__ vd3_Ratio___init__ passL (pa_cons (pe_op Z.op_add (pe_op Z.op_mul (Z.fld (K := K) rfl (pv 0) rfl) (Z.fld (K := K) rfl (pv 1) rfl)) (pe_op Z.op_mul (Z.fld (K := K) rfl (pv 1) rfl) (Z.fld (K := K) rfl (pv 0) rfl))) (pa_cons (pe_op Z.op_mul (Z.fld (K := K) rfl (pv 0) rfl) (Z.fld (K := K) rfl (pv 1) rfl)) pa_nil))))))), ?_⟩
      try dsimp only [cxOf, Cx.nox, Cx.wish]
      try (show (_ : TS) _ [some _, some _] _)
      walk_at "go"
      refine mkR (n := n + m + 1) (m := n + m + 1) ?_ (bt_mono b2 (by omega)) (by omega) (den0 q) (fun p H' hn he hr => k p H' hn he (by rw [Nat.max_self] at hr; exact hr))
      exact bt_addL b1 (bt_mul hi b2) (by omega) (by omega)
    | @rat b r _ hb =>
      obtain ⟨⟨dy, hy⟩, sr, g9⟩ := hb
      have b3 := sr.1
      have b4 := sr.den
      dsimp only at k
      rw [add_rat] at k
      obtain ⟨ds3_Ratio___init__, vd3_Ratio___init__, bd3_Ratio___init__⟩ := T.b3_Ratio___init__
      have fx0 := T.o_Ratio
      have fx1 := T.o_Rule
      have fx2 := T.o_Tabled
      refine ⟨_, PSs.nox (pss_cons (ps_if (pt_val (pe_callB (Z.call_isi (K := K) rfl) (by rfl) T.n_isinstance (by decide +kernel) (pa_cons (pv 1) (pa_cons (pe_bltn (v := .ty "int") (u := .type "int") (by rfl) T.n_int (by decide +kernel) rfl) pa_nil)))) (pss_one (ps_ret (pe_make T.mk_Ratio (ok_Ratio___init__ T) (hr.mono (by decide)) (by rfl) T.g_Ratio bd3_Ratio___init__ vd3_Ratio___init__ passL (pa_cons (pe_op Z.op_add (Z.fld (K := K) rfl (pv 0) rfl) (pe_op Z.op_mul (pv 1) (Z.fld (K := K) rfl (pv 0) rfl))) (pa_cons (Z.fld (K := K) rfl (pv 0) rfl) pa_nil))))) pss_nil)
      (pss_cons (ps_if (pt_not (pt_val (pe_callB (Z.call_isi (K := K) rfl) (by rfl) T.n_isinstance (by decide +kernel) (pa_cons (pv 1) (pa_cons (pe_glob (v := .ref (He.ga K "Ratio")) (by rfl) T.g_Ratio rfl) pa_nil))))) (pss_one ps_never) pss_nil)
      (pss_one (ps_ret (pe_make T.mk_Ratio (ok_Ratio___init__ T) (hr.mono (by decide)) (by rfl) T.g_Ratio bd3_Ratio___init__ vd3_Ratio___init__ passL (pa_cons (pe_op Z.op_add (pe_op Z.op_mul (Z.fld (K := K) rfl (pv 0) rfl) (Z.fld (K := K) rfl (pv 1) rfl)) (pe_op Z.op_mul (Z.fld (K := K) rfl (pv 1) rfl) (Z.fld (K := K) rfl (pv 0) rfl))) (pa_cons (pe_op Z.op_mul (Z.fld (K := K) rfl (pv 0) rfl) (Z.fld (K := K) rfl (pv 1) rfl)) pa_nil))))))), ?_⟩
      try dsimp only [cxOf, Cx.nox, Cx.wish]
      try (show (_ : TS) _ [some _, some _] _)
      walk_at "go"
      refine mkR (n := n + m + 1) (m := n + m + 1) ?_ (bt_mono (bt_mul b2 b4) (by omega)) (by omega) (Int.mul_ne_zero (den0 q) (den0 r)) (fun p H' hn he hr => k p H' hn he (by rw [Nat.max_self] at hr; exact hr))
      exact bt_addL (bt_mul b1 b4) (bt_mul b3 b2) (by omega) (by omega)

theorem neg_rat (q : Rat) : -q = Rat.divInt (-q.num) q.den := by
  conv => lhs; rw [rat_eq q]
  rw [Rat.neg_divInt]
theorem ok_Ratio___neg__ (T : Tx P K mg) : FnOk P w K mg base (L2.CX P w) 3 (He.ma K (He.ga K "Ratio") "__neg__") (Z.fdOf K (He.ma K (He.ga K "Ratio") "__neg__")) ["self"] (spUn (He.ga K "Ratio") fun q => -q) := by
  refine T.F_Ratio___neg__.ok sc_Ratio___neg__ (fun vs H Q E h => ?_) (fun cdv A outer s H vs Q E hr h => ?_)
  · obtain ⟨a, q, n, rfl, _⟩ := h
    rfl
  · obtain ⟨a, q, n, rfl, ha, k⟩ := h
    have O := T.o_Ratio
    have cl := T.o_Ratio.cl
    have na1 := T.na_Ratio_top
    have na2 := T.na_Ratio_bottom
    obtain ⟨⟨dx, hx⟩, sq, h9⟩ := ha
    have b1 := sq.1
    have b2 := sq.den
    dsimp only at k
    rw [neg_rat] at k
    obtain ⟨ds3_Ratio___init__, vd3_Ratio___init__, bd3_Ratio___init__⟩ := T.b3_Ratio___init__
    refine ⟨_, PSs.nox (pss_one (ps_ret (pe_make T.mk_Ratio (ok_Ratio___init__ T) (hr.mono (by decide)) (by rfl) T.g_Ratio bd3_Ratio___init__ vd3_Ratio___init__ passL (pa_cons (pe_un Z.un_neg (Z.fld (K := K) rfl (pv 0) rfl)) (pa_cons (Z.fld (K := K) rfl (pv 0) rfl) pa_nil))))), ?_⟩
    try dsimp only [cxOf, Cx.nox, Cx.wish]
    try (show (_ : TS) _ [some _] _)
    walk_at "go"
    exact mkR (n := n) (m := n) (bt_neg b1) b2 (by omega) (den0 q) (fun p H' hn he hr => k p H' hn he (by rw [Nat.max_self] at hr; exact hr))

/-- the share of one row, with its sign -/
def altX (sh : List Int → List Rat) (m : Nat) (lot : List Int) (pl i : Nat) : Rat := if (((lotI i m).length : Int) - (lot.length : Int)) % 2 = 1 then - (shA sh (lotI i m)).getD pl 0 else (shA sh (lotI i m)).getD pl 0
def altQ (sh : List Int → List Rat) (m : Nat) (lot : List Int) (pl i : Nat) : Rat := if ∀ t ∈ lot, t ∈ lotI i m then altX sh m lot pl i else 0
/-- .. of the first rows -/
def altS (sh : List Int → List Rat) (m : Nat) (lot : List Int) (pl : Nat) : Nat → Rat
  | 0 => 0
  | n + 1 => altS sh m lot pl n + altQ sh m lot pl n
theorem tb_test (i t : Nat) : tb i t = i.testBit t := by
  rw [Nat.testBit_eq_decide_div_mod_eq]
  unfold tb
  by_cases h : i / 2 ^ t % 2 = 1 <;> simp [h]
theorem sub_bits {m i base : Nat} {lot : List Int} (h : IsLot (m : Int) lot) (hb : ∀ t : Nat, t < m → ((t : Int) ∈ lot ↔ base.testBit t = true)) (hb2 : base < 2 ^ m) (hi : i < 2 ^ m) : Builtin.bitAnd (i : Int) (base : Int) = (base : Int) ↔ ∀ t ∈ lot, t ∈ lotI i m := by
  have e : Builtin.bitAnd (i : Int) (base : Int) = ((i &&& base : Nat) : Int) := by
    unfold Builtin.bitAnd
    rw [decide_eq_true (show (0 : Int) ≤ (i : Int) by omega), decide_eq_true (show (0 : Int) ≤ (base : Int) by omega)]
    rfl
  have hmem : ∀ t : Nat, ((t : Int) ∈ lotI i m ↔ t < m ∧ i.testBit t = true) := fun t => by
    unfold lotI lotOf
    rw [List.mem_map]
    constructor
    · rintro ⟨u, hu, hut⟩
      have : u = t := by omega
      subst this
      rw [List.mem_filter, List.mem_range, tb_test] at hu
      exact hu
    · rintro ⟨h1, h2⟩
      exact ⟨t, by rw [List.mem_filter, List.mem_range, tb_test]; exact ⟨h1, h2⟩, rfl⟩
  rw [e]
  constructor
  · intro h1 t ht
    have hr := h.2 t ht
    obtain ⟨u, rfl⟩ := Int.eq_ofNat_of_zero_le hr.1
    have hu : u < m := by omega
    have h2 := (hb u hu).mp ht
    have h3 : i &&& base = base := by exact_mod_cast h1
    rw [← h3, Nat.testBit_and, Bool.and_eq_true] at h2
    exact (hmem u).mpr ⟨hu, h2.1⟩
  · intro h1
    have h3 : i &&& base = base := by
      apply Nat.eq_of_testBit_eq
      intro t
      rw [Nat.testBit_and]
      by_cases c : base.testBit t = true
      · have ht : t < m := by
          refine Nat.lt_of_not_le fun z => ?_
          have := Nat.testBit_lt_two_pow (Nat.lt_of_lt_of_le hb2 (Nat.pow_le_pow_right (by decide) z))
          rw [this] at c
          cases c
        have h4 := h1 _ ((hb t ht).mpr c)
        rw [((hmem t).mp h4).2, c]; rfl
      · rw [Bool.not_eq_true] at c
        rw [c, Bool.and_false]
    rw [h3]
inductive Pl (m : Nat) : V → Nat → Prop
  | non : Pl m .non m
  | int (t : Nat) (h : t < m) : Pl m (.int (t : Int)) t
def sp_sum_over (K : PySem.W.Frag) : Sp := fun vs H Q _ => ∃ (p l : Addr) (acc : List V) (sh : List Int → List Rat) (m B : Nat) (lot : List Int) (tv : V) (pl : Nat), vs = [.ref p, .ref l, tv] ∧ Pl m tv pl ∧ SqL K H p acc ∧ ToR K H acc sh m B (2 ^ m) ∧ m ≤ 6 ∧ SqT K H l (lot.map V.int) ∧ IsLot (m : Int) lot ∧ (∀ i, i < 2 ^ m → (sh (lotI i m)).length = m) ∧ 2 ^ m * (B + 1) + 66 ≤ 13000 ∧
  ∀ z H', Fr H z → Ex H H' → RN (He.ga K "Ratio") H' z (altS sh m lot pl (2 ^ m)) (2 ^ m * (B + 1) + 66) → Q (.ref z) H'
theorem ok_sum_over (T : Tx P K mg) : FnOk P w K mg base (L2.CX P w) 4 (He.ga K "sum_over") (Z.fdOf K (He.ga K "sum_over")) ["rows", "lot", "thing"] (sp_sum_over K) := by
  refine T.F_sum_over.ok sc_sum_over (fun vs H Q E h => ?_) (fun cdv A outer s H vs Q E hr h => ?_)
  · obtain ⟨p, l, acc, sh, m, B, lot, tv, pl, rfl, _⟩ := h
    rfl
  · obtain ⟨p, l, acc, sh, m, B, lot, tv, pl, rfl, hpl, hp, hR, hm, hl, hlot, hlen, hsz, k⟩ := h
    have hal := hR.1
    have hpw : (2 ^ m : Nat) ≤ 2 ^ 6 := Nat.pow_le_pow_right (by decide) (by omega)
    have hll := hlot.len
    obtain ⟨ds2_Ratio___init__, vd2_Ratio___init__, bd2_Ratio___init__⟩ := T.b2_Ratio___init__
    refine ⟨_, PSs.nox (pss_cons (ps_set (i := 3) sc_sum_over.nd rfl (Or.inl rfl) (pe_call (ok_lot_number T) (hr.mono (by decide)) (by rfl) T.g_lot_number T.F_lot_number.kp T.b_lot_number .nil passL (pa_cons (pv 1) pa_nil)))
      (C8.pss_cut (ps_set (i := 4) sc_sum_over.nd rfl (Or.inl rfl) (pe_ifExp (pt_cmp (pc_isN (pv 2))) (pe_un Z.un_neg pe_int) (pv 2)))
      (pss_cons (ps_set (i := 5) sc_sum_over.nd rfl (Or.inl rfl) (pe_make T.mk_Ratio (ok_Ratio___init__ T) (hr.mono (by decide)) (by rfl) T.g_Ratio bd2_Ratio___init__ vd2_Ratio___init__ passL (pa_cons pe_int pa_nil)))
      (pss_cons (ps_for PassesOwn.never rfl (pi_enum (by rfl) T.n_enumerate (pa_cons (pv 0) pa_nil)) (pg_tup (by rfl) (pgs_cons (pg_name (i := 6) sc_sum_over.nd rfl (by first | exact Or.inl rfl | exact Or.inr rfl)) (pgs_cons (pg_tup (by rfl) (pgs_cons (pg_name (i := 7) sc_sum_over.nd rfl (by first | exact Or.inl rfl | exact Or.inr rfl)) (pgs_cons (pg_name (i := 8) sc_sum_over.nd rfl (by first | exact Or.inl rfl | exact Or.inr rfl)) pgs_nil))) pgs_nil))) (pss_one (ps_if (pt_cmpR (Z.op_eq (K := K) rfl hr.units) (pe_op op_and (pv 6) (pv 3)) (pv 3) (nomark _)) (pss_cons (ps_set (i := 9) sc_sum_over.nd rfl (Or.inl rfl) (pe_ix (Z.ix (K := K) rfl) (pv 8) (pv 4) (fun _ _ => rfl)))
      (C8.pss_cut (ps_if (pt_cmpR (Z.op_eq (K := K) rfl hr.units) (pe_op Z.op_mod (pe_op Z.op_sub (pe_callB (Z.call_len (K := K) rfl) (by rfl) T.n_len (by decide +kernel) (pa_cons (pv 7) pa_nil)) (pe_callB (Z.call_len (K := K) rfl) (by rfl) T.n_len (by decide +kernel) (pa_cons (pv 1) pa_nil))) pe_int) pe_int (nomark _)) (pss_one (ps_set (i := 9) sc_sum_over.nd rfl (Or.inl rfl) (pe_un (Z.un_O T.me_Ratio___neg__.at_ T.me_Ratio___neg__.fn (Z.rawOk (ok_Ratio___neg__ T) T.b_Ratio___neg__) (hr.mono (by decide)) passL) (pv 9)))) pss_nil)
      (pss_one (ps_set (i := 5) sc_sum_over.nd rfl (Or.inl rfl) (pe_op (Z.op_OO T.o_Ratio T.me_Ratio___add__.at_ T.me_Ratio___add__.fn (Z.rawOk (ok_Ratio___add__ T) T.b_Ratio___add__) (hr.mono (by decide)) passL) (pv 5) (pv 9)))))) pss_nil)))
      (pss_one (ps_ret (pv 5))))))), ?_⟩
    try dsimp only [cxOf, Cx.nox, Cx.wish]
    try (show (_ : TS) _ [some _, some _, some _, none, none, none, none, none, none, none] _)
    walk_at "go"
    clear hr
    have hlz : SqT K H l (nats (lot.map Int.toNat)) := by rw [nats_lot (fun t ht => (hlot.2 t ht).1)]; exact hl
    refine ⟨l, _, rfl, hlz, by rw [List.length_map]; omega, fun x hx => ?_, fun H1 e1 => ?_⟩
    · obtain ⟨t, ht, rfl⟩ := List.mem_map.mp hx
      have := hlot.2 t ht
      omega
    have hbb : sum2 (lot.map Int.toNat) < 2 ^ m ∧ ∀ t : Nat, t < m → ((t : Int) ∈ lot ↔ (sum2 (lot.map Int.toNat)).testBit t = true) := by
      have h2 := hlot.2
      obtain ⟨g1, g2⟩ := lotOf_sum2 m (lot.map Int.toNat) (by
        rw [List.pairwise_map]
        refine hlot.1.imp_of_mem fun {a b} ha hb hab => ?_
        have := h2 a ha
        have := h2 b hb
        omega) (fun t ht => by
        obtain ⟨x, hx, rfl⟩ := List.mem_map.mp ht
        have := h2 x hx
        omega)
      refine ⟨g1, fun t ht => ?_⟩
      have h3 : (t : Int) ∈ lot ↔ t ∈ lot.map Int.toNat := by
        rw [List.mem_map]
        constructor
        · exact fun h => ⟨(t : Int), h, rfl⟩
        · rintro ⟨x, hx, e⟩
          have := h2 x hx
          have : (t : Int) = x := by omega
          rw [this]; exact hx
      rw [h3]
      conv => lhs; rw [← g2]
      unfold lotOf
      rw [List.mem_filter, List.mem_range, tb_test]
      exact ⟨fun h => h.2, fun h => ⟨ht, h⟩⟩
    generalize hbase : sum2 (lot.map Int.toNat) = base at *
    have hp1 := e1.l hp
    have hR1 := hR.ex e1
    have hl1 := e1.t hl
    clear hlz hp hR hl
    walk_at "go"
    refine Z.w_cutI 4 (fun z => z = -1 ∧ pl = m ∨ z = (pl : Int) ∧ pl < m) ?_ (fun place hplace => ?_)
    · cases hpl with
      | non =>
        walk_at "go"
        exact ⟨rfl, -1, .inl ⟨rfl, rfl⟩, rfl⟩
      | int _ h =>
        walk_at "go"
        exact ⟨rfl, _, .inr ⟨rfl, h⟩, rfl⟩
    simp only [List.set_cons_zero, List.set_cons_succ]
    walk_at "go"
    rename_i pz H2 hnz hez hrz J S
    refine Z.fg S (fun i σ G => ∃ (a : Addr) (v6 v7 v8 v9 : Option V), σ = [some (.ref p), some (.ref l), some tv, some (.int (base : Int)), some (.int place), some (.ref a), v6, v7, v8, v9] ∧ Ex H2 G ∧ Fr H1 a ∧ RN (He.ga K "Ratio") G a (altS sh m lot pl i) (i * (B + 1) + 66)) ⟨pz, none, none, none, none, rfl, Ex.refl _, hnz, hrz.eq rfl (by omega) (by omega)⟩ (fun i σ' G _ ⟨_, _, _, _, _, _, e, _⟩ => e.l (hez.l hp1)) ?_ ?_
    · rintro i y σ' G G2 hi ⟨a, v6, v7, v8, v9, rfl, eG, ha, hra⟩ e2 hy
      obtain ⟨Tt, y2, rfl, hTt, hac⟩ := hy
      have hi2 : i < 2 ^ m := by omega
      have e12 := (hez.trans eG).trans e2
      obtain ⟨ra, l2, q2, xs2, g1, g2, g3, g4, g5⟩ := (hR1.ex e12).2 i hi2
      rw [hac] at g1
      cases g1
      have hra2 := hra.ex e2
      have hl2 := e12.t hl1
      have hlI := lotI_len i m
      have hn : (i + 1) * (B + 1) ≤ 2 ^ m * (B + 1) := Nat.mul_le_mul_right _ (by omega)
      have hn2 : (i + 1) * (B + 1) = i * (B + 1) + (B + 1) := Nat.succ_mul _ _
      have hsa : (shA sh (lotI i m)).length = m + 1 := by unfold shA; rw [List.length_append, hlen i hi2]; rfl
      have hx2 := g5.1
      have hplm : pl < m + 1 := by omega
      obtain ⟨s, hs1, hs2⟩ := g5.2 pl (by omega)
      have hix : Ix xs2 place (.ref s) := by
        rcases hplace with ⟨e1, e2⟩ | ⟨e1, _⟩
        · rw [e1]
          exact ix_last (by rw [hx2, hsa, Nat.add_sub_cancel, ← e2]; exact hs1)
        · rw [e1]
          exact ix_nat hs1
      have hS1 : altS sh m lot pl (i + 1) = altS sh m lot pl i + altQ sh m lot pl i := rfl
      walk_at "go"
      by_cases hsub : ∀ t ∈ lot, t ∈ lotI i m
      · rw [decide_eq_true ((sub_bits hlot hbb.2 hbb.1 hi2).mpr hsub), if_pos rfl]
        have hQ : altQ sh m lot pl i = altX sh m lot pl i := if_pos hsub
        rw [hS1, hQ]
        walk_at "go"
        refine Z.w_cutV 9 (fun w G3 => ∃ z, w = .ref z ∧ RN (He.ga K "Ratio") G3 z (altX sh m lot pl i) B) ?_ fun w G3 e3 hw => ?_
        · walk_at "go"
          by_cases hodd : (((lotI i m).length : Int) - (lot.length : Int)) % 2 = 1
          · have hX : altX sh m lot pl i = - (shA sh (lotI i m)).getD pl 0 := if_pos hodd
            rw [decide_eq_true hodd, if_pos rfl, hX]
            walk_at "go"
            rename_i zn Hn hnn hen hrn
            exact ⟨hen, _, ⟨zn, rfl, hrn⟩, rfl⟩
          · have hX : altX sh m lot pl i = (shA sh (lotI i m)).getD pl 0 := if_neg hodd
            rw [decide_eq_false hodd, if_neg (by decide), hX]
            walk_at "go"
            exact ⟨Ex.refl _, _, ⟨s, rfl, hs2⟩, rfl⟩
        · obtain ⟨z, rfl, hz⟩ := hw
          simp only [List.set_cons_zero, List.set_cons_succ]
          have hra3 := hra2.ex e3
          walk_at "go"
          rename_i za Ha hna hea hrza
          have eA := (eG.trans e2).trans e3
          exact ⟨za, _, _, _, _, rfl, eA.trans hea, (hez.trans eA).back hna, hrza.eq rfl (by omega) (by omega)⟩
      · rw [decide_eq_false (fun h => hsub ((sub_bits hlot hbb.2 hbb.1 hi2).mp h)), if_neg (by decide)]
        have hQ : altQ sh m lot pl i = 0 := if_neg hsub
        rw [hS1, hQ, Rat.add_zero]
        walk_at "go"
        exact ⟨a, _, _, _, _, rfl, eG.trans e2, ha, hra2.eq rfl (by omega) (by omega)⟩
    · rintro σ' G ⟨a, v6, v7, v8, v9, rfl, eG, ha, hra⟩
      rw [hal] at hra
      walk_at "go"
      exact k a G (e1.back ha) ((e1.trans hez).trans eG) hra

def sp_alternating (K : PySem.W.Frag) : Sp := fun vs H Q E => ∃ (x l : Addr) (sh : List Int → List Rat) (m b : Nat) (lot : List Int) (tv : V) (pl : Nat), vs = [.ref x, .ref l, tv] ∧ (IsLot (m : Int) lot → Pl m tv pl) ∧ Rep_Tabled K H x (m : Int) sh b ∧ m ≤ 6 ∧ b ≤ 13400 ∧ m * (b + 66) + 66 ≤ 13400 ∧ (∀ i, i < 2 ^ m → Sz (1 - (sh (lotI i m)).sum) b) ∧ 2 ^ m * (b + 1) + 66 ≤ 13000 ∧ SqT K H l (lot.map V.int) ∧ (¬ IsLot (m : Int) lot → ∀ H', Ex H H' → E (.ref (He.ga K "BadLot")) none H') ∧
  (IsLot (m : Int) lot → ∀ z H', Fr H z → Ex H H' → RN (He.ga K "Ratio") H' z (altS sh m lot pl (2 ^ m)) (2 ^ m * (b + 1) + 66) → Q (.ref z) H')
theorem ok_alternating (T : Tx P K mg) : FnOk P w K mg base (L2.CX P w) 7 (He.ga K "alternating") (Z.fdOf K (He.ga K "alternating")) ["table", "lot", "thing"] (sp_alternating K) := by
  refine T.F_alternating.ok sc_alternating (fun vs H Q E h => ?_) (fun cdv A outer s H vs Q E hr h => ?_)
  · obtain ⟨x, l, sh, m, b, lot, tv, pl, rfl, _⟩ := h
    rfl
  · obtain ⟨x, l, sh, m, b, lot, tv, pl, rfl, hpl, hx, hm, hb0, hb, hsz, hcap, hl, hE, k⟩ := h
    have hrb := hx.rb
    obtain ⟨dx, fs, h1, h2, h3, hn0, hn1⟩ := id hrb
    have fx0 := T.o_Tabled.cl
    have fx1 := T.na_Tabled_many
    refine ⟨_, (pss_cons (ps_expr (Z.pe_callZ (ok_check_lot T) (hr.mono (by decide)) (by rfl) T.g_check_lot T.F_check_lot.kp T.b_check_lot .nil (fun σ => passAt (takes_of rfl rfl rfl rfl) σ) (pa_cons (pv 1) (pa_cons (Z.fld (K := K) rfl (pv 0) rfl) pa_nil))))
      (pss_one (ps_ret (Z.pe_callZ (ok_sum_over T) (hr.mono (by decide)) (by rfl) T.g_sum_over T.F_sum_over.kp T.b_sum_over .nil (fun σ => passAt (takes_of rfl rfl rfl rfl) σ) (pa_cons (Z.pe_callZ (ok_told_rows T) (hr.mono (by decide)) (by rfl) T.g_told_rows T.F_told_rows.kp T.b_told_rows .nil (fun σ => passAt (takes_of rfl rfl rfl rfl) σ) (pa_cons (pv 0) pa_nil)) (pa_cons (pv 1) (pa_cons (pv 2) pa_nil))))))), ?_⟩
    try dsimp only [cxOf, Cx.nox, Cx.wish]
    try (show (_ : TS) _ [some _, some _, some _] _)
    walk_at "go"
    clear hr
    refine ⟨l, lot, (m : Int), rfl, hl, fun h H' e => hE h H' e, fun hlot H1 e1 => ?_⟩
    have hx1 := hx.ex e1
    walk_at "go"
    refine ⟨x, m, sh, b, rfl, hx1, hm, hb0, hb, hsz, fun p2 H2 acc hn2 he2 hp2 hT2 => ?_⟩
    walk_at "go"
    have e02 := e1.trans he2
    exact ⟨p2, l, acc, sh, m, b, lot, tv, pl, rfl, hpl hlot, sq_of hp2, hT2, hm, e02.t hl, hlot, fun i _ => by have := hx.len (lotI i m); rw [Int.toNat_natCast] at this; exact this, hcap, fun z H3 hn3 he3 hr3 => k hlot z H3 (e02.back hn3) (e02.trans he3) hr3⟩

/-- the least common multiple of the bottoms -/
def lcQ (qs : List Rat) : Nat := qs.foldl (fun d q => Nat.lcm d q.den) 1
theorem lcQ_snoc (qs : List Rat) (q : Rat) : lcQ (qs ++ [q]) = Nat.lcm (lcQ qs) q.den := by unfold lcQ; rw [List.foldl_append]; rfl
theorem lcQ_pos (qs : List Rat) : 0 < lcQ qs := by
  unfold lcQ
  suffices h : ∀ d, 0 < d → 0 < qs.foldl (fun d q => Nat.lcm d q.den) d from h 1 (by decide)
  induction qs with
  | nil => exact fun d h => h
  | cons q r ih => exact fun d h => ih _ (Nat.lcm_pos h q.den_pos)
theorem lcQ_bt {qs : List Rat} {b : Nat} (h : ∀ i, i < qs.length → Sz (qs.getD i 0) b) : ∀ i, i ≤ qs.length → lcQ (qs.take i) < 2 ^ (1 + b * i) := by
  intro i
  induction i with
  | zero => intro _; exact Nat.lt_of_lt_of_le (show lcQ [] < 2 ^ 1 by decide) (Nat.pow_le_pow_right (by decide) (by omega))
  | succ i ih =>
    intro hi
    have h1 := ih (by omega)
    have h2 := (h i (by omega)).den
    rw [List.take_succ, List.getElem?_eq_getElem (show i < qs.length by omega)]
    show lcQ (qs.take i ++ [qs[i]]) < _
    rw [lcQ_snoc]
    rw [getD_get _ _ _ (show i < qs.length by omega)] at h2
    refine Nat.lt_of_le_of_lt (PySem.W.mc_lcm_le _ _) ?_
    rw [Nat.mul_add, Nat.mul_one, ← Nat.add_assoc, Nat.pow_add]
    rw [Int.natAbs_natCast] at h2
    exact Nat.mul_lt_mul'' h1 h2
def crow (qs : List Rat) : List Int := ((lcQ qs : Nat) : Int) :: qs.map fun q => q.num * (((lcQ qs : Nat) : Int) / ((q.den : Nat) : Int))
def sp_common_row (K : PySem.W.Frag) : Sp := fun vs H Q _ => ∃ (a : Addr) (xs : List V) (qs : List Rat) (b : Nat), vs = [.ref a] ∧ At H a (.lst xs) ∧ RL (He.ga K "Ratio") H xs qs b ∧ qs.length ≤ 100 ∧ 1 + b * qs.length ≤ 13000 ∧ b ≤ 13000 ∧ ∀ p H', Fr H p → Ex H H' → At H' p (.lst ((crow qs).map V.int)) → Q (.ref p) H'
theorem ok_common_row (T : Tx P K mg) : FnOk P w K mg base (L2.CX P w) 1 (He.ga K "common_row") (Z.fdOf K (He.ga K "common_row")) ["shares"] (sp_common_row K) := by
  refine T.F_common_row.ok sc_common_row (fun vs H Q E h => ?_) (fun cdv A outer s H vs Q E hr h => ?_)
  · obtain ⟨a, xs, qs, b, rfl, _⟩ := h
    rfl
  · obtain ⟨a, xs, qs, b, rfl, ha, hR, hl, hb, hb1, k⟩ := h
    have hsz : ∀ i, i < qs.length → Sz (qs.getD i 0) b := fun i hi => by obtain ⟨_, _, r⟩ := hR.2 i hi; exact r.sz
    have hxl := hR.1
    have fx0 := T.o_Ratio.cl
    have fx1 := T.na_Ratio_top
    have fx2 := T.na_Ratio_bottom
    refine ⟨_, PSs.nox (pss_cons (ps_set (i := 1) sc_common_row.nd rfl (Or.inr rfl) pe_int)
      (pss_cons (ps_for PassesOwn.never rfl (Z.piL (K := K) rfl (pv 0)) (pg_name (i := 2) sc_common_row.nd rfl (by first | exact Or.inl rfl | exact Or.inr rfl)) (pss_one (ps_set (i := 1) sc_common_row.nd rfl (Or.inr rfl) (pe_callBfun Z.cr_lcm (by rfl) T.m_lcm (pa_cons (pv 1) (pa_cons (Z.fld (K := K) rfl (pv 2) rfl) pa_nil))))))
      (pss_one (ps_ret (pe_op Z.op_add (pe_lst (pa_cons (pv 1) pa_nil)) (pe_lc (own := [("share", 2)]) rfl sc_common_row.nd (Z.piL (K := K) rfl (pv 0)) (blkOk_by (N := ["shares", "total", "share"]) (sc := defScope s_common_row) (by decide +kernel)) (fun _ _ _ _ _ => (pg_name (i := 2) sc_common_row.nd rfl (by first | exact Or.inl rfl | exact Or.inr rfl))) (fun _ _ _ _ _ => pts_nil) (fun _ _ _ _ _ => (pe_op Z.op_mul (Z.fld (K := K) rfl (pv 2) rfl) (pe_op Z.op_fdivP (pv 1) (Z.fld (K := K) rfl (pv 2) rfl)))))))))), ?_⟩
    try dsimp only [cxOf, Cx.nox, Cx.wish]
    try (show (_ : TS) _ [some _, none, none] _)
    walk_at "go"
    rename_i J S
    refine Z.fg S (fun i σ G => ∃ v2, σ = [some (.ref a), some (.int ((lcQ (qs.take i) : Nat) : Int)), v2] ∧ Ex H G) ⟨none, rfl, Ex.refl H⟩ (fun i σ' G _ ⟨_, _, e⟩ => e.l (sq_of ha)) ?_ ?_
    · rintro i y σ' G G2 hi ⟨v2, rfl, eG⟩ e2 hy
      have hi2 : i < qs.length := by omega
      obtain ⟨ra, g1, g2⟩ := (hR.ex (eG.trans e2)).2 i hi2
      rw [g1] at hy
      cases hy
      have hb2 : 1 + b * i ≤ 13000 := by have := Nat.mul_le_mul_left b (show i ≤ qs.length by omega); omega
      have h1 := Nat.lt_of_lt_of_le (lcQ_bt hsz i (by omega)) (Nat.pow_le_pow_right (by decide) (show 1 + b * i ≤ 13400 by omega))
      have h2 := bt_mono g2.sz.den (show b ≤ 13400 by omega)
      have e : lcQ (qs.take (i + 1)) = Nat.lcm (lcQ (qs.take i)) (qs.getD i 0).den := by
        rw [List.take_succ, List.getElem?_eq_getElem hi2, getD_get _ _ _ hi2]
        exact lcQ_snoc _ _
      walk_at "go"
      refine Z.w_lcm (by rw [Int.natAbs_natCast]; exact h1) h2 ?_
      rw [Int.natAbs_natCast, Int.natAbs_natCast, ← e]
      walk_at "go"
      exact ⟨_, rfl, eG.trans e2⟩
    · rintro σ' G ⟨v2, rfl, eG⟩
      rw [hxl, List.take_length]
      have hG := eG.get ha
      have hRG := hR.ex eG
      have hlc := lcQ_bt hsz qs.length (Nat.le_refl _)
      rw [List.take_length] at hlc
      walk_at "go"
      rename_i p3 H3 hn3 he3 hp3 J2 S2
      refine Z.cgI S2 (fun i => (qs.getD i 0).num * (((lcQ qs : Nat) : Int) / (((qs.getD i 0).den : Nat) : Int))) (fun H' e => (he3.trans e).l (sq_of hG)) (by show _ ≤ 16777216; omega) (fun Dl i y G4 hi ec cd hy => ?_) (fun p4 H4 hn4 he4 hp4 => ?_) rfl
      · have hi2 : i < qs.length := by omega
        obtain ⟨ra, g1, g2⟩ := (hRG.ex (he3.trans ec)).2 i hi2
        rw [g1] at hy
        cases hy
        have hd0 : (0 : Int) < (((qs.getD i 0).den : Nat) : Int) := by have := (qs.getD i 0).den_pos; omega
        have hlc2 : (((lcQ qs : Nat) : Int)).natAbs < 2 ^ 13400 := by rw [Int.natAbs_natCast]; exact Nat.lt_of_lt_of_le hlc (Nat.pow_le_pow_right (by decide) (by omega))
        have hdz : CDivZ ((lcQ qs : Nat) : Int) (((qs.getD i 0).den : Nat) : Int) := cdivz hd0 hlc2
        have hq : (((lcQ qs : Nat) : Int) / (((qs.getD i 0).den : Nat) : Int)).natAbs < 2 ^ 13400 := Nat.lt_of_le_of_lt (Int.natAbs_ediv_le_natAbs _ _) hlc2
        have hcm : CM (qs.getD i 0).num (((lcQ qs : Nat) : Int) / (((qs.getD i 0).den : Nat) : Int)) := Z.cm (bt_mono g2.sz.num (show b ≤ 13400 by omega)) hq (by decide)
        clear hlc2 hq
        walk_at "go"
      · have hp34 := he4.get hp3
        walk_at "go"
        rename_i p5 H5 hn5 he5 hp5
        refine k p5 H5 (eG.back ((he3.trans he4).back hn5)) (((eG.trans he3).trans he4).trans he5) (hp5.l ?_)
        unfold crow
        rw [hxl]
        have e : ((List.range qs.length).map fun i : Nat => (qs.getD i 0).num * (((lcQ qs : Nat) : Int) / (((qs.getD i 0).den : Nat) : Int))) = qs.map fun q => q.num * (((lcQ qs : Nat) : Int) / ((q.den : Nat) : Int)) := by
          apply List.ext_getElem
          · rw [List.length_map, List.length_range, List.length_map]
          · intro j h1 h2
            rw [List.length_map] at h2
            rw [List.getElem_map, List.getElem_range, List.getElem_map, getD_get _ _ _ h2]
        rw [e]
        rfl

/-- a cell of the script, or 0: some int -/
def sp__law_cell (K : PySem.W.Frag) : Sp := fun vs H Q _ => ∃ (l : Addr) (ns : List Int) (j : Int), vs = [.ref l, .int j] ∧ SqL K H l (ns.map V.int) ∧ 0 ≤ j ∧ ∀ i : Int, Q (.int i) H
theorem ok__law_cell (T : Tx P K mg) : FnOk P w K mg base (L2.CX P w) 1 (He.ga K "_law_cell") (Z.fdOf K (He.ga K "_law_cell")) ["_law_script", "_law_place"] (sp__law_cell K) := by
  refine T.F__law_cell.ok sc__law_cell (fun vs H Q E h => ?_) (fun cdv A outer s H vs Q E hr h => ?_)
  · obtain ⟨l, ns, j, rfl, _⟩ := h
    rfl
  · obtain ⟨l, ns, j, rfl, hl, hj, k⟩ := h
    refine ⟨_, PSs.nox (pss_cons (ps_if (pt_cmpR Z.op_lt (pv 1) (pe_callB (Z.call_len (K := K) rfl) (by rfl) T.n_len (by decide +kernel) (pa_cons (pv 0) pa_nil)) (nomark _)) (pss_one (ps_ret (pe_callTy Z.call_int (by rfl) T.n_int (by decide +kernel) (pa_cons (pe_ix (Z.ix (K := K) rfl) (pv 0) (pv 1) (fun _ _ => rfl)) pa_nil)))) pss_nil)
      (pss_one (ps_ret pe_int))), ?_⟩
    try dsimp only [cxOf, Cx.nox, Cx.wish]
    try (show (_ : TS) _ [some _, some _] _)
    walk_at "go"
    refine Z.w_dec (fun hc => ?_) (fun hc => ?_)
    · walk_at "go"
      exact k _
    · walk_at "go"
      exact k _
theorem u_cell {H : Hp} {Q : VK} {E : XK} {l : Addr} {ns : List Int} {j : Int} (h : SqL K H l (ns.map V.int)) (hj : 0 ≤ j) (k : ∀ i : Int, Q (.int i) H) : sp__law_cell K [.ref l, .int j] H Q E := ⟨l, ns, j, rfl, h, hj, k⟩
local macro_rules | `(tactic| walk_at "call") => `(tactic| ((with_reducible apply R.u_cell); (walk_at "fl"); (walk_at "num"); (intro cell)))

/-- as many numbers as sizes, each below its size -/
def Dr (sz ds : List Int) : Prop := ds.length = sz.length ∧ ∀ k, k < ds.length → 0 ≤ ds.getD k 0 ∧ ds.getD k 0 < sz.getD k 0
def sp__law_draws (K : PySem.W.Frag) : Sp := fun vs H Q _ => ∃ (c : Int) (l : Addr) (sz : List Int), vs = [.int c, .ref l] ∧ SqL K H l (sz.map V.int) ∧ sz.length ≤ 100000 ∧ (∀ z ∈ sz, 0 < z ∧ z < 2 ^ 250) ∧
  ∀ (p : Addr) (H' : Hp) (ds : List Int), Fr H p → Ex H H' → At H' p (.lst (ds.map V.int)) → Dr sz ds → Q (.ref p) H'
theorem dr_snoc {sz ds : List Int} {z : Int} (hl : ds.length < sz.length) (h : ∀ k, k < ds.length → 0 ≤ ds.getD k 0 ∧ ds.getD k 0 < sz.getD k 0) (h0 : 0 ≤ z) (h1 : z < sz.getD ds.length 0) :
    ∀ k, k < (ds ++ [z]).length → 0 ≤ (ds ++ [z]).getD k 0 ∧ (ds ++ [z]).getD k 0 < sz.getD k 0 := by
  intro k hk
  rw [List.length_append] at hk
  by_cases e : k < ds.length
  · have := h k e
    simp only [List.getD_eq_getElem?_getD, List.getElem?_append_left e] at this ⊢
    exact this
  · have ek : k = ds.length := by simp at hk; omega
    subst ek
    simp only [List.getD_eq_getElem?_getD] at h1 ⊢
    simp [h0, h1]
theorem ok__law_draws (T : Tx P K mg) : FnOk P w K mg base (L2.CX P w) 1 (He.ga K "_law_draws") (Z.fdOf K (He.ga K "_law_draws")) ["_law_cell_here", "_law_sizes"] (sp__law_draws K) := by
  refine T.F__law_draws.ok sc__law_draws (fun vs H Q E h => ?_) (fun cdv A outer s H vs Q E hr h => ?_)
  · obtain ⟨c, l, sz, rfl, _⟩ := h
    rfl
  · obtain ⟨c, l, sz, rfl, hl, hz, hp, k⟩ := h
    have gp : ∀ i, i < sz.length → 0 < sz.getD i 0 ∧ sz.getD i 0 < 2 ^ 250 := fun i hi => by
      rw [List.getD_eq_getElem?_getD, List.getElem?_eq_getElem hi]
      exact hp _ (List.getElem_mem hi)
    refine ⟨_, PSs.nox (pss_cons (ps_if (pt_cmpR (Z.op_eq (K := K) rfl hr.units) (pv 0) pe_int (nomark _)) (pss_one (ps_ret (pe_lc (own := [("_law_size", 4)]) rfl sc__law_draws.nd (Z.piL (K := K) rfl (pv 1)) (blkOk_by (N := ["_law_cell_here", "_law_sizes", "_law_left", "_law_found", "_law_size", "_law_k", "_law_low", "_law_high"]) (sc := defScope s__law_draws) (by decide +kernel)) (fun _ _ _ _ _ => (pg_name (i := 4) sc__law_draws.nd rfl (by first | exact Or.inl rfl | exact Or.inr rfl))) (fun _ _ _ _ _ => pts_nil) (fun _ _ _ _ _ => pe_int)))) pss_nil)
      (pss_cons (ps_if (pt_cmpR Z.op_ge (pv 0) (pe_op op_pow pe_int pe_int) (nomark _)) (pss_cons (ps_set (i := 2) sc__law_draws.nd rfl (Or.inl rfl) (pe_op Z.op_sub (pv 0) (pe_op op_pow pe_int pe_int)))
      (pss_cons (ps_set (i := 3) sc__law_draws.nd rfl (Or.inl rfl) (pe_lst pa_nil))
      (pss_cons (ps_for PassesOwn.never rfl (Z.piL (K := K) rfl (pv 1)) (pg_name (i := 4) sc__law_draws.nd rfl (by first | exact Or.inl rfl | exact Or.inr rfl)) (pss_cons (ps_expr (pe_bm PySem.F.plainAttrs_list PySem.F.slot_list_append PySem.F.type_list_append mt_append (pv 3) (pa_cons (pe_op Z.op_mod (pe_callTy Z.call_int (by rfl) T.n_int (by decide +kernel) (pa_cons (pv 2) pa_nil)) (pv 4)) pa_nil)))
      (pss_one (ps_set (i := 2) sc__law_draws.nd rfl (Or.inl rfl) (pe_op Z.op_fdivP (pv 2) (pv 4))))))
      (pss_one (ps_ret (pv 3)))))) pss_nil)
      (pss_cons (ps_set (i := 3) sc__law_draws.nd rfl (Or.inl rfl) (pe_lst pa_nil))
      (pss_cons (ps_for PassesOwn.never rfl (pi_range1 (by rfl) T.n_range (pa_cons (pe_callB (Z.call_len (K := K) rfl) (by rfl) T.n_len (by decide +kernel) (pa_cons (pv 1) pa_nil)) pa_nil)) (pg_name (i := 5) sc__law_draws.nd rfl (by first | exact Or.inl rfl | exact Or.inr rfl)) (pss_cons (ps_set (i := 6) sc__law_draws.nd rfl (Or.inl rfl) (pe_op Z.op_mod (pe_callTy Z.call_int (by rfl) T.n_int (by decide +kernel) (pa_cons (pe_op Z.op_add (pe_op Z.op_mul (pv 0) pe_int) (pe_op Z.op_mul (pe_op Z.op_add (pv 5) pe_int) pe_int)) pa_nil)) pe_int))
      (pss_cons (ps_set (i := 6) sc__law_draws.nd rfl (Or.inl rfl) (pe_op Z.op_mod (pe_callTy Z.call_int (by rfl) T.n_int (by decide +kernel) (pa_cons (pe_op Z.op_add (pe_op Z.op_mul (pv 6) pe_int) (pe_op Z.op_mul (pe_op Z.op_add (pv 5) pe_int) pe_int)) pa_nil)) pe_int))
      (pss_cons (ps_set (i := 7) sc__law_draws.nd rfl (Or.inl rfl) (pe_op Z.op_mod (pe_callTy Z.call_int (by rfl) T.n_int (by decide +kernel) (pa_cons (pe_op Z.op_add (pe_op Z.op_mul (pv 0) pe_int) (pe_op Z.op_mul (pe_op Z.op_add (pv 5) pe_int) pe_int)) pa_nil)) pe_int))
      (pss_cons (ps_set (i := 7) sc__law_draws.nd rfl (Or.inl rfl) (pe_op Z.op_mod (pe_callTy Z.call_int (by rfl) T.n_int (by decide +kernel) (pa_cons (pe_op Z.op_add (pe_op Z.op_mul (pv 7) pe_int) (pv 6)) pa_nil)) pe_int))
      (pss_one (ps_expr (pe_bm PySem.F.plainAttrs_list PySem.F.slot_list_append PySem.F.type_list_append mt_append (pv 3) (pa_cons (pe_op Z.op_mod (pe_callTy Z.call_int (by rfl) T.n_int (by decide +kernel) (pa_cons (pe_op Z.op_add (pe_op Z.op_mul (pv 7) pe_int) (pv 6)) pa_nil)) (pe_ix (Z.ix (K := K) rfl) (pv 1) (pv 5) (fun _ _ => rfl))) pa_nil)))))))))
      (pss_one (ps_ret (pv 3))))))), ?_⟩
    try dsimp only [cxOf, Cx.nox, Cx.wish]
    try (show (_ : TS) _ [some _, some _, none, none, none, none, none, none] _)
    walk_at "go"
    refine Z.w_dec (fun hc => ?_) (fun hc => ?_)
    · walk_at "go"
      rename_i J S p H2 hn he hp
      refine k p H2 (List.replicate sz.length 0) hn he (hp.l (by rw [List.length_map])) ⟨List.length_replicate, fun i hi => ?_⟩
      · rw [List.length_replicate] at hi
        simp only [List.getD_eq_getElem?_getD, List.getElem?_replicate, hi, if_true, Option.getD_some]
        have := (gp i hi).1
        rw [List.getD_eq_getElem?_getD] at this
        exact ⟨Int.le_refl 0, this⟩
    · walk_at "go"
      refine Z.w_dec (fun hd => ?_) (fun hd => ?_)
      · walk_at "go"
        rename_i F H1 hF e1 h1 J S
        refine Z.fg S (fun i σ H' => ∃ (left : Int) (ds : List Int) (v : Option V), σ = [some (.int c), some (.ref l), some (.int left), some (.ref F), v, none, none, none] ∧ Ex H H' ∧ At H' F (.lst (ds.map V.int)) ∧ ds.length = i ∧ ∀ k, k < ds.length → 0 ≤ ds.getD k 0 ∧ ds.getD k 0 < sz.getD k 0)
          ⟨_, [], none, rfl, e1, h1, rfl, fun k hk => absurd hk (by simp)⟩ (fun i σ' H' _ ⟨_, _, _, _, e, _⟩ => by walk_at "fl") ?_ ?_
        · rintro i x σ' H' H'' hi ⟨left, ds, v, rfl, e, hds, hlen, hall⟩ e2 hx
          rw [List.length_map] at hi
          rw [List.getElem?_map, List.getElem?_eq_getElem hi] at hx
          obtain rfl := (Option.some.inj hx).symm
          have g0 := gp i hi
          have ei : sz.getD i 0 = sz[i] := by rw [List.getD_eq_getElem?_getD, List.getElem?_eq_getElem hi]; rfl
          rw [ei] at g0
          have hds2 := e2.get hds
          have hdv : CDivW left sz[i] := wide_div (b := 250) g0.1 (by have := g0.2; have := g0.1; omega) (by decide) (by decide)
          walk_at "go"
          rename_i H2 hp2 hnl2 ho2 hke
          refine ⟨_, ds ++ [left % sz[i]], some _, rfl, hke, hp2.l (by rw [List.map_append]; rfl), by simp [hlen], dr_snoc (by omega) hall (Int.emod_nonneg _ (by omega)) ?_⟩
          rw [hlen, ei]
          exact Int.emod_lt_of_pos _ g0.1
        · rintro σ' H' ⟨left, ds, v, rfl, e, hds, hlen, hall⟩
          walk_at "go"
          exact k F H' ds hF e hds ⟨by simpa using hlen, hall⟩
      · walk_at "go"
        rename_i F H1 hF e1 h1 J S
        refine Z.fg S (fun i σ H' => ∃ (ds : List Int) (v5 v6 v7 : Option V), σ = [some (.int c), some (.ref l), none, some (.ref F), none, v5, v6, v7] ∧ Ex H H' ∧ At H' F (.lst (ds.map V.int)) ∧ ds.length = i ∧ ∀ k, k < ds.length → 0 ≤ ds.getD k 0 ∧ ds.getD k 0 < sz.getD k 0)
          ⟨[], none, none, none, rfl, e1, h1, rfl, fun k hk => absurd hk (by simp)⟩ (fun i σ' H' _ _ => trivial) ?_ ?_
        · rintro i x σ' H' H'' hi ⟨ds, v5, v6, v7, rfl, e, hds, hlen, hall⟩ e2 rfl
          have hi' : i < sz.length := by simpa using hi
          have g0 := gp i hi'
          have hds2 := e2.get hds
          have g1 : 0 < sz.getD (Int.toNat (i : Int)) 0 := by rw [Int.toNat_natCast]; exact g0.1
          walk_at "go"
          rename_i H2 hp2 hnl2 ho2 hke
          refine ⟨ds ++ [_], some _, some _, some _, rfl, hke, hp2.l (by rw [List.map_append]; rfl), by simp [hlen], dr_snoc (by omega) hall (Int.emod_nonneg _ (by omega)) ?_⟩
          rw [hlen]
          exact Int.emod_lt_of_pos _ g1
        · rintro σ' H' ⟨ds, v5, v6, v7, rfl, e, hds, hlen, hall⟩
          walk_at "go"
          exact k F H' ds hF e hds ⟨by simpa using hlen, hall⟩
theorem u_draws {H : Hp} {Q : VK} {E : XK} {l : Addr} {sz : List Int} {c : Int} (h : SqL K H l (sz.map V.int)) (hz : sz.length ≤ 100000 ∧ ∀ z ∈ sz, 0 < z ∧ z < 2 ^ 250) (k : ∀ (p : Addr) (H' : Hp) (ds : List Int), Fr H p → Ex H H' → At H' p (.lst (ds.map V.int)) → Dr sz ds → Q (.ref p) H') : sp__law_draws K [.int c, .ref l] H Q E :=
  ⟨c, l, sz, rfl, h, hz.1, hz.2, k⟩
theorem Dr.all {n : Nat} {c : Int} {ds : List Int} (h : Dr (List.replicate n c) ds) : ds.length = n ∧ ∀ x ∈ ds, 0 ≤ x ∧ x < c := by
  have hl : ds.length = n := by rw [h.1, List.length_replicate]
  refine ⟨hl, fun x hx => ?_⟩
  obtain ⟨i, hi, rfl⟩ := List.mem_iff_getElem.mp hx
  have q := h.2 i hi
  rw [getD_get _ _ _ hi, List.getD_eq_getElem?_getD, List.getElem?_replicate, if_pos (by omega)] at q
  exact q
/-- the bounds one by one -/
def Bs : List Int → List Int → Nat → Prop
  | [], _, _ => True
  | z :: r, ds, k => (0 ≤ ds.getD k 0 ∧ ds.getD k 0 < z) ∧ Bs r ds (k + 1)
theorem bs_of : ∀ (sz ds : List Int) (k : Nat), (∀ i, i < sz.length → 0 ≤ ds.getD (k + i) 0 ∧ ds.getD (k + i) 0 < sz.getD i 0) → Bs sz ds k
  | [], _, _, _ => trivial
  | z :: r, ds, k, h => ⟨by have := h 0 (by simp); simpa using this, bs_of r ds (k + 1) fun i hi => by
      have := h (i + 1) (by simpa using hi)
      rw [show k + 1 + i = k + (i + 1) by omega]
      simpa using this⟩
theorem Dr.bnd {sz ds : List Int} (h : Dr sz ds) : ds.length = sz.length ∧ Bs sz ds 0 := ⟨h.1, bs_of sz ds 0 fun i hi => by rw [Nat.zero_add]; exact h.2 i (by rw [h.1]; exact hi)⟩
theorem Dr.drop {sz ds : List Int} {j : Nat} {c : Int} (h : Dr sz ds) (hz : ∀ z ∈ sz.drop j, z ≤ c) : ∀ x ∈ ds.drop j, 0 ≤ x ∧ x < c := fun x hx => by
  obtain ⟨i, hi, rfl⟩ := List.mem_iff_getElem.mp hx
  have h1 : j + i < ds.length := by rw [List.length_drop] at hi; omega
  have h2 : j + i < sz.length := by rw [← h.1]; exact h1
  have q := h.2 (j + i) h1
  rw [getD_get _ _ _ h1, getD_get _ _ _ h2] at q
  have h3 : i < (sz.drop j).length := by rw [List.length_drop]; omega
  have := hz (sz.drop j)[i] (List.getElem_mem h3)
  rw [List.getElem_drop] at this ⊢
  omega
theorem Dr.whole {sz ds : List Int} {c : Int} (h : Dr sz ds) (hz : ∀ z ∈ sz, z ≤ c) : ∀ x ∈ ds, 0 ≤ x ∧ x < c := h.drop (j := 0) hz
local macro_rules | `(tactic| walk_at "call") => `(tactic| ((with_reducible apply R.u_draws); (walk_at "fi"); (first | decide | with_reducible assumption); (intro p H2 ds hn he hp hd); (try dsimp only at hd); (try (have hb := R.Dr.bnd hd; simp only [R.Bs, List.length_cons, List.length_nil, Nat.reduceAdd, and_true] at hb))))

def sp__law_lot (K : PySem.W.Frag) : Sp := fun vs H Q _ => ∃ (n m : Nat), vs = [.int (n : Int), .int (m : Int)] ∧ m ≤ 1000 ∧ ∀ p H', Fr H p → Ex H H' → At H' p (.tup (nats (lotOf n m))) → Q (.ref p) H'
theorem ok__law_lot (T : Tx P K mg) : FnOk P w K mg base (L2.CX P w) 1 (He.ga K "_law_lot") (Z.fdOf K (He.ga K "_law_lot")) ["_law_bits", "_law_many"] (sp__law_lot K) := by
  refine T.F__law_lot.ok sc__law_lot (fun vs H Q E h => ?_) (fun cdv A outer s H vs Q E hr h => ?_)
  · obtain ⟨n, m, rfl, _⟩ := h
    rfl
  · obtain ⟨n, m, rfl, hm, k⟩ := h
    refine ⟨_, PSs.nox (pss_cons (ps_set (i := 2) sc__law_lot.nd rfl (Or.inl rfl) (pe_lst pa_nil))
      (pss_cons (ps_set (i := 3) sc__law_lot.nd rfl (Or.inl rfl) (pe_callTy Z.call_int (by rfl) T.n_int (by decide +kernel) (pa_cons (pv 0) pa_nil)))
      (pss_cons (ps_for PassesOwn.never rfl (pi_range1 (by rfl) T.n_range (pa_cons (pv 1) pa_nil)) (pg_name (i := 4) sc__law_lot.nd rfl (by first | exact Or.inl rfl | exact Or.inr rfl)) (C8.pss_cut (ps_if (pt_cmpR (Z.op_eq (K := K) rfl hr.units) (pe_op Z.op_mod (pv 3) pe_int) pe_int (nomark _)) (pss_one (ps_expr (pe_bm PySem.F.plainAttrs_list PySem.F.slot_list_append PySem.F.type_list_append mt_append (pv 2) (pa_cons (pv 4) pa_nil)))) pss_nil)
      (pss_one (ps_set (i := 3) sc__law_lot.nd rfl (Or.inl rfl) (pe_op Z.op_fdivP (pv 3) pe_int)))))
      (pss_one (ps_ret (pe_callTy (Z.call_tuple (K := K) rfl) (by rfl) T.n_tuple (by decide +kernel) (pa_cons (pv 2) pa_nil))))))), ?_⟩
    try dsimp only [cxOf, Cx.nox, Cx.wish]
    try (show (_ : TS) _ [some _, some _, none, none, none] _)
    walk_at "go"
    rename_i F H1 hF e1 h1 J S
    have hlen : ∀ i, (lotOf n i).length ≤ i := fun i => by unfold lotOf; exact Nat.le_trans (List.length_filter_le _ _) (by simp)
    refine Z.fg S (fun i σ G => ∃ v, σ = [some (.int (n : Int)), some (.int (m : Int)), some (.ref F), some (.int ((n / 2 ^ i : Nat) : Int)), v] ∧ Ex H G ∧ At G F (.lst (nats (lotOf n i)))) ⟨none, by simp [L2.start], e1, h1⟩ (fun i σ' G _ _ => trivial) ?_ ?_
    · rintro i x σ' G G2 hi ⟨v, rfl, e, hG⟩ e2 rfl
      have hG2 := e2.get hG
      have hl2 := hlen i
      have hs := lotOf_succ n i
      walk_at "go"
      refine Z.w_cut (fun σ2 G3 => σ2 = [some (.int (n : Int)), some (.int (m : Int)), some (.ref F), some (.int ((n / 2 ^ i : Nat) : Int)), some (.int (i : Nat))] ∧ Ex H G3 ∧ At G3 F (.lst (nats (lotOf n (i + 1))))) ?_ ?_
      · walk_at "go"
        refine Z.w_dec (fun hc => ?_) (fun hc => ?_)
        · have ht : tb n i = true := by unfold tb; simp; omega
          rw [ht] at hs
          walk_at "go"
          rename_i H2 hp hnl ho hke
          exact ⟨rfl, hke, hp.l (by rw [hs]; simp [nats])⟩
        · have ht : tb n i = false := by unfold tb; simp; omega
          rw [ht] at hs
          walk_at "go"
          exact ⟨rfl, e.trans e2, hG2.l (by rw [hs]; simp [nats])⟩
      rintro σ2 G3 ⟨rfl, e3, h3⟩
      walk_at "go"
      refine ⟨some (.int (i : Nat)), ?_, e3, h3⟩
      have ed : ((n / 2 ^ i : Nat) : Int) / 2 = ((n / 2 ^ (i + 1) : Nat) : Int) := by
        rw [Nat.pow_succ, ← Nat.div_div_eq_div_mul]; rfl
      rw [← ed]
      try rfl
    · rintro σ' G ⟨v, rfl, e, hG⟩
      walk_at "go"
      rename_i p H2 hn he hp
      rw [Int.toNat_natCast] at hp
      exact k p H2 (e.back hn) (e.trans he) hp
/-- .. of ints -/
theorem u_lot {H : Hp} {Q : VK} {E : XK} {c m : Int} (hc : 0 ≤ c) (hm : 0 ≤ m) (hm2 : m ≤ 1000) (k : ∀ p H' (lot : List Int), Fr H p → Ex H H' → At H' p (.tup (lot.map V.int)) → lot = (lotOf c.toNat m.toNat).map (fun n : Nat => (n : Int)) → Q (.ref p) H') : sp__law_lot K [.int c, .int m] H Q E := by
  obtain ⟨c, rfl⟩ := Int.eq_ofNat_of_zero_le hc
  obtain ⟨m, rfl⟩ := Int.eq_ofNat_of_zero_le hm
  exact ⟨c, m, rfl, by omega, fun p H' h1 h2 h3 => k p H' _ h1 h2 h3 rfl⟩
local macro_rules | `(tactic| walk_at "call") => `(tactic| ((with_reducible apply R.u_lot); (walk_at "num"); (walk_at "num"); (walk_at "num"); (intro p H2 lot hn he hp hlot)))

def sp__law_power : Sp := fun vs H Q _ => ∃ m : Nat, vs = [.int (m : Int)] ∧ m ≤ 1000 ∧ ∀ H', Ex H H' → Q (.int ((2 ^ m : Nat) : Int)) H'
theorem ok__law_power (T : Tx P K mg) : FnOk P w K mg base (L2.CX P w) 1 (He.ga K "_law_power") (Z.fdOf K (He.ga K "_law_power")) ["_law_many"] sp__law_power := by
  refine T.F__law_power.ok sc__law_power (fun vs H Q E h => ?_) (fun cdv A outer s H vs Q E hr h => ?_)
  · obtain ⟨m, rfl, _⟩ := h
    rfl
  · obtain ⟨m, rfl, hm, k⟩ := h
    refine ⟨_, PSs.nox (pss_cons (ps_set (i := 1) sc__law_power.nd rfl (Or.inl rfl) pe_int)
      (pss_cons (ps_for PassesOwn.never rfl (pi_range1 (by rfl) T.n_range (pa_cons (pv 0) pa_nil)) (pg_name (i := 2) sc__law_power.nd rfl (by first | exact Or.inl rfl | exact Or.inr rfl)) (pss_one (ps_set (i := 1) sc__law_power.nd rfl (Or.inl rfl) (pe_op Z.op_mul (pv 1) pe_int))))
      (pss_one (ps_ret (pv 1))))), ?_⟩
    try dsimp only [cxOf, Cx.nox, Cx.wish]
    try (show (_ : TS) _ [some _, none, none] _)
    walk_at "go"
    refine Z.fg (by assumption) (fun i σ G => ∃ v, σ = [some (.int (m : Int)), some (.int ((2 ^ i : Nat) : Int)), v] ∧ Ex H G) ⟨none, rfl, Ex.refl _⟩ (fun i σ' G _ _ => trivial) ?_ ?_
    · rintro i x σ' G G2 hi ⟨v, rfl, e⟩ e2 y
      walk_at "go"
      refine ⟨some x, ?_, e.trans e2⟩
      rw [Nat.pow_succ, Int.natCast_mul]
      rfl
    · rintro σ' G ⟨v, rfl, e⟩
      walk_at "go"
      rw [Int.toNat_natCast]
      exact k _ e

theorem row_fits {f0 : Int} {cs lot : List Int} {m : Nat} (h0 : 0 ≤ f0) (h1 : 1 ≤ f0 + cs.sum ∨ f0 + cs.sum = 0) (hcl : cs.length = m) (hcb : ∀ v ∈ cs, 0 ≤ v) (hcF : ∀ t : Nat, t < m → 0 < cs.getD t 0 → (t : Int) ∈ lot) {z : Int} (hz : z = if f0 + cs.sum = 0 then 1 else f0 + cs.sum) : Fits (z :: cs) lot m := by
  refine ⟨by rw [List.length_cons, hcl]; omega, ?_, ?_, fun t ht => ?_⟩
  · show 1 ≤ z; rw [hz]; split <;> omega
  · show cs.sum ≤ z; rw [hz]; split <;> omega
  · have ht2 : t < m := by omega
    show 0 ≤ cs.getD t 0 ∧ (0 < cs.getD t 0 → (t : Int) ∈ lot)
    refine ⟨?_, hcF t ht2⟩
    rw [getD_get _ _ _ (by omega)]
    exact hcb _ (List.getElem_mem _)
def sp__law_table (K : PySem.W.Frag) : Sp := fun vs H Q _ => ∃ (c : Int) (m : Nat), vs = [.int c, .int (m : Int)] ∧ m ≤ 6 ∧
  ∀ p H' xs (rows : List (List Int)), Fr H p → Ex H H' → At H' p (.lst xs) → LLi H' xs rows → rows.length = 2 ^ m → (∀ r ∈ rows, r.length = m + 1 ∧ ∀ z ∈ r, 0 ≤ z ∧ z < 2 ^ 60) → (∀ j, j < rows.length → Fits (rows.getD j []) ((lotOf j m).map fun k : Nat => (k : Int)) m) → Q (.ref p) H'
theorem ok__law_table (T : Tx P K mg) : FnOk P w K mg base (L2.CX P w) 2 (He.ga K "_law_table") (Z.fdOf K (He.ga K "_law_table")) ["_law_cell_here", "_law_many"] (sp__law_table K) := by
  refine T.F__law_table.ok sc__law_table (fun vs H Q E h => ?_) (fun cdv A outer s H vs Q E hr h => ?_)
  · obtain ⟨c, m, rfl, _⟩ := h
    rfl
  · obtain ⟨c, m, rfl, hm, k⟩ := h
    have hpw : (2 ^ m : Nat) ≤ 2 ^ 6 := Nat.pow_le_pow_right (by decide) hm
    have hsz : (2 ^ m : Nat) * (m + 1) ≤ 64 * 7 := Nat.mul_le_mul hpw (by omega)
    refine ⟨_, PSs.nox (pss_cons (ps_set (i := 2) sc__law_table.nd rfl (Or.inl rfl) (pe_op Z.op_add (pv 1) pe_int))
      (pss_cons (ps_set (i := 3) sc__law_table.nd rfl (Or.inl rfl) (pe_call (ok__law_draws T) (hr.mono (by decide)) (by rfl) T.g__law_draws T.F__law_draws.kp T.b__law_draws .nil passL (pa_cons (pv 0) (pa_cons (pe_op Z.op_add (pe_lst (pa_cons pe_int pa_nil)) (pe_lc (own := [("_law_k", 6)]) rfl sc__law_table.nd (pi_range1 (by rfl) T.n_range (pa_cons (pe_op Z.op_mul (pe_call (ok__law_power T) (hr.mono (by decide)) (by rfl) T.g__law_power T.F__law_power.kp T.b__law_power .nil passL (pa_cons (pv 1) pa_nil)) (pv 2)) pa_nil)) (blkOk_by (N := ["_law_cell_here", "_law_many", "_law_size", "_law_drawn", "_law_bound", "_law_rows", "_law_k", "_law_part", "_law_lot_here", "_law_counts", "_law_total", "_law_value", "_law_thing"]) (sc := defScope s__law_table) (by decide +kernel)) (fun _ _ _ _ _ => (pg_name (i := 6) sc__law_table.nd rfl (by first | exact Or.inl rfl | exact Or.inr rfl))) (fun _ _ _ _ _ => pts_nil) (fun _ _ _ _ _ => (pe_op op_pow pe_int pe_int)))) pa_nil))))
      (pss_cons (ps_set (i := 4) sc__law_table.nd rfl (Or.inr rfl) (pe_ix (Z.ix (K := K) rfl) (pe_lst (pa_cons pe_int (pa_cons pe_int (pa_cons pe_int (pa_cons (pe_op op_pow pe_int pe_int) pa_nil))))) (pe_ix (Z.ix (K := K) rfl) (pv 3) pe_int (fun _ _ => rfl)) (fun _ _ => rfl)))
      (pss_cons (ps_set (i := 5) sc__law_table.nd rfl (Or.inl rfl) (pe_lst pa_nil))
      (pss_cons (ps_for PassesOwn.never rfl (pi_range1 (by rfl) T.n_range (pa_cons (pe_call (ok__law_power T) (hr.mono (by decide)) (by rfl) T.g__law_power T.F__law_power.kp T.b__law_power .nil passL (pa_cons (pv 1) pa_nil)) pa_nil)) (pg_name (i := 6) sc__law_table.nd rfl (by first | exact Or.inl rfl | exact Or.inr rfl)) (pss_cons (ps_set (i := 7) sc__law_table.nd rfl (Or.inr rfl) (pe_lc (own := [("_law_value", 11)]) rfl sc__law_table.nd (Z.piL (K := K) rfl (pe_slice (Z.slL (K := K) rfl) (pv 3) (po_some (pe_op Z.op_add pe_int (pe_op Z.op_mul (pv 6) (pv 2)))) (po_some (pe_op Z.op_add pe_int (pe_op Z.op_mul (pe_op Z.op_add (pv 6) pe_int) (pv 2)))))) (blkOk_by (N := ["_law_cell_here", "_law_many", "_law_size", "_law_drawn", "_law_bound", "_law_rows", "_law_k", "_law_part", "_law_lot_here", "_law_counts", "_law_total", "_law_value", "_law_thing"]) (sc := defScope s__law_table) (by decide +kernel)) (fun _ _ _ _ _ => (pg_name (i := 11) sc__law_table.nd rfl (by first | exact Or.inl rfl | exact Or.inr rfl))) (fun _ _ _ _ _ => pts_nil) (fun _ _ _ _ _ => (pe_op Z.op_mod (pe_callTy Z.call_int (by rfl) T.n_int (by decide +kernel) (pa_cons (pv 11) pa_nil)) (pv 4)))))
      (pss_cons (ps_set (i := 8) sc__law_table.nd rfl (Or.inr rfl) (pe_call (ok__law_lot T) (hr.mono (by decide)) (by rfl) T.g__law_lot T.F__law_lot.kp T.b__law_lot .nil passL (pa_cons (pv 6) (pa_cons (pv 1) pa_nil))))
      (pss_cons (ps_setLc (i := 9) (own := [("_law_thing", 12)]) rfl sc__law_table.nd rfl rfl (sw_true rfl rfl rfl (by decide +kernel)) (pi_range1 (by rfl) T.n_range (pa_cons (pv 1) pa_nil)) (blkOk_by (N := ["_law_cell_here", "_law_many", "_law_size", "_law_drawn", "_law_bound", "_law_rows", "_law_k", "_law_part", "_law_lot_here", "_law_counts", "_law_total", "_law_value", "_law_thing"]) (sc := defScope s__law_table) (by decide +kernel)) (fun _ _ _ _ _ => (pg_name (i := 12) sc__law_table.nd rfl (by first | exact Or.inl rfl | exact Or.inr rfl))) (fun _ _ _ _ _ => pts_nil) (fun _ _ _ _ _ => (pe_op Z.op_mul (pe_ix (Z.ix (K := K) rfl) (pv 7) (pe_op Z.op_add (pv 12) pe_int) (fun _ _ => rfl)) (pe_callTy Z.call_int (by rfl) T.n_int (by decide +kernel) (pa_cons (pe_cmpR (Z.op_in (K := K) rfl) (pv 12) (pv 8) (by rfl)) pa_nil)))))
      (pss_cons (ps_set (i := 10) sc__law_table.nd rfl (Or.inl rfl) (pe_op Z.op_add (pe_ix (Z.ix (K := K) rfl) (pv 7) pe_int (fun _ _ => rfl)) (pe_callB (Z.call_sum (K := K) rfl rfl) (by rfl) T.n_sum (by decide +kernel) (pa_cons (pv 9) pa_nil))))
      (C8.pss_cut (ps_if (pt_cmpR (Z.op_eq (K := K) rfl hr.units) (pv 10) pe_int (nomark _)) (pss_one (ps_set (i := 10) sc__law_table.nd rfl (Or.inl rfl) pe_int)) pss_nil)
      (pss_one (ps_expr (pe_bm PySem.F.plainAttrs_list PySem.F.slot_list_append PySem.F.type_list_append mt_append (pv 5) (pa_cons (pe_op Z.op_add (pe_lst (pa_cons (pv 10) pa_nil)) (pv 9)) pa_nil))))))))))
      (pss_one (ps_ret (pv 5)))))))), ?_⟩
    try dsimp only [cxOf, Cx.nox, Cx.wish]
    try (show (_ : TS) _ [some _, some _, none, none, none, none, none, none, none, none, none, none, none] _)
    walk_at "go"
    clear hr
    rename_i p0 H0 hn0 he0 hp0
    refine ⟨m, rfl, by omega, fun H2 he2 => ?_⟩
    generalize hN : (2 ^ m : Nat) = N at *
    have hsz1 : 0 ≤ (N : Int) * ((m : Int) + 1) ∧ (N : Int) * ((m : Int) + 1) ≤ 448 := by
      have e : (N : Int) * ((m : Int) + 1) = ((N * (m + 1) : Nat) : Int) := by push_cast; rfl
      omega
    walk_at "go"
    rename_i J1 S1 p1 H3 hn1 he1 hp1 p2 H4 hn2' he3 hp2
    refine u_draws (sz := 4 :: List.replicate ((N : Int) * ((m : Int) + 1)).toNat 100000000000000000) (sq_of hp2) ⟨by simp; omega, ?_⟩ fun p3 H5 ds hn3 he4 hp3 hd => ?_
    · intro z hz
      rcases List.mem_cons.mp hz with rfl | hz
      · decide
      · rw [List.eq_of_mem_replicate hz]; decide
    have hl : (ds.length : Int) = (N : Int) * ((m : Int) + 1) + 1 := by rw [hd.1, List.length_cons, List.length_replicate]; omega
    have h0 := hd.2 0 (by omega)
    have h0' : ds.getD 0 0 < 4 := h0.2
    have eH5 : Ex H H5 := (((he0.trans he2).trans he1).trans he3).trans he4
    clear hp1 hp2 hn1 hn2' he2 he1 he3 he4 S1 hd hn3
    walk_at "go"
    rename_i p4 H6 hn4 he4 hp4 R H7 hn5' he5 hp5
    have hbd : ∃ bd : Int, ([2, 6, 1000, 100000000000000000] : List Int).getD (ds.getD 0 0).toNat 0 = bd ∧ 0 < bd ∧ bd ≤ 100000000000000000 := by
      have : ds.getD 0 0 = 0 ∨ ds.getD 0 0 = 1 ∨ ds.getD 0 0 = 2 ∨ ds.getD 0 0 = 3 := by omega
      rcases this with e | e | e | e <;> rw [e] <;> exact ⟨_, rfl, by decide, by decide⟩
    obtain ⟨bd, ebd, hbd0, hbd1⟩ := hbd
    rw [ebd]
    have eH7 := (eH5.trans he4).trans he5
    have hp37 := he5.get (he4.get hp3)
    have fR : Fr H R := eH5.back (he4.back hn5')
    clear hp3 hp4 hn4 hn5' he4 he5
    refine ⟨m, rfl, by omega, fun H8 he8 => ?_⟩
    have hq := he8.get hp37
    have hp2 := he8.get hp5
    have e02 := eH7.trans he8
    clear hp5 hp37 eH7 he8 hp0 hn0 he0
    have hpR : p3 ≠ R := fun z => by subst z; have h := hq.symm.trans hp2; injection h with h; injection h with h; have h3 := congrArg List.length h; rw [List.length_map, List.length_nil] at h3; omega
    rw [hN]
    walk_at "go"
    rename_i J S
    refine Z.fg S (fun i σ G => ∃ (xs : List V) (rows : List (List Int)) (v6 v7 v8 v9 v10 v11 v12 : Option V), σ = [some (.int c), some (.int m), some (.int ((m : Int) + 1)), some (.ref p3), some (.int bd), some (.ref R), v6, v7, v8, v9, v10, v11, v12] ∧ Ex H G ∧ At G p3 (.lst (ds.map V.int)) ∧ At G R (.lst xs) ∧ V.ref R ∉ xs ∧ LLi G xs rows ∧ rows.length = i ∧ (∀ r ∈ rows, r.length = m + 1 ∧ ∀ z ∈ r, 0 ≤ z ∧ z < 2 ^ 60) ∧ ∀ j, j < i → Fits (rows.getD j []) ((lotOf j m).map fun k : Nat => (k : Int)) m) ⟨[], [], none, none, none, none, none, none, none, rfl, e02, hq, hp2, by simp, LLi.nil, rfl, fun r hr => absurd hr (by simp), fun j hj => absurd hj (by omega)⟩ (fun i σ' G _ _ => trivial) ?_ ?_
    · rintro i w σ' G G2 hi ⟨xs, rows, v6, v7, v8, v9, v10, v11, v12, rfl, eG, hqG0, hG, hm2, hL, hrl, hrb, hrF⟩ e2 rfl
      have hG2 := e2.get hG
      have hL2 := hL.ex e2
      have eG2 := eG.trans e2
      have hqG := e2.get hqG0
      clear hG hL hqG0
      have hmi : (↑i : Int).toNat = i := rfl
      have hlo : 0 ≤ (i : Int) * ((m : Int) + 1) ∧ ((i : Int) + 1) * ((m : Int) + 1) = (i : Int) * ((m : Int) + 1) + ((m : Int) + 1) ∧ ((i : Int) + 1) * ((m : Int) + 1) ≤ (N : Int) * ((m : Int) + 1) := by
        refine ⟨Int.mul_nonneg (by omega) (by omega), by rw [Int.add_mul]; omega, Int.mul_le_mul_of_nonneg_right (by omega) (by omega)⟩
      walk_at "go"
      rename_i p5 H5 hn5 he5 hp5 J3 S3
      have hel : ((ds.drop (1 + (i : Int) * ((m : Int) + 1)).toNat).take ((1 + ((i : Int) + 1) * ((m : Int) + 1)).toNat - (1 + (i : Int) * ((m : Int) + 1)).toNat)).length = m + 1 := by rw [List.length_take, List.length_drop]; omega
      generalize (ds.drop (1 + (i : Int) * ((m : Int) + 1)).toNat).take ((1 + ((i : Int) + 1) * ((m : Int) + 1)).toNat - (1 + (i : Int) * ((m : Int) + 1)).toNat) = es at *
      refine Z.cgI S3 (fun k => es.getD k 0 % bd) (fun H' e => e.l (sq_of hp5)) (by rw [List.length_map]; show _ ≤ 16777216; omega) (fun Dl k y G4 hk ec cd hy => ?_) (fun p3' G3 hn3 he3 hp3 => ?_) rfl
      · obtain ⟨hi2, rfl⟩ := get_int hy
        walk_at "go"
      rw [List.length_map] at hp3
      have hfl : ((List.range es.length).map fun k : Nat => es.getD k 0 % bd).length = m + 1 := by rw [List.length_map, List.length_range, hel]
      have hfb : ∀ v ∈ ((List.range es.length).map fun k : Nat => es.getD k 0 % bd), 0 ≤ v ∧ v < 100000000000000000 := by
        intro v hv
        obtain ⟨k0, _, rfl⟩ := List.mem_map.1 hv
        have := Int.emod_nonneg (es.getD k0 0) (show bd ≠ 0 by omega)
        have := Int.emod_lt_of_pos (es.getD k0 0) hbd0
        show 0 ≤ es.getD k0 0 % bd ∧ es.getD k0 0 % bd < 100000000000000000
        omega
      generalize ((List.range es.length).map fun k : Nat => es.getD k 0 % bd) = fs at *
      have e53 := he5.trans he3
      have hL3 := hL2.ex e53
      have hG3 := e53.get hG2
      have eG3 := eG2.trans e53
      have hqG3 := e53.get hqG
      clear hp5 hn5 S3 hL2 hG2 eG2 hqG hn3
      walk_at "go"
      rename_i p6 G6 lot hn6 he6 hp6 hlot J3 S3
      have hp36 := he6.get hp3
      refine Z.cgI S3 (fun t => fs.getD (t + 1) 0 * (if (t : Int) ∈ lot then 1 else 0)) (fun H' e => trivial) (by show _ ≤ 16777216; omega) (fun Dl j y G7 hj ec cd hy => ?_) (fun L6 G7 hL6 he7 hp7 => ?_) rfl
      · cases hy
        have hp66 := ec.get hp6
        have hp37 := ec.get hp36
        have ej : ((j : Int) + 1).toNat = j + 1 := by omega
        have hjm : (j : Int) + 1 < (m : Int) + 1 := by omega
        have hlz := hlot
        walk_at "go"
        refine Or.inr ⟨_, rfl, ?_⟩
        have hdc : (if decide ((j : Int) ∈ lot) = true then 1 else 0 : Int) = if (j : Int) ∈ lot then 1 else 0 := by
          by_cases h : (j : Int) ∈ lot <;> simp [h]
        rw [hdc]
        walk_at "go"
      have hcl : ((List.range ((m : Int)).toNat).map fun (t : Nat) => fs.getD (t + 1) 0 * (if (t : Int) ∈ lot then 1 else 0 : Int)).length = m := by rw [List.length_map, List.length_range]; omega
      have hcb : ∀ v ∈ ((List.range ((m : Int)).toNat).map fun (t : Nat) => fs.getD (t + 1) 0 * (if (t : Int) ∈ lot then 1 else 0 : Int)), 0 ≤ v ∧ v < 100000000000000000 := by
        intro v hv
        obtain ⟨k0, _, rfl⟩ := List.mem_map.1 hv
        have hf : 0 ≤ fs.getD (k0 + 1) 0 ∧ fs.getD (k0 + 1) 0 < 100000000000000000 := by
          by_cases h : k0 + 1 < fs.length
          · have := hfb _ (List.getElem_mem h)
            rw [List.getD_eq_getElem?_getD, List.getElem?_eq_getElem h]; exact this
          · rw [List.getD_eq_getElem?_getD, List.getElem?_eq_none (by omega)]; decide
        by_cases h : (k0 : Int) ∈ lot
        · simp only [h, if_true]; omega
        · simp only [h, if_false]; omega
      have hcF : ∀ t : Nat, t < m → 0 < ((List.range ((m : Int)).toNat).map fun (t : Nat) => fs.getD (t + 1) 0 * (if (t : Int) ∈ lot then 1 else 0 : Int)).getD t 0 → (t : Int) ∈ lot := by
        intro t ht h0
        rw [getD_get _ _ _ (by rw [hcl]; exact ht)] at h0
        simp only [List.getElem_map, List.getElem_range] at h0
        by_cases h : (t : Int) ∈ lot
        · exact h
        · rw [if_neg h] at h0; omega
      generalize ((List.range ((m : Int)).toNat).map fun (t : Nat) => fs.getD (t + 1) 0 * (if (t : Int) ∈ lot then 1 else 0 : Int)) = cs at *
      have hp367 := he7.get hp36
      have e67 := he6.trans he7
      have hL7 := hL3.ex e67
      have hG7 := e67.get hG3
      have eG7 := eG3.trans e67
      have hqG7 := e67.get hqG3
      have h0b : 0 ≤ fs.getD 0 0 ∧ fs.getD 0 0 < 100000000000000000 := by
        have h : 0 < fs.length := by omega
        have := hfb _ (List.getElem_mem h)
        rw [List.getD_eq_getElem?_getD, List.getElem?_eq_getElem h]; exact this
      have hsb : 0 ≤ cs.sum ∧ cs.sum ≤ (cs.length : Int) * 100000000000000000 := by
        clear hp7 hcl hcF
        induction cs with
        | nil => simp
        | cons c cs ih =>
          have h1 := hcb c (by simp)
          have h2 := ih (fun v hv => hcb v (by simp [hv]))
          rw [List.sum_cons, List.length_cons]
          push_cast
          omega
      clear hp3 hp36 hL3 hG3 eG3 hqG3 S3 hL6
      walk_at "go"
      refine Z.w_cutI 10 (fun z => z = if fs.getD 0 0 + cs.sum = 0 then 1 else fs.getD 0 0 + cs.sum) ?_ fun z hz => ?_
      · walk_at "go"
        refine Z.w_dec (fun c2 => ?_) (fun c2 => ?_)
        · walk_at "go"
          exact ⟨rfl, _, (if_pos c2).symm, rfl⟩
        · walk_at "go"
          exact ⟨rfl, _, (if_neg c2).symm, rfl⟩
      simp only [List.set_cons_zero, List.set_cons_succ]
      have hxl := hL7.1
      have hz1 : 1 ≤ z ∧ z ≤ 1000000000000000000 := by
        rw [hcl] at hsb
        rw [hz]
        split <;> omega
      have hRr : ∀ p, Fr G7 p → p ≠ R := fun p h z => by subst z; exact hG7.ne h rfl
      walk_at "go"
      rename_i p7 G8 hn7 he8 hp8 p8 G9 hn8 he9 hp9 G10 hp10 hnl10 ho10 he10
      have hR8 : p8 ≠ R := fun z => (he8.get hG7).ne (z ▸ hn8) rfl
      have hp8' := ho10 p8 _ hR8 hp9
      refine ⟨_, rows ++ [z :: cs], _, _, _, _, _, _, _, rfl, he10, ho10 _ _ hpR (he9.get (he8.get hqG7)), hp10, ?_, ?_, by rw [List.length_append, hrl]; rfl, ?_, ?_⟩
      · intro hm3
        rcases List.mem_append.1 hm3 with h | h
        · exact hm2 h
        · exact hR8 (V.ref.inj (List.mem_singleton.1 h)).symm
      · refine LLi.snoc (((hL7.ex he8).ex he9).of ho10 hm2) hp8'
      · intro r hr'
        rcases List.mem_append.1 hr' with h | h
        · exact hrb r h
        · rw [List.mem_singleton.1 h]
          refine ⟨by rw [List.length_cons, hcl], fun v hv => ?_⟩
          rcases List.mem_cons.1 hv with h2 | h2
          · subst h2; omega
          · have := hcb v h2; omega
      · intro j hj
        by_cases e : j = i
        · subst e
          have e3 : (rows ++ [z :: cs]).getD j [] = z :: cs := by
            rw [List.getD_eq_getElem?_getD, ← hrl, List.getElem?_append_right (Nat.le_refl _), Nat.sub_self]; rfl
          rw [e3]
          have e4 : lot = (lotOf j m).map fun k : Nat => (k : Int) := by rw [hlot, Int.toNat_natCast, Int.toNat_natCast]
          rw [← e4]
          exact row_fits h0b.1 (by omega) hcl (fun v hv => (hcb v hv).1) hcF hz
        · have e3 : (rows ++ [z :: cs]).getD j [] = rows.getD j [] := by
            rw [List.getD_eq_getElem?_getD, List.getElem?_append_left (by omega), ← List.getD_eq_getElem?_getD]
          rw [e3]
          exact hrF j (by omega)
    · rintro σ' G ⟨xs, rows, v6, v7, v8, v9, v10, v11, v12, rfl, eG, hqG0, hG, hm2, hL, hrl, hrb, hrF⟩
      walk_at "go"
      exact k R G xs rows fR eG hG hL (by rw [hrl]; rfl) hrb fun j hj => hrF j (by omega)

def sp__law_is_int : Sp := fun vs H Q _ => ∃ i : Int, vs = [.int i] ∧ Q (.bl true) H
theorem ok__law_is_int (T : Tx P K mg) : FnOk P w K mg base (L2.CX P w) 1 (He.ga K "_law_is_int") (Z.fdOf K (He.ga K "_law_is_int")) ["_law_x"] sp__law_is_int := by
  refine T.F__law_is_int.ok sc__law_is_int (fun vs H Q E h => ?_) (fun cdv A outer s H vs Q E hr h => ?_)
  · obtain ⟨i, rfl, _⟩ := h
    rfl
  · obtain ⟨i, rfl, k⟩ := h
    refine ⟨_, PSs.nox (pss_one (ps_ret (pe_and (pe_callB (Z.call_isi (K := K) rfl) (by rfl) T.n_isinstance (by decide +kernel) (pa_cons (pv 0) (pa_cons (pe_bltn (v := .ty "int") (u := .type "int") (by rfl) T.n_int (by decide +kernel) rfl) pa_nil))) (pe_one (pe_not (pe_callB (Z.call_isi (K := K) rfl) (by rfl) T.n_isinstance (by decide +kernel) (pa_cons (pv 0) (pa_cons (pe_bltn (v := .ty "bool") (u := .type "bool") (by rfl) T.n_bool (by decide +kernel) rfl) pa_nil)))))))), ?_⟩
    try dsimp only [cxOf, Cx.nox, Cx.wish]
    try (show (_ : TS) _ [some _] _)
    walk_at "go"
    exact k
theorem u_isint {H : Hp} {Q : VK} {E : XK} {i : Int} (k : Q (.bl true) H) : sp__law_is_int [.int i] H Q E := ⟨i, rfl, k⟩
local macro_rules | `(tactic| walk_at "call") => `(tactic| ((with_reducible refine R.u_isint ?_)))

/-- x is the Ratio of t over b -/
def sp__law_same (K : PySem.W.Frag) : Sp := fun vs H Q _ => ∃ (a : Addr) (q : Rat) (n : Nat) (t b : Int), vs = [.ref a, .int t, .int b] ∧ RN (He.ga K "Ratio") H a q n ∧ 0 < b ∧ t.natAbs < 2 ^ 50000 ∧ b.natAbs < 2 ^ 50000 ∧ Q (.bl (decide (q = Rat.divInt t b))) H
theorem ok__law_same (T : Tx P K mg) : FnOk P w K mg base (L2.CX P w) 2 (He.ga K "_law_same") (Z.fdOf K (He.ga K "_law_same")) ["_law_x", "_law_top", "_law_bottom"] (sp__law_same K) := by
  refine T.F__law_same.ok sc__law_same (fun vs H Q E h => ?_) (fun cdv A outer s H vs Q E hr h => ?_)
  · obtain ⟨a, q, n, t, b, rfl, _⟩ := h
    rfl
  · obtain ⟨a, q, n, t, b, rfl, ha, hb, ht, hbs, k⟩ := h
    obtain ⟨⟨dx, hx⟩, sq, h9⟩ := id ha
    have hp := q.den_pos
    have b1 := sq.1
    have b2 := sq.den
    have fx0 := T.o_Ratio.cl
    have fx1 := T.na_Ratio_top
    have fx2 := T.na_Ratio_bottom
    have fx3 := T.o_Ratio
    have fx4 := T.o_Rule
    have fx5 := T.o_Tabled
    refine ⟨_, PSs.nox (pss_cons (ps_if (pt_not (pt_val (pe_callB (Z.call_isi (K := K) rfl) (by rfl) T.n_isinstance (by decide +kernel) (pa_cons (pv 0) (pa_cons (pe_glob (v := .ref (He.ga K "Ratio")) (by rfl) T.g_Ratio rfl) pa_nil))))) (pss_one (ps_ret pe_bl)) pss_nil)
      (pss_cons (ps_if (PW.pt (pw_or (pt_not (pt_val (pe_call (ok__law_is_int T) (hr.mono (by decide)) (by rfl) T.g__law_is_int T.F__law_is_int.kp T.b__law_is_int .nil passL (pa_cons (Z.fld (K := K) rfl (pv 0) rfl) pa_nil)))) (pw_or (pt_not (pt_val (pe_call (ok__law_is_int T) (hr.mono (by decide)) (by rfl) T.g__law_is_int T.F__law_is_int.kp T.b__law_is_int .nil passL (pa_cons (Z.fld (K := K) rfl (pv 0) rfl) pa_nil)))) (pw_or1 (pt_cmpR Z.op_lt (Z.fld (K := K) rfl (pv 0) rfl) pe_int (nomark _)))))) (pss_one (ps_ret pe_bl)) pss_nil)
      (pss_one (ps_ret (pe_cmpR (Z.op_eq (K := K) rfl hr.units) (pe_op Z.op_mul (Z.fld (K := K) rfl (pv 0) rfl) (pv 2)) (pe_op Z.op_mul (pv 1) (Z.fld (K := K) rfl (pv 0) rfl)) (nomark _)))))), ?_⟩
    try dsimp only [cxOf, Cx.nox, Cx.wish]
    try (show (_ : TS) _ [some _, some _, some _] _)
    walk_at "go"
    walk_at "run"
    have e : decide (q = Rat.divInt t b) = decide (q.num * b = t * q.den) := by
      rw [decide_eq_decide]
      conv => lhs; rw [rat_eq q]
      exact Rat.divInt_eq_divInt_iff (den0 q) (by omega)
    rw [← e]
    exact k
theorem u_sameT {H : Hp} {Q : VK} {E : XK} {a : Addr} {q : Rat} {n : Nat} {t b : Int} (ha : RN (He.ga K "Ratio") H a q n) (hb : 0 < b) (hq : q = Rat.divInt t b) (ht : t.natAbs < 2 ^ 50000) (hs : b.natAbs < 2 ^ 50000) (k : Q (.bl true) H) : sp__law_same K [.ref a, .int t, .int b] H Q E :=
  ⟨a, q, n, t, b, rfl, ha, hb, ht, hs, by rw [decide_eq_true hq]; exact k⟩
/-- .. 0 and 1 -/
theorem u_same0 {H : Hp} {Q : VK} {E : XK} {a : Addr} {q : Rat} {n : Nat} (ha : RN (He.ga K "Ratio") H a q n) (hq : q = 0) (k : Q (.bl true) H) : sp__law_same K [.ref a, .int 0, .int 1] H Q E :=
  u_sameT ha (by decide) (by rw [hq]; exact (Rat.zero_divInt 1).symm) (by exact Nat.pow_pos (by decide)) (by exact Nat.one_lt_two_pow (by decide)) k
theorem u_same1 {H : Hp} {Q : VK} {E : XK} {a : Addr} {q : Rat} {n : Nat} (ha : RN (He.ga K "Ratio") H a q n) (hq : q = 1) (k : Q (.bl true) H) : sp__law_same K [.ref a, .int 1, .int 1] H Q E :=
  u_sameT ha (by decide) (by rw [hq]; exact div1 1) (by exact Nat.one_lt_two_pow (by decide)) (by exact Nat.one_lt_two_pow (by decide)) k

def sp__law_plus (K : PySem.W.Frag) : Sp := fun vs H Q _ => ∃ (a b : Addr) (p r : Int × Int) (q s : Rat) (n m : Nat), vs = [.ref a, .ref b] ∧ SqT K H a [.int p.1, .int p.2] ∧ SqT K H b [.int r.1, .int r.2] ∧ PQ p q n ∧ PQ r s m ∧ n + m ≤ 50000 ∧ ∀ t H' z, Fr H t → Ex H H' → At H' t (.tup [.int z.1, .int z.2]) → PQ z (q + s) (n + m + 1) → Q (.ref t) H'
theorem ok__law_plus (T : Tx P K mg) : FnOk P w K mg base (L2.CX P w) 1 (He.ga K "_law_plus") (Z.fdOf K (He.ga K "_law_plus")) ["_law_a", "_law_b"] (sp__law_plus K) := by
  refine T.F__law_plus.ok sc__law_plus (fun vs H Q E h => ?_) (fun cdv A outer s H vs Q E hr h => ?_)
  · obtain ⟨a, b, p, r, q, s, n, m, rfl, _⟩ := h
    rfl
  · obtain ⟨a, b, p, r, q, s, n, m, rfl, ha, hb, hp, hr', hnm, k⟩ := h
    have h1 := hp.2.2.1
    have h2 := hp.2.2.2
    have h3 := hr'.2.2.1
    have h4 := hr'.2.2.2
    have hs := hp.add hr'
    refine ⟨_, PSs.nox (pss_one (ps_ret (pe_tup (pa_cons (pe_op Z.op_add (pe_op Z.op_mul (pe_ix (Z.ix (K := K) rfl) (pv 0) pe_int (fun _ _ => rfl)) (pe_ix (Z.ix (K := K) rfl) (pv 1) pe_int (fun _ _ => rfl))) (pe_op Z.op_mul (pe_ix (Z.ix (K := K) rfl) (pv 1) pe_int (fun _ _ => rfl)) (pe_ix (Z.ix (K := K) rfl) (pv 0) pe_int (fun _ _ => rfl)))) (pa_cons (pe_op Z.op_mul (pe_ix (Z.ix (K := K) rfl) (pv 0) pe_int (fun _ _ => rfl)) (pe_ix (Z.ix (K := K) rfl) (pv 1) pe_int (fun _ _ => rfl))) pa_nil))))), ?_⟩
    try dsimp only [cxOf, Cx.nox, Cx.wish]
    try (show (_ : TS) _ [some _, some _] _)
    walk_at "go"
    rename_i t H2 hn he ht
    exact k t H2 (_, _) hn he ht hs

def sp__law_no_lot (K : PySem.W.Frag) : Sp := fun vs H Q _ => ∃ (l : Addr) (lot : List Int) (n f : Int), vs = [.ref l, .int n, .int f] ∧ SqT K H l (lot.map V.int) ∧ IsLot n lot ∧ lot.length ≤ 100 ∧
  ∀ p H' ms, Ex H H' → SqT K H' p (ms.map V.int) → ¬ IsLot n ms → ms.length ≤ 200 → Q (.ref p) H'
theorem ok__law_no_lot (T : Tx P K mg) : FnOk P w K mg base (L2.CX P w) 1 (He.ga K "_law_no_lot") (Z.fdOf K (He.ga K "_law_no_lot")) ["_law_lot_here", "_law_many", "_law_way"] (sp__law_no_lot K) := by
  refine T.F__law_no_lot.ok sc__law_no_lot (fun vs H Q E h => ?_) (fun cdv A outer s H vs Q E hr h => ?_)
  · obtain ⟨l, lot, n, f, rfl, _⟩ := h
    rfl
  · obtain ⟨l, lot, n, f, rfl, hl, hlot, hlen, k⟩ := h
    have h1 : ¬ IsLot n ([-1] ++ lot) := fun z => by have := z.2 (-1) (by simp); omega
    have h4 : ¬ IsLot n (lot ++ [n]) := fun z => by have := z.2 n (by simp); omega
    refine ⟨_, PSs.nox (pss_cons (ps_if (pt_cmpR (Z.op_eq (K := K) rfl hr.units) (pv 2) pe_int (nomark _)) (pss_one (ps_ret (pe_op (Z.catA (K := K) rfl) (pe_tup (pa_cons (pe_un Z.un_neg pe_int) pa_nil)) (pv 0)))) pss_nil)
      (pss_cons (ps_if (PW.pt (pw_and (pt_cmpR (Z.op_eq (K := K) rfl hr.units) (pv 2) pe_int (nomark _)) (pw_and1 (pt_cmpR Z.op_gt (pe_callB (Z.call_len (K := K) rfl) (by rfl) T.n_len (by decide +kernel) (pa_cons (pv 0) pa_nil)) pe_int (nomark _))))) (pss_one (ps_ret (pe_op (Z.catA (K := K) rfl) (pv 0) (pe_tup (pa_cons (pe_ix (Z.ix (K := K) rfl) (pv 0) pe_int (fun _ _ => rfl)) pa_nil))))) pss_nil)
      (pss_cons (ps_if (PW.pt (pw_and (pt_cmpR (Z.op_eq (K := K) rfl hr.units) (pv 2) pe_int (nomark _)) (pw_and1 (pt_cmpR Z.op_gt (pe_callB (Z.call_len (K := K) rfl) (by rfl) T.n_len (by decide +kernel) (pa_cons (pv 0) pa_nil)) pe_int (nomark _))))) (pss_one (ps_ret (pe_callTy (Z.call_tuple (K := K) rfl) (by rfl) T.n_tuple (by decide +kernel) (pa_cons (pe_lc (own := [("_law_k", 3)]) rfl sc__law_no_lot.nd (pi_range1 (by rfl) T.n_range (pa_cons (pe_callB (Z.call_len (K := K) rfl) (by rfl) T.n_len (by decide +kernel) (pa_cons (pv 0) pa_nil)) pa_nil)) (blkOk_by (N := ["_law_lot_here", "_law_many", "_law_way", "_law_k"]) (sc := defScope s__law_no_lot) (by decide +kernel)) (fun _ _ _ _ _ => (pg_name (i := 3) sc__law_no_lot.nd rfl (by first | exact Or.inl rfl | exact Or.inr rfl))) (fun _ _ _ _ _ => pts_nil) (fun _ _ _ _ _ => (pe_ix (Z.ix (K := K) rfl) (pv 0) (pe_op Z.op_sub (pe_op Z.op_sub (pe_callB (Z.call_len (K := K) rfl) (by rfl) T.n_len (by decide +kernel) (pa_cons (pv 0) pa_nil)) pe_int) (pv 3)) (fun _ _ => rfl)))) pa_nil)))) pss_nil)
      (pss_one (ps_ret (pe_op (Z.catA (K := K) rfl) (pv 0) (pe_tup (pa_cons (pv 1) pa_nil)))))))), ?_⟩
    try dsimp only [cxOf, Cx.nox, Cx.wish]
    try (show (_ : TS) _ [some _, some _, some _, none] _)
    walk_at "go"
    refine Z.w_dec (fun h => ?_) (fun h => ?_)
    · walk_at "go"
      exact k _ _ ([-1] ++ lot) (by walk_at "ex") (by assumption) h1 (by rw [List.length_append]; simp; omega)
    have h3 : 1 < lot.length → ¬ IsLot n lot.reverse := fun hl z => by
      have z1 := List.pairwise_iff_getElem.mp (List.pairwise_reverse.mp z.1) 0 1 (by omega) hl (by omega)
      have z2 := List.pairwise_iff_getElem.mp hlot.1 0 1 (by omega) hl (by omega)
      omega
    have h2 : 0 < lot.length → ¬ IsLot n (lot ++ [lot.getD 0 0]) := fun hl z => by
      have := (List.pairwise_append.mp z.1).2.2 _ (List.getElem_mem (show 0 < lot.length by omega)) _ (List.mem_singleton.mpr rfl)
      rw [getD_get _ _ _ hl] at this
      omega
    walk_at "go"
    refine Z.w_dec (fun hf2 => ?_) (fun hf2 => ?_)
    · walk_at "go"
      refine Z.w_dec (fun hg => ?_) (fun hg => ?_)
      · walk_at "go"
        exact k _ _ _ (by walk_at "ex") (by assumption) (h2 (by omega)) (by rw [List.length_append]; simp; omega)
      · walk_at "go"
        refine Z.w_decF (by omega) ?_
        walk_at "go"
        exact k _ _ (lot ++ [n]) (by walk_at "ex") (by assumption) h4 (by rw [List.length_append]; simp; omega)
    · walk_at "go"
      refine Z.w_dec (fun hf3 => ?_) (fun hf3 => ?_)
      · walk_at "go"
        refine Z.w_dec (fun hg => ?_) (fun hg => ?_)
        · walk_at "go"
          rename_i J S
          refine Z.cgI S (fun i => lot.getD ((lot.length : Int) - 1 - (i : Int)).toNat 0) (fun H' e => trivial) (by show _ ≤ 16777216; omega) (fun Dl i y G hi ec cd hy => ?_) (fun p6 H6 hn6 he6 hp6 => ?_) rfl
          · cases hy
            walk_at "go"
          · have e : ((List.range (lot.length : Int).toNat).map fun i : Nat => lot.getD ((lot.length : Int) - 1 - (i : Int)).toNat 0) = lot.reverse := by
              apply List.ext_getElem
              · rw [List.length_map, List.length_range, List.length_reverse, Int.toNat_natCast]
              · intro i a b
                rw [List.length_reverse] at b
                rw [List.getElem_map, List.getElem_range, List.getElem_reverse, getD_get _ _ _ (by omega)]
                congr 1
                omega
            rw [e] at hp6
            walk_at "go"
            rename_i p7 H7 hn7 he7 hp7
            exact k p7 H7 lot.reverse (he6.trans he7) (st_of hp7) (h3 (by omega)) (by rw [List.length_reverse]; omega)
        · walk_at "go"
          exact k _ _ (lot ++ [n]) (by walk_at "ex") (by assumption) h4 (by rw [List.length_append]; simp; omega)
      · walk_at "go"
        exact k _ _ (lot ++ [n]) (by walk_at "ex") (by assumption) h4 (by rw [List.length_append]; simp; omega)

/-- what a row counts: of a thing, or of going away -/
def cntI (m pl : Nat) (r : List Int) : Int := if pl = m then r.getD 0 0 - (r.drop 1).sum else r.getD (pl + 1) 0
theorem cnt_get {m i pl : Nat} {rows : List (List Int)} (hg : TGood (m : Int) rows) (hi : i < rows.length) (hl : (rows.getD i []).length = m + 1) (hpl : pl ≤ m) : (shA (tbSh (m : Int) rows) (lotI i m)).getD pl 0 = Rat.divInt (cntI m pl (rows.getD i [])) ((rows.getD i []).getD 0 0) := by
  have h1 : tbSh (m : Int) rows (lotI i m) = ((rows.getD i []).drop 1).map fun z => Rat.divInt z ((rows.getD i []).getD 0 0) := tbSh_row hg hi
  have h2 : 1 - (tbSh (m : Int) rows (lotI i m)).sum = Rat.divInt ((rows.getD i []).getD 0 0 - ((rows.getD i []).drop 1).sum) ((rows.getD i []).getD 0 0) := tbAway hg hi
  have hlen : (tbSh (m : Int) rows (lotI i m)).length = m := by rw [h1, List.length_map, List.length_drop]; omega
  unfold shA cntI
  by_cases c : pl = m
  · rw [if_pos c, c, List.getD_eq_getElem?_getD, List.getElem?_append_right (by omega), hlen, Nat.sub_self]
    exact h2
  · rw [if_neg c, List.getD_eq_getElem?_getD, List.getElem?_append_left (by omega), ← List.getD_eq_getElem?_getD, getD_get _ _ _ (by omega)]
    simp only [h1, List.getElem_map, List.getElem_drop]
    rw [getD_get (rows.getD i []) (pl + 1) 0 (by omega)]
    congr 2
    exact Nat.add_comm 1 pl
def sp__law_alternating (K : PySem.W.Frag) : Sp := fun vs H Q _ => ∃ (p l : Addr) (m : Nat) (tv : V) (pl : Nat) (xs : List V) (rows : List (List Int)) (lot : List Int), vs = [.ref p, .int m, .ref l, tv] ∧ Pl m tv pl ∧ SqL K H p xs ∧ LLi H xs rows ∧ rows.length = 2 ^ m ∧ TGood (m : Int) rows ∧ m ≤ 6 ∧ (∀ r ∈ rows, r.length = m + 1 ∧ ∀ z ∈ r, 0 ≤ z ∧ z < 2 ^ 60) ∧ (∀ j, j < rows.length → 1 ≤ (rows.getD j []).getD 0 0) ∧ SqT K H l (lot.map V.int) ∧ IsLot (m : Int) lot ∧
  ∀ t z H', Fr H t → Ex H H' → At H' t (.tup [.int z.1, .int z.2]) → PQ z (altS (tbSh (m : Int) rows) m lot pl (2 ^ m)) 6000 → Q (.ref t) H'
theorem ok__law_alternating (T : Tx P K mg) : FnOk P w K mg base (L2.CX P w) 2 (He.ga K "_law_alternating") (Z.fdOf K (He.ga K "_law_alternating")) ["_law_rows", "_law_many", "_law_lot_here", "_law_thing"] (sp__law_alternating K) := by
  refine T.F__law_alternating.ok sc__law_alternating (fun vs H Q E h => ?_) (fun cdv A outer s H vs Q E hr h => ?_)
  · obtain ⟨p, l, m, tv, pl, xs, rows, lot, rfl, _⟩ := h
    rfl
  · obtain ⟨p, l, m, tv, pl, xs, rows, lot, rfl, hpl, hp, hL, hrl, hg, hm, hrb, hr0, hl, hlot, k⟩ := h
    have hxl := hL.1
    have hll := hlot.len
    have hpw : (2 ^ m : Nat) ≤ 2 ^ 6 := Nat.pow_le_pow_right (by decide) (by omega)
    refine ⟨_, PSs.nox (pss_cons (ps_set (i := 4) sc__law_alternating.nd rfl (Or.inl rfl) (pe_tup (pa_cons pe_int (pa_cons pe_int pa_nil))))
      (pss_cons (ps_for PassesOwn.never rfl (pi_range1 (by rfl) T.n_range (pa_cons (pe_callB (Z.call_len (K := K) rfl) (by rfl) T.n_len (by decide +kernel) (pa_cons (pv 0) pa_nil)) pa_nil)) (pg_name (i := 5) sc__law_alternating.nd rfl (by first | exact Or.inl rfl | exact Or.inr rfl)) (pss_cons (ps_set (i := 6) sc__law_alternating.nd rfl (Or.inr rfl) (pe_call (ok__law_lot T) (hr.mono (by decide)) (by rfl) T.g__law_lot T.F__law_lot.kp T.b__law_lot .nil passL (pa_cons (pv 5) (pa_cons (pv 1) pa_nil))))
      (pss_cons (ps_set (i := 7) sc__law_alternating.nd rfl (Or.inl rfl) (pe_ix (Z.ix (K := K) rfl) (pv 0) (pv 5) (fun _ _ => rfl)))
      (pss_one (ps_if (pt_cmpR (Z.op_eq (K := K) rfl hr.units) (pe_callB (Z.call_len (K := K) rfl) (by rfl) T.n_len (by decide +kernel) (pa_cons (pe_lc (own := [("_law_k", 9)]) rfl sc__law_alternating.nd (Z.piT (K := K) rfl (pv 2)) (blkOk_by (N := ["_law_rows", "_law_many", "_law_lot_here", "_law_thing", "_law_total", "_law_number", "_law_other", "_law_row", "_law_count", "_law_k"]) (sc := defScope s__law_alternating) (by decide +kernel)) (fun _ _ _ _ _ => (pg_name (i := 9) sc__law_alternating.nd rfl (by first | exact Or.inl rfl | exact Or.inr rfl))) (fun _ _ _ _ _ => (pts_one (pt_cmpR (Z.op_in (K := K) rfl) (pv 9) (pv 6) (by rfl)))) (fun _ _ _ _ _ => (pv 9))) pa_nil)) (pe_callB (Z.call_len (K := K) rfl) (by rfl) T.n_len (by decide +kernel) (pa_cons (pv 2) pa_nil)) (nomark _)) (pss_cons (ps_set (i := 8) sc__law_alternating.nd rfl (Or.inl rfl) (pe_op Z.op_sub (pe_ix (Z.ix (K := K) rfl) (pv 7) pe_int (fun _ _ => rfl)) (pe_callB (Z.call_sum (K := K) rfl rfl) (by rfl) T.n_sum (by decide +kernel) (pa_cons (pe_slice (Z.slL (K := K) rfl) (pv 7) (po_some pe_int) po_none) pa_nil))))
      (C8.pss_cut (ps_if (pt_cmp (pc_notN (pv 3))) (pss_one (ps_set (i := 8) sc__law_alternating.nd rfl (Or.inl rfl) (pe_ix (Z.ix (K := K) rfl) (pv 7) (pe_op Z.op_add (pv 3) pe_int) (fun _ _ => rfl)))) pss_nil)
      (C8.pss_cut (ps_if (pt_cmpR (Z.op_eq (K := K) rfl hr.units) (pe_op Z.op_mod (pe_op Z.op_sub (pe_callB (Z.call_len (K := K) rfl) (by rfl) T.n_len (by decide +kernel) (pa_cons (pv 6) pa_nil)) (pe_callB (Z.call_len (K := K) rfl) (by rfl) T.n_len (by decide +kernel) (pa_cons (pv 2) pa_nil))) pe_int) pe_int (nomark _)) (pss_one (ps_set (i := 8) sc__law_alternating.nd rfl (Or.inl rfl) (pe_un Z.un_neg (pv 8)))) pss_nil)
      (pss_one (ps_set (i := 4) sc__law_alternating.nd rfl (Or.inl rfl) (pe_call (ok__law_plus T) (hr.mono (by decide)) (by rfl) T.g__law_plus T.F__law_plus.kp T.b__law_plus .nil passL (pa_cons (pv 4) (pa_cons (pe_tup (pa_cons (pv 8) (pa_cons (pe_ix (Z.ix (K := K) rfl) (pv 7) pe_int (fun _ _ => rfl)) pa_nil))) pa_nil)))))))) pss_nil)))))
      (pss_one (ps_ret (pv 4))))), ?_⟩
    try dsimp only [cxOf, Cx.nox, Cx.wish]
    try (show (_ : TS) _ [some _, some _, some _, some _, none, none, none, none, none, none] _)
    walk_at "go"
    clear hr
    rename_i p1 H1 hn1 he1 hp1 J S
    refine Z.fg S (fun i σ G => ∃ (tt : Addr) (v5 v6 v7 v8 : Option V) (z : Int × Int), σ = [some (.ref p), some (.int m), some (.ref l), some tv, some (.ref tt), v5, v6, v7, v8, none] ∧ Ex H1 G ∧ Fr H tt ∧ At G tt (.tup [.int z.1, .int z.2]) ∧ PQ z (altS (tbSh (m : Int) rows) m lot pl i) (1 + i * 70)) ⟨p1, none, none, none, none, (0, 1), rfl, Ex.refl _, hn1, hp1, PQ.int (i := 0) (by decide) (by decide)⟩ (fun i σ' G _ _ => trivial) ?_ ?_
    · rintro i y σ' G G2 hi ⟨tt, v5, v6, v7, v8, z, rfl, eG, ft, htt, hz⟩ e2 rfl
      have hi2 : i < 2 ^ m := by omega
      have e12 := eG.trans e2
      have e02 := he1.trans e12
      obtain ⟨a, g1, g2⟩ := (hL.ex e02).2 i (by omega)
      have hp2 := e02.l hp
      have hl2 := e02.t hl
      have htt2 := e2.get htt
      have hx := ix_nat g1
      walk_at "go"
      rename_i p4 H4 other hn4 he4 hp4 hoth J3 S3
      have hot : other = lotI i m := by rw [hoth, Int.toNat_natCast, Int.toNat_natCast]; rfl
      subst hot
      refine Z.cgP S3 (fun j => decide (lot.getD j 0 ∈ lotI i m)) (fun j => V.int (lot.getD j 0)) (fun H' e => e.t (he4.t hl2)) (by rw [List.length_map]; show _ ≤ 16777216; omega) (fun Dl j z3 G3 hj ec cd hz3 hy3 => ?_) (fun p5 H5 hn5 he5 hp5 => ?_)
      · obtain ⟨hj2, rfl⟩ := get_int hy3
        have hp4c := ec.get hp4
        walk_at "go"
        by_cases h : lot.getD j 0 ∈ lotI i m
        · rw [decide_eq_true h, if_pos rfl, Z.fr_T (decide_eq_true h)]
          walk_at "go"
        · rw [decide_eq_false h, if_neg (by decide), Z.fr_F (decide_eq_false h)]
          exact cd
      · have e24 := he4.trans he5
        have g25 := e24.get g2
        have hp25 := e24.l hp2
        have hl25 := e24.t hl2
        have htt5 := e24.get htt2
        have hp45 := he5.get hp4
        have e15 := e12.trans e24
        have hrow := hrb _ (by rw [getD_get rows i [] (by omega)]; exact List.getElem_mem _ : rows.getD i [] ∈ rows)
        have h0 := hr0 i (by omega)
        have hcg := cnt_get (pl := pl) hg (by omega : i < rows.length) hrow.1 (by cases hpl <;> omega)
        have hfit : Fits (rows.getD i []) ((lotOf i m).map fun k : Nat => (k : Int)) m := by have := hg.2.2 i (by omega); rw [Int.toNat_natCast] at this; exact this
        have hS1 : altS (tbSh (m : Int) rows) m lot pl (i + 1) = altS (tbSh (m : Int) rows) m lot pl i + altQ (tbSh (m : Int) rows) m lot pl i := rfl
        have hcnt : (((List.range (lot.map V.int).length).filter fun j => decide (lot.getD j 0 ∈ lotI i m)).map fun j => V.int (lot.getD j 0)).length = lot.length ↔ ∀ t ∈ lot, t ∈ lotI i m := by
          rw [List.length_map, List.length_map]
          have hr : (List.range lot.length).length = lot.length := List.length_range
          constructor
          · intro h t ht
            have h2 := List.length_filter_eq_length_iff.mp (h.trans hr.symm)
            obtain ⟨j, hj, rfl⟩ := List.mem_iff_getElem.mp ht
            have h3 := h2 j (List.mem_range.mpr hj)
            rw [decide_eq_true_iff, getD_get _ _ _ hj] at h3
            exact h3
          · intro h
            conv => rhs; rw [← hr]
            refine List.length_filter_eq_length_iff.mpr fun j hj => ?_
            rw [List.mem_range] at hj
            rw [decide_eq_true_iff, getD_get _ _ _ hj]
            exact h _ (List.getElem_mem hj)
        generalize rows.getD i [] = r at *
        have hc0 : 0 ≤ cntI m pl r ∧ cntI m pl r < 2 ^ 60 := by
          have h : 0 < r.length := by omega
          have h2 := hrow.2 _ (List.getElem_mem h)
          rw [← getD_get r 0 0 h] at h2
          have h3 : 0 ≤ (r.drop 1).sum := sum_nnI fun x hx => (hrow.2 x (List.mem_of_mem_drop hx)).1
          unfold cntI
          by_cases c : pl = m
          · rw [if_pos c]
            have := hfit.2.2.1
            omega
          · rw [if_neg c]
            have hpm : pl ≤ m := by cases hpl <;> omega
            have h4 : pl + 1 < r.length := by omega
            rw [getD_get _ _ _ h4]
            exact hrow.2 _ (List.getElem_mem h4)
        have hr060 : r.getD 0 0 < 2 ^ 60 := by
          have h : 0 < r.length := by omega
          rw [getD_get _ _ _ h]
          exact (hrow.2 _ (List.getElem_mem h)).2
        clear hp4 hp2 hl2 htt2 g2
        generalize hcl : (((List.range (lot.map V.int).length).filter fun j => decide (lot.getD j 0 ∈ lotI i m)).map fun j => V.int (lot.getD j 0)) = cl at *
        have hcll : cl.length ≤ 1000 := by
          rw [← hcl, List.length_map]
          have := List.length_filter_le (fun j => decide (lot.getD j 0 ∈ lotI i m)) (List.range (lot.map V.int).length)
          rw [List.length_range, List.length_map] at this
          rw [List.length_map]
          omega
        walk_at "go"
        by_cases hsub : ∀ t ∈ lot, t ∈ lotI i m
        · have hce : (cl.length : Int) = (lot.length : Int) := by have := hcnt.mpr hsub; omega
          rw [decide_eq_true hce, if_pos rfl]
          have hQ : altQ (tbSh (m : Int) rows) m lot pl i = altX (tbSh (m : Int) rows) m lot pl i := if_pos hsub
          rw [hS1, hQ]
          walk_at "go"
          rename_i p6 H6 hn6 he6 hp6
          have hd1 : (Int.toNat 1) = 1 := rfl
          refine Z.w_cutI 8 (fun z => z = cntI m pl r) ?_ (fun cn hcn => ?_)
          · cases hpl with
            | non =>
              walk_at "go"
              refine ⟨rfl, _, ?_, rfl⟩
              unfold cntI
              rw [if_pos rfl]
              rfl
            | int _ hlt =>
              have e6 : ((pl : Int) + 1).toNat = pl + 1 := by omega
              walk_at "go"
              refine ⟨rfl, _, ?_, rfl⟩
              unfold cntI
              rw [if_neg (by omega)]
          simp only [List.set_cons_zero, List.set_cons_succ]
          have hlI := lotI_len i m
          have hp46 := he6.get hp45
          have hl26 := he6.t hl25
          refine Z.w_cutI 8 (fun z => PQ (z, r.getD 0 0) (altX (tbSh (m : Int) rows) m lot pl i) 61) ?_ (fun cs hcs => ?_)
          · have hb : cn.natAbs < 2 ^ 61 := by rw [hcn]; omega
            have hb2 : (r.getD 0 0).natAbs < 2 ^ 61 := by omega
            have hpq : PQ (cn, r.getD 0 0) ((shA (tbSh (m : Int) rows) (lotI i m)).getD pl 0) 61 := ⟨by rw [hcg, hcn], by show 0 < r.getD 0 0; omega, hb, hb2⟩
            walk_at "go"
            by_cases hodd : (((lotI i m).length : Int) - (lot.length : Int)) % 2 = 1
            · have hX : altX (tbSh (m : Int) rows) m lot pl i = - (shA (tbSh (m : Int) rows) (lotI i m)).getD pl 0 := if_pos hodd
              rw [decide_eq_true hodd, if_pos rfl, hX]
              walk_at "go"
              exact ⟨rfl, _, hpq.neg, rfl⟩
            · have hX : altX (tbSh (m : Int) rows) m lot pl i = (shA (tbSh (m : Int) rows) (lotI i m)).getD pl 0 := if_neg hodd
              rw [decide_eq_false hodd, if_neg (by decide), hX]
              walk_at "go"
              exact ⟨rfl, _, hpq, rfl⟩
          simp only [List.set_cons_zero, List.set_cons_succ]
          have g26 := he6.get g25
          have htt6 := he6.get htt5
          walk_at "go"
          rename_i p7 H7 hn7 he7 hp7
          have e17 := (e15.trans he6).trans he7
          have hib : 1 + i * 70 ≤ 1 + 64 * 70 := by have := Nat.mul_le_mul_right 70 (show i ≤ 64 by omega); omega
          refine ⟨tt, p7, z, (cs, r.getD 0 0), _, _, _, _, rfl, st_of (he7.get htt6), st_of hp7, hz, hcs, by omega, fun t9 H9 z9 hn9 he9 ht9 hz9 => ?_⟩
          walk_at "go"
          exact ⟨t9, _, _, _, _, z9, rfl, e17.trans he9, (he1.trans e17).back hn9, ht9, hz9.mono (by omega)⟩
        · have hce : ¬ (cl.length : Int) = (lot.length : Int) := fun h => hsub (hcnt.mp (by omega))
          rw [decide_eq_false hce, if_neg (by decide)]
          have hQ : altQ (tbSh (m : Int) rows) m lot pl i = 0 := if_neg hsub
          rw [hS1, hQ, Rat.add_zero]
          walk_at "go"
          exact ⟨tt, _, _, _, _, z, rfl, e15, ft, htt5, hz.mono (by omega)⟩
    · rintro σ' G ⟨tt, v5, v6, v7, v8, z, rfl, eG, ft, htt, hz⟩
      walk_at "go"
      rw [hxl, hrl] at hz
      exact k tt z G ft (he1.trans eG) htt (hz.mono (by omega))

/-- a table whose sums can be asked -/
structure TbA (K : PySem.W.Frag) (H : Hp) (x : Addr) (m : Nat) (sh : List Int → List Rat) : Prop where
  rep : Rep_Tabled K H x (m : Int) sh 64
  m6 : m ≤ 6
  aw : ∀ i, i < 2 ^ m → Sz (1 - (sh (lotI i m)).sum) 64
theorem TbA.ex {K : PySem.W.Frag} {H H' : Hp} {x : Addr} {m : Nat} {sh : List Int → List Rat} (h : TbA K H x m sh) (e : Ex H H') : TbA K H' x m sh := ⟨h.rep.ex e, h.m6, h.aw⟩
theorem TbA.cap {m : Nat} (h : m ≤ 6) : m * (64 + 66) + 66 ≤ 13400 ∧ 2 ^ m * (64 + 1) + 66 ≤ 13000 := by
  have h1 := Nat.mul_le_mul_right (64 + 66) h
  have h2 : (2 ^ m : Nat) ≤ 2 ^ 6 := Nat.pow_le_pow_right (by decide) h
  have h3 := Nat.mul_le_mul_right (64 + 1) h2
  omega
def sp__law_refuses (K : PySem.W.Frag) : Sp := fun vs H Q _ => ∃ (x l : Addr) (m : Nat) (sh : List Int → List Rat) (lot : List Int), vs = [.ref x, .ref l] ∧ TbA K H x m sh ∧ SqT K H l (lot.map V.int) ∧ ¬ IsLot (m : Int) lot ∧ ∀ H', Ex H H' → Q (.bl true) H'
theorem ok__law_refuses (T : Tx P K mg) : FnOk P w K mg base (L2.CX P w) 8 (He.ga K "_law_refuses") (Z.fdOf K (He.ga K "_law_refuses")) ["_law_table_here", "_law_lot_here"] (sp__law_refuses K) := by
  refine T.F__law_refuses.ok sc__law_refuses (fun vs H Q E h => ?_) (fun cdv A outer s H vs Q E hr h => ?_)
  · obtain ⟨x, l, m, sh, lot, rfl, _⟩ := h
    rfl
  · obtain ⟨x, l, m, sh, lot, rfl, hx, hl, hno, k⟩ := h
    obtain ⟨c1, c2⟩ := TbA.cap hx.m6
    have fx0 := T.exm_ShelfError_BadLot
    have fx1 := T.exm_ZeroBottom_BadLot
    have fx2 := T.exm_BadText_BadLot
    have fx3 := T.exm_BadLot_BadLot
    have fx4 := T.exm_TooMany_BadLot
    have fx5 := T.exm_BadTable_BadLot
    have fx6 := T.exm_NotLists_BadLot
    refine ⟨_, PSs.nox (pss_cons (Z.ps_tryO rfl rfl ⟨rfl, by decide, .inl T.g_BadLot⟩ takes0 (fun W pn xe tk _ => (pss_one (ps_expr (Z.pe_callZ (ok_alternating T) (hr.mono (by decide)) (by rfl) T.g_alternating T.F_alternating.kp T.b_alternating .nil (fun σ => passAt tk σ) (pa_cons (pv 0) (pa_cons (pv 1) (pa_cons pe_non pa_nil))))))) (fun a oe cls d pn hz hf => (pss_one (ps_ret pe_bl))))
      (pss_one (ps_ret pe_bl))), ?_⟩
    try dsimp only [cxOf, Cx.nox, Cx.wish]
    try (show (_ : TS) _ [some _, some _] _)
    walk_at "go"
    clear hr
    refine ⟨x, l, sh, m, 64, lot, _, 0, rfl, fun h => absurd h hno, hx.rep, hx.m6, by decide, c1, hx.aw, c2, hl, fun _ H1 e1 => ?_, fun h => absurd h hno⟩
    walk_at "run"
    exact k H1 e1

theorem w_catV {K : PySem.W.Frag} {H : Hp} {Q : VK} {a b : Addr} {xs ys : List V} (h1 : SqT K H a xs) (h2 : SqT K H b ys) (hz : xs.length + ys.length ≤ 16777216) (q : ∀ p H2, Ex H H2 → SqT K H2 p (xs ++ ys) → Q (.ref p) H2) : rCatA K (.ref a) (.ref b) H Q := by
  refine ⟨a, b, xs, ys, rfl, rfl, h1, h2, hz, fun e => ?_, fun _ e => ?_, fun _ _ p hp => q p _ (Ex.new hp) (st_of at_upd)⟩
  · have : xs = [] := by simpa using e
    subst this
    exact q b H (Ex.refl H) h2
  · have : ys = [] := by simpa using e
    subst this
    exact q a H (Ex.refl H) (by rw [List.append_nil]; exact h1)
def sp__law_right (K : PySem.W.Frag) : Sp := fun vs H Q _ => ∃ (x p l : Addr) (m : Nat) (xs : List V) (rows : List (List Int)) (lot : List Int), vs = [.ref x, .ref p, .int m, .ref l] ∧ TbA K H x m (tbSh (m : Int) rows) ∧ SqL K H p xs ∧ LLi H xs rows ∧ rows.length = 2 ^ m ∧ TGood (m : Int) rows ∧ m ≤ 6 ∧ (∀ r ∈ rows, r.length = m + 1 ∧ ∀ z ∈ r, 0 ≤ z ∧ z < 2 ^ 60) ∧ (∀ j, j < rows.length → 1 ≤ (rows.getD j []).getD 0 0) ∧ SqT K H l (lot.map V.int) ∧ IsLot (m : Int) lot ∧ ∀ H', Ex H H' → Q (.bl true) H'
theorem ok__law_right (T : Tx P K mg) : FnOk P w K mg base (L2.CX P w) 8 (He.ga K "_law_right") (Z.fdOf K (He.ga K "_law_right")) ["_law_table_here", "_law_rows", "_law_many", "_law_lot_here"] (sp__law_right K) := by
  refine T.F__law_right.ok sc__law_right (fun vs H Q E h => ?_) (fun cdv A outer s H vs Q E hr h => ?_)
  · obtain ⟨x, p, l, m, xs, rows, lot, rfl, _⟩ := h
    rfl
  · obtain ⟨x, p, l, m, xs, rows, lot, rfl, hx, hp, hL, hrl, hg, hm, hrb, hr0, hl, hlot, k⟩ := h
    have hll := hlot.len
    refine ⟨_, PSs.nox (pss_cons (ps_set (i := 4) sc__law_right.nd rfl (Or.inl rfl) (pe_op (Z.catA (K := K) rfl) (pe_tup (pa_cons pe_non pa_nil)) (pv 3)))
      (C8.pss_cut (ps_if (pt_cmpR Z.op_gt (pv 2) pe_int (nomark _)) (pss_one (ps_set (i := 4) sc__law_right.nd rfl (Or.inl rfl) (pe_op (Z.catA (K := K) rfl) (pe_tup (pa_cons pe_non pa_nil)) (pe_slice (Z.slA (K := K) rfl) (pv 3) po_none (po_some pe_int))))) pss_nil)
      (pss_cons (ps_for PassesOwn.never rfl (Z.piT (K := K) rfl (pv 4)) (pg_name (i := 5) sc__law_right.nd rfl (by first | exact Or.inl rfl | exact Or.inr rfl)) (pss_cons (ps_set (i := 6) sc__law_right.nd rfl (Or.inl rfl) (pe_call (ok__law_alternating T) (hr.mono (by decide)) (by rfl) T.g__law_alternating T.F__law_alternating.kp T.b__law_alternating .nil passL (pa_cons (pv 1) (pa_cons (pv 2) (pa_cons (pv 3) (pa_cons (pv 5) pa_nil))))))
      (pss_one (ps_if (pt_not (pt_val (pe_call (ok__law_same T) (hr.mono (by decide)) (by rfl) T.g__law_same T.F__law_same.kp T.b__law_same .nil passL (pa_cons (pe_call (ok_alternating T) (hr.mono (by decide)) (by rfl) T.g_alternating T.F_alternating.kp T.b_alternating .nil passL (pa_cons (pv 0) (pa_cons (pv 3) (pa_cons (pv 5) pa_nil)))) (pa_cons (pe_ix (Z.ix (K := K) rfl) (pv 6) pe_int (fun _ _ => rfl)) (pa_cons (pe_ix (Z.ix (K := K) rfl) (pv 6) pe_int (fun _ _ => rfl)) pa_nil)))))) (pss_one (ps_ret pe_bl)) pss_nil))))
      (pss_one (ps_ret pe_bl))))), ?_⟩
    try dsimp only [cxOf, Cx.nox, Cx.wish]
    try (show (_ : TS) _ [some _, some _, some _, some _, none, none, none] _)
    walk_at "go"
    clear hr
    rename_i p1 H1 hn1 he1 hp1
    obtain ⟨c1, c2⟩ := TbA.cap hm
    have hth : ∀ us : List Int, (∀ t ∈ us, t ∈ lot) → ∀ y ∈ ([V.non] ++ us.map V.int), ∃ pl, Pl m y pl := fun us hus y hy => by
      rcases List.mem_append.mp hy with h | h
      · rw [List.mem_singleton] at h
        exact ⟨m, by rw [h]; exact .non⟩
      · obtain ⟨t, ht, rfl⟩ := List.mem_map.mp h
        have := hlot.2 t (hus t ht)
        obtain ⟨u, rfl⟩ := Int.eq_ofNat_of_zero_le this.1
        exact ⟨u, .int u (by omega)⟩
    have hl1 := he1.t hl
    refine w_catV (st_of hp1) hl1 (by simp; omega) fun q2 H2 he2 hq2 => ?_
    have hl2 := he2.t hl1
    have hp2 := (he1.trans he2).l hp
    have hL2 := hL.ex (he1.trans he2)
    have hx2 := hx.ex (he1.trans he2)
    walk_at "go"
    refine Z.w_cutV 4 (fun w G => ∃ (ct : Addr) (us : List V), w = .ref ct ∧ SqT K G ct us ∧ us.length ≤ 1000 ∧ ∀ y ∈ us, ∃ pl, Pl m y pl) ?_ fun w G eG hw => ?_
    · walk_at "go"
      refine Z.w_dec (fun h => ?_) (fun h => ?_)
      · walk_at "go"
        rename_i p3 H3 hn3 he3 hp3 p4 H4 he4 hp4
        refine w_catV (st_of (he4.get hp3)) hp4 (by simp; omega) fun q5 H5 he5 hq5 => ?_
        exact ⟨(he3.trans he4).trans he5, _, ⟨q5, _, rfl, hq5, by simp; omega, hth _ fun t ht => List.mem_of_mem_take ht⟩, rfl⟩
      · walk_at "go"
        exact ⟨Ex.refl _, _, ⟨q2, _, rfl, hq2, by simp; omega, hth lot fun t ht => ht⟩, rfl⟩
    · obtain ⟨ct, us, rfl, hct, hul, hus⟩ := hw
      simp only [List.set_cons_zero, List.set_cons_succ]
      have hpG := eG.l hp2
      have hLG := hL2.ex eG
      have hxG := hx2.ex eG
      have hlG := eG.t hl2
      walk_at "go"
      rename_i J S
      refine Z.fg S (fun i σ G3 => ∃ (v5 v6 : Option V), σ = [some (.ref x), some (.ref p), some (.int m), some (.ref l), some (.ref ct), v5, v6] ∧ Ex G G3) ⟨none, none, rfl, Ex.refl _⟩ (fun i σ' G3 _ ⟨_, _, _, e⟩ => e.t hct) ?_ ?_
      · rintro i y σ' G3 G4 hi ⟨v5, v6, rfl, eG3⟩ e4 hy
        have e34 := eG3.trans e4
        obtain ⟨pl, hpl⟩ := hus y (List.mem_of_getElem? hy)
        walk_at "go"
        refine ⟨p, l, m, y, pl, xs, rows, lot, rfl, hpl, e34.l hpG, hLG.ex e34, hrl, hg, hm, hrb, hr0, e34.t hlG, hlot, fun t z H5 hn5 he5 ht hz => ?_⟩
        have e35 := e34.trans he5
        walk_at "go"
        have hx5 := hxG.ex e35
        refine ⟨x, l, _, m, 64, lot, y, pl, rfl, fun _ => hpl, hx5.rep, hm, by decide, c1, hx5.aw, c2, e35.t hlG, fun h => absurd hlot h, fun _ s H6 hn6 he6 hs => ?_⟩
        have ht6 := he6.get ht
        walk_at "go"
        refine u_sameT hs hz.2.1 hz.1 (bt_mono hz.2.2.1 (by decide)) (bt_mono hz.2.2.2 (by decide)) ?_
        walk_at "go"
        exact ⟨_, _, rfl, e35.trans he6⟩
      · rintro σ' G3 ⟨v5, v6, rfl, eG3⟩
        walk_at "go"
        exact k G3 (((he1.trans he2).trans eG).trans eG3)

def sp__law_classes (K : PySem.W.Frag) : Sp := fun vs H Q _ => ∃ (x l : Addr) (m : Nat) (sh : List Int → List Rat) (lot : List Int), vs = [.ref x, .ref l] ∧ TbA K H x m sh ∧ SqT K H l (lot.map V.int) ∧ ¬ IsLot (m : Int) lot ∧ ∀ p H', Fr H p → Ex H H' → At H' p (.lst [.bl true, .bl true, .bl false, .bl false]) → Q (.ref p) H'
theorem ok__law_classes (T : Tx P K mg) : FnOk P w K mg base (L2.CX P w) 8 (He.ga K "_law_classes") (Z.fdOf K (He.ga K "_law_classes")) ["_law_table_here", "_law_lot_here"] (sp__law_classes K) := by
  refine T.F__law_classes.ok sc__law_classes (fun vs H Q E h => ?_) (fun cdv A outer s H vs Q E hr h => ?_)
  · obtain ⟨x, l, m, sh, lot, rfl, _⟩ := h
    rfl
  · obtain ⟨x, l, m, sh, lot, rfl, hx, hl, hno, k⟩ := h
    obtain ⟨c1, c2⟩ := TbA.cap hx.m6
    have fx0 := T.exm_ShelfError_ShelfError
    have fx1 := T.exm_ZeroBottom_ShelfError
    have fx2 := T.exm_BadText_ShelfError
    have fx3 := T.exm_BadLot_ShelfError
    have fx4 := T.exm_TooMany_ShelfError
    have fx5 := T.exm_BadTable_ShelfError
    have fx6 := T.exm_NotLists_ShelfError
    have fx7 := T.ki_ShelfError_NotLists
    have fx8 := T.ec_ShelfError
    have fx9 := T.ki_ZeroBottom_NotLists
    have fx10 := T.ec_ZeroBottom
    have fx11 := T.ki_BadText_NotLists
    have fx12 := T.ec_BadText
    have fx13 := T.ki_BadLot_NotLists
    have fx14 := T.ec_BadLot
    have fx15 := T.ki_TooMany_NotLists
    have fx16 := T.ec_TooMany
    have fx17 := T.ki_BadTable_NotLists
    have fx18 := T.ec_BadTable
    have fx19 := T.ki_NotLists_NotLists
    have fx20 := T.ec_NotLists
    have fx21 := T.ki_ShelfError_BadTable
    have fx22 := T.ki_ZeroBottom_BadTable
    have fx23 := T.ki_BadText_BadTable
    have fx24 := T.ki_BadLot_BadTable
    have fx25 := T.ki_TooMany_BadTable
    have fx26 := T.ki_BadTable_BadTable
    have fx27 := T.ki_NotLists_BadTable
    have fx28 := T.ki_ShelfError_BadLot
    have fx29 := T.ki_ZeroBottom_BadLot
    have fx30 := T.ki_BadText_BadLot
    have fx31 := T.ki_BadLot_BadLot
    have fx32 := T.ki_TooMany_BadLot
    have fx33 := T.ki_BadTable_BadLot
    have fx34 := T.ki_NotLists_BadLot
    have fx35 := T.ki_ShelfError_ValueError
    have fx36 := T.ki_ZeroBottom_ValueError
    have fx37 := T.ki_BadText_ValueError
    have fx38 := T.ki_BadLot_ValueError
    have fx39 := T.ki_TooMany_ValueError
    have fx40 := T.ki_BadTable_ValueError
    have fx41 := T.ki_NotLists_ValueError
    refine ⟨_, PSs.nox (pss_cons (Z.ps_tryA (i := 2) rfl rfl sc__law_classes.nd rfl rfl ⟨rfl, by decide, .inl T.g_ShelfError⟩ takes0 (fun W pn xe tk _ => (pss_one (ps_expr (Z.pe_callZ (ok_alternating T) (hr.mono (by decide)) (by rfl) T.g_alternating T.F_alternating.kp T.b_alternating .nil (fun σ => passAt tk σ) (pa_cons (pv 0) (pa_cons (pv 1) (pa_cons pe_non pa_nil))))))) (fun a oe cls d pn hz hf => (pss_one (ps_ret (pe_lst (pa_cons (pe_callB (Z.call_isY hz hf) (by rfl) T.n_isinstance (by decide +kernel) (pa_cons (pv 2) (pa_cons (pe_bltn (v := .ty "ValueError") (u := .type "ValueError") (by rfl) T.n_ValueError (by decide +kernel) rfl) pa_nil))) (pa_cons (pe_callB (Z.call_isY hz hf) (by rfl) T.n_isinstance (by decide +kernel) (pa_cons (pv 2) (pa_cons (pe_glob (v := .ref (He.ga K "BadLot")) (by rfl) T.g_BadLot rfl) pa_nil))) (pa_cons (pe_callB (Z.call_isY hz hf) (by rfl) T.n_isinstance (by decide +kernel) (pa_cons (pv 2) (pa_cons (pe_glob (v := .ref (He.ga K "BadTable")) (by rfl) T.g_BadTable rfl) pa_nil))) (pa_cons (pe_callB (Z.call_isY hz hf) (by rfl) T.n_isinstance (by decide +kernel) (pa_cons (pv 2) (pa_cons (pe_glob (v := .ref (He.ga K "NotLists")) (by rfl) T.g_NotLists rfl) pa_nil))) pa_nil)))))))))
      (pss_one (ps_ret (pe_lst pa_nil)))), ?_⟩
    try dsimp only [cxOf, Cx.nox, Cx.wish]
    try (show (_ : TS) _ [some _, some _, none] _)
    walk_at "go"
    clear hr
    refine ⟨x, l, sh, m, 64, lot, _, 0, rfl, fun h => absurd h hno, hx.rep, hx.m6, by decide, c1, hx.aw, c2, hl, fun _ H1 e1 => ?_, fun h => absurd h hno⟩
    walk_at "run"
    rename_i p2 H2 hn2 he2 hp2
    exact k p2 H2 (e1.back hn2) (e1.trans he2) hp2

theorem TErr.ok48 {K : PySem.W.Frag} {n : Int} {rows : List (List Int)} {E : XK} {H : Hp} (hg : TGood n rows) : TErr K n rows E H := ⟨fun h => by have := hg.1; omega, fun v hv => by
  cases hv with
  | len h1 h2 => exact absurd hg.2.1 h2
  | row h1 h2 i hi hw hb => exact absurd (hg.2.2 i hi) hw⟩
theorem tba48 {K : PySem.W.Frag} {H : Hp} {x : Addr} {m : Nat} {rows : List (List Int)} (hT : TdR K H x (m : Int) rows) (hg : TGood (m : Int) rows) (hm : m ≤ 6) (hrl : rows.length = 2 ^ m) (hb : ∀ r ∈ rows, r.length = m + 1 ∧ ∀ z ∈ r, 0 ≤ z ∧ z < 2 ^ 60) : TbA K H x m (tbSh (m : Int) rows) ∧ ∀ j, j < rows.length → 1 ≤ (rows.getD j []).getD 0 0 := by
  have hfit : ∀ j, j < rows.length → Fits (rows.getD j []) ((lotOf j m).map fun k : Nat => (k : Int)) m := fun j hj => by
    have := hg.2.2 j hj
    rw [Int.toNat_natCast] at this
    exact this
  refine ⟨⟨⟨rows, 60, hT, hg, by omega, rfl, fun r hr z hz => by have := (hb r hr).2 z hz; omega, by decide, by decide, by decide⟩, hm, fun i hi => ?_⟩, fun j hj => (hfit j hj).2.1⟩
  have hi2 : i < rows.length := by omega
  have h1 : 1 - (tbSh (m : Int) rows (lotI i m)).sum = Rat.divInt ((rows.getD i []).getD 0 0 - ((rows.getD i []).drop 1).sum) ((rows.getD i []).getD 0 0) := tbAway hg hi2
  rw [h1]
  have hr : rows.getD i [] ∈ rows := by rw [getD_get _ _ _ hi2]; exact List.getElem_mem hi2
  have hf := hfit i hi2
  have hlen := (hb _ hr).1
  have h0 : 0 < (rows.getD i []).length := by omega
  have h2 := (hb _ hr).2 _ (List.getElem_mem h0)
  rw [← getD_get (rows.getD i []) 0 0 h0] at h2
  have h3 : 0 ≤ ((rows.getD i []).drop 1).sum := sum_nnI fun x hx => ((hb _ hr).2 x (List.mem_of_mem_drop hx)).1
  have h4 := hf.2.2.1
  have h5 := hf.2.1
  exact sz_div (by omega) (by omega) (by omega)
def sp_law (K : PySem.W.Frag) : Sp := fun vs H Q _ => ∃ (a : Addr) (ns : List Int), vs = [.ref a] ∧ SqL K H a (ns.map V.int) ∧ ∀ H', Q (.bl true) H'
theorem ok_law (T : Tx P K mg) : FnOk P w K mg base CX0 9 (He.ga K "law") (Z.fdOf K (He.ga K "law")) ["_law_script"] (sp_law K) := by
  refine T.F_law.ok sc_law (fun vs H Q E h => ?_) (fun cdv A outer s H vs Q E hr h => ?_)
  · obtain ⟨a, ns, rfl, _⟩ := h
    rfl
  · obtain ⟨a, ns, rfl, hS, k⟩ := h
    refine ⟨_, PSs.nox (pss_cons (ps_set (i := 1) sc_law.nd rfl (Or.inl rfl) (pe_call (ok__law_draws T) (hr.mono (by decide)) (by rfl) T.g__law_draws T.F__law_draws.kp T.b__law_draws .nil passL (pa_cons (pe_call (ok__law_cell T) (hr.mono (by decide)) (by rfl) T.g__law_cell T.F__law_cell.kp T.b__law_cell .nil passL (pa_cons (pv 0) (pa_cons pe_int pa_nil))) (pa_cons (pe_lst (pa_cons pe_int (pa_cons pe_int (pa_cons pe_int pa_nil)))) pa_nil))))
      (pss_cons (ps_set (i := 2) sc_law.nd rfl (Or.inl rfl) (pe_ix (Z.ix (K := K) rfl) (pe_lst (pa_cons pe_int (pa_cons pe_int (pa_cons pe_int (pa_cons pe_int (pa_cons pe_int (pa_cons pe_int (pa_cons pe_int (pa_cons pe_int (pa_cons pe_int (pa_cons pe_int (pa_cons pe_int (pa_cons pe_int (pa_cons pe_int (pa_cons pe_int (pa_cons pe_int (pa_cons pe_int pa_nil))))))))))))))))) (pe_ix (Z.ix (K := K) rfl) (pv 1) pe_int (fun _ _ => rfl)) (fun _ _ => rfl)))
      (pss_cons (ps_set (i := 3) sc_law.nd rfl (Or.inl rfl) (pe_call (ok__law_lot T) (hr.mono (by decide)) (by rfl) T.g__law_lot T.F__law_lot.kp T.b__law_lot .nil passL (pa_cons (pe_ix (Z.ix (K := K) rfl) (pv 1) pe_int (fun _ _ => rfl)) (pa_cons (pv 2) pa_nil))))
      (pss_cons (ps_set (i := 4) sc_law.nd rfl (Or.inl rfl) (pe_call (ok__law_table T) (hr.mono (by decide)) (by rfl) T.g__law_table T.F__law_table.kp T.b__law_table .nil passL (pa_cons (pe_call (ok__law_cell T) (hr.mono (by decide)) (by rfl) T.g__law_cell T.F__law_cell.kp T.b__law_cell .nil passL (pa_cons (pv 0) (pa_cons pe_int pa_nil))) (pa_cons (pv 2) pa_nil))))
      (pss_cons (ps_set (i := 5) sc_law.nd rfl (Or.inl rfl) (pe_call (ok__law_table T) (hr.mono (by decide)) (by rfl) T.g__law_table T.F__law_table.kp T.b__law_table .nil passL (pa_cons (pe_call (ok__law_cell T) (hr.mono (by decide)) (by rfl) T.g__law_cell T.F__law_cell.kp T.b__law_cell .nil passL (pa_cons (pv 0) (pa_cons pe_int pa_nil))) (pa_cons (pv 2) pa_nil))))
      (pss_cons (ps_setLc (i := 6) (own := [("_law_row", 10)]) rfl sc_law.nd rfl rfl (sw_true rfl rfl rfl (by decide +kernel)) (Z.piL (K := K) rfl (pv 4)) (blkOk_by (N := ["_law_script", "_law_d", "_law_many", "_law_lot_here", "_law_first", "_law_second", "_law_passed", "_law_one", "_law_two", "_law_none", "_law_row"]) (sc := defScope s_law) (by decide +kernel)) (fun _ _ _ _ _ => (pg_name (i := 10) sc_law.nd rfl (by first | exact Or.inl rfl | exact Or.inr rfl))) (fun _ _ _ _ _ => pts_nil) (fun _ _ _ _ _ => (pe_callTy (Z.call_list (K := K) rfl) (by rfl) T.n_list (by decide +kernel) (pa_cons (pv 10) pa_nil))))
      (pss_cons (ps_set (i := 7) sc_law.nd rfl (Or.inl rfl) (pe_make T.mk_Tabled (ok_Tabled___init__ T) (hr.mono (by decide)) (by rfl) T.g_Tabled T.b_Tabled___init__ .nil passL (pa_cons (pv 2) (pa_cons (pv 6) pa_nil))))
      (pss_cons (ps_set (i := 8) sc_law.nd rfl (Or.inl rfl) (pe_make T.mk_Tabled (ok_Tabled___init__ T) (hr.mono (by decide)) (by rfl) T.g_Tabled T.b_Tabled___init__ .nil passL (pa_cons (pv 2) (pa_cons (pe_lc (own := [("_law_row", 10)]) rfl sc_law.nd (Z.piL (K := K) rfl (pv 5)) (blkOk_by (N := ["_law_script", "_law_d", "_law_many", "_law_lot_here", "_law_first", "_law_second", "_law_passed", "_law_one", "_law_two", "_law_none", "_law_row"]) (sc := defScope s_law) (by decide +kernel)) (fun _ _ _ _ _ => (pg_name (i := 10) sc_law.nd rfl (by first | exact Or.inl rfl | exact Or.inr rfl))) (fun _ _ _ _ _ => pts_nil) (fun _ _ _ _ _ => (pe_callTy (Z.call_list (K := K) rfl) (by rfl) T.n_list (by decide +kernel) (pa_cons (pv 10) pa_nil)))) pa_nil))))
      (pss_cons (ps_if (PW.pt (pw_or (pt_not (pt_val (pe_call (ok__law_right T) (hr.mono (by decide)) (by rfl) T.g__law_right T.F__law_right.kp T.b__law_right .nil passL (pa_cons (pv 7) (pa_cons (pv 4) (pa_cons (pv 2) (pa_cons (pv 3) pa_nil))))))) (pw_or1 (pt_not (pt_val (pe_call (ok__law_right T) (hr.mono (by decide)) (by rfl) T.g__law_right T.F__law_right.kp T.b__law_right .nil passL (pa_cons (pv 8) (pa_cons (pv 5) (pa_cons (pv 2) (pa_cons (pv 3) pa_nil)))))))))) (pss_one (ps_ret pe_bl)) pss_nil)
      (pss_cons (ps_set (i := 9) sc_law.nd rfl (Or.inl rfl) (pe_call (ok__law_no_lot T) (hr.mono (by decide)) (by rfl) T.g__law_no_lot T.F__law_no_lot.kp T.b__law_no_lot .nil passL (pa_cons (pv 3) (pa_cons (pv 2) (pa_cons (pe_ix (Z.ix (K := K) rfl) (pv 1) pe_int (fun _ _ => rfl)) pa_nil)))))
      (pss_cons (ps_if (PW.pt (pw_or (pt_not (pt_val (pe_call (ok__law_refuses T) (hr.mono (by decide)) (by rfl) T.g__law_refuses T.F__law_refuses.kp T.b__law_refuses .nil passL (pa_cons (pv 7) (pa_cons (pv 9) pa_nil))))) (pw_or1 (pt_cmpR (Z.op_ne (K := K) rfl hr.units) (pe_call (ok__law_classes T) (hr.mono (by decide)) (by rfl) T.g__law_classes T.F__law_classes.kp T.b__law_classes .nil passL (pa_cons (pv 8) (pa_cons (pv 9) pa_nil))) (pe_lst (pa_cons pe_bl (pa_cons pe_bl (pa_cons pe_bl (pa_cons pe_bl pa_nil))))) (nomark _))))) (pss_one (ps_ret pe_bl)) pss_nil)
      (pss_one (ps_ret (pe_and (pe_call (ok__law_right T) (hr.mono (by decide)) (by rfl) T.g__law_right T.F__law_right.kp T.b__law_right .nil passL (pa_cons (pv 7) (pa_cons (pv 4) (pa_cons (pv 2) (pa_cons (pv 3) pa_nil))))) (pe_one (pe_cmpR (Z.op_eq (K := K) rfl hr.units) (pv 6) (pv 4) (nomark _))))))))))))))))), ?_⟩
    try dsimp only [cxOf, Cx.nox, Cx.wish]
    try (show (_ : TS) _ [some _, none, none, none, none, none, none, none, none, none, none] _)
    walk_at "go"
    clear hr
    rename_i c0 p1 H1 hn1 he1 hp1 p2 H2 ds hn2 he2 hp2 hd hb p9 H9 hn9 he9 hp9
    have hd0 : 0 ≤ ds.getD 0 0 ∧ ds.getD 0 0 < 16 := hb.2.1
    have hd1 : 0 ≤ ds.getD 1 0 ∧ ds.getD 1 0 < 64 := hb.2.2.1
    have hdl : ds.length = 3 := hb.1
    have hall : ∀ n, n < 16 → 0 ≤ ([0, 1, 2, 3, 4, 1, 2, 3, 4, 2, 3, 4, 3, 4, 5, 6] : List Int).getD n 0 ∧ ([0, 1, 2, 3, 4, 1, 2, 3, 4, 2, 3, 4, 3, 4, 5, 6] : List Int).getD n 0 ≤ 6 := by decide
    have hM := hall (ds.getD 0 0).toNat (by omega)
    generalize ([0, 1, 2, 3, 4, 1, 2, 3, 4, 2, 3, 4, 3, 4, 5, 6] : List Int).getD (ds.getD 0 0).toNat 0 = M at *
    obtain ⟨m, rfl⟩ := Int.eq_ofNat_of_zero_le hM.1
    have hm : m ≤ 6 := by omega
    have hpw : (2 ^ m : Nat) ≤ 2 ^ 6 := Nat.pow_le_pow_right (by decide) hm
    have hS9 := ((he1.trans he2).trans he9).l hS
    have hp29 := he9.get hp2
    clear hb hd hp1 hp2 hp9 hS hall
    refine u_lot hd1.1 (by omega) (by omega) fun p3 H3 lot hn3 he3 hp3 hlot0 => ?_
    have hlot : IsLot (m : Int) lot := by rw [hlot0, Int.toNat_natCast]; exact lotOf_isLot _ m
    have hll := hlot.len
    have hS3 := he3.l hS9
    have hp23 := he3.get hp29
    clear hS9 hp29
    walk_at "go"
    refine ⟨_, m, rfl, hm, fun pF HF xF rF hnF heF hpF hLF hrlF hrbF hrFF => ?_⟩
    have hgF : TGood (m : Int) rF := ⟨by omega, by rw [Int.toNat_natCast, hrlF], fun j hj => by rw [Int.toNat_natCast]; exact hrFF j hj⟩
    have hSF := heF.l hS3
    walk_at "go"
    refine ⟨_, m, rfl, hm, fun pG HG xG rG hnG heG hpG hLG hrlG hrbG hrFG => ?_⟩
    have hgG : TGood (m : Int) rG := ⟨by omega, by rw [Int.toNat_natCast, hrlG], fun j hj => by rw [Int.toNat_natCast]; exact hrFG j hj⟩
    have hpFG := heG.get hpF
    have hLFG := hLF.ex heG
    have hxlF := hLF.1
    have hxlG := hLG.1
    have e3G := heF.trans heG
    have hp3G := e3G.get hp3
    have hp2G := e3G.get hp23
    clear hpF hLF hp3 hp23 hSF hS3
    walk_at "go"
    rename_i J1 S1
    refine Z.cgX S1 (fun i acc H' => LLi H' acc (rF.take i)) (fun H' e => LLi.nil) (fun i acc A B h e => h.ex e) (fun H' e => e.l (sq_of hpFG)) (by show _ ≤ 16777216; omega) (fun Dl i y G acc hi ec cd hal hP hy => ?_) (fun pP HP xP hnP heP hpP hlP hPP => ?_) rfl
    · obtain ⟨ar, g1, g2⟩ := (hLFG.ex ec).2 i (by omega)
      rw [hy] at g1
      cases g1
      have hrl : (rF.getD i []).length ≤ 1000 := by
        have := (hrbF (rF.getD i []) (by rw [getD_get rF i [] (by omega)]; exact List.getElem_mem _)).1
        omega
      walk_at "go"
      rename_i pq Hq hnq heq hpq
      exact elxL (fun i => rF.take i) cd hal (by rw [hal]; show i < 16777216; omega) heq hP (take_snoc (show i < rF.length by omega) []) hpq (fun z => by subst z; have := hnq.symm.trans cd.at_; cases this)
    rw [hxlF, List.take_length] at hPP
    have hpF1 := heP.get hpFG
    have hLF1 := hLFG.ex heP
    have hpG1 := heP.get hpG
    have hLG1 := hLG.ex heP
    have hp31 := heP.get hp3G
    have hp21 := heP.get hp2G
    clear hpFG hLFG hpG hLG hp3G hp2G
    walk_at "go"
    refine mkTd hpP hPP (by omega) (by omega) (fun r hr z hz => by have := (hrbF r hr).2 z hz; omega) (TErr.ok48 hgF) fun _ x1 HX hnX heX hT1 => ?_
    have hpPX := heX.get hpP
    have hPPX := hPP.ex heX
    have hpFX := heX.get hpF1
    have hLFX := hLF1.ex heX
    have hpGX := heX.get hpG1
    have hLGX := hLG1.ex heX
    have hp3X := heX.get hp31
    have hp2X := heX.get hp21
    clear hpP hPP hpF1 hLF1 hpG1 hLG1 hp31 hp21
    walk_at "go"
    rename_i J2 S2
    refine Z.cgX S2 (fun i acc H' => LLi H' acc (rG.take i)) (fun H' e => LLi.nil) (fun i acc A B h e => h.ex e) (fun H' e => e.l (sq_of hpGX)) (by show _ ≤ 16777216; omega) (fun Dl i y G acc hi ec cd hal hP hy => ?_) (fun pU HU xU hnU heU hpU hlU hPU => ?_) rfl
    · obtain ⟨ar, g1, g2⟩ := (hLGX.ex ec).2 i (by omega)
      rw [hy] at g1
      cases g1
      have hrl : (rG.getD i []).length ≤ 1000 := by
        have := (hrbG (rG.getD i []) (by rw [getD_get rG i [] (by omega)]; exact List.getElem_mem _)).1
        omega
      walk_at "go"
      rename_i pq Hq hnq heq hpq
      exact elxL (fun i => rG.take i) cd hal (by rw [hal]; show i < 16777216; omega) heq hP (take_snoc (show i < rG.length by omega) []) hpq (fun z => by subst z; have := hnq.symm.trans cd.at_; cases this)
    rw [hxlG, List.take_length] at hPU
    walk_at "go"
    refine mkTd hpU hPU (by omega) (by omega) (fun r hr z hz => by have := (hrbG r hr).2 z hz; omega) (TErr.ok48 hgG) fun _ x2 HY hnY heY hT2 => ?_
    have eXY := heU.trans heY
    have hpPY := eXY.get hpPX
    have hPPY := hPPX.ex eXY
    have hpFY := eXY.get hpFX
    have hLFY := hLFX.ex eXY
    have hpGY := eXY.get hpGX
    have hLGY := hLGX.ex eXY
    have hp3Y := eXY.get hp3X
    have hp2Y := eXY.get hp2X
    obtain ⟨hA1, h01⟩ := tba48 (hT1.ex eXY) hgF hm hrlF hrbF
    obtain ⟨hA2, h02⟩ := tba48 hT2 hgG hm hrlG hrbG
    clear hpPX hPPX hpFX hLFX hpGX hLGX hp3X hp2X hpU hPU hT1 hT2
    walk_at "go"
    refine ⟨x1, pF, p3, m, xF, rF, lot, rfl, hA1, sq_of hpFY, hLFY, hrlF, hgF, hm, hrbF, h01, st_of hp3Y, hlot, fun H20 e20 => ?_⟩
    walk_at "go"
    refine ⟨x2, pG, p3, m, xG, rG, lot, rfl, hA2.ex e20, sq_of (e20.get hpGY), hLGY.ex e20, hrlG, hgG, hm, hrbG, h02, st_of (e20.get hp3Y), hlot, fun H21 e21 => ?_⟩
    have e2021 := e20.trans e21
    have hp321 := e2021.get hp3Y
    have hp221 := e2021.get hp2Y
    walk_at "go"
    refine ⟨p3, lot, m, _, rfl, st_of hp321, hlot, by omega, fun pn Hn ms en hn hno hml => ?_⟩
    walk_at "go"
    refine ⟨x1, pn, m, _, ms, rfl, (hA1.ex e2021).ex en, hn, hno, fun H22 e22 => ?_⟩
    have e2022 := (e2021.trans en).trans e22
    walk_at "go"
    refine ⟨x2, pn, m, _, ms, rfl, hA2.ex e2022, e22.t hn, hno, fun p23 H23 n23 e23 hp23 => ?_⟩
    have e2023 := e2022.trans e23
    walk_at "go"
    rename_i p24 H24 n24 e24 hp24
    have e2024 := e2023.trans e24
    refine ⟨x1, pF, p3, m, xF, rF, lot, rfl, hA1.ex e2024, sq_of (e2024.get hpFY), hLFY.ex e2024, hrlF, hgF, hm, hrbF, h01, st_of (e2024.get hp3Y), hlot, fun H25 e25 => ?_⟩
    have e2025 := e2024.trans e25
    have hpP25 := e2025.get hpPY
    have hPP25 := hPPY.ex e2025
    have hpF25 := e2025.get hpFY
    have hLF25 := hLFY.ex e2025
    walk_at "go"
    refine w_eqLL (sq_of hpP25) (sq_of hpF25) hPP25 hLF25 ?_
    rw [decide_eq_true rfl]
    exact k _

end R
theorem PySem.Challenge.cw_dearestshelf_k48_alternating_sums_holds : PySem.Challenge.rw_dearestshelf_k48_alternating_sums.Holds := by
  exact R.fin fun T => R.ok_law T
