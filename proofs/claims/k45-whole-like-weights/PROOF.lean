import PyProof.Rows.All
import Wide.All
import OpenK.AllK
import Wide.FinOn
import PyProof.EqAt
import PyProof.EqKinds
import PyProof.TupleCall
import HandS.ForMost
import HandS.ForExc
import HandS.Wide
import HandS.WideBits
import HandS.Gcd
import HandS.Defaults
import HandS.IsInst
import HandS.More
import HandS.Flow
import HandS.Codes
import HandS.SlotsOwn
import HandS.WordsExc
import HandS.Head0
import HandS.Head1
import HandS.Head2
import HandS.HeadEnd
import HandS.HeadHook1
import HandS.HeadHook2
import HandS.Head3
import HandS.CallSlots
import HandS.ExcIs
import HandS.TryOnly
import HandS.Style
import HandS.TupAny
import HandS.SortInts
import HandS.ClsMeth
import HandS.HeadNt
import HandS.Nested
import HandS.ExcInit
import KE.KSuper
import KE.KExcIs
import HandS.ExcField
import KE.KExcSuper
import KE.KTupSum
import HandS.MakeKwOnly
import KE.GoesEnum
import HandS.Zip
import HandS.Star
import HandS.Strs
import HandS.Conv
import PySem.Challenge.RW_dearestshelf_k45_whole_like_weights
set_option Elab.async false
set_option linter.all false
set_option maxRecDepth 100000
set_option maxHeartbeats 40000000
namespace Z
open PySem L2
/-! ### what stands at an address; what stood stands -/
/-- o stands at a -/
def At (H : Hp) (a : Addr) (o : HO) : Prop := H a = some o
/-- a is free -/
def Fr (H : Hp) (a : Addr) : Prop := H a = none
theorem At.ne {H : Hp} {a b : Addr} {o : HO} (h : At H a o) (f : Fr H b) : a ≠ b := ne_of_none h f
theorem At.inj {H : Hp} {a : Addr} {o o' : HO} (h : At H a o) (h' : At H a o') : o = o' := Option.some.inj ((show H a = some o from h).symm.trans h')
theorem At.l {H : Hp} {a : Addr} {xs ys : List V} (h : At H a (.lst xs)) (e : xs = ys) : At H a (.lst ys) := e ▸ h
theorem At.t {H : Hp} {a : Addr} {xs ys : List V} (h : At H a (.tup xs)) (e : xs = ys) : At H a (.tup ys) := e ▸ h
theorem at_upd {H : Hp} {a : Addr} {o : HO} : At (upd H a o) a o := upd_same
/-- one step: what stood stands -/
class Ex (H H' : Hp) : Prop where
  get : ∀ {a : Addr} {o : HO}, At H a o → At H' a o
theorem Ex.refl (H : Hp) : Ex H H := ⟨fun h => h⟩
theorem Ex.trans {H H1 H2 : Hp} (a : Ex H H1) (b : Ex H1 H2) : Ex H H2 := ⟨fun h => b.get (a.get h)⟩
theorem Ex.new {H : Hp} {p : Addr} {o : HO} (h : Fr H p) : Ex H (upd H p o) := ⟨fun e => by
  show upd H p o _ = _
  rw [upd_ne (ne_of_none e h)]; exact e⟩
/-- an object that H does not know may change -/
theorem Ex.mut {H H' : Hp} {p : Addr} {o : HO} (e : Ex H H') (h : Fr H p) : Ex H (upd H' p o) := ⟨fun ha => by
  show upd H' p o _ = _
  rw [upd_ne (ne_of_none ha h)]; exact e.get ha⟩
theorem Ex.rd {H H' : Hp} {a : Addr} {u : HO} (e : Ex H H') (h : Rd H a u) : Rd H' a u := by
  rcases h with h | ⟨o, h⟩
  · exact Or.inl (e.get h)
  · exact Or.inr ⟨o, e.get h⟩
theorem Ex.l {K : PySem.W.Frag} {H H' : Hp} {a : Addr} {xs : List V} (e : Ex H H') (h : SqL K H a xs) : SqL K H' a xs := by
  rcases h with h | h
  · exact Or.inl (e.rd h)
  · exact Or.inr h
theorem Ex.t {K : PySem.W.Frag} {H H' : Hp} {a : Addr} {xs : List V} (e : Ex H H') (h : SqT K H a xs) : SqT K H' a xs := by
  rcases h with h | h
  · exact Or.inl (e.rd h)
  · exact Or.inr h
theorem Ex.back {H H' : Hp} {p : Addr} (e : Ex H H') (h : Fr H' p) : Fr H p := by
  cases h1 : H p with
  | none => exact h1
  | some o =>
    have z := e.get h1
    unfold At at z
    unfold Fr at h
    rw [z] at h
    cases h
/-- any number of steps -/
class Exs (H H' : Hp) : Prop where
  ex : Ex H H'
set_option synthInstance.checkSynthOrder false in
instance Exs.step {H H1 H2 : Hp} [b : Ex H1 H2] [a : Exs H H1] : Exs H H2 := ⟨a.ex.trans b⟩
instance Exs.here {H : Hp} : Exs H H := ⟨Ex.refl H⟩
theorem exE {H H' : Hp} (e : Exs H H') : Ex H H' := e.ex
theorem getE {H H' : Hp} {a : Addr} {o : HO} (h : At H a o) (e : Exs H H') : At H' a o := e.ex.get h
theorem frE {H H' : Hp} {a : Addr} (h : Fr H' a) (e : Exs H H') : Fr H a := e.ex.back h
theorem kmut {H H' H0 : Hp} {a : Addr} (hk : ∀ H0, Ex H0 H → Fr H0 a → Ex H0 H') (n : Fr H0 a) (e : Exs H0 H) : Ex H0 H' := hk H0 e.ex n
theorem sq_of {K : PySem.W.Frag} {H : Hp} {a : Addr} {xs : List V} (h : At H a (.lst xs)) : SqL K H a xs := Or.inl (Or.inl h)
theorem st_of {K : PySem.W.Frag} {H : Hp} {a : Addr} {xs : List V} (h : At H a (.tup xs)) : SqT K H a xs := Or.inl (Or.inl h)
section
variable {K : PySem.W.Frag} {H H' : Hp} {a : Addr} {xs : List V}
theorem lE (h : SqL K H a xs) (e : Exs H H') : SqL K H' a xs := e.ex.l h
theorem lA (h : At H a (.lst xs)) (e : Exs H H') : SqL K H' a xs := e.ex.l (sq_of h)
theorem tE (h : SqT K H a xs) (e : Exs H H') : SqT K H' a xs := e.ex.t h
theorem tA (h : At H a (.tup xs)) (e : Exs H H') : SqT K H' a xs := e.ex.t (st_of h)
end
/-- one step: all but lists stands -/
class Nl (H1 H2 : Hp) : Prop where
  get : ∀ {a : Addr} {o : HO}, (∀ l, o ≠ HO.lst l) → At H1 a o → At H2 a o
theorem Ex.nl {H1 H2 : Hp} (e : Ex H1 H2) : Nl H1 H2 := ⟨fun _ h => e.get h⟩
theorem Nl.trans {H1 H2 H3 : Hp} (a : Nl H1 H2) (b : Nl H2 H3) : Nl H1 H3 := ⟨fun h e => b.get h (a.get h e)⟩
theorem Nl.refl (H : Hp) : Nl H H := ⟨fun _ h => h⟩
theorem Nl.upd {H : Hp} {p : Addr} {xs ys : List V} (h : At H p (.lst xs)) : Nl H (upd H p (.lst ys)) := ⟨fun {a} {o} ho e => by
  show L2.upd H p _ a = _
  rw [upd_ne (fun z => ho xs (by subst z; exact (h.inj e).symm))]; exact e⟩
theorem Nl.of_other {H H2 : Hp} {p : Addr} {xs : List V} (h : At H p (.lst xs)) (ho : ∀ b o, b ≠ p → At H b o → At H2 b o) : Nl H H2 := ⟨fun {a} {o} hk e => ho a o (fun z => hk xs (by subst z; exact (h.inj e).symm)) e⟩
class Nls (H H' : Hp) : Prop where
  nl : Nl H H'
set_option synthInstance.checkSynthOrder false in
instance Nls.stepE {H H1 H2 : Hp} [b : Ex H1 H2] [a : Nls H H1] : Nls H H2 := ⟨a.nl.trans b.nl⟩
set_option synthInstance.checkSynthOrder false in
instance Nls.step {H H1 H2 : Hp} [b : Nl H1 H2] [a : Nls H H1] : Nls H H2 := ⟨a.nl.trans b⟩
instance Nls.here {H : Hp} : Nls H H := ⟨Nl.refl H⟩
theorem getTN {H H' : Hp} {a : Addr} {xs : List V} (h : At H a (.tup xs)) (e : Nls H H') : At H' a (.tup xs) := e.nl.get (fun l z => by cases z) h
theorem tNA {K : PySem.W.Frag} {H H' : Hp} {a : Addr} {xs : List V} (h : At H a (.tup xs)) (e : Nls H H') : SqT K H' a xs := st_of (getTN h e)
theorem getIN {H H' : Hp} {a C d : Addr} {fs : List (Str × V)} (h : At H a (.ins C d fs)) (e : Nls H H') : At H' a (.ins C d fs) := e.nl.get (fun l z => by cases z) h
/-! ### the row's defs by their names -/
abbrev FnP (K : PySem.W.Frag) (x : Str) (st : Stmt) (f : Addr) (fd : FuncData) : Prop := FunD K x x (defArgs st) (defBody st) (defScope st) [] [] f fd
def noFd : FuncData := PySem.W.fnOf "" "" { posonlyargs := [], args := [], vararg := none, kwonlyargs := [], kw_defaults := [], kwarg := none, defaults := [] } [] { kind := .function, names := [], isGenerator := false, isCoroutine := false } .none .none .none .none none .none .none
def fdOf (K : PySem.W.Frag) (a : Addr) : FuncData := match K.lookup a with
  | some ⟨_, _, .func fd, _⟩ => fd
  | _ => noFd
theorem fd_of {K : PySem.W.Frag} {x qual : Str} {params : Arguments} {body : List Stmt} {scope : Scope} {dvs : List V} {kws : List (Str × V)} {f : Addr} (h : ∃ fd, FunD K x qual params body scope dvs kws f fd) : FunD K x qual params body scope dvs kws f (fdOf K f) := by
  obtain ⟨fd, F⟩ := h
  have e : fdOf K f = fd := by
    obtain ⟨_, _, _, _, _, _, _, _, _, _, _, lk, _⟩ := F.ex
    unfold fdOf
    rw [lk]
  rw [e]
  exact F
/-! ### one step of a reading -/
def nT (Q : VK) : List V → Hp → Prop := fun xs H1 => xs.length ≤ sizeLine ∧ ∀ p, Fr H1 p → Q (.ref p) (upd H1 p (.tup xs))
def nL (Q : VK) : List V → Hp → Prop := fun xs H1 => xs.length ≤ sizeLine ∧ ∀ p, Fr H1 p → Q (.ref p) (upd H1 p (.lst xs))
section
variable {K : PySem.W.Frag} {σ : L2.St} {H H' : Hp} {Q : VK} {v x y : V} {ta tb te tc : TE} {r : R2} {D : Ends} {t u : TS} {c c1 c2 : TT} {ts : TA}
theorem w_var {i : Nat} (h : σ[i]? = some (some v)) (q : Q v H) : tVar i σ H Q := ⟨v, h, q⟩
theorem w_c (q : Q v H) : tC v σ H Q := q
theorem w_op (h : ta σ H fun x H1 => tb σ H1 fun y H2 => r x y H2 Q) : tOp r ta tb σ H Q := h
theorem w_un {r : V → Hp → VK → Prop} (h : ta σ H fun x H1 => r x H1 Q) : tUn r ta σ H Q := h
theorem w_cb {r : List V → Hp → VK → Prop} (h : ts σ H fun vs H1 => r vs H1 Q) : tCB r ts σ H Q := h
theorem w_nil {Q : List V → Hp → Prop} (h : Q [] H) : tNil σ H Q := h
theorem w_cons {Q : List V → Hp → Prop} (h : ta σ H fun x H1 => ts σ H1 fun xs H2 => Q (x :: xs) H2) : tCons ta ts σ H Q := h
theorem w_tup (h : ts σ H (nT Q)) : tTup ts σ H Q := h
theorem w_lst (h : ts σ H (nL Q)) : tLst ts σ H Q := h
theorem w_call {sp : Sp} {dvs : List V} {E : XK} (h : ts σ H fun vs H1 => sp (vs ++ dvs) H1 Q E) : tCall sp dvs E ts σ H Q := h
theorem w_call0 {sp : Sp} {E : XK} (h : ts σ H fun vs H1 => sp vs H1 Q E) : tCall sp [] E ts σ H Q := by
  show ts σ H fun vs H1 => sp (vs ++ []) H1 Q E
  simp only [List.append_nil]
  exact h
theorem w_test {Q : Bool → Hp → Prop} (h : te σ H fun x H1 => ∃ k, x = .bl k ∧ Q k H1) : tTest te σ H Q := h
theorem w_B {Q : Bool → Hp → Prop} (h : te σ H fun x H1 => ∃ k, x = .bl k ∧ Q k H1) : tB te σ H Q := h
theorem w_bl {R : Bool → Prop} {k : Bool} (h : R k) : ∃ k', (V.bl k) = .bl k' ∧ R k' := ⟨k, rfl, h⟩
theorem w_and {Q : Bool → Hp → Prop} (h : c1 σ H fun b H1 => if b = true then c2 σ H1 Q else Q false H1) : tAnd c1 c2 σ H Q := h
theorem w_or {Q : Bool → Hp → Prop} (h : c1 σ H fun b H1 => if b = true then Q true H1 else c2 σ H1 Q) : tOr c1 c2 σ H Q := h
theorem w_not {Q : Bool → Hp → Prop} (h : c σ H fun b H1 => Q (!b) H1) : tNot c σ H Q := h
theorem w_andV (h : ta σ H fun x H1 => ∃ k, x = .bl k ∧ if k = true then tb σ H1 Q else Q (.bl false) H1) : tAndV ta tb σ H Q := h
theorem w_orV (h : ta σ H fun x H1 => ∃ k, x = .bl k ∧ if k = true then Q (.bl true) H1 else tb σ H1 Q) : tOrV ta tb σ H Q := h
theorem w_notV (h : ta σ H fun x H1 => ∃ k, x = .bl k ∧ Q (.bl (!k)) H1) : tNotV ta σ H Q := h
theorem w_ifE (h : c σ H fun b H1 => if b = true then ta σ H1 Q else tb σ H1 Q) : tIf c ta tb σ H Q := h
theorem w_isN (h : ta σ H fun x H1 => Q (.bl (decide (x = .non))) H1) : tIsN ta σ H Q := h
theorem w_notN (h : ta σ H fun x H1 => Q (.bl (!decide (x = .non))) H1) : tNotN ta σ H Q := h
theorem w_seq (h : t ⟨u D, D.rt, D.bk, D.ct⟩ σ H) : tSeq t u D σ H := h
theorem w_asg {g : TG} (h : te σ H fun x H1 => g x σ H1 D.nx) : tAsg te g D σ H := h
theorem w_gn {i : Nat} {R : L2.St → Hp → Prop} (h : R (σ.set i (some v)) H) : gName i v σ H R := h
theorem w_ret (h : te σ H D.rt) : tRet te D σ H := h
theorem w_retN (h : D.rt .non H) : tRetN D σ H := h
theorem w_drop (h : te σ H fun _ H1 => D.nx σ H1) : tDrop te D σ H := h
theorem w_next (h : D.nx σ H) : tNext D σ H := h
theorem w_brk (h : D.bk σ H) : tBreak D σ H := h
theorem w_cnt (h : D.ct σ H) : tCont D σ H := h
theorem w_if (h : c σ H fun b H1 => if b = true then t D σ H1 else u D σ H1) : tIfS c t u D σ H := h
theorem w_par {i j : Nat} (h : ts σ H fun vs H1 => ∃ v w, vs = [v, w] ∧ D.nx ((σ.set i (some v)).set j (some w)) H1) : tPar i j ts D σ H := h
theorem w_exP {R : V → V → Prop} (h : R v x) : ∃ v' x', [v, x] = [v', x'] ∧ R v' x' := ⟨v, x, rfl, h⟩
theorem w_cut (Mid : L2.St → Hp → Prop) (h : t ⟨Mid, D.rt, D.bk, D.ct⟩ σ H) (k : ∀ σ' H', Mid σ' H' → u D σ' H') : C8.tCut t u D σ H := ⟨Mid, h, k⟩
theorem w_nx {f : L2.St → Hp → Prop} {g : VK} {bk ct : L2.St → Hp → Prop} (h : f σ H) : Ends.nx ⟨f, g, bk, ct⟩ σ H := h
theorem w_bk {f : L2.St → Hp → Prop} {g : VK} {bk ct : L2.St → Hp → Prop} (h : bk σ H) : Ends.bk ⟨f, g, bk, ct⟩ σ H := h
theorem w_ct {f : L2.St → Hp → Prop} {g : VK} {bk ct : L2.St → Hp → Prop} (h : ct σ H) : Ends.ct ⟨f, g, bk, ct⟩ σ H := h
theorem w_rt {f : L2.St → Hp → Prop} {g : VK} {bk ct : L2.St → Hp → Prop} (h : g v H) : Ends.rt ⟨f, g, bk, ct⟩ v H := h
theorem w_aug {i : Nat} {ti : TIp} {z : V} (h : σ[i]? = some (some z)) (q : te σ H fun y H1 => ti z y H1 fun z H2 => D.nx (σ.set i (some z)) H2) : tAug i te ti D σ H := ⟨z, h, q⟩
theorem w_ipI {f : Int → Int → Int} {i j : Int} (q : Q (.int (f i j)) H) : ipI f (.int i) (.int j) H Q := ⟨i, j, rfl, rfl, q⟩
theorem w_I0 {g : Int → Int → V} {i j : Int} (q : Q (g i j) H) : rI0 g (.int i) (.int j) H Q := ⟨i, j, rfl, rfl, q⟩
theorem w_I {C : Int → Int → Prop} {g : Int → Int → V} {i j : Int} (hc : C i j) (q : Q (g i j) H) : rI C g (.int i) (.int j) H Q := ⟨i, j, rfl, rfl, hc, q⟩
theorem w_pow {i j z : Int} (hc : CPow i j) (hz : i ^ j.toNat = z) (q : Q (.int z) H) : rI CPow (fun i j => .int (i ^ j.toNat)) (.int i) (.int j) H Q := ⟨i, j, rfl, rfl, hc, by show Q (.int (i ^ j.toNat)) H; rw [hz]; exact q⟩
theorem w_U {g : Int → V} {i : Int} (q : Q (g i) H) : rU g (.int i) H Q := ⟨i, rfl, q⟩
theorem w_eqI {i j : Int} (q : Q (.bl (decide (i = j))) H) : rEq (.int i) (.int j) H Q := ⟨rfl, by
  have e : decide (V.int i = V.int j) = decide (i = j) := by simp
  rw [e]; exact q⟩
theorem w_neI {i j : Int} (q : Q (.bl (!decide (i = j))) H) : rNe (.int i) (.int j) H Q := ⟨rfl, by
  have e : decide (V.int i = V.int j) = decide (i = j) := by simp
  rw [e]; exact q⟩
theorem w_eqS {i j : Str} (q : Q (.bl (decide (i = j))) H) : rEq (.str i) (.str j) H Q := ⟨rfl, by
  have e : decide (V.str i = V.str j) = decide (i = j) := by simp
  rw [e]; exact q⟩
theorem w_neS {i j : Str} (q : Q (.bl (!decide (i = j))) H) : rNe (.str i) (.str j) H Q := ⟨rfl, by
  have e : decide (V.str i = V.str j) = decide (i = j) := by simp
  rw [e]; exact q⟩
theorem w_isB {a b : Bool} (q : Q (.bl (decide (a = b))) H) : rIsB (.bl a) (.bl b) H Q := ⟨a, b, rfl, rfl, q⟩
theorem w_isnB {a b : Bool} (q : Q (.bl (!decide (a = b))) H) : rNotB (.bl a) (.bl b) H Q := ⟨a, b, rfl, rfl, q⟩
/-! tests -/
theorem w_dec {p : Prop} [Decidable p] {A B : Prop} (h1 : p → A) (h2 : ¬ p → B) : if decide p = true then A else B := by
  by_cases h : p
  · rw [decide_eq_true h]; exact h1 h
  · rw [decide_eq_false h]; exact h2 h
theorem w_ndec {p : Prop} [Decidable p] {A B : Prop} (h1 : ¬ p → A) (h2 : p → B) : if (!decide p) = true then A else B := by
  by_cases h : p
  · rw [decide_eq_true h]; exact h2 h
  · rw [decide_eq_false h]; exact h1 h
theorem w_decT {p : Prop} [Decidable p] {A B : Prop} (hp : p) (h : A) : if decide p = true then A else B := w_dec (fun _ => h) (fun n => absurd hp n)
theorem w_decF {p : Prop} [Decidable p] {A B : Prop} (hp : ¬ p) (h : B) : if decide p = true then A else B := w_dec (fun n => absurd n hp) (fun _ => h)
theorem w_ndecT {p : Prop} [Decidable p] {A B : Prop} (hp : ¬ p) (h : A) : if (!decide p) = true then A else B := w_ndec (fun _ => h) (fun n => absurd n hp)
theorem w_ndecF {p : Prop} [Decidable p] {A B : Prop} (hp : p) (h : B) : if (!decide p) = true then A else B := w_ndec (fun n => absurd hp n) (fun _ => h)
theorem w_bool {b : Bool} {A B : Prop} (h1 : b = true → A) (h2 : b = false → B) : if b = true then A else B := by
  cases b
  · exact h2 rfl
  · exact h1 rfl
theorem w_nbool {b : Bool} {A B : Prop} (h1 : b = false → A) (h2 : b = true → B) : if (!b) = true then A else B := by
  cases b
  · exact h1 rfl
  · exact h2 rfl
theorem w_T {A B : Prop} (h : A) : if true = true then A else B := h
theorem w_F {A B : Prop} (h : B) : if false = true then A else B := h
theorem w_nT {A B : Prop} (h : B) : if (!true) = true then A else B := h
theorem w_nF {A B : Prop} (h : A) : if (!false) = true then A else B := h

/-! new objects: the heap behind is named, what is known of it is said -/
theorem w_newT {xs : List V} (hz : xs.length ≤ sizeLine) (q : ∀ p H2, Fr H p → Ex H H2 → At H2 p (.tup xs) → Q (.ref p) H2) : nT Q xs H :=
  ⟨hz, fun p hp => q p _ hp (Ex.new hp) upd_same⟩
theorem w_newL {xs : List V} (hz : xs.length ≤ sizeLine) (q : ∀ p H2, Fr H p → Ex H H2 → At H2 p (.lst xs) → Q (.ref p) H2) : nL Q xs H :=
  ⟨hz, fun p hp => q p _ hp (Ex.new hp) upd_same⟩
end
/-! ### operators of several kinds -/
/-- a product that the model reckons -/
def CM (i j : Int) : Prop := CMul i j ∨ CMulX i j
theorem CM.of_left {i j : Int} (h : i.natAbs < 2 ^ 64) : CM i j := .inl (.inl ⟨by omega, by omega⟩)
theorem CM.of_right {i j : Int} (h : j.natAbs < 2 ^ 64) : CM i j := .inl (.inr ⟨by omega, by omega⟩)
theorem CM.of_pow {i j : Int} {a b : Nat} (ha : i.natAbs < 2 ^ a) (hb : j.natAbs < 2 ^ b) (h : a + b ≤ 134217728) : CM i j := .inr (mulx_ok ha hb h)
/-- bits of ints -/
theorem bt_mul {a b : Int} {n m : Nat} (ha : a.natAbs < 2 ^ n) (hb : b.natAbs < 2 ^ m) : (a * b).natAbs < 2 ^ (n + m) := by
  rw [Int.natAbs_mul, Nat.pow_add]
  exact Nat.mul_lt_mul'' ha hb
theorem bt_mono {a : Int} {n m : Nat} (ha : a.natAbs < 2 ^ n) (h : n ≤ m) : a.natAbs < 2 ^ m := Nat.lt_of_lt_of_le ha (Nat.pow_le_pow_right (by decide) h)
theorem bt_add {a b : Int} {n m : Nat} (ha : a.natAbs < 2 ^ n) (hb : b.natAbs < 2 ^ m) : (a + b).natAbs < 2 ^ (n + m + 1) := by
  have h := Int.natAbs_add_le a b
  have h1 : a.natAbs < 2 ^ (n + m) := bt_mono ha (by omega)
  have h2 : b.natAbs < 2 ^ (n + m) := bt_mono hb (by omega)
  rw [Nat.pow_succ]
  omega
theorem bt_addL {a b : Int} {n m k : Nat} (ha : a.natAbs < 2 ^ n) (hb : b.natAbs < 2 ^ m) (h1 : n ≤ k) (h2 : m ≤ k) : (a + b).natAbs < 2 ^ (k + 1) := by
  have h := Int.natAbs_add_le a b
  have h1 : a.natAbs < 2 ^ k := bt_mono ha h1
  have h2 : b.natAbs < 2 ^ k := bt_mono hb h2
  rw [Nat.pow_succ]
  omega
theorem bt_neg {a : Int} {n : Nat} (ha : a.natAbs < 2 ^ n) : (-a).natAbs < 2 ^ n := by rw [Int.natAbs_neg]; exact ha
theorem bt_sub {a b : Int} {n m : Nat} (ha : a.natAbs < 2 ^ n) (hb : b.natAbs < 2 ^ m) : (a - b).natAbs < 2 ^ (n + m + 1) := by
  rw [Int.sub_eq_add_neg]; exact bt_add ha (bt_neg hb)
theorem bt_subL {a b : Int} {n m k : Nat} (ha : a.natAbs < 2 ^ n) (hb : b.natAbs < 2 ^ m) (h1 : n ≤ k) (h2 : m ≤ k) : (a - b).natAbs < 2 ^ (k + 1) := by
  rw [Int.sub_eq_add_neg]; exact bt_addL ha (bt_neg hb) h1 h2
theorem bt_abs {a : Int} {n : Nat} (ha : a.natAbs < 2 ^ n) : ((a.natAbs : Int)).natAbs < 2 ^ n := by rw [Int.natAbs_natCast]; exact ha
theorem bt_fdiv {a b : Int} {n : Nat} (ha : a.natAbs < 2 ^ n) : (a / b).natAbs < 2 ^ n := Nat.lt_of_le_of_lt (Int.natAbs_ediv_le_natAbs _ _) ha
theorem cm {a b : Int} {n m : Nat} (ha : a.natAbs < 2 ^ n) (hb : b.natAbs < 2 ^ m) (h : n + m ≤ 100000) : CM a b := CM.of_pow ha hb (by omega)
def rInt1 : List V → Hp → VK → Prop := fun xs H Q => (∃ i, xs = [.int i] ∧ Q (.int i) H) ∨ ∃ k, xs = [.bl k] ∧ Q (.int (if k then 1 else 0)) H
def rTupOf (K : PySem.W.Frag) : List V → Hp → VK → Prop := fun xs H Q => ∃ p ys, xs = [.ref p] ∧ ((SqL K H p ys ∧ ∀ l, Fr H l → Q (.ref l) (upd H l (.tup ys))) ∨ (SqT K H p ys ∧ Q (.ref p) H))
def rListOf (K : PySem.W.Frag) : List V → Hp → VK → Prop := fun xs H Q => ∃ p ys, xs = [.ref p] ∧ (SqL K H p ys ∨ SqT K H p ys) ∧ ∀ l, Fr H l → Q (.ref l) (upd H l (.lst ys))
def rIns : V → List V → Hp → VK → Prop := fun x vs H Q => ∃ (l : Addr) (xs : List V) (i : Int) (y : V), x = .ref l ∧ vs = [.int i, y] ∧ At H l (.lst xs) ∧ xs.length < sizeLine ∧ 0 ≤ i ∧ i < 2 ^ 63 ∧ Q .non (upd H l (.lst (xs.take i.toNat ++ [y] ++ xs.drop i.toNat)))
def rShl : R2 := fun x y H Q => ∃ k : Nat, x = .int 1 ∧ y = .int (k : Int) ∧ k ≤ 134217727 ∧ Q (.int (2 ^ k)) H
def rShr : R2 := fun x y H Q => ∃ (n k : Nat), x = .int (n : Int) ∧ y = .int (k : Int) ∧ Q (.int ((n / 2 ^ k : Nat) : Int)) H
def rOdd : R2 := fun x y H Q => ∃ n : Nat, x = .int (n : Int) ∧ y = .int 1 ∧ Q (.int ((n % 2 : Nat) : Int)) H
def rMax2 : List V → Hp → VK → Prop := fun xs H Q => ∃ i j, xs = [.int i, .int j] ∧ Q (.int (if j > i then j else i)) H
def rMin2 : List V → Hp → VK → Prop := fun xs H Q => ∃ i j, xs = [.int i, .int j] ∧ Q (.int (if j < i then j else i)) H
def rAddZ : R2 := fun x y H Q => (rI0 fun i j => .int (i + j)) x y H Q ∨ rCat x y H Q
def rMulZ : R2 := fun x y H Q => rI CMul (fun i j => .int (i * j)) x y H Q ∨ rI CMulX (fun i j => .int (i * j)) x y H Q
def rEqZ (K : PySem.W.Frag) : R2 := fun x y H Q => rEq x y H Q ∨ rEqD K x y H Q
def rNeZ (K : PySem.W.Frag) : R2 := fun x y H Q => rNe x y H Q ∨ rNeD K x y H Q
section
variable {X : Cx}
theorem op_add : OpR X (binaryOp .Add) rAddZ := L2.op_add.or op_cat
theorem op_sub : OpR X (binaryOp .Sub) (rI0 fun i j => .int (i - j)) := L2.op_sub
theorem op_mul : OpR X (binaryOp .Mult) rMulZ := L2.op_mul.or op_mulX
theorem op_fdiv : OpR X (binaryOp .FloorDiv) (rI CDivW fun i j => .int (i / j)) := op_fdivW
theorem op_mod : OpR X (binaryOp .Mod) (rI (fun _ j => 0 < j) fun i j => .int (i % j)) := L2.op_mod
theorem un_neg : UnR X (unaryOp .USub) (rU fun i => .int (-i)) := L2.un_neg
theorem op_lt : OpR X (compareOp .Lt) (rI0 fun i j => .bl (decide (i < j))) := L2.op_lt
theorem op_le : OpR X (compareOp .LtE) (rI0 fun i j => .bl (decide (i ≤ j))) := L2.op_le
theorem op_gt : OpR X (compareOp .Gt) (rI0 fun i j => .bl (decide (j < i))) := L2.op_gt
theorem op_ge : OpR X (compareOp .GtE) (rI0 fun i j => .bl (decide (j ≤ i))) := L2.op_ge
theorem call_max2 (hc : X.calm = true) : CallR X (.builtin "max") rMax2 := L2.call_max2 hc
theorem call_min2 (hc : X.calm = true) : CallR X (.builtin "min") rMin2 := L2.call_min2 hc
theorem op_shl : OpR X (binaryOp .LShift) rShl := op_oneShl
theorem op_shr : OpR X (binaryOp .RShift) rShr := by
  intro pins s σ H x y u v Q I rx ry h
  obtain ⟨n, k, rfl, rfl, q⟩ := h
  refine op_shrN pins s σ H _ _ u v Q I rx ry ⟨(n : Int), k, rfl, rfl, ?_⟩
  have e : (n : Int) / 2 ^ k = ((n / 2 ^ k : Nat) : Int) := by rw [Int.natCast_ediv, Int.natCast_pow]; rfl
  rw [e]
  exact q
theorem op_and1 : OpR X (binaryOp .BitAnd) rOdd := op_odd
variable {K : PySem.W.Frag}
theorem op_eq (hK : X.K = K) (hu : X.A.units + 64 < cLine) : OpR X (compareOp .Eq) (rEqZ K) := hK ▸ L2.op_eq.or (op_eqD hu)
theorem op_ne (hK : X.K = K) (hu : X.A.units + 64 < cLine) : OpR X (compareOp .NotEq) (rNeZ K) := hK ▸ L2.op_ne.or (op_neD hu)
theorem op_in (hK : X.K = K) : OpR X (compareOp .In) (rIn K false) := hK ▸ op_in_seq
theorem op_notin (hK : X.K = K) : OpR X (compareOp .NotIn) (rIn K true) := hK ▸ op_notIn_seq
theorem ix (hK : X.K = K) : IxR X (rIx K) := hK ▸ ix_seq
theorem slL (hK : X.K = K) : SlR X (rSlL K) := hK ▸ sl_list
theorem slT (hK : X.K = K) : SlR X (rSlT K) := hK ▸ sl_tup
theorem call_len (hK : X.K = K) : CallR X (.builtin "len") (rLen K) := hK ▸ L2.call_len
theorem mt_ins : MtR X "list.insert" rIns := mt_insert
theorem call_int : CallR X (.type "int") rInt1 := call_int1
theorem call_tuple (hK : X.K = K) : CallR X (.type "tuple") (rTupOf K) := hK ▸ call_tuple_of
theorem call_list (hK : X.K = K) : CallR X (.type "list") (rListOf K) := hK ▸ call_list_of
theorem call_isi (hK : X.K = K) : CallR X (.builtin "isinstance") (rIsi K) := hK ▸ L2.call_isi
/-- sum of a list or a tuple of ints -/
def rSumA (K : PySem.W.Frag) : List V → Hp → VK → Prop := fun vs H Q => ∃ (a : Addr) (ns : List Int), vs = [V.ref a] ∧ (SqL K H a (ns.map V.int) ∨ SqT K H a (ns.map V.int)) ∧ Q (.int ns.sum) H
theorem call_sum (hK : X.K = K) (hc : X.calm = true) : CallR X (.builtin "sum") (rSumA K) := by
  subst hK
  intro pins s σ H vs us Q I r h
  obtain ⟨a, ns, rfl, hs, q⟩ := h
  rw [Vals.ref1 r]
  rcases hs with hs | hs
  · obtain ⟨its, rv, hl, _⟩ := I.list hs
    exact sum_raw (I.ok.hd hc) hl.isList rv.ints fun h' tk t' hk => ⟨.int _, H, I.kept hk, ⟨_, rfl⟩, q⟩
  · obtain ⟨its, rv, p, hz⟩ := I.tuple hs
    have hi := rv.ints
    obtain ⟨xs, e⟩ := hi.allInts.items
    have hn : numsOf (PySem.intItems xs).toList = ns := by rw [← e]; exact hi.numsOf
    rw [nums_intItems] at hn
    have p2 : s.heap.IsTuple a its.toArray := p
    rw [e] at p2
    refine PySem.W.ktm_sumG (I.ok.hd hc) p2 fun h' tk t' hk => ?_
    rw [PySem.preSum_eq, List.take_of_length_le (by simp), hn]
    exact ⟨.int _, H, I.kept hk, ⟨_, rfl⟩, q⟩
theorem call_min (hK : X.K = K) (hc : X.calm = true) : CallR X (.builtin "min") (rMin K) := hK ▸ cr_min hc
theorem call_max (hK : X.K = K) (hc : X.calm = true) : CallR X (.builtin "max") (rMax K) := hK ▸ cr_max hc
theorem call_any (hK : X.K = K) (hc : X.calm = true) : CallR X (.builtin "any") (rAny K) := hK ▸ cr_any hc
theorem call_all (hK : X.K = K) (hc : X.calm = true) : CallR X (.builtin "all") (rAll K) := hK ▸ cr_all hc
theorem call_sorted (hK : X.K = K) : CallR X (.builtin "sorted") (rSorted K) := hK ▸ cr_sorted
theorem piL (hK : X.K = K) {tg l : Expr} {tl : TE} (hl : PE X l tl) : PI X tg l (iList K tl) := hK ▸ pi_list hl
theorem piT (hK : X.K = K) {tg l : Expr} {tl : TE} (hl : PE X l tl) : PI X tg l (iTup K tl) := hK ▸ pi_tup hl
theorem fld (hK : X.K = K) {e : Expr} {ta : TE} {f : Str} {pos : Pos} (he : PE X e ta) (hb : attributeBase e f X.env (eval e X.env) = eval e X.env) : PE X (.Attribute e f pos) (tFld K ta f) := hK ▸ pe_fld he hb
theorem con (hK : X.K = K) {e : Expr} {ta : TE} {f : Str} {pos : Pos} (he : PE X e ta) (hb : attributeBase e f X.env (eval e X.env) = eval e X.env) : PE X (.Attribute e f pos) (tCon K ta f) := hK ▸ pe_con he hb
end
section
variable {K : PySem.W.Frag} {σ : L2.St} {H H' : Hp} {Q : VK} {v x y : V} {a b p : Addr} {xs ys : List V} {i j : Int}
theorem w_addI (q : Q (.int (i + j)) H) : rAddZ (.int i) (.int j) H Q := .inl ⟨i, j, rfl, rfl, q⟩
theorem w_addL (h1 : At H a (.lst xs)) (h2 : At H b (.lst ys)) (hz : xs.length + ys.length ≤ sizeLine) (q : ∀ p H2, Fr H p → Ex H H2 → At H2 p (.lst (xs ++ ys)) → Q (.ref p) H2) : rAddZ (.ref a) (.ref b) H Q :=
  .inr ⟨a, b, xs, ys, rfl, rfl, h1, h2, hz, fun p hp => q p _ hp (Ex.new hp) upd_same⟩
theorem w_mulI (hc : CM i j) (q : Q (.int (i * j)) H) : rMulZ (.int i) (.int j) H Q := hc.elim (fun h => .inl ⟨i, j, rfl, rfl, h, q⟩) fun h => .inr ⟨i, j, rfl, rfl, h, q⟩
theorem w_eqZI (q : Q (.bl (decide (i = j))) H) : rEqZ K (.int i) (.int j) H Q := .inl (w_eqI q)
theorem w_neZI (q : Q (.bl (!decide (i = j))) H) : rNeZ K (.int i) (.int j) H Q := .inl (w_neI q)
theorem w_eqZS {i j : Str} (q : Q (.bl (decide (i = j))) H) : rEqZ K (.str i) (.str j) H Q := .inl (w_eqS q)
theorem w_neZS {i j : Str} (q : Q (.bl (!decide (i = j))) H) : rNeZ K (.str i) (.str j) H Q := .inl (w_neS q)
theorem w_int1 (q : Q (.int i) H) : rInt1 [.int i] H Q := .inl ⟨i, rfl, q⟩
theorem w_tupL (h : SqL K H a xs) (q : ∀ p H2, Fr H p → Ex H H2 → At H2 p (.tup xs) → Q (.ref p) H2) : rTupOf K [.ref a] H Q := ⟨a, xs, rfl, .inl ⟨h, fun p hp => q p _ hp (Ex.new hp) upd_same⟩⟩
theorem w_tupT (h : SqT K H a xs) (q : Q (.ref a) H) : rTupOf K [.ref a] H Q := ⟨a, xs, rfl, .inr ⟨h, q⟩⟩
theorem w_listL (h : SqL K H a xs) (q : ∀ p H2, Fr H p → Ex H H2 → At H2 p (.lst xs) → Q (.ref p) H2) : rListOf K [.ref a] H Q := ⟨a, xs, rfl, .inl h, fun p hp => q p _ hp (Ex.new hp) upd_same⟩
theorem w_listT (h : SqT K H a xs) (q : ∀ p H2, Fr H p → Ex H H2 → At H2 p (.lst xs) → Q (.ref p) H2) : rListOf K [.ref a] H Q := ⟨a, xs, rfl, .inr h, fun p hp => q p _ hp (Ex.new hp) upd_same⟩
theorem w_lenL (h : SqL K H a xs) (q : Q (.int xs.length) H) : rLen K [.ref a] H Q := ⟨_, _, rfl, .inl ⟨xs, h, rfl⟩, q⟩
theorem w_lenT (h : SqT K H a xs) (q : Q (.int xs.length) H) : rLen K [.ref a] H Q := ⟨_, _, rfl, .inr ⟨xs, h, rfl⟩, q⟩
theorem w_lenLI {ns : List Int} (h : SqL K H a (ns.map V.int)) (q : Q (.int ns.length) H) : rLen K [.ref a] H Q := w_lenL h (by rw [List.length_map]; exact q)
theorem w_lenTI {ns : List Int} (h : SqT K H a (ns.map V.int)) (q : Q (.int ns.length) H) : rLen K [.ref a] H Q := w_lenT h (by rw [List.length_map]; exact q)
theorem atI_int {ns : List Int} (h0 : 0 ≤ i) (h1 : i < ns.length) : atI (ns.map V.int) i = some (.int (ns.getD i.toNat 0)) := by
  unfold atI ixN
  rw [if_pos h0, List.length_map, if_pos h1]
  show (ns.map V.int)[i.toNat]? = _
  have h : i.toNat < ns.length := by omega
  rw [List.getElem?_map, List.getD_eq_getElem?_getD, List.getElem?_eq_getElem h]
  rfl
theorem w_ixLI {ns : List Int} {k : Nat} (h : SqL K H a (ns.map V.int)) (hk : i.toNat = k) (h0 : 0 ≤ i) (h1 : i < ns.length) (q : Q (.int (ns.getD k 0)) H) : rIx K (.ref a) (.int i) H Q := .inl ⟨a, _, i, _, rfl, rfl, h, atI_int h0 h1, hk ▸ q⟩
theorem w_ixTI {ns : List Int} {k : Nat} (h : SqT K H a (ns.map V.int)) (hk : i.toNat = k) (h0 : 0 ≤ i) (h1 : i < ns.length) (q : Q (.int (ns.getD k 0)) H) : rIx K (.ref a) (.int i) H Q := .inr (.inl ⟨a, _, i, _, rfl, rfl, h, atI_int h0 h1, hk ▸ q⟩)
theorem w_ixL (h : SqL K H a xs) (ha : atI xs i = some v) (q : Q v H) : rIx K (.ref a) (.int i) H Q := .inl ⟨a, _, i, _, rfl, rfl, h, ha, q⟩
theorem w_ixT (h : SqT K H a xs) (ha : atI xs i = some v) (q : Q v H) : rIx K (.ref a) (.int i) H Q := .inr (.inl ⟨a, _, i, _, rfl, rfl, h, ha, q⟩)
theorem w_bm {T : String} {r : V → List V → Hp → VK → Prop} {to : TE} {t : TA} (h : to σ H fun x H1 => tyV K T x H1 ∧ t σ H1 fun xs H2 => r x xs H2 Q) : tBM K T r to t σ H Q := h
theorem w_bm0 {T : String} {r : V → List V → Hp → VK → Prop} {to : TE} (h : to σ H fun x H1 => tyV K T x H1 ∧ r x [] H1 Q) : tBM0 K T r to σ H Q := h
/-- the object of a list's method stands -/
theorem w_tyL {A : Prop} (h : At H a (.lst xs)) (k : A) : tyV K "list" (.ref a) H ∧ A := ⟨.inl ⟨rfl, _, sq_of h⟩, k⟩
theorem w_app (h : At H a (.lst xs)) (hz : xs.length < sizeLine) (q : ∀ H2, At H2 a (.lst (xs ++ [v])) → Nl H H2 → (∀ H0, Ex H0 H → Fr H0 a → Ex H0 H2) → (∀ b o, b ≠ a → At H b o → At H2 b o) → Q .non H2) : rAppend (.ref a) [v] H Q :=
  ⟨a, xs, v, rfl, rfl, h, hz, q _ upd_same (Nl.upd h) (fun H0 e n => Ex.mut e n) (fun b o hb e => by unfold At; rw [upd_ne hb]; exact e)⟩
theorem w_sl {r : V → Option Int → Option Int → Hp → VK → Prop} {te : TE} {tl th : TO} (h : te σ H fun x H1 => tl σ H1 fun l H2 => th σ H2 fun u H3 => r x l u H3 Q) : tSl r te tl th σ H Q := h
theorem w_noPart {Q : Option Int → Hp → Prop} (h : Q none H) : tNoPart σ H Q := h
theorem w_part {t : TE} {Q : Option Int → Hp → Prop} (h : t σ H fun x H1 => ∃ i, x = .int i ∧ Q (some i) H1) : tPart t σ H Q := h
theorem w_exI {R : Int → Prop} (h : R i) : ∃ i', V.int i = .int i' ∧ R i' := ⟨i, rfl, h⟩
theorem w_slL {lo hi : Option Int} (h : SqL K H a xs) (q : ∀ p H2, Fr H p → Ex H H2 → At H2 p (.lst (cutV xs lo hi)) → Q (.ref p) H2) : rSlL K (.ref a) lo hi H Q := ⟨a, xs, rfl, h, fun p hp => q p _ hp (Ex.new hp) upd_same⟩
theorem cut_from {xs : List V} (h : 0 ≤ i) : cutV xs (some i) none = xs.drop i.toNat := by
  obtain ⟨k, rfl⟩ := Int.eq_ofNat_of_zero_le h
  unfold cutV
  rw [HT.sIx_nat, HT.sIx_none, Int.toNat_natCast]
  by_cases hk : k ≤ xs.length
  · rw [Nat.min_eq_left hk, List.take_of_length_le]
    rw [List.length_drop]
    exact Nat.le_refl _
  · rw [Nat.min_eq_right (by omega), Nat.sub_self, List.take_zero, List.drop_eq_nil_of_le (by omega)]
theorem cut_to {xs : List V} (h : 0 ≤ i) : cutV xs none (some i) = xs.take i.toNat := by
  obtain ⟨k, rfl⟩ := Int.eq_ofNat_of_zero_le h
  unfold cutV
  rw [HT.sIx_nat, HT.sIx_none, Int.toNat_natCast, List.drop_zero, Nat.sub_zero]
  by_cases hk : k ≤ xs.length
  · rw [Nat.min_eq_left hk]
  · rw [Nat.min_eq_right (by omega), List.take_of_length_le (Nat.le_refl _), List.take_of_length_le (by omega)]
theorem cut_ft {xs : List V} (h : 0 ≤ i) (h2 : 0 ≤ j) : cutV xs (some i) (some j) = (xs.drop i.toNat).take (j.toNat - i.toNat) := by
  obtain ⟨k, rfl⟩ := Int.eq_ofNat_of_zero_le h
  obtain ⟨l, rfl⟩ := Int.eq_ofNat_of_zero_le h2
  unfold cutV
  rw [HT.sIx_nat, HT.sIx_nat, Int.toNat_natCast, Int.toNat_natCast]
  by_cases hk : k ≤ xs.length
  · rw [Nat.min_eq_left hk]
    by_cases hl : l ≤ xs.length
    · rw [Nat.min_eq_left hl]
    · rw [Nat.min_eq_right (by omega), List.take_of_length_le (by rw [List.length_drop]; exact Nat.le_refl _), List.take_of_length_le (by rw [List.length_drop]; omega)]
  · rw [Nat.min_eq_right (by omega : xs.length ≤ k), List.drop_eq_nil_of_le (Nat.le_refl _), List.drop_eq_nil_of_le (by omega), List.take_nil, List.take_nil]
theorem w_slLIf {ns : List Int} (h : SqL K H a (ns.map V.int)) (h0 : 0 ≤ i) (q : ∀ p H2, Fr H p → Ex H H2 → At H2 p (.lst ((ns.drop i.toNat).map V.int)) → Q (.ref p) H2) : rSlL K (.ref a) (some i) none H Q := w_slL h fun p H2 a b c => q p H2 a b (by unfold At at *; rw [c, cut_from h0, List.map_drop])
theorem w_slLIt {ns : List Int} (h : SqL K H a (ns.map V.int)) (h0 : 0 ≤ i) (q : ∀ p H2, Fr H p → Ex H H2 → At H2 p (.lst ((ns.take i.toNat).map V.int)) → Q (.ref p) H2) : rSlL K (.ref a) none (some i) H Q := w_slL h fun p H2 a b c => q p H2 a b (by unfold At at *; rw [c, cut_to h0, List.map_take])
theorem w_slLIft {ns : List Int} (h : SqL K H a (ns.map V.int)) (h0 : 0 ≤ i) (h1 : 0 ≤ j) (q : ∀ p H2, Fr H p → Ex H H2 → At H2 p (.lst (((ns.drop i.toNat).take (j.toNat - i.toNat)).map V.int)) → Q (.ref p) H2) : rSlL K (.ref a) (some i) (some j) H Q := w_slL h fun p H2 a b c => q p H2 a b (by unfold At at *; rw [c, cut_ft h0 h1, List.map_take, List.map_drop])
theorem w_ins {k : Nat} (h : At H a (.lst xs)) (hz : xs.length < sizeLine) (hk : i.toNat = k) (h0 : 0 ≤ i) (h1 : i < 2 ^ 63) (q : ∀ H2, At H2 a (.lst (xs.take k ++ [v] ++ xs.drop k)) → Nl H H2 → (∀ H0, Ex H0 H → Fr H0 a → Ex H0 H2) → (∀ b o, b ≠ a → At H b o → At H2 b o) → Q .non H2) : rIns (.ref a) [.int i, v] H Q :=
  ⟨a, xs, i, v, rfl, rfl, h, hz, h0, h1, q _ (by unfold At; rw [upd_same, hk]) (Nl.upd h) (fun H0 e n => Ex.mut e n) (fun b o hb e => by unfold At; rw [upd_ne hb]; exact e)⟩
theorem w_gT {n : Nat} {t : TGs} {R : L2.St → Hp → Prop} (h : SqT K H a xs) (hn : xs.length = n) (q : t xs σ H R) : gTup K n t (.ref a) σ H R := ⟨a, xs, rfl, h, hn, q⟩
theorem w_gC {g : TG} {u : TGs} {R : L2.St → Hp → Prop} (q : g v σ H fun σ' H' => u xs σ' H' R) : gCons g u (v :: xs) σ H R := ⟨v, xs, rfl, q⟩
theorem w_gN {R : L2.St → Hp → Prop} (q : R σ H) : gNil [] σ H R := ⟨rfl, q⟩
theorem w_yes {Q : Bool → Hp → Prop} (h : Q true H) : tYes σ H Q := h
theorem w_wp {A : Prop} {vs : List Nat} {σ1 σ2 : L2.St} (h : wipe σ1 vs = wipe σ2 vs) (k : A) : wipe σ1 vs = wipe σ2 vs ∧ A := ⟨h, k⟩
theorem w_setL {k : Nat} {R : Hp → Prop} (h : At H a (.lst xs)) (h0 : ixN xs.length i = some k) (q : ∀ H2, At H2 a (.lst (xs.set k v)) → Nl H H2 → (∀ H0, Ex H0 H → Fr H0 a → Ex H0 H2) → (∀ b o, b ≠ a → At H b o → At H2 b o) → R H2) : rSetL (.ref a) (.int i) v H R :=
  ⟨a, xs, i, k, rfl, rfl, h, h0, q _ upd_same (Nl.upd h) (fun H0 e n => Ex.mut e n) (fun b o hb e => by unfold At; rw [upd_ne hb]; exact e)⟩
/-! == of lists and tuples of ints that are the same -/
theorem dpAll_ints : ∀ ns : List Int, DpAll K H (ns.map V.int) (ns.map PyData.int)
  | [] => .nil
  | n :: r => .cons (.int n) (dpAll_ints r)
theorem eqvAll_ints : ∀ ns ms : List Int, PyData.eqvAll (ns.map PyData.int) (ms.map PyData.int) = decide (ns = ms)
  | [], [] => by simp [PyData.eqvAll]
  | [], _ :: _ => by simp [PyData.eqvAll]
  | _ :: _, [] => by simp [PyData.eqvAll]
  | a :: r, b :: t => by
    simp only [List.map_cons, PyData.eqvAll, PyData.eqv, eqvAll_ints r t]
    by_cases h : a = b <;> by_cases h' : r = t <;> simp [h, h']
theorem shaped_tup (ns : List Int) : SeqAt.shaped (.tuple (ns.map PyData.int)) = true := by
  simp [SeqAt.shaped, PyData.canLay0, PyData.depth, PySem.W.ke_canLayAll0, PySem.W.ke_depthAll]
theorem w_eqLI {ns ms : List Int} (h1 : SqL K H a (ns.map V.int)) (h2 : SqL K H b (ms.map V.int)) (q : Q (.bl (decide (ns = ms))) H) : rEqZ K (.ref a) (.ref b) H Q :=
  .inr ⟨_, _, .lst h1 (dpAll_ints ns), .lst h2 (dpAll_ints ms), PySem.W.ke_shaped_ints ns, PySem.W.ke_shaped_ints ms, by simp only [PyData.eqv, eqvAll_ints]; exact q⟩
theorem w_neLI {ns ms : List Int} (h1 : SqL K H a (ns.map V.int)) (h2 : SqL K H b (ms.map V.int)) (q : Q (.bl (!decide (ns = ms))) H) : rNeZ K (.ref a) (.ref b) H Q :=
  .inr ⟨_, _, .lst h1 (dpAll_ints ns), .lst h2 (dpAll_ints ms), PySem.W.ke_shaped_ints ns, PySem.W.ke_shaped_ints ms, by simp only [PyData.eqv, eqvAll_ints]; exact q⟩
theorem w_eqTI {ns ms : List Int} (h1 : SqT K H a (ns.map V.int)) (h2 : SqT K H b (ms.map V.int)) (q : Q (.bl (decide (ns = ms))) H) : rEqZ K (.ref a) (.ref b) H Q :=
  .inr ⟨_, _, .tup h1 (dpAll_ints ns), .tup h2 (dpAll_ints ms), shaped_tup ns, shaped_tup ms, by simp only [PyData.eqv, eqvAll_ints]; exact q⟩
theorem w_neTI {ns ms : List Int} (h1 : SqT K H a (ns.map V.int)) (h2 : SqT K H b (ms.map V.int)) (q : Q (.bl (!decide (ns = ms))) H) : rNeZ K (.ref a) (.ref b) H Q :=
  .inr ⟨_, _, .tup h1 (dpAll_ints ns), .tup h2 (dpAll_ints ms), shaped_tup ns, shaped_tup ms, by simp only [PyData.eqv, eqvAll_ints]; exact q⟩
theorem w_shl {k : Nat} (hk : k ≤ 134217727) (q : Q (.int (2 ^ k)) H) : rShl (.int 1) (.int (k : Int)) H Q := ⟨k, rfl, rfl, hk, q⟩
theorem w_shr {n k : Nat} (q : Q (.int ((n / 2 ^ k : Nat) : Int)) H) : rShr (.int (n : Int)) (.int (k : Int)) H Q := ⟨n, k, rfl, rfl, q⟩
theorem w_odd {n : Nat} (q : Q (.int ((n % 2 : Nat) : Int)) H) : rOdd (.int (n : Int)) (.int 1) H Q := ⟨n, rfl, rfl, q⟩
theorem w_sum {ns : List Int} (h : SqL K H a (ns.map V.int)) (q : Q (.int ns.sum) H) : rSumA K [.ref a] H Q := ⟨a, ns, rfl, .inl h, q⟩
theorem w_sumT {ns : List Int} (h : SqT K H a (ns.map V.int)) (q : Q (.int ns.sum) H) : rSumA K [.ref a] H Q := ⟨a, ns, rfl, .inr h, q⟩
theorem w_max2 (q : Q (.int (max i j)) H) : rMax2 [.int i, .int j] H Q := ⟨i, j, rfl, by
  have e : (if j > i then j else i) = max i j := by split <;> omega
  rw [e]; exact q⟩
theorem w_min2 (q : Q (.int (min i j)) H) : rMin2 [.int i, .int j] H Q := ⟨i, j, rfl, by
  have e : (if j < i then j else i) = min i j := by split <;> omega
  rw [e]; exact q⟩
/-! membership among ints -/
theorem inV_int {ns : List Int} : inV (.int i) (ns.map V.int) = decide (i ∈ ns) := by
  unfold inV
  induction ns with
  | nil => simp
  | cons n r ih =>
    rw [List.map_cons, List.any_cons, ih]
    have e : eqV (.int n) (.int i) = decide (n = i) := by unfold eqV; rfl
    rw [e]
    by_cases h : n = i
    · subst h; simp
    · have h' : ¬ i = n := fun z => h z.symm
      simp [h, h']
theorem flat_ints {ns : List Int} : (ns.map V.int).all flatV = true := by
  rw [List.all_map]
  exact List.all_eq_true.mpr fun _ _ => rfl
theorem w_inT {ns : List Int} (h : SqT K H a (ns.map V.int)) (q : Q (.bl (decide (i ∈ ns))) H) : rIn K false (.int i) (.ref a) H Q := ⟨a, _, rfl, .inr h, rfl, flat_ints, by rw [inV_int]; exact q⟩
theorem w_ninT {ns : List Int} (h : SqT K H a (ns.map V.int)) (q : Q (.bl (!decide (i ∈ ns))) H) : rIn K true (.int i) (.ref a) H Q := ⟨a, _, rfl, .inr h, rfl, flat_ints, by rw [inV_int]; exact q⟩
theorem w_inL {ns : List Int} (h : SqL K H a (ns.map V.int)) (q : Q (.bl (decide (i ∈ ns))) H) : rIn K false (.int i) (.ref a) H Q := ⟨a, _, rfl, .inl h, rfl, flat_ints, by rw [inV_int]; exact q⟩
theorem w_ninL {ns : List Int} (h : SqL K H a (ns.map V.int)) (q : Q (.bl (!decide (i ∈ ns))) H) : rIn K true (.int i) (.ref a) H Q := ⟨a, _, rfl, .inl h, rfl, flat_ints, by rw [inV_int]; exact q⟩
/-- the ints of a list of ints -/
def unI : List V → Option (List Int)
  | [] => some []
  | .int i :: r => match unI r with
    | some l => some (i :: l)
    | none => none
  | _ => none
theorem unI_ok : ∀ {xs : List V} {ns : List Int}, unI xs = some ns → xs = ns.map V.int
  | [], ns, h => by cases h; rfl
  | x :: r, ns, h => by
    cases x <;> simp only [unI, reduceCtorEq] at h
    split at h
    · rename_i l e
      cases h
      rw [unI_ok e]
      rfl
    · cases h
theorem lU {ns : List Int} (h : SqL K H a xs) (e : unI xs = some ns) : SqL K H a (ns.map V.int) := unI_ok e ▸ h
theorem tU {ns : List Int} (h : SqT K H a xs) (e : unI xs = some ns) : SqT K H a (ns.map V.int) := unI_ok e ▸ h
/-! lists of naturals -/
theorem getD_map_cast (os : List Nat) (k : Nat) : (os.map (fun n : Nat => (n : Int))).getD k 0 = ((os.getD k 0 : Nat) : Int) := by
  simp only [List.getD_eq_getElem?_getD, List.getElem?_map]
  cases os[k]? <;> rfl
theorem getD_get {α : Type} (xs : List α) (k : Nat) (d : α) (h : k < xs.length) : xs.getD k d = xs[k] := by
  rw [List.getD_eq_getElem?_getD, List.getElem?_eq_getElem h]; rfl
theorem w_ixTN {os : List Nat} {k : Nat} (h : SqT K H a ((os.map fun n : Nat => (n : Int)).map V.int)) (hk : i.toNat = k) (h0 : 0 ≤ i) (h1 : i < os.length) (q : Q (.int ((os.getD k 0 : Nat) : Int)) H) : rIx K (.ref a) (.int i) H Q :=
  w_ixTI h hk h0 (by rw [List.length_map]; exact h1) (by rw [getD_map_cast]; exact q)
theorem w_ixLN {os : List Nat} {k : Nat} (h : SqL K H a ((os.map fun n : Nat => (n : Int)).map V.int)) (hk : i.toNat = k) (h0 : 0 ≤ i) (h1 : i < os.length) (q : Q (.int ((os.getD k 0 : Nat) : Int)) H) : rIx K (.ref a) (.int i) H Q :=
  w_ixLI h hk h0 (by rw [List.length_map]; exact h1) (by rw [getD_map_cast]; exact q)
theorem get_nat {os : List Nat} {k : Nat} {x : V} (h : ((os.map fun n : Nat => (n : Int)).map V.int)[k]? = some x) : k < os.length ∧ x = .int ((os.getD k 0 : Nat) : Int) := by
  have h1 : k < os.length := by simpa using (List.getElem?_eq_some_iff.mp h).1
  have h2 : x = ((os.map fun n : Nat => (n : Int)).map V.int)[k]'(by simpa using h1) := by
    rw [List.getElem?_eq_getElem (by simpa using h1)] at h; exact (Option.some.inj h).symm
  refine ⟨h1, ?_⟩
  rw [h2, List.getElem_map, List.getElem_map, getD_get _ _ _ h1]
theorem get_int {ns : List Int} {k : Nat} {x : V} (h : (ns.map V.int)[k]? = some x) : k < ns.length ∧ x = .int (ns.getD k 0) := by
  rw [List.getElem?_map] at h
  cases e : ns[k]? with
  | none => rw [e] at h; cases h
  | some y =>
    rw [e] at h
    cases h
    exact ⟨(List.getElem?_eq_some_iff.mp e).1, by rw [List.getD_eq_getElem?_getD, e]; rfl⟩
theorem range_map {α : Type} (es : List Int) (f : Int → α) : (List.range es.length).map (fun i => f (es.getD i 0)) = es.map f := by
  apply List.ext_getElem
  · simp
  · intro i h1 h2
    simp at h1 h2
    simp [h1]
theorem range_filter {α : Type} (es : List Int) (P : Int → Bool) (f : Int → α) : ((List.range es.length).filter fun i => P (es.getD i 0)).map (fun i => f (es.getD i 0)) = (es.filter P).map f := by
  have e : (List.range es.length).map (fun i => es.getD i 0) = es := (range_map es id).trans (List.map_id es)
  conv => rhs; rw [← e]
  rw [List.filter_map, List.map_map]
  rfl
theorem range_id (es : List Int) : (List.range es.length).map (fun i => es.getD i 0) = es := (range_map es id).trans (List.map_id es)
/-! isinstance with a built-in class -/
theorem w_isiB {a b : String} {r : Bool} (ty : TyX K H x (.type a)) (h : kitB a b = some r) (q : Q (.bl r) H) : rIsi K [x, .ty b] H Q := ⟨x, _, _, _, r, rfl, .ty b, ty, kit_ty h, q⟩
theorem w_isiII (q : Q (.bl true) H) : rIsi K [.int i, .ty "int"] H Q := w_isiB (.base (.int _)) (by decide +kernel) q
theorem w_isiIB (q : Q (.bl false) H) : rIsi K [.int i, .ty "bool"] H Q := w_isiB (.base (.int _)) (by decide +kernel) q
theorem w_isiBI {k : Bool} (q : Q (.bl true) H) : rIsi K [.bl k, .ty "int"] H Q := w_isiB (.base (.bl _)) (by decide +kernel) q
theorem w_isiBB {k : Bool} (q : Q (.bl true) H) : rIsi K [.bl k, .ty "bool"] H Q := w_isiB (.base (.bl _)) (by decide +kernel) q
theorem w_isiTT (h : At H a (.tup xs)) (q : Q (.bl true) H) : rIsi K [.ref a, .ty "tuple"] H Q := w_isiB (.base (.tup h)) (by decide +kernel) q
theorem w_isiLL (h : At H a (.lst xs)) (q : Q (.bl true) H) : rIsi K [.ref a, .ty "list"] H Q := w_isiB (.base (.lst h)) (by decide +kernel) q
theorem w_isiSS {z : Str} (q : Q (.bl true) H) : rIsi K [.str z, .ty "str"] H Q := w_isiB (.base (.str _)) (by decide +kernel) q
end
/-! ### loops: what is walked (Src), the loop's goal (FG), a comprehension's (CG) -/
/-- J takes n turns while Φ holds; the i-th thing x stands in the heap behind as Y says -/
structure Src (J : It) (Φ : Hp → Prop) (n : Nat) (Y : Nat → V → Hp → Prop) : Prop where
  go : ∀ i H', Φ H' → i < n → J.go i H'
  stop : ∀ H', Φ H' → J.stop n H'
  yld : ∀ i H' x H'', Φ H' → i < n → J.yld i H' x H'' → Ex H' H'' ∧ Y i x H''
def FG (J : It) (g : TG) (tb : TS) (D : Ends) (σ : L2.St) (H1 : Hp) : Prop := ∃ W : Nat → Nat → L2.St → Hp → Prop, (∃ m, W 0 m σ H1) ∧ ∀ i m σ H, W i m σ H →
  (J.stop i H ∧ D.nx σ H) ∨ (J.go i H ∧ ∃ N : L2.St → Hp → Prop, (∀ σ' H', N σ' H' → ∃ m', m' < m ∧ W (i + 1) m' σ' H') ∧ ∀ x H', J.yld i H x H' → g x σ H' fun σ2 H2 => tb { D with nx := N, ct := N, bk := D.nx } σ2 H2)
def CG (J : It) (g : TG) (tt : TT) (te : TE) (vs : List Nat) (σ : L2.St) (H1 : Hp) (Q : VK) : Prop := ∀ D, H1 D = none → ∃ W : Nat → Nat → Hp → Prop, (∃ m, W 0 m (upd H1 D (.lst []))) ∧ ∀ i m H, W i m H →
  (J.stop i H ∧ Q (.ref D) H) ∨ (J.go i H ∧ ∃ Nx : Hp → Prop, (∀ H', Nx H' → ∃ m', m' < m ∧ W (i + 1) m' H') ∧ ∀ x H', J.yld i H x H' → g x (wipe σ vs) H' fun σ2 H2 => wipe σ2 vs = wipe σ vs ∧ tt σ2 H2 fun b H3 =>
    if b = true then te σ2 H3 fun y H4 => ∃ acc, H4 D = some (.lst acc) ∧ acc.length < sizeLine ∧ Nx (upd H4 D (.lst (acc ++ [y]))) else Nx H3)
section
variable {K : PySem.W.Frag} {σ : L2.St} {H H' : Hp} {Q : VK} {v x y : V} {a b p : Addr} {xs ys : List V} {i j : Int} {J : It} {Φ : Hp → Prop} {n : Nat} {Y : Nat → V → Hp → Prop} {g : TG} {tb : TS} {D : Ends} {R : It → Hp → Prop} {tt : TT} {te : TE} {vs : List Nat} {ta : TA}
def dL (K : PySem.W.Frag) (R : It → Hp → Prop) : VK := fun x H1 => ∃ a, x = .ref a ∧ (∃ xs, SqL K H1 a xs) ∧ R (Itl K a) H1
def dT (K : PySem.W.Frag) (R : It → Hp → Prop) : VK := fun x H1 => ∃ a, x = .ref a ∧ (∃ xs, SqT K H1 a xs) ∧ R (Itt K a) H1
def dR1 (R : It → Hp → Prop) : List V → Hp → Prop := fun vs H1 => ∃ j : Int, vs = [.int j] ∧ -(2 ^ 62) ≤ j ∧ j < 2 ^ 62 ∧ R (Itr 0 j.toNat) H1
def dR2 (R : It → Hp → Prop) : List V → Hp → Prop := fun vs H1 => ∃ i j : Int, vs = [.int i, .int j] ∧ (-(2 ^ 62) ≤ i ∧ i < 2 ^ 62 ∧ -(2 ^ 62) ≤ j ∧ j < 2 ^ 62) ∧ R (Itr i (j - i).toNat) H1
def dE (K : PySem.W.Frag) (R : It → Hp → Prop) : List V → Hp → Prop := fun vs H1 => ∃ a xs, vs = [.ref a] ∧ SqL K H1 a xs ∧ R (Ite K a) H1
theorem w_for {wi : TI} (h : wi σ H fun J H1 => FG J g tb D σ H1) : tFor wi g tb D σ H := h
theorem w_lc {wi : TI} (h : wi σ H fun J H1 => CG J g tt te vs σ H1 Q) : tLc wi g tt te vs σ H Q := h
theorem w_iL (h : te σ H (dL K R)) : iList K te σ H R := h
theorem w_iT (h : te σ H (dT K R)) : iTup K te σ H R := h
theorem w_iR1 (h : ta σ H (dR1 R)) : iRng1 ta σ H R := h
theorem w_iR2 (h : ta σ H (dR2 R)) : iRng2 ta σ H R := h
theorem w_iE (h : ta σ H (dE K R)) : iEnum K ta σ H R := h
theorem i_L (h : SqL K H a xs) (k : ∀ J, Src J (fun H' => SqL K H' a xs) xs.length (fun i x _ => xs[i]? = some x) → R J H) : dL K R (.ref a) H :=
  ⟨a, rfl, ⟨xs, h⟩, k _ ⟨fun i H' hp hi => ⟨xs, xs[i], hp, List.getElem?_eq_getElem hi⟩, fun H' hp => ⟨xs, hp, Nat.le_refl _⟩, fun i H' x H'' hp hi hy => by
    obtain ⟨e, f⟩ := hy
    exact ⟨by rw [e]; exact Ex.refl _, f xs hp⟩⟩⟩
theorem i_T (h : SqT K H a xs) (k : ∀ J, Src J (fun H' => SqT K H' a xs) xs.length (fun i x _ => xs[i]? = some x) → R J H) : dT K R (.ref a) H :=
  ⟨a, rfl, ⟨xs, h⟩, k _ ⟨fun i H' hp hi => ⟨xs, xs[i], hp, List.getElem?_eq_getElem hi⟩, fun H' hp => ⟨xs, hp, Nat.le_refl _⟩, fun i H' x H'' hp hi hy => by
    obtain ⟨e, f⟩ := hy
    exact ⟨by rw [e]; exact Ex.refl _, f xs hp⟩⟩⟩
theorem i_R1 (h1 : -(2 ^ 62) ≤ i) (h2 : i < 2 ^ 62) (k : ∀ J, Src J (fun _ => True) i.toNat (fun k x _ => x = .int (k : Nat)) → R J H) : dR1 R [.int i] H :=
  ⟨i, rfl, h1, h2, k _ ⟨fun i H' _ hi => hi, fun H' _ => Nat.le_refl _, fun i H' x H'' _ hi hy => by
    obtain ⟨e, f⟩ := hy
    exact ⟨by rw [e]; exact Ex.refl _, by rw [f, Int.zero_add]⟩⟩⟩
theorem i_R2 (h1 : -(2 ^ 62) ≤ i ∧ i < 2 ^ 62 ∧ -(2 ^ 62) ≤ j ∧ j < 2 ^ 62) (k : ∀ J, Src J (fun _ => True) (j - i).toNat (fun k x _ => x = .int (i + (k : Nat))) → R J H) : dR2 R [.int i, .int j] H :=
  ⟨i, j, rfl, h1, k _ ⟨fun i H' _ hi => hi, fun H' _ => Nat.le_refl _, fun i H' x H'' _ hi hy => by
    obtain ⟨e, f⟩ := hy
    exact ⟨by rw [e]; exact Ex.refl _, f⟩⟩⟩
theorem i_E (h : SqL K H a xs) (k : ∀ J, Src J (fun H' => SqL K H' a xs) xs.length (fun i x H'' => ∃ T y, x = .ref T ∧ At H'' T (.tup [.int (i : Nat), y]) ∧ xs[i]? = some y) → R J H) : dE K R [.ref a] H :=
  ⟨a, xs, rfl, h, k _ ⟨fun i H' hp hi => ⟨xs, xs[i], hp, List.getElem?_eq_getElem hi⟩, fun H' hp => ⟨xs, hp, Nat.le_refl _⟩, fun i H' x H'' hp hi hy => by
    obtain ⟨T, y, e1, e2, e3, f⟩ := hy
    exact ⟨by rw [e3]; exact Ex.new e2, T, y, e1, by rw [e3]; exact upd_same, f xs hp⟩⟩⟩
/-- a for loop by its invariant -/
theorem fg (S : Src J Φ n Y) (Pv : Nat → L2.St → Hp → Prop) (h0 : Pv 0 σ H) (hx : ∀ i σ' H', i ≤ n → Pv i σ' H' → Φ H')
    (hs : ∀ i x σ' H' H'', i < n → Pv i σ' H' → Ex H' H'' → Y i x H'' → g x σ' H'' fun σ2 H2 => tb ⟨Pv (i + 1), D.rt, D.nx, Pv (i + 1)⟩ σ2 H2) (hd : ∀ σ' H', Pv n σ' H' → D.nx σ' H') : FG J g tb D σ H := by
  refine ⟨fun i m σ H => m = n - i ∧ i ≤ n ∧ Pv i σ H, ⟨n, by simp, Nat.zero_le _, h0⟩, ?_⟩
  rintro i m σ H ⟨rfl, hi, p⟩
  have hp := hx i σ H hi p
  by_cases hlt : i < n
  · refine Or.inr ⟨S.go i H hp hlt, Pv (i + 1), fun σ' H' q => ⟨n - (i + 1), by omega, rfl, hlt, q⟩, fun x H' hy => ?_⟩
    obtain ⟨e, y⟩ := S.yld i H x H' hp hlt hy
    exact hs i x σ H H' hlt p e y
  · have e : i = n := by omega
    subst e
    exact Or.inl ⟨S.stop H hp, hd σ H p⟩
/-- a for loop that stores nothing but its own name (slot j) and changes nothing that stood -/
def EndE (H : Hp) (σ : L2.St) (j : Nat) : L2.St → Hp → Prop := fun σ' G' => (∃ v, σ' = σ.set j v) ∧ Ex H G'
theorem fgE (j : Nat) {v0 : Option V} (S : Src J Φ n Y) (hj : σ[j]? = some v0) (hx : ∀ G, Ex H G → Φ G) (hs : ∀ i x G v, i < n → Ex H G → Y i x G → g x (σ.set j v) G fun σ2 H2 => tb ⟨EndE H σ j, D.rt, D.nx, EndE H σ j⟩ σ2 H2) (hd : ∀ v G, Ex H G → D.nx (σ.set j v) G) : FG J g tb D σ H := by
  refine fg S (fun _ σ' G => EndE H σ j σ' G) ⟨⟨v0, ?_⟩, Ex.refl H⟩ (fun i σ' G _ z => hx G z.2) ?_ ?_
  · obtain ⟨h1, h2⟩ := List.getElem?_eq_some_iff.mp hj
    rw [← h2, List.set_getElem_self]
  · rintro i x σ' G G2 hi ⟨⟨v, rfl⟩, e⟩ e2 y
    exact hs i x G2 v hi (e.trans e2) y
  · rintro σ' G ⟨⟨v, rfl⟩, e⟩
    exact hd v G e
/-- a comprehension's list at Dl, between two turns -/
structure CD (H : Hp) (Dl : Addr) (acc : List V) (H' : Hp) : Prop where
  new : Fr H Dl
  ex : Ex H H'
  at_ : At H' Dl (.lst acc)
theorem CD.up {H H' H'' : Hp} {Dl : Addr} {acc : List V} (c : CD H Dl acc H') (e : Ex H' H'') : CD H Dl acc H'' := ⟨c.new, c.ex.trans e, e.get c.at_⟩
/-- behind a turn's element -/
def ElE (H : Hp) (Dl : Addr) (acc : List V) : VK := fun y H4 => ∃ acc', At H4 Dl (.lst acc') ∧ acc'.length < sizeLine ∧ CD H Dl acc (upd H4 Dl (.lst (acc' ++ [y])))
theorem ele {H H' H4 : Hp} {Dl : Addr} {acc : List V} {y : V} (c : CD H Dl acc H') (hz : acc.length < sizeLine) (e : Ex H' H4) : ElE H Dl (acc ++ [y]) y H4 :=
  ⟨acc, e.get c.at_, hz, c.new, Ex.mut (c.ex.trans e) c.new, upd_same⟩
/-- a comprehension without a test; the elements are values that hang on no object -/
theorem cgF (S : Src J Φ n Y) (f : Nat → V) (hx : ∀ H', Ex H H' → Φ H') (hz : n ≤ sizeLine)
    (hs : ∀ Dl i x H', i < n → Ex H H' → CD H Dl ((List.range i).map f) H' → Y i x H' → g x (wipe σ vs) H' fun σ2 H2 => wipe σ2 vs = wipe σ vs ∧ tt σ2 H2 fun b H3 => if b = true then te σ2 H3 (ElE H Dl ((List.range i).map f ++ [f i])) else False)
    (q : ∀ p H2, Fr H p → Ex H H2 → At H2 p (.lst ((List.range n).map f)) → Q (.ref p) H2) (htt : tt = tYes) : CG J g tt te vs σ H Q := by
  subst htt
  have er : ∀ i, (List.range i).map f ++ [f i] = (List.range (i + 1)).map f := fun i => by rw [List.range_succ, List.map_append]; rfl
  intro Dl hD
  refine ⟨fun i m H' => m = n - i ∧ i ≤ n ∧ CD H Dl ((List.range i).map f) H', ⟨n, by simp, Nat.zero_le _, hD, Ex.new hD, upd_same⟩, ?_⟩
  rintro i m H1 ⟨rfl, hi, c⟩
  have hp := hx H1 c.ex
  by_cases hlt : i < n
  · refine Or.inr ⟨S.go i H1 hp hlt, fun H' => CD H Dl ((List.range i).map f ++ [f i]) H', fun H' q => ⟨n - (i + 1), by omega, rfl, hlt, er i ▸ q⟩, fun x H' hy => ?_⟩
    obtain ⟨e', y⟩ := S.yld i H1 x H' hp hlt hy
    exact hs Dl i x H' hlt (c.ex.trans e') ⟨c.new, c.ex.trans e', e'.get c.at_⟩ y
  · have e2 : i = n := by omega
    subst e2
    exact Or.inl ⟨S.stop H1 hp, q Dl H1 hD c.ex c.at_⟩
/-- .. ints -/
theorem cgI (S : Src J Φ n Y) (f : Nat → Int) (hx : ∀ H', Ex H H' → Φ H') (hz : n ≤ sizeLine)
    (hs : ∀ Dl i x H', i < n → Ex H H' → CD H Dl ((List.range i).map fun k => V.int (f k)) H' → Y i x H' → g x (wipe σ vs) H' fun σ2 H2 => wipe σ2 vs = wipe σ vs ∧ tt σ2 H2 fun b H3 => if b = true then te σ2 H3 (ElE H Dl ((List.range i).map (fun k => V.int (f k)) ++ [V.int (f i)])) else False)
    (q : ∀ p H2, Fr H p → Ex H H2 → At H2 p (.lst (((List.range n).map f).map V.int)) → Q (.ref p) H2) (htt : tt = tYes) : CG J g tt te vs σ H Q :=
  cgF S (fun k => V.int (f k)) hx hz hs (fun p H2 hn he hp => q p H2 hn he (hp.l (by rw [List.map_map]; rfl))) htt
/-- .. one int again and again -/
theorem cgK {c : Int} (S : Src J Φ n Y) (hx : ∀ H', Ex H H' → Φ H') (hz : n ≤ sizeLine)
    (hs : ∀ Dl i x H' acc, i < n → Ex H H' → CD H Dl acc H' → acc.length < sizeLine → Y i x H' → g x (wipe σ vs) H' fun σ2 H2 => wipe σ2 vs = wipe σ vs ∧ tt σ2 H2 fun b H3 => if b = true then te σ2 H3 (ElE H Dl (acc ++ [V.int c])) else False)
    (q : ∀ p H2, Fr H p → Ex H H2 → At H2 p (.lst ((List.replicate n c).map V.int)) → Q (.ref p) H2) (htt : tt = tYes) : CG J g tt te vs σ H Q :=
  cgF S (fun _ => V.int c) hx hz (fun Dl i x H' hi ec cd y => hs Dl i x H' _ hi ec cd (by rw [List.length_map, List.length_range]; omega) y) (fun p H2 hn he hp => q p H2 hn he (hp.l (by
    apply List.ext_getElem
    · simp
    · intro i h1 h2; simp))) htt
/-- a comprehension with a test: which turns give an element (p), and which (f) -/
theorem cgP (S : Src J Φ n Y) (p : Nat → Bool) (f : Nat → V) (hx : ∀ H', Ex H H' → Φ H') (hz : n ≤ sizeLine)
    (hs : ∀ Dl i x H', i < n → Ex H H' → CD H Dl (((List.range i).filter p).map f) H' → (((List.range i).filter p).map f).length < sizeLine → Y i x H' → g x (wipe σ vs) H' fun σ2 H2 => wipe σ2 vs = wipe σ vs ∧ tt σ2 H2 fun b H3 => if b = true then te σ2 H3 (ElE H Dl (((List.range (i + 1)).filter p).map f)) else CD H Dl (((List.range (i + 1)).filter p).map f) H3)
    (q : ∀ p' H2, Fr H p' → Ex H H2 → At H2 p' (.lst (((List.range n).filter p).map f)) → Q (.ref p') H2) : CG J g tt te vs σ H Q := by
  intro Dl hD
  refine ⟨fun i m H' => m = n - i ∧ i ≤ n ∧ CD H Dl (((List.range i).filter p).map f) H', ⟨n, by simp, Nat.zero_le _, hD, Ex.new hD, upd_same⟩, ?_⟩
  rintro i m H1 ⟨rfl, hi, c⟩
  have hp := hx H1 c.ex
  by_cases hlt : i < n
  · refine Or.inr ⟨S.go i H1 hp hlt, fun H' => CD H Dl (((List.range (i + 1)).filter p).map f) H', fun H' q => ⟨n - (i + 1), by omega, rfl, hlt, q⟩, fun x H' hy => ?_⟩
    obtain ⟨e', y⟩ := S.yld i H1 x H' hp hlt hy
    refine hs Dl i x H' hlt (c.ex.trans e') ⟨c.new, c.ex.trans e', e'.get c.at_⟩ ?_ y
    rw [List.length_map]
    exact Nat.lt_of_le_of_lt (List.length_filter_le _ _) (by rw [List.length_range]; omega)
  · have e2 : i = n := by omega
    subst e2
    exact Or.inl ⟨S.stop H1 hp, q Dl H1 hD c.ex c.at_⟩
theorem fr_T {α : Type} {p : Nat → Bool} {f : Nat → α} {i : Nat} (h : p i = true) : ((List.range (i + 1)).filter p).map f = ((List.range i).filter p).map f ++ [f i] := by
  rw [List.range_succ, List.filter_append, List.map_append]
  simp [h]
theorem fr_F {α : Type} {p : Nat → Bool} {f : Nat → α} {i : Nat} (h : p i = false) : ((List.range (i + 1)).filter p).map f = ((List.range i).filter p).map f := by
  rw [List.range_succ, List.filter_append, List.map_append]
  simp [h]
/-- a comprehension without a test by an invariant of what it has made -/
def ElX (H : Hp) (Dl : Addr) (i : Nat) (Pv : Nat → List V → Hp → Prop) : VK := fun y H4 => ∃ acc, At H4 Dl (.lst acc) ∧ acc.length < sizeLine ∧ ∃ acc', CD H Dl acc' (upd H4 Dl (.lst (acc ++ [y]))) ∧ acc'.length = i + 1 ∧ Pv (i + 1) acc' (upd H4 Dl (.lst (acc ++ [y])))
theorem elx {H H' H4 : Hp} {Dl : Addr} {acc : List V} {y : V} {i : Nat} {Pv : Nat → List V → Hp → Prop} (c : CD H Dl acc H') (hl : acc.length = i) (hz : acc.length < sizeLine) (e : Ex H' H4) (hp : ∀ H5, Nl H4 H5 → Pv (i + 1) (acc ++ [y]) H5) : ElX H Dl i Pv y H4 :=
  ⟨acc, e.get c.at_, hz, acc ++ [y], ⟨c.new, Ex.mut (c.ex.trans e) c.new, upd_same⟩, by simp [hl], hp _ (Nl.upd (e.get c.at_))⟩
theorem cgX (S : Src J Φ n Y) (Pv : Nat → List V → Hp → Prop) (h0 : ∀ H', Ex H H' → Pv 0 [] H') (st : ∀ i acc H1 H2, Pv i acc H1 → Ex H1 H2 → Pv i acc H2) (hx : ∀ H', Ex H H' → Φ H') (hz : n ≤ sizeLine)
    (hs : ∀ Dl i x H' acc, i < n → Ex H H' → CD H Dl acc H' → acc.length = i → Pv i acc H' → Y i x H' → g x (wipe σ vs) H' fun σ2 H2 => wipe σ2 vs = wipe σ vs ∧ tt σ2 H2 fun b H3 => if b = true then te σ2 H3 (ElX H Dl i Pv) else ∃ acc', CD H Dl acc' H3 ∧ acc'.length = i + 1 ∧ Pv (i + 1) acc' H3)
    (q : ∀ p H2 acc, Fr H p → Ex H H2 → At H2 p (.lst acc) → acc.length = n → Pv n acc H2 → Q (.ref p) H2) (htt : tt = tYes) : CG J g tt te vs σ H Q := by
  subst htt
  intro Dl hD
  refine ⟨fun i m H' => m = n - i ∧ i ≤ n ∧ ∃ acc, CD H Dl acc H' ∧ acc.length = i ∧ Pv i acc H', ⟨n, by simp, Nat.zero_le _, [], ⟨hD, Ex.new hD, upd_same⟩, rfl, h0 _ (Ex.new hD)⟩, ?_⟩
  rintro i m H1 ⟨rfl, hi, acc, c, hl, hP⟩
  have hp := hx H1 c.ex
  by_cases hlt : i < n
  · refine Or.inr ⟨S.go i H1 hp hlt, fun H' => ∃ acc, CD H Dl acc H' ∧ acc.length = i + 1 ∧ Pv (i + 1) acc H', fun H' q => ⟨n - (i + 1), by omega, rfl, hlt, q⟩, fun x H' hy => ?_⟩
    obtain ⟨e', y⟩ := S.yld i H1 x H' hp hlt hy
    exact hs Dl i x H' acc hlt (c.ex.trans e') ⟨c.new, c.ex.trans e', e'.get c.at_⟩ hl (st _ _ _ _ hP e') y
  · have e2 : i = n := by omega
    subst e2
    exact Or.inl ⟨S.stop H1 hp, q Dl H1 acc hD c.ex c.at_ hl hP⟩
/-- a while by an invariant that tells a falling number -/
def WB (W : Nat → L2.St → Hp → Prop) (t : TS) (D : Ends) (m : Nat) (σ' : L2.St) : Bool → Hp → Prop := fun b H1 => if b = true then ∃ N : L2.St → Hp → Prop, (∀ σ' H', N σ' H' → ∃ m', m' < m ∧ W m' σ' H') ∧ t { D with nx := N, ct := N, bk := D.nx } σ' H1 else D.nx σ' H1
theorem w_while {c : TT} {t : TS} (W : Nat → L2.St → Hp → Prop) (m0 : Nat) (h0 : W m0 σ H) (hs : ∀ m σ' H', W m σ' H' → c σ' H' (WB W t D m σ')) : tWhile c t D σ H := ⟨W, ⟨m0, h0⟩, hs⟩
section
variable {W : Nat → L2.St → Hp → Prop} {t : TS} {m : Nat}
theorem wb_T (h : t ⟨fun σ2 H2 => ∃ m', m' < m ∧ W m' σ2 H2, D.rt, D.nx, fun σ2 H2 => ∃ m', m' < m ∧ W m' σ2 H2⟩ σ H) : WB W t D m σ true H := ⟨_, fun _ _ h => h, h⟩
theorem wb_F (h : D.nx σ H) : WB W t D m σ false H := h
theorem wb_dec {p : Prop} [Decidable p] (h1 : p → t ⟨fun σ2 H2 => ∃ m', m' < m ∧ W m' σ2 H2, D.rt, D.nx, fun σ2 H2 => ∃ m', m' < m ∧ W m' σ2 H2⟩ σ H) (h2 : ¬ p → D.nx σ H) : WB W t D m σ (decide p) H := by
  by_cases h : p
  · rw [decide_eq_true h]; exact wb_T (h1 h)
  · rw [decide_eq_false h]; exact wb_F (h2 h)
end
end
end Z
namespace Z
open PySem L2
/-! ### own classes: what the top says of one, as one truth value -/
structure OwnC (K : PySem.W.Frag) (C : Addr) : Prop where
  cl : Cls K C
  sf : PySem.W.selfFirst K C = true
  ca : PySem.W.findIn K (.ref C) "__class__" = some (some (.builtin "object.__class__"))
  cn : PySem.W.specialIn K (.builtin "object.__class__") "__get__" = some (some (.builtin "getset_descriptor.__get__"))
  ct : PySem.W.takesIn K (.builtin "object.__class__") = some true
  cm : PySem.W.mroIn K C (.type "object") = some true
  ni : PySem.W.subIn K (.type "int") (.ref C) = some false
  ni' : PySem.W.subIn K (.ref C) (.type "int") = some false
  kCI : PySem.W.kitOne K (.ref C) (.type "int") = some false
  kIC : PySem.W.kitOne K (.type "int") (.ref C) = some false
  kCC : PySem.W.kitOne K (.ref C) (.ref C) = some true
def ownB (K : PySem.W.Frag) (x : Str) : Bool := (He.Fa.cls x).ok K && (PySem.W.selfFirst K (He.ga K x) && (decide (PySem.W.findIn K (.ref (He.ga K x)) "__class__" = some (some (.builtin "object.__class__"))) &&
  (decide (PySem.W.specialIn K (.builtin "object.__class__") "__get__" = some (some (.builtin "getset_descriptor.__get__"))) && (decide (PySem.W.takesIn K (.builtin "object.__class__") = some true) && (decide (PySem.W.mroIn K (He.ga K x) (.type "object") = some true) &&
  (decide (PySem.W.subIn K (.type "int") (.ref (He.ga K x)) = some false) && (decide (PySem.W.subIn K (.ref (He.ga K x)) (.type "int") = some false) && (decide (PySem.W.kitOne K (.ref (He.ga K x)) (.type "int") = some false) &&
  (decide (PySem.W.kitOne K (.type "int") (.ref (He.ga K x)) = some false) && decide (PySem.W.kitOne K (.ref (He.ga K x)) (.ref (He.ga K x)) = some true))))))))))
theorem ownB_ok {K : PySem.W.Frag} {x : Str} (h : ownB K x = true) : OwnC K (He.ga K x) := by
  obtain ⟨h1, h⟩ := He.ba h
  obtain ⟨h2, h⟩ := He.ba h
  obtain ⟨h3, h⟩ := He.ba h
  obtain ⟨h4, h⟩ := He.ba h
  obtain ⟨h5, h⟩ := He.ba h
  obtain ⟨h6, h⟩ := He.ba h
  obtain ⟨h7, h⟩ := He.ba h
  obtain ⟨h8, h⟩ := He.ba h
  obtain ⟨h9, h⟩ := He.ba h
  obtain ⟨h10, h11⟩ := He.ba h
  exact ⟨He.cls_ok h1, h2, of_decide_eq_true h3, of_decide_eq_true h4, of_decide_eq_true h5, of_decide_eq_true h6, of_decide_eq_true h7, of_decide_eq_true h8, of_decide_eq_true h9, of_decide_eq_true h10, of_decide_eq_true h11⟩
/-! ### own operators -/
section
variable {X : Cx} {CX : CXT} {n : Nat} {C g : Addr} {sp : Sp} {E : XK}
theorem inst_of {pins : List (Addr × Obj)} {σ : L2.St} {H : Hp} {s : Shared} {a dx : Addr} {fs : List (Str × V)} (I : Inv X pins σ H s) (h : At H a (.ins C dx fs)) : ∃ od, PySem.W.InstAt s.heap a (PySem.W.instObj C dx) C (some od) := by
  obtain ⟨mA, O, _⟩ := ins_get I.hok h
  obtain ⟨od, J, _⟩ := O.look
  exact ⟨od, J⟩
/-- int has both slots of an operator, or it is known that it lacks one -/
def IntHas (nm : String) : Prop := ∀ K : PySem.W.Frag, (∃ fo, PySem.W.findIn K (.type "int") (PySem.dunder nm) = some fo) ∧ ∃ ro, PySem.W.findIn K (.type "int") (dunderR nm) = some ro
theorem has_add : IntHas "add" := fun _ => ⟨⟨some (.builtin "int.__add__"), by kernel_rfl⟩, some (.builtin "int.__radd__"), by kernel_rfl⟩
theorem has_sub : IntHas "sub" := fun _ => ⟨⟨some (.builtin "int.__sub__"), by kernel_rfl⟩, some (.builtin "int.__rsub__"), by kernel_rfl⟩
theorem has_mul : IntHas "mul" := fun _ => ⟨⟨some (.builtin "int.__mul__"), by kernel_rfl⟩, some (.builtin "int.__rmul__"), by kernel_rfl⟩
theorem has_floordiv : IntHas "floordiv" := fun _ => ⟨⟨some (.builtin "int.__floordiv__"), by kernel_rfl⟩, some (.builtin "int.__rfloordiv__"), by kernel_rfl⟩
theorem has_mod : IntHas "mod" := fun _ => ⟨⟨some (.builtin "int.__mod__"), by kernel_rfl⟩, some (.builtin "int.__rmod__"), by kernel_rfl⟩
/-- a op b, both of the class at C -/
def rOO (C : Addr) (sp : Sp) (E : XK) : R2 := fun x y H Q => ∃ a dx fs b dy gs, x = .ref a ∧ y = .ref b ∧ At H a (.ins C dx fs) ∧ At H b (.ins C dy gs) ∧ sp [x, y] H Q E
/-- a op i, a of the class at C, i an int -/
def rOI (C : Addr) (sp : Sp) (E : XK) : R2 := fun x y H Q => ∃ a dx fs i, x = .ref a ∧ y = .int i ∧ At H a (.ins C dx fs) ∧ sp [x, y] H Q E
theorem op_OO {op : Operator} (O : OwnC X.K C) (hs : PySem.W.findIn X.K (.ref C) (PySem.dunder op.info.2) = some (some (.ref g))) (hf : PySem.W.isFn X.K (.ref g) = true) (F : FnR X.prog X.w X.K X.mg X.base CX n g sp) (hr : Room n X.A) (hx : Passes CX X E) :
    OpR X (binaryOp op) (rOO C sp E) := by
  intro pins s σ H x y v u Q I rx ry h
  obtain ⟨a, dx, fs, b, dy, gs, rfl, rfl, ha, hb, q⟩ := h
  cases (show v = Value.ref a from rx)
  cases (show u = Value.ref b from ry)
  obtain ⟨od, J⟩ := inst_of I ha
  obtain ⟨od', J'⟩ := inst_of I hb
  obtain ⟨m, hF⟩ := I.fr
  refine PySem.W.binop_K hF I.ok.mod.kin J J'.type O.sf hs hf (wpAny_mono (wpAny_call (run_fnR (us := [.ref a, .ref b]) (vs := [.ref a, .ref b]) F hr hx I (.cons rfl (.cons rfl .nil)) q)) (fun w s' z => ?_) fun _ _ x => x)
  obtain ⟨z', H', I', rz, qz⟩ := z
  exact SlX.cmpback rz ⟨z', H', I', rz, qz⟩
theorem op_OI {op : Operator} {rc : Option Value} (O : OwnC X.K C) (hs : PySem.W.findIn X.K (.ref C) (PySem.dunder op.info.2) = some (some (.ref g))) (hf : PySem.W.isFn X.K (.ref g) = true)
    (hr' : PySem.W.findIn X.K (.ref C) (dunderR op.info.2) = some rc) (hp : rc = none ∨ ∃ g : Addr, rc = some (.ref g)) (h12 : IntHas op.info.2)
    (F : FnR X.prog X.w X.K X.mg X.base CX n g sp) (hr : Room n X.A) (hx : Passes CX X E) : OpR X (binaryOp op) (rOI C sp E) := by
  intro pins s σ H x y v u Q I rx ry h
  obtain ⟨a, dx, fs, i, rfl, rfl, ha, q⟩ := h
  cases (show v = Value.ref a from rx)
  obtain ⟨t, rfl⟩ := (show ∃ t, u = Value.int i t from ry)
  obtain ⟨od, J⟩ := inst_of I ha
  obtain ⟨m, hF⟩ := I.fr
  refine PySem.W.ksp_binT (T := "int") hF I.ok.mod.kin J rfl O.sf hs hf hr' hp (h12 X.K).1.choose_spec (h12 X.K).2.choose_spec O.ni (wpAny_mono (wpAny_call (run_fnR (us := [.ref a, .int i t]) (vs := [.ref a, .int i]) F hr hx I (.cons rfl (.cons ⟨t, rfl⟩ .nil)) q)) (fun w s' z => ?_) fun _ _ x => x)
  obtain ⟨z', H', I', rz, qz⟩ := z
  exact SlX.cmpback rz ⟨z', H', I', rz, qz⟩
/-- -a -/
def rUO (C : Addr) (sp : Sp) (E : XK) : V → Hp → VK → Prop := fun x H Q => ∃ a dx fs, x = .ref a ∧ At H a (.ins C dx fs) ∧ sp [x] H Q E
theorem un_O (hs : PySem.W.findIn X.K (.ref C) "__neg__" = some (some (.ref g))) (hf : PySem.W.isFn X.K (.ref g) = true) (F : FnR X.prog X.w X.K X.mg X.base CX n g sp) (hr : Room n X.A) (hx : Passes CX X E) : UnR X (unaryOp .USub) (rUO C sp E) := by
  intro pins s σ H x v Q I rx h
  obtain ⟨a, dx, fs, rfl, ha, q⟩ := h
  cases (show v = Value.ref a from rx)
  obtain ⟨od, J⟩ := inst_of I ha
  obtain ⟨m, hF⟩ := I.fr
  exact PySem.W.ksp_neg hF I.ok.mod.kin J hs hf (wpAny_call (run_fnR (us := [.ref a]) (vs := [.ref a]) F hr hx I (.cons rfl .nil) q))
/-- a op b by an own comparison, b of the same class or an int -/
theorem cmp_OO {op : CmpOp} (hop : ∀ a b, compareOp op a b = richCompare op a b) (O : OwnC X.K C) (hs : PySem.W.findIn X.K (.ref C) (cmpInfo op).2.1 = some (some (.ref g))) (hf : PySem.W.isFn X.K (.ref g) = true) (F : FnR X.prog X.w X.K X.mg X.base CX n g sp) (hr : Room n X.A) (hx : Passes CX X E) :
    OpR X (compareOp op) (rOO C sp E) := by
  intro pins s σ H x y v u Q I rx ry h
  obtain ⟨a, dx, fs, b, dy, gs, rfl, rfl, ha, hb, q⟩ := h
  cases (show v = Value.ref a from rx)
  cases (show u = Value.ref b from ry)
  obtain ⟨od, J⟩ := inst_of I ha
  obtain ⟨od', J'⟩ := inst_of I hb
  obtain ⟨m, hF⟩ := I.fr
  rw [hop]
  refine PySem.W.cmp_K (op := op) (tb := .ref C) hr.units0 hF I.ok.mod.kin J J'.type (by simp [PySem.W.notFirst]) hs hf (wpAny_mono (wpAny_call (run_fnR (us := [.ref a, .ref b]) (vs := [.ref a, .ref b]) F hr hx I (.cons rfl (.cons rfl .nil)) q)) (fun w s' z => ?_) fun _ _ x => x)
  obtain ⟨z', H', I', rz, qz⟩ := z
  exact SlX.cmpback rz ⟨z', H', I', rz, qz⟩
theorem cmp_OI {op : CmpOp} (hop : ∀ a b, compareOp op a b = richCompare op a b) (O : OwnC X.K C) (hs : PySem.W.findIn X.K (.ref C) (cmpInfo op).2.1 = some (some (.ref g))) (hf : PySem.W.isFn X.K (.ref g) = true) (F : FnR X.prog X.w X.K X.mg X.base CX n g sp) (hr : Room n X.A) (hx : Passes CX X E) :
    OpR X (compareOp op) (rOI C sp E) := by
  intro pins s σ H x y v u Q I rx ry h
  obtain ⟨a, dx, fs, i, rfl, rfl, ha, q⟩ := h
  cases (show v = Value.ref a from rx)
  obtain ⟨t, rfl⟩ := (show ∃ t, u = Value.int i t from ry)
  obtain ⟨od, J⟩ := inst_of I ha
  obtain ⟨m, hF⟩ := I.fr
  rw [hop]
  refine PySem.W.cmp_K (op := op) (tb := .type "int") hr.units0 hF I.ok.mod.kin J (PySem.W.Looks.of_pure rfl) (by simp [PySem.W.notFirst, O.ni]) hs hf (wpAny_mono (wpAny_call (run_fnR (us := [.ref a, .int i t]) (vs := [.ref a, .int i]) F hr hx I (.cons rfl (.cons ⟨t, rfl⟩ .nil)) q)) (fun w s' z => ?_) fun _ _ x => x)
  obtain ⟨z', H', I', rz, qz⟩ := z
  exact SlX.cmpback rz ⟨z', H', I', rz, qz⟩
/-! an int on the left: its own slot hands back NotImplemented -/
theorem asInt_ref {M : Model} {A : Around} {E : Value → Shared → Prop} {s : Shared} {x dx C : Addr} {Q : Option Int → Shared → Prop} (ho : s.heap.get? x = some (PySem.W.instObj C dx)) (h : Q none s) : wpAny M A (asInt? (.ref x)) Q E s := by
  unfold asInt?
  exact wpAny_bind (wpAny_load ho (wpAny_pure h))
theorem intBinary_ni {M : Model} {A : Around} {E : Value → Shared → Prop} {s : Shared} {x dx C : Addr} {nm : String} {f : Int → Int → Sem Fin} {i : Int} {t : Tok} {Q : Fin → Shared → Prop} (ho : s.heap.get? x = some (PySem.W.instObj C dx))
    (h : Q (.done (.ret .notImplemented)) s) : wpAny M A (Builtin.Int.intBinary nm f false ⟨[.int i t, .ref x], []⟩) Q E s := by
  unfold Builtin.Int.intBinary
  refine wpAny_bind (wpAny_of_eq (a := ((Value.int i t : Value), [Value.ref x])) (by first | rfl | (simp only [slotArgs]; rfl)) ?_)
  refine wpAny_bind (wpAny_of_eq (a := i) (by first | rfl | (simp only [Builtin.intOfSelf]; rfl)) ?_)
  refine wpAny_bind (asInt_ref ho ?_)
  exact wpAny_bind (wpAny_rule (wpAny_pure h))
theorem int_ni {prog : Program} {w : World} {A : Around} {E : Value → Shared → Prop} {s : Shared} {x dx C : Addr} {id : String} {name : Str} {B : Builtin} {i : Int} {t : Tok} {Q : Value → Shared → Prop} (slot : Slot "int" name id) (entry : entryFor table id = some B)
    (args : argsOk id ⟨[.int i t, .ref x], []⟩) (hB : ∃ nm f, B = Builtin.Int.intBinary nm f false) (ho : s.heap.get? x = some (PySem.W.instObj C dx)) (h : Q .notImplemented s) : wpAny (model prog w) A (call (.builtin id) [.int i t, .ref x]) Q E s := by
  obtain ⟨nm, f, rfl⟩ := hB
  exact call_meets (S := fun _ R s' => s' = s ∧ R (.ok (.ret .notImplemented)) s) slot (typeIs_int s i t) entry args (fun prog w A R s' hs => by
    obtain ⟨rfl, hs⟩ := hs
    exact intBinary_ni ho hs) ⟨rfl, h⟩
theorem bin_IO {prog : Program} {w : World} {A : Around} {E : Value → Shared → Prop} {s : Shared} {K : PySem.W.Frag} {x dx C f f' : Addr} {od : Option Obj} {op : Operator} {id : String} {B : Builtin} {i : Int} {t : Tok} {Q : Value → Shared → Prop}
    (X : K.In s.heap) (I : PySem.W.InstAt s.heap x (PySem.W.instObj C dx) C od) (hc : PySem.W.selfFirst K C = true) (fills : fillsNumberSlot (.type "int") op.info.2 = pure true) (slot : Slot "int" (PySem.dunder op.info.2) id) (entry : entryFor table id = some B)
    (args : argsOk id ⟨[.int i t, .ref x], []⟩) (hB : ∃ nm f, B = Builtin.Int.intBinary nm f false) (hs : PySem.W.findIn K (.ref C) (PySem.dunder op.info.2) = some (some (.ref f'))) (hR : PySem.W.findIn K (.ref C) (dunderR op.info.2) = some (some (.ref f))) (hf : PySem.W.isFn K (.ref f) = true)
    (hsub : PySem.W.subIn K (.ref C) (.type "int") = some false) (h : wpAny (model prog w) A (call (.ref f) [.ref x, .int i t]) (PySem.W.CmpBack Q) E s) : wpAny (model prog w) A (binaryOp op (.int i t) (.ref x)) Q E s := by
  obtain ⟨cd, rest, hcd, hm⟩ := PySem.W.ksp_first hc
  rcases hi : op.info with ⟨sym, nm⟩
  rw [hi] at fills slot hs hR
  dsimp only at fills slot hs hR
  have hx : s.heap.get? x = some (PySem.W.instObj C dx) := I.1
  have two := PySem.W.ksp_try X I hR hf h
  have one : wpAny (model prog w) A (tryMethod (.int i t) (PySem.dunder nm) (.ref x)) (fun r s' => r = none ∧ s' = s) E s := by
    simp only [tryMethod]
    exact wpAny_bind (wpAny_callSpecial?_slot (typeIs_int s i t) slot (int_ni slot entry args hB hx (wpAny_pure ⟨rfl, rfl⟩)))
  have L1 : PySem.W.Looks (model prog w) s.heap (typeOf (.ref x)) (.ref C) := I.type
  have L3 : PySem.W.Looks (model prog w) s.heap (fillsNumberSlot (.ref C) nm) true := PySem.W.fills_K X hcd hm hs
  have L5 : PySem.W.Looks (model prog w) s.heap (isSubtype (.ref C) (.type "int")) false := PySem.W.looks_subIn X hsub
  have L7 : numberSlotInPython (.type "int") nm = pure false := rfl
  have ne : (Value.type "int" == Value.ref C) = false := Bool.eq_false_iff.mpr fun q => by cases beq_iff_eq.mp q
  simp only [binaryOp, hi]
  refine wpAny_holding (wpAny_bind ?_)
  unfold binaryOp1
  refine wpAny_bind (wpAny_typeOf (typeIs_int s i t) (wpAny_bind (L1.here (wpAny_bind (wpAny_of_eq fills ?_)))))
  simp only [ne, Bool.false_eq_true, if_false]
  refine wpAny_bind (L3.here ?_)
  simp only [Bool.and_self, if_true]
  refine wpAny_bind (L5.here ?_)
  simp only [Bool.false_eq_true, if_false, Bool.not_false, Bool.and_self, if_true, pure_bind, L7]
  refine wpAny_bind (wpAny_mono one (fun r s' hr => ?_) fun _ _ e => e)
  obtain ⟨rfl, rfl⟩ := hr
  dsimp only
  refine wpAny_bind (wpAny_mono two (fun r s' hr => ?_) fun _ _ e => e)
  obtain ⟨v, rfl, hq⟩ := hr
  exact wpAny_bind (wpAny_rule (wpAny_pure (wpAny_pure hq)))
/-- i op a -/
def rIO (C : Addr) (sp : Sp) (E : XK) : R2 := fun x y H Q => ∃ a dx fs i, x = .int i ∧ y = .ref a ∧ At H a (.ins C dx fs) ∧ sp [y, x] H Q E
theorem op_IO {op : Operator} {id : String} {B : Builtin} {f' : Addr} (O : OwnC X.K C) (hR : PySem.W.findIn X.K (.ref C) (dunderR op.info.2) = some (some (.ref g))) (hf : PySem.W.isFn X.K (.ref g) = true) (hs : PySem.W.findIn X.K (.ref C) (PySem.dunder op.info.2) = some (some (.ref f')))
    (fills : fillsNumberSlot (.type "int") op.info.2 = pure true) (slot : Slot "int" (PySem.dunder op.info.2) id) (entry : entryFor table id = some B) (args : ∀ a b, argsOk id ⟨[a, b], []⟩) (hB : ∃ nm f, B = Builtin.Int.intBinary nm f false)
    (F : FnR X.prog X.w X.K X.mg X.base CX n g sp) (hr : Room n X.A) (hx : Passes CX X E) : OpR X (binaryOp op) (rIO C sp E) := by
  intro pins s σ H x y v u Q I rx ry h
  obtain ⟨a, dx, fs, i, rfl, rfl, ha, q⟩ := h
  obtain ⟨t, rfl⟩ := (show ∃ t, v = Value.int i t from rx)
  cases (show u = Value.ref a from ry)
  obtain ⟨od, J⟩ := inst_of I ha
  refine bin_IO I.kIn J O.sf fills slot entry (args _ _) hB hs hR hf O.ni' (wpAny_mono (wpAny_call (run_fnR (us := [.ref a, .int i t]) (vs := [.ref a, .int i]) F hr hx I (.cons rfl (.cons ⟨t, rfl⟩ .nil)) q)) (fun w s' z => ?_) fun _ _ x => x)
  obtain ⟨z', H', I', rz, qz⟩ := z
  exact SlX.cmpback rz ⟨z', H', I', rz, qz⟩
theorem addIO {f' : Addr} (O : OwnC X.K C) (hR : PySem.W.findIn X.K (.ref C) "__radd__" = some (some (.ref g))) (hf : PySem.W.isFn X.K (.ref g) = true) (hs : PySem.W.findIn X.K (.ref C) "__add__" = some (some (.ref f'))) (F : FnR X.prog X.w X.K X.mg X.base CX n g sp) (hr : Room n X.A) (hx : Passes CX X E) : OpR X (binaryOp .Add) (rIO C sp E) :=
  op_IO (op := .Add) O hR hf hs PySem.F.fills_int_add PySem.F.slot_int_add PySem.F.entry_int_add PySem.F.args_int_add_2 ⟨_, _, rfl⟩ F hr hx
theorem subIO {f' : Addr} (O : OwnC X.K C) (hR : PySem.W.findIn X.K (.ref C) "__rsub__" = some (some (.ref g))) (hf : PySem.W.isFn X.K (.ref g) = true) (hs : PySem.W.findIn X.K (.ref C) "__sub__" = some (some (.ref f'))) (F : FnR X.prog X.w X.K X.mg X.base CX n g sp) (hr : Room n X.A) (hx : Passes CX X E) : OpR X (binaryOp .Sub) (rIO C sp E) :=
  op_IO (op := .Sub) O hR hf hs PySem.F.fills_int_sub PySem.F.slot_int_sub PySem.F.entry_int_sub PySem.F.args_int_sub_2 ⟨_, _, rfl⟩ F hr hx
theorem mulIO {f' : Addr} (O : OwnC X.K C) (hR : PySem.W.findIn X.K (.ref C) "__rmul__" = some (some (.ref g))) (hf : PySem.W.isFn X.K (.ref g) = true) (hs : PySem.W.findIn X.K (.ref C) "__mul__" = some (some (.ref f'))) (F : FnR X.prog X.w X.K X.mg X.base CX n g sp) (hr : Room n X.A) (hx : Passes CX X E) : OpR X (binaryOp .Mult) (rIO C sp E) :=
  op_IO (op := .Mult) O hR hf hs PySem.F.fills_int_mul PySem.F.slot_int_mul PySem.F.entry_int_mul PySem.F.args_int_mul_2 ⟨_, _, rfl⟩ F hr hx
/-- abs(a) by an own __abs__ -/
def rC1 (C : Addr) (sp : Sp) (E : XK) : List V → Hp → VK → Prop := fun xs H Q => ∃ a dx fs, xs = [V.ref a] ∧ At H a (.ins C dx fs) ∧ sp [.ref a] H Q E
theorem call_absO (hs : PySem.W.findIn X.K (.ref C) "__abs__" = some (some (.ref g))) (hf : PySem.W.isFn X.K (.ref g) = true) (F : FnR X.prog X.w X.K X.mg X.base CX n g sp) (hr : Room (n + 1) X.A) (hx : Passes CX X E) : CallR X (.builtin "abs") (rC1 C sp E) := by
  intro pins s σ H xs us Q I r h
  obtain ⟨a, dx, fs, rfl, ha, q⟩ := h
  obtain ⟨u, rfl, ru⟩ := r.one
  cases (show u = Value.ref a from ru)
  obtain ⟨od, J⟩ := inst_of I ha
  refine PySem.Calls.call_function_entry PyProof.Rows.kind_abs PyProof.Rows.plain_abs PyProof.Rows.entry_abs (PyProof.Rows.args_abs _) ?_
  unfold Builtin.«abs»
  refine wpAny_bind (m := oneArg "abs" _) (wpAny_pure (wpAny_bind (PySem.W.special_fn I.kIn J hs (beq_iff_eq.mp hf) (wpAny_mono (wpAny_call (SlX.run_at (us := [.ref a]) (ws := [.ref a]) F hr.in1 I.env0.in1 hx I (.cons rfl .nil) q)) (fun w s' z => ?_) fun _ _ x => x))))
  exact wpAny_pure ⟨w, rfl, z⟩
end
/-! ### readings: fields, new instances, own operators -/
def dF (K : PySem.W.Frag) (f : Str) (Q : VK) : VK := fun x H1 => ∃ a C dx fs v, x = .ref a ∧ At H1 a (.ins C dx fs) ∧ Cls K C ∧ NoAttr K C f ∧ fs.lookup f = some v ∧ Q v H1
def dSF (K : PySem.W.Frag) (f : Str) (y : V) (R : Hp → Prop) : VK := fun x H2 => ∃ a C dx fs, x = .ref a ∧ At H2 a (.ins C dx fs) ∧ Cls K C ∧ NoAttr K C f ∧ fs.length < 1000 ∧ R (upd H2 a (.ins C dx (putF f y fs)))
section
variable {K : PySem.W.Frag} {σ : L2.St} {H H' : Hp} {Q : VK} {v x y : V} {a b C dx dy : Addr} {fs gs : List (Str × V)} {f : Str} {i j : Int} {sp : Sp} {E : XK} {D : Ends} {ts : TA}
theorem w_fld {ta : TE} (h : ta σ H (dF K f Q)) : tFld K ta f σ H Q := h
theorem w_dF (h : At H a (.ins C dx fs)) (cl : Cls K C) (na : NoAttr K C f) (hl : fs.lookup f = some v) (q : Q v H) : dF K f Q (.ref a) H := ⟨a, C, dx, fs, v, rfl, h, cl, na, hl, q⟩
theorem w_sfld {ta tv : TE} (h : tv σ H fun y H1 => ta σ H1 (dSF K f y (D.nx σ))) : sFld K ta tv f D σ H := h
theorem w_dSF {R : Hp → Prop} (h : At H a (.ins C dx fs)) (cl : Cls K C) (na : NoAttr K C f) (hl : fs.length < 1000) (q : ∀ H2, At H2 a (.ins C dx (putF f y fs)) → (∀ b o, b ≠ a → At H b o → At H2 b o) → (∀ b, Fr H2 b → Fr H b) → R H2) : dSF K f y R (.ref a) H :=
  ⟨a, C, dx, fs, rfl, h, cl, na, hl, q _ upd_same (fun b o hb e => by unfold At; rw [upd_ne hb]; exact e) fun b e => by
    unfold Fr at *
    by_cases hb : b = a
    · subst hb; rw [upd_same] at e; cases e
    · rwa [upd_ne hb] at e⟩
/-- a new instance, ahead of its __init__ -/
structure New (C : Addr) (H : Hp) (p dx : Addr) (H2 : Hp) : Prop where
  new : Fr H p
  dnew : Fr H dx
  ne : dx ≠ p
  ex : Ex H H2
  at_ : At H2 p (.ins C dx [])
  own : At H2 dx (.own p)
def dMk (C : Addr) (sp : Sp) (dvs : List V) (E : XK) (Q : VK) : List V → Hp → Prop := fun vs H1 => ∀ x dx, Fr H1 x → Fr H1 dx → dx ≠ x → sp (.ref x :: (vs ++ dvs)) (upd (upd H1 dx (.own x)) x (.ins C dx [])) (fun v H2 => v = .non ∧ Q (.ref x) H2) E
theorem w_make {dvs : List V} (h : ts σ H (dMk C sp dvs E Q)) : tMake C sp dvs E ts σ H Q := h
theorem w_dMk {dvs vs : List V} (h : ∀ p dx H2, New C H p dx H2 → sp (.ref p :: (vs ++ dvs)) H2 (fun v H3 => v = .non ∧ Q (.ref p) H3) E) : dMk C sp dvs E Q vs H := fun p dx hp hd hne =>
  h p dx _ ⟨hp, hd, hne, (Ex.new hd).trans (Ex.new (by unfold Fr; rw [upd_ne (Ne.symm hne)]; exact hp)), upd_same, by unfold At; rw [upd_ne hne, upd_same]⟩
theorem w_OO (ha : At H a (.ins C dx fs)) (hb : At H b (.ins C dy gs)) (q : sp [.ref a, .ref b] H Q E) : rOO C sp E (.ref a) (.ref b) H Q := ⟨a, dx, fs, b, dy, gs, rfl, rfl, ha, hb, q⟩
theorem w_OI (ha : At H a (.ins C dx fs)) (q : sp [.ref a, .int i] H Q E) : rOI C sp E (.ref a) (.int i) H Q := ⟨a, dx, fs, i, rfl, rfl, ha, q⟩
theorem w_IO (ha : At H a (.ins C dx fs)) (q : sp [.ref a, .int i] H Q E) : rIO C sp E (.int i) (.ref a) H Q := ⟨a, dx, fs, i, rfl, rfl, ha, q⟩
theorem w_UO (ha : At H a (.ins C dx fs)) (q : sp [.ref a] H Q E) : rUO C sp E (.ref a) H Q := ⟨a, dx, fs, rfl, ha, q⟩
theorem w_C1 (ha : At H a (.ins C dx fs)) (q : sp [.ref a] H Q E) : rC1 C sp E [.ref a] H Q := ⟨a, dx, fs, rfl, ha, q⟩
theorem w_gcd (q : Q (.int ((Nat.gcd i.natAbs j.natAbs : Nat) : Int)) H) : rGcd [.int i, .int j] H Q := ⟨i, j, rfl, q⟩
def rAbsI : List V → Hp → VK → Prop := fun xs H Q => ∃ i, xs = [.int i] ∧ Q (.int (if i < 0 then -i else i)) H
theorem call_absI {X : Cx} : CallR X (.builtin "abs") rAbsI := L2.call_abs
theorem w_absI (q : Q (.int (i.natAbs : Int)) H) : rAbsI [.int i] H Q := ⟨i, rfl, by
  have e : (if i < 0 then -i else i) = (i.natAbs : Int) := by split <;> omega
  rw [e]; exact q⟩
/-- isinstance of an instance, with an own class -/
theorem w_isiOC (O : OwnC K C) (ha : At H a (.ins C dx fs)) (q : Q (.bl true) H) : rIsi K [.ref a, .ref C] H Q := ⟨_, _, .ref C, .ref C, true, rfl, .own C, .base (.ins ha O.cl O.ca O.cn O.ct O.cm), O.kCC, q⟩
theorem w_isiOI (O : OwnC K C) (ha : At H a (.ins C dx fs)) (q : Q (.bl false) H) : rIsi K [.ref a, .ty "int"] H Q := ⟨_, _, .ref C, .type "int", false, rfl, .ty "int", .base (.ins ha O.cl O.ca O.cn O.ct O.cm), O.kCI, q⟩
theorem w_isiIC (O : OwnC K C) (q : Q (.bl false) H) : rIsi K [.int i, .ref C] H Q := ⟨_, _, .type "int", .ref C, false, rfl, .own C, .base (.int _), O.kIC, q⟩
end
theorem rawOk {P : Program} {w : World} {K : PySem.W.Frag} {mg : Str → Option Value} {base : Heap} {CX : CXT} {k : Nat} {f : Addr} {fd : FuncData} {ps : List Str} {sp : Sp} (F : FnOk P w K mg base CX k f fd ps sp) (hb : Binds K fd ps []) : FnR P w K mg base CX k f sp :=
  (F.raw hb .nil).imp fun vs H Q E h => by rw [List.append_nil]; exact h
/-! ### the head's facts as truth values of the written part -/
open He in
def obsZ (n : Nat) (ex : List (PySem.W.Frag → Bool)) (fn : List DefD) (g : Addr → Option Obj) : AlD := ((ex.all fun f => f (frG g (asD g n))) && fn.all fun d => d.ok (frG g (asD g n)), fn.map fun d => fnW (frG g (asD g n)) d.at_)
structure SaysZ (ex : List (PySem.W.Frag → Bool)) (fn : List He.DefD) (K : PySem.W.Frag) : Prop where
  facts : ∀ f ∈ ex, f K = true
  d : He.SaysD [] fn K
theorem SaysZ.fact {ex : List (PySem.W.Frag → Bool)} {fn : List He.DefD} {K : PySem.W.Frag} (c : SaysZ ex fn K) (i : Nat) {f : PySem.W.Frag → Bool} (h : ex[i]? = some f := by rfl) : f K = true := c.facts f (List.mem_of_getElem? h)
def hookZ (n : Nat) (ex : List (PySem.W.Frag → Bool)) (fn : List He.DefD) : PySem.W.Hook where
  α := He.AlD
  obs := fun s => obsZ n ex fn s.heap.get?
  val := fun _ => He.valD fn
  says := fun _ h => ∃ K : PySem.W.Frag, K.In h ∧ SaysZ ex fn K
  of := fun _ s e => by
    have e1 := congrArg (fun z : He.AlD => z.1) e
    have e2 := congrArg (fun z : He.AlD => z.2) e
    obtain ⟨h1, h2⟩ := He.ba e1
    refine ⟨He.frG s.heap.get? (He.asD s.heap.get? n), He.frG_in, fun f hf => List.all_eq_true.mp h1 f hf, ?_⟩
    show ((([] : List He.Fa).all fun f => f.ok _) && fn.all fun d => d.ok _, fn.map fun d => He.fnW _ d.at_) = (true, fn.map He.DefD.val)
    rw [h2]
    exact congrArg (fun z => (true, z)) e2
  keeps := fun _ _ _ ⟨K, hK, c⟩ k => ⟨K, PySem.W.Frag.In.keeps hK k, c⟩
theorem obsZ_eq {n : Nat} {ex : List (PySem.W.Frag → Bool)} {fn : List He.DefD} {g : Addr → Option Obj} {s : Shared} (h : ∀ a, g a = s.heap.get? a) : obsZ n ex fn g = (hookZ n ex fn).obs s := by
  have e : g = s.heap.get? := funext h
  rw [e]
  rfl
def bltB (x : Str) (id : String) (K : PySem.W.Frag) : Bool := He.eqO (PySem.W.nsIn K mainGlobals x) (some (some (.builtin id)))
theorem blt_ok {K : PySem.W.Frag} {h : Heap} {mg : Str → Option Value} (X : K.In h) (G : h.Ns mainGlobals mg) {x : Str} {id : String} (c : bltB x id K = true) : mg x = some (.builtin id) := PySem.W.mg_of X G (He.eqO_ok c)
def nometB (x f : Str) (K : PySem.W.Frag) : Bool := He.eqO (PySem.W.findIn K (.ref (He.ga K x)) f) (some none)
theorem nomet_ok {K : PySem.W.Frag} {x f : Str} (c : nometB x f K = true) : PySem.W.findIn K (.ref (He.ga K x)) f = some none := He.eqO_ok c
end Z
namespace Z
open PySem L2 PySem.Spec PyProof.Rows
/-! ### calls whose errors are wished for at the caller's slots -/
section
variable {X : Cx} {CX : CXT} {k : Nat} {f g C : Addr} {fd : FuncData} {ps : List Str} {sp : Sp} {dvs : List V} {ds : List Value} {E : L2.St → XK} {x m : Str} {p pos apos : Pos} {e o : Expr} {es : List Expr} {ta tb : TE} {t : TA} {a b : Expr}
theorem runR {pins : List (Addr × Obj)} {σ : L2.St} {G : Hp} {s : Shared} {Q : VK} {us : List Value} {vs : List V} (F : FnR X.prog X.w X.K X.mg X.base CX k f sp) (hr : Room k X.A) (hx : PassesAt CX X σ (E σ)) (I : Inv X pins σ G s) (r : Vals vs us) (h : sp vs G Q (E σ)) :
    codeAny (model X.prog X.w) X.A (.call (.ref f) ⟨us, []⟩) (fun r s' => match r with | .ok (.ret v) => EP X pins σ Q v s' | .ok _ => False | .error e => X.xe e s') s :=
  codeAny_mono (F X.A X.stack s G us vs Q (E σ) hr I.env0 r h) fun r s' hq => match r, hq with
    | .error e, hq => hx pins G s e s' I hq
    | .ok (.ret u), hq => I.after hq
    | .ok .next, hq => hq
    | .ok .brk, hq => hq
    | .ok .cont, hq => hq
def tCallZ (sp : Sp) (dvs : List V) (E : L2.St → XK) (t : TA) : TE := fun σ H Q => tCall sp dvs (E σ) t σ H Q
theorem pe_callZ (F : FnOk X.prog X.w X.K X.mg X.base CX k f fd ps sp) (hr : Room k X.A) (hg : Gl X x) (hm : X.mg x = some (.ref f)) (hk : PySem.W.keepIn X.K (.ref f) = true) (hb : Binds X.K fd ps ds) (hd : Vals dvs ds) (hx : ∀ σ, PassesAt CX X σ (E σ)) (ha : PA X (e :: es) t)
    (hdb : (x == ("__debug__" : Str)) = false := by decide) (hst : starEach (e :: es) X.env = (false, eval e X.env) :: starEach es X.env := by rfl) (hpl : (backTo pos (starEach es X.env)).any (·.1) = false := by rfl) : PE X (.Call (.Name x p) (e :: es) [] pos) (tCallZ sp dvs E t) :=
  pe_callSD F hr hg hm hk hb hd hx ha hdb hst hpl
theorem pe_callZ0 (F : FnOk X.prog X.w X.K X.mg X.base CX k f fd ps sp) (hr : Room k X.A) (hg : Gl X x) (hm : X.mg x = some (.ref f)) (hk : PySem.W.keepIn X.K (.ref f) = true) (hb : Binds X.K fd ps ds) (hd : Vals dvs ds) (hx : ∀ σ, PassesAt CX X σ (E σ))
    (hdb : (x == ("__debug__" : Str)) = false := by decide) : PE X (.Call (.Name x p) [] [] pos) (tCallZ sp dvs E tNil) :=
  ⟨fun pins s σ G Q I h => wpAny_Call_Name_kw (ld_glob I hg hm (PySem.W.callWith_K0 I.kIn hk (run_fnSD (us := []) F hr hb hd (hx σ) I .nil h)) hdb)⟩
def tMethZ (C : Addr) (m : Str) (sp : Sp) (dvs : List V) (E : L2.St → XK) (ta : TE) (t : TA) : TE := fun σ H Q => tMeth C m sp dvs (E σ) ta t σ H Q
theorem pe_methZ {pl : Sem Bool} (he : PE X o ta) (c : Cls X.K C) (hm : Meth X.K C m f) (F : FnOk X.prog X.w X.K X.mg X.base CX k f fd ps sp) (hr : Room k X.A) (hb : Binds X.K fd ps ds) (hd : Vals dvs ds) (hx : ∀ σ, PassesAt CX X σ (E σ)) (ha : PA X (e :: es) t)
    (hst : starEach (e :: es) X.env = (false, eval e X.env) :: starEach es X.env := by rfl) (hpl : (backTo pos (starEach es X.env)).any (·.1) = false := by rfl)
    (ht : eval (.Call (.Attribute o m apos) (e :: es) [] pos) X.env = (do let ov ← eval o X.env; standAt apos.atName; let (f, first) ← holding [ov] (getMethod ov m pl); callWith pos f first (backTo pos (starEach (e :: es) X.env)) (backToKw pos (keywordEach [] X.env))) := by rfl) :
    PE X (.Call (.Attribute o m apos) (e :: es) [] pos) (tMethZ C m sp dvs E ta t) :=
  ⟨fun pins s σ G Q I h => PySem.W.methodCall_KW (pl := pl) (thn (he.run pins s σ G _ I h) fun u s1 ⟨z, H1, I1, rx, a, dx, fs, ex, ea, l, q⟩ => by
    subst ex
    obtain rfl : u = Value.ref a := rx
    exact getmeth_ok I1 ea c hm l (PySem.W.callWith_K (first := [.ref a]) (h₀ := X.base) I.ok.mod.kin hm.kp (thn (ha.run pos pins s1 σ H1 _ I1 q) fun us s2 ⟨vs, H2, I2, r, q2⟩ => ⟨I2.kIn, run_fnSD (us := .ref a :: us) (vs := .ref a :: vs) F hr hb hd (hx σ) I2 (.cons rfl r) q2⟩) hst hpl)) ht⟩
theorem pe_methZ0 {pl : Sem Bool} (he : PE X o ta) (c : Cls X.K C) (hm : Meth X.K C m f) (F : FnOk X.prog X.w X.K X.mg X.base CX k f fd ps sp) (hr : Room k X.A) (hb : Binds X.K fd ps ds) (hd : Vals dvs ds) (hx : ∀ σ, PassesAt CX X σ (E σ))
    (ht : eval (.Call (.Attribute o m apos) [] [] pos) X.env = (do let ov ← eval o X.env; standAt apos.atName; let (f, first) ← holding [ov] (getMethod ov m pl); callWith pos f first (backTo pos (starEach [] X.env)) (backToKw pos (keywordEach [] X.env))) := by rfl) :
    PE X (.Call (.Attribute o m apos) [] [] pos) (tMethZ C m sp dvs E ta tNil) :=
  ⟨fun pins s σ G Q I h => PySem.W.methodCall_KW (pl := pl) (thn (he.run pins s σ G _ I h) fun u s1 ⟨z, H1, I1, rx, a, dx, fs, ex, ea, l, q⟩ => by
    subst ex
    obtain rfl : u = Value.ref a := rx
    exact getmeth_ok I1 ea c hm l (PySem.W.callWith_K0 (first := [.ref a]) I1.kIn hm.kp (run_fnSD (us := [.ref a]) (vs := [.ref a]) F hr hb hd (hx σ) I1 (.cons rfl .nil) q))) ht⟩
theorem run_makeZ {pins : List (Addr × Obj)} {σ : L2.St} {G : Hp} {s : Shared} {Q : VK} {us : List Value} {vs : List V} (M : Mk X.K C f) (F : FnOk X.prog X.w X.K X.mg X.base CX k f fd ps sp) (hr : Room (k + 1) X.A) (hb : Binds X.K fd ps ds) (hd : Vals dvs ds) (hx : PassesAt CX X σ (E σ)) (I : Inv X pins σ G s) (r : Vals vs us)
    (h : ∀ x dx, G x = none → G dx = none → dx ≠ x → sp (.ref x :: (vs ++ dvs)) (upd (upd G dx (.own x)) x (.ins C dx [])) (fun v H2 => v = .non ∧ Q (.ref x) H2) (E σ)) : wpAny (model X.prog X.w) X.A (call (.ref C) us) (EP X pins σ Q) X.xe s := by
  have hq := h (s.heap.objs.size + 1) s.heap.objs.size (I.hok.fresh (Nat.le_succ _)) (I.hok.fresh (Nat.le_refl _)) (Nat.ne_of_lt (Nat.lt_succ_self _))
  have J := Inv.made (C := C) I
  have w2 : Vals (V.ref (s.heap.objs.size + 1) :: (vs ++ dvs)) (Value.ref (s.heap.objs.size + 1) :: (us ++ ds)) := .cons rfl (r.append hd)
  have hn : (Value.ref (s.heap.objs.size + 1) :: us ++ ds).length = ps.length := (w2.length.symm.trans (F.len _ _ _ _ hq) : _)
  refine wpAny_call (make_map (f := f) I.kIn M.makes M.init (beq_iff_eq.mp M.fn) (codeAny_mono (F.run _ X.stack _ _ ⟨Value.ref (s.heap.objs.size + 1) :: us, []⟩ _ _ _ (E σ) (hr.make C us []) (J.env0.make C us []) (hb _ (Value.ref (s.heap.objs.size + 1) :: us) J.kIn hn) w2 hq) fun r s' z => ?_))
  match r, z with
  | .error e, z => exact hx pins _ _ e s' J z
  | .ok (.ret u), z =>
    obtain ⟨v, H', I3, rv, ev, q3⟩ := J.after z
    subst ev
    exact ⟨rv, V.ref (s.heap.objs.size + 1), H', I3, rfl, q3⟩
  | .ok .next, z => exact z.elim
  | .ok .brk, z => exact z.elim
  | .ok .cont, z => exact z.elim
def tMakeZ (C : Addr) (sp : Sp) (dvs : List V) (E : L2.St → XK) (t : TA) : TE := fun σ H Q => tMake C sp dvs (E σ) t σ H Q
theorem pe_makeZ (M : Mk X.K C f) (F : FnOk X.prog X.w X.K X.mg X.base CX k f fd ps sp) (hr : Room (k + 1) X.A) (hg : Gl X x) (hm : X.mg x = some (.ref C)) (hb : Binds X.K fd ps ds) (hd : Vals dvs ds) (hx : ∀ σ, PassesAt CX X σ (E σ)) (ha : PA X (e :: es) t)
    (hdb : (x == ("__debug__" : Str)) = false := by decide) (hst : starEach (e :: es) X.env = (false, eval e X.env) :: starEach es X.env := by rfl) (hpl : (backTo pos (starEach es X.env)).any (·.1) = false := by rfl) : PE X (.Call (.Name x p) (e :: es) [] pos) (tMakeZ C sp dvs E t) :=
  ⟨fun pins s σ G Q I h => wpAny_Call_Name_kw (ld_glob I hg hm (PySem.W.callWith_K (h₀ := X.base) I.ok.mod.kin M.kp (thn (ha.run pos pins s σ G _ I h) fun us s1 ⟨vs, H1, I1, r, q⟩ => ⟨I1.kIn, run_makeZ M F hr hb hd (hx σ) I1 r q⟩) hst hpl) hdb)⟩
theorem pe_makeZ0 (M : Mk X.K C f) (F : FnOk X.prog X.w X.K X.mg X.base CX k f fd ps sp) (hr : Room (k + 1) X.A) (hg : Gl X x) (hm : X.mg x = some (.ref C)) (hb : Binds X.K fd ps ds) (hd : Vals dvs ds) (hx : ∀ σ, PassesAt CX X σ (E σ))
    (hdb : (x == ("__debug__" : Str)) = false := by decide) : PE X (.Call (.Name x p) [] [] pos) (tMakeZ C sp dvs E tNil) :=
  ⟨fun pins s σ G Q I h => wpAny_Call_Name_kw (ld_glob I hg hm (PySem.W.callWith_K0 I.kIn M.kp (run_makeZ (us := []) M F hr hb hd (hx σ) I .nil h)) hdb)⟩
/-- an operator at the slots σ -/
def OpS (X : Cx) (op : Operator) (r : L2.St → R2) : Prop := ∀ (pins : List (Addr × Obj)) (s : Shared) (σ : L2.St) (G : Hp) (x y : V) (v u : Value) (Q : VK), Inv X pins σ G s → RelV x v → RelV y u → r σ x y G Q → wpAny (model X.prog X.w) X.A (binaryOp op v u) (EP X pins σ Q) X.xe s
def tOpS (r : L2.St → R2) (ta tb : TE) : TE := fun σ H Q => tOp (r σ) ta tb σ H Q
theorem pe_opS {op : Operator} {r : L2.St → R2} (ho : OpS X op r) (ha : PE X a ta) (hb : PE X b tb) : PE X (.BinOp a op b pos) (tOpS r ta tb) :=
  ⟨fun pins s σ G Q I h => wpAny_BinOp (binT ha hb I h fun v u s2 x y H2 I2 rx ry q => ho pins s2 σ H2 x y v u Q I2 rx ry q)⟩
theorem OpS.or {op : Operator} {r q : L2.St → R2} (h : OpS X op r) (g : OpS X op q) : OpS X op (fun σ x y H Q => r σ x y H Q ∨ q σ x y H Q) := fun pins s σ G x y v u Q I rx ry z => z.elim (h pins s σ G x y v u Q I rx ry) (g pins s σ G x y v u Q I rx ry)
theorem OpS.of {op : Operator} {r : R2} (h : OpR X (binaryOp op) r) : OpS X op (fun _ => r) := fun pins s σ G x y v u Q I rx ry z => h pins s σ G x y v u Q I rx ry z
theorem opS_OO {op : Operator} (O : OwnC X.K C) (hs : PySem.W.findIn X.K (.ref C) (PySem.dunder op.info.2) = some (some (.ref g))) (hf : PySem.W.isFn X.K (.ref g) = true) (F : FnR X.prog X.w X.K X.mg X.base CX k g sp) (hr : Room k X.A) (hx : ∀ σ, PassesAt CX X σ (E σ)) :
    OpS X op (fun σ => rOO C sp (E σ)) := by
  intro pins s σ G x y v u Q I rx ry h
  obtain ⟨a, dx, fs, b, dy, gs, rfl, rfl, ha, hb, q⟩ := h
  cases (show v = Value.ref a from rx)
  cases (show u = Value.ref b from ry)
  obtain ⟨od, J⟩ := inst_of I ha
  obtain ⟨od', J'⟩ := inst_of I hb
  obtain ⟨m, hF⟩ := I.fr
  exact PySem.W.binop_K hF I.ok.mod.kin J J'.type O.sf hs hf (wpAny_mono (wpAny_call (runR (us := [.ref a, .ref b]) (vs := [.ref a, .ref b]) F hr (hx σ) I (.cons rfl (.cons rfl .nil)) q)) (fun w s' ⟨z', H', I', rz, qz⟩ => SlX.cmpback rz ⟨z', H', I', rz, qz⟩) fun _ _ x => x)
theorem opS_OI {op : Operator} {rc : Option Value} (O : OwnC X.K C) (hs : PySem.W.findIn X.K (.ref C) (PySem.dunder op.info.2) = some (some (.ref g))) (hf : PySem.W.isFn X.K (.ref g) = true) (hr' : PySem.W.findIn X.K (.ref C) (dunderR op.info.2) = some rc) (hp : rc = none ∨ ∃ g : Addr, rc = some (.ref g)) (h12 : IntHas op.info.2)
    (F : FnR X.prog X.w X.K X.mg X.base CX k g sp) (hr : Room k X.A) (hx : ∀ σ, PassesAt CX X σ (E σ)) : OpS X op (fun σ => rOI C sp (E σ)) := by
  intro pins s σ G x y v u Q I rx ry h
  obtain ⟨a, dx, fs, i, rfl, rfl, ha, q⟩ := h
  cases (show v = Value.ref a from rx)
  obtain ⟨t, rfl⟩ := (show ∃ t, u = Value.int i t from ry)
  obtain ⟨od, J⟩ := inst_of I ha
  obtain ⟨m, hF⟩ := I.fr
  exact PySem.W.ksp_binT (T := "int") hF I.ok.mod.kin J rfl O.sf hs hf hr' hp (h12 X.K).1.choose_spec (h12 X.K).2.choose_spec O.ni (wpAny_mono (wpAny_call (runR (us := [.ref a, .int i t]) (vs := [.ref a, .int i]) F hr (hx σ) I (.cons rfl (.cons ⟨t, rfl⟩ .nil)) q)) (fun w s' ⟨z', H', I', rz, qz⟩ => SlX.cmpback rz ⟨z', H', I', rz, qz⟩) fun _ _ x => x)
end
/-! ### try .. except X as n; isinstance of the caught error -/
section
variable {X : Cx} {x n : Str} {c : Value} {i : Nat} {body suite : List Stmt} {b₀ : Stmt} {np pos pos' : Pos} {tb : WX → TS} {ts : Addr → Value → Option Addr → TS} {Wout : WX}
def tTryA (K : PySem.W.Frag) (c : Value) (i : Nat) (tb : WX → TS) (ts : Addr → Value → Option Addr → TS) (Wout : WX) : TS := fun D σ H => tb (wAs K c i ts Wout D) D σ H
theorem ps_tryA (hs : X.stack = X.env :: X.outer) (hf : X.env.frame = some X.env.locals) (hN : X.N.Nodup) (hi : X.N[i]? = some n) (hln : X.env.kindOf n = some .local) (hc : Names X x c) (tk : Takes X Wout)
    (hb : ∀ (W : WX) (pn : List (Addr × Obj)) (xe : Value → Shared → Prop), Takes (X.tr pn xe) W → PassesOwn (model X.prog X.w) X.A X.env xe → PSs (X.tr pn xe) body (tb W))
    (hsu : ∀ (a : Addr) (oe : Obj) (cls : Value) (d : Option Addr) (pn : List (Addr × Obj)), Zc cls d oe → (∃ vs, oe.data = .fields vs) → PSs (X.suite a ((a, oe) :: pn)) (b₀ :: suite) (ts a cls d)) :
    PS X (.Try body [.ExceptHandler (some (.Name x np)) (some n) (b₀ :: suite) pos'] [] [] pos) (tTryA X.K c i tb ts Wout) := ps_try_as hs hf hN hi hln hc tk hb hsu
def tTryO (K : PySem.W.Frag) (c : Value) (tb : WX → TS) (ts : Addr → Value → Option Addr → TS) (Wout : WX) : TS := fun D σ H => tb (wOnly K c ts Wout D) D σ H
theorem ps_tryO (hs : X.stack = X.env :: X.outer) (hf : X.env.frame = some X.env.locals) (hc : Names X x c) (tk : Takes X Wout)
    (hb : ∀ (W : WX) (pn : List (Addr × Obj)) (xe : Value → Shared → Prop), Takes (X.tr pn xe) W → PassesOwn (model X.prog X.w) X.A X.env xe → PSs (X.tr pn xe) body (tb W))
    (hsu : ∀ (a : Addr) (oe : Obj) (cls : Value) (d : Option Addr) (pn : List (Addr × Obj)), Zc cls d oe → (∃ vs, oe.data = .fields vs) → PSs (X.suite a ((a, oe) :: pn)) (b₀ :: suite) (ts a cls d)) :
    PS X (.Try body [.ExceptHandler (some (.Name x np)) none (b₀ :: suite) pos'] [] [] pos) (tTryO X.K c tb ts Wout) := ps_try_only hs hf hc tk hb hsu
def rIsZ (K : PySem.W.Frag) (cls : Value) (d : Option Addr) (a : Addr) : List V → Hp → VK → Prop := fun xs H Q => ∃ D, cls = .ref D ∧ d = none ∧ ExcC K D ∧ rIsE K D a xs H Q
theorem call_isZ {a : Addr} {oe : Obj} {cls : Value} {d : Option Addr} {pn : List (Addr × Obj)} (hz : Zc cls d oe) (hf : ∃ vs, oe.data = .fields vs) : CallR (X.suite a ((a, oe) :: pn)) (.builtin "isinstance") (rIsZ X.K cls d a) := by
  intro pins s σ G xs us Q I r h
  obtain ⟨D, rfl, rfl, C, h⟩ := h
  exact call_isE C hz hf pins s σ G xs us Q I r h
end
section
variable {K : PySem.W.Frag} {σ : L2.St} {H : Hp} {Q : VK} {D : Ends} {tb : WX → TS} {ts : Addr → Value → Option Addr → TS} {Wout : WX} {c cls : Value} {d : Option Addr} {i : Nat} {ta : TE} {t : TA} {sp : Sp} {dvs : List V} {E : L2.St → XK} {C a b dx : Addr} {m : Str} {fs : List (Str × V)}
theorem w_tryA (h : tb (wAs K c i ts Wout D) D σ H) : tTryA K c i tb ts Wout D σ H := h
theorem w_tryO (h : tb (wOnly K c ts Wout D) D σ H) : tTryO K c tb ts Wout D σ H := h
/-- behind an except suite with a name -/
def endAs (D : Ends) (i : Nat) : Ends := { nx := fun σ' H' => D.nx (σ'.set i none) H', rt := D.rt, bk := fun σ' H' => D.bk (σ'.set i none) H', ct := fun σ' H' => D.ct (σ'.set i none) H' }
theorem w_as (h : PySem.W.exmOne K cls c = some true) (q : ∀ a, Fr H a → ts a cls d (endAs D i) (σ.set i (some (.ref a))) H) : WE (wAs K c i ts Wout D) σ cls d H := ⟨true, h, fun _ a ha => q a ha, fun z => nomatch z⟩
theorem w_asN (h : PySem.W.exmOne K cls c = some false) (q : Wout cls d σ H) : WE (wAs K c i ts Wout D) σ cls d H := ⟨false, h, fun z => (nomatch z), fun _ => q⟩
theorem w_only (h : PySem.W.exmOne K cls c = some true) (q : ∀ a, Fr H a → ts a cls d D σ H) : WE (wOnly K c ts Wout D) σ cls d H := ⟨true, h, fun _ a ha => q a ha, fun z => nomatch z⟩
theorem w_onlyN (h : PySem.W.exmOne K cls c = some false) (q : Wout cls d σ H) : WE (wOnly K c ts Wout D) σ cls d H := ⟨false, h, fun z => (nomatch z), fun _ => q⟩
theorem w_enx (h : D.nx (σ.set i none) H) : (endAs D i).nx σ H := h
theorem w_ert {v : V} (h : D.rt v H) : (endAs D i).rt v H := h
theorem w_ebk (h : D.bk (σ.set i none) H) : (endAs D i).bk σ H := h
theorem w_ect (h : D.ct (σ.set i none) H) : (endAs D i).ct σ H := h
theorem w_callZ0 (h : t σ H fun vs H1 => sp vs H1 Q (E σ)) : tCallZ sp [] E t σ H Q := by
  show t σ H fun vs H1 => sp (vs ++ []) H1 Q (E σ)
  simp only [List.append_nil]
  exact h
theorem w_callZ (h : t σ H fun vs H1 => sp (vs ++ dvs) H1 Q (E σ)) : tCallZ sp dvs E t σ H Q := h
def dMe (C : Addr) (m : Str) (sp : Sp) (dvs : List V) (E : XK) (t : TA) (σ : L2.St) (Q : VK) : VK := fun x H1 => ∃ a dx fs, x = .ref a ∧ H1 a = some (.ins C dx fs) ∧ fs.lookup m = none ∧ t σ H1 fun vs H2 => sp (x :: (vs ++ dvs)) H2 Q E
theorem w_methZ (h : ta σ H (dMe C m sp dvs (E σ) t σ Q)) : tMethZ C m sp dvs E ta t σ H Q := h
theorem w_meth {E : XK} (h : ta σ H (dMe C m sp dvs E t σ Q)) : tMeth C m sp dvs E ta t σ H Q := h
theorem w_dMe {E : XK} (h : At H a (.ins C dx fs)) (hl : fs.lookup m = none) (q : t σ H fun vs H2 => sp (.ref a :: (vs ++ dvs)) H2 Q E) : dMe C m sp dvs E t σ Q (.ref a) H := ⟨a, dx, fs, rfl, h, hl, q⟩
theorem w_dMe0 {E : XK} (h : At H a (.ins C dx fs)) (hl : fs.lookup m = none) (q : t σ H fun vs H2 => sp (.ref a :: vs) H2 Q E) : dMe C m sp [] E t σ Q (.ref a) H := ⟨a, dx, fs, rfl, h, hl, by simp only [List.append_nil]; exact q⟩
theorem w_makeZ (h : t σ H (dMk C sp dvs (E σ) Q)) : tMakeZ C sp dvs E t σ H Q := h
theorem w_opS {r : L2.St → R2} {tb : TE} (h : ta σ H fun x H1 => tb σ H1 fun y H2 => r σ x y H2 Q) : tOpS r ta tb σ H Q := h
/-- isinstance(e, c) of the caught error, c an own class -/
theorem w_isZ {b : Bool} {e : Addr} (x : ExcC K C) (h : PySem.W.kitOne K (.ref C) (.ref a) = some b) (q : Q (.bl b) H) : rIsZ K (.ref C) none e [.ref e, .ref a] H Q := ⟨C, rfl, rfl, x, .ref a, .ref a, b, rfl, fun u r => r, h, q⟩
theorem w_isZt {b : Bool} {e : Addr} {t : String} (x : ExcC K C) (h : PySem.W.kitOne K (.ref C) (.type t) = some b) (q : Q (.bl b) H) : rIsZ K (.ref C) none e [.ref e, .ty t] H Q := ⟨C, rfl, rfl, x, .ty t, .type t, b, rfl, fun u r => r, h, q⟩
end
def excB (x : Str) (K : PySem.W.Frag) : Bool := decide (PySem.W.findIn K (.ref (He.ga K x)) "__getattribute__" = some (some (.builtin "BaseException.__getattribute__"))) && (decide (PySem.W.findIn K (.ref (He.ga K x)) "__getattr__" = some none) && (decide (PySem.W.subIn K (.ref (He.ga K x)) (.type "BaseException") = some true) &&
  (PySem.W.hasDictIn K (He.ga K x) && (decide (PySem.W.findIn K (.ref (He.ga K x)) "__class__" = some (some (.builtin "object.__class__"))) && (decide (PySem.W.specialIn K (.builtin "object.__class__") "__get__" = some (some (.builtin "getset_descriptor.__get__"))) &&
  (decide (PySem.W.takesIn K (.builtin "object.__class__") = some true) && decide (PySem.W.mroIn K (He.ga K x) (.type "object") = some true)))))))
theorem excB_ok {K : PySem.W.Frag} {x : Str} (h : excB x K = true) : ExcC K (He.ga K x) := by
  obtain ⟨h1, h⟩ := He.ba h
  obtain ⟨h2, h⟩ := He.ba h
  obtain ⟨h3, h⟩ := He.ba h
  obtain ⟨h4, h⟩ := He.ba h
  obtain ⟨h5, h⟩ := He.ba h
  obtain ⟨h6, h⟩ := He.ba h
  obtain ⟨h7, h8⟩ := He.ba h
  exact ⟨of_decide_eq_true h1, of_decide_eq_true h2, of_decide_eq_true h3, h4, of_decide_eq_true h5, of_decide_eq_true h6, of_decide_eq_true h7, of_decide_eq_true h8⟩
/-- what the except clause 'except y' says to an error of the class x -/
def exmB (x y : Str) (b : Bool) (K : PySem.W.Frag) : Bool := decide (PySem.W.exmOne K (.ref (He.ga K x)) (.ref (He.ga K y)) = some b)
theorem exmB_ok {K : PySem.W.Frag} {x y : Str} {b : Bool} (h : exmB x y b K = true) : PySem.W.exmOne K (.ref (He.ga K x)) (.ref (He.ga K y)) = some b := of_decide_eq_true h
def kitB2 (x y : Str) (b : Bool) (K : PySem.W.Frag) : Bool := decide (PySem.W.kitOne K (.ref (He.ga K x)) (.ref (He.ga K y)) = some b)
theorem kitB2_ok {K : PySem.W.Frag} {x y : Str} {b : Bool} (h : kitB2 x y b K = true) : PySem.W.kitOne K (.ref (He.ga K x)) (.ref (He.ga K y)) = some b := of_decide_eq_true h
def kitBt (x : Str) (t : String) (b : Bool) (K : PySem.W.Frag) : Bool := decide (PySem.W.kitOne K (.ref (He.ga K x)) (.type t) = some b)
theorem kitBt_ok {K : PySem.W.Frag} {x : Str} {t : String} {b : Bool} (h : kitBt x t b K = true) : PySem.W.kitOne K (.ref (He.ga K x)) (.type t) = some b := of_decide_eq_true h
/-! ### an int on the left of a comparison -/
theorem one_int {op : CmpOp} {i : Int} {t : Tok} {x : Addr} : oneThing? op (.int i t) (.ref x) = none := by rfl
theorem cmpIO {prog : Program} {w : World} {A : Around} {E : Value → Shared → Prop} {s : Shared} {K : PySem.W.Frag} {x dx C f : Addr} {od : Option Obj} {op : CmpOp} {id : String} {B : Builtin} {i : Int} {t : Tok} {Q : Value → Shared → Prop} (hu : A.units < cLine)
    (X : K.In s.heap) (I : PySem.W.InstAt s.heap x (PySem.W.instObj C dx) C od) (slot : Slot "int" (cmpInfo op).2.1 id) (entry : entryFor table id = some B) (args : argsOk id ⟨[.int i t, .ref x], []⟩) (hB : ∃ nm f, B = Builtin.Int.intBinary nm f false)
    (hs : PySem.W.findIn K (.ref C) (cmpInfo op).2.2 = some (some (.ref f))) (hf : PySem.W.isFn K (.ref f) = true) (hsub : PySem.W.subIn K (.ref C) (.type "int") = some false)
    (h : wpAny (model prog w) A (call (.ref f) [.ref x, .int i t]) (PySem.W.CmpBack Q) E s) : wpAny (model prog w) A (richCompare op (.int i t) (.ref x)) Q E s := by
  have hx : s.heap.get? x = some (PySem.W.instObj C dx) := I.1
  have one : wpAny (model prog w) A (tryCompare (.int i t) (cmpInfo op).2.1 (.ref x)) (fun r s' => r = none ∧ s' = s) E s := by
    simp only [tryCompare]
    exact wpAny_bind (wpAny_callSpecialIfBound?_slot (typeIs_int s i t) slot (int_ni slot entry args hB hx (wpAny_pure ⟨rfl, rfl⟩)))
  have two : wpAny (model prog w) A (tryCompare (.ref x) (cmpInfo op).2.2 (.int i t)) (fun r s' => ∃ v, r = some v ∧ Q v s') E s := by
    simp only [tryCompare]
    refine wpAny_bind (PySem.W.ifBound_K X I hs hf (wpAny_mono h (fun v s' hv => ?_) fun _ _ e => e))
    cases v <;> first | exact wpAny_pure ⟨_, rfl, hv⟩ | exact hv.elim
  have ne : (Value.type "int" != Value.ref C) = true := by
    have : (Value.type "int" == Value.ref C) = false := Bool.eq_false_iff.mpr fun q => by cases beq_iff_eq.mp q
    simp only [bne, this, Bool.not_false]
  have L1 : PySem.W.Looks (model prog w) s.heap (typeOf (.ref x)) (.ref C) := I.type
  have L5 : PySem.W.Looks (model prog w) s.heap (isSubtype (.ref C) (.type "int")) false := PySem.W.looks_subIn X hsub
  unfold richCompare
  simp only [one_int]
  refine wpAny_holding (wpAny_bind (wpAny_cRoomFor hu ?_))
  refine wpAny_bind (wpAny_typeOf (typeIs_int s i t) (wpAny_bind (L1.here ?_)))
  simp only [ne, if_true]
  refine wpAny_bind (L5.here ?_)
  simp only [Bool.false_eq_true, if_false, Bool.not_false, if_true]
  refine wpAny_bind (wpAny_mono one (fun r s' hr => ?_) fun _ _ e => e)
  obtain ⟨rfl, rfl⟩ := hr
  dsimp only
  refine wpAny_bind (wpAny_mono two (fun r s' hr => ?_) fun _ _ e => e)
  obtain ⟨v, rfl, hq⟩ := hr
  exact wpAny_pure hq
section
variable {X : Cx} {CX : CXT} {n : Nat} {C g : Addr} {sp : Sp} {E : XK}
theorem cmp_IO {op : CmpOp} {id : String} {B : Builtin} (hop : ∀ a b, compareOp op a b = richCompare op a b) (O : OwnC X.K C) (slot : Slot "int" (cmpInfo op).2.1 id) (entry : entryFor table id = some B) (args : ∀ a b, argsOk id ⟨[a, b], []⟩) (hB : ∃ nm f, B = Builtin.Int.intBinary nm f false)
    (hs : PySem.W.findIn X.K (.ref C) (cmpInfo op).2.2 = some (some (.ref g))) (hf : PySem.W.isFn X.K (.ref g) = true) (F : FnR X.prog X.w X.K X.mg X.base CX n g sp) (hr : Room n X.A) (hx : Passes CX X E) : OpR X (compareOp op) (rIO C sp E) := by
  intro pins s σ G x y v u Q I rx ry h
  obtain ⟨a, dx, fs, i, rfl, rfl, ha, q⟩ := h
  obtain ⟨t, rfl⟩ := (show ∃ t, v = Value.int i t from rx)
  cases (show u = Value.ref a from ry)
  obtain ⟨od, J⟩ := inst_of I ha
  rw [hop]
  exact cmpIO hr.units0 I.kIn J slot entry (args _ _) hB hs hf O.ni' (wpAny_mono (wpAny_call (run_fnR (us := [.ref a, .int i t]) (vs := [.ref a, .int i]) F hr hx I (.cons rfl (.cons ⟨t, rfl⟩ .nil)) q)) (fun w s' ⟨z', H', I', rz, qz⟩ => SlX.cmpback rz ⟨z', H', I', rz, qz⟩) fun _ _ x => x)
theorem cmp_IO_lt (O : OwnC X.K C) (hs : PySem.W.findIn X.K (.ref C) "__gt__" = some (some (.ref g))) (hf : PySem.W.isFn X.K (.ref g) = true) (F : FnR X.prog X.w X.K X.mg X.base CX n g sp) (hr : Room n X.A) (hx : Passes CX X E) : OpR X (compareOp .Lt) (rIO C sp E) :=
  cmp_IO (op := .Lt) (fun _ _ => rfl) O PySem.F.slot_int_lt PySem.F.entry_int_lt PySem.F.args_int_lt_2 ⟨_, _, rfl⟩ hs hf F hr hx
theorem cmp_IO_le (O : OwnC X.K C) (hs : PySem.W.findIn X.K (.ref C) "__ge__" = some (some (.ref g))) (hf : PySem.W.isFn X.K (.ref g) = true) (F : FnR X.prog X.w X.K X.mg X.base CX n g sp) (hr : Room n X.A) (hx : Passes CX X E) : OpR X (compareOp .LtE) (rIO C sp E) :=
  cmp_IO (op := .LtE) (fun _ _ => rfl) O PySem.F.slot_int_le PySem.F.entry_int_le PySem.F.args_int_le_2 ⟨_, _, rfl⟩ hs hf F hr hx
theorem cmp_IO_gt (O : OwnC X.K C) (hs : PySem.W.findIn X.K (.ref C) "__lt__" = some (some (.ref g))) (hf : PySem.W.isFn X.K (.ref g) = true) (F : FnR X.prog X.w X.K X.mg X.base CX n g sp) (hr : Room n X.A) (hx : Passes CX X E) : OpR X (compareOp .Gt) (rIO C sp E) :=
  cmp_IO (op := .Gt) (fun _ _ => rfl) O PySem.F.slot_int_gt PySem.F.entry_int_gt PySem.F.args_int_gt_2 ⟨_, _, rfl⟩ hs hf F hr hx
theorem cmp_IO_ge (O : OwnC X.K C) (hs : PySem.W.findIn X.K (.ref C) "__le__" = some (some (.ref g))) (hf : PySem.W.isFn X.K (.ref g) = true) (F : FnR X.prog X.w X.K X.mg X.base CX n g sp) (hr : Room n X.A) (hx : Passes CX X E) : OpR X (compareOp .GtE) (rIO C sp E) :=
  cmp_IO (op := .GtE) (fun _ _ => rfl) O PySem.F.slot_int_ge PySem.F.entry_int_ge PySem.F.args_int_ge_2 ⟨_, _, rfl⟩ hs hf F hr hx
theorem cmp_IO_eq (O : OwnC X.K C) (hs : PySem.W.findIn X.K (.ref C) "__eq__" = some (some (.ref g))) (hf : PySem.W.isFn X.K (.ref g) = true) (F : FnR X.prog X.w X.K X.mg X.base CX n g sp) (hr : Room n X.A) (hx : Passes CX X E) : OpR X (compareOp .Eq) (rIO C sp E) :=
  cmp_IO (op := .Eq) (fun _ _ => rfl) O PySem.F.slot_int_eq PySem.F.entry_int_eq PySem.F.args_int_eq_2 ⟨_, _, rfl⟩ hs hf F hr hx
end
/-! ### bool(x) -/
theorem bool_own {prog : Program} {w : World} {A : Around} {E : Value → Shared → Prop} {s : Shared} {K : PySem.W.Frag} {x C f L : Addr} {h₀ : Heap} {m : Str → Option Value} {ox : Obj} {od : Option Obj} {Q : Value → Shared → Prop} (F : PyProof.Rows.Fr h₀ L s.heap m) (X : K.In h₀)
    (I : PySem.W.InstAt s.heap x ox C od) (hs : PySem.W.findIn K (.ref C) "__bool__" = some (some (.ref f))) (hf : PySem.W.isFn K (.ref f) = true)
    (h : wpAny (model prog w) A.in1.in1 (call (.ref f) [.ref x]) (fun r s₁ => ∃ b, r = Value.bool b ∧ Q r s₁) E s) : wpAny (model prog w) A (call (.type "bool") [.ref x]) Q E s := by
  refine callType_codes (T := "bool") (Bi := Builtin.«object.__init__») (Q₁ := fun r s₁ => ∃ b, r = Value.bool b ∧ Q r s₁) PySem.F.called_bool (PySem.F.typeCall_bool_1 _) PySem.F.entry_object_init ?_ ?_
  · refine codeAny_of_tree ?_
    show wpAny _ A.in1.in1 (do checkBuiltinCall "bool.__new__" ⟨[.type "bool", .ref x], []⟩; again (.builtin "bool.__new__" ⟨[.type "bool", .ref x], []⟩)) _ _ s
    refine wpAny_bind (wpAny_of_eq (PySem.F.newCall_bool_1 _) (wpAny_pure ⟨plainId_quiet (by decide +kernel) _, codeAny_builtin PySem.F.entry_bool_new ?_⟩))
    rw [Around.under_plainId (by decide +kernel) _]
    unfold Builtin.«bool.__new__»
    refine wpAny_bind (wpAny_of_eq (a := true) (by first | rfl | kernel_rfl) ?_)
    refine PySem.W.KFB.if_not rfl ?_
    refine wpAny_bind (wpAny_of_eq (a := true) PySem.F.conv_sub_bool ?_)
    refine PySem.W.KFB.if_not rfl ?_
    refine wpAny_bind (wpAny_of_eq (a := [Value.ref x]) (by first | rfl | kernel_rfl) ?_)
    refine wpAny_bind (PySem.W.truthy_K F X I hs hf (wpAny_mono h (fun r s₁ hr => ?_) fun _ _ y => y))
    obtain ⟨b, rfl, hq⟩ := hr
    exact wpAny_pure ⟨b, rfl, hq⟩
  · rintro obj s₁ ⟨b, rfl, hq⟩
    exact ⟨PySem.typeIs_bool _ _, PySem.F.args_object_init_2 _ _, object_init_meets PySem.F.called_bool.init.lookup PySem.F.called_bool.made (by decide) prog w A.in1 _ s₁ ⟨PySem.typeIs_bool _ _, rfl, hq⟩⟩
section
variable {X : Cx} {CX : CXT} {n : Nat} {C g : Addr} {sp : Sp} {E : XK}
/-- bool(x) of an instance -/
def rBoolO (C : Addr) (sp : Sp) (E : XK) : List V → Hp → VK → Prop := fun xs H Q => ∃ a dx fs, xs = [V.ref a] ∧ H a = some (.ins C dx fs) ∧ sp [.ref a] H (fun z H' => ∃ b, z = .bl b ∧ Q z H') E
theorem call_boolO (hs : PySem.W.findIn X.K (.ref C) "__bool__" = some (some (.ref g))) (hf : PySem.W.isFn X.K (.ref g) = true) (F : FnR X.prog X.w X.K X.mg X.base CX n g sp) (hr : Room (n + 2) X.A) (hx : Passes CX X E) : CallR X (.type "bool") (rBoolO C sp E) := by
  intro pins s σ G xs us Q I r h
  obtain ⟨a, dx, fs, rfl, ha, q⟩ := h
  obtain ⟨u, rfl, ru⟩ := r.one
  cases (show u = Value.ref a from ru)
  obtain ⟨od, J⟩ := inst_of I ha
  obtain ⟨m, hF⟩ := I.fr
  have hr2 : Room n X.A.in1.in1 := (show Room (n + 1) X.A.in1 from Room.in1 hr).in1
  refine bool_own hF I.ok.mod.kin J hs hf (wpAny_mono (wpAny_call (SlX.run_at (us := [.ref a]) (ws := [.ref a]) F hr2 I.env0.in1.in1 hx I (.cons rfl .nil) q)) (fun w s' z => ?_) fun _ _ x => x)
  obtain ⟨z', H', I', rz, b, rfl, qz⟩ := z
  cases (show w = Value.bool b from rz)
  exact ⟨b, rfl, .bl b, H', I', rfl, qz⟩
end
theorem w_boolO {C a dx : Addr} {sp : Sp} {E : XK} {H : Hp} {Q : VK} {fs : List (Str × V)} (ha : At H a (.ins C dx fs)) (q : sp [.ref a] H (fun z H' => ∃ b, z = .bl b ∧ Q z H') E) : rBoolO C sp E [.ref a] H Q := ⟨a, dx, fs, rfl, ha, q⟩
def rBool1 : List V → Hp → VK → Prop := fun xs H Q => (∃ i, xs = [.int i] ∧ Q (.bl (i != 0)) H) ∨ ∃ k, xs = [.bl k] ∧ Q (.bl k) H
theorem call_boolI {X : Cx} : CallR X (.type "bool") rBool1 := call_bool1
theorem w_bool1 {i : Int} {H : Hp} {Q : VK} (q : Q (.bl (!decide (i = 0))) H) : rBool1 [.int i] H Q := .inl ⟨i, rfl, by
  have e : (i != 0) = !decide (i = 0) := by by_cases h : i = 0 <;> simp [h]
  rw [e]; exact q⟩
section
variable {K : PySem.W.Frag} {H : Hp} {Q : VK} {a b : Bool}
theorem w_eqZB (q : Q (.bl (decide (a = b))) H) : rEqZ K (.bl a) (.bl b) H Q := .inl ⟨rfl, by
  have e : decide (V.bl a = V.bl b) = decide (a = b) := by simp
  rw [e]; exact q⟩
theorem w_neZB (q : Q (.bl (!decide (a = b))) H) : rNeZ K (.bl a) (.bl b) H Q := .inl ⟨rfl, by
  have e : decide (V.bl a = V.bl b) = decide (a = b) := by simp
  rw [e]; exact q⟩
end
end Z
namespace Z
open PySem L2 PySem.Spec PyProof.Rows
/-! ### super() -/
/-- what is known where a def of the class at D says super(); x its first parameter -/
structure SupX (X : Cx) (D f : Addr) (x : Str) : Prop where
  ks : X.env.kindOf "super" = some .globalImplicit
  kc : X.env.kindOf "__class__" = some .free
  fu : X.env.func = some f
  fn : ∃ (oc : Value) (od : Option Addr) (fd : FuncData) (osl : Array (Option Value)) (ar : Arg), X.K.lookup f = some ⟨oc, od, .func fd, osl⟩ ∧ (fd.params.posonlyargs ++ fd.params.args).head? = some ar ∧ ar.arg = x
  co : ∃ (cda : Addr) (cl : Value) (cd : Option Addr) (vs : Array Value) (cs : Array (Option Value)) (file : Str) (tf : Tok), X.env.code = .ref cda ∧ X.K.lookup cda = some ⟨cl, cd, .fields vs, cs⟩ ∧ vs[2]? = some (.str file tf) ∧ ((X.prog.main.file : Str) == file) = true
  top : (X.prog.main.scope.names.lookup ("super" : Str)).isSome = false
  nm : X.N[0]? = some x
  vis : Vis X.env.scope x
  xd : (x == ("__classdict__" : Str)) = false
  ce : ∃ (cc : Addr) (cl : Value) (cd : Option Addr) (cs : Array (Option Value)), X.env.cells.lookup ("__class__" : Str) = some cc ∧ X.K.lookup cc = some ⟨cl, cd, .cell (some (.ref D)), cs⟩
  mg : X.mg "super" = none
  cl : ∃ cd, PySem.W.clsIn X.K D = some cd
section
variable {X : Cx} {D f g a C : Addr} {x m : Str} {pins : List (Addr × Obj)} {σ : L2.St} {H : Hp} {s : Shared} {ox : Obj} {od : Option Obj} {body : List Stmt} {p0 p1 : Pos} {attr : Str} {whole : Sem Value} {E : Value → Shared → Prop}
theorem sup_base {Q : Value → Shared → Prop} (S : SupX X D f x) (I : Inv X pins σ H s) (h0 : σ[0]? = some (some (.ref a))) (J : PySem.W.InstAt s.heap a ox C od) (hsub : PySem.W.mroIn X.K C (.ref D) = some true) (hat : (attr == ("__class__" : Str)) = false)
    (hq : ∀ so h', (∀ b o, s.heap.get? b = some o → h'.get? b = some o) → h'.get? so = some (PySem.W.ks_superObj D a C) → Q (.ref so) { s with heap := h' }) :
    PySem.wpAt (model X.prog X.w) X.A (.func body X.env) (attributeBase (.Call (.Name "super" p0) [] [] p1) attr X.env whole) Q E s := by
  have KX : X.K.In s.heap := I.kIn
  obtain ⟨oc, odf, fd, osl, ar, hf, hp, rfl⟩ := S.fn
  obtain ⟨cda, ccl, ccd, vs, ccs, file, tf, hco, hcode, hvs, hfile⟩ := S.co
  obtain ⟨cc, cel, ced, ces, hcc, hcell⟩ := S.ce
  obtain ⟨cdD, hD⟩ := S.cl
  obtain ⟨mb, hb1, hb2⟩ := I.mod.blt
  obtain ⟨ml, hn, hl⟩ := I.loc
  obtain ⟨u, r, l⟩ := hl 0 ar.arg (.ref a) S.nm h0 S.vis
  cases (show u = Value.ref a from r)
  obtain ⟨oD, hD1, hD2⟩ : ∃ oD, s.heap.get? D = some oD ∧ oD.data = .cls cdD := by
    unfold PySem.W.clsIn at hD
    split at hD
    · rename_i c d cd' sl ho
      cases hD
      exact ⟨_, KX _ _ ho, rfl⟩
    · cases hD
  refine PySem.ks_wpAt_super_base (env := X.env) S.ks S.kc hat S.fu (KX _ _ hf) rfl hp hco (KX _ _ hcode) rfl hvs hfile S.top ?_
  refine PySem.W.ks_loadName_global I.ok.kind S.ks (Calls.loadGlobal_builtin (by rw [I.ok.glob]; exact I.mod.glob.keeps I.bk) S.mg (by rw [I.ok.blt]; exact hb1.keeps I.bk) ((hb2 "super" (by decide)).trans (by decide +kernel)) ⟨rfl, ?_⟩)
  refine wpAny_loadName_free I.ok.kind S.kc hcc ⟨_, KX _ _ hcell, rfl⟩ ?_
  have fin : wpAny (model X.prog X.w) X.A (isType (.ref D)) (fun b s₄ => b = true ∧ wpAny (model X.prog X.w) X.A (call (.type "super") [.ref D, .ref a]) Q E s₄) E s := by
    obtain ⟨hh, gg, dd, tt, os⟩ := s
    refine PySem.ks_wpAny_isType_cls hD1 hD2 ⟨rfl, ?_⟩
    refine PySem.ks_wpAny_call_super hD1 hD2 J.at_ J.cls (fun c e => ?_) (PySem.W.looks_mroIn KX hsub) (fun h' e k => ?_)
    · have := J.no
      unfold PySem.W.notCls at this
      rw [e] at this
      exact Bool.noConfusion this
    · exact hq _ h' k e
  rcases l with ⟨hk, hm⟩ | ⟨hk, c, hc, hce⟩
  · exact wpAny_loadName_local I.ok.kind hk hn hm fin
  · rcases hk with hk | hk
    · exact wpAny_loadName_cell I.ok.kind hk hc hce fin
    · exact wpAny_loadName_free I.ok.kind hk hc hce fin S.xd
/-- an expression in the body of the running def -/
structure PEat (X : Cx) (c : Code) (e : Expr) (t : TE) : Prop where
  run : ∀ (pins : List (Addr × Obj)) (s : Shared) (σ : L2.St) (G : Hp) (Q : VK), Inv X pins σ G s → t σ G Q → PySem.wpAt (model X.prog X.w) X.A c (eval e X.env) (EP X pins σ Q) X.xe s
structure PSat (X : Cx) (c : Code) (st : Stmt) (t : TS) : Prop where
  run : ∀ (pins : List (Addr × Obj)) (s : Shared) (σ : L2.St) (G : Hp) (D : Ends), Inv X pins σ G s → t D σ G → PySem.wpAt (model X.prog X.w) X.A c (exec st X.env) (SP X pins D) X.xe s
/-- super().m(e, ..), m a def of a class above -/
def tSup (C : Addr) (sp : Sp) (E : L2.St → XK) (t : TA) : TE := fun σ H Q => ∃ a dx fs, σ[0]? = some (some (.ref a)) ∧ H a = some (.ins C dx fs) ∧ t σ H fun vs H2 => sp (.ref a :: vs) H2 Q (E σ)
theorem pe_sup {CX : CXT} {k : Nat} {sp : Sp} {E : L2.St → XK} {e : Expr} {es : List Expr} {t : TA} {apos pos : Pos} {pl : Sem Bool} (S : SupX X D f x) (hsub : PySem.W.mroIn X.K C (.ref D) = some true) (ho : PySem.W.nsIn X.K PySem.cStatics "thirdparty.any" = some none)
    (hm : PySem.W.ks_superIn X.K C D m = some (some (.ref g))) (ht : PySem.W.typeIn X.K (.ref g) = some (.type "function")) (hfn : PySem.W.fnIn X.K g = true) (F : FnR X.prog X.w X.K X.mg X.base CX k g sp) (hr : Room k X.A) (hx : ∀ σ, PassesAt CX X σ (E σ)) (ha : PA X (e :: es) t)
    (hat : (m == ("__class__" : Str)) = false := by decide +kernel) (hst : starEach (e :: es) X.env = (false, eval e X.env) :: starEach es X.env := by rfl) (hpl : (backTo pos (starEach es X.env)).any (·.1) = false := by rfl)
    (hev : eval (.Call (.Attribute (.Call (.Name "super" p0) [] [] p1) m apos) (e :: es) [] pos) X.env = (do let ov ← attributeBase (.Call (.Name "super" p0) [] [] p1) m X.env (eval (.Call (.Name "super" p0) [] [] p1) X.env); standAt apos.atName; let (f, first) ← holding [ov] (getMethod ov m pl); callWith pos f first (backTo pos (starEach (e :: es) X.env)) []) := by rfl) :
    PEat X (.func body X.env) (.Call (.Attribute (.Call (.Name "super" p0) [] [] p1) m apos) (e :: es) [] pos) (tSup C sp E t) := by
  refine ⟨fun pins s σ G Q I h => ?_⟩
  obtain ⟨a, dx, fs, h0, hins, q⟩ := h
  obtain ⟨od, J⟩ := inst_of I hins
  refine PySem.ks_wpAt_MethodCall (pl := pl) (sup_base S I h0 J hsub hat fun so h' up hso => ?_) hev
  have I1 : Inv X pins σ G { s with heap := h' } := I.kept (t' := s.toks) up
  have KX : X.K.In h' := I1.kIn
  obtain ⟨cd, hcd⟩ : ∃ cd, PySem.W.clsIn X.K C = some cd := by
    cases hc : PySem.W.clsIn X.K C with
    | none => unfold PySem.W.ks_superIn at hm; rw [hc] at hm; cases hm
    | some cd => exact ⟨cd, rfl⟩
  have hal : PySem.W.alongIn X.K m ((cd.mro.dropWhile (· != .ref D)).drop 1) = some (some (.ref g)) := by
    unfold PySem.W.ks_superIn at hm
    rw [hcd] at hm
    exact hm
  obtain ⟨og, hog, hogc⟩ : ∃ og, h'.get? g = some og ∧ og.cls = .type "function" := by
    have ht' : (X.K.lookup g).map (·.cls) = some (.type "function") := ht
    cases z : X.K.lookup g with
    | none => rw [z] at ht'; cases ht'
    | some og => rw [z] at ht'; exact ⟨og, KX _ _ z, Option.some.inj ht'⟩
  obtain ⟨hh, gg, dd, tt, os⟩ := s
  refine PySem.ks_wpAny_getMethod_super hso (PySem.W.looks_opaque KX ho) (l₀ := cd.mro) (fun A Q E s k q => wpAny_bind ((PySem.W.looks_clsIn KX hcd) A _ E s k (wpAny_pure q))) rfl KX hal hog hogc (PySem.W.ks_ne I.kIn J hcd) hat ?_
  have I2 := ClX.met_new (g := g) (C := a) I1
  have hb := ClX.base_none I1 (Nat.le_refl _)
  refine ClX.callwith_cm I2 hb hfn (thn (ha.run pos _ _ σ G _ I2 q) fun us s2 ⟨vs, H2, I3, r, q2⟩ => ⟨⟨ClX.pin_at I3, I3.kIn⟩, ?_⟩) hst hpl
  exact thn (wpAny_call (PySem.W.method_call (ClX.pin_at I3) (runR (us := .ref a :: us) (vs := .ref a :: vs) F hr (hx σ) I3 (.cons rfl r) q2))) fun _ _ y => ClX.unpinE y
theorem ps_supE {c : Code} {e : Expr} {pos : Pos} {t : TE} (h : PEat X c e t) (hi : interactive X.env = false := by rfl) (hs : swapsWith e none pos.line X.env = pure false := by rfl) : PSat X c (.Expr e pos) (tDrop t) :=
  ⟨fun pins s σ G D I q => PySem.ks_wpAt_Expr_any (PySem.ks_wpAt_mono (h.run pins s σ G _ I q) (fun v s1 ⟨y, H1, I1, r1, q1⟩ => ⟨σ, H1, I1, q1⟩) fun _ _ z => z) hi hs⟩
theorem ps_supA {c : Code} {e : Expr} {i : Nat} {y : Str} {pos pos' : Pos} {t : TE} (hN : X.N.Nodup) (hi : X.N[i]? = some y) (hy : Loc X.env.scope y) (h : PEat X c e t) (hs : swapsWith e (some (.Name y pos')) pos.line X.env = pure false := by rfl)
    (hf : X.fn y = true ∨ X.env.scope.names.lookup y = some .local := by first | exact .inl rfl | exact .inr rfl) : PSat X c (.Assign [.Name y pos'] e pos) (tAsg t (gName i)) :=
  ⟨fun pins s σ G D I q => PySem.ks_wpAt_Assign_Name (PySem.ks_wpAt_mono (h.run pins s σ G _ I q) (fun v s1 ⟨z, H1, I1, r1, q1⟩ => store_ok I1 hN hi hy r1 (fun s2 I2 => ⟨_, H1, I2, q1⟩) hf) fun _ _ z => z) hs⟩
end
/-- the def at f, of the class at D, that captures the cell of its class -/
structure FunS (P : Program) (K : PySem.W.Frag) (x qual : Str) (params : Arguments) (body : List Stmt) (scope : Scope) (D f : Addr) (fd : FuncData) : Prop where
  ex : ∃ (oc : Value) (od : Option Addr) (doc pm : Value) (an : Option Addr) (cda : Addr) (ct : Value) (osl : Array (Option Value)) (cc : Addr), fd = PySem.W.fnX x qual params body scope [("__class__", cc)] .none .none doc pm an (.ref cda) ct ∧ K.lookup f = some ⟨oc, od, .func fd, osl⟩ ∧
    PySem.W.codeIn K (.ref cda) qual = true ∧ (∃ (cl : Value) (cd : Option Addr) (cs : Array (Option Value)), K.lookup cc = some ⟨cl, cd, .cell (some (.ref D)), cs⟩) ∧
    ∃ (cl : Value) (cd : Option Addr) (vs : Array Value) (cs : Array (Option Value)) (file : Str) (tf : Tok), K.lookup cda = some ⟨cl, cd, .fields vs, cs⟩ ∧ vs[2]? = some (.str file tf) ∧ ((P.main.file : Str) == file) = true
  kp : PySem.W.keepIn K (.ref f) = true
/-- THE RULE for such a def; its first statement says super() -/
theorem FunS.ok {CX : CXT} {P : Program} {w : World} {K : PySem.W.Frag} {mg : Str → Option Value} {base : Heap} {x qual x0 : Str} {params : Arguments} {st : Stmt} {rest : List Stmt} {scope : Scope} {D f : Addr} {fd : FuncData} {N ps : List Str} {k : Nat} {sp : Sp} {ar : Arg}
    (F : FunS P K x qual params (st :: rest) scope D f fd) (S : NdefX.NScope N ps ["__class__"] scope) (hs : scope.names.lookup ("super" : Str) = some .globalImplicit) (hp : (params.posonlyargs ++ params.args).head? = some ar) (har : ar.arg = x0) (hN : N[0]? = some x0) (hx : scope.names.lookup x0 = some .local) (hxd : (x0 == ("__classdict__" : Str)) = false)
    (top : (P.main.scope.names.lookup ("super" : Str)).isSome = false) (hm : mg "super" = none) (hD : ∃ cd, PySem.W.clsIn K D = some cd) (len : ∀ vs H Q E, sp vs H Q E → vs.length = ps.length)
    (hbody : ∀ (cc cda : Addr) (A : Around) (outer : List Env) (s : Shared) (H : Hp) (vs : List V) (Q : VK) (E : XK), Room k (A.deeper (PySem.W.envX qual scope s.heap.objs.size f (.ref cda) [("__class__", cc)])) → sp vs H Q E →
      SupX (NdefX.ncx CX P w K mg base N ⟨x, qual, params, st :: rest, scope, [("__class__", cc)], cda⟩ f A outer s H E) D f x0 →
      ∃ t1 t2, PSat (NdefX.ncx CX P w K mg base N ⟨x, qual, params, st :: rest, scope, [("__class__", cc)], cda⟩ f A outer s H E) (.func (st :: rest) (PySem.W.envX qual scope s.heap.objs.size f (.ref cda) [("__class__", cc)])) st t1 ∧
        PSs (NdefX.ncx CX P w K mg base N ⟨x, qual, params, st :: rest, scope, [("__class__", cc)], cda⟩ f A outer s H E) rest t2 ∧ tSeq t1 t2 { nx := fun _ H' => Q .non H', rt := Q } (NdefX.startF N vs [none]) H) : FnOk P w K mg base CX (k + 1) f fd ps sp := by
  obtain ⟨oc, od, doc, pm, an, cda, ct, osl, cc, rfl, lk, hcd, ⟨cl1, cd1, cs1, hcell⟩, cl2, cd2, vs2, cs2, file, tf, hcode, hvs2, hfile⟩ := F.ex
  refine ⟨len, fun A outer s H args us vs Q E hr e0 hb r hsp => ?_⟩
  have hl := len _ _ _ _ hsp
  have KX : K.In s.heap := e0.mod.kin.keeps fun b o e => (e0.bs b o e).1
  have lim : s.heap.NoLimit := e0.mod.nolimit.keeps fun b o e => (e0.bs b o e).1
  refine PySem.ks_codeAny_call_defAt (fd := PySem.W.fnX x qual params (st :: rest) scope [("__class__", cc)] .none .none doc pm an (.ref cda) ct) (body := st :: rest) (binds := ps.zip us) hr.depth (KX _ _ lk) rfl lim (PySem.W.codeRec_of KX hcd) rfl hb S.nocell (fun y hy => S.par y.1 (List.of_mem_zip hy).1) (fun h₁ hns hk₁ => ?_) S.co S.gen S.kind
  have C : NdefX.CellsAt [(("__class__" : Str), cc)] ["__class__"] [none] s.heap H := by
    refine ⟨rfl, fun y c hc => ?_, fun a b c h1 h2 => ?_, fun i y hy => ?_⟩
    · have e : y = "__class__" ∧ c = cc := by
        simp only [List.lookup] at hc
        split at hc
        · rename_i q; exact ⟨by simpa using q, (Option.some.inj hc).symm⟩
        · cases hc
      obtain ⟨rfl, rfl⟩ := e
      have z := e0.mod.kin _ _ hcell
      exact ⟨(e0.bs _ _ z).2, _, _, KX _ _ hcell, rfl⟩
    · simp only [List.lookup] at h1 h2
      split at h1
      · rename_i q1
        split at h2
        · rename_i q2
          have a1 : a = "__class__" := by simpa using q1
          have b1 : b = "__class__" := by simpa using q2
          rw [a1, b1]
        · cases h2
      · cases h1
    · cases i with
      | zero =>
        cases hy
        refine ⟨cc, by simp [List.lookup], fun v hv => ?_⟩
        cases hv
      | succ i => cases hy
  have I := NdefX.inv_startN (CX := CX) (E := E) (f := f) (F := ⟨x, qual, params, st :: rest, scope, [("__class__", cc)], cda⟩) (ws := [none]) (tk := s.toks + (ps.zip us).length) S hr.hd e0 hl r C hns hk₁
  have SX : SupX (NdefX.ncx CX P w K mg base N ⟨x, qual, params, st :: rest, scope, [("__class__", cc)], cda⟩ f A outer s H E) D f x0 :=
    ⟨hs, S.frk _ (by simp), rfl, ⟨_, _, _, _, ar, lk, hp, har⟩, ⟨cda, _, _, _, _, file, tf, rfl, hcode, hvs2, hfile⟩, top, hN, .inl hx, hxd, ⟨cc, _, _, _, by simp [List.lookup, NdefX.ncx], hcell⟩, hm, hD⟩
  obtain ⟨t1, t2, p1, p2, hq⟩ := hbody cc cda A outer s H vs Q E (hr.deeper _) hsp SX
  have fin : ∀ {σ' : L2.St} {H' : Hp} {v : V} {u : Value} {s' : Shared}, Inv (NdefX.ncx CX P w K mg base N ⟨x, qual, params, st :: rest, scope, [("__class__", cc)], cda⟩ f A outer s H E) [] σ' H' s' → RelV v u → Q v H' → CE outer P w H s Q u s' :=
    fun {σ' H' v u s'} J rv q => ⟨v, H', J.os, J.bare, J.base, J.hok, rv, q⟩
  refine PySem.ks_wpAt_execs_cons (PySem.ks_wpAt_mono (p1.run [] _ _ H _ I hq) (fun fl s' hs' => ?_) fun e s' z => z)
  cases fl with
  | ret u =>
    obtain ⟨v, σ', H', J, rv, q⟩ := hs'
    exact fin J rv q
  | brk => obtain ⟨_, _, _, q⟩ := hs'; exact q.elim
  | cont => obtain ⟨_, _, _, q⟩ := hs'; exact q.elim
  | next =>
    obtain ⟨σ', H', J, q⟩ := hs'
    refine wpAt_of_wpAny (wpAny_mono (p2.run [] s' σ' H' _ J q) (fun fl s2 h2 => ?_) fun e s2 z => z)
    cases fl with
    | ret u =>
      obtain ⟨v, σ2, H2, J2, rv, q⟩ := h2
      exact fin J2 rv q
    | next =>
      obtain ⟨σ2, H2, J2, q⟩ := h2
      exact fin (v := V.non) (u := Value.none) J2 rfl q
    | brk => obtain ⟨_, _, _, q⟩ := h2; exact q.elim
    | cont => obtain ⟨_, _, _, q⟩ := h2; exact q.elim
/-! ### an own error's super().__init__(..) -/
section
variable {X : Cx} {D f a C u : Addr} {x : Str} {pins : List (Addr × Obj)} {σ : L2.St} {H : Hp} {s : Shared} {body : List Stmt} {p0 p1 : Pos} {A : Around} {E : Value → Shared → Prop}
theorem mw_call {us : List Value} {Q : Value → Shared → Prop} (T : OexC X.K C) (I : Inv X pins σ H s) (hu : s.heap.get? u = some (PySem.W.kxs_mw "ValueError.__init__" a)) (e : H a = some (exo a C none)) (hl : us.length ≤ sizeLine) (h : ∀ s', Inv X pins σ H s' → Q .none s') :
    wpAny (model X.prog X.w) A (call (.ref u) us) Q E s := by
  obtain ⟨nm, q, N, bs, bm, sn, sub, ab, col, dd, k0, k1, k2, k3, k5, hC, hbm⟩ := T.cls
  obtain ⟨t1, ho⟩ := exo_at I.hok e
  obtain ⟨hh, gg, d, tt, os⟩ := s
  refine wpAny_call (codeAny_of_tree (show wpAny _ A.in1 (callAny (.ref u) ⟨us, []⟩) _ _ _ from ?_))
  simp only [callAny]
  refine wpAny_bind (wpAny_load hu (?_ : wpAny _ _ _ _ _ _))
  simp only [PySem.W.kxs_mw]
  refine PySem.W.KFB.if_so (by decide) (wpAny_bind (PySem.W.check_bound_init PySem.F.excBase_ValueError.toExcCallFacts (I.kIn _ _ hC) ho rfl (wpAny_bind (wpAny_pure (wpAny_pure ⟨plainId_quiet PySem.F.excBase_ValueError.init.plain _, codeAny_builtin PySem.F.excBase_ValueError.initEntry ?_⟩)))))
  refine PySem.W.exc_init_tree (cls := .ref C) (t0 := t1) (dv := none) (c2 := .none) (c3 := .none) (b4 := .bool false) ho hl fun h' k hx hy => ?_
  have J := I.write (t' := tt) (x := a) (e := a) (o := exo a C none) (by rw [e]; exact True.intro) (.inl rfl) k ⟨_, hx⟩ (exo_ok hx)
  have eu : upd H a (exo a C none) = H := by
    funext b
    by_cases hb : b = a
    · rw [hb, upd_same, e]
    · rw [upd_ne hb]
  rw [eu] at J
  exact h _ J
def tSupX (K : PySem.W.Frag) (C : Addr) (t : TA) : TE := fun σ H Q => ∃ a, σ[0]? = some (some (.ref a)) ∧ OexC K C ∧ H a = some (exo a C none) ∧ t σ H fun vs H2 => vs.length ≤ 1000 ∧ H2 a = some (exo a C none) ∧ Q .non H2
theorem pe_supX {e : Expr} {es : List Expr} {t : TA} {apos pos : Pos} {pl : Sem Bool} (S : SupX X D f x) (hsub : PySem.W.mroIn X.K C (.ref D) = some true) (ho : PySem.W.nsIn X.K PySem.cStatics "thirdparty.any" = some none)
    (hm : PySem.W.ks_superIn X.K C D "__init__" = some (some (.builtin "ValueError.__init__"))) (hI : PySem.W.subIn X.K (.ref C) (.type "ValueError") = some true) (ha : PA X (e :: es) t)
    (hst : starEach (e :: es) X.env = (false, eval e X.env) :: starEach es X.env := by rfl) (hpl : (backTo pos (starEach es X.env)).any (·.1) = false := by rfl)
    (hev : eval (.Call (.Attribute (.Call (.Name "super" p0) [] [] p1) "__init__" apos) (e :: es) [] pos) X.env = (do let ov ← attributeBase (.Call (.Name "super" p0) [] [] p1) "__init__" X.env (eval (.Call (.Name "super" p0) [] [] p1) X.env); standAt apos.atName; let (f, first) ← holding [ov] (getMethod ov "__init__" pl); callWith pos f first (backTo pos (starEach (e :: es) X.env)) []) := by rfl) :
    PEat X (.func body X.env) (.Call (.Attribute (.Call (.Name "super" p0) [] [] p1) "__init__" apos) (e :: es) [] pos) (tSupX X.K C t) := by
  refine ⟨fun pins s σ G Q I h => ?_⟩
  obtain ⟨a, h0, T, hexo, q⟩ := h
  obtain ⟨t1, hoa⟩ := exo_at I.hok hexo
  have J : PySem.W.InstAt s.heap a ({ cls := .ref C, dict := none, data := .fields #[.ref t1, .none, .none, .none, .bool false, .none] } : Obj) C none := ⟨hoa, rfl, rfl, trivial⟩
  refine PySem.ks_wpAt_MethodCall (pl := pl) (sup_base S I h0 J hsub (by decide +kernel) fun so h' up hso => ?_) hev
  have I1 : Inv X pins σ G { s with heap := h' } := I.kept (t' := s.toks) up
  have KX : X.K.In h' := I1.kIn
  obtain ⟨cd, hcd⟩ : ∃ cd, PySem.W.clsIn X.K C = some cd := by
    cases hc : PySem.W.clsIn X.K C with
    | none => unfold PySem.W.ks_superIn at hm; rw [hc] at hm; cases hm
    | some cd => exact ⟨cd, rfl⟩
  have hal : PySem.W.alongIn X.K "__init__" ((cd.mro.dropWhile (· != .ref D)).drop 1) = some (some (.builtin "ValueError.__init__")) := by
    unfold PySem.W.ks_superIn at hm
    rw [hcd] at hm
    exact hm
  have J1 : PySem.W.InstAt h' a ({ cls := .ref C, dict := none, data := .fields #[.ref t1, .none, .none, .none, .bool false, .none] } : Obj) C none := ⟨up _ _ hoa, rfl, rfl, trivial⟩
  have LI : PySem.W.Looks (model X.prog X.w) h' (isInstance (.ref a) (.type "ValueError")) true := (J1.type (M := model X.prog X.w)).andThen (PySem.W.looks_subIn KX hI)
  obtain ⟨hh, gg, dd, tt, os⟩ := s
  refine PySem.W.kxs_getMethod PySem.W.kxs_ValueError hso (PySem.W.looks_opaque KX ho) (l₀ := cd.mro) (fun A Q E s k q => wpAny_bind ((PySem.W.looks_clsIn KX hcd) A _ E s k (wpAny_pure q))) rfl KX hal LI (PySem.W.ks_ne I.kIn J hcd) (by decide +kernel) ?_
  have I2 : Inv X ((h'.objs.size, PySem.W.kxs_mw "ValueError.__init__" a) :: pins) σ G ⟨h'.push (PySem.W.kxs_mw "ValueError.__init__" a), gg, dd, tt + 1, os⟩ := ClX.pin_new I1 (fun _ _ z => Heap.get?_push_of_some _ z) (Nat.le_refl _) (Heap.get?_push_size h' rfl) (fun v z => nomatch z)
  show wpAny _ _ (callWith pos (.ref h'.objs.size) [] (backTo pos (starEach (e :: es) X.env)) []) _ _ _
  have hrun := ha.run pos _ _ σ G _ I2 q
  rw [hst] at hrun ⊢
  refine PySem.W.kxs_callWith (i := "ValueError.__init__") (x := a) (by show (false || (backTo pos (starEach es X.env)).any (·.1)) = false; rw [hpl]; rfl) (PySem.Calls.evalArgs_plain (thn hrun fun us s2 ⟨vs, H2, I3, r, hv, he2, q2⟩ => ⟨ClX.pin_at I3, ?_⟩))
  refine mw_call T I3 (ClX.pin_at I3) he2 ?_ fun s3 I4 => ⟨.non, H2, ClX.unpin I4, rfl, q2⟩
  show us.length ≤ sizeLine
  rw [← r.length, sizeLine_eq]
  omega
end
end Z
namespace Z
open PySem L2 PySem.Spec PyProof.Rows
/-! ### the head's facts of own errors and of defs that say super() -/
def oexB (x : Str) (K : PySem.W.Frag) : Bool := (match K.lookup (He.ga K x) with
  | some ⟨.type "type", _, .cls cd, sl⟩ => (match cd.mro, sl.toList with
    | .ref C' :: bm, [_, _, _, _, some (.builtin n), _] => C' == He.ga K x && n == "ValueError.__new__" && !cd.hasDel && cd.hasDict && PySem.HandSPX.refsVE bm
    | _, _ => false)
  | _ => false) && (decide (PySem.W.findIn K (.ref (He.ga K x)) "__setattr__" = some (some (.builtin "object.__setattr__"))) && (decide (PySem.W.subIn K (.ref (He.ga K x)) (.type "BaseException") = some true) && (decide (PySem.W.typeIn K (.ref (He.ga K x)) = some (.type "type")) && PySem.W.keepIn K (.ref (He.ga K x)))))
theorem oexB_ok {K : PySem.W.Frag} {x : Str} (h : oexB x K = true) : OexC K (He.ga K x) := by
  obtain ⟨q, h⟩ := He.ba h
  obtain ⟨h2, h⟩ := He.ba h
  obtain ⟨h3, h⟩ := He.ba h
  obtain ⟨h4, h5⟩ := He.ba h
  refine ⟨?_, of_decide_eq_true h2, of_decide_eq_true h3, of_decide_eq_true h4, h5⟩
  split at q
  · rename_i dd cd sl ho
    split at q
    · rename_i C' bm k0 k1 k2 k3 n k5 hm hs
      simp only [Bool.and_eq_true, beq_iff_eq, Bool.not_eq_true'] at q
      obtain ⟨⟨⟨⟨rfl, rfl⟩, hdel⟩, hdi⟩, ht⟩ := q
      obtain ⟨nm, bs, mro, ns, qn, hd, sn, sub, ab, col, del⟩ := cd
      dsimp only at hm hdel hdi
      subst hm hdel hdi
      have hsl : sl = #[k0, k1, k2, k3, some (.builtin "ValueError.__new__"), k5] := by
        obtain ⟨l⟩ := sl
        simp only at hs
        rw [hs]
      subst hsl
      exact ⟨nm, qn, ns, bs, bm, sn, sub, ab, col, dd, k0, k1, k2, k3, k5, ho, ht⟩
    · cases q
  · cases q
/-- the def of the classmethod m of the class C -/
def wfA (K : PySem.W.Frag) (C m : Str) : Addr := He5.wf K (He.ga K C) "classmethod" m
/-- a def with its closure left out; of a classmethod its def -/
def fnWs (K : PySem.W.Frag) (p : Str × Option Str) : He.FnW := match K.lookup (He.fAd K p) with
  | some ⟨_, _, .func fd, _⟩ => some (fd.name, fd.qualname, fd.params, fd.body, fd.scope, fd.globals, [], fd.builtins)
  | _ => match p with
    | (C, some m) => He5.fnA K (wfA K C m)
    | _ => none
def supB (d : He.DefD) (D file : Str) (K : PySem.W.Frag) : Bool := PySem.W.keepIn K (.ref (He.fAd K d.at_)) && (match K.lookup (He.fAd K d.at_) with
  | some ⟨_, _, .func fd, _⟩ => (match fd.closure, fd.code with
    | [(n, cc)], .ref cda => (match fd.defaults, fd.kwdefaults with
      | .none, .none => true
      | _, _ => false) && (decide (n = "__class__") && (PySem.W.codeIn K (.ref cda) d.qual && ((match K.lookup cc with
        | some ⟨_, _, .cell (some (.ref D')), _⟩ => decide (D' = He.ga K D)
        | _ => false) && (match K.lookup cda with
        | some ⟨_, _, .fields vs, _⟩ => (match (vs[2]? : Option Value) with
          | some (Value.str fl _) => file == fl
          | _ => false)
        | _ => false))))
    | _, _ => false)
  | _ => false)
theorem supB_ok {P : Program} {K : PySem.W.Frag} {d : He.DefD} {D : Str} (e : fnWs K d.at_ = d.val) (c : supB d D P.main.file K = true) : ∃ fd, FunS P K d.name d.qual d.params d.body d.scope (He.ga K D) (He.fAd K d.at_) fd := by
  obtain ⟨kp, c2⟩ := He.ba c
  unfold fnWs at e
  cases q : K.lookup (He.fAd K d.at_) with
  | none =>
    rw [q] at c2
    cases c2
  | some o =>
    obtain ⟨oc, od, dt, osl⟩ := o
    rw [q] at c2 e
    cases dt with
    | func fd =>
      obtain ⟨n1, n2, n3, n4, n5, n6, n7, n8, n9, n10, n11, n12, n13, n14, n15⟩ := fd
      have e2 : (some (n1, n2, n3, n4, n5, n6, ([] : List (Str × Addr)), n15) : He.FnW) = some (d.name, d.qual, d.params, .stmts d.body, d.scope, mainGlobals, [], builtinsNs) := e
      simp only [Option.some.injEq, Prod.mk.injEq] at e2
      obtain ⟨h1, h2, h3, h4, h5, h6, _, h8⟩ := e2
      subst h1 h2 h3 h4 h5 h6 h8
      dsimp only at c2
      split at c2
      · rename_i x1 x2 n cc cda
        obtain ⟨k0, c2⟩ := He.ba c2
        obtain ⟨k1, c3⟩ := He.ba c2
        obtain ⟨k2, c4⟩ := He.ba c3
        obtain ⟨k3, k4⟩ := He.ba c4
        have en : n = "__class__" := of_decide_eq_true k1
        subst en
        split at k0
        case h_2 => cases k0
        refine ⟨_, ⟨oc, od, n10, n11, n12, cda, n14, osl, cc, rfl, q, k2, ?_, ?_⟩, kp⟩
        · split at k3
          · rename_i cl cd D' cs hc
            have eD : D' = He.ga K D := of_decide_eq_true k3
            subst eD
            exact ⟨_, _, _, hc⟩
          · cases k3
        · split at k4
          · rename_i cl cd vs cs hc
            split at k4
            · rename_i fl tf hv
              exact ⟨_, _, vs, _, fl, tf, hc, hv, k4⟩
            · cases k4
          · cases k4
      · cases c2
    | _ => cases c2
def fdOf_S {P : Program} {K : PySem.W.Frag} {x qual : Str} {params : Arguments} {body : List Stmt} {scope : Scope} {D f : Addr} (h : ∃ fd, FunS P K x qual params body scope D f fd) : FunS P K x qual params body scope D f (fdOf K f) := by
  obtain ⟨fd, F⟩ := h
  have e : fdOf K f = fd := by
    obtain ⟨_, _, _, _, _, _, _, _, _, _, lk, _⟩ := F.ex
    unfold fdOf
    rw [lk]
  rw [e]
  exact F
/-- the facts that a super() call wants -/
def clsB (x : Str) (K : PySem.W.Frag) : Bool := (PySem.W.clsIn K (He.ga K x)).isSome
theorem clsB_ok {K : PySem.W.Frag} {x : Str} (h : clsB x K = true) : ∃ cd, PySem.W.clsIn K (He.ga K x) = some cd := Option.isSome_iff_exists.mp h
def mroB (x y : Str) (K : PySem.W.Frag) : Bool := decide (PySem.W.mroIn K (He.ga K x) (.ref (He.ga K y)) = some true)
theorem mroB_ok {K : PySem.W.Frag} {x y : Str} (h : mroB x y K = true) : PySem.W.mroIn K (He.ga K x) (.ref (He.ga K y)) = some true := of_decide_eq_true h
def thirdB (K : PySem.W.Frag) : Bool := decide (PySem.W.nsIn K PySem.cStatics "thirdparty.any" = some none)
theorem thirdB_ok {K : PySem.W.Frag} (h : thirdB K = true) : PySem.W.nsIn K PySem.cStatics "thirdparty.any" = some none := of_decide_eq_true h
/-- super().m from the class at y of an object of the class at x is the def m of the class at z -/
def supmB (x y m z : Str) (K : PySem.W.Frag) : Bool := decide (PySem.W.ks_superIn K (He.ga K x) (He.ga K y) m = some (some (.ref (He.ma K (He.ga K z) m)))) && (decide (PySem.W.typeIn K (.ref (He.ma K (He.ga K z) m)) = some (.type "function")) && PySem.W.fnIn K (He.ma K (He.ga K z) m))
theorem supmB_ok {K : PySem.W.Frag} {x y m z : Str} (h : supmB x y m z K = true) : PySem.W.ks_superIn K (He.ga K x) (He.ga K y) m = some (some (.ref (He.ma K (He.ga K z) m))) ∧ PySem.W.typeIn K (.ref (He.ma K (He.ga K z) m)) = some (.type "function") ∧ PySem.W.fnIn K (He.ma K (He.ga K z) m) = true := by
  obtain ⟨h1, h⟩ := He.ba h
  obtain ⟨h2, h3⟩ := He.ba h
  exact ⟨of_decide_eq_true h1, of_decide_eq_true h2, h3⟩
def supiB (x : Str) (K : PySem.W.Frag) : Bool := decide (PySem.W.ks_superIn K (He.ga K x) (He.ga K x) "__init__" = some (some (.builtin "ValueError.__init__"))) && (decide (PySem.W.subIn K (.ref (He.ga K x)) (.type "ValueError") = some true) && (decide (PySem.W.findIn K (.ref (He.ga K x)) "__init__" = some (some (.ref (He.ma K (He.ga K x) "__init__")))) && decide (PySem.W.typeIn K (.ref (He.ma K (He.ga K x) "__init__")) = some (.type "function"))))
theorem supiB_ok {K : PySem.W.Frag} {x : Str} (h : supiB x K = true) : PySem.W.ks_superIn K (He.ga K x) (He.ga K x) "__init__" = some (some (.builtin "ValueError.__init__")) ∧ PySem.W.subIn K (.ref (He.ga K x)) (.type "ValueError") = some true ∧ PySem.W.findIn K (.ref (He.ga K x)) "__init__" = some (some (.ref (He.ma K (He.ga K x) "__init__"))) ∧ PySem.W.typeIn K (.ref (He.ma K (He.ga K x) "__init__")) = some (.type "function") := by
  obtain ⟨h1, h⟩ := He.ba h
  obtain ⟨h2, h⟩ := He.ba h
  obtain ⟨h3, h4⟩ := He.ba h
  exact ⟨of_decide_eq_true h1, of_decide_eq_true h2, of_decide_eq_true h3, of_decide_eq_true h4⟩
/-! the hook with such defs -/
open He in
def obsY (n : Nat) (ex : List (PySem.W.Frag → Bool)) (fn fs : List DefD) (g : Addr → Option Obj) : AlD := ((ex.all fun f => f (frG g (PySem.cStatics :: asD g n))) && fn.all fun d => d.ok (frG g (PySem.cStatics :: asD g n)), (fn.map fun d => fnW (frG g (PySem.cStatics :: asD g n)) d.at_) ++ fs.map fun d => fnWs (frG g (PySem.cStatics :: asD g n)) d.at_)
structure SaysY (ex : List (PySem.W.Frag → Bool)) (fn fs : List He.DefD) (K : PySem.W.Frag) : Prop where
  facts : ∀ f ∈ ex, f K = true
  d : He.SaysD [] fn K
  s : fs.map (fun d => fnWs K d.at_) = fs.map He.DefD.val
theorem SaysY.fact {ex : List (PySem.W.Frag → Bool)} {fn fs : List He.DefD} {K : PySem.W.Frag} (c : SaysY ex fn fs K) (i : Nat) {f : PySem.W.Frag → Bool} (h : ex[i]? = some f := by rfl) : f K = true := c.facts f (List.mem_of_getElem? h)
theorem SaysY.sup {ex : List (PySem.W.Frag → Bool)} {fn fs : List He.DefD} {K : PySem.W.Frag} (c : SaysY ex fn fs K) (i : Nat) {d : He.DefD} (h : fs[i]? = some d := by rfl) : fnWs K d.at_ = d.val := by
  have e : (fs.map fun d => fnWs K d.at_)[i]? = (fs.map He.DefD.val)[i]? := by rw [c.s]
  rw [List.getElem?_map, List.getElem?_map, h] at e
  exact Option.some.inj e
def hookY (n : Nat) (ex : List (PySem.W.Frag → Bool)) (fn fs : List He.DefD) : PySem.W.Hook where
  α := He.AlD
  obs := fun s => obsY n ex fn fs s.heap.get?
  val := fun _ => (true, fn.map He.DefD.val ++ fs.map He.DefD.val)
  says := fun _ h => ∃ K : PySem.W.Frag, K.In h ∧ SaysY ex fn fs K
  of := fun _ s e => by
    have e1 := congrArg (fun z : He.AlD => z.1) e
    have e2 := congrArg (fun z : He.AlD => z.2) e
    obtain ⟨h1, h2⟩ := He.ba e1
    obtain ⟨e3, e4⟩ := List.append_inj e2 (by rw [List.length_map, List.length_map])
    refine ⟨He.frG s.heap.get? (PySem.cStatics :: He.asD s.heap.get? n), He.frG_in, fun f hf => List.all_eq_true.mp h1 f hf, ?_, e4⟩
    show ((([] : List He.Fa).all fun f => f.ok _) && fn.all fun d => d.ok _, fn.map fun d => He.fnW _ d.at_) = (true, fn.map He.DefD.val)
    rw [h2]
    exact congrArg (fun z => (true, z)) e3
  keeps := fun _ _ _ ⟨K, hK, c⟩ k => ⟨K, PySem.W.Frag.In.keeps hK k, c⟩
theorem obsY_eq {n : Nat} {ex : List (PySem.W.Frag → Bool)} {fn fs : List He.DefD} {g : Addr → Option Obj} {s : Shared} (h : ∀ a, g a = s.heap.get? a) : obsY n ex fn fs g = (hookY n ex fn fs).obs s := by
  have e : g = s.heap.get? := funext h
  rw [e]
  rfl
/-! ### own errors with fields -/
/-- __init__ of an error: super().__init__(text), then self.f = v for each of the names -/
def spX (C : Addr) (names : List Str) : Sp := fun vs H Q _ => ∃ (a : Addr) (ws : List V), vs = .ref a :: ws ∧ ws.length = names.length ∧ H a = some (exo a C none) ∧ ∀ dx, H dx = none → dx ≠ a → Q .non (upd (upd H dx (exd dx (names.zip ws).reverse)) a (exo a C (some dx)))
section
variable {K : PySem.W.Frag} {σ : L2.St} {H : Hp} {Q : VK} {D : Ends} {C a dx : Addr} {f : Str} {y : V} {fs : List (Str × V)} {t : TA} {to te : TE}
theorem w_supX (h0 : σ[0]? = some (some (.ref a))) (T : OexC K C) (ha : H a = some (exo a C none)) (q : t σ H fun vs H2 => vs.length ≤ 1000 ∧ H2 a = some (exo a C none) ∧ Q .non H2) : tSupX K C t σ H Q := ⟨a, h0, T, ha, q⟩
theorem upd_swap {H : Hp} {p q : Addr} {o u u' : HO} (h : p ≠ q) : upd (upd (upd H p u) q o) p u' = upd (upd H p u') q o := by
  funext b
  by_cases hp : b = p
  · subst hp; rw [upd_same, upd_ne h, upd_same]
  · by_cases hq : b = q
    · subst hq; rw [upd_ne hp, upd_same, upd_same]
    · rw [upd_ne hp, upd_ne hq, upd_ne hp, upd_ne hq, upd_ne hp]
end
/-- raise C(v, ..) -/
theorem mkX {C : Addr} {names : List Str} {H : Hp} {Q : XK} {vs : List V} (hl : vs.length = names.length) (hn : names.length ≤ 1000) (q : ∀ d H', Fr H d → Ex H H' → At H' d (.xd (names.zip vs).reverse) → Q (.ref C) (some d) H') :
    vs.length ≤ 1000 ∧ ∀ a, H a = none → spX C names (.ref a :: (vs ++ [])) (upd H a (exo a C none)) (fun v H2 => v = .non ∧ ∃ (d : Addr) (fs : List (Str × V)), H2 a = some (exo a C (some d)) ∧ H2 d = some (exd d fs) ∧ H d = none ∧ Q (.ref C) (some d) (upd (del H2 a) d (.xd fs))) (fun _ _ _ => False) := by
  refine ⟨by omega, fun a ha => ⟨a, vs, by rw [List.append_nil], hl, upd_same, fun dx hd hne => ⟨rfl, dx, _, upd_same, by rw [upd_ne hne, upd_same], by rw [upd_ne hne] at hd; exact hd, ?_⟩⟩⟩
  have hd' : H dx = none := by rw [upd_ne hne] at hd; exact hd
  have e : upd (del (upd (upd (upd H a (exo a C none)) dx (exd dx (names.zip vs).reverse)) a (exo a C (some dx))) a) dx (.xd (names.zip vs).reverse) = upd H dx (.xd (names.zip vs).reverse) := by
    funext b
    by_cases hb : b = dx
    · subst hb; rw [upd_same, upd_same]
    · rw [upd_ne hb, upd_ne hb]
      by_cases hba : b = a
      · subst hba; rw [del_same, ha]
      · rw [del_ne hba, upd_ne hba, upd_ne hb, upd_ne hba]
  rw [e]
  exact q dx _ hd' (Ex.new hd') upd_same
theorem FunS.binds {P : Program} {K : PySem.W.Frag} {x qual : Str} {params : Arguments} {body : List Stmt} {scope : Scope} {D f : Addr} {fd : FuncData} {ps : List Str} (F : FunS P K x qual params body scope D f fd)
    (h : ∀ (cl : List (Str × Addr)) (doc pm : Value) (an : Option Addr) (c1 c2 : Value) (us : List Value), us.length = ps.length → bindArgs (PySem.W.fnX x qual params body scope cl .none .none doc pm an c1 c2) ⟨us, []⟩ = pure (ps.zip us)) : Binds K fd ps [] := by
  obtain ⟨oc, od, doc, pm, an, cda, ct, osl, cc, rfl, _⟩ := F.ex
  intro s us _ hl
  rw [List.append_nil] at hl ⊢
  have e := h [("__class__", cc)] doc pm an (.ref cda) ct us hl
  intro M A Q E hq
  rw [e]
  exact wpAny_pure hq
/-! ### the caught error: isinstance, with or without fields; its fields -/
section
variable {X : Cx} {a : Addr} {oe : Obj} {cls : Value} {d : Option Addr} {pn : List (Addr × Obj)}
def rIsY (K : PySem.W.Frag) (cls : Value) (d : Option Addr) (a : Addr) : List V → Hp → VK → Prop := fun xs H Q => ∃ D, cls = .ref D ∧ ExcC K D ∧ (d = none ∨ ∃ dd fs, d = some dd ∧ H dd = some (.xd fs)) ∧ rIsE K D a xs H Q
theorem call_isY (hz : Zc cls d oe) (hf : ∃ vs, oe.data = .fields vs) : CallR (X.suite a ((a, oe) :: pn)) (.builtin "isinstance") (rIsY X.K cls d a) := by
  intro pins s σ G xs us Q I r h
  obtain ⟨D, rfl, C, hd, h⟩ := h
  rcases hd with rfl | ⟨dd, fs, rfl, hxd⟩
  · exact call_isE C hz hf pins s σ G xs us Q I r h
  · obtain ⟨c, cv, b, rfl, hcv, e, q⟩ := h
    cases r with
    | cons rx rr =>
      cases rr with
      | cons rt rr =>
        cases rr
        cases rx
        have ec := hcv _ rt
        subst ec
        obtain ⟨hget, _⟩ := I.pin (a, oe) (List.mem_append.mpr (.inl List.mem_cons_self))
        obtain ⟨vs, hv⟩ := hf
        obtain ⟨mA, hns, hr⟩ := (show ObjOk X.prog X.w G s.heap dd (.xd fs) from I.hok dd _ hxd)
        obtain ⟨od, ho, hl⟩ := lookIn_ns hns
        have J : PySem.W.InstAt s.heap a oe D (some od) := ⟨hget, hz.1, by unfold PySem.W.notCls; rw [hv] <;> rfl, by rw [hz.2]; exact ho⟩
        have hcl : (PySem.W.clsIn X.K D).isSome = true := by
          obtain ⟨cd, hc, _⟩ := PySem.W.any_some C.hd
          rw [hc]; rfl
        exact PySem.W.kia_one (PySem.W.kitx_exc hcl C.hg C.hk C.hs C.ha C.hn C.ht C.hm) I.kIn J e (fun z => nomatch z) fun tk => ⟨.bl b, G, I.kept (t' := tk) fun _ _ z => z, rfl, q⟩
end
section
variable {K : PySem.W.Frag} {σ : L2.St} {H : Hp} {Q : VK} {C a dd : Addr} {f : Str} {v : V} {fs : List (Str × V)} {te : TE} {b : Bool}
theorem w_isY (x : ExcC K C) (h : PySem.W.kitOne K (.ref C) (.ref a) = some b) (q : Q (.bl b) H) {e : Addr} : rIsY K (.ref C) none e [.ref e, .ref a] H Q := ⟨C, rfl, x, .inl rfl, .ref a, .ref a, b, rfl, fun u r => r, h, q⟩
theorem w_isYt {t : String} (x : ExcC K C) (h : PySem.W.kitOne K (.ref C) (.type t) = some b) (q : Q (.bl b) H) {e : Addr} : rIsY K (.ref C) none e [.ref e, .ty t] H Q := ⟨C, rfl, x, .inl rfl, .ty t, .type t, b, rfl, fun u r => r, h, q⟩
theorem w_isYd (x : ExcC K C) (hd : At H dd (.xd fs)) (h : PySem.W.kitOne K (.ref C) (.ref a) = some b) (q : Q (.bl b) H) {e : Addr} : rIsY K (.ref C) (some dd) e [.ref e, .ref a] H Q := ⟨C, rfl, x, .inr ⟨dd, fs, rfl, hd⟩, .ref a, .ref a, b, rfl, fun u r => r, h, q⟩
theorem w_isYdt {t : String} (x : ExcC K C) (hd : At H dd (.xd fs)) (h : PySem.W.kitOne K (.ref C) (.type t) = some b) (q : Q (.bl b) H) {e : Addr} : rIsY K (.ref C) (some dd) e [.ref e, .ty t] H Q := ⟨C, rfl, x, .inr ⟨dd, fs, rfl, hd⟩, .ty t, .type t, b, rfl, fun u r => r, h, q⟩
/-- e.f of the caught error -/
def dXf (a : Addr) (cls : Value) (d : Option Addr) (C : Addr) (f : Str) (Q : VK) : VK := fun x H1 => x = .ref a ∧ cls = .ref C ∧ ∃ (dd : Addr) (fs : List (Str × V)) (v : V), d = some dd ∧ H1 dd = some (.xd fs) ∧ fs.lookup f = some v ∧ Q v H1
theorem w_xf {cls : Value} {d : Option Addr} (h : te σ H (dXf a cls d C f Q)) : tXf a cls d C f te σ H Q := h
theorem w_dXf (hd : At H dd (.xd fs)) (hl : fs.lookup f = some v) (q : Q v H) : dXf a (.ref C) (some dd) C f Q (.ref a) H := ⟨rfl, rfl, dd, fs, v, rfl, hd, hl, q⟩
end
def xfcB (x : Str) (K : PySem.W.Frag) : Bool := xfB K (He.ga K x)
theorem xfcB_ok {K : PySem.W.Frag} {x : Str} (h : xfcB x K = true) : XfC K (He.ga K x) := xfB_ok h
/-! ### raise -/
def tRaise (t : L2.St → Hp → XK → Prop) (W : WX) : TS := fun _ σ H => t σ H fun cls d H' => W cls d σ H'
theorem ps_raiseZ {X : Cx} {W : WX} {e : Expr} {t : L2.St → Hp → XK → Prop} {pos : Pos} (hc : X.calm = true) (tk : Takes X W) (he : PMk X e t) : PS X (.Raise (some e) none pos) (tRaise t W) := ps_raise hc tk he
def dMX (C : Addr) (sp : Sp) (dvs : List V) (Q : XK) : List V → Hp → Prop := fun vs H1 => vs.length ≤ 1000 ∧ ∀ a, H1 a = none → sp (.ref a :: (vs ++ dvs)) (upd H1 a (exo a C none)) (fun v H2 => v = .non ∧ ∃ (d : Addr) (fs : List (Str × V)), H2 a = some (exo a C (some d)) ∧ H2 d = some (exd d fs) ∧ H1 d = none ∧ Q (.ref C) (some d) (upd (del H2 a) d (.xd fs))) (fun _ _ _ => False)
section
variable {σ : L2.St} {H : Hp} {Q : XK} {D : Ends} {C : Addr} {sp : Sp} {dvs vs : List V} {ta : TA} {names : List Str} {t : L2.St → Hp → XK → Prop} {W : WX}
theorem w_raise (h : t σ H fun cls d H' => W cls d σ H') : tRaise t W D σ H := h
theorem w_mkO (h : ta σ H (dMX C sp dvs Q)) : tMkO C sp dvs ta σ H Q := h
theorem w_dMX (hl : vs.length = names.length) (hn : names.length ≤ 1000) (q : ∀ d H', Fr H d → Ex H H' → At H' d (.xd (names.zip vs).reverse) → Q (.ref C) (some d) H') : dMX C (spX C names) [] Q vs H := mkX hl hn q
end
/-! ### slices of tuples, sorted -/
theorem slA {X : Cx} {K : PySem.W.Frag} (hK : X.K = K) : SlR X (rSlA K) := hK ▸ sl_tupA
theorem call_sortI {X : Cx} {K : PySem.W.Frag} (hK : X.K = K) : CallR X (.builtin "sorted") (rSortedI K) := hK ▸ cr_sortedI
section
variable {K : PySem.W.Frag} {H : Hp} {Q : VK} {a : Addr} {i : Int} {ns : List Int}
theorem w_slTo (h : SqT K H a (ns.map V.int)) (h0 : 0 ≤ i) (q : ∀ p H2, Ex H H2 → SqT K H2 p ((ns.take i.toNat).map V.int) → Q (.ref p) H2) : rSlA K (.ref a) none (some i) H Q := by
  refine ⟨a, _, rfl, h, fun hw => ?_, fun hw p hp => q p _ (Ex.new hp) (st_of ?_)⟩
  · refine q a H (Ex.refl H) ?_
    have e : ns.take i.toNat = ns := by
      have := hw.2
      obtain ⟨k, rfl⟩ := Int.eq_ofNat_of_zero_le h0
      rw [HT.sIx_nat, List.length_map] at this
      rw [Int.toNat_natCast]
      exact List.take_of_length_le (by omega)
    rw [e]; exact h
  · show upd H p _ p = _
    rw [upd_same, cut_to h0, List.map_take]
theorem w_slFrom (h : SqT K H a (ns.map V.int)) (h0 : 0 ≤ i) (q : ∀ p H2, Ex H H2 → SqT K H2 p ((ns.drop i.toNat).map V.int) → Q (.ref p) H2) : rSlA K (.ref a) (some i) none H Q := by
  refine ⟨a, _, rfl, h, fun hw => ?_, fun hw p hp => q p _ (Ex.new hp) (st_of ?_)⟩
  · refine q a H (Ex.refl H) ?_
    have e : ns.drop i.toNat = ns := by
      have := hw.1
      obtain ⟨k, rfl⟩ := Int.eq_ofNat_of_zero_le h0
      rw [HT.sIx_nat, List.length_map] at this
      rw [Int.toNat_natCast]
      rcases Nat.eq_zero_or_pos k with z | z
      · rw [z]; rfl
      · have : ns.length = 0 := by omega
        rw [List.length_eq_zero_iff.mp this]; simp
    rw [e]; exact h
  · show upd H p _ p = _
    rw [upd_same, cut_from h0, List.map_drop]
theorem w_sortI (h : SqL K H a (ns.map V.int)) (q : ∀ p H2 (ms : List Int), Fr H p → Ex H H2 → At H2 p (.lst (ms.map V.int)) → ms.Perm ns → ms.Pairwise (· ≤ ·) → Q (.ref p) H2) : rSortedI K [.ref a] H Q :=
  ⟨a, ns, rfl, h, fun ms p h1 h2 hp => q p _ ms hp (Ex.new hp) at_upd h1 h2⟩
end
/-! ### xs.pop(i) -/
theorem w_popI {H : Hp} {Q : VK} {a : Addr} {i : Int} {ns : List Int} (h : At H a (.lst (ns.map V.int))) (h0 : 0 ≤ i) (h1 : i < ns.length) (h2 : ns.length < 2 ^ 62)
    (q : ∀ H2, At H2 a (.lst ((ns.eraseIdx i.toNat).map V.int)) → Nl H H2 → (∀ H0, Ex H0 H → Fr H0 a → Ex H0 H2) → (∀ b o, b ≠ a → At H b o → At H2 b o) → Q (.int (ns.getD i.toNat 0)) H2) : rPopAt (.ref a) [.int i] H Q := by
  have hk : i.toNat < ns.length := by omega
  refine ⟨a, _, i, i.toNat, .int (ns.getD i.toNat 0), rfl, rfl, h, by omega, by omega, ?_, ?_, q _ ?_ (Nl.upd h) (fun H0 e n => Ex.mut e n) (fun b o hb e => by unfold At; rw [upd_ne hb]; exact e)⟩
  · unfold seqIndex?
    rw [List.length_map]
    simp only [show ¬ i < 0 by omega, if_false]
    simp [h0, h1]
  · rw [List.getElem?_map, List.getD_eq_getElem?_getD, List.getElem?_eq_getElem hk]
    rfl
  · unfold At
    rw [upd_same]
    congr 2
    apply List.ext_getElem?
    intro j
    simp only [List.getElem?_eraseIdx, List.getElem?_map]
    split <;> rfl
end Z
namespace Z
open PySem L2 PySem.Spec PyProof.Rows
/-! ### methods of classes above; constants of a class; stores into own fields -/
/-- the method m of the class x is the def m of the class y -/
def methB (x m y : Str) (K : PySem.W.Frag) : Bool := He.eqO (PySem.W.findIn K (.ref (He.ga K x)) m) (some (some (.ref (He.ma K (He.ga K y) m)))) && (PySem.W.isFn K (.ref (He.ma K (He.ga K y) m)) && PySem.W.keepIn K (.ref (He.ma K (He.ga K y) m)))
theorem methB_ok {K : PySem.W.Frag} {x m y : Str} (c : methB x m y K = true) : Meth K (He.ga K x) m (He.ma K (He.ga K y) m) := by
  obtain ⟨c1, c⟩ := He.ba c
  obtain ⟨c2, c3⟩ := He.ba c
  exact ⟨He.eqO_ok c1, c2, c3⟩
/-- the class x makes instances by the __init__ of the class y -/
def mkrB (x y : Str) (K : PySem.W.Frag) : Bool := PySem.W.makesIn K (He.ga K x) && (He.eqO (PySem.W.findIn K (.ref (He.ga K x)) "__init__") (some (some (.ref (He.ma K (He.ga K y) "__init__")))) && (PySem.W.isFn K (.ref (He.ma K (He.ga K y) "__init__")) && PySem.W.keepIn K (.ref (He.ga K x))))
theorem mkrB_ok {K : PySem.W.Frag} {x y : Str} (c : mkrB x y K = true) : Mk K (He.ga K x) (He.ma K (He.ga K y) "__init__") := by
  obtain ⟨c1, c⟩ := He.ba c
  obtain ⟨c2, c⟩ := He.ba c
  obtain ⟨c3, c4⟩ := He.ba c
  exact ⟨c1, He.eqO_ok c2, c3, c4⟩
/-- the class x has the int i as its constant f -/
def conIB (x f : Str) (i : Int) (K : PySem.W.Frag) : Bool := match PySem.W.findIn K (.ref (He.ga K x)) f with
  | some (some (.int j t)) => decide (j = i) && He.eqO (PySem.W.specialIn K (.int j t) "__get__") (some none)
  | _ => false
theorem conIB_ok {K : PySem.W.Frag} {x f : Str} {i : Int} (h : conIB x f i K = true) (hc : PySem.W.copiedNames.contains f = false) : ∃ u, Con K (He.ga K x) f (.int i) u := by
  unfold conIB at h
  split at h
  · rename_i j t e
    obtain ⟨h1, h2⟩ := He.ba h
    have ej : j = i := of_decide_eq_true h1
    subst ej
    exact ⟨_, e, ⟨t, rfl⟩, He.eqO_ok h2, hc⟩
  · cases h
def dCon (K : PySem.W.Frag) (f : Str) (Q : VK) : VK := fun x H1 => ∃ a C dx fs v u, x = .ref a ∧ H1 a = some (.ins C dx fs) ∧ Cls K C ∧ Con K C f v u ∧ fs.lookup f = none ∧ Q v H1
section
variable {K : PySem.W.Frag} {σ : L2.St} {H H' : Hp} {Q : VK} {v x y : V} {a b C dx dy : Addr} {fs gs : List (Str × V)} {f : Str} {i j : Int} {sp : Sp} {D : Ends} {ts : TA}
theorem w_con {ta : TE} (h : ta σ H (dCon K f Q)) : tCon K ta f σ H Q := h
theorem w_dCon (h : At H a (.ins C dx fs)) (cl : Cls K C) (k : ∃ u, Con K C f v u) (hl : fs.lookup f = none) (q : Q v H) : dCon K f Q (.ref a) H := by
  obtain ⟨u, k⟩ := k
  exact ⟨a, C, dx, fs, v, u, rfl, h, cl, k, hl, q⟩
theorem w_put {R : Hp → Prop} (h : At H a (.ins C dx fs)) (cl : Cls K C) (na : NoAttr K C f) (hl : fs.length < 1000) (q : ∀ H2, At H2 a (.ins C dx (putF f y fs)) → (∀ H0, Ex H0 H → Fr H0 a → Ex H0 H2) → (∀ b o, b ≠ a → At H b o → At H2 b o) → R H2) : dSF K f y R (.ref a) H :=
  ⟨a, C, dx, fs, rfl, h, cl, na, hl, q _ upd_same (fun H0 e n => Ex.mut e n) (fun b o hb e => by unfold At; rw [upd_ne hb]; exact e)⟩
theorem w_sup {E : L2.St → XK} {t : TA} (h0 : σ[0]? = some (some (.ref a))) (ha : At H a (.ins C dx fs)) (q : t σ H fun vs H2 => sp (.ref a :: vs) H2 Q (E σ)) : tSup C sp E t σ H Q := ⟨a, dx, fs, h0, ha, q⟩
/-- an object of fs, by its class -/
theorem At.fd {fs gs : List (Str × V)} (h : At H a (.ins C dx fs)) (e : fs = gs) : At H a (.ins C dx gs) := e ▸ h
end
theorem putF_len {f : Str} {y : V} : ∀ {fs : List (Str × V)}, (putF f y fs).length ≤ fs.length + 1
  | [] => Nat.le_refl _
  | (g, z) :: r => by
    unfold putF
    split
    · simp
    · simpa using putF_len (fs := r)
theorem putF_end {f : Str} {y : V} : ∀ {fs : List (Str × V)}, (fs.map Prod.fst).contains f = false → putF f y fs = fs ++ [(f, y)]
  | [], _ => rfl
  | (g, z) :: r, h => by
    rw [List.map_cons, List.contains_cons, Bool.or_eq_false_iff] at h
    have h1 : ¬ g = f := fun e => by
      have := h.1
      rw [e] at this
      simp at this
    unfold putF
    rw [if_neg h1, putF_end h.2]
    rfl
/-- a new field behind the others -/
theorem w_putE {K : PySem.W.Frag} {H : Hp} {a C dx : Addr} {f : Str} {y : V} {fs : List (Str × V)} {R : Hp → Prop} (h : At H a (.ins C dx fs)) (cl : Cls K C) (na : NoAttr K C f) (hl : fs.length < 900) (hn : (fs.map Prod.fst).contains f = false) (q : ∀ H2, At H2 a (.ins C dx (fs ++ [(f, y)])) → (∀ H0, Ex H0 H → Fr H0 a → Ex H0 H2) → (∀ b o, b ≠ a → At H b o → At H2 b o) → R H2) : dSF K f y R (.ref a) H :=
  w_put h cl na (by omega) fun H2 h2 => q H2 (by rw [putF_end hn] at h2; exact h2)
/-- isinstance of an instance with the class y, of the class x -/
theorem w_isiOA {K : PySem.W.Frag} {H : Hp} {Q : VK} {a C D dx : Addr} {fs : List (Str × V)} {b : Bool} (O : OwnC K C) (ha : At H a (.ins C dx fs)) (h : PySem.W.kitOne K (.ref C) (.ref D) = some b) (q : Q (.bl b) H) : rIsi K [.ref a, .ref D] H Q := ⟨_, _, .ref C, .ref D, b, rfl, .own D, .base (.ins ha O.cl O.ca O.cn O.ct O.cm), h, q⟩
end Z
namespace Z
open PySem L2 PySem.Spec PyProof.Rows
/-! ### try with several except clauses that give the error a name -/
abbrev TSx := Addr → Value → Option Addr → TS
/-- what clauses wish, one behind the other -/
def wCl (K : PySem.W.Frag) (W0 : WX) (D : Ends) : List (Value × Option Nat × TSx) → WX
  | [] => W0
  | (c, some i, ts) :: r => wAs K c i ts (wCl K W0 D r) D
  | (c, none, ts) :: r => wOnly K c ts (wCl K W0 D r) D
inductive Clauses (X : Cx) : List ExceptHandler → List (Value × Option Nat × TSx) → Prop
  | nil : Clauses X [] []
  | as {x n : Str} {c : Value} {i : Nat} {ts : TSx} {b0 : Stmt} {su : List Stmt} {p1 p2 : Pos} {hs : List ExceptHandler} {l : List (Value × Option Nat × TSx)} (hc : Names X x c) (hi : X.N[i]? = some n) (hn : X.env.kindOf n = some .local)
      (hp : ∀ (a : Addr) (ob : Obj) (cls : Value) (d : Option Addr) (pl : List (Addr × Obj)), Zc cls d ob → (∃ fv, ob.data = .fields fv) → PSs (X.suite a ((a, ob) :: pl)) (b0 :: su) (ts a cls d)) (r : Clauses X hs l) : Clauses X (.ExceptHandler (some (.Name x p1)) (some n) (b0 :: su) p2 :: hs) ((c, some i, ts) :: l)
  | no {x : Str} {c : Value} {ts : TSx} {b0 : Stmt} {su : List Stmt} {p1 p2 : Pos} {hs : List ExceptHandler} {l : List (Value × Option Nat × TSx)} (hc : Names X x c)
      (hp : ∀ (a : Addr) (ob : Obj) (cls : Value) (d : Option Addr) (pl : List (Addr × Obj)), Zc cls d ob → (∃ fv, ob.data = .fields fv) → PSs (X.suite a ((a, ob) :: pl)) (b0 :: su) (ts a cls d)) (r : Clauses X hs l) : Clauses X (.ExceptHandler (some (.Name x p1)) none (b0 :: su) p2 :: hs) ((c, none, ts) :: l)
section
variable {X : Cx} {body : List Stmt} {e0 : ExceptHandler} {er : List ExceptHandler} {l : List (Value × Option Nat × TSx)} {pos : Pos} {tb : WX → TS} {W0 : WX}
def tTryM (K : PySem.W.Frag) (l : List (Value × Option Nat × TSx)) (tb : WX → TS) (W0 : WX) : TS := fun D σ H => tb (wCl K W0 D l) D σ H
theorem ps_tryM (hst : X.stack = X.env :: X.outer) (hfm : X.env.frame = some X.env.locals) (nd : X.N.Nodup) (tk : Takes X W0)
    (pb : ∀ (W : WX) (pl : List (Addr × Obj)) (xe : Value → Shared → Prop), Takes (X.tr pl xe) W → PassesOwn (model X.prog X.w) X.A X.env xe → PSs (X.tr pl xe) body (tb W))
    (cs : Clauses X (e0 :: er) l) : PS X (.Try body (e0 :: er) [] [] pos) (tTryM X.K l tb W0) := by
  refine ⟨fun pins st σ G D I hg => ?_⟩
  have okX := I.ok
  have hfrs : X.A.frames = some (X.env :: X.outer) := by rw [okX.frames, hst]
  refine wpAny_Try_except (wpAny_mono ((pb (wCl X.K W0 D l) (X.pn ++ pins) (fun er1 z1 => wpAny (model X.prog X.w) X.A (noteFrame er1 X.env) (fun _ z2 => wpAny (model X.prog X.w) X.A (setFlight er1 none) (fun _ z3 => wpAny (model X.prog X.w) X.A (handleBy er1 X.env (e0 :: er)) (SP X pins D) X.xe z3) X.xe z2) X.xe z1) (fun u st' xx => ?_) PassesOwn.looking).run [] st σ G D (I.toTry _) hg) (fun fl st1 hsp => ?_) fun _ _ z => z)
  · obtain ⟨a, B, sJ, pins', σ', G', cls, d, rfl, J', nob, upJ, skyJ, nfree, osJ, agJ, wish⟩ := xx
    have J : Inv X pins σ' G' sJ := J'.ofTry okX
    have sky1 : Sky B (X.env :: X.outer) a (Zc cls d) X.env.locals st'.heap := by rw [← hst]; exact skyJ
    show wpAny (model X.prog X.w) X.A (noteFrame (.ref a) X.env) _ _ _
    refine Sky.land Zc.steady hfrs hfm sky1 fun hp3 fly3 upp3 => ?_
    have J3 : Inv X pins σ' G' { st' with heap := hp3 } := J.landed nob fly3.1 (upJ.trans upp3) osJ agJ
    obtain ⟨ob3, fv3, get3, zc3, dat3⟩ := fly3.there
    have notF : a ∉ frs (X.env :: X.outer) := fun hm => by
      obtain ⟨_, o2, g2, hnf⟩ := fly3.2.2.1.mem hm
      rw [get3] at g2
      cases g2
      exact hnf _ dat3
    have neL : a ≠ X.env.locals := fun z => notF (List.mem_filterMap.mpr ⟨X.env, List.mem_cons_self, by rw [hfm, z]⟩)
    have neF : a ∉ X.fs := fun hm => by
      obtain ⟨en, hen, q⟩ := List.mem_filterMap.mp hm
      exact notF (List.mem_filterMap.mpr ⟨en, List.mem_cons_of_mem _ hen, q⟩)
    have SU := J3.suite get3 dat3 nfree neL neF
    have LT : PySem.W.Looks (model X.prog X.w) hp3 (typeOf (.ref a)) cls := fun A Q E z k q => wpAny_typeOf_ref (k _ _ get3) (by rw [zc3.1]; exact q)
    have each : ∀ {hs2 : List ExceptHandler} {l2 : List (Value × Option Nat × TSx)}, Clauses X hs2 l2 → wCl X.K W0 D l2 cls d σ' G' → wpAny (model X.prog X.w) X.A (handleBy (.ref a) X.env hs2) (SP X pins D) X.xe { st' with heap := hp3 } := by
      intro hs2 l2 hcs
      induction hcs with
      | nil =>
        intro wsh
        refine wpAny_handleBy_nil ?_
        obtain ⟨_, _, _, ob, fv, tbk, _, _, g1, _, dd, i1, _⟩ := id fly3
        unfold PySem.passOn
        refine wpAny_bind (wpAny_field g1 dd i1 ?_)
        rw [if_neg (show ¬ ((Value.ref tbk == Value.none) = true) by simp)]
        have out : wpAny (model X.prog X.w) X.A (setFlight (.ref a) X.env.frame) (fun _ z4 => wpAny (model X.prog X.w) X.A (throw (.ref a) : Sem Flow) (SP X pins D) X.xe z4) X.xe { st' with heap := hp3 } := by
          rw [hfm]
          exact HandSPX.setFlight_upZ fly3 fun hp4 fly4 upp4 => wpAny_throw (tk _ _ ⟨a, B, sJ, pins, σ', G', cls, d, rfl, J, nob, (upJ.trans upp3).trans upp4, .inr (.inr (by rw [hst]; exact fly4)), nfree, osJ, agJ, wsh⟩)
        first
          | exact wpAny_bind (wpAny_pure (wpAny_bind out))
          | exact wpAny_bind out
      | @as x n c i ts b0 su p1 p2 hs3 l3 hc hi hn hp r ih =>
        rintro ⟨b, hb1, yes, no⟩
        refine wpAny_handleBy_cons (codeAny_handlers_test ?_) (fun q => by cases q)
        have look : ∀ {Q : Value → Shared → Prop} {E : Value → Shared → Prop}, Q c { st' with heap := hp3 } → wpAny (model X.prog X.w) (X.A.mark (some (.ref a))) (eval (.Name x p1) X.env) Q E { st' with heap := hp3 } := fun {Q E} q => by
          obtain ⟨gx, dx, mx | ⟨mx, vx, nx⟩⟩ := hc
          · exact ld_glob (X := X.suite a ((a, ob3) :: (X.pn ++ pins))) SU gx mx q dx
          · exact ld_blt (X := X.suite a ((a, ob3) :: (X.pn ++ pins))) SU gx mx vx q nx dx
        refine look ((PySem.W.exm_one (M := model X.prog X.w) J3.kIn LT hb1).here ?_)
        cases b with
        | false =>
          show wpAny _ X.A (handleBy (.ref a) X.env hs3) _ _ _
          exact ih (no rfl)
        | true =>
          refine codeAny_handlers_suite_as (HandSPX.lands_againZ fly3 fun hp4 fly4 upp4 => ?_)
          have J4 : Inv X pins σ' G' { st' with heap := hp4 } := J.landed nob fly4.1 ((upJ.trans upp3).trans upp4) osJ agJ
          obtain ⟨ob4, fv4, get4, zc4, dat4⟩ := fly4.there
          refine store_ok (X := X.suite a ((a, ob4) :: (X.pn ++ pins))) (v := .ref a) (J4.suite get4 dat4 nfree neL neF) nd hi (.inl hn) rfl (fun st5 S5 => ?_) (.inr hn)
          refine wpAny_mono ((hp a ob4 cls d (X.pn ++ pins) zc4 ⟨_, dat4⟩).run [] st5 _ G' _ S5 (yes rfl a nfree)) (fun fl st6 hsp => ?_) (fun _ _ z => False.elim z)
          have bye : ∀ {σ6 : L2.St} {G6 : Hp} {Q : Shared → Prop}, Inv (X.suite a ((a, ob4) :: (X.pn ++ pins))) [] σ6 G6 st6 → (∀ z7, Inv X pins (σ6.set i none) G6 z7 → Q z7) →
              wpAny (model X.prog X.w) X.A (do bindName X.env n .none; unbindBehindTheSuite X.env n p2) (fun _ z7 => Q z7) X.xe st6 := fun {σ6 G6 Q} S6 hq => gone_ok (S6.unsuite okX) nd hi hn hq
          cases fl with
          | next => obtain ⟨_, _, S6, q6⟩ := hsp; exact bye S6 fun _ J7 => ⟨_, _, J7, q6⟩
          | brk => obtain ⟨_, _, S6, q6⟩ := hsp; exact bye S6 fun _ J7 => ⟨_, _, J7, q6⟩
          | cont => obtain ⟨_, _, S6, q6⟩ := hsp; exact bye S6 fun _ J7 => ⟨_, _, J7, q6⟩
          | ret u => obtain ⟨_, _, _, S6, r6, q6⟩ := hsp; exact bye S6 fun _ J7 => ⟨_, _, _, J7, r6, q6⟩
      | @no x c ts b0 su p1 p2 hs3 l3 hc hp r ih =>
        rintro ⟨b, hb1, yes, no⟩
        refine wpAny_handleBy_cons (codeAny_handlers_test ?_) (fun q => by cases q)
        have look : ∀ {Q : Value → Shared → Prop} {E : Value → Shared → Prop}, Q c { st' with heap := hp3 } → wpAny (model X.prog X.w) (X.A.mark (some (.ref a))) (eval (.Name x p1) X.env) Q E { st' with heap := hp3 } := fun {Q E} q => by
          obtain ⟨gx, dx, mx | ⟨mx, vx, nx⟩⟩ := hc
          · exact ld_glob (X := X.suite a ((a, ob3) :: (X.pn ++ pins))) SU gx mx q dx
          · exact ld_blt (X := X.suite a ((a, ob3) :: (X.pn ++ pins))) SU gx mx vx q nx dx
        refine look ((PySem.W.exm_one (M := model X.prog X.w) J3.kIn LT hb1).here ?_)
        cases b with
        | false =>
          show wpAny _ X.A (handleBy (.ref a) X.env hs3) _ _ _
          exact ih (no rfl)
        | true =>
          refine codeAny_handlers_suite (HandSPX.lands_againZ fly3 fun hp4 fly4 upp4 => ?_)
          have J4 : Inv X pins σ' G' { st' with heap := hp4 } := J.landed nob fly4.1 ((upJ.trans upp3).trans upp4) osJ agJ
          obtain ⟨ob4, fv4, get4, zc4, dat4⟩ := fly4.there
          refine wpAny_mono ((hp a ob4 cls d (X.pn ++ pins) zc4 ⟨_, dat4⟩).run [] _ _ G' _ (J4.suite get4 dat4 nfree neL neF) (yes rfl a nfree)) (fun fl st6 hsp => ?_) (fun _ _ z => False.elim z)
          cases fl with
          | next => obtain ⟨_, _, S6, q6⟩ := hsp; exact ⟨_, _, S6.unsuite okX, q6⟩
          | brk => obtain ⟨_, _, S6, q6⟩ := hsp; exact ⟨_, _, S6.unsuite okX, q6⟩
          | cont => obtain ⟨_, _, S6, q6⟩ := hsp; exact ⟨_, _, S6.unsuite okX, q6⟩
          | ret u => obtain ⟨_, _, _, S6, r6, q6⟩ := hsp; exact ⟨_, _, _, S6.unsuite okX, r6, q6⟩
    exact each cs wish
  · cases fl with
    | next => obtain ⟨_, _, J', q⟩ := hsp; exact wpAny_execs_nil ⟨_, _, J'.ofTry okX, q⟩
    | brk => obtain ⟨_, _, J', q⟩ := hsp; exact ⟨_, _, J'.ofTry okX, q⟩
    | cont => obtain ⟨_, _, J', q⟩ := hsp; exact ⟨_, _, J'.ofTry okX, q⟩
    | ret u => obtain ⟨_, _, _, J', r, q⟩ := hsp; exact ⟨_, _, _, J'.ofTry okX, r, q⟩
end
section
variable {K : PySem.W.Frag} {σ : L2.St} {H : Hp} {D : Ends} {tb : WX → TS} {W0 : WX} {c cls : Value} {d : Option Addr} {i : Nat} {ts : TSx} {l : List (Value × Option Nat × TSx)}
theorem w_tryM (h : tb (wCl K W0 D l) D σ H) : tTryM K l tb W0 D σ H := h
theorem w_cl (h : PySem.W.exmOne K cls c = some true) (q : ∀ a, Fr H a → ts a cls d (endAs D i) (σ.set i (some (.ref a))) H) : WE (wCl K W0 D ((c, some i, ts) :: l)) σ cls d H := w_as h q
theorem w_clN (h : PySem.W.exmOne K cls c = some false) (q : WE (wCl K W0 D l) σ cls d H) : WE (wCl K W0 D ((c, some i, ts) :: l)) σ cls d H := w_asN h q
theorem w_clO (h : PySem.W.exmOne K cls c = some true) (q : ∀ a, Fr H a → ts a cls d D σ H) : WE (wCl K W0 D ((c, none, ts) :: l)) σ cls d H := w_only h q
theorem w_clON (h : PySem.W.exmOne K cls c = some false) (q : WE (wCl K W0 D l) σ cls d H) : WE (wCl K W0 D ((c, none, ts) :: l)) σ cls d H := w_onlyN h q
theorem w_cl0 (q : W0 cls d σ H) : WE (wCl K W0 D []) σ cls d H := q
end
/-! ### ways that join: only slot i has changed -/
theorem w_cutI {t u : TS} {D : Ends} {σ : L2.St} {H : Hp} (i : Nat) (P : Int → Prop) (h : t ⟨fun σ' G => G = H ∧ ∃ w : Int, P w ∧ σ' = σ.set i (some (.int w)), D.rt, D.bk, D.ct⟩ σ H) (k : ∀ w, P w → u D (σ.set i (some (.int w))) H) : C8.tCut t u D σ H :=
  w_cut _ h fun σ' G ⟨e1, w, hw, e2⟩ => by subst e1 e2; exact k w hw
theorem w_cutV {t u : TS} {D : Ends} {σ : L2.St} {H : Hp} (i : Nat) (P : V → Hp → Prop) (h : t ⟨fun σ' G => Ex H G ∧ ∃ w, P w G ∧ σ' = σ.set i (some w), D.rt, D.bk, D.ct⟩ σ H) (k : ∀ w G, Ex H G → P w G → u D (σ.set i (some w)) G) : C8.tCut t u D σ H :=
  w_cut _ h fun σ' G ⟨e1, w, hw, e2⟩ => by subst e2; exact k w G e1 hw
/-! ### xs[i] = v -/
theorem w_gSub {to ti : TE} {t : TSet} {v : V} {σ : L2.St} {H : Hp} {Q : L2.St → Hp → Prop} (h : to σ H fun o H1 => ti σ H1 fun i H2 => t o i v H2 fun H3 => Q σ H3) : gSub to ti t v σ H Q := h
theorem ixN_pos {n : Nat} {i : Int} (h0 : 0 ≤ i) (h1 : i < n) : ixN n i = some i.toNat := by unfold ixN; rw [if_pos h0, if_pos h1]
theorem map_set {α β : Type} (f : α → β) (l : List α) (i : Nat) (a : α) : (l.map f).set i (f a) = (l.set i a).map f := by
  apply List.ext_getElem
  · simp
  · intro j h1 h2
    simp only [List.getElem_map, List.getElem_set]
    split <;> rfl
theorem w_setI {H : Hp} {a : Addr} {i v : Int} {ns : List Int} {R : Hp → Prop} (h : At H a (.lst (ns.map V.int))) (h0 : 0 ≤ i) (h1 : i < ns.length) (q : ∀ H2, At H2 a (.lst ((ns.set i.toNat v).map V.int)) → Nl H H2 → (∀ H0, Ex H0 H → Fr H0 a → Ex H0 H2) → (∀ b o, b ≠ a → At H b o → At H2 b o) → R H2) : rSetL (.ref a) (.int i) (.int v) H R :=
  w_setL h (ixN_pos h0 (by rw [List.length_map]; exact h1)) fun H2 h2 => q H2 (by rw [map_set] at h2; exact h2)
/-- .. of values -/
theorem w_setV {H : Hp} {a : Addr} {i : Int} {v : V} {xs : List V} {R : Hp → Prop} (h : At H a (.lst xs)) (h0 : 0 ≤ i) (h1 : i < xs.length) (q : ∀ H2, At H2 a (.lst (xs.set i.toNat v)) → Nl H H2 → (∀ H0, Ex H0 H → Fr H0 a → Ex H0 H2) → (∀ b o, b ≠ a → At H b o → At H2 b o) → R H2) : rSetL (.ref a) (.int i) v H R :=
  w_setL h (ixN_pos h0 h1) q
/-! ### a number with itself -/
section
variable {K : PySem.W.Frag} {H : Hp} {Q : VK} {i : Int} {t : Str}
theorem w_eqIr (q : Q (.bl true) H) : rEqZ K (.int i) (.int i) H Q := w_eqZI (by rw [decide_eq_true rfl]; exact q)
theorem w_neIr (q : Q (.bl false) H) : rNeZ K (.int i) (.int i) H Q := w_neZI (by rw [decide_eq_true rfl]; exact q)
theorem w_eqSr (q : Q (.bl true) H) : rEqZ K (.str t) (.str t) H Q := w_eqZS (by rw [decide_eq_true rfl]; exact q)
theorem w_neSr (q : Q (.bl false) H) : rNeZ K (.str t) (.str t) H Q := w_neZS (by rw [decide_eq_true rfl]; exact q)
end
/-! ### isinstance, the object first -/
section
variable {K : PySem.W.Frag} {H : Hp} {Q : VK} {a C D dx : Addr} {fs : List (Str × V)} {b : Bool}
theorem w_isiOC2 (ha : At H a (.ins C dx fs)) (O : OwnC K C) (q : Q (.bl true) H) : rIsi K [.ref a, .ref C] H Q := w_isiOC O ha q
theorem w_isiOI2 (ha : At H a (.ins C dx fs)) (O : OwnC K C) (q : Q (.bl false) H) : rIsi K [.ref a, .ty "int"] H Q := w_isiOI O ha q
theorem w_isiOA2 (ha : At H a (.ins C dx fs)) (O : OwnC K C) (h : PySem.W.kitOne K (.ref C) (.ref D) = some b) (q : Q (.bl b) H) : rIsi K [.ref a, .ref D] H Q := w_isiOA O ha h q
end
/-! ### is None -/
def dIsN (Q : VK) : VK := fun x H1 => Q (.bl (decide (x = .non))) H1
def dNotN (Q : VK) : VK := fun x H1 => Q (.bl (!decide (x = .non))) H1
section
variable {σ : L2.St} {H : Hp} {Q : VK} {ta : TE} {i : Int} {t : Str} {a : Addr} {b : Bool}
theorem w_isN2 (h : ta σ H (dIsN Q)) : tIsN ta σ H Q := h
theorem w_notN2 (h : ta σ H (dNotN Q)) : tNotN ta σ H Q := h
theorem isN_n (q : Q (.bl true) H) : dIsN Q .non H := q
theorem isN_i (q : Q (.bl false) H) : dIsN Q (.int i) H := q
theorem isN_s (q : Q (.bl false) H) : dIsN Q (.str t) H := q
theorem isN_r (q : Q (.bl false) H) : dIsN Q (.ref a) H := q
theorem isN_b (q : Q (.bl false) H) : dIsN Q (.bl b) H := q
theorem notN_n (q : Q (.bl false) H) : dNotN Q .non H := q
theorem notN_i (q : Q (.bl true) H) : dNotN Q (.int i) H := q
theorem notN_s (q : Q (.bl true) H) : dNotN Q (.str t) H := q
theorem notN_r (q : Q (.bl true) H) : dNotN Q (.ref a) H := q
theorem notN_b (q : Q (.bl true) H) : dNotN Q (.bl b) H := q
end
end Z
namespace Z
open PySem L2 PySem.Spec PyProof.Rows HT
/-! ### t[::-1] of a tuple -/
theorem pick_back (xs : Array Value) : ((List.range xs.size).filterMap fun (m : Nat) => xs[(((xs.size : Int) - 1) + (m : Int) * (-1)).toNat]?).toArray = xs.toList.reverse.toArray := by
  congr 1
  have e : ∀ m, m < xs.size → xs[(((xs.size : Int) - 1) + (m : Int) * (-1)).toNat]? = xs.toList.reverse[m]? := fun m hm => by
    rw [List.getElem?_reverse (by rw [Array.length_toList]; exact hm), Array.length_toList, show (((xs.size : Int) - 1) + (m : Int) * (-1)).toNat = xs.size - 1 - m by omega]
    simp
  have e2 : (List.range xs.size).filterMap (fun (m : Nat) => xs[(((xs.size : Int) - 1) + (m : Int) * (-1)).toNat]?) = (List.range xs.size).filterMap fun m => xs.toList.reverse[m]? := by
    have gen : ∀ l : List Nat, (∀ m ∈ l, m < xs.size) → l.filterMap (fun (m : Nat) => xs[(((xs.size : Int) - 1) + (m : Int) * (-1)).toNat]?) = l.filterMap fun m => xs.toList.reverse[m]? := fun l hl => by
      induction l with
      | nil => rfl
      | cons a r ih =>
        rw [List.filterMap_cons, List.filterMap_cons, e a (hl a (by simp)), ih fun m hm => hl m (by simp [hm])]
    exact gen _ fun m hm => List.mem_range.mp hm
  rw [e2]
  have all : ∀ l : List Value, (List.range l.length).filterMap (fun m => l[m]?) = l := fun l => by
    induction l with
    | nil => rfl
    | cons a r ih =>
      rw [List.length_cons, List.range_succ_eq_map, List.filterMap_cons]
      simp only [List.getElem?_cons_zero, List.filterMap_map]
      congr 1
  have := all xs.toList.reverse
  rwa [List.length_reverse, Array.length_toList] at this
section
variable {prog : Program} {w : World} {A : Around} {E : Value → Shared → Prop} {s : Shared}
theorem tuple_back {t sl : Addr} {its : Array Value} {vl vu vs : Value} {Q : Value → Shared → Prop} (ht : IsTup s.heap t its) (hs : s.heap.IsSliceOf sl vl vu vs) (pl : IsPart vl none) (pu : IsPart vu none) (ps : IsPart vs (some (-1)))
    (h : Q (.ref s.heap.objs.size) { s with heap := s.heap.push { cls := .type "tuple", data := .seq its.toList.reverse.toArray } }) (hz : its.size ≤ sizeLine) : wpAny (model prog w) A (getItem (.ref t) (.ref sl)) Q E s := by
  obtain ⟨ob, hob, hcl, hda⟩ := id hs
  have hT : s.TypeIs (.ref sl) "slice" := ⟨ob, hob, hcl⟩
  have fits : sizeOk (.seq its.toList.reverse.toArray) := by
    show its.toList.reverse.toArray.size ≤ sizeLine
    rw [List.size_toArray, List.length_reverse, Array.length_toList]
    exact hz
  unfold getItem
  try with_reducible refine wpAny_holding ?_
  first | refine wpAny_bind (wpAny_pure ?_) | skip
  refine wpAny_bind (wpAny_sequenceKey ht.typeIs (by decide) ?_)
  refine wpAny_bind (wpAny_callSpecial?_slot (name := Str.ofString "__getitem__") ht.typeIs PyProof.Rows.slot_tuple_getitem (wpAny_call_entry PyProof.Rows.slot_tuple_getitem ht.typeIs entry_tuple_getitem ?_ (args_tuple_getitem _ _)))
  show wpAny _ _ (Builtin.Tuple.tupleItemsOf (.ref t) >>= _) _ _ s
  refine wpAny_bind (tupleItemsOf_ ht (wpAny_bind (wpAny_typeOf hT ?_)))
  rw [if_pos (by decide)]
  have ap : ∀ {Q' : Int × Int × Nat → Shared → Prop} {A' : Around} {E' : Value → Shared → Prop}, Q' ((its.size : Int) - 1, -1, its.size) s → wpAny (model prog w) A' (Builtin.Slice.sliceApplied (.ref sl) (pure (its.size : Int))) Q' E' s := by
    intro Q' A' E' q
    unfold Builtin.Slice.sliceApplied Builtin.Slice.sliceFields
    refine wpAny_bind (wpAny_bind (wpAny_field hob hda (x := vl) rfl (wpAny_bind (wpAny_field hob hda (x := vu) rfl (wpAny_bind (wpAny_field hob hda (x := vs) rfl (wpAny_pure ?_)))))))
    refine wpAny_bind (slicePart_ ps ?_)
    show wpAny _ _ (if ((-1 : Int) == 0) = true then _ else _) _ _ s
    rw [if_neg (by decide)]
    refine wpAny_bind (slicePart_ pl (wpAny_bind (slicePart_ pu (wpAny_bind (wpAny_pure ?_)))))
    show wpAny _ _ (pure ((its.size : Int) - 1, (-1 : Int), Builtin.Slice.slicePlaces ((its.size : Int) - 1) (-1) (-1))) _ _ s
    have e : Builtin.Slice.slicePlaces ((its.size : Int) - 1) (-1) (-1) = its.size := by
      unfold Builtin.Slice.slicePlaces
      rw [if_neg (by decide)]
      by_cases h0 : its.size = 0
      · rw [h0]; decide
      · rw [if_pos (by omega), show (-(-1) : Int) = 1 from rfl, Int.ediv_one]; omega
    rw [e]
    exact wpAny_pure q
  refine wpAny_bind (ap ?_)
  have hno : ¬ ((((its.size : Int) - 1) == 0 && (-1 : Int) == 1 && its.size == its.size) = true) := fun q => by
    rw [Bool.and_eq_true, Bool.and_eq_true] at q
    exact absurd q.1.2 (by decide)
  show wpAny _ _ (if (((its.size : Int) - 1) == 0 && (-1 : Int) == 1 && its.size == its.size) = true then _ else _) _ _ s
  rw [if_neg hno, pick_back]
  first
    | exact wpAny_bind (m := Builtin.Tuple.tupleExact _) (wpAny_newObj_type (wpAny_pure ⟨_, rfl, wpAny_pure h⟩) fits)
    | exact wpAny_bind (wpAny_bind (m := Builtin.Tuple.tupleExact _) (wpAny_newObj_type (wpAny_pure (wpAny_pure ⟨_, rfl, wpAny_pure h⟩)) fits))
    | exact wpAny_bind (wpAny_bind (m := Builtin.Tuple.tupleExact _) (wpAny_newObj_type (wpAny_pure ⟨_, rfl, wpAny_pure h⟩) fits))
end
section
variable {X : Cx}
def tRevT (K : PySem.W.Frag) (te : TE) : TE := fun σ H Q => te σ H fun x H1 => ∃ a xs, x = .ref a ∧ SqT K H1 a xs ∧ ∀ p, Fr H1 p → Q (.ref p) (upd H1 p (.tup xs.reverse))
theorem pe_revT {K : PySem.W.Frag} (hK : X.K = K) {e : Expr} {te : TE} {k : Nat} {p1 p2 p3 pos : Pos} (he : PE X e te) : PE X (.Subscript e (.Slice none none (some (.UnaryOp .USub (.Constant (.int 1) k p1) p2)) p3) pos) (tRevT K te) := by
  subst hK
  refine ⟨fun pins s σ G Q I h => Subscript_ (thn (he.run pins s σ G _ I h) fun v s1 ⟨x, G1, I1, r1, a, xs, ex, hx, q⟩ => ?_)⟩
  subst ex
  cases r1
  have hst : PO X (some (.UnaryOp .USub (.Constant (.int 1) k p1) p2)) (tPart (tUn (rU fun i => .int (-i)) (tC (.int 1)))) := po_some (pe_un L2.un_neg pe_int)
  refine wpAny_Slice (thn (po_none.run pins s1 σ G1 (fun o G2 => o = none ∧ G2 = G1) I1 ⟨rfl, rfl⟩) fun vl s2 ⟨l, G2, I2, pl, el, eg2⟩ => ?_)
  subst el eg2
  refine thn (po_none.run pins s2 σ G2 (fun o G3 => o = none ∧ G3 = G2) I2 ⟨rfl, rfl⟩) fun vu s3 ⟨u, G3, I3, pu, eu, eg3⟩ => ?_
  subst eu eg3
  refine thn (hst.run pins s3 σ G3 (fun o G4 => o = some (-1) ∧ G4 = G3) I3 ⟨1, rfl, -1, rfl, rfl, rfl⟩) fun vs s4 ⟨o, G4, I4, ps, eo, eg4⟩ => ?_
  subst eo eg4
  have I5 : Inv X pins σ G4 { s4 with heap := s4.heap.push { cls := .type "slice", data := .fields #[vl, vu, vs] } } := I4.kept (t' := s4.toks) fun b ob q => Heap.get?_push_of_some _ q
  obtain ⟨its, r, ht, hz⟩ := I5.tuple hx
  have hlen := r.length
  refine tail_any (ops := [.ref a, .ref s4.heap.objs.size]) ht.typeIs PyProof.Rows.slot_tuple_getitem.lookup ?_ (by with_unfolding_all rfl)
  refine tuple_back ht (Heap.IsSliceOf.new _ vl vu vs) pl pu ps ?_ (by rw [List.size_toArray]; omega)
  refine ⟨.ref _, _, I5.laid (t' := s4.toks) (o := .tup xs.reverse) (fun b ob q => Heap.get?_push_of_some _ q) (Nat.le_refl _) ?_, rfl, q _ (I5.hok.fresh (Nat.le_refl _))⟩
  exact ⟨by rw [List.length_reverse]; exact hz, _, r.reverse, IsTup.new _ _⟩
theorem revL {K : PySem.W.Frag} (hK : X.K = K) {e : Expr} {te : TE} {k : Nat} {p1 p2 p3 pos : Pos} (he : PE X e te) : PE X (.Subscript e (.Slice none none (some (.UnaryOp .USub (.Constant (.int 1) k p1) p2)) p3) pos) (tRevL K te) := hK ▸ pe_revL he
theorem catA {K : PySem.W.Frag} (hK : X.K = K) : OpR X (binaryOp .Add) (rCatA K) := hK ▸ op_catA
end
def dRevT (K : PySem.W.Frag) (Q : VK) : VK := fun x H1 => ∃ a xs, x = .ref a ∧ SqT K H1 a xs ∧ ∀ p, Fr H1 p → Q (.ref p) (upd H1 p (.tup xs.reverse))
def dRevL (K : PySem.W.Frag) (Q : VK) : VK := fun x H1 => ∃ a xs, x = .ref a ∧ SqL K H1 a xs ∧ ∀ p, H1 p = none → Q (.ref p) (upd H1 p (.lst xs.reverse))
section
variable {K : PySem.W.Frag} {σ : L2.St} {H : Hp} {Q : VK} {te : TE} {a b : Addr} {ns ms : List Int} {xs ys : List V}
theorem w_revT (h : te σ H (dRevT K Q)) : tRevT K te σ H Q := h
theorem w_revL (h : te σ H (dRevL K Q)) : tRevL K te σ H Q := h
theorem w_dRevT (h : SqT K H a (ns.map V.int)) (q : ∀ p H2, Fr H p → Ex H H2 → At H2 p (.tup (ns.reverse.map V.int)) → Q (.ref p) H2) : dRevT K Q (.ref a) H := ⟨a, _, rfl, h, fun p hp => q p _ hp (Ex.new hp) (by rw [List.map_reverse]; exact at_upd)⟩
theorem w_dRevL (h : SqL K H a (ns.map V.int)) (q : ∀ p H2, Fr H p → Ex H H2 → At H2 p (.lst (ns.reverse.map V.int)) → Q (.ref p) H2) : dRevL K Q (.ref a) H := ⟨a, _, rfl, h, fun p hp => q p _ hp (Ex.new hp) (by rw [List.map_reverse]; exact at_upd)⟩
/-- t + u of tuples of ints -/
theorem w_catI (h1 : SqT K H a (ns.map V.int)) (h2 : SqT K H b (ms.map V.int)) (hz : ns.length + ms.length ≤ 16777216) (q : ∀ p H2, Ex H H2 → SqT K H2 p ((ns ++ ms).map V.int) → Q (.ref p) H2) : rCatA K (.ref a) (.ref b) H Q := by
  refine ⟨a, b, _, _, rfl, rfl, h1, h2, by rw [List.length_map, List.length_map]; exact hz, fun e => ?_, fun _ e => ?_, fun _ _ p hp => q p _ (Ex.new hp) (st_of (by rw [List.map_append]; exact at_upd))⟩
  · have : ns = [] := by simpa using e
    subst this
    exact q b H (Ex.refl H) h2
  · have : ms = [] := by simpa using e
    subst this
    rw [List.append_nil] at q
    exact q a H (Ex.refl H) h1
/-- any slice of a tuple of ints is one, and no longer -/
theorem w_slAny {lo hi : Option Int} (h : SqT K H a (ns.map V.int)) (q : ∀ p H2 (ms : List Int), Ex H H2 → ms.Sublist ns → SqT K H2 p (ms.map V.int) → Q (.ref p) H2) : rSlA K (.ref a) lo hi H Q := by
  refine ⟨a, _, rfl, h, fun hw => q a H ns (Ex.refl H) (List.Sublist.refl _) h, fun hw p hp => ?_⟩
  refine q p _ ((ns.drop (HT.sIx (ns.map V.int).length 0 lo)).take (HT.sIx (ns.map V.int).length (ns.map V.int).length hi - HT.sIx (ns.map V.int).length 0 lo)) (Ex.new hp) ((List.take_sublist _ _).trans (List.drop_sublist _ _)) (st_of ?_)
  show upd H p _ p = _
  rw [upd_same]
  unfold cutV
  rw [List.map_take, List.map_drop]
end
/-- ways that join with the slots as they were -/
theorem w_cutS {t u : TS} {D : Ends} {σ : L2.St} {H : Hp} (H0 : Hp) (h : t ⟨fun σ' G => σ' = σ ∧ Ex H0 G, D.rt, D.bk, D.ct⟩ σ H) (k : ∀ G, Ex H0 G → u D σ G) : C8.tCut t u D σ H :=
  w_cut _ h fun σ' G ⟨e1, e2⟩ => by subst e1; exact k G e2
/-- tuples stand behind an append -/
theorem Nl.t {K : PySem.W.Frag} {H H' : Hp} {a : Addr} {xs : List V} (e : Nl H H') (h : SqT K H a xs) : SqT K H' a xs := by
  rcases h with (h | ⟨o, h⟩) | h
  · exact .inl (.inl (e.get (fun l z => by cases z) h))
  · exact .inl (.inr ⟨o, e.get (fun l z => by cases z) h⟩)
  · exact .inr h
theorem tEN {K : PySem.W.Frag} {H H' : Hp} {a : Addr} {xs : List V} (h : SqT K H a xs) (e : Nls H H') : SqT K H' a xs := e.nl.t h
/-- t[-1:] of a tuple of ints that is not empty -/
theorem w_slBack {K : PySem.W.Frag} {H : Hp} {Q : VK} {a : Addr} {ns : List Int} (h : SqT K H a (ns.map V.int)) (h0 : 0 < ns.length) (q : ∀ p H2, Ex H H2 → SqT K H2 p ((ns.drop (ns.length - 1)).map V.int) → Q (.ref p) H2) : rSlA K (.ref a) (some (-1)) none H Q := by
  have e : HT.sIx (ns.map V.int).length 0 (some (-1)) = ns.length - 1 := by
    rw [List.length_map]
    unfold HT.sIx
    simp
    omega
  refine ⟨a, _, rfl, h, fun hw => ?_, fun hw p hp => q p _ (Ex.new hp) (st_of ?_)⟩
  · have := hw.1
    rw [e] at this
    refine q a H (Ex.refl H) ?_
    rw [this, List.drop_zero]
    exact h
  · show upd H p _ p = _
    rw [upd_same]
    unfold cutV
    rw [e, HT.sIx_none, List.length_map, List.take_of_length_le (by rw [List.length_drop, List.length_map]; exact Nat.le_refl _), List.map_drop]
/-- xs.pop() of ints -/
theorem w_pop0 {H : Hp} {Q : VK} {a : Addr} {ns : List Int} (h : At H a (.lst (ns.map V.int))) (h0 : 0 < ns.length) (q : ∀ H2, At H2 a (.lst (ns.dropLast.map V.int)) → Nl H H2 → (∀ H0, Ex H0 H → Fr H0 a → Ex H0 H2) → (∀ b o, b ≠ a → At H b o → At H2 b o) → Q (.int (ns.getD (ns.length - 1) 0)) H2) : rPop (.ref a) [] H Q := by
  refine ⟨a, _, _, rfl, rfl, h, ?_, q _ ?_ (Nl.upd h) (fun H0 e n => Ex.mut e n) (fun b o hb e => by unfold At; rw [upd_ne hb]; exact e)⟩
  · rw [List.length_map, List.getElem?_map, List.getD_eq_getElem?_getD, List.getElem?_eq_getElem (by omega)]
    rfl
  · unfold At
    rw [upd_same, List.map_dropLast]
section
variable {K : PySem.W.Frag} {H : Hp} {Q : VK} {a b : Addr} {ns : List Int}
theorem w_eqLr (h1 : SqL K H a (ns.map V.int)) (h2 : SqL K H b (ns.map V.int)) (q : Q (.bl true) H) : rEqZ K (.ref a) (.ref b) H Q := w_eqLI h1 h2 (by rw [decide_eq_true rfl]; exact q)
theorem w_neLr (h1 : SqL K H a (ns.map V.int)) (h2 : SqL K H b (ns.map V.int)) (q : Q (.bl false) H) : rNeZ K (.ref a) (.ref b) H Q := w_neLI h1 h2 (by rw [decide_eq_true rfl]; exact q)
theorem w_eqTr (h1 : SqT K H a (ns.map V.int)) (h2 : SqT K H b (ns.map V.int)) (q : Q (.bl true) H) : rEqZ K (.ref a) (.ref b) H Q := w_eqTI h1 h2 (by rw [decide_eq_true rfl]; exact q)
theorem w_neTr (h1 : SqT K H a (ns.map V.int)) (h2 : SqT K H b (ns.map V.int)) (q : Q (.bl false) H) : rNeZ K (.ref a) (.ref b) H Q := w_neTI h1 h2 (by rw [decide_eq_true rfl]; exact q)
end
/-! ### slots as a written list -/
class SetsTo (σ : List (Option V)) (i : Nat) (v : Option V) (σ' : outParam (List (Option V))) : Prop where
  eq : σ.set i v = σ'
instance SetsTo.zero {x v : Option V} {r : List (Option V)} : SetsTo (x :: r) 0 v (v :: r) := ⟨rfl⟩
instance SetsTo.succ {x v : Option V} {r r' : List (Option V)} {i : Nat} [s : SetsTo r i v r'] : SetsTo (x :: r) (i + 1) v (x :: r') := ⟨by rw [← s.eq]; rfl⟩
theorem w_gnS {i : Nat} {v : V} {σ σ' : L2.St} {H : Hp} {R : L2.St → Hp → Prop} [s : SetsTo σ i (some v) σ'] (h : R σ' H) : gName i v σ H R := by
  have e := s.eq
  show R (σ.set i (some v)) H
  rw [e]
  exact h
end Z
namespace Z
open PySem L2 PySem.Spec PyProof.Rows
/-! ### for x in a list or a tuple -/
def SqA (K : PySem.W.Frag) (H : Hp) (a : Addr) (xs : List V) : Prop := SqL K H a xs ∨ SqT K H a xs
def dA (K : PySem.W.Frag) (R : It → Hp → Prop) : VK := fun x H1 => ∃ a, x = .ref a ∧ (((∃ xs, SqL K H1 a xs) ∧ R (Itl K a) H1) ∨ ((∃ xs, SqT K H1 a xs) ∧ R (Itt K a) H1))
def iAny (K : PySem.W.Frag) (tl : TE) : TI := fun σ H R => tl σ H (dA K R)
theorem piA {X : Cx} {K : PySem.W.Frag} (hK : X.K = K) {tg l : Expr} {tl : TE} (hl : PE X l tl) : PI X tg l (iAny K tl) := by
  subst hK
  constructor
  intro pins s σ H R I h
  refine thn (hl.run pins s σ H _ I h) ?_
  rintro v s1 ⟨x, H1, I1, r1, a, rfl, q1⟩
  cases r1
  have new : ∀ b ∈ [s1.heap.objs.size], FpOk X pins H1 b := fun b hb => by
    rw [List.mem_singleton.mp hb]
    exact I1.fpOk (Nat.le_refl _) (I1.hok.fresh (Nat.le_refl _))
  rcases q1 with ⟨⟨xs, hq⟩, q⟩ | ⟨⟨xs, hq⟩, q⟩
  · obtain ⟨its, rv, p, hz⟩ := I1.list hq
    exact wpAny_pyIter_list p.isList ⟨_, [s1.heap.objs.size], _, _, H1, rfl, I1.kept (t' := s1.toks) fun b o e => Heap.get?_push_of_some _ e, turn_list a _, ⟨_, Heap.get?_push_size _ rfl, rfl, rfl⟩, new, q⟩
  · obtain ⟨its, rv, p, hz⟩ := I1.tuple hq
    exact wpAny_pyIter_tuple (show s1.heap.IsTuple a its.toArray from p) ⟨_, [s1.heap.objs.size], _, _, H1, rfl, I1.kept (t' := s1.toks) fun b o e => Heap.get?_push_of_some _ e, turn_tuple a _, ⟨_, Heap.get?_push_size _ rfl, rfl, rfl⟩, new, q⟩
section
variable {K : PySem.W.Frag} {σ : L2.St} {H H' : Hp} {Q : VK} {te : TE} {a : Addr} {xs : List V} {R : It → Hp → Prop}
theorem w_iA (h : te σ H (dA K R)) : iAny K te σ H R := h
theorem Ex.sa (e : Ex H H') (h : SqA K H a xs) : SqA K H' a xs := h.imp e.l e.t
theorem aE (h : SqA K H a xs) (e : Exs H H') : SqA K H' a xs := e.ex.sa h
theorem i_A (h : SqA K H a xs) (k : ∀ J, Src J (fun H' => SqA K H' a xs ∧ (SqL K H a xs → SqL K H' a xs) ∧ (SqT K H a xs → SqT K H' a xs)) xs.length (fun i x _ => xs[i]? = some x) → R J H) : dA K R (.ref a) H := by
  refine ⟨a, rfl, ?_⟩
  rcases h with h | h
  · refine .inl ⟨⟨xs, h⟩, k _ ⟨fun i H' hp hi => ⟨xs, xs[i], hp.2.1 h, List.getElem?_eq_getElem hi⟩, fun H' hp => ⟨xs, hp.2.1 h, Nat.le_refl _⟩, fun i H' x H'' hp hi hy => ?_⟩⟩
    obtain ⟨e, f⟩ := hy
    exact ⟨by rw [e]; exact Ex.refl _, f xs (hp.2.1 h)⟩
  · refine .inr ⟨⟨xs, h⟩, k _ ⟨fun i H' hp hi => ⟨xs, xs[i], hp.2.2 h, List.getElem?_eq_getElem hi⟩, fun H' hp => ⟨xs, hp.2.2 h, Nat.le_refl _⟩, fun i H' x H'' hp hi hy => ?_⟩⟩
    obtain ⟨e, f⟩ := hy
    exact ⟨by rw [e]; exact Ex.refl _, f xs (hp.2.2 h)⟩
theorem aOk (h : SqA K H a xs) (e : Ex H H') : SqA K H' a xs ∧ (SqL K H a xs → SqL K H' a xs) ∧ (SqT K H a xs → SqT K H' a xs) := ⟨e.sa h, e.l, e.t⟩
end
end Z
namespace Z
open PySem L2 PySem.Spec PyProof.Rows
/-! ### == of lists and tuples of flat values -/
def flD : V → Option PyData
  | .non => some .none
  | .bl b => some (.bool b)
  | .int i => some (.int i)
  | .str x => some (.str x)
  | _ => none
def okV : V → Bool
  | .str x => PyData.strOk x
  | _ => true
def okVs : List V → Bool
  | [] => true
  | v :: r => okV v && okVs r
def fls : List V → Option (List PyData)
  | [] => some []
  | v :: r => match flD v, fls r with
    | some d, some ds => some (d :: ds)
    | _, _ => none
theorem fls_cons {v : V} {r : List V} {es : List PyData} (h : fls (v :: r) = some es) : ∃ d ds, flD v = some d ∧ fls r = some ds ∧ es = d :: ds := by
  unfold fls at h
  split at h
  · rename_i d ds h1 h2
    exact ⟨d, ds, h1, h2, (Option.some.inj h).symm⟩
  · cases h
theorem flD_dp {K : PySem.W.Frag} {H : Hp} {v : V} {d : PyData} (h : flD v = some d) : Dp K H v d := by
  cases v <;> simp only [flD, reduceCtorEq, Option.some.injEq] at h <;> subst h <;> constructor
theorem fls_dp {K : PySem.W.Frag} {H : Hp} : ∀ {xs : List V} {ds : List PyData}, fls xs = some ds → DpAll K H xs ds
  | [], ds, h => by cases h; exact .nil
  | v :: r, es, h => by
    obtain ⟨d, ds, h1, h2, rfl⟩ := fls_cons h
    exact .cons (flD_dp h1) (fls_dp h2)
theorem flD_can {v : V} {d : PyData} (h : flD v = some d) (o : okV v = true) : d.canLay0 = true ∧ d.depth = 0 ∧ PyData.eqv d d = true := by
  cases v <;> simp only [flD, reduceCtorEq, Option.some.injEq] at h <;> subst h <;> first | (simp [PyData.canLay0, PyData.depth, PyData.eqv]; done) | (simp only [okV] at o; simp [PyData.canLay0, PyData.depth, PyData.eqv, o])
theorem fls_can : ∀ {xs : List V} {ds : List PyData}, fls xs = some ds → okVs xs = true → PyData.canLayAll0 ds = true ∧ PyData.depthAll ds = 0 ∧ PyData.eqvAll ds ds = true
  | [], ds, h, _ => by cases h; simp [PyData.canLayAll0, PyData.depthAll, PyData.eqvAll]
  | v :: r, es, h, o => by
    obtain ⟨d, ds, h1, h2, rfl⟩ := fls_cons h
    obtain ⟨o1, o2⟩ := Bool.and_eq_true_iff.mp (show (okV v && okVs r) = true from o)
    obtain ⟨a1, a2, a3⟩ := flD_can h1 o1
    obtain ⟨b1, b2, b3⟩ := fls_can h2 o2
    simp [PyData.canLayAll0, PyData.depthAll, PyData.eqvAll, a1, a2, a3, b1, b2, b3]
theorem fls_shL {xs : List V} {ds : List PyData} (h : fls xs = some ds) (o : okVs xs = true) : SeqAt.shaped (.list ds) = true := by
  obtain ⟨b1, b2, b3⟩ := fls_can h o
  simp [SeqAt.shaped, PyData.canLay0, PyData.depth, b1, b2]
theorem fls_shT {xs : List V} {ds : List PyData} (h : fls xs = some ds) (o : okVs xs = true) : SeqAt.shaped (.tuple ds) = true := by
  obtain ⟨b1, b2, b3⟩ := fls_can h o
  simp [SeqAt.shaped, PyData.canLay0, PyData.depth, b1, b2]
section
variable {K : PySem.W.Frag} {H : Hp} {Q : VK} {a b : Addr} {xs ys : List V} {ds es : List PyData}
theorem w_eqLF (h1 : SqL K H a xs) (h2 : SqL K H b ys) (e1 : fls xs = some ds) (e2 : fls ys = some es) (o1 : okVs xs = true) (o2 : okVs ys = true) (q : Q (.bl (PyData.eqvAll ds es)) H) : rEqZ K (.ref a) (.ref b) H Q := .inr ⟨_, _, .lst h1 (fls_dp e1), .lst h2 (fls_dp e2), fls_shL e1 o1, fls_shL e2 o2, by unfold PyData.eqv; exact q⟩
theorem w_neLF (h1 : SqL K H a xs) (h2 : SqL K H b ys) (e1 : fls xs = some ds) (e2 : fls ys = some es) (o1 : okVs xs = true) (o2 : okVs ys = true) (q : Q (.bl (!PyData.eqvAll ds es)) H) : rNeZ K (.ref a) (.ref b) H Q := .inr ⟨_, _, .lst h1 (fls_dp e1), .lst h2 (fls_dp e2), fls_shL e1 o1, fls_shL e2 o2, by unfold PyData.eqv; exact q⟩
theorem w_eqTF (h1 : SqT K H a xs) (h2 : SqT K H b ys) (e1 : fls xs = some ds) (e2 : fls ys = some es) (o1 : okVs xs = true) (o2 : okVs ys = true) (q : Q (.bl (PyData.eqvAll ds es)) H) : rEqZ K (.ref a) (.ref b) H Q := .inr ⟨_, _, .tup h1 (fls_dp e1), .tup h2 (fls_dp e2), fls_shT e1 o1, fls_shT e2 o2, by unfold PyData.eqv; exact q⟩
theorem w_neTF (h1 : SqT K H a xs) (h2 : SqT K H b ys) (e1 : fls xs = some ds) (e2 : fls ys = some es) (o1 : okVs xs = true) (o2 : okVs ys = true) (q : Q (.bl (!PyData.eqvAll ds es)) H) : rNeZ K (.ref a) (.ref b) H Q := .inr ⟨_, _, .tup h1 (fls_dp e1), .tup h2 (fls_dp e2), fls_shT e1 o1, fls_shT e2 o2, by unfold PyData.eqv; exact q⟩
theorem w_eqLFr (h1 : SqL K H a xs) (h2 : SqL K H b xs) (e1 : fls xs = some ds) (o1 : okVs xs = true) (q : Q (.bl true) H) : rEqZ K (.ref a) (.ref b) H Q := w_eqLF h1 h2 e1 e1 o1 o1 (by rw [(fls_can e1 o1).2.2]; exact q)
theorem w_neLFr (h1 : SqL K H a xs) (h2 : SqL K H b xs) (e1 : fls xs = some ds) (o1 : okVs xs = true) (q : Q (.bl false) H) : rNeZ K (.ref a) (.ref b) H Q := w_neLF h1 h2 e1 e1 o1 o1 (by rw [(fls_can e1 o1).2.2]; exact q)
theorem w_eqTFr (h1 : SqT K H a xs) (h2 : SqT K H b xs) (e1 : fls xs = some ds) (o1 : okVs xs = true) (q : Q (.bl true) H) : rEqZ K (.ref a) (.ref b) H Q := w_eqTF h1 h2 e1 e1 o1 o1 (by rw [(fls_can e1 o1).2.2]; exact q)
theorem w_neTFr (h1 : SqT K H a xs) (h2 : SqT K H b xs) (e1 : fls xs = some ds) (o1 : okVs xs = true) (q : Q (.bl false) H) : rNeZ K (.ref a) (.ref b) H Q := w_neTF h1 h2 e1 e1 o1 o1 (by rw [(fls_can e1 o1).2.2]; exact q)
end
example (i : Int) : okVs [.str "prices", .int i, .non] = true := by kernel_rfl
end Z
namespace Z
open PySem L2 PySem.Spec PyProof.Rows
/-! ### C(e, .., k = v, ..): keyword-only parameters without defaults -/
theorem kb_of {K : PySem.W.Frag} {x qual : Str} {params : Arguments} {body : List Stmt} {scope : Scope} {kws : List (Str × V)} {f : Addr} {fd : FuncData} {ps ks : List Str} {n : Nat} (F : FunD K x qual params body scope [] kws f fd)
    (h : ∀ (kV doc pm : Value) (an : Option Addr) (cdv ct : Value) (us ws : List Value), us.length = n → ws.length = ks.length → bindArgs (PySem.W.fnOf x qual params body scope .none kV doc pm an cdv ct) ⟨us, ks.zip ws⟩ = pure (ps.zip (us ++ ws))) : KBn K fd ps n ks (fun us ws => us ++ ws) (fun vs zs => vs ++ zs) := by
  obtain ⟨oc, od, dV, kV, doc, pm, an, cdv, ct, osl, rfl, lk, hcd, hD, hK⟩ := F.ex
  rcases hD with ⟨_, rfl⟩ | ⟨e, _⟩
  · exact ⟨fun s us ws _ l1 l2 => .of_eq (h kV doc pm an cdv ct us ws l1 l2), fun r1 r2 => r1.append r2⟩
  · exact absurd rfl e
section
variable {X : Cx} {CX : CXT} {k n : Nat} {f C : Addr} {fd : FuncData} {ps ks : List Str} {sp : Sp} {E : L2.St → XK} {x : Str} {p pos : Pos} {e : Expr} {es : List Expr} {kws : List Keyword} {t tk : TA} {g : List Value → List Value → List Value} {gV : List V → List V → List V}
theorem run_makeKZ {pins : List (Addr × Obj)} {σ : L2.St} {G : Hp} {s : Shared} {Q : VK} {us ws : List Value} {vs zs : List V} (M : Mk X.K C f) (F : FnOk X.prog X.w X.K X.mg X.base CX k f fd ps sp) (hr : Room (k + 1) X.A) (hb : KBn X.K fd ps (n + 1) ks g gV) (hx : PassesAt CX X σ (E σ)) (I : Inv X pins σ G s) (r : Vals vs us) (rz : Vals zs ws) (l1 : vs.length = n) (l2 : zs.length = ks.length)
    (h : ∀ x dx, G x = none → G dx = none → dx ≠ x → sp (gV (.ref x :: vs) zs) (upd (upd G dx (.own x)) x (.ins C dx [])) (fun v H2 => v = .non ∧ Q (.ref x) H2) (E σ)) : wpAny (model X.prog X.w) X.A (call (.ref C) us (ks.zip ws)) (EP X pins σ Q) X.xe s := by
  have J := Inv.made (C := C) I
  have w2 := hb.rel (show Vals (V.ref (s.heap.objs.size + 1) :: vs) (Value.ref (s.heap.objs.size + 1) :: us) from .cons rfl r) rz
  have n1 : (Value.ref (s.heap.objs.size + 1) :: us).length = n + 1 := by rw [List.length_cons, ← r.length, l1]
  have hq := h (s.heap.objs.size + 1) s.heap.objs.size (I.hok.fresh (Nat.le_succ _)) (I.hok.fresh (Nat.le_refl _)) (Nat.ne_of_lt (Nat.lt_succ_self _))
  have hB := hb.to _ (Value.ref (s.heap.objs.size + 1) :: us) ws J.kIn n1 (rz.length.symm.trans l2)
  refine wpAny_call (make_map (f := f) I.kIn M.makes M.init (beq_iff_eq.mp M.fn) (codeAny_mono (F.run _ X.stack _ _ _ _ _ _ (E σ) (hr.make C us (ks.zip ws)) (J.env0.make C us (ks.zip ws)) hB w2 hq) fun r s' z => ?_))
  match r, z with
  | .error e, z => exact hx pins _ _ e s' J z
  | .ok (.ret u), z =>
    obtain ⟨v, H', I3, rv, ev, q3⟩ := J.after z
    subst ev
    exact ⟨rv, V.ref (s.heap.objs.size + 1), H', I3, rfl, q3⟩
  | .ok .next, z => exact z.elim
  | .ok .brk, z => exact z.elim
  | .ok .cont, z => exact z.elim
def tMakeKZ (C : Addr) (n m : Nat) (sp : Sp) (gV : List V → List V → List V) (E : L2.St → XK) (t tk : TA) : TE := fun σ H Q => tMakeK C n m sp gV (E σ) t tk σ H Q
theorem pe_makeKZ (M : Mk X.K C f) (F : FnOk X.prog X.w X.K X.mg X.base CX k f fd ps sp) (hr : Room (k + 1) X.A) (hg : Gl X x) (hm : X.mg x = some (.ref C)) (hb : KBn X.K fd ps (n + 1) ks g gV) (hx : ∀ σ, PassesAt CX X σ (E σ)) (ha : PA X (e :: es) t) (hkw : PK X kws tk)
    (hall : (backToKw pos (keywordEach kws X.env)).all (·.1.isSome) = true := by rfl) (hks : (backToKw pos (keywordEach kws X.env)).filterMap (·.1) = ks := by rfl) (hdb : (x == ("__debug__" : Str)) = false := by decide)
    (he : starEach (e :: es) X.env = (false, eval e X.env) :: starEach es X.env := by rfl) (hpl : ((backTo pos (starEach (e :: es) X.env)).any (·.1) || (backToKw pos (keywordEach kws X.env)).any (·.1.isNone)) = false := by rfl) :
    PE X (.Call (.Name x p) (e :: es) kws pos) (tMakeKZ C n ks.length sp gV E t tk) := by
  constructor
  intro pins s σ G Q I h
  have go : ∀ us s1, (∃ vs H1, Inv X pins σ H1 s1 ∧ Vals vs us ∧ tk σ H1 fun zs H2 => vs.length = n ∧ zs.length = ks.length ∧ ∀ x dx, H2 x = none → H2 dx = none → dx ≠ x → sp (gV (.ref x :: vs) zs) (upd (upd H2 dx (.own x)) x (.ins C dx [])) (fun v H3 => v = .non ∧ Q (.ref x) H3) (E σ)) →
      wpAny (model X.prog X.w) X.A (evalAll ((backToKw pos (keywordEach kws X.env)).map (·.2))) (fun ws s2 => X.K.In s2.heap ∧ wpAny (model X.prog X.w) X.A (call (.ref C) us (((backToKw pos (keywordEach kws X.env)).filterMap (·.1)).zip ws)) (EP X pins σ Q) X.xe s2) X.xe s1 := by
    rintro us s1 ⟨vs, H1, I1, r, q⟩
    refine thn (hkw.run pos pins s1 σ H1 _ I1 q) ?_
    rintro ws s2 ⟨zs, H2, I2, rz, l1, l2, q2⟩
    refine ⟨I2.kIn, ?_⟩
    rw [hks]
    exact run_makeKZ M F hr hb (hx σ) I2 r rz l1 l2 q2
  exact wpAny_Call_Name_kw (ld_glob I hg hm (PySem.W.callWith_KW (h₀ := X.base) I.ok.mod.kin M.kp hall (thn (ha.run pos pins s σ G _ I h) go) hpl he) hdb)
end
section
variable {K : PySem.W.Frag} {σ : L2.St} {H : Hp} {Q : VK} {C : Addr} {n m : Nat} {sp : Sp} {t tk : TA} {i : Int} {z : Str} {b : Bool}
theorem w_makeK {E : XK} (h : t σ H fun vs H1 => tk σ H1 fun zs H2 => vs.length = n ∧ zs.length = m ∧ dMk C sp [] E Q (vs ++ zs) H2) : tMakeK C n m sp (fun vs zs => vs ++ zs) E t tk σ H Q := by
  show t σ H fun vs H1 => tk σ H1 fun zs H2 => vs.length = n ∧ zs.length = m ∧ ∀ x dx, H2 x = none → H2 dx = none → dx ≠ x → sp ((.ref x :: vs) ++ zs) (upd (upd H2 dx (.own x)) x (.ins C dx [])) (fun v H3 => v = .non ∧ Q (.ref x) H3) E
  simp only [dMk, List.append_nil] at h
  exact h
theorem w_makeKZ {E : L2.St → XK} (h : t σ H fun vs H1 => tk σ H1 fun zs H2 => vs.length = n ∧ zs.length = m ∧ dMk C sp [] (E σ) Q (vs ++ zs) H2) : tMakeKZ C n m sp (fun vs zs => vs ++ zs) E t tk σ H Q := w_makeK h
theorem w_two {A B R : Prop} (h1 : A) (h2 : B) (h : R) : A ∧ B ∧ R := ⟨h1, h2, h⟩
theorem w_isiIS (q : Q (.bl false) H) : rIsi K [.int i, .ty "str"] H Q := w_isiB (.base (.int _)) (by decide +kernel) q
theorem w_isiSI (q : Q (.bl false) H) : rIsi K [.str z, .ty "int"] H Q := w_isiB (.base (.str _)) (by decide +kernel) q
end
end Z
namespace Z
open PySem L2 PySem.Spec PyProof.Rows
open AutoSeq1 (wpAny_loadPart')
/-! ### enumerate of a tuple -/
theorem meets_enumT (t : Addr) (its : Array Value) (n : Nat) (dct : Option Addr) (sl : Array (Option Value)) :
    Meets (Builtin.«enumerate.__new__» ⟨[.type "enumerate", .ref t], []⟩) (fun _ R s => s.heap.get? t = some { cls := .type "tuple", dict := dct, data := .seq its n, slots := sl } ∧
      R (.ok (.ret (.ref (s.heap.push { cls := .type "tuple_iterator", data := .fields #[.ref t, .int 0 0] }).objs.size)))
        { s with heap := (s.heap.push { cls := .type "tuple_iterator", data := .fields #[.ref t, .int 0 0] }).push { cls := .type "enumerate", data := .fields #[.none, .bool false, .ref s.heap.objs.size, rawInt 0, .none, .none] } }) :=
  .of_wp fun prog w A R s h => by
    obtain ⟨hp, g, d, tk, os⟩ := s
    obtain ⟨ht, h⟩ := h
    have hsub := sub_enumerate
    have hT : Heap.IsTuple (Shared.heap ⟨hp, g, d, tk, os⟩) t its := ⟨_, ht, rfl, n, rfl⟩
    wp_walk using wpAny_loadPart' ht
    refine wpAny_stack_any fun st => wpAny_pure ?_
    split
    · rename_i c _ _ _ _ _
      cases (c == Value.type "enumerate") <;> (wp_walk using wpAny_loadPart' ht, wpAny_pyIter_tuple hT; exact ⟨_, rfl, h⟩)
    · wp_walk using wpAny_loadPart' ht, wpAny_pyIter_tuple hT
      exact ⟨_, rfl, h⟩
theorem call_enumT {prog : Program} {w : World} {A : Around} {E : Value → Shared → Prop} {s : Shared} {t : Addr} {its : Array Value} {Q : Value → Shared → Prop} (hT : s.heap.IsTuple t its)
    (h : ∀ h', IsEnum h' (s.heap.objs.size + 1) s.heap.objs.size 0 .none → h'.IsTupleIter s.heap.objs.size t 0 → (∀ b o, s.heap.get? b = some o → h'.get? b = some o) → Q (.ref (s.heap.objs.size + 1)) { s with heap := h' }) :
    wpAny (model prog w) A (call (.type "enumerate") [.ref t]) Q E s := by
  obtain ⟨⟨c, dct, dt, sl⟩, hl, hc, n, hd⟩ := hT
  cases (show c = .type "tuple" from hc)
  cases (show dt = .seq its n from hd)
  refine callType_new F.called_enumerate (by decide) (F.typeCall_enumerate_1 _) (F.newCall_enumerate_1 _) (fun obj => F.args_object_init_2 obj _) F.entry_enumerate_new (meets_enumT t its n dct sl) ⟨hl, ?_⟩
  have hz : (s.heap.push { cls := .type "tuple_iterator", data := .fields #[.ref t, .int 0 0] }).objs.size = s.heap.objs.size + 1 := Heap.size_push ..
  have he : IsEnum ((s.heap.push { cls := .type "tuple_iterator", data := .fields #[.ref t, .int 0 0] }).push { cls := .type "enumerate", data := .fields #[.none, .bool false, .ref s.heap.objs.size, rawInt 0, .none, .none] }) (s.heap.objs.size + 1) s.heap.objs.size 0 .none := by
    rw [← hz]
    exact Heap.get?_push_size _ rfl
  show _ ∧ _
  rw [hz]
  exact ⟨⟨_, he, rfl⟩, h _ he ⟨_, Heap.get?_push_of_some _ (Heap.get?_push_size _ rfl), rfl, rfl⟩ fun b o x => Heap.get?_push_of_some _ (Heap.get?_push_of_some _ x)⟩
theorem enum_endT {prog : Program} {w : World} {A : Around} {E : Value → Shared → Prop} {s : Shared} {e it t : Addr} {j : Nat} {k : Int} {old : Value} {its : Array Value} {Q : Option Value → Shared → Prop} (hh : A.handled = none) (he : IsEnum s.heap e it k old) (hit : s.heap.IsTupleIter it t j) (ht : s.heap.IsTuple t its) (hx : its[j]? = none)
    (hQ : ∀ h', Heap.ExtBut it s.heap h' → Q none { s with heap := h' }) : wpAny (model prog w) A (pyNext (.ref e)) Q E s := by
  have ty : s.TypeIs (.ref e) "enumerate" := ⟨_, he, rfl⟩
  have body : ∀ {A' : Around} {R : PySem.Fin → Shared → Prop} {E' : Value → Shared → Prop}, A'.handled = none → (∀ h' x, Heap.ExtBut it s.heap h' → (∃ o, h'.get? x = some o ∧ o.cls = .type "StopIteration") → E' (.ref x) { s with heap := h' }) → wpAny (model prog w) A' (Builtin.«enumerate.__next__» ⟨[.ref e], []⟩) R E' s := fun {A' R E'} h0 hE => by
    show wpAny _ _ (field (.ref e) 2 >>= _) _ _ _
    exact wpAny_bind (wpAny_field he rfl (x := .ref it) rfl (wpAny_bind (wpAny_nextOf_tuple_end h0 hit ht hx hE)))
  unfold pyNext
  refine wpAny_bind (wpAny_attempt (wpAny_callSpecial?_slot (name := Str.ofString "__next__") ty F.slot_enumerate_next (wpAny_call_entry F.slot_enumerate_next ty F.entry_enumerate_next (body (by exact hh) ?_) (F.args_enumerate_next_1 _))))
  rintro h' x eb ⟨o, ho, hc⟩
  exact wpAny_bind (wpAny_isInstance (T := "StopIteration") (b := true) ⟨o, ho, hc⟩ isSubtype_stop (wpAny_pure (hQ _ eb)))
/-- the tuple at a, each item in a new pair -/
def IteT (K : PySem.W.Frag) (a : Addr) : It :=
  ⟨fun i H => ∃ (xs : List V) (x : V), SqT K H a xs ∧ xs[i]? = some x, fun i H v H' => ∃ T x, v = .ref T ∧ H T = none ∧ H' = upd H T (.tup [.int (i : Nat), x]) ∧ ∀ xs, SqT K H a xs → xs[i]? = some x, fun i H => ∃ xs : List V, SqT K H a xs ∧ xs.length ≤ i⟩
theorem turn_enumT {P : Program} {w : World} {K : PySem.W.Frag} {elts : List Expr} {kk : Nat} {tpos : Pos} (a e it : Addr) :
    Turn P w K (.Tuple elts kk tpos) (IteT K a) [e, it] e (fun i h => (∃ old, IsEnum h e it ((i : Nat) : Int) old) ∧ h.IsTupleIter it a i ∧ e ≠ it ∧ a ≠ it ∧ a ≠ e) where
  mem := List.mem_cons_self
  obj := by
    rintro i h ⟨⟨old, he⟩, ⟨o, ho, hc, hd⟩, _⟩ b hb
    rcases List.mem_cons.mp hb with rfl | hb
    · exact ⟨_, he, fun v q => nomatch q⟩
    · rw [List.mem_singleton.mp hb]
      exact ⟨o, ho, fun v q => by rw [hd] at q; cases q⟩
  keep := by
    rintro i h h' ⟨⟨old, he⟩, hi, hne⟩ k
    exact ⟨⟨old, k e List.mem_cons_self _ he⟩, hi.at fun o q => k it (by simp) o q, hne⟩
  item := by
    intro X hP hw hK hc i pins s σ H E I hf st hg
    subst hP hw hK
    obtain ⟨⟨old, he⟩, hit, hne, hai, hae⟩ := st
    obtain ⟨xs, x, hq, hx⟩ := hg
    obtain ⟨its, rv, p, hz⟩ := I.tuple hq
    obtain ⟨u, hu, ru⟩ := rv.get hx
    have hlt : i < its.toArray.size := by
      have := (List.getElem?_eq_some_iff.mp hu).1
      simpa using this
    have hel : e < s.heap.objs.size := Heap.lt_size he
    have hil : it < s.heap.objs.size := by obtain ⟨_, q, _⟩ := hit; exact Heap.lt_size q
    refine wpAny_pyNext_enum_itemD (Draws.tuple (A := X.A.in1) (I.ok.hd hc) it a hai its.toArray) he ⟨hit, p⟩ hlt hne (fun z => ?_) fun y h' tk hy ho hit' hT hsz hk => ?_
    · rcases List.mem_cons.mp z with z | z
      · exact hne z
      · exact hae (List.mem_singleton.mp z).symm
    have ey : y = u := by
      have h1 : its.toArray[i]? = some y := hy
      rw [List.getElem?_toArray, hu] at h1
      exact (Option.some.inj h1).symm
    subst ey
    refine ⟨_, rfl, wpAny_letOwnedTupleGo_enum (s := { s with heap := h', toks := tk + 1 }) ho fun h'' he' sb => ?_⟩
    have hT2 : h''.get? s.heap.objs.size = some { cls := .type "tuple", data := .seq #[.int i tk, y] } := (sb.2 _ (Nat.ne_of_gt hel)).trans hT
    have new : ObjOk X.prog X.w (upd H s.heap.objs.size (.tup [.int (i : Nat), x])) h'' s.heap.objs.size (.tup [.int (i : Nat), x]) := by
      refine ⟨?_, [.int i tk, y], .cons ⟨_, rfl⟩ (.cons ru .nil), ⟨_, hT2, rfl, _, rfl⟩⟩
      show 2 ≤ sizeLine
      decide
    have I1 : Inv X pins σ (upd H s.heap.objs.size (.tup [.int (i : Nat), x])) { s with heap := h'', toks := tk + 1 } :=
      I.turnedNew (ch := [e, it]) (fun b ob hb q => (sb.2 b (fun z => hb (by simp [z]))).trans (hk b ob (fun z => hb (by simp [z])) (fun z => hb (by simp [z])) q)) hf (Nat.le_refl _) new
    refine ⟨.ref s.heap.objs.size, _, I1, rfl, ⟨_, x, rfl, I.hok.fresh (Nat.le_refl _), rfl, fun ys hy => by rw [I.tuple_inj hy hq]; exact hx⟩, ⟨⟨y, ?_⟩, hit'.1.at fun o q => (sb.2 it (Ne.symm hne)).trans q, hne, hai, hae⟩, fun b hb => ?_⟩
    · rw [show ((i + 1 : Nat) : Int) = (i : Int) + 1 by omega]
      exact he'
    · have hb' : b < s.heap.objs.size := by
        rcases List.mem_cons.mp hb with z | z
        · rw [z]; exact hel
        · rw [List.mem_singleton.mp z]; exact hil
      rw [upd_ne (Nat.ne_of_lt hb')]
      exact (hf b hb).1
  done := by
    intro X hP hw hK hc i pins s σ H E I hf st hg
    subst hP hw hK
    obtain ⟨⟨old, he⟩, hit, hne, hai, hae⟩ := st
    obtain ⟨xs, hq, hx⟩ := hg
    obtain ⟨its, rv, p, hz⟩ := I.tuple hq
    obtain ⟨f0, f1, f2, f3, f4, f5⟩ := hf it (by simp)
    have hl := rv.length
    refine enum_endT (I.ok.hd hc) he hit p (by simp; omega) fun h' eb => ⟨rfl, I.turned (t' := s.toks) (fun b o hb q => eb b o hb q) f0 f1 f3 f4 f5⟩
  self := by
    rintro A i s Q E ⟨⟨_, he⟩, _⟩ h
    exact wpAny_pyIter_enum he h
/-- enumerate of a list or a tuple -/
def dEA (K : PySem.W.Frag) (R : It → Hp → Prop) : List V → Hp → Prop := fun vs H1 => ∃ a xs, vs = [.ref a] ∧ ((SqL K H1 a xs ∧ R (Ite K a) H1) ∨ (SqT K H1 a xs ∧ R (IteT K a) H1))
def iEnA (K : PySem.W.Frag) (ta : TA) : TI := fun σ H R => ta σ H (dEA K R)
theorem pi_enumA {X : Cx} {K : PySem.W.Frag} (hK : X.K = K) {e : Expr} {ta : TA} {p pos tpos : Pos} {elts : List Expr} {kk : Nat} (hg : Gl X "enumerate") (hm : X.mg "enumerate" = none) (ha : PA X [e] ta) (hs : starEach [e] X.env = [(false, eval e X.env)] := by rfl) :
    PI X (.Tuple elts kk tpos) (.Call (.Name "enumerate" p) [e] [] pos) (iEnA K ta) := by
  subst hK
  constructor
  intro pins s σ H R I h
  have go : ∀ us s1, (∃ vs H1, Inv X pins σ H1 s1 ∧ Vals vs us ∧ dEA X.K R vs H1) → wpAny (model X.prog X.w) X.A (call (.type "enumerate") us) (fun v s2 => wpAny (model X.prog X.w) X.A (pyIter v) (PIE X pins σ (.Tuple elts kk tpos) R) X.xe s2) X.xe s1 := by
    rintro us s1 ⟨vs, H1, I1, r1, a, xs, rfl, q⟩
    cases r1 with
    | cons r rr =>
      cases rr
      cases r
      have new : ∀ b ∈ [s1.heap.objs.size + 1, s1.heap.objs.size], FpOk X pins H1 b := fun b hb => by
        have hle : s1.heap.objs.size ≤ b := by
          rcases List.mem_cons.mp hb with z | z
          · omega
          · rw [List.mem_singleton.mp z]; exact Nat.le_refl _
        exact I1.fpOk hle (I1.hok.fresh hle)
      rcases q with ⟨hq, q⟩ | ⟨hq, q⟩
      · obtain ⟨its, rv, p', hz⟩ := I1.list hq
        exact call_enumerate_list p'.isList fun h' he hit hsz hk => wpAny_pyIter_enum he ⟨s1.heap.objs.size + 1, _, _, _, H1, rfl, I1.kept (t' := s1.toks) hk, turn_enum a (s1.heap.objs.size + 1) s1.heap.objs.size, ⟨⟨.none, he⟩, hit, Nat.succ_ne_self _⟩, new, q⟩
      · obtain ⟨its, rv, p', hz⟩ := I1.tuple hq
        have hlt : a < s1.heap.objs.size := by obtain ⟨o, ho, _⟩ := (show s1.heap.IsTuple a its.toArray from p'); exact Heap.lt_size ho
        exact call_enumT (show s1.heap.IsTuple a its.toArray from p') fun h' he hit hk => wpAny_pyIter_enum he ⟨s1.heap.objs.size + 1, _, _, _, H1, rfl, I1.kept (t' := s1.toks) hk, turn_enumT a (s1.heap.objs.size + 1) s1.heap.objs.size, ⟨⟨.none, he⟩, hit, Nat.succ_ne_self _, Nat.ne_of_lt hlt, Nat.ne_of_lt (Nat.lt_succ_of_lt hlt)⟩, new, q⟩
  exact Call_ (ld_blt I hg hm boot_enumerate (PyProof.Rows.callWith_type1 (thn (ha.run pos pins s σ H _ I h) go) hs rfl))
section
variable {K : PySem.W.Frag} {σ : L2.St} {H H' : Hp} {a : Addr} {xs : List V} {R : It → Hp → Prop} {ta : TA}
theorem w_iEA (h : ta σ H (dEA K R)) : iEnA K ta σ H R := h
theorem i_EA (h : SqA K H a xs) (k : ∀ J, Src J (fun H' => SqA K H' a xs ∧ (SqL K H a xs → SqL K H' a xs) ∧ (SqT K H a xs → SqT K H' a xs)) xs.length (fun i x H'' => ∃ T y, x = .ref T ∧ At H'' T (.tup [.int (i : Nat), y]) ∧ xs[i]? = some y) → R J H) : dEA K R [.ref a] H := by
  refine ⟨a, xs, rfl, ?_⟩
  rcases h with h | h
  · refine .inl ⟨h, k _ ⟨fun i H' hp hi => ⟨xs, xs[i], hp.2.1 h, List.getElem?_eq_getElem hi⟩, fun H' hp => ⟨xs, hp.2.1 h, Nat.le_refl _⟩, fun i H' x H'' hp hi hy => ?_⟩⟩
    obtain ⟨T, y, e1, e2, e3, f⟩ := hy
    exact ⟨by rw [e3]; exact Ex.new e2, T, y, e1, by rw [e3]; exact upd_same, f xs (hp.2.1 h)⟩
  · refine .inr ⟨h, k _ ⟨fun i H' hp hi => ⟨xs, xs[i], hp.2.2 h, List.getElem?_eq_getElem hi⟩, fun H' hp => ⟨xs, hp.2.2 h, Nat.le_refl _⟩, fun i H' x H'' hp hi hy => ?_⟩⟩
    obtain ⟨T, y, e1, e2, e3, f⟩ := hy
    exact ⟨by rw [e3]; exact Ex.new e2, T, y, e1, by rw [e3]; exact upd_same, f xs (hp.2.2 h)⟩
/-- slices of lists of anything -/
theorem w_slLVt {Q : VK} {i : Int} (h : SqL K H a xs) (h0 : 0 ≤ i) (q : ∀ p H2, Fr H p → Ex H H2 → At H2 p (.lst (xs.take i.toNat)) → Q (.ref p) H2) : rSlL K (.ref a) none (some i) H Q := w_slL h fun p H2 a b c => q p H2 a b (by rw [cut_to h0] at c; exact c)
theorem w_slLVf {Q : VK} {i : Int} (h : SqL K H a xs) (h0 : 0 ≤ i) (q : ∀ p H2, Fr H p → Ex H H2 → At H2 p (.lst (xs.drop i.toNat)) → Q (.ref p) H2) : rSlL K (.ref a) (some i) none H Q := w_slL h fun p H2 a b c => q p H2 a b (by rw [cut_from h0] at c; exact c)
end
/-! ### isinstance of a tuple, a list, None or a text with an own class -/
def kitBo (t : String) (y : Str) (K : PySem.W.Frag) : Bool := decide (PySem.W.kitOne K (.type t) (.ref (He.ga K y)) = some false)
theorem kitBo_ok {K : PySem.W.Frag} {t : String} {y : Str} (h : kitBo t y K = true) : PySem.W.kitOne K (.type t) (.ref (He.ga K y)) = some false := of_decide_eq_true h
theorem w_isiTC {K : PySem.W.Frag} {H : Hp} {Q : VK} {a C : Addr} {xs : List V} (ha : At H a (.tup xs)) (h : PySem.W.kitOne K (.type "tuple") (.ref C) = some false) (q : Q (.bl false) H) : rIsi K [.ref a, .ref C] H Q := ⟨_, _, .type "tuple", .ref C, false, rfl, .own C, .base (.tup ha), h, q⟩
theorem w_isiLC {K : PySem.W.Frag} {H : Hp} {Q : VK} {a C : Addr} {xs : List V} (ha : At H a (.lst xs)) (h : PySem.W.kitOne K (.type "list") (.ref C) = some false) (q : Q (.bl false) H) : rIsi K [.ref a, .ref C] H Q := ⟨_, _, .type "list", .ref C, false, rfl, .own C, .base (.lst ha), h, q⟩
end Z
namespace Z
open PySem L2
/-! ### // of great ints -/
/-- the model reckons i // j -/
def CDivZ (i j : Int) : Prop := 0 < j ∧ Builtin.divisionGoesByPylong i j = false
theorem CDivZ.of {i j : Int} (h : CDivW i j) : CDivZ i j := ⟨h.1, PyProof.noPylong_of_log2 h.2⟩
theorem cdivz {i j : Int} (h : 0 < j) (hi : i.natAbs < 2 ^ 13400) : CDivZ i j := by
  refine ⟨h, ?_⟩
  have h1 : i.natAbs.log2 < 13400 := PySem.Flt.log2_lt_of (by decide) hi
  have h2 : (if i == 0 then 0 else i.natAbs.log2 / 30 + 1) ≤ 447 := by
    split <;> omega
  show (decide ((if j == 0 then 0 else j.natAbs.log2 / 30 + 1) > 300) && decide ((if i == 0 then 0 else i.natAbs.log2 / 30 + 1) > (if j == 0 then 0 else j.natAbs.log2 / 30 + 1) + 150)) = false
  by_cases hj : (if j == 0 then 0 else j.natAbs.log2 / 30 + 1) > 300
  · rw [decide_eq_false (p := (if i == 0 then 0 else i.natAbs.log2 / 30 + 1) > (if j == 0 then 0 else j.natAbs.log2 / 30 + 1) + 150) (by omega), Bool.and_false]
  · rw [decide_eq_false hj, Bool.false_and]
theorem op_fdivP {X : Cx} : OpR X (binaryOp .FloorDiv) (rI CDivZ fun i j => .int (i / j)) := opI fun i j _ _ _ _ _ hc q => by
  have h1 : (0 : Int) < j := hc.1
  exact PyProof.Rows.floordiv_int (by omega) (by rw [Int.fdiv_eq_ediv_of_nonneg i (by omega)]; exact q) (.inl hc.2)
/-! ### a < b < c -/
section
variable {σ : L2.St} {H : Hp} {Q : VK} {ta tb tc : TE} {r r' : R2}
theorem w_chain (h : ta σ H fun x H1 => tb σ H1 fun y H2 => r x y H2 fun z H3 => ∃ k, z = .bl k ∧ (if k = true then tc σ H3 fun w' H4 => r' y w' H4 Q else Q (.bl false) H3)) : tChain r r' ta tb tc σ H Q := h
end
end Z
namespace Z
open PySem L2 PySem.Spec PyProof.Rows
/-! ### zip of two tuples, of two lists -/
theorem pi_zipA {X : Cx} {K : PySem.W.Frag} (hK : X.K = K) {e e2 : Expr} {ta : TA} {p pos tpos : Pos} {elts : List Expr} {kk : Nat} (hg : Gl X "zip") (hm : X.mg "zip" = none) (ha : PA X [e, e2] ta)
    (hs : starEach [e, e2] X.env = (false, eval e X.env) :: starEach [e2] X.env := by rfl) (hpl : (backTo pos (starEach [e2] X.env)).any (·.1) = false := by rfl) :
    PI X (.Tuple elts kk tpos) (.Call (.Name "zip" p) [e, e2] [] pos) (RZ.iZipA K ta) := hK ▸ RZ.pi_zipA hg hm ha hs hpl
def dZA (K : PySem.W.Frag) (R : It → Hp → Prop) : List V → Hp → Prop := fun vs H1 => ∃ a b xs ys, vs = [.ref a, .ref b] ∧ ((SqL K H1 a xs ∧ SqL K H1 b ys ∧ R (Itz K a b) H1) ∨ (SqT K H1 a xs ∧ SqT K H1 b ys ∧ R (RZ.ItzT K a b) H1))
section
variable {K : PySem.W.Frag} {σ : L2.St} {H H' : Hp} {a b : Addr} {xs ys : List V} {R : It → Hp → Prop} {ta : TA}
theorem w_iZA (h : ta σ H (dZA K R)) : RZ.iZipA K ta σ H R := h
theorem i_ZT (hx : SqT K H a xs) (hy : SqT K H b ys) (hl : xs.length = ys.length) (k : ∀ J, Src J (fun H' => SqT K H' a xs ∧ SqT K H' b ys) xs.length (fun i x H'' => ∃ T y z, x = .ref T ∧ At H'' T (.tup [y, z]) ∧ xs[i]? = some y ∧ ys[i]? = some z) → R J H) : dZA K R [.ref a, .ref b] H := by
  refine ⟨a, b, xs, ys, rfl, .inr ⟨hx, hy, k _ ⟨fun i H' hp hi => ⟨xs, ys, xs[i], ys[i]'(by omega), hp.1, hp.2, List.getElem?_eq_getElem hi, List.getElem?_eq_getElem (by omega)⟩, fun H' hp => ⟨xs, ys, hp.1, hp.2, .inl (Nat.le_refl _)⟩, fun i H' x H'' hp hi hy => ?_⟩⟩⟩
  obtain ⟨T, y, z, e1, e2, e3, f1, f2⟩ := hy
  exact ⟨by rw [e3]; exact Ex.new e2, T, y, z, e1, by rw [e3]; exact upd_same, f1 xs hp.1, f2 ys hp.2⟩
theorem i_ZL (hx : SqL K H a xs) (hy : SqL K H b ys) (hl : xs.length = ys.length) (k : ∀ J, Src J (fun H' => SqL K H' a xs ∧ SqL K H' b ys) xs.length (fun i x H'' => ∃ T y z, x = .ref T ∧ At H'' T (.tup [y, z]) ∧ xs[i]? = some y ∧ ys[i]? = some z) → R J H) : dZA K R [.ref a, .ref b] H := by
  refine ⟨a, b, xs, ys, rfl, .inl ⟨hx, hy, k _ ⟨fun i H' hp hi => ⟨xs, ys, xs[i], ys[i]'(by omega), hp.1, hp.2, List.getElem?_eq_getElem hi, List.getElem?_eq_getElem (by omega)⟩, fun H' hp => ⟨xs, ys, hp.1, hp.2, .inl (Nat.le_refl _)⟩, fun i H' x H'' hp hi hy => ?_⟩⟩⟩
  obtain ⟨T, y, z, e1, e2, e3, f1, f2⟩ := hy
  exact ⟨by rw [e3]; exact Ex.new e2, T, y, z, e1, by rw [e3]; exact upd_same, f1 xs hp.1, f2 ys hp.2⟩
end
end Z
namespace Z
open PySem L2 PySem.Spec PyProof.Rows
/-! ### sets of ints -/
theorem cr_set0 {X : Cx} {w : World} (hw : X.w = w) : CallR X (.type "set") (rSet0 w) := hw ▸ L2.cr_set0
theorem or_sin {X : Cx} {w : World} (hw : X.w = w) : OpR X (compareOp .In) (rSIn w) := hw ▸ L2.or_sin
theorem pe_sadd {X : Cx} {w : World} (hw : X.w = w) {o e : Expr} {es : List Expr} {to : TE} {t : TA} {apos cpos : Pos} (ho : PE X o to) (ha : PA X (e :: es) t)
    (hbase : attributeBase o "add" X.env (eval o X.env) = eval o X.env := by rfl)
    (hfew : ((backTo cpos (starEach (e :: es) X.env)).all (fun x => !x.1) && (backToKw cpos (keywordEach [] X.env)).all (fun x => x.1.isSome)
      && decide ((e :: es).length + ([] : List Keyword).length + (if ([] : List Keyword).isEmpty then 0 else 1) < 30)) = true := by rfl)
    (hline : (apos.endLine == cpos.line) = true := by rfl) (hs : starEach (e :: es) X.env = (false, eval e X.env) :: starEach es X.env := by rfl) (hplain : (backTo cpos (starEach es X.env)).any (·.1) = false := by rfl) :
    PE X (.Call (.Attribute o "add" apos) (e :: es) [] cpos) (tSAdd w to t) := hw ▸ L2.pe_sadd ho ha hbase hfew hline hs hplain
section
variable {K : PySem.W.Frag} {w : World} {σ : L2.St} {H H' : Hp} {Q : VK} {a : Addr} {S : Int → Bool} {n : Nat} {k : Int}
theorem w_set0 (q : ∀ p H2, Fr H p → Ex H H2 → At H2 p (SetO w p (fun _ => false) 0) → Q (.ref p) H2) : rSet0 w [] H Q := ⟨rfl, fun p hp => q p _ hp (Ex.new hp) upd_same⟩
theorem w_tSAdd {to : TE} {t : TA} (h : to σ H fun x H1 => (∃ a S n, x = V.ref a ∧ H1 a = some (SetO w a S n)) ∧ t σ H1 fun xs H2 => rSAdd w x xs H2 Q) : tSAdd w to t σ H Q := h
theorem w_tyS {A : Prop} (h : At H a (SetO w a S n)) (q : A) : (∃ a' S n, V.ref a = V.ref a' ∧ H a' = some (SetO w a' S n)) ∧ A := ⟨⟨a, S, n, rfl, h⟩, q⟩
theorem w_sadd (h : At H a (SetO w a S n)) (hr : n + 1 < scanBound) (q : ∀ H2, At H2 a (SetO w a (fun j => S j || decide (j = k)) (if S k = true then n else n + 1)) → (∀ H0, Ex H0 H → Fr H0 a → Ex H0 H2) → (∀ b o, b ≠ a → At H b o → At H2 b o) → Q .non H2) : rSAdd w (.ref a) [.int k] H Q :=
  ⟨a, k, S, n, rfl, rfl, h, hr, q _ upd_same (fun H0 e n => Ex.mut e n) (fun b o hb e => by unfold At; rw [upd_ne hb]; exact e)⟩
theorem w_sin (h : At H a (SetO w a S n)) (q : Q (.bl (S k)) H) : rSIn w (.int k) (.ref a) H Q := ⟨k, a, S, n, rfl, rfl, h, q⟩
end
/-! ### an instance is called -/
/-- instances of the class x are called by the def __call__ of the class y -/
def callB (x y : Str) (K : PySem.W.Frag) : Bool := He.eqO (PySem.W.findIn K (.ref (He.ga K x)) "__call__") (some (some (.ref (He.ma K (He.ga K y) "__call__")))) && (PySem.W.isFn K (.ref (He.ma K (He.ga K y) "__call__")) && PySem.W.fnIn K (He.ma K (He.ga K y) "__call__"))
theorem callB_ok {K : PySem.W.Frag} {x y : Str} (c : callB x y K = true) : StX.CallO K (He.ga K x) (He.ma K (He.ga K y) "__call__") := by
  obtain ⟨c1, c⟩ := He.ba c
  obtain ⟨c2, c3⟩ := He.ba c
  exact ⟨He.eqO_ok c1, c2, c3⟩
def dCO (C : Addr) (sp : Sp) (E : XK) (t : TA) (σ : L2.St) (Q : VK) : VK := fun y H1 => ∃ a, y = V.ref a ∧ t σ H1 fun vs H2 => (∃ dx fs, At H2 a (.ins C dx fs)) ∧ sp (V.ref a :: vs) H2 Q E
def tCO (C : Addr) (sp : Sp) (E : XK) (tf : TE) (t : TA) : TE := fun σ H Q => tf σ H (dCO C sp E t σ Q)
theorem pe_callO {X : Cx} {CX : CXT} {k : Nat} {C g : Addr} {sp : Sp} {E : XK} {fe e : Expr} {es : List Expr} {tf : TE} {t : TA} {pos : Pos} (hf : PE X fe tf) (c : StX.CallO X.K C g) (F : FnR X.prog X.w X.K X.mg X.base CX k g sp) (hr : Room k X.A) (hx : Passes CX X E) (ha : PA X (e :: es) t)
    (ht : eval (.Call fe (e :: es) [] pos) X.env = (do callWith pos (← eval fe X.env) [] (backTo pos (starEach (e :: es) X.env)) (backToKw pos (keywordEach [] X.env))) := by rfl)
    (he : starEach (e :: es) X.env = (false, eval e X.env) :: starEach es X.env := by rfl) (hpl : (backTo pos (starEach es X.env)).any (·.1) = false := by rfl) : PE X (.Call fe (e :: es) [] pos) (tCO C sp E tf t) := by
  refine ⟨fun pins s σ H Q I h => ?_⟩
  refine Call_ (thn (hf.run pins s σ H _ I h) fun u s1 ⟨y, H1, I1, ry, a, ey, q⟩ => ?_) ht
  subst ey
  obtain rfl : u = Value.ref a := ry
  refine StX.callO_with (thn (ha.run pos pins s1 σ H1 _ I1 q) fun us s2 ⟨vs, H2, I2, r, ⟨dx, fs, hi⟩, q2⟩ => ?_) he hpl
  have hI : StX.InsC X H2 a C := .inr ⟨dx, fs, hi⟩
  obtain ⟨ox, od, J, hd⟩ := StX.insC_at I2 hI
  exact ⟨⟨C, ox, od, J, hd⟩, StX.run_callO c F hr hx I2 hI r q2⟩
section
variable {σ : L2.St} {H : Hp} {Q : VK} {C a dx : Addr} {fs : List (Str × V)} {sp : Sp} {E : XK} {tf : TE} {t : TA}
theorem w_tCO (h : tf σ H (dCO C sp E t σ Q)) : tCO C sp E tf t σ H Q := h
theorem w_dCO (q : t σ H fun vs H2 => (∃ dx fs, At H2 a (.ins C dx fs)) ∧ sp (V.ref a :: vs) H2 Q E) : dCO C sp E t σ Q (.ref a) H := ⟨a, rfl, q⟩
theorem w_insC {A : Prop} (h : At H a (.ins C dx fs)) (q : A) : (∃ dx fs, At H a (.ins C dx fs)) ∧ A := ⟨⟨dx, fs, h⟩, q⟩
end
end Z
namespace Z
open PySem L2 PySem.Spec PyProof.Rows
/-! ### list * int, list.extend -/
section
variable {K : PySem.W.Frag} {H : Hp} {Q : VK} {a b : Addr} {xs ys : List V} {k : Int}
theorem w_rep (h : At H a (.lst xs)) (h1 : 0 ≤ k) (h2 : k ≤ 1000) (h3 : xs.length ≤ 1000) (q : ∀ p H2, Fr H p → Ex H H2 → At H2 p (.lst (List.replicate k.toNat xs).flatten) → Q (.ref p) H2) : rRep (.ref a) (.int k) H Q :=
  ⟨a, k, xs, rfl, rfl, h, by omega, by omega, by
    have := Nat.mul_le_mul h3 (show k.toNat ≤ 1000 by omega)
    show _ ≤ 16777216
    omega, fun p hp => q p _ hp (Ex.new hp) upd_same⟩
theorem w_ext (h : At H a (.lst xs)) (h2 : At H b (.lst ys)) (hz : xs.length + ys.length ≤ sizeLine) (q : ∀ H2, At H2 a (.lst (xs ++ ys)) → Nl H H2 → (∀ H0, Ex H0 H → Fr H0 a → Ex H0 H2) → (∀ b o, b ≠ a → At H b o → At H2 b o) → Q .non H2) : rExtend (.ref a) [.ref b] H Q :=
  ⟨a, b, xs, ys, rfl, rfl, h, h2, hz, q _ upd_same (Nl.upd h) (fun H0 e n => Ex.mut e n) (fun b o hb e => by unfold At; rw [upd_ne hb]; exact e)⟩
/-! ### tuple(range(n)), list(range(n)) -/
theorem rgV0 {n : Int} : rgV 0 n = ((List.range n.toNat).map fun i : Nat => (i : Int)).map V.int := by
  unfold rgV
  rw [Int.sub_zero, List.map_map]
  refine List.map_congr_left fun i _ => ?_
  show V.int (0 + (i : Int)) = V.int (i : Int)
  rw [Int.zero_add]
def dRgT (Q : VK) : VK := fun x H1 => ∃ n, x = .int n ∧ RgOk 0 n ∧ ∀ q, H1 q = none → Q (.ref q) (upd H1 q (.tup (rgV 0 n)))
def dRgL (Q : VK) : VK := fun x H1 => ∃ n, x = .int n ∧ RgOk 0 n ∧ ∀ q, H1 q = none → Q (.ref q) (upd H1 q (.lst (rgV 0 n)))
theorem w_tupRg1 {ta : TE} {σ : L2.St} (h : ta σ H (dRgT Q)) : tTupRg (tRg1 ta) σ H Q := h
theorem w_lstRg1 {ta : TE} {σ : L2.St} (h : ta σ H (dRgL Q)) : tLstRg (tRg1 ta) σ H Q := h
theorem w_dRgT {n : Int} (h0 : 0 ≤ n) (h1 : n ≤ 16777216) (q : ∀ p H2, Fr H p → Ex H H2 → At H2 p (.tup (((List.range n.toNat).map fun i : Nat => (i : Int)).map V.int)) → Q (.ref p) H2) : dRgT Q (.int n) H :=
  ⟨n, rfl, RgOk.of_le (by omega) h1 (by omega) h0, fun p hp => q p _ hp (Ex.new hp) (by rw [← rgV0]; exact upd_same)⟩
theorem w_dRgL {n : Int} (h0 : 0 ≤ n) (h1 : n ≤ 16777216) (q : ∀ p H2, Fr H p → Ex H H2 → At H2 p (.lst (((List.range n.toNat).map fun i : Nat => (i : Int)).map V.int)) → Q (.ref p) H2) : dRgL Q (.int n) H :=
  ⟨n, rfl, RgOk.of_le (by omega) h1 (by omega) h0, fun p hp => q p _ hp (Ex.new hp) (by rw [← rgV0]; exact upd_same)⟩
end
end Z
namespace Z
open PySem L2 PySem.Spec PyProof.Rows
/-! ### a def that captures the cell of its class and has cells of its own -/
theorem cells_app : ∀ (nms : List (Str × NameKind)) (n : Nat) (acc : List (Str × Addr)), cellsFrom n nms acc = cellsFrom n nms [] ++ acc
  | [], n, acc => rfl
  | (x, k) :: r, n, acc => by
    show (if k == .cell then cellsFrom (n + 1) r ((x, n) :: acc) else cellsFrom n r acc) = (if k == .cell then cellsFrom (n + 1) r [(x, n)] else cellsFrom n r []) ++ acc
    by_cases e : (k == .cell) = true
    · rw [if_pos e, if_pos e, cells_app r (n + 1) ((x, n) :: acc), cells_app r (n + 1) [(x, n)], List.append_assoc]
      rfl
    · rw [if_neg e, if_neg e]
      exact cells_app r n acc
theorem cells_mem : ∀ (nms : List (Str × NameKind)) (n : Nat) {y : Str} {c : Addr}, (cellsFrom n nms []).lookup y = some c → (y, NameKind.cell) ∈ nms
  | [], n, y, c, h => by cases h
  | (x, k) :: r, n, y, c, h => by
    have h : (if k == .cell then cellsFrom (n + 1) r [(x, n)] else cellsFrom n r []).lookup y = some c := h
    by_cases e : (k == .cell) = true
    · rw [if_pos e, cells_app, List.lookup_append] at h
      cases z : (cellsFrom (n + 1) r []).lookup y with
      | some d => exact List.mem_cons_of_mem _ (cells_mem r (n + 1) z)
      | none =>
        rw [z] at h
        simp only [Option.none_or, List.lookup] at h
        split at h
        · rename_i g
          have g : y = x := by simpa using g
          have e : k = .cell := by simpa using e
          rw [g, e]
          exact List.mem_cons_self
        · cases h
    · rw [if_neg e] at h
      exact List.mem_cons_of_mem _ (cells_mem r n h)
abbrev ownC (L : Addr) (sc : Scope) : List (Str × Addr) := cellsFrom (L + 1) sc.names []
section
variable {M : Model} {A : Around} {E : Value → Shared → Prop} {s₀ s : Shared} {m cm : Str → Option Value} {env : Env} {own : List (Str × Addr)}
theorem putL {n : Str} {v : Value} {Q : Unit → Shared → Prop} (x : InCallC s₀ env.locals m own cm s) (fk : env.scope.kind = .function) (kl : env.kindOf n = some .local)
    (q : ∀ s', InCallC s₀ env.locals (fun y => if y = n then some v else m y) own cm s' → Q () s') : wpAny M A (storeName env n v) Q E s := by
  obtain ⟨⟨⟨h1, tk, e1⟩, ns, kp, fr⟩, cl, ap, ab⟩ := x
  subst e1
  refine wpAny_storeName_local kl ns (fun h2 n2 b2 => q _ ⟨⟨⟨h2, _, rfl⟩, n2, fun b o e => ?_, fr⟩, fun k c z => ?_, ap, ab⟩) (by rw [fk]; rfl)
  · have lt := Nat.lt_of_lt_of_le (Heap.lt_size e) fr
    exact b2.extBut b o (Nat.ne_of_lt lt) (kp b o e)
  · have lt := ab k c (mem_of_lookup z)
    exact (cl k c z).sameBut b2 (Nat.ne_of_gt lt)
theorem putC {n : Str} {c : Addr} {v : Value} {Q : Unit → Shared → Prop} (x : InCallC s₀ env.locals m own cm s) (fk : env.scope.kind = .function) (kc : env.kindOf n = some .cell) (ho : own.lookup n = some c) (he : env.cells.lookup n = some c)
    (q : ∀ s', InCallC s₀ env.locals m own (fun y => if y = n then some v else cm y) s' → Q () s') : wpAny M A (storeName env n v) Q E s := by
  obtain ⟨⟨⟨h1, tk, e1⟩, ns, kp, fr⟩, cl, ap, ab⟩ := x
  subst e1
  have hc := mem_of_lookup ho
  have hL := ab n c hc
  refine wpAny_storeName_cell fk kc he (cl n c ho) fun h2 i2 b2 => q _ ⟨⟨⟨h2, _, rfl⟩, ns.sameBut b2 (Nat.ne_of_lt hL), fun b o e => ?_, fr⟩, fun k c' z => ?_, ap, ab⟩
  · have lt := Nat.lt_trans (Nat.lt_of_lt_of_le (Heap.lt_size e) fr) hL
    exact b2.extBut b o (Nat.ne_of_lt lt) (kp b o e)
  · by_cases g : k = n
    · subst g
      cases ho.symm.trans z
      rw [if_pos rfl]
      exact i2
    · rw [if_neg g]
      refine (cl k c' z).sameBut b2 fun w => g ?_
      subst w
      exact name_of_addr ap (mem_of_lookup z) hc
theorem putAll (f : Str × Value → PUnit → Sem (ForInStep PUnit)) (hf : ∀ n v u, f (n, v) u = (storeName env n v >>= fun _ => pure (.yield ⟨⟩))) (fk : env.scope.kind = .function) (hown : ∀ n c, own.lookup n = some c → env.cells.lookup n = some c) :
    ∀ (bs : List (Str × Value)) (m cm : Str → Option Value) (s : Shared) (Q : PUnit → Shared → Prop), InCallC s₀ env.locals m own cm s → (∀ y ∈ bs, env.kindOf y.1 = some .local ∨ (env.kindOf y.1 = some .cell ∧ (own.lookup y.1).isSome = true)) →
      (∀ s', InCallC s₀ env.locals (bindL env.kindOf bs m) own (bindC env.kindOf bs cm) s' → Q ⟨⟩ s') → wpAny M A (forIn bs ⟨⟩ f) Q E s
  | [], m, cm, s, Q, x, _, q => by
    rw [List.forIn_nil]
    exact wpAny_pure (q s x)
  | (n, v) :: r, m, cm, s, Q, x, hk, q => by
    rw [List.forIn_cons, hf]
    have kr := fun y hy => hk y (List.mem_cons_of_mem _ hy)
    unfold bindL bindC at q
    refine wpAny_bind (wpAny_bind ?_)
    rcases hk (n, v) List.mem_cons_self with kl | ⟨kc, hc⟩
    · rw [if_pos kl, if_pos kl] at q
      exact putL x fk kl fun s2 x2 => wpAny_pure (putAll f hf fk hown r _ _ s2 Q x2 kr q)
    · have nl : ¬ env.kindOf n = some .local := by rw [kc]; decide
      rw [if_neg nl, if_neg nl] at q
      obtain ⟨c, hc⟩ := Option.isSome_iff_exists.mp hc
      exact putC x fk kc hc (hown n c hc) fun s2 x2 => wpAny_pure (putAll f hf fk hown r _ _ s2 Q x2 kr q)
theorem newEnv_cl {sc : Scope} {gl : Addr} {cl : List (Str × Addr)} {bs : List (Str × Value)} {qual : Str} {fn : Option Addr} {cd : Value} {blt : Addr} {Q : Env → Shared → Prop} (fk : sc.kind = .function)
    (hk : ∀ y ∈ bs, sc.names.lookup y.1 = some .local ∨ (sc.names.lookup y.1 = some .cell ∧ ((ownC s.heap.objs.size sc).lookup y.1).isSome = true))
    (q : ∀ s', InCallC s s.heap.objs.size (bindL (newEnv sc s.heap.objs.size gl (ownC s.heap.objs.size sc ++ cl) qual fn cd none blt).kindOf bs fun _ => none) (ownC s.heap.objs.size sc) (bindC (newEnv sc s.heap.objs.size gl (ownC s.heap.objs.size sc ++ cl) qual fn cd none blt).kindOf bs fun _ => none) s' →
      Q (newEnv sc s.heap.objs.size gl (ownC s.heap.objs.size sc ++ cl) qual fn cd none blt) s') : wpAny M A (newFunctionEnv sc gl cl bs qual fn cd none blt) Q E s := by
  simp only [newFunctionEnv, Option.isSome_none, Bool.false_eq_true, if_false]
  refine wpAny_bind (wpAny_alloc (wpAny_bind (wpAny_layCells _ (fun x k cs => by cases e : k == NameKind.cell <;> simp [e]) _ _ _ _ ?_)))
  have ok := cellsFrom_ok sc.names (s.heap.push { cls := .type "frame", data := .dict #[] }) (s.heap.objs.size + 1) [] ⟨fun _ _ z => (nomatch z), List.Pairwise.nil⟩ (by rw [Heap.size_push]; exact Nat.le_refl _)
  have es : ({ s with heap := s.heap.push { cls := .type "frame", data := .dict #[] } } : Shared).heap.objs.size = s.heap.objs.size + 1 := Heap.size_push ..
  rw [Heap.size_push] at ok
  rw [es, cells_app]
  have kp := fun b o (e : s.heap.get? b = some o) => pushCells_keeps sc.names _ b o (Heap.get?_push_of_some { cls := .type "frame", data := .dict #[] } e)
  refine wpAny_bind (putAll (s₀ := s) (own := ownC s.heap.objs.size sc) (env := newEnv sc s.heap.objs.size gl (ownC s.heap.objs.size sc ++ cl) qual fn cd none blt) _ (fun _ _ _ => rfl) fk (fun n c e => ?_) bs (fun _ => none) (fun _ => none) _ _ ⟨⟨⟨_, _, rfl⟩, ?_, kp, Nat.le_refl _⟩, ?_, ok.apart, ?_⟩ hk fun s2 x => wpAny_pure (q s2 x))
  · show (ownC s.heap.objs.size sc ++ cl).lookup n = some c
    rw [List.lookup_append, e]
    rfl
  · exact (Heap.Ns.new s.heap (.type "frame")).keeps (pushCells_keeps _ _)
  · exact fun n c e => (ok.empty n c (mem_of_lookup e)).1
  · exact fun n c e => (ok.empty n c e).2
end
/-- its names: the parameters, the class's cell, its locals -/
structure SScope (N ps fr : List Str) (sc : Scope) : Prop where
  kind : sc.kind = .function
  co : sc.isCoroutine = false
  gen : sc.isGenerator = false
  nd : N.Nodup
  pre : N.take (ps.length + fr.length) = ps ++ fr
  par : ∀ x ∈ ps, sc.names.lookup x = some .local ∨ sc.names.lookup x = some .cell
  free : ∀ y ∈ sc.names, y.2 = .free → y.1 ∈ fr
  frk : ∀ x ∈ fr, sc.names.lookup x = some .free
  ncl : ∀ y ∈ sc.names, y.2 = .cell → y.1 ∉ fr
def sscB (N ps fr : List Str) (sc : Scope) : Bool :=
  decide (sc.kind = .function) && (!sc.isCoroutine && (!sc.isGenerator && (decide N.Nodup && (decide (N.take (ps.length + fr.length) = ps ++ fr) && (ps.all (fun x => decide (sc.names.lookup x = some .local ∨ sc.names.lookup x = some .cell)) && (sc.names.all (fun y => decide (y.2 = .free → y.1 ∈ fr)) && (fr.all (fun x => decide (sc.names.lookup x = some .free)) && sc.names.all (fun y => decide (y.2 = .cell → y.1 ∉ fr)))))))))
theorem sscope_by {N ps fr : List Str} {sc : Scope} (h : sscB N ps fr sc = true) : SScope N ps fr sc := by
  unfold sscB at h
  simp only [Bool.and_eq_true, Bool.not_eq_true', decide_eq_true_eq, List.all_eq_true] at h
  obtain ⟨h1, h2, h3, h4, h5, h6, h7, h8, h9⟩ := h
  exact ⟨h1, h2, h3, h4, h5, h6, h7, h8, h9⟩
/-- the context of such a body -/
def scx (CX : CXT) (P : Program) (w : World) (K : PySem.W.Frag) (mg : Str → Option Value) (base : Heap) (N : List Str) (F : NdefX.NF) (f : Addr) (A : Around) (outer : List Env) (s : Shared) (H : Hp) (E : XK) : Cx :=
  { NdefX.ncx CX P w K mg base N F f A outer s H E with fn := fun y => match F.scope.names.lookup y with | some .cell => true | _ => false }
theorem inv_scx {CX : CXT} {P : Program} {w : World} {K : PySem.W.Frag} {mg : Str → Option Value} {base : Heap} {N ps : List Str} {x0 qual : Str} {params : Arguments} {body : List Stmt} {scope : Scope} {cda cc f : Addr} {A : Around} {outer : List Env} {s s1 : Shared} {H : Hp} {E : XK} {us : List Value} {vs : List V}
    (S : SScope N ps ["__class__"] scope) (hd : A.handled = none) (e0 : Env0 P w K mg base A outer s H) (hl : vs.length = ps.length) (r : Vals vs us) (hcc : H cc = none) (hcv : ∃ v, s.heap.IsCell cc v)
    (x : InCallC s s.heap.objs.size (bindL (fun y => scope.names.lookup y) (ps.zip us) fun _ => none) (ownC s.heap.objs.size scope) (bindC (fun y => scope.names.lookup y) (ps.zip us) fun _ => none) s1) :
    Inv (scx CX P w K mg base N ⟨x0, qual, params, body, scope, ownC s.heap.objs.size scope ++ [(("__class__" : Str), cc)], cda⟩ f A outer s H E) [] (NdefX.startF N vs [none]) H s1 := by
  have hpl : ps.length + 1 ≤ N.length := by
    have z := congrArg List.length S.pre
    rw [List.length_take, List.length_append, List.length_singleton] at z
    omega
  obtain ⟨h1, tk, e1, kp⟩ := x.done
  subst e1
  have noA : ∀ (b : Addr) (z : b ∈ ([] : List Addr)), False := fun b z => by cases z
  obtain ⟨v0, hcv⟩ := hcv
  have hck : h1.IsCell cc v0 := hcv.keeps kp
  have lk : ∀ y c, (ownC s.heap.objs.size scope ++ [(("__class__" : Str), cc)]).lookup y = some c → (ownC s.heap.objs.size scope).lookup y = some c ∨ (y = "__class__" ∧ c = cc) := fun y c e => by
    rw [List.lookup_append] at e
    cases z : (ownC s.heap.objs.size scope).lookup y with
    | some d => rw [z] at e; cases e; exact .inl rfl
    | none =>
      rw [z] at e
      simp only [Option.none_or, List.lookup] at e
      split at e
      · rename_i g; exact .inr ⟨by simpa using g, (Option.some.inj e).symm⟩
      · cases e
  have ltc : cc < s.heap.objs.size := hcv.lt
  have gt : ∀ y c, (ownC s.heap.objs.size scope).lookup y = some c → s.heap.objs.size < c := fun y c e => x.above y c (PySem.mem_of_lookup e)
  have has : ∀ y, scope.names.lookup y = some .cell → ∃ c, (ownC s.heap.objs.size scope).lookup y = some c := fun y e => cell_has e
  have dom : ∀ y c, (ownC s.heap.objs.size scope ++ [(("__class__" : Str), cc)]).lookup y = some c → (∃ v, h1.IsCell c v) ∧ H c = none := fun y c e => by
    rcases lk y c e with z | ⟨_, rfl⟩
    · exact ⟨⟨_, x.cell y c z⟩, e0.hok.fresh (Nat.le_of_lt (gt y c z))⟩
    · exact ⟨⟨_, hck⟩, hcc⟩
  refine ⟨⟨e0.mod, S.kind, rfl, rfl, Nat.le_refl _, fun y z c g1 g2 => ?_, fun y hy => ?_, fun y c z g => ?_, fun _ => hd, Around.frames_deeper e0.frames, .inr ⟨rfl, rfl⟩, fun b z => (noA b z).elim, e0.bs, e0.bsz, fun b _ _ z => noA b z, fun b z => (noA b z).elim, e0.funs, e0.frf⟩,
    rfl, e0.bare, Un.kept kp, ⟨_, x.toInCall.ns, fun i y v g1 g2 g3 => ?_⟩, fun y c e => (dom y c e).1, e0.hok.fresh (Nat.le_refl _), fun y c e => (dom y c e).2, fun p hp => absurd (show p ∈ ([] : List (Addr × Obj)) ++ [] from hp) (by simp), e0.hok.kept kp, ?_⟩
  · rcases lk y c g1 with a1 | ⟨a1, b1⟩
    · rcases lk z c g2 with a2 | ⟨a2, b2⟩
      · exact name_of_addr x.apart (PySem.mem_of_lookup a1) (PySem.mem_of_lookup a2)
      · exact absurd (b2 ▸ gt y c a1) (Nat.not_lt.mpr (Nat.le_of_lt ltc))
    · rcases lk z c g2 with a2 | ⟨a2, b2⟩
      · exact absurd (b1 ▸ gt z c a2) (Nat.not_lt.mpr (Nat.le_of_lt ltc))
      · rw [a1, a2]
  · have hy : scope.names.lookup y = some .cell ∨ scope.names.lookup y = some .free := hy
    show ∃ c, (ownC s.heap.objs.size scope ++ [(("__class__" : Str), cc)]).lookup y = some c
    rw [List.lookup_append]
    rcases hy with hy | hy
    · obtain ⟨c, e⟩ := has y hy
      exact ⟨c, by rw [e]; rfl⟩
    · have hm := List.mem_singleton.mp (S.free _ (PySem.mem_of_lookup hy) rfl)
      have hm : y = "__class__" := hm
      subst hm
      cases (ownC s.heap.objs.size scope).lookup ("__class__" : Str) with
      | some c => exact ⟨c, rfl⟩
      | none => exact ⟨cc, by simp [List.lookup]⟩
  · have z : (match scope.names.lookup y with | some .cell => true | _ => false) = true := z
    have hy : scope.names.lookup y = some .cell := by
      split at z
      · assumption
      · cases z
    obtain ⟨d, e⟩ := has y hy
    have g : (ownC s.heap.objs.size scope ++ [(("__class__" : Str), cc)]).lookup y = some c := g
    rw [List.lookup_append, e] at g
    cases g
    exact Nat.le_of_lt (gt y _ e)
  · have g1 : N[i]? = some y := g1
    unfold NdefX.startF at g2
    by_cases hi : i < ps.length
    · have hq : (ps ++ [("__class__" : Str)])[i]? = some y := by
        rw [← S.pre, List.getElem?_take_of_lt (by rw [List.length_singleton]; omega)]
        exact g1
      rw [List.getElem?_append_left hi] at hq
      rw [List.getElem?_append_left (by rw [List.length_map]; omega), List.getElem?_map] at g2
      have ha : vs[i]? = some v := by
        cases e : vs[i]? with
        | none => rw [e] at g2; cases g2
        | some a => rw [e] at g2; cases g2; rfl
      obtain ⟨u, hu, rv⟩ := r.get ha
      have nd : ps.Nodup := by
        have z := S.nd.sublist (List.take_sublist (ps.length + [("__class__" : Str)].length) N)
        rw [S.pre] at z
        exact (List.nodup_append.mp z).1
      refine ⟨u, rv, ?_⟩
      rcases S.par y (List.mem_of_getElem? hq) with k | k
      · exact .inl ⟨k, bindL_get nd hq hu k⟩
      · obtain ⟨c, e⟩ := has y k
        have hc := x.cell y c e
        rw [bindC_get nd hq hu (by rw [k]; decide)] at hc
        refine .inr ⟨.inl k, c, ?_, hc⟩
        show (ownC s.heap.objs.size scope ++ [(("__class__" : Str), cc)]).lookup y = some c
        rw [List.lookup_append, e]
        rfl
    · rw [List.getElem?_append_right (by rw [List.length_map]; omega), List.length_map] at g2
      by_cases h2 : i - vs.length < 1
      · have e0 : i - vs.length = 0 := by omega
        rw [e0] at g2
        cases g2
      · rw [List.getElem?_append_right (by rw [List.length_singleton]; omega), List.getElem?_replicate] at g2
        split at g2 <;> cases g2
  · unfold NdefX.startF
    show _ = N.length
    rw [List.length_append, List.length_append, List.length_map, List.length_replicate, List.length_singleton]
    omega
/-- THE RULE for such a def; its first statement says super() -/
theorem FunS.okC {CX : CXT} {P : Program} {w : World} {K : PySem.W.Frag} {mg : Str → Option Value} {base : Heap} {x qual x0 : Str} {params : Arguments} {st : Stmt} {rest : List Stmt} {scope : Scope} {D f : Addr} {fd : FuncData} {N ps : List Str} {k : Nat} {sp : Sp} {ar : Arg}
    (F : FunS P K x qual params (st :: rest) scope D f fd) (S : SScope N ps ["__class__"] scope) (hs : scope.names.lookup ("super" : Str) = some .globalImplicit) (hp : (params.posonlyargs ++ params.args).head? = some ar) (har : ar.arg = x0) (hN : N[0]? = some x0) (hx : scope.names.lookup x0 = some .local ∨ scope.names.lookup x0 = some .cell) (hxd : (x0 == ("__classdict__" : Str)) = false)
    (top : (P.main.scope.names.lookup ("super" : Str)).isSome = false) (hm : mg "super" = none) (hD : ∃ cd, PySem.W.clsIn K D = some cd) (hnc : scope.names.lookup ("__class__" : Str) = some .free) (len : ∀ vs H Q E, sp vs H Q E → vs.length = ps.length)
    (hbody : ∀ (cc cda : Addr) (A : Around) (outer : List Env) (s : Shared) (H : Hp) (vs : List V) (Q : VK) (E : XK), Room k (A.deeper (PySem.W.envX qual scope s.heap.objs.size f (.ref cda) (ownC s.heap.objs.size scope ++ [(("__class__" : Str), cc)]))) → sp vs H Q E →
      SupX (scx CX P w K mg base N ⟨x, qual, params, st :: rest, scope, ownC s.heap.objs.size scope ++ [(("__class__" : Str), cc)], cda⟩ f A outer s H E) D f x0 →
      ∃ t1 t2, PSat (scx CX P w K mg base N ⟨x, qual, params, st :: rest, scope, ownC s.heap.objs.size scope ++ [(("__class__" : Str), cc)], cda⟩ f A outer s H E) (.func (st :: rest) (PySem.W.envX qual scope s.heap.objs.size f (.ref cda) (ownC s.heap.objs.size scope ++ [(("__class__" : Str), cc)]))) st t1 ∧
        PSs (scx CX P w K mg base N ⟨x, qual, params, st :: rest, scope, ownC s.heap.objs.size scope ++ [(("__class__" : Str), cc)], cda⟩ f A outer s H E) rest t2 ∧ tSeq t1 t2 { nx := fun _ H' => Q .non H', rt := Q } (NdefX.startF N vs [none]) H) : FnOk P w K mg base CX (k + 1) f fd ps sp := by
  obtain ⟨oc, od, doc, pm, an, cda, ct, osl, cc, rfl, lk, hcd, ⟨cl1, cd1, cs1, hcell⟩, cl2, cd2, vs2, cs2, file, tf, hcode, hvs2, hfile⟩ := F.ex
  refine ⟨len, fun A outer s H args us vs Q E hr e0 hb r hsp => ?_⟩
  have hl := len _ _ _ _ hsp
  have KX : K.In s.heap := e0.mod.kin.keeps fun b o e => (e0.bs b o e).1
  have lim : s.heap.NoLimit := e0.mod.nolimit.keeps fun b o e => (e0.bs b o e).1
  have hk : ∀ y ∈ ps.zip us, scope.names.lookup y.1 = some .local ∨ (scope.names.lookup y.1 = some .cell ∧ ((ownC s.heap.objs.size scope).lookup y.1).isSome = true) := fun y hy => by
    rcases S.par y.1 (List.of_mem_zip hy).1 with z | z
    · exact .inl z
    · obtain ⟨c, e⟩ := cell_has (n := s.heap.objs.size + 1) z
      exact .inr ⟨z, by show ((ownC s.heap.objs.size scope).lookup y.1).isSome = true; rw [e]; rfl⟩
  refine codeAny_call_function hr.depth (KX _ _ lk) rfl S.co S.gen rfl (PySem.W.codeRec_of KX hcd) (hb _ _ _ _ ?_)
  refine newEnv_cl S.kind hk fun s1 xx => ⟨lim.keeps xx.toInCall.keep, PySem.ks_codeAny_funcAt ?_⟩
  have zc := e0.mod.kin _ _ hcell
  have I := inv_scx (CX := CX) (E := E) (f := f) (x0 := x) (qual := qual) (params := params) (body := st :: rest) (cda := cda) S hr.hd e0 hl r (e0.bs _ _ zc).2 ⟨_, _, KX _ _ hcell, rfl⟩ xx
  have hcl : (ownC s.heap.objs.size scope ++ [(("__class__" : Str), cc)]).lookup ("__class__" : Str) = some cc := by
    rw [List.lookup_append]
    cases z : (ownC s.heap.objs.size scope).lookup ("__class__" : Str) with
    | none => simp [List.lookup]
    | some c => exact absurd (List.mem_singleton_self _) (S.ncl _ (cells_mem _ _ z) rfl)
  have SX : SupX (scx CX P w K mg base N ⟨x, qual, params, st :: rest, scope, ownC s.heap.objs.size scope ++ [(("__class__" : Str), cc)], cda⟩ f A outer s H E) D f x0 :=
    ⟨hs, hnc, rfl, ⟨_, _, _, _, ar, lk, hp, har⟩, ⟨cda, _, _, _, _, file, tf, rfl, hcode, hvs2, hfile⟩, top, hN, hx.elim .inl fun z => .inr (.inl z), hxd, ⟨cc, _, _, _, hcl, hcell⟩, hm, hD⟩
  obtain ⟨t1, t2, p1, p2, hq⟩ := hbody cc cda A outer s H vs Q E (hr.deeper _) hsp SX
  have fin : ∀ {σ' : L2.St} {H' : Hp} {v : V} {u : Value} {s' : Shared}, Inv (scx CX P w K mg base N ⟨x, qual, params, st :: rest, scope, ownC s.heap.objs.size scope ++ [(("__class__" : Str), cc)], cda⟩ f A outer s H E) [] σ' H' s' → RelV v u → Q v H' → CE outer P w H s Q u s' :=
    fun {σ' H' v u s'} J rv q => ⟨v, H', J.os, J.bare, J.base, J.hok, rv, q⟩
  refine PySem.ks_wpAt_execs_cons (PySem.ks_wpAt_mono (p1.run [] _ _ H _ I hq) (fun fl s' z => ?_) fun e s' z => z)
  cases fl with
  | brk => obtain ⟨_, _, _, q⟩ := z; exact q.elim
  | cont => obtain ⟨_, _, _, q⟩ := z; exact q.elim
  | ret u =>
    obtain ⟨v, σ', H', J, rv, q⟩ := z
    exact fin J rv q
  | next =>
    obtain ⟨σ', H', J, q⟩ := z
    refine wpAt_of_wpAny (wpAny_mono (p2.run [] s' σ' H' _ J q) (fun fl s2 z2 => ?_) fun e s2 z2 => z2)
    cases fl with
    | brk => obtain ⟨_, _, _, q⟩ := z2; exact q.elim
    | cont => obtain ⟨_, _, _, q⟩ := z2; exact q.elim
    | ret u =>
      obtain ⟨v, σ2, H2, J2, rv, q⟩ := z2
      exact fin J2 rv q
    | next =>
      obtain ⟨σ2, H2, J2, q⟩ := z2
      exact fin (v := V.non) (u := Value.none) J2 rfl q
end Z
namespace Z
open PySem L2 StX PySem.Spec PyProof.Rows
/-! ### a def with a star parameter whose second statement says super() -/
def StarSp (n : Nat) (sp : Sp) : Sp := fun vs H Q E => ∃ ws rest, vs = ws ++ rest ∧ ws.length = n ∧ rest.length ≤ sizeLine ∧ ∀ p, H p = Option.none → sp (ws ++ [V.ref p]) (upd H p (.tup rest)) Q E
def BindsS (fd : FuncData) (ps : List Str) (pv : Str) : Prop := ∀ us rest : List Value, us.length = ps.length → bindArgs fd ⟨us ++ rest, []⟩ = (newTuple rest >>= fun t => pure (ps.zip us ++ [(pv, t)]))
theorem FunS.bindsS {P : Program} {K : PySem.W.Frag} {x qual pv : Str} {params : Arguments} {body : List Stmt} {scope : Scope} {D f : Addr} {fd : FuncData} {ps : List Str} (F : FunS P K x qual params body scope D f fd)
    (h : ∀ (cl : List (Str × Addr)) (doc pm : Value) (an : Option Addr) (c1 c2 : Value) (us rest : List Value), us.length = ps.length → bindArgs (PySem.W.fnX x qual params body scope cl .none .none doc pm an c1 c2) ⟨us ++ rest, []⟩ = (newTuple rest >>= fun t => pure (ps.zip us ++ [(pv, t)]))) : BindsS fd ps pv := by
  obtain ⟨oc, od, doc, pm, an, cda, ct, osl, cc, rfl, _⟩ := F.ex
  exact fun us rest hl => h _ _ _ _ _ _ us rest hl
theorem FunS.okS {CX : CXT} {P : Program} {w : World} {K : PySem.W.Frag} {mg : Str → Option Value} {base : Heap} {x qual x0 pv : Str} {params : Arguments} {st0 st : Stmt} {rest : List Stmt} {scope : Scope} {D f : Addr} {fd : FuncData} {N ps : List Str} {k : Nat} {sp : Sp} {ar : Arg}
    (F : FunS P K x qual params (st0 :: st :: rest) scope D f fd) (S : SScope N (ps ++ [pv]) ["__class__"] scope) (hCX : CXUp CX) (hbs : BindsS fd ps pv) (hs : scope.names.lookup ("super" : Str) = some .globalImplicit) (hp : (params.posonlyargs ++ params.args).head? = some ar) (har : ar.arg = x0) (hN : N[0]? = some x0) (hx : scope.names.lookup x0 = some .local ∨ scope.names.lookup x0 = some .cell) (hxd : (x0 == ("__classdict__" : Str)) = false)
    (top : (P.main.scope.names.lookup ("super" : Str)).isSome = false) (hm : mg "super" = Option.none) (hD : ∃ cd, PySem.W.clsIn K D = some cd) (hnc : scope.names.lookup ("__class__" : Str) = some .free)
    (hbody : ∀ (cc cda : Addr) (A : Around) (outer : List Env) (s : Shared) (H : Hp) (vs : List V) (Q : VK) (E : XK), Room k (A.deeper (PySem.W.envX qual scope s.heap.objs.size f (.ref cda) (ownC s.heap.objs.size scope ++ [(("__class__" : Str), cc)]))) → sp vs H Q E →
      SupX (scx CX P w K mg base N ⟨x, qual, params, st0 :: st :: rest, scope, ownC s.heap.objs.size scope ++ [(("__class__" : Str), cc)], cda⟩ f A outer s H E) D f x0 →
      ∃ t0 t1 t2, PS (scx CX P w K mg base N ⟨x, qual, params, st0 :: st :: rest, scope, ownC s.heap.objs.size scope ++ [(("__class__" : Str), cc)], cda⟩ f A outer s H E) st0 t0 ∧
        PSat (scx CX P w K mg base N ⟨x, qual, params, st0 :: st :: rest, scope, ownC s.heap.objs.size scope ++ [(("__class__" : Str), cc)], cda⟩ f A outer s H E) (.func (st0 :: st :: rest) (PySem.W.envX qual scope s.heap.objs.size f (.ref cda) (ownC s.heap.objs.size scope ++ [(("__class__" : Str), cc)]))) st t1 ∧
        PSs (scx CX P w K mg base N ⟨x, qual, params, st0 :: st :: rest, scope, ownC s.heap.objs.size scope ++ [(("__class__" : Str), cc)], cda⟩ f A outer s H E) rest t2 ∧ tSeq t0 (tSeq t1 t2) { nx := fun _ H' => Q .non H', rt := Q } (NdefX.startF N vs [Option.none]) H) : FnR P w K mg base CX (k + 1) f (StarSp ps.length sp) := by
  obtain ⟨oc, od, doc, pm, an, cda, ct, osl, cc, rfl, lk, hcd, ⟨cl1, cd1, cs1, hcell⟩, cl2, cd2, vs2, cs2, file, tf, hcode, hvs2, hfile⟩ := F.ex
  intro A outer s H us vs Q E hr e0 r hsp
  obtain ⟨ws, rst, ev, hl, hz, hq0⟩ := hsp
  subst ev
  obtain ⟨u1, u2, eu, r1, r2⟩ := vals_split r
  subst eu
  have hn : H s.heap.objs.size = Option.none := e0.hok.fresh (Nat.le_refl _)
  have hl1 : u1.length = ps.length := by rw [← r1.length]; exact hl
  have hl2 : u2.length ≤ sizeLine := by rw [← r2.length]; exact hz
  have hbnd : Bnd CX P w K mg base (PySem.W.fnX x qual params (st0 :: st :: rest) scope [("__class__", cc)] .none .none doc pm an (.ref cda) ct) ⟨u1 ++ u2, []⟩ (ps ++ [pv]) A outer s H E (fun xs H2 => ∃ p, H p = Option.none ∧ xs = ws ++ [V.ref p] ∧ H2 = upd H p (.tup rst)) := fun A' Ex Q' h => by
    rw [hbs u1 u2 hl1]
    refine wpAny_bind (wpAny_newTuple (wpAny_pure ?_) hl2)
    have new : ObjOk P w (upd H s.heap.objs.size (.tup rst)) (s.heap.push ({ cls := .type "tuple", data := .seq u2.toArray } : Obj)) s.heap.objs.size (.tup rst) := ⟨hz, u2, r2, ⟨_, Heap.get?_push_size _ rfl, rfl, _, rfl⟩⟩
    have un := un_laid (fs := frs outer) (s := s) (o := ({ cls := .type "tuple", data := .seq u2.toArray } : Obj)) (u := .tup rst) hn
    have z := h _ _ (ws ++ [V.ref s.heap.objs.size]) (u1 ++ [Value.ref s.heap.objs.size]) (env0_laid e0 new) un rfl (fun e s' => hCX outer s H _ _ E e s' un (fun b o q => Heap.get?_push_of_some _ q) rfl) (r1.append (.cons rfl .nil))
      (by rw [List.length_append, List.length_append, hl] <;> rfl) ⟨_, hn, rfl, rfl⟩
    rw [List.zip_append hl1.symm] at z
    exact z
  have KX0 : K.In s.heap := e0.mod.kin.keeps fun b o e => (e0.bs b o e).1
  refine codeAny_call_function hr.depth (KX0 _ _ lk) rfl S.co S.gen rfl (PySem.W.codeRec_of KX0 hcd) (hbnd _ _ _ fun s2 H2 vs us e2 un ho hxe r hl2 g => ?_)
  obtain ⟨p, hpn, rfl, rfl⟩ := g
  have hsp := hq0 p hpn
  have KX : K.In s2.heap := e2.mod.kin.keeps fun b o e => (e2.bs b o e).1
  have lim : s2.heap.NoLimit := e2.mod.nolimit.keeps fun b o e => (e2.bs b o e).1
  have hk : ∀ y ∈ (ps ++ [pv]).zip us, scope.names.lookup y.1 = some .local ∨ (scope.names.lookup y.1 = some .cell ∧ ((ownC s2.heap.objs.size scope).lookup y.1).isSome = true) := fun y hy => by
    rcases S.par y.1 (List.of_mem_zip hy).1 with z | z
    · exact .inl z
    · obtain ⟨c, e⟩ := cell_has (n := s2.heap.objs.size + 1) z
      exact .inr ⟨z, by show ((ownC s2.heap.objs.size scope).lookup y.1).isSome = true; rw [e]; rfl⟩
  refine newEnv_cl S.kind hk fun s1 xx => ⟨lim.keeps xx.toInCall.keep, PySem.ks_codeAny_funcAt ?_⟩
  have zc := e2.mod.kin _ _ hcell
  have I := inv_scx (CX := CX) (E := E) (f := f) (x0 := x) (qual := qual) (params := params) (body := st0 :: st :: rest) (cda := cda) S hr.hd e2 hl2 r (e2.bs _ _ zc).2 ⟨_, _, KX _ _ hcell, rfl⟩ xx
  have hcl : (ownC s2.heap.objs.size scope ++ [(("__class__" : Str), cc)]).lookup ("__class__" : Str) = some cc := by
    rw [List.lookup_append]
    cases z : (ownC s2.heap.objs.size scope).lookup ("__class__" : Str) with
    | none => simp [List.lookup]
    | some c => exact absurd (List.mem_singleton_self _) (S.ncl _ (cells_mem _ _ z) rfl)
  have SX : SupX (scx CX P w K mg base N ⟨x, qual, params, st0 :: st :: rest, scope, ownC s2.heap.objs.size scope ++ [(("__class__" : Str), cc)], cda⟩ f A outer s2 (upd H p (.tup rst)) E) D f x0 :=
    ⟨hs, hnc, rfl, ⟨_, _, _, _, ar, lk, hp, har⟩, ⟨cda, _, _, _, _, file, tf, rfl, hcode, hvs2, hfile⟩, top, hN, hx.elim .inl fun z => .inr (.inl z), hxd, ⟨cc, _, _, _, hcl, hcell⟩, hm, hD⟩
  obtain ⟨t0, t1, t2, p0, p1, p2, hq⟩ := hbody cc cda A outer s2 _ _ Q E (hr.deeper _) hsp SX
  have fin : ∀ {σ' : L2.St} {H' : Hp} {v : V} {u : Value} {s' : Shared}, Inv (scx CX P w K mg base N ⟨x, qual, params, st0 :: st :: rest, scope, ownC s2.heap.objs.size scope ++ [(("__class__" : Str), cc)], cda⟩ f A outer s2 (upd H p (.tup rst)) E) [] σ' H' s' → RelV v u → Q v H' → CE outer P w H s Q u s' :=
    fun {σ' H' v u s'} J rv q => ⟨v, H', J.os.trans ho, J.bare, un.trans J.base, J.hok, rv, q⟩
  refine PySem.ks_wpAt_mono (PySem.ks_wpAt_execs_cons (wpAt_of_wpAny (wpAny_mono (p0.run [] _ _ _ _ I hq) (fun fl s' z => ?_) fun e s' z => z))) (fun fl s' z => z) (fun e s' hs => wpAny_mono hs (fun _ s'' z => hxe e s'' z) fun e' s'' z => hxe e' s'' z)
  cases fl with
  | brk => obtain ⟨_, _, _, q⟩ := z; exact q.elim
  | cont => obtain ⟨_, _, _, q⟩ := z; exact q.elim
  | ret u =>
    obtain ⟨v, σ', H', J, rv, q⟩ := z
    exact fin J rv q
  | next =>
    obtain ⟨σ0, H0, J0, q0⟩ := z
    refine PySem.ks_wpAt_execs_cons (PySem.ks_wpAt_mono (p1.run [] _ _ H0 _ J0 q0) (fun fl s' z => ?_) fun e s' z => z)
    cases fl with
    | brk => obtain ⟨_, _, _, q⟩ := z; exact q.elim
    | cont => obtain ⟨_, _, _, q⟩ := z; exact q.elim
    | ret u =>
      obtain ⟨v, σ', H', J, rv, q⟩ := z
      exact fin J rv q
    | next =>
      obtain ⟨σ', H', J, q⟩ := z
      refine wpAt_of_wpAny (wpAny_mono (p2.run [] s' σ' H' _ J q) (fun fl s2 z2 => ?_) fun e s2 z2 => z2)
      cases fl with
      | brk => obtain ⟨_, _, _, q⟩ := z2; exact q.elim
      | cont => obtain ⟨_, _, _, q⟩ := z2; exact q.elim
      | ret u =>
        obtain ⟨v, σ2, H2, J2, rv, q⟩ := z2
        exact fin J2 rv q
      | next =>
        obtain ⟨σ2, H2, J2, q⟩ := z2
        exact fin (v := V.non) (u := Value.none) J2 rfl q
/-! ### making an instance by a positional promise -/
theorem pe_imp {X : Cx} {e : Expr} {t u : TE} (h : PE X e t) (i : ∀ σ H Q, u σ H Q → t σ H Q) : PE X e u := ⟨fun pins s σ H Q I q => h.run pins s σ H Q I (i σ H Q q)⟩
section
variable {X : Cx} {CX : CXT} {k : Nat} {f C : Addr} {sp : Sp} {E : XK} {x : Str} {e : Expr} {es : List Expr} {t : TA} {p pos : Pos}
theorem pe_mkS (M : Mk X.K C f) (F : FnR X.prog X.w X.K X.mg X.base CX k f sp) (hr : Room (k + 1) X.A) (hg : Gl X x) (hm : X.mg x = some (.ref C)) (hx : Passes CX X E) (ha : PA X (e :: es) t) (hdb : (x == ("__debug__" : Str)) = false := by decide)
    (he : starEach (e :: es) X.env = (false, eval e X.env) :: starEach es X.env := by rfl) (hpl : (backTo pos (starEach es X.env)).any (·.1) = false := by rfl) : PE X (.Call (.Name x p) (e :: es) [] pos) (tMake C sp [] E t) := by
  refine pe_imp (pe_makeR M F hr hg hm hx ha hdb he hpl) fun σ H Q h => ?_
  unfold tMake at h
  simp only [List.append_nil] at h
  exact h
theorem pe_mkS0 (M : Mk X.K C f) (F : FnR X.prog X.w X.K X.mg X.base CX k f sp) (hr : Room (k + 1) X.A) (hg : Gl X x) (hm : X.mg x = some (.ref C)) (hx : Passes CX X E) (hdb : (x == ("__debug__" : Str)) = false := by decide) : PE X (.Call (.Name x p) [] [] pos) (tMake C sp [] E tNil) := by
  refine ⟨fun pins s σ H Q I h => ?_⟩
  refine wpAny_Call_Name_kw (ld_glob I hg hm ?_ hdb)
  exact PySem.W.callWith_K0 I.kIn M.kp (run_makeR (us := []) M F hr hx I .nil (by simpa only [tMake, tNil, List.append_nil] using h))
theorem run_makeRZ {pins : List (Addr × Obj)} {σ : L2.St} {H : Hp} {s : Shared} {Q : VK} {us : List Value} {vs : List V} {E : L2.St → XK} (M : Mk X.K C f) (F : FnR X.prog X.w X.K X.mg X.base CX k f sp) (hr : Room (k + 1) X.A) (hx : PassesAt CX X σ (E σ)) (I : Inv X pins σ H s) (r : Vals vs us)
    (h : ∀ x dx, H x = Option.none → H dx = Option.none → dx ≠ x → sp (V.ref x :: vs) (upd (upd H dx (.own x)) x (.ins C dx [])) (fun v H2 => v = .non ∧ Q (.ref x) H2) (E σ)) :
    wpAny (model X.prog X.w) X.A (call (.ref C) us) (EP X pins σ Q) X.xe s := by
  have hq := h (s.heap.objs.size + 1) s.heap.objs.size (I.hok.fresh (Nat.le_succ _)) (I.hok.fresh (Nat.le_refl _)) (Nat.ne_of_lt (Nat.lt_succ_self _))
  have J := Inv.made (C := C) I
  have w2 : Vals (V.ref (s.heap.objs.size + 1) :: vs) (Value.ref (s.heap.objs.size + 1) :: us) := .cons rfl r
  refine wpAny_call (make_map (f := f) I.kIn M.makes M.init (beq_iff_eq.mp M.fn) (codeAny_mono (F _ X.stack _ _ (Value.ref (s.heap.objs.size + 1) :: us) _ _ (E σ) (hr.make C us []) (J.env0.make C us []) w2 hq) fun r s' z => ?_))
  match r, z with
  | .error e, z => exact hx pins _ _ e s' J z
  | .ok (.ret u), z =>
    obtain ⟨v, H', I3, rv, ev, q3⟩ := J.after z
    subst ev
    exact ⟨rv, V.ref (s.heap.objs.size + 1), H', I3, rfl, q3⟩
  | .ok .next, z => exact z.elim
  | .ok .brk, z => exact z.elim
  | .ok .cont, z => exact z.elim
theorem pe_mkSZ {E : L2.St → XK} (M : Mk X.K C f) (F : FnR X.prog X.w X.K X.mg X.base CX k f sp) (hr : Room (k + 1) X.A) (hg : Gl X x) (hm : X.mg x = some (.ref C)) (hx : ∀ σ, PassesAt CX X σ (E σ)) (ha : PA X (e :: es) t) (hdb : (x == ("__debug__" : Str)) = false := by decide)
    (he : starEach (e :: es) X.env = (false, eval e X.env) :: starEach es X.env := by rfl) (hpl : (backTo pos (starEach es X.env)).any (·.1) = false := by rfl) : PE X (.Call (.Name x p) (e :: es) [] pos) (tMakeZ C sp [] E t) :=
  ⟨fun pins s σ G Q I h => wpAny_Call_Name_kw (ld_glob I hg hm (PySem.W.callWith_K (h₀ := X.base) I.ok.mod.kin M.kp (thn (ha.run pos pins s σ G _ I h) fun us s1 ⟨vs, H1, I1, r, q⟩ => ⟨I1.kIn, run_makeRZ M F hr (hx σ) I1 r (by simpa only [List.append_nil] using q)⟩) he hpl) hdb)⟩
theorem pe_mkSZ0 {E : L2.St → XK} (M : Mk X.K C f) (F : FnR X.prog X.w X.K X.mg X.base CX k f sp) (hr : Room (k + 1) X.A) (hg : Gl X x) (hm : X.mg x = some (.ref C)) (hx : ∀ σ, PassesAt CX X σ (E σ)) (hdb : (x == ("__debug__" : Str)) = false := by decide) : PE X (.Call (.Name x p) [] [] pos) (tMakeZ C sp [] E tNil) :=
  ⟨fun pins s σ G Q I h => wpAny_Call_Name_kw (ld_glob I hg hm (PySem.W.callWith_K0 I.kIn M.kp (run_makeRZ (us := []) M F hr (hx σ) I .nil (by simpa only [tMakeZ, tMake, tNil, List.append_nil] using h))) hdb)⟩
/-- a statement that is never reached -/
theorem ps_dead {st : Stmt} : PS X st (fun _ _ _ => False) := ⟨fun _ _ _ _ _ _ h => h.elim⟩
/-- one of two derivations -/
theorem pe_or {e : Expr} {t u : TE} (h : PE X e t) (g : PE X e u) : PE X e (fun σ H Q => t σ H Q ∨ u σ H Q) := ⟨fun pins s σ H Q I q => q.elim (h.run pins s σ H Q I) (g.run pins s σ H Q I)⟩
end
end Z
namespace Z
open PySem L2 PySem.Spec PyProof.Rows
/-! ### zip of a tuple and a list -/
def ItzM (K : PySem.W.Frag) (a b : Addr) : It where
  go i H := ∃ (xs ys : List V) (x y : V), SqT K H a xs ∧ SqL K H b ys ∧ xs[i]? = some x ∧ ys[i]? = some y
  yld i H v H' := ∃ T x y, v = .ref T ∧ Fr H T ∧ H' = upd H T (.tup [x, y]) ∧ (∀ xs, SqT K H a xs → xs[i]? = some x) ∧ ∀ ys, SqL K H b ys → ys[i]? = some y
  stop i H := ∃ xs ys : List V, SqT K H a xs ∧ SqL K H b ys ∧ i = xs.length ∧ xs.length = ys.length
/-- the five cells of a zip -/
def zCells (n : Nat) : List Addr := [n + 4, n + 2, n + 3, n, n + 1]
theorem zCells_le {n c : Nat} (h : c ∈ zCells n) : n ≤ c ∧ c < n + 5 := by
  simp only [zCells, List.mem_cons, List.not_mem_nil, or_false] at h
  omega
theorem neN {a b : Nat} (h : a < b ∨ b < a) : a ≠ b := by omega
theorem zSep {n a b : Nat} (ha : a < n) (hb : b < n) : ZipSep2 (n + 4) (n + 2) (n + 3) n (n + 1) [n, a] [n + 1, b] := by
  constructor <;> first
    | (show ¬ _ ∈ _; simp only [List.mem_cons, List.not_mem_nil, or_false, not_or]; exact ⟨neN (by omega), neN (by omega)⟩)
    | (simp only [List.mem_cons, true_or])
    | (show (_ : Nat) ≠ _; omega)
def tnM (n a b : Nat) (i : Nat) (h : Heap) : Prop := IsZip h (n + 4) (n + 2) (n + 3) .none ∧ IsTupOf2 h (n + 2) (.ref n) (.ref (n + 1)) ∧ (∃ x y, IsTupOf2 h (n + 3) x y) ∧ h.IsTupleIter n a i ∧ h.IsListIter (n + 1) b i
theorem turn_zipM {P : Program} {w : World} {K : PySem.W.Frag} {elts : List Expr} {kk : Nat} {tpos : Pos} {n a b : Nat} (ha : a < n) (hb : b < n) : Turn P w K (.Tuple elts kk tpos) (ItzM K a b) (zCells n) (n + 4) (tnM n a b) := by
  refine ⟨by simp [zCells], ?_, ?_, ?_, ?_, fun A i s Q E st q => wpAny_pyIter_zip st.1 q⟩
  · rintro i h ⟨t1, t2, ⟨x, y, t3⟩, ⟨u, t4, _, t6⟩, v, t7, _, t9⟩ c hc
    simp only [zCells, List.mem_cons, List.not_mem_nil, or_false] at hc
    rcases hc with rfl | rfl | rfl | rfl | rfl
    · exact ⟨_, t1, nofun⟩
    · exact ⟨_, t2, nofun⟩
    · exact ⟨_, t3, nofun⟩
    · exact ⟨u, t4, fun w e => by rw [e] at t6; cases t6⟩
    · exact ⟨v, t7, fun w e => by rw [e] at t9; cases t9⟩
  · rintro i h g ⟨t1, t2, ⟨x, y, t3⟩, t4, t5⟩ up
    have up' : ∀ c, c ∈ zCells n → ∀ o, h.get? c = some o → g.get? c = some o := up
    exact ⟨up' _ (by simp [zCells]) _ t1, up' _ (by simp [zCells]) _ t2, ⟨x, y, up' _ (by simp [zCells]) _ t3⟩, t4.at (up' _ (by simp [zCells])), t5.at (up' _ (by simp [zCells]))⟩
  · rintro X rfl rfl rfl hc i pins s σ H E I hf ⟨t1, t2, ⟨x0, y0, t3⟩, t4, t5⟩ ⟨xs, ys, x, y, qa, qb, ex, ey⟩
    obtain ⟨ta, ra, pa, _⟩ := I.tuple qa
    obtain ⟨tb, rb, pb, _⟩ := I.list qb
    obtain ⟨u, eu, ru⟩ := ra.get ex
    obtain ⟨v, ev, rv⟩ := rb.get ey
    have hz : n + 4 < s.heap.objs.size := Heap.lt_size t1
    have la : i < ta.toArray.size := by
      have := (List.getElem?_eq_some_iff.mp eu).1; simpa using this
    have lb : i < tb.toArray.size := by
      have := (List.getElem?_eq_some_iff.mp ev).1; simpa using this
    refine wpAny_pyNext_zipD2_item (zSep ha hb) (Draws.tuple (A := X.A.in1) (I.ok.hd hc) n a (neN (by omega)) ta.toArray) (Draws.list (A := X.A.in1) (I.ok.hd hc) (n + 1) b (neN (by omega)) tb.toArray) t1 t2 t3 ⟨t4, pa⟩ ⟨t5, pb.isList⟩ la lb fun p q g tk yp yq g1 g3 s1 s2 gT gs up => ?_
    have ep : p = u := by
      have := yp
      rw [List.getElem?_toArray, eu] at this
      exact (Option.some.inj this).symm
    have eq : q = v := by
      have := yq
      rw [List.getElem?_toArray, ev] at this
      exact (Option.some.inj this).symm
    subst ep eq
    refine ⟨_, rfl, wpAny_letOwnedTupleGo_zip (s := { s with heap := g, toks := tk }) g1 fun g' z' sb => ?_⟩
    have cT : g'.get? s.heap.objs.size = some { cls := .type "tuple", data := .seq #[p, q] } := (sb.2 _ (neN (by omega))).trans gT
    have old : ∀ c o, c ∉ zCells n → s.heap.get? c = some o → g'.get? c = some o := fun c o hn e => by
      simp only [zCells, List.mem_cons, List.not_mem_nil, or_false, not_or] at hn
      exact (sb.2 c hn.1).trans (up c o hn.1 hn.2.2.1 hn.2.2.2.1 hn.2.2.2.2 e)
    have I2 : Inv X pins σ (upd H s.heap.objs.size (.tup [x, y])) { s with heap := g', toks := tk } :=
      I.turnedNew (ch := zCells n) (fun c o hn e => old c o hn e) hf (Nat.le_refl _) ⟨by show 2 ≤ sizeLine; decide, [p, q], .cons ru (.cons rv .nil), _, cT, rfl, _, rfl⟩
    refine ⟨.ref s.heap.objs.size, _, I2, rfl, ⟨_, x, y, rfl, I.hok.fresh (Nat.le_refl _), rfl, fun l e => by rw [I.tuple_inj e qa]; exact ex, fun l e => by rw [I.list_inj e qb]; exact ey⟩, ⟨z', ?_, ⟨p, q, ?_⟩, ?_, ?_⟩, fun c hcm => ?_⟩
    · exact (sb.2 _ (neN (by omega))).trans (up _ _ (neN (by omega)) (neN (by omega)) (neN (by omega)) (neN (by omega)) t2)
    · exact (sb.2 _ (neN (by omega))).trans g3
    · exact s1.1.at fun o e => (sb.2 _ (neN (by omega))).trans e
    · exact s2.1.at fun o e => (sb.2 _ (neN (by omega))).trans e
    · rw [upd_ne (neN (by have := zCells_le hcm; omega))]
      exact (hf c hcm).1
  · rintro X rfl rfl rfl hc i pins s σ H E I hf ⟨t1, t2, ⟨x0, y0, t3⟩, t4, t5⟩ ⟨xs, ys, qa, qb, hle, hll⟩
    obtain ⟨ta, ra, pa, _⟩ := I.tuple qa
    obtain ⟨tb, rb, pb, _⟩ := I.list qb
    have la := ra.length
    have lb := rb.length
    refine wpAny_pyNext_zipD2_end (zSep ha hb) (Draws.tuple (A := X.A.in1) (I.ok.hd hc) n a (neN (by omega)) ta.toArray) (Draws.list (A := X.A.in1) (I.ok.hd hc) (n + 1) b (neN (by omega)) tb.toArray) t1 t2 t3 ⟨t4, pa⟩ ⟨t5, pb.isList⟩ (by simp; omega) (by simp; omega) (.inl (by simp; omega)) fun g tk up => ⟨rfl, ?_⟩
    obtain ⟨f0, f1, f2, f3, f4, f5⟩ := hf (n + 4) (by simp [zCells])
    exact I.turnedL (t' := tk) (ch := zCells n) (fun c o hn e => by
      simp only [zCells, List.mem_cons, List.not_mem_nil, or_false, not_or] at hn
      exact up c o hn.1 hn.2.2.1 hn.2.2.2.1 hn.2.2.2.2 e) hf
def dZM (K : PySem.W.Frag) (R : It → Hp → Prop) : List V → Hp → Prop := fun vs H1 => ∃ a b xs ys, vs = [.ref a, .ref b] ∧ SqT K H1 a xs ∧ SqL K H1 b ys ∧ R (ItzM K a b) H1
def iZipM (K : PySem.W.Frag) (ta : TA) : TI := fun σ H R => ta σ H (dZM K R)
theorem pi_zipM {X : Cx} {K : PySem.W.Frag} (hK : X.K = K) {e e2 : Expr} {ta : TA} {p pos tpos : Pos} {elts : List Expr} {kk : Nat} (hg : Gl X "zip") (hm : X.mg "zip" = none) (ha : PA X [e, e2] ta)
    (h1 : starEach [e, e2] X.env = (false, eval e X.env) :: starEach [e2] X.env := by rfl) (h2 : (backTo pos (starEach [e2] X.env)).any (·.1) = false := by rfl) :
    PI X (.Tuple elts kk tpos) (.Call (.Name "zip" p) [e, e2] [] pos) (iZipM K ta) := by
  subst hK
  constructor
  intro pins s σ H R I h
  have go : ∀ us s1, (∃ vs H1, Inv X pins σ H1 s1 ∧ Vals vs us ∧ dZM X.K R vs H1) → wpAny (model X.prog X.w) X.A (call (.type "zip") us) (fun v s2 => wpAny (model X.prog X.w) X.A (pyIter v) (PIE X pins σ (.Tuple elts kk tpos) R) X.xe s2) X.xe s1 := by
    rintro us s1 ⟨vs, H1, I1, r1, a, b, xs, ys, rfl, qa, qb, q⟩
    cases r1 with
    | cons r rr =>
      cases rr with
      | cons r' rr =>
        cases rr; cases r; cases r'
        obtain ⟨ta', ra, pa, _⟩ := I1.tuple qa
        obtain ⟨tb, rb, pb, _⟩ := I1.list qb
        have la : a < s1.heap.objs.size := by obtain ⟨o, ho, _⟩ := id pa; exact Heap.lt_size ho
        have lb : b < s1.heap.objs.size := pb.lt
        refine zip_begins2 (begins_tuple a ta'.toArray) (begins_list b tb.toArray) pa pb.isList fun g gZ gT gO g1 g2 gs up => wpAny_pyIter_zip gZ ?_
        refine ⟨s1.heap.objs.size + 4, zCells s1.heap.objs.size, tnM s1.heap.objs.size a b, _, H1, rfl, I1.kept (t' := s1.toks) up, turn_zipM la lb, ⟨gZ, gT, ⟨_, _, gO⟩, ⟨_, g1, rfl, rfl⟩, _, g2, rfl, rfl⟩, fun c hc => ?_, q⟩
        have := (zCells_le hc).1
        exact I1.fpOk this (I1.hok.fresh this)
  exact Call_ (ld_blt I hg hm boot_zip (PyProof.Rows.callWith_type1 (thn (ha.run pos pins s σ H _ I h) go) h1 h2))
section
variable {K : PySem.W.Frag} {σ : L2.St} {H H' : Hp} {a b : Addr} {xs ys : List V} {R : It → Hp → Prop} {ta : TA}
theorem w_iZM (h : ta σ H (dZM K R)) : iZipM K ta σ H R := h
theorem i_ZM (hx : SqT K H a xs) (hy : SqL K H b ys) (hl : xs.length = ys.length) (k : ∀ J, Src J (fun H' => SqT K H' a xs ∧ SqL K H' b ys) xs.length (fun i x H'' => ∃ T y z, x = .ref T ∧ At H'' T (.tup [y, z]) ∧ xs[i]? = some y ∧ ys[i]? = some z) → R J H) : dZM K R [.ref a, .ref b] H := by
  refine ⟨a, b, xs, ys, rfl, hx, hy, k _ ⟨fun i H' hp hi => ⟨xs, ys, xs[i], ys[i]'(by omega), hp.1, hp.2, List.getElem?_eq_getElem hi, List.getElem?_eq_getElem (by omega)⟩, fun H' hp => ⟨xs, ys, hp.1, hp.2, rfl, hl⟩, fun i H' x H'' hp hi hy => ?_⟩⟩
  obtain ⟨T, y, z, e1, e2, e3, f1, f2⟩ := hy
  exact ⟨by rw [e3]; exact Ex.new e2, T, y, z, e1, by rw [e3]; exact upd_same, f1 xs hp.1, f2 ys hp.2⟩
end
end Z
namespace Z
open PySem HandSHeadRun
/-! ### the head in parts: each runs the top anew, none looks at all -/
theorem opt_two {α β γ : Type} {R : Option α} {f : α → β} {g : α → γ} {b : β} {c : γ} (h1 : R.map f = some b) (h2 : R.map g = some c) : R.map (fun x => (f x, g x)) = some (b, c) := by
  cases R with
  | none => cases h1
  | some x =>
    cases h1
    cases h2
    rfl
abbrev KX (n : Nat) (s : PySem.W.SharedT) : PySem.W.Frag := He.frG (getT s) (PySem.cStatics :: He.asD (getT s) n)
theorem run_join {r : PySem.W.OpenRow} {q : Program} {n M : Nat} {fa fa1 fa2 : List (PySem.W.Frag → Bool)} {fn fs : List He.DefD} {loose : List Str} {w : World} (e : fa = fa1 ++ fa2)
    (h1 : (wholeF (fun p => stepQ (denQ tabQ) p w) fenceQ M r.prog).map (fun x => (looksF r.prog x.1.heap x.2.abs, seenQ q loose (importedModules r.prog.main.body) (fun s => PySem.W.xlAt q [] s && PySem.W.recOk r.toRowW.records s) x.2.abs)) = some (true, PySem.W.openGood q loose))
    (h2 : (wholeF (fun p => stepQ (denQ tabQ) p w) fenceQ M r.prog).map (fun x => fa1.all fun f => f (KX n x.2)) = some true)
    (h3 : (wholeF (fun p => stepQ (denQ tabQ) p w) fenceQ M r.prog).map (fun x => fa2.all fun f => f (KX n x.2)) = some true)
    (h4 : (wholeF (fun p => stepQ (denQ tabQ) p w) fenceQ M r.prog).map (fun x => (fn.all fun d => d.ok (KX n x.2), fn.map (fun d => He.fnW (KX n x.2) d.at_), fs.map fun d => fnWs (KX n x.2) d.at_)) = some (true, fn.map He.DefD.val, fs.map He.DefD.val)) :
    RunEqI r q (hookY n fa fn fs) (fun s => obsY n fa fn fs (getT s)) M loose w := by
  subst e
  unfold RunEqI
  generalize wholeF (fun p => stepQ (denQ tabQ) p w) fenceQ M r.prog = R at *
  cases R with
  | none => cases h1
  | some x =>
    have a1 := Option.some.inj h1
    have a2 : (fa1.all fun f => f (KX n x.2)) = true := Option.some.inj h2
    have a3 : (fa2.all fun f => f (KX n x.2)) = true := Option.some.inj h3
    have a4 := Option.some.inj h4
    obtain ⟨b1, b2⟩ := Prod.mk.inj a1
    obtain ⟨b3, b4⟩ := Prod.mk.inj a4
    obtain ⟨b4, b5⟩ := Prod.mk.inj b4
    refine congrArg some (Prod.ext b1 (Prod.ext b2 (Prod.ext ?_ ?_)))
    · show (((fa1 ++ fa2).all fun f => f (KX n x.2)) && fn.all fun d => d.ok (KX n x.2)) = true
      rw [List.all_append, a2, a3, b3]
      rfl
    · show (fn.map (fun d => He.fnW (KX n x.2) d.at_) ++ fs.map fun d => fnWs (KX n x.2) d.at_) = fn.map He.DefD.val ++ fs.map He.DefD.val
      rw [b4, b5]
end Z
namespace Z
open PySem L2 PySem.Spec PyProof.Rows
/-! ### classmethods: the head's facts -/
/-- one def that is a classmethod's -/
def clmB (d : He.DefD) (C m : Str) (K : PySem.W.Frag) : Bool := (match K.lookup (He.fAd K (C, some m)) with
  | some ⟨_, _, .func _, _⟩ => false
  | _ => true) && He5.DefA.ok K ⟨fun K => wfA K C m, d.name, d.qual, d.params, d.body, d.scope, [], []⟩
theorem clmB_ok {K : PySem.W.Frag} {d : He.DefD} {C m : Str} (e : fnWs K (C, some m) = d.val) (c : clmB d C m K = true) : ∃ fd, FunD K d.name d.qual d.params d.body d.scope [] [] (wfA K C m) fd := by
  obtain ⟨c1, c2⟩ := He.ba c
  have e2 : He5.fnA K (wfA K C m) = d.val := by
    rw [← e]
    unfold fnWs
    split
    · rename_i h
      rw [h] at c1
      cases c1
    · rfl
  exact He5.DefA.funD (d := ⟨fun K => wfA K C m, d.name, d.qual, d.params, d.body, d.scope, [], []⟩) e2 c2
/-- C.m is a classmethod -/
def cmB (C m : Str) (K : PySem.W.Frag) : Bool := He5.wrapB K (He.ga K C) "classmethod" "classmethod.__get__" m && PySem.W.fnIn K (wfA K C m)
theorem cmB_ok {K : PySem.W.Frag} {C m : Str} (c : cmB C m K = true) : ClX.CMet K (He.ga K C) (.type "type") m (He.ma K (He.ga K C) m) (wfA K C m) := He5.cmet_of (He.ba c).1 (He.ba c).2
def crB (C : Str) (K : PySem.W.Frag) : Bool := PySem.W.readsIn K (He.ga K C) (.type "type")
theorem crB_ok {K : PySem.W.Frag} {C : Str} (c : crB C K = true) : ClX.CRead K (He.ga K C) (.type "type") := by
  refine ⟨c, ?_⟩
  have g := c
  unfold crB PySem.W.readsIn at g
  have g3 := (He.ba (He.ba (He.ba g).1).1)
  have g4 := (He.ba g3.1).2
  have g5 := g3.2
  unfold PySem.W.specialIn
  rw [beq_iff_eq.mp g4]
  exact beq_iff_eq.mp g5
/-- C.f is the int n -/
def cvB (C f : Str) (n : Int) (K : PySem.W.Frag) : Bool := match PySem.W.findCls K (.ref (He.ga K C)) (.type "type") f with
  | some (.val (.int k _)) => decide (k = n)
  | _ => false
theorem cvB_ok {K : PySem.W.Frag} {C f : Str} {n : Int} (c : cvB C f n K = true) : ∃ u, ClX.CVal K (He.ga K C) (.type "type") f (.int n) u := by
  unfold cvB at c
  split at c
  · rename_i k tk h
    have := of_decide_eq_true c
    subst this
    exact ⟨_, h, ⟨tk, rfl⟩⟩
  · cases c
theorem passOf {CX : CXT} {X : Cx} {E : XK} (h : Passes CX X E) (σ : L2.St) : PassesAt CX X σ E := fun pins H s e s' I c => h pins σ H s e s' I c
/-! ### C.m(..) -/
section
variable {X : Cx} {CX : CXT} {k : Nat} {C f g p : Addr} {mc : Value} {fd : FuncData} {ps : List Str} {sp : Sp} {dvs : List V} {ds : List Value} {E : L2.St → XK} {x m : Str} {np pos apos : Pos} {o e : Expr} {es : List Expr} {tf ta : TE} {t : TA}
def dCM (C : Addr) (sp : Sp) (E : XK) (t : TA) (σ : L2.St) (Q : VK) : VK := fun y H1 => y = .ref C ∧ t σ H1 fun vs H2 => sp (.ref C :: vs) H2 Q E
def tCM (C : Addr) (sp : Sp) (E : L2.St → XK) (ta : TE) (t : TA) : TE := fun σ H Q => ta σ H (dCM C sp (E σ) t σ Q)
theorem pe_cm {pl : Sem Bool} (he : PE X o ta) (r : ClX.CRead X.K C mc) (c : ClX.CMet X.K C mc m p g) (F : FnR X.prog X.w X.K X.mg X.base CX k g sp) (hr : Room k X.A) (hx : ∀ σ, PassesAt CX X σ (E σ)) (ha : PA X (e :: es) t)
    (hst : starEach (e :: es) X.env = (false, eval e X.env) :: starEach es X.env := by rfl) (hpl : (backTo pos (starEach es X.env)).any (·.1) = false := by rfl)
    (ht : eval (.Call (.Attribute o m apos) (e :: es) [] pos) X.env = (do let ov ← eval o X.env; standAt apos.atName; let (f, first) ← holding [ov] (getMethod ov m pl); callWith pos f first (backTo pos (starEach (e :: es) X.env)) (backToKw pos (keywordEach [] X.env))) := by rfl) :
    PE X (.Call (.Attribute o m apos) (e :: es) [] pos) (tCM C sp E ta t) := by
  refine ⟨fun pins s σ G Q I h => PySem.W.methodCall_KW (pl := pl) (thn (he.run pins s σ G _ I h) fun u s1 ⟨z, H1, I1, rx, ex, q⟩ => ?_) ht⟩
  subst ex
  obtain rfl : u = Value.ref C := rx
  refine ClX.getmethcm_ok I1 r c fun s2 I2 => ClX.callwith_cm I2 (ClX.base_none I1 (Nat.le_refl _)) c.fi (thn (ha.run pos _ s2 σ H1 _ I2 q) fun us s3 ⟨vs, H2, I3, rv, q2⟩ => ⟨⟨ClX.pin_at I3, I3.kIn⟩, ?_⟩) hst hpl
  have y : wpAny (model X.prog X.w) X.A (call (.ref s1.heap.objs.size) us) (EP X ((s1.heap.objs.size, PySem.W.methodObj (.ref g) (.ref C)) :: pins) σ Q) X.xe s3 :=
    wpAny_call (PySem.W.method_call (ClX.pin_at I3) (runR (us := .ref C :: us) (vs := .ref C :: vs) F hr (hx σ) I3 (.cons rfl rv) q2))
  exact thn y fun _ _ z => ClX.unpinE z
/-! ### cls(..), the class in a slot -/
def dMkV (C : Addr) (sp : Sp) (dvs : List V) (E : XK) (t : TA) (σ : L2.St) (Q : VK) : VK := fun y H1 => y = .ref C ∧ t σ H1 (dMk C sp dvs E Q)
def tMkV (C : Addr) (sp : Sp) (dvs : List V) (E : L2.St → XK) (tf : TE) (t : TA) : TE := fun σ H Q => tf σ H (dMkV C sp dvs (E σ) t σ Q)
theorem pe_mkV (M : Mk X.K C f) (F : FnOk X.prog X.w X.K X.mg X.base CX k f fd ps sp) (hr : Room (k + 1) X.A) (hb : Binds X.K fd ps ds) (hd : Vals dvs ds) (hx : ∀ σ, PassesAt CX X σ (E σ)) (hf : PE X (.Name x np) tf) (ha : PA X (e :: es) t)
    (hst : starEach (e :: es) X.env = (false, eval e X.env) :: starEach es X.env := by rfl) (hpl : (backTo pos (starEach es X.env)).any (·.1) = false := by rfl) : PE X (.Call (.Name x np) (e :: es) [] pos) (tMkV C sp dvs E tf t) := by
  refine ⟨fun pins s σ G Q I h => wpAny_Call_Name_kw (thn (hf.run pins s σ G _ I h) fun u s1 ⟨c, H1, I1, rc, ec, q1⟩ => ?_)⟩
  subst ec
  obtain rfl : u = Value.ref C := rc
  exact PySem.W.callWith_K (h₀ := X.base) I.ok.mod.kin M.kp (thn (ha.run pos pins s1 σ H1 _ I1 q1) fun us s2 ⟨vs, H2, I2, r, q⟩ => ⟨I2.kIn, run_makeZ M F hr hb hd (hx σ) I2 r q⟩) hst hpl
/-! ### cls.f -/
def dCV (K : PySem.W.Frag) (f : Str) (Q : VK) : VK := fun y H1 => ∃ C mc v u, y = .ref C ∧ ClX.CRead K C mc ∧ ClX.CVal K C mc f v u ∧ Q v H1
def tCV (K : PySem.W.Frag) (ta : TE) (f : Str) : TE := fun σ H Q => ta σ H (dCV K f Q)
theorem pe_cv {K : PySem.W.Frag} (hK : X.K = K) {f : Str} {pos : Pos} (he : PE X e ta) (hb : attributeBase e f X.env (eval e X.env) = eval e X.env := by rfl) : PE X (.Attribute e f pos) (tCV K ta f) := hK ▸ ClX.pe_cval he hb
end
section
variable {K : PySem.W.Frag} {σ : L2.St} {H : Hp} {Q : VK} {C : Addr} {mc : Value} {sp : Sp} {dvs : List V} {ta tf : TE} {t : TA} {f : Str} {v : V}
theorem w_tCM {E : L2.St → XK} (h : ta σ H (dCM C sp (E σ) t σ Q)) : tCM C sp E ta t σ H Q := h
theorem w_dCM {E : XK} (h : t σ H fun vs H2 => sp (.ref C :: vs) H2 Q E) : dCM C sp E t σ Q (.ref C) H := ⟨rfl, h⟩
theorem w_tMkV {E : L2.St → XK} (h : tf σ H (dMkV C sp dvs (E σ) t σ Q)) : tMkV C sp dvs E tf t σ H Q := h
theorem w_dMkV {E : XK} (h : t σ H (dMk C sp dvs E Q)) : dMkV C sp dvs E t σ Q (.ref C) H := ⟨rfl, h⟩
theorem w_tCV (h : ta σ H (dCV K f Q)) : tCV K ta f σ H Q := h
theorem w_dCV (r : ClX.CRead K C mc) (c : ∃ u, ClX.CVal K C mc f v u) (q : Q v H) : dCV K f Q (.ref C) H := by
  obtain ⟨u, c⟩ := c
  exact ⟨C, mc, v, u, rfl, r, c, q⟩
end
end Z
namespace R
open PySem L2 Z
def top (i : Nat) : Stmt := PySem.Challenge.pw_dearestshelf_k45_whole_like_weights.main.body.getD i (.Pass ⟨0, 0, 0, 0⟩)
abbrev s_Ratio___add__ : Stmt := inClass (top 12) 1
theorem sc_Ratio___add__ : FnScope ["self", "other"] ["self", "other"] (defScope s_Ratio___add__) := ⟨rfl, rfl, rfl, by decide +kernel, rfl, by decide +kernel, by decide +kernel⟩
abbrev s_Ratio___ge__ : Stmt := inClass (top 12) 16
theorem sc_Ratio___ge__ : FnScope ["self", "other"] ["self", "other"] (defScope s_Ratio___ge__) := ⟨rfl, rfl, rfl, by decide +kernel, rfl, by decide +kernel, by decide +kernel⟩
abbrev s_Ratio___init__ : Stmt := inClass (top 12) 0
theorem sc_Ratio___init__ : FnScope ["self", "top", "bottom", "shared"] ["self", "top", "bottom"] (defScope s_Ratio___init__) := ⟨rfl, rfl, rfl, by decide +kernel, rfl, by decide +kernel, by decide +kernel⟩
abbrev s_Ratio___lt__ : Stmt := inClass (top 12) 13
theorem sc_Ratio___lt__ : FnScope ["self", "other"] ["self", "other"] (defScope s_Ratio___lt__) := ⟨rfl, rfl, rfl, by decide +kernel, rfl, by decide +kernel, by decide +kernel⟩
abbrev s_Ratio___mul__ : Stmt := inClass (top 12) 5
theorem sc_Ratio___mul__ : FnScope ["self", "other"] ["self", "other"] (defScope s_Ratio___mul__) := ⟨rfl, rfl, rfl, by decide +kernel, rfl, by decide +kernel, by decide +kernel⟩
abbrev s_Ratio_over : Stmt := inClass (top 12) 18
theorem sc_Ratio_over : FnScope ["self", "other"] ["self", "other"] (defScope s_Ratio_over) := ⟨rfl, rfl, rfl, by decide +kernel, rfl, by decide +kernel, by decide +kernel⟩
abbrev s_Rule___init__ : Stmt := inClass (top 23) 2
theorem sc_Rule___init__ : FnScope ["self", "many"] ["self", "many"] (defScope s_Rule___init__) := ⟨rfl, rfl, rfl, by decide +kernel, rfl, by decide +kernel, by decide +kernel⟩
abbrev s_Rule_shares : Stmt := inClass (top 23) 3
theorem sc_Rule_shares : FnScope ["self", "lot", "_"] ["self", "lot"] (defScope s_Rule_shares) := ⟨rfl, rfl, rfl, by decide +kernel, rfl, by decide +kernel, by decide +kernel⟩
abbrev s_Stepping_best : Stmt := inClass (top 26) 8
theorem sc_Stepping_best : FnScope ["self", "prices", "lot", "values", "total", "weight", "value"] ["self", "prices"] (defScope s_Stepping_best) := ⟨rfl, rfl, rfl, by decide +kernel, rfl, by decide +kernel, by decide +kernel⟩
abbrev s_Stepping_like : Stmt := inClass (top 26) 9
theorem sc_Stepping_like : FnScope ["cls", "rule", "steps", "thing", "row", "leaves", "_"] ["cls", "rule"] (defScope s_Stepping_like) := ⟨rfl, rfl, rfl, by decide +kernel, rfl, by decide +kernel, by decide +kernel⟩
abbrev s_Stepping_onward : Stmt := inClass (top 26) 5
theorem sc_Stepping_onward : FnScope ["self", "thing", "values", "total", "weight", "value"] ["self", "thing", "values"] (defScope s_Stepping_onward) := ⟨rfl, rfl, rfl, by decide +kernel, rfl, by decide +kernel, by decide +kernel⟩
abbrev s_Stepping_settled : Stmt := inClass (top 26) 6
theorem sc_Stepping_settled : FnScope ["self", "prices", "lot", "values", "kept", "thing"] ["self", "prices"] (defScope s_Stepping_settled) := ⟨rfl, rfl, rfl, by decide +kernel, rfl, by decide +kernel, by decide +kernel⟩
abbrev s_Stepping_step_total : Stmt := inClass (top 26) 2
theorem sc_Stepping_step_total : FnScope ["self", "thing"] ["self", "thing"] (defScope s_Stepping_step_total) := ⟨rfl, rfl, rfl, by decide +kernel, rfl, by decide +kernel, by decide +kernel⟩
abbrev s_Stepping_values_of : Stmt := inClass (top 26) 4
theorem sc_Stepping_values_of : FnScope ["self", "lot", "prices", "out", "rows", "right", "at", "thing", "line", "values", "value", "other", "price"] ["self", "lot", "prices"] (defScope s_Stepping_values_of) := ⟨rfl, rfl, rfl, by decide +kernel, rfl, by decide +kernel, by decide +kernel⟩
abbrev s_Weighted_best : Stmt := inClass (top 28) 3
theorem sc_Weighted_best : FnScope ["self", "prices"] ["self", "prices"] (defScope s_Weighted_best) := ⟨rfl, rfl, rfl, by decide +kernel, rfl, by decide +kernel, by decide +kernel⟩
abbrev s_Weighted_total_of : Stmt := inClass (top 28) 1
theorem sc_Weighted_total_of : FnScope ["self", "lot", "thing"] ["self", "lot"] (defScope s_Weighted_total_of) := ⟨rfl, rfl, rfl, by decide +kernel, rfl, by decide +kernel, by decide +kernel⟩
abbrev s__law_cell : Stmt := top 31
theorem sc__law_cell : FnScope ["_law_script", "_law_place"] ["_law_script", "_law_place"] (defScope s__law_cell) := ⟨rfl, rfl, rfl, by decide +kernel, rfl, by decide +kernel, by decide +kernel⟩
abbrev s__law_draws : Stmt := top 32
theorem sc__law_draws : FnScope ["_law_cell_here", "_law_sizes", "_law_left", "_law_found", "_law_size", "_law_k", "_law_low", "_law_high"] ["_law_cell_here", "_law_sizes"] (defScope s__law_draws) := ⟨rfl, rfl, rfl, by decide +kernel, rfl, by decide +kernel, by decide +kernel⟩
abbrev s__law_is_best : Stmt := top 43
theorem sc__law_is_best : FnScope ["_law_best", "_law_weights", "_law_aside", "_law_prices", "_law_lot_here", "_law_due", "_law_k"] ["_law_best", "_law_weights", "_law_aside", "_law_prices"] (defScope s__law_is_best) := ⟨rfl, rfl, rfl, by decide +kernel, rfl, by decide +kernel, by decide +kernel⟩
abbrev s__law_is_int : Stmt := top 36
theorem sc__law_is_int : FnScope ["_law_x"] ["_law_x"] (defScope s__law_is_int) := ⟨rfl, rfl, rfl, by decide +kernel, rfl, by decide +kernel, by decide +kernel⟩
abbrev s__law_is_like : Stmt := top 41
theorem sc__law_is_like : FnScope ["_law_chain", "_law_weights", "_law_aside", "_law_many", "_law_k", "_law_weight", "_law_j"] ["_law_chain", "_law_weights", "_law_aside"] (defScope s__law_is_like) := ⟨rfl, rfl, rfl, by decide +kernel, rfl, by decide +kernel, by decide +kernel⟩
abbrev s__law_lot : Stmt := top 35
theorem sc__law_lot : FnScope ["_law_bits", "_law_many", "_law_found", "_law_left", "_law_thing"] ["_law_bits", "_law_many"] (defScope s__law_lot) := ⟨rfl, rfl, rfl, by decide +kernel, rfl, by decide +kernel, by decide +kernel⟩
abbrev s__law_refused : Stmt := top 42
theorem sc__law_refused : FnScope ["_law_rule", "e"] ["_law_rule"] (defScope s__law_refused) := ⟨rfl, rfl, rfl, by decide +kernel, rfl, by decide +kernel, by decide +kernel⟩
abbrev s__law_row : Stmt := top 33
theorem sc__law_row : FnScope ["_law_cell_here", "_law_count", "_law_drawn", "_law_bound", "_law_k", "_law_value"] ["_law_cell_here", "_law_count"] (defScope s__law_row) := ⟨rfl, rfl, rfl, by decide +kernel, rfl, by decide +kernel, by decide +kernel⟩
abbrev s__law_same : Stmt := top 37
theorem sc__law_same : FnScope ["_law_x", "_law_top", "_law_bottom"] ["_law_x", "_law_top", "_law_bottom"] (defScope s__law_same) := ⟨rfl, rfl, rfl, by decide +kernel, rfl, by decide +kernel, by decide +kernel⟩
abbrev s__law_same_lot : Stmt := top 38
theorem sc__law_same_lot : FnScope ["_law_x", "_law_due", "_law_k"] ["_law_x", "_law_due"] (defScope s__law_same_lot) := ⟨rfl, rfl, rfl, by decide +kernel, rfl, by decide +kernel, by decide +kernel⟩
abbrev s__law_same_row : Stmt := top 39
theorem sc__law_same_row : FnScope ["_law_x", "_law_pairs", "_law_k"] ["_law_x", "_law_pairs"] (defScope s__law_same_row) := ⟨rfl, rfl, rfl, by decide +kernel, rfl, by decide +kernel, by decide +kernel⟩
abbrev s__law_ups : Stmt := top 34
theorem sc__law_ups : FnScope ["_law_row_here", "_law_number"] ["_law_row_here"] (defScope s__law_ups) := ⟨rfl, rfl, rfl, by decide +kernel, rfl, by decide +kernel, by decide +kernel⟩
abbrev s__law_worth : Stmt := top 40
theorem sc__law_worth : FnScope ["_law_weights", "_law_aside", "_law_prices", "_law_lot_here", "_law_top", "_law_bottom", "_law_thing"] ["_law_weights", "_law_aside", "_law_prices", "_law_lot_here"] (defScope s__law_worth) := ⟨rfl, rfl, rfl, by decide +kernel, rfl, by decide +kernel, by decide +kernel⟩
abbrev s_check_lot : Stmt := top 17
theorem sc_check_lot : FnScope ["lot", "many", "before", "thing"] ["lot", "many"] (defScope s_check_lot) := ⟨rfl, rfl, rfl, by decide +kernel, rfl, by decide +kernel, by decide +kernel⟩
abbrev s_check_prices : Stmt := top 18
theorem sc_check_prices : FnScope ["prices", "many", "at", "price"] ["prices", "many"] (defScope s_check_prices) := ⟨rfl, rfl, rfl, by decide +kernel, rfl, by decide +kernel, by decide +kernel⟩
abbrev s_check_steps : Stmt := top 25
theorem sc_check_steps : FnScope ["first", "aside", "steps", "leaves", "at", "weight", "row"] ["first", "aside", "steps", "leaves"] (defScope s_check_steps) := ⟨rfl, rfl, rfl, by decide +kernel, rfl, by decide +kernel, by decide +kernel⟩
abbrev s_dearer_than_worth : Stmt := top 29
theorem sc_dearer_than_worth : FnScope ["rule", "prices", "lot", "brought", "total", "worth", "thing"] ["rule", "prices"] (defScope s_dearer_than_worth) := ⟨rfl, rfl, rfl, by decide +kernel, rfl, by decide +kernel, by decide +kernel⟩
abbrev s_dearest_order : Stmt := top 21
theorem sc_dearest_order : FnScope ["prices", "order", "thing", "price", "place"] ["prices"] (defScope s_dearest_order) := ⟨rfl, rfl, rfl, by decide +kernel, rfl, by decide +kernel, by decide +kernel⟩
abbrev s_law : Stmt := top 44
theorem sc_law : FnScope ["_law_script", "_law_d", "_law_many", "_law_row_here", "_law_weights", "_law_aside", "_law_prices", "_law_passed", "_law_rule", "_law_chain", "_law_lots", "_law_lot_here", "_law_total", "_law_due", "_law_one", "_law_two", "_law_refused_here", "_law_ones", "_law_thing"] ["_law_script"] (defScope s_law) := ⟨rfl, rfl, rfl, by decide +kernel, rfl, by decide +kernel, by decide +kernel⟩
abbrev s_lot_at : Stmt := top 19
theorem sc_lot_at : FnScope ["number", "many", "thing"] ["number", "many"] (defScope s_lot_at) := ⟨rfl, rfl, rfl, by decide +kernel, rfl, by decide +kernel, by decide +kernel⟩
abbrev s_pivoted : Stmt := top 14
theorem sc_pivoted : FnScope ["rows", "row", "column", "scale", "chosen", "pivot", "after", "at", "line", "factor", "x", "y"] ["rows", "row", "column", "scale"] (defScope s_pivoted) := ⟨rfl, rfl, rfl, by decide +kernel, rfl, by decide +kernel, by decide +kernel⟩
abbrev s_solve : Stmt := top 15
theorem sc_solve : FnScope ["rows", "right", "size", "table", "scale", "at", "other", "line", "last"] ["rows", "right"] (defScope s_solve) := ⟨rfl, rfl, rfl, by decide +kernel, rfl, by decide +kernel, by decide +kernel⟩
abbrev s_BadNumber___init__ : Stmt := inClass (top 7) 0
theorem sc_BadNumber___init__ : NdefX.NScope ["self", "what", "at", "__class__"] ["self", "what", "at"] ["__class__"] (defScope s_BadNumber___init__) := NdefX.nscope_by (by decide +kernel)
abbrev s_Stepping___init__ : Stmt := inClass (top 26) 1
theorem sc_Stepping___init__ : NdefX.NScope ["self", "first", "aside", "steps", "leaves", "__class__", "row"] ["self", "first", "aside", "steps", "leaves"] ["__class__"] (defScope s_Stepping___init__) := NdefX.nscope_by (by decide +kernel)
abbrev s_Stepping_shares : Stmt := inClass (top 26) 3
theorem sc_Stepping_shares : Z.SScope ["self", "lot", "__class__", "row", "out", "rows", "at", "thing", "line", "looks", "arrived", "other", "look"] ["self", "lot"] ["__class__"] (defScope s_Stepping_shares) := Z.sscope_by (by decide +kernel)
abbrev s_TooMany___init__ : Stmt := inClass (top 8) 0
theorem sc_TooMany___init__ : NdefX.NScope ["self", "many", "most", "__class__"] ["self", "many", "most"] ["__class__"] (defScope s_TooMany___init__) := NdefX.nscope_by (by decide +kernel)
abbrev s_Weighted___init__ : Stmt := inClass (top 28) 0
theorem sc_Weighted___init__ : NdefX.NScope ["self", "weights", "aside", "__class__", "at", "weight"] ["self", "weights", "aside"] ["__class__"] (defScope s_Weighted___init__) := NdefX.nscope_by (by decide +kernel)
abbrev s_Weighted_shares : Stmt := inClass (top 28) 2
theorem sc_Weighted_shares : NdefX.NScope ["self", "lot", "__class__", "row", "total", "thing"] ["self", "lot"] ["__class__"] (defScope s_Weighted_shares) := NdefX.nscope_by (by decide +kernel)
structure Tx (P : Program) (K : PySem.W.Frag) (mg : Str → Option Value) : Prop where
  n_any : mg "any" = none
  n_bool : mg "bool" = none
  n_enumerate : mg "enumerate" = none
  n_int : mg "int" = none
  n_isinstance : mg "isinstance" = none
  n_len : mg "len" = none
  n_list : mg "list" = none
  n_range : mg "range" = none
  n_sorted : mg "sorted" = none
  n_sum : mg "sum" = none
  n_super : mg "super" = none
  n_tuple : mg "tuple" = none
  n_zip : mg "zip" = none
  m_gcd : mg "gcd" = some (.builtin "math.gcd")
  g__law_cell : mg "_law_cell" = some (.ref (He.ga K "_law_cell"))
  g__law_draws : mg "_law_draws" = some (.ref (He.ga K "_law_draws"))
  g__law_is_best : mg "_law_is_best" = some (.ref (He.ga K "_law_is_best"))
  g__law_is_int : mg "_law_is_int" = some (.ref (He.ga K "_law_is_int"))
  g__law_is_like : mg "_law_is_like" = some (.ref (He.ga K "_law_is_like"))
  g__law_lot : mg "_law_lot" = some (.ref (He.ga K "_law_lot"))
  g__law_refused : mg "_law_refused" = some (.ref (He.ga K "_law_refused"))
  g__law_row : mg "_law_row" = some (.ref (He.ga K "_law_row"))
  g__law_same : mg "_law_same" = some (.ref (He.ga K "_law_same"))
  g__law_same_lot : mg "_law_same_lot" = some (.ref (He.ga K "_law_same_lot"))
  g__law_same_row : mg "_law_same_row" = some (.ref (He.ga K "_law_same_row"))
  g__law_ups : mg "_law_ups" = some (.ref (He.ga K "_law_ups"))
  g__law_worth : mg "_law_worth" = some (.ref (He.ga K "_law_worth"))
  g_check_lot : mg "check_lot" = some (.ref (He.ga K "check_lot"))
  g_check_prices : mg "check_prices" = some (.ref (He.ga K "check_prices"))
  g_check_steps : mg "check_steps" = some (.ref (He.ga K "check_steps"))
  g_dearer_than_worth : mg "dearer_than_worth" = some (.ref (He.ga K "dearer_than_worth"))
  g_dearest_order : mg "dearest_order" = some (.ref (He.ga K "dearest_order"))
  g_law : mg "law" = some (.ref (He.ga K "law"))
  g_pivoted : mg "pivoted" = some (.ref (He.ga K "pivoted"))
  g_solve : mg "solve" = some (.ref (He.ga K "solve"))
  exm_ShelfError_TooMany : PySem.W.exmOne K (.ref (He.ga K "ShelfError")) (.ref (He.ga K "TooMany")) = some false
  g_ZeroBottom : mg "ZeroBottom" = some (.ref (He.ga K "ZeroBottom"))
  exm_ZeroBottom_TooMany : PySem.W.exmOne K (.ref (He.ga K "ZeroBottom")) (.ref (He.ga K "TooMany")) = some false
  x_ZeroBottom : PySem.W.excIn K (He.ga K "ZeroBottom") He.veBase "ValueError.__new__" = true ∧ PySem.W.keepIn K (.ref (He.ga K "ZeroBottom")) = true ∧ PySem.W.subIn K (.ref (He.ga K "ZeroBottom")) (.type "BaseException") = some true ∧ PySem.W.typeIn K (.ref (He.ga K "ZeroBottom")) = some (.type "type")
  exm_BadText_TooMany : PySem.W.exmOne K (.ref (He.ga K "BadText")) (.ref (He.ga K "TooMany")) = some false
  g_BadLot : mg "BadLot" = some (.ref (He.ga K "BadLot"))
  exm_BadLot_TooMany : PySem.W.exmOne K (.ref (He.ga K "BadLot")) (.ref (He.ga K "TooMany")) = some false
  x_BadLot : PySem.W.excIn K (He.ga K "BadLot") He.veBase "ValueError.__new__" = true ∧ PySem.W.keepIn K (.ref (He.ga K "BadLot")) = true ∧ PySem.W.subIn K (.ref (He.ga K "BadLot")) (.type "BaseException") = some true ∧ PySem.W.typeIn K (.ref (He.ga K "BadLot")) = some (.type "type")
  g_BadNumber : mg "BadNumber" = some (.ref (He.ga K "BadNumber"))
  oe_BadNumber : OexC K (He.ga K "BadNumber")
  si_BadNumber : PySem.W.ks_superIn K (He.ga K "BadNumber") (He.ga K "BadNumber") "__init__" = some (some (.builtin "ValueError.__init__")) ∧ PySem.W.subIn K (.ref (He.ga K "BadNumber")) (.type "ValueError") = some true ∧ PySem.W.findIn K (.ref (He.ga K "BadNumber")) "__init__" = some (some (.ref (He.ma K (He.ga K "BadNumber") "__init__"))) ∧ PySem.W.typeIn K (.ref (He.ma K (He.ga K "BadNumber") "__init__")) = some (.type "function")
  nf_BadNumber_what : PySem.W.findIn K (.ref (He.ga K "BadNumber")) "what" = some none
  nf_BadNumber_at : PySem.W.findIn K (.ref (He.ga K "BadNumber")) "at" = some none
  exm_BadNumber_TooMany : PySem.W.exmOne K (.ref (He.ga K "BadNumber")) (.ref (He.ga K "TooMany")) = some false
  g_TooMany : mg "TooMany" = some (.ref (He.ga K "TooMany"))
  xf_TooMany : XfC K (He.ga K "TooMany")
  oe_TooMany : OexC K (He.ga K "TooMany")
  si_TooMany : PySem.W.ks_superIn K (He.ga K "TooMany") (He.ga K "TooMany") "__init__" = some (some (.builtin "ValueError.__init__")) ∧ PySem.W.subIn K (.ref (He.ga K "TooMany")) (.type "ValueError") = some true ∧ PySem.W.findIn K (.ref (He.ga K "TooMany")) "__init__" = some (some (.ref (He.ma K (He.ga K "TooMany") "__init__"))) ∧ PySem.W.typeIn K (.ref (He.ma K (He.ga K "TooMany") "__init__")) = some (.type "function")
  nf_TooMany_many : PySem.W.findIn K (.ref (He.ga K "TooMany")) "many" = some none
  nf_TooMany_most : PySem.W.findIn K (.ref (He.ga K "TooMany")) "most" = some none
  exm_TooMany_TooMany : PySem.W.exmOne K (.ref (He.ga K "TooMany")) (.ref (He.ga K "TooMany")) = some true
  g_Ratio : mg "Ratio" = some (.ref (He.ga K "Ratio"))
  o_Ratio : Z.OwnC K (He.ga K "Ratio")
  mk_Ratio : Mk K (He.ga K "Ratio") (He.ma K (He.ga K "Ratio") "__init__")
  ki_Ratio_Stepping : PySem.W.kitOne K (.ref (He.ga K "Ratio")) (.ref (He.ga K "Stepping")) = some false
  na_Ratio_top : NoAttr K (He.ga K "Ratio") "top"
  na_Ratio_bottom : NoAttr K (He.ga K "Ratio") "bottom"
  me_Ratio___add__ : Meth K (He.ga K "Ratio") "__add__" (He.ma K (He.ga K "Ratio") "__add__")
  me_Ratio___radd__ : Meth K (He.ga K "Ratio") "__radd__" (He.ma K (He.ga K "Ratio") "__radd__")
  me_Ratio___mul__ : Meth K (He.ga K "Ratio") "__mul__" (He.ma K (He.ga K "Ratio") "__mul__")
  me_Ratio___rmul__ : Meth K (He.ga K "Ratio") "__rmul__" (He.ma K (He.ga K "Ratio") "__rmul__")
  me_Ratio___lt__ : Meth K (He.ga K "Ratio") "__lt__" (He.ma K (He.ga K "Ratio") "__lt__")
  me_Ratio___ge__ : Meth K (He.ga K "Ratio") "__ge__" (He.ma K (He.ga K "Ratio") "__ge__")
  me_Ratio_over : Meth K (He.ga K "Ratio") "over" (He.ma K (He.ga K "Ratio") "over")
  o_Rule : Z.OwnC K (He.ga K "Rule")
  ki_Rule_Stepping : PySem.W.kitOne K (.ref (He.ga K "Rule")) (.ref (He.ga K "Stepping")) = some false
  g_Stepping : mg "Stepping" = some (.ref (He.ga K "Stepping"))
  o_Stepping : Z.OwnC K (He.ga K "Stepping")
  mk_Stepping : Mk K (He.ga K "Stepping") (He.ma K (He.ga K "Stepping") "__init__")
  k_Stepping_MOST : ∃ u, Con K (He.ga K "Stepping") "MOST" (.int 8) u
  na_Stepping_first : NoAttr K (He.ga K "Stepping") "first"
  na_Stepping_aside : NoAttr K (He.ga K "Stepping") "aside"
  na_Stepping_steps : NoAttr K (He.ga K "Stepping") "steps"
  na_Stepping_leaves : NoAttr K (He.ga K "Stepping") "leaves"
  na_Stepping_many : NoAttr K (He.ga K "Stepping") "many"
  me_Stepping_step_total : Meth K (He.ga K "Stepping") "step_total" (He.ma K (He.ga K "Stepping") "step_total")
  me_Stepping_shares : Meth K (He.ga K "Stepping") "shares" (He.ma K (He.ga K "Stepping") "shares")
  me_Stepping_values_of : Meth K (He.ga K "Stepping") "values_of" (He.ma K (He.ga K "Stepping") "values_of")
  me_Stepping_onward : Meth K (He.ga K "Stepping") "onward" (He.ma K (He.ga K "Stepping") "onward")
  me_Stepping_settled : Meth K (He.ga K "Stepping") "settled" (He.ma K (He.ga K "Stepping") "settled")
  me_Stepping_best : Meth K (He.ga K "Stepping") "best" (He.ma K (He.ga K "Stepping") "best")
  g_Weighted : mg "Weighted" = some (.ref (He.ga K "Weighted"))
  o_Weighted : Z.OwnC K (He.ga K "Weighted")
  mk_Weighted : Mk K (He.ga K "Weighted") (He.ma K (He.ga K "Weighted") "__init__")
  k_Weighted_MOST : ∃ u, Con K (He.ga K "Weighted") "MOST" (.int 24) u
  ki_Weighted_Stepping : PySem.W.kitOne K (.ref (He.ga K "Weighted")) (.ref (He.ga K "Stepping")) = some false
  na_Weighted_weights : NoAttr K (He.ga K "Weighted") "weights"
  na_Weighted_aside : NoAttr K (He.ga K "Weighted") "aside"
  na_Weighted_many : NoAttr K (He.ga K "Weighted") "many"
  me_Weighted_total_of : Meth K (He.ga K "Weighted") "total_of" (He.ma K (He.ga K "Weighted") "total_of")
  me_Weighted_shares : Meth K (He.ga K "Weighted") "shares" (He.ma K (He.ga K "Weighted") "shares")
  me_Weighted_best : Meth K (He.ga K "Weighted") "best" (He.ma K (He.ga K "Weighted") "best")
  third : PySem.W.nsIn K PySem.cStatics "thirdparty.any" = some none
  c_BadNumber : ∃ cd, PySem.W.clsIn K (He.ga K "BadNumber") = some cd
  mro_BadNumber_BadNumber : PySem.W.mroIn K (He.ga K "BadNumber") (.ref (He.ga K "BadNumber")) = some true
  c_TooMany : ∃ cd, PySem.W.clsIn K (He.ga K "TooMany") = some cd
  mro_TooMany_TooMany : PySem.W.mroIn K (He.ga K "TooMany") (.ref (He.ga K "TooMany")) = some true
  c_Stepping : ∃ cd, PySem.W.clsIn K (He.ga K "Stepping") = some cd
  mro_Stepping_Stepping : PySem.W.mroIn K (He.ga K "Stepping") (.ref (He.ga K "Stepping")) = some true
  c_Weighted : ∃ cd, PySem.W.clsIn K (He.ga K "Weighted") = some cd
  mro_Weighted_Weighted : PySem.W.mroIn K (He.ga K "Weighted") (.ref (He.ga K "Weighted")) = some true
  sm_Stepping_Stepping___init__ : PySem.W.ks_superIn K (He.ga K "Stepping") (He.ga K "Stepping") "__init__" = some (some (.ref (He.ma K (He.ga K "Rule") "__init__"))) ∧ PySem.W.typeIn K (.ref (He.ma K (He.ga K "Rule") "__init__")) = some (.type "function") ∧ PySem.W.fnIn K (He.ma K (He.ga K "Rule") "__init__") = true
  sm_Stepping_Stepping_shares : PySem.W.ks_superIn K (He.ga K "Stepping") (He.ga K "Stepping") "shares" = some (some (.ref (He.ma K (He.ga K "Rule") "shares"))) ∧ PySem.W.typeIn K (.ref (He.ma K (He.ga K "Rule") "shares")) = some (.type "function") ∧ PySem.W.fnIn K (He.ma K (He.ga K "Rule") "shares") = true
  sm_Weighted_Weighted___init__ : PySem.W.ks_superIn K (He.ga K "Weighted") (He.ga K "Weighted") "__init__" = some (some (.ref (He.ma K (He.ga K "Rule") "__init__"))) ∧ PySem.W.typeIn K (.ref (He.ma K (He.ga K "Rule") "__init__")) = some (.type "function") ∧ PySem.W.fnIn K (He.ma K (He.ga K "Rule") "__init__") = true
  sm_Weighted_Weighted_shares : PySem.W.ks_superIn K (He.ga K "Weighted") (He.ga K "Weighted") "shares" = some (some (.ref (He.ma K (He.ga K "Rule") "shares"))) ∧ PySem.W.typeIn K (.ref (He.ma K (He.ga K "Rule") "shares")) = some (.type "function") ∧ PySem.W.fnIn K (He.ma K (He.ga K "Rule") "shares") = true
  cm_Stepping_like : ClX.CMet K (He.ga K "Stepping") (.type "type") "like" (He.ma K (He.ga K "Stepping") "like") (Z.wfA K "Stepping" "like")
  cr_Stepping : ClX.CRead K (He.ga K "Stepping") (.type "type")
  F_Stepping_like : FunD K "like" "Stepping.like" (defArgs s_Stepping_like) (defBody s_Stepping_like) (defScope s_Stepping_like) [] [] (Z.wfA K "Stepping" "like") (Z.fdOf K (Z.wfA K "Stepping" "like"))
  b_Stepping_like : Binds K (Z.fdOf K (Z.wfA K "Stepping" "like")) ["cls", "rule"] []
  F_Ratio___add__ : FunD K "__add__" "Ratio.__add__" (defArgs s_Ratio___add__) (defBody s_Ratio___add__) (defScope s_Ratio___add__) [] [] (He.ma K (He.ga K "Ratio") "__add__") (Z.fdOf K (He.ma K (He.ga K "Ratio") "__add__"))
  b_Ratio___add__ : Binds K (Z.fdOf K (He.ma K (He.ga K "Ratio") "__add__")) ["self", "other"] []
  F_Ratio___ge__ : FunD K "__ge__" "Ratio.__ge__" (defArgs s_Ratio___ge__) (defBody s_Ratio___ge__) (defScope s_Ratio___ge__) [] [] (He.ma K (He.ga K "Ratio") "__ge__") (Z.fdOf K (He.ma K (He.ga K "Ratio") "__ge__"))
  b_Ratio___ge__ : Binds K (Z.fdOf K (He.ma K (He.ga K "Ratio") "__ge__")) ["self", "other"] []
  F_Ratio___init__ : FunD K "__init__" "Ratio.__init__" (defArgs s_Ratio___init__) (defBody s_Ratio___init__) (defScope s_Ratio___init__) [V.int 1] [] (He.ma K (He.ga K "Ratio") "__init__") (Z.fdOf K (He.ma K (He.ga K "Ratio") "__init__"))
  b2_Ratio___init__ : ∃ ds, Vals (([V.int 1] : List V).drop 0) ds ∧ Binds K (Z.fdOf K (He.ma K (He.ga K "Ratio") "__init__")) ["self", "top", "bottom"] ds
  b3_Ratio___init__ : ∃ ds, Vals (([V.int 1] : List V).drop 1) ds ∧ Binds K (Z.fdOf K (He.ma K (He.ga K "Ratio") "__init__")) ["self", "top", "bottom"] ds
  F_Ratio___lt__ : FunD K "__lt__" "Ratio.__lt__" (defArgs s_Ratio___lt__) (defBody s_Ratio___lt__) (defScope s_Ratio___lt__) [] [] (He.ma K (He.ga K "Ratio") "__lt__") (Z.fdOf K (He.ma K (He.ga K "Ratio") "__lt__"))
  b_Ratio___lt__ : Binds K (Z.fdOf K (He.ma K (He.ga K "Ratio") "__lt__")) ["self", "other"] []
  F_Ratio___mul__ : FunD K "__mul__" "Ratio.__mul__" (defArgs s_Ratio___mul__) (defBody s_Ratio___mul__) (defScope s_Ratio___mul__) [] [] (He.ma K (He.ga K "Ratio") "__mul__") (Z.fdOf K (He.ma K (He.ga K "Ratio") "__mul__"))
  b_Ratio___mul__ : Binds K (Z.fdOf K (He.ma K (He.ga K "Ratio") "__mul__")) ["self", "other"] []
  F_Ratio_over : FunD K "over" "Ratio.over" (defArgs s_Ratio_over) (defBody s_Ratio_over) (defScope s_Ratio_over) [] [] (He.ma K (He.ga K "Ratio") "over") (Z.fdOf K (He.ma K (He.ga K "Ratio") "over"))
  b_Ratio_over : Binds K (Z.fdOf K (He.ma K (He.ga K "Ratio") "over")) ["self", "other"] []
  F_Rule___init__ : FunD K "__init__" "Rule.__init__" (defArgs s_Rule___init__) (defBody s_Rule___init__) (defScope s_Rule___init__) [] [] (He.ma K (He.ga K "Rule") "__init__") (Z.fdOf K (He.ma K (He.ga K "Rule") "__init__"))
  b_Rule___init__ : Binds K (Z.fdOf K (He.ma K (He.ga K "Rule") "__init__")) ["self", "many"] []
  F_Rule_shares : FunD K "shares" "Rule.shares" (defArgs s_Rule_shares) (defBody s_Rule_shares) (defScope s_Rule_shares) [] [] (He.ma K (He.ga K "Rule") "shares") (Z.fdOf K (He.ma K (He.ga K "Rule") "shares"))
  b_Rule_shares : Binds K (Z.fdOf K (He.ma K (He.ga K "Rule") "shares")) ["self", "lot"] []
  F_Stepping_best : FunD K "best" "Stepping.best" (defArgs s_Stepping_best) (defBody s_Stepping_best) (defScope s_Stepping_best) [] [] (He.ma K (He.ga K "Stepping") "best") (Z.fdOf K (He.ma K (He.ga K "Stepping") "best"))
  b_Stepping_best : Binds K (Z.fdOf K (He.ma K (He.ga K "Stepping") "best")) ["self", "prices"] []
  F_Stepping_onward : FunD K "onward" "Stepping.onward" (defArgs s_Stepping_onward) (defBody s_Stepping_onward) (defScope s_Stepping_onward) [] [] (He.ma K (He.ga K "Stepping") "onward") (Z.fdOf K (He.ma K (He.ga K "Stepping") "onward"))
  b_Stepping_onward : Binds K (Z.fdOf K (He.ma K (He.ga K "Stepping") "onward")) ["self", "thing", "values"] []
  F_Stepping_settled : FunD K "settled" "Stepping.settled" (defArgs s_Stepping_settled) (defBody s_Stepping_settled) (defScope s_Stepping_settled) [] [] (He.ma K (He.ga K "Stepping") "settled") (Z.fdOf K (He.ma K (He.ga K "Stepping") "settled"))
  b_Stepping_settled : Binds K (Z.fdOf K (He.ma K (He.ga K "Stepping") "settled")) ["self", "prices"] []
  F_Stepping_step_total : FunD K "step_total" "Stepping.step_total" (defArgs s_Stepping_step_total) (defBody s_Stepping_step_total) (defScope s_Stepping_step_total) [] [] (He.ma K (He.ga K "Stepping") "step_total") (Z.fdOf K (He.ma K (He.ga K "Stepping") "step_total"))
  b_Stepping_step_total : Binds K (Z.fdOf K (He.ma K (He.ga K "Stepping") "step_total")) ["self", "thing"] []
  F_Stepping_values_of : FunD K "values_of" "Stepping.values_of" (defArgs s_Stepping_values_of) (defBody s_Stepping_values_of) (defScope s_Stepping_values_of) [] [] (He.ma K (He.ga K "Stepping") "values_of") (Z.fdOf K (He.ma K (He.ga K "Stepping") "values_of"))
  b_Stepping_values_of : Binds K (Z.fdOf K (He.ma K (He.ga K "Stepping") "values_of")) ["self", "lot", "prices"] []
  F_Weighted_best : FunD K "best" "Weighted.best" (defArgs s_Weighted_best) (defBody s_Weighted_best) (defScope s_Weighted_best) [] [] (He.ma K (He.ga K "Weighted") "best") (Z.fdOf K (He.ma K (He.ga K "Weighted") "best"))
  b_Weighted_best : Binds K (Z.fdOf K (He.ma K (He.ga K "Weighted") "best")) ["self", "prices"] []
  F_Weighted_total_of : FunD K "total_of" "Weighted.total_of" (defArgs s_Weighted_total_of) (defBody s_Weighted_total_of) (defScope s_Weighted_total_of) [] [] (He.ma K (He.ga K "Weighted") "total_of") (Z.fdOf K (He.ma K (He.ga K "Weighted") "total_of"))
  b_Weighted_total_of : Binds K (Z.fdOf K (He.ma K (He.ga K "Weighted") "total_of")) ["self", "lot"] []
  F__law_cell : FunD K "_law_cell" "_law_cell" (defArgs s__law_cell) (defBody s__law_cell) (defScope s__law_cell) [] [] (He.ga K "_law_cell") (Z.fdOf K (He.ga K "_law_cell"))
  b__law_cell : Binds K (Z.fdOf K (He.ga K "_law_cell")) ["_law_script", "_law_place"] []
  F__law_draws : FunD K "_law_draws" "_law_draws" (defArgs s__law_draws) (defBody s__law_draws) (defScope s__law_draws) [] [] (He.ga K "_law_draws") (Z.fdOf K (He.ga K "_law_draws"))
  b__law_draws : Binds K (Z.fdOf K (He.ga K "_law_draws")) ["_law_cell_here", "_law_sizes"] []
  F__law_is_best : FunD K "_law_is_best" "_law_is_best" (defArgs s__law_is_best) (defBody s__law_is_best) (defScope s__law_is_best) [] [] (He.ga K "_law_is_best") (Z.fdOf K (He.ga K "_law_is_best"))
  b__law_is_best : Binds K (Z.fdOf K (He.ga K "_law_is_best")) ["_law_best", "_law_weights", "_law_aside", "_law_prices"] []
  F__law_is_int : FunD K "_law_is_int" "_law_is_int" (defArgs s__law_is_int) (defBody s__law_is_int) (defScope s__law_is_int) [] [] (He.ga K "_law_is_int") (Z.fdOf K (He.ga K "_law_is_int"))
  b__law_is_int : Binds K (Z.fdOf K (He.ga K "_law_is_int")) ["_law_x"] []
  F__law_is_like : FunD K "_law_is_like" "_law_is_like" (defArgs s__law_is_like) (defBody s__law_is_like) (defScope s__law_is_like) [] [] (He.ga K "_law_is_like") (Z.fdOf K (He.ga K "_law_is_like"))
  b__law_is_like : Binds K (Z.fdOf K (He.ga K "_law_is_like")) ["_law_chain", "_law_weights", "_law_aside"] []
  F__law_lot : FunD K "_law_lot" "_law_lot" (defArgs s__law_lot) (defBody s__law_lot) (defScope s__law_lot) [] [] (He.ga K "_law_lot") (Z.fdOf K (He.ga K "_law_lot"))
  b__law_lot : Binds K (Z.fdOf K (He.ga K "_law_lot")) ["_law_bits", "_law_many"] []
  F__law_refused : FunD K "_law_refused" "_law_refused" (defArgs s__law_refused) (defBody s__law_refused) (defScope s__law_refused) [] [] (He.ga K "_law_refused") (Z.fdOf K (He.ga K "_law_refused"))
  b__law_refused : Binds K (Z.fdOf K (He.ga K "_law_refused")) ["_law_rule"] []
  F__law_row : FunD K "_law_row" "_law_row" (defArgs s__law_row) (defBody s__law_row) (defScope s__law_row) [] [] (He.ga K "_law_row") (Z.fdOf K (He.ga K "_law_row"))
  b__law_row : Binds K (Z.fdOf K (He.ga K "_law_row")) ["_law_cell_here", "_law_count"] []
  F__law_same : FunD K "_law_same" "_law_same" (defArgs s__law_same) (defBody s__law_same) (defScope s__law_same) [] [] (He.ga K "_law_same") (Z.fdOf K (He.ga K "_law_same"))
  b__law_same : Binds K (Z.fdOf K (He.ga K "_law_same")) ["_law_x", "_law_top", "_law_bottom"] []
  F__law_same_lot : FunD K "_law_same_lot" "_law_same_lot" (defArgs s__law_same_lot) (defBody s__law_same_lot) (defScope s__law_same_lot) [] [] (He.ga K "_law_same_lot") (Z.fdOf K (He.ga K "_law_same_lot"))
  b__law_same_lot : Binds K (Z.fdOf K (He.ga K "_law_same_lot")) ["_law_x", "_law_due"] []
  F__law_same_row : FunD K "_law_same_row" "_law_same_row" (defArgs s__law_same_row) (defBody s__law_same_row) (defScope s__law_same_row) [] [] (He.ga K "_law_same_row") (Z.fdOf K (He.ga K "_law_same_row"))
  b__law_same_row : Binds K (Z.fdOf K (He.ga K "_law_same_row")) ["_law_x", "_law_pairs"] []
  F__law_ups : FunD K "_law_ups" "_law_ups" (defArgs s__law_ups) (defBody s__law_ups) (defScope s__law_ups) [] [] (He.ga K "_law_ups") (Z.fdOf K (He.ga K "_law_ups"))
  b__law_ups : Binds K (Z.fdOf K (He.ga K "_law_ups")) ["_law_row_here"] []
  F__law_worth : FunD K "_law_worth" "_law_worth" (defArgs s__law_worth) (defBody s__law_worth) (defScope s__law_worth) [] [] (He.ga K "_law_worth") (Z.fdOf K (He.ga K "_law_worth"))
  b__law_worth : Binds K (Z.fdOf K (He.ga K "_law_worth")) ["_law_weights", "_law_aside", "_law_prices", "_law_lot_here"] []
  F_check_lot : FunD K "check_lot" "check_lot" (defArgs s_check_lot) (defBody s_check_lot) (defScope s_check_lot) [] [] (He.ga K "check_lot") (Z.fdOf K (He.ga K "check_lot"))
  b_check_lot : Binds K (Z.fdOf K (He.ga K "check_lot")) ["lot", "many"] []
  F_check_prices : FunD K "check_prices" "check_prices" (defArgs s_check_prices) (defBody s_check_prices) (defScope s_check_prices) [] [] (He.ga K "check_prices") (Z.fdOf K (He.ga K "check_prices"))
  b_check_prices : Binds K (Z.fdOf K (He.ga K "check_prices")) ["prices", "many"] []
  F_check_steps : FunD K "check_steps" "check_steps" (defArgs s_check_steps) (defBody s_check_steps) (defScope s_check_steps) [] [] (He.ga K "check_steps") (Z.fdOf K (He.ga K "check_steps"))
  b_check_steps : Binds K (Z.fdOf K (He.ga K "check_steps")) ["first", "aside", "steps", "leaves"] []
  F_dearer_than_worth : FunD K "dearer_than_worth" "dearer_than_worth" (defArgs s_dearer_than_worth) (defBody s_dearer_than_worth) (defScope s_dearer_than_worth) [] [] (He.ga K "dearer_than_worth") (Z.fdOf K (He.ga K "dearer_than_worth"))
  b_dearer_than_worth : Binds K (Z.fdOf K (He.ga K "dearer_than_worth")) ["rule", "prices"] []
  F_dearest_order : FunD K "dearest_order" "dearest_order" (defArgs s_dearest_order) (defBody s_dearest_order) (defScope s_dearest_order) [] [] (He.ga K "dearest_order") (Z.fdOf K (He.ga K "dearest_order"))
  b_dearest_order : Binds K (Z.fdOf K (He.ga K "dearest_order")) ["prices"] []
  F_law : FunD K "law" "law" (defArgs s_law) (defBody s_law) (defScope s_law) [] [] (He.ga K "law") (Z.fdOf K (He.ga K "law"))
  b_law : Binds K (Z.fdOf K (He.ga K "law")) ["_law_script"] []
  F_lot_at : FunD K "lot_at" "lot_at" (defArgs s_lot_at) (defBody s_lot_at) (defScope s_lot_at) [] [] (He.ga K "lot_at") (Z.fdOf K (He.ga K "lot_at"))
  b_lot_at : Binds K (Z.fdOf K (He.ga K "lot_at")) ["number", "many"] []
  F_pivoted : FunD K "pivoted" "pivoted" (defArgs s_pivoted) (defBody s_pivoted) (defScope s_pivoted) [] [] (He.ga K "pivoted") (Z.fdOf K (He.ga K "pivoted"))
  b_pivoted : Binds K (Z.fdOf K (He.ga K "pivoted")) ["rows", "row", "column", "scale"] []
  F_solve : FunD K "solve" "solve" (defArgs s_solve) (defBody s_solve) (defScope s_solve) [] [] (He.ga K "solve") (Z.fdOf K (He.ga K "solve"))
  b_solve : Binds K (Z.fdOf K (He.ga K "solve")) ["rows", "right"] []
  F_BadNumber___init__ : Z.FunS P K "__init__" "BadNumber.__init__" (defArgs s_BadNumber___init__) (defBody s_BadNumber___init__) (defScope s_BadNumber___init__) (He.ga K "BadNumber") (He.ma K (He.ga K "BadNumber") "__init__") (Z.fdOf K (He.ma K (He.ga K "BadNumber") "__init__"))
  b_BadNumber___init__ : Binds K (Z.fdOf K (He.ma K (He.ga K "BadNumber") "__init__")) ["self", "what", "at"] []
  F_Stepping___init__ : Z.FunS P K "__init__" "Stepping.__init__" (defArgs s_Stepping___init__) (defBody s_Stepping___init__) (defScope s_Stepping___init__) (He.ga K "Stepping") (He.ma K (He.ga K "Stepping") "__init__") (Z.fdOf K (He.ma K (He.ga K "Stepping") "__init__"))
  b_Stepping___init__ : Binds K (Z.fdOf K (He.ma K (He.ga K "Stepping") "__init__")) ["self", "first", "aside", "steps", "leaves"] []
  F_Stepping_shares : Z.FunS P K "shares" "Stepping.shares" (defArgs s_Stepping_shares) (defBody s_Stepping_shares) (defScope s_Stepping_shares) (He.ga K "Stepping") (He.ma K (He.ga K "Stepping") "shares") (Z.fdOf K (He.ma K (He.ga K "Stepping") "shares"))
  b_Stepping_shares : Binds K (Z.fdOf K (He.ma K (He.ga K "Stepping") "shares")) ["self", "lot"] []
  F_TooMany___init__ : Z.FunS P K "__init__" "TooMany.__init__" (defArgs s_TooMany___init__) (defBody s_TooMany___init__) (defScope s_TooMany___init__) (He.ga K "TooMany") (He.ma K (He.ga K "TooMany") "__init__") (Z.fdOf K (He.ma K (He.ga K "TooMany") "__init__"))
  b_TooMany___init__ : Binds K (Z.fdOf K (He.ma K (He.ga K "TooMany") "__init__")) ["self", "many", "most"] []
  F_Weighted___init__ : Z.FunS P K "__init__" "Weighted.__init__" (defArgs s_Weighted___init__) (defBody s_Weighted___init__) (defScope s_Weighted___init__) (He.ga K "Weighted") (He.ma K (He.ga K "Weighted") "__init__") (Z.fdOf K (He.ma K (He.ga K "Weighted") "__init__"))
  b_Weighted___init__ : Binds K (Z.fdOf K (He.ma K (He.ga K "Weighted") "__init__")) ["self", "weights", "aside"] []
  F_Weighted_shares : Z.FunS P K "shares" "Weighted.shares" (defArgs s_Weighted_shares) (defBody s_Weighted_shares) (defScope s_Weighted_shares) (He.ga K "Weighted") (He.ma K (He.ga K "Weighted") "shares") (Z.fdOf K (He.ma K (He.ga K "Weighted") "shares"))
  b_Weighted_shares : Binds K (Z.fdOf K (He.ma K (He.ga K "Weighted") "shares")) ["self", "lot"] []
  p_top : (P.main.scope.names.lookup ("super" : Str)).isSome = false
variable {P : Program} {w : World} {K : PySem.W.Frag} {mg : Str → Option Value} {base : Heap}
def d_Ratio___add__ : He.DefD := ⟨("Ratio", some "__add__"), "__add__", "Ratio.__add__", defArgs s_Ratio___add__, defBody s_Ratio___add__, defScope s_Ratio___add__, [], []⟩
def d_Ratio___ge__ : He.DefD := ⟨("Ratio", some "__ge__"), "__ge__", "Ratio.__ge__", defArgs s_Ratio___ge__, defBody s_Ratio___ge__, defScope s_Ratio___ge__, [], []⟩
def d_Ratio___init__ : He.DefD := ⟨("Ratio", some "__init__"), "__init__", "Ratio.__init__", defArgs s_Ratio___init__, defBody s_Ratio___init__, defScope s_Ratio___init__, [.int 1], []⟩
def d_Ratio___lt__ : He.DefD := ⟨("Ratio", some "__lt__"), "__lt__", "Ratio.__lt__", defArgs s_Ratio___lt__, defBody s_Ratio___lt__, defScope s_Ratio___lt__, [], []⟩
def d_Ratio___mul__ : He.DefD := ⟨("Ratio", some "__mul__"), "__mul__", "Ratio.__mul__", defArgs s_Ratio___mul__, defBody s_Ratio___mul__, defScope s_Ratio___mul__, [], []⟩
def d_Ratio_over : He.DefD := ⟨("Ratio", some "over"), "over", "Ratio.over", defArgs s_Ratio_over, defBody s_Ratio_over, defScope s_Ratio_over, [], []⟩
def d_Rule___init__ : He.DefD := ⟨("Rule", some "__init__"), "__init__", "Rule.__init__", defArgs s_Rule___init__, defBody s_Rule___init__, defScope s_Rule___init__, [], []⟩
def d_Rule_shares : He.DefD := ⟨("Rule", some "shares"), "shares", "Rule.shares", defArgs s_Rule_shares, defBody s_Rule_shares, defScope s_Rule_shares, [], []⟩
def d_Stepping_best : He.DefD := ⟨("Stepping", some "best"), "best", "Stepping.best", defArgs s_Stepping_best, defBody s_Stepping_best, defScope s_Stepping_best, [], []⟩
def d_Stepping_onward : He.DefD := ⟨("Stepping", some "onward"), "onward", "Stepping.onward", defArgs s_Stepping_onward, defBody s_Stepping_onward, defScope s_Stepping_onward, [], []⟩
def d_Stepping_settled : He.DefD := ⟨("Stepping", some "settled"), "settled", "Stepping.settled", defArgs s_Stepping_settled, defBody s_Stepping_settled, defScope s_Stepping_settled, [], []⟩
def d_Stepping_step_total : He.DefD := ⟨("Stepping", some "step_total"), "step_total", "Stepping.step_total", defArgs s_Stepping_step_total, defBody s_Stepping_step_total, defScope s_Stepping_step_total, [], []⟩
def d_Stepping_values_of : He.DefD := ⟨("Stepping", some "values_of"), "values_of", "Stepping.values_of", defArgs s_Stepping_values_of, defBody s_Stepping_values_of, defScope s_Stepping_values_of, [], []⟩
def d_Weighted_best : He.DefD := ⟨("Weighted", some "best"), "best", "Weighted.best", defArgs s_Weighted_best, defBody s_Weighted_best, defScope s_Weighted_best, [], []⟩
def d_Weighted_total_of : He.DefD := ⟨("Weighted", some "total_of"), "total_of", "Weighted.total_of", defArgs s_Weighted_total_of, defBody s_Weighted_total_of, defScope s_Weighted_total_of, [], []⟩
def d__law_cell : He.DefD := ⟨("_law_cell", none), "_law_cell", "_law_cell", defArgs s__law_cell, defBody s__law_cell, defScope s__law_cell, [], []⟩
def d__law_draws : He.DefD := ⟨("_law_draws", none), "_law_draws", "_law_draws", defArgs s__law_draws, defBody s__law_draws, defScope s__law_draws, [], []⟩
def d__law_is_best : He.DefD := ⟨("_law_is_best", none), "_law_is_best", "_law_is_best", defArgs s__law_is_best, defBody s__law_is_best, defScope s__law_is_best, [], []⟩
def d__law_is_int : He.DefD := ⟨("_law_is_int", none), "_law_is_int", "_law_is_int", defArgs s__law_is_int, defBody s__law_is_int, defScope s__law_is_int, [], []⟩
def d__law_is_like : He.DefD := ⟨("_law_is_like", none), "_law_is_like", "_law_is_like", defArgs s__law_is_like, defBody s__law_is_like, defScope s__law_is_like, [], []⟩
def d__law_lot : He.DefD := ⟨("_law_lot", none), "_law_lot", "_law_lot", defArgs s__law_lot, defBody s__law_lot, defScope s__law_lot, [], []⟩
def d__law_refused : He.DefD := ⟨("_law_refused", none), "_law_refused", "_law_refused", defArgs s__law_refused, defBody s__law_refused, defScope s__law_refused, [], []⟩
def d__law_row : He.DefD := ⟨("_law_row", none), "_law_row", "_law_row", defArgs s__law_row, defBody s__law_row, defScope s__law_row, [], []⟩
def d__law_same : He.DefD := ⟨("_law_same", none), "_law_same", "_law_same", defArgs s__law_same, defBody s__law_same, defScope s__law_same, [], []⟩
def d__law_same_lot : He.DefD := ⟨("_law_same_lot", none), "_law_same_lot", "_law_same_lot", defArgs s__law_same_lot, defBody s__law_same_lot, defScope s__law_same_lot, [], []⟩
def d__law_same_row : He.DefD := ⟨("_law_same_row", none), "_law_same_row", "_law_same_row", defArgs s__law_same_row, defBody s__law_same_row, defScope s__law_same_row, [], []⟩
def d__law_ups : He.DefD := ⟨("_law_ups", none), "_law_ups", "_law_ups", defArgs s__law_ups, defBody s__law_ups, defScope s__law_ups, [], []⟩
def d__law_worth : He.DefD := ⟨("_law_worth", none), "_law_worth", "_law_worth", defArgs s__law_worth, defBody s__law_worth, defScope s__law_worth, [], []⟩
def d_check_lot : He.DefD := ⟨("check_lot", none), "check_lot", "check_lot", defArgs s_check_lot, defBody s_check_lot, defScope s_check_lot, [], []⟩
def d_check_prices : He.DefD := ⟨("check_prices", none), "check_prices", "check_prices", defArgs s_check_prices, defBody s_check_prices, defScope s_check_prices, [], []⟩
def d_check_steps : He.DefD := ⟨("check_steps", none), "check_steps", "check_steps", defArgs s_check_steps, defBody s_check_steps, defScope s_check_steps, [], []⟩
def d_dearer_than_worth : He.DefD := ⟨("dearer_than_worth", none), "dearer_than_worth", "dearer_than_worth", defArgs s_dearer_than_worth, defBody s_dearer_than_worth, defScope s_dearer_than_worth, [], []⟩
def d_dearest_order : He.DefD := ⟨("dearest_order", none), "dearest_order", "dearest_order", defArgs s_dearest_order, defBody s_dearest_order, defScope s_dearest_order, [], []⟩
def d_law : He.DefD := ⟨("law", none), "law", "law", defArgs s_law, defBody s_law, defScope s_law, [], []⟩
def d_lot_at : He.DefD := ⟨("lot_at", none), "lot_at", "lot_at", defArgs s_lot_at, defBody s_lot_at, defScope s_lot_at, [], []⟩
def d_pivoted : He.DefD := ⟨("pivoted", none), "pivoted", "pivoted", defArgs s_pivoted, defBody s_pivoted, defScope s_pivoted, [], []⟩
def d_solve : He.DefD := ⟨("solve", none), "solve", "solve", defArgs s_solve, defBody s_solve, defScope s_solve, [], []⟩
def d_BadNumber___init__ : He.DefD := ⟨("BadNumber", some "__init__"), "__init__", "BadNumber.__init__", defArgs s_BadNumber___init__, defBody s_BadNumber___init__, defScope s_BadNumber___init__, [], []⟩
def d_Stepping___init__ : He.DefD := ⟨("Stepping", some "__init__"), "__init__", "Stepping.__init__", defArgs s_Stepping___init__, defBody s_Stepping___init__, defScope s_Stepping___init__, [], []⟩
def d_Stepping_shares : He.DefD := ⟨("Stepping", some "shares"), "shares", "Stepping.shares", defArgs s_Stepping_shares, defBody s_Stepping_shares, defScope s_Stepping_shares, [], []⟩
def d_TooMany___init__ : He.DefD := ⟨("TooMany", some "__init__"), "__init__", "TooMany.__init__", defArgs s_TooMany___init__, defBody s_TooMany___init__, defScope s_TooMany___init__, [], []⟩
def d_Weighted___init__ : He.DefD := ⟨("Weighted", some "__init__"), "__init__", "Weighted.__init__", defArgs s_Weighted___init__, defBody s_Weighted___init__, defScope s_Weighted___init__, [], []⟩
def d_Weighted_shares : He.DefD := ⟨("Weighted", some "shares"), "shares", "Weighted.shares", defArgs s_Weighted_shares, defBody s_Weighted_shares, defScope s_Weighted_shares, [], []⟩
def d_Stepping_like : He.DefD := ⟨("Stepping", some "like"), "like", "Stepping.like", defArgs s_Stepping_like, defBody s_Stepping_like, defScope s_Stepping_like, [], []⟩
def fs : List He.DefD := [d_BadNumber___init__, d_Stepping___init__, d_Stepping_shares, d_TooMany___init__, d_Weighted___init__, d_Weighted_shares, d_Stepping_like]
def fn : List He.DefD := [d_Ratio___add__, d_Ratio___ge__, d_Ratio___init__, d_Ratio___lt__, d_Ratio___mul__, d_Ratio_over, d_Rule___init__, d_Rule_shares, d_Stepping_best, d_Stepping_onward, d_Stepping_settled, d_Stepping_step_total, d_Stepping_values_of, d_Weighted_best, d_Weighted_total_of, d__law_cell, d__law_draws, d__law_is_best, d__law_is_int, d__law_is_like, d__law_lot, d__law_refused, d__law_row, d__law_same, d__law_same_lot, d__law_same_row, d__law_ups, d__law_worth, d_check_lot, d_check_prices, d_check_steps, d_dearer_than_worth, d_dearest_order, d_law, d_lot_at, d_pivoted, d_solve]
def fa : List (PySem.W.Frag → Bool) := [(He.Fa.free "any").ok,
  (He.Fa.free "bool").ok,
  (He.Fa.free "enumerate").ok,
  (He.Fa.free "int").ok,
  (He.Fa.free "isinstance").ok,
  (He.Fa.free "len").ok,
  (He.Fa.free "list").ok,
  (He.Fa.free "range").ok,
  (He.Fa.free "sorted").ok,
  (He.Fa.free "sum").ok,
  (He.Fa.free "super").ok,
  (He.Fa.free "tuple").ok,
  (He.Fa.free "zip").ok,
  Z.bltB "gcd" "math.gcd",
  (He.Fa.glo "_law_cell").ok,
  (He.Fa.glo "_law_draws").ok,
  (He.Fa.glo "_law_is_best").ok,
  (He.Fa.glo "_law_is_int").ok,
  (He.Fa.glo "_law_is_like").ok,
  (He.Fa.glo "_law_lot").ok,
  (He.Fa.glo "_law_refused").ok,
  (He.Fa.glo "_law_row").ok,
  (He.Fa.glo "_law_same").ok,
  (He.Fa.glo "_law_same_lot").ok,
  (He.Fa.glo "_law_same_row").ok,
  (He.Fa.glo "_law_ups").ok,
  (He.Fa.glo "_law_worth").ok,
  (He.Fa.glo "check_lot").ok,
  (He.Fa.glo "check_prices").ok,
  (He.Fa.glo "check_steps").ok,
  (He.Fa.glo "dearer_than_worth").ok,
  (He.Fa.glo "dearest_order").ok,
  (He.Fa.glo "law").ok,
  (He.Fa.glo "pivoted").ok,
  (He.Fa.glo "solve").ok,
  Z.exmB "ShelfError" "TooMany" false,
  (He.Fa.glo "ZeroBottom").ok,
  Z.exmB "ZeroBottom" "TooMany" false,
  (He.Fa.exc "ZeroBottom").ok,
  Z.exmB "BadText" "TooMany" false,
  (He.Fa.glo "BadLot").ok,
  Z.exmB "BadLot" "TooMany" false,
  (He.Fa.exc "BadLot").ok,
  (He.Fa.glo "BadNumber").ok,
  Z.oexB "BadNumber",
  Z.supiB "BadNumber",
  Z.nometB "BadNumber" "what",
  Z.nometB "BadNumber" "at",
  Z.exmB "BadNumber" "TooMany" false,
  (He.Fa.glo "TooMany").ok,
  Z.xfcB "TooMany",
  Z.oexB "TooMany",
  Z.supiB "TooMany",
  Z.nometB "TooMany" "many",
  Z.nometB "TooMany" "most",
  Z.exmB "TooMany" "TooMany" true,
  (He.Fa.glo "Ratio").ok,
  (fun K => Z.ownB K "Ratio"),
  Z.mkrB "Ratio" "Ratio",
  Z.kitB2 "Ratio" "Stepping" false,
  (He.Fa.noat "Ratio" "top").ok,
  (He.Fa.noat "Ratio" "bottom").ok,
  Z.methB "Ratio" "__add__" "Ratio",
  Z.methB "Ratio" "__radd__" "Ratio",
  Z.methB "Ratio" "__mul__" "Ratio",
  Z.methB "Ratio" "__rmul__" "Ratio",
  Z.methB "Ratio" "__lt__" "Ratio",
  Z.methB "Ratio" "__ge__" "Ratio",
  Z.methB "Ratio" "over" "Ratio",
  (fun K => Z.ownB K "Rule"),
  Z.kitB2 "Rule" "Stepping" false,
  (He.Fa.glo "Stepping").ok,
  (fun K => Z.ownB K "Stepping"),
  Z.mkrB "Stepping" "Stepping",
  Z.conIB "Stepping" "MOST" 8,
  (He.Fa.noat "Stepping" "first").ok,
  (He.Fa.noat "Stepping" "aside").ok,
  (He.Fa.noat "Stepping" "steps").ok,
  (He.Fa.noat "Stepping" "leaves").ok,
  (He.Fa.noat "Stepping" "many").ok,
  Z.methB "Stepping" "step_total" "Stepping",
  Z.methB "Stepping" "shares" "Stepping",
  Z.methB "Stepping" "values_of" "Stepping",
  Z.methB "Stepping" "onward" "Stepping",
  Z.methB "Stepping" "settled" "Stepping",
  Z.methB "Stepping" "best" "Stepping",
  (He.Fa.glo "Weighted").ok,
  (fun K => Z.ownB K "Weighted"),
  Z.mkrB "Weighted" "Weighted",
  Z.conIB "Weighted" "MOST" 24,
  Z.kitB2 "Weighted" "Stepping" false,
  (He.Fa.noat "Weighted" "weights").ok,
  (He.Fa.noat "Weighted" "aside").ok,
  (He.Fa.noat "Weighted" "many").ok,
  Z.methB "Weighted" "total_of" "Weighted",
  Z.methB "Weighted" "shares" "Weighted",
  Z.methB "Weighted" "best" "Weighted",
  Z.thirdB,
  Z.clsB "BadNumber",
  Z.mroB "BadNumber" "BadNumber",
  Z.clsB "TooMany",
  Z.mroB "TooMany" "TooMany",
  Z.clsB "Stepping",
  Z.mroB "Stepping" "Stepping",
  Z.clsB "Weighted",
  Z.mroB "Weighted" "Weighted",
  Z.supmB "Stepping" "Stepping" "__init__" "Rule",
  Z.supmB "Stepping" "Stepping" "shares" "Rule",
  Z.supmB "Weighted" "Weighted" "__init__" "Rule",
  Z.supmB "Weighted" "Weighted" "shares" "Rule",
  Z.cmB "Stepping" "like",
  Z.crB "Stepping",
  Z.clmB d_Stepping_like "Stepping" "like",
  Z.supB d_BadNumber___init__ "BadNumber" PySem.Challenge.pw_dearestshelf_k45_whole_like_weights.main.file,
  Z.supB d_Stepping___init__ "Stepping" PySem.Challenge.pw_dearestshelf_k45_whole_like_weights.main.file,
  Z.supB d_Stepping_shares "Stepping" PySem.Challenge.pw_dearestshelf_k45_whole_like_weights.main.file,
  Z.supB d_TooMany___init__ "TooMany" PySem.Challenge.pw_dearestshelf_k45_whole_like_weights.main.file,
  Z.supB d_Weighted___init__ "Weighted" PySem.Challenge.pw_dearestshelf_k45_whole_like_weights.main.file,
  Z.supB d_Weighted_shares "Weighted" PySem.Challenge.pw_dearestshelf_k45_whole_like_weights.main.file]
abbrev Rw : PySem.W.OpenRow := PySem.W.OpenLaw.row PySem.Challenge.rw_dearestshelf_k45_whole_like_weights
abbrev hk : PySem.W.Hook := Z.hookY 5 fa fn fs
def ob (s : PySem.W.SharedT) : He.AlD := Z.obsY 5 fa fn fs (HandSHeadRun.getT s)
theorem ob_eq (s : PySem.W.SharedT) : ob s = hk.obs s.abs := Z.obsY_eq (HandSHeadRun.getT_eq s)
def fa1 : List (PySem.W.Frag → Bool) := [(He.Fa.free "any").ok,
  (He.Fa.free "bool").ok,
  (He.Fa.free "enumerate").ok,
  (He.Fa.free "int").ok,
  (He.Fa.free "isinstance").ok,
  (He.Fa.free "len").ok,
  (He.Fa.free "list").ok,
  (He.Fa.free "range").ok,
  (He.Fa.free "sorted").ok,
  (He.Fa.free "sum").ok,
  (He.Fa.free "super").ok,
  (He.Fa.free "tuple").ok,
  (He.Fa.free "zip").ok,
  Z.bltB "gcd" "math.gcd",
  (He.Fa.glo "_law_cell").ok,
  (He.Fa.glo "_law_draws").ok,
  (He.Fa.glo "_law_is_best").ok,
  (He.Fa.glo "_law_is_int").ok,
  (He.Fa.glo "_law_is_like").ok,
  (He.Fa.glo "_law_lot").ok,
  (He.Fa.glo "_law_refused").ok,
  (He.Fa.glo "_law_row").ok,
  (He.Fa.glo "_law_same").ok,
  (He.Fa.glo "_law_same_lot").ok,
  (He.Fa.glo "_law_same_row").ok,
  (He.Fa.glo "_law_ups").ok,
  (He.Fa.glo "_law_worth").ok,
  (He.Fa.glo "check_lot").ok,
  (He.Fa.glo "check_prices").ok,
  (He.Fa.glo "check_steps").ok,
  (He.Fa.glo "dearer_than_worth").ok,
  (He.Fa.glo "dearest_order").ok,
  (He.Fa.glo "law").ok,
  (He.Fa.glo "pivoted").ok,
  (He.Fa.glo "solve").ok,
  Z.exmB "ShelfError" "TooMany" false,
  (He.Fa.glo "ZeroBottom").ok,
  Z.exmB "ZeroBottom" "TooMany" false,
  (He.Fa.exc "ZeroBottom").ok,
  Z.exmB "BadText" "TooMany" false,
  (He.Fa.glo "BadLot").ok,
  Z.exmB "BadLot" "TooMany" false,
  (He.Fa.exc "BadLot").ok,
  (He.Fa.glo "BadNumber").ok,
  Z.oexB "BadNumber",
  Z.supiB "BadNumber",
  Z.nometB "BadNumber" "what",
  Z.nometB "BadNumber" "at",
  Z.exmB "BadNumber" "TooMany" false,
  (He.Fa.glo "TooMany").ok,
  Z.xfcB "TooMany",
  Z.oexB "TooMany",
  Z.supiB "TooMany",
  Z.nometB "TooMany" "many",
  Z.nometB "TooMany" "most",
  Z.exmB "TooMany" "TooMany" true,
  (He.Fa.glo "Ratio").ok,
  (fun K => Z.ownB K "Ratio"),
  Z.mkrB "Ratio" "Ratio"]
def fa2 : List (PySem.W.Frag → Bool) := [Z.kitB2 "Ratio" "Stepping" false,
  (He.Fa.noat "Ratio" "top").ok,
  (He.Fa.noat "Ratio" "bottom").ok,
  Z.methB "Ratio" "__add__" "Ratio",
  Z.methB "Ratio" "__radd__" "Ratio",
  Z.methB "Ratio" "__mul__" "Ratio",
  Z.methB "Ratio" "__rmul__" "Ratio",
  Z.methB "Ratio" "__lt__" "Ratio",
  Z.methB "Ratio" "__ge__" "Ratio",
  Z.methB "Ratio" "over" "Ratio",
  (fun K => Z.ownB K "Rule"),
  Z.kitB2 "Rule" "Stepping" false,
  (He.Fa.glo "Stepping").ok,
  (fun K => Z.ownB K "Stepping"),
  Z.mkrB "Stepping" "Stepping",
  Z.conIB "Stepping" "MOST" 8,
  (He.Fa.noat "Stepping" "first").ok,
  (He.Fa.noat "Stepping" "aside").ok,
  (He.Fa.noat "Stepping" "steps").ok,
  (He.Fa.noat "Stepping" "leaves").ok,
  (He.Fa.noat "Stepping" "many").ok,
  Z.methB "Stepping" "step_total" "Stepping",
  Z.methB "Stepping" "shares" "Stepping",
  Z.methB "Stepping" "values_of" "Stepping",
  Z.methB "Stepping" "onward" "Stepping",
  Z.methB "Stepping" "settled" "Stepping",
  Z.methB "Stepping" "best" "Stepping",
  (He.Fa.glo "Weighted").ok,
  (fun K => Z.ownB K "Weighted"),
  Z.mkrB "Weighted" "Weighted",
  Z.conIB "Weighted" "MOST" 24,
  Z.kitB2 "Weighted" "Stepping" false,
  (He.Fa.noat "Weighted" "weights").ok,
  (He.Fa.noat "Weighted" "aside").ok,
  (He.Fa.noat "Weighted" "many").ok,
  Z.methB "Weighted" "total_of" "Weighted",
  Z.methB "Weighted" "shares" "Weighted",
  Z.methB "Weighted" "best" "Weighted",
  Z.thirdB,
  Z.clsB "BadNumber",
  Z.mroB "BadNumber" "BadNumber",
  Z.clsB "TooMany",
  Z.mroB "TooMany" "TooMany",
  Z.clsB "Stepping",
  Z.mroB "Stepping" "Stepping",
  Z.clsB "Weighted",
  Z.mroB "Weighted" "Weighted",
  Z.supmB "Stepping" "Stepping" "__init__" "Rule",
  Z.supmB "Stepping" "Stepping" "shares" "Rule",
  Z.supmB "Weighted" "Weighted" "__init__" "Rule",
  Z.supmB "Weighted" "Weighted" "shares" "Rule",
  Z.cmB "Stepping" "like",
  Z.crB "Stepping",
  Z.clmB d_Stepping_like "Stepping" "like",
  Z.supB d_BadNumber___init__ "BadNumber" PySem.Challenge.pw_dearestshelf_k45_whole_like_weights.main.file,
  Z.supB d_Stepping___init__ "Stepping" PySem.Challenge.pw_dearestshelf_k45_whole_like_weights.main.file,
  Z.supB d_Stepping_shares "Stepping" PySem.Challenge.pw_dearestshelf_k45_whole_like_weights.main.file,
  Z.supB d_TooMany___init__ "TooMany" PySem.Challenge.pw_dearestshelf_k45_whole_like_weights.main.file,
  Z.supB d_Weighted___init__ "Weighted" PySem.Challenge.pw_dearestshelf_k45_whole_like_weights.main.file,
  Z.supB d_Weighted_shares "Weighted" PySem.Challenge.pw_dearestshelf_k45_whole_like_weights.main.file]
theorem run1 (w : World) : (HandSHeadRun.wholeF (fun p => HandSHeadRun.stepQ (HandSHeadRun.denQ HandSHeadRun.tabQ) p w) HandSHeadRun.fenceQ 20000 Rw.prog).map (fun x => (HandSHeadRun.looksF Rw.prog x.1.heap x.2.abs, HandSHeadRun.seenQ (PySem.W.view Rw.prog [0, 44]) ((["_wall", "ShelfError", "ZeroBottom", "BadText", "BadLot", "BadNumber", "TooMany", "DIGITS", "read_whole", "Ratio", "pivoted", "solve", "check_lot", "check_prices", "lot_at", "lots", "dearest_order", "Rule", "check_steps", "Stepping", "Weighted", "dearer_than_worth", "_law_cell", "_law_draws", "_law_row"] : List Str) ++ (["_law_ups", "_law_lot", "_law_is_int", "_law_same", "_law_same_lot", "_law_same_row", "_law_worth", "_law_is_like", "_law_refused", "_law_is_best"] : List Str)) (importedModules Rw.prog.main.body) (fun s => PySem.W.xlAt (PySem.W.view Rw.prog [0, 44]) [] s && PySem.W.recOk Rw.toRowW.records s) x.2.abs)) = some (true, PySem.W.openGood (PySem.W.view Rw.prog [0, 44]) ((["_wall", "ShelfError", "ZeroBottom", "BadText", "BadLot", "BadNumber", "TooMany", "DIGITS", "read_whole", "Ratio", "pivoted", "solve", "check_lot", "check_prices", "lot_at", "lots", "dearest_order", "Rule", "check_steps", "Stepping", "Weighted", "dearer_than_worth", "_law_cell", "_law_draws", "_law_row"] : List Str) ++ (["_law_ups", "_law_lot", "_law_is_int", "_law_same", "_law_same_lot", "_law_same_row", "_law_worth", "_law_is_like", "_law_refused", "_law_is_best"] : List Str))) := by
  kernel_rfl
theorem run2 (w : World) : (HandSHeadRun.wholeF (fun p => HandSHeadRun.stepQ (HandSHeadRun.denQ HandSHeadRun.tabQ) p w) HandSHeadRun.fenceQ 20000 Rw.prog).map (fun x => fa1.all fun f => f (Z.KX 5 x.2)) = some true := by
  kernel_rfl
theorem run3 (w : World) : (HandSHeadRun.wholeF (fun p => HandSHeadRun.stepQ (HandSHeadRun.denQ HandSHeadRun.tabQ) p w) HandSHeadRun.fenceQ 20000 Rw.prog).map (fun x => fa2.all fun f => f (Z.KX 5 x.2)) = some true := by
  kernel_rfl
theorem run4 (w : World) : (HandSHeadRun.wholeF (fun p => HandSHeadRun.stepQ (HandSHeadRun.denQ HandSHeadRun.tabQ) p w) HandSHeadRun.fenceQ 20000 Rw.prog).map (fun x => (fn.all fun d => d.ok (Z.KX 5 x.2), fn.map (fun d => He.fnW (Z.KX 5 x.2) d.at_), fs.map fun d => Z.fnWs (Z.KX 5 x.2) d.at_)) = some (true, fn.map He.DefD.val, fs.map He.DefD.val) := by
  kernel_rfl
theorem run (w : World) : HandSHeadRun.RunEqI Rw (PySem.W.view Rw.prog [0, 44]) hk ob 20000 ((["_wall", "ShelfError", "ZeroBottom", "BadText", "BadLot", "BadNumber", "TooMany", "DIGITS", "read_whole", "Ratio", "pivoted", "solve", "check_lot", "check_prices", "lot_at", "lots", "dearest_order", "Rule", "check_steps", "Stepping", "Weighted", "dearer_than_worth", "_law_cell", "_law_draws", "_law_row"] : List Str) ++ (["_law_ups", "_law_lot", "_law_is_int", "_law_same", "_law_same_lot", "_law_same_row", "_law_worth", "_law_is_like", "_law_refused", "_law_is_best"] : List Str)) w := Z.run_join (fa1 := fa1) (fa2 := fa2) rfl (run1 w) (run2 w) (run3 w) (run4 w)
theorem tx {K : PySem.W.Frag} {h : Heap} {mg : Str → Option Value} (X : K.In h) (G : h.Ns mainGlobals mg) (c : Z.SaysY fa fn fs K) : Tx PySem.Challenge.pw_dearestshelf_k45_whole_like_weights K mg := by
  have F_Ratio___add__ := Z.fd_of (c.d.def_ 0 (d := d_Ratio___add__) rfl)
  have F_Ratio___ge__ := Z.fd_of (c.d.def_ 1 (d := d_Ratio___ge__) rfl)
  have F_Ratio___init__ := Z.fd_of (c.d.def_ 2 (d := d_Ratio___init__) rfl)
  have F_Ratio___lt__ := Z.fd_of (c.d.def_ 3 (d := d_Ratio___lt__) rfl)
  have F_Ratio___mul__ := Z.fd_of (c.d.def_ 4 (d := d_Ratio___mul__) rfl)
  have F_Ratio_over := Z.fd_of (c.d.def_ 5 (d := d_Ratio_over) rfl)
  have F_Rule___init__ := Z.fd_of (c.d.def_ 6 (d := d_Rule___init__) rfl)
  have F_Rule_shares := Z.fd_of (c.d.def_ 7 (d := d_Rule_shares) rfl)
  have F_Stepping_best := Z.fd_of (c.d.def_ 8 (d := d_Stepping_best) rfl)
  have F_Stepping_onward := Z.fd_of (c.d.def_ 9 (d := d_Stepping_onward) rfl)
  have F_Stepping_settled := Z.fd_of (c.d.def_ 10 (d := d_Stepping_settled) rfl)
  have F_Stepping_step_total := Z.fd_of (c.d.def_ 11 (d := d_Stepping_step_total) rfl)
  have F_Stepping_values_of := Z.fd_of (c.d.def_ 12 (d := d_Stepping_values_of) rfl)
  have F_Weighted_best := Z.fd_of (c.d.def_ 13 (d := d_Weighted_best) rfl)
  have F_Weighted_total_of := Z.fd_of (c.d.def_ 14 (d := d_Weighted_total_of) rfl)
  have F__law_cell := Z.fd_of (c.d.def_ 15 (d := d__law_cell) rfl)
  have F__law_draws := Z.fd_of (c.d.def_ 16 (d := d__law_draws) rfl)
  have F__law_is_best := Z.fd_of (c.d.def_ 17 (d := d__law_is_best) rfl)
  have F__law_is_int := Z.fd_of (c.d.def_ 18 (d := d__law_is_int) rfl)
  have F__law_is_like := Z.fd_of (c.d.def_ 19 (d := d__law_is_like) rfl)
  have F__law_lot := Z.fd_of (c.d.def_ 20 (d := d__law_lot) rfl)
  have F__law_refused := Z.fd_of (c.d.def_ 21 (d := d__law_refused) rfl)
  have F__law_row := Z.fd_of (c.d.def_ 22 (d := d__law_row) rfl)
  have F__law_same := Z.fd_of (c.d.def_ 23 (d := d__law_same) rfl)
  have F__law_same_lot := Z.fd_of (c.d.def_ 24 (d := d__law_same_lot) rfl)
  have F__law_same_row := Z.fd_of (c.d.def_ 25 (d := d__law_same_row) rfl)
  have F__law_ups := Z.fd_of (c.d.def_ 26 (d := d__law_ups) rfl)
  have F__law_worth := Z.fd_of (c.d.def_ 27 (d := d__law_worth) rfl)
  have F_check_lot := Z.fd_of (c.d.def_ 28 (d := d_check_lot) rfl)
  have F_check_prices := Z.fd_of (c.d.def_ 29 (d := d_check_prices) rfl)
  have F_check_steps := Z.fd_of (c.d.def_ 30 (d := d_check_steps) rfl)
  have F_dearer_than_worth := Z.fd_of (c.d.def_ 31 (d := d_dearer_than_worth) rfl)
  have F_dearest_order := Z.fd_of (c.d.def_ 32 (d := d_dearest_order) rfl)
  have F_law := Z.fd_of (c.d.def_ 33 (d := d_law) rfl)
  have F_lot_at := Z.fd_of (c.d.def_ 34 (d := d_lot_at) rfl)
  have F_pivoted := Z.fd_of (c.d.def_ 35 (d := d_pivoted) rfl)
  have F_solve := Z.fd_of (c.d.def_ 36 (d := d_solve) rfl)
  have F_BadNumber___init__ := Z.fdOf_S (P := PySem.Challenge.pw_dearestshelf_k45_whole_like_weights) (Z.supB_ok (c.sup 0 rfl) (c.fact 113 rfl))
  have F_Stepping___init__ := Z.fdOf_S (P := PySem.Challenge.pw_dearestshelf_k45_whole_like_weights) (Z.supB_ok (c.sup 1 rfl) (c.fact 114 rfl))
  have F_Stepping_shares := Z.fdOf_S (P := PySem.Challenge.pw_dearestshelf_k45_whole_like_weights) (Z.supB_ok (c.sup 2 rfl) (c.fact 115 rfl))
  have F_TooMany___init__ := Z.fdOf_S (P := PySem.Challenge.pw_dearestshelf_k45_whole_like_weights) (Z.supB_ok (c.sup 3 rfl) (c.fact 116 rfl))
  have F_Weighted___init__ := Z.fdOf_S (P := PySem.Challenge.pw_dearestshelf_k45_whole_like_weights) (Z.supB_ok (c.sup 4 rfl) (c.fact 117 rfl))
  have F_Weighted_shares := Z.fdOf_S (P := PySem.Challenge.pw_dearestshelf_k45_whole_like_weights) (Z.supB_ok (c.sup 5 rfl) (c.fact 118 rfl))
  have F_Stepping_like := Z.fd_of (Z.clmB_ok (c.sup 6 rfl) (c.fact 112 rfl))
  exact {
    n_any := He.free_ok X G (c.fact 0 rfl)
    n_bool := He.free_ok X G (c.fact 1 rfl)
    n_enumerate := He.free_ok X G (c.fact 2 rfl)
    n_int := He.free_ok X G (c.fact 3 rfl)
    n_isinstance := He.free_ok X G (c.fact 4 rfl)
    n_len := He.free_ok X G (c.fact 5 rfl)
    n_list := He.free_ok X G (c.fact 6 rfl)
    n_range := He.free_ok X G (c.fact 7 rfl)
    n_sorted := He.free_ok X G (c.fact 8 rfl)
    n_sum := He.free_ok X G (c.fact 9 rfl)
    n_super := He.free_ok X G (c.fact 10 rfl)
    n_tuple := He.free_ok X G (c.fact 11 rfl)
    n_zip := He.free_ok X G (c.fact 12 rfl)
    m_gcd := Z.blt_ok X G (c.fact 13 rfl)
    g__law_cell := He.glo_ok X G (c.fact 14 rfl)
    g__law_draws := He.glo_ok X G (c.fact 15 rfl)
    g__law_is_best := He.glo_ok X G (c.fact 16 rfl)
    g__law_is_int := He.glo_ok X G (c.fact 17 rfl)
    g__law_is_like := He.glo_ok X G (c.fact 18 rfl)
    g__law_lot := He.glo_ok X G (c.fact 19 rfl)
    g__law_refused := He.glo_ok X G (c.fact 20 rfl)
    g__law_row := He.glo_ok X G (c.fact 21 rfl)
    g__law_same := He.glo_ok X G (c.fact 22 rfl)
    g__law_same_lot := He.glo_ok X G (c.fact 23 rfl)
    g__law_same_row := He.glo_ok X G (c.fact 24 rfl)
    g__law_ups := He.glo_ok X G (c.fact 25 rfl)
    g__law_worth := He.glo_ok X G (c.fact 26 rfl)
    g_check_lot := He.glo_ok X G (c.fact 27 rfl)
    g_check_prices := He.glo_ok X G (c.fact 28 rfl)
    g_check_steps := He.glo_ok X G (c.fact 29 rfl)
    g_dearer_than_worth := He.glo_ok X G (c.fact 30 rfl)
    g_dearest_order := He.glo_ok X G (c.fact 31 rfl)
    g_law := He.glo_ok X G (c.fact 32 rfl)
    g_pivoted := He.glo_ok X G (c.fact 33 rfl)
    g_solve := He.glo_ok X G (c.fact 34 rfl)
    exm_ShelfError_TooMany := Z.exmB_ok (c.fact 35 rfl)
    g_ZeroBottom := He.glo_ok X G (c.fact 36 rfl)
    exm_ZeroBottom_TooMany := Z.exmB_ok (c.fact 37 rfl)
    x_ZeroBottom := He.exc_ok (c.fact 38 rfl)
    exm_BadText_TooMany := Z.exmB_ok (c.fact 39 rfl)
    g_BadLot := He.glo_ok X G (c.fact 40 rfl)
    exm_BadLot_TooMany := Z.exmB_ok (c.fact 41 rfl)
    x_BadLot := He.exc_ok (c.fact 42 rfl)
    g_BadNumber := He.glo_ok X G (c.fact 43 rfl)
    oe_BadNumber := Z.oexB_ok (c.fact 44 rfl)
    si_BadNumber := Z.supiB_ok (c.fact 45 rfl)
    nf_BadNumber_what := Z.nomet_ok (c.fact 46 rfl)
    nf_BadNumber_at := Z.nomet_ok (c.fact 47 rfl)
    exm_BadNumber_TooMany := Z.exmB_ok (c.fact 48 rfl)
    g_TooMany := He.glo_ok X G (c.fact 49 rfl)
    xf_TooMany := Z.xfcB_ok (c.fact 50 rfl)
    oe_TooMany := Z.oexB_ok (c.fact 51 rfl)
    si_TooMany := Z.supiB_ok (c.fact 52 rfl)
    nf_TooMany_many := Z.nomet_ok (c.fact 53 rfl)
    nf_TooMany_most := Z.nomet_ok (c.fact 54 rfl)
    exm_TooMany_TooMany := Z.exmB_ok (c.fact 55 rfl)
    g_Ratio := He.glo_ok X G (c.fact 56 rfl)
    o_Ratio := Z.ownB_ok (c.fact 57 rfl)
    mk_Ratio := Z.mkrB_ok (c.fact 58 rfl)
    ki_Ratio_Stepping := Z.kitB2_ok (c.fact 59 rfl)
    na_Ratio_top := He.noat_ok (c.fact 60 rfl)
    na_Ratio_bottom := He.noat_ok (c.fact 61 rfl)
    me_Ratio___add__ := Z.methB_ok (c.fact 62 rfl)
    me_Ratio___radd__ := Z.methB_ok (c.fact 63 rfl)
    me_Ratio___mul__ := Z.methB_ok (c.fact 64 rfl)
    me_Ratio___rmul__ := Z.methB_ok (c.fact 65 rfl)
    me_Ratio___lt__ := Z.methB_ok (c.fact 66 rfl)
    me_Ratio___ge__ := Z.methB_ok (c.fact 67 rfl)
    me_Ratio_over := Z.methB_ok (c.fact 68 rfl)
    o_Rule := Z.ownB_ok (c.fact 69 rfl)
    ki_Rule_Stepping := Z.kitB2_ok (c.fact 70 rfl)
    g_Stepping := He.glo_ok X G (c.fact 71 rfl)
    o_Stepping := Z.ownB_ok (c.fact 72 rfl)
    mk_Stepping := Z.mkrB_ok (c.fact 73 rfl)
    k_Stepping_MOST := (Z.conIB_ok (c.fact 74 rfl) (by decide +kernel))
    na_Stepping_first := He.noat_ok (c.fact 75 rfl)
    na_Stepping_aside := He.noat_ok (c.fact 76 rfl)
    na_Stepping_steps := He.noat_ok (c.fact 77 rfl)
    na_Stepping_leaves := He.noat_ok (c.fact 78 rfl)
    na_Stepping_many := He.noat_ok (c.fact 79 rfl)
    me_Stepping_step_total := Z.methB_ok (c.fact 80 rfl)
    me_Stepping_shares := Z.methB_ok (c.fact 81 rfl)
    me_Stepping_values_of := Z.methB_ok (c.fact 82 rfl)
    me_Stepping_onward := Z.methB_ok (c.fact 83 rfl)
    me_Stepping_settled := Z.methB_ok (c.fact 84 rfl)
    me_Stepping_best := Z.methB_ok (c.fact 85 rfl)
    g_Weighted := He.glo_ok X G (c.fact 86 rfl)
    o_Weighted := Z.ownB_ok (c.fact 87 rfl)
    mk_Weighted := Z.mkrB_ok (c.fact 88 rfl)
    k_Weighted_MOST := (Z.conIB_ok (c.fact 89 rfl) (by decide +kernel))
    ki_Weighted_Stepping := Z.kitB2_ok (c.fact 90 rfl)
    na_Weighted_weights := He.noat_ok (c.fact 91 rfl)
    na_Weighted_aside := He.noat_ok (c.fact 92 rfl)
    na_Weighted_many := He.noat_ok (c.fact 93 rfl)
    me_Weighted_total_of := Z.methB_ok (c.fact 94 rfl)
    me_Weighted_shares := Z.methB_ok (c.fact 95 rfl)
    me_Weighted_best := Z.methB_ok (c.fact 96 rfl)
    third := Z.thirdB_ok (c.fact 97 rfl)
    c_BadNumber := Z.clsB_ok (c.fact 98 rfl)
    mro_BadNumber_BadNumber := Z.mroB_ok (c.fact 99 rfl)
    c_TooMany := Z.clsB_ok (c.fact 100 rfl)
    mro_TooMany_TooMany := Z.mroB_ok (c.fact 101 rfl)
    c_Stepping := Z.clsB_ok (c.fact 102 rfl)
    mro_Stepping_Stepping := Z.mroB_ok (c.fact 103 rfl)
    c_Weighted := Z.clsB_ok (c.fact 104 rfl)
    mro_Weighted_Weighted := Z.mroB_ok (c.fact 105 rfl)
    sm_Stepping_Stepping___init__ := Z.supmB_ok (c.fact 106 rfl)
    sm_Stepping_Stepping_shares := Z.supmB_ok (c.fact 107 rfl)
    sm_Weighted_Weighted___init__ := Z.supmB_ok (c.fact 108 rfl)
    sm_Weighted_Weighted_shares := Z.supmB_ok (c.fact 109 rfl)
    cm_Stepping_like := Z.cmB_ok (c.fact 110 rfl)
    cr_Stepping := Z.crB_ok (c.fact 111 rfl)
    F_Ratio___add__ := F_Ratio___add__
    F_Ratio___ge__ := F_Ratio___ge__
    F_Ratio___init__ := F_Ratio___init__
    F_Ratio___lt__ := F_Ratio___lt__
    F_Ratio___mul__ := F_Ratio___mul__
    F_Ratio_over := F_Ratio_over
    F_Rule___init__ := F_Rule___init__
    F_Rule_shares := F_Rule_shares
    F_Stepping_best := F_Stepping_best
    F_Stepping_onward := F_Stepping_onward
    F_Stepping_settled := F_Stepping_settled
    F_Stepping_step_total := F_Stepping_step_total
    F_Stepping_values_of := F_Stepping_values_of
    F_Weighted_best := F_Weighted_best
    F_Weighted_total_of := F_Weighted_total_of
    F__law_cell := F__law_cell
    F__law_draws := F__law_draws
    F__law_is_best := F__law_is_best
    F__law_is_int := F__law_is_int
    F__law_is_like := F__law_is_like
    F__law_lot := F__law_lot
    F__law_refused := F__law_refused
    F__law_row := F__law_row
    F__law_same := F__law_same
    F__law_same_lot := F__law_same_lot
    F__law_same_row := F__law_same_row
    F__law_ups := F__law_ups
    F__law_worth := F__law_worth
    F_check_lot := F_check_lot
    F_check_prices := F_check_prices
    F_check_steps := F_check_steps
    F_dearer_than_worth := F_dearer_than_worth
    F_dearest_order := F_dearest_order
    F_law := F_law
    F_lot_at := F_lot_at
    F_pivoted := F_pivoted
    F_solve := F_solve
    F_BadNumber___init__ := F_BadNumber___init__
    F_Stepping___init__ := F_Stepping___init__
    F_Stepping_shares := F_Stepping_shares
    F_TooMany___init__ := F_TooMany___init__
    F_Weighted___init__ := F_Weighted___init__
    F_Weighted_shares := F_Weighted_shares
    F_Stepping_like := F_Stepping_like
    p_top := by kernel_rfl
    b_Stepping_like := F_Stepping_like.bindsN fun _ _ _ _ _ _ us hl => match us, hl with | [_, _], _ => rfl
    b_Ratio___add__ := F_Ratio___add__.bindsN fun _ _ _ _ _ _ us hl => match us, hl with | [_, _], _ => rfl
    b_Ratio___ge__ := F_Ratio___ge__.bindsN fun _ _ _ _ _ _ us hl => match us, hl with | [_, _], _ => rfl
    b2_Ratio___init__ := F_Ratio___init__.binds1 2 0 (by intro z; cases z) rfl fun _ _ _ _ _ _ _ us its hl hi => match us, hl, its, hi with | [_, _], _, [_], _ => ⟨_, rfl, rfl⟩
    b3_Ratio___init__ := F_Ratio___init__.binds1 3 1 (by intro z; cases z) rfl fun _ _ _ _ _ _ _ us its hl hi => match us, hl, its, hi with | [_, _, _], _, [_], _ => ⟨_, rfl, rfl⟩
    b_Ratio___lt__ := F_Ratio___lt__.bindsN fun _ _ _ _ _ _ us hl => match us, hl with | [_, _], _ => rfl
    b_Ratio___mul__ := F_Ratio___mul__.bindsN fun _ _ _ _ _ _ us hl => match us, hl with | [_, _], _ => rfl
    b_Ratio_over := F_Ratio_over.bindsN fun _ _ _ _ _ _ us hl => match us, hl with | [_, _], _ => rfl
    b_Rule___init__ := F_Rule___init__.bindsN fun _ _ _ _ _ _ us hl => match us, hl with | [_, _], _ => rfl
    b_Rule_shares := F_Rule_shares.bindsN fun _ _ _ _ _ _ us hl => match us, hl with | [_, _], _ => rfl
    b_Stepping_best := F_Stepping_best.bindsN fun _ _ _ _ _ _ us hl => match us, hl with | [_, _], _ => rfl
    b_Stepping_onward := F_Stepping_onward.bindsN fun _ _ _ _ _ _ us hl => match us, hl with | [_, _, _], _ => rfl
    b_Stepping_settled := F_Stepping_settled.bindsN fun _ _ _ _ _ _ us hl => match us, hl with | [_, _], _ => rfl
    b_Stepping_step_total := F_Stepping_step_total.bindsN fun _ _ _ _ _ _ us hl => match us, hl with | [_, _], _ => rfl
    b_Stepping_values_of := F_Stepping_values_of.bindsN fun _ _ _ _ _ _ us hl => match us, hl with | [_, _, _], _ => rfl
    b_Weighted_best := F_Weighted_best.bindsN fun _ _ _ _ _ _ us hl => match us, hl with | [_, _], _ => rfl
    b_Weighted_total_of := F_Weighted_total_of.bindsN fun _ _ _ _ _ _ us hl => match us, hl with | [_, _], _ => rfl
    b__law_cell := F__law_cell.bindsN fun _ _ _ _ _ _ us hl => match us, hl with | [_, _], _ => rfl
    b__law_draws := F__law_draws.bindsN fun _ _ _ _ _ _ us hl => match us, hl with | [_, _], _ => rfl
    b__law_is_best := F__law_is_best.bindsN fun _ _ _ _ _ _ us hl => match us, hl with | [_, _, _, _], _ => rfl
    b__law_is_int := F__law_is_int.bindsN fun _ _ _ _ _ _ us hl => match us, hl with | [_], _ => rfl
    b__law_is_like := F__law_is_like.bindsN fun _ _ _ _ _ _ us hl => match us, hl with | [_, _, _], _ => rfl
    b__law_lot := F__law_lot.bindsN fun _ _ _ _ _ _ us hl => match us, hl with | [_, _], _ => rfl
    b__law_refused := F__law_refused.bindsN fun _ _ _ _ _ _ us hl => match us, hl with | [_], _ => rfl
    b__law_row := F__law_row.bindsN fun _ _ _ _ _ _ us hl => match us, hl with | [_, _], _ => rfl
    b__law_same := F__law_same.bindsN fun _ _ _ _ _ _ us hl => match us, hl with | [_, _, _], _ => rfl
    b__law_same_lot := F__law_same_lot.bindsN fun _ _ _ _ _ _ us hl => match us, hl with | [_, _], _ => rfl
    b__law_same_row := F__law_same_row.bindsN fun _ _ _ _ _ _ us hl => match us, hl with | [_, _], _ => rfl
    b__law_ups := F__law_ups.bindsN fun _ _ _ _ _ _ us hl => match us, hl with | [_], _ => rfl
    b__law_worth := F__law_worth.bindsN fun _ _ _ _ _ _ us hl => match us, hl with | [_, _, _, _], _ => rfl
    b_check_lot := F_check_lot.bindsN fun _ _ _ _ _ _ us hl => match us, hl with | [_, _], _ => rfl
    b_check_prices := F_check_prices.bindsN fun _ _ _ _ _ _ us hl => match us, hl with | [_, _], _ => rfl
    b_check_steps := F_check_steps.bindsN fun _ _ _ _ _ _ us hl => match us, hl with | [_, _, _, _], _ => rfl
    b_dearer_than_worth := F_dearer_than_worth.bindsN fun _ _ _ _ _ _ us hl => match us, hl with | [_, _], _ => rfl
    b_dearest_order := F_dearest_order.bindsN fun _ _ _ _ _ _ us hl => match us, hl with | [_], _ => rfl
    b_law := F_law.bindsN fun _ _ _ _ _ _ us hl => match us, hl with | [_], _ => rfl
    b_lot_at := F_lot_at.bindsN fun _ _ _ _ _ _ us hl => match us, hl with | [_, _], _ => rfl
    b_pivoted := F_pivoted.bindsN fun _ _ _ _ _ _ us hl => match us, hl with | [_, _, _, _], _ => rfl
    b_solve := F_solve.bindsN fun _ _ _ _ _ _ us hl => match us, hl with | [_, _], _ => rfl
    b_BadNumber___init__ := Z.FunS.binds F_BadNumber___init__ fun _ _ _ _ _ _ us hl => match us, hl with | [_, _, _], _ => rfl
    b_Stepping___init__ := Z.FunS.binds F_Stepping___init__ fun _ _ _ _ _ _ us hl => match us, hl with | [_, _, _, _, _], _ => rfl
    b_Stepping_shares := Z.FunS.binds F_Stepping_shares fun _ _ _ _ _ _ us hl => match us, hl with | [_, _], _ => rfl
    b_TooMany___init__ := Z.FunS.binds F_TooMany___init__ fun _ _ _ _ _ _ us hl => match us, hl with | [_, _, _], _ => rfl
    b_Weighted___init__ := Z.FunS.binds F_Weighted___init__ fun _ _ _ _ _ _ us hl => match us, hl with | [_, _, _], _ => rfl
    b_Weighted_shares := Z.FunS.binds F_Weighted_shares fun _ _ _ _ _ _ us hl => match us, hl with | [_, _], _ => rfl }
def sp_law0 (K : PySem.W.Frag) : Sp := fun vs H Q _ => ∃ (a : Addr) (ns : List Int), vs = [.ref a] ∧ SqL K H a (ns.map V.int) ∧ ∀ H', Q (.bl true) H'
end R
section
open PySem PySem.W PySem.Calls PyProof.Rows
set_option maxRecDepth 100000 in
set_option maxHeartbeats 0 in
theorem R.fin (ok : ∀ {w : World} {K : PySem.W.Frag} {mg : PySem.Str → Option Value} {base : Heap}, R.Tx PySem.Challenge.pw_dearestshelf_k45_whole_like_weights K mg → L2.FnOk PySem.Challenge.pw_dearestshelf_k45_whole_like_weights w K mg base L2.CX0 9 (He.ga K "law") (Z.fdOf K (He.ga K "law")) ["_law_script"] (R.sp_law0 K)) : PySem.Challenge.rw_dearestshelf_k45_whole_like_weights.Holds := by
  w_on; o_law
  refine HandSHeadRun.head_imp (r := OpenLaw.row PySem.Challenge.rw_dearestshelf_k45_whole_like_weights) (q := view (OpenLaw.row PySem.Challenge.rw_dearestshelf_k45_whole_like_weights).prog [0, 44]) (H := R.hk) (ob := R.ob) (M := 20000) (loose := ((["_wall", "ShelfError", "ZeroBottom", "BadText", "BadLot", "BadNumber", "TooMany", "DIGITS", "read_whole", "Ratio", "pivoted", "solve", "check_lot", "check_prices", "lot_at", "lots", "dearest_order", "Rule", "check_steps", "Stepping", "Weighted", "dearer_than_worth", "_law_cell", "_law_draws", "_law_row"] : List Str) ++ (["_law_ups", "_law_lot", "_law_is_int", "_law_same", "_law_same_lot", "_law_same_row", "_law_worth", "_law_is_like", "_law_refused", "_law_is_best"] : List Str))) (d := HandSHeadRun.topDef (OpenLaw.row PySem.Challenge.rw_dearestshelf_k45_whole_like_weights).prog 44) (kwd := []) R.ob_eq
    R.run (by kernel_rfl) (by kernel_rfl) (by kernel_rfl) (by rfl) (by first | assumption | decide +kernel) (by decide +kernel) ⟨rfl, rfl, rfl, rfl, rfl, by decide +kernel⟩ ?hw ?hc
  case hw => w_witness2
  case hc =>
    refine L2.walk_ofE (l := PySem.Challenge.rw_dearestshelf_k45_whole_like_weights) (n := 63) (k := 9) (x := "_law_script") (CX := L2.CX0) rfl (by decide) (by kernel_rfl) ⟨rfl, by decide, by decide⟩ ?F (fun _ _ _ _ z => z)
    intro w mg fa h Y G hmg0
    obtain ⟨K, KX, c⟩ := Y
    have hmg : mg ("law" : PySem.Str) = some (.ref fa) := by
      have e : (HandSHeadRun.topDef (OpenLaw.row PySem.Challenge.rw_dearestshelf_k45_whole_like_weights).prog 44).name = ("law" : PySem.Str) := by kernel_rfl
      rw [← e]
      exact hmg0
    have T := R.tx KX G c
    have e := hmg.symm.trans T.g_law
    cases e
    have b := L2.FunD.bindsA (ps := ["_law_script"]) T.F_law fun _ _ _ _ _ _ us hl => match us, hl with | [_], _ => rfl
    exact ⟨K, _, R.sp_law0 K, KX, fun s v => b s [v] rfl, fun H a ns hl _ hS => ⟨a, ns, rfl, hS, fun _ => rfl⟩, fun base _ _ => ok T⟩
end
namespace R
open PySem L2 Z
variable {P : Program} {w : World} {K : PySem.W.Frag} {mg : Str → Option Value} {base : Heap}
--lib
/-! ### a Ratio stands for a Rat -/
def rF (t b : Int) : List (Str × V) := [("top", .int t), ("bottom", .int b)]
theorem rF_top (t b : Int) : (rF t b).lookup ("top" : Str) = some (.int t) := rfl
theorem rF_bottom (t b : Int) : (rF t b).lookup ("bottom" : Str) = some (.int b) := by
  have h : (("bottom" : Str) == ("top" : Str)) = false := by decide +kernel
  simp only [rF, List.lookup, h]
  rfl
theorem rF_put (t b : Int) : putF "bottom" (.int b) (putF "top" (.int t) []) = rF t b := by
  have h : ¬ (("top" : Str) = ("bottom" : Str)) := by decide +kernel
  show (if ("top" : Str) = "bottom" then _ else _) = _
  rw [if_neg h]
  rfl
theorem rF_no (t b : Int) {m : Str} (h1 : (m == ("top" : Str)) = false) (h2 : (m == ("bottom" : Str)) = false) : (rF t b).lookup m = none := by
  simp only [rF, List.lookup, h1, h2]
/-- numbers of less than n bits -/
def Sz (q : Rat) (n : Nat) : Prop := q.num.natAbs < 2 ^ n ∧ q.den < 2 ^ n
theorem Sz.mono {q : Rat} {n m : Nat} (h : Sz q n) (hm : n ≤ m) : Sz q m := ⟨Nat.lt_of_lt_of_le h.1 (Nat.pow_le_pow_right (by decide) hm), Nat.lt_of_lt_of_le h.2 (Nat.pow_le_pow_right (by decide) hm)⟩
theorem Sz.den {q : Rat} {n : Nat} (h : Sz q n) : ((q.den : Int)).natAbs < 2 ^ n := by rw [Int.natAbs_natCast]; exact h.2
theorem Sz.num {q : Rat} {n : Nat} (h : Sz q n) : q.num.natAbs < 2 ^ n := h.1
/-- the Ratio of q stands at a, its numbers have less than n bits -/
structure RN (C : Addr) (H : Hp) (a : Addr) (q : Rat) (n : Nat) : Prop where
  at_ : ∃ dx, At H a (.ins C dx (rF q.num q.den))
  sz : Sz q n
  le : n ≤ 13400
theorem RN.ex {C a : Addr} {H H' : Hp} {q : Rat} {n : Nat} (h : RN C H a q n) (e : Ex H H') : RN C H' a q n := ⟨⟨h.at_.choose, e.get h.at_.choose_spec⟩, h.sz, h.le⟩
theorem RN.nl {C a : Addr} {H H' : Hp} {q : Rat} {n : Nat} (h : RN C H a q n) (e : Nl H H') : RN C H' a q n := ⟨⟨h.at_.choose, e.get (fun l z => by cases z) h.at_.choose_spec⟩, h.sz, h.le⟩
theorem rnE {C a : Addr} {H H' : Hp} {q : Rat} {n : Nat} (h : RN C H a q n) (e : Exs H H') : RN C H' a q n := h.ex e.ex
theorem rnN {C a : Addr} {H H' : Hp} {q : Rat} {n : Nat} (h : RN C H a q n) (e : Nls H H') : RN C H' a q n := h.nl e.nl
theorem RN.eq {C a : Addr} {H : Hp} {q r : Rat} {n m : Nat} (h : RN C H a q n) (e : q = r) (hm : n ≤ m) (h9 : m ≤ 13400) : RN C H a r m := ⟨e ▸ h.at_, e ▸ h.sz.mono hm, h9⟩
/-- an int or a Ratio -/
inductive RZ (C : Addr) (H : Hp) : V → Rat → Nat → Prop where
  | int {i : Int} {n : Nat} (h : i.natAbs < 2 ^ n) : RZ C H (.int i) (i : Rat) n
  | rat {a : Addr} {q : Rat} {n : Nat} (h : RN C H a q n) : RZ C H (.ref a) q n
theorem RZ.ex {C : Addr} {H H' : Hp} {v : V} {q : Rat} {n : Nat} (h : RZ C H v q n) (e : Ex H H') : RZ C H' v q n := by
  cases h with
  | int h => exact .int h
  | rat h => exact .rat (h.ex e)
/-- what __init__ reckons -/
theorem div_num {t b : Int} (hb : 0 < b) : (Rat.divInt t b).num = t / ((Nat.gcd t.natAbs b.natAbs : Nat) : Int) := by
  rw [Rat.num_divInt, Int.sign_eq_one_of_pos hb, Int.one_mul, Int.gcd_comm]; rfl
theorem div_den {t b : Int} (hb : 0 < b) : ((Rat.divInt t b).den : Int) = b / ((Nat.gcd t.natAbs b.natAbs : Nat) : Int) := by
  rw [Rat.den_divInt, if_neg (by omega), Int.gcd_comm, Int.natCast_ediv, Int.natAbs_of_nonneg (by omega)]; rfl
theorem sz_div {t b : Int} {n : Nat} (hb : b ≠ 0) (h1 : t.natAbs < 2 ^ n) (h2 : b.natAbs < 2 ^ n) : Sz (Rat.divInt t b) n := by
  constructor
  · rw [Rat.num_divInt]
    refine Nat.lt_of_le_of_lt ?_ h1
    refine Nat.le_trans (Int.natAbs_ediv_le_natAbs _ _) ?_
    rw [Int.natAbs_mul, Int.natAbs_sign_of_ne_zero hb]
    omega
  · rw [Rat.den_divInt, if_neg hb]
    exact Nat.lt_of_le_of_lt (Nat.div_le_self _ _) h2
theorem rat_eq (q : Rat) : q = Rat.divInt q.num q.den := (Rat.num_divInt_den q).symm
theorem div1 (n : Int) : (n : Rat) = Rat.divInt n 1 := by
  apply Rat.ext
  · rw [Rat.num_divInt]; simp
  · rw [Rat.den_divInt]; simp
theorem sz_int {i : Int} {n : Nat} (h : i.natAbs < 2 ^ n) : Sz (i : Rat) (n + 1) := by
  rw [div1]
  exact sz_div (by decide) (bt_mono h (by omega)) (by rw [Nat.pow_succ]; have := Nat.pow_pos (n := n) (show 0 < 2 by decide); show 1 < _; omega)
theorem den0 (q : Rat) : (q.den : Int) ≠ 0 := by have := q.den_pos; omega
theorem den1 (q : Rat) : (0 : Int) < q.den := by have := q.den_pos; omega
/-- sums, products, as __init__ is called for them -/
theorem add_int (q : Rat) (n : Int) : q + (n : Rat) = Rat.divInt (q.num + n * q.den) q.den := by
  conv => lhs; rw [div1 n, rat_eq q]
  rw [Rat.divInt_add_divInt _ _ (den0 q) (by decide), Int.mul_one, Int.mul_one]
theorem sub_int (q : Rat) (n : Int) : q - (n : Rat) = Rat.divInt (q.num - n * q.den) q.den := by
  conv => lhs; rw [div1 n, rat_eq q]
  rw [Rat.divInt_sub_divInt _ _ (den0 q) (by decide), Int.mul_one, Int.mul_one]
theorem mul_int' (q : Rat) (n : Int) : q * (n : Rat) = Rat.divInt (q.num * n) q.den := by
  conv => lhs; rw [div1 n, rat_eq q]
  rw [Rat.divInt_mul_divInt, Int.mul_one]
theorem add_rat (q r : Rat) : q + r = Rat.divInt (q.num * r.den + r.num * q.den) (q.den * r.den) := by
  conv => lhs; rw [rat_eq q, rat_eq r]
  rw [Rat.divInt_add_divInt _ _ (den0 q) (den0 r)]
theorem sub_rat (q r : Rat) : q - r = Rat.divInt (q.num * r.den - r.num * q.den) (q.den * r.den) := by
  conv => lhs; rw [rat_eq q, rat_eq r]
  rw [Rat.divInt_sub_divInt _ _ (den0 q) (den0 r)]
theorem mul_rat (q r : Rat) : q * r = Rat.divInt (q.num * r.num) (q.den * r.den) := by
  conv => lhs; rw [rat_eq q, rat_eq r]
  rw [Rat.divInt_mul_divInt]
theorem up9 {a : Int} {n : Nat} (h : a.natAbs < 2 ^ n) (hn : n ≤ 13400) : a.natAbs < 2 ^ 13400 := bt_mono h hn
theorem num0 {q : Rat} : q.num = 0 ↔ q = 0 := by
  constructor
  · intro h
    rw [rat_eq q, h]
    exact Rat.zero_divInt _
  · intro h; rw [h]; rfl
/-- quotients -/
theorem div_int (q : Rat) {n : Int} (h : n ≠ 0) : q / (n : Rat) = Rat.divInt q.num (q.den * n) := by
  conv => lhs; rw [div1 n, rat_eq q]
  rw [Rat.div_def, Rat.inv_divInt, Rat.divInt_mul_divInt, Int.mul_one]
theorem div_rat (q r : Rat) : q / r = Rat.divInt (q.num * r.den) (q.den * r.num) := by
  conv => lhs; rw [rat_eq q, rat_eq r]
  rw [Rat.div_def, Rat.inv_divInt, Rat.divInt_mul_divInt]
/-- order by whole numbers -/
theorem lt_rat (q r : Rat) : q < r ↔ q.num * r.den < r.num * q.den := Rat.lt_iff q r
theorem le_rat (q r : Rat) : q ≤ r ↔ q.num * r.den ≤ r.num * q.den := Rat.le_iff q r
theorem lt_int (q : Rat) (n : Int) : q < (n : Rat) ↔ q.num < n * q.den := by rw [lt_rat]; simp
theorem le_int (q : Rat) (n : Int) : q ≤ (n : Rat) ↔ q.num ≤ n * q.den := by rw [le_rat]; simp
theorem int_lt (q : Rat) (n : Int) : (n : Rat) < q ↔ n * q.den < q.num := by rw [lt_rat]; simp
theorem int_le (q : Rat) (n : Int) : (n : Rat) ≤ q ↔ n * q.den ≤ q.num := by rw [le_rat]; simp
theorem eq_rat (q r : Rat) : q = r ↔ (q.num = r.num ∧ (q.den : Int) = r.den) := by
  constructor
  · rintro rfl; exact ⟨rfl, rfl⟩
  · rintro ⟨h1, h2⟩
    exact Rat.ext h1 (by omega)
/-- a Ratio's fields, behind its __init__ -/
theorem mk_rat {C p dx : Addr} {H H2 H' : Hp} {q : Rat} {n : Nat} (nw : New C H p dx H2) (h1 : ∀ c o, c ≠ p → At H2 c o → At H' c o) (h2 : At H' p (.ins C dx (rF q.num q.den))) (hs : Sz q n) (hn : n ≤ 13400) : Ex H H' ∧ RN C H' p q n :=
  ⟨⟨fun {a} {o} e => h1 a o (e.ne nw.new) (nw.ex.get e)⟩, ⟨dx, h2⟩, hs, hn⟩
theorem floor_nd (q : Rat) : q.floor = q.num / q.den := by
  unfold Rat.floor
  split
  · rename_i h; rw [h]; simp
  · rfl
theorem le_divI {f t b : Int} (hb : 0 < b) : (f : Rat) ≤ Rat.divInt t b ↔ f * b ≤ t := by
  have h0 : (0 : Rat) < (b : Rat) := by exact_mod_cast hb
  rw [Rat.divInt_eq_div, ← Rat.not_lt, Rat.div_lt_iff h0, Rat.not_lt]
  exact_mod_cast Iff.rfl
theorem divI_lt {f t b : Int} (hb : 0 < b) : Rat.divInt t b < (f : Rat) ↔ t < f * b := by
  have h0 : (0 : Rat) < (b : Rat) := by exact_mod_cast hb
  rw [Rat.divInt_eq_div, Rat.div_lt_iff h0]
  exact_mod_cast Iff.rfl
/-- the floor of a fraction -/
theorem floor_div {t b : Int} (hb : 0 < b) : (Rat.divInt t b).floor * b ≤ t ∧ t < ((Rat.divInt t b).floor + 1) * b :=
  ⟨(le_divI hb).mp (Rat.floor_le _), (divI_lt hb).mp (Rat.lt_floor_add_one _)⟩
theorem floor_bt {q : Rat} {n : Nat} (h : Sz q n) : q.floor.natAbs < 2 ^ n := by rw [floor_nd]; exact bt_fdiv h.1
theorem floor_divI {t b : Int} (hb : 0 < b) : (Rat.divInt t b).floor = t / b := by
  obtain ⟨h1, h2⟩ := floor_div (t := t) hb
  apply Int.le_antisymm
  · exact (Int.le_ediv_iff_mul_le hb).mpr h1
  · exact Int.le_of_lt_add_one ((Int.ediv_lt_iff_lt_mul hb).mpr h2)
/-- the rest is smaller than the divisor -/
theorem rest_lt {t b : Int} (hb : b ≠ 0) : (t - b * (Rat.divInt t b).floor).natAbs < b.natAbs := by
  by_cases h : 0 < b
  · rw [floor_divI h]
    have h1 := Int.emod_nonneg t hb
    have h2 := Int.emod_lt_of_pos t h
    have h3 := Int.mul_ediv_add_emod t b
    omega
  · have hn : 0 < -b := by omega
    have e : Rat.divInt t b = Rat.divInt (-t) (-b) := (Rat.neg_divInt_neg t b).symm
    rw [e, floor_divI hn]
    have h1 := Int.emod_nonneg (-t) (show -b ≠ 0 by omega)
    have h2 := Int.emod_lt_of_pos (-t) hn
    have h3 := Int.mul_ediv_add_emod (-t) (-b)
    have h4 : -b * (-t / -b) = -(b * (-t / -b)) := Int.neg_mul _ _
    omega
theorem sz_mod {q r : Rat} {n m : Nat} (hq : Sz q n) (hr : Sz r m) (h0 : r ≠ 0) : Sz (q - r * ((q / r).floor : Rat)) (n + m) := by
  have hn : r.num ≠ 0 := fun z => h0 (num0.mp z)
  have hd := den0 q
  have e : q - r * ((q / r).floor : Rat) = Rat.divInt (q.num * r.den - r.num * q.den * (q / r).floor) (q.den * r.den) := by
    conv => lhs; rw [rat_eq q, rat_eq r]
    rw [← rat_eq q, ← rat_eq r]
    generalize (q / r).floor = f
    have e1 : r * (f : Rat) = Rat.divInt (r.num * f) r.den := mul_int' r f
    rw [e1]
    conv => lhs; rw [rat_eq q]
    rw [Rat.divInt_sub_divInt _ _ hd (den0 r)]
    congr 1
    grind
  have hb : (q.den : Int) * r.num ≠ 0 := Int.mul_ne_zero hd hn
  have hl := rest_lt (t := q.num * r.den) hb
  rw [← div_rat] at hl
  have hl2 : (q.num * r.den - r.num * q.den * (q / r).floor).natAbs < 2 ^ (n + m) := by
    rw [Int.mul_comm r.num q.den]
    exact Nat.lt_trans hl (bt_mul hq.den hr.1)
  rw [e]
  exact sz_div (Int.mul_ne_zero hd (den0 r)) hl2 (bt_mul hq.den hr.den)
theorem div_lt {a b c d : Int} (hb : 0 < b) (hd : 0 < d) : Rat.divInt a b < Rat.divInt c d ↔ a * d < c * b := by
  have h1 : (0 : Rat) < (b : Rat) := by exact_mod_cast hb
  have h2 : (0 : Rat) < (d : Rat) := by exact_mod_cast hd
  have e : (c : Rat) / d * b = (c : Rat) * b / d := by rw [Rat.div_def, Rat.div_def]; grind
  rw [Rat.divInt_eq_div, Rat.divInt_eq_div, Rat.div_lt_iff h1, e, Rat.lt_div_iff h2]
  exact_mod_cast Iff.rfl
theorem div_le {a b c d : Int} (hb : 0 < b) (hd : 0 < d) : Rat.divInt a b ≤ Rat.divInt c d ↔ a * d ≤ c * b := by
  rw [← Rat.not_lt, div_lt hd hb, Int.not_lt]
theorem RN.tight {C a : Addr} {H : Hp} {q r : Rat} {n m : Nat} (h : RN C H a q n) (e : q = r) (hs : Sz r m) (h9 : m ≤ 13400) : RN C H a r m := ⟨e ▸ h.at_, hs, h9⟩
theorem sz0 {n : Nat} (h : 1 ≤ n) : Sz 0 n := Sz.mono (n := 1) ⟨by decide, by decide⟩ h
theorem sz1 {n : Nat} (h : 1 ≤ n) : Sz 1 n := Sz.mono (n := 1) ⟨by decide, by decide⟩ h
theorem divI_le_q (q : Rat) {B T : Int} (hT : 0 < T) : Rat.divInt B T ≤ q ↔ B * q.den ≤ q.num * T := by
  have h := div_le (a := B) (c := q.num) hT (den1 q)
  rwa [← rat_eq q] at h
theorem divI_lt_q (q : Rat) {B T : Int} (hT : 0 < T) : Rat.divInt B T < q ↔ B * q.den < q.num * T := by
  have h := div_lt (a := B) (c := q.num) hT (den1 q)
  rwa [← rat_eq q] at h
theorem divI_eq_q (q : Rat) {B T : Int} (hT : 0 < T) : Rat.divInt B T = q ↔ B * q.den = q.num * T := by
  have h := Rat.divInt_eq_divInt_iff (n₁ := B) (n₂ := q.num) (show T ≠ 0 by omega) (den0 q)
  rwa [← rat_eq q] at h

--lib
/-! ### what Ratio's methods promise -/
/-- q op r -/
def spBin (C : Addr) (f : Rat → Rat → Rat) : Sp := fun vs H Q _ => ∃ (a : Addr) (v : V) (q r : Rat) (n m : Nat), vs = [.ref a, v] ∧ RN C H a q n ∧ RZ C H v r m ∧ n + m + 1 ≤ 13400 ∧ ∀ p H', Fr H p → Ex H H' → RN C H' p (f q r) (n + m + 1) → Q (.ref p) H'
/-- i op q, i an int on the left -/
def spRev (C : Addr) (f : Rat → Rat → Rat) : Sp := fun vs H Q _ => ∃ (a : Addr) (i : Int) (q : Rat) (n m : Nat), vs = [.ref a, .int i] ∧ RN C H a q n ∧ i.natAbs < 2 ^ m ∧ n + m + 1 ≤ 13400 ∧ ∀ p H', Fr H p → Ex H H' → RN C H' p (f (i : Rat) q) (n + m + 1) → Q (.ref p) H'
def spUn (C : Addr) (f : Rat → Rat) : Sp := fun vs H Q _ => ∃ (a : Addr) (q : Rat) (n : Nat), vs = [.ref a] ∧ RN C H a q n ∧ ∀ p H', Fr H p → Ex H H' → RN C H' p (f q) n → Q (.ref p) H'
/-- q < r and the like -/
def spCmp (C : Addr) (f : Rat → Rat → Bool) : Sp := fun vs H Q _ => ∃ (a : Addr) (v : V) (q r : Rat) (n m : Nat), vs = [.ref a, v] ∧ RN C H a q n ∧ RZ C H v r m ∧ m ≤ 50000 ∧ Q (.bl (f q r)) H
/-- q == r; an int is never equal -/
def spEq (C : Addr) : Sp := fun vs H Q _ => ∃ (a : Addr) (q : Rat) (n : Nat), RN C H a q n ∧ ((∃ (b : Addr) (r : Rat) (m : Nat), vs = [.ref a, .ref b] ∧ RN C H b r m ∧ Q (.bl (decide (q = r))) H) ∨ ∃ i : Int, vs = [.ref a, .int i] ∧ Q (.bl false) H)
def spBool (C : Addr) : Sp := fun vs H Q _ => ∃ (a : Addr) (q : Rat) (n : Nat), vs = [.ref a] ∧ RN C H a q n ∧ Q (.bl (!decide (q = 0))) H
/-- q.over(r) -/
def spOver (K : PySem.W.Frag) : Sp := fun vs H Q E => ∃ (a : Addr) (v : V) (q r : Rat) (n m : Nat), vs = [.ref a, v] ∧ RN (He.ga K "Ratio") H a q n ∧ RZ (He.ga K "Ratio") H v r m ∧ n + m + 1 ≤ 13400 ∧
  (r = 0 → ∀ H', Ex H H' → E (.ref (He.ga K "ZeroBottom")) none H') ∧ (r ≠ 0 → ∀ p H', Fr H p → Ex H H' → RN (He.ga K "Ratio") H' p (q / r) (n + m + 1) → Q (.ref p) H')
/-- q // r -/
def spFloor (K : PySem.W.Frag) : Sp := fun vs H Q E => ∃ (a : Addr) (v : V) (q r : Rat) (n m : Nat), vs = [.ref a, v] ∧ RN (He.ga K "Ratio") H a q n ∧ RZ (He.ga K "Ratio") H v r m ∧ n + m + 1 ≤ 13400 ∧
  (r = 0 → ∀ H', Ex H H' → E (.ref (He.ga K "ZeroBottom")) none H') ∧ (r ≠ 0 → ∀ H', Ex H H' → (q / r).floor.natAbs < 2 ^ (n + m + 1) → Q (.int (q / r).floor) H')
/-- q % r -/
def spMod (K : PySem.W.Frag) : Sp := fun vs H Q E => ∃ (a : Addr) (v : V) (q r : Rat) (n m : Nat), vs = [.ref a, v] ∧ RN (He.ga K "Ratio") H a q n ∧ RZ (He.ga K "Ratio") H v r m ∧ 3 * n + 3 * m + 9 ≤ 13400 ∧
  (r = 0 → ∀ H', Ex H H' → E (.ref (He.ga K "ZeroBottom")) none H') ∧ (r ≠ 0 → ∀ p H', Fr H p → Ex H H' → RN (He.ga K "Ratio") H' p (q - r * ((q / r).floor : Rat)) (n + m + 1) → Q (.ref p) H')
section
variable {C : Addr} {H : Hp} {Q : VK} {E : XK} {a b : Addr} {q r : Rat} {n m : Nat} {i : Int} {f : Rat → Rat → Rat} {f1 : Rat → Rat} {fc : Rat → Rat → Bool} {K : PySem.W.Frag}
theorem u_OO (ha : RN C H a q n) (hb : RN C H b r m) (hs : n + m + 1 ≤ 13400) (k : ∀ p H', Fr H p → Ex H H' → RN C H' p (f q r) (n + m + 1) → Q (.ref p) H') : rOO C (spBin C f) E (.ref a) (.ref b) H Q := by
  obtain ⟨dx, hx⟩ := ha.at_
  obtain ⟨dy, hy⟩ := hb.at_
  exact ⟨a, dx, _, b, dy, _, rfl, rfl, hx, hy, a, _, q, r, n, m, rfl, ha, .rat hb, hs, k⟩
theorem u_OI (ha : RN C H a q n) (hb : i.natAbs < 2 ^ m) (hs : n + m + 1 ≤ 13400) (k : ∀ p H', Fr H p → Ex H H' → RN C H' p (f q (i : Rat)) (n + m + 1) → Q (.ref p) H') : rOI C (spBin C f) E (.ref a) (.int i) H Q := by
  obtain ⟨dx, hx⟩ := ha.at_
  exact ⟨a, dx, _, i, rfl, rfl, hx, a, _, q, _, n, m, rfl, ha, .int hb, hs, k⟩
theorem u_IO (ha : RN C H a q n) (hb : i.natAbs < 2 ^ m) (hs : n + m + 1 ≤ 13400) (k : ∀ p H', Fr H p → Ex H H' → RN C H' p (f (i : Rat) q) (n + m + 1) → Q (.ref p) H') : rIO C (spRev C f) E (.int i) (.ref a) H Q := by
  obtain ⟨dx, hx⟩ := ha.at_
  exact ⟨a, dx, _, i, rfl, rfl, hx, a, i, q, n, m, rfl, ha, hb, hs, k⟩
theorem u_UO (ha : RN C H a q n) (k : ∀ p H', Fr H p → Ex H H' → RN C H' p (f1 q) n → Q (.ref p) H') : rUO C (spUn C f1) E (.ref a) H Q := by
  obtain ⟨dx, hx⟩ := ha.at_
  exact ⟨a, dx, _, rfl, hx, a, q, n, rfl, ha, k⟩
theorem u_C1 (ha : RN C H a q n) (k : ∀ p H', Fr H p → Ex H H' → RN C H' p (f1 q) n → Q (.ref p) H') : rC1 C (spUn C f1) E [.ref a] H Q := by
  obtain ⟨dx, hx⟩ := ha.at_
  exact ⟨a, dx, _, rfl, hx, a, q, n, rfl, ha, k⟩
theorem u_cOO (ha : RN C H a q n) (hb : RN C H b r m) (k : Q (.bl (fc q r)) H) : rOO C (spCmp C fc) E (.ref a) (.ref b) H Q := by
  obtain ⟨dx, hx⟩ := ha.at_
  obtain ⟨dy, hy⟩ := hb.at_
  have := hb.le
  exact ⟨a, dx, _, b, dy, _, rfl, rfl, hx, hy, a, _, q, r, n, m, rfl, ha, .rat hb, by omega, k⟩
theorem u_cOI (ha : RN C H a q n) (hb : i.natAbs < 2 ^ m) (hm : m ≤ 50000) (k : Q (.bl (fc q (i : Rat))) H) : rOI C (spCmp C fc) E (.ref a) (.int i) H Q := by
  obtain ⟨dx, hx⟩ := ha.at_
  exact ⟨a, dx, _, i, rfl, rfl, hx, a, _, q, _, n, m, rfl, ha, .int hb, hm, k⟩
theorem u_cIO (ha : RN C H a q n) (hb : i.natAbs < 2 ^ m) (hm : m ≤ 50000) (k : Q (.bl (fc q (i : Rat))) H) : rIO C (spCmp C fc) E (.int i) (.ref a) H Q := by
  obtain ⟨dx, hx⟩ := ha.at_
  exact ⟨a, dx, _, i, rfl, rfl, hx, a, _, q, _, n, m, rfl, ha, .int hb, hm, k⟩
theorem u_eOO (ha : RN C H a q n) (hb : RN C H b r m) (k : Q (.bl (decide (q = r))) H) : rOO C (spEq C) E (.ref a) (.ref b) H Q := by
  obtain ⟨dx, hx⟩ := ha.at_
  obtain ⟨dy, hy⟩ := hb.at_
  exact ⟨a, dx, _, b, dy, _, rfl, rfl, hx, hy, a, q, n, ha, .inl ⟨b, r, m, rfl, hb, k⟩⟩
theorem u_eOI (ha : RN C H a q n) (k : Q (.bl false) H) : rOI C (spEq C) E (.ref a) (.int i) H Q := by
  obtain ⟨dx, hx⟩ := ha.at_
  exact ⟨a, dx, _, i, rfl, rfl, hx, a, q, n, ha, .inr ⟨i, rfl, k⟩⟩
theorem u_eIO (ha : RN C H a q n) (k : Q (.bl false) H) : rIO C (spEq C) E (.int i) (.ref a) H Q := by
  obtain ⟨dx, hx⟩ := ha.at_
  exact ⟨a, dx, _, i, rfl, rfl, hx, a, q, n, ha, .inr ⟨i, rfl, k⟩⟩
theorem u_bO (ha : RN C H a q n) (k : Q (.bl (!decide (q = 0))) H) : rBoolO C (spBool C) E [.ref a] H Q := by
  obtain ⟨dx, hx⟩ := ha.at_
  exact ⟨a, dx, _, rfl, hx, a, q, n, rfl, ha, _, rfl, k⟩
theorem u_me {m : Str} {sp : Sp} {t : TA} {σ : L2.St} {k : Nat} (ha : RN C H a q k) (h1 : (m == ("top" : Str)) = false) (h2 : (m == ("bottom" : Str)) = false) (k : t σ H fun vs H2 => sp (.ref a :: vs) H2 Q E) : dMe C m sp [] E t σ Q (.ref a) H := by
  obtain ⟨dx, hx⟩ := ha.at_
  exact w_dMe0 hx (rF_no _ _ h1 h2) k
theorem u_top (ha : RN C H a q n) (cl : Cls K C) (na : NoAttr K C "top") (k : Q (.int q.num) H) : dF K "top" Q (.ref a) H := by
  obtain ⟨dx, hx⟩ := ha.at_
  exact w_dF hx cl na (rF_top _ _) k
theorem u_bot (ha : RN C H a q n) (cl : Cls K C) (na : NoAttr K C "bottom") (k : Q (.int q.den) H) : dF K "bottom" Q (.ref a) H := by
  obtain ⟨dx, hx⟩ := ha.at_
  exact w_dF hx cl na (rF_bottom _ _) k
theorem u_isR (ha : RN C H a q n) (O : OwnC K C) (k : Q (.bl true) H) : rIsi K [.ref a, .ref C] H Q := by
  obtain ⟨dx, hx⟩ := ha.at_
  exact w_isiOC O hx k
end
/-- a.over(v) -/
theorem u_over {K : PySem.W.Frag} {H : Hp} {Q : VK} {E : XK} {a : Addr} {v : V} {q r : Rat} {n m : Nat} (ha : RN (He.ga K "Ratio") H a q n) (hv : RZ (He.ga K "Ratio") H v r m) (hs : n + m + 1 ≤ 13400) (h0 : r ≠ 0) (k : ∀ p H', Fr H p → Ex H H' → RN (He.ga K "Ratio") H' p (q / r) (n + m + 1) → Q (.ref p) H') :
    spOver K [.ref a, v] H Q E := ⟨a, v, q, r, n, m, rfl, ha, hv, hs, fun z => absurd z h0, fun _ => k⟩

--lib
/-- a tuple of naturals -/
abbrev nats (os : List Nat) : List V := (os.map fun n : Nat => (n : Int)).map V.int
/-! ### lots and their numbers -/
/-- the bit t of n -/
def tb (n t : Nat) : Bool := n / 2 ^ t % 2 == 1
/-- the lot with the number n, of the things below m -/
def lotOf (n m : Nat) : List Nat := (List.range m).filter (tb n)
def sum2 (l : List Nat) : Nat := (l.map fun t => 2 ^ t).sum
theorem sum2_append (l r : List Nat) : sum2 (l ++ r) = sum2 l + sum2 r := by simp [sum2]
theorem lotOf_succ (n m : Nat) : lotOf n (m + 1) = lotOf n m ++ (if tb n m then [m] else []) := by
  unfold lotOf
  rw [List.range_succ, List.filter_append]
  by_cases h : tb n m <;> simp [h]
theorem sum2_lotOf (n m : Nat) : sum2 (lotOf n m) = n % 2 ^ m := by
  induction m with
  | zero => simp [lotOf, sum2, Nat.mod_one]
  | succ m ih =>
    rw [lotOf_succ, sum2_append, ih, Nat.mod_pow_succ]
    have h2 : n / 2 ^ m % 2 = 0 ∨ n / 2 ^ m % 2 = 1 := by omega
    unfold tb
    rcases h2 with h | h <;> simp [h, sum2]
theorem lotOf_more {n m : Nat} (h : n < 2 ^ m) : lotOf n (m + 1) = lotOf n m := by
  rw [lotOf_succ]
  have : tb n m = false := by
    unfold tb
    rw [Nat.div_eq_of_lt h]
    rfl
  simp [this]
theorem lotOf_lt {n m x : Nat} (h : x ∈ lotOf n m) : x < m := List.mem_range.mp (List.mem_filter.mp h).1
theorem lotOf_sorted (n m : Nat) : (lotOf n m).Pairwise (· < ·) := List.Pairwise.filter _ List.pairwise_lt_range
theorem lotOf_len (n m : Nat) : (lotOf n m).length ≤ m := by
  unfold lotOf
  exact Nat.le_trans (List.length_filter_le _ _) (by simp)
theorem sum2_take {l : List Nat} {i : Nat} (h : i < l.length) : sum2 (l.take (i + 1)) = sum2 (l.take i) + 2 ^ (l.getD i 0) := by
  rw [List.take_succ_eq_append_getElem h, sum2_append, Z.getD_get _ _ _ h]
  simp [sum2]

--lib
/-! ### lots, prices, rules (behind lots) -/
def IsLot (n : Int) (lot : List Int) : Prop := lot.Pairwise (· < ·) ∧ ∀ x ∈ lot, 0 ≤ x ∧ x < n
/-- above what stood before, below n -/
def okFrom (n : Int) : Int → List Int → Prop
  | _, [] => True
  | b, x :: r => b < x ∧ x < n ∧ okFrom n x r
theorem okFrom_iff (n : Int) : ∀ (lot : List Int) (b : Int), okFrom n b lot ↔ (lot.Pairwise (· < ·) ∧ ∀ x ∈ lot, b < x ∧ x < n)
  | [], b => ⟨fun _ => ⟨.nil, fun x hx => by simp at hx⟩, fun _ => trivial⟩
  | y :: r, b => by
    show (b < y ∧ y < n ∧ okFrom n y r) ↔ _
    rw [okFrom_iff n r y, List.pairwise_cons]
    constructor
    · rintro ⟨h1, h2, h3, h4⟩
      refine ⟨⟨fun x hx => (h4 x hx).1, h3⟩, fun x hx => ?_⟩
      rcases List.mem_cons.mp hx with rfl | hx
      · exact ⟨h1, h2⟩
      · have := h4 x hx; omega
    · rintro ⟨⟨h1, h2⟩, h3⟩
      exact ⟨(h3 y (by simp)).1, (h3 y (by simp)).2, h2, fun x hx => ⟨h1 x hx, (h3 x (by simp [hx])).2⟩⟩
theorem isLot_iff {n : Int} {lot : List Int} : IsLot n lot ↔ okFrom n (-1) lot := by
  rw [okFrom_iff]
  constructor
  · rintro ⟨h1, h2⟩; exact ⟨h1, fun x hx => by have := h2 x hx; omega⟩
  · rintro ⟨h1, h2⟩; exact ⟨h1, fun x hx => by have := h2 x hx; omega⟩
theorem lot_len : ∀ (lot : List Int) (b n : Int), okFrom n b lot → (lot.length : Int) ≤ max 0 (n - 1 - b)
  | [], b, n, _ => by simp; omega
  | x :: r, b, n, ⟨h1, h2, h3⟩ => by
    have := lot_len r x n h3
    rw [List.length_cons]
    omega
theorem IsLot.len {n : Int} {lot : List Int} (h : IsLot n lot) : lot.length ≤ n.toNat := by
  have := lot_len lot (-1) n (isLot_iff.mp h)
  omega
/-- prices that check_prices lets pass -/
def PricesOk (n : Int) (ps : List Int) : Prop := (ps.length : Int) = n ∧ ∀ x ∈ ps, 0 ≤ x
/-- the errors of check_prices -/
def PErr (K : PySem.W.Frag) (n : Int) (ps : List Int) (E : XK) (H : Hp) : Prop :=
  ((ps.length : Int) ≠ n → ∀ d H', Fr H d → Ex H H' → At H' d (.xd [("at", .non), ("what", .str "prices")]) → E (.ref (He.ga K "BadNumber")) (some d) H') ∧
  ((ps.length : Int) = n → ∀ i, i < ps.length → ps.getD i 0 < 0 → (∀ j, j < i → 0 ≤ ps.getD j 0) → ∀ d H', Fr H d → Ex H H' → At H' d (.xd [("at", .int (i : Nat)), ("what", .str "prices")]) → E (.ref (He.ga K "BadNumber")) (some d) H')
theorem PErr.up {K : PySem.W.Frag} {n : Int} {ps : List Int} {E : XK} {H H1 : Hp} (h : PErr K n ps E H) (e : Ex H H1) : PErr K n ps E H1 :=
  ⟨fun a d H' f g => h.1 a d H' (e.back f) (e.trans g), fun a i b c j d H' f g => h.2 a i b c j d H' (e.back f) (e.trans g)⟩
theorem PErr.ok {K : PySem.W.Frag} {n : Int} {ps : List Int} {E : XK} {H : Hp} (h : PricesOk n ps) : PErr K n ps E H :=
  ⟨fun z => absurd h.1 z, fun _ i hi hn => by rw [getD_get _ _ _ hi] at hn; have := h.2 _ (List.getElem_mem hi); omega⟩
theorem all_getD {ps : List Int} {c : Int} (h : ∀ j, j < ps.length → c ≤ ps.getD j 0) : ∀ x ∈ ps, c ≤ x := fun w hw => by
  obtain ⟨i, hi, rfl⟩ := List.mem_iff_getElem.mp hw
  have := h i hi
  rwa [getD_get _ _ _ hi] at this
/-- a list of Ratios -/
def RL (C : Addr) (H : Hp) (xs : List V) (qs : List Rat) (b : Nat) : Prop := xs.length = qs.length ∧ ∀ i, i < qs.length → ∃ a, xs[i]? = some (.ref a) ∧ RN C H a (qs.getD i 0) b
theorem RL.ex {C : Addr} {H H' : Hp} {xs : List V} {qs : List Rat} {b : Nat} (h : RL C H xs qs b) (e : Ex H H') : RL C H' xs qs b := ⟨h.1, fun i hi => by
  obtain ⟨a, h1, h2⟩ := h.2 i hi
  exact ⟨a, h1, h2.ex e⟩⟩
theorem RL.nl {C : Addr} {H H' : Hp} {xs : List V} {qs : List Rat} {b : Nat} (h : RL C H xs qs b) (e : Nl H H') : RL C H' xs qs b := ⟨h.1, fun i hi => by
  obtain ⟨a, h1, h2⟩ := h.2 i hi
  exact ⟨a, h1, h2.nl e⟩⟩
theorem rlE {C : Addr} {H H' : Hp} {xs : List V} {qs : List Rat} {b : Nat} (h : RL C H xs qs b) (e : Exs H H') : RL C H' xs qs b := h.ex e.ex
theorem rlN {C : Addr} {H H' : Hp} {xs : List V} {qs : List Rat} {b : Nat} (h : RL C H xs qs b) (e : Nls H H') : RL C H' xs qs b := h.nl e.nl
theorem RL.mono {C : Addr} {H : Hp} {xs : List V} {qs : List Rat} {b c : Nat} (h : RL C H xs qs b) (hb : b ≤ c) (h9 : c ≤ 13400) : RL C H xs qs c := ⟨h.1, fun i hi => by
  obtain ⟨a, h1, h2⟩ := h.2 i hi
  exact ⟨a, h1, h2.eq rfl hb h9⟩⟩
theorem RL.nil {C : Addr} {H : Hp} {b : Nat} : RL C H [] [] b := ⟨rfl, fun i hi => absurd hi (by simp)⟩
theorem RL.snoc {C : Addr} {H : Hp} {xs : List V} {qs : List Rat} {b : Nat} {a : Addr} {q : Rat} (h : RL C H xs qs b) (r : RN C H a q b) : RL C H (xs ++ [.ref a]) (qs ++ [q]) b := by
  refine ⟨by simp [h.1], fun i hi => ?_⟩
  by_cases e : i < qs.length
  · obtain ⟨c, h1, h2⟩ := h.2 i e
    refine ⟨c, by rw [List.getElem?_append_left (by rw [h.1]; exact e)]; exact h1, ?_⟩
    rw [List.getD_eq_getElem?_getD, List.getElem?_append_left e, ← List.getD_eq_getElem?_getD]
    exact h2
  · have ei : i = qs.length := by simp at hi; omega
    subst ei
    refine ⟨a, by rw [← h.1]; simp, ?_⟩
    rw [List.getD_eq_getElem?_getD]
    simpa using r
theorem RL.set {C : Addr} {H : Hp} {xs : List V} {qs : List Rat} {b i : Nat} {a : Addr} {q : Rat} (h : RL C H xs qs b) (r : RN C H a q b) : RL C H (xs.set i (.ref a)) (qs.set i q) b := by
  refine ⟨by simp [h.1], fun j hj => ?_⟩
  rw [List.length_set] at hj
  by_cases e : i = j
  · subst e
    refine ⟨a, by simp [h.1, hj], ?_⟩
    rw [List.getD_eq_getElem?_getD]
    simpa [hj] using r
  · obtain ⟨c, h1, h2⟩ := h.2 j hj
    refine ⟨c, by rw [List.getElem?_set_ne e]; exact h1, ?_⟩
    rw [List.getD_eq_getElem?_getD, List.getElem?_set_ne e, ← List.getD_eq_getElem?_getD]
    exact h2
theorem RL.at {C : Addr} {H : Hp} {xs : List V} {qs : List Rat} {b : Nat} {i : Int} (h : RL C H xs qs b) (h0 : 0 ≤ i) (h1 : i < qs.length) : ∃ a, atI xs i = some (.ref a) ∧ RN C H a (qs.getD i.toNat 0) b := by
  obtain ⟨a, h2, h3⟩ := h.2 i.toNat (by omega)
  refine ⟨a, ?_, h3⟩
  unfold atI
  rw [ixN_pos h0 (by rw [h.1]; exact h1)]
  exact h2
/-- rl[i] -/
theorem u_ixR {K : PySem.W.Frag} {C : Addr} {H : Hp} {Q : VK} {l : Addr} {xs : List V} {qs : List Rat} {b : Nat} {i : Int} (hl : SqL K H l xs) (h : RL C H xs qs b) (h0 : 0 ≤ i) (h1 : i < qs.length) (k : ∀ a, RN C H a (qs.getD i.toNat 0) b → Q (.ref a) H) : rIx K (.ref l) (.int i) H Q := by
  obtain ⟨a, h2, h3⟩ := h.at h0 h1
  exact w_ixL hl h2 (k a h3)
/-- what a lot brings -/
def worthQ (sh : List Rat) (lot ps : List Int) : Rat := (lot.map fun t => sh.getD t.toNat 0 * (ps.getD t.toNat 0 : Rat)).sum
theorem sum_snocQ (l : List Rat) (q : Rat) : (l ++ [q]).sum = l.sum + q := by
  induction l with
  | nil => simp [Rat.add_comm, Rat.add_zero]
  | cons a r ih => rw [List.cons_append, List.sum_cons, List.sum_cons, ih, Rat.add_assoc]
/-- the plain rule -/
def Rep_Rule (K : PySem.W.Frag) (H : Hp) (x : Addr) (n : Int) (sh : List Int → List Rat) (b : Nat) : Prop := (∃ dx, At H x (.ins (He.ga K "Rule") dx [("many", .int n)])) ∧ 0 ≤ n ∧ n ≤ 24 ∧ sh = (fun _ => List.replicate n.toNat 0) ∧ 1 ≤ b ∧ b ≤ 13400
theorem Rep_Rule.ex {K : PySem.W.Frag} {H H' : Hp} {x : Addr} {n : Int} {sh : List Int → List Rat} {b : Nat} (h : Rep_Rule K H x n sh b) (e : Ex H H') : Rep_Rule K H' x n sh b := by
  obtain ⟨⟨dx, h1⟩, h2⟩ := h
  exact ⟨⟨dx, e.get h1⟩, h2⟩
theorem Rep_Rule.nl {K : PySem.W.Frag} {H H' : Hp} {x : Addr} {n : Int} {sh : List Int → List Rat} {b : Nat} (h : Rep_Rule K H x n sh b) (e : Nl H H') : Rep_Rule K H' x n sh b := by
  obtain ⟨⟨dx, h1⟩, h2⟩ := h
  exact ⟨⟨dx, e.get (fun l z => by cases z) h1⟩, h2⟩
/-- what all rules have: the number of things and methods -/
def RB (C : Addr) (H : Hp) (x : Addr) (n : Int) : Prop := ∃ dx fs, At H x (.ins C dx fs) ∧ fs.lookup ("many" : Str) = some (.int n) ∧ (∀ m ∈ (["shares", "away", "worth", "best", "best_dearest", "MOST", "SMALL", "total_of", "reduced", "bound", "thing_values"] : List Str), fs.lookup m = none) ∧ 0 ≤ n ∧ n ≤ 24
theorem RB.ex {C : Addr} {H H' : Hp} {x : Addr} {n : Int} (h : RB C H x n) (e : Ex H H') : RB C H' x n := by
  obtain ⟨dx, fs, h1, h2⟩ := h
  exact ⟨dx, fs, e.get h1, h2⟩
theorem RB.nl {C : Addr} {H H' : Hp} {x : Addr} {n : Int} (h : RB C H x n) (e : Nl H H') : RB C H' x n := by
  obtain ⟨dx, fs, h1, h2⟩ := h
  exact ⟨dx, fs, e.get (fun l z => by cases z) h1, h2⟩
theorem rbE {C : Addr} {H H' : Hp} {x : Addr} {n : Int} (h : RB C H x n) (e : Exs H H') : RB C H' x n := h.ex e.ex
theorem rbN {C : Addr} {H H' : Hp} {x : Addr} {n : Int} (h : RB C H x n) (e : Nls H H') : RB C H' x n := h.nl e.nl
theorem Rep_Rule.rb {K : PySem.W.Frag} {H : Hp} {x : Addr} {n : Int} {sh : List Int → List Rat} {b : Nat} (h : Rep_Rule K H x n sh b) : RB (He.ga K "Rule") H x n := by
  obtain ⟨⟨dx, h1⟩, h2, h3, _⟩ := h
  refine ⟨dx, _, h1, rfl, fun m hm => ?_, h2, h3⟩
  have : (m == ("many" : Str)) = false := by revert m; decide +kernel
  simp only [List.lookup, this]
theorem Rep_Rule.len {K : PySem.W.Frag} {H : Hp} {x : Addr} {n : Int} {sh : List Int → List Rat} {b : Nat} (h : Rep_Rule K H x n sh b) (lot : List Int) : (sh lot).length = n.toNat := by
  obtain ⟨_, _, _, rfl, _⟩ := h
  simp
section
variable {K : PySem.W.Frag} {C : Addr} {H : Hp} {Q : VK} {E : XK} {x : Addr} {n : Int}
theorem u_rmany (h : RB C H x n) (cl : Cls K C) (na : NoAttr K C "many") (k : Q (.int n) H) : dF K "many" Q (.ref x) H := by
  obtain ⟨dx, fs, h1, h2, _⟩ := h
  exact w_dF h1 cl na h2 k
theorem u_rme {m : Str} {sp : Sp} {t : TA} {σ : L2.St} (h : RB C H x n) (hm : m ∈ (["shares", "away", "worth", "best", "best_dearest", "MOST", "SMALL", "total_of", "reduced", "bound", "thing_values"] : List Str)) (k : t σ H fun vs H2 => sp (.ref x :: vs) H2 Q E) : dMe C m sp [] E t σ Q (.ref x) H := by
  obtain ⟨dx, fs, h1, h2, h3, _⟩ := h
  exact w_dMe0 h1 (h3 m hm) k
theorem u_rcon {f : Str} {v : V} (h : RB C H x n) (cl : Cls K C) (hk : ∃ u, Con K C f v u) (hm : f ∈ (["shares", "away", "worth", "best", "best_dearest", "MOST", "SMALL", "total_of", "reduced", "bound", "thing_values"] : List Str)) (k : Q v H) : dCon K f Q (.ref x) H := by
  obtain ⟨dx, fs, h1, h2, h3, _⟩ := h
  exact w_dCon h1 cl hk (h3 f hm) k
theorem u_risC2 {D : Addr} {b : Bool} (h : RB C H x n) (O : OwnC K C) (hk : PySem.W.kitOne K (.ref C) (.ref D) = some b) (k : Q (.bl b) H) : rIsi K [.ref x, .ref D] H Q := by
  obtain ⟨dx, fs, h1, _⟩ := h
  exact w_isiOA O h1 hk k
theorem u_risO2 (h : RB C H x n) (O : OwnC K C) (k : Q (.bl true) H) : rIsi K [.ref x, .ref C] H Q := by
  obtain ⟨dx, fs, h1, _⟩ := h
  exact w_isiOC O h1 k
end
theorem sum_take {qs : List Rat} {i : Nat} (h : i < qs.length) : (qs.take (i + 1)).sum = (qs.take i).sum + qs.getD i 0 := by
  rw [List.take_succ_eq_append_getElem h, sum_snocQ, getD_get _ _ _ h]
theorem take_snoc {α : Type} {l : List α} {i : Nat} (h : i < l.length) (d : α) : l.take (i + 1) = l.take i ++ [l.getD i d] := by
  rw [List.take_succ_eq_append_getElem h, getD_get _ _ _ h]
theorem adj_pw : ∀ (l : List Int), (∀ j, j + 1 < l.length → l.getD j 0 < l.getD (j + 1) 0) → l.Pairwise (· < ·)
  | [], _ => .nil
  | [a], _ => by simp
  | a :: b :: r, h => by
    have ih := adj_pw (b :: r) fun j hj => by
      have := h (j + 1) (by simpa using hj)
      simpa using this
    have hab : a < b := by have := h 0 (by simp); simpa using this
    refine List.pairwise_cons.mpr ⟨fun x hx => ?_, ih⟩
    rcases List.mem_cons.mp hx with rfl | hx
    · exact hab
    · have := (List.pairwise_cons.mp ih).1 x hx
      omega
theorem pw_adj {l : List Int} (h : l.Pairwise (· < ·)) (j : Nat) (hj : j + 1 < l.length) : l.getD j 0 < l.getD (j + 1) 0 := by
  rw [getD_get _ _ _ hj, getD_get _ _ _ (show j < l.length by omega)]
  exact List.pairwise_iff_getElem.mp h j (j + 1) (by omega) hj (by omega)
theorem lotOf_isLot (c m : Nat) : IsLot (m : Int) ((lotOf c m).map fun n : Nat => (n : Int)) := by
  constructor
  · rw [List.pairwise_map]
    exact (lotOf_sorted c m).imp fun h => by omega
  · intro x hx
    obtain ⟨t, ht, rfl⟩ := List.mem_map.mp hx
    have := lotOf_lt ht
    omega
/-- a plain rule of n things -/
abbrev RuleAt (K : PySem.W.Frag) (H : Hp) (x : Addr) (n : Int) : Prop := Rep_Rule K H x n (fun _ => List.replicate n.toNat 0) 1
theorem sum_rep0 (n : Nat) : (List.replicate n (0 : Rat)).sum = 0 := by
  induction n with
  | zero => rfl
  | succ n ih => rw [List.replicate_succ, List.sum_cons, ih]; exact Rat.add_zero 0
theorem getD_rep0 (n i : Nat) : (List.replicate n (0 : Rat)).getD i 0 = 0 := by
  rw [List.getD_eq_getElem?_getD, List.getElem?_replicate]
  split <;> rfl
theorem worth0 (n : Nat) (lot ps : List Int) : worthQ (List.replicate n 0) lot ps = 0 := by
  unfold worthQ
  induction lot with
  | nil => rfl
  | cons t r ih => rw [List.map_cons, List.sum_cons, ih, getD_rep0]; grind
/-- all things -/
theorem allLot {n : Int} (hn : 0 ≤ n) : IsLot n ((List.range n.toNat).map fun k : Nat => (k : Int)) := by
  constructor
  · rw [List.pairwise_map]
    exact List.pairwise_lt_range.imp fun h => by omega
  · intro x hx
    obtain ⟨k, hk, rfl⟩ := List.mem_map.mp hx
    have := List.mem_range.mp hk
    omega
/-- a list of pairs of ints -/
def PL (H : Hp) (xs : List V) (ps : List (Int × Int)) : Prop := xs.length = ps.length ∧ ∀ i, i < ps.length → ∃ a, xs[i]? = some (.ref a) ∧ At H a (.tup [.int (ps.getD i (0, 0)).1, .int (ps.getD i (0, 0)).2])
theorem PL.ex {H H' : Hp} {xs : List V} {ps : List (Int × Int)} (h : PL H xs ps) (e : Ex H H') : PL H' xs ps := ⟨h.1, fun i hi => by
  obtain ⟨a, h1, h2⟩ := h.2 i hi
  exact ⟨a, h1, e.get h2⟩⟩
theorem PL.nl {H H' : Hp} {xs : List V} {ps : List (Int × Int)} (h : PL H xs ps) (e : Nl H H') : PL H' xs ps := ⟨h.1, fun i hi => by
  obtain ⟨a, h1, h2⟩ := h.2 i hi
  exact ⟨a, h1, e.get (fun l z => by cases z) h2⟩⟩
theorem plE {H H' : Hp} {xs : List V} {ps : List (Int × Int)} (h : PL H xs ps) (e : Exs H H') : PL H' xs ps := h.ex e.ex
theorem plN {H H' : Hp} {xs : List V} {ps : List (Int × Int)} (h : PL H xs ps) (e : Nls H H') : PL H' xs ps := h.nl e.nl
theorem PL.nil {H : Hp} : PL H [] [] := ⟨rfl, fun i hi => absurd hi (by simp)⟩
theorem PL.snoc {H : Hp} {xs : List V} {ps : List (Int × Int)} {a : Addr} {p : Int × Int} (h : PL H xs ps) (r : At H a (.tup [.int p.1, .int p.2])) : PL H (xs ++ [.ref a]) (ps ++ [p]) := by
  refine ⟨by simp [h.1], fun i hi => ?_⟩
  by_cases e : i < ps.length
  · obtain ⟨c, h1, h2⟩ := h.2 i e
    refine ⟨c, by rw [List.getElem?_append_left (by rw [h.1]; exact e)]; exact h1, ?_⟩
    rw [List.getD_eq_getElem?_getD, List.getElem?_append_left e, ← List.getD_eq_getElem?_getD]
    exact h2
  · have ei : i = ps.length := by simp at hi; omega
    subst ei
    refine ⟨a, by rw [← h.1]; simp, ?_⟩
    rw [List.getD_eq_getElem?_getD]
    simpa using r
theorem u_ixP {K : PySem.W.Frag} {H : Hp} {Q : VK} {l : Addr} {xs : List V} {ps : List (Int × Int)} {i : Int} (hl : SqL K H l xs) (h : PL H xs ps) (h0 : 0 ≤ i) (h1 : i < ps.length) (k : ∀ a, At H a (.tup [.int (ps.getD i.toNat (0, 0)).1, .int (ps.getD i.toNat (0, 0)).2]) → Q (.ref a) H) : rIx K (.ref l) (.int i) H Q := by
  obtain ⟨a, h2, h3⟩ := h.2 i.toNat (by omega)
  refine w_ixL hl ?_ (k a h3)
  unfold atI
  rw [ixN_pos h0 (by rw [h.1]; exact h1)]
  exact h2
/-- what comes of worth, and the place of the first wrong price -/
inductive PRes (n : Int) (ps : List Int) : V → Int → Prop
  | len (h : (ps.length : Int) ≠ n) : PRes n ps .non (-1)
  | neg (h : (ps.length : Int) = n) (i : Nat) (hi : i < ps.length) (hw : ps.getD i 0 < 0) (hb : ∀ j, j < i → 0 ≤ ps.getD j 0) : PRes n ps (.int (i : Nat)) (i : Nat)
theorem PRes.det {n : Int} {ps : List Int} {v w : V} {i j : Int} (h : PRes n ps v i) (g : PRes n ps w j) : v = w ∧ i = j := by
  cases h with
  | len h => cases g <;> first | exact ⟨rfl, rfl⟩ | contradiction
  | neg h i hi hw hb =>
    cases g with
    | len h => contradiction
    | neg h2 i2 hi2 hw2 hb2 =>
      have : i = i2 := by
        rcases Nat.lt_trichotomy i i2 with q | q | q
        · have := hb2 i q; omega
        · exact q
        · have := hb i2 q; omega
      subst this
      exact ⟨rfl, rfl⟩
theorem PRes.no {n : Int} {ps : List Int} {v : V} {i : Int} (h : PRes n ps v i) (g : PricesOk n ps) : False := by
  cases h with
  | len h => exact h g.1
  | neg h i hi hw hb =>
    have := g.2 _ (List.getElem_mem hi)
    rw [getD_get _ _ _ hi] at hw
    omega
theorem PRes.lt {n : Int} {ps : List Int} {v : V} {i : Int} (h : PRes n ps v i) (hn : 0 ≤ n) : i < n := by
  cases h with
  | len h => omega
  | neg h i hi hw hb => omega

--lib
/-! ### Weighted rules -/
/-- fields of a Weighted -/
abbrev wF (n : Int) (t : Addr) (a : Int) : List (Str × V) := [("many", .int n), ("weights", .ref t), ("aside", .int a)]
/-- a Weighted with these numbers stands at x -/
structure WR (K : PySem.W.Frag) (H : Hp) (x : Addr) (ws : List Int) (a : Int) : Prop where
  at_ : ∃ dx t, At H x (.ins (He.ga K "Weighted") dx (wF ws.length t a)) ∧ At H t (.tup (ws.map V.int))
  len : ws.length ≤ 24
  pos : ∀ w ∈ ws, 1 ≤ w
  apos : 1 ≤ a
theorem WR.ex {K : PySem.W.Frag} {H H' : Hp} {x : Addr} {ws : List Int} {a : Int} (h : WR K H x ws a) (e : Ex H H') : WR K H' x ws a := by
  obtain ⟨⟨dx, t, h1, h2⟩, h3, h4, h5⟩ := h
  exact ⟨⟨dx, t, e.get h1, e.get h2⟩, h3, h4, h5⟩
theorem WR.nl {K : PySem.W.Frag} {H H' : Hp} {x : Addr} {ws : List Int} {a : Int} (h : WR K H x ws a) (e : Nl H H') : WR K H' x ws a := by
  obtain ⟨⟨dx, t, h1, h2⟩, h3, h4, h5⟩ := h
  exact ⟨⟨dx, t, e.get (fun l z => by cases z) h1, e.get (fun l z => by cases z) h2⟩, h3, h4, h5⟩
theorem wrE {K : PySem.W.Frag} {H H' : Hp} {x : Addr} {ws : List Int} {a : Int} (h : WR K H x ws a) (e : Exs H H') : WR K H' x ws a := h.ex e.ex
theorem wrN {K : PySem.W.Frag} {H H' : Hp} {x : Addr} {ws : List Int} {a : Int} (h : WR K H x ws a) (e : Nls H H') : WR K H' x ws a := h.nl e.nl
theorem WR.posD {K : PySem.W.Frag} {H : Hp} {x : Addr} {ws : List Int} {a : Int} (h : WR K H x ws a) (i : Nat) (hi : i < ws.length) : 1 ≤ ws.getD i 0 := by
  rw [getD_get _ _ _ hi]; exact h.pos _ (List.getElem_mem hi)
section
variable {K : PySem.W.Frag} {H : Hp} {Q : VK} {E : XK} {x : Addr} {ws : List Int} {a : Int}
theorem u_wts (h : WR K H x ws a) (cl : Cls K (He.ga K "Weighted")) (na : NoAttr K (He.ga K "Weighted") "weights") (k : ∀ t, SqT K H t (ws.map V.int) → At H t (.tup (ws.map V.int)) → Q (.ref t) H) : dF K "weights" Q (.ref x) H := by
  obtain ⟨⟨dx, t, h1, h2⟩, h3, h4, h5⟩ := h
  exact w_dF h1 cl na rfl (k t (st_of h2) h2)
theorem u_asd (h : WR K H x ws a) (cl : Cls K (He.ga K "Weighted")) (na : NoAttr K (He.ga K "Weighted") "aside") (k : Q (.int a) H) : dF K "aside" Q (.ref x) H := by
  obtain ⟨⟨dx, t, h1, h2⟩, h3, h4, h5⟩ := h
  exact w_dF h1 cl na rfl k
theorem u_many (h : WR K H x ws a) (cl : Cls K (He.ga K "Weighted")) (na : NoAttr K (He.ga K "Weighted") "many") (k : Q (.int ws.length) H) : dF K "many" Q (.ref x) H := by
  obtain ⟨⟨dx, t, h1, h2⟩, h3, h4, h5⟩ := h
  exact w_dF h1 cl na rfl k
theorem u_meW {m : Str} {sp : Sp} {t : TA} {σ : L2.St} (h : WR K H x ws a) (h1 : (m == ("many" : Str)) = false) (h2 : (m == ("weights" : Str)) = false) (h3 : (m == ("aside" : Str)) = false) (k : t σ H fun vs H2 => sp (.ref x :: vs) H2 Q E) : dMe (He.ga K "Weighted") m sp [] E t σ Q (.ref x) H := by
  obtain ⟨⟨dx, t', h4, h5⟩, h6, h7, h8⟩ := h
  exact w_dMe0 h4 (by simp only [wF, List.lookup, h1, h2, h3]) k
theorem u_isW (h : WR K H x ws a) (O : OwnC K (He.ga K "Weighted")) (k : Q (.bl true) H) : rIsi K [.ref x, .ref (He.ga K "Weighted")] H Q := by
  obtain ⟨⟨dx, t', h4, h5⟩, h6, h7, h8⟩ := h
  exact w_isiOC O h4 k
end
/-! the greatest divisor of all -/
def gL (a : Nat) (ws : List Int) : Nat := ws.foldl (fun g w => Nat.gcd g w.natAbs) a
theorem gL_snoc (a : Nat) (ws : List Int) (w : Int) : gL a (ws ++ [w]) = Nat.gcd (gL a ws) w.natAbs := by unfold gL; rw [List.foldl_append]; rfl
theorem gL_dvd : ∀ (ws : List Int) (a : Nat), gL a ws ∣ a ∧ ∀ w ∈ ws, gL a ws ∣ w.natAbs
  | [], a => ⟨Nat.dvd_refl _, fun w h => by simp at h⟩
  | w :: r, a => by
    obtain ⟨h1, h2⟩ := gL_dvd r (Nat.gcd a w.natAbs)
    refine ⟨Nat.dvd_trans h1 (Nat.gcd_dvd_left _ _), fun x hx => ?_⟩
    rcases List.mem_cons.mp hx with rfl | hx
    · exact Nat.dvd_trans h1 (Nat.gcd_dvd_right _ _)
    · exact h2 x hx
theorem gL_div : ∀ (ws : List Int) (a d : Nat), 0 < d → d ∣ a → (∀ w ∈ ws, 0 ≤ w ∧ d ∣ w.natAbs) → gL (a / d) (ws.map fun w => w / (d : Int)) = gL a ws / d
  | [], a, d, _, _, _ => rfl
  | w :: r, a, d, hd, ha, hw => by
    obtain ⟨h0, h1⟩ := hw w (by simp)
    have e : (w / (d : Int)).natAbs = w.natAbs / d := by
      obtain ⟨n, rfl⟩ := Int.eq_ofNat_of_zero_le h0
      rfl
    show gL (Nat.gcd (a / d) (w / (d : Int)).natAbs) (r.map fun w => w / (d : Int)) = gL (Nat.gcd a w.natAbs) r / d
    rw [e, Nat.gcd_div ha h1]
    exact gL_div r _ d hd (Nat.dvd_gcd ha h1) fun x hx => hw x (List.mem_cons_of_mem _ hx)
theorem gL_one (a : Nat) (ws : List Int) (ha : 0 < a) (hw : ∀ w ∈ ws, 0 ≤ w) : gL (a / gL a ws) (ws.map fun w => w / (gL a ws : Int)) = 1 := by
  obtain ⟨h1, h2⟩ := gL_dvd ws a
  have h3 : 0 < gL a ws := Nat.pos_of_dvd_of_pos h1 ha
  rw [gL_div ws a (gL a ws) h3 h1 fun w hx => ⟨hw w hx, h2 w hx⟩]
  exact Nat.div_self h3

--lib
/-! ### shares by weights -/
def wsum (ws lot : List Int) : Int := (lot.map fun t => ws.getD t.toNat 0).sum
/-- shares when the things of the lot up to place i have got theirs -/
def shWi (ws : List Int) (tot : Int) (part : List Int) : List Rat := (List.range ws.length).map fun t : Nat => if (t : Int) ∈ part then Rat.divInt (ws.getD t 0) tot else 0
def shW (ws : List Int) (a : Int) (lot : List Int) : List Rat := shWi ws (a + wsum ws lot) lot
theorem shWi_len (ws : List Int) (tot : Int) (part : List Int) : (shWi ws tot part).length = ws.length := by unfold shWi; simp
theorem shWi_get (ws : List Int) (tot : Int) (part : List Int) {t : Nat} (h : t < ws.length) : (shWi ws tot part).getD t 0 = if (t : Int) ∈ part then Rat.divInt (ws.getD t 0) tot else 0 := by
  rw [getD_get _ _ _ (by rw [shWi_len]; exact h)]
  unfold shWi
  simp
theorem shWi_nil (ws : List Int) (tot : Int) : shWi ws tot [] = List.replicate ws.length 0 := by
  unfold shWi
  apply List.ext_getElem
  · simp
  · intro i h1 h2; simp
theorem shWi_snoc (ws : List Int) (tot : Int) (part : List Int) {t : Int} (h0 : 0 ≤ t) (h1 : t < ws.length) : (shWi ws tot part).set t.toNat (Rat.divInt (ws.getD t.toNat 0) tot) = shWi ws tot (part ++ [t]) := by
  obtain ⟨t, rfl⟩ := Int.eq_ofNat_of_zero_le h0
  unfold shWi
  apply List.ext_getElem
  · simp
  · intro i h2 h3
    simp only [List.length_set, List.length_map, List.length_range] at h2
    rw [List.getElem_set]
    simp only [List.getElem_map, List.getElem_range, Int.toNat_natCast, List.mem_append, List.mem_singleton]
    by_cases e : t = i
    · subst e; simp
    · have e' : ¬ (i : Int) = (t : Int) := by omega
      simp [e, e']
theorem wsum_snoc (ws lot : List Int) (t : Int) : wsum ws (lot ++ [t]) = wsum ws lot + ws.getD t.toNat 0 := by unfold wsum; simp
theorem wsum_nonneg {ws : List Int} (h : ∀ w ∈ ws, 1 ≤ w) (lot : List Int) : 0 ≤ wsum ws lot := by
  unfold wsum
  induction lot with
  | nil => simp
  | cons t r ih =>
    rw [List.map_cons, List.sum_cons]
    have : 0 ≤ ws.getD t.toNat 0 := by
      rw [List.getD_eq_getElem?_getD]
      cases e : ws[t.toNat]? with
      | none => simp
      | some w =>
        have := h w (List.mem_of_getElem? e)
        simp; omega
    omega
theorem wsum_le {ws : List Int} {B : Int} (hB : 0 ≤ B) (h : ∀ w ∈ ws, w ≤ B) : ∀ (lot : List Int), wsum ws lot ≤ (lot.length : Int) * B
  | [] => by simp [wsum]
  | t :: r => by
    have ih := wsum_le hB h r
    unfold wsum at *
    rw [List.map_cons, List.sum_cons, List.length_cons]
    have : ws.getD t.toNat 0 ≤ B := by
      rw [List.getD_eq_getElem?_getD]
      cases e : ws[t.toNat]? with
      | none => simpa using hB
      | some w => exact h w (List.mem_of_getElem? e)
    rw [Int.natCast_add, Int.add_mul]
    omega
/-- the things of a lot among all things -/
theorem lot_filter {n : Int} {lot : List Int} (h : IsLot n lot) : (((List.range n.toNat).filter fun t : Nat => decide ((t : Int) ∈ lot)).map fun t : Nat => (t : Int)) = lot := by
  refine List.Perm.eq_of_pairwise (le := (· ≤ ·)) (fun a b _ _ h g => by omega) ?_ (h.1.imp fun h => by omega) ?_
  · rw [List.pairwise_map]
    exact (List.pairwise_lt_range.filter _).imp fun h => by omega
  · refine (List.perm_ext_iff_of_nodup ?_ (h.1.imp fun h => by omega)).mpr fun a => ?_
    · unfold List.Nodup
      rw [List.pairwise_map]
      exact (List.pairwise_lt_range.filter _).imp fun h => by omega
    · rw [List.mem_map]
      constructor
      · rintro ⟨t, ht, rfl⟩
        have := (List.mem_filter.mp ht).2
        simpa using this
      · intro ha
        have := h.2 a ha
        refine ⟨a.toNat, ?_, by omega⟩
        rw [List.mem_filter, List.mem_range]
        refine ⟨by omega, ?_⟩
        rw [Int.toNat_of_nonneg this.1]
        simpa using ha
theorem sum_if {α : Type} (l : List α) (p : α → Bool) (f : α → Rat) : (l.map fun t => if p t = true then f t else 0).sum = ((l.filter p).map f).sum := by
  induction l with
  | nil => rfl
  | cons a r ih =>
    rw [List.map_cons, List.sum_cons, ih, List.filter_cons]
    by_cases h : p a
    · simp [h]
    · simp [h]; exact Rat.zero_add _
theorem sum_divInt {α : Type} (l : List α) (f : α → Int) {d : Int} (hd : d ≠ 0) : (l.map fun t => Rat.divInt (f t) d).sum = Rat.divInt (l.map f).sum d := by
  induction l with
  | nil => simp
  | cons a r ih =>
    rw [List.map_cons, List.sum_cons, ih, List.map_cons, List.sum_cons, Rat.divInt_add_divInt _ _ hd hd]
    have : f a * d + (r.map f).sum * d = (f a + (r.map f).sum) * d := by rw [Int.add_mul]
    rw [this]
    exact Rat.divInt_mul_right hd
theorem shW_sum {ws : List Int} {a : Int} {lot : List Int} (h : IsLot ws.length lot) (ht : a + wsum ws lot ≠ 0) : (shW ws a lot).sum = Rat.divInt (wsum ws lot) (a + wsum ws lot) := by
  unfold shW shWi
  have e : (List.range ws.length).map (fun t : Nat => if (t : Int) ∈ lot then Rat.divInt (ws.getD t 0) (a + wsum ws lot) else 0) = (List.range ws.length).map (fun t : Nat => if decide ((t : Int) ∈ lot) = true then Rat.divInt (ws.getD t 0) (a + wsum ws lot) else 0) := by
    simp only [decide_eq_true_eq]
  rw [e, sum_if (List.range ws.length) (fun t : Nat => decide ((t : Int) ∈ lot)) fun t : Nat => Rat.divInt (ws.getD t 0) (a + wsum ws lot)]
  have f := lot_filter h
  rw [Int.toNat_natCast] at f
  have g : (((List.range ws.length).filter fun t : Nat => decide ((t : Int) ∈ lot)).map fun t : Nat => Rat.divInt (ws.getD t 0) (a + wsum ws lot)) = lot.map fun t => Rat.divInt (ws.getD t.toNat 0) (a + wsum ws lot) := by
    generalize a + wsum ws lot = tot
    have q : ∀ l : List Int, l = lot → (((List.range ws.length).filter fun t : Nat => decide ((t : Int) ∈ lot)).map fun t : Nat => (t : Int)) = l → (((List.range ws.length).filter fun t : Nat => decide ((t : Int) ∈ lot)).map fun t : Nat => Rat.divInt (ws.getD t 0) tot) = l.map fun t => Rat.divInt (ws.getD t.toNat 0) tot := fun l _ hl => by
      rw [← hl, List.map_map]
      rfl
    exact q lot rfl f
  rw [g, sum_divInt lot (fun t => ws.getD t.toNat 0) ht]
  rfl
theorem awayW {ws : List Int} {a : Int} {lot : List Int} (h : IsLot ws.length lot) (ht : a + wsum ws lot ≠ 0) : 1 - (shW ws a lot).sum = Rat.divInt a (a + wsum ws lot) := by
  rw [shW_sum h ht]
  have e : (1 : Rat) = Rat.divInt (a + wsum ws lot) (a + wsum ws lot) := (Rat.divInt_self' ht).symm
  rw [e, Rat.divInt_sub_divInt _ _ ht ht, ← Int.sub_mul, Rat.divInt_mul_right ht]
  congr 1
  omega
/-- weight times price -/
def wpsum (ws ps lot : List Int) : Int := (lot.map fun t => ws.getD t.toNat 0 * ps.getD t.toNat 0).sum
theorem worthW {ws ps : List Int} {a : Int} {lot : List Int} (h : IsLot ws.length lot) (ht : a + wsum ws lot ≠ 0) : worthQ (shW ws a lot) lot ps = Rat.divInt (wpsum ws ps lot) (a + wsum ws lot) := by
  unfold worthQ wpsum
  rw [← sum_divInt lot _ ht]
  congr 1
  apply List.map_congr_left
  intro t hm
  have := h.2 t hm
  have e : (shW ws a lot).getD t.toNat 0 = Rat.divInt (ws.getD t.toNat 0) (a + wsum ws lot) := by
    unfold shW
    rw [shWi_get _ _ _ (by omega), Int.toNat_of_nonneg this.1, if_pos hm]
  rw [e, div1 (ps.getD t.toNat 0), Rat.divInt_mul_divInt, Int.mul_one]
/-- a Weighted as a rule; its weights have B bits -/
def Rep_Weighted (K : PySem.W.Frag) (H : Hp) (x : Addr) (n : Int) (sh : List Int → List Rat) (b : Nat) : Prop := ∃ ws a B, WR K H x ws a ∧ n = ws.length ∧ sh = shW ws a ∧ (∀ w ∈ ws, w < 2 ^ B) ∧ a < 2 ^ B ∧ B + 5 ≤ b ∧ b ≤ 13400
theorem Rep_Weighted.ex {K : PySem.W.Frag} {H H' : Hp} {x : Addr} {n : Int} {sh : List Int → List Rat} {b : Nat} (h : Rep_Weighted K H x n sh b) (e : Ex H H') : Rep_Weighted K H' x n sh b := by
  obtain ⟨ws, a, B, h1, h2⟩ := h
  exact ⟨ws, a, B, h1.ex e, h2⟩
theorem Rep_Weighted.nl {K : PySem.W.Frag} {H H' : Hp} {x : Addr} {n : Int} {sh : List Int → List Rat} {b : Nat} (h : Rep_Weighted K H x n sh b) (e : Nl H H') : Rep_Weighted K H' x n sh b := by
  obtain ⟨ws, a, B, h1, h2⟩ := h
  exact ⟨ws, a, B, h1.nl e, h2⟩
theorem WR.rb {K : PySem.W.Frag} {H : Hp} {x : Addr} {ws : List Int} {a : Int} (h : WR K H x ws a) : RB (He.ga K "Weighted") H x ws.length := by
  obtain ⟨⟨dx, t, h1, h2⟩, h3, _⟩ := h
  refine ⟨dx, _, h1, rfl, fun m hm => ?_, by omega, by omega⟩
  have e1 : (m == ("many" : Str)) = false := by revert m; decide +kernel
  have e2 : (m == ("weights" : Str)) = false := by revert m; decide +kernel
  have e3 : (m == ("aside" : Str)) = false := by revert m; decide +kernel
  simp only [wF, List.lookup, e1, e2, e3]
theorem Rep_Weighted.rb {K : PySem.W.Frag} {H : Hp} {x : Addr} {n : Int} {sh : List Int → List Rat} {b : Nat} (h : Rep_Weighted K H x n sh b) : RB (He.ga K "Weighted") H x n := by
  obtain ⟨ws, a, B, h1, rfl, _⟩ := h
  exact h1.rb
theorem Rep_Weighted.len {K : PySem.W.Frag} {H : Hp} {x : Addr} {n : Int} {sh : List Int → List Rat} {b : Nat} (h : Rep_Weighted K H x n sh b) (lot : List Int) : (sh lot).length = n.toNat := by
  obtain ⟨ws, a, B, h1, rfl, rfl, _⟩ := h
  unfold shW
  rw [shWi_len]
  rfl
theorem WR.rep {K : PySem.W.Frag} {H : Hp} {x : Addr} {ws : List Int} {a : Int} {B : Nat} (h : WR K H x ws a) (hw : ∀ w ∈ ws, w < 2 ^ B) (ha : a < 2 ^ B) (hB : B + 5 ≤ 13400) : Rep_Weighted K H x ws.length (shW ws a) (B + 5) := ⟨ws, a, B, h, rfl, rfl, hw, ha, Nat.le_refl _, hB⟩
/-- the total has B + 5 bits -/
theorem tot_bt {ws lot : List Int} {a : Int} {B : Nat} (hp : ∀ w ∈ ws, 1 ≤ w) (ha0 : 1 ≤ a) (hw : ∀ w ∈ ws, w < 2 ^ B) (ha : a < 2 ^ B) (hl : lot.length ≤ 24) : 1 ≤ a + wsum ws lot ∧ (a + wsum ws lot).natAbs < 2 ^ (B + 5) := by
  have h1 := wsum_nonneg hp lot
  have h2 := wsum_le (B := 2 ^ B) (by exact_mod_cast Nat.zero_le _) (fun w hx => by have := hw w hx; omega) lot
  have h3 : (lot.length : Int) * 2 ^ B ≤ 24 * 2 ^ B := Int.mul_le_mul_of_nonneg_right (by omega) (by exact_mod_cast Nat.zero_le _)
  refine ⟨by omega, ?_⟩
  have h4 : a + wsum ws lot < 32 * 2 ^ B := by omega
  have h5 : ((a + wsum ws lot).natAbs : Int) < ((2 ^ (B + 5) : Nat) : Int) := by
    rw [Int.natAbs_of_nonneg (by omega), Nat.pow_add]
    push_cast
    omega
  exact_mod_cast h5
theorem others_lot {n : Int} (hn : 0 ≤ n) (p : Nat → Bool) : IsLot n (((List.range n.toNat).filter p).map fun k : Nat => (k : Int)) := by
  constructor
  · rw [List.pairwise_map]
    exact (List.pairwise_lt_range.filter _).imp fun h => by omega
  · intro x hx
    obtain ⟨k, hk, rfl⟩ := List.mem_map.mp hx
    have := List.mem_range.mp (List.mem_filter.mp hk).1
    omega

--lib
/-! ### orders of things by a weak order -/
/-- a strict weak order -/
structure Wk (lt : Nat → Nat → Prop) : Prop where
  asym : ∀ {a b}, lt a b → ¬ lt b a
  tr : ∀ {a b c}, ¬ lt a b → ¬ lt b c → ¬ lt a c
/-- a stands ahead of b: dearer, or equally dear and lower -/
def Ahd (lt : Nat → Nat → Prop) (a b : Nat) : Prop := lt b a ∨ (¬ lt a b ∧ ¬ lt b a ∧ a < b)
/-- the order of the things below n -/
structure DOrd (lt : Nat → Nat → Prop) (n : Nat) (os : List Nat) : Prop where
  perm : os.Perm (List.range n)
  srt : os.Pairwise (Ahd lt)
theorem DOrd.nil (lt : Nat → Nat → Prop) : DOrd lt 0 [] := ⟨.refl _, .nil⟩
theorem DOrd.len {lt : Nat → Nat → Prop} {n : Nat} {os : List Nat} (d : DOrd lt n os) : os.length = n := by rw [d.perm.length_eq, List.length_range]
theorem DOrd.lt {lt : Nat → Nat → Prop} {n : Nat} {os : List Nat} (d : DOrd lt n os) {x : Nat} (h : x ∈ os) : x < n := List.mem_range.mp (d.perm.mem_iff.mp h)
theorem DOrd.mem {lt : Nat → Nat → Prop} {n : Nat} {os : List Nat} (d : DOrd lt n os) {x : Nat} (h : x < n) : x ∈ os := d.perm.mem_iff.mpr (List.mem_range.mpr h)
theorem DOrd.nodup {lt : Nat → Nat → Prop} {n : Nat} {os : List Nat} (d : DOrd lt n os) : os.Nodup := d.perm.nodup_iff.mpr List.nodup_range
/-- one thing more is put in -/
theorem DOrd.ins {lt : Nat → Nat → Prop} (W : Wk lt) {n pl : Nat} {os : List Nat} (d : DOrd lt n os) (hp : pl ≤ os.length) (low : ∀ x ∈ os.drop pl, lt x n) (up : pl = 0 ∨ ∃ x, os[pl - 1]? = some x ∧ ¬ lt x n) :
    DOrd lt (n + 1) (os.take pl ++ [n] ++ os.drop pl) := by
  have hup : ∀ x ∈ os.take pl, ¬ lt x n := by
    intro x hx
    rcases up with rfl | ⟨y, hy, hn⟩
    · simp at hx
    · by_cases h0 : pl = 0
      · subst h0; simp at hx
      obtain ⟨i, hi, rfl⟩ := List.mem_iff_getElem.mp hx
      rw [List.length_take] at hi
      rw [List.getElem_take]
      have hyl : pl - 1 < os.length := by omega
      rw [List.getElem?_eq_getElem hyl] at hy
      cases hy
      by_cases e : i = pl - 1
      · subst e; exact hn
      · have r := List.pairwise_iff_getElem.mp d.srt i (pl - 1) (by omega) hyl (by omega)
        rcases r with r | ⟨r, _, _⟩
        · exact W.tr (W.asym r) hn
        · exact W.tr r hn
  refine ⟨?_, ?_⟩
  · rw [List.range_succ]
    have e : os.take pl ++ [n] ++ os.drop pl = os.take pl ++ ([n] ++ os.drop pl) := by rw [List.append_assoc]
    rw [e]
    refine (List.Perm.append_left _ List.perm_append_comm).trans ?_
    rw [← List.append_assoc, List.take_append_drop]
    exact d.perm.append_right _
  · have s1 : (os.take pl).Pairwise (Ahd lt) := d.srt.sublist (List.take_sublist _ _)
    have s2 : (os.drop pl).Pairwise (Ahd lt) := d.srt.sublist (List.drop_sublist _ _)
    have s0 := d.srt
    rw [← List.take_append_drop pl os, List.pairwise_append] at s0
    rw [List.pairwise_append, List.pairwise_append]
    refine ⟨⟨s1, List.pairwise_singleton _ _, fun a ha b hb => ?_⟩, s2, fun a ha b hb => ?_⟩
    · rw [List.mem_singleton] at hb
      subst hb
      have hl := d.lt (List.mem_of_mem_take ha)
      by_cases q : lt b a
      · exact .inl q
      · exact .inr ⟨hup a ha, q, hl⟩
    · rcases List.mem_append.mp ha with ha | ha
      · exact s0.2.2 a ha b hb
      · rw [List.mem_singleton] at ha
        subst ha
        exact .inl (low b hb)
theorem wk_int (f : Nat → Int) : Wk (fun a b => f a < f b) := ⟨fun h => by omega, fun h g => by omega⟩
/-- by prices -/
def ltI (ps : List Int) : Nat → Nat → Prop := fun a b => ps.getD a 0 < ps.getD b 0
abbrev castL (os : List Nat) : List Int := os.map fun n : Nat => (n : Int)
theorem dord_uq {ps : List Int} {n : Nat} {os os' : List Nat} (d : DOrd (ltI ps) n os) (d' : DOrd (ltI ps) n os') : os = os' :=
  List.Perm.eq_of_pairwise (le := Ahd (ltI ps)) (fun a b _ _ h g => by unfold Ahd ltI at *; omega) d.srt d'.srt (d.perm.trans d'.perm.symm)
theorem dord_ex (ps : List Int) (n : Nat) : ∃ os, DOrd (ltI ps) n os := by
  induction n with
  | zero => exact ⟨[], DOrd.nil _⟩
  | succ n ih =>
    obtain ⟨os, d⟩ := ih
    have key : ∀ k, k ≤ os.length → ∃ pl, pl ≤ os.length ∧ (∀ x ∈ os.drop pl, ltI ps x n) ∧ (pl ≤ os.length - k ∨ pl = 0 ∨ ∃ x, os[pl - 1]? = some x ∧ ¬ ltI ps x n) := by
      intro k
      induction k with
      | zero => exact fun _ => ⟨os.length, Nat.le_refl _, fun x hx => by simp at hx, .inl (by omega)⟩
      | succ k ihk =>
        intro hk
        obtain ⟨pl, h1, h2, h3⟩ := ihk (by omega)
        by_cases h0 : pl = 0
        · exact ⟨pl, h1, h2, .inr (.inl h0)⟩
        have hlt : pl - 1 < os.length := by omega
        by_cases hx : ltI ps os[pl - 1] n
        · rcases h3 with h3 | h3 | ⟨x, e, hn⟩
          · refine ⟨pl - 1, by omega, fun x hm => ?_, .inl (by omega)⟩
            rw [List.drop_eq_getElem_cons hlt, show pl - 1 + 1 = pl by omega] at hm
            rcases List.mem_cons.mp hm with rfl | hm
            · exact hx
            · exact h2 x hm
          · exact absurd h3 h0
          · rw [List.getElem?_eq_getElem hlt] at e
            cases e
            exact absurd hx hn
        · exact ⟨pl, h1, h2, .inr (.inr ⟨_, List.getElem?_eq_getElem hlt, hx⟩)⟩
    obtain ⟨pl, h1, h2, h3⟩ := key os.length (Nat.le_refl _)
    refine ⟨_, d.ins (wk_int fun t => ps.getD t 0) h1 h2 ?_⟩
    rcases h3 with h3 | h3 | h3
    · exact .inl (by omega)
    · exact .inl h3
    · exact .inr h3
/-- the lot of the first k things -/
def lotK (os : List Nat) (k : Nat) : List Int := castL ((List.range os.length).filter fun t => decide (t ∈ os.take k))
theorem lotK_perm {lt : Nat → Nat → Prop} {n : Nat} {os : List Nat} (d : DOrd lt n os) (k : Nat) : (lotK os k).Perm (castL (os.take k)) := by
  refine List.Perm.map _ ((List.perm_ext_iff_of_nodup (List.nodup_range.filter _) (d.nodup.sublist (List.take_sublist _ _))).mpr fun a => ?_)
  rw [List.mem_filter, List.mem_range]
  constructor
  · rintro ⟨_, h⟩; simpa using h
  · intro h
    refine ⟨?_, by simpa using h⟩
    rw [d.len]
    exact d.lt (List.mem_of_mem_take h)
theorem lotK_eq {lt : Nat → Nat → Prop} {n k : Nat} {os : List Nat} {ms : List Int} (d : DOrd lt n os) (hp : ms.Perm (castL (os.take k))) (hs : ms.Pairwise (· ≤ ·)) : ms = lotK os k := by
  refine List.Perm.eq_of_pairwise (le := (· ≤ ·)) (fun a b _ _ h g => by omega) hs ?_ (hp.trans (lotK_perm d k).symm)
  unfold lotK
  rw [List.pairwise_map]
  exact (List.pairwise_lt_range.filter _).imp fun h => by omega
/-- the first that has the greatest value -/
def IsK (f : Nat → Rat) (n j : Nat) : Prop := j ≤ n ∧ (∀ i, i ≤ n → f i ≤ f j) ∧ ∀ i, i < j → f i < f j
theorem IsK.step {f : Nat → Rat} {n j : Nat} (h : IsK f n j) (hf : ¬ f j < f (n + 1)) : IsK f (n + 1) j := by
  refine ⟨Nat.le_succ_of_le h.1, fun i hi => ?_, h.2.2⟩
  by_cases e : i = n + 1
  · subst e; exact Rat.not_lt.mp hf
  · exact h.2.1 i (by omega)
theorem IsK.up {f : Nat → Rat} {n j : Nat} (h : IsK f n j) (hf : f j < f (n + 1)) : IsK f (n + 1) (n + 1) := by
  have a : ∀ i, i < n + 1 → f i < f (n + 1) := fun i hi => by have := h.2.1 i (by omega); grind
  refine ⟨Nat.le_refl _, fun i hi => ?_, a⟩
  by_cases e : i = n + 1
  · subst e; exact Rat.le_refl
  · exact Rat.le_of_lt (a i (by omega))
theorem IsK.zero (f : Nat → Rat) : IsK f 0 0 := ⟨Nat.le_refl _, fun i hi => by rw [Nat.le_zero.mp hi]; exact Rat.le_refl, fun i hi => absurd hi (by omega)⟩

--lib
/-! ### rows of a table -/
/-- the row is a total and counts of the things of the lot -/
def Fits (r lot : List Int) (m : Int) : Prop := (r.length : Int) = m + 1 ∧ 1 ≤ r.getD 0 0 ∧ (r.drop 1).sum ≤ r.getD 0 0 ∧ ∀ t : Nat, (t : Int) < m → 0 ≤ r.getD (t + 1) 0 ∧ (0 < r.getD (t + 1) 0 → (t : Int) ∈ lot)
/-- divided by what divides all -/
abbrev lowR (r : List Int) : List Int := r.map fun x => x / ((gL 0 r : Nat) : Int)
theorem fits_pos {r lot : List Int} {m : Int} (h : Fits r lot m) (hm : 0 ≤ m) : 0 < r.length := by have := h.1; omega
/-- tuples of ints -/
def LTt (H : Hp) (xs : List V) (ls : List (List Int)) : Prop := xs.length = ls.length ∧ ∀ i, i < ls.length → ∃ a, xs[i]? = some (.ref a) ∧ At H a (.tup ((ls.getD i []).map V.int))
theorem LTt.ex {H H' : Hp} {xs : List V} {ls : List (List Int)} (h : LTt H xs ls) (e : Ex H H') : LTt H' xs ls := ⟨h.1, fun i hi => by
  obtain ⟨a, h1, h2⟩ := h.2 i hi
  exact ⟨a, h1, e.get h2⟩⟩
theorem LTt.nl {H H' : Hp} {xs : List V} {ls : List (List Int)} (h : LTt H xs ls) (e : Nl H H') : LTt H' xs ls := ⟨h.1, fun i hi => by
  obtain ⟨a, h1, h2⟩ := h.2 i hi
  exact ⟨a, h1, e.get (fun l z => by cases z) h2⟩⟩
theorem LTt.nil {H : Hp} : LTt H [] [] := ⟨rfl, fun i hi => absurd hi (by simp)⟩
theorem LTt.snoc {H : Hp} {xs : List V} {ls : List (List Int)} {a : Addr} {l : List Int} (h : LTt H xs ls) (r : At H a (.tup (l.map V.int))) : LTt H (xs ++ [.ref a]) (ls ++ [l]) := by
  refine ⟨by simp [h.1], fun i hi => ?_⟩
  by_cases e : i < ls.length
  · obtain ⟨c, h1, h2⟩ := h.2 i e
    exact ⟨c, by rw [List.getElem?_append_left (by rw [h.1]; exact e)]; exact h1, by rw [(show (ls ++ [l]).getD i [] = ls.getD i [] by rw [List.getD_eq_getElem?_getD, List.getElem?_append_left e, ← List.getD_eq_getElem?_getD])]; exact h2⟩
  · have ei : i = ls.length := by simp at hi; omega
    subst ei
    exact ⟨a, by rw [← h.1]; simp, by rw [(show (ls ++ [l]).getD ls.length [] = l by rw [List.getD_eq_getElem?_getD, List.getElem?_append_right (Nat.le_refl _), Nat.sub_self]; rfl)]; exact r⟩

--lib
/-! ### lists of lists of ints -/
def LLi (H : Hp) (xs : List V) (nss : List (List Int)) : Prop := xs.length = nss.length ∧ ∀ i, i < nss.length → ∃ a, xs[i]? = some (.ref a) ∧ At H a (.lst ((nss.getD i []).map V.int))
theorem LLi.ex {H H' : Hp} {xs : List V} {nss : List (List Int)} (h : LLi H xs nss) (e : Ex H H') : LLi H' xs nss := ⟨h.1, fun i hi => by
  obtain ⟨a, h1, h2⟩ := h.2 i hi
  exact ⟨a, h1, e.get h2⟩⟩
theorem LLi.nil {H : Hp} : LLi H [] [] := ⟨rfl, fun i hi => absurd hi (by simp)⟩
theorem LLi.snoc {H : Hp} {xs : List V} {nss : List (List Int)} {a : Addr} {ns : List Int} (h : LLi H xs nss) (r : At H a (.lst (ns.map V.int))) : LLi H (xs ++ [.ref a]) (nss ++ [ns]) := by
  refine ⟨by simp [h.1], fun i hi => ?_⟩
  by_cases e : i < nss.length
  · obtain ⟨c, h1, h2⟩ := h.2 i e
    refine ⟨c, by rw [List.getElem?_append_left (by rw [h.1]; exact e)]; exact h1, ?_⟩
    rw [List.getD_eq_getElem?_getD, List.getElem?_append_left e, ← List.getD_eq_getElem?_getD]
    exact h2
  · have ei : i = nss.length := by simp at hi; omega
    subst ei
    refine ⟨a, by rw [← h.1]; simp, ?_⟩
    rw [List.getD_eq_getElem?_getD]
    simpa using r
/-- what is not the list at p stands: the lists in it too, if p is none of them -/
theorem LLi.of {H H' : Hp} {xs : List V} {nss : List (List Int)} {p : Addr} (h : LLi H xs nss) (ho : ∀ b o, b ≠ p → At H b o → At H' b o) (hp : V.ref p ∉ xs) : LLi H' xs nss := ⟨h.1, fun i hi => by
  obtain ⟨a, h1, h2⟩ := h.2 i hi
  exact ⟨a, h1, ho a _ (fun z => hp (by rw [← z]; exact List.mem_of_getElem? h1)) h2⟩⟩
theorem LLi.app {H : Hp} {xs ys : List V} {nss mss : List (List Int)} (h : LLi H xs nss) (g : LLi H ys mss) : LLi H (xs ++ ys) (nss ++ mss) := by
  refine ⟨by simp [h.1, g.1], fun i hi => ?_⟩
  by_cases e : i < nss.length
  · obtain ⟨c, h1, h2⟩ := h.2 i e
    refine ⟨c, by rw [List.getElem?_append_left (by rw [h.1]; exact e)]; exact h1, ?_⟩
    rw [List.getD_eq_getElem?_getD, List.getElem?_append_left e, ← List.getD_eq_getElem?_getD]
    exact h2
  · obtain ⟨c, h1, h2⟩ := g.2 (i - nss.length) (by simp at hi; omega)
    refine ⟨c, by rw [List.getElem?_append_right (by rw [h.1]; omega), h.1]; exact h1, ?_⟩
    rw [List.getD_eq_getElem?_getD, List.getElem?_append_right (by omega), ← List.getD_eq_getElem?_getD]
    exact h2
/-- the lists hold ints alone: the outer list is none of them -/
theorem LLi.nself {H : Hp} {xs : List V} {nss : List (List Int)} {p : Addr} (h : LLi H xs nss) (hp : At H p (.lst xs)) : V.ref p ∉ xs := by
  intro hm
  obtain ⟨j, hj, e⟩ := List.getElem_of_mem hm
  obtain ⟨a, h1, h2⟩ := h.2 j (by rw [← h.1]; exact hj)
  rw [List.getElem?_eq_getElem hj, e] at h1
  cases h1
  unfold At at hp h2
  rw [hp] at h2
  have h3 := HO.lst.inj (Option.some.inj h2)
  rw [h3] at hm
  obtain ⟨z, _, hz⟩ := List.mem_map.1 hm
  cases hz
theorem LLi.set {H : Hp} {xs : List V} {nss : List (List Int)} {a : Addr} {ns : List Int} {n : Nat} (h : LLi H xs nss) (r : At H a (.lst (ns.map V.int))) : LLi H (xs.set n (.ref a)) (nss.set n ns) := by
  refine ⟨by simp [h.1], fun i hi => ?_⟩
  rw [List.length_set] at hi
  by_cases e : n = i
  · subst e
    refine ⟨a, by rw [List.getElem?_set_self (by rw [h.1]; exact hi)], ?_⟩
    rw [List.getD_eq_getElem?_getD, List.getElem?_set_self hi]
    exact r
  · obtain ⟨c, h1, h2⟩ := h.2 i hi
    refine ⟨c, by rw [List.getElem?_set_ne e]; exact h1, ?_⟩
    rw [List.getD_eq_getElem?_getD, List.getElem?_set_ne e, ← List.getD_eq_getElem?_getD]
    exact h2
theorem LLi.drop {H : Hp} {xs : List V} {nss : List (List Int)} {n : Nat} (h : LLi H xs nss) : LLi H (xs.drop n) (nss.drop n) := by
  refine ⟨by simp [h.1], fun i hi => ?_⟩
  rw [List.length_drop] at hi
  obtain ⟨c, h1, h2⟩ := h.2 (n + i) (by omega)
  refine ⟨c, by rw [List.getElem?_drop]; exact h1, ?_⟩
  rw [List.getD_eq_getElem?_getD, List.getElem?_drop, ← List.getD_eq_getElem?_getD]
  exact h2
/-- the end of a comprehension's turn that makes a list of ints -/
theorem elxL {H H' H4 : Hp} {Dl a : Addr} {acc : List V} {i : Nat} (nss : Nat → List (List Int)) {ns : List Int} (c : CD H Dl acc H') (hl : acc.length = i) (hz : acc.length < sizeLine) (e : Ex H' H4) (hP : LLi H' acc (nss i)) (hn : nss (i + 1) = nss i ++ [ns]) (ha : At H4 a (.lst (ns.map V.int))) (hne : a ≠ Dl) : ElX H Dl i (fun i acc H' => LLi H' acc (nss i)) (.ref a) H4 := by
  have hD := e.get c.at_
  have hP4 := hP.ex e
  refine ⟨acc, hD, hz, acc ++ [V.ref a], ⟨c.new, Ex.mut (c.ex.trans e) c.new, (upd_same : At (upd H4 Dl (HO.lst (acc ++ [V.ref a]))) Dl (HO.lst (acc ++ [V.ref a])))⟩, by simp [hl], ?_⟩
  show LLi _ _ (nss (i + 1))
  rw [hn]
  refine LLi.snoc (hP4.of (fun b o hb h => ?_) (hP4.nself hD)) ?_
  · unfold At; rw [upd_ne hb]; exact h
  · unfold At; rw [upd_ne hne]; exact ha
/-! ### == of lists of lists of ints -/
def dIs (r : List Int) : List PyData := r.map PyData.int
def dLL (nss : List (List Int)) : List PyData := nss.map fun r => .list (dIs r)
theorem dpIs {K : PySem.W.Frag} {H : Hp} : ∀ (r : List Int), DpAll K H (r.map V.int) (dIs r)
  | [] => .nil
  | z :: r => .cons (.int z) (dpIs r)
theorem LLi.tail {H : Hp} {x : V} {xs : List V} {r : List Int} {nss : List (List Int)} (h : LLi H (x :: xs) (r :: nss)) : LLi H xs nss := ⟨by have := h.1; simpa using this, fun i hi => h.2 (i + 1) (by simpa using hi)⟩
theorem LLi.dp {K : PySem.W.Frag} {H : Hp} : ∀ {nss : List (List Int)} {xs : List V}, LLi H xs nss → DpAll K H xs (dLL nss)
  | [], xs, h => by
    cases xs with
    | nil => exact .nil
    | cons x xs => exact absurd h.1 (by simp)
  | r :: nss, xs, h => by
    cases xs with
    | nil => exact absurd h.1 (by simp)
    | cons x xs =>
      obtain ⟨a, h1, h2⟩ := h.2 0 (by simp)
      cases h1
      exact .cons (.lst (sq_of h2) (dpIs r)) (LLi.dp h.tail)
theorem can_dIs : ∀ (r : List Int), PyData.canLayAll0 (dIs r) = true ∧ PyData.depthAll (dIs r) = 0
  | [] => by simp [dIs, PyData.canLayAll0, PyData.depthAll]
  | z :: r => by
    obtain ⟨h1, h2⟩ := can_dIs r
    unfold dIs at *
    simp [PyData.canLayAll0, PyData.depthAll, PyData.canLay0, PyData.depth, h1, h2]
theorem can_dLL : ∀ (nss : List (List Int)), PyData.canLayAll0 (dLL nss) = true ∧ PyData.depthAll (dLL nss) ≤ 1
  | [] => by simp [dLL, PyData.canLayAll0, PyData.depthAll]
  | r :: nss => by
    obtain ⟨h1, h2⟩ := can_dLL nss
    obtain ⟨h3, h4⟩ := can_dIs r
    unfold dLL at *
    simp [PyData.canLayAll0, PyData.depthAll, PyData.canLay0, PyData.depth, h1, h2, h3, h4]
theorem eqv_dIs : ∀ (a b : List Int), PyData.eqvAll (dIs a) (dIs b) = decide (a = b)
  | [], [] => by simp [dIs, PyData.eqvAll]
  | [], _ :: _ => by simp [dIs, PyData.eqvAll]
  | _ :: _, [] => by simp [dIs, PyData.eqvAll]
  | x :: a, y :: b => by
    have h := eqv_dIs a b
    unfold dIs at *
    have e : (x == y) = decide (x = y) := by by_cases e : x = y <;> simp [e]
    simp [PyData.eqvAll, PyData.eqv, h, e]
theorem eqv_dLL : ∀ (a b : List (List Int)), PyData.eqvAll (dLL a) (dLL b) = decide (a = b)
  | [], [] => by simp [dLL, PyData.eqvAll]
  | [], _ :: _ => by simp [dLL, PyData.eqvAll]
  | _ :: _, [] => by simp [dLL, PyData.eqvAll]
  | x :: a, y :: b => by
    have h := eqv_dLL a b
    have h2 := eqv_dIs x y
    unfold dLL at *
    simp [PyData.eqvAll, PyData.eqv, h, h2]
theorem sh_dLL (nss : List (List Int)) : SeqAt.shaped (.list (dLL nss)) = true := by
  obtain ⟨h1, h2⟩ := can_dLL nss
  simp [SeqAt.shaped, PyData.canLay0, PyData.depth, h1]
  omega
theorem w_eqLL {K : PySem.W.Frag} {H : Hp} {Q : VK} {a b : Addr} {xs ys : List V} {nss mss : List (List Int)} (h1 : SqL K H a xs) (h2 : SqL K H b ys) (l1 : LLi H xs nss) (l2 : LLi H ys mss) (q : Q (.bl (decide (nss = mss))) H) : rEqZ K (.ref a) (.ref b) H Q := .inr ⟨_, _, .lst h1 l1.dp, .lst h2 l2.dp, sh_dLL _, sh_dLL _, by unfold PyData.eqv; rw [eqv_dLL]; exact q⟩
theorem w_neLL {K : PySem.W.Frag} {H : Hp} {Q : VK} {a b : Addr} {xs ys : List V} {nss mss : List (List Int)} (h1 : SqL K H a xs) (h2 : SqL K H b ys) (l1 : LLi H xs nss) (l2 : LLi H ys mss) (q : Q (.bl (!decide (nss = mss))) H) : rNeZ K (.ref a) (.ref b) H Q := .inr ⟨_, _, .lst h1 l1.dp, .lst h2 l2.dp, sh_dLL _, sh_dLL _, by unfold PyData.eqv; rw [eqv_dLL]; exact q⟩
/-! ### lists of lists of ints, each of its own -/
structure LLn (H0 H : Hp) (xs : List V) (nss : List (List Int)) : Prop where
  ll : LLi H xs nss
  nd : xs.Nodup
  fr : ∀ v ∈ xs, ∃ a, v = .ref a ∧ Fr H0 a
theorem LLn.ex {H0 H H' : Hp} {xs : List V} {nss : List (List Int)} (h : LLn H0 H xs nss) (e : Ex H H') : LLn H0 H' xs nss := ⟨h.ll.ex e, h.nd, h.fr⟩
theorem LLn.nil {H0 H : Hp} : LLn H0 H [] [] := ⟨.nil, .nil, fun v hv => by simp at hv⟩
theorem LLi.ne {H G : Hp} {xs : List V} {nss : List (List Int)} {a : Addr} (h : LLi H xs nss) (e : Ex H G) (n : Fr G a) : V.ref a ∉ xs := by
  intro hm
  obtain ⟨j, hj, ej⟩ := List.getElem_of_mem hm
  obtain ⟨b, h1, h2⟩ := h.2 j (by rw [← h.1]; exact hj)
  rw [List.getElem?_eq_getElem hj, ej] at h1
  cases h1
  exact (e.get h2).ne n rfl
theorem LLn.snoc {H0 H : Hp} {xs : List V} {nss : List (List Int)} {a : Addr} {ns : List Int} (h : LLn H0 H xs nss) (r : At H a (.lst (ns.map V.int))) (hm : V.ref a ∉ xs) (hf : Fr H0 a) : LLn H0 H (xs ++ [.ref a]) (nss ++ [ns]) := by
  refine ⟨h.ll.snoc r, ?_, fun v hv => ?_⟩
  · rw [List.nodup_append]
    exact ⟨h.nd, by simp, fun v hv w hw e => by rw [List.mem_singleton.1 hw] at e; rw [e] at hv; exact hm hv⟩
  · rcases List.mem_append.1 hv with q | q
    · exact h.fr v q
    · exact ⟨a, List.mem_singleton.1 q, hf⟩
theorem LLn.of {H0 H H' : Hp} {xs : List V} {nss : List (List Int)} {p : Addr} (h : LLn H0 H xs nss) (ho : ∀ b o, b ≠ p → At H b o → At H' b o) (hp : V.ref p ∉ xs) : LLn H0 H' xs nss := ⟨h.ll.of ho hp, h.nd, h.fr⟩
/-- an inner list is changed -/
theorem LLn.inner {H0 H H' : Hp} {xs : List V} {nss : List (List Int)} {i : Nat} {a : Addr} {ns : List Int} (h : LLn H0 H xs nss) (hx : xs[i]? = some (.ref a)) (hi : i < nss.length) (ho : ∀ b o, b ≠ a → At H b o → At H' b o) (r : At H' a (.lst (ns.map V.int))) : LLn H0 H' xs (nss.set i ns) := by
  refine ⟨⟨by rw [List.length_set]; exact h.ll.1, fun j hj => ?_⟩, h.nd, h.fr⟩
  rw [List.length_set] at hj
  by_cases e : i = j
  · subst e
    exact ⟨a, hx, by rw [List.getD_eq_getElem?_getD, List.getElem?_set_self hi]; exact r⟩
  · obtain ⟨b, h1, h2⟩ := h.ll.2 j hj
    refine ⟨b, h1, ?_⟩
    rw [List.getD_eq_getElem?_getD, List.getElem?_set_ne e, ← List.getD_eq_getElem?_getD]
    refine ho b _ (fun z => e ?_) h2
    subst z
    obtain ⟨hi2, ei⟩ := List.getElem?_eq_some_iff.mp hx
    obtain ⟨hj2, ej⟩ := List.getElem?_eq_some_iff.mp h1
    have hp := List.pairwise_iff_getElem.mp h.nd
    rcases Nat.lt_trichotomy i j with q | q | q
    · exact absurd (ei.trans ej.symm) (hp i j hi2 hj2 q)
    · exact q
    · exact absurd (ej.trans ei.symm) (hp j i hj2 hi2 q)
/-- the end of a turn of [list(row) for row in ..] -/
theorem elxN {H H' H4 : Hp} {Dl a : Addr} {acc : List V} {i : Nat} (nss : Nat → List (List Int)) {ns : List Int} (c : CD H Dl acc H') (hl : acc.length = i) (hz : acc.length < sizeLine) (n : Fr H' a) (e : Ex H' H4) (hP : LLn H H' acc (nss i)) (hn : nss (i + 1) = nss i ++ [ns]) (ha : At H4 a (.lst (ns.map V.int))) : ElX H Dl i (fun i acc H' => LLn H H' acc (nss i)) (.ref a) H4 := by
  have hD := e.get c.at_
  have hP4 := hP.ex e
  have hne : a ≠ Dl := fun z => c.at_.ne (z ▸ n) rfl
  refine ⟨acc, hD, hz, acc ++ [V.ref a], ⟨c.new, Ex.mut (c.ex.trans e) c.new, (upd_same : At (upd H4 Dl (HO.lst (acc ++ [V.ref a]))) Dl (HO.lst (acc ++ [V.ref a])))⟩, by simp [hl], ?_⟩
  show LLn H _ _ (nss (i + 1))
  rw [hn]
  refine LLn.snoc (hP4.of (fun b o hb h => ?_) (hP4.ll.nself hD)) ?_ (hP.ll.ne (Ex.refl _) n) (c.ex.back n)
  · unfold At; rw [upd_ne hb]; exact h
  · unfold At; rw [upd_ne hne]; exact ha

--lib
/-- a sum over the things below n -/
def G (f : Nat → Rat) (n : Nat) : Rat := ((List.range n).map f).sum
theorem G_succ (f : Nat → Rat) (n : Nat) : G f (n + 1) = G f n + f n := by
  unfold G
  rw [List.range_succ, List.map_append, List.sum_append, List.map_singleton, List.sum_singleton]
theorem G_le {f g : Nat → Rat} : ∀ {n : Nat}, (∀ t, t < n → f t ≤ g t) → G f n ≤ G g n
  | 0, _ => Rat.le_refl
  | n + 1, h => by
    have h1 := G_le (n := n) fun t ht => h t (by omega)
    have h2 := h n (by omega)
    rw [G_succ, G_succ]
    grind
theorem G_lt {f g : Nat → Rat} {k : Nat} : ∀ {n : Nat}, (∀ t, t < n → f t ≤ g t) → k < n → f k < g k → G f n < G g n
  | 0, _, hk, _ => absurd hk (by omega)
  | n + 1, h, hk, hl => by
    have h2 := h n (by omega)
    rw [G_succ, G_succ]
    by_cases e : k = n
    · subst e
      have h1 := G_le (n := k) fun t ht => h t (by omega)
      grind
    · have h1 := G_lt (n := n) (fun t ht => h t (by omega)) (by omega) hl
      grind
theorem G_congr {f g : Nat → Rat} {n : Nat} (h : ∀ t, t < n → f t = g t) : G f n = G g n := by
  unfold G
  congr 1
  exact List.map_congr_left fun t ht => h t (List.mem_range.mp ht)
/-- what a thing gains above z -/
def mx (w p z : Rat) : Rat := if z < p then w * (p - z) else 0
theorem mx_nn {w p z : Rat} (hw : 0 ≤ w) : 0 ≤ mx w p z := by
  unfold mx
  split
  · exact Rat.mul_nonneg hw (by grind)
  · exact Rat.le_refl
theorem mul_le {w a b : Rat} (hw : 0 ≤ w) (h : a ≤ b) : w * a ≤ w * b := Rat.mul_le_mul_of_nonneg_left h hw
theorem mx_mono {w p p' z z' : Rat} (hw : 0 ≤ w) (h : p - z ≤ p' - z') : mx w p z ≤ mx w p' z' := by
  by_cases h1 : z < p
  · have e1 : mx w p z = w * (p - z) := if_pos h1
    have e2 : mx w p' z' = w * (p' - z') := if_pos (by grind)
    rw [e1, e2]
    exact mul_le hw h
  · have e1 : mx w p z = 0 := if_neg h1
    rw [e1]
    exact mx_nn hw
theorem mx_z {w p z z' : Rat} (hw : 0 ≤ w) (h : z ≤ z') : mx w p z' ≤ mx w p z := mx_mono hw (by grind)
/-- z is the worth of the best lot -/
structure Root (w p : Nat → Rat) (n : Nat) (a z : Rat) : Prop where
  w0 : ∀ t, t < n → 0 < w t
  a0 : 0 < a
  eq : G (fun t => mx (w t) (p t) z) n = a * z
section
variable {w p : Nat → Rat} {n : Nat} {a z y : Rat}
theorem Root.anti (r : Root w p n a z) {x y : Rat} (h : x ≤ y) : G (fun t => mx (w t) (p t) y) n ≤ G (fun t => mx (w t) (p t) x) n := G_le fun t ht => mx_z (Rat.le_of_lt (r.w0 t ht)) h
theorem mlt {a x y : Rat} (ha : 0 < a) (h : x < y) : a * x < a * y := Rat.mul_lt_mul_of_pos_left h ha
theorem Root.le (r : Root w p n a z) (h : G (fun t => mx (w t) (p t) y) n ≤ a * y) : z ≤ y := by
  apply Classical.byContradiction
  intro c
  have c : y < z := by grind
  have h1 := r.anti (Rat.le_of_lt c)
  have h2 := r.eq
  have h3 := mlt r.a0 c
  grind
theorem Root.lt (r : Root w p n a z) (h : G (fun t => mx (w t) (p t) y) n < a * y) : z < y := by
  apply Classical.byContradiction
  intro c
  have c : y ≤ z := by grind
  have h1 := r.anti c
  have h2 := r.eq
  have h3 := mul_le (Rat.le_of_lt r.a0) c
  grind
theorem Root.ge (r : Root w p n a z) (h : a * y ≤ G (fun t => mx (w t) (p t) y) n) : y ≤ z := by
  apply Classical.byContradiction
  intro c
  have c : z < y := by grind
  have h1 := r.anti (Rat.le_of_lt c)
  have h2 := r.eq
  have h3 := mlt r.a0 c
  grind
theorem Root.gt (r : Root w p n a z) (h : a * y < G (fun t => mx (w t) (p t) y) n) : y < z := by
  apply Classical.byContradiction
  intro c
  have c : z ≤ y := by grind
  have h1 := r.anti c
  have h2 := r.eq
  have h3 := mul_le (Rat.le_of_lt r.a0) c
  grind
theorem Root.nn (r : Root w p n a z) : 0 ≤ z := r.ge (by
  rw [Rat.mul_zero]
  have := G_le (f := fun _ => 0) (g := fun t => mx (w t) (p t) 0) (n := n) fun t ht => mx_nn (Rat.le_of_lt (r.w0 t ht))
  have e : G (fun _ => 0) n = 0 := by
    clear this r
    induction n with
    | zero => rfl
    | succ n ih => rw [G_succ, ih, Rat.add_zero]
  rw [e] at this
  exact this)
theorem Root.uq {y : Rat} (r : Root w p n a z) (r' : Root w p n a y) : z = y := by
  have h1 := r.le (y := y) (by rw [r'.eq]; exact Rat.le_refl)
  have h2 := r'.le (y := z) (by rw [r.eq]; exact Rat.le_refl)
  grind
end

/-! ### what a change does -/
section
variable {w p w' p' : Nat → Rat} {n : Nat} {a a' z y by_ : Rat} {k : Nat}
/-- a greater aside weight -/
theorem Root.aside (r : Root w p n a z) (r' : Root w p n (a + by_) y) (hb : 0 < by_) : y ≤ z ∧ (0 < z → y < z) := by
  have h0 := r.nn
  constructor
  · refine r'.le ?_
    rw [r.eq, Rat.add_mul]
    have := Rat.mul_nonneg (Rat.le_of_lt hb) h0
    grind
  · intro hz
    refine r'.lt ?_
    rw [r.eq, Rat.add_mul]
    have := Rat.mul_pos hb hz
    grind
/-- a higher price -/
theorem Root.dearer (r : Root w p n a z) (r' : Root w p' n a y) (hb : 0 < by_) (hk : p' k = p k + by_) (ho : ∀ t, t ≠ k → p' t = p t) : z ≤ y ∧ y < z + by_ ∧ (p' k ≤ y → y = z) := by
  have hp : ∀ t, p t ≤ p' t ∧ p' t ≤ p t + by_ := fun t => by
    by_cases h : t = k
    · subst h; rw [hk]; grind
    · rw [ho t h]; grind
  refine ⟨r'.ge ?_, r'.lt ?_, fun h => ?_⟩
  · rw [← r.eq]
    exact G_le fun t ht => mx_mono (Rat.le_of_lt (r.w0 t ht)) (by have := hp t; grind)
  · have h1 : G (fun t => mx (w t) (p' t) (z + by_)) n ≤ G (fun t => mx (w t) (p t) z) n := G_le fun t ht => mx_mono (Rat.le_of_lt (r.w0 t ht)) (by have := hp t; grind)
    rw [r.eq] at h1
    have h2 := mlt r.a0 (show z < z + by_ by grind)
    grind
  · refine (r.uq ⟨r.w0, r.a0, ?_⟩).symm
    rw [← r'.eq]
    refine G_congr fun t ht => ?_
    by_cases h2 : t = k
    · subst h2
      have e1 : mx (w t) (p t) y = 0 := if_neg (by rw [hk] at h; grind)
      have e2 : mx (w t) (p' t) y = 0 := if_neg (by grind)
      show mx (w t) (p t) y = mx (w t) (p' t) y
      rw [e1, e2]
    · show mx (w t) (p t) y = mx (w t) (p' t) y
      rw [ho t h2]
/-- a greater weight -/
theorem Root.heavier (r : Root w p n a z) (r' : Root w' p n a y) (hw : w k < w' k) (hk : k < n) (ho : ∀ t, t ≠ k → w' t = w t) : (p k ≤ z → y = z) ∧ (z < p k → z < y ∧ y < p k) := by
  constructor
  · intro h
    refine (r'.uq ⟨r'.w0, r'.a0, ?_⟩)
    rw [← r.eq]
    refine G_congr fun t ht => ?_
    by_cases h2 : t = k
    · subst h2
      have e1 : mx (w t) (p t) z = 0 := if_neg (by grind)
      have e2 : mx (w' t) (p t) z = 0 := if_neg (by grind)
      show mx (w' t) (p t) z = mx (w t) (p t) z
      rw [e1, e2]
    · show mx (w' t) (p t) z = mx (w t) (p t) z
      rw [ho t h2]
  · intro h
    constructor
    · refine r'.gt ?_
      rw [← r.eq]
      refine G_lt (k := k) (fun t ht => ?_) hk ?_
      · by_cases h2 : t = k
        · subst h2
          have e1 : mx (w t) (p t) z = w t * (p t - z) := if_pos h
          have e2 : mx (w' t) (p t) z = w' t * (p t - z) := if_pos h
          show mx (w t) (p t) z ≤ mx (w' t) (p t) z
          rw [e1, e2]
          exact Rat.mul_le_mul_of_nonneg_right (Rat.le_of_lt hw) (by grind)
        · show mx (w t) (p t) z ≤ mx (w' t) (p t) z
          rw [ho t h2]
          exact Rat.le_refl
      · have e1 : mx (w k) (p k) z = w k * (p k - z) := if_pos h
        have e2 : mx (w' k) (p k) z = w' k * (p k - z) := if_pos h
        show mx (w k) (p k) z < mx (w' k) (p k) z
        rw [e1, e2]
        exact Rat.mul_lt_mul_of_pos_right hw (by grind)
    · refine r'.lt ?_
      have h1 : G (fun t => mx (w' t) (p t) (p k)) n ≤ G (fun t => mx (w t) (p t) z) n := G_le fun t ht => by
        by_cases h2 : t = k
        · subst h2
          have e2 : mx (w' t) (p t) (p t) = 0 := if_neg (by grind)
          show mx (w' t) (p t) (p t) ≤ mx (w t) (p t) z
          rw [e2]
          exact mx_nn (Rat.le_of_lt (r.w0 t ht))
        · show mx (w' t) (p t) (p k) ≤ mx (w t) (p t) z
          rw [ho t h2]
          exact mx_z (Rat.le_of_lt (r.w0 t ht)) (Rat.le_of_lt h)
      rw [r.eq] at h1
      have h2 := mlt r.a0 h
      grind
/-- a further thing -/
theorem Root.further (r : Root w p n a z) (r' : Root w' p' (n + 1) a y) (hw : ∀ t, t < n → w' t = w t) (hp : ∀ t, t < n → p' t = p t) : (p' n ≤ z → y = z) ∧ (z < p' n → z < y ∧ y < p' n) := by
  have e : ∀ x, G (fun t => mx (w' t) (p' t) x) (n + 1) = G (fun t => mx (w t) (p t) x) n + mx (w' n) (p' n) x := fun x => by
    rw [G_succ]
    congr 1
    exact G_congr fun t ht => by rw [hw t ht, hp t ht]
  have hwn := r'.w0 n (by omega)
  constructor
  · intro h
    refine r'.uq ⟨r'.w0, r'.a0, ?_⟩
    have e2 : mx (w' n) (p' n) z = 0 := if_neg (by grind)
    rw [e, r.eq, e2, Rat.add_zero]
  · intro h
    constructor
    · refine r'.gt ?_
      have e2 : mx (w' n) (p' n) z = w' n * (p' n - z) := if_pos h
      rw [e, r.eq, e2]
      have := Rat.mul_pos hwn (show 0 < p' n - z by grind)
      grind
    · refine r'.lt ?_
      have e2 : mx (w' n) (p' n) (p' n) = 0 := if_neg (by grind)
      rw [e, e2, Rat.add_zero]
      have h1 := r.anti (Rat.le_of_lt h)
      rw [r.eq] at h1
      have h2 := mlt r.a0 h
      grind
/-- all prices higher -/
theorem Root.higher (r : Root w p n a z) (r' : Root w p' n a y) (hb : 0 < by_) (hp : ∀ t, p' t = p t + by_) (hn : ∃ t, t < n ∧ z ≤ p t) : z < y ∧ y < z + by_ := by
  constructor
  · refine r'.gt ?_
    rw [← r.eq]
    obtain ⟨k, hk, hz⟩ := hn
    refine G_lt (k := k) (fun t ht => mx_mono (Rat.le_of_lt (r.w0 t ht)) (by rw [hp]; grind)) hk ?_
    have e2 : mx (w k) (p' k) z = w k * (p' k - z) := if_pos (by rw [hp]; grind)
    show mx (w k) (p k) z < mx (w k) (p' k) z
    rw [e2]
    unfold mx
    split
    · exact mlt (r.w0 k hk) (by rw [hp]; grind)
    · exact Rat.mul_pos (r.w0 k hk) (by rw [hp]; grind)
  · refine r'.lt ?_
    have h1 : G (fun t => mx (w t) (p' t) (z + by_)) n ≤ G (fun t => mx (w t) (p t) z) n := G_le fun t ht => mx_mono (Rat.le_of_lt (r.w0 t ht)) (by rw [hp]; grind)
    rw [r.eq] at h1
    have h2 := mlt r.a0 (show z < z + by_ by grind)
    grind
/-- all weights doubled -/
theorem Root.twiceW (r : Root w p n a z) (r' : Root w' p n (2 * a) y) (hw : ∀ t, w' t = 2 * w t) : y = z := by
  refine r'.uq ⟨r'.w0, r'.a0, ?_⟩
  have e : ∀ m, G (fun t => mx (w' t) (p t) z) m = 2 * G (fun t => mx (w t) (p t) z) m := fun m => by
    induction m with
    | zero => show (0 : Rat) = 2 * 0; rw [Rat.mul_zero]
    | succ m ih =>
      rw [G_succ, G_succ, ih, hw]
      have : mx (2 * w m) (p m) z = 2 * mx (w m) (p m) z := by
        unfold mx
        split
        · rw [Rat.mul_assoc]
        · rw [Rat.mul_zero]
      rw [this, Rat.mul_add]
  rw [e, r.eq, Rat.mul_assoc]
/-- all prices doubled -/
theorem Root.twiceP (r : Root w p n a z) (r' : Root w p' n a y) (hp : ∀ t, p' t = 2 * p t) : y = 2 * z := by
  refine r'.uq ⟨r'.w0, r'.a0, ?_⟩
  have e : ∀ m, G (fun t => mx (w t) (p' t) (2 * z)) m = 2 * G (fun t => mx (w t) (p t) z) m := fun m => by
    induction m with
    | zero => show (0 : Rat) = 2 * 0; rw [Rat.mul_zero]
    | succ m ih =>
      rw [G_succ, G_succ, ih, hp]
      have : mx (w m) (2 * p m) (2 * z) = 2 * mx (w m) (p m) z := by
        unfold mx
        by_cases h : z < p m
        · rw [if_pos h, if_pos (by grind)]
          grind
        · rw [if_neg h, if_neg (by grind), Rat.mul_zero]
      rw [this, Rat.mul_add]
  rw [e, r.eq]
  grind
end

--lib
/-! ### the best lots by weights before and after a change -/
abbrev rt (l : List Int) : Nat → Rat := fun t => ((l.getD t 0 : Int) : Rat)
/-- the best lot, its worth -/
structure Bst (ws : List Int) (a : Int) (ps lot : List Int) (q : Rat) : Prop where
  root : Root (rt ws) (rt ps) ps.length (a : Rat) q
  lot_eq : lot = castL ((List.range ps.length).filter fun t => decide (q.num < ps.getD t 0 * q.den))
/-- how much the second worth is above the first, crosswise -/
def rise (q r : Rat) : Int := r.num * q.den - q.num * r.den
theorem rise_nn {q r : Rat} : 0 ≤ rise q r ↔ q ≤ r := by rw [le_rat]; unfold rise; omega
theorem rise_pos {q r : Rat} : 0 < rise q r ↔ q < r := by rw [lt_rat]; unfold rise; omega
theorem rise_self {q : Rat} : rise q q = 0 := by unfold rise; omega
theorem rise_neg {q r : Rat} : rise q r < 0 ↔ r < q := by rw [lt_rat]; unfold rise; omega
theorem num_of (q : Rat) : q * (q.den : Rat) = (q.num : Rat) := by
  have h : q = (q.num : Rat) / ((q.den : Int) : Rat) := by rw [← Rat.divInt_eq_div, Rat.num_divInt_den]
  have hd : ((q.den : Int) : Rat) ≠ 0 := by
    have := q.den_pos
    intro z
    have : (q.den : Int) = 0 := by exact_mod_cast z
    omega
  have e : ((q.den : Nat) : Rat) = ((q.den : Int) : Rat) := rfl
  rw [e]
  conv => lhs; lhs; rw [h]
  exact Rat.div_mul_cancel hd
theorem rise_lt {q r : Rat} {b : Int} (h : r < q + (b : Rat)) : rise q r < b * q.den * r.den := by
  have hq : q * (q.den : Rat) = (q.num : Rat) := num_of q
  have hr : r * (r.den : Rat) = (r.num : Rat) := num_of r
  have hqd : (0 : Rat) < (q.den : Rat) := by exact_mod_cast q.den_pos
  have hrd : (0 : Rat) < (r.den : Rat) := by exact_mod_cast r.den_pos
  have h1 : r * ((q.den : Rat) * r.den) < (q + b) * ((q.den : Rat) * r.den) := Rat.mul_lt_mul_of_pos_right h (Rat.mul_pos hqd hrd)
  have e1 : r * ((q.den : Rat) * r.den) = ((r.num * q.den : Int) : Rat) := by
    rw [Rat.mul_comm (q.den : Rat), ← Rat.mul_assoc, hr, Rat.intCast_mul]; rfl
  have e2 : (q + b) * ((q.den : Rat) * r.den) = ((q.num * r.den + b * q.den * r.den : Int) : Rat) := by
    rw [Rat.add_mul, ← Rat.mul_assoc, hq, Rat.intCast_add, Rat.intCast_mul, Rat.intCast_mul, Rat.intCast_mul, ← Rat.mul_assoc]; rfl
  rw [e1, e2] at h1
  have h2 : r.num * q.den < q.num * r.den + b * q.den * r.den := by exact_mod_cast h1
  unfold rise
  omega
section
variable {ws us : List Int} {a a' b : Int} {ps rs lot lot' : List Int} {q r : Rat} {k : Nat}
theorem Bst.mem (h : Bst ws a ps lot q) {x : Int} : x ∈ lot ↔ ∃ t : Nat, x = (t : Int) ∧ t < ps.length ∧ q < rt ps t := by
  rw [h.lot_eq]
  constructor
  · intro hx
    obtain ⟨t, ht, rfl⟩ := List.mem_map.mp hx
    obtain ⟨h1, h2⟩ := List.mem_filter.mp ht
    exact ⟨t, rfl, List.mem_range.mp h1, (lt_int _ _).mpr (of_decide_eq_true h2)⟩
  · rintro ⟨t, rfl, h1, h2⟩
    exact List.mem_map.mpr ⟨t, List.mem_filter.mpr ⟨List.mem_range.mpr h1, decide_eq_true ((lt_int _ _).mp h2)⟩, rfl⟩
theorem Bst.memN (h : Bst ws a ps lot q) {t : Nat} : (t : Int) ∈ lot ↔ t < ps.length ∧ q < rt ps t := by
  rw [h.mem]
  constructor
  · rintro ⟨s, e, h1, h2⟩
    have : t = s := by omega
    subst this
    exact ⟨h1, h2⟩
  · exact fun h => ⟨t, rfl, h⟩
/-- lots of one worth and the same dearer things are the same -/
theorem lot_same {ps rs lot lot' : List Int} {q : Rat} (h1 : lot = castL ((List.range ps.length).filter fun t => decide (q.num < ps.getD t 0 * q.den))) (h2 : lot' = castL ((List.range rs.length).filter fun t => decide (q.num < rs.getD t 0 * q.den)))
    (hl : rs.length = ps.length) (ho : ∀ t, t < ps.length → (q < rt ps t ↔ q < rt rs t)) : lot' = lot := by
  rw [h1, h2, hl]
  congr 1
  refine List.filter_congr fun t ht => ?_
  have := ho t (List.mem_range.mp ht)
  rw [lt_int, lt_int] at this
  exact decide_eq_decide.mpr this.symm
theorem G_zero (n : Nat) : G (fun _ => 0) n = 0 := by
  induction n with
  | zero => rfl
  | succ n ih => rw [G_succ, ih, Rat.add_zero]
theorem Bst.pos (h : Bst ws a ps lot q) (hne : lot ≠ []) : 0 < q := by
  obtain ⟨x, hx⟩ := List.exists_mem_of_ne_nil _ hne
  obtain ⟨t, rfl, h1, h2⟩ := h.mem.mp hx
  have h0 := h.root.nn
  apply Classical.byContradiction
  intro c
  have e : q = 0 := by grind
  subst e
  have h3 := G_lt (f := fun _ => 0) (g := fun t => mx (rt ws t) (rt ps t) 0) (k := t) (fun s hs => mx_nn (Rat.le_of_lt (h.root.w0 s hs))) h1 (by
    have e2 : mx (rt ws t) (rt ps t) 0 = rt ws t * (rt ps t - 0) := if_pos h2
    show (0 : Rat) < mx (rt ws t) (rt ps t) 0
    rw [e2]
    exact Rat.mul_pos (h.root.w0 t h1) (by grind))
  rw [h.root.eq, Rat.mul_zero, G_zero] at h3
  exact absurd h3 (by decide)
theorem Bst.zero (h : Bst ws a ps lot q) (he : lot = []) : q = 0 := by
  have e := h.root.eq
  have e2 : G (fun t => mx (rt ws t) (rt ps t) q) ps.length = 0 := by
    rw [← G_zero ps.length]
    refine G_congr fun t ht => if_neg fun z => ?_
    have := h.memN.mpr ⟨ht, z⟩
    rw [he] at this
    cases this
  rw [e2] at e
  have := h.root.a0
  rcases Rat.mul_eq_zero.mp e.symm with h | h
  · grind
  · exact h
theorem cast_pos {b : Int} (h : 0 < b) : (0 : Rat) < (b : Rat) := by exact_mod_cast h
/-- a greater aside weight -/
theorem Bst.aside (h : Bst ws a ps lot q) (h' : Bst ws (a + b) ps lot' r) (hb : 0 < b) : (∀ x ∈ lot, x ∈ lot') ∧ (lot = [] → rise q r = 0) ∧ (lot ≠ [] → rise q r < 0) := by
  have hr := h'.root
  rw [Rat.intCast_add] at hr
  obtain ⟨h1, h2⟩ := h.root.aside hr (cast_pos hb)
  refine ⟨fun x hx => ?_, fun e => ?_, fun e => rise_neg.mpr (h2 (h.pos e))⟩
  · obtain ⟨t, rfl, g1, g2⟩ := h.mem.mp hx
    exact h'.memN.mpr ⟨g1, by grind⟩
  · have h3 := h.zero e
    have h4 := h'.root.nn
    have : r = q := by grind
    rw [this]
    exact rise_self
/-- a higher price -/
theorem Bst.dearer (h : Bst ws a ps lot q) (h' : Bst ws a (ps.set k (ps.getD k 0 + b)) lot' r) (hk : k < ps.length) (hb : 0 < b) :
    0 ≤ rise q r ∧ rise q r < b * q.den * r.den ∧ ((k : Int) ∈ lot → (k : Int) ∈ lot') ∧ ((k : Int) ∉ lot' → r = q ∧ lot' = lot) ∧ ∀ x ∈ lot', x ∈ lot ∨ x = (k : Int) := by
  have hl : (ps.set k (ps.getD k 0 + b)).length = ps.length := List.length_set
  have gk : rt (ps.set k (ps.getD k 0 + b)) k = rt ps k + (b : Rat) := by
    show ((((ps.set k (ps.getD k 0 + b)).getD k 0 : Int)) : Rat) = _
    rw [getD_get _ _ _ (by rw [hl]; exact hk), List.getElem_set_self, Rat.intCast_add]
  have go : ∀ t, t ≠ k → rt (ps.set k (ps.getD k 0 + b)) t = rt ps t := fun t ht => by
    show ((((ps.set k (ps.getD k 0 + b)).getD t 0 : Int)) : Rat) = _
    rw [List.getD_eq_getElem?_getD, List.getElem?_set_ne (by omega), ← List.getD_eq_getElem?_getD]
  have hr := h'.root
  rw [hl] at hr
  obtain ⟨h1, h2, h3⟩ := h.root.dearer hr (cast_pos hb) gk go
  refine ⟨rise_nn.mpr h1, rise_lt h2, fun hx => ?_, fun hx => ?_, fun x hx => ?_⟩
  · obtain ⟨g1, g2⟩ := h.memN.mp hx
    exact h'.memN.mpr ⟨by rw [hl]; exact hk, by rw [gk]; grind⟩
  · have hc : rt (ps.set k (ps.getD k 0 + b)) k ≤ r := by
      apply Classical.byContradiction
      intro c
      exact hx (h'.memN.mpr ⟨by rw [hl]; exact hk, by grind⟩)
    have e := h3 hc
    subst e
    refine ⟨rfl, lot_same h.lot_eq h'.lot_eq hl fun t ht => ?_⟩
    by_cases e : t = k
    · subst e
      have := cast_pos hb
      grind
    · rw [go t e]
  · obtain ⟨t, rfl, g1, g2⟩ := h'.mem.mp hx
    by_cases e : t = k
    · exact .inr (by rw [e])
    · rw [go t e] at g2
      exact .inl (h.memN.mpr ⟨by rw [hl] at g1; exact g1, by grind⟩)
/-- a greater weight -/
theorem Bst.heavier (h : Bst ws a ps lot q) (h' : Bst (ws.set k (ws.getD k 0 + b)) a ps lot' r) (hk : k < ps.length) (hk2 : k < ws.length) (hb : 0 < b) :
    ((k : Int) ∉ lot → r = q ∧ lot' = lot) ∧ ((k : Int) ∈ lot → (k : Int) ∈ lot' ∧ 0 < rise q r ∧ ∀ x ∈ lot', x ∈ lot) := by
  have gk : rt ws k < rt (ws.set k (ws.getD k 0 + b)) k := by
    show _ < ((((ws.set k (ws.getD k 0 + b)).getD k 0 : Int)) : Rat)
    rw [getD_get _ _ _ (by rw [List.length_set]; exact hk2), List.getElem_set_self, Rat.intCast_add]
    have := cast_pos hb
    show ((ws.getD k 0 : Int) : Rat) < _
    grind
  have go : ∀ t, t ≠ k → rt (ws.set k (ws.getD k 0 + b)) t = rt ws t := fun t ht => by
    show ((((ws.set k (ws.getD k 0 + b)).getD t 0 : Int)) : Rat) = _
    rw [List.getD_eq_getElem?_getD, List.getElem?_set_ne (by omega), ← List.getD_eq_getElem?_getD]
  obtain ⟨h1, h2⟩ := h.root.heavier h'.root gk hk go
  constructor
  · intro hx
    have e := h1 (by
      apply Classical.byContradiction
      intro c
      exact hx (h.memN.mpr ⟨hk, by grind⟩))
    subst e
    exact ⟨rfl, lot_same h.lot_eq h'.lot_eq rfl fun t ht => Iff.rfl⟩
  · intro hx
    obtain ⟨g1, g2⟩ := h2 (h.memN.mp hx).2
    refine ⟨h'.memN.mpr ⟨hk, g2⟩, rise_pos.mpr g1, fun x hx => ?_⟩
    obtain ⟨t, rfl, f1, f2⟩ := h'.mem.mp hx
    exact h.memN.mpr ⟨f1, by grind⟩
theorem rt_app {l : List Int} {x : Int} {t : Nat} (h : t < l.length) : rt (l ++ [x]) t = rt l t := by
  show (((l ++ [x]).getD t 0 : Int) : Rat) = _
  rw [List.getD_eq_getElem?_getD, List.getElem?_append_left h, ← List.getD_eq_getElem?_getD]
theorem rt_end {l : List Int} {x : Int} : rt (l ++ [x]) l.length = (x : Rat) := by
  show (((l ++ [x]).getD l.length 0 : Int) : Rat) = _
  rw [List.getD_eq_getElem?_getD, List.getElem?_append_right (Nat.le_refl _), Nat.sub_self]
  rfl
/-- a further thing -/
theorem Bst.further {w p : Int} (h : Bst ws a ps lot q) (h' : Bst (ws ++ [w]) a (ps ++ [p]) lot' r) (hl : ps.length = ws.length) :
    (p * q.den ≤ q.num → r = q ∧ lot' = lot) ∧ (q.num < p * q.den → (ps.length : Int) ∈ lot' ∧ 0 < rise q r ∧ ∀ x ∈ lot', x ∈ lot ∨ x = (ps.length : Int)) := by
  have hl2 : (ps ++ [p]).length = ps.length + 1 := by simp
  have hr := h'.root
  rw [hl2] at hr
  have ep : rt (ps ++ [p]) ps.length = (p : Rat) := rt_end
  obtain ⟨h1, h2⟩ := h.root.further hr (fun t ht => rt_app (by omega)) (fun t ht => rt_app ht)
  rw [ep] at h1 h2
  constructor
  · intro hp
    have hc : (p : Rat) ≤ q := by
      apply Classical.byContradiction
      intro c
      have := (lt_int q p).mp (by grind)
      omega
    have e := h1 hc
    subst e
    refine ⟨rfl, ?_⟩
    rw [h'.lot_eq, h.lot_eq, hl2, List.range_succ, List.filter_append]
    have e1 : ([ps.length].filter fun t => decide (r.num < (ps ++ [p]).getD t 0 * r.den)) = [] := by
      have : (ps ++ [p]).getD ps.length 0 = p := by rw [List.getD_eq_getElem?_getD, List.getElem?_append_right (Nat.le_refl _), Nat.sub_self]; rfl
      rw [List.filter_cons, this, decide_eq_false (by omega)]
      rfl
    rw [e1, List.append_nil]
    congr 1
    refine List.filter_congr fun t ht => ?_
    have ht := List.mem_range.mp ht
    rw [List.getD_eq_getElem?_getD, List.getElem?_append_left ht, ← List.getD_eq_getElem?_getD]
  · intro hp
    obtain ⟨g1, g2⟩ := h2 ((lt_int q p).mpr hp)
    refine ⟨h'.memN.mpr ⟨by omega, by rw [ep]; exact g2⟩, rise_pos.mpr g1, fun x hx => ?_⟩
    obtain ⟨t, rfl, f1, f2⟩ := h'.mem.mp hx
    by_cases e : t = ps.length
    · exact .inr (by rw [e])
    · have ht : t < ps.length := by omega
      rw [rt_app ht] at f2
      exact .inl (h.memN.mpr ⟨ht, by grind⟩)
theorem rt_map {f : Int → Int} {t : Nat} (h : t < ps.length) : rt (ps.map f) t = ((f (ps.getD t 0) : Int) : Rat) := by
  show (((ps.map f).getD t 0 : Int) : Rat) = _
  rw [getD_get _ _ _ (by rw [List.length_map]; exact h), List.getElem_map, getD_get _ _ _ h]
/-- all prices higher -/
theorem Bst.higher (h : Bst ws a ps lot q) (h' : Bst ws a (ps.map fun p => p + b) lot' r) (hb : 0 < b) (hp : ∀ p ∈ ps, 0 ≤ p) :
    (∀ x ∈ lot, x ∈ lot') ∧ (ps.length = 0 → rise q r = 0) ∧ (ps.length ≠ 0 → 0 < rise q r ∧ rise q r < b * q.den * r.den) := by
  have hl2 : (ps.map fun p => p + b).length = ps.length := by simp
  by_cases h0 : ps.length = 0
  · have e0 : ps = [] := List.length_eq_zero_iff.mp h0
    subst e0
    have e1 : lot = [] := h.lot_eq
    have e2 : lot' = [] := h'.lot_eq
    have e3 := h.zero e1
    have e4 := h'.zero e2
    refine ⟨fun x hx => ?_, fun _ => ?_, fun z => absurd rfl z⟩
    · rw [e1] at hx; cases hx
    · rw [e3, e4]; exact rise_self
  · have hr := h'.root
    rw [hl2] at hr
    -- the same by functions that are right everywhere
    have hr2 : Root (rt ws) (fun t => rt ps t + (b : Rat)) ps.length (a : Rat) r := ⟨hr.w0, hr.a0, by
      rw [← hr.eq]
      refine G_congr fun t ht => ?_
      show mx (rt ws t) (rt ps t + (b : Rat)) r = mx (rt ws t) (rt (ps.map fun p => p + b) t) r
      rw [rt_map ht, Rat.intCast_add]⟩
    have hex : ∃ t, t < ps.length ∧ q ≤ rt ps t := by
      by_cases he : lot = []
      · refine ⟨0, by omega, ?_⟩
        rw [h.zero he]
        have : (0 : Int) ≤ ps.getD 0 0 := by rw [getD_get _ _ _ (by omega)]; exact hp _ (List.getElem_mem _)
        show (0 : Rat) ≤ ((ps.getD 0 0 : Int) : Rat)
        exact_mod_cast this
      · obtain ⟨x, hx⟩ := List.exists_mem_of_ne_nil _ he
        obtain ⟨t, rfl, g1, g2⟩ := h.mem.mp hx
        exact ⟨t, g1, Rat.le_of_lt g2⟩
    obtain ⟨g1, g2⟩ := h.root.higher hr2 (cast_pos hb) (fun t => rfl) hex
    refine ⟨fun x hx => ?_, fun z => absurd z h0, fun _ => ⟨rise_pos.mpr g1, rise_lt g2⟩⟩
    obtain ⟨t, rfl, f1, f2⟩ := h.mem.mp hx
    refine h'.memN.mpr ⟨by omega, ?_⟩
    rw [rt_map f1, Rat.intCast_add]
    show r < rt ps t + (b : Rat)
    grind
/-- all weights doubled -/
theorem Bst.twiceW (h : Bst ws a ps lot q) (h' : Bst (ws.map fun w => 2 * w) (2 * a) ps lot' r) (hl : ps.length = ws.length) : r = q ∧ lot' = lot := by
  have hr := h'.root
  rw [Rat.intCast_mul] at hr
  have hr2 : Root (fun t => 2 * rt ws t) (rt ps) ps.length (2 * (a : Rat)) r := ⟨fun t ht => by
      have := h.root.w0 t ht
      exact Rat.mul_pos (by decide) this, hr.a0, by
    rw [show (2 : Rat) * (a : Rat) = ((2 : Int) : Rat) * (a : Rat) from rfl, ← hr.eq]
    refine G_congr fun t ht => ?_
    show mx (2 * rt ws t) (rt ps t) r = mx (rt (ws.map fun w => 2 * w) t) (rt ps t) r
    rw [rt_map (by omega), Rat.intCast_mul]
    rfl⟩
  have e := h.root.twiceW hr2 fun t => rfl
  subst e
  exact ⟨rfl, lot_same h.lot_eq h'.lot_eq rfl fun t ht => Iff.rfl⟩
/-- all prices doubled -/
theorem Bst.twiceP (h : Bst ws a ps lot q) (h' : Bst ws a (ps.map fun p => 2 * p) lot' r) : lot' = lot ∧ r.num * q.den = 2 * q.num * r.den := by
  have hl2 : (ps.map fun p => 2 * p).length = ps.length := by simp
  have hr := h'.root
  rw [hl2] at hr
  have hr2 : Root (rt ws) (fun t => 2 * rt ps t) ps.length (a : Rat) r := ⟨hr.w0, hr.a0, by
    rw [← hr.eq]
    refine G_congr fun t ht => ?_
    show mx (rt ws t) (2 * rt ps t) r = mx (rt ws t) (rt (ps.map fun p => 2 * p) t) r
    rw [rt_map ht, Rat.intCast_mul]
    rfl⟩
  have e := h.root.twiceP hr2 fun t => rfl
  constructor
  · rw [h'.lot_eq, h.lot_eq, hl2]
    congr 1
    refine List.filter_congr fun t ht => ?_
    have ht := List.mem_range.mp ht
    have h1 : (r < rt (ps.map fun p => 2 * p) t) ↔ q < rt ps t := by
      rw [rt_map ht, Rat.intCast_mul, e]
      show 2 * q < 2 * rt ps t ↔ _
      constructor <;> intro z <;> grind
    rw [lt_int, lt_int] at h1
    exact decide_eq_decide.mpr h1
  · have hq : q * (q.den : Rat) = (q.num : Rat) := num_of q
    have hr : r * (r.den : Rat) = (r.num : Rat) := num_of r
    have : ((r.num * q.den : Int) : Rat) = ((2 * q.num * r.den : Int) : Rat) := by
      rw [Rat.intCast_mul, Rat.intCast_mul, Rat.intCast_mul, ← hq, ← hr]
      generalize r.den = rd at *
      generalize q.den = qd at *
      rw [e]
      show 2 * q * (rd : Rat) * (qd : Rat) = 2 * (q * (qd : Rat)) * (rd : Rat)
      grind
    exact_mod_cast this
end
/-! ### from the numbers that are told -/
theorem sum_ifC {α : Type} (l : List α) (p : α → Bool) (f : α → Int) : (l.map fun t => if p t = true then f t else 0).sum = ((l.filter p).map f).sum := by
  induction l with
  | nil => rfl
  | cons a r ih =>
    rw [List.map_cons, List.sum_cons, ih, List.filter_cons]
    by_cases h : p a <;> simp [h]
theorem lin_sumC (l : List Int) (f g : Int → Int) (den num : Int) : (l.map fun t => f t * (g t * den - num)).sum = (l.map fun t => f t * g t).sum * den - (l.map f).sum * num := by
  induction l with
  | nil => simp
  | cons a r ih =>
    simp only [List.map_cons, List.sum_cons, ih]
    grind
theorem mx_den {w p : Int} {q : Rat} : mx (w : Rat) (p : Rat) q * (q.den : Rat) = (((if decide (q.num < p * q.den) = true then w * (p * q.den - q.num) else 0) : Int) : Rat) := by
  have hq := num_of q
  unfold mx
  by_cases h : q < (p : Rat)
  · rw [if_pos h, if_pos (decide_eq_true ((lt_int q p).mp h)), Rat.mul_assoc, Rat.sub_eq_add_neg, Rat.add_mul, Rat.neg_mul, hq, Rat.intCast_mul, Rat.intCast_sub, Rat.intCast_mul, Rat.sub_eq_add_neg]
    rfl
  · rw [if_neg h, if_neg (by
      rw [decide_eq_true_iff]
      exact fun z => h ((lt_int q p).mpr z)), Rat.zero_mul]
    rfl
theorem G_den {ws ps : List Int} {q : Rat} : ∀ n : Nat, G (fun t => mx (rt ws t) (rt ps t) q) n * (q.den : Rat) = ((((List.range n).map fun t => if decide (q.num < ps.getD t 0 * q.den) = true then ws.getD t 0 * (ps.getD t 0 * q.den - q.num) else 0).sum : Int) : Rat)
  | 0 => by show (0 : Rat) * _ = _; rw [Rat.zero_mul]; rfl
  | n + 1 => by
    rw [G_succ, Rat.add_mul, G_den n, List.range_succ, List.map_append, List.sum_append, Rat.intCast_add, List.map_singleton, List.sum_singleton]
    congr 1
    exact mx_den
theorem Bst.of {ws ps lot : List Int} {a : Int} {q : Rat} (hl : ps.length = ws.length) (hp : ∀ w ∈ ws, 1 ≤ w) (ha : 1 ≤ a) (hlot : lot = castL ((List.range ps.length).filter fun t => decide (q.num < ps.getD t 0 * q.den)))
    (hq : wpsum ws ps lot * q.den = q.num * (a + wsum ws lot)) : Bst ws a ps lot q := by
  refine ⟨⟨fun t ht => ?_, cast_pos (by omega), ?_⟩, hlot⟩
  · refine cast_pos ?_
    have := hp _ (List.getElem_mem (show t < ws.length by omega))
    rw [getD_get _ _ _ (by omega)]
    omega
  · have h1 := G_den (ws := ws) (ps := ps) (q := q) ps.length
    rw [sum_ifC] at h1
    have h2 : (((List.range ps.length).filter fun t => decide (q.num < ps.getD t 0 * q.den)).map fun t => ws.getD t 0 * (ps.getD t 0 * q.den - q.num)).sum = a * q.num := by
      have h3 := lin_sumC lot (fun t => ws.getD t.toNat 0) (fun t => ps.getD t.toNat 0) q.den q.num
      have h4 : (lot.map fun t => ws.getD t.toNat 0 * (ps.getD t.toNat 0 * q.den - q.num)).sum = (((List.range ps.length).filter fun t => decide (q.num < ps.getD t 0 * q.den)).map fun t => ws.getD t 0 * (ps.getD t 0 * q.den - q.num)).sum := by
        conv => lhs; rw [hlot]
        unfold castL
        rw [List.map_map]
        rfl
      rw [← h4, h3]
      show wpsum ws ps lot * q.den - wsum ws lot * q.num = _
      rw [hq]
      grind
    rw [h2] at h1
    have hd : (0 : Rat) < (q.den : Rat) := by exact_mod_cast q.den_pos
    have h5 : G (fun t => mx (rt ws t) (rt ps t) q) ps.length * (q.den : Rat) = (a : Rat) * q * (q.den : Rat) := by
      rw [h1, Rat.mul_assoc, num_of, Rat.intCast_mul]
    apply Classical.byContradiction
    intro c
    have h6 : G (fun t => mx (rt ws t) (rt ps t) q) ps.length < (a : Rat) * q ∨ (a : Rat) * q < G (fun t => mx (rt ws t) (rt ps t) q) ps.length := by grind
    rcases h6 with h | h
    · have := Rat.mul_lt_mul_of_pos_right h hd
      grind
    · have := Rat.mul_lt_mul_of_pos_right h hd
      grind

--lib
/-! ### stepping buyers -/
/-- a row of steps from thing i of n -/
def SFit (n i : Nat) (r : List Int) : Prop := r.length = n ∧ r.getD i 0 = 0 ∧ ∀ z ∈ r, 0 ≤ z
/-- what of the numbers is refused first -/
inductive CRes (fs : List Int) (a : Int) (st : List (List Int)) (lv : List Int) : Str → V → Prop
  | first (i : Nat) (hi : i < fs.length) (hw : fs.getD i 0 < 1) (hb : ∀ j, j < i → 1 ≤ fs.getD j 0) : CRes fs a st lv "first" (.int (i : Nat))
  | aside (h1 : ∀ j, j < fs.length → 1 ≤ fs.getD j 0) (h2 : a < 1) : CRes fs a st lv "aside" .non
  | steps (h1 : ∀ j, j < fs.length → 1 ≤ fs.getD j 0) (h2 : 1 ≤ a) (h3 : st.length ≠ fs.length) : CRes fs a st lv "steps" .non
  | row (h1 : ∀ j, j < fs.length → 1 ≤ fs.getD j 0) (h2 : 1 ≤ a) (h3 : st.length = fs.length) (i : Nat) (hi : i < st.length) (hw : ¬ SFit fs.length i (st.getD i [])) (hb : ∀ j, j < i → SFit fs.length j (st.getD j [])) : CRes fs a st lv "steps" (.int (i : Nat))
  | leaves (h1 : ∀ j, j < fs.length → 1 ≤ fs.getD j 0) (h2 : 1 ≤ a) (h3 : st.length = fs.length) (h4 : ∀ j, j < st.length → SFit fs.length j (st.getD j [])) (h5 : lv.length ≠ fs.length) : CRes fs a st lv "leaves" .non
  | leave (h1 : ∀ j, j < fs.length → 1 ≤ fs.getD j 0) (h2 : 1 ≤ a) (h3 : st.length = fs.length) (h4 : ∀ j, j < st.length → SFit fs.length j (st.getD j [])) (h5 : lv.length = fs.length) (i : Nat) (hi : i < lv.length) (hw : lv.getD i 0 < 1) (hb : ∀ j, j < i → 1 ≤ lv.getD j 0) : CRes fs a st lv "leaves" (.int (i : Nat))
structure CGood (fs : List Int) (a : Int) (st : List (List Int)) (lv : List Int) : Prop where
  f : ∀ j, j < fs.length → 1 ≤ fs.getD j 0
  a : 1 ≤ a
  sl : st.length = fs.length
  s : ∀ j, j < st.length → SFit fs.length j (st.getD j [])
  ll : lv.length = fs.length
  l : ∀ j, j < lv.length → 1 ≤ lv.getD j 0
theorem least_eq {P : Nat → Prop} {i j : Nat} (hi : ¬ P i) (hib : ∀ k, k < i → P k) (hj : ¬ P j) (hjb : ∀ k, k < j → P k) : i = j := by
  rcases Nat.lt_trichotomy i j with q | q | q
  · exact absurd (hjb i q) hi
  · exact q
  · exact absurd (hib j q) hj
theorem CRes.good {fs : List Int} {a : Int} {st : List (List Int)} {lv : List Int} {w : Str} {v : V} (h : CRes fs a st lv w v) (g : CGood fs a st lv) : False := by
  cases h with
  | first i hi hw hb => have := g.f i hi; omega
  | aside h1 h2 => have := g.a; omega
  | steps h1 h2 h3 => exact h3 g.sl
  | row h1 h2 h3 i hi hw hb => exact hw (g.s i hi)
  | leaves h1 h2 h3 h4 h5 => exact h5 g.ll
  | leave h1 h2 h3 h4 h5 i hi hw hb => have := g.l i hi; omega
theorem CRes.det {fs : List Int} {a : Int} {st : List (List Int)} {lv : List Int} {w w' : Str} {v v' : V} (h : CRes fs a st lv w v) (g : CRes fs a st lv w' v') : w = w' ∧ v = v' := by
  cases h with
  | first i hi hw hb =>
    cases g with
    | first j hj gw gb =>
      have := least_eq (P := fun k => 1 ≤ fs.getD k 0) (by omega) hb (by omega) gb
      subst this; exact ⟨rfl, rfl⟩
    | aside h1 | steps h1 | row h1 | leaves h1 | leave h1 => have := h1 i hi; omega
  | aside h1 h2 =>
    cases g with
    | first j hj gw gb => have := h1 j hj; omega
    | aside g1 g2 => exact ⟨rfl, rfl⟩
    | steps g1 g2 | row g1 g2 | leaves g1 g2 | leave g1 g2 => omega
  | steps h1 h2 h3 =>
    cases g with
    | first j hj gw gb => have := h1 j hj; omega
    | aside g1 g2 => omega
    | steps g1 g2 => exact ⟨rfl, rfl⟩
    | row g1 g2 g3 | leaves g1 g2 g3 | leave g1 g2 g3 => exact absurd g3 h3
  | row h1 h2 h3 i hi hw hb =>
    cases g with
    | first j hj gw gb => have := h1 j hj; omega
    | aside g1 g2 => omega
    | steps g1 g2 g3 => exact absurd h3 g3
    | row g1 g2 g3 j hj gw gb =>
      have := least_eq (P := fun k => SFit fs.length k (st.getD k [])) hw hb gw gb
      subst this; exact ⟨rfl, rfl⟩
    | leaves g1 g2 g3 g4 | leave g1 g2 g3 g4 => exact absurd (g4 i hi) hw
  | leaves h1 h2 h3 h4 h5 =>
    cases g with
    | first j hj gw gb => have := h1 j hj; omega
    | aside g1 g2 => omega
    | steps g1 g2 g3 => exact absurd h3 g3
    | row g1 g2 g3 j hj gw gb => exact absurd (h4 j hj) gw
    | leaves => exact ⟨rfl, rfl⟩
    | leave g1 g2 g3 g4 g5 => exact absurd g5 h5
  | leave h1 h2 h3 h4 h5 i hi hw hb =>
    cases g with
    | first j hj gw gb => have := h1 j hj; omega
    | aside g1 g2 => omega
    | steps g1 g2 g3 => exact absurd h3 g3
    | row g1 g2 g3 j hj gw gb => exact absurd (h4 j hj) gw
    | leaves g1 g2 g3 g4 g5 => exact absurd h5 g5
    | leave g1 g2 g3 g4 g5 j hj gw gb =>
      have := least_eq (P := fun k => 1 ≤ lv.getD k 0) (by omega) hb (by omega) gb
      subst this; exact ⟨rfl, rfl⟩
/-- a Stepping stands at x -/
def StR (K : PySem.W.Frag) (H : Hp) (x : Addr) (fs : List Int) (a : Int) (st : List (List Int)) (lv : List Int) : Prop := ∃ dx t1 t2 t3 ys, At H x (.ins (He.ga K "Stepping") dx [("many", .int fs.length), ("first", .ref t1), ("aside", .int a), ("steps", .ref t2), ("leaves", .ref t3)]) ∧ At H t1 (.tup (fs.map V.int)) ∧ At H t2 (.tup ys) ∧ LTt H ys st ∧ At H t3 (.tup (lv.map V.int))
theorem StR.ex {K : PySem.W.Frag} {H H' : Hp} {x : Addr} {fs : List Int} {a : Int} {st : List (List Int)} {lv : List Int} (h : StR K H x fs a st lv) (e : Ex H H') : StR K H' x fs a st lv := by
  obtain ⟨dx, t1, t2, t3, ys, h1, h2, h3, h4, h5⟩ := h
  exact ⟨dx, t1, t2, t3, ys, e.get h1, e.get h2, e.get h3, h4.ex e, e.get h5⟩
theorem StR.nl {K : PySem.W.Frag} {H H' : Hp} {x : Addr} {fs : List Int} {a : Int} {st : List (List Int)} {lv : List Int} (h : StR K H x fs a st lv) (e : Nl H H') : StR K H' x fs a st lv := by
  obtain ⟨dx, t1, t2, t3, ys, h1, h2, h3, h4, h5⟩ := h
  exact ⟨dx, t1, t2, t3, ys, e.get (fun l z => by cases z) h1, e.get (fun l z => by cases z) h2, e.get (fun l z => by cases z) h3, h4.nl e, e.get (fun l z => by cases z) h5⟩

--lib
set_option linter.all false
/-! ### sums and determinants of whole numbers (functions of two places; b i r: column i, row r) -/
def sumN : Nat → (Nat → Int) → Int
  | 0, _ => 0
  | n + 1, f => sumN n f + f n
theorem sumN_congr {n : Nat} {f g : Nat → Int} (h : ∀ i, i < n → f i = g i) : sumN n f = sumN n g := by
  induction n with
  | zero => rfl
  | succ n ih => simp only [sumN]; rw [ih (fun i hi => h i (by omega)), h n (by omega)]
theorem sumN_zero {n : Nat} {f : Nat → Int} (h : ∀ i, i < n → f i = 0) : sumN n f = 0 := by
  induction n with
  | zero => rfl
  | succ n ih => simp only [sumN]; rw [ih (fun i hi => h i (by omega)), h n (by omega)]; rfl
theorem sumN_lin {n : Nat} {f g : Nat → Int} {x : Int} : sumN n (fun i => x * f i + g i) = x * sumN n f + sumN n g := by
  induction n with
  | zero => simp [sumN]
  | succ n ih => simp only [sumN]; rw [ih]; grind
theorem sumN_mul {n : Nat} {f : Nat → Int} {x : Int} : sumN n (fun i => x * f i) = x * sumN n f := by
  induction n with
  | zero => simp [sumN]
  | succ n ih => simp only [sumN]; rw [ih]; grind
theorem sumN_add {n : Nat} {f g : Nat → Int} : sumN n (fun i => f i + g i) = sumN n f + sumN n g := by
  induction n with
  | zero => simp [sumN]
  | succ n ih => simp only [sumN]; rw [ih]; grind
theorem sumN_sub {n : Nat} {f g : Nat → Int} : sumN n (fun i => f i - g i) = sumN n f - sumN n g := by
  induction n with
  | zero => simp [sumN]
  | succ n ih => simp only [sumN]; rw [ih]; grind
theorem sumN_one {n k : Nat} {f : Nat → Int} (hk : k < n) (h : ∀ i, i < n → i ≠ k → f i = 0) : sumN n f = f k := by
  induction n with
  | zero => omega
  | succ n ih =>
    simp only [sumN]
    by_cases e : k = n
    · subst e
      rw [sumN_zero (fun i hi => h i (by omega) (by omega))]; omega
    · rw [ih (by omega) (fun i hi hn => h i (by omega) hn), h n (by omega) (by omega)]; omega
theorem sumN_two {n p q : Nat} {f : Nat → Int} (hp : p < q) (hq : q < n) (h : ∀ i, i < n → i ≠ p → i ≠ q → f i = 0) : sumN n f = f p + f q := by
  induction n with
  | zero => omega
  | succ n ih =>
    simp only [sumN]
    by_cases e : q = n
    · subst e
      rw [sumN_one hp (fun i hi hn => h i (by omega) hn (by omega))]
    · rw [ih (by omega) (fun i hi h1 h2 => h i (by omega) h1 h2), h n (by omega) (by omega) (by omega)]; omega
theorem sumN_swap {n m : Nat} {f : Nat → Nat → Int} : sumN n (fun i => sumN m (fun j => f i j)) = sumN m (fun j => sumN n (fun i => f i j)) := by
  induction n with
  | zero => exact (sumN_zero fun _ _ => rfl).symm
  | succ n ih => simp only [sumN]; rw [ih, ← sumN_add]
theorem sumN_le {n : Nat} {f g : Nat → Int} (h : ∀ i, i < n → f i ≤ g i) : sumN n f ≤ sumN n g := by
  induction n with
  | zero => exact Int.le_refl _
  | succ n ih => simp only [sumN]; have := ih (fun i hi => h i (by omega)); have := h n (by omega); omega
theorem sumN_lt {n k : Nat} {f g : Nat → Int} (h : ∀ i, i < n → f i ≤ g i) (hk : k < n) (hlt : f k < g k) : sumN n f < sumN n g := by
  induction n with
  | zero => omega
  | succ n ih =>
    simp only [sumN]
    by_cases e : k = n
    · subst e; have := sumN_le (fun i hi => h i (by omega)) (n := k) (f := f) (g := g); omega
    · have := ih (fun i hi => h i (by omega)) (by omega); have := h n (by omega); omega
theorem sumN_nonneg {n : Nat} {f : Nat → Int} (h : ∀ i, i < n → 0 ≤ f i) : 0 ≤ sumN n f := by
  have := sumN_le (n := n) (f := fun _ => 0) (g := f) h
  rw [sumN_zero (fun _ _ => rfl)] at this; exact this
theorem sumN_abs {n : Nat} {f : Nat → Int} {M : Int} (h : ∀ i, i < n → f i ≤ M ∧ -M ≤ f i) : sumN n f ≤ n * M ∧ -(n * M) ≤ sumN n f := by
  induction n with
  | zero => simp [sumN]
  | succ n ih =>
    simp only [sumN]
    have h1 := ih (fun i hi => h i (by omega)); have h2 := h n (by omega)
    have e : ((n + 1 : Nat) : Int) * M = n * M + M := by grind
    rw [e]; omega
def skp (k : Nat) (b : Nat → Nat → Int) : Nat → Nat → Int := fun i => if i < k then b i else b (i + 1)
def sg (k : Nat) : Int := if k % 2 = 0 then 1 else -1
theorem sg_succ (k : Nat) : sg (k + 1) = - sg k := by
  unfold sg
  by_cases h : k % 2 = 0
  · rw [if_pos h, if_neg (by omega)]
  · rw [if_neg h, if_pos (by omega)]; rfl
def det : Nat → (Nat → Nat → Int) → Int
  | 0, _ => 1
  | n + 1, b => sumN (n + 1) fun k => sg (n + k) * (b k n * det n (skp k b))
def put (b : Nat → Nat → Int) (p : Nat) (w : Nat → Int) : Nat → Nat → Int := fun i => if i = p then w else b i
theorem put_same {b : Nat → Nat → Int} {p : Nat} {w : Nat → Int} : put b p w p = w := by simp [put]
theorem put_ne {b : Nat → Nat → Int} {p i : Nat} {w : Nat → Int} (h : i ≠ p) : put b p w i = b i := by simp [put, h]
theorem put_self {b : Nat → Nat → Int} {p : Nat} : put b p (b p) = b := by
  funext i; unfold put; by_cases h : i = p
  · subst h; simp
  · simp [h]
theorem put_put {b : Nat → Nat → Int} {p : Nat} {u v : Nat → Int} : put (put b p u) p v = put b p v := by
  funext i; unfold put; by_cases h : i = p <;> simp [h]
theorem put_comm {b : Nat → Nat → Int} {p q : Nat} {u v : Nat → Int} (h : p ≠ q) : put (put b p u) q v = put (put b q v) p u := by
  funext i; unfold put
  by_cases h1 : i = p
  · subst h1; simp [h]
  · by_cases h2 : i = q
    · subst h2; simp [h1]
    · simp [h1, h2]
theorem det_congr {n : Nat} : ∀ {b c : Nat → Nat → Int}, (∀ i r, i < n → r < n → b i r = c i r) → det n b = det n c := by
  induction n with
  | zero => intros; rfl
  | succ n ih =>
    intro b c h
    refine sumN_congr fun k hk => ?_
    rw [h k n hk (by omega), ih (b := skp k b) (c := skp k c)]
    intro i r hi hr
    unfold skp
    by_cases e : i < k
    · simp only [if_pos e]; exact h i r (by omega) (by omega)
    · simp only [if_neg e]; exact h (i + 1) r (by omega) (by omega)
theorem skp_put_same {b : Nat → Nat → Int} {p : Nat} {w : Nat → Int} : skp p (put b p w) = skp p b := by
  funext i; unfold skp
  by_cases e : i < p
  · simp only [if_pos e]; exact put_ne (by omega)
  · simp only [if_neg e]; exact put_ne (by omega)
theorem skp_put {b : Nat → Nat → Int} {p k : Nat} {w : Nat → Int} (h : k ≠ p) : skp k (put b p w) = put (skp k b) (if p < k then p else p - 1) w := by
  funext i; unfold skp put
  by_cases e : p < k
  · simp only [if_pos e]
    by_cases e1 : i < k
    · simp only [if_pos e1]
    · simp only [if_neg e1]; rw [if_neg (by omega), if_neg (by omega)]
  · simp only [if_neg e]
    by_cases e1 : i < k
    · simp only [if_pos e1]; rw [if_neg (by omega), if_neg (by omega)]
    · simp only [if_neg e1]
      by_cases e2 : i = p - 1
      · rw [if_pos (by omega), if_pos e2]
      · rw [if_neg (by omega), if_neg e2]
theorem det_lin {n : Nat} : ∀ {b : Nat → Nat → Int} {p : Nat} {u v : Nat → Int} {x : Int}, p < n → det n (put b p fun r => x * u r + v r) = x * det n (put b p u) + det n (put b p v) := by
  induction n with
  | zero => intros; omega
  | succ n ih =>
    intro b p u v x hp
    show sumN _ _ = _ * sumN _ _ + sumN _ _
    rw [← sumN_lin]
    refine sumN_congr fun k hk => ?_
    by_cases e : k = p
    · subst e; simp only [skp_put_same, put_same]; grind
    · simp only [skp_put e, put_ne e]
      rw [ih (by split <;> omega)]; grind
theorem det_adj {n : Nat} : ∀ {b : Nat → Nat → Int} {p : Nat}, p + 1 < n → (∀ r, r < n → b p r = b (p + 1) r) → det n b = 0 := by
  induction n with
  | zero => intros; omega
  | succ n ih =>
    intro b p hp h
    show sumN _ _ = _
    rw [sumN_two (p := p) (q := p + 1) (by omega) hp]
    · have e : det n (skp p b) = det n (skp (p + 1) b) := by
        refine det_congr fun i r hi hr => ?_
        unfold skp
        by_cases e1 : i < p
        · rw [if_pos e1, if_pos (by omega)]
        · by_cases e2 : i = p
          · subst e2; rw [if_neg e1, if_pos (by omega)]; exact (h r (by omega)).symm
          · rw [if_neg e1, if_neg (by omega)]
      rw [e, h n (by omega), ← Nat.add_assoc, sg_succ]; grind
    · intro k hk h1 h2
      rw [ih (p := if p < k then p else p - 1)]
      · simp
      · split <;> omega
      · intro r hr
        unfold skp
        by_cases e : p < k
        · simp only [if_pos e]; rw [if_pos (by omega)]; exact h r (by omega)
        · simp only [if_neg e]; rw [if_neg (by omega), if_neg (by omega), show p - 1 + 1 = p by omega]; exact h r (by omega)
theorem det_addl {n : Nat} {b : Nat → Nat → Int} {p : Nat} {u v : Nat → Int} (h : p < n) : det n (put b p fun r => u r + v r) = det n (put b p u) + det n (put b p v) := by
  have := det_lin (b := b) (u := u) (v := v) (x := 1) h
  simp only [Int.one_mul] at this; exact this
theorem det_swap1 {n : Nat} {b : Nat → Nat → Int} {p : Nat} {u v : Nat → Int} (h : p + 1 < n) : det n (put (put b p u) (p + 1) v) = - det n (put (put b p v) (p + 1) u) := by
  have h0 : det n (put (put b p fun r => u r + v r) (p + 1) fun r => u r + v r) = 0 := det_adj h fun r _ => by
    rw [put_same, put_ne (by omega), put_same]
  have a : ∀ w : Nat → Int, det n (put (put b p w) (p + 1) w) = 0 := fun w => det_adj h fun r _ => by
    rw [put_same, put_ne (by omega), put_same]
  rw [det_addl h, put_comm (by omega), det_addl (by omega), put_comm (p := p) (q := p + 1) (u := fun r => u r + v r) (by omega), det_addl (by omega)] at h0
  have a1 := a u; have a2 := a v
  rw [put_comm (by omega)] at a1 a2 ⊢
  rw [put_comm (p := p) (q := p + 1) (u := v) (v := u) (by omega)]
  omega

/-- two equal columns -/
theorem det_eq {n : Nat} : ∀ (d : Nat) {b : Nat → Nat → Int} {p : Nat}, p + d + 1 < n → (∀ r, r < n → b p r = b (p + d + 1) r) → det n b = 0 := by
  intro d
  induction d with
  | zero => intro b p h e; exact det_adj h e
  | succ d ih =>
    intro b p h e
    have e0 : b = put (put b (p + d + 1) (b (p + d + 1))) (p + d + 1 + 1) (b (p + d + 1 + 1)) := by rw [put_self, put_self]
    rw [e0, det_swap1 (by omega), ih (by omega) (p := p)]
    · rfl
    · intro r hr
      rw [put_ne (by omega), put_ne (by omega), put_ne (by omega), put_same]; exact e r hr
theorem det_two {n p q : Nat} {b : Nat → Nat → Int} (hp : p < n) (hq : q < n) (hn : p ≠ q) (h : ∀ r, r < n → b p r = b q r) : det n b = 0 := by
  rcases Nat.lt_or_ge p q with l | l
  · refine det_eq (q - p - 1) (p := p) (by omega) ?_
    rw [show p + (q - p - 1) + 1 = q by omega]; exact h
  · refine det_eq (p - q - 1) (p := q) (by omega) ?_
    rw [show q + (p - q - 1) + 1 = p by omega]; exact fun r hr => (h r hr).symm
theorem det_swap {n p q : Nat} {b : Nat → Nat → Int} {u v : Nat → Int} (hp : p < n) (hq : q < n) (hn : p ≠ q) : det n (put (put b p u) q v) = - det n (put (put b p v) q u) := by
  have h0 : det n (put (put b p fun r => u r + v r) q fun r => u r + v r) = 0 := det_two hp hq hn fun r _ => by
    rw [put_same, put_ne hn, put_same]
  have a : ∀ w : Nat → Int, det n (put (put b p w) q w) = 0 := fun w => det_two hp hq hn fun r _ => by
    rw [put_same, put_ne hn, put_same]
  rw [det_addl hq, put_comm hn, put_comm hn, det_addl hp, det_addl hp] at h0
  have a1 := a u; have a2 := a v
  rw [put_comm hn] at a1 a2
  rw [put_comm hn, put_comm (u := v) (v := u) hn]
  omega
theorem det_sum {n m p : Nat} {b : Nat → Nat → Int} {x : Nat → Int} {u : Nat → Nat → Int} (hp : p < n) : det n (put b p fun r => sumN m fun k => x k * u k r) = sumN m fun k => x k * det n (put b p (u k)) := by
  induction m with
  | zero =>
    show det n (put b p fun r => 0) = 0
    have := det_lin (b := b) (u := fun _ => 0) (v := fun _ => 0) (x := 1) hp
    simp only [Int.mul_zero, Int.add_zero, Int.one_mul] at this; omega
  | succ m ih =>
    have e : (fun r => sumN (m + 1) fun k => x k * u k r) = fun r => x m * u m r + sumN m fun k => x k * u k r := by
      funext r; simp only [sumN]; omega
    rw [e, det_lin hp, ih]; simp only [sumN]; omega
def idm : Nat → Nat → Int := fun i r => if i = r then 1 else 0
theorem sg_even (n : Nat) : sg (n + n) = 1 := by unfold sg; rw [if_pos (by omega)]
theorem det_id {n : Nat} : det n idm = 1 := by
  induction n with
  | zero => rfl
  | succ n ih =>
    show sumN _ _ = _
    rw [sumN_one (k := n) (by omega)]
    · rw [sg_even, show idm n n = 1 from if_pos rfl, det_congr (c := idm) (fun i r hi hr => by unfold skp; rw [if_pos (by omega)]), ih]; rfl
    · intro i hi hn
      rw [show idm i n = 0 from if_neg (by omega)]; simp
theorem det_idput {n i : Nat} {w : Nat → Int} (h : i < n) : det n (put idm i w) = w i := by
  have e : det n (put idm i w) = det n (put idm i fun r => sumN n fun k => w k * idm k r) := det_congr fun j r hj hr => by
    unfold put; by_cases e : j = i
    · rw [if_pos e, if_pos e, sumN_one hr (fun k _ hk => by rw [show idm k r = 0 from if_neg hk]; simp), show idm r r = 1 from if_pos rfl]; simp
    · rw [if_neg e, if_neg e]
  rw [e, det_sum h, sumN_one h]
  · rw [show put idm i (idm i) = idm from put_self, det_id]; simp
  · intro k hk hn
    rw [det_two (p := k) (q := i) hk h hn fun r _ => by rw [put_same, put_ne hn]]; simp
def facI : Nat → Int
  | 0 => 1
  | n + 1 => (n + 1 : Int) * facI n
theorem facI_pos (n : Nat) : 0 < facI n := by
  induction n with
  | zero => exact Int.one_pos
  | succ n ih => exact Int.mul_pos (by omega) ih
theorem absb_mul {a b A B : Int} (h1 : a ≤ A ∧ -A ≤ a) (h2 : b ≤ B ∧ -B ≤ b) : a * b ≤ A * B ∧ -(A * B) ≤ a * b := by
  have h3 : (a.natAbs : Int) ≤ A := by omega
  have h4 : (b.natAbs : Int) ≤ B := by omega
  have h5 : ((a * b).natAbs : Int) ≤ A * B := by
    rw [Int.natAbs_mul, Int.natCast_mul]
    exact Int.mul_le_mul h3 h4 (by omega) (by omega)
  omega
/-- how great a determinant is at most -/
theorem det_bound {n : Nat} : ∀ {b : Nat → Nat → Int} {M : Int}, (∀ i r, i < n → r < n → b i r ≤ M ∧ -M ≤ b i r) → det n b ≤ facI n * M ^ n ∧ -(facI n * M ^ n) ≤ det n b := by
  induction n with
  | zero => intro b M h; simp [det, facI]
  | succ n ih =>
    intro b M h
    have hs := sumN_abs (n := n + 1) (f := fun k => sg (n + k) * (b k n * det n (skp k b))) (M := M * (facI n * M ^ n)) (fun k hk => by
      have h1 := ih (b := skp k b) (M := M) (fun i r hi hr => by
        unfold skp
        by_cases e : i < k
        · rw [if_pos e]; exact h i r (by omega) (by omega)
        · rw [if_neg e]; exact h (i + 1) r (by omega) (by omega))
      have h2 := absb_mul (h k n hk (by omega)) h1
      have h3 : sg (n + k) ≤ 1 ∧ -1 ≤ sg (n + k) := by unfold sg; split <;> omega
      have h4 := absb_mul h3 h2
      simpa using h4)
    have e : facI (n + 1) * M ^ (n + 1) = (n + 1 : Nat) * (M * (facI n * M ^ n)) := by
      simp only [facI, Int.pow_succ]; push_cast; grind
    rw [e]; exact hs

theorem sumN_eq2 {n p q : Nat} {f : Nat → Int} (hp : p < n) (hq : q < n) (hn : p ≠ q) (h : ∀ i, i < n → i ≠ p → i ≠ q → f i = 0) : sumN n f = f p + f q := by
  rcases Nat.lt_or_ge p q with l | l
  · exact sumN_two l hq h
  · rw [sumN_two (p := q) (q := p) (by omega) hp (fun i hi h1 h2 => h i hi h2 h1)]; omega

/-! ### elimination with whole numbers: every number of the table is a determinant -/
def pvt (T : Nat → Nat → Int) (r c : Nat) (s : Int) : Nat → Nat → Int := fun i j => if i = r then T i j else (T i j * T r c - T i c * T r j) / s
structure BI (n m : Nat) (A b : Nat → Nat → Int) (s : Int) (T : Nat → Nat → Int) : Prop where
  i0 : s = det n b
  i1 : ∀ i j, i < n → j < m → T i j = det n (put b i fun r => A r j)
  i2 : ∀ j r, j < m → r < n → s * A r j = sumN n fun i => T i j * b i r
theorem BI.start {n m : Nat} {A : Nat → Nat → Int} : BI n m A idm 1 A := ⟨det_id.symm, fun i j hi hj => (det_idput (w := fun r => A r j) hi).symm, fun j r hj hr => by
  rw [sumN_one hr (fun k _ hk => by rw [show idm k r = 0 from if_neg hk]; simp), show idm r r = 1 from if_pos rfl]; omega⟩
section
variable {n m : Nat} {A b T : Nat → Nat → Int} {s : Int} {r c : Nat}
theorem BI.cross (h : BI n m A b s T) (hr : r < n) (hc : c < m) {i j : Nat} (hi : i < n) (hj : j < m) (hn : i ≠ r) : s * det n (put (put b r fun q => A q c) i fun q => A q j) = T i j * T r c - T i c * T r j := by
  have e1 : s * det n (put (put b r fun q => A q c) i fun q => A q j) = det n (put (put b r fun q => A q c) i fun q => sumN n fun k => T k j * b k q) := by
    have := det_lin (b := put b r fun q => A q c) (p := i) (u := fun q => A q j) (v := fun _ => 0) (x := s) hi
    have z := det_lin (b := put b r fun q => A q c) (p := i) (u := fun _ => 0) (v := fun _ => 0) (x := 1) hi
    simp only [Int.mul_zero, Int.add_zero, Int.one_mul] at z this
    have z0 : det n (put (put b r fun q => A q c) i fun _ => 0) = 0 := by omega
    rw [z0, Int.add_zero] at this
    rw [← this]
    refine det_congr fun p q hp hq => ?_
    by_cases e : p = i
    · subst e; rw [put_same, put_same]; exact h.i2 j q hj hq
    · rw [put_ne e, put_ne e]
  rw [e1, det_sum hi, sumN_eq2 (p := i) (q := r) hi hr hn]
  · rw [show put (put b r fun q => A q c) i (b i) = put b r fun q => A q c by rw [put_comm (by omega), put_self], ← h.i1 r c hr hc, det_swap hr hi (by omega), put_self, ← h.i1 i c hi hc]; grind
  · intro k hk h1 h2
    rw [det_two (p := k) (q := i) hk hi h1 fun q _ => by rw [put_same, put_ne h1, put_ne h2]]; simp
/-- the division leaves no rest -/
theorem BI.exact (h : BI n m A b s T) (hr : r < n) (hc : c < m) {i j : Nat} (hi : i < n) (hj : j < m) (hs : s ≠ 0) (hn : i ≠ r) : s * pvt T r c s i j = T i j * T r c - T i c * T r j := by
  unfold pvt
  rw [if_neg hn, ← h.cross hr hc hi hj hn, Int.mul_ediv_cancel_left _ hs]
theorem BI.val (h : BI n m A b s T) (hr : r < n) (hc : c < m) {i j : Nat} (hi : i < n) (hj : j < m) (hs : s ≠ 0) (hn : i ≠ r) : pvt T r c s i j = det n (put (put b r fun q => A q c) i fun q => A q j) := by
  have := h.exact hr hc hi hj hs hn
  rw [← h.cross hr hc hi hj hn] at this
  exact Int.eq_of_mul_eq_mul_left hs this
theorem BI.step (h : BI n m A b s T) (hr : r < n) (hc : c < m) (hs : s ≠ 0) : BI n m A (put b r fun q => A q c) (T r c) (pvt T r c s) := by
  refine ⟨h.i1 r c hr hc, fun i j hi hj => ?_, fun j q hj hq => ?_⟩
  · by_cases e : i = r
    · subst e; rw [put_put]; unfold pvt; rw [if_pos rfl]; exact h.i1 i j hi hj
    · exact h.val hr hc hi hj hs e
  · refine Int.eq_of_mul_eq_mul_left hs ?_
    rw [← sumN_mul]
    have e : sumN n (fun i => s * (pvt T r c s i j * put b r (fun q => A q c) i q)) = sumN n (fun i => (T r c * (T i j * b i q) + (- T r j) * (T i c * b i q)) + (if i = r then s * T r j * A q c else 0)) := by
      refine sumN_congr fun i hi => ?_
      by_cases e : i = r
      · subst e; rw [if_pos rfl, put_same]; unfold pvt; rw [if_pos rfl]; grind
      · rw [if_neg e, put_ne e, ← Int.mul_assoc, h.exact hr hc hi hj hs e]; grind
    rw [e, sumN_add, sumN_add, sumN_mul, sumN_mul, ← h.i2 j q hj hq, ← h.i2 c q hc hq, sumN_one hr (fun i _ hn => if_neg hn), if_pos rfl]; grind
theorem BI.bound (h : BI n m A b s T) {M : Int} (hb : ∀ i r, i < n → r < n → b i r ≤ M ∧ -M ≤ b i r) (hA : ∀ i j, i < n → j < m → A i j ≤ M ∧ -M ≤ A i j) {i j : Nat} (hi : i < n) (hj : j < m) : T i j ≤ facI n * M ^ n ∧ -(facI n * M ^ n) ≤ T i j := by
  rw [h.i1 i j hi hj]
  refine det_bound fun p q hp hq => ?_
  by_cases e : p = i
  · subst e; rw [put_same]; exact hA q j hq hj
  · rw [put_ne e]; exact hb p q hp hq
end
/-! ### sums of fractions -/
def sumR : Nat → (Nat → Rat) → Rat
  | 0, _ => 0
  | n + 1, f => sumR n f + f n
theorem sumR_congr {n : Nat} {f g : Nat → Rat} (h : ∀ i, i < n → f i = g i) : sumR n f = sumR n g := by
  induction n with
  | zero => rfl
  | succ n ih => simp only [sumR]; rw [ih (fun i hi => h i (by omega)), h n (by omega)]
theorem sumR_zero {n : Nat} {f : Nat → Rat} (h : ∀ i, i < n → f i = 0) : sumR n f = 0 := by
  induction n with
  | zero => rfl
  | succ n ih => simp only [sumR]; rw [ih (fun i hi => h i (by omega)), h n (by omega)]; grind
theorem sumR_mul {n : Nat} {f : Nat → Rat} {x : Rat} : sumR n (fun i => x * f i) = x * sumR n f := by
  induction n with
  | zero => simp [sumR]
  | succ n ih => simp only [sumR]; rw [ih]; grind
theorem sumR_add {n : Nat} {f g : Nat → Rat} : sumR n (fun i => f i + g i) = sumR n f + sumR n g := by
  induction n with
  | zero => simp only [sumR]; grind
  | succ n ih => simp only [sumR]; rw [ih]; grind
theorem sumR_one {n k : Nat} {f : Nat → Rat} (hk : k < n) (h : ∀ i, i < n → i ≠ k → f i = 0) : sumR n f = f k := by
  induction n with
  | zero => omega
  | succ n ih =>
    simp only [sumR]
    by_cases e : k = n
    · subst e
      rw [sumR_zero (fun i hi => h i (by omega) (by omega))]; grind
    · rw [ih (by omega) (fun i hi hn => h i (by omega) hn), h n (by omega) (by omega)]; grind
theorem sumR_swap {n m : Nat} {f : Nat → Nat → Rat} : sumR n (fun i => sumR m (fun j => f i j)) = sumR m (fun j => sumR n (fun i => f i j)) := by
  induction n with
  | zero => exact (sumR_zero fun _ _ => rfl).symm
  | succ n ih => simp only [sumR]; rw [ih, ← sumR_add]
theorem sumR_le {n : Nat} {f g : Nat → Rat} (h : ∀ i, i < n → f i ≤ g i) : sumR n f ≤ sumR n g := by
  induction n with
  | zero => exact Rat.le_refl
  | succ n ih => simp only [sumR]; have := ih (fun i hi => h i (by omega)); have := h n (by omega); grind
theorem sumR_cast {n : Nat} {f : Nat → Int} : sumR n (fun i => ((f i : Int) : Rat)) = ((sumN n f : Int) : Rat) := by
  induction n with
  | zero => rfl
  | succ n ih => simp only [sumR, sumN]; rw [ih, Rat.intCast_add]
/-- the leading blocks of A have no kernel -/
def Reg (n : Nat) (A : Nat → Nat → Int) : Prop := ∀ k, k < n → ∀ y : Nat → Rat, (∀ i, i ≤ k → sumR (k + 1) (fun j => (A i j : Rat) * y j) = 0) → y k = 0
/-! ### solve -/
def slT (A : Nat → Nat → Int) : Nat → (Nat → Nat → Int) × Int
  | 0 => (A, 1)
  | k + 1 => (pvt (slT A k).1 k k (slT A k).2, (slT A k).1 k k)
def slB (A : Nat → Nat → Int) (k : Nat) : Nat → Nat → Int := fun i => if i < k then fun r => A r i else idm i
theorem slB_succ {A : Nat → Nat → Int} {k : Nat} : put (slB A k) k (fun q => A q k) = slB A (k + 1) := by
  funext i; unfold slB put
  by_cases e : i = k
  · subst e; rw [if_pos rfl, if_pos (by omega)]
  · by_cases e1 : i < k
    · rw [if_neg e, if_pos (by omega)]; exact if_pos e1
    · rw [if_neg e, if_neg (by omega)]; exact if_neg e1
theorem slT_ok {n m : Nat} {A : Nat → Nat → Int} (hm : n ≤ m) (hR : Reg n A) : ∀ k, k ≤ n → BI n m A (slB A k) (slT A k).2 (slT A k).1 ∧ (slT A k).2 ≠ 0 := by
  intro k
  induction k with
  | zero =>
    intro _
    have e : slB A 0 = idm := by funext i; unfold slB; rw [if_neg (by omega)]
    rw [e]; exact ⟨BI.start, by show (1 : Int) ≠ 0; decide⟩
  | succ k ih =>
    intro hk
    obtain ⟨h, hs⟩ := ih (by omega)
    refine ⟨by rw [← slB_succ]; exact h.step (by omega) (by omega) hs, fun h0 => hs ?_⟩
    replace h0 : (slT A k).1 k k = 0 := h0
    have h2 := hR k (by omega) (fun j => if j = k then ((slT A k).2 : Rat) else -((slT A k).1 j k : Rat)) (fun i hi => by
      have e := h.i2 k i (by omega) (by omega)
      have e2 : sumN n (fun j => (slT A k).1 j k * slB A k j i) = sumN k (fun j => (slT A k).1 j k * A i j) := by
        have e3 : ∀ d, k ≤ d → d ≤ n → sumN d (fun j => (slT A k).1 j k * slB A k j i) = sumN k (fun j => (slT A k).1 j k * A i j) := by
          intro d
          induction d with
          | zero => intro h1 _; have : k = 0 := by omega
                    subst this; rfl
          | succ d ihd =>
            intro h1 h2
            by_cases hd : k = d + 1
            · subst hd; exact sumN_congr fun j hj => by unfold slB; rw [if_pos hj]
            · simp only [sumN]
              rw [ihd (by omega) (by omega)]
              by_cases hdk : d = k
              · subst hdk; rw [h0]; simp
              · have : slB A k d i = 0 := by
                  unfold slB; rw [if_neg (by omega)]; exact if_neg (by omega)
                rw [this]; simp
        exact e3 n (by omega) (Nat.le_refl _)
      rw [e2] at e
      simp only [sumR, if_true]
      rw [sumR_congr (g := fun j => (-1 : Rat) * (((slT A k).1 j k * A i j : Int) : Rat)) (fun j hj => by rw [if_neg (by omega), Rat.intCast_mul]; grind), sumR_mul, sumR_cast, ← e, Rat.intCast_mul]; grind)
    rw [if_pos rfl] at h2
    exact_mod_cast h2
/-- what solve tells solves the equations -/
theorem slT_sol {n m : Nat} {A : Nat → Nat → Int} (hm : n < m) (hR : Reg n A) {r : Nat} (hr : r < n) : sumR n (fun i => (A r i : Rat) * (((slT A n).1 i n : Rat) / ((slT A n).2 : Rat))) = (A r n : Rat) := by
  obtain ⟨h, hs⟩ := slT_ok (m := m) (Nat.le_of_lt hm) hR n (Nat.le_refl _)
  have e := h.i2 n r hm hr
  have hs' : ((slT A n).2 : Rat) ≠ 0 := fun z => hs (by exact_mod_cast z)
  have e1 : sumR n (fun i => (A r i : Rat) * (((slT A n).1 i n : Rat) / ((slT A n).2 : Rat))) = sumR n (fun i => (1 / ((slT A n).2 : Rat)) * (((slT A n).1 i n * slB A n i r : Int) : Rat)) := sumR_congr fun i hi => by
    unfold slB; rw [if_pos hi, Rat.intCast_mul]; grind
  rw [e1, sumR_mul, sumR_cast, ← e, Rat.intCast_mul]; grind
theorem slT_bound {n m : Nat} {A : Nat → Nat → Int} (hm : n ≤ m) (hR : Reg n A) {M : Int} (h1 : 1 ≤ M) (hA : ∀ i j, i < n → j < m → A i j ≤ M ∧ -M ≤ A i j) {k i j : Nat} (hk : k ≤ n) (hi : i < n) (hj : j < m) : (slT A k).1 i j ≤ facI n * M ^ n ∧ -(facI n * M ^ n) ≤ (slT A k).1 i j := by
  refine (slT_ok hm hR k hk).1.bound (fun p q hp hq => ?_) hA hi hj
  unfold slB
  by_cases e : p < k
  · rw [if_pos e]; exact hA q p hq (by omega)
  · rw [if_neg e]; unfold idm; split <;> omega

--lib
/-! ### dominance: off the diagonal nothing above 0, the sums of the rows (of the columns) above 0 -/
theorem sumR_lt {n k : Nat} {f g : Nat → Rat} (h : ∀ i, i < n → f i ≤ g i) (hk : k < n) (hlt : f k < g k) : sumR n f < sumR n g := by
  induction n with
  | zero => omega
  | succ n ih =>
    simp only [sumR]
    by_cases e : k = n
    · subst e; have := sumR_le (fun i hi => h i (by omega)) (n := k) (f := f) (g := g); grind
    · have := ih (fun i hi => h i (by omega)) (by omega); have := h n (by omega); grind
theorem sumR_nonneg {n : Nat} {f : Nat → Rat} (h : ∀ i, i < n → 0 ≤ f i) : 0 ≤ sumR n f := by
  have := sumR_le (n := n) (f := fun _ => 0) (g := f) h
  rw [sumR_zero (fun _ _ => rfl)] at this; exact this
theorem argmin {n : Nat} (y : Nat → Rat) (h : 0 < n) : ∃ i, i < n ∧ ∀ j, j < n → y i ≤ y j := by
  induction n with
  | zero => omega
  | succ n ih =>
    by_cases hn : n = 0
    · subst hn; exact ⟨0, by omega, fun j hj => by have : j = 0 := by omega
                                                   subst this; exact Rat.le_refl⟩
    · obtain ⟨i, hi, hm⟩ := ih (by omega)
      by_cases c : y i ≤ y n
      · exact ⟨i, by omega, fun j hj => by
          by_cases e : j = n
          · subst e; exact c
          · exact hm j (by omega)⟩
      · exact ⟨n, by omega, fun j hj => by
          by_cases e : j = n
          · subst e; exact Rat.le_refl
          · have := hm j (by omega); grind⟩
structure RowD (n : Nat) (A : Nat → Nat → Int) : Prop where
  off : ∀ i j, i < n → j < n → j ≠ i → A i j ≤ 0
  sum : ∀ i, i < n → 0 < sumN n (fun j => A i j)
theorem RowD.sumk {n : Nat} {A : Nat → Nat → Int} (h : RowD n A) {i k : Nat} (hi : i < k) (hk : k ≤ n) : 0 < sumN k (fun j => A i j) := by
  have : ∀ d, k ≤ d → d ≤ n → sumN d (fun j => A i j) ≤ sumN k (fun j => A i j) := by
    intro d
    induction d with
    | zero => intro h1 _; have : k = 0 := by omega
              subst this; exact Int.le_refl _
    | succ d ih =>
      intro h1 h2
      by_cases e : k = d + 1
      · subst e; exact Int.le_refl _
      · simp only [sumN]; have := ih (by omega) (by omega); have := h.off i d (by omega) (by omega) (by omega); omega
  have := this n hk (Nat.le_refl _); have := h.sum i (by omega); omega
theorem castR_le {a b : Int} : ((a : Int) : Rat) ≤ (b : Rat) ↔ a ≤ b := Rat.intCast_le_intCast
theorem castR_lt {a b : Int} : ((a : Int) : Rat) < (b : Rat) ↔ a < b := Rat.intCast_lt_intCast
theorem mul_le_neg {a x y : Rat} (h : a ≤ 0) (hx : x ≤ y) : a * y ≤ a * x := by
  have := Rat.mul_le_mul_of_nonneg_left (c := -a) hx (by grind)
  grind
/-- the least of the solutions is not below 0 if the right sides are not -/
theorem RowD.nonneg {n k : Nat} {A : Nat → Nat → Int} (h : RowD n A) (hk : k ≤ n) {y : Nat → Rat} (hy : ∀ i, i < k → 0 ≤ sumR k (fun j => (A i j : Rat) * y j)) {i : Nat} (hi : i < k) : 0 ≤ y i := by
  obtain ⟨m, hm, hmin⟩ := argmin (n := k) y (by omega)
  have h1 : sumR k (fun j => (A m j : Rat) * y j) ≤ sumR k (fun j => y m * ((A m j : Int) : Rat)) := sumR_le fun j hj => by
    by_cases e : j = m
    · subst e; rw [Rat.mul_comm]; exact Rat.le_refl
    · have h2 : ((A m j : Int) : Rat) ≤ 0 := by
        have := castR_le.mpr (h.off m j (by omega) (by omega) e); simpa using this
      have := mul_le_neg h2 (hmin j hj); grind
  rw [sumR_mul, sumR_cast] at h1
  have h3 : (0 : Rat) < ((sumN k (fun j => A m j) : Int) : Rat) := by
    have := castR_lt.mpr (h.sumk hm hk); simpa using this
  have h4 := hy m hm
  have h5 := hmin i hi
  by_cases c : 0 ≤ y m
  · grind
  · exfalso
    have h6 : y m * ((sumN k (fun j => A m j) : Int) : Rat) < 0 := by
      have := Rat.mul_pos (a := -(y m)) (b := ((sumN k (fun j => A m j) : Int) : Rat)) (by grind) h3
      grind
    grind
theorem sumR_neg {n : Nat} {f : Nat → Rat} : sumR n (fun i => - f i) = - sumR n f := by
  have := sumR_mul (n := n) (f := f) (x := -1)
  rw [sumR_congr (g := fun i => - f i) (fun i _ => by grind)] at this; grind
theorem RowD.reg {n : Nat} {A : Nat → Nat → Int} (h : RowD n A) : Reg n A := by
  intro k hk y hy
  have h1 := h.nonneg (k := k + 1) (by omega) (y := y) (fun i hi => by rw [hy i (by omega)]; exact Rat.le_refl) (i := k) (by omega)
  have h2 := h.nonneg (k := k + 1) (by omega) (y := fun j => - y j) (fun i hi => by
    rw [sumR_congr (g := fun j => - ((A i j : Rat) * y j)) (fun j _ => by grind), sumR_neg, hy i (by omega)]; simp) (i := k) (by omega)
  grind
structure ColD (n : Nat) (A : Nat → Nat → Int) : Prop where
  off : ∀ i j, i < n → j < n → j ≠ i → A i j ≤ 0
  sum : ∀ j, j < n → 0 < sumN n (fun i => A i j)
theorem ColD.row {n : Nat} {A : Nat → Nat → Int} (h : ColD n A) : RowD n (fun i j => A j i) := ⟨fun i j hi hj hn => h.off j i hj hi (by omega), h.sum⟩
def sgR (x : Rat) : Rat := if 0 ≤ x then 1 else -1
theorem sg_abs {x : Rat} : sgR x * x = x.abs := by unfold sgR; grind [Rat.abs]
theorem sg_le {x y : Rat} : sgR x * y ≤ y.abs := by
  unfold sgR
  by_cases h : 0 ≤ x
  · rw [if_pos h]; grind [Rat.abs]
  · rw [if_neg h]; grind [Rat.abs]
theorem ColD.reg {n : Nat} {A : Nat → Nat → Int} (h : ColD n A) : Reg n A := by
  intro k hk y hy
  have h0 : sumR (k + 1) (fun i => sumR (k + 1) (fun j => sgR (y i) * ((A i j : Rat) * y j))) = 0 := sumR_zero fun i hi => by
    rw [sumR_mul, hy i (by omega)]; simp
  rw [sumR_swap] at h0
  have h1 : ∀ j, j < k + 1 → (y j).abs * ((sumN (k + 1) (fun i => A i j) : Int) : Rat) ≤ sumR (k + 1) (fun i => sgR (y i) * ((A i j : Rat) * y j)) := by
    intro j hj
    rw [← sumR_cast, ← sumR_mul]
    refine sumR_le fun i hi => ?_
    by_cases e : i = j
    · subst e
      have := @sg_abs (y i)
      have e2 : sgR (y i) * ((A i i : Rat) * y i) = (A i i : Rat) * (sgR (y i) * y i) := by grind
      rw [e2, this, Rat.mul_comm]; exact Rat.le_refl
    · have h2 : ((A i j : Int) : Rat) ≤ 0 := by
        have := castR_le.mpr (h.off i j (by omega) (by omega) (by omega)); simpa using this
      have := mul_le_neg h2 (@sg_le (y i) (y j)); grind
  have hp : ∀ j, j < k + 1 → (0 : Rat) < ((sumN (k + 1) (fun i => A i j) : Int) : Rat) := fun j hj => by
    have := castR_lt.mpr (h.row.sumk (i := j) (k := k + 1) hj (by omega)); simpa using this
  by_cases c : y k = 0
  · exact c
  · exfalso
    have h3 : (0 : Rat) < (y k).abs := by grind [Rat.abs]
    have h4 := sumR_lt (n := k + 1) (k := k) (f := fun _ => 0) (g := fun j => sumR (k + 1) (fun i => sgR (y i) * ((A i j : Rat) * y j))) (fun j hj => by
      have h5 := h1 j hj
      have h6 := Rat.mul_nonneg (a := (y j).abs) (Rat.abs_nonneg) (Rat.le_of_lt (hp j hj))
      grind) (by omega) (by
      have h5 := h1 k (by omega)
      have h6 := Rat.mul_pos h3 (hp k (by omega))
      grind)
    rw [sumR_zero (fun _ _ => rfl), h0] at h4
    exact absurd h4 (by grind)
/-! ### elimination without a division -/
def lwT (A : Nat → Nat → Int) : Nat → Nat → Nat → Int
  | 0 => A
  | k + 1 => fun i j => if i = k then lwT A k i j else lwT A k i j * lwT A k k k - lwT A k i k * lwT A k k j
structure LW (n : Nat) (A L : Nat → Nat → Int) (k : Nat) : Prop where
  off : ∀ i j, i < n → j < k → i ≠ j → L i j = 0
  dg : ∀ j, j < k → L j j ≠ 0
  back : ∀ m (y : Nat → Rat), k ≤ m → m ≤ n → (∀ i, i < m → sumR (n + 1) (fun j => (L i j : Rat) * y j) = 0) → ∀ i, i < m → sumR (n + 1) (fun j => (A i j : Rat) * y j) = 0
theorem sumR_cut {n k : Nat} {f : Nat → Rat} (hk : k ≤ n) (h : ∀ i, k ≤ i → i < n → f i = 0) : sumR n f = sumR k f := by
  induction n with
  | zero => have : k = 0 := by omega
            subst this; rfl
  | succ n ih =>
    by_cases e : k = n + 1
    · subst e; rfl
    · simp only [sumR]; rw [ih (by omega) (fun i h1 h2 => h i h1 (by omega)), h n (by omega) (by omega)]; grind
theorem LW.pivot {n : Nat} {A L : Nat → Nat → Int} {k : Nat} (h : LW n A L k) (hR : Reg n A) (hk : k < n) : L k k ≠ 0 := by
  intro h0
  have hy := hR k hk (fun j => if j = k then 1 else -(L j k : Rat) / (L j j : Rat)) (fun i hi => by
    have hb := h.back (k + 1) (fun j => if j = k then 1 else if j < k then -(L j k : Rat) / (L j j : Rat) else 0) (by omega) (by omega) (fun i hi => by
      rw [sumR_cut (k := k + 1) (by omega) (fun j h1 h2 => by rw [if_neg (by omega), if_neg (by omega)]; simp)]
      simp only [sumR, if_true]
      by_cases e : i = k
      · subst e
        rw [sumR_zero (fun j hj => by rw [h.off i j (by omega) (by omega) (by omega)]; simp), h0]; grind
      · rw [sumR_one (k := i) (by omega) (fun j hj hn => by rw [h.off i j (by omega) (by omega) (by omega)]; simp), if_neg e, if_pos (by omega)]
        have : (L i i : Rat) ≠ 0 := fun z => h.dg i (by omega) (by exact_mod_cast z)
        grind) i (by omega)
    rw [sumR_cut (k := k + 1) (by omega) (fun j h1 h2 => by rw [if_neg (by omega), if_neg (by omega)]; simp)] at hb
    rw [← hb]
    refine sumR_congr fun j hj => ?_
    by_cases e : j = k
    · rw [if_pos e, if_pos e]
    · rw [if_neg e, if_neg e, if_pos (by omega)])
  rw [if_pos rfl] at hy
  exact absurd hy (by decide)
theorem lwT_ok {n : Nat} {A : Nat → Nat → Int} (hR : Reg n A) : ∀ k, k ≤ n → LW n A (lwT A k) k := by
  intro k
  induction k with
  | zero => exact fun _ => ⟨fun i j _ h => absurd h (by omega), fun j h => absurd h (by omega), fun m y _ _ h => h⟩
  | succ k ih =>
    intro hk
    have h := ih (by omega)
    have hp := h.pivot hR (by omega)
    refine ⟨fun i j hi hj hn => ?_, fun j hj => ?_, fun m y h1 h2 hy => h.back m y (by omega) h2 fun i hi => ?_⟩
    · show (if i = k then lwT A k i j else lwT A k i j * lwT A k k k - lwT A k i k * lwT A k k j) = 0
      by_cases e : i = k
      · subst e; rw [if_pos rfl]; exact h.off i j hi (by omega) hn
      · rw [if_neg e]
        by_cases e2 : j = k
        · subst e2; grind
        · rw [h.off i j hi (by omega) hn, h.off k j (by omega) (by omega) (by omega)]; simp
    · show (if j = k then lwT A k j j else lwT A k j j * lwT A k k k - lwT A k j k * lwT A k k j) ≠ 0
      by_cases e : j = k
      · subst e; rw [if_pos rfl]; exact hp
      · rw [if_neg e, h.off k j (by omega) (by omega) (by omega), Int.mul_zero, Int.sub_zero]
        exact Int.mul_ne_zero (h.dg j (by omega)) hp
    · have hkk := hy k (by omega)
      rw [sumR_congr (g := fun j => (lwT A k k j : Rat) * y j) (fun j _ => by
        show (((if k = k then lwT A k k j else lwT A k k j * lwT A k k k - lwT A k k k * lwT A k k j) : Int) : Rat) * y j = _
        rw [if_pos rfl])] at hkk
      by_cases e : i = k
      · subst e; exact hkk
      · have hii := hy i hi
        rw [sumR_congr (g := fun j => (lwT A k k k : Rat) * ((lwT A k i j : Rat) * y j) + (-(lwT A k i k : Rat)) * ((lwT A k k j : Rat) * y j)) (fun j _ => by
          show (((if i = k then lwT A k i j else lwT A k i j * lwT A k k k - lwT A k i k * lwT A k k j) : Int) : Rat) * y j = _
          rw [if_neg e, Rat.intCast_sub, Rat.intCast_mul, Rat.intCast_mul]; grind), sumR_add, sumR_mul, sumR_mul, hkk] at hii
        have : (lwT A k k k : Rat) ≠ 0 := fun z => hp (by exact_mod_cast z)
        have h3 : (lwT A k k k : Rat) * sumR (n + 1) (fun j => (lwT A k i j : Rat) * y j) = 0 := by grind
        rcases Rat.mul_eq_zero.mp h3 with z | z
        · exact absurd z this
        · exact z
theorem lwT_sol {n : Nat} {A : Nat → Nat → Int} (hR : Reg n A) {r : Nat} (hr : r < n) : sumR n (fun j => (A r j : Rat) * ((lwT A n j n : Rat) / (lwT A n j j : Rat))) = (A r n : Rat) := by
  have h := lwT_ok hR n (Nat.le_refl _)
  have hb := h.back n (fun j => if j < n then (lwT A n j n : Rat) / (lwT A n j j : Rat) else -1) (Nat.le_refl _) (Nat.le_refl _) (fun i hi => by
    simp only [sumR]
    rw [sumR_one (k := i) hi (fun j hj hn => by rw [h.off i j hi hj (by omega)]; simp), if_pos hi, if_neg (by omega)]
    have : (lwT A n i i : Rat) ≠ 0 := fun z => h.dg i hi (by exact_mod_cast z)
    grind) r hr
  simp only [sumR] at hb
  rw [if_neg (by omega), sumR_congr (g := fun j => (A r j : Rat) * ((lwT A n j n : Rat) / (lwT A n j j : Rat))) (fun j hj => by rw [if_pos hj])] at hb
  grind
/-- the two ways of reading equations that are turned about -/
theorem dual_sol {n : Nat} {A : Nat → Nat → Int} {x c f s : Nat → Rat} (hx : ∀ r, r < n → sumR n (fun i => (A r i : Rat) * x i) = f r) (hc : ∀ i, i < n → sumR n (fun r => (A r i : Rat) * c r) = s i) : sumR n (fun i => x i * s i) = sumR n (fun r => f r * c r) := by
  have h1 : sumR n (fun i => x i * s i) = sumR n (fun i => sumR n (fun r => (A r i : Rat) * x i * c r)) := sumR_congr fun i hi => by
    rw [← hc i hi, ← sumR_mul]; exact sumR_congr fun r _ => by grind
  have h2 : sumR n (fun r => f r * c r) = sumR n (fun r => sumR n (fun i => (A r i : Rat) * x i * c r)) := sumR_congr fun r hr => by
    rw [← hx r hr, Rat.mul_comm, ← sumR_mul]; exact sumR_congr fun i _ => by grind
  rw [h1, h2, sumR_swap]
/-- the least of the solutions of each leading block is not below 0 if the right sides are not -/
def Mon (n : Nat) (A : Nat → Nat → Int) : Prop := ∀ k, k ≤ n → ∀ y : Nat → Rat, (∀ i, i < k → 0 ≤ sumR k (fun j => (A i j : Rat) * y j)) → ∀ i, i < k → 0 ≤ y i
theorem RowD.mon {n : Nat} {A : Nat → Nat → Int} (h : RowD n A) : Mon n A := fun k hk y hy i hi => h.nonneg hk hy hi
theorem Mon.reg {n : Nat} {A : Nat → Nat → Int} (h : Mon n A) : Reg n A := by
  intro k hk y hy
  have h1 := h (k + 1) (by omega) y (fun i hi => by rw [hy i (by omega)]; exact Rat.le_refl) k (by omega)
  have h2 := h (k + 1) (by omega) (fun j => - y j) (fun i hi => by
    rw [sumR_congr (g := fun j => - ((A i j : Rat) * y j)) (fun j _ => by grind), sumR_neg, hy i (by omega)]; simp) k (by omega)
  grind
theorem ColD.mon {n : Nat} {A : Nat → Nat → Int} (h : ColD n A) : Mon n A := by
  intro k hk y hy i0 hi0
  by_cases c : 0 ≤ y i0
  · exact c
  exfalso
  have h0 : 0 ≤ sumR k (fun i => sumR k (fun j => (if y i < 0 then (1 : Rat) else 0) * ((A i j : Rat) * y j))) := sumR_nonneg fun i hi => by
    rw [sumR_mul]
    split
    · have := hy i hi; grind
    · simp
  rw [sumR_swap] at h0
  have hx : ∀ j, j < k → sumR k (fun i => (if y i < 0 then (1 : Rat) else 0) * ((A i j : Rat) * y j)) = y j * sumR k (fun i => ((if y i < 0 then A i j else 0 : Int) : Rat)) := fun j hj => by
    rw [← sumR_mul]
    refine sumR_congr fun i hi => ?_
    split
    · grind
    · simp
  have hneg : ∀ j, j < k → y j < 0 → (0 : Rat) < sumR k (fun i => ((if y i < 0 then A i j else 0 : Int) : Rat)) := fun j hj hy0 => by
    rw [sumR_cast]
    have h1 := h.row.sumk (i := j) (k := k) hj hk
    have h2 : sumN k (fun i => A i j) ≤ sumN k (fun i => if y i < 0 then A i j else 0) := sumN_le fun i hi => by
      split
      · exact Int.le_refl _
      · rename_i c2
        exact h.off i j (by omega) (by omega) (fun e => by subst e; exact c2 hy0)
    have := castR_lt.mpr (Int.lt_of_lt_of_le h1 h2)
    simpa using this
  have hpos : ∀ j, j < k → 0 ≤ y j → sumR k (fun i => ((if y i < 0 then A i j else 0 : Int) : Rat)) ≤ 0 := fun j hj hy0 => by
    rw [sumR_cast]
    have h2 : sumN k (fun i => if y i < 0 then A i j else 0) ≤ sumN k (fun _ => 0) := sumN_le fun i hi => by
      split
      · rename_i c2
        exact h.off i j (by omega) (by omega) (fun e => by subst e; grind)
      · exact Int.le_refl _
    rw [sumN_zero (fun _ _ => rfl)] at h2
    have := castR_le.mpr h2
    simpa using this
  have h4 := sumR_lt (n := k) (k := i0) (g := fun _ => 0) (f := fun j => sumR k (fun i => (if y i < 0 then (1 : Rat) else 0) * ((A i j : Rat) * y j))) (fun j hj => by
    rw [hx j hj]
    by_cases c2 : y j < 0
    · have := Rat.mul_pos (a := - y j) (by grind) (hneg j hj c2); grind
    · have := Rat.mul_nonneg (a := y j) (b := - sumR k (fun i => ((if y i < 0 then A i j else 0 : Int) : Rat))) (by grind) (by have := hpos j hj (by grind); grind); grind) hi0 (by
    rw [hx i0 hi0]
    have := Rat.mul_pos (a := - y i0) (by grind) (hneg i0 hi0 (by grind)); grind)
  rw [sumR_zero (n := k) (f := fun _ => (0 : Rat)) (fun _ _ => rfl)] at h4
  grind
/-- the pivots are above 0 -/
theorem slT_pos {n m : Nat} {A : Nat → Nat → Int} (hm : n ≤ m) (hM : Mon n A) : ∀ k, k ≤ n → 0 < (slT A k).2 := by
  intro k
  induction k with
  | zero => exact fun _ => Int.one_pos
  | succ k ih =>
    intro hk
    have hs := ih (by omega)
    obtain ⟨h, hs0⟩ := slT_ok hm hM.reg k (by omega)
    obtain ⟨_, hs1⟩ := slT_ok hm hM.reg (k + 1) hk
    show 0 < (slT A k).1 k k
    replace hs1 : (slT A k).1 k k ≠ 0 := hs1
    rcases Int.lt_or_lt_of_ne hs1 with c | c
    · exfalso
      have e2 : ∀ i, i ≤ k → sumN n (fun j => (slT A k).1 j k * slB A k j i) = sumN k (fun j => (slT A k).1 j k * A i j) + (if i = k then (slT A k).1 k k else 0) := fun i hi => by
        have e3 : ∀ d, k ≤ d → d ≤ n → sumN d (fun j => (slT A k).1 j k * slB A k j i) = sumN k (fun j => (slT A k).1 j k * A i j) + (if i = k ∧ k < d then (slT A k).1 k k else 0) := by
          intro d
          induction d with
          | zero => intro h1 _; have : k = 0 := by omega
                    subst this; rw [if_neg (by omega)]; simp [sumN]
          | succ d ihd =>
            intro h1 h2
            by_cases hd : k = d + 1
            · subst hd; rw [if_neg (by omega), Int.add_zero]; exact sumN_congr fun j hj => by unfold slB; rw [if_pos hj]
            · simp only [sumN]
              rw [ihd (by omega) (by omega)]
              by_cases hdk : d = k
              · subst hdk
                rw [if_neg (by omega)]
                by_cases hik : i = d
                · subst hik
                  rw [if_pos ⟨rfl, by omega⟩]
                  have : slB A i i i = 1 := by unfold slB; rw [if_neg (by omega)]; exact if_pos rfl
                  rw [this]; omega
                · rw [if_neg (by omega)]
                  have : slB A d d i = 0 := by unfold slB; rw [if_neg (by omega)]; exact if_neg (by omega)
                  rw [this]; simp
              · have : slB A k d i = 0 := by
                  unfold slB; rw [if_neg (by omega)]; exact if_neg (by omega)
                rw [this]
                by_cases hik : i = k
                · rw [if_pos ⟨hik, by omega⟩, if_pos ⟨hik, by omega⟩]; omega
                · rw [if_neg (by omega), if_neg (by omega)]; omega
        rw [e3 n (by omega) (Nat.le_refl _)]
        by_cases hik : i = k
        · rw [if_pos ⟨hik, by omega⟩, if_pos hik]
        · rw [if_neg (by omega), if_neg hik]
      have h2 := hM (k + 1) (by omega) (fun j => if j = k then -((slT A k).2 : Rat) else ((slT A k).1 j k : Rat)) (fun i hi => by
        have e := h.i2 k i (by omega) (by omega)
        rw [e2 i (by omega)] at e
        simp only [sumR, if_true]
        rw [sumR_congr (g := fun j => (((slT A k).1 j k * A i j : Int) : Rat)) (fun j hj => by rw [if_neg (by omega), Rat.intCast_mul]; grind), sumR_cast]
        have e5 : ((sumN k (fun j => (slT A k).1 j k * A i j) : Int) : Rat) = (((slT A k).2 * A i k - (if i = k then (slT A k).1 k k else 0) : Int) : Rat) := by congr 1; omega
        rw [e5, Rat.intCast_sub, Rat.intCast_mul]
        by_cases hik : i = k
        · rw [if_pos hik]
          have c' : (((slT A k).1 k k : Int) : Rat) ≤ 0 := by have := castR_le.mpr (Int.le_of_lt c); simpa using this
          grind
        · rw [if_neg hik]; simp only [Rat.intCast_zero]; grind) k (by omega)
      rw [if_pos rfl] at h2
      have hs' : (0 : Rat) < ((slT A k).2 : Rat) := by have := castR_lt.mpr hs; simpa using this
      grind
    · exact c
theorem sumR_ext {n k : Nat} {f g : Nat → Rat} (hk : k ≤ n) (h : ∀ i, i < k → f i = g i) (h2 : ∀ i, k ≤ i → i < n → f i = 0) : sumR n f = sumR k g := by
  rw [sumR_cut hk h2]; exact sumR_congr h
theorem lwT_lead {n : Nat} {A : Nat → Nat → Int} (hR : Reg n A) : ∀ k, k ≤ n → (∀ j, j < k → 0 < lwT A k j j) → ∀ i, k ≤ i → i < n → ∃ c : Rat, 0 < c ∧ ∀ y : Nat → Rat, (∀ r, r < k → sumR (n + 1) (fun j => (A r j : Rat) * y j) = 0) → sumR (n + 1) (fun j => (lwT A k i j : Rat) * y j) = c * sumR (n + 1) (fun j => (A i j : Rat) * y j) := by
  intro k
  induction k with
  | zero => exact fun _ _ i _ _ => ⟨1, by decide, fun y _ => by rw [Rat.one_mul]; rfl⟩
  | succ k ih =>
    intro hk hd i hi hin
    have h := lwT_ok hR k (by omega)
    have hdk : ∀ j, j ≤ k → 0 < lwT A k j j := by
      intro j
      -- the diagonal of the step before has the sign of the pivots
      have hp : 0 < lwT A k k k := by
        have := hd k (by omega)
        have e : lwT A (k + 1) k k = lwT A k k k := by show (if k = k then _ else _) = _; rw [if_pos rfl]
        rw [e] at this; exact this
      intro hj
      by_cases e : j = k
      · subst e; exact hp
      · have := hd j (by omega)
        have e2 : lwT A (k + 1) j j = lwT A k j j * lwT A k k k - lwT A k j k * lwT A k k j := by show (if j = k then _ else _) = _; rw [if_neg e]
        rw [e2, h.off k j (by omega) (by omega) (by omega), Int.mul_zero, Int.sub_zero] at this
        rcases Int.lt_or_le 0 (lwT A k j j) with q | q
        · exact q
        · have := Int.mul_nonpos_of_nonneg_of_nonpos (Int.le_of_lt hp) q
          rw [Int.mul_comm] at this; omega
    obtain ⟨c, hc, hy⟩ := ih (by omega) (fun j hj => hdk j (by omega)) i (by omega) hin
    obtain ⟨c2, hc2, hy2⟩ := ih (by omega) (fun j hj => hdk j (by omega)) k (by omega) (by omega)
    have hp : (0 : Rat) < ((lwT A k k k : Int) : Rat) := by have := castR_lt.mpr (hdk k (by omega)); simpa using this
    refine ⟨(lwT A k k k : Rat) * c, Rat.mul_pos hp hc, fun y hy0 => ?_⟩
    rw [sumR_congr (g := fun j => (lwT A k k k : Rat) * ((lwT A k i j : Rat) * y j) + (-(lwT A k i k : Rat)) * ((lwT A k k j : Rat) * y j)) (fun j _ => by
      show (((if i = k then lwT A k i j else lwT A k i j * lwT A k k k - lwT A k i k * lwT A k k j) : Int) : Rat) * y j = _
      rw [if_neg (by omega), Rat.intCast_sub, Rat.intCast_mul, Rat.intCast_mul]; grind), sumR_add, sumR_mul, sumR_mul, hy y (fun r hr => hy0 r (by omega)), hy2 y (fun r hr => hy0 r (by omega)), hy0 k (by omega)]
    grind
theorem lwT_pos {n : Nat} {A : Nat → Nat → Int} (hM : Mon n A) : ∀ k, k ≤ n → (∀ j, j < k → 0 < lwT A k j j) ∧ (k < n → 0 < lwT A k k k) := by
  have hR := hM.reg
  have piv : ∀ k, k < n → (∀ j, j < k → 0 < lwT A k j j) → 0 < lwT A k k k := by
    intro k hk hd
    have h := lwT_ok hR k (by omega)
    have hne := h.pivot hR hk
    rcases Int.lt_or_lt_of_ne hne with c | c
    · exfalso
      obtain ⟨c0, hc0, hl⟩ := lwT_lead hR k (by omega) hd k (Nat.le_refl _) hk
      have hz := h.back k (fun j => if j = k then -1 else if j < k then (lwT A k j k : Rat) / (lwT A k j j : Rat) else 0) (Nat.le_refl _) (by omega) (fun i hi => by
        rw [sumR_cut (k := k + 1) (by omega) (fun j h1 h2 => by rw [if_neg (by omega), if_neg (by omega)]; simp)]
        simp only [sumR, if_true]
        rw [sumR_one (k := i) (by omega) (fun j hj hn => by rw [h.off i j (by omega) (by omega) (by omega)]; simp), if_neg (by omega), if_pos (by omega)]
        have : (lwT A k i i : Rat) ≠ 0 := fun z => h.dg i (by omega) (by exact_mod_cast z)
        grind)
      have hl2 := hl _ hz
      have e1 : sumR (n + 1) (fun j => (lwT A k k j : Rat) * (if j = k then -1 else if j < k then (lwT A k j k : Rat) / (lwT A k j j : Rat) else 0)) = -(lwT A k k k : Rat) := by
        rw [sumR_cut (k := k + 1) (by omega) (fun j h1 h2 => by rw [if_neg (by omega), if_neg (by omega)]; simp)]
        simp only [sumR, if_true]
        rw [sumR_zero (fun j hj => by rw [h.off k j (by omega) (by omega) (by omega)]; simp)]; grind
      rw [e1] at hl2
      have hcr : ((lwT A k k k : Int) : Rat) < 0 := by have := castR_lt.mpr c; simpa using this
      have cutk : ∀ i, sumR (n + 1) (fun j => (A i j : Rat) * (if j = k then -1 else if j < k then (lwT A k j k : Rat) / (lwT A k j j : Rat) else 0)) = sumR (k + 1) (fun j => (A i j : Rat) * (if j = k then -1 else if j < k then (lwT A k j k : Rat) / (lwT A k j j : Rat) else 0)) := fun i =>
        sumR_cut (k := k + 1) (by omega) (fun j h1 h2 => by rw [if_neg (by omega), if_neg (by omega)]; simp)
      have h2 := hM (k + 1) (by omega) (fun j => if j = k then -1 else if j < k then (lwT A k j k : Rat) / (lwT A k j j : Rat) else 0) (fun i hi => by
        rw [← cutk i]
        by_cases e : i = k
        · subst e
          by_cases c3 : 0 ≤ sumR (n + 1) (fun j => (A i j : Rat) * (if j = i then -1 else if j < i then (lwT A i j i : Rat) / (lwT A i j j : Rat) else 0))
          · exact c3
          · have := Rat.mul_pos hc0 (b := - sumR (n + 1) (fun j => (A i j : Rat) * (if j = i then -1 else if j < i then (lwT A i j i : Rat) / (lwT A i j j : Rat) else 0))) (by grind)
            grind
        · rw [hz i (by omega)]; exact Rat.le_refl) k (by omega)
      rw [if_pos rfl] at h2
      exact absurd h2 (by decide)
    · exact c
  intro k
  induction k with
  | zero => exact fun _ => ⟨fun j h => absurd h (by omega), fun h => piv 0 h fun j h => absurd h (by omega)⟩
  | succ k ih =>
    intro hk
    obtain ⟨h1, h2⟩ := ih (by omega)
    have hp := h2 (by omega)
    have h := lwT_ok hR k (by omega)
    have h3 : ∀ j, j < k + 1 → 0 < lwT A (k + 1) j j := fun j hj => by
      show 0 < (if j = k then lwT A k j j else lwT A k j j * lwT A k k k - lwT A k j k * lwT A k k j)
      by_cases e : j = k
      · subst e; rw [if_pos rfl]; exact hp
      · rw [if_neg e, h.off k j (by omega) (by omega) (by omega), Int.mul_zero, Int.sub_zero]
        exact Int.mul_pos (h1 j (by omega)) hp
    exact ⟨h3, fun h => piv (k + 1) h h3⟩

--lib
/-! ### solve, plain -/
def matI (rows : List (List Int)) (i j : Nat) : Int := (rows.getD i []).getD j 0
def pvL (rows : List (List Int)) (m r c : Nat) (s : Int) : List (List Int) := (List.range rows.length).map fun i => (List.range m).map fun j => pvt (matI rows) r c s i j
/-- the equations, the right sides behind -/
def augI (rows : List (List Int)) (rt : List Int) (i j : Nat) : Int := if j < rows.length then matI rows i j else rt.getD i 0
def tabL (A : Nat → Nat → Int) (n k : Nat) : List (List Int) := (List.range n).map fun i => (List.range (n + 1)).map fun j => (slT A k).1 i j
/-- what solve tells -/
def slQ (rows : List (List Int)) (rt : List Int) : List Rat := (List.range rows.length).map fun i => Rat.divInt ((slT (augI rows rt) rows.length).1 i rows.length) (slT (augI rows rt) rows.length).2
theorem mat_of {n m : Nat} {f : Nat → Nat → Int} {i j : Nat} (hi : i < n) (hj : j < m) : matI ((List.range n).map fun i => (List.range m).map fun j => f i j) i j = f i j := by
  unfold matI
  rw [getD_get _ _ _ (show i < _ by rw [List.length_map, List.length_range]; exact hi), List.getElem_map, List.getElem_range, getD_get _ _ _ (by rw [List.length_map, List.length_range]; exact hj), List.getElem_map, List.getElem_range]
theorem row_of {n m : Nat} {f : Nat → Nat → Int} {i : Nat} (hi : i < n) : ((List.range n).map fun i => (List.range m).map fun j => f i j).getD i [] = (List.range m).map fun j => f i j := by
  rw [getD_get _ _ _ (show i < _ by rw [List.length_map, List.length_range]; exact hi), List.getElem_map, List.getElem_range]
theorem tabL_len (A : Nat → Nat → Int) (n k : Nat) : (tabL A n k).length = n := by unfold tabL; rw [List.length_map, List.length_range]
theorem tabL_step {A : Nat → Nat → Int} {n k : Nat} (hk : k < n) : pvL (tabL A n k) (n + 1) k k (slT A k).2 = tabL A n (k + 1) := by
  unfold pvL
  rw [tabL_len]
  unfold tabL
  refine List.map_congr_left fun i hi => List.map_congr_left fun j hj => ?_
  have hi := List.mem_range.mp hi
  have hj := List.mem_range.mp hj
  show pvt _ k k _ i j = pvt _ k k _ i j
  unfold pvt
  rw [mat_of hi hj, mat_of hi (by omega), mat_of hk hj, mat_of hk (by omega)]
theorem fac8 {n : Nat} (h : n ≤ 8) : facI n ≤ 40320 := by
  have : n = 0 ∨ n = 1 ∨ n = 2 ∨ n = 3 ∨ n = 4 ∨ n = 5 ∨ n = 6 ∨ n = 7 ∨ n = 8 := by omega
  rcases this with e | e | e | e | e | e | e | e | e <;> subst e <;> decide +kernel
theorem pow_mono_l {x : Int} (hx : 1 ≤ x) {n m : Nat} (h : n ≤ m) : x ^ n ≤ x ^ m := by
  obtain ⟨d, rfl⟩ : ∃ d, m = n + d := ⟨m - n, by omega⟩
  rw [Int.pow_add]
  have h1 : 0 < x ^ n := Int.pow_pos (by omega)
  have h2 : 0 < x ^ d := Int.pow_pos (by omega)
  have := Int.mul_le_mul_of_nonneg_left (show (1 : Int) ≤ x ^ d by omega) (Int.le_of_lt h1)
  omega
theorem slT_bits {n : Nat} {A : Nat → Nat → Int} (hn : n ≤ 8) (hR : Reg n A) {B : Nat} (hA : ∀ i j, i < n → j < n + 1 → (A i j).natAbs < 2 ^ B) {k i j : Nat} (hk : k ≤ n) (hi : i < n) (hj : j < n + 1) : ((slT A k).1 i j).natAbs < 2 ^ (16 + 8 * B) := by
  have hM1 : (1 : Int) ≤ 2 ^ B := by have := Int.pow_pos (n := 2) (m := B) (by decide); omega
  have h := slT_bound (m := n + 1) (by omega) hR (M := 2 ^ B) hM1 (fun p q hp hq => by
    have h1 : ((A p q).natAbs : Int) < ((2 ^ B : Nat) : Int) := by exact_mod_cast hA p q hp hq
    rw [Int.natCast_pow] at h1
    have h1 : ((A p q).natAbs : Int) < 2 ^ B := h1
    omega) hk hi hj
  have h2 : facI n * (2 ^ B) ^ n ≤ 40320 * (2 ^ B) ^ 8 := Int.mul_le_mul (fac8 hn) (pow_mono_l hM1 hn) (Int.le_of_lt (Int.pow_pos (by omega))) (by decide)
  have h3 : (40320 : Int) * (2 ^ B) ^ 8 < 2 ^ (16 + 8 * B) := by
    rw [← Int.pow_mul, Nat.mul_comm B 8, Int.pow_add]
    exact Int.mul_lt_mul_of_pos_right (by decide) (Int.pow_pos (by decide))
  have h4 : ((((slT A k).1 i j).natAbs : Nat) : Int) < ((2 ^ (16 + 8 * B) : Nat) : Int) := by
    rw [Int.natCast_pow]
    show _ < (2 : Int) ^ (16 + 8 * B)
    omega
  exact_mod_cast h4
theorem rangeD {n j : Nat} {f : Nat → Int} (h : j < n) : ((List.range n).map f).getD j 0 = f j := by
  rw [getD_get _ _ _ (by rw [List.length_map, List.length_range]; exact h), List.getElem_map, List.getElem_range]

--lib
/-! ### shares of stepping buyers -/
def outL (n : Nat) (lot : List Int) : List Nat := (List.range n).filter fun t => !decide ((t : Int) ∈ lot)
def stTot (st : List (List Int)) (lv : List Int) (t : Nat) : Int := lv.getD t 0 + (st.getD t []).sum
def lkRow (st : List (List Int)) (lv : List Int) (out : List Nat) (i : Nat) : List Int := (List.range out.length).map fun j => if j = i then stTot st lv (out.getD i 0) else -((st.getD (out.getD j 0) []).getD (out.getD i 0) 0)
def lkRows (st : List (List Int)) (lv : List Int) (out : List Nat) : List (List Int) := (List.range out.length).map fun i => lkRow st lv out i
def lkRt (fs : List Int) (out : List Nat) : List Int := (List.range out.length).map fun i => fs.getD (out.getD i 0) 0
/-- solve's numbers -/
def slN (rows : List (List Int)) (rt : List Int) (i : Nat) : Int := (slT (augI rows rt) rows.length).1 i rows.length
def slD (rows : List (List Int)) (rt : List Int) : Int := (slT (augI rows rt) rows.length).2
/-- who arrives at t, times slD, by k things that do not stand -/
def arrI (fs : List Int) (st : List (List Int)) (lv : List Int) (out : List Nat) (t k : Nat) : Int := fs.getD t 0 * slD (lkRows st lv out) (lkRt fs out) + sumN k fun j => slN (lkRows st lv out) (lkRt fs out) j * (st.getD (out.getD j 0) []).getD t 0
def stShi (fs : List Int) (a : Int) (st : List (List Int)) (lv : List Int) (lot part : List Int) : List Rat := (List.range fs.length).map fun t : Nat => if (t : Int) ∈ part then Rat.divInt (arrI fs st lv (outL fs.length lot) t (outL fs.length lot).length) (slD (lkRows st lv (outL fs.length lot)) (lkRt fs (outL fs.length lot)) * (a + fs.sum)) else 0
def stSh (fs : List Int) (a : Int) (st : List (List Int)) (lv : List Int) (lot : List Int) : List Rat := stShi fs a st lv lot lot
/-- how great the numbers are -/
structure StBd (fs : List Int) (a : Int) (st : List (List Int)) (lv : List Int) : Prop where
  f : ∀ z ∈ fs, z < 2 ^ 60
  a : a < 2 ^ 60
  s : ∀ r ∈ st, ∀ z ∈ r, z < 2 ^ 60
  l : ∀ z ∈ lv, z < 2 ^ 60
theorem outL_lt {n : Nat} {lot : List Int} {t : Nat} (h : t ∈ outL n lot) : t < n := List.mem_range.mp (List.mem_filter.mp h).1
theorem outL_not {n : Nat} {lot : List Int} {t : Nat} (h : t ∈ outL n lot) : (t : Int) ∉ lot := by
  have := (List.mem_filter.mp h).2
  simpa using this
theorem outL_nodup {n : Nat} {lot : List Int} : (outL n lot).Nodup := (List.nodup_range).filter _
theorem outL_len {n : Nat} {lot : List Int} : (outL n lot).length ≤ n := by
  have := List.length_filter_le (fun t : Nat => !decide ((t : Int) ∈ lot)) (List.range n)
  rw [List.length_range] at this; exact this
theorem sum_range_get (r : List Int) : r.sum = sumN r.length fun j => r.getD j 0 := by
  have : ∀ k, k ≤ r.length → (r.take k).sum = sumN k fun j => r.getD j 0 := by
    intro k
    induction k with
    | zero => intro _; simp [sumN]
    | succ k ih =>
      intro hk
      rw [List.take_succ_eq_append_getElem (by omega), List.sum_append, ih (by omega)]
      simp only [sumN, List.sum_cons, List.sum_nil]
      rw [getD_get _ _ _ (by omega)]; omega
  have h := this r.length (Nat.le_refl _)
  rw [List.take_length] at h; exact h
theorem perm_sumI {l r : List Int} (h : l.Perm r) : l.sum = r.sum := by
  induction h with
  | nil => rfl
  | cons x _ ih => rw [List.sum_cons, List.sum_cons, ih]
  | swap x y l => simp only [List.sum_cons]; omega
  | trans _ _ h1 h2 => exact h1.trans h2
/-- different places bring no more than all -/
theorem sum_sub {m : Nat} {f : Nat → Int} (h0 : ∀ t, t < m → 0 ≤ f t) : ∀ {out : List Nat}, out.Nodup → (∀ t ∈ out, t < m) → (out.map f).sum ≤ sumN m f := by
  induction m with
  | zero =>
    intro out hn hl
    cases out with
    | nil => simp [sumN]
    | cons a r => exact absurd (hl a (by simp)) (by omega)
  | succ m ih =>
    intro out hn hl
    simp only [sumN]
    by_cases c : m ∈ out
    · have hp := List.perm_cons_erase c
      have e : (out.map f).sum = f m + ((out.erase m).map f).sum := by
        have := perm_sumI (hp.map f)
        rw [this]; simp
      have hn2 : (out.erase m).Nodup := hn.erase m
      have := ih (fun t ht => h0 t (by omega)) hn2 (fun t ht => by
        have h1 := hl t (List.mem_of_mem_erase ht)
        have h2 : t ≠ m := fun z => by
          subst z
          exact (List.Nodup.mem_erase_iff hn).mp ht |>.1 rfl
        omega)
      omega
    · have := ih (fun t ht => h0 t (by omega)) hn (fun t ht => by
        have h1 := hl t ht
        have h2 : t ≠ m := fun z => c (z ▸ ht)
        omega)
      have := h0 m (by omega)
      omega
theorem sumN_list {out : List Nat} {f : Nat → Int} : sumN out.length (fun j => f (out.getD j 0)) = (out.map f).sum := by
  have := sum_range_get (out.map f)
  rw [this, List.length_map]
  refine sumN_congr fun i hi => ?_
  rw [getD_get _ _ _ hi, getD_get _ _ _ (show i < (out.map f).length by rw [List.length_map]; exact hi), List.getElem_map]
section
variable {fs : List Int} {a : Int} {st : List (List Int)} {lv : List Int} {out : List Nat}
theorem CGood.st0 (g : CGood fs a st lv) (i j : Nat) : 0 ≤ (st.getD i []).getD j 0 := by
  by_cases hi : i < st.length
  · have h := (g.s i hi).2.2
    by_cases hj : j < (st.getD i []).length
    · rw [getD_get _ _ _ hj]; exact h _ (List.getElem_mem _)
    · rw [List.getD_eq_getElem?_getD, List.getElem?_eq_none (by omega)]; exact Int.le_refl _
  · rw [List.getD_eq_getElem?_getD (l := st), List.getElem?_eq_none (by omega)]; simp
theorem StBd.st1 (b : StBd fs a st lv) (i j : Nat) : (st.getD i []).getD j 0 < 2 ^ 60 := by
  by_cases hi : i < st.length
  · have hm : st.getD i [] ∈ st := by rw [getD_get _ _ _ hi]; exact List.getElem_mem _
    by_cases hj : j < (st.getD i []).length
    · rw [getD_get _ _ _ hj]; exact b.s _ hm _ (List.getElem_mem _)
    · rw [List.getD_eq_getElem?_getD, List.getElem?_eq_none (by omega)]; decide
  · rw [List.getD_eq_getElem?_getD (l := st), List.getElem?_eq_none (by omega)]; simp
theorem lkRows_mat {i j : Nat} (hi : i < out.length) (hj : j < out.length) : matI (lkRows st lv out) i j = if j = i then stTot st lv (out.getD i 0) else -((st.getD (out.getD j 0) []).getD (out.getD i 0) 0) := by
  unfold lkRows lkRow
  exact mat_of hi hj
theorem lkRows_len : (lkRows st lv out).length = out.length := by unfold lkRows; rw [List.length_map, List.length_range]
theorem lkRows_row {i : Nat} (hi : i < out.length) : (lkRows st lv out).getD i [] = lkRow st lv out i := by
  unfold lkRows
  rw [getD_get _ _ _ (by rw [List.length_map, List.length_range]; exact hi), List.getElem_map, List.getElem_range]
theorem lkRow_len {i : Nat} : (lkRow st lv out i).length = out.length := by unfold lkRow; rw [List.length_map, List.length_range]
theorem lkRt_len : (lkRt fs out).length = out.length := by unfold lkRt; rw [List.length_map, List.length_range]
theorem aug_l {rows : List (List Int)} {rt : List Int} {i j : Nat} (h : j < rows.length) : augI rows rt i j = matI rows i j := by unfold augI; rw [if_pos h]
theorem aug_r {rows : List (List Int)} {rt : List Int} {i : Nat} : augI rows rt i rows.length = rt.getD i 0 := by unfold augI; rw [if_neg (by omega)]
theorem Mon.congr {n : Nat} {A B : Nat → Nat → Int} (h : Mon n A) (e : ∀ i j, i < n → j < n → A i j = B i j) : Mon n B := fun k hk y hy => h k hk y fun i hi => by
  rw [sumR_congr (g := fun j => (B i j : Rat) * y j) (fun j hj => by rw [e i j (by omega) (by omega)])]
  exact hy i hi
theorem lk_col (g : CGood fs a st lv) (hn : out.Nodup) (hl : ∀ t ∈ out, t < fs.length) : ColD out.length (matI (lkRows st lv out)) := by
  refine ⟨fun i j hi hj hne => ?_, fun j hj => ?_⟩
  · rw [lkRows_mat hi hj, if_neg hne]
    have := g.st0 (out.getD j 0) (out.getD i 0); omega
  · have hjm : out.getD j 0 ∈ out := by rw [getD_get _ _ _ hj]; exact List.getElem_mem _
    have hjl := hl _ hjm
    have hlv := g.l (out.getD j 0) (by have := g.ll; omega)
    have hs := g.s (out.getD j 0) (by have := g.sl; omega)
    have e : sumN out.length (fun i => matI (lkRows st lv out) i j) = sumN out.length (fun i => (if i = j then stTot st lv (out.getD j 0) + (st.getD (out.getD j 0) []).getD (out.getD j 0) 0 else 0) + (-1) * (st.getD (out.getD j 0) []).getD (out.getD i 0) 0) := sumN_congr fun i hi => by
      rw [lkRows_mat hi hj]
      by_cases e : j = i
      · subst e; rw [if_pos rfl, if_pos rfl]; omega
      · rw [if_neg e, if_neg (fun z => e z.symm)]; omega
    rw [e, sumN_add, sumN_mul, sumN_one hj (fun i _ hn => if_neg hn), if_pos rfl, sumN_list (f := fun t => (st.getD (out.getD j 0) []).getD t 0)]
    have h3 := sum_sub (m := (st.getD (out.getD j 0) []).length) (f := fun t => (st.getD (out.getD j 0) []).getD t 0) (fun t _ => g.st0 _ _) hn (fun t ht => by have := hl t ht; have := hs.1; omega)
    rw [← sum_range_get] at h3
    have := g.st0 (out.getD j 0) (out.getD j 0)
    unfold stTot
    omega
theorem lk_mon (g : CGood fs a st lv) (hn : out.Nodup) (hl : ∀ t ∈ out, t < fs.length) (rt : List Int) : Mon out.length (augI (lkRows st lv out) rt) :=
  (lk_col g hn hl).mon.congr fun i j hi hj => (aug_l (by rw [lkRows_len]; exact hj)).symm
theorem sum_bd {r : List Int} {M : Int} (hM : 0 ≤ M) (h : ∀ z ∈ r, 0 ≤ z ∧ z < M) : 0 ≤ r.sum ∧ r.sum ≤ r.length * M := by
  induction r with
  | nil => simp
  | cons x r ih =>
    have h1 := h x (by simp)
    have h2 := ih fun z hz => h z (by simp [hz])
    rw [List.sum_cons, List.length_cons]
    have e : ((r.length + 1 : Nat) : Int) * M = r.length * M + M := by push_cast; grind
    rw [e]; omega
theorem stTot_bd (g : CGood fs a st lv) (b : StBd fs a st lv) (h8 : fs.length ≤ 8) {t : Nat} (ht : t < fs.length) : 1 ≤ stTot st lv t ∧ stTot st lv t < 2 ^ 64 := by
  have hlv := g.l t (by have := g.ll; omega)
  have hs := g.s t (by have := g.sl; omega)
  have hm : st.getD t [] ∈ st := by rw [getD_get _ _ _ (by have := g.sl; omega)]; exact List.getElem_mem _
  have h1 := sum_bd (r := st.getD t []) (M := 2 ^ 60) (by decide) fun z hz => ⟨hs.2.2 z hz, b.s _ hm z hz⟩
  have hl : lv.getD t 0 < 2 ^ 60 := by rw [getD_get _ _ _ (by have := g.ll; omega)]; exact b.l _ (List.getElem_mem _)
  have h2 : ((st.getD t []).length : Int) ≤ 8 := by rw [hs.1]; omega
  have h3 : ((st.getD t []).length : Int) * 2 ^ 60 ≤ 8 * 2 ^ 60 := Int.mul_le_mul_of_nonneg_right h2 (by decide)
  unfold stTot
  have e : (2 : Int) ^ 64 = 16 * 2 ^ 60 := by decide
  have e2 : (0 : Int) < 2 ^ 60 := by decide
  rw [e]
  constructor
  · omega
  · generalize (2 : Int) ^ 60 = P at *
    omega
theorem nab {z : Int} {k : Nat} (h0 : 0 ≤ z) (h1 : z < 2 ^ k) : z.natAbs < 2 ^ k := by
  have : ((z.natAbs : Nat) : Int) < ((2 ^ k : Nat) : Int) := by rw [Int.natCast_pow, Int.natAbs_of_nonneg h0]; exact h1
  exact_mod_cast this
theorem lk_bits (g : CGood fs a st lv) (b : StBd fs a st lv) (h8 : fs.length ≤ 8) (hl : ∀ t ∈ out, t < fs.length) {i j : Nat} (hi : i < out.length) (hj : j < out.length + 1) : (augI (lkRows st lv out) (lkRt fs out) i j).natAbs < 2 ^ 64 := by
  have him : out.getD i 0 ∈ out := by rw [getD_get _ _ _ hi]; exact List.getElem_mem _
  by_cases e : j = out.length
  · subst e
    rw [show out.length = (lkRows st lv out).length from lkRows_len.symm, aug_r]
    unfold lkRt
    rw [getD_get _ _ _ (show i < _ by rw [List.length_map, List.length_range]; exact hi), List.getElem_map, List.getElem_range]
    have h1 := g.f (out.getD i 0) (hl _ him)
    have h2 : fs.getD (out.getD i 0) 0 < 2 ^ 60 := by rw [getD_get _ _ _ (hl _ him)]; exact b.f _ (List.getElem_mem _)
    exact bt_mono (nab (by omega) h2) (by decide)
  · rw [aug_l (by rw [lkRows_len]; omega), lkRows_mat hi (by omega)]
    split
    · have := stTot_bd g b h8 (hl _ him)
      exact nab (by omega) this.2
    · rw [Int.natAbs_neg]
      exact bt_mono (nab (g.st0 _ _) (b.st1 _ _)) (by decide)
theorem lkRow_set {i : Nat} (hi : i < out.length) : ((List.range out.length).map fun j => -((st.getD (out.getD j 0) []).getD (out.getD i 0) 0)).set i (stTot st lv (out.getD i 0)) = lkRow st lv out i := by
  unfold lkRow
  apply List.ext_getElem
  · simp
  · intro j h1 h2
    simp only [List.length_set, List.length_map, List.length_range] at h1
    rw [List.getElem_set]
    simp only [List.getElem_map, List.getElem_range]
    by_cases e : i = j
    · subst e; simp
    · rw [if_neg e, if_neg (fun z => e z.symm)]
theorem castD {os : List Nat} {i : Nat} (h : i < os.length) : (os.map fun n : Nat => (n : Int)).getD i 0 = ((os.getD i 0 : Nat) : Int) := by
  rw [getD_get _ _ _ (show i < _ by rw [List.length_map]; exact h), List.getElem_map, getD_get _ _ _ h]
theorem slD_pos (g : CGood fs a st lv) (hn : out.Nodup) (hl : ∀ t ∈ out, t < fs.length) (rt : List Int) : 0 < slD (lkRows st lv out) rt := by
  unfold slD
  exact slT_pos (m := (lkRows st lv out).length + 1) (by omega) (by rw [lkRows_len]; exact lk_mon g hn hl rt) _ (Nat.le_refl _)
theorem sl_bits (g : CGood fs a st lv) (b : StBd fs a st lv) (h8 : fs.length ≤ 8) (hn : out.Nodup) (hl : ∀ t ∈ out, t < fs.length) (ho : out.length ≤ 8) : (slD (lkRows st lv out) (lkRt fs out)).natAbs < 2 ^ 528 ∧ ∀ i, i < out.length → (slN (lkRows st lv out) (lkRt fs out) i).natAbs < 2 ^ 528 := by
  have hR := (lk_mon g hn hl (lkRt fs out)).reg
  have hb := fun k i j => slT_bits (n := out.length) ho hR (B := 64) (fun i j hi hj => lk_bits g b h8 hl hi hj) (k := k) (i := i) (j := j)
  constructor
  · unfold slD
    rw [lkRows_len]
    by_cases e : out.length = 0
    · rw [e]
      show (1 : Int).natAbs < _
      exact Nat.one_lt_two_pow (by decide)
    · obtain ⟨q, hq⟩ : ∃ q, out.length = q + 1 := ⟨out.length - 1, by omega⟩
      rw [show slT (augI (lkRows st lv out) (lkRt fs out)) out.length = slT (augI (lkRows st lv out) (lkRt fs out)) (q + 1) by rw [hq]]
      exact hb q q q (by omega) (by omega) (by omega)
  · intro i hi
    unfold slN
    rw [lkRows_len]
    exact hb _ _ _ (Nat.le_refl _) hi (by omega)
theorem ev_bd (g : CGood fs a st lv) (b : StBd fs a st lv) (h8 : fs.length ≤ 8) : 1 ≤ a + fs.sum ∧ a + fs.sum < 2 ^ 64 := by
  have h1 := sum_bd (r := fs) (M := 2 ^ 60) (by decide) fun z hz => ⟨by
    obtain ⟨i, hi, rfl⟩ := List.mem_iff_getElem.mp hz
    have := g.f i hi
    rw [getD_get _ _ _ hi] at this; omega, b.f z hz⟩
  have h3 : (fs.length : Int) * 2 ^ 60 ≤ 8 * 2 ^ 60 := Int.mul_le_mul_of_nonneg_right (by omega) (by decide)
  have h4 := g.a
  have h5 := b.a
  have e : (2 : Int) ^ 64 = 16 * 2 ^ 60 := by decide
  rw [e]
  generalize (2 : Int) ^ 60 = P at *
  omega
theorem arr_bits (g : CGood fs a st lv) (b : StBd fs a st lv) (h8 : fs.length ≤ 8) (hn : out.Nodup) (hl : ∀ t ∈ out, t < fs.length) (ho : out.length ≤ 8) {t k : Nat} (ht : t < fs.length) (hk : k ≤ out.length) : (arrI fs st lv out t k).natAbs < 2 ^ 592 := by
  obtain ⟨h1, h2⟩ := sl_bits g b h8 hn hl ho
  have hf : (fs.getD t 0).natAbs < 2 ^ 60 := nab (by have := g.f t ht; omega) (by rw [getD_get _ _ _ ht]; exact b.f _ (List.getElem_mem _))
  have h3 := bt_mul hf h1
  have h4 := sumN_abs (n := k) (f := fun j => slN (lkRows st lv out) (lkRt fs out) j * (st.getD (out.getD j 0) []).getD t 0) (M := 2 ^ 588) (fun i hi => by
    have h5 := bt_mul (h2 i (by omega)) (nab (k := 60) (g.st0 (out.getD i 0) t) (b.st1 (out.getD i 0) t))
    have h6 : (((slN (lkRows st lv out) (lkRt fs out) i * (st.getD (out.getD i 0) []).getD t 0).natAbs : Nat) : Int) < ((2 ^ 588 : Nat) : Int) := by exact_mod_cast h5
    rw [Int.natCast_pow] at h6
    have h6 : (((slN (lkRows st lv out) (lkRt fs out) i * (st.getD (out.getD i 0) []).getD t 0).natAbs : Nat) : Int) < (2 : Int) ^ 588 := h6
    generalize slN (lkRows st lv out) (lkRt fs out) i * (st.getD (out.getD i 0) []).getD t 0 = z at *
    omega)
  have h7 : (k : Int) * 2 ^ 588 ≤ 8 * 2 ^ 588 := Int.mul_le_mul_of_nonneg_right (by omega) (Int.le_of_lt (Int.pow_pos (by decide)))
  have h8 : (((fs.getD t 0 * slD (lkRows st lv out) (lkRt fs out)).natAbs : Nat) : Int) < ((2 ^ 588 : Nat) : Int) := by exact_mod_cast h3
  rw [Int.natCast_pow] at h8
  have h8 : (((fs.getD t 0 * slD (lkRows st lv out) (lkRt fs out)).natAbs : Nat) : Int) < (2 : Int) ^ 588 := h8
  have e : (2 : Int) ^ 592 = 16 * 2 ^ 588 := by
    rw [show 592 = 4 + 588 by decide, Int.pow_add]; rfl
  unfold arrI
  have h9 : (((fs.getD t 0 * slD (lkRows st lv out) (lkRt fs out) + sumN k fun j => slN (lkRows st lv out) (lkRt fs out) j * (st.getD (out.getD j 0) []).getD t 0).natAbs : Nat) : Int) < ((2 ^ 592 : Nat) : Int) := by
    rw [Int.natCast_pow]
    show _ < (2 : Int) ^ 592
    rw [e]
    generalize (2 : Int) ^ 588 = P at *
    generalize fs.getD t 0 * slD (lkRows st lv out) (lkRt fs out) = u at *
    generalize (sumN k fun j => slN (lkRows st lv out) (lkRt fs out) j * (st.getD (out.getD j 0) []).getD t 0) = v at *
    omega
  exact_mod_cast h9
theorem arr_step {t k : Nat} (hD : slD (lkRows st lv out) (lkRt fs out) ≠ 0) : Rat.divInt (arrI fs st lv out t k) (slD (lkRows st lv out) (lkRt fs out)) + Rat.divInt (slN (lkRows st lv out) (lkRt fs out) k) (slD (lkRows st lv out) (lkRt fs out)) * (((st.getD (out.getD k 0) []).getD t 0 : Int) : Rat) = Rat.divInt (arrI fs st lv out t (k + 1)) (slD (lkRows st lv out) (lkRt fs out)) := by
  rw [div1 ((st.getD (out.getD k 0) []).getD t 0), Rat.divInt_mul_divInt, Int.mul_one, Rat.divInt_add_divInt _ _ hD hD, ← Int.add_mul, Rat.divInt_mul_right hD]
  unfold arrI
  simp only [sumN]
  rw [Int.add_assoc]
theorem arr_zero {t : Nat} (hD : slD (lkRows st lv out) (lkRt fs out) ≠ 0) : ((fs.getD t 0 : Int) : Rat) = Rat.divInt (arrI fs st lv out t 0) (slD (lkRows st lv out) (lkRt fs out)) := by
  unfold arrI
  simp only [sumN, Int.add_zero]
  rw [div1, ← Rat.divInt_mul_right hD (n := fs.getD t 0) (d := 1), Int.one_mul]
theorem divI_over {n d e : Int} : Rat.divInt n d / ((e : Int) : Rat) = Rat.divInt n (d * e) := by
  rw [div1 e, Rat.div_def, Rat.inv_divInt, Rat.divInt_mul_divInt, Int.mul_one]
end
theorem stShi_len (fs : List Int) (a : Int) (st : List (List Int)) (lv lot part : List Int) : (stShi fs a st lv lot part).length = fs.length := by unfold stShi; simp
theorem stShi_get {fs : List Int} {a : Int} {st : List (List Int)} {lv lot part : List Int} {t : Nat} (h : t < fs.length) : (stShi fs a st lv lot part).getD t 0 = if (t : Int) ∈ part then Rat.divInt (arrI fs st lv (outL fs.length lot) t (outL fs.length lot).length) (slD (lkRows st lv (outL fs.length lot)) (lkRt fs (outL fs.length lot)) * (a + fs.sum)) else 0 := by
  rw [getD_get _ _ _ (by rw [stShi_len]; exact h)]
  unfold stShi
  simp
theorem stShi_nil (fs : List Int) (a : Int) (st : List (List Int)) (lv lot : List Int) : stShi fs a st lv lot [] = List.replicate fs.length 0 := by
  unfold stShi
  apply List.ext_getElem
  · simp
  · intro i h1 h2; simp
theorem stShi_snoc {fs : List Int} {a : Int} {st : List (List Int)} {lv lot part : List Int} {t : Nat} (h : t < fs.length) : (stShi fs a st lv lot part).set t (Rat.divInt (arrI fs st lv (outL fs.length lot) t (outL fs.length lot).length) (slD (lkRows st lv (outL fs.length lot)) (lkRt fs (outL fs.length lot)) * (a + fs.sum))) = stShi fs a st lv lot (part ++ [(t : Int)]) := by
  unfold stShi
  apply List.ext_getElem
  · simp
  · intro i h2 h3
    simp only [List.length_set, List.length_map, List.length_range] at h2
    rw [List.getElem_set]
    simp only [List.getElem_map, List.getElem_range, List.mem_append, List.mem_singleton]
    by_cases e : t = i
    · subst e; simp
    · have e' : ¬ (i : Int) = (t : Int) := by omega
      simp [e, e']
theorem slQ_len {rows : List (List Int)} {rt : List Int} : (slQ rows rt).length = rows.length := by unfold slQ; rw [List.length_map, List.length_range]
theorem slQ_get {rows : List (List Int)} {rt : List Int} {k : Nat} (h : k < rows.length) : (slQ rows rt).getD k 0 = Rat.divInt (slN rows rt k) (slD rows rt) := by
  rw [getD_get _ _ _ (by rw [slQ_len]; exact h)]
  unfold slQ slN slD
  rw [List.getElem_map, List.getElem_range]

--lib
/-! ### pairs of ints that stand for fractions -/
def PQ (p : Int × Int) (q : Rat) (n : Nat) : Prop := q = Rat.divInt p.1 p.2 ∧ 0 < p.2 ∧ p.1.natAbs < 2 ^ n ∧ p.2.natAbs < 2 ^ n
theorem PQ.mono {p : Int × Int} {q : Rat} {n m : Nat} (h : PQ p q n) (e : n ≤ m) : PQ p q m := ⟨h.1, h.2.1, bt_mono h.2.2.1 e, bt_mono h.2.2.2 e⟩
theorem PQ.add {p r : Int × Int} {q s : Rat} {n m : Nat} (h : PQ p q n) (g : PQ r s m) : PQ (p.1 * r.2 + r.1 * p.2, p.2 * r.2) (q + s) (n + m + 1) := by
  obtain ⟨rfl, h1, h2, h3⟩ := h
  obtain ⟨rfl, g1, g2, g3⟩ := g
  refine ⟨Rat.divInt_add_divInt _ _ (by omega) (by omega), Int.mul_pos h1 g1, bt_addL (bt_mul h2 g3) (bt_mul g2 h3) (Nat.le_refl _) (by omega), bt_mono (bt_mul h3 g3) (by omega)⟩
theorem PQ.mul {p r : Int × Int} {q s : Rat} {n m : Nat} (h : PQ p q n) (g : PQ r s m) : PQ (p.1 * r.1, p.2 * r.2) (q * s) (n + m) := by
  obtain ⟨rfl, h1, h2, h3⟩ := h
  obtain ⟨rfl, g1, g2, g3⟩ := g
  exact ⟨Rat.divInt_mul_divInt _ _, Int.mul_pos h1 g1, bt_mul h2 g2, bt_mul h3 g3⟩
theorem PQ.neg {p : Int × Int} {q : Rat} {n : Nat} (h : PQ p q n) : PQ (-p.1, p.2) (-q) n := by
  obtain ⟨rfl, h1, h2, h3⟩ := h
  exact ⟨(Rat.neg_divInt _ _), h1, bt_neg h2, h3⟩
theorem PQ.int {i : Int} {n : Nat} (h : i.natAbs < 2 ^ n) (h1 : 1 ≤ n) : PQ (i, 1) (i : Rat) n := ⟨div1 i, Int.one_pos, h, by
  show (1 : Int).natAbs < _
  exact Nat.one_lt_two_pow (by omega)⟩
/-- a list of such pairs -/
def RPL (H : Hp) (xs : List V) (qs : List Rat) (n : Nat) : Prop := ∃ ps : List (Int × Int), PL H xs ps ∧ ps.length = qs.length ∧ ∀ i, i < ps.length → PQ (ps.getD i (0, 0)) (qs.getD i 0) n
theorem RPL.ex {H H' : Hp} {xs : List V} {qs : List Rat} {n : Nat} (h : RPL H xs qs n) (e : Ex H H') : RPL H' xs qs n := by
  obtain ⟨ps, h1, h2⟩ := h
  exact ⟨ps, h1.ex e, h2⟩
theorem RPL.nl {H H' : Hp} {xs : List V} {qs : List Rat} {n : Nat} (h : RPL H xs qs n) (e : Nl H H') : RPL H' xs qs n := by
  obtain ⟨ps, h1, h2⟩ := h
  exact ⟨ps, h1.nl e, h2⟩
theorem RPL.nil {H : Hp} {n : Nat} : RPL H [] [] n := ⟨[], PL.nil, rfl, fun i hi => absurd hi (by simp)⟩
theorem RPL.snoc {H : Hp} {xs : List V} {qs : List Rat} {n : Nat} {a : Addr} {p : Int × Int} {q : Rat} (h : RPL H xs qs n) (r : At H a (.tup [.int p.1, .int p.2])) (hq : PQ p q n) : RPL H (xs ++ [.ref a]) (qs ++ [q]) n := by
  obtain ⟨ps, h1, h2, h3⟩ := h
  refine ⟨ps ++ [p], h1.snoc r, by simp [h2], fun i hi => ?_⟩
  by_cases e : i < ps.length
  · rw [List.getD_eq_getElem?_getD, List.getD_eq_getElem?_getD, List.getElem?_append_left e, List.getElem?_append_left (by omega), ← List.getD_eq_getElem?_getD, ← List.getD_eq_getElem?_getD]
    exact h3 i e
  · have ei : i = ps.length := by simp at hi; omega
    subst ei
    rw [List.getD_eq_getElem?_getD, List.getD_eq_getElem?_getD, List.getElem?_append_right (Nat.le_refl _), List.getElem?_append_right (by omega), h2, Nat.sub_self]
    exact hq
theorem RPL.at {H : Hp} {xs : List V} {qs : List Rat} {n i : Nat} (h : RPL H xs qs n) (hi : i < qs.length) : ∃ a p, xs[i]? = some (.ref a) ∧ At H a (.tup [.int p.1, .int p.2]) ∧ PQ p (qs.getD i 0) n := by
  obtain ⟨ps, h1, h2, h3⟩ := h
  obtain ⟨a, g1, g2⟩ := h1.2 i (by omega)
  exact ⟨a, _, g1, g2, h3 i (by omega)⟩
theorem RPL.len {H : Hp} {xs : List V} {qs : List Rat} {n : Nat} (h : RPL H xs qs n) : xs.length = qs.length := by
  obtain ⟨ps, h1, h2, h3⟩ := h
  rw [h1.1, h2]

--lib
/-! ### the law's own elimination -/
def mixL (A : Nat → Nat → Int) (n k o : Nat) : List (List Int) := (List.range n).map fun i => (List.range (n + 1)).map fun j => if i < o then lwT A (k + 1) i j else lwT A k i j
def lwL (A : Nat → Nat → Int) (n k : Nat) : List (List Int) := (List.range n).map fun i => (List.range (n + 1)).map fun j => lwT A k i j
theorem mixL_zero {A : Nat → Nat → Int} {n k : Nat} : mixL A n k 0 = lwL A n k := by
  unfold mixL lwL
  refine List.map_congr_left fun i _ => List.map_congr_left fun j _ => ?_
  rw [if_neg (by omega)]
theorem mixL_all {A : Nat → Nat → Int} {n k : Nat} : mixL A n k n = lwL A n (k + 1) := by
  unfold mixL lwL
  refine List.map_congr_left fun i hi => List.map_congr_left fun j _ => ?_
  rw [if_pos (List.mem_range.mp hi)]
theorem mixL_same {A : Nat → Nat → Int} {n k : Nat} : mixL A n k (k + 1) = mixL A n k k := by
  unfold mixL
  refine List.map_congr_left fun i _ => List.map_congr_left fun j _ => ?_
  by_cases e : i = k
  · subst e
    rw [if_pos (by omega), if_neg (by omega)]
    show (if i = i then lwT A i i j else _) = _
    rw [if_pos rfl]
  · by_cases e2 : i < k
    · rw [if_pos (by omega), if_pos e2]
    · rw [if_neg (by omega), if_neg e2]
theorem mixL_set {A : Nat → Nat → Int} {n k o : Nat} (h : o ≠ k) : (mixL A n k o).set o ((List.range (n + 1)).map fun j => lwT A k o j * lwT A k k k - lwT A k o k * lwT A k k j) = mixL A n k (o + 1) := by
  unfold mixL
  apply List.ext_getElem
  · simp
  · intro i h1 h2
    simp only [List.length_set, List.length_map, List.length_range] at h1
    rw [List.getElem_set]
    simp only [List.getElem_map, List.getElem_range]
    by_cases e : o = i
    · subst e
      rw [if_pos rfl]
      refine List.map_congr_left fun j _ => ?_
      rw [if_pos (by omega)]
      show _ = (if o = k then _ else _)
      rw [if_neg h]
    · rw [if_neg e]
      refine List.map_congr_left fun j _ => ?_
      by_cases e2 : i < o
      · rw [if_pos e2, if_pos (by omega)]
      · rw [if_neg e2, if_neg (by omega)]
theorem mixL_row {A : Nat → Nat → Int} {n k o i : Nat} (hi : i < n) (h : o ≤ i) : (mixL A n k o).getD i [] = (List.range (n + 1)).map fun j => lwT A k i j := by
  unfold mixL
  rw [row_of hi]
  exact List.map_congr_left fun j _ => if_neg (by omega)
theorem lwL_row {A : Nat → Nat → Int} {n k i : Nat} (hi : i < n) : (lwL A n k).getD i [] = (List.range (n + 1)).map fun j => lwT A k i j := row_of hi
theorem mixL_len {A : Nat → Nat → Int} {n k o : Nat} : (mixL A n k o).length = n := by unfold mixL; rw [List.length_map, List.length_range]
theorem lwL_len {A : Nat → Nat → Int} {n k : Nat} : (lwL A n k).length = n := by unfold lwL; rw [List.length_map, List.length_range]
theorem lwT_bits {A : Nat → Nat → Int} {n : Nat} (hA : ∀ i j, i < n → j < n + 1 → (A i j).natAbs < 2 ^ 64) : ∀ k, k ≤ n → ∀ i j, i < n → j < n + 1 → (lwT A k i j).natAbs < 2 ^ (65 * 2 ^ k - 1) := by
  intro k
  induction k with
  | zero => intro _ i j hi hj; exact bt_mono (hA i j hi hj) (by decide)
  | succ k ih =>
    intro hk i j hi hj
    have hb : 1 ≤ 2 ^ k := Nat.one_le_two_pow
    have e : 65 * 2 ^ (k + 1) - 1 = (65 * 2 ^ k - 1) + (65 * 2 ^ k - 1) + 1 := by rw [Nat.pow_succ]; omega
    rw [e]
    show (if i = k then _ else _ : Int).natAbs < _
    split
    · exact bt_mono (ih (by omega) _ _ hi hj) (by omega)
    · exact bt_subL (bt_mul (ih (by omega) _ _ hi hj) (ih (by omega) _ _ (by omega) (by omega))) (bt_mul (ih (by omega) _ _ hi (by omega)) (ih (by omega) _ _ (by omega) hj)) (Nat.le_refl _) (Nat.le_refl _)
theorem lwT_bits4 {A : Nat → Nat → Int} {n : Nat} (hn : n ≤ 4) (hA : ∀ i j, i < n → j < n + 1 → (A i j).natAbs < 2 ^ 64) {k i j : Nat} (hk : k ≤ n) (hi : i < n) (hj : j < n + 1) : (lwT A k i j).natAbs < 2 ^ 1039 := by
  refine bt_mono (lwT_bits hA k hk i j hi hj) ?_
  have : 2 ^ k ≤ 2 ^ 4 := Nat.pow_le_pow_right (by decide) (by omega)
  omega
/-- what the law's elimination tells -/
def lwQ (A : Nat → Nat → Int) (n : Nat) : List Rat := (List.range n).map fun i => Rat.divInt (lwT A n i n) (lwT A n i i)

--lib
/-! ### chances: the equations turned about -/
/-- chances to end at t from the things that do not stand -/
def chRow (st : List (List Int)) (lv : List Int) (out : List Nat) (t i : Nat) : List Int := ((List.range out.length).map fun j => if j = i then stTot st lv (out.getD i 0) else -((st.getD (out.getD i 0) []).getD (out.getD j 0) 0)) ++ [(st.getD (out.getD i 0) []).getD t 0]
def chRows (st : List (List Int)) (lv : List Int) (out : List Nat) (t : Nat) : List (List Int) := (List.range out.length).map fun i => chRow st lv out t i
section
variable {fs : List Int} {a : Int} {st : List (List Int)} {lv : List Int} {out : List Nat} {t : Nat}
theorem chRows_len : (chRows st lv out t).length = out.length := by unfold chRows; rw [List.length_map, List.length_range]
theorem chRow_len {i : Nat} : (chRow st lv out t i).length = out.length + 1 := by unfold chRow; rw [List.length_append, List.length_map, List.length_range]; rfl
theorem chRows_row {i : Nat} (hi : i < out.length) : (chRows st lv out t).getD i [] = chRow st lv out t i := by
  unfold chRows
  rw [getD_get _ _ _ (by rw [List.length_map, List.length_range]; exact hi), List.getElem_map, List.getElem_range]
theorem chRows_l {i j : Nat} (hi : i < out.length) (hj : j < out.length) : matI (chRows st lv out t) i j = matI (lkRows st lv out) j i := by
  rw [lkRows_mat hj hi]
  unfold matI
  rw [chRows_row hi]
  unfold chRow
  rw [List.getD_eq_getElem?_getD, List.getElem?_append_left (by rw [List.length_map, List.length_range]; exact hj), ← List.getD_eq_getElem?_getD, rangeD hj]
  by_cases e : j = i
  · subst e; rfl
  · rw [if_neg e, if_neg (fun z => e z.symm)]
theorem chRows_r {i : Nat} (hi : i < out.length) : matI (chRows st lv out t) i out.length = (st.getD (out.getD i 0) []).getD t 0 := by
  unfold matI
  rw [chRows_row hi]
  unfold chRow
  rw [List.getD_eq_getElem?_getD, List.getElem?_append_right (by rw [List.length_map, List.length_range]; exact Nat.le_refl _), List.length_map, List.length_range, Nat.sub_self]
  rfl
theorem chRow_set {i : Nat} (hi : i < out.length) : ((List.range out.length).map fun j => -((st.getD (out.getD i 0) []).getD (out.getD j 0) 0)).set i (stTot st lv (out.getD i 0)) ++ [(st.getD (out.getD i 0) []).getD t 0] = chRow st lv out t i := by
  unfold chRow
  congr 1
  apply List.ext_getElem
  · simp
  · intro j h1 h2
    simp only [List.length_set, List.length_map, List.length_range] at h1
    rw [List.getElem_set]
    simp only [List.getElem_map, List.getElem_range]
    by_cases e : i = j
    · subst e; simp
    · rw [if_neg e, if_neg (fun z => e z.symm)]
theorem ch_mon (g : CGood fs a st lv) (hn : out.Nodup) (hl : ∀ t ∈ out, t < fs.length) : Mon out.length (matI (chRows st lv out t)) :=
  (lk_col g hn hl).row.mon.congr fun i j hi hj => (chRows_l hi hj).symm
theorem ch_bits (g : CGood fs a st lv) (b : StBd fs a st lv) (h8 : fs.length ≤ 8) (hl : ∀ t ∈ out, t < fs.length) {i j : Nat} (hi : i < out.length) (hj : j < out.length + 1) : (matI (chRows st lv out t) i j).natAbs < 2 ^ 64 := by
  by_cases e : j = out.length
  · subst e
    rw [chRows_r hi]
    exact bt_mono (nab (g.st0 _ _) (b.st1 _ _)) (by decide)
  · rw [chRows_l hi (by omega), ← aug_l (rt := lkRt fs out) (by rw [lkRows_len]; exact hi)]
    exact lk_bits g b h8 hl (by omega) (by omega)
end
theorem lw_get {A : Nat → Nat → Int} {n i : Nat} (h : i < n) : (lwQ A n).getD i 0 = (lwT A n i n : Rat) / (lwT A n i i : Rat) := by
  unfold lwQ
  rw [getD_get _ _ _ (by rw [List.length_map, List.length_range]; exact h), List.getElem_map, List.getElem_range, Rat.divInt_eq_div]
theorem lwQ_len {A : Nat → Nat → Int} {n : Nat} : (lwQ A n).length = n := by unfold lwQ; rw [List.length_map, List.length_range]
/-- the share by the chances -/
theorem arr_dual {fs : List Int} {a : Int} {st : List (List Int)} {lv : List Int} {out : List Nat} {t : Nat} (g : CGood fs a st lv) (hn : out.Nodup) (hl : ∀ t ∈ out, t < fs.length) : Rat.divInt (arrI fs st lv out t out.length) (slD (lkRows st lv out) (lkRt fs out)) = (fs.getD t 0 : Rat) + sumR out.length fun k => (fs.getD (out.getD k 0) 0 : Rat) * (lwQ (matI (chRows st lv out t)) out.length).getD k 0 := by
  have hD := slD_pos g hn hl (lkRt fs out)
  have hD' : ((slD (lkRows st lv out) (lkRt fs out) : Int) : Rat) ≠ 0 := fun z => by
    have : slD (lkRows st lv out) (lkRt fs out) = 0 := by exact_mod_cast z
    omega
  have e1 : Rat.divInt (arrI fs st lv out t out.length) (slD (lkRows st lv out) (lkRt fs out)) = (fs.getD t 0 : Rat) + sumR out.length fun i => ((slN (lkRows st lv out) (lkRt fs out) i : Rat) / (slD (lkRows st lv out) (lkRt fs out) : Rat)) * (((st.getD (out.getD i 0) []).getD t 0 : Int) : Rat) := by
    rw [Rat.divInt_eq_div]
    unfold arrI
    rw [Rat.intCast_add, Rat.intCast_mul, ← sumR_cast, sumR_congr (g := fun i => (slD (lkRows st lv out) (lkRt fs out) : Rat) * (((slN (lkRows st lv out) (lkRt fs out) i : Rat) / (slD (lkRows st lv out) (lkRt fs out) : Rat)) * (((st.getD (out.getD i 0) []).getD t 0 : Int) : Rat))) (fun i _ => by rw [Rat.intCast_mul]; grind), sumR_mul]
    grind
  rw [e1]
  congr 1
  refine dual_sol (A := fun r i => matI (lkRows st lv out) r i) (fun r hr => ?_) (fun i hi => ?_)
  · have h := slT_sol (n := out.length) (m := out.length + 1) (A := augI (lkRows st lv out) (lkRt fs out)) (by omega) (lk_mon g hn hl _).reg hr
    rw [show augI (lkRows st lv out) (lkRt fs out) r out.length = fs.getD (out.getD r 0) 0 by
      conv => lhs; rw [show out.length = (lkRows st lv out).length from lkRows_len.symm]
      rw [aug_r]; unfold lkRt; exact rangeD hr] at h
    rw [← h]
    refine sumR_congr fun i hi => ?_
    rw [aug_l (by rw [lkRows_len]; exact hi)]
    unfold slN slD
    rw [lkRows_len]
  · have h := lwT_sol (n := out.length) (A := matI (chRows st lv out t)) (ch_mon g hn hl).reg hi
    rw [chRows_r hi] at h
    rw [← h]
    refine sumR_congr fun r hr => ?_
    rw [chRows_l hi hr, lw_get hr]
theorem stSh_get {fs : List Int} {a : Int} {st : List (List Int)} {lv lot : List Int} {t : Nat} (g : CGood fs a st lv) (h : t < fs.length) : (stSh fs a st lv lot).getD t 0 = if (t : Int) ∈ lot then ((fs.getD t 0 : Rat) + sumR (outL fs.length lot).length fun k => (fs.getD ((outL fs.length lot).getD k 0) 0 : Rat) * (lwQ (matI (chRows st lv (outL fs.length lot) t)) (outL fs.length lot).length).getD k 0) / ((a + fs.sum : Int) : Rat) else 0 := by
  unfold stSh
  rw [stShi_get h]
  split
  · rw [← divI_over, arr_dual g outL_nodup (fun t h => outL_lt h)]
  · rfl

--lib
/-! ### values of things for stepping buyers -/
/-- what stepping on from t brings, if the things have the values vs -/
def onwS (st : List (List Int)) (n t : Nat) (vs : List Rat) : Rat := sumR n fun o => (((st.getD t []).getD o 0 : Int) : Rat) * vs.getD o 0
def onwQ (st : List (List Int)) (lv : List Int) (n t : Nat) (vs : List Rat) : Rat := onwS st n t vs / (stTot st lv t : Rat)
/-- the values when the lot stands -/
structure ValOk (n : Nat) (st : List (List Int)) (lv ps lot : List Int) (vs : List Rat) : Prop where
  len : vs.length = n
  inl : ∀ t : Nat, t < n → (t : Int) ∈ lot → vs.getD t 0 = (ps.getD t 0 : Rat)
  outl : ∀ t : Nat, t < n → (t : Int) ∉ lot → (stTot st lv t : Rat) * vs.getD t 0 = onwS st n t vs
theorem sum_leQ {α : Type} {f g : α → Rat} : ∀ {l : List α}, (∀ t ∈ l, f t ≤ g t) → (l.map f).sum ≤ (l.map g).sum
  | [], _ => Rat.le_refl
  | x :: r, h => by
    have h1 := h x (by simp)
    have h2 := sum_leQ (l := r) fun t ht => h t (by simp [ht])
    simp only [List.map_cons, List.sum_cons]
    grind
/-- the equations of the values -/
def vlRow (st : List (List Int)) (lv : List Int) (out : List Nat) (i : Nat) : List Int := (List.range out.length).map fun j => if j = i then stTot st lv (out.getD i 0) else -((st.getD (out.getD i 0) []).getD (out.getD j 0) 0)
def vlRows (st : List (List Int)) (lv : List Int) (out : List Nat) : List (List Int) := (List.range out.length).map fun i => vlRow st lv out i
/-- what a step to a thing of the lot brings at once -/
def vlR (st : List (List Int)) (ps lot : List Int) (t : Nat) : Int := (lot.map fun o => (st.getD t []).getD o.toNat 0 * ps.getD o.toNat 0).sum
def vlRt (st : List (List Int)) (ps lot : List Int) (out : List Nat) : List Int := (List.range out.length).map fun i => vlR st ps lot (out.getD i 0)
section
variable {fs : List Int} {a : Int} {st : List (List Int)} {lv ps lot : List Int} {out : List Nat}
theorem vlRows_len : (vlRows st lv out).length = out.length := by unfold vlRows; rw [List.length_map, List.length_range]
theorem vlRow_len {i : Nat} : (vlRow st lv out i).length = out.length := by unfold vlRow; rw [List.length_map, List.length_range]
theorem vlRt_len : (vlRt st ps lot out).length = out.length := by unfold vlRt; rw [List.length_map, List.length_range]
theorem vlRows_row {i : Nat} (hi : i < out.length) : (vlRows st lv out).getD i [] = vlRow st lv out i := by
  unfold vlRows
  rw [getD_get _ _ _ (by rw [List.length_map, List.length_range]; exact hi), List.getElem_map, List.getElem_range]
theorem vlRows_mat {i j : Nat} (hi : i < out.length) (hj : j < out.length) : matI (vlRows st lv out) i j = if j = i then stTot st lv (out.getD i 0) else -((st.getD (out.getD i 0) []).getD (out.getD j 0) 0) := by
  unfold matI
  rw [vlRows_row hi]
  unfold vlRow
  rw [getD_get _ _ _ (by rw [List.length_map, List.length_range]; exact hj), List.getElem_map, List.getElem_range]
theorem vlRows_lk {i j : Nat} (hi : i < out.length) (hj : j < out.length) : matI (vlRows st lv out) i j = matI (lkRows st lv out) j i := by
  rw [vlRows_mat hi hj, lkRows_mat hj hi]
  by_cases e : j = i
  · subst e; rfl
  · rw [if_neg e, if_neg (fun z => e z.symm)]
theorem vlRow_set {i : Nat} (hi : i < out.length) : ((List.range out.length).map fun j => -((st.getD (out.getD i 0) []).getD (out.getD j 0) 0)).set i (stTot st lv (out.getD i 0)) = vlRow st lv out i := by
  unfold vlRow
  apply List.ext_getElem
  · simp
  · intro j h1 h2
    simp only [List.length_set, List.length_map, List.length_range] at h1
    rw [List.getElem_set]
    simp only [List.getElem_map, List.getElem_range]
    by_cases e : i = j
    · subst e; simp
    · rw [if_neg e, if_neg (fun z => e z.symm)]
theorem vl_row (g : CGood fs a st lv) (hn : out.Nodup) (hl : ∀ t ∈ out, t < fs.length) : RowD out.length (matI (vlRows st lv out)) := by
  have h := (lk_col g hn hl).row
  refine ⟨fun i j hi hj hne => by rw [vlRows_lk hi hj]; exact h.off i j hi hj hne, fun i hi => ?_⟩
  rw [sumN_congr (fun j hj => vlRows_lk hi hj)]
  exact h.sum i hi
theorem vl_mon (g : CGood fs a st lv) (hn : out.Nodup) (hl : ∀ t ∈ out, t < fs.length) (rt : List Int) : Mon out.length (augI (vlRows st lv out) rt) :=
  (vl_row g hn hl).mon.congr fun i j hi hj => (aug_l (by rw [vlRows_len]; exact hj)).symm
theorem vlR_bd (g : CGood fs a st lv) (b : StBd fs a st lv) (h8 : lot.length ≤ 8) (hp : ∀ p ∈ ps, 0 ≤ p ∧ p < 2 ^ 60) (t : Nat) : 0 ≤ vlR st ps lot t ∧ vlR st ps lot t ≤ 8 * 2 ^ 120 := by
  have h1 := sum_bd (r := lot.map fun o => (st.getD t []).getD o.toNat 0 * ps.getD o.toNat 0) (M := 2 ^ 120) (by decide) (fun z hz => by
    obtain ⟨o, _, rfl⟩ := List.mem_map.mp hz
    have h2 := g.st0 t o.toNat
    have h3 := b.st1 t o.toNat
    have h4 : 0 ≤ ps.getD o.toNat 0 ∧ ps.getD o.toNat 0 < 2 ^ 60 := by
      by_cases h : o.toNat < ps.length
      · rw [getD_get _ _ _ h]; exact hp _ (List.getElem_mem _)
      · rw [List.getD_eq_getElem?_getD, List.getElem?_eq_none (by omega)]; decide
    refine ⟨Int.mul_nonneg h2 h4.1, ?_⟩
    have h5 := bt_mul (nab h2 h3) (nab h4.1 h4.2)
    have h6 : (((((st.getD t []).getD o.toNat 0) * ps.getD o.toNat 0).natAbs : Nat) : Int) < ((2 ^ 120 : Nat) : Int) := by exact_mod_cast h5
    rw [Int.natAbs_of_nonneg (Int.mul_nonneg h2 h4.1)] at h6
    exact h6)
  rw [List.length_map] at h1
  have h3 : (lot.length : Int) * 2 ^ 120 ≤ 8 * 2 ^ 120 := Int.mul_le_mul_of_nonneg_right (by omega) (by decide)
  unfold vlR
  omega
theorem vl_bits (g : CGood fs a st lv) (b : StBd fs a st lv) (h8 : fs.length ≤ 8) (hl8 : lot.length ≤ 8) (hp : ∀ p ∈ ps, 0 ≤ p ∧ p < 2 ^ 60) (hl : ∀ t ∈ out, t < fs.length) {i j : Nat} (hi : i < out.length) (hj : j < out.length + 1) : (augI (vlRows st lv out) (vlRt st ps lot out) i j).natAbs < 2 ^ 124 := by
  by_cases e : j = out.length
  · subst e
    conv => lhs; rw [show out.length = (vlRows st lv out).length from vlRows_len.symm]
    rw [aug_r]
    unfold vlRt
    rw [rangeD hi]
    have := vlR_bd g b hl8 hp (out.getD i 0)
    refine nab this.1 (Int.lt_of_le_of_lt this.2 (by decide))
  · rw [aug_l (by rw [vlRows_len]; omega), vlRows_lk hi (by omega), ← aug_l (rt := lkRt fs out) (by rw [lkRows_len]; exact hi)]
    exact bt_mono (lk_bits g b h8 hl (by omega) (by omega)) (by decide)
/-- sums over places of a list without repeats -/
theorem sumR_map {out : List Nat} {f : Nat → Rat} : sumR out.length (fun j => f (out.getD j 0)) = (out.map f).sum := by
  have : ∀ k, k ≤ out.length → sumR k (fun j => f (out.getD j 0)) = ((out.take k).map f).sum := by
    intro k
    induction k with
    | zero => intro _; simp [sumR]
    | succ k ih =>
      intro hk
      simp only [sumR]
      rw [ih (by omega), List.take_succ_eq_append_getElem (by omega), List.map_append, List.map_cons, List.map_nil, sum_snocQ, getD_get _ _ _ (by omega)]
  have h := this out.length (Nat.le_refl _)
  rw [List.take_length] at h; exact h
theorem sumR_range {n : Nat} {f : Nat → Rat} : sumR n f = ((List.range n).map f).sum := by
  induction n with
  | zero => rfl
  | succ n ih => simp only [sumR]; rw [ih, List.range_succ, List.map_append, List.map_cons, List.map_nil, sum_snocQ]
/-- all things: those that do not stand and those of the lot -/
theorem sum_split {n : Nat} {lot : List Int} (hlot : IsLot n lot) (f : Nat → Rat) : sumR n f = sumR (outL n lot).length (fun j => f ((outL n lot).getD j 0)) + (lot.map fun o => f o.toNat).sum := by
  rw [sumR_map, sumR_range]
  have h1 := sum_if (List.range n) (fun t : Nat => !decide ((t : Int) ∈ lot)) f
  have h2 := sum_if (List.range n) (fun t : Nat => decide ((t : Int) ∈ lot)) f
  have h3 := lot_filter hlot
  rw [Int.toNat_natCast] at h3
  have h4 : (((List.range n).filter fun t : Nat => decide ((t : Int) ∈ lot)).map f).sum = (lot.map fun o => f o.toNat).sum := by
    conv => rhs; rw [← h3]
    rw [List.map_map]; rfl
  unfold outL
  rw [← h1, ← h4, ← h2]
  generalize List.range n = l
  induction l with
  | nil => simp; grind
  | cons x r ih =>
    simp only [List.map_cons, List.sum_cons]
    rw [ih]
    by_cases c : (x : Int) ∈ lot <;> simp [c] <;> grind
theorem onw_split {n : Nat} (hlot : IsLot n lot) (t : Nat) (vs : List Rat) : onwS st n t vs = sumR (outL n lot).length (fun j => (((st.getD t []).getD ((outL n lot).getD j 0) 0 : Int) : Rat) * vs.getD ((outL n lot).getD j 0) 0) + (lot.map fun o => (((st.getD t []).getD o.toNat 0 : Int) : Rat) * vs.getD o.toNat 0).sum := sum_split hlot _
theorem vlR_q {t : Nat} : ((vlR st ps lot t : Int) : Rat) = (lot.map fun o => (((st.getD t []).getD o.toNat 0 : Int) : Rat) * (ps.getD o.toNat 0 : Rat)).sum := by
  unfold vlR
  induction lot with
  | nil => rfl
  | cons x r ih => simp only [List.map_cons, List.sum_cons]; rw [Rat.intCast_add, Rat.intCast_mul, ih]
/-- a row of the equations -/
theorem vl_eq (g : CGood fs a st lv) {n : Nat} (hn : n = fs.length) {i : Nat} (hi : i < (outL n lot).length) (y : Nat → Rat) : sumR (outL n lot).length (fun j => (matI (vlRows st lv (outL n lot)) i j : Rat) * y j) = (stTot st lv ((outL n lot).getD i 0) : Rat) * y i - sumR (outL n lot).length (fun j => (((st.getD ((outL n lot).getD i 0) []).getD ((outL n lot).getD j 0) 0 : Int) : Rat) * y j) := by
  generalize ho : outL n lot = out at *
  have hil : out.getD i 0 < st.length := by
    have h1 : out.getD i 0 ∈ out := by rw [getD_get _ _ _ hi]; exact List.getElem_mem _
    rw [← ho] at h1
    have := outL_lt h1
    have := g.sl
    rw [ho] at *
    omega
  have hd : (st.getD (out.getD i 0) []).getD (out.getD i 0) 0 = 0 := (g.s _ hil).2.1
  have e : sumR out.length (fun j => (matI (vlRows st lv out) i j : Rat) * y j) = sumR out.length (fun j => (if j = i then (stTot st lv (out.getD i 0) : Rat) * y i else 0) + (-1 : Rat) * ((((st.getD (out.getD i 0) []).getD (out.getD j 0) 0 : Int) : Rat) * y j)) := sumR_congr fun j hj => by
    rw [vlRows_mat hi hj]
    by_cases e : j = i
    · subst e; rw [if_pos rfl, if_pos rfl, hd]; simp; grind
    · rw [if_neg e, if_neg e, Rat.intCast_neg]; grind
  rw [e, sumR_add, sumR_mul, sumR_one hi (fun j _ h => if_neg h), if_pos rfl]; grind
/-- what solve tells are the values -/
theorem vl_sol (g : CGood fs a st lv) {n : Nat} (hn : n = fs.length) (hlot : IsLot n lot) {vs : List Rat} (hv : ∀ t : Nat, t < n → (t : Int) ∈ lot → vs.getD t 0 = (ps.getD t 0 : Rat)) (ho : ∀ j, j < (outL n lot).length → vs.getD ((outL n lot).getD j 0) 0 = (slQ (vlRows st lv (outL n lot)) (vlRt st ps lot (outL n lot))).getD j 0) (hlen : vs.length = n) : ValOk n st lv ps lot vs := by
  refine ⟨hlen, hv, fun t ht hnt => ?_⟩
  have hm : t ∈ outL n lot := List.mem_filter.mpr ⟨List.mem_range.mpr ht, by simpa using hnt⟩
  obtain ⟨i, hi, e⟩ := List.mem_iff_getElem.mp hm
  have e' : (outL n lot).getD i 0 = t := by rw [getD_get _ _ _ hi]; exact e
  have hoN := outL_nodup (n := n) (lot := lot)
  have hoL : ∀ t ∈ outL n lot, t < fs.length := fun t h => by have := outL_lt h; omega
  have hs := slT_sol (n := (outL n lot).length) (m := (outL n lot).length + 1) (A := augI (vlRows st lv (outL n lot)) (vlRt st ps lot (outL n lot))) (by omega) (vl_mon g hoN hoL _).reg hi
  rw [show augI (vlRows st lv (outL n lot)) (vlRt st ps lot (outL n lot)) i (outL n lot).length = vlR st ps lot t by
    conv => lhs; rw [show (outL n lot).length = (vlRows st lv (outL n lot)).length from vlRows_len.symm]
    rw [aug_r]; unfold vlRt; rw [rangeD hi, e']] at hs
  rw [sumR_congr (g := fun j => (matI (vlRows st lv (outL n lot)) i j : Rat) * vs.getD ((outL n lot).getD j 0) 0) (fun j hj => by
    rw [aug_l (by rw [vlRows_len]; exact hj), ho j hj, slQ_get (by rw [vlRows_len]; exact hj), Rat.divInt_eq_div]
    unfold slN slD
    rw [vlRows_len])] at hs
  rw [vl_eq g hn hi, e', vlR_q] at hs
  rw [onw_split hlot]
  have e3 : (lot.map fun o => (((st.getD t []).getD o.toNat 0 : Int) : Rat) * vs.getD o.toNat 0) = (lot.map fun o => (((st.getD t []).getD o.toNat 0 : Int) : Rat) * (ps.getD o.toNat 0 : Rat)) := List.map_congr_left fun o hom => by
    have := hlot.2 o hom
    rw [hv o.toNat (by omega) (by rw [Int.toNat_of_nonneg this.1]; exact hom)]
  rw [e3]; grind
/-- values that are not less on the lot, and step on to no less, are not less -/
theorem vl_le (g : CGood fs a st lv) {n : Nat} (hn : n = fs.length) (hlot : IsLot n lot) {vs us : List Rat} (hl : ∀ t : Nat, t < n → (t : Int) ∈ lot → vs.getD t 0 ≤ us.getD t 0)
    (ho : ∀ t : Nat, t < n → (t : Int) ∉ lot → (stTot st lv t : Rat) * vs.getD t 0 ≤ onwS st n t vs) (hu : ∀ t : Nat, t < n → (t : Int) ∉ lot → onwS st n t us ≤ (stTot st lv t : Rat) * us.getD t 0) : ∀ t, t < n → vs.getD t 0 ≤ us.getD t 0 := by
  intro t ht
  by_cases hm : (t : Int) ∈ lot
  · exact hl t ht hm
  have hmem : t ∈ outL n lot := List.mem_filter.mpr ⟨List.mem_range.mpr ht, by simpa using hm⟩
  obtain ⟨i, hi, e⟩ := List.mem_iff_getElem.mp hmem
  have e' : (outL n lot).getD i 0 = t := by rw [getD_get _ _ _ hi]; exact e
  have hoN := outL_nodup (n := n) (lot := lot)
  have hoL : ∀ t ∈ outL n lot, t < fs.length := fun t h => by have := outL_lt h; omega
  have h := (vl_row g hoN hoL).nonneg (Nat.le_refl _) (y := fun j => us.getD ((outL n lot).getD j 0) 0 - vs.getD ((outL n lot).getD j 0) 0) (fun i hi => by
    rw [vl_eq g hn hi]
    have hmi : (outL n lot).getD i 0 ∈ outL n lot := by rw [getD_get _ _ _ hi]; exact List.getElem_mem _
    have h1 := ho _ (outL_lt hmi) (outL_not hmi)
    have h2 := hu _ (outL_lt hmi) (outL_not hmi)
    generalize (outL n lot).getD i 0 = t at *
    rw [onw_split hlot] at h1 h2
    rw [sumR_congr (g := fun j => (((st.getD t []).getD ((outL n lot).getD j 0) 0 : Int) : Rat) * us.getD ((outL n lot).getD j 0) 0 + (-1 : Rat) * ((((st.getD t []).getD ((outL n lot).getD j 0) 0 : Int) : Rat) * vs.getD ((outL n lot).getD j 0) 0)) (fun j _ => by grind), sumR_add, sumR_mul]
    have h3 : (lot.map fun o => (((st.getD t []).getD o.toNat 0 : Int) : Rat) * vs.getD o.toNat 0).sum ≤ (lot.map fun o => (((st.getD t []).getD o.toNat 0 : Int) : Rat) * us.getD o.toNat 0).sum := sum_leQ fun o hom => by
      have h4 := hlot.2 o hom
      have h5 := hl o.toNat (by omega) (by rw [Int.toNat_of_nonneg h4.1]; exact hom)
      have h6 : (0 : Rat) ≤ (((st.getD t []).getD o.toNat 0 : Int) : Rat) := by have := castR_le.mpr (g.st0 t o.toNat); simpa using this
      exact Rat.mul_le_mul_of_nonneg_left h5 h6
    grind) hi
  rw [e'] at h
  grind
/-- settled: the lot holds just the things dearer than stepping on from them -/
structure Settled (n : Nat) (st : List (List Int)) (lv ps lot : List Int) (vs : List Rat) : Prop where
  isl : IsLot n lot
  ok : ValOk n st lv ps lot vs
  up : ∀ t : Nat, t < n → (t : Int) ∈ lot → onwQ st lv n t vs < (ps.getD t 0 : Rat)
  low : ∀ t : Nat, t < n → (t : Int) ∉ lot → (ps.getD t 0 : Rat) ≤ onwQ st lv n t vs
theorem tot_pos (g : CGood fs a st lv) {t : Nat} (ht : t < fs.length) : (0 : Rat) < (stTot st lv t : Rat) := by
  have h1 := g.l t (by have := g.ll; omega)
  have hs := g.s t (by have := g.sl; omega)
  have h2 : 0 ≤ (st.getD t []).sum := by
    have h3 := hs.2.2
    generalize st.getD t [] = r at h3
    induction r with
    | nil => simp
    | cons x r ih =>
      rw [List.sum_cons]
      have := h3 x (by simp)
      have := ih fun z hz => h3 z (by simp [hz])
      omega
  have : (0 : Int) < stTot st lv t := by unfold stTot; omega
  have := castR_lt.mpr this
  simpa using this
/-- the values are the greater of price and stepping on -/
theorem Settled.max {n : Nat} {vs : List Rat} (h : Settled n st lv ps lot vs) (g : CGood fs a st lv) (hn : n = fs.length) {t : Nat} (ht : t < n) : vs.getD t 0 = if onwQ st lv n t vs < (ps.getD t 0 : Rat) then (ps.getD t 0 : Rat) else onwQ st lv n t vs := by
  by_cases hm : (t : Int) ∈ lot
  · rw [if_pos (h.up t ht hm)]; exact h.ok.inl t ht hm
  · rw [if_neg (by have := h.low t ht hm; exact Rat.not_lt.mpr this)]
    have h1 := h.ok.outl t ht hm
    have h2 := tot_pos g (show t < fs.length by omega)
    unfold onwQ
    rw [← h1]
    have : (stTot st lv t : Rat) ≠ 0 := by grind
    grind
theorem onwS_le (g : CGood fs a st lv) {n t : Nat} {vs us : List Rat} (h : ∀ o, o < n → vs.getD o 0 ≤ us.getD o 0) : onwS st n t vs ≤ onwS st n t us := sumR_le fun o ho => by
  have h6 : (0 : Rat) ≤ (((st.getD t []).getD o 0 : Int) : Rat) := by have := castR_le.mpr (g.st0 t o); simpa using this
  exact Rat.mul_le_mul_of_nonneg_left (h o ho) h6
theorem le_onwQ (g : CGood fs a st lv) {n t : Nat} {vs : List Rat} {p : Rat} (ht : t < fs.length) : p ≤ onwQ st lv n t vs ↔ (stTot st lv t : Rat) * p ≤ onwS st n t vs := by
  have h2 := tot_pos g ht
  unfold onwQ
  rw [← Rat.not_lt, Rat.div_lt_iff h2, Rat.not_lt, Rat.mul_comm]
/-- things are taken away: the values rise, what was low stays low -/
theorem settle_step (g : CGood fs a st lv) {n : Nat} (hn : n = fs.length) {lot lot2 : List Int} {vs us : List Rat} (hl2 : IsLot n lot2) (hv : ValOk n st lv ps lot vs) (hlow : ∀ t : Nat, t < n → (t : Int) ∉ lot → (ps.getD t 0 : Rat) ≤ onwQ st lv n t vs)
    (hsub : ∀ t ∈ lot2, t ∈ lot) (hk : ∀ t : Nat, t < n → (t : Int) ∈ lot → (t : Int) ∉ lot2 → (ps.getD t 0 : Rat) ≤ onwQ st lv n t vs) (hu : ValOk n st lv ps lot2 us) : ∀ t : Nat, t < n → (t : Int) ∉ lot2 → (ps.getD t 0 : Rat) ≤ onwQ st lv n t us := by
  have hle := vl_le g hn hl2 (vs := vs) (us := us) (fun t ht hm => by rw [hu.inl t ht hm, hv.inl t ht (hsub _ hm)]; exact Rat.le_refl) (fun t ht hm => by
    by_cases c : (t : Int) ∈ lot
    · rw [hv.inl t ht c]
      exact (le_onwQ g (by omega)).mp (hk t ht c hm)
    · rw [hv.outl t ht c]; exact Rat.le_refl) (fun t ht hm => by rw [hu.outl t ht hm]; exact Rat.le_refl)
  intro t ht hm
  have h1 : (ps.getD t 0 : Rat) ≤ onwQ st lv n t vs := by
    by_cases c : (t : Int) ∈ lot
    · exact hk t ht c hm
    · exact hlow t ht c
  rw [le_onwQ g (by omega)] at h1 ⊢
  have := onwS_le g (t := t) (n := n) hle
  grind
/-- the things of a lot that are dearer than stepping on from them -/
def kpL (st : List (List Int)) (lv ps : List Int) (n : Nat) (lot : List Int) (us : List Rat) : List Int := lot.filter fun z => decide (onwQ st lv n z.toNat us < (ps.getD z.toNat 0 : Rat))
theorem filter_getD {l : List Int} {q : Int → Bool} : ((List.range l.length).filter fun i => q (l.getD i 0)).map (fun i => l.getD i 0) = l.filter q := by
  have e : (List.range l.length).map (fun i => l.getD i 0) = l := by
    apply List.ext_getElem
    · rw [List.length_map, List.length_range]
    · intro i h1 h2
      rw [List.getElem_map, List.getElem_range, getD_get _ _ _ h2]
  have h := List.filter_map (p := q) (f := fun i => l.getD i 0) (l := List.range l.length)
  rw [e] at h
  exact h.symm
theorem kpL_lot {n : Int} {m : Nat} {us : List Rat} (h : IsLot n lot) : IsLot n (kpL st lv ps m lot us) := ⟨h.1.filter _, fun z hz => h.2 z (List.mem_filter.mp hz).1⟩
theorem kpL_sub {m : Nat} {us : List Rat} {t : Int} (h : t ∈ kpL st lv ps m lot us) : t ∈ lot := (List.mem_filter.mp h).1
theorem kpL_up {m : Nat} {us : List Rat} {t : Nat} (h : (t : Int) ∈ kpL st lv ps m lot us) : onwQ st lv m t us < (ps.getD t 0 : Rat) := by
  have := (List.mem_filter.mp h).2
  simpa using this
theorem kpL_low {m : Nat} {us : List Rat} {t : Nat} (h : (t : Int) ∈ lot) (hn : (t : Int) ∉ kpL st lv ps m lot us) : (ps.getD t 0 : Rat) ≤ onwQ st lv m t us := by
  refine Rat.not_lt.mp fun z => hn (List.mem_filter.mpr ⟨h, ?_⟩)
  simpa using z
theorem filter_all {p : Int → Bool} {l : List Int} (h : ¬ (l.filter p).length < l.length) : l.filter p = l :=
  List.filter_sublist.eq_of_length (Nat.le_antisymm (List.length_filter_le p l) (Nat.not_lt.mp h))
theorem kpL_all {m : Nat} {us : List Rat} (h : ¬ (kpL st lv ps m lot us).length < lot.length) : kpL st lv ps m lot us = lot := filter_all h
theorem kpL_len {m : Nat} {us : List Rat} : (kpL st lv ps m lot us).length ≤ lot.length := List.length_filter_le _ _
end

--lib
/-! ### the best lot of stepping buyers -/
/-- the mean of the values at the first looks, times everyone -/
def fsum (fs : List Int) (n : Nat) (us : List Rat) : Rat := sumR n fun t => (fs.getD t 0 : Rat) * us.getD t 0
section
variable {fs : List Int} {a : Int} {st : List (List Int)} {lv ps lot : List Int}
/-- one list of values alone is the greater one of price and stepping on -/
theorem settled_le (g : CGood fs a st lv) {n : Nat} (hn : n = fs.length) {l1 l2 : List Int} {us vs : List Rat} (h1 : Settled n st lv ps l1 us) (h2 : Settled n st lv ps l2 vs) : ∀ t, t < n → us.getD t 0 ≤ vs.getD t 0 := by
  have hup : ∀ t, t < n → (ps.getD t 0 : Rat) ≤ vs.getD t 0 ∧ onwQ st lv n t vs ≤ vs.getD t 0 := fun t ht => by
    rw [h2.max g hn ht]
    split
    · rename_i c; exact ⟨Rat.le_refl, Rat.le_of_lt c⟩
    · rename_i c; exact ⟨Rat.not_lt.mp c, Rat.le_refl⟩
  refine vl_le g hn h1.isl (fun t ht hm => by rw [h1.ok.inl t ht hm]; exact (hup t ht).1) (fun t ht hm => by rw [h1.ok.outl t ht hm]; exact Rat.le_refl) (fun t ht hm => ?_)
  have hp := tot_pos g (show t < fs.length by omega)
  have := (hup t ht).2
  unfold onwQ at this
  rw [← Rat.not_lt, Rat.lt_div_iff hp, Rat.not_lt, Rat.mul_comm] at this
  exact this
theorem settled_one (g : CGood fs a st lv) {n : Nat} (hn : n = fs.length) {l1 l2 : List Int} {us vs : List Rat} (h1 : Settled n st lv ps l1 us) (h2 : Settled n st lv ps l2 vs) : us = vs ∧ l1 = l2 := by
  have he : us = vs := by
    apply List.ext_getElem
    · rw [h1.ok.len, h2.ok.len]
    · intro i hi hj
      have hin : i < n := by rw [← h1.ok.len]; exact hi
      have e1 := settled_le g hn h1 h2 i hin
      have e2 := settled_le g hn h2 h1 i hin
      rw [getD_get _ _ _ hi, getD_get _ _ _ hj] at e1 e2
      grind
  subst he
  refine ⟨rfl, List.Perm.eq_of_pairwise (le := (· ≤ ·)) (fun x y _ _ p q => by omega) (h1.isl.1.imp fun p => by omega) (h2.isl.1.imp fun p => by omega) ((List.perm_ext_iff_of_nodup (h1.isl.1.imp fun p => by omega) (h2.isl.1.imp fun p => by omega)).mpr fun z => ?_)⟩
  have key : ∀ {l1 l2 : List Int}, Settled n st lv ps l1 us → Settled n st lv ps l2 us → z ∈ l1 → z ∈ l2 := fun {l1 l2} k1 k2 hz => by
    have hzn := k1.isl.2 z hz
    obtain ⟨t, rfl⟩ := Int.eq_ofNat_of_zero_le hzn.1
    by_cases c : (t : Int) ∈ l2
    · exact c
    · have q1 := k1.up t (by omega) hz
      have q2 := k2.low t (by omega) c
      exact absurd q1 (Rat.not_lt.mpr q2)
  exact ⟨key h1 h2, key h2 h1⟩
/-- the values when a lot stands, by the chances -/
def chV (st : List (List Int)) (lv ps lot : List Int) (n : Nat) : List Rat := (List.range n).map fun t : Nat => if (t : Int) ∈ lot then (ps.getD t 0 : Rat) else (lot.map fun o => (lwQ (matI (chRows st lv (outL n lot) o.toNat)) (outL n lot).length).getD ((outL n lot).idxOf t) 0 * (ps.getD o.toNat 0 : Rat)).sum
theorem chV_get {n : Nat} {t : Nat} (h : t < n) : (chV st lv ps lot n).getD t 0 = if (t : Int) ∈ lot then (ps.getD t 0 : Rat) else (lot.map fun o => (lwQ (matI (chRows st lv (outL n lot) o.toNat)) (outL n lot).length).getD ((outL n lot).idxOf t) 0 * (ps.getD o.toNat 0 : Rat)).sum := by
  unfold chV
  rw [getD_get _ _ _ (by rw [List.length_map, List.length_range]; exact h), List.getElem_map, List.getElem_range]
theorem chV_len {n : Nat} : (chV st lv ps lot n).length = n := by unfold chV; rw [List.length_map, List.length_range]
theorem idx_out {n j : Nat} (hj : j < (outL n lot).length) : (outL n lot).idxOf ((outL n lot).getD j 0) = j := by
  rw [getD_get _ _ _ hj]
  exact List.Nodup.idxOf_getElem outL_nodup j hj
theorem chV_out {n j : Nat} (hj : j < (outL n lot).length) : (chV st lv ps lot n).getD ((outL n lot).getD j 0) 0 = (lot.map fun o => (lwQ (matI (chRows st lv (outL n lot) o.toNat)) (outL n lot).length).getD j 0 * (ps.getD o.toNat 0 : Rat)).sum := by
  have hm : (outL n lot).getD j 0 ∈ outL n lot := by rw [getD_get _ _ _ hj]; exact List.getElem_mem _
  rw [chV_get (outL_lt hm), if_neg (outL_not hm), idx_out hj]
theorem sum_mulQ {α : Type} {f : α → Rat} {c : Rat} : ∀ {l : List α}, (l.map fun x => c * f x).sum = c * (l.map f).sum
  | [] => by simp
  | x :: r => by simp only [List.map_cons, List.sum_cons]; rw [sum_mulQ (l := r)]; grind
theorem sum_addQ {α : Type} {f g : α → Rat} : ∀ {l : List α}, (l.map fun x => f x + g x).sum = (l.map f).sum + (l.map g).sum
  | [] => by simp; grind
  | x :: r => by simp only [List.map_cons, List.sum_cons]; rw [sum_addQ (l := r)]; grind
theorem sumR_list {n : Nat} {α : Type} {f : Nat → α → Rat} : ∀ {l : List α}, sumR n (fun j => (l.map fun x => f j x).sum) = (l.map fun x => sumR n fun j => f j x).sum
  | [] => by simp only [List.map_nil, List.sum_nil]; exact sumR_zero fun _ _ => rfl
  | x :: r => by simp only [List.map_cons, List.sum_cons]; rw [sumR_add, sumR_list (l := r)]
theorem chV_ok (g : CGood fs a st lv) {n : Nat} (hn : n = fs.length) (hlot : IsLot n lot) : ValOk n st lv ps lot (chV st lv ps lot n) := by
  have hoN := outL_nodup (n := n) (lot := lot)
  have hoL : ∀ t ∈ outL n lot, t < fs.length := fun t h => by have := outL_lt h; omega
  refine ⟨chV_len, fun t ht hm => by rw [chV_get ht, if_pos hm], fun t ht hnt => ?_⟩
  have hm : t ∈ outL n lot := List.mem_filter.mpr ⟨List.mem_range.mpr ht, by simpa using hnt⟩
  obtain ⟨i, hi, e⟩ := List.mem_iff_getElem.mp hm
  have e' : (outL n lot).getD i 0 = t := by rw [getD_get _ _ _ hi]; exact e
  rw [onw_split hlot]
  have e3 : (lot.map fun o => (((st.getD t []).getD o.toNat 0 : Int) : Rat) * (chV st lv ps lot n).getD o.toNat 0) = (lot.map fun o => (((st.getD t []).getD o.toNat 0 : Int) : Rat) * (ps.getD o.toNat 0 : Rat)) := List.map_congr_left fun o hom => by
    have := hlot.2 o hom
    rw [chV_get (by omega), if_pos (by rw [Int.toNat_of_nonneg this.1]; exact hom)]
  have hrow : ∀ o : Int, sumR (outL n lot).length (fun j => (matI (vlRows st lv (outL n lot)) i j : Rat) * (lwQ (matI (chRows st lv (outL n lot) o.toNat)) (outL n lot).length).getD j 0) = (((st.getD t []).getD o.toNat 0 : Int) : Rat) := fun o => by
    have h := lwT_sol (n := (outL n lot).length) (A := matI (chRows st lv (outL n lot) o.toNat)) (ch_mon g hoN hoL).reg hi
    rw [chRows_r hi, e'] at h
    rw [← h]
    refine sumR_congr fun j hj => ?_
    rw [lw_get hj, vlRows_lk hi hj, chRows_l hi hj]
  have hv := vl_eq g hn hi (fun j => (chV st lv ps lot n).getD ((outL n lot).getD j 0) 0)
  rw [e'] at hv
  have hs : sumR (outL n lot).length (fun j => (matI (vlRows st lv (outL n lot)) i j : Rat) * (chV st lv ps lot n).getD ((outL n lot).getD j 0) 0) = (lot.map fun o => (((st.getD t []).getD o.toNat 0 : Int) : Rat) * (ps.getD o.toNat 0 : Rat)).sum := by
    rw [sumR_congr (g := fun j => (lot.map fun o => (matI (vlRows st lv (outL n lot)) i j : Rat) * (lwQ (matI (chRows st lv (outL n lot) o.toNat)) (outL n lot).length).getD j 0 * (ps.getD o.toNat 0 : Rat)).sum) (fun j hj => by
      rw [chV_out hj, ← sum_mulQ]
      congr 1
      exact List.map_congr_left fun o _ => by rw [Rat.mul_assoc]), sumR_list]
    congr 1
    refine List.map_congr_left fun o _ => ?_
    rw [← hrow o, Rat.mul_comm, ← sumR_mul]
    exact sumR_congr fun j _ => by rw [Rat.mul_comm]
  rw [hs] at hv
  rw [e3]
  grind
/-- what a lot brings: the values at the first looks -/
theorem worth_val (g : CGood fs a st lv) (hlot : IsLot fs.length lot) (hev : (1 : Int) ≤ a + fs.sum) : worthQ (stSh fs a st lv lot) lot ps = fsum fs fs.length (chV st lv ps lot fs.length) / ((a + fs.sum : Int) : Rat) := by
  have hev' : ((a + fs.sum : Int) : Rat) ≠ 0 := fun z => by
    have : a + fs.sum = 0 := by exact_mod_cast z
    omega
  have h1 : fsum fs fs.length (chV st lv ps lot fs.length) = (lot.map fun o => ((fs.getD o.toNat 0 : Rat) + sumR (outL fs.length lot).length fun k => (fs.getD ((outL fs.length lot).getD k 0) 0 : Rat) * (lwQ (matI (chRows st lv (outL fs.length lot) o.toNat)) (outL fs.length lot).length).getD k 0) * (ps.getD o.toNat 0 : Rat)).sum := by
    unfold fsum
    rw [sum_split hlot]
    have e1 : (lot.map fun o => (fs.getD o.toNat 0 : Rat) * (chV st lv ps lot fs.length).getD o.toNat 0) = (lot.map fun o => (fs.getD o.toNat 0 : Rat) * (ps.getD o.toNat 0 : Rat)) := List.map_congr_left fun o hom => by
      have := hlot.2 o hom
      rw [chV_get (by omega), if_pos (by rw [Int.toNat_of_nonneg this.1]; exact hom)]
    have e2 : sumR (outL fs.length lot).length (fun j => (fs.getD ((outL fs.length lot).getD j 0) 0 : Rat) * (chV st lv ps lot fs.length).getD ((outL fs.length lot).getD j 0) 0) = (lot.map fun o => (sumR (outL fs.length lot).length fun k => (fs.getD ((outL fs.length lot).getD k 0) 0 : Rat) * (lwQ (matI (chRows st lv (outL fs.length lot) o.toNat)) (outL fs.length lot).length).getD k 0) * (ps.getD o.toNat 0 : Rat)).sum := by
      rw [sumR_congr (g := fun j => (lot.map fun o => (fs.getD ((outL fs.length lot).getD j 0) 0 : Rat) * (lwQ (matI (chRows st lv (outL fs.length lot) o.toNat)) (outL fs.length lot).length).getD j 0 * (ps.getD o.toNat 0 : Rat)).sum) (fun j hj => by
        rw [chV_out hj, ← sum_mulQ]
        congr 1
        exact List.map_congr_left fun o _ => by rw [Rat.mul_assoc]), sumR_list]
      congr 1
      refine List.map_congr_left fun o _ => ?_
      rw [Rat.mul_comm _ (ps.getD o.toNat 0 : Rat), ← sumR_mul]
      exact sumR_congr fun j _ => by rw [Rat.mul_comm]
    rw [e1, e2, Rat.add_comm, ← sum_addQ]
    congr 1
    exact List.map_congr_left fun o _ => by grind
  rw [h1]
  unfold worthQ
  rw [Rat.div_def, Rat.mul_comm, ← sum_mulQ]
  congr 1
  refine List.map_congr_left fun o hom => ?_
  have := hlot.2 o hom
  rw [stSh_get g (by omega), if_pos (by rw [Int.toNat_of_nonneg this.1]; exact hom), Rat.div_def]
  grind
/-- no lot brings more than the settled values; one that brings as much holds all things of the settled lot -/
theorem best_val (g : CGood fs a st lv) {found : List Int} {us : List Rat} (h : Settled fs.length st lv ps found us) (hlot : IsLot fs.length lot) : fsum fs fs.length (chV st lv ps lot fs.length) ≤ fsum fs fs.length us ∧ (fsum fs fs.length (chV st lv ps lot fs.length) = fsum fs fs.length us → ∀ z ∈ found, z ∈ lot) := by
  have hok := chV_ok (ps := ps) g rfl hlot
  have hup : ∀ t, t < fs.length → (ps.getD t 0 : Rat) ≤ us.getD t 0 ∧ onwQ st lv fs.length t us ≤ us.getD t 0 := fun t ht => by
    rw [h.max g rfl ht]
    split
    · rename_i c; exact ⟨Rat.le_refl, Rat.le_of_lt c⟩
    · rename_i c; exact ⟨Rat.not_lt.mp c, Rat.le_refl⟩
  have hle := vl_le g rfl hlot (vs := chV st lv ps lot fs.length) (us := us) (fun t ht hm => by rw [hok.inl t ht hm]; exact (hup t ht).1) (fun t ht hm => by rw [hok.outl t ht hm]; exact Rat.le_refl) (fun t ht hm => by
    have hp := tot_pos g ht
    have := (hup t ht).2
    unfold onwQ at this
    rw [← Rat.not_lt, Rat.lt_div_iff hp, Rat.not_lt, Rat.mul_comm] at this
    exact this)
  have hf : ∀ t, t < fs.length → (0 : Rat) < (fs.getD t 0 : Rat) := fun t ht => by
    have := castR_lt.mpr (show (0 : Int) < fs.getD t 0 by have := g.f t ht; omega)
    simpa using this
  refine ⟨sumR_le fun t ht => Rat.mul_le_mul_of_nonneg_left (hle t ht) (Rat.le_of_lt (hf t ht)), fun he z hz => ?_⟩
  have hzn := h.isl.2 z hz
  obtain ⟨t, rfl⟩ := Int.eq_ofNat_of_zero_le hzn.1
  have ht : t < fs.length := by omega
  have heq : ∀ s, s < fs.length → (chV st lv ps lot fs.length).getD s 0 = us.getD s 0 := fun s hs => by
    by_cases c : (chV st lv ps lot fs.length).getD s 0 = us.getD s 0
    · exact c
    · exfalso
      have hlt : (chV st lv ps lot fs.length).getD s 0 < us.getD s 0 := by have := hle s hs; grind
      have := sumR_lt (n := fs.length) (k := s) (f := fun t => (fs.getD t 0 : Rat) * (chV st lv ps lot fs.length).getD t 0) (g := fun t => (fs.getD t 0 : Rat) * us.getD t 0) (fun t ht => Rat.mul_le_mul_of_nonneg_left (hle t ht) (Rat.le_of_lt (hf t ht))) hs (Rat.mul_lt_mul_of_pos_left hlt (hf s hs))
      unfold fsum at he
      grind
  by_cases c : (t : Int) ∈ lot
  · exact c
  · exfalso
    have h1 := hok.outl t ht c
    have h2 : onwS st fs.length t (chV st lv ps lot fs.length) = onwS st fs.length t us := sumR_congr fun o ho => by rw [heq o ho]
    have h3 := h.up t ht hz
    have h4 := h.ok.inl t ht hz
    rw [h2, heq t ht, h4] at h1
    have hp := tot_pos g ht
    unfold onwQ at h3
    rw [Rat.div_lt_iff hp] at h3
    grind
/-- what the settled lot brings -/
theorem best_worth (g : CGood fs a st lv) {found : List Int} {us : List Rat} (h : Settled fs.length st lv ps found us) : fsum fs fs.length (chV st lv ps found fs.length) = fsum fs fs.length us := by
  have hok := chV_ok (ps := ps) g rfl h.isl
  have h1 := vl_le g rfl h.isl (vs := chV st lv ps found fs.length) (us := us) (fun t ht hm => by rw [hok.inl t ht hm, h.ok.inl t ht hm]; exact Rat.le_refl) (fun t ht hm => by rw [hok.outl t ht hm]; exact Rat.le_refl) (fun t ht hm => by rw [h.ok.outl t ht hm]; exact Rat.le_refl)
  have h2 := vl_le g rfl h.isl (vs := us) (us := chV st lv ps found fs.length) (fun t ht hm => by rw [hok.inl t ht hm, h.ok.inl t ht hm]; exact Rat.le_refl) (fun t ht hm => by rw [h.ok.outl t ht hm]; exact Rat.le_refl) (fun t ht hm => by rw [hok.outl t ht hm]; exact Rat.le_refl)
  exact sumR_congr fun t ht => by rw [show (chV st lv ps found fs.length).getD t 0 = us.getD t 0 by have := h1 t ht; have := h2 t ht; grind]
end

--lib
/-! ### stepping buyers made of weights -/
def lkSt (ws : List Int) : List (List Int) := (List.range ws.length).map fun t => ws.set t 0
section
variable {ws : List Int} {a : Int} {ps lot : List Int}
theorem lkSt_len : (lkSt ws).length = ws.length := by unfold lkSt; rw [List.length_map, List.length_range]
theorem lkSt_get {t : Nat} (h : t < ws.length) : (lkSt ws).getD t [] = ws.set t 0 := by
  unfold lkSt
  rw [getD_get _ _ _ (by rw [List.length_map, List.length_range]; exact h), List.getElem_map, List.getElem_range]
theorem set0_get (t o : Nat) : (ws.set t 0).getD o 0 = if o = t then 0 else ws.getD o 0 := by
  rw [List.getD_eq_getElem?_getD, List.getElem?_set, List.getD_eq_getElem?_getD]
  by_cases e : t = o
  · subst e
    by_cases h : t < ws.length
    · simp [h]
    · simp [h]
  · rw [if_neg e, if_neg (fun z => e z.symm)]
theorem set0_sum {t : Nat} (h : t < ws.length) : (ws.set t 0).sum = ws.sum - ws.getD t 0 := by
  rw [sum_range_get, sum_range_get, List.length_set, sumN_congr (g := fun j => ws.getD j 0 + (-1) * (if j = t then ws.getD t 0 else 0)) (fun j hj => by
    rw [set0_get]
    by_cases e : j = t
    · subst e; rw [if_pos rfl, if_pos rfl]; omega
    · rw [if_neg e, if_neg e]; omega), sumN_add, sumN_mul, sumN_one h (fun j _ hn => if_neg hn), if_pos rfl]
  omega
theorem rep_get {n t : Nat} (h : t < n) : (List.replicate n a).getD t 0 = a := by
  rw [getD_get _ _ _ (by rw [List.length_replicate]; exact h), List.getElem_replicate]
theorem like_good (hw : ∀ w ∈ ws, 1 ≤ w) (ha : 1 ≤ a) : CGood ws a (lkSt ws) (List.replicate ws.length a) := by
  refine ⟨fun j hj => by rw [getD_get _ _ _ hj]; exact hw _ (List.getElem_mem _), ha, lkSt_len, fun j hj => ?_, List.length_replicate, fun j hj => ?_⟩
  · rw [lkSt_len] at hj
    rw [lkSt_get hj]
    refine ⟨List.length_set, by rw [set0_get, if_pos rfl], fun z hz => ?_⟩
    rcases List.mem_or_eq_of_mem_set hz with h | h
    · have := hw z h; omega
    · omega
  · rw [List.length_replicate] at hj
    rw [rep_get hj]; exact ha
theorem like_bd (hw : ∀ w ∈ ws, w < 2 ^ 60) (ha : a < 2 ^ 60) : StBd ws a (lkSt ws) (List.replicate ws.length a) := by
  refine ⟨hw, ha, fun r hr z hz => ?_, fun z hz => ?_⟩
  · unfold lkSt at hr
    obtain ⟨t, _, rfl⟩ := List.mem_map.mp hr
    rcases List.mem_or_eq_of_mem_set hz with h | h
    · exact hw z h
    · rw [h]; decide
  · rw [(List.mem_replicate.mp hz).2]; exact ha
theorem like_tot {t : Nat} (h : t < ws.length) : stTot (lkSt ws) (List.replicate ws.length a) t = a + ws.sum - ws.getD t 0 := by
  unfold stTot
  rw [rep_get h, lkSt_get h, set0_sum h]
  omega
theorem like_onw {t : Nat} (h : t < ws.length) (vs : List Rat) : onwS (lkSt ws) ws.length t vs = fsum ws ws.length vs - (ws.getD t 0 : Rat) * vs.getD t 0 := by
  unfold onwS fsum
  rw [lkSt_get h, sumR_congr (g := fun o => (ws.getD o 0 : Rat) * vs.getD o 0 + (-1 : Rat) * (if o = t then (ws.getD t 0 : Rat) * vs.getD t 0 else 0)) (fun o ho => by
    rw [set0_get]
    by_cases e : o = t
    · subst e; rw [if_pos rfl, if_pos rfl]; simp; grind
    · rw [if_neg e, if_neg e]; grind), sumR_add, sumR_mul, sumR_one h (fun j _ hn => if_neg hn), if_pos rfl]
  grind
theorem castsum {α : Type} {f : α → Int} : ∀ {l : List α}, (((l.map f).sum : Int) : Rat) = (l.map fun x => ((f x : Int) : Rat)).sum
  | [] => rfl
  | x :: r => by simp only [List.map_cons, List.sum_cons]; rw [Rat.intCast_add, castsum (l := r)]
/-- what a buyer brings -/
def likeZ (ws : List Int) (a : Int) (us : List Rat) : Rat := fsum ws ws.length us / ((a + ws.sum : Int) : Rat)
theorem wsall_nn (hw : ∀ w ∈ ws, 1 ≤ w) : 0 ≤ ws.sum := by
  induction ws with
  | nil => simp
  | cons x r ih =>
    rw [List.sum_cons]
    have := hw x (by simp)
    have := ih fun w hh => hw w (by simp [hh])
    omega
theorem likeZ_eq (hw : ∀ w ∈ ws, 1 ≤ w) (ha : 1 ≤ a) {us : List Rat} : likeZ ws a us * ((a : Rat) + (ws.sum : Rat)) = fsum ws ws.length us := by
  have h0 := wsall_nn hw
  have h1 : ((a + ws.sum : Int) : Rat) ≠ 0 := fun z => by
    have : a + ws.sum = 0 := by exact_mod_cast z
    omega
  unfold likeZ
  rw [← Rat.intCast_add]
  exact Rat.div_mul_cancel h1
/-- a thing that does not stand is worth what a buyer brings -/
theorem like_out (hw : ∀ w ∈ ws, 1 ≤ w) (ha : 1 ≤ a) {us : List Rat} (h : ValOk ws.length (lkSt ws) (List.replicate ws.length a) ps lot us) {t : Nat} (ht : t < ws.length) (hn : (t : Int) ∉ lot) : us.getD t 0 = likeZ ws a us := by
  have h1 := h.outl t ht hn
  rw [like_tot ht, like_onw ht, ← likeZ_eq hw ha, Rat.intCast_sub, Rat.intCast_add] at h1
  have h0 := wsall_nn hw
  have h2 : ((a : Rat) + (ws.sum : Rat)) ≠ 0 := fun z => by
    have : a + ws.sum = 0 := by exact_mod_cast z
    omega
  have h3 : us.getD t 0 * ((a : Rat) + (ws.sum : Rat)) = likeZ ws a us * ((a : Rat) + (ws.sum : Rat)) := by grind
  rw [← Rat.mul_div_cancel h2 (a := us.getD t 0), h3, Rat.mul_div_cancel h2]
/-- what a lot brings -/
theorem like_val (hw : ∀ w ∈ ws, 1 ≤ w) (ha : 1 ≤ a) (hlot : IsLot ws.length lot) {us : List Rat} (h : ValOk ws.length (lkSt ws) (List.replicate ws.length a) ps lot us) : likeZ ws a us = Rat.divInt (wpsum ws ps lot) (a + wsum ws lot) := by
  have e1 := sum_split hlot fun t => (ws.getD t 0 : Rat) * us.getD t 0
  have e2 := sum_split hlot fun t => (ws.getD t 0 : Rat)
  have e3 := likeZ_eq hw ha (us := us)
  unfold fsum at e3
  rw [e1] at e3
  have e4 : sumR ws.length (fun t => (ws.getD t 0 : Rat)) = (ws.sum : Rat) := by rw [sumR_cast, ← sum_range_get]
  rw [e4] at e2
  have e5 : sumR (outL ws.length lot).length (fun j => (ws.getD ((outL ws.length lot).getD j 0) 0 : Rat) * us.getD ((outL ws.length lot).getD j 0) 0) = likeZ ws a us * sumR (outL ws.length lot).length (fun j => (ws.getD ((outL ws.length lot).getD j 0) 0 : Rat)) := by
    rw [← sumR_mul]
    refine sumR_congr fun j hj => ?_
    have hm : (outL ws.length lot).getD j 0 ∈ outL ws.length lot := by rw [getD_get _ _ _ hj]; exact List.getElem_mem _
    rw [like_out hw ha h (outL_lt hm) (outL_not hm), Rat.mul_comm]
  have e6 : (lot.map fun o => (ws.getD o.toNat 0 : Rat) * us.getD o.toNat 0).sum = (wpsum ws ps lot : Rat) := by
    unfold wpsum
    rw [castsum]
    congr 1
    refine List.map_congr_left fun o ho => ?_
    have := hlot.2 o ho
    rw [h.inl o.toNat (by omega) (by rw [Int.toNat_of_nonneg this.1]; exact ho), Rat.intCast_mul]
  have e7 : (lot.map fun o => (ws.getD o.toNat 0 : Rat)).sum = (wsum ws lot : Rat) := by unfold wsum; rw [castsum]
  rw [e5, e6] at e3
  rw [e7] at e2
  have h0 := wsum_nonneg hw lot
  have h2 : ((a + wsum ws lot : Int) : Rat) ≠ 0 := fun z => by
    have : a + wsum ws lot = 0 := by exact_mod_cast z
    omega
  have e8 : likeZ ws a us * ((a + wsum ws lot : Int) : Rat) = (wpsum ws ps lot : Rat) := by
    rw [Rat.intCast_add]
    grind
  rw [Rat.divInt_eq_div, ← e8, Rat.mul_div_cancel h2]
/-- shares are those by weights -/
theorem like_sh (hw : ∀ w ∈ ws, 1 ≤ w) (ha : 1 ≤ a) (hlot : IsLot ws.length lot) : stSh ws a (lkSt ws) (List.replicate ws.length a) lot = shW ws a lot := by
  have hg := like_good hw ha
  have hs := wsall_nn hw
  apply List.ext_getElem
  · unfold stSh stShi shW shWi; simp
  · intro t h1 h2
    have ht : t < ws.length := by unfold shW at h2; rw [shWi_len] at h2; exact h2
    rw [← getD_get _ _ 0, ← getD_get _ _ 0]
    unfold shW
    rw [shWi_get _ _ _ ht]
    by_cases hm : (t : Int) ∈ lot
    · rw [if_pos hm]
      have hv := worth_val (ps := (List.range ws.length).map fun i => if i = t then 1 else 0) hg hlot (by omega)
      have hpg : ∀ o : Int, o ∈ lot → ((List.range ws.length).map fun i => if i = t then (1 : Int) else 0).getD o.toNat 0 = if o = (t : Int) then 1 else 0 := fun o ho => by
        have := hlot.2 o ho
        rw [rangeD (by omega)]
        by_cases e : o = (t : Int)
        · subst e; rw [if_pos (Int.toNat_natCast t), if_pos rfl]
        · rw [if_neg (by omega), if_neg e]
      have hone : ∀ (f : Int → Rat) (l : List Int), l.Pairwise (· < ·) → (t : Int) ∈ l → (l.map fun o => f o * ((if o = (t : Int) then (1 : Int) else 0 : Int) : Rat)).sum = f t := by
        intro f l
        induction l with
        | nil => intro _ h; simp at h
        | cons x r ih =>
          intro hp h
          rw [List.map_cons, List.sum_cons]
          have hp1 := (List.pairwise_cons.mp hp).1
          rcases List.mem_cons.mp h with e | e
          · subst e
            have h0 : ∀ l : List Int, (∀ y ∈ l, (t : Int) < y) → (l.map fun o => f o * ((if o = (t : Int) then (1 : Int) else 0 : Int) : Rat)).sum = 0 := by
              intro l
              induction l with
              | nil => intro _; rfl
              | cons y s ih2 =>
                intro hy
                rw [List.map_cons, List.sum_cons, ih2 fun z hz => hy z (by simp [hz]), if_neg (by have := hy y (by simp); omega)]
                simp; grind
            rw [h0 r hp1, if_pos rfl]
            simp; grind
          · have := hp1 _ e
            rw [ih (List.pairwise_cons.mp hp).2 e, if_neg (by omega)]
            simp; grind
      have hl : worthQ (stSh ws a (lkSt ws) (List.replicate ws.length a) lot) lot ((List.range ws.length).map fun i => if i = t then 1 else 0) = (stSh ws a (lkSt ws) (List.replicate ws.length a) lot).getD t 0 := by
        unfold worthQ
        rw [List.map_congr_left (g := fun o => (stSh ws a (lkSt ws) (List.replicate ws.length a) lot).getD o.toNat 0 * ((if o = (t : Int) then (1 : Int) else 0 : Int) : Rat)) (fun o ho => by rw [hpg o ho]), hone (fun o => (stSh ws a (lkSt ws) (List.replicate ws.length a) lot).getD o.toNat 0) lot hlot.1 hm, Int.toNat_natCast]
      rw [hl] at hv
      rw [hv]
      show likeZ ws a _ = _
      rw [like_val hw ha hlot (chV_ok hg rfl hlot)]
      congr 1
      unfold wpsum
      have h3 := hone (fun o => (ws.getD o.toNat 0 : Rat)) lot hlot.1 hm
      have h4 : (((lot.map fun t_1 => ws.getD t_1.toNat 0 * ((List.range ws.length).map fun i => if i = t then (1 : Int) else 0).getD t_1.toNat 0).sum : Int) : Rat) = (ws.getD t 0 : Rat) := by
        rw [castsum, ← Int.toNat_natCast t, ← h3, Int.toNat_natCast]
        congr 1
        refine List.map_congr_left fun o ho => ?_
        rw [hpg o ho, Rat.intCast_mul]
      exact_mod_cast h4
    · rw [if_neg hm, stSh_get hg ht, if_neg hm]
/-- the best lot is the one by weights -/
theorem like_best (hw : ∀ w ∈ ws, 1 ≤ w) (ha : 1 ≤ a) (hl : ps.length = ws.length) {us : List Rat} (h : Settled ws.length (lkSt ws) (List.replicate ws.length a) ps lot us) : Bst ws a ps lot (likeZ ws a us) := by
  have hg := like_good hw ha
  have hwp : ∀ t, t < ws.length → (0 : Rat) < (ws.getD t 0 : Rat) := fun t ht => by
    have := castR_lt.mpr (show (0 : Int) < ws.getD t 0 by have := hg.f t ht; omega)
    simpa using this
  have hap : (0 : Rat) < (a : Rat) := by
    have := castR_lt.mpr (show (0 : Int) < a by omega)
    simpa using this
  have hz := likeZ_eq hw ha (us := us)
  have hin : ∀ t : Nat, t < ws.length → (t : Int) ∈ lot → likeZ ws a us < (ps.getD t 0 : Rat) := fun t ht hm => by
    have h1 := h.up t ht hm
    have h2 := h.ok.inl t ht hm
    have h3 := tot_pos hg ht
    unfold onwQ at h1
    rw [Rat.div_lt_iff h3, like_tot ht, like_onw ht, ← hz, h2, Rat.intCast_sub, Rat.intCast_add] at h1
    have h5 : (0 : Rat) < (a : Rat) + (ws.sum : Rat) := by
      have h0 := wsall_nn hw
      have := castR_lt.mpr (show (0 : Int) < a + ws.sum by omega)
      rw [Rat.intCast_add] at this
      simpa using this
    have h4 : likeZ ws a us * ((a : Rat) + (ws.sum : Rat)) < (ps.getD t 0 : Rat) * ((a : Rat) + (ws.sum : Rat)) := by grind
    exact Rat.lt_of_mul_lt_mul_right h4 (Rat.le_of_lt h5)
  have hout : ∀ t : Nat, t < ws.length → (t : Int) ∉ lot → (ps.getD t 0 : Rat) ≤ likeZ ws a us := fun t ht hm => by
    have h1 := h.low t ht hm
    have h2 := h.ok.outl t ht hm
    have h3 := tot_pos hg ht
    rw [le_onwQ hg ht, ← h2, like_out hw ha h.ok ht hm] at h1
    exact Rat.le_of_mul_le_mul_left h1 h3
  refine ⟨⟨fun t ht => hwp t (by omega), hap, ?_⟩, ?_⟩
  · unfold G
    rw [hl, ← sumR_range]
    have e4 : sumR ws.length (fun t => (ws.getD t 0 : Rat)) = (ws.sum : Rat) := by rw [sumR_cast, ← sum_range_get]
    unfold fsum at hz
    rw [sumR_congr (f := fun t => (ws.getD t 0 : Rat) * us.getD t 0) (g := fun t => mx (rt ws t) (rt ps t) (likeZ ws a us) + likeZ ws a us * (ws.getD t 0 : Rat)) (fun t ht => by
      unfold mx
      by_cases hm : (t : Int) ∈ lot
      · rw [if_pos (hin t ht hm), h.ok.inl t ht hm]; grind
      · rw [if_neg (Rat.not_lt.mpr (hout t ht hm)), like_out hw ha h.ok ht hm]; grind), sumR_add, sumR_mul, e4] at hz
    grind
  · rw [hl]
    have hf := lot_filter h.isl
    rw [Int.toNat_natCast] at hf
    unfold castL
    rw [← hf]
    congr 1
    refine List.filter_congr fun t ht => ?_
    have ht := List.mem_range.mp ht
    rw [decide_eq_decide, ← lt_int]
    constructor
    · exact hin t ht
    · intro hlt
      by_cases hm : (t : Int) ∈ lot
      · exact hm
      · exact absurd hlt (Rat.not_lt.mpr (hout t ht hm))
end

local macro_rules | `(tactic| walk_at "ex") => `(tactic| first | with_reducible assumption | ((with_reducible apply Z.exE); exact inferInstance))
local macro_rules | `(tactic| walk_at "fr") => `(tactic| first | with_reducible assumption | ((with_reducible apply Z.frE); (with_reducible assumption); exact inferInstance))
local macro_rules | `(tactic| walk_at "fx") => `(tactic| first | with_reducible assumption | ((with_reducible apply Z.getE); (with_reducible assumption); exact inferInstance) | ((with_reducible apply Z.getTN); (with_reducible assumption); exact inferInstance) | ((with_reducible apply Z.getIN); (with_reducible assumption); exact inferInstance))
local macro_rules | `(tactic| walk_at "fl") => `(tactic| first | with_reducible assumption | ((with_reducible apply Z.lA); (with_reducible assumption); exact inferInstance) | ((with_reducible apply Z.lE); (with_reducible assumption); exact inferInstance))
local macro_rules | `(tactic| walk_at "fi") => `(tactic| first | walk_at "fl" | ((with_reducible apply Z.lU); (walk_at "fl"); exact rfl))
local macro_rules | `(tactic| walk_at "ti") => `(tactic| first | walk_at "ft" | ((with_reducible apply Z.tU); (walk_at "ft"); exact rfl))
local macro_rules | `(tactic| walk_at "ft") => `(tactic| first | with_reducible assumption | ((with_reducible apply Z.tA); (with_reducible assumption); exact inferInstance) | ((with_reducible apply Z.tE); (with_reducible assumption); exact inferInstance) | ((with_reducible apply Z.tNA); (with_reducible assumption); exact inferInstance) | ((with_reducible apply Z.tEN); (with_reducible assumption); exact inferInstance))
local macro_rules | `(tactic| walk_at "fa") => `(tactic| first | with_reducible assumption | ((with_reducible apply Z.aE); (with_reducible assumption); exact inferInstance) | ((with_reducible apply Or.inl); (walk_at "fl")) | ((with_reducible apply Or.inr); (walk_at "ft")))
local macro_rules | `(tactic| walk_at "num") => `(tactic| first | with_reducible assumption | omega | (simp only [List.length_map, List.length_append, List.length_cons, List.length_nil, List.length_range, List.length_take, List.length_drop, List.length_replicate]; omega) | (simp only [List.length_map, List.length_append, List.length_cons, List.length_nil, List.length_range, List.length_take, List.length_drop, List.length_replicate] at *; omega) | decide | exact rfl)
local macro_rules | `(tactic| walk_at "nat") => `(tactic| first | with_reducible assumption | (simp only [Int.reduceToNat]; exact rfl) | (simp only [Int.toNat_natCast]; exact rfl) | exact rfl)
local macro_rules | `(tactic| walk_at "sz") => `(tactic| first | with_reducible assumption | (show _ ≤ 16777216; walk_at "num") | (show _ < 16777216; walk_at "num"))
local macro_rules | `(tactic| walk_at "div") => `(tactic| first | with_reducible assumption | ((with_reducible apply Z.CDivZ.of); with_reducible assumption) | exact Z.CDivZ.of (L2.wide_div (b := 64) (by omega) (by omega) (by decide) (by decide)) | exact Z.CDivZ.of (L2.wide_div (b := 64) (by decide) (by decide) (by decide) (by decide)))
local macro_rules | `(tactic| walk_at "look") => `(tactic| first | with_reducible assumption | exact R.rF_top _ _ | exact R.rF_bottom _ _ | exact rfl)
local macro_rules | `(tactic| walk_at "call") => `(tactic| fail)
local macro_rules | `(tactic| walk_at "rn") => `(tactic| (first | with_reducible assumption | ((with_reducible apply R.rnE); (with_reducible assumption); exact inferInstance) | ((with_reducible apply R.rnN); (with_reducible assumption); exact inferInstance)))
local macro_rules | `(tactic| walk_at "rb") => `(tactic| (first | with_reducible assumption | ((with_reducible apply R.rbE); (with_reducible assumption); exact inferInstance) | ((with_reducible apply R.rbN); (with_reducible assumption); exact inferInstance)))
local macro_rules | `(tactic| walk_at "rl") => `(tactic| (first | with_reducible assumption | ((with_reducible apply R.rlE); (with_reducible assumption); exact inferInstance) | ((with_reducible apply R.rlN); (with_reducible assumption); exact inferInstance)))
local macro_rules | `(tactic| walk_at "call") => `(tactic| ((with_reducible apply R.u_rme); (walk_at "rb"); (decide +kernel)))
local macro_rules | `(tactic| walk_at "call") => `(tactic| ((with_reducible apply R.u_rmany); (walk_at "rb"); (with_reducible assumption); (with_reducible assumption)))
local macro_rules | `(tactic| walk_at "call") => `(tactic| ((with_reducible apply R.u_rcon); (walk_at "rb"); (with_reducible assumption); (with_reducible assumption); (decide +kernel)))
local macro_rules | `(tactic| walk_at "call") => `(tactic| ((with_reducible apply R.u_risC2); (walk_at "rb"); (with_reducible assumption); (with_reducible assumption)))
local macro_rules | `(tactic| walk_at "call") => `(tactic| ((with_reducible apply R.u_risO2); (walk_at "rb"); (with_reducible assumption)))
local macro_rules | `(tactic| walk_at "call") => `(tactic| ((with_reducible apply R.u_ixR); (walk_at "fl"); (walk_at "rl"); (walk_at "num"); (walk_at "num"); (intro ra hra)))
local macro_rules | `(tactic| walk_at "pl") => `(tactic| (first | with_reducible assumption | ((with_reducible apply R.plE); (with_reducible assumption); exact inferInstance) | ((with_reducible apply R.plN); (with_reducible assumption); exact inferInstance)))
local macro_rules | `(tactic| walk_at "call") => `(tactic| ((with_reducible apply R.u_ixP); (walk_at "fl"); (walk_at "pl"); (walk_at "num"); (walk_at "num"); (intro pa hpa)))
local macro_rules | `(tactic| walk_at "wr") => `(tactic| (first | with_reducible assumption | ((with_reducible apply R.wrE); (with_reducible assumption); exact inferInstance) | ((with_reducible apply R.wrN); (with_reducible assumption); exact inferInstance)))
local macro_rules | `(tactic| walk_at "call") => `(tactic| ((with_reducible apply R.u_meW); (walk_at "wr"); (decide +kernel); (decide +kernel); (decide +kernel)))
local macro_rules | `(tactic| walk_at "call") => `(tactic| ((with_reducible apply R.u_wts); (walk_at "wr"); (with_reducible assumption); (with_reducible assumption); (intro tw htw htw2)))
local macro_rules | `(tactic| walk_at "call") => `(tactic| ((with_reducible apply R.u_asd); (walk_at "wr"); (with_reducible assumption); (with_reducible assumption)))
local macro_rules | `(tactic| walk_at "call") => `(tactic| ((with_reducible apply R.u_many); (walk_at "wr"); (with_reducible assumption); (with_reducible assumption)))
local macro_rules | `(tactic| walk_at "call") => `(tactic| ((with_reducible apply R.u_isW); (walk_at "wr"); (with_reducible assumption)))
local macro_rules | `(tactic| walk_at "call") => `(tactic| ((with_reducible apply R.u_OO); (walk_at "rn"); (walk_at "rn"); (first | decide | omega); (intro p H2 hn he hr)))
local macro_rules | `(tactic| walk_at "call") => `(tactic| ((with_reducible apply R.u_OI); (walk_at "rn"); (walk_at "bt"); (first | decide | omega); (intro p H2 hn he hr)))
local macro_rules | `(tactic| walk_at "call") => `(tactic| ((with_reducible apply R.u_IO); (walk_at "rn"); (walk_at "bt"); (first | decide | omega); (intro p H2 hn he hr)))
local macro_rules | `(tactic| walk_at "call") => `(tactic| ((with_reducible apply R.u_UO); (walk_at "rn"); (intro p H2 hn he hr)))
local macro_rules | `(tactic| walk_at "call") => `(tactic| ((with_reducible apply R.u_C1); (walk_at "rn"); (intro p H2 hn he hr)))
local macro_rules | `(tactic| walk_at "call") => `(tactic| ((with_reducible apply R.u_eOO); (walk_at "rn"); (walk_at "rn")))
local macro_rules | `(tactic| walk_at "call") => `(tactic| ((with_reducible apply R.u_eOI); (walk_at "rn")))
local macro_rules | `(tactic| walk_at "call") => `(tactic| ((with_reducible apply R.u_eIO); (walk_at "rn")))
local macro_rules | `(tactic| walk_at "call") => `(tactic| ((with_reducible apply R.u_bO); (walk_at "rn")))
local macro_rules | `(tactic| walk_at "call") => `(tactic| ((with_reducible apply R.u_cIO); (walk_at "rn"); (walk_at "bt"); (first | decide | omega)))
local macro_rules | `(tactic| walk_at "call") => `(tactic| ((with_reducible apply R.u_cOO); (walk_at "rn"); (walk_at "rn")))
local macro_rules | `(tactic| walk_at "call") => `(tactic| ((with_reducible apply R.u_cOI); (walk_at "rn"); (walk_at "bt"); (first | decide | omega)))
local macro_rules | `(tactic| walk_at "call") => `(tactic| ((with_reducible apply R.u_me); (walk_at "rn"); (decide +kernel); (decide +kernel)))
local macro_rules | `(tactic| walk_at "call") => `(tactic| ((with_reducible apply R.u_top); (walk_at "rn"); (with_reducible assumption); (with_reducible assumption)))
local macro_rules | `(tactic| walk_at "call") => `(tactic| ((with_reducible apply R.u_bot); (walk_at "rn"); (with_reducible assumption); (with_reducible assumption)))
local macro_rules | `(tactic| walk_at "call") => `(tactic| ((with_reducible apply R.u_isR); (walk_at "rn"); (with_reducible assumption)))
local macro_rules | `(tactic| walk_at "st1") => `(tactic| (first
  | ((with_reducible apply Z.w_var); exact rfl)
  | with_reducible refine Z.w_c ?_
  | with_reducible refine Z.w_op ?_
  | with_reducible refine Z.w_un ?_
  | with_reducible refine Z.w_cb ?_
  | with_reducible refine Z.w_nil ?_
  | with_reducible refine Z.w_cons ?_
  | with_reducible refine Z.w_tup ?_
  | with_reducible refine Z.w_lst ?_
  | with_reducible refine Z.w_call0 ?_
  | with_reducible refine Z.w_call ?_
  | with_reducible refine Z.w_test ?_
  | with_reducible refine Z.w_B ?_
  | with_reducible refine Z.w_bl ?_
  | with_reducible refine Z.w_and ?_
  | with_reducible refine Z.w_or ?_
  | with_reducible refine Z.w_not ?_
  | with_reducible refine Z.w_andV ?_
  | with_reducible refine Z.w_orV ?_
  | with_reducible refine Z.w_notV ?_
  | with_reducible refine Z.w_ifE ?_
  | with_reducible refine Z.w_isN2 ?_
  | with_reducible refine Z.w_notN2 ?_
  | with_reducible refine Z.isN_n ?_
  | with_reducible refine Z.isN_i ?_
  | with_reducible refine Z.isN_s ?_
  | with_reducible refine Z.isN_r ?_
  | with_reducible refine Z.isN_b ?_
  | with_reducible refine Z.notN_n ?_
  | with_reducible refine Z.notN_i ?_
  | with_reducible refine Z.notN_s ?_
  | with_reducible refine Z.notN_r ?_
  | with_reducible refine Z.notN_b ?_
  | with_reducible refine Z.w_seq ?_
  | with_reducible refine Z.w_asg ?_
  | with_reducible refine Z.w_gnS ?_
  | with_reducible refine Z.w_gn ?_
  | with_reducible refine Z.w_ret ?_
  | with_reducible refine Z.w_retN ?_
  | with_reducible refine Z.w_drop ?_
  | with_reducible refine Z.w_next ?_
  | with_reducible refine Z.w_brk ?_
  | with_reducible refine Z.w_cnt ?_
  | with_reducible refine Z.w_if ?_
  | with_reducible refine Z.w_enx ?_
  | with_reducible refine Z.w_ert ?_
  | with_reducible refine Z.w_ebk ?_
  | with_reducible refine Z.w_ect ?_
  | ((with_reducible show L2.Ends.nx _ _ _); with_reducible refine Z.w_nx ?_)
  | ((with_reducible show L2.Ends.bk _ _ _); with_reducible refine Z.w_bk ?_)
  | ((with_reducible show L2.Ends.ct _ _ _); with_reducible refine Z.w_ct ?_)
  | ((with_reducible show L2.Ends.rt _ _ _); with_reducible refine Z.w_rt ?_)
  | ((with_reducible apply Z.w_aug); exact rfl)
  | with_reducible refine Z.w_for ?_
  | with_reducible refine Z.w_lc ?_
  | with_reducible refine Z.w_iL ?_
  | with_reducible refine Z.w_iT ?_
  | with_reducible refine Z.w_iA ?_
  | with_reducible refine Z.w_iR1 ?_
  | with_reducible refine Z.w_iR2 ?_
  | with_reducible refine Z.w_iE ?_
  | with_reducible refine Z.w_iEA ?_
  | with_reducible refine Z.w_iZA ?_
  | with_reducible refine Z.w_tSAdd ?_
  | with_reducible refine Z.w_tCO ?_
  | with_reducible refine Z.w_dCO ?_
  | with_reducible refine Z.w_bm ?_
  | with_reducible refine Z.w_bm0 ?_
  | with_reducible refine Z.w_yes ?_
  | with_reducible refine Z.w_par ?_
  | with_reducible refine Z.w_exP ?_
  | with_reducible refine Z.w_fld ?_
  | with_reducible refine Z.w_sfld ?_
  | with_reducible refine Z.w_make ?_
  | with_reducible refine Z.w_raise ?_
  | with_reducible refine Z.w_mkO ?_
  | with_reducible refine Z.w_xf ?_
  | with_reducible refine Z.w_gSub ?_
  | with_reducible refine Z.w_revT ?_
  | with_reducible refine Z.w_revL ?_
  | with_reducible refine Z.w_tryA ?_
  | with_reducible refine Z.w_tryO ?_
  | with_reducible refine Z.w_tryM ?_
  | with_reducible refine Z.w_con ?_
  | with_reducible refine Z.w_callZ0 ?_
  | with_reducible refine Z.w_callZ ?_
  | with_reducible refine Z.w_methZ ?_
  | with_reducible refine Z.w_meth ?_
  | with_reducible refine Z.w_makeZ ?_
  | with_reducible refine Z.w_makeK ?_
  | with_reducible refine Z.w_makeKZ ?_
  | with_reducible refine Z.w_opS ?_
  | with_reducible refine Z.w_chain ?_
  | with_reducible refine Z.w_sl ?_
  | with_reducible refine Z.w_noPart ?_
  | with_reducible refine Z.w_part ?_
  | with_reducible refine Z.w_tupRg1 ?_
  | with_reducible refine Z.w_lstRg1 ?_
  | with_reducible refine Z.w_iZM ?_
  | ((with_reducible refine Z.w_wp ?_ ?_); exact rfl)))
local macro_rules | `(tactic| walk_at "st2") => `(tactic| (first
  | walk_at "call"
  | with_reducible refine Z.w_ipI ?_
  | with_reducible refine Z.w_I0 ?_
  | with_reducible refine Z.w_U ?_
  | with_reducible refine Z.w_addI ?_
  | ((with_reducible refine Z.w_mulI ?_ ?_); (walk_at "mul"))
  | with_reducible refine Z.w_eqIr ?_
  | with_reducible refine Z.w_neIr ?_
  | with_reducible refine Z.w_eqSr ?_
  | with_reducible refine Z.w_neSr ?_
  | with_reducible refine Z.w_eqZB ?_
  | with_reducible refine Z.w_neZB ?_
  | with_reducible refine Z.w_bool1 ?_
  | with_reducible refine Z.w_eqZI ?_
  | with_reducible refine Z.w_neZI ?_
  | with_reducible refine Z.w_eqZS ?_
  | with_reducible refine Z.w_neZS ?_
  | with_reducible refine Z.w_T ?_
  | with_reducible refine Z.w_F ?_
  | with_reducible refine Z.w_nT ?_
  | with_reducible refine Z.w_nF ?_
  | with_reducible refine Z.w_int1 ?_
  | with_reducible refine Z.w_exI ?_
  | with_reducible refine Z.w_max2 ?_
  | with_reducible refine Z.w_min2 ?_
  | with_reducible refine Z.w_gcd ?_
  | with_reducible refine Z.w_absI ?_
  | ((with_reducible apply Z.w_dF); (walk_at "fx"); (with_reducible assumption); (with_reducible assumption); (walk_at "look"))
  | ((with_reducible apply Z.w_dCon); (walk_at "fx"); (with_reducible assumption); (with_reducible assumption); (first | with_reducible assumption | rfl | decide +kernel))
  | ((with_reducible apply Z.w_sup); (exact rfl); (walk_at "fx"))
  | ((with_reducible apply Z.w_dMe0); (walk_at "fx"); (exact rfl))
  | with_reducible refine Z.w_isB ?_
  | with_reducible refine Z.w_isnB ?_
  | with_reducible refine Z.w_isiII ?_
  | with_reducible refine Z.w_isiIB ?_
  | ((with_reducible apply Z.w_cl); (with_reducible assumption); (intro ea hea))
  | ((with_reducible apply Z.w_clN); (with_reducible assumption))
  | ((with_reducible apply Z.w_clO); (with_reducible assumption); (intro ea hea))
  | ((with_reducible apply Z.w_clON); (with_reducible assumption))
  | with_reducible refine Z.w_cl0 ?_
  | ((with_reducible apply Z.w_as); (with_reducible assumption); (intro ea hea))
  | ((with_reducible apply Z.w_only); (with_reducible assumption); (intro ea hea))
  | ((with_reducible apply Z.w_asN); (with_reducible assumption))
  | ((with_reducible apply Z.w_onlyN); (with_reducible assumption))
  | ((with_reducible apply Z.w_isY); (with_reducible assumption); (with_reducible assumption))
  | ((with_reducible apply Z.w_isYt); (with_reducible assumption); (with_reducible assumption))
  | ((with_reducible apply Z.w_isYd); (with_reducible assumption); (walk_at "fx"); (with_reducible assumption))
  | ((with_reducible apply Z.w_isYdt); (with_reducible assumption); (walk_at "fx"); (with_reducible assumption))
  | ((with_reducible apply Z.w_dXf); (walk_at "fx"); (first | rfl | (simp only [List.zip_cons_cons, List.zip_nil_right, List.zip_nil_left, List.reverse_cons, List.reverse_nil, List.nil_append, List.singleton_append, List.cons_append, List.lookup]; rfl) | decide +kernel))
  | ((with_reducible apply Z.w_dMX); (exact rfl); (decide); (intro d H2 hn he hp))
  | ((with_reducible apply Z.w_isiOC2); (walk_at "fx"); (with_reducible assumption))
  | ((with_reducible apply Z.w_isiOA2); (walk_at "fx"); (with_reducible assumption); (with_reducible assumption))
  | ((with_reducible apply Z.w_isiOI2); (walk_at "fx"); (with_reducible assumption))
  | ((with_reducible apply Z.w_isiIC); (with_reducible assumption))
  | ((with_reducible apply Z.w_OO); (walk_at "fx"); (walk_at "fx"))
  | ((with_reducible apply Z.w_OI); (walk_at "fx"))
  | ((with_reducible apply Z.w_IO); (walk_at "fx"))
  | ((with_reducible apply Z.w_UO); (walk_at "fx"))
  | ((with_reducible apply Z.w_C1); (walk_at "fx"))
  | ((with_reducible refine Z.w_shl ?_ ?_); (walk_at "num"))
  | with_reducible refine Z.w_shr ?_
  | with_reducible refine Z.w_odd ?_
  | ((with_reducible apply Z.w_dRgT); (walk_at "num"); (walk_at "num"); (intro p H2 hn he hp))
  | ((with_reducible apply Z.w_dRgL); (walk_at "num"); (walk_at "num"); (intro p H2 hn he hp))
  | ((with_reducible apply Z.w_sum); (walk_at "fl"))
  | ((with_reducible apply Z.w_sumT); (walk_at "ft"))
  | ((with_reducible apply Z.w_eqLr); (walk_at "fi"); (walk_at "fi"))
  | ((with_reducible apply Z.w_neLr); (walk_at "fi"); (walk_at "fi"))
  | ((with_reducible apply Z.w_eqTr); (walk_at "ti"); (walk_at "ti"))
  | ((with_reducible apply Z.w_neTr); (walk_at "ti"); (walk_at "ti"))
  | ((with_reducible apply Z.w_eqLI); (walk_at "fi"); (walk_at "fi"))
  | ((with_reducible apply Z.w_neLI); (walk_at "fi"); (walk_at "fi"))
  | ((with_reducible apply Z.w_eqTI); (walk_at "ti"); (walk_at "ti"))
  | ((with_reducible apply Z.w_neTI); (walk_at "ti"); (walk_at "ti"))
  | ((with_reducible apply Z.w_eqLFr); (walk_at "fl"); (walk_at "fl"); (exact rfl); (kernel_rfl))
  | ((with_reducible apply Z.w_neLFr); (walk_at "fl"); (walk_at "fl"); (exact rfl); (kernel_rfl))
  | ((with_reducible apply Z.w_eqTFr); (walk_at "ft"); (walk_at "ft"); (exact rfl); (kernel_rfl))
  | ((with_reducible apply Z.w_neTFr); (walk_at "ft"); (walk_at "ft"); (exact rfl); (kernel_rfl))
  | ((with_reducible apply Z.w_eqLF); (walk_at "fl"); (walk_at "fl"); (exact rfl); (exact rfl); (kernel_rfl); (kernel_rfl))
  | ((with_reducible apply Z.w_neLF); (walk_at "fl"); (walk_at "fl"); (exact rfl); (exact rfl); (kernel_rfl); (kernel_rfl))
  | ((with_reducible apply Z.w_eqTF); (walk_at "ft"); (walk_at "ft"); (exact rfl); (exact rfl); (kernel_rfl); (kernel_rfl))
  | ((with_reducible apply Z.w_neTF); (walk_at "ft"); (walk_at "ft"); (exact rfl); (exact rfl); (kernel_rfl); (kernel_rfl))
  | ((with_reducible apply Z.w_inT); (walk_at "ft"))
  | ((with_reducible apply Z.w_ninT); (walk_at "ft"))
  | ((with_reducible apply Z.w_inL); (walk_at "fl"))
  | ((with_reducible apply Z.w_ninL); (walk_at "fl"))
  | with_reducible refine Z.wb_F ?_
  | with_reducible refine Z.wb_T ?_
  | ((with_reducible apply Z.w_ins); (walk_at "fx"); (walk_at "sz"); (walk_at "nat"); (walk_at "num"); (walk_at "num"); (intro H2 hp hnl hk ho); (try (have hke := Z.kmut hk (by with_reducible assumption) inferInstance; clear hk)))
  | ((with_reducible apply Z.w_popI); (walk_at "fx"); (walk_at "num"); (walk_at "num"); (walk_at "num"); (intro H2 hp hnl hk ho); (try (have hke := Z.kmut hk (by with_reducible assumption) inferInstance; clear hk)))
  | ((with_reducible apply Z.w_pop0); (walk_at "fx"); (walk_at "num"); (intro H2 hp hnl hk ho); (try (have hke := Z.kmut hk (by with_reducible assumption) inferInstance; clear hk)))
  | ((with_reducible apply Z.w_setI); (walk_at "fx"); (walk_at "num"); (walk_at "num"); (intro H2 hp hnl hk ho); (try (have hke := Z.kmut hk (by with_reducible assumption) inferInstance; clear hk)))
  | ((with_reducible apply Z.w_setV); (walk_at "fx"); (walk_at "num"); (walk_at "num"); (intro H2 hp hnl hk ho); (try (have hke := Z.kmut hk (by with_reducible assumption) inferInstance; clear hk)))
  | ((with_reducible apply Z.w_gT); (walk_at "ft"); (exact rfl))
  | with_reducible refine Z.w_gC ?_
  | with_reducible refine Z.w_gN ?_
  | with_reducible refine Z.w_isiBI ?_
  | with_reducible refine Z.w_isiBB ?_
  | with_reducible refine Z.w_isiSS ?_
  | with_reducible refine Z.w_isiIS ?_
  | with_reducible refine Z.w_isiSI ?_
  | ((with_reducible refine Z.w_two ?_ ?_ ?_); (exact rfl); (exact rfl))
  | ((with_reducible apply Z.w_isiTT); (walk_at "fx"))
  | ((with_reducible apply Z.w_isiLL); (walk_at "fx"))
  | ((with_reducible apply Z.w_addL); (walk_at "fx"); (walk_at "fx"); (walk_at "sz"); (intro p H2 hn he hp))
  | ((with_reducible apply Z.w_dRevT); (walk_at "ti"); (intro p H2 hn he hp))
  | ((with_reducible apply Z.w_dRevL); (walk_at "fi"); (intro p H2 hn he hp))
  | ((with_reducible apply Z.w_catI); (walk_at "ti"); (walk_at "ti"); (walk_at "num"); (intro p H2 he hp))
  | ((with_reducible apply Z.w_slTo); (walk_at "ti"); (walk_at "num"); (intro p H2 he hp))
  | ((with_reducible apply Z.w_slFrom); (walk_at "ti"); (walk_at "num"); (intro p H2 he hp))
  | ((with_reducible apply Z.w_slBack); (walk_at "ti"); (walk_at "num"); (intro p H2 he hp))
  | ((with_reducible apply Z.w_slAny); (walk_at "ti"); (intro p H2 ms he hsub hp))
  | ((with_reducible apply Z.w_sortI); (walk_at "fi"); (intro p H2 ms hn he hp hperm hsort))
  | ((with_reducible apply Z.w_slLIf); (walk_at "fl"); (walk_at "num"); (intro p H2 hn he hp))
  | ((with_reducible apply Z.w_slLIt); (walk_at "fl"); (walk_at "num"); (intro p H2 hn he hp))
  | ((with_reducible apply Z.w_slLIft); (walk_at "fl"); (walk_at "num"); (walk_at "num"); (intro p H2 hn he hp))
  | ((with_reducible apply Z.w_slLVt); (walk_at "fl"); (walk_at "num"); (intro p H2 hn he hp))
  | ((with_reducible apply Z.w_slLVf); (walk_at "fl"); (walk_at "num"); (intro p H2 hn he hp))
  | ((with_reducible apply Z.w_app); (walk_at "fx"); (walk_at "sz"); (intro H2 hp hnl hk ho); (try (have hke := Z.kmut hk (by with_reducible assumption) inferInstance; clear hk)))
  | ((with_reducible apply Z.w_ext); (walk_at "fx"); (walk_at "fx"); (walk_at "sz"); (intro H2 hp hnl hk ho); (try (have hke := Z.kmut hk (by with_reducible assumption) inferInstance; clear hk)))
  | ((with_reducible apply Z.w_rep); (walk_at "fx"); (walk_at "num"); (walk_at "num"); (walk_at "num"); (intro p H2 hn he hp))
  | ((with_reducible apply Z.ele); (with_reducible assumption); (walk_at "sz"); (walk_at "ex"))
  | ((with_reducible apply Z.w_tupL); (walk_at "fl"); (intro p H2 hn he hp))
  | ((with_reducible apply Z.w_tupT); (walk_at "ft"))
  | ((with_reducible apply Z.w_listL); (walk_at "fl"); (intro p H2 hn he hp))
  | ((with_reducible apply Z.w_listT); (walk_at "ft"); (intro p H2 hn he hp))
  | ((with_reducible refine Z.w_newT ?_ (fun p H2 hn he hp => ?_)); (walk_at "sz"))
  | ((with_reducible refine Z.w_newL ?_ (fun p H2 hn he hp => ?_)); (walk_at "sz"))
  | ((with_reducible apply Z.w_lenLI); (walk_at "fl"))
  | ((with_reducible apply Z.w_lenTI); (walk_at "ft"))
  | ((with_reducible apply Z.w_lenL); (walk_at "fl"))
  | ((with_reducible apply Z.w_lenT); (walk_at "ft"))
  | ((with_reducible apply Z.w_pow); (exact ⟨by decide, by decide, by decide⟩); (simp only [Int.reduceToNat, Int.reducePow]; exact rfl))
  | ((with_reducible refine Z.w_I (C := Z.CDivZ) ?_ ?_); (walk_at "div"))
  | ((with_reducible refine Z.w_I (C := fun _ j => 0 < j) ?_ ?_); (first | assumption | omega | decide))
  | ((with_reducible apply Z.cgK); (with_reducible assumption); (intro H2 ex2; first | exact trivial | walk_at "fl"); (walk_at "sz"); (focus (intro Dl i x H2 acc hi ec cd hz y; walk_at "go"; done)); (intro p H2 hn he hp); (rotate_left); (exact rfl))
  | ((with_reducible apply Z.w_ixT); (walk_at "ft"); (exact rfl))
  | ((with_reducible apply Z.w_ixL); (walk_at "fl"); (exact rfl))
  | ((with_reducible apply Z.w_ixLN); (walk_at "fl"); (walk_at "nat"); (walk_at "num"); (walk_at "num"))
  | ((with_reducible apply Z.w_ixTN); (walk_at "ft"); (walk_at "nat"); (walk_at "num"); (walk_at "num"))
  | ((with_reducible apply Z.w_ixLI); (walk_at "fi"); (walk_at "nat"); (walk_at "num"); (walk_at "num"))
  | ((with_reducible apply Z.w_ixTI); (walk_at "ti"); (walk_at "nat"); (walk_at "num"); (walk_at "num"))
  | ((with_reducible apply Z.i_L); (walk_at "fl"); (intro J S))
  | ((with_reducible apply Z.i_A); (walk_at "fa"); (intro J S))
  | ((with_reducible apply Z.i_T); (walk_at "ft"); (intro J S))
  | ((with_reducible apply Z.i_E); (walk_at "fl"); (intro J S))
  | ((with_reducible apply Z.i_EA); (walk_at "fa"); (intro J S))
  | ((with_reducible apply Z.i_ZT); (walk_at "ft"); (walk_at "ft"); (walk_at "num"); (intro J S))
  | ((with_reducible apply Z.i_ZL); (walk_at "fl"); (walk_at "fl"); (walk_at "num"); (intro J S))
  | ((with_reducible apply Z.i_ZM); (walk_at "ft"); (walk_at "fl"); (walk_at "num"); (intro J S))
  | ((with_reducible refine Z.i_R1 ?_ ?_ (fun J S => ?_)); (walk_at "num"); (walk_at "num"))
  | ((with_reducible refine Z.i_R2 ?_ (fun J S => ?_)); (exact ⟨by walk_at "num", by walk_at "num", by walk_at "num", by walk_at "num"⟩))
  | ((with_reducible apply Z.w_tyL); (walk_at "fx"))
  | ((with_reducible apply Z.w_set0); (intro p H2 hn he hp))
  | ((with_reducible apply Z.w_tyS); (walk_at "fx"))
  | ((with_reducible apply Z.w_sin); (walk_at "fx"))
  | ((with_reducible apply Z.w_insC); (walk_at "fx"))
  | ((with_reducible apply Or.inl); (walk_at "st2"))
  | ((with_reducible apply Or.inr); (walk_at "st2"))))
local macro_rules | `(tactic| walk_at "go") => `(tactic| repeat (first | walk_at "st1" | walk_at "st2"))
local macro_rules | `(tactic| walk_at "numb") => `(tactic| first | with_reducible assumption | omega | (simp only [List.length_map, List.length_append, List.length_cons, List.length_nil, List.length_range, List.length_take, List.length_drop, List.length_replicate]; omega) | decide | exact rfl)
local macro_rules | `(tactic| walk_at "br") => `(tactic| (first
  | ((with_reducible refine Z.w_decT ?_ ?_); (walk_at "numb"))
  | ((with_reducible refine Z.w_decF ?_ ?_); (walk_at "numb"))
  | ((with_reducible refine Z.w_ndecF ?_ ?_); (walk_at "numb"))
  | ((with_reducible refine Z.w_ndecT ?_ ?_); (walk_at "numb"))))
local macro_rules | `(tactic| walk_at "run") => `(tactic| repeat (first | walk_at "st1" | walk_at "st2" | walk_at "br"))
local macro_rules | `(tactic| walk_at "bt") => `(tactic| (first | with_reducible assumption | ((with_reducible apply Z.bt_mul); (walk_at "bt"); (walk_at "bt")) | ((with_reducible apply Z.bt_add); (walk_at "bt"); (walk_at "bt")) | ((with_reducible apply Z.bt_sub); (walk_at "bt"); (walk_at "bt")) | ((with_reducible apply Z.bt_neg); (walk_at "bt")) | ((with_reducible apply Z.bt_abs); (walk_at "bt")) | ((with_reducible apply R.Sz.den); with_reducible assumption) | ((with_reducible apply R.Sz.num); with_reducible assumption) | (show _ < 2 ^ 64; omega) | (show _ < 2 ^ 200; omega)))
local macro_rules | `(tactic| walk_at "mul") => `(tactic| first | with_reducible assumption | exact Z.CM.of_right (by decide) | exact Z.CM.of_left (by decide) | exact Z.CM.of_right (by omega) | exact Z.CM.of_left (by omega) | ((with_reducible apply Z.cm); (walk_at "bt"); (walk_at "bt"); (first | decide | omega)))
local macro_rules | `(tactic| walk_at "st1") => `(tactic| (first
  | with_reducible refine Z.w_tCM ?_
  | with_reducible refine Z.w_dCM ?_
  | with_reducible refine Z.w_tMkV ?_
  | with_reducible refine Z.w_dMkV ?_
  | with_reducible refine Z.w_tCV ?_
  | ((with_reducible apply Z.w_dCV); (with_reducible assumption); (with_reducible assumption))))
def sp_pivoted (K : PySem.W.Frag) : Sp := fun vs H Q _ => ∃ (l : Addr) (xs : List V) (rows : List (List Int)) (m r c B : Nat) (s : Int), vs = [.ref l, .int r, .int c, .int s] ∧ SqL K H l xs ∧ LLi H xs rows ∧ rows.length ≤ 1000 ∧ m ≤ 1000 ∧ (∀ i, i < rows.length → (rows.getD i []).length = m) ∧ r < rows.length ∧ c < m ∧ 0 < s ∧
  (∀ i j, i < rows.length → j < m → (matI rows i j).natAbs < 2 ^ B) ∧ B + B + 1 ≤ 13400 ∧ ∀ p H' ys, Fr H p → Ex H H' → At H' p (.lst ys) → LLi H' ys (pvL rows m r c s) → Q (.ref p) H'
theorem ok_pivoted (T : Tx P K mg) : FnOk P w K mg base (L2.CX P w) 1 (He.ga K "pivoted") (Z.fdOf K (He.ga K "pivoted")) ["rows", "row", "column", "scale"] (sp_pivoted K) := by
  refine T.F_pivoted.ok sc_pivoted (fun vs H Q E h => ?_) (fun cdv A outer s H vs Q E hr h => ?_)
  · obtain ⟨l, xs, rows, m, r, c, B, s, rfl, _⟩ := h
    rfl
  · obtain ⟨l, xs, rows, m, r, c, B, s, rfl, hl, hL, hr9, hm9, hrl, hrr, hcm, hs0, hB, hB9, k⟩ := h
    have hxl := hL.1
    obtain ⟨rc, g1, g2⟩ := hL.2 r hrr
    have hcl := hrl r hrr
    have hidx : atI xs (r : Int) = some (.ref rc) := by
      unfold atI
      rw [ixN_pos (by omega) (by omega), Int.toNat_natCast]
      exact g1
    refine ⟨_, PSs.nox (pss_cons (ps_set (i := 4) sc_pivoted.nd rfl (Or.inl rfl) (pe_ix (Z.ix (K := K) rfl) (pv 0) (pv 1) (fun _ _ => rfl)))
      (pss_cons (ps_set (i := 5) sc_pivoted.nd rfl (Or.inr rfl) (pe_ix (Z.ix (K := K) rfl) (pv 4) (pv 2) (fun _ _ => rfl)))
      (pss_cons (ps_set (i := 6) sc_pivoted.nd rfl (Or.inl rfl) (pe_lst pa_nil))
      (pss_cons (ps_for PassesOwn.never rfl (pi_enum (by rfl) T.n_enumerate (pa_cons (pv 0) pa_nil)) (pg_tup (by rfl) (pgs_cons (pg_name (i := 7) sc_pivoted.nd rfl (by first | exact Or.inl rfl | exact Or.inr rfl)) (pgs_cons (pg_name (i := 8) sc_pivoted.nd rfl (by first | exact Or.inl rfl | exact Or.inr rfl)) pgs_nil))) (pss_one (ps_if (pt_cmpR (Z.op_eq (K := K) rfl hr.units) (pv 7) (pv 1) (nomark _)) (pss_one (ps_expr (pe_bm PySem.F.plainAttrs_list PySem.F.slot_list_append PySem.F.type_list_append mt_append (pv 6) (pa_cons (pe_callTy (Z.call_list (K := K) rfl) (by rfl) T.n_list (by decide +kernel) (pa_cons (pv 8) pa_nil)) pa_nil)))) (pss_cons (ps_set (i := 9) sc_pivoted.nd rfl (Or.inr rfl) (pe_ix (Z.ix (K := K) rfl) (pv 8) (pv 2) (fun _ _ => rfl)))
      (pss_one (ps_expr (pe_bm PySem.F.plainAttrs_list PySem.F.slot_list_append PySem.F.type_list_append mt_append (pv 6) (pa_cons (pe_lc (own := [("x", 10), ("y", 11)]) (g := (gTup K 2 (gCons (gName 10) (gCons (gName 11) gNil)))) rfl sc_pivoted.nd (Z.pi_zipA (K := K) rfl (by rfl) T.n_zip (pa_cons (pv 8) (pa_cons (pv 4) pa_nil))) (blkOk_by (N := ["rows", "row", "column", "scale", "chosen", "pivot", "after", "at", "line", "factor", "x", "y"]) (sc := defScope s_pivoted) (by decide +kernel)) (fun _ _ _ _ _ => (pg_tup (by rfl) (pgs_cons (pg_name (i := 10) sc_pivoted.nd rfl (by first | exact Or.inl rfl | exact Or.inr rfl)) (pgs_cons (pg_name (i := 11) sc_pivoted.nd rfl (by first | exact Or.inl rfl | exact Or.inr rfl)) pgs_nil)))) (fun _ _ _ _ _ => pts_nil) (fun _ _ _ _ _ => (pe_op Z.op_fdivP (pe_op Z.op_sub (pe_op Z.op_mul (pv 10) (pv 5)) (pe_op Z.op_mul (pv 9) (pv 11))) (pv 3)))) pa_nil))))))))
      (pss_one (ps_ret (pv 6))))))), ?_⟩
    try dsimp only [cxOf, Cx.nox, Cx.wish]
    try (show (_ : TS) _ [some _, some _, some _, some _, none, none, none, none, none, none, none, none] _)
    walk_at "go"
    refine w_ixL hl hidx ?_
    have hgr : ∀ (i : Nat), i < rows.length → ∃ a, xs[i]? = some (.ref a) ∧ At H a (.lst ((rows.getD i []).map V.int)) := hL.2
    have hmr : ∀ j, matI rows r j = (rows.getD r []).getD j 0 := fun j => rfl
    generalize hrd : rows.getD r [] = ch at *
    walk_at "go"
    rename_i p1 H1 hn1 he1 hp1 J S
    have hl1 := he1.l hl
    have hpl : (pvL rows m r c s).length = rows.length := by unfold pvL; rw [List.length_map, List.length_range]
    refine Z.fg S (fun i σ G => ∃ (v7 v8 v9 : Option V) (ys : List V), σ = [some (.ref l), some (.int r), some (.int c), some (.int s), some (.ref rc), some (.int (ch.getD c 0)), some (.ref p1), v7, v8, v9, none, none] ∧ Ex H G ∧ At G p1 (.lst ys) ∧ LLi G ys ((pvL rows m r c s).take i)) ⟨none, none, none, [], rfl, he1, hp1, by rw [List.take_zero]; exact .nil⟩ (fun i σ' G _ ⟨_, _, _, _, _, e, _⟩ => e.l hl) ?_ ?_
    · rintro i y σ' G G2 hi ⟨v7, v8, v9, ys, rfl, eG, hG, hLG⟩ e2 ⟨T0, z, rfl, hT, hz⟩
      have hi2 : i < rows.length := by omega
      obtain ⟨a, ga, gb⟩ := hgr i hi2
      rw [ga] at hz
      cases hz
      have eG2 := eG.trans e2
      have hG2 := e2.get hG
      have hLG2 := hLG.ex e2
      have gb2 := eG2.get gb
      have gc2 := eG2.get g2
      have hil := hrl i hi2
      have hyl : ys.length = i := by rw [hLG.1, List.length_take, hpl]; omega
      have htk := take_snoc (l := pvL rows m r c s) (show i < (pvL rows m r c s).length by omega) []
      have hrow : (pvL rows m r c s).getD i [] = (List.range m).map fun j => pvt (matI rows) r c s i j := by
        unfold pvL
        rw [getD_get _ _ _ (by rw [List.length_map, List.length_range]; exact hi2), List.getElem_map, List.getElem_range]
      have hmi : ∀ j, matI rows i j = (rows.getD i []).getD j 0 := fun j => rfl
      have hBi := fun j hj => hB i j hi2 hj
      have hBr := fun j hj => hB r j hrr hj
      have hpa : p1 ≠ a := fun z => gb.ne (z ▸ hn1) rfl
      rw [htk, hrow]
      clear htk hrow hL hgr hB hG hLG gb g2 hpl
      generalize rows.getD i [] = ri at *
      walk_at "go"
      refine Z.w_dec (fun h => ?_) (fun h => ?_)
      · have hir : i = r := by omega
        subst hir
        walk_at "go"
        rename_i p2 H2 hn2 he2 hp2 H3 hp3 hnl3 ho3 hke3
        have hne : p2 ≠ p1 := fun z => hG2.ne (z ▸ hn2) rfl
        refine ⟨_, _, _, _, rfl, hke3, hp3, ((hLG2.ex he2).of ho3 ((hLG2.ex he2).nself (he2.get hG2))).snoc (ho3 _ _ hne ?_)⟩
        have e : ((List.range m).map fun j => pvt (matI rows) i c s i j) = ri := by
          apply List.ext_getElem
          · rw [List.length_map, List.length_range, hil]
          · intro j h1 h2
            rw [List.getElem_map, List.getElem_range]
            unfold pvt
            rw [if_pos rfl, hmi, getD_get _ _ _ h2]
        rw [e]
        exact hp2
      · have hir : i ≠ r := by omega
        walk_at "go"
        rename_i J2 S2
        refine Z.cgI S2 (fun j => pvt (matI rows) r c s i j) (fun H' e => ⟨by walk_at "fl", by walk_at "fl"⟩) (by rw [List.length_map]; show _ ≤ 16777216; omega) (fun Dl j y G3 hj ec cd hy => ?_) (fun p2 H2 hn2 he2 hp2 => ?_) rfl
        · obtain ⟨T2, y1, y2, rfl, hT2, hy1, hy2⟩ := hy
          obtain ⟨hi1, rfl⟩ := get_int hy1
          obtain ⟨hi2, rfl⟩ := get_int hy2
          have hb1 : (ri.getD j 0).natAbs < 2 ^ B := by rw [← hmi]; exact hBi j (by omega)
          have hb2 : (ri.getD c 0).natAbs < 2 ^ B := by rw [← hmi]; exact hBi c (by omega)
          have hb3 : (ch.getD j 0).natAbs < 2 ^ B := by rw [← hmr]; exact hBr j (by omega)
          have hb4 : (ch.getD c 0).natAbs < 2 ^ B := by rw [← hmr]; exact hBr c (by omega)
          have hdv : CDivZ (ri.getD j 0 * ch.getD c 0 - ri.getD c 0 * ch.getD j 0) s := cdivz hs0 (bt_mono (bt_subL (bt_mul hb1 hb4) (bt_mul hb2 hb3) (Nat.le_refl _) (Nat.le_refl _)) (by omega))
          have e : pvt (matI rows) r c s i j = (ri.getD j 0 * ch.getD c 0 - ri.getD c 0 * ch.getD j 0) / s := by
            unfold pvt
            rw [if_neg hir, hmi, hmi, hmr, hmr]
          rw [e]
          walk_at "go"
        · rw [List.length_map, hil] at hp2
          have hLG3 := hLG2.ex he2
          have hG3 := he2.get hG2
          have hyz : ys.length < 1000 := by omega
          have hne : p2 ≠ p1 := fun z => hG2.ne (z ▸ hn2) rfl
          have eG3 := eG2.trans he2
          clear gb2 gc2 hT
          walk_at "go"
          rename_i H3 hp3 hnl3 ho3 hke3
          refine ⟨_, _, _, _, rfl, hke3, hp3, (hLG3.of ho3 (hLG3.nself hG3)).snoc (ho3 _ _ hne ?_)⟩
          rw [List.map_map] at *
          exact hp2
    · rintro σ' G ⟨v7, v8, v9, ys, rfl, eG, hG, hLG⟩
      rw [hxl, ← hpl, List.take_length] at hLG
      walk_at "go"
      exact k p1 G ys hn1 eG hG hLG

/-- Ratio(t, b) -/
def sp_Ratio___init__ (K : PySem.W.Frag) : Sp := fun vs H Q E => ∃ (x dx : Addr) (t b : Int), vs = [.ref x, .int t, .int b] ∧ At H x (.ins (He.ga K "Ratio") dx []) ∧ b.natAbs < 2 ^ 13400 ∧ t.natAbs < 2 ^ 13400 ∧
  (b = 0 → E (.ref (He.ga K "ZeroBottom")) none H) ∧ (b ≠ 0 → ∀ H', (∀ c o, c ≠ x → At H c o → At H' c o) → (∀ c, Fr H' c → Fr H c) → At H' x (.ins (He.ga K "Ratio") dx (rF (Rat.divInt t b).num (Rat.divInt t b).den)) → Q .non H')
theorem ok_Ratio___init__ (T : Tx P K mg) : FnOk P w K mg base (L2.CX P w) 1 (He.ma K (He.ga K "Ratio") "__init__") (Z.fdOf K (He.ma K (He.ga K "Ratio") "__init__")) ["self", "top", "bottom"] (sp_Ratio___init__ K) := by
  refine T.F_Ratio___init__.ok sc_Ratio___init__ (fun vs H Q E h => ?_) (fun cdv A outer s H vs Q E hr h => ?_)
  · obtain ⟨x, dx, t, b, rfl, _⟩ := h
    rfl
  · obtain ⟨x, dx, t, b, rfl, hx, hsz, hst, hE, k⟩ := h
    have cl := T.o_Ratio.cl
    have na1 := T.na_Ratio_top
    have na2 := T.na_Ratio_bottom
    refine ⟨_, (pss_cons (ps_if (pt_cmpR (Z.op_eq (K := K) rfl hr.units) (pv 2) pe_int (nomark _)) (pss_one (ps_raise rfl (takes_of rfl rfl rfl rfl) (pmk_own PySem.F.excBase_ValueError T.x_ZeroBottom.1 T.g_ZeroBottom T.x_ZeroBottom.2.1 (raises_own T.x_ZeroBottom.2.2.1 T.x_ZeroBottom.2.2.2) (by exact rfl)))) pss_nil)
      (C8.pss_cut (ps_if (pt_cmpR Z.op_lt (pv 2) pe_int (nomark _)) (pss_one (ps_par (i := 1) (j := 2) (by rfl) sc_Ratio___init__.nd rfl rfl (by decide) rfl rfl (pa_cons (pe_un Z.un_neg (pv 1)) (pa_cons (pe_un Z.un_neg (pv 2)) pa_nil)) (by rfl))) pss_nil)
      (pss_cons (ps_set (i := 3) sc_Ratio___init__.nd rfl (Or.inl rfl) (pe_callBfun cr_gcd (by rfl) T.m_gcd (pa_cons (pv 1) (pa_cons (pv 2) pa_nil))))
      (pss_cons (ps_fld (pv 0) (pe_op Z.op_fdivP (pv 1) (pv 3)) rfl)
      (pss_one (ps_fld (pv 0) (pe_op Z.op_fdivP (pv 2) (pv 3)) rfl)))))), ?_⟩
    try dsimp only [cxOf, Cx.nox, Cx.wish]
    try (show (_ : TS) _ [some _, some _, some _, none] _)
    walk_at "go"
    refine Z.w_dec (fun hb => hE hb) (fun hb => ?_)
    have kk := k hb
    walk_at "go"
    refine Z.w_cut (fun σ G => ∃ t' b' : Int, 0 < b' ∧ b'.natAbs < 2 ^ 13400 ∧ t'.natAbs < 2 ^ 13400 ∧ Rat.divInt t b = Rat.divInt t' b' ∧ G = H ∧ σ = [some (.ref x), some (.int t'), some (.int b'), none]) ?_ ?_
    · walk_at "go"
      refine Z.w_dec (fun hc => ?_) (fun hc => ?_)
      · walk_at "go"
        exact ⟨-t, -b, by omega, by rw [Int.natAbs_neg]; exact hsz, by rw [Int.natAbs_neg]; exact hst, (Rat.neg_divInt_neg t b).symm, rfl, rfl⟩
      · walk_at "go"
        exact ⟨t, b, by omega, hsz, hst, rfl, rfl, rfl⟩
    rintro σ G ⟨t', b', hb0, hb1, ht1, he, rfl, rfl⟩
    rw [he, div_num hb0, div_den hb0] at kk
    have hg0 : 0 < Nat.gcd t'.natAbs b'.natAbs := Nat.gcd_pos_of_pos_right _ (by omega)
    have hg1 : Nat.gcd t'.natAbs b'.natAbs ≤ b'.natAbs := Nat.gcd_le_right _ (by omega)
    have hd1 : CDivZ t' ((Nat.gcd t'.natAbs b'.natAbs : Nat) : Int) := cdivz (by omega) ht1
    have hd2 : CDivZ b' ((Nat.gcd t'.natAbs b'.natAbs : Nat) : Int) := cdivz (by omega) hb1
    walk_at "go"
    refine Z.w_dSF hx cl na1 (by decide) fun H2 h2 o2 f2 => ?_
    walk_at "go"
    refine Z.w_dSF h2 cl na2 (by show 1 < 1000; decide) fun H3 h3 o3 f3 => ?_
    walk_at "go"
    exact kk H3 (fun c o hc e => o3 c o hc (o2 c o hc e)) (fun c e => f2 c (f3 c e)) (by rw [rF_put] at h3; exact h3)
/-- Ratio(t, b) as a new object -/
theorem mkR {H : Hp} {Q : VK} {E : XK} {t b : Int} {n m : Nat} (ht : t.natAbs < 2 ^ n) (hs : b.natAbs < 2 ^ m) (hn : max n m ≤ 13400) (hb : b ≠ 0) (q : ∀ p H', Fr H p → Ex H H' → RN (He.ga K "Ratio") H' p (Rat.divInt t b) (max n m) → Q (.ref p) H') :
    dMk (He.ga K "Ratio") (sp_Ratio___init__ K) (([V.int 1] : List V).drop 1) E Q [.int t, .int b] H :=
  w_dMk fun p dx H2 nw => ⟨p, dx, t, b, rfl, nw.at_, up9 hs (by omega), up9 ht (by omega), fun z => absurd z hb, fun _ H' h1 _ h3 =>
    have z := mk_rat nw h1 h3 (sz_div hb (bt_mono ht (Nat.le_max_left n m)) (bt_mono hs (Nat.le_max_right n m))) hn
    ⟨rfl, q p H' nw.new z.1 z.2⟩⟩
/-- Ratio(t) as a new object -/
theorem mkR1 {H : Hp} {Q : VK} {E : XK} {t : Int} {n : Nat} (ht : t.natAbs < 2 ^ n) (hn : n + 1 ≤ 13400) (q : ∀ p H', Fr H p → Ex H H' → RN (He.ga K "Ratio") H' p (t : Rat) (n + 1) → Q (.ref p) H') :
    dMk (He.ga K "Ratio") (sp_Ratio___init__ K) (([V.int 1] : List V).drop 0) E Q [.int t] H :=
  w_dMk fun p dx H2 nw => ⟨p, dx, t, 1, rfl, nw.at_, by rw [show (1 : Int).natAbs = 1 from rfl]; exact Nat.one_lt_two_pow (by decide), up9 ht (by omega), fun z => absurd z (by decide), fun _ H' h1 _ h3 =>
    have z := mk_rat (q := (t : Rat)) nw h1 (by rw [div1]; exact h3) (sz_int ht) hn
    ⟨rfl, q p H' nw.new z.1 z.2⟩⟩
/-- Ratio(t, 0) raises -/
theorem mkR0 {H : Hp} {Q : VK} {E : XK} {t b : Int} (hb : b = 0) (ht : t.natAbs < 2 ^ 13400) (q : ∀ H', Ex H H' → E (.ref (He.ga K "ZeroBottom")) none H') :
    dMk (He.ga K "Ratio") (sp_Ratio___init__ K) (([V.int 1] : List V).drop 1) E Q [.int t, .int b] H :=
  w_dMk fun p dx H2 nw => ⟨p, dx, t, b, rfl, nw.at_, by rw [hb]; exact Nat.pow_pos (by decide), ht, fun _ => q _ nw.ex, fun z => absurd hb z⟩
local macro_rules | `(tactic| walk_at "call") => `(tactic| ((with_reducible apply R.mkR); (walk_at "bt"); (walk_at "bt"); (first | decide | omega); (first | with_reducible assumption | omega); (intro p H2 hn he hr)))
local macro_rules | `(tactic| walk_at "call") => `(tactic| ((with_reducible apply R.mkR1); (walk_at "bt"); (first | decide | omega); (intro p H2 hn he hr)))

def sp_solve (K : PySem.W.Frag) : Sp := fun vs H Q _ => ∃ (l r : Addr) (xs : List V) (rows : List (List Int)) (rt : List Int) (B : Nat), vs = [.ref l, .ref r] ∧ SqL K H l xs ∧ LLi H xs rows ∧ SqL K H r (rt.map V.int) ∧ rows.length ≤ 8 ∧ rt.length = rows.length ∧ (∀ i, i < rows.length → (rows.getD i []).length = rows.length) ∧
  (∀ i j, i < rows.length → j < rows.length + 1 → (augI rows rt i j).natAbs < 2 ^ B) ∧ 33 + 16 * B ≤ 13400 ∧ Mon rows.length (augI rows rt) ∧
  ∀ p H' ys, Fr H p → Ex H H' → At H' p (.lst ys) → RL (He.ga K "Ratio") H' ys (slQ rows rt) (16 + 8 * B) → Q (.ref p) H'
theorem ok_solve (T : Tx P K mg) : FnOk P w K mg base (L2.CX P w) 3 (He.ga K "solve") (Z.fdOf K (He.ga K "solve")) ["rows", "right"] (sp_solve K) := by
  refine T.F_solve.ok sc_solve (fun vs H Q E h => ?_) (fun cdv A outer s H vs Q E hr h => ?_)
  · obtain ⟨l, r, xs, rows, rt, B, rfl, _⟩ := h
    rfl
  · obtain ⟨l, r, xs, rows, rt, B, rfl, hl, hL, hr', hn8, hrt, hrl, hB, hB9, hM, k⟩ := h
    have hxl := hL.1
    have hQ : slQ rows rt = (List.range rows.length).map fun i => Rat.divInt ((slT (augI rows rt) rows.length).1 i rows.length) (slT (augI rows rt) rows.length).2 := rfl
    have h0 : ∀ i, i < rows.length → (List.range (rows.length + 1)).map (fun j => (slT (augI rows rt) 0).1 i j) = rows.getD i [] ++ [rt.getD i 0] := fun i hi => by
      have h1 := hrl i hi
      apply List.ext_getElem
      · rw [List.length_map, List.length_range, List.length_append, h1]; rfl
      · intro j h2 h3
        rw [List.getElem_map, List.getElem_range, List.getElem_append]
        show augI rows rt i j = _
        unfold augI matI
        rw [List.length_map, List.length_range] at h2
        by_cases e : j < rows.length
        · rw [if_pos e, dif_pos (by omega), getD_get _ _ _ (by omega)]
        · rw [if_neg e, dif_neg (by omega)]; simp
    have hbits := fun k i j => slT_bits hn8 hM.reg hB (k := k) (i := i) (j := j)
    have hpos := fun k => slT_pos (m := rows.length + 1) (by omega) hM k
    have hg := hL.2
    obtain ⟨ds3_Ratio___init__, vd3_Ratio___init__, bd3_Ratio___init__⟩ := T.b3_Ratio___init__
    refine ⟨_, PSs.nox (pss_cons (ps_set (i := 2) sc_solve.nd rfl (Or.inr rfl) (pe_callB (Z.call_len (K := K) rfl) (by rfl) T.n_len (by decide +kernel) (pa_cons (pv 0) pa_nil)))
      (pss_cons (ps_setLc (i := 3) (own := [("line", 7), ("last", 8)]) (g := (gTup K 2 (gCons (gName 7) (gCons (gName 8) gNil)))) rfl sc_solve.nd rfl rfl (sw_true rfl rfl rfl (by decide +kernel)) (Z.pi_zipA (K := K) rfl (by rfl) T.n_zip (pa_cons (pv 0) (pa_cons (pv 1) pa_nil))) (blkOk_by (N := ["rows", "right", "size", "table", "scale", "at", "other", "line", "last"]) (sc := defScope s_solve) (by decide +kernel)) (fun _ _ _ _ _ => (pg_tup (by rfl) (pgs_cons (pg_name (i := 7) sc_solve.nd rfl (by first | exact Or.inl rfl | exact Or.inr rfl)) (pgs_cons (pg_name (i := 8) sc_solve.nd rfl (by first | exact Or.inl rfl | exact Or.inr rfl)) pgs_nil)))) (fun _ _ _ _ _ => pts_nil) (fun _ _ _ _ _ => (pe_op Z.op_add (pe_callTy (Z.call_list (K := K) rfl) (by rfl) T.n_list (by decide +kernel) (pa_cons (pv 7) pa_nil)) (pe_lst (pa_cons (pv 8) pa_nil)))))
      (pss_cons (ps_set (i := 4) sc_solve.nd rfl (Or.inr rfl) pe_int)
      (pss_cons (ps_for PassesOwn.never rfl (pi_range1 (by rfl) T.n_range (pa_cons (pv 2) pa_nil)) (pg_name (i := 5) sc_solve.nd rfl (by first | exact Or.inl rfl | exact Or.inr rfl)) (pss_cons (ps_set (i := 6) sc_solve.nd rfl (Or.inl rfl) (pv 5))
      (pss_cons (ps_while PassesOwn.never (pt_cmpR (Z.op_eq (K := K) rfl hr.units) (pe_ix (Z.ix (K := K) rfl) (pe_ix (Z.ix (K := K) rfl) (pv 3) (pv 6) (fun _ _ => rfl)) (pv 5) (fun _ _ => rfl)) pe_int (nomark _)) (pss_one (ps_aug (i := 6) sc_solve.nd rfl (Or.inl rfl) pe_int ip_add)))
      (pss_cons (ps_asg (pe_tup (pa_cons (pe_ix (Z.ix (K := K) rfl) (pv 3) (pv 6) (fun _ _ => rfl)) (pa_cons (pe_ix (Z.ix (K := K) rfl) (pv 3) (pv 5) (fun _ _ => rfl)) pa_nil))) (pg_tup (by rfl) (pgs_cons (pg_sub (pv 3) (pv 5) set_list) (pgs_cons (pg_sub (pv 3) (pv 6) set_list) pgs_nil))))
      (pss_cons (ps_set (i := 3) sc_solve.nd rfl (Or.inl rfl) (pe_call (ok_pivoted T) (hr.mono (by decide)) (by rfl) T.g_pivoted T.F_pivoted.kp T.b_pivoted .nil passL (pa_cons (pv 3) (pa_cons (pv 5) (pa_cons (pv 5) (pa_cons (pv 4) pa_nil))))))
      (pss_one (ps_set (i := 4) sc_solve.nd rfl (Or.inr rfl) (pe_ix (Z.ix (K := K) rfl) (pe_ix (Z.ix (K := K) rfl) (pv 3) (pv 5) (fun _ _ => rfl)) (pv 5) (fun _ _ => rfl)))))))))
      (pss_one (ps_ret (pe_lc (own := [("line", 7)]) rfl sc_solve.nd (Z.piL (K := K) rfl (pv 3)) (blkOk_by (N := ["rows", "right", "size", "table", "scale", "at", "other", "line", "last"]) (sc := defScope s_solve) (by decide +kernel)) (fun _ _ _ _ _ => (pg_name (i := 7) sc_solve.nd rfl (by first | exact Or.inl rfl | exact Or.inr rfl))) (fun _ _ _ _ _ => pts_nil) (fun _ _ _ _ _ => (pe_make T.mk_Ratio (ok_Ratio___init__ T) (hr.mono (by decide)) (by rfl) T.g_Ratio bd3_Ratio___init__ vd3_Ratio___init__ passL (pa_cons (pe_ix (Z.ix (K := K) rfl) (pv 7) (pv 2) (fun _ _ => rfl)) (pa_cons (pv 4) pa_nil))))))))))), ?_⟩
    try dsimp only [cxOf, Cx.nox, Cx.wish]
    try (show (_ : TS) _ [some _, some _, none, none, none, none, none, none, none] _)
    walk_at "go"
    rename_i J S
    generalize hA : augI rows rt = A at *
    have htl := fun k => tabL_len A rows.length k
    have hst := fun k => tabL_step (A := A) (n := rows.length) (k := k)
    have hto := fun k i j hi hj => mat_of (n := rows.length) (m := rows.length + 1) (f := fun i j => (slT A k).1 i j) (i := i) (j := j) hi hj
    have htr := fun k i hi => row_of (n := rows.length) (m := rows.length + 1) (f := fun i j => (slT A k).1 i j) (i := i) hi
    refine Z.cgX S (fun i acc G => LLi G acc ((tabL A rows.length 0).take i)) (fun H' e => LLi.nil) (fun k acc Ga Gb h e => h.ex e) (fun H' e => ⟨e.l hl, e.l hr'⟩) (by rw [hxl]; show _ ≤ 16777216; omega) (fun Dl i y G3 acc hi ec cd hal hP hy => ?_) (fun p2 H2 acc hn2 he2 hp2 hal2 hP2 => ?_) rfl
    · obtain ⟨T2, y1, y2, rfl, hT2, hy1, hy2⟩ := hy
      have hi1 : i < rows.length := by omega
      obtain ⟨a, ga, gb⟩ := hg i hi1
      rw [ga] at hy1
      cases hy1
      obtain ⟨hi2, rfl⟩ := get_int hy2
      have gb2 := ec.get gb
      have h0i := h0 i hi1
      have hil := hrl i hi1
      have htk := take_snoc (l := tabL A rows.length 0) (show i < (tabL A rows.length 0).length by rw [htl]; exact hi1) []
      rw [show (tabL A rows.length 0).getD i [] = rows.getD i [] ++ [rt.getD i 0] from (htr 0 i hi1).trans h0i] at htk
      generalize rows.getD i [] = ri at *
      walk_at "go"
      rename_i pa Ha hna hea hpa pb Hb hnb heb hpb pc Hc hnc hec hpc
      have eab := (hea.trans heb).trans hec
      exact elxL (fun i => (tabL A rows.length 0).take i) cd hal (by rw [hal]; show i < 16777216; omega) eab hP htk (by rw [List.map_append]; exact hpc) (fun z => ((hea.trans heb).get cd.at_).ne (z ▸ hnc) rfl)
    rw [hxl, List.take_of_length_le (Nat.le_of_eq (htl 0))] at hP2
    clear hg h0 S J hrl
    walk_at "go"
    rename_i J S
    rw [Int.toNat_natCast] at S
    refine Z.fg S (fun i σ G => ∃ (v5 v6 : Option V) (t : Addr) (ys : List V), σ = [some (.ref l), some (.ref r), some (.int xs.length), some (.ref t), some (.int (slT A i).2), v5, v6, none, none] ∧ Ex H G ∧ Fr H t ∧ At G t (.lst ys) ∧ LLi G ys (tabL A rows.length i)) ⟨none, none, p2, acc, rfl, he2, hn2, hp2, hP2⟩ (fun i σ' G _ _ => trivial) ?_ ?_
    · rintro i y σ' G G2 hi ⟨v5, v6, t, ys, rfl, eG, ht, hG, hLG⟩ e2 rfl
      have hi1 : i < rows.length := by omega
      have hG2 := e2.get hG
      have hLG2 := hLG.ex e2
      have eG2 := eG.trans e2
      have hyl : ys.length = rows.length := by rw [hLG2.1, htl]
      obtain ⟨a, ga, gb⟩ := hLG2.2 i (by rw [htl]; exact hi1)
      have hns := hLG2.nself hG2
      have hat : t ≠ a := fun z => hns (by rw [z]; exact List.mem_of_getElem? ga)
      have hidx : atI ys (i : Int) = some (.ref a) := by
        unfold atI
        rw [ixN_pos (by omega) (by omega), Int.toNat_natCast]
        exact ga
      have hset : ys.set i (.ref a) = ys := by
        obtain ⟨q1, q2⟩ := List.getElem?_eq_some_iff.mp ga
        rw [← q2, List.set_getElem_self]
      have hp1 := hpos (i + 1) (by omega)
      have hpi : ((tabL A rows.length i).getD i []).getD i 0 = (slT A (i + 1)).2 := hto i i i hi1 (by omega)
      have hil : ((tabL A rows.length i).getD i []).length = rows.length + 1 := by rw [show (tabL A rows.length i).getD i [] = _ from htr i i hi1]; rw [List.length_map, List.length_range]
      clear hG hLG hp2 hP2
      generalize htir : (tabL A rows.length i).getD i [] = ti at *
      walk_at "go"
      refine Z.w_while (fun m σ G' => m = 0 ∧ σ = [some (.ref l), some (.ref r), some (.int xs.length), some (.ref t), some (.int (slT A i).2), some (.int (i : Nat)), some (.int (i : Nat)), none, none] ∧ G' = G2) 0 ⟨rfl, rfl, rfl⟩ ?_
      rintro m σ' G' ⟨rfl, rfl, rfl⟩
      walk_at "go"
      refine w_ixL (sq_of hG2) hidx ?_
      walk_at "go"
      rw [hpi, decide_eq_false (show ¬ (slT A (i + 1)).2 = 0 by omega)]
      walk_at "go"
      refine w_ixL (sq_of hG2) hidx ?_
      walk_at "go"
      refine w_ixL (sq_of hG2) hidx ?_
      walk_at "go"
      rename_i p4 H4 hn4 he4 hp4 H5 hp5 hnl5 ho5 hke5
      rw [Int.toNat_natCast, hset] at hp5
      have hLG4 := hLG2.ex he4
      have hLG5 := hLG4.of ho5 hns
      clear hp4 hG2 hLG2 hLG4 hnl5 ho5
      walk_at "go"
      rename_i H6 hp6 hnl6 ho6 hke6
      rw [Int.toNat_natCast, hset] at hp6
      have hLG6 := hLG5.of ho6 hns
      clear hp5 hLG5 hnl6 ho6 gb
      walk_at "go"
      refine ⟨t, ys, tabL A rows.length i, rows.length + 1, i, i, 16 + 8 * B, (slT A i).2, rfl, sq_of hp6, hLG6, by rw [htl]; omega, by omega, fun q hq => ?_, by rw [htl]; exact hi1, by omega, hpos i (by omega), fun p q hp hq => ?_, by omega, fun p7 H7 zs hn7 he7 hp7 hL7 => ?_⟩
      · rw [htl] at hq
        rw [show (tabL A rows.length i).getD q [] = _ from htr i q hq, List.length_map, List.length_range]
      · rw [htl] at hp
        rw [show matI (tabL A rows.length i) p q = _ from hto i p q hp hq]
        exact hbits i p q (by omega) hp hq
      rw [hst i hi1] at hL7
      have hzl : zs.length = rows.length := by rw [hL7.1, htl]
      obtain ⟨a7, ga7, gb7⟩ := hL7.2 i (by rw [htl]; exact hi1)
      have hidx7 : atI zs (i : Int) = some (.ref a7) := by
        unfold atI
        rw [ixN_pos (by omega) (by omega), Int.toNat_natCast]
        exact ga7
      have hp7' : ((tabL A rows.length (i + 1)).getD i []).getD i 0 = (slT A (i + 1)).1 i i := hto (i + 1) i i hi1 (by omega)
      have hpv : (slT A (i + 1)).1 i i = (slT A (i + 1)).2 := by
        show pvt _ i i _ i i = (slT A i).1 i i
        unfold pvt
        rw [if_pos rfl]
      have hi7 : ((tabL A rows.length (i + 1)).getD i []).length = rows.length + 1 := by rw [show (tabL A rows.length (i + 1)).getD i [] = _ from htr (i + 1) i hi1]; rw [List.length_map, List.length_range]
      rw [hpv] at hp7'
      clear hp6 hLG6
      generalize (tabL A rows.length (i + 1)).getD i [] = t7 at *
      walk_at "go"
      refine w_ixL (sq_of hp7) hidx7 ?_
      walk_at "go"
      rw [hp7']
      exact ⟨_, _, p7, zs, rfl, hke6.trans he7, hke6.back hn7, hp7, hL7⟩
    · rintro σ' G ⟨v5, v6, t, ys, rfl, eG, ht, hG, hLG⟩
      rw [hxl] at *
      have hyl : ys.length = rows.length := by rw [hLG.1, htl]
      have hp9 := hpos rows.length (Nat.le_refl _)
      clear hst hto
      walk_at "go"
      rename_i J2 S2
      refine Z.cgX S2 (fun i acc G' => RL (He.ga K "Ratio") G' acc ((slQ rows rt).take i) (16 + 8 * B)) (fun H' e => by rw [List.take_zero]; exact RL.nil) (fun k acc Ga Gb h e => h.ex e) (fun H' e => e.l (sq_of hG)) (by rw [hyl]; show _ ≤ 16777216; omega) (fun Dl i y G3 acc hi ec cd hal hP hy => ?_) (fun p3 H3 acc hn3 he3 hp3 hal3 hP3 => ?_) rfl
      · have hi1 : i < rows.length := by omega
        obtain ⟨a, ga, gb⟩ := hLG.2 i (by rw [htl]; exact hi1)
        rw [show (tabL A rows.length rows.length).getD i [] = _ from htr rows.length i hi1] at gb
        rw [ga] at hy
        cases hy
        have gb2 := ec.get gb
        have hb1 := hbits rows.length i rows.length (Nat.le_refl _) hi1 (by omega)
        have hb2 : ((slT A rows.length).2).natAbs < 2 ^ (16 + 8 * B) := by
          by_cases e : rows.length = 0
          · rw [e]
            show (1 : Int).natAbs < _
            exact Nat.one_lt_two_pow (by omega)
          · obtain ⟨q, hq⟩ : ∃ q, rows.length = q + 1 := ⟨rows.length - 1, by omega⟩
            rw [show slT A rows.length = slT A (q + 1) by rw [hq]]
            exact hbits q q q (by omega) (by omega) (by omega)
        have hgi : ((List.range (rows.length + 1)).map fun j => (slT A rows.length).1 i j).getD rows.length 0 = (slT A rows.length).1 i rows.length := by
          rw [getD_get _ _ _ (by rw [List.length_map, List.length_range]; omega), List.getElem_map, List.getElem_range]
        have hgl : ((List.range (rows.length + 1)).map fun j => (slT A rows.length).1 i j).length = rows.length + 1 := by rw [List.length_map, List.length_range]
        clear gb
        generalize ((List.range (rows.length + 1)).map fun j => (slT A rows.length).1 i j) = ri at *
        have hnz : (slT A rows.length).2 ≠ 0 := by omega
        rw [← hgi] at hb1
        have hqi : (slQ rows rt).getD i 0 = Rat.divInt (ri.getD rows.length 0) (slT A rows.length).2 := by
          rw [hQ, hgi, getD_get _ _ _ (by rw [List.length_map, List.length_range]; exact hi1), List.getElem_map, List.getElem_range]
        have hql : (slQ rows rt).length = rows.length := by rw [hQ, List.length_map, List.length_range]
        walk_at "go"
        rename_i p4 H4 hn4 he4 hr4
        refine Z.elx cd hal (by rw [hal]; show i < 16777216; omega) he4 fun H5 hnl => ?_
        rw [take_snoc (by omega) 0, hqi]
        exact ((hP.ex he4).nl hnl).snoc ((hr4.eq rfl (by omega) (by omega)).nl hnl)
      · have hql : (slQ rows rt).length = rows.length := by rw [hQ, List.length_map, List.length_range]
        rw [hyl, ← hql, List.take_length] at hP3
        walk_at "go"
        exact k p3 H3 acc (eG.back hn3) (eG.trans he3) hp3 hP3

def sp_check_lot (K : PySem.W.Frag) : Sp := fun vs H Q E => ∃ (a : Addr) (lot : List Int) (n : Int), vs = [.ref a, .int n] ∧ SqT K H a (lot.map V.int) ∧ (¬ IsLot n lot → ∀ H', Ex H H' → E (.ref (He.ga K "BadLot")) none H') ∧ (IsLot n lot → ∀ H', Ex H H' → Q .non H')
theorem ok_check_lot (T : Tx P K mg) : FnOk P w K mg base (L2.CX P w) 1 (He.ga K "check_lot") (Z.fdOf K (He.ga K "check_lot")) ["lot", "many"] (sp_check_lot K) := by
  refine T.F_check_lot.ok sc_check_lot (fun vs H Q E h => ?_) (fun cdv A outer s H vs Q E hr h => ?_)
  · obtain ⟨a, lot, n, rfl, _⟩ := h
    rfl
  · obtain ⟨a, lot, n, rfl, ha, hE, k⟩ := h
    rw [isLot_iff] at hE k
    refine ⟨_, (pss_cons (ps_set (i := 2) sc_check_lot.nd rfl (Or.inl rfl) (pe_un Z.un_neg pe_int))
      (pss_one (ps_for (passes_of rfl) rfl (Z.piT (K := K) rfl (pv 0)) (pg_name (i := 3) sc_check_lot.nd rfl (by first | exact Or.inl rfl | exact Or.inr rfl)) (pss_cons (ps_if (PW.pt (pw_or (pt_cmpR Z.op_le (pv 3) (pv 2) (nomark _)) (pw_or1 (pt_cmpR Z.op_ge (pv 3) (pv 1) (nomark _))))) (pss_one (ps_raise rfl (takes_of rfl rfl rfl rfl) (pmk_own PySem.F.excBase_ValueError T.x_BadLot.1 T.g_BadLot T.x_BadLot.2.1 (raises_own T.x_BadLot.2.2.1 T.x_BadLot.2.2.2) (by exact rfl)))) pss_nil)
      (pss_one (ps_set (i := 2) sc_check_lot.nd rfl (Or.inl rfl) (pv 3))))))), ?_⟩
    try dsimp only [cxOf, Cx.nox, Cx.wish]
    try (show (_ : TS) _ [some _, some _, none, none] _)
    walk_at "go"
    rename_i J S
    refine Z.fg S (fun i σ G => ∃ (b : Int) (v : Option V), σ = [some (.ref a), some (.int n), some (.int b), v] ∧ Ex H G ∧ (okFrom n b (lot.drop i) ↔ okFrom n (-1) lot)) ⟨-1, none, rfl, Ex.refl H, Iff.rfl⟩ (fun i σ' G _ ⟨_, _, _, e, _⟩ => e.t ha) ?_ ?_
    · rintro i y σ' G G2 hi ⟨b, v, rfl, eG, hiff⟩ e2 hy
      obtain ⟨hi2, rfl⟩ := get_int hy
      rw [List.drop_eq_getElem_cons hi2, ← getD_get lot i 0 hi2] at hiff
      have hiff : (b < lot.getD i 0 ∧ lot.getD i 0 < n ∧ okFrom n (lot.getD i 0) (lot.drop (i + 1))) ↔ okFrom n (-1) lot := hiff
      walk_at "go"
      refine Z.w_dec (fun h => ?_) (fun h => ?_)
      · walk_at "go"
        exact hE (fun z => by have := hiff.mpr z; omega) _ (by walk_at "ex")
      · walk_at "go"
        refine Z.w_dec (fun h' => ?_) (fun h' => ?_)
        · walk_at "go"
          exact hE (fun z => by have := hiff.mpr z; omega) _ (by walk_at "ex")
        · walk_at "go"
          exact ⟨_, _, rfl, eG.trans e2, ⟨fun z => hiff.mp ⟨by omega, by omega, z⟩, fun z => (hiff.mpr z).2.2⟩⟩
    · rintro σ' G ⟨b, v, rfl, eG, hiff⟩
      rw [List.length_map, List.drop_length] at hiff
      walk_at "go"
      exact k (hiff.mp trivial) G eG

theorem ok_BadNumber___init__ (T : Tx P K mg) : FnOk P w K mg base (L2.CX P w) 1 (He.ma K (He.ga K "BadNumber") "__init__") (Z.fdOf K (He.ma K (He.ga K "BadNumber") "__init__")) ["self", "what", "at"] (Z.spX (He.ga K "BadNumber") ["what", "at"]) := by
  refine Z.FunS.ok (x0 := "self") T.F_BadNumber___init__ sc_BadNumber___init__ (by decide +kernel) rfl rfl rfl (by decide +kernel) (by decide +kernel) T.p_top T.n_super T.c_BadNumber (fun vs H Q E h => ?_) (fun cc cda A outer s H vs Q E hr h S => ?_)
  · obtain ⟨a, ws, rfl, hl, _⟩ := h
    simpa using hl
  · obtain ⟨a, ws, rfl, hl, ha, k⟩ := h
    obtain ⟨v1, v2, rfl⟩ : ∃ v1 v2, ws = [v1, v2] := by
      match ws, hl with
      | [v1, v2], _ => exact ⟨v1, v2, rfl⟩
    refine ⟨_, _, Z.ps_supE (Z.pe_supX S T.mro_BadNumber_BadNumber T.third T.si_BadNumber.1 T.si_BadNumber.2.1 (pa_cons pe_str pa_nil)), (pss_cons (ps_ost (pv 0) (pv 1)) (pss_one (ps_ost (pv 0) (pv 2)))), ?_⟩
    refine ⟨a, rfl, T.oe_BadNumber, ha, by decide, ha, ?_⟩
    refine ⟨_, rfl, _, rfl, a, He.ga K "BadNumber", rfl, T.oe_BadNumber, T.nf_BadNumber_what, .inl ⟨ha, fun dx hd hne => ?_⟩⟩
    refine ⟨_, rfl, _, rfl, a, He.ga K "BadNumber", rfl, T.oe_BadNumber, T.nf_BadNumber_at, .inr ⟨dx, _, upd_same, by rw [upd_ne hne, upd_same], by simp, ?_⟩⟩
    rw [Z.upd_swap hne]
    exact k dx hd hne

def sp_check_prices (K : PySem.W.Frag) : Sp := fun vs H Q E => ∃ (a : Addr) (ps : List Int) (n : Int), vs = [.ref a, .int n] ∧ SqL K H a (ps.map V.int) ∧ PErr K n ps E H ∧ (PricesOk n ps → ∀ H', Ex H H' → Q .non H')
theorem ok_check_prices (T : Tx P K mg) : FnOk P w K mg base (L2.CX P w) 3 (He.ga K "check_prices") (Z.fdOf K (He.ga K "check_prices")) ["prices", "many"] (sp_check_prices K) := by
  refine T.F_check_prices.ok sc_check_prices (fun vs H Q E h => ?_) (fun cdv A outer s H vs Q E hr h => ?_)
  · obtain ⟨a, ps, n, rfl, _⟩ := h
    rfl
  · obtain ⟨a, ps, n, rfl, ha, hE, k⟩ := h
    refine ⟨_, (pss_cons (ps_if (pt_cmpR (Z.op_ne (K := K) rfl hr.units) (pe_callB (Z.call_len (K := K) rfl) (by rfl) T.n_len (by decide +kernel) (pa_cons (pv 0) pa_nil)) (pv 1) (nomark _)) (pss_one (Z.ps_raiseZ rfl (takes_of rfl rfl rfl rfl) (pmk_oex T.oe_BadNumber T.si_BadNumber.2.2.1 T.si_BadNumber.2.2.2 (ok_BadNumber___init__ T) (hr.mono (by decide)) T.b_BadNumber___init__ .nil passL (by rfl) T.g_BadNumber (pa_cons pe_str (pa_cons pe_non pa_nil))))) pss_nil)
      (pss_one (ps_for (passes_of rfl) rfl (pi_enum (by rfl) T.n_enumerate (pa_cons (pv 0) pa_nil)) (pg_tup (by rfl) (pgs_cons (pg_name (i := 2) sc_check_prices.nd rfl (by first | exact Or.inl rfl | exact Or.inr rfl)) (pgs_cons (pg_name (i := 3) sc_check_prices.nd rfl (by first | exact Or.inl rfl | exact Or.inr rfl)) pgs_nil))) (pss_one (ps_if (pt_cmpR Z.op_lt (pv 3) pe_int (nomark _)) (pss_one (Z.ps_raiseZ rfl (takes_of rfl rfl rfl rfl) (pmk_oex T.oe_BadNumber T.si_BadNumber.2.2.1 T.si_BadNumber.2.2.2 (ok_BadNumber___init__ T) (hr.mono (by decide)) T.b_BadNumber___init__ .nil passL (by rfl) T.g_BadNumber (pa_cons pe_str (pa_cons (pv 2) pa_nil))))) pss_nil))))), ?_⟩
    try dsimp only [cxOf, Cx.nox, Cx.wish]
    try (show (_ : TS) _ [some _, some _, none, none] _)
    walk_at "go"
    refine Z.w_ndec (fun h => ?_) (fun h => ?_)
    · walk_at "go"
      exact hE.1 h _ _ (by assumption) (by walk_at "ex") (by assumption)
    · walk_at "go"
      rename_i J S
      refine Z.fg S (fun i σ G => ∃ (v2 v3 : Option V), σ = [some (.ref a), some (.int n), v2, v3] ∧ Ex H G ∧ ∀ j, j < i → 0 ≤ ps.getD j 0) ⟨none, none, rfl, Ex.refl H, fun j hj => absurd hj (by omega)⟩ (fun i σ' G _ ⟨_, _, _, e, _⟩ => e.l ha) ?_ ?_
      · rintro i y σ' G G2 hi ⟨v2, v3, rfl, eG, hall⟩ e2 ⟨t, z, rfl, ht, hz⟩
        obtain ⟨hi2, rfl⟩ := get_int hz
        walk_at "go"
        refine Z.w_dec (fun h' => ?_) (fun h' => ?_)
        · walk_at "go"
          exact hE.2 h i hi2 h' hall _ _ (by walk_at "fr") (by walk_at "ex") (by assumption)
        · walk_at "go"
          refine ⟨_, _, rfl, eG.trans e2, fun j hj => ?_⟩
          by_cases e : j = i
          · subst e; omega
          · exact hall j (by omega)
      · rintro σ' G ⟨v2, v3, rfl, eG, hall⟩
        rw [List.length_map] at hall
        walk_at "go"
        exact k ⟨h, all_getD hall⟩ G eG

def sp_lot_at (K : PySem.W.Frag) : Sp := fun vs H Q _ => ∃ (n m : Nat), vs = [.int (n : Int), .int (m : Int)] ∧ m ≤ 1000 ∧ ∀ p H', Fr H p → Ex H H' → At H' p (.tup (nats (lotOf n m))) → Q (.ref p) H'
theorem ok_lot_at (T : Tx P K mg) : FnOk P w K mg base (L2.CX P w) 1 (He.ga K "lot_at") (Z.fdOf K (He.ga K "lot_at")) ["number", "many"] (sp_lot_at K) := by
  refine T.F_lot_at.ok sc_lot_at (fun vs H Q E h => ?_) (fun cdv A outer s H vs Q E hr h => ?_)
  · obtain ⟨n, m, rfl, _⟩ := h
    rfl
  · obtain ⟨n, m, rfl, hm, k⟩ := h
    refine ⟨_, PSs.nox (pss_one (ps_ret (pe_callTy (Z.call_tuple (K := K) rfl) (by rfl) T.n_tuple (by decide +kernel) (pa_cons (pe_lc (own := [("thing", 2)]) rfl sc_lot_at.nd (pi_range1 (by rfl) T.n_range (pa_cons (pv 1) pa_nil)) (blkOk_by (N := ["number", "many", "thing"]) (sc := defScope s_lot_at) (by decide +kernel)) (fun _ _ _ _ _ => (pg_name (i := 2) sc_lot_at.nd rfl (by first | exact Or.inl rfl | exact Or.inr rfl))) (fun _ _ _ _ _ => (pts_one (pt_cmpR (Z.op_eq (K := K) rfl hr.units) (pe_op Z.op_and1 (pe_op Z.op_shr (pv 0) (pv 2)) pe_int) pe_int (nomark _)))) (fun _ _ _ _ _ => (pv 2))) pa_nil)))), ?_⟩
    try dsimp only [cxOf, Cx.nox, Cx.wish]
    try (show (_ : TS) _ [some _, some _, none] _)
    walk_at "go"
    refine Z.cgP (by assumption) (tb n) (fun i => V.int (i : Nat)) (fun _ _ => trivial) (by walk_at "sz") (fun Dl i x H' hi ec c hz y => ?_) (fun p H2 hn he hp => ?_)
    · subst y
      walk_at "go"
      refine Z.w_dec (fun hc => ?_) (fun hc => ?_)
      · rw [Z.fr_T (by unfold tb; simpa using (by omega : n / 2 ^ i % 2 = 1))]
        walk_at "go"
      · rw [Z.fr_F (by unfold tb; simpa using (by omega : ¬ n / 2 ^ i % 2 = 1))]
        exact c
    · walk_at "go"
      rename_i p2 H3 hn3 he3 hp3
      refine k p2 H3 (he.back hn3) (he.trans he3) ?_
      refine hp3.t ?_
      simp [lotOf, nats]

def sp_dearest_order (K : PySem.W.Frag) : Sp := fun vs H Q _ => ∃ (l : Addr) (ps : List Int), vs = [.ref l] ∧ SqL K H l (ps.map V.int) ∧ ps.length ≤ 1000 ∧
  ∀ (p : Addr) (H' : Hp) (os : List Nat), Fr H p → Ex H H' → At H' p (.tup ((os.map fun n : Nat => (n : Int)).map V.int)) → DOrd (ltI ps) ps.length os → Q (.ref p) H'
theorem ok_dearest_order (T : Tx P K mg) : FnOk P w K mg base (L2.CX P w) 1 (He.ga K "dearest_order") (Z.fdOf K (He.ga K "dearest_order")) ["prices"] (sp_dearest_order K) := by
  refine T.F_dearest_order.ok sc_dearest_order (fun vs H Q E h => ?_) (fun cdv A outer s H vs Q E hr h => ?_)
  · obtain ⟨l, ps, rfl, _⟩ := h
    rfl
  · obtain ⟨l, ps, rfl, hl, hlen, k⟩ := h
    refine ⟨_, PSs.nox (pss_cons (ps_set (i := 1) sc_dearest_order.nd rfl (Or.inl rfl) (pe_lst pa_nil))
      (pss_cons (ps_for PassesOwn.never rfl (pi_enum (by rfl) T.n_enumerate (pa_cons (pv 0) pa_nil)) (pg_tup (by rfl) (pgs_cons (pg_name (i := 2) sc_dearest_order.nd rfl (by first | exact Or.inl rfl | exact Or.inr rfl)) (pgs_cons (pg_name (i := 3) sc_dearest_order.nd rfl (by first | exact Or.inl rfl | exact Or.inr rfl)) pgs_nil))) (pss_cons (ps_set (i := 4) sc_dearest_order.nd rfl (Or.inl rfl) (pe_callB (Z.call_len (K := K) rfl) (by rfl) T.n_len (by decide +kernel) (pa_cons (pv 1) pa_nil)))
      (pss_cons (ps_while PassesOwn.never (PW.pt (pw_and (pt_cmpR Z.op_gt (pv 4) pe_int (nomark _)) (pw_and1 (pt_cmpR Z.op_lt (pe_ix (Z.ix (K := K) rfl) (pv 0) (pe_ix (Z.ix (K := K) rfl) (pv 1) (pe_op Z.op_sub (pv 4) pe_int) (fun _ _ => rfl)) (fun _ _ => rfl)) (pv 3) (nomark _))))) (pss_one (ps_aug (i := 4) sc_dearest_order.nd rfl (Or.inl rfl) pe_int ip_sub)))
      (pss_one (ps_expr (pe_bm PySem.F.plainAttrs_list PySem.F.slot_list_insert PySem.F.type_list_insert Z.mt_ins (pv 1) (pa_cons (pv 4) (pa_cons (pv 2) pa_nil))))))))
      (pss_one (ps_ret (pe_callTy (Z.call_tuple (K := K) rfl) (by rfl) T.n_tuple (by decide +kernel) (pa_cons (pv 1) pa_nil)))))), ?_⟩
    try dsimp only [cxOf, Cx.nox, Cx.wish]
    try (show (_ : TS) _ [some _, none, none, none, none] _)
    walk_at "go"
    rename_i F H1 hF e1 h1 J S
    refine Z.fg S (fun i σ H' => ∃ (os : List Nat) (v2 v3 v4 : Option V), σ = [some (.ref l), some (.ref F), v2, v3, v4] ∧ Ex H H' ∧ At H' F (.lst ((os.map fun n : Nat => (n : Int)).map V.int)) ∧ DOrd (ltI ps) i os)
      ⟨[], none, none, none, rfl, e1, h1, DOrd.nil _⟩ (fun i σ' H' _ ⟨_, _, _, _, _, e, _⟩ => by walk_at "fl") ?_ ?_
    · rintro i x σ' H' H'' hi ⟨os, v2, v3, v4, rfl, e, hF2, d⟩ e2 ⟨T2, y, rfl, hT, hy⟩
      rw [List.length_map] at hi
      rw [List.getElem?_map, List.getElem?_eq_getElem hi] at hy
      obtain rfl := (Option.some.inj hy).symm
      have hF3 := e2.get hF2
      walk_at "go"
      have hol : os.length = i := d.len
      refine Z.w_while (fun m σ G => σ = [some (.ref l), some (.ref F), some (.int (i : Nat)), some (.int ps[i]), some (.int (m : Nat))] ∧ G = H'' ∧ m ≤ os.length ∧ ∀ x ∈ os.drop m, ltI ps x i) os.length ⟨by simp, rfl, Nat.le_refl _, by simp⟩ ?_
      rintro m σ' G ⟨rfl, rfl, hm, hlow⟩
      have hend : (∀ x ∈ os.drop m, ltI ps x i) → (m = 0 ∨ ∃ x, os[m - 1]? = some x ∧ ¬ ltI ps x i) → DOrd (ltI ps) (i + 1) (os.take m ++ [i] ++ os.drop m) := fun a b => d.ins (wk_int _) hm a b
      have ep : ps.getD i 0 = ps[i] := getD_get _ _ _ hi
      have cast : ∀ m, ((os.map fun n : Nat => (n : Int)).map V.int).take m ++ [V.int (i : Nat)] ++ ((os.map fun n : Nat => (n : Int)).map V.int).drop m = ((os.take m ++ [i] ++ os.drop m).map fun n : Nat => (n : Int)).map V.int := fun m => by
        simp only [List.map_append, List.map_take, List.map_drop]; rfl
      walk_at "go"
      refine Z.w_dec (fun h0 => ?_) (fun h0 => ?_)
      · have em : ((m : Int) - 1).toNat = m - 1 := by omega
        have hm1 : m - 1 < os.length := by omega
        have hb : (os.getD (m - 1) 0) < ps.length := by
          rw [getD_get _ _ _ hm1]
          have := d.lt (List.getElem_mem hm1)
          omega
        walk_at "go"
        rw [← ep]
        refine Z.wb_dec (fun h3 => ?_) (fun h3 => ?_)
        · walk_at "go"
          refine ⟨m - 1, by omega, by rw [← em]; simp; omega, rfl, by omega, fun x hx => ?_⟩
          have ed : os.drop (m - 1) = os[m - 1] :: os.drop m := by
            rw [List.drop_eq_getElem_cons hm1, show m - 1 + 1 = m by omega]
          rw [ed] at hx
          rcases List.mem_cons.mp hx with rfl | hx
          · rw [getD_get _ _ _ hm1] at h3
            exact h3
          · exact hlow x hx
        · walk_at "go"
          rename_i H2 hp hnl ho hke
          refine ⟨_, _, _, _, rfl, hke, hp.l (cast _), hend hlow (.inr ⟨os[m - 1], List.getElem?_eq_getElem hm1, ?_⟩)⟩
          rw [getD_get _ _ _ hm1] at h3
          exact h3
      · have e0 : m = 0 := by omega
        subst e0
        walk_at "go"
        rename_i H2 hp hnl ho hke
        exact ⟨_, _, _, _, rfl, hke, hp.l (cast _), hend hlow (.inl rfl)⟩
    · rintro σ' H' ⟨os, v2, v3, v4, rfl, e, hF2, d⟩
      walk_at "go"
      rename_i p H2 hn he hp
      rw [List.length_map] at d
      exact k p H2 os (e.back hn) (e.trans he) hp d

/-- .. -/
theorem any_neg (r : List Int) : ((List.range r.length).map fun j => decide (r.getD j 0 < 0)).any id = false ↔ ∀ z ∈ r, 0 ≤ z := by
  rw [List.any_eq_false]
  constructor
  · intro h z hz
    obtain ⟨i, hi, rfl⟩ := List.mem_iff_getElem.mp hz
    have := h _ (List.mem_map.2 ⟨i, List.mem_range.2 hi, rfl⟩)
    rw [getD_get _ _ _ hi] at this
    simpa using this
  · intro h b hb
    obtain ⟨i, hi, rfl⟩ := List.mem_map.1 hb
    have hi := List.mem_range.1 hi
    have := h _ (List.getElem_mem hi)
    rw [getD_get _ _ _ hi]
    simpa using this
def sp_check_steps (K : PySem.W.Frag) : Sp := fun vs H Q E => ∃ (f s l : Addr) (fs lv : List Int) (a : Int) (xs : List V) (st : List (List Int)), vs = [.ref f, .int a, .ref s, .ref l] ∧ SqL K H f (fs.map V.int) ∧ At H s (.lst xs) ∧ LLi H xs st ∧ SqL K H l (lv.map V.int) ∧ fs.length ≤ 1000 ∧ lv.length ≤ 1000 ∧ st.length ≤ 1000 ∧ (∀ r ∈ st, r.length ≤ 1000) ∧
  (∀ w v, CRes fs a st lv w v → ∀ d H', Ex H H' → At H' d (.xd [("at", v), ("what", .str w)]) → E (.ref (He.ga K "BadNumber")) (some d) H') ∧ (CGood fs a st lv → ∀ H', Ex H H' → Q .non H')
theorem ok_check_steps (T : Tx P K mg) : FnOk P w K mg base (L2.CX P w) 3 (He.ga K "check_steps") (Z.fdOf K (He.ga K "check_steps")) ["first", "aside", "steps", "leaves"] (sp_check_steps K) := by
  refine T.F_check_steps.ok sc_check_steps (fun vs H Q E h => ?_) (fun cdv A outer s H vs Q E hr h => ?_)
  · obtain ⟨f, s, l, fs, lv, a, xs, st, rfl, _⟩ := h
    rfl
  · obtain ⟨f, s', l, fs, lv, a, xs, st, rfl, hf, hs, hL, hl, hfl, hll, hsl, hrl, hE, k⟩ := h
    have hxl := hL.1
    refine ⟨_, (pss_cons (ps_for (passes_of rfl) rfl (pi_enum (by rfl) T.n_enumerate (pa_cons (pv 0) pa_nil)) (pg_tup (by rfl) (pgs_cons (pg_name (i := 4) sc_check_steps.nd rfl (by first | exact Or.inl rfl | exact Or.inr rfl)) (pgs_cons (pg_name (i := 5) sc_check_steps.nd rfl (by first | exact Or.inl rfl | exact Or.inr rfl)) pgs_nil))) (pss_one (ps_if (pt_cmpR Z.op_lt (pv 5) pe_int (nomark _)) (pss_one (Z.ps_raiseZ rfl (takes_of rfl rfl rfl rfl) (pmk_oex T.oe_BadNumber T.si_BadNumber.2.2.1 T.si_BadNumber.2.2.2 (ok_BadNumber___init__ T) (hr.mono (by decide)) T.b_BadNumber___init__ .nil passL (by rfl) T.g_BadNumber (pa_cons pe_str (pa_cons (pv 4) pa_nil))))) pss_nil)))
      (pss_cons (ps_if (pt_cmpR Z.op_lt (pv 1) pe_int (nomark _)) (pss_one (Z.ps_raiseZ rfl (takes_of rfl rfl rfl rfl) (pmk_oex T.oe_BadNumber T.si_BadNumber.2.2.1 T.si_BadNumber.2.2.2 (ok_BadNumber___init__ T) (hr.mono (by decide)) T.b_BadNumber___init__ .nil passL (by rfl) T.g_BadNumber (pa_cons pe_str (pa_cons pe_non pa_nil))))) pss_nil)
      (pss_cons (ps_if (pt_cmpR (Z.op_ne (K := K) rfl hr.units) (pe_callB (Z.call_len (K := K) rfl) (by rfl) T.n_len (by decide +kernel) (pa_cons (pv 2) pa_nil)) (pe_callB (Z.call_len (K := K) rfl) (by rfl) T.n_len (by decide +kernel) (pa_cons (pv 0) pa_nil)) (nomark _)) (pss_one (Z.ps_raiseZ rfl (takes_of rfl rfl rfl rfl) (pmk_oex T.oe_BadNumber T.si_BadNumber.2.2.1 T.si_BadNumber.2.2.2 (ok_BadNumber___init__ T) (hr.mono (by decide)) T.b_BadNumber___init__ .nil passL (by rfl) T.g_BadNumber (pa_cons pe_str (pa_cons pe_non pa_nil))))) pss_nil)
      (pss_cons (ps_for (passes_of rfl) rfl (pi_enum (by rfl) T.n_enumerate (pa_cons (pv 2) pa_nil)) (pg_tup (by rfl) (pgs_cons (pg_name (i := 4) sc_check_steps.nd rfl (by first | exact Or.inl rfl | exact Or.inr rfl)) (pgs_cons (pg_name (i := 6) sc_check_steps.nd rfl (by first | exact Or.inl rfl | exact Or.inr rfl)) pgs_nil))) (pss_one (ps_if (PW.pt (pw_or (pt_cmpR (Z.op_ne (K := K) rfl hr.units) (pe_callB (Z.call_len (K := K) rfl) (by rfl) T.n_len (by decide +kernel) (pa_cons (pv 6) pa_nil)) (pe_callB (Z.call_len (K := K) rfl) (by rfl) T.n_len (by decide +kernel) (pa_cons (pv 0) pa_nil)) (nomark _)) (pw_or (pt_cmpR (Z.op_ne (K := K) rfl hr.units) (pe_ix (Z.ix (K := K) rfl) (pv 6) (pv 4) (fun _ _ => rfl)) pe_int (nomark _)) (pw_or1 (pt_val (pe_callB (Z.call_any (K := K) rfl rfl) (by rfl) T.n_any (by decide +kernel) (pa_cons (pe_lc (own := [("weight", 5)]) rfl sc_check_steps.nd (Z.piL (K := K) rfl (pv 6)) (blkOk_by (N := ["first", "aside", "steps", "leaves", "at", "weight", "row"]) (sc := defScope s_check_steps) (by decide +kernel)) (fun _ _ _ _ _ => (pg_name (i := 5) sc_check_steps.nd rfl (by first | exact Or.inl rfl | exact Or.inr rfl))) (fun _ _ _ _ _ => pts_nil) (fun _ _ _ _ _ => (pe_cmpR Z.op_lt (pv 5) pe_int (nomark _)))) pa_nil))))))) (pss_one (Z.ps_raiseZ rfl (takes_of rfl rfl rfl rfl) (pmk_oex T.oe_BadNumber T.si_BadNumber.2.2.1 T.si_BadNumber.2.2.2 (ok_BadNumber___init__ T) (hr.mono (by decide)) T.b_BadNumber___init__ .nil passL (by rfl) T.g_BadNumber (pa_cons pe_str (pa_cons (pv 4) pa_nil))))) pss_nil)))
      (pss_cons (ps_if (pt_cmpR (Z.op_ne (K := K) rfl hr.units) (pe_callB (Z.call_len (K := K) rfl) (by rfl) T.n_len (by decide +kernel) (pa_cons (pv 3) pa_nil)) (pe_callB (Z.call_len (K := K) rfl) (by rfl) T.n_len (by decide +kernel) (pa_cons (pv 0) pa_nil)) (nomark _)) (pss_one (Z.ps_raiseZ rfl (takes_of rfl rfl rfl rfl) (pmk_oex T.oe_BadNumber T.si_BadNumber.2.2.1 T.si_BadNumber.2.2.2 (ok_BadNumber___init__ T) (hr.mono (by decide)) T.b_BadNumber___init__ .nil passL (by rfl) T.g_BadNumber (pa_cons pe_str (pa_cons pe_non pa_nil))))) pss_nil)
      (pss_one (ps_for (passes_of rfl) rfl (pi_enum (by rfl) T.n_enumerate (pa_cons (pv 3) pa_nil)) (pg_tup (by rfl) (pgs_cons (pg_name (i := 4) sc_check_steps.nd rfl (by first | exact Or.inl rfl | exact Or.inr rfl)) (pgs_cons (pg_name (i := 5) sc_check_steps.nd rfl (by first | exact Or.inl rfl | exact Or.inr rfl)) pgs_nil))) (pss_one (ps_if (pt_cmpR Z.op_lt (pv 5) pe_int (nomark _)) (pss_one (Z.ps_raiseZ rfl (takes_of rfl rfl rfl rfl) (pmk_oex T.oe_BadNumber T.si_BadNumber.2.2.1 T.si_BadNumber.2.2.2 (ok_BadNumber___init__ T) (hr.mono (by decide)) T.b_BadNumber___init__ .nil passL (by rfl) T.g_BadNumber (pa_cons pe_str (pa_cons (pv 4) pa_nil))))) pss_nil))))))))), ?_⟩
    try dsimp only [cxOf, Cx.nox, Cx.wish]
    try (show (_ : TS) _ [some _, some _, some _, some _, none, none, none] _)
    walk_at "go"
    rename_i J S
    refine Z.fg S (fun i σ G => ∃ (v4 v5 : Option V), σ = [some (.ref f), some (.int a), some (.ref s'), some (.ref l), v4, v5, none] ∧ Ex H G ∧ ∀ j, j < i → 1 ≤ fs.getD j 0) ⟨none, none, rfl, Ex.refl _, fun j hj => absurd hj (by omega)⟩ (fun i σ' G _ ⟨_, _, _, e, _⟩ => e.l hf) ?_ ?_
    · rintro i y σ' G G2 hi ⟨v4, v5, rfl, eG, hall⟩ e2 ⟨t, z, rfl, ht, hz⟩
      obtain ⟨hi2, rfl⟩ := get_int hz
      walk_at "go"
      refine Z.w_dec (fun h => ?_) (fun h => ?_)
      · walk_at "go"
        rename_i d H5 hn5 he5 hp5
        exact hE _ _ (.first i hi2 h hall) d H5 ((eG.trans e2).trans he5) hp5
      · walk_at "go"
        refine ⟨_, _, rfl, eG.trans e2, fun j hj => ?_⟩
        by_cases e : j = i
        · subst e; omega
        · exact hall j (by omega)
    rintro σ' G ⟨v4, v5, rfl, eG, h1⟩
    rw [List.length_map] at h1
    walk_at "go"
    refine Z.w_dec (fun h => ?_) (fun h2 => ?_)
    · walk_at "go"
      rename_i d H5 hn5 he5 hp5
      exact hE _ _ (.aside h1 h) d H5 (eG.trans he5) hp5
    have h2 : 1 ≤ a := by omega
    have hf1 := eG.l hf
    have hs1 := eG.get hs
    have hl1 := eG.l hl
    walk_at "go"
    refine Z.w_ndec (fun h => ?_) (fun h => ?_)
    · walk_at "go"
      rename_i d H5 hn5 he5 hp5
      exact hE _ _ (.steps h1 h2 (by omega)) d H5 (eG.trans he5) hp5
    have h3 : st.length = fs.length := by omega
    walk_at "go"
    rename_i J2 S2
    refine Z.fg S2 (fun i σ G' => ∃ (v4 v5 v6 : Option V), σ = [some (.ref f), some (.int a), some (.ref s'), some (.ref l), v4, v5, v6] ∧ Ex G G' ∧ ∀ j, j < i → SFit fs.length j (st.getD j [])) ⟨_, _, _, rfl, Ex.refl _, fun j hj => absurd hj (by omega)⟩ (fun i σ' G' _ ⟨_, _, _, _, e, _⟩ => e.l (sq_of hs1)) ?_ ?_
    · rintro i y σ' G3 G4 hi ⟨w4, w5, w6, rfl, e3, hall⟩ e4 ⟨t, z, rfl, ht, hz⟩
      have hi2 : i < st.length := by omega
      have e34 := e3.trans e4
      obtain ⟨rr, g1, g2⟩ := hL.2 i hi2
      rw [g1] at hz
      cases hz
      have g3 : At G4 rr (.lst ((st.getD i []).map V.int)) := (eG.trans e34).get g2
      have hf3 := e34.l hf1
      have hmem : st.getD i [] ∈ st := by rw [getD_get _ _ _ hi2]; exact List.getElem_mem _
      have hrl2 := hrl _ hmem
      have hno : ¬ SFit fs.length i (st.getD i []) → ∀ d H', Ex H H' → At H' d (.xd [("at", .int (i : Nat)), ("what", .str "steps")]) → E (.ref (He.ga K "BadNumber")) (some d) H' := fun h => hE _ _ (.row h1 h2 h3 i hi2 h hall)
      have hyes : SFit fs.length i (st.getD i []) → ∀ j, j < i + 1 → SFit fs.length j (st.getD j []) := fun h j hj => by
        by_cases e : j = i
        · subst e; exact h
        · exact hall j (by omega)
      have eG4 := eG.trans e34
      clear hs hs1 hl hl1 hf hf1 g2 hall
      generalize st.getD i [] = r at *
      walk_at "go"
      refine Z.w_ndec (fun h => ?_) (fun h => ?_)
      · walk_at "go"
        rename_i d H5 hn5 he5 hp5
        exact hno (fun z => h (by rw [z.1])) d H5 (eG4.trans he5) hp5
      have hrn : r.length = fs.length := by omega
      walk_at "go"
      refine Z.w_ndec (fun h => ?_) (fun h => ?_)
      · walk_at "go"
        rename_i d H5 hn5 he5 hp5
        exact hno (fun z => h z.2.1) d H5 (eG4.trans he5) hp5
      walk_at "go"
      rename_i J3 S3
      refine Z.cgF S3 (fun j => .bl (decide (r.getD j 0 < 0))) (fun H' e => e.l (sq_of g3)) (by rw [List.length_map]; show _ ≤ 16777216; omega) (fun Dl j y G5 hj ec cd hy => ?_) (fun p7 G7 hn7 he7 hp7 => ?_) rfl
      · obtain ⟨hj2, rfl⟩ := get_int hy
        walk_at "go"
      · have hp8 : SqL K G7 p7 (((List.range r.length).map fun j => decide (r.getD j 0 < 0)).map V.bl) := by
          rw [List.map_map]
          rw [List.length_map] at hp7
          exact sq_of hp7
        have ha := any_neg r
        refine ⟨p7, _, rfl, hp8, ?_⟩
        generalize ((List.range r.length).map fun j => decide (r.getD j 0 < 0)).any id = b at *
        cases b with
        | true =>
          walk_at "run"
          rename_i d H5 hn5 he5 hp5
          exact hno (fun z => by have := ha.2 z.2.2; cases this) d H5 ((eG4.trans he7).trans he5) hp5
        | false =>
          walk_at "run"
          exact ⟨_, _, _, rfl, e34.trans he7, hyes ⟨hrn, h, ha.1 rfl⟩⟩
    rintro σ' G3 ⟨w4, w5, w6, rfl, e3, h4⟩
    rw [hxl] at h4
    have eG3 := eG.trans e3
    have hf3 := eG3.l hf
    have hl3 := eG3.l hl
    clear hs hs1 hl1 hf1
    walk_at "go"
    refine Z.w_ndec (fun h => ?_) (fun h => ?_)
    · walk_at "go"
      rename_i d H5 hn5 he5 hp5
      exact hE _ _ (.leaves h1 h2 h3 h4 (by omega)) d H5 (eG3.trans he5) hp5
    have h5 : lv.length = fs.length := by omega
    walk_at "go"
    rename_i J4 S4
    refine Z.fg S4 (fun i σ G' => ∃ (v4 v5 v6 : Option V), σ = [some (.ref f), some (.int a), some (.ref s'), some (.ref l), v4, v5, v6] ∧ Ex G3 G' ∧ ∀ j, j < i → 1 ≤ lv.getD j 0) ⟨_, _, _, rfl, Ex.refl _, fun j hj => absurd hj (by omega)⟩ (fun i σ' G' _ ⟨_, _, _, _, e, _⟩ => e.l hl3) ?_ ?_
    · rintro i y σ' G5 G6 hi ⟨w4, w5, w6, rfl, e5, hall⟩ e6 ⟨t, z, rfl, ht, hz⟩
      obtain ⟨hi2, rfl⟩ := get_int hz
      walk_at "go"
      refine Z.w_dec (fun h => ?_) (fun h => ?_)
      · walk_at "go"
        rename_i d H5 hn5 he5 hp5
        exact hE _ _ (.leave h1 h2 h3 h4 h5 i hi2 h hall) d H5 (eG3.trans ((e5.trans e6).trans he5)) hp5
      · walk_at "go"
        refine ⟨_, _, _, rfl, e5.trans e6, fun j hj => ?_⟩
        by_cases e : j = i
        · subst e; omega
        · exact hall j (by omega)
    · rintro σ' G5 ⟨w4, w5, w6, rfl, e5, h6⟩
      rw [List.length_map] at h6
      walk_at "go"
      exact k ⟨h1, h2, h3, h4, h5, h6⟩ _ (eG3.trans e5)

theorem ok_Ratio_over (T : Tx P K mg) : FnOk P w K mg base (L2.CX P w) 3 (He.ma K (He.ga K "Ratio") "over") (Z.fdOf K (He.ma K (He.ga K "Ratio") "over")) ["self", "other"] (spOver K) := by
  refine T.F_Ratio_over.ok sc_Ratio_over (fun vs H Q E h => ?_) (fun cdv A outer s H vs Q E hr h => ?_)
  · obtain ⟨a, v, q, r, n, m, rfl, _⟩ := h
    rfl
  · obtain ⟨a, v, q, r, n, m, rfl, ha, hv, hnm, hE, k⟩ := h
    have O := T.o_Ratio
    have cl := T.o_Ratio.cl
    have na1 := T.na_Ratio_top
    have na2 := T.na_Ratio_bottom
    obtain ⟨⟨dx, hx⟩, sq, h9⟩ := ha
    have b1 := sq.1
    have b2 := sq.den
    cases hv with
    | @int i _ hi =>
      obtain ⟨ds3_Ratio___init__, vd3_Ratio___init__, bd3_Ratio___init__⟩ := T.b3_Ratio___init__
      refine ⟨_, (pss_cons (ps_if (pt_val (pe_callB (Z.call_isi (K := K) rfl) (by rfl) T.n_isinstance (by decide +kernel) (pa_cons (pv 1) (pa_cons (pe_bltn (v := .ty "int") (u := .type "int") (by rfl) T.n_int (by decide +kernel) rfl) pa_nil)))) (pss_one (ps_ret (Z.pe_makeZ T.mk_Ratio (ok_Ratio___init__ T) (hr.mono (by decide)) (by rfl) T.g_Ratio bd3_Ratio___init__ vd3_Ratio___init__ (fun σ => passAt (takes_of rfl rfl rfl rfl) σ) (pa_cons (Z.fld (K := K) rfl (pv 0) rfl) (pa_cons (pe_op Z.op_mul (Z.fld (K := K) rfl (pv 0) rfl) (pv 1)) pa_nil))))) pss_nil)
      (pss_one (ps_ret (Z.pe_makeZ T.mk_Ratio (ok_Ratio___init__ T) (hr.mono (by decide)) (by rfl) T.g_Ratio bd3_Ratio___init__ vd3_Ratio___init__ (fun σ => passAt (takes_of rfl rfl rfl rfl) σ) (pa_cons (pe_op Z.op_mul (Z.fld (K := K) rfl (pv 0) rfl) (Z.fld (K := K) rfl (pv 1) rfl)) (pa_cons (pe_op Z.op_mul (Z.fld (K := K) rfl (pv 0) rfl) (Z.fld (K := K) rfl (pv 1) rfl)) pa_nil)))))), ?_⟩
      try dsimp only [cxOf, Cx.nox, Cx.wish]
      try (show (_ : TS) _ [some _, some _] _)
      walk_at "go"
      by_cases h0 : i = 0
      · exact mkR0 (by rw [h0, Int.mul_zero]) (up9 b1 (by omega)) (hE (by rw [h0]; rfl))
      · have h1 : (i : Rat) ≠ 0 := fun z => h0 (by exact_mod_cast z)
        have kk := k h1
        rw [div_int _ h0] at kk
        exact mkR (n := n + m + 1) (m := n + m + 1) (bt_mono b1 (by omega)) (bt_mono (bt_mul b2 hi) (by omega)) (by omega) (Int.mul_ne_zero (den0 q) h0) (fun p H' hn he hr => kk p H' hn he (by rw [Nat.max_self] at hr; exact hr))
    | @rat b r _ hb =>
      obtain ⟨⟨dy, hy⟩, sr, g9⟩ := hb
      have b3 := sr.1
      have b4 := sr.den
      obtain ⟨ds3_Ratio___init__, vd3_Ratio___init__, bd3_Ratio___init__⟩ := T.b3_Ratio___init__
      refine ⟨_, (pss_cons (ps_if (pt_val (pe_callB (Z.call_isi (K := K) rfl) (by rfl) T.n_isinstance (by decide +kernel) (pa_cons (pv 1) (pa_cons (pe_bltn (v := .ty "int") (u := .type "int") (by rfl) T.n_int (by decide +kernel) rfl) pa_nil)))) (pss_one (ps_ret (Z.pe_makeZ T.mk_Ratio (ok_Ratio___init__ T) (hr.mono (by decide)) (by rfl) T.g_Ratio bd3_Ratio___init__ vd3_Ratio___init__ (fun σ => passAt (takes_of rfl rfl rfl rfl) σ) (pa_cons (Z.fld (K := K) rfl (pv 0) rfl) (pa_cons (pe_op Z.op_mul (Z.fld (K := K) rfl (pv 0) rfl) (pv 1)) pa_nil))))) pss_nil)
      (pss_one (ps_ret (Z.pe_makeZ T.mk_Ratio (ok_Ratio___init__ T) (hr.mono (by decide)) (by rfl) T.g_Ratio bd3_Ratio___init__ vd3_Ratio___init__ (fun σ => passAt (takes_of rfl rfl rfl rfl) σ) (pa_cons (pe_op Z.op_mul (Z.fld (K := K) rfl (pv 0) rfl) (Z.fld (K := K) rfl (pv 1) rfl)) (pa_cons (pe_op Z.op_mul (Z.fld (K := K) rfl (pv 0) rfl) (Z.fld (K := K) rfl (pv 1) rfl)) pa_nil)))))), ?_⟩
      try dsimp only [cxOf, Cx.nox, Cx.wish]
      try (show (_ : TS) _ [some _, some _] _)
      walk_at "go"
      by_cases h0 : r.num = 0
      · exact mkR0 (by rw [h0, Int.mul_zero]) (bt_mono (bt_mul b1 b4) (by omega)) (hE (num0.mp h0))
      · have kk := k (fun z => h0 (num0.mpr z))
        rw [div_rat] at kk
        exact mkR (n := n + m + 1) (m := n + m + 1) (bt_mono (bt_mul b1 b4) (by omega)) (bt_mono (bt_mul b2 b3) (by omega)) (by omega) (Int.mul_ne_zero (den0 q) h0) (fun p H' hn he hr => kk p H' hn he (by rw [Nat.max_self] at hr; exact hr))

theorem ok_Ratio___add__ (T : Tx P K mg) : FnOk P w K mg base (L2.CX P w) 3 (He.ma K (He.ga K "Ratio") "__add__") (Z.fdOf K (He.ma K (He.ga K "Ratio") "__add__")) ["self", "other"] (spBin (He.ga K "Ratio") fun q r => q + r) := by
  refine T.F_Ratio___add__.ok sc_Ratio___add__ (fun vs H Q E h => ?_) (fun cdv A outer s H vs Q E hr h => ?_)
  · obtain ⟨a, v, q, r, n, m, rfl, _⟩ := h
    rfl
  · obtain ⟨a, v, q, r, n, m, rfl, ha, hv, hnm, k⟩ := h
    have O := T.o_Ratio
    have cl := T.o_Ratio.cl
    have na1 := T.na_Ratio_top
    have na2 := T.na_Ratio_bottom
    obtain ⟨⟨dx, hx⟩, sq, h9⟩ := ha
    have b1 := sq.1
    have b2 := sq.den
    cases hv with
    | @int i _ hi =>
      dsimp only at k
      rw [add_int] at k
      obtain ⟨ds3_Ratio___init__, vd3_Ratio___init__, bd3_Ratio___init__⟩ := T.b3_Ratio___init__
      have fx0 := T.o_Ratio
      have fx1 := T.o_Rule
      have fx2 := T.o_Stepping
      have fx3 := T.o_Weighted
      refine ⟨_, PSs.nox (pss_cons (ps_if (pt_val (pe_callB (Z.call_isi (K := K) rfl) (by rfl) T.n_isinstance (by decide +kernel) (pa_cons (pv 1) (pa_cons (pe_bltn (v := .ty "int") (u := .type "int") (by rfl) T.n_int (by decide +kernel) rfl) pa_nil)))) (pss_one (ps_ret (pe_make T.mk_Ratio (ok_Ratio___init__ T) (hr.mono (by decide)) (by rfl) T.g_Ratio bd3_Ratio___init__ vd3_Ratio___init__ passL (pa_cons (pe_op Z.op_add (Z.fld (K := K) rfl (pv 0) rfl) (pe_op Z.op_mul (pv 1) (Z.fld (K := K) rfl (pv 0) rfl))) (pa_cons (Z.fld (K := K) rfl (pv 0) rfl) pa_nil))))) pss_nil)
      (pss_cons (ps_if (pt_not (pt_val (pe_callB (Z.call_isi (K := K) rfl) (by rfl) T.n_isinstance (by decide +kernel) (pa_cons (pv 1) (pa_cons (pe_glob (v := .ref (He.ga K "Ratio")) (by rfl) T.g_Ratio rfl) pa_nil))))) (pss_one ps_never) pss_nil)
      (pss_one (ps_ret (pe_make T.mk_Ratio (ok_Ratio___init__ T) (hr.mono (by decide)) (by rfl) T.g_Ratio bd3_Ratio___init__ vd3_Ratio___init__ passL (pa_cons (pe_op Z.op_add (pe_op Z.op_mul (Z.fld (K := K) rfl (pv 0) rfl) (Z.fld (K := K) rfl (pv 1) rfl)) (pe_op Z.op_mul (Z.fld (K := K) rfl (pv 1) rfl) (Z.fld (K := K) rfl (pv 0) rfl))) (pa_cons (pe_op Z.op_mul (Z.fld (K := K) rfl (pv 0) rfl) (Z.fld (K := K) rfl (pv 1) rfl)) pa_nil))))))), ?_⟩
      try dsimp only [cxOf, Cx.nox, Cx.wish]
      try (show (_ : TS) _ [some _, some _] _)
      walk_at "go"
      refine mkR (n := n + m + 1) (m := n + m + 1) ?_ (bt_mono b2 (by omega)) (by omega) (den0 q) (fun p H' hn he hr => k p H' hn he (by rw [Nat.max_self] at hr; exact hr))
      exact bt_addL b1 (bt_mul hi b2) (by omega) (by omega)
    | @rat b r _ hb =>
      obtain ⟨⟨dy, hy⟩, sr, g9⟩ := hb
      have b3 := sr.1
      have b4 := sr.den
      dsimp only at k
      rw [add_rat] at k
      obtain ⟨ds3_Ratio___init__, vd3_Ratio___init__, bd3_Ratio___init__⟩ := T.b3_Ratio___init__
      have fx0 := T.o_Ratio
      have fx1 := T.o_Rule
      have fx2 := T.o_Stepping
      have fx3 := T.o_Weighted
      refine ⟨_, PSs.nox (pss_cons (ps_if (pt_val (pe_callB (Z.call_isi (K := K) rfl) (by rfl) T.n_isinstance (by decide +kernel) (pa_cons (pv 1) (pa_cons (pe_bltn (v := .ty "int") (u := .type "int") (by rfl) T.n_int (by decide +kernel) rfl) pa_nil)))) (pss_one (ps_ret (pe_make T.mk_Ratio (ok_Ratio___init__ T) (hr.mono (by decide)) (by rfl) T.g_Ratio bd3_Ratio___init__ vd3_Ratio___init__ passL (pa_cons (pe_op Z.op_add (Z.fld (K := K) rfl (pv 0) rfl) (pe_op Z.op_mul (pv 1) (Z.fld (K := K) rfl (pv 0) rfl))) (pa_cons (Z.fld (K := K) rfl (pv 0) rfl) pa_nil))))) pss_nil)
      (pss_cons (ps_if (pt_not (pt_val (pe_callB (Z.call_isi (K := K) rfl) (by rfl) T.n_isinstance (by decide +kernel) (pa_cons (pv 1) (pa_cons (pe_glob (v := .ref (He.ga K "Ratio")) (by rfl) T.g_Ratio rfl) pa_nil))))) (pss_one ps_never) pss_nil)
      (pss_one (ps_ret (pe_make T.mk_Ratio (ok_Ratio___init__ T) (hr.mono (by decide)) (by rfl) T.g_Ratio bd3_Ratio___init__ vd3_Ratio___init__ passL (pa_cons (pe_op Z.op_add (pe_op Z.op_mul (Z.fld (K := K) rfl (pv 0) rfl) (Z.fld (K := K) rfl (pv 1) rfl)) (pe_op Z.op_mul (Z.fld (K := K) rfl (pv 1) rfl) (Z.fld (K := K) rfl (pv 0) rfl))) (pa_cons (pe_op Z.op_mul (Z.fld (K := K) rfl (pv 0) rfl) (Z.fld (K := K) rfl (pv 1) rfl)) pa_nil))))))), ?_⟩
      try dsimp only [cxOf, Cx.nox, Cx.wish]
      try (show (_ : TS) _ [some _, some _] _)
      walk_at "go"
      refine mkR (n := n + m + 1) (m := n + m + 1) ?_ (bt_mono (bt_mul b2 b4) (by omega)) (by omega) (Int.mul_ne_zero (den0 q) (den0 r)) (fun p H' hn he hr => k p H' hn he (by rw [Nat.max_self] at hr; exact hr))
      exact bt_addL (bt_mul b1 b4) (bt_mul b3 b2) (by omega) (by omega)

theorem ok_Ratio___ge__ (T : Tx P K mg) : FnOk P w K mg base (L2.CX P w) 1 (He.ma K (He.ga K "Ratio") "__ge__") (Z.fdOf K (He.ma K (He.ga K "Ratio") "__ge__")) ["self", "other"] (spCmp (He.ga K "Ratio") fun q r => decide (r ≤ q)) := by
  refine T.F_Ratio___ge__.ok sc_Ratio___ge__ (fun vs H Q E h => ?_) (fun cdv A outer s H vs Q E hr h => ?_)
  · obtain ⟨a, v, q, r, n, m, rfl, _⟩ := h
    rfl
  · obtain ⟨a, v, q, r, n, m, rfl, ha, hv, hnm, k⟩ := h
    have O := T.o_Ratio
    have cl := T.o_Ratio.cl
    have na1 := T.na_Ratio_top
    have na2 := T.na_Ratio_bottom
    obtain ⟨⟨dx, hx⟩, sq, h9⟩ := ha
    have b1 := sq.1
    have b2 := sq.den
    cases hv with
    | @int i _ hi =>
      simp only [int_le] at k
      have fx0 := T.o_Ratio
      have fx1 := T.o_Rule
      have fx2 := T.o_Stepping
      have fx3 := T.o_Weighted
      refine ⟨_, PSs.nox (pss_cons (ps_if (pt_val (pe_callB (Z.call_isi (K := K) rfl) (by rfl) T.n_isinstance (by decide +kernel) (pa_cons (pv 1) (pa_cons (pe_bltn (v := .ty "int") (u := .type "int") (by rfl) T.n_int (by decide +kernel) rfl) pa_nil)))) (pss_one (ps_ret (pe_cmpR Z.op_ge (Z.fld (K := K) rfl (pv 0) rfl) (pe_op Z.op_mul (pv 1) (Z.fld (K := K) rfl (pv 0) rfl)) (nomark _)))) pss_nil)
      (pss_cons (ps_if (pt_not (pt_val (pe_callB (Z.call_isi (K := K) rfl) (by rfl) T.n_isinstance (by decide +kernel) (pa_cons (pv 1) (pa_cons (pe_glob (v := .ref (He.ga K "Ratio")) (by rfl) T.g_Ratio rfl) pa_nil))))) (pss_one ps_never) pss_nil)
      (pss_one (ps_ret (pe_cmpR Z.op_ge (pe_op Z.op_mul (Z.fld (K := K) rfl (pv 0) rfl) (Z.fld (K := K) rfl (pv 1) rfl)) (pe_op Z.op_mul (Z.fld (K := K) rfl (pv 1) rfl) (Z.fld (K := K) rfl (pv 0) rfl)) (nomark _)))))), ?_⟩
      try dsimp only [cxOf, Cx.nox, Cx.wish]
      try (show (_ : TS) _ [some _, some _] _)
      walk_at "go"
      exact k
    | @rat b r _ hb =>
      obtain ⟨⟨dy, hy⟩, sr, g9⟩ := hb
      have b3 := sr.1
      have b4 := sr.den
      simp only [le_rat] at k
      have fx0 := T.o_Ratio
      have fx1 := T.o_Rule
      have fx2 := T.o_Stepping
      have fx3 := T.o_Weighted
      refine ⟨_, PSs.nox (pss_cons (ps_if (pt_val (pe_callB (Z.call_isi (K := K) rfl) (by rfl) T.n_isinstance (by decide +kernel) (pa_cons (pv 1) (pa_cons (pe_bltn (v := .ty "int") (u := .type "int") (by rfl) T.n_int (by decide +kernel) rfl) pa_nil)))) (pss_one (ps_ret (pe_cmpR Z.op_ge (Z.fld (K := K) rfl (pv 0) rfl) (pe_op Z.op_mul (pv 1) (Z.fld (K := K) rfl (pv 0) rfl)) (nomark _)))) pss_nil)
      (pss_cons (ps_if (pt_not (pt_val (pe_callB (Z.call_isi (K := K) rfl) (by rfl) T.n_isinstance (by decide +kernel) (pa_cons (pv 1) (pa_cons (pe_glob (v := .ref (He.ga K "Ratio")) (by rfl) T.g_Ratio rfl) pa_nil))))) (pss_one ps_never) pss_nil)
      (pss_one (ps_ret (pe_cmpR Z.op_ge (pe_op Z.op_mul (Z.fld (K := K) rfl (pv 0) rfl) (Z.fld (K := K) rfl (pv 1) rfl)) (pe_op Z.op_mul (Z.fld (K := K) rfl (pv 1) rfl) (Z.fld (K := K) rfl (pv 0) rfl)) (nomark _)))))), ?_⟩
      try dsimp only [cxOf, Cx.nox, Cx.wish]
      try (show (_ : TS) _ [some _, some _] _)
      walk_at "go"
      exact k

theorem sum_perm {l r : List Int} (h : l.Perm r) : l.sum = r.sum := by
  induction h with
  | nil => rfl
  | cons x _ ih => rw [List.sum_cons, List.sum_cons, ih]
  | swap x y l => simp only [List.sum_cons]; omega
  | trans _ _ h1 h2 => exact h1.trans h2
theorem ahd_le {ps : List Int} {s t : Nat} (h : Ahd (ltI ps) s t) : ps.getD t 0 ≤ ps.getD s 0 := by
  unfold Ahd ltI at h
  omega
/-- the things dearer than what they bring -/
theorem best_of {ps : List Int} {os : List Nat} (d : DOrd (ltI ps) ps.length os) (i : Nat) {B T : Int} (hlow : ∀ t ∈ os.take i, B < ps.getD t 0 * T) (hup : ∀ t ∈ os.drop i, ps.getD t 0 * T ≤ B) {ms : List Int} (hp : ms.Perm (castL (os.take i))) (hs : ms.Pairwise (· ≤ ·)) :
    ms = castL ((List.range ps.length).filter fun t => decide (B < ps.getD t 0 * T)) := by
  have e : os.filter (fun t => decide (B < ps.getD t 0 * T)) = os.take i := by
    conv => lhs; rw [← List.take_append_drop i os]
    rw [List.filter_append, List.filter_eq_self.mpr fun t ht => decide_eq_true (hlow t ht), List.filter_eq_nil_iff.mpr fun t ht => by rw [decide_eq_false (Int.not_lt.mpr (hup t ht))]; simp, List.append_nil]
  have q : (os.take i).Perm ((List.range ps.length).filter fun t => decide (B < ps.getD t 0 * T)) := by rw [← e]; exact d.perm.filter _
  refine List.Perm.eq_of_pairwise (le := (· ≤ ·)) (fun a b _ _ h g => by omega) hs ?_ (hp.trans (q.map _))
  rw [List.pairwise_map]
  exact (List.pairwise_lt_range.filter _).imp fun h => by omega
/-- one thing more -/
theorem low_step {B T w p : Int} {ps : List Int} {os : List Nat} {t : Nat} (hT : 0 < T) (hw : 0 < w) (hp : p = ps.getD t 0) (hlow : ∀ s ∈ os, B < ps.getD s 0 * T) (ht : B < p * T) (hord : ∀ s ∈ os, p ≤ ps.getD s 0) : ∀ s ∈ os ++ [t], B + w * p < ps.getD s 0 * (T + w) := by
  have h1 : B + w * p < p * (T + w) := by rw [Int.mul_add, Int.mul_comm p w]; omega
  intro s hs
  rcases List.mem_append.mp hs with hs | hs
  · have h2 : p * (T + w) ≤ ps.getD s 0 * (T + w) := Int.mul_le_mul_of_nonneg_right (hord s hs) (by omega)
    omega
  · rw [List.mem_singleton] at hs
    subst hs
    rw [← hp]
    exact h1
theorem wsum_perm {ws l r : List Int} (h : l.Perm r) : wsum ws l = wsum ws r := sum_perm (h.map _)
theorem wpsum_perm {ws ps l r : List Int} (h : l.Perm r) : wpsum ws ps l = wpsum ws ps r := sum_perm (h.map _)
theorem wpsum_snoc' (ws ps lot : List Int) (t : Int) : wpsum ws ps (lot ++ [t]) = wpsum ws ps lot + ws.getD t.toNat 0 * ps.getD t.toNat 0 := by unfold wpsum; simp
theorem wpsum_bt' {ws ps : List Int} (hw : ∀ w ∈ ws, w.natAbs < 2 ^ 64) (hp : ∀ p ∈ ps, p.natAbs < 2 ^ 64) : ∀ lot : List Int, (wpsum ws ps lot).natAbs ≤ lot.length * 2 ^ 128
  | [] => by simp [wpsum]
  | t :: r => by
    have ih := wpsum_bt' hw hp r
    have z : ∀ {l : List Int} (_ : ∀ w ∈ l, w.natAbs < 2 ^ 64) (i : Nat), (l.getD i 0).natAbs ≤ 2 ^ 64 := fun {l} h i => by
      rw [List.getD_eq_getElem?_getD]
      cases e : l[i]? with
      | none => simp
      | some w => exact Nat.le_of_lt (h w (List.mem_of_getElem? e))
    have h1 := Nat.mul_le_mul (z hw t.toNat) (z hp t.toNat)
    have e : wpsum ws ps (t :: r) = ws.getD t.toNat 0 * ps.getD t.toNat 0 + wpsum ws ps r := by unfold wpsum; simp
    have h2 := Int.natAbs_add_le (ws.getD t.toNat 0 * ps.getD t.toNat 0) (wpsum ws ps r)
    rw [Int.natAbs_mul] at h2
    rw [e, List.length_cons, Nat.add_mul]
    omega
/-- the best lot of whole prices: the things dearer than what it brings -/
structure BestW (ws : List Int) (a : Int) (ps lot : List Int) : Prop where
  lot_eq : lot = castL ((List.range ps.length).filter fun t => decide (wpsum ws ps lot < ps.getD t 0 * (a + wsum ws lot)))
  tot : 0 < a + wsum ws lot
def sp_dearer_than_worth (K : PySem.W.Frag) : Sp := fun vs H Q _ => ∃ (x pl : Addr) (ws : List Int) (a : Int) (ps : List Int), vs = [.ref x, .ref pl] ∧ WR K H x ws a ∧ (∀ w ∈ ws, w < 2 ^ 64) ∧ a < 2 ^ 64 ∧ SqL K H pl (ps.map V.int) ∧ ps.length = ws.length ∧ (∀ p ∈ ps, p.natAbs < 2 ^ 64) ∧
  ∀ p t z H' (lot : List Int), Fr H p → Fr H z → Ex H H' → At H' p (.tup [.ref t, .ref z]) → At H' t (.tup (lot.map V.int)) → RN (He.ga K "Ratio") H' z (Rat.divInt (wpsum ws ps lot) (a + wsum ws lot)) 200 → BestW ws a ps lot → Q (.ref p) H'
theorem ok_dearer_than_worth (T : Tx P K mg) : FnOk P w K mg base (L2.CX P w) 4 (He.ga K "dearer_than_worth") (Z.fdOf K (He.ga K "dearer_than_worth")) ["rule", "prices"] (sp_dearer_than_worth K) := by
  refine T.F_dearer_than_worth.ok sc_dearer_than_worth (fun vs H Q E h => ?_) (fun cdv A outer s H vs Q E hr h => ?_)
  · obtain ⟨x, pl, ws, a, ps, rfl, _⟩ := h
    rfl
  · obtain ⟨x, pl, ws, a, ps, rfl, hx, hw, ha, hp, hpw, hpb, k⟩ := h
    have hlen := hx.len
    have hap := hx.apos
    obtain ⟨ds2_Ratio___init__, vd2_Ratio___init__, bd2_Ratio___init__⟩ := T.b2_Ratio___init__
    have fx0 := T.o_Weighted.cl
    have fx1 := T.na_Weighted_weights
    have fx2 := T.na_Weighted_aside
    refine ⟨_, PSs.nox (pss_cons (ps_set (i := 2) sc_dearer_than_worth.nd rfl (Or.inl rfl) (pe_lst pa_nil))
      (pss_cons (ps_set (i := 3) sc_dearer_than_worth.nd rfl (Or.inl rfl) (pe_make T.mk_Ratio (ok_Ratio___init__ T) (hr.mono (by decide)) (by rfl) T.g_Ratio bd2_Ratio___init__ vd2_Ratio___init__ passL (pa_cons pe_int pa_nil)))
      (pss_cons (ps_set (i := 4) sc_dearer_than_worth.nd rfl (Or.inl rfl) (Z.fld (K := K) rfl (pv 0) rfl))
      (pss_cons (ps_set (i := 5) sc_dearer_than_worth.nd rfl (Or.inl rfl) (pe_make T.mk_Ratio (ok_Ratio___init__ T) (hr.mono (by decide)) (by rfl) T.g_Ratio bd2_Ratio___init__ vd2_Ratio___init__ passL (pa_cons pe_int pa_nil)))
      (C8.pss_cut (ps_for PassesOwn.never rfl (Z.piT (K := K) rfl (pe_call (ok_dearest_order T) (hr.mono (by decide)) (by rfl) T.g_dearest_order T.F_dearest_order.kp T.b_dearest_order .nil passL (pa_cons (pv 1) pa_nil))) (pg_name (i := 6) sc_dearer_than_worth.nd rfl (by first | exact Or.inl rfl | exact Or.inr rfl)) (pss_cons (ps_if (pt_cmpR (Z.cmp_OI (fun _ _ => rfl) T.o_Ratio T.me_Ratio___ge__.at_ T.me_Ratio___ge__.fn (Z.rawOk (ok_Ratio___ge__ T) T.b_Ratio___ge__) (hr.mono (by decide)) passL) (pv 5) (pe_ix (Z.ix (K := K) rfl) (pv 1) (pv 6) (fun _ _ => rfl)) (nomark _)) (pss_one ps_break) pss_nil)
      (pss_cons (ps_expr (pe_bm PySem.F.plainAttrs_list PySem.F.slot_list_append PySem.F.type_list_append mt_append (pv 2) (pa_cons (pv 6) pa_nil)))
      (pss_cons (ps_set (i := 3) sc_dearer_than_worth.nd rfl (Or.inl rfl) (pe_op (Z.op_OI T.o_Ratio T.me_Ratio___add__.at_ T.me_Ratio___add__.fn T.me_Ratio___radd__.at_ (.inr ⟨_, rfl⟩) Z.has_add (Z.rawOk (ok_Ratio___add__ T) T.b_Ratio___add__) (hr.mono (by decide)) passL) (pv 3) (pe_op Z.op_mul (pe_ix (Z.ix (K := K) rfl) (Z.fld (K := K) rfl (pv 0) rfl) (pv 6) (fun _ _ => rfl)) (pe_ix (Z.ix (K := K) rfl) (pv 1) (pv 6) (fun _ _ => rfl)))))
      (pss_cons (ps_aug (i := 4) sc_dearer_than_worth.nd rfl (Or.inl rfl) (pe_ix (Z.ix (K := K) rfl) (Z.fld (K := K) rfl (pv 0) rfl) (pv 6) (fun _ _ => rfl)) ip_add)
      (pss_one (ps_set (i := 5) sc_dearer_than_worth.nd rfl (Or.inl rfl) (pe_meth (pv 3) T.o_Ratio.cl T.me_Ratio_over (ok_Ratio_over T) (hr.mono (by decide)) T.b_Ratio_over .nil passL (pa_cons (pv 4) pa_nil)))))))))
      (pss_one (ps_ret (pe_tup (pa_cons (pe_callTy (Z.call_tuple (K := K) rfl) (by rfl) T.n_tuple (by decide +kernel) (pa_cons (pe_callB (Z.call_sortI (K := K) rfl) (by rfl) T.n_sorted (by decide +kernel) (pa_cons (pe_lc (own := [("thing", 6)]) rfl sc_dearer_than_worth.nd (Z.piL (K := K) rfl (pv 2)) (blkOk_by (N := ["rule", "prices", "lot", "brought", "total", "worth", "thing"]) (sc := defScope s_dearer_than_worth) (by decide +kernel)) (fun _ _ _ _ _ => (pg_name (i := 6) sc_dearer_than_worth.nd rfl (by first | exact Or.inl rfl | exact Or.inr rfl))) (fun _ _ _ _ _ => pts_nil) (fun _ _ _ _ _ => (pe_callTy Z.call_int (by rfl) T.n_int (by decide +kernel) (pa_cons (pv 6) pa_nil)))) pa_nil)) pa_nil)) (pa_cons (pv 5) pa_nil)))))))))), ?_⟩
    try dsimp only [cxOf, Cx.nox, Cx.wish]
    try (show (_ : TS) _ [some _, some _, none, none, none, none, none] _)
    walk_at "go"
    rename_i LT H1 hLT he1 hp1 BR H2 hBR he2 hr2 WO H3 hWO he3 hr3
    have hwn : ∀ w ∈ ws, w.natAbs < 2 ^ 64 := fun w hx2 => by have := hw w hx2; have := hx.pos w hx2; omega
    have fL : Fr H LT := hLT
    refine Z.w_cut (fun σ G => ∃ (i : Nat) (os : List Nat) (br wo : Addr) (v6 : Option V), σ = [some (.ref x), some (.ref pl), some (.ref LT), some (.ref br), some (.int (a + wsum ws (castL (os.take i)))), some (.ref wo), v6] ∧ DOrd (ltI ps) ps.length os ∧ Ex H G ∧ At G LT (.lst ((castL (os.take i)).map V.int)) ∧ RN (He.ga K "Ratio") G wo (Rat.divInt (wpsum ws ps (castL (os.take i))) (a + wsum ws (castL (os.take i)))) 200 ∧ Fr H wo ∧
      (∀ t ∈ os.take i, wpsum ws ps (castL (os.take i)) < ps.getD t 0 * (a + wsum ws (castL (os.take i)))) ∧ ∀ t ∈ os.drop i, ps.getD t 0 * (a + wsum ws (castL (os.take i))) ≤ wpsum ws ps (castL (os.take i))) ?_ ?_
    · walk_at "go"
      refine ⟨pl, ps, rfl, by walk_at "fl", by omega, fun OP H4 os hOP he4 hp4 hd => ?_⟩
      have hol := hd.len
      have bnd : ∀ i, (wpsum ws ps (castL (os.take i))).natAbs < 2 ^ 199 ∧ 1 ≤ a + wsum ws (castL (os.take i)) ∧ (a + wsum ws (castL (os.take i))).natAbs < 2 ^ 69 := fun i => by
        have hl : (castL (os.take i)).length ≤ 24 := by rw [List.length_map, List.length_take]; omega
        have h1 := wpsum_bt' hwn hpb (castL (os.take i))
        have h2 := tot_bt (lot := castL (os.take i)) hx.pos hx.apos hw ha hl
        refine ⟨?_, h2.1, h2.2⟩
        have : (castL (os.take i)).length * 2 ^ 128 ≤ 24 * 2 ^ 128 := Nat.mul_le_mul_right _ hl
        omega
      walk_at "go"
      rename_i J S
      have fO : Fr H4 OP → True := fun _ => trivial
      refine Z.fg S (fun i σ G => ∃ (br wo : Addr) (v6 : Option V), σ = [some (.ref x), some (.ref pl), some (.ref LT), some (.ref br), some (.int (a + wsum ws (castL (os.take i)))), some (.ref wo), v6] ∧ Ex H G ∧ At G LT (.lst ((castL (os.take i)).map V.int)) ∧ At G OP (.tup ((castL os).map V.int)) ∧ RN (He.ga K "Ratio") G br ((wpsum ws ps (castL (os.take i)) : Int) : Rat) 200 ∧
        RN (He.ga K "Ratio") G wo (Rat.divInt (wpsum ws ps (castL (os.take i))) (a + wsum ws (castL (os.take i)))) 200 ∧ Fr H wo ∧ ∀ t ∈ os.take i, wpsum ws ps (castL (os.take i)) < ps.getD t 0 * (a + wsum ws (castL (os.take i))))
        ⟨BR, WO, none, ?_, by walk_at "ex", (show At _ LT (.lst []) by walk_at "fx"), hp4, ?_, ?_, ?_, fun t ht => by simp at ht⟩ (fun i σ' G _ ⟨_, _, _, _, _, _, h, _⟩ => st_of h) ?_ ?_
      · show _ = [_, _, _, _, some (V.int (a + 0)), _, _]
        rw [Int.add_zero]
      · exact ((hr2.ex he3).ex he4).tight rfl (sz0 (by decide)) (by decide)
      · exact (hr3.ex he4).tight (by show _ = Rat.divInt 0 (a + 0); rw [Rat.zero_divInt]; rfl) (by show Sz (Rat.divInt 0 _) _; rw [Rat.zero_divInt]; exact sz0 (by decide)) (by decide)
      · exact he1.back (he2.back hWO)
      · rintro i y σ' G G2 hi ⟨br, wo, v6, rfl, eG, hG, hOG, hbr, hwo, fwo, hlow⟩ e2 hy
        obtain ⟨hi2, rfl⟩ := get_nat hy
        have hG2 := e2.get hG
        have hO2 := e2.get hOG
        have hbr2 := hbr.ex e2
        have hwo2 := hwo.ex e2
        have hti : os.getD i 0 < ps.length := by rw [getD_get _ _ _ hi2]; exact hd.lt (List.getElem_mem hi2)
        have hpt : (ps.getD (os.getD i 0) 0).natAbs < 2 ^ 64 := by rw [getD_get ps _ _ hti]; exact hpb _ (List.getElem_mem _)
        have hwt : (ws.getD (os.getD i 0) 0).natAbs < 2 ^ 64 := by rw [getD_get ws _ _ (show os.getD i 0 < ws.length by omega)]; exact hwn _ (List.getElem_mem _)
        have hwt1 := hx.posD (os.getD i 0) (by omega)
        have hB := bnd i
        have hll : (castL (os.take i)).length ≤ 24 := by rw [List.length_map, List.length_take]; omega
        have et : os.take (i + 1) = os.take i ++ [os.getD i 0] := take_snoc hi2 0
        have ec : castL (os.take (i + 1)) = castL (os.take i) ++ [((os.getD i 0 : Nat) : Int)] := by rw [et]; simp [castL]
        have eB : wpsum ws ps (castL (os.take (i + 1))) = wpsum ws ps (castL (os.take i)) + ws.getD (os.getD i 0) 0 * ps.getD (os.getD i 0) 0 := by rw [ec, wpsum_snoc']; rfl
        have eT : a + wsum ws (castL (os.take (i + 1))) = a + wsum ws (castL (os.take i)) + ws.getD (os.getD i 0) 0 := by rw [ec, wsum_snoc, ← Int.add_assoc]; rfl
        have hB' := bnd (i + 1)
        have ed : os.drop i = os.getD i 0 :: os.drop (i + 1) := by rw [List.drop_eq_getElem_cons hi2, getD_get _ _ _ hi2]
        have hsrt := hd.srt
        rw [← List.take_append_drop i os, List.pairwise_append, ed, List.pairwise_cons] at hsrt
        walk_at "go"
        refine Z.w_dec (fun h => ?_) (fun h => ?_)
        · rw [le_divI (by omega)] at h
          walk_at "go"
          refine ⟨i, os, br, wo, _, rfl, hd, eG.trans e2, hG2, hwo2, fwo, hlow, fun t ht => ?_⟩
          rw [ed] at ht
          rcases List.mem_cons.mp ht with rfl | ht
          · exact h
          · have h1 := ahd_le (hsrt.2.1.1 t ht)
            exact Int.le_trans (Int.mul_le_mul_of_nonneg_right h1 (by omega)) h
        · rw [le_divI (by omega)] at h
          walk_at "go"
          rename_i G3 hp3 hnl3 ho3 hke3 tw htw htw2 BR2 G4 hn4 he4' hr4 TW2 hTW2 hTW3
          have hnz : ((a + wsum ws (castL (os.take i)) + ws.getD (os.getD i 0) 0 : Int) : Rat) ≠ 0 := fun z => by
            have : a + wsum ws (castL (os.take i)) + ws.getD (os.getD i 0) 0 = 0 := by exact_mod_cast z
            omega
          have hr4' := hr4.tight (r := ((wpsum ws ps (castL (os.take (i + 1))) : Int) : Rat)) (m := 200) (by rw [eB, Rat.intCast_add]) (sz_int hB'.1) (by decide)
          refine u_over hr4' (.int (n := 69) (by rw [← eT]; exact hB'.2.2)) (by decide) hnz fun p5 G5 hn5 he5 hr5 => ?_
          rw [← eT, ← Rat.divInt_eq_div] at hr5
          have hr5' := hr5.tight rfl (sz_div (n := 200) (by omega) (bt_mono hB'.1 (by decide)) (bt_mono hB'.2.2 (by decide))) (by decide)
          walk_at "go"
          have hstep := low_step (os := os.take i) (B := wpsum ws ps (castL (os.take i))) (T := a + wsum ws (castL (os.take i))) (w := ws.getD (os.getD i 0) 0) (t := os.getD i 0) (by omega) (by omega) rfl hlow (Int.not_le.mp h) fun s hs => ahd_le (hsrt.2.2 s hs (os.getD i 0) (by simp))
          rw [← eB, ← eT, ← et] at hstep
          refine ⟨BR2, p5, _, by rw [eT]; rfl, (hke3.trans he4').trans he5, ?_, ?_, hr4'.ex he5, hr5', ?_, hstep⟩
          · exact (he5.get (he4'.get hp3)).l (by rw [ec, List.map_append]; rfl)
          · exact he5.get (he4'.get (hnl3.get (fun l z => by cases z) hO2))
          · exact hke3.back (he4'.back hn5)
      · rintro σ' G ⟨br, wo, v6, rfl, eG, hG, hOG, hbr, hwo, fwo, hlow⟩
        have e : (List.map V.int (List.map (fun n : Nat => (n : Int)) os)).length = os.length := by rw [List.length_map, List.length_map]
        rw [e] at hG hwo hlow ⊢
        exact ⟨os.length, os, br, wo, v6, rfl, hd, eG, hG, hwo, fwo, hlow, fun t ht => by rw [List.drop_length] at ht; simp at ht⟩
    · rintro σ G ⟨i, os, br, wo, v6, rfl, hd, eG, hG, hwo, fwo, hlow, hup⟩
      walk_at "go"
      rename_i J S
      refine Z.cgI S (fun j => (castL (os.take i)).getD j 0) (fun H' e => e.l (sq_of hG)) (by rw [List.length_map, List.length_map, List.length_take, hd.len]; show _ ≤ 16777216; omega) (fun Dl j y G2 hj ec c hy => ?_) (fun p2 G2 hn2 he2 hp2 => ?_) rfl
      · obtain ⟨hi2, rfl⟩ := get_int hy
        have hj24 : j < 24 := by rw [List.length_map, List.length_take, hd.len] at hi2; omega
        walk_at "go"
      · rw [List.length_map, range_id] at hp2
        walk_at "go"
        rename_i p3 G3 ms hn3 he3' hp3 hperm hsort p4 G4 hn4 he4 hp4 p5 G5 hn5 he5 hp5
        have e1 := wsum_perm (ws := ws) hperm
        have e2 := wpsum_perm (ws := ws) (ps := ps) hperm
        have htot := tot_bt (lot := ms) hx.pos hx.apos hw ha (by rw [hperm.length_eq, List.length_map, List.length_take, hd.len]; omega)
        refine k p5 p4 wo G5 ms (eG.back (he2.back (he3'.back (he4.back hn5)))) fwo (by walk_at "ex") hp5 (by walk_at "fx") ?_ ⟨?_, by omega⟩
        · rw [e1, e2]
          exact (((hwo.ex he2).ex he3').ex he4).ex he5
        · rw [e1, e2]
          exact best_of hd i hlow hup hperm hsort

/-- a cell of the script, or 0: some int -/
def sp__law_cell (K : PySem.W.Frag) : Sp := fun vs H Q _ => ∃ (l : Addr) (ns : List Int) (j : Int), vs = [.ref l, .int j] ∧ SqL K H l (ns.map V.int) ∧ 0 ≤ j ∧ ∀ i : Int, Q (.int i) H
theorem ok__law_cell (T : Tx P K mg) : FnOk P w K mg base (L2.CX P w) 1 (He.ga K "_law_cell") (Z.fdOf K (He.ga K "_law_cell")) ["_law_script", "_law_place"] (sp__law_cell K) := by
  refine T.F__law_cell.ok sc__law_cell (fun vs H Q E h => ?_) (fun cdv A outer s H vs Q E hr h => ?_)
  · obtain ⟨l, ns, j, rfl, _⟩ := h
    rfl
  · obtain ⟨l, ns, j, rfl, hl, hj, k⟩ := h
    refine ⟨_, PSs.nox (pss_cons (ps_if (pt_cmpR Z.op_lt (pv 1) (pe_callB (Z.call_len (K := K) rfl) (by rfl) T.n_len (by decide +kernel) (pa_cons (pv 0) pa_nil)) (nomark _)) (pss_one (ps_ret (pe_callTy Z.call_int (by rfl) T.n_int (by decide +kernel) (pa_cons (pe_ix (Z.ix (K := K) rfl) (pv 0) (pv 1) (fun _ _ => rfl)) pa_nil)))) pss_nil)
      (pss_one (ps_ret pe_int))), ?_⟩
    try dsimp only [cxOf, Cx.nox, Cx.wish]
    try (show (_ : TS) _ [some _, some _] _)
    walk_at "go"
    refine Z.w_dec (fun hc => ?_) (fun hc => ?_)
    · walk_at "go"
      exact k _
    · walk_at "go"
      exact k _
theorem u_cell {H : Hp} {Q : VK} {E : XK} {l : Addr} {ns : List Int} {j : Int} (h : SqL K H l (ns.map V.int)) (hj : 0 ≤ j) (k : ∀ i : Int, Q (.int i) H) : sp__law_cell K [.ref l, .int j] H Q E := ⟨l, ns, j, rfl, h, hj, k⟩
local macro_rules | `(tactic| walk_at "call") => `(tactic| ((with_reducible apply R.u_cell); (walk_at "fl"); (walk_at "num"); (intro cell)))

/-- as many numbers as sizes, each below its size -/
def Dr (sz ds : List Int) : Prop := ds.length = sz.length ∧ ∀ k, k < ds.length → 0 ≤ ds.getD k 0 ∧ ds.getD k 0 < sz.getD k 0
def sp__law_draws (K : PySem.W.Frag) : Sp := fun vs H Q _ => ∃ (c : Int) (l : Addr) (sz : List Int), vs = [.int c, .ref l] ∧ SqL K H l (sz.map V.int) ∧ sz.length ≤ 100000 ∧ (∀ z ∈ sz, 0 < z ∧ z < 2 ^ 250) ∧
  ∀ (p : Addr) (H' : Hp) (ds : List Int), Fr H p → Ex H H' → At H' p (.lst (ds.map V.int)) → Dr sz ds → Q (.ref p) H'
theorem dr_snoc {sz ds : List Int} {z : Int} (hl : ds.length < sz.length) (h : ∀ k, k < ds.length → 0 ≤ ds.getD k 0 ∧ ds.getD k 0 < sz.getD k 0) (h0 : 0 ≤ z) (h1 : z < sz.getD ds.length 0) :
    ∀ k, k < (ds ++ [z]).length → 0 ≤ (ds ++ [z]).getD k 0 ∧ (ds ++ [z]).getD k 0 < sz.getD k 0 := by
  intro k hk
  rw [List.length_append] at hk
  by_cases e : k < ds.length
  · have := h k e
    simp only [List.getD_eq_getElem?_getD, List.getElem?_append_left e] at this ⊢
    exact this
  · have ek : k = ds.length := by simp at hk; omega
    subst ek
    simp only [List.getD_eq_getElem?_getD] at h1 ⊢
    simp [h0, h1]
theorem ok__law_draws (T : Tx P K mg) : FnOk P w K mg base (L2.CX P w) 1 (He.ga K "_law_draws") (Z.fdOf K (He.ga K "_law_draws")) ["_law_cell_here", "_law_sizes"] (sp__law_draws K) := by
  refine T.F__law_draws.ok sc__law_draws (fun vs H Q E h => ?_) (fun cdv A outer s H vs Q E hr h => ?_)
  · obtain ⟨c, l, sz, rfl, _⟩ := h
    rfl
  · obtain ⟨c, l, sz, rfl, hl, hz, hp, k⟩ := h
    have gp : ∀ i, i < sz.length → 0 < sz.getD i 0 ∧ sz.getD i 0 < 2 ^ 250 := fun i hi => by
      rw [List.getD_eq_getElem?_getD, List.getElem?_eq_getElem hi]
      exact hp _ (List.getElem_mem hi)
    refine ⟨_, PSs.nox (pss_cons (ps_if (pt_cmpR (Z.op_eq (K := K) rfl hr.units) (pv 0) pe_int (nomark _)) (pss_one (ps_ret (pe_lc (own := [("_law_size", 4)]) rfl sc__law_draws.nd (Z.piL (K := K) rfl (pv 1)) (blkOk_by (N := ["_law_cell_here", "_law_sizes", "_law_left", "_law_found", "_law_size", "_law_k", "_law_low", "_law_high"]) (sc := defScope s__law_draws) (by decide +kernel)) (fun _ _ _ _ _ => (pg_name (i := 4) sc__law_draws.nd rfl (by first | exact Or.inl rfl | exact Or.inr rfl))) (fun _ _ _ _ _ => pts_nil) (fun _ _ _ _ _ => pe_int)))) pss_nil)
      (pss_cons (ps_if (pt_cmpR Z.op_ge (pv 0) (pe_op op_pow pe_int pe_int) (nomark _)) (pss_cons (ps_set (i := 2) sc__law_draws.nd rfl (Or.inl rfl) (pe_op Z.op_sub (pv 0) (pe_op op_pow pe_int pe_int)))
      (pss_cons (ps_set (i := 3) sc__law_draws.nd rfl (Or.inl rfl) (pe_lst pa_nil))
      (pss_cons (ps_for PassesOwn.never rfl (Z.piL (K := K) rfl (pv 1)) (pg_name (i := 4) sc__law_draws.nd rfl (by first | exact Or.inl rfl | exact Or.inr rfl)) (pss_cons (ps_expr (pe_bm PySem.F.plainAttrs_list PySem.F.slot_list_append PySem.F.type_list_append mt_append (pv 3) (pa_cons (pe_op Z.op_mod (pe_callTy Z.call_int (by rfl) T.n_int (by decide +kernel) (pa_cons (pv 2) pa_nil)) (pv 4)) pa_nil)))
      (pss_one (ps_set (i := 2) sc__law_draws.nd rfl (Or.inl rfl) (pe_op Z.op_fdivP (pv 2) (pv 4))))))
      (pss_one (ps_ret (pv 3)))))) pss_nil)
      (pss_cons (ps_set (i := 3) sc__law_draws.nd rfl (Or.inl rfl) (pe_lst pa_nil))
      (pss_cons (ps_for PassesOwn.never rfl (pi_range1 (by rfl) T.n_range (pa_cons (pe_callB (Z.call_len (K := K) rfl) (by rfl) T.n_len (by decide +kernel) (pa_cons (pv 1) pa_nil)) pa_nil)) (pg_name (i := 5) sc__law_draws.nd rfl (by first | exact Or.inl rfl | exact Or.inr rfl)) (pss_cons (ps_set (i := 6) sc__law_draws.nd rfl (Or.inl rfl) (pe_op Z.op_mod (pe_callTy Z.call_int (by rfl) T.n_int (by decide +kernel) (pa_cons (pe_op Z.op_add (pe_op Z.op_mul (pv 0) pe_int) (pe_op Z.op_mul (pe_op Z.op_add (pv 5) pe_int) pe_int)) pa_nil)) pe_int))
      (pss_cons (ps_set (i := 6) sc__law_draws.nd rfl (Or.inl rfl) (pe_op Z.op_mod (pe_callTy Z.call_int (by rfl) T.n_int (by decide +kernel) (pa_cons (pe_op Z.op_add (pe_op Z.op_mul (pv 6) pe_int) (pe_op Z.op_mul (pe_op Z.op_add (pv 5) pe_int) pe_int)) pa_nil)) pe_int))
      (pss_cons (ps_set (i := 7) sc__law_draws.nd rfl (Or.inl rfl) (pe_op Z.op_mod (pe_callTy Z.call_int (by rfl) T.n_int (by decide +kernel) (pa_cons (pe_op Z.op_add (pe_op Z.op_mul (pv 0) pe_int) (pe_op Z.op_mul (pe_op Z.op_add (pv 5) pe_int) pe_int)) pa_nil)) pe_int))
      (pss_cons (ps_set (i := 7) sc__law_draws.nd rfl (Or.inl rfl) (pe_op Z.op_mod (pe_callTy Z.call_int (by rfl) T.n_int (by decide +kernel) (pa_cons (pe_op Z.op_add (pe_op Z.op_mul (pv 7) pe_int) (pv 6)) pa_nil)) pe_int))
      (pss_one (ps_expr (pe_bm PySem.F.plainAttrs_list PySem.F.slot_list_append PySem.F.type_list_append mt_append (pv 3) (pa_cons (pe_op Z.op_mod (pe_callTy Z.call_int (by rfl) T.n_int (by decide +kernel) (pa_cons (pe_op Z.op_add (pe_op Z.op_mul (pv 7) pe_int) (pv 6)) pa_nil)) (pe_ix (Z.ix (K := K) rfl) (pv 1) (pv 5) (fun _ _ => rfl))) pa_nil)))))))))
      (pss_one (ps_ret (pv 3))))))), ?_⟩
    try dsimp only [cxOf, Cx.nox, Cx.wish]
    try (show (_ : TS) _ [some _, some _, none, none, none, none, none, none] _)
    walk_at "go"
    refine Z.w_dec (fun hc => ?_) (fun hc => ?_)
    · walk_at "go"
      rename_i J S p H2 hn he hp
      refine k p H2 (List.replicate sz.length 0) hn he (hp.l (by rw [List.length_map])) ⟨List.length_replicate, fun i hi => ?_⟩
      · rw [List.length_replicate] at hi
        simp only [List.getD_eq_getElem?_getD, List.getElem?_replicate, hi, if_true, Option.getD_some]
        have := (gp i hi).1
        rw [List.getD_eq_getElem?_getD] at this
        exact ⟨Int.le_refl 0, this⟩
    · walk_at "go"
      refine Z.w_dec (fun hd => ?_) (fun hd => ?_)
      · walk_at "go"
        rename_i F H1 hF e1 h1 J S
        refine Z.fg S (fun i σ H' => ∃ (left : Int) (ds : List Int) (v : Option V), σ = [some (.int c), some (.ref l), some (.int left), some (.ref F), v, none, none, none] ∧ Ex H H' ∧ At H' F (.lst (ds.map V.int)) ∧ ds.length = i ∧ ∀ k, k < ds.length → 0 ≤ ds.getD k 0 ∧ ds.getD k 0 < sz.getD k 0)
          ⟨_, [], none, rfl, e1, h1, rfl, fun k hk => absurd hk (by simp)⟩ (fun i σ' H' _ ⟨_, _, _, _, e, _⟩ => by walk_at "fl") ?_ ?_
        · rintro i x σ' H' H'' hi ⟨left, ds, v, rfl, e, hds, hlen, hall⟩ e2 hx
          rw [List.length_map] at hi
          rw [List.getElem?_map, List.getElem?_eq_getElem hi] at hx
          obtain rfl := (Option.some.inj hx).symm
          have g0 := gp i hi
          have ei : sz.getD i 0 = sz[i] := by rw [List.getD_eq_getElem?_getD, List.getElem?_eq_getElem hi]; rfl
          rw [ei] at g0
          have hds2 := e2.get hds
          have hdv : CDivW left sz[i] := wide_div (b := 250) g0.1 (by have := g0.2; have := g0.1; omega) (by decide) (by decide)
          walk_at "go"
          rename_i H2 hp2 hnl2 ho2 hke
          refine ⟨_, ds ++ [left % sz[i]], some _, rfl, hke, hp2.l (by rw [List.map_append]; rfl), by simp [hlen], dr_snoc (by omega) hall (Int.emod_nonneg _ (by omega)) ?_⟩
          rw [hlen, ei]
          exact Int.emod_lt_of_pos _ g0.1
        · rintro σ' H' ⟨left, ds, v, rfl, e, hds, hlen, hall⟩
          walk_at "go"
          exact k F H' ds hF e hds ⟨by simpa using hlen, hall⟩
      · walk_at "go"
        rename_i F H1 hF e1 h1 J S
        refine Z.fg S (fun i σ H' => ∃ (ds : List Int) (v5 v6 v7 : Option V), σ = [some (.int c), some (.ref l), none, some (.ref F), none, v5, v6, v7] ∧ Ex H H' ∧ At H' F (.lst (ds.map V.int)) ∧ ds.length = i ∧ ∀ k, k < ds.length → 0 ≤ ds.getD k 0 ∧ ds.getD k 0 < sz.getD k 0)
          ⟨[], none, none, none, rfl, e1, h1, rfl, fun k hk => absurd hk (by simp)⟩ (fun i σ' H' _ _ => trivial) ?_ ?_
        · rintro i x σ' H' H'' hi ⟨ds, v5, v6, v7, rfl, e, hds, hlen, hall⟩ e2 rfl
          have hi' : i < sz.length := by simpa using hi
          have g0 := gp i hi'
          have hds2 := e2.get hds
          have g1 : 0 < sz.getD (Int.toNat (i : Int)) 0 := by rw [Int.toNat_natCast]; exact g0.1
          walk_at "go"
          rename_i H2 hp2 hnl2 ho2 hke
          refine ⟨ds ++ [_], some _, some _, some _, rfl, hke, hp2.l (by rw [List.map_append]; rfl), by simp [hlen], dr_snoc (by omega) hall (Int.emod_nonneg _ (by omega)) ?_⟩
          rw [hlen]
          exact Int.emod_lt_of_pos _ g1
        · rintro σ' H' ⟨ds, v5, v6, v7, rfl, e, hds, hlen, hall⟩
          walk_at "go"
          exact k F H' ds hF e hds ⟨by simpa using hlen, hall⟩
theorem u_draws {H : Hp} {Q : VK} {E : XK} {l : Addr} {sz : List Int} {c : Int} (h : SqL K H l (sz.map V.int)) (hz : sz.length ≤ 100000 ∧ ∀ z ∈ sz, 0 < z ∧ z < 2 ^ 250) (k : ∀ (p : Addr) (H' : Hp) (ds : List Int), Fr H p → Ex H H' → At H' p (.lst (ds.map V.int)) → Dr sz ds → Q (.ref p) H') : sp__law_draws K [.int c, .ref l] H Q E :=
  ⟨c, l, sz, rfl, h, hz.1, hz.2, k⟩
theorem Dr.all {n : Nat} {c : Int} {ds : List Int} (h : Dr (List.replicate n c) ds) : ds.length = n ∧ ∀ x ∈ ds, 0 ≤ x ∧ x < c := by
  have hl : ds.length = n := by rw [h.1, List.length_replicate]
  refine ⟨hl, fun x hx => ?_⟩
  obtain ⟨i, hi, rfl⟩ := List.mem_iff_getElem.mp hx
  have q := h.2 i hi
  rw [getD_get _ _ _ hi, List.getD_eq_getElem?_getD, List.getElem?_replicate, if_pos (by omega)] at q
  exact q
/-- the bounds one by one -/
def Bs : List Int → List Int → Nat → Prop
  | [], _, _ => True
  | z :: r, ds, k => (0 ≤ ds.getD k 0 ∧ ds.getD k 0 < z) ∧ Bs r ds (k + 1)
theorem bs_of : ∀ (sz ds : List Int) (k : Nat), (∀ i, i < sz.length → 0 ≤ ds.getD (k + i) 0 ∧ ds.getD (k + i) 0 < sz.getD i 0) → Bs sz ds k
  | [], _, _, _ => trivial
  | z :: r, ds, k, h => ⟨by have := h 0 (by simp); simpa using this, bs_of r ds (k + 1) fun i hi => by
      have := h (i + 1) (by simpa using hi)
      rw [show k + 1 + i = k + (i + 1) by omega]
      simpa using this⟩
theorem Dr.bnd {sz ds : List Int} (h : Dr sz ds) : ds.length = sz.length ∧ Bs sz ds 0 := ⟨h.1, bs_of sz ds 0 fun i hi => by rw [Nat.zero_add]; exact h.2 i (by rw [h.1]; exact hi)⟩
theorem Dr.drop {sz ds : List Int} {j : Nat} {c : Int} (h : Dr sz ds) (hz : ∀ z ∈ sz.drop j, z ≤ c) : ∀ x ∈ ds.drop j, 0 ≤ x ∧ x < c := fun x hx => by
  obtain ⟨i, hi, rfl⟩ := List.mem_iff_getElem.mp hx
  have h1 : j + i < ds.length := by rw [List.length_drop] at hi; omega
  have h2 : j + i < sz.length := by rw [← h.1]; exact h1
  have q := h.2 (j + i) h1
  rw [getD_get _ _ _ h1, getD_get _ _ _ h2] at q
  have h3 : i < (sz.drop j).length := by rw [List.length_drop]; omega
  have := hz (sz.drop j)[i] (List.getElem_mem h3)
  rw [List.getElem_drop] at this ⊢
  omega
theorem Dr.whole {sz ds : List Int} {c : Int} (h : Dr sz ds) (hz : ∀ z ∈ sz, z ≤ c) : ∀ x ∈ ds, 0 ≤ x ∧ x < c := h.drop (j := 0) hz
local macro_rules | `(tactic| walk_at "call") => `(tactic| ((with_reducible apply R.u_draws); (walk_at "fi"); (first | decide | with_reducible assumption); (intro p H2 ds hn he hp hd); (try dsimp only at hd); (try (have hb := R.Dr.bnd hd; simp only [R.Bs, List.length_cons, List.length_nil, Nat.reduceAdd, and_true] at hb))))

def sp__law_row (K : PySem.W.Frag) : Sp := fun vs H Q _ => ∃ (c n : Int), vs = [.int c, .int n] ∧ 0 ≤ n ∧ n ≤ 50000 ∧
  ∀ (p : Addr) (H' : Hp) (ns : List Int), Fr H p → Ex H H' → At H' p (.lst (ns.map V.int)) → ns.length = n.toNat → (∀ x ∈ ns, 0 ≤ x ∧ x < 999999999999999999) → Q (.ref p) H'
theorem ok__law_row (T : Tx P K mg) : FnOk P w K mg base (L2.CX P w) 2 (He.ga K "_law_row") (Z.fdOf K (He.ga K "_law_row")) ["_law_cell_here", "_law_count"] (sp__law_row K) := by
  refine T.F__law_row.ok sc__law_row (fun vs H Q E h => ?_) (fun cdv A outer s H vs Q E hr h => ?_)
  · obtain ⟨c, n, rfl, _⟩ := h
    rfl
  · obtain ⟨c, n, rfl, hn0, hn1, k⟩ := h
    refine ⟨_, PSs.nox (pss_cons (ps_set (i := 2) sc__law_row.nd rfl (Or.inl rfl) (pe_call (ok__law_draws T) (hr.mono (by decide)) (by rfl) T.g__law_draws T.F__law_draws.kp T.b__law_draws .nil passL (pa_cons (pv 0) (pa_cons (pe_op Z.op_add (pe_lst (pa_cons pe_int pa_nil)) (pe_lc (own := [("_law_k", 4)]) rfl sc__law_row.nd (pi_range1 (by rfl) T.n_range (pa_cons (pv 1) pa_nil)) (blkOk_by (N := ["_law_cell_here", "_law_count", "_law_drawn", "_law_bound", "_law_k", "_law_value"]) (sc := defScope s__law_row) (by decide +kernel)) (fun _ _ _ _ _ => (pg_name (i := 4) sc__law_row.nd rfl (by first | exact Or.inl rfl | exact Or.inr rfl))) (fun _ _ _ _ _ => pts_nil) (fun _ _ _ _ _ => (pe_op op_pow pe_int pe_int)))) pa_nil))))
      (pss_cons (ps_set (i := 3) sc__law_row.nd rfl (Or.inr rfl) (pe_ix (Z.ix (K := K) rfl) (pe_lst (pa_cons pe_int (pa_cons pe_int (pa_cons (pe_op op_pow pe_int pe_int) (pa_cons (pe_op Z.op_sub (pe_op op_pow pe_int pe_int) pe_int) pa_nil))))) (pe_ix (Z.ix (K := K) rfl) (pv 2) pe_int (fun _ _ => rfl)) (fun _ _ => rfl)))
      (pss_one (ps_ret (pe_lc (own := [("_law_value", 5)]) rfl sc__law_row.nd (Z.piL (K := K) rfl (pe_slice (Z.slL (K := K) rfl) (pv 2) (po_some pe_int) po_none)) (blkOk_by (N := ["_law_cell_here", "_law_count", "_law_drawn", "_law_bound", "_law_k", "_law_value"]) (sc := defScope s__law_row) (by decide +kernel)) (fun _ _ _ _ _ => (pg_name (i := 5) sc__law_row.nd rfl (by first | exact Or.inl rfl | exact Or.inr rfl))) (fun _ _ _ _ _ => pts_nil) (fun _ _ _ _ _ => (pe_op Z.op_mod (pe_callTy Z.call_int (by rfl) T.n_int (by decide +kernel) (pa_cons (pv 5) pa_nil)) (pv 3)))))))), ?_⟩
    try dsimp only [cxOf, Cx.nox, Cx.wish]
    try (show (_ : TS) _ [some _, some _, none, none, none, none] _)
    walk_at "go"
    rename_i p0 H0 hn0 he0 hp0 J1 S1 p1 H1 hn1' he1 hp1 p2 H2 hn2 he2 hp2
    refine u_draws (sz := 4 :: List.replicate n.toNat 1000000000000000000) (sq_of hp2) ⟨by simp; omega, ?_⟩ fun p3 H3 ds hn3 he3 hp3 hd => ?_
    · intro z hz
      rcases List.mem_cons.mp hz with rfl | hz
      · decide
      · rw [List.eq_of_mem_replicate hz]; decide
    have hl : ds.length = n.toNat + 1 := by rw [hd.1]; simp
    have h0 := hd.2 0 (by omega)
    have h0' : ds.getD 0 0 < 4 := h0.2
    walk_at "go"
    rename_i p4 H4 hn4 he4 hp4 p5 H5 hn5 he5 hp5 J5 S5
    have hbd : ∃ bd : Int, ([4, 30, 1000000000, 1000000000000000000 - 1] : List Int).getD (ds.getD 0 0).toNat 0 = bd ∧ 0 < bd ∧ bd ≤ 999999999999999999 := by
      have : ds.getD 0 0 = 0 ∨ ds.getD 0 0 = 1 ∨ ds.getD 0 0 = 2 ∨ ds.getD 0 0 = 3 := by omega
      rcases this with e | e | e | e <;> rw [e] <;> exact ⟨_, rfl, by decide, by decide⟩
    obtain ⟨bd, ebd, hbd0, hbd1⟩ := hbd
    rw [ebd]
    have hlen : (ds.drop (Int.toNat 1)).length = n.toNat := by simp [hl]
    generalize hds : ds.drop (Int.toNat 1) = es at *
    refine Z.cgI S5 (fun i => es.getD i 0 % bd) (fun H' e => by walk_at "fl") (by rw [List.length_map, hlen]; show _ ≤ 16777216; omega) (fun Dl i x H' hi ec c y => ?_) (fun p8 H8 hn8 he8 hp8 => ?_) rfl
    · obtain ⟨hi2, rfl⟩ := get_int y
      walk_at "go"
    · rw [List.length_map, hlen] at hp8
      refine k p8 H8 _ (by walk_at "fr") (by walk_at "ex") hp8 (by simp) ?_
      intro x hx
      obtain ⟨i, _, rfl⟩ := List.mem_map.mp hx
      exact ⟨Int.emod_nonneg _ (by omega), Int.lt_of_lt_of_le (Int.emod_lt_of_pos _ hbd0) hbd1⟩
theorem u_row {H : Hp} {Q : VK} {E : XK} {c n : Int} (h0 : 0 ≤ n) (h1 : n ≤ 50000) (k : ∀ (p : Addr) (H' : Hp) (ns : List Int), Fr H p → Ex H H' → At H' p (.lst (ns.map V.int)) → ns.length = n.toNat → (∀ x ∈ ns, 0 ≤ x ∧ x < 999999999999999999) → Q (.ref p) H') : sp__law_row K [.int c, .int n] H Q E := ⟨c, n, rfl, h0, h1, k⟩
local macro_rules | `(tactic| walk_at "call") => `(tactic| ((with_reducible apply R.u_row); (walk_at "num"); (walk_at "num"); (intro p H2 ns hn he hp hl hx)))

def sp__law_ups (K : PySem.W.Frag) : Sp := fun vs H Q _ => ∃ (a : Addr) (ns : List Int), vs = [.ref a] ∧ SqL K H a (ns.map V.int) ∧ ns.length ≤ 100000 ∧ ∀ p H', Fr H p → Ex H H' → At H' p (.lst ((ns.map fun x => 1 + x).map V.int)) → Q (.ref p) H'
theorem ok__law_ups (T : Tx P K mg) : FnOk P w K mg base (L2.CX P w) 1 (He.ga K "_law_ups") (Z.fdOf K (He.ga K "_law_ups")) ["_law_row_here"] (sp__law_ups K) := by
  refine T.F__law_ups.ok sc__law_ups (fun vs H Q E h => ?_) (fun cdv A outer s H vs Q E hr h => ?_)
  · obtain ⟨a, ns, rfl, _⟩ := h
    rfl
  · obtain ⟨a, ns, rfl, ha, hl, k⟩ := h
    refine ⟨_, PSs.nox (pss_one (ps_ret (pe_lc (own := [("_law_number", 1)]) rfl sc__law_ups.nd (Z.piL (K := K) rfl (pv 0)) (blkOk_by (N := ["_law_row_here", "_law_number"]) (sc := defScope s__law_ups) (by decide +kernel)) (fun _ _ _ _ _ => (pg_name (i := 1) sc__law_ups.nd rfl (by first | exact Or.inl rfl | exact Or.inr rfl))) (fun _ _ _ _ _ => pts_nil) (fun _ _ _ _ _ => (pe_op Z.op_add pe_int (pv 1)))))), ?_⟩
    try dsimp only [cxOf, Cx.nox, Cx.wish]
    try (show (_ : TS) _ [some _, none] _)
    walk_at "go"
    rename_i J S
    refine Z.cgI S (fun i => 1 + ns.getD i 0) (fun H' e => by walk_at "fl") (by rw [List.length_map]; show _ ≤ 16777216; omega) (fun Dl i x H' hi ec c y => ?_) (fun p2 H2 hn2 he2 hp2 => ?_) rfl
    · obtain ⟨hi2, rfl⟩ := get_int y
      walk_at "go"
    · rw [List.length_map, range_map ns (fun x => 1 + x)] at hp2
      exact k p2 H2 hn2 he2 hp2
theorem u_ups {H : Hp} {Q : VK} {E : XK} {a : Addr} {ns : List Int} (h : SqL K H a (ns.map V.int)) (hl : ns.length ≤ 100000) (k : ∀ p H', Fr H p → Ex H H' → At H' p (.lst ((ns.map fun x => 1 + x).map V.int)) → Q (.ref p) H') : sp__law_ups K [.ref a] H Q E := ⟨a, ns, rfl, h, hl, k⟩
local macro_rules | `(tactic| walk_at "call") => `(tactic| ((with_reducible apply R.u_ups); (walk_at "fi"); (walk_at "num"); (intro p H2 hn he hp)))

def sp__law_lot (K : PySem.W.Frag) : Sp := fun vs H Q _ => ∃ (n m : Nat), vs = [.int (n : Int), .int (m : Int)] ∧ m ≤ 1000 ∧ ∀ p H', Fr H p → Ex H H' → At H' p (.tup (nats (lotOf n m))) → Q (.ref p) H'
theorem ok__law_lot (T : Tx P K mg) : FnOk P w K mg base (L2.CX P w) 1 (He.ga K "_law_lot") (Z.fdOf K (He.ga K "_law_lot")) ["_law_bits", "_law_many"] (sp__law_lot K) := by
  refine T.F__law_lot.ok sc__law_lot (fun vs H Q E h => ?_) (fun cdv A outer s H vs Q E hr h => ?_)
  · obtain ⟨n, m, rfl, _⟩ := h
    rfl
  · obtain ⟨n, m, rfl, hm, k⟩ := h
    refine ⟨_, PSs.nox (pss_cons (ps_set (i := 2) sc__law_lot.nd rfl (Or.inl rfl) (pe_lst pa_nil))
      (pss_cons (ps_set (i := 3) sc__law_lot.nd rfl (Or.inl rfl) (pe_callTy Z.call_int (by rfl) T.n_int (by decide +kernel) (pa_cons (pv 0) pa_nil)))
      (pss_cons (ps_for PassesOwn.never rfl (pi_range1 (by rfl) T.n_range (pa_cons (pv 1) pa_nil)) (pg_name (i := 4) sc__law_lot.nd rfl (by first | exact Or.inl rfl | exact Or.inr rfl)) (C8.pss_cut (ps_if (pt_cmpR (Z.op_eq (K := K) rfl hr.units) (pe_op Z.op_mod (pv 3) pe_int) pe_int (nomark _)) (pss_one (ps_expr (pe_bm PySem.F.plainAttrs_list PySem.F.slot_list_append PySem.F.type_list_append mt_append (pv 2) (pa_cons (pv 4) pa_nil)))) pss_nil)
      (pss_one (ps_set (i := 3) sc__law_lot.nd rfl (Or.inl rfl) (pe_op Z.op_fdivP (pv 3) pe_int)))))
      (pss_one (ps_ret (pe_callTy (Z.call_tuple (K := K) rfl) (by rfl) T.n_tuple (by decide +kernel) (pa_cons (pv 2) pa_nil))))))), ?_⟩
    try dsimp only [cxOf, Cx.nox, Cx.wish]
    try (show (_ : TS) _ [some _, some _, none, none, none] _)
    walk_at "go"
    rename_i F H1 hF e1 h1 J S
    have hlen : ∀ i, (lotOf n i).length ≤ i := fun i => by unfold lotOf; exact Nat.le_trans (List.length_filter_le _ _) (by simp)
    refine Z.fg S (fun i σ G => ∃ v, σ = [some (.int (n : Int)), some (.int (m : Int)), some (.ref F), some (.int ((n / 2 ^ i : Nat) : Int)), v] ∧ Ex H G ∧ At G F (.lst (nats (lotOf n i)))) ⟨none, by simp [L2.start], e1, h1⟩ (fun i σ' G _ _ => trivial) ?_ ?_
    · rintro i x σ' G G2 hi ⟨v, rfl, e, hG⟩ e2 rfl
      have hG2 := e2.get hG
      have hl2 := hlen i
      have hs := lotOf_succ n i
      walk_at "go"
      refine Z.w_cut (fun σ2 G3 => σ2 = [some (.int (n : Int)), some (.int (m : Int)), some (.ref F), some (.int ((n / 2 ^ i : Nat) : Int)), some (.int (i : Nat))] ∧ Ex H G3 ∧ At G3 F (.lst (nats (lotOf n (i + 1))))) ?_ ?_
      · walk_at "go"
        refine Z.w_dec (fun hc => ?_) (fun hc => ?_)
        · have ht : tb n i = true := by unfold tb; simp; omega
          rw [ht] at hs
          walk_at "go"
          rename_i H2 hp hnl ho hke
          exact ⟨rfl, hke, hp.l (by rw [hs]; simp [nats])⟩
        · have ht : tb n i = false := by unfold tb; simp; omega
          rw [ht] at hs
          walk_at "go"
          exact ⟨rfl, e.trans e2, hG2.l (by rw [hs]; simp [nats])⟩
      rintro σ2 G3 ⟨rfl, e3, h3⟩
      walk_at "go"
      refine ⟨some (.int (i : Nat)), ?_, e3, h3⟩
      have ed : ((n / 2 ^ i : Nat) : Int) / 2 = ((n / 2 ^ (i + 1) : Nat) : Int) := by
        rw [Nat.pow_succ, ← Nat.div_div_eq_div_mul]; rfl
      rw [← ed]
      try rfl
    · rintro σ' G ⟨v, rfl, e, hG⟩
      walk_at "go"
      rename_i p H2 hn he hp
      rw [Int.toNat_natCast] at hp
      exact k p H2 (e.back hn) (e.trans he) hp
/-- .. of ints -/
theorem u_lot {H : Hp} {Q : VK} {E : XK} {c m : Int} (hc : 0 ≤ c) (hm : 0 ≤ m) (hm2 : m ≤ 1000) (k : ∀ p H' (lot : List Int), Fr H p → Ex H H' → At H' p (.tup (lot.map V.int)) → lot = (lotOf c.toNat m.toNat).map (fun n : Nat => (n : Int)) → Q (.ref p) H') : sp__law_lot K [.int c, .int m] H Q E := by
  obtain ⟨c, rfl⟩ := Int.eq_ofNat_of_zero_le hc
  obtain ⟨m, rfl⟩ := Int.eq_ofNat_of_zero_le hm
  exact ⟨c, m, rfl, by omega, fun p H' h1 h2 h3 => k p H' _ h1 h2 h3 rfl⟩
local macro_rules | `(tactic| walk_at "call") => `(tactic| ((with_reducible apply R.u_lot); (walk_at "num"); (walk_at "num"); (walk_at "num"); (intro p H2 lot hn he hp hlot)))

def sp__law_is_int : Sp := fun vs H Q _ => ∃ i : Int, vs = [.int i] ∧ Q (.bl true) H
theorem ok__law_is_int (T : Tx P K mg) : FnOk P w K mg base (L2.CX P w) 1 (He.ga K "_law_is_int") (Z.fdOf K (He.ga K "_law_is_int")) ["_law_x"] sp__law_is_int := by
  refine T.F__law_is_int.ok sc__law_is_int (fun vs H Q E h => ?_) (fun cdv A outer s H vs Q E hr h => ?_)
  · obtain ⟨i, rfl, _⟩ := h
    rfl
  · obtain ⟨i, rfl, k⟩ := h
    refine ⟨_, PSs.nox (pss_one (ps_ret (pe_and (pe_callB (Z.call_isi (K := K) rfl) (by rfl) T.n_isinstance (by decide +kernel) (pa_cons (pv 0) (pa_cons (pe_bltn (v := .ty "int") (u := .type "int") (by rfl) T.n_int (by decide +kernel) rfl) pa_nil))) (pe_one (pe_not (pe_callB (Z.call_isi (K := K) rfl) (by rfl) T.n_isinstance (by decide +kernel) (pa_cons (pv 0) (pa_cons (pe_bltn (v := .ty "bool") (u := .type "bool") (by rfl) T.n_bool (by decide +kernel) rfl) pa_nil)))))))), ?_⟩
    try dsimp only [cxOf, Cx.nox, Cx.wish]
    try (show (_ : TS) _ [some _] _)
    walk_at "go"
    exact k
theorem u_isint {H : Hp} {Q : VK} {E : XK} {i : Int} (k : Q (.bl true) H) : sp__law_is_int [.int i] H Q E := ⟨i, rfl, k⟩
local macro_rules | `(tactic| walk_at "call") => `(tactic| ((with_reducible refine R.u_isint ?_)))

/-- x is the Ratio of t over b -/
def sp__law_same (K : PySem.W.Frag) : Sp := fun vs H Q _ => ∃ (a : Addr) (q : Rat) (n : Nat) (t b : Int), vs = [.ref a, .int t, .int b] ∧ RN (He.ga K "Ratio") H a q n ∧ 0 < b ∧ t.natAbs < 2 ^ 50000 ∧ b.natAbs < 2 ^ 50000 ∧ Q (.bl (decide (q = Rat.divInt t b))) H
theorem ok__law_same (T : Tx P K mg) : FnOk P w K mg base (L2.CX P w) 2 (He.ga K "_law_same") (Z.fdOf K (He.ga K "_law_same")) ["_law_x", "_law_top", "_law_bottom"] (sp__law_same K) := by
  refine T.F__law_same.ok sc__law_same (fun vs H Q E h => ?_) (fun cdv A outer s H vs Q E hr h => ?_)
  · obtain ⟨a, q, n, t, b, rfl, _⟩ := h
    rfl
  · obtain ⟨a, q, n, t, b, rfl, ha, hb, ht, hbs, k⟩ := h
    obtain ⟨⟨dx, hx⟩, sq, h9⟩ := id ha
    have hp := q.den_pos
    have b1 := sq.1
    have b2 := sq.den
    have fx0 := T.o_Ratio.cl
    have fx1 := T.na_Ratio_top
    have fx2 := T.na_Ratio_bottom
    have fx3 := T.o_Ratio
    have fx4 := T.o_Rule
    have fx5 := T.o_Stepping
    have fx6 := T.o_Weighted
    refine ⟨_, PSs.nox (pss_cons (ps_if (pt_not (pt_val (pe_callB (Z.call_isi (K := K) rfl) (by rfl) T.n_isinstance (by decide +kernel) (pa_cons (pv 0) (pa_cons (pe_glob (v := .ref (He.ga K "Ratio")) (by rfl) T.g_Ratio rfl) pa_nil))))) (pss_one (ps_ret pe_bl)) pss_nil)
      (pss_cons (ps_if (PW.pt (pw_or (pt_not (pt_val (pe_call (ok__law_is_int T) (hr.mono (by decide)) (by rfl) T.g__law_is_int T.F__law_is_int.kp T.b__law_is_int .nil passL (pa_cons (Z.fld (K := K) rfl (pv 0) rfl) pa_nil)))) (pw_or (pt_not (pt_val (pe_call (ok__law_is_int T) (hr.mono (by decide)) (by rfl) T.g__law_is_int T.F__law_is_int.kp T.b__law_is_int .nil passL (pa_cons (Z.fld (K := K) rfl (pv 0) rfl) pa_nil)))) (pw_or1 (pt_cmpR Z.op_lt (Z.fld (K := K) rfl (pv 0) rfl) pe_int (nomark _)))))) (pss_one (ps_ret pe_bl)) pss_nil)
      (pss_one (ps_ret (pe_cmpR (Z.op_eq (K := K) rfl hr.units) (pe_op Z.op_mul (Z.fld (K := K) rfl (pv 0) rfl) (pv 2)) (pe_op Z.op_mul (pv 1) (Z.fld (K := K) rfl (pv 0) rfl)) (nomark _)))))), ?_⟩
    try dsimp only [cxOf, Cx.nox, Cx.wish]
    try (show (_ : TS) _ [some _, some _, some _] _)
    walk_at "go"
    walk_at "run"
    have e : decide (q = Rat.divInt t b) = decide (q.num * b = t * q.den) := by
      rw [decide_eq_decide]
      conv => lhs; rw [rat_eq q]
      exact Rat.divInt_eq_divInt_iff (den0 q) (by omega)
    rw [← e]
    exact k
theorem u_sameT {H : Hp} {Q : VK} {E : XK} {a : Addr} {q : Rat} {n : Nat} {t b : Int} (ha : RN (He.ga K "Ratio") H a q n) (hb : 0 < b) (hq : q = Rat.divInt t b) (ht : t.natAbs < 2 ^ 50000) (hs : b.natAbs < 2 ^ 50000) (k : Q (.bl true) H) : sp__law_same K [.ref a, .int t, .int b] H Q E :=
  ⟨a, q, n, t, b, rfl, ha, hb, ht, hs, by rw [decide_eq_true hq]; exact k⟩
/-- .. 0 and 1 -/
theorem u_same0 {H : Hp} {Q : VK} {E : XK} {a : Addr} {q : Rat} {n : Nat} (ha : RN (He.ga K "Ratio") H a q n) (hq : q = 0) (k : Q (.bl true) H) : sp__law_same K [.ref a, .int 0, .int 1] H Q E :=
  u_sameT ha (by decide) (by rw [hq]; exact (Rat.zero_divInt 1).symm) (by exact Nat.pow_pos (by decide)) (by exact Nat.one_lt_two_pow (by decide)) k
theorem u_same1 {H : Hp} {Q : VK} {E : XK} {a : Addr} {q : Rat} {n : Nat} (ha : RN (He.ga K "Ratio") H a q n) (hq : q = 1) (k : Q (.bl true) H) : sp__law_same K [.ref a, .int 1, .int 1] H Q E :=
  u_sameT ha (by decide) (by rw [hq]; exact div1 1) (by exact Nat.one_lt_two_pow (by decide)) (by exact Nat.one_lt_two_pow (by decide)) k

theorem w_isiTS {K : PySem.W.Frag} {H : Hp} {Q : VK} {a : Addr} {xs : List V} (h : SqT K H a xs) (q : Q (.bl true) H) : rIsi K [.ref a, .ty "tuple"] H Q := by
  rcases h with (h | ⟨o, h⟩) | ⟨o, its, n, h1, h2, h3⟩
  · exact w_isiTT h q
  · exact w_isiB (.fTuple h) (by decide +kernel) q
  · exact w_isiB (.kTuple h1 h2) (by decide +kernel) q
/-- the very same tuple of ints -/
def sp__law_same_lot (K : PySem.W.Frag) : Sp := fun vs H Q _ => ∃ (a b : Addr) (ns : List Int), vs = [.ref a, .ref b] ∧ SqT K H a (ns.map V.int) ∧ SqA K H b (ns.map V.int) ∧ ns.length ≤ 100000 ∧ ∀ H', Ex H H' → Q (.bl true) H'
theorem ok__law_same_lot (T : Tx P K mg) : FnOk P w K mg base (L2.CX P w) 2 (He.ga K "_law_same_lot") (Z.fdOf K (He.ga K "_law_same_lot")) ["_law_x", "_law_due"] (sp__law_same_lot K) := by
  refine T.F__law_same_lot.ok sc__law_same_lot (fun vs H Q E h => ?_) (fun cdv A outer s H vs Q E hr h => ?_)
  · obtain ⟨a, b, ns, rfl, _⟩ := h
    rfl
  · obtain ⟨a, b, ns, rfl, ha, hb, hl, k⟩ := h
    rcases hb with hb | hb
    · skip
      refine ⟨_, PSs.nox (pss_cons (ps_if (PW.pt (pw_or (pt_not (pt_val (pe_callB (Z.call_isi (K := K) rfl) (by rfl) T.n_isinstance (by decide +kernel) (pa_cons (pv 0) (pa_cons (pe_bltn (v := .ty "tuple") (u := .type "tuple") (by rfl) T.n_tuple (by decide +kernel) rfl) pa_nil))))) (pw_or1 (pt_cmpR (Z.op_ne (K := K) rfl hr.units) (pe_callB (Z.call_len (K := K) rfl) (by rfl) T.n_len (by decide +kernel) (pa_cons (pv 0) pa_nil)) (pe_callB (Z.call_len (K := K) rfl) (by rfl) T.n_len (by decide +kernel) (pa_cons (pv 1) pa_nil)) (nomark _))))) (pss_one (ps_ret pe_bl)) pss_nil)
      (pss_cons (ps_for PassesOwn.never rfl (pi_range1 (by rfl) T.n_range (pa_cons (pe_callB (Z.call_len (K := K) rfl) (by rfl) T.n_len (by decide +kernel) (pa_cons (pv 1) pa_nil)) pa_nil)) (pg_name (i := 2) sc__law_same_lot.nd rfl (by first | exact Or.inl rfl | exact Or.inr rfl)) (pss_one (ps_if (PW.pt (pw_or (pt_not (pt_val (pe_call (ok__law_is_int T) (hr.mono (by decide)) (by rfl) T.g__law_is_int T.F__law_is_int.kp T.b__law_is_int .nil passL (pa_cons (pe_ix (Z.ix (K := K) rfl) (pv 0) (pv 2) (fun _ _ => rfl)) pa_nil)))) (pw_or1 (pt_cmpR (Z.op_ne (K := K) rfl hr.units) (pe_ix (Z.ix (K := K) rfl) (pv 0) (pv 2) (fun _ _ => rfl)) (pe_ix (Z.ix (K := K) rfl) (pv 1) (pv 2) (fun _ _ => rfl)) (nomark _))))) (pss_one (ps_ret pe_bl)) pss_nil)))
      (pss_one (ps_ret pe_bl)))), ?_⟩
      try dsimp only [cxOf, Cx.nox, Cx.wish]
      try (show (_ : TS) _ [some _, some _, none] _)
      walk_at "go"
      walk_at "run"
      refine w_isiTS ha ?_
      walk_at "run"
      refine Z.fgE 2 (by assumption) rfl (fun G _ => trivial) (fun i x G v hi e hz => ?_) (fun v G e => ?_)
      · subst hz
        have hi' : i < ns.length := by simpa using hi
        walk_at "run"
        exact ⟨⟨_, rfl⟩, by walk_at "ex"⟩
      · walk_at "run"
        exact k _ e
    · skip
      refine ⟨_, PSs.nox (pss_cons (ps_if (PW.pt (pw_or (pt_not (pt_val (pe_callB (Z.call_isi (K := K) rfl) (by rfl) T.n_isinstance (by decide +kernel) (pa_cons (pv 0) (pa_cons (pe_bltn (v := .ty "tuple") (u := .type "tuple") (by rfl) T.n_tuple (by decide +kernel) rfl) pa_nil))))) (pw_or1 (pt_cmpR (Z.op_ne (K := K) rfl hr.units) (pe_callB (Z.call_len (K := K) rfl) (by rfl) T.n_len (by decide +kernel) (pa_cons (pv 0) pa_nil)) (pe_callB (Z.call_len (K := K) rfl) (by rfl) T.n_len (by decide +kernel) (pa_cons (pv 1) pa_nil)) (nomark _))))) (pss_one (ps_ret pe_bl)) pss_nil)
      (pss_cons (ps_for PassesOwn.never rfl (pi_range1 (by rfl) T.n_range (pa_cons (pe_callB (Z.call_len (K := K) rfl) (by rfl) T.n_len (by decide +kernel) (pa_cons (pv 1) pa_nil)) pa_nil)) (pg_name (i := 2) sc__law_same_lot.nd rfl (by first | exact Or.inl rfl | exact Or.inr rfl)) (pss_one (ps_if (PW.pt (pw_or (pt_not (pt_val (pe_call (ok__law_is_int T) (hr.mono (by decide)) (by rfl) T.g__law_is_int T.F__law_is_int.kp T.b__law_is_int .nil passL (pa_cons (pe_ix (Z.ix (K := K) rfl) (pv 0) (pv 2) (fun _ _ => rfl)) pa_nil)))) (pw_or1 (pt_cmpR (Z.op_ne (K := K) rfl hr.units) (pe_ix (Z.ix (K := K) rfl) (pv 0) (pv 2) (fun _ _ => rfl)) (pe_ix (Z.ix (K := K) rfl) (pv 1) (pv 2) (fun _ _ => rfl)) (nomark _))))) (pss_one (ps_ret pe_bl)) pss_nil)))
      (pss_one (ps_ret pe_bl)))), ?_⟩
      try dsimp only [cxOf, Cx.nox, Cx.wish]
      try (show (_ : TS) _ [some _, some _, none] _)
      walk_at "go"
      walk_at "run"
      refine w_isiTS ha ?_
      walk_at "run"
      refine Z.fgE 2 (by assumption) rfl (fun G _ => trivial) (fun i x G v hi e hz => ?_) (fun v G e => ?_)
      · subst hz
        have hi' : i < ns.length := by simpa using hi
        walk_at "run"
        exact ⟨⟨_, rfl⟩, by walk_at "ex"⟩
      · walk_at "run"
        exact k _ e
theorem u_samelot {H : Hp} {Q : VK} {E : XK} {a b : Addr} {ns : List Int} (ha : At H a (.tup (ns.map V.int))) (hb : SqT K H b (ns.map V.int)) (hl : ns.length ≤ 100000) (k : ∀ H', Ex H H' → Q (.bl true) H') : sp__law_same_lot K [.ref a, .ref b] H Q E := ⟨a, b, ns, rfl, st_of ha, .inr hb, hl, k⟩
theorem u_samelotA {H : Hp} {Q : VK} {E : XK} {a b : Addr} {ns : List Int} (ha : At H a (.tup (ns.map V.int))) (hb : SqA K H b (ns.map V.int)) (hl : ns.length ≤ 100000) (k : ∀ H', Ex H H' → Q (.bl true) H') : sp__law_same_lot K [.ref a, .ref b] H Q E := ⟨a, b, ns, rfl, st_of ha, hb, hl, k⟩
theorem u_samelotT {H : Hp} {Q : VK} {E : XK} {a b : Addr} {ns : List Int} (ha : SqT K H a (ns.map V.int)) (hb : SqT K H b (ns.map V.int)) (hl : ns.length ≤ 100000) (k : ∀ H', Ex H H' → Q (.bl true) H') : sp__law_same_lot K [.ref a, .ref b] H Q E := ⟨a, b, ns, rfl, ha, .inr hb, hl, k⟩

def sp__law_same_row (K : PySem.W.Frag) : Sp := fun vs H Q _ => ∃ (q d : Addr) (xs ys : List V) (qs : List Rat) (ps : List (Int × Int)) (b : Nat), vs = [.ref q, .ref d] ∧ At H q (.lst xs) ∧ SqL K H d ys ∧ RL (He.ga K "Ratio") H xs qs b ∧ PL H ys ps ∧ qs.length = ps.length ∧ ps.length ≤ 100000 ∧
  (∀ i, i < ps.length → qs.getD i 0 = Rat.divInt (ps.getD i (0, 0)).1 (ps.getD i (0, 0)).2 ∧ 0 < (ps.getD i (0, 0)).2 ∧ (ps.getD i (0, 0)).1.natAbs < 2 ^ 50000 ∧ (ps.getD i (0, 0)).2.natAbs < 2 ^ 50000) ∧ ∀ H', Ex H H' → Q (.bl true) H'
theorem ok__law_same_row (T : Tx P K mg) : FnOk P w K mg base (L2.CX P w) 3 (He.ga K "_law_same_row") (Z.fdOf K (He.ga K "_law_same_row")) ["_law_x", "_law_pairs"] (sp__law_same_row K) := by
  refine T.F__law_same_row.ok sc__law_same_row (fun vs H Q E h => ?_) (fun cdv A outer s H vs Q E hr h => ?_)
  · obtain ⟨q, d, xs, ys, qs, ps, b, rfl, _⟩ := h
    rfl
  · obtain ⟨q, d, xs, ys, qs, ps, b, rfl, hq, hd, hR, hP, hl, hl2, hall, k⟩ := h
    have hxl : xs.length = ps.length := by rw [hR.1, hl]
    have hyl := hP.1
    refine ⟨_, PSs.nox (pss_cons (ps_if (PW.pt (pw_or (pt_not (pt_val (pe_callB (Z.call_isi (K := K) rfl) (by rfl) T.n_isinstance (by decide +kernel) (pa_cons (pv 0) (pa_cons (pe_bltn (v := .ty "list") (u := .type "list") (by rfl) T.n_list (by decide +kernel) rfl) pa_nil))))) (pw_or1 (pt_cmpR (Z.op_ne (K := K) rfl hr.units) (pe_callB (Z.call_len (K := K) rfl) (by rfl) T.n_len (by decide +kernel) (pa_cons (pv 0) pa_nil)) (pe_callB (Z.call_len (K := K) rfl) (by rfl) T.n_len (by decide +kernel) (pa_cons (pv 1) pa_nil)) (nomark _))))) (pss_one (ps_ret pe_bl)) pss_nil)
      (pss_cons (ps_for PassesOwn.never rfl (pi_range1 (by rfl) T.n_range (pa_cons (pe_callB (Z.call_len (K := K) rfl) (by rfl) T.n_len (by decide +kernel) (pa_cons (pv 1) pa_nil)) pa_nil)) (pg_name (i := 2) sc__law_same_row.nd rfl (by first | exact Or.inl rfl | exact Or.inr rfl)) (pss_one (ps_if (pt_not (pt_val (pe_call (ok__law_same T) (hr.mono (by decide)) (by rfl) T.g__law_same T.F__law_same.kp T.b__law_same .nil passL (pa_cons (pe_ix (Z.ix (K := K) rfl) (pv 0) (pv 2) (fun _ _ => rfl)) (pa_cons (pe_ix (Z.ix (K := K) rfl) (pe_ix (Z.ix (K := K) rfl) (pv 1) (pv 2) (fun _ _ => rfl)) pe_int (fun _ _ => rfl)) (pa_cons (pe_ix (Z.ix (K := K) rfl) (pe_ix (Z.ix (K := K) rfl) (pv 1) (pv 2) (fun _ _ => rfl)) pe_int (fun _ _ => rfl)) pa_nil)))))) (pss_one (ps_ret pe_bl)) pss_nil)))
      (pss_one (ps_ret pe_bl)))), ?_⟩
    try dsimp only [cxOf, Cx.nox, Cx.wish]
    try (show (_ : TS) _ [some _, some _, none] _)
    walk_at "go"
    walk_at "run"
    refine Z.fgE 2 (by assumption) rfl (fun G e => trivial) (fun i x G v hi e hz => ?_) (fun v G e => ?_)
    · subst hz
      have hi2 : i < ps.length := by simpa [hyl] using hi
      have hR2 := hR.ex e
      have hP2 := hP.ex e
      obtain ⟨h1, h2, h3, h4⟩ := hall (i : Int).toNat hi2
      walk_at "run"
      refine u_sameT (by walk_at "rn") h2 h1 h3 h4 ?_
      walk_at "run"
      exact ⟨⟨_, rfl⟩, e⟩
    · walk_at "run"
      exact k _ e

theorem wpsum_snoc (ws ps lot : List Int) (t : Int) : wpsum ws ps (lot ++ [t]) = wpsum ws ps lot + ws.getD t.toNat 0 * ps.getD t.toNat 0 := by unfold wpsum; simp
def sp__law_worth (K : PySem.W.Frag) : Sp := fun vs H Q _ => ∃ (wl pl l : Addr) (ws ps : List Int) (a : Int) (lot : List Int), vs = [.ref wl, .int a, .ref pl, .ref l] ∧ SqL K H wl (ws.map V.int) ∧ SqL K H pl (ps.map V.int) ∧ SqA K H l (lot.map V.int) ∧ (∀ t ∈ lot, 0 ≤ t ∧ t < ws.length ∧ t < ps.length) ∧ (∀ x ∈ ps, x.natAbs < 2 ^ 64) ∧
  ∀ p H', Fr H p → Ex H H' → At H' p (.tup [.int (wpsum ws ps lot), .int (a + wsum ws lot)]) → Q (.ref p) H'
theorem ok__law_worth (T : Tx P K mg) : FnOk P w K mg base (L2.CX P w) 1 (He.ga K "_law_worth") (Z.fdOf K (He.ga K "_law_worth")) ["_law_weights", "_law_aside", "_law_prices", "_law_lot_here"] (sp__law_worth K) := by
  refine T.F__law_worth.ok sc__law_worth (fun vs H Q E h => ?_) (fun cdv A outer s H vs Q E hr h => ?_)
  · obtain ⟨wl, pl, l, ws, ps, a, lot, rfl, _⟩ := h
    rfl
  · obtain ⟨wl, pl, l, ws, ps, a, lot, rfl, hwl, hpl, hl, hlot, hpb, k⟩ := h
    refine ⟨_, PSs.nox (pss_cons (ps_set (i := 4) sc__law_worth.nd rfl (Or.inl rfl) pe_int)
      (pss_cons (ps_set (i := 5) sc__law_worth.nd rfl (Or.inl rfl) (pv 1))
      (pss_cons (ps_for PassesOwn.never rfl (Z.piA (K := K) rfl (pv 3)) (pg_name (i := 6) sc__law_worth.nd rfl (by first | exact Or.inl rfl | exact Or.inr rfl)) (pss_cons (ps_set (i := 4) sc__law_worth.nd rfl (Or.inl rfl) (pe_op Z.op_add (pv 4) (pe_op Z.op_mul (pe_ix (Z.ix (K := K) rfl) (pv 0) (pv 6) (fun _ _ => rfl)) (pe_ix (Z.ix (K := K) rfl) (pv 2) (pv 6) (fun _ _ => rfl)))))
      (pss_one (ps_set (i := 5) sc__law_worth.nd rfl (Or.inl rfl) (pe_op Z.op_add (pv 5) (pe_ix (Z.ix (K := K) rfl) (pv 0) (pv 6) (fun _ _ => rfl)))))))
      (pss_one (ps_ret (pe_tup (pa_cons (pv 4) (pa_cons (pv 5) pa_nil)))))))), ?_⟩
    try dsimp only [cxOf, Cx.nox, Cx.wish]
    try (show (_ : TS) _ [some _, some _, some _, some _, none, none, none] _)
    walk_at "go"
    rename_i J S
    refine Z.fg S (fun i σ G => ∃ (v6 : Option V), σ = [some (.ref wl), some (.int a), some (.ref pl), some (.ref l), some (.int (wpsum ws ps (lot.take i))), some (.int (a + wsum ws (lot.take i))), v6] ∧ Ex H G) ⟨none, by rw [List.take_zero]; show _ = [_, _, _, _, some (V.int 0), some (V.int (a + 0)), _]; rw [Int.add_zero]; try rfl, Ex.refl _⟩ (fun i σ' G _ ⟨_, _, e⟩ => aOk hl e) ?_ ?_
    · rintro i y σ' G G2 hi ⟨v6, rfl, eG⟩ e2 hy
      obtain ⟨hi2, rfl⟩ := get_int hy
      have ht := hlot (lot.getD i 0) (by rw [getD_get _ _ _ hi2]; exact List.getElem_mem hi2)
      have hcm : CM (ws.getD (lot.getD i 0).toNat 0) (ps.getD (lot.getD i 0).toNat 0) := CM.of_right (by rw [getD_get _ _ _ (show (lot.getD i 0).toNat < ps.length by omega)]; exact hpb _ (List.getElem_mem _))
      walk_at "go"
      have e : a + wsum ws (lot.take (i + 1)) = a + wsum ws (lot.take i) + ws.getD (lot.getD i 0).toNat 0 := by rw [take_snoc hi2 0, wsum_snoc, ← Int.add_assoc]
      have e' : wpsum ws ps (lot.take (i + 1)) = wpsum ws ps (lot.take i) + ws.getD (lot.getD i 0).toNat 0 * ps.getD (lot.getD i 0).toNat 0 := by rw [take_snoc hi2 0, wpsum_snoc]
      exact ⟨_, by rw [e, e']; try rfl, by walk_at "ex"⟩
    rintro σ' G ⟨v6, rfl, eG⟩
    rw [List.length_map, List.take_length]
    walk_at "go"
    rename_i p2 H2 hn2 he2 hp2
    exact k p2 H2 (eG.back hn2) (eG.trans he2) hp2

theorem ok_TooMany___init__ (T : Tx P K mg) : FnOk P w K mg base (L2.CX P w) 1 (He.ma K (He.ga K "TooMany") "__init__") (Z.fdOf K (He.ma K (He.ga K "TooMany") "__init__")) ["self", "many", "most"] (Z.spX (He.ga K "TooMany") ["many", "most"]) := by
  refine Z.FunS.ok (x0 := "self") T.F_TooMany___init__ sc_TooMany___init__ (by decide +kernel) rfl rfl rfl (by decide +kernel) (by decide +kernel) T.p_top T.n_super T.c_TooMany (fun vs H Q E h => ?_) (fun cc cda A outer s H vs Q E hr h S => ?_)
  · obtain ⟨a, ws, rfl, hl, _⟩ := h
    simpa using hl
  · obtain ⟨a, ws, rfl, hl, ha, k⟩ := h
    obtain ⟨v1, v2, rfl⟩ : ∃ v1 v2, ws = [v1, v2] := by
      match ws, hl with
      | [v1, v2], _ => exact ⟨v1, v2, rfl⟩
    refine ⟨_, _, Z.ps_supE (Z.pe_supX S T.mro_TooMany_TooMany T.third T.si_TooMany.1 T.si_TooMany.2.1 (pa_cons pe_str pa_nil)), (pss_cons (ps_ost (pv 0) (pv 1)) (pss_one (ps_ost (pv 0) (pv 2)))), ?_⟩
    refine ⟨a, rfl, T.oe_TooMany, ha, by decide, ha, ?_⟩
    refine ⟨_, rfl, _, rfl, a, He.ga K "TooMany", rfl, T.oe_TooMany, T.nf_TooMany_many, .inl ⟨ha, fun dx hd hne => ?_⟩⟩
    refine ⟨_, rfl, _, rfl, a, He.ga K "TooMany", rfl, T.oe_TooMany, T.nf_TooMany_most, .inr ⟨dx, _, upd_same, by rw [upd_ne hne, upd_same], by simp, ?_⟩⟩
    rw [Z.upd_swap hne]
    exact k dx hd hne

/-- Rule.__init__ of an object of the class Stepping that is new -/
def sp_Stepping_Rule___init__ (K : PySem.W.Frag) : Sp := fun vs H Q E => ∃ (H0 : Hp) (x dx : Addr) (n : Int), vs = [.ref x, .int n] ∧ At H x (.ins (He.ga K "Stepping") dx []) ∧ Fr H0 x ∧ Ex H0 H ∧
  (8 < n → ∀ d H', Ex H0 H' → At H' d (.xd [("most", .int 8), ("many", .int n)]) → E (.ref (He.ga K "TooMany")) (some d) H') ∧ (n ≤ 8 → ∀ H', Ex H0 H' → At H' x (.ins (He.ga K "Stepping") dx [("many", .int n)]) → (∀ b o, b ≠ x → At H b o → At H' b o) → Q .non H')
theorem ok_Stepping_Rule___init__ (T : Tx P K mg) : FnOk P w K mg base (L2.CX P w) 3 (He.ma K (He.ga K "Rule") "__init__") (Z.fdOf K (He.ma K (He.ga K "Rule") "__init__")) ["self", "many"] (sp_Stepping_Rule___init__ K) := by
  refine T.F_Rule___init__.ok sc_Rule___init__ (fun vs H Q E h => ?_) (fun cdv A outer s H vs Q E hr h => ?_)
  · obtain ⟨H0, x, dx, n, rfl, _⟩ := h
    rfl
  · obtain ⟨H0, x, dx, n, rfl, hx, hf, e0, hE, k⟩ := h
    have cl := T.o_Stepping.cl
    have kM := T.k_Stepping_MOST
    have na := T.na_Stepping_many
    have fx0 := T.o_Stepping.cl
    have fx1 := T.na_Stepping_many
    have fx2 := T.k_Stepping_MOST
    refine ⟨_, (pss_cons (ps_if (pt_cmpR Z.op_gt (pv 1) (Z.con (K := K) rfl (pv 0) rfl) (nomark _)) (pss_one (Z.ps_raiseZ rfl (takes_of rfl rfl rfl rfl) (pmk_oex T.oe_TooMany T.si_TooMany.2.2.1 T.si_TooMany.2.2.2 (ok_TooMany___init__ T) (hr.mono (by decide)) T.b_TooMany___init__ .nil passL (by rfl) T.g_TooMany (pa_cons (pv 1) (pa_cons (Z.con (K := K) rfl (pv 0) rfl) pa_nil))))) pss_nil)
      (pss_one (ps_fld (pv 0) (pv 1) rfl))), ?_⟩
    try dsimp only [cxOf, Cx.nox, Cx.wish]
    try (show (_ : TS) _ [some _, some _] _)
    walk_at "go"
    refine Z.w_dec (fun h1 => ?_) (fun h1 => ?_)
    · walk_at "go"
      rename_i d H2 hn he hp
      exact hE h1 d H2 (e0.trans he) hp
    · walk_at "go"
      refine Z.w_put hx cl na (by decide) fun H2 h2 hk ho => ?_
      walk_at "go"
      exact k (by omega) H2 (hk H0 e0 hf) h2 ho

theorem ins_ne {H : Hp} {a b : Addr} {C dx : Addr} {fs : List (Str × V)} {xs : List V} (h : At H b (.ins C dx fs)) (e : a = b) (g : At H a (.tup xs)) : False := by
  subst e
  cases h.inj g
theorem LTt.of' {H H' : Hp} {xs : List V} {ls : List (List Int)} {x C dx : Addr} {fs : List (Str × V)} (h : LTt H xs ls) (hx : At H x (.ins C dx fs)) (ho : ∀ b o, b ≠ x → At H b o → At H' b o) : LTt H' xs ls := ⟨h.1, fun i hi => by
  obtain ⟨a, h1, h2⟩ := h.2 i hi
  exact ⟨a, h1, ho _ _ (fun z => ins_ne hx z h2) h2⟩⟩
def sp_Stepping___init__ (K : PySem.W.Frag) : Sp := fun vs H Q E => ∃ (H0 : Hp) (x dx f s l : Addr) (fs lv : List Int) (a : Int) (xs : List V) (st : List (List Int)), vs = [.ref x, .ref f, .int a, .ref s, .ref l] ∧ At H x (.ins (He.ga K "Stepping") dx []) ∧ Fr H0 x ∧ Ex H0 H ∧ SqL K H0 f (fs.map V.int) ∧ At H0 s (.lst xs) ∧ LLi H0 xs st ∧ SqL K H0 l (lv.map V.int) ∧ fs.length ≤ 1000 ∧ lv.length ≤ 1000 ∧ st.length ≤ 1000 ∧ (∀ r ∈ st, r.length ≤ 1000) ∧
  (8 < fs.length → ∀ d H', Ex H0 H' → At H' d (.xd [("most", .int 8), ("many", .int fs.length)]) → E (.ref (He.ga K "TooMany")) (some d) H') ∧
  (fs.length ≤ 8 → ∀ w v, CRes fs a st lv w v → ∀ d H', Ex H0 H' → At H' d (.xd [("at", v), ("what", .str w)]) → E (.ref (He.ga K "BadNumber")) (some d) H') ∧
  (fs.length ≤ 8 → CGood fs a st lv → ∀ H' t1 t2 t3 ys, Ex H0 H' → At H' x (.ins (He.ga K "Stepping") dx [("many", .int fs.length), ("first", .ref t1), ("aside", .int a), ("steps", .ref t2), ("leaves", .ref t3)]) → At H' t1 (.tup (fs.map V.int)) → At H' t2 (.tup ys) → LTt H' ys st → At H' t3 (.tup (lv.map V.int)) → Q .non H')
theorem ok_Stepping___init__ (T : Tx P K mg) : FnOk P w K mg base (L2.CX P w) 5 (He.ma K (He.ga K "Stepping") "__init__") (Z.fdOf K (He.ma K (He.ga K "Stepping") "__init__")) ["self", "first", "aside", "steps", "leaves"] (sp_Stepping___init__ K) := by
  refine Z.FunS.ok (x0 := "self") T.F_Stepping___init__ sc_Stepping___init__ (by decide +kernel) rfl rfl rfl (by decide +kernel) (by decide +kernel) T.p_top T.n_super T.c_Stepping (fun vs H Q E h => ?_) (fun cc cda A outer s H vs Q E hr h S => ?_)
  · obtain ⟨H0, x, dx, f, s, l, fs, lv, a, xs, st, rfl, _⟩ := h
    rfl
  · obtain ⟨H0, x, dx, f, s', l, fs, lv, a, xs, st, rfl, hx, hfx, e0, hf, hs, hL, hl, hfl, hll, hsl, hrl, hE1, hE2, k⟩ := h
    have hf0 := e0.l hf
    have fx0 := T.o_Stepping.cl
    have fx1 := T.na_Stepping_leaves
    have fx2 := T.na_Stepping_steps
    have fx3 := T.na_Stepping_aside
    have fx4 := T.na_Stepping_first
    refine ⟨_, _, (Z.ps_supE (Z.pe_sup S T.mro_Stepping_Stepping T.third T.sm_Stepping_Stepping___init__.1 T.sm_Stepping_Stepping___init__.2.1 T.sm_Stepping_Stepping___init__.2.2 (Z.rawOk (ok_Stepping_Rule___init__ T) T.b_Rule___init__) (hr.mono (by decide)) (fun σ => passAt (takes_of rfl rfl rfl rfl) σ) (pa_cons (pe_callB (Z.call_len (K := K) rfl) (by rfl) T.n_len (by decide +kernel) (pa_cons (pv 1) pa_nil)) pa_nil))), (pss_cons (ps_expr (Z.pe_callZ (ok_check_steps T) (hr.mono (by decide)) (by rfl) T.g_check_steps T.F_check_steps.kp T.b_check_steps .nil (fun σ => passAt (takes_of rfl rfl rfl rfl) σ) (pa_cons (pv 1) (pa_cons (pv 2) (pa_cons (pv 3) (pa_cons (pv 4) pa_nil))))))
      (pss_cons (ps_fld (pv 0) (pe_callTy (Z.call_tuple (K := K) rfl) (by rfl) T.n_tuple (by decide +kernel) (pa_cons (pv 1) pa_nil)) rfl)
      (pss_cons (ps_fld (pv 0) (pv 2) rfl)
      (pss_cons (ps_fld (pv 0) (pe_callTy (Z.call_tuple (K := K) rfl) (by rfl) T.n_tuple (by decide +kernel) (pa_cons (pe_lc (own := [("row", 6)]) rfl sc_Stepping___init__.nd (Z.piL (K := K) rfl (pv 3)) (blkOk_by (N := ["self", "first", "aside", "steps", "leaves", "__class__", "row"]) (sc := defScope s_Stepping___init__) (by decide +kernel)) (fun _ _ _ _ _ => (pg_name (i := 6) sc_Stepping___init__.nd rfl (by first | exact Or.inl rfl | exact Or.inr rfl))) (fun _ _ _ _ _ => pts_nil) (fun _ _ _ _ _ => (pe_callTy (Z.call_tuple (K := K) rfl) (by rfl) T.n_tuple (by decide +kernel) (pa_cons (pv 6) pa_nil)))) pa_nil)) rfl)
      (pss_one (ps_fld (pv 0) (pe_callTy (Z.call_tuple (K := K) rfl) (by rfl) T.n_tuple (by decide +kernel) (pa_cons (pv 4) pa_nil)) rfl)))))), ?_⟩
    change tSeq _ _ _ [some _, some _, some _, some _, some _, none, none] _
    try dsimp only [Z.scx, NdefX.ncx]
    walk_at "go"
    refine ⟨H0, x, dx, _, rfl, hx, hfx, e0, fun h d H' e hp => hE1 (by omega) d H' e hp, fun h8 H1 e1 h1 ho1 => ?_⟩
    have h8 : fs.length ≤ 8 := by omega
    walk_at "go"
    refine ⟨f, s', l, fs, lv, a, xs, st, rfl, e1.l hf, e1.get hs, hL.ex e1, e1.l hl, hfl, hll, hsl, hrl, fun w v h d H' e hd => hE2 h8 w v h d H' (e1.trans e) hd, fun hg H2 e2 => ?_⟩
    have e02 := e1.trans e2
    have hx2 := e2.get h1
    have hf2 := e02.l hf
    clear hx hf0 h1
    walk_at "go"
    rename_i t1 H3 hn3 he3 hp3
    have hx3 := he3.get hx2
    have e03 := e02.trans he3
    have hne1 : t1 ≠ x := fun z => ins_ne hx3 z hp3
    refine Z.w_putE hx3 fx0 fx4 (by show 1 < 900; decide) (by simp only [List.map_cons, List.map_nil]; decide +kernel) fun H4 h4 hk4 ho4 => ?_
    have e04 := hk4 H0 e03 hfx
    have ht1 := ho4 _ _ hne1 hp3
    clear hx2 hf2 hp3 hx3
    walk_at "go"
    refine Z.w_putE h4 fx0 fx3 (by show 2 < 900; decide) (by simp only [List.map_cons, List.map_nil, List.cons_append, List.nil_append]; decide +kernel) fun H5 h5 hk5 ho5 => ?_
    have e05 := hk5 H0 e04 hfx
    have ht1 := ho5 _ _ hne1 ht1
    have hs5 := e05.get hs
    have hL5 := hL.ex e05
    have hxl := hL.1
    clear h4
    walk_at "go"
    rename_i J2 S2
    refine Z.cgX S2 (fun k acc G' => LTt G' acc (st.take k)) (fun H' e => LTt.nil) (fun k acc Ga Gb h e => h.ex e) (fun H' e => e.l (sq_of hs5)) (by rw [hxl]; show _ ≤ 16777216; omega) (fun Dl kq z G2 acc hk ec cd hl hP hy => ?_) (fun p7 H7 acc hn7 he7 hp7 hl7 hP7 => ?_) rfl
    · have hk2 : kq < st.length := by omega
      obtain ⟨rr, g1, g2⟩ := hL5.2 kq hk2
      rw [g1] at hy
      cases hy
      have hlen : (st.getD kq []).length ≤ 1000 := hrl _ (by rw [getD_get _ _ _ hk2]; exact List.getElem_mem _)
      have g22 := ec.get g2
      walk_at "go"
      rename_i pt H3 hn3 he3 hp3
      refine Z.elx cd hl (by rw [hl]; show kq < 16777216; omega) he3 fun H5 hnl => ?_
      rw [take_snoc hk2 []]
      exact ((hP.ex he3).nl hnl).snoc (hnl.get (fun l z => by cases z) hp3)
    · rw [hxl, List.take_length] at hP7
      walk_at "go"
      rename_i t2 H8 hn8 he8 hp8
      have e58 := he7.trans he8
      have hx8 := e58.get h5
      have e08 := e05.trans e58
      have ht18 := e58.get ht1
      have hP8 := hP7.ex he8
      have hne2 : t2 ≠ x := fun z => ins_ne hx8 z hp8
      refine Z.w_putE hx8 fx0 fx2 (by show 3 < 900; decide) (by simp only [List.map_cons, List.map_nil, List.cons_append, List.nil_append]; decide +kernel) fun H9 h9 hk9 ho9 => ?_
      have e09 := hk9 H0 e08 hfx
      have ht19 := ho9 _ _ hne1 ht18
      have ht29 := ho9 _ _ hne2 hp8
      have hP9 : LTt H9 acc st := hP8.of' hx8 ho9
      have hl9 := e09.l hl
      clear hp7 hp8 hx8 hs5 hL5
      walk_at "go"
      rename_i t3 H10 hn10 he10 hp10
      have h10 := he10.get h9
      have e010 := e09.trans he10
      have hne3 : t3 ≠ x := fun z => ins_ne h10 z hp10
      refine Z.w_putE h10 fx0 fx1 (by show 4 < 900; decide) (by simp only [List.map_cons, List.map_nil, List.cons_append, List.nil_append]; decide +kernel) fun H11 h11 hk11 ho11 => ?_
      walk_at "go"
      exact k h8 hg H11 t1 t2 t3 acc (hk11 H0 e010 hfx) h11 (ho11 _ _ hne1 (he10.get ht19)) (ho11 _ _ hne2 (he10.get ht29)) ((hP9.ex he10).of' h10 ho11) (ho11 _ _ hne3 hp10)
/-- Stepping(f, a, s, l) -/
theorem mkStp {H : Hp} {Q : VK} {E : XK} {f s l : Addr} {fs lv : List Int} {a : Int} {xs : List V} {st : List (List Int)} (hf : SqL K H f (fs.map V.int)) (hs : At H s (.lst xs)) (hL : LLi H xs st) (hl : SqL K H l (lv.map V.int)) (h1 : fs.length ≤ 1000) (h2 : lv.length ≤ 1000) (h3 : st.length ≤ 1000) (h4 : ∀ r ∈ st, r.length ≤ 1000)
    (hE1 : 8 < fs.length → ∀ d H', Ex H H' → At H' d (.xd [("most", .int 8), ("many", .int fs.length)]) → E (.ref (He.ga K "TooMany")) (some d) H')
    (hE2 : fs.length ≤ 8 → ∀ w v, CRes fs a st lv w v → ∀ d H', Ex H H' → At H' d (.xd [("at", v), ("what", .str w)]) → E (.ref (He.ga K "BadNumber")) (some d) H')
    (k : fs.length ≤ 8 → CGood fs a st lv → ∀ x H', Fr H x → Ex H H' → StR K H' x fs a st lv → Q (.ref x) H') : dMk (He.ga K "Stepping") (sp_Stepping___init__ K) [] E Q [.ref f, .int a, .ref s, .ref l] H :=
  w_dMk fun x dx H2 nw => ⟨H, x, dx, f, s, l, fs, lv, a, xs, st, rfl, nw.at_, nw.new, nw.ex, hf, hs, hL, hl, h1, h2, h3, h4, hE1, hE2, fun h8 hg H' t1 t2 t3 ys e q1 q2 q3 q4 q5 => ⟨rfl, k h8 hg x H' nw.new e ⟨dx, t1, t2, t3, ys, q1, q2, q3, q4, q5⟩⟩⟩

def sp_Stepping_like (K : PySem.W.Frag) : Sp := fun vs H Q E => ∃ (x : Addr) (ws : List Int) (a : Int), vs = [.ref (He.ga K "Stepping"), .ref x] ∧ WR K H x ws a ∧
  (8 < ws.length → ∀ d H', Ex H H' → At H' d (.xd [("most", .int 8), ("many", .int ws.length)]) → E (.ref (He.ga K "TooMany")) (some d) H') ∧
  (ws.length ≤ 8 → ∀ q H', Fr H q → Ex H H' → StR K H' q ws a (lkSt ws) (List.replicate ws.length a) → Q (.ref q) H')
theorem ok_Stepping_like (T : Tx P K mg) : FnOk P w K mg base (L2.CX P w) 7 (Z.wfA K "Stepping" "like") (Z.fdOf K (Z.wfA K "Stepping" "like")) ["cls", "rule"] (sp_Stepping_like K) := by
  refine T.F_Stepping_like.ok sc_Stepping_like (fun vs H Q E h => ?_) (fun cdv A outer s H vs Q E hr h => ?_)
  · obtain ⟨x, ws, a, rfl, _⟩ := h
    rfl
  · obtain ⟨x, ws, a, rfl, hx, hE, k⟩ := h
    have hlen := hx.len
    have fx0 := T.o_Weighted.cl
    have fx1 := T.na_Weighted_aside
    have fx2 := T.na_Weighted_weights
    have fx3 := T.na_Weighted_many
    refine ⟨_, (pss_cons (ps_set (i := 2) sc_Stepping_like.nd rfl (Or.inl rfl) (pe_lst pa_nil))
      (pss_cons (ps_for (passes_of rfl) rfl (pi_range1 (by rfl) T.n_range (pa_cons (Z.fld (K := K) rfl (pv 1) rfl) pa_nil)) (pg_name (i := 3) sc_Stepping_like.nd rfl (by first | exact Or.inl rfl | exact Or.inr rfl)) (pss_cons (ps_set (i := 4) sc_Stepping_like.nd rfl (Or.inl rfl) (pe_callTy (Z.call_list (K := K) rfl) (by rfl) T.n_list (by decide +kernel) (pa_cons (Z.fld (K := K) rfl (pv 1) rfl) pa_nil)))
      (pss_cons (ps_asg pe_int (pg_sub (pv 4) (pv 3) set_list))
      (pss_one (ps_expr (pe_bm PySem.F.plainAttrs_list PySem.F.slot_list_append PySem.F.type_list_append mt_append (pv 2) (pa_cons (pv 4) pa_nil)))))))
      (pss_cons (ps_setLc (i := 5) (own := [("_", 6)]) rfl sc_Stepping_like.nd rfl rfl (sw_true rfl rfl rfl (by decide +kernel)) (pi_range1 (by rfl) T.n_range (pa_cons (Z.fld (K := K) rfl (pv 1) rfl) pa_nil)) (blkOk_by (N := ["cls", "rule", "steps", "thing", "row", "leaves", "_"]) (sc := defScope s_Stepping_like) (by decide +kernel)) (fun _ _ _ _ _ => (pg_name (i := 6) sc_Stepping_like.nd rfl (by first | exact Or.inl rfl | exact Or.inr rfl))) (fun _ _ _ _ _ => pts_nil) (fun _ _ _ _ _ => (Z.fld (K := K) rfl (pv 1) rfl)))
      (pss_one (ps_ret (Z.pe_mkV T.mk_Stepping (ok_Stepping___init__ T) (hr.mono (by decide)) T.b_Stepping___init__ .nil (fun σ => passAt (takes_of rfl rfl rfl rfl) σ) (pv 0) (pa_cons (pe_callTy (Z.call_list (K := K) rfl) (by rfl) T.n_list (by decide +kernel) (pa_cons (Z.fld (K := K) rfl (pv 1) rfl) pa_nil)) (pa_cons (Z.fld (K := K) rfl (pv 1) rfl) (pa_cons (pv 2) (pa_cons (pv 5) pa_nil)))))))))), ?_⟩
    try dsimp only [cxOf, Cx.nox, Cx.wish]
    try (show (_ : TS) _ [some _, some _, none, none, none, none, none] _)
    walk_at "go"
    rename_i S H1 hn1 he1 hp1 J1 S1
    have fS : Fr H S := hn1
    have hx1 := hx.ex he1
    refine Z.fg S1 (fun i σ G => ∃ (v3 v4 v5 : Option V) (xs : List V), σ = [some (.ref (He.ga K "Stepping")), some (.ref x), some (.ref S), v3, v4, v5, none] ∧ Ex H G ∧ At G S (.lst xs) ∧ LLi G xs ((lkSt ws).take i)) ⟨none, none, none, [], rfl, he1, hp1, by rw [List.take_zero]; exact .nil⟩ (fun i σ' G _ _ => trivial) ?_ ?_
    · rintro i y σ' G G2 hi ⟨v3, v4, v5, xs, rfl, eG, hG, hL⟩ e2 rfl
      have hi2 : i < ws.length := by omega
      have hG2 := e2.get hG
      have hL2 := hL.ex e2
      have eG2 := eG.trans e2
      have hx2 := hx.ex eG2
      have hxl : xs.length = i := by rw [hL2.1, List.length_take, lkSt_len]; omega
      have htk := take_snoc (l := lkSt ws) (show i < (lkSt ws).length by rw [lkSt_len]; exact hi2) []
      rw [lkSt_get hi2] at htk
      rw [htk]
      clear hG hL hp1 hx1 hx
      walk_at "go"
      rename_i tw htw htw2 R H3 hn3 he3 hp3 H4 hp4 hnl4 ho4 hke4 H5 hp5 hnl5 ho5 hke5
      have hRS : R ≠ S := fun z => hG2.ne (z ▸ hn3) rfl
      have hmR : V.ref R ∉ xs := hL2.ne (Ex.refl _) hn3
      have hG4 := ho4 _ _ hRS.symm (he3.get hG2)
      have hL4 := (hL2.ex he3).of ho4 hmR
      rw [Int.toNat_natCast] at hp4
      exact ⟨_, _, _, _, rfl, hke5, hp5, (hL4.of ho5 (hL4.nself hG4)).snoc (ho5 _ _ hRS hp4)⟩
    · rintro σ' G ⟨v3, v4, v5, xs, rfl, eG, hG, hL⟩
      have hxG := hx.ex eG
      rw [show (ws.length : Int).toNat = (lkSt ws).length by rw [lkSt_len]; omega, List.take_length] at hL
      clear hp1 hx1
      walk_at "go"
      rename_i J2 S2 p6 H6 hn6 he6 hp6 tw htw htw2 p7 H7 hn7 he7 hp7
      have hp6' : At H6 p6 (.lst ((List.replicate ws.length a).map V.int)) := hp6
      have e7 := (eG.trans he6).trans he7
      refine mkStp (sq_of hp7) (he7.get (he6.get hG)) ((hL.ex he6).ex he7) (sq_of (he7.get hp6')) (by omega) (by rw [List.length_replicate]; omega) (by rw [lkSt_len]; omega) (fun r hr => ?_) (fun h d H' e hd => hE h d H' (e7.trans e) hd) (fun h8 w v hc d H' e hd => absurd (like_good hx.pos hx.apos) hc.good) (fun h8 hg q H' hq e hs => k h8 q H' (e7.back hq) (e7.trans e) hs)
      unfold lkSt at hr
      obtain ⟨t, _, rfl⟩ := List.mem_map.mp hr
      rw [List.length_set]; omega

def sp__law_is_like (K : PySem.W.Frag) : Sp := fun vs H Q _ => ∃ (x p : Addr) (ws : List Int) (a : Int), vs = [.ref x, .ref p, .int a] ∧ StR K H x ws a (lkSt ws) (List.replicate ws.length a) ∧ SqL K H p (ws.map V.int) ∧ ws.length ≤ 8 ∧ ∀ H', Ex H H' → Q (.bl true) H'
theorem ok__law_is_like (T : Tx P K mg) : FnOk P w K mg base (L2.CX P w) 3 (He.ga K "_law_is_like") (Z.fdOf K (He.ga K "_law_is_like")) ["_law_chain", "_law_weights", "_law_aside"] (sp__law_is_like K) := by
  refine T.F__law_is_like.ok sc__law_is_like (fun vs H Q E h => ?_) (fun cdv A outer s H vs Q E hr h => ?_)
  · obtain ⟨x, p, ws, a, rfl, _⟩ := h
    rfl
  · obtain ⟨x, p, ws, a, rfl, hx, hp, h8, k⟩ := h
    obtain ⟨dx, t1, t2, t3, ys, hx1, hx2, hx3, hx4, hx5⟩ := hx
    have hy0 := hx4.1
    have hsl := lkSt_len (ws := ws)
    have fx0 := T.o_Stepping.cl
    have fx1 := T.na_Stepping_steps
    have fx2 := T.na_Stepping_leaves
    have fx3 := T.na_Stepping_first
    have fx4 := T.na_Stepping_aside
    have fx5 := T.na_Stepping_many
    have fx6 := T.o_Ratio
    have fx7 := T.ki_Ratio_Stepping
    have fx8 := T.o_Rule
    have fx9 := T.ki_Rule_Stepping
    have fx10 := T.o_Stepping
    have fx11 := T.o_Weighted
    have fx12 := T.ki_Weighted_Stepping
    refine ⟨_, PSs.nox (pss_cons (ps_set (i := 3) sc__law_is_like.nd rfl (Or.inl rfl) (pe_callB (Z.call_len (K := K) rfl) (by rfl) T.n_len (by decide +kernel) (pa_cons (pv 1) pa_nil)))
      (pss_cons (ps_if (PW.pt (pw_or (pt_not (pt_val (pe_callB (Z.call_isi (K := K) rfl) (by rfl) T.n_isinstance (by decide +kernel) (pa_cons (pv 0) (pa_cons (pe_glob (v := .ref (He.ga K "Stepping")) (by rfl) T.g_Stepping rfl) pa_nil))))) (pw_or (pt_not (pt_val (pe_call (ok__law_is_int T) (hr.mono (by decide)) (by rfl) T.g__law_is_int T.F__law_is_int.kp T.b__law_is_int .nil passL (pa_cons (Z.fld (K := K) rfl (pv 0) rfl) pa_nil)))) (pw_or1 (pt_cmpR (Z.op_ne (K := K) rfl hr.units) (Z.fld (K := K) rfl (pv 0) rfl) (pv 3) (nomark _)))))) (pss_one (ps_ret pe_bl)) pss_nil)
      (pss_cons (ps_if (PW.pt (pw_or (pt_not (pt_val (pe_call (ok__law_is_int T) (hr.mono (by decide)) (by rfl) T.g__law_is_int T.F__law_is_int.kp T.b__law_is_int .nil passL (pa_cons (Z.fld (K := K) rfl (pv 0) rfl) pa_nil)))) (pw_or (pt_cmpR (Z.op_ne (K := K) rfl hr.units) (Z.fld (K := K) rfl (pv 0) rfl) (pv 2) (nomark _)) (pw_or1 (pt_not (pt_val (pe_call (ok__law_same_lot T) (hr.mono (by decide)) (by rfl) T.g__law_same_lot T.F__law_same_lot.kp T.b__law_same_lot .nil passL (pa_cons (Z.fld (K := K) rfl (pv 0) rfl) (pa_cons (pv 1) pa_nil))))))))) (pss_one (ps_ret pe_bl)) pss_nil)
      (pss_cons (ps_if (pt_not (pt_val (pe_call (ok__law_same_lot T) (hr.mono (by decide)) (by rfl) T.g__law_same_lot T.F__law_same_lot.kp T.b__law_same_lot .nil passL (pa_cons (Z.fld (K := K) rfl (pv 0) rfl) (pa_cons (pe_lc (own := [("_law_weight", 5)]) rfl sc__law_is_like.nd (Z.piL (K := K) rfl (pv 1)) (blkOk_by (N := ["_law_chain", "_law_weights", "_law_aside", "_law_many", "_law_k", "_law_weight", "_law_j"]) (sc := defScope s__law_is_like) (by decide +kernel)) (fun _ _ _ _ _ => (pg_name (i := 5) sc__law_is_like.nd rfl (by first | exact Or.inl rfl | exact Or.inr rfl))) (fun _ _ _ _ _ => pts_nil) (fun _ _ _ _ _ => (pv 2))) pa_nil))))) (pss_one (ps_ret pe_bl)) pss_nil)
      (pss_cons (ps_if (PW.pt (pw_or (pt_not (pt_val (pe_callB (Z.call_isi (K := K) rfl) (by rfl) T.n_isinstance (by decide +kernel) (pa_cons (Z.fld (K := K) rfl (pv 0) rfl) (pa_cons (pe_bltn (v := .ty "tuple") (u := .type "tuple") (by rfl) T.n_tuple (by decide +kernel) rfl) pa_nil))))) (pw_or1 (pt_cmpR (Z.op_ne (K := K) rfl hr.units) (pe_callB (Z.call_len (K := K) rfl) (by rfl) T.n_len (by decide +kernel) (pa_cons (Z.fld (K := K) rfl (pv 0) rfl) pa_nil)) (pv 3) (nomark _))))) (pss_one (ps_ret pe_bl)) pss_nil)
      (pss_cons (ps_for PassesOwn.never rfl (pi_range1 (by rfl) T.n_range (pa_cons (pv 3) pa_nil)) (pg_name (i := 4) sc__law_is_like.nd rfl (by first | exact Or.inl rfl | exact Or.inr rfl)) (pss_one (ps_if (pt_not (pt_val (pe_call (ok__law_same_lot T) (hr.mono (by decide)) (by rfl) T.g__law_same_lot T.F__law_same_lot.kp T.b__law_same_lot .nil passL (pa_cons (pe_ix (Z.ix (K := K) rfl) (Z.fld (K := K) rfl (pv 0) rfl) (pv 4) (fun _ _ => rfl)) (pa_cons (pe_lc (own := [("_law_j", 6)]) rfl sc__law_is_like.nd (pi_range1 (by rfl) T.n_range (pa_cons (pv 3) pa_nil)) (blkOk_by (N := ["_law_chain", "_law_weights", "_law_aside", "_law_many", "_law_k", "_law_weight", "_law_j"]) (sc := defScope s__law_is_like) (by decide +kernel)) (fun _ _ _ _ _ => (pg_name (i := 6) sc__law_is_like.nd rfl (by first | exact Or.inl rfl | exact Or.inr rfl))) (fun _ _ _ _ _ => pts_nil) (fun _ _ _ _ _ => (pe_op Z.op_mul (pe_ix (Z.ix (K := K) rfl) (pv 1) (pv 6) (fun _ _ => rfl)) (pe_callTy Z.call_int (by rfl) T.n_int (by decide +kernel) (pa_cons (pe_cmpR (Z.op_ne (K := K) rfl hr.units) (pv 6) (pv 4) (nomark _)) pa_nil))))) pa_nil))))) (pss_one (ps_ret pe_bl)) pss_nil)))
      (pss_one (ps_ret pe_bl)))))))), ?_⟩
    try dsimp only [cxOf, Cx.nox, Cx.wish]
    try (show (_ : TS) _ [some _, some _, some _, none, none, none, none] _)
    walk_at "go"
    clear hr
    walk_at "run"
    refine u_samelotA hx2 (.inl hp) (by omega) fun H1 e1 => ?_
    have hp1 := e1.l hp
    have hx11 := e1.get hx1
    have hx31 := e1.get hx3
    have hx51 := e1.get hx5
    have hx41 := hx4.ex e1
    clear hx1 hx2 hx3 hx5 hx4
    walk_at "run"
    rename_i J1 S1 p2 H2 hn2 he2 hp2
    rw [List.length_map] at hp2
    refine u_samelotA (he2.get hx51) (.inl (sq_of hp2)) (by rw [List.length_replicate]; omega) fun H3 e3 => ?_
    have e13 := he2.trans e3
    have hp3 := e13.l hp1
    have hx13 := e13.get hx11
    have hx33 := e13.get hx31
    have hx43 := hx41.ex e13
    clear hp1 hx11 hx31 hx51 hx41 hp2 hn2
    walk_at "run"
    rename_i J S
    refine Z.fg S (fun i σ G => ∃ (v4 v5 : Option V), σ = [some (.ref x), some (.ref p), some (.int a), some (.int ws.length), v4, v5, none] ∧ Ex H3 G) ⟨none, none, rfl, Ex.refl _⟩ (fun i σ' G _ _ => trivial) ?_ ?_
    · rintro i y σ' G G2 hi ⟨v4, v5, rfl, eG⟩ e2 rfl
      have hi2 : i < ws.length := by omega
      have eG2 := eG.trans e2
      obtain ⟨c, r1, r2⟩ := hx43.2 i (by omega)
      have hixc : atI ys (i : Int) = some (.ref c) := by unfold atI; rw [ixN_pos (by omega) (by omega), Int.toNat_natCast]; exact r1
      rw [lkSt_get hi2] at r2
      have r2' := eG2.get r2
      have hx1' := eG2.get hx13
      have hx3' := eG2.get hx33
      have hp' := eG2.l hp3
      clear hx13 hx33 hp3 r2
      walk_at "run"
      refine w_ixT (st_of hx3') hixc ?_
      walk_at "run"
      rename_i J2 S2
      refine Z.cgI S2 (fun j => if j = i then 0 else ws.getD j 0) (fun H' e => trivial) (by show _ ≤ 16777216; omega) (fun Dl j y G3 hj ec cd hy => ?_) (fun p6 H6 hn6 he6 hp6 => ?_) rfl
      · subst hy
        have hp4 := ec.l hp'
        have hj2 : j < ws.length := by omega
        walk_at "go"
        refine .inr ⟨_, rfl, ?_⟩
        by_cases e : j = i
        · have e1 : (!decide ((j : Int) = (i : Int))) = false := by simp [e]
          rw [e1, if_pos e]
          refine Z.w_mulI (Z.CM.of_right (by decide)) ?_
          show ElE G2 Dl _ (V.int (ws.getD j 0 * 0)) _
          rw [Int.mul_zero]
          walk_at "go"
        · have e1 : (!decide ((j : Int) = (i : Int))) = true := by simp; omega
          rw [e1, if_neg e]
          refine Z.w_mulI (Z.CM.of_right (by decide)) ?_
          show ElE G2 Dl _ (V.int (ws.getD j 0 * 1)) _
          rw [Int.mul_one]
          walk_at "go"
      · have e6 : ((List.range (ws.length : Int).toNat).map fun j => if j = i then 0 else ws.getD j 0) = ws.set i 0 := by
          apply List.ext_getElem
          · simp
          · intro j h1 h2
            rw [List.getElem_map, List.getElem_range, ← getD_get _ _ 0 h2, set0_get]
        rw [e6] at hp6
        walk_at "run"
        refine u_samelotA (he6.get r2') (.inl (sq_of hp6)) (by rw [List.length_set]; omega) fun H7 e7 => ?_
        walk_at "run"
        exact ⟨_, _, rfl, (eG2.trans he6).trans e7⟩
    · rintro σ' G ⟨v4, v5, rfl, eG⟩
      walk_at "run"
      exact k _ ((e1.trans e13).trans eG)

def sp__law_refused (K : PySem.W.Frag) : Sp := fun vs H Q _ => ∃ (x : Addr) (ws : List Int) (a : Int), vs = [.ref x] ∧ WR K H x ws a ∧ ws.length = 9 ∧ ∀ p H', Ex H H' → At H' p (.tup [.int 9, .int 8]) → Q (.ref p) H'
theorem ok__law_refused (T : Tx P K mg) : FnOk P w K mg base (L2.CX P w) 8 (He.ga K "_law_refused") (Z.fdOf K (He.ga K "_law_refused")) ["_law_rule"] (sp__law_refused K) := by
  refine T.F__law_refused.ok sc__law_refused (fun vs H Q E h => ?_) (fun cdv A outer s H vs Q E hr h => ?_)
  · obtain ⟨x, ws, a, rfl, _⟩ := h
    rfl
  · obtain ⟨x, ws, a, rfl, hx, h9, k⟩ := h
    have fx0 := T.exm_ShelfError_TooMany
    have fx1 := T.exm_ZeroBottom_TooMany
    have fx2 := T.exm_BadText_TooMany
    have fx3 := T.exm_BadLot_TooMany
    have fx4 := T.exm_BadNumber_TooMany
    have fx5 := T.exm_TooMany_TooMany
    refine ⟨_, PSs.nox (pss_cons (Z.ps_tryA (i := 1) rfl rfl sc__law_refused.nd rfl rfl ⟨rfl, by decide, .inl T.g_TooMany⟩ takes0 (fun W pn xe tk _ => (pss_one (ps_expr (Z.pe_cm (pe_glob (v := .ref (He.ga K "Stepping")) (by rfl) T.g_Stepping rfl) T.cr_Stepping T.cm_Stepping_like (Z.rawOk (ok_Stepping_like T) T.b_Stepping_like) (hr.mono (by decide)) (fun σ => passAt tk σ) (pa_cons (pv 0) pa_nil))))) (fun a oe cls d pn hz hf => (pss_one (ps_ret (pe_tup (pa_cons (pe_xf T.xf_TooMany T.nf_TooMany_many hz hf (pv 1)) (pa_cons (pe_xf T.xf_TooMany T.nf_TooMany_most hz hf (pv 1)) pa_nil)))))))
      (pss_one (ps_ret (pe_tup (pa_cons pe_int (pa_cons pe_int pa_nil)))))), ?_⟩
    try dsimp only [cxOf, Cx.nox, Cx.wish]
    try (show (_ : TS) _ [some _, none] _)
    walk_at "go"
    refine ⟨x, ws, a, rfl, hx, fun h8 d H1 e1 hd => ?_, fun h8 => absurd h9 (by omega)⟩
    rw [h9] at hd
    walk_at "go"
    rename_i ea hea p2 H2 hn2 he2 hp2
    exact k _ _ (e1.trans he2) hp2

def sp__law_is_best (K : PySem.W.Frag) : Sp := fun vs H Q _ => ∃ (p lt z wl pl : Addr) (ws : List Int) (a : Int) (ps lot : List Int) (q : Rat) (b : Nat), vs = [.ref p, .ref wl, .int a, .ref pl] ∧ At H p (.tup [.ref lt, .ref z]) ∧ At H lt (.tup (lot.map V.int)) ∧ RN (He.ga K "Ratio") H z q b ∧ SqL K H wl (ws.map V.int) ∧ SqL K H pl (ps.map V.int) ∧ Bst ws a ps lot q ∧ q = Rat.divInt (wpsum ws ps lot) (a + wsum ws lot) ∧ ps.length = ws.length ∧ ws.length ≤ 24 ∧ (∀ w ∈ ws, 1 ≤ w ∧ w < 2 ^ 60) ∧ 1 ≤ a ∧ a < 2 ^ 60 ∧ (∀ x ∈ ps, 0 ≤ x ∧ x < 2 ^ 60) ∧ ∀ H', Ex H H' → Q (.bl true) H'
theorem ok__law_is_best (T : Tx P K mg) : FnOk P w K mg base (L2.CX P w) 3 (He.ga K "_law_is_best") (Z.fdOf K (He.ga K "_law_is_best")) ["_law_best", "_law_weights", "_law_aside", "_law_prices"] (sp__law_is_best K) := by
  refine T.F__law_is_best.ok sc__law_is_best (fun vs H Q E h => ?_) (fun cdv A outer s H vs Q E hr h => ?_)
  · obtain ⟨p, lt, z, wl, pl, ws, a, ps, lot, q, b, rfl, _⟩ := h
    rfl
  · obtain ⟨p, lt, z, wl, pl, ws, a, ps, lot, q, b, rfl, hp, hlt, hz, hwl, hpl, hB, hq, hl, h24, hw, ha1, ha2, hps, k⟩ := h
    obtain ⟨⟨dz, hzz⟩, sq, h9⟩ := id hz
    have b1 := sq.1
    have b2 := sq.den
    have hd1 := den1 q
    have fx0 := T.o_Ratio.cl
    have fx1 := T.na_Ratio_bottom
    have fx2 := T.na_Ratio_top
    have fx3 := T.o_Ratio
    have fx4 := T.o_Rule
    have fx5 := T.o_Stepping
    have fx6 := T.o_Weighted
    refine ⟨_, PSs.nox (pss_cons (ps_if (PW.pt (pw_or (pt_not (pt_val (pe_callB (Z.call_isi (K := K) rfl) (by rfl) T.n_isinstance (by decide +kernel) (pa_cons (pv 0) (pa_cons (pe_bltn (v := .ty "tuple") (u := .type "tuple") (by rfl) T.n_tuple (by decide +kernel) rfl) pa_nil))))) (pw_or (pt_cmpR (Z.op_ne (K := K) rfl hr.units) (pe_callB (Z.call_len (K := K) rfl) (by rfl) T.n_len (by decide +kernel) (pa_cons (pv 0) pa_nil)) pe_int (nomark _)) (pw_or1 (pt_not (pt_val (pe_callB (Z.call_isi (K := K) rfl) (by rfl) T.n_isinstance (by decide +kernel) (pa_cons (pe_ix (Z.ix (K := K) rfl) (pv 0) pe_int (fun _ _ => rfl)) (pa_cons (pe_glob (v := .ref (He.ga K "Ratio")) (by rfl) T.g_Ratio rfl) pa_nil))))))))) (pss_one (ps_ret pe_bl)) pss_nil)
      (pss_cons (ps_if (PW.pt (pw_or (pt_not (pt_val (pe_call (ok__law_is_int T) (hr.mono (by decide)) (by rfl) T.g__law_is_int T.F__law_is_int.kp T.b__law_is_int .nil passL (pa_cons (Z.fld (K := K) rfl (pe_ix (Z.ix (K := K) rfl) (pv 0) pe_int (fun _ _ => rfl)) rfl) pa_nil)))) (pw_or (pt_not (pt_val (pe_call (ok__law_is_int T) (hr.mono (by decide)) (by rfl) T.g__law_is_int T.F__law_is_int.kp T.b__law_is_int .nil passL (pa_cons (Z.fld (K := K) rfl (pe_ix (Z.ix (K := K) rfl) (pv 0) pe_int (fun _ _ => rfl)) rfl) pa_nil)))) (pw_or1 (pt_cmpR Z.op_lt (Z.fld (K := K) rfl (pe_ix (Z.ix (K := K) rfl) (pv 0) pe_int (fun _ _ => rfl)) rfl) pe_int (nomark _)))))) (pss_one (ps_ret pe_bl)) pss_nil)
      (pss_cons (ps_set (i := 4) sc__law_is_best.nd rfl (Or.inl rfl) (pe_callTy (Z.call_tuple (K := K) rfl) (by rfl) T.n_tuple (by decide +kernel) (pa_cons (pe_lc (own := [("_law_k", 6)]) rfl sc__law_is_best.nd (pi_range1 (by rfl) T.n_range (pa_cons (pe_callB (Z.call_len (K := K) rfl) (by rfl) T.n_len (by decide +kernel) (pa_cons (pv 3) pa_nil)) pa_nil)) (blkOk_by (N := ["_law_best", "_law_weights", "_law_aside", "_law_prices", "_law_lot_here", "_law_due", "_law_k"]) (sc := defScope s__law_is_best) (by decide +kernel)) (fun _ _ _ _ _ => (pg_name (i := 6) sc__law_is_best.nd rfl (by first | exact Or.inl rfl | exact Or.inr rfl))) (fun _ _ _ _ _ => (pts_one (pt_cmpR Z.op_gt (pe_op Z.op_mul (pe_ix (Z.ix (K := K) rfl) (pv 3) (pv 6) (fun _ _ => rfl)) (Z.fld (K := K) rfl (pe_ix (Z.ix (K := K) rfl) (pv 0) pe_int (fun _ _ => rfl)) rfl)) (Z.fld (K := K) rfl (pe_ix (Z.ix (K := K) rfl) (pv 0) pe_int (fun _ _ => rfl)) rfl) (nomark _)))) (fun _ _ _ _ _ => (pv 6))) pa_nil)))
      (pss_cons (ps_set (i := 5) sc__law_is_best.nd rfl (Or.inl rfl) (pe_call (ok__law_worth T) (hr.mono (by decide)) (by rfl) T.g__law_worth T.F__law_worth.kp T.b__law_worth .nil passL (pa_cons (pv 1) (pa_cons (pv 2) (pa_cons (pv 3) (pa_cons (pv 4) pa_nil))))))
      (pss_one (ps_ret (pe_and (pe_call (ok__law_same_lot T) (hr.mono (by decide)) (by rfl) T.g__law_same_lot T.F__law_same_lot.kp T.b__law_same_lot .nil passL (pa_cons (pe_ix (Z.ix (K := K) rfl) (pv 0) pe_int (fun _ _ => rfl)) (pa_cons (pv 4) pa_nil))) (pe_one (pe_call (ok__law_same T) (hr.mono (by decide)) (by rfl) T.g__law_same T.F__law_same.kp T.b__law_same .nil passL (pa_cons (pe_ix (Z.ix (K := K) rfl) (pv 0) pe_int (fun _ _ => rfl)) (pa_cons (pe_ix (Z.ix (K := K) rfl) (pv 5) pe_int (fun _ _ => rfl)) (pa_cons (pe_ix (Z.ix (K := K) rfl) (pv 5) pe_int (fun _ _ => rfl)) pa_nil)))))))))))), ?_⟩
    try dsimp only [cxOf, Cx.nox, Cx.wish]
    try (show (_ : TS) _ [some _, some _, some _, some _, none, none, none] _)
    walk_at "go"
    clear hr
    walk_at "run"
    rename_i J S
    have hbn : b ≤ 13400 := h9
    refine Z.cgP S (fun i => decide (q.num < ps.getD i 0 * q.den)) (fun i => V.int (i : Nat)) (fun H' e => trivial) (by show _ ≤ 16777216; omega) (fun Dl i y G hi ec cd hz2 hy => ?_) (fun p4 H4 hn4 he4 hp4 => ?_)
    · subst hy
      have hp2 := ec.get hp
      have hz3 := ec.get hzz
      have hpl2 := ec.l hpl
      have hi2 : i < ps.length := by omega
      have hpm : (ps.getD i 0).natAbs < 2 ^ 64 := by
        have := hps _ (List.getElem_mem hi2)
        rw [← getD_get _ _ 0] at this
        omega
      walk_at "go"
      refine Z.w_dec (fun h => ?_) (fun h => ?_)
      · rw [Z.fr_T (decide_eq_true h)]
        walk_at "go"
      · rw [Z.fr_F (decide_eq_false h)]
        exact cd
    have hp4' : At H4 p4 (.lst ((castL ((List.range (ps.length : Int).toNat).filter fun i : Nat => decide (q.num < ps.getD i 0 * q.den))).map V.int)) := hp4.l (by unfold castL; rw [List.map_map]; rfl)
    rw [Int.toNat_natCast, ← hB.lot_eq] at hp4'
    have hp2 := he4.get hp
    have hlt2 := he4.get hlt
    have hz2 := hz.ex he4
    have hwl2 := he4.l hwl
    have hpl2 := he4.l hpl
    have hlotI : IsLot ws.length lot := by
      have := others_lot (n := (ps.length : Int)) (by omega) fun t => decide (q.num < ps.getD t 0 * q.den)
      rw [Int.toNat_natCast] at this
      rw [← hl, hB.lot_eq]
      exact this
    have hll := hlotI.len
    clear hp hlt hz hwl hpl hzz hp4
    have hwn := wsum_nonneg (fun w hh => (hw w hh).1) lot
    walk_at "run"
    rename_i pt H5 hn5 he5 hpt
    refine ⟨wl, pl, pt, ws, ps, a, lot, rfl, he5.l hwl2, he5.l hpl2, .inr (st_of hpt), fun t ht => by have := hlotI.2 t ht; omega, fun x hx => by have := hps x hx; omega, fun p6 H6 hn6 he6 hp6 => ?_⟩
    have hlt6 := (he5.trans he6).get hlt2
    have hp26 := (he5.trans he6).get hp2
    have hpt6 := he6.get hpt
    have hz6 := (hz2.ex he5).ex he6
    clear hp2 hlt2 hz2 hwl2 hpl2 hpt
    walk_at "run"
    refine u_samelot hlt6 (st_of hpt6) (by omega) fun H7 e7 => ?_
    have hp27 := e7.get hp26
    have hp67 := e7.get hp6
    have hz7 := hz6.ex e7
    clear hp26 hp6
    walk_at "run"
    refine u_sameT hz7 (by omega) hq ?_ ?_ ?_
    · have h1 := wpsum_bt' (fun w hh => by have := hw w hh; omega) (fun x hx => by have := hps x hx; omega) lot
      refine bt_mono (n := 199) (Nat.lt_of_le_of_lt h1 ?_) (by decide)
      have : lot.length * 2 ^ 128 ≤ 24 * 2 ^ 128 := Nat.mul_le_mul_right _ (by omega)
      exact Nat.lt_of_le_of_lt this (by decide)
    · exact bt_mono (tot_bt (B := 60) (fun w hh => (hw w hh).1) ha1 (fun w hh => (hw w hh).2) ha2 (by omega)).2 (by decide)
    · exact k _ (((he4.trans he5).trans he6).trans e7)

/-- Rule.__init__ of an object of the class Weighted that is new -/
def sp_Weighted_Rule___init__ (K : PySem.W.Frag) : Sp := fun vs H Q E => ∃ (H0 : Hp) (x dx : Addr) (n : Int), vs = [.ref x, .int n] ∧ At H x (.ins (He.ga K "Weighted") dx []) ∧ Fr H0 x ∧ Ex H0 H ∧
  (24 < n → ∀ d H', Ex H0 H' → At H' d (.xd [("most", .int 24), ("many", .int n)]) → E (.ref (He.ga K "TooMany")) (some d) H') ∧ (n ≤ 24 → ∀ H', Ex H0 H' → At H' x (.ins (He.ga K "Weighted") dx [("many", .int n)]) → (∀ b o, b ≠ x → At H b o → At H' b o) → Q .non H')
theorem ok_Weighted_Rule___init__ (T : Tx P K mg) : FnOk P w K mg base (L2.CX P w) 3 (He.ma K (He.ga K "Rule") "__init__") (Z.fdOf K (He.ma K (He.ga K "Rule") "__init__")) ["self", "many"] (sp_Weighted_Rule___init__ K) := by
  refine T.F_Rule___init__.ok sc_Rule___init__ (fun vs H Q E h => ?_) (fun cdv A outer s H vs Q E hr h => ?_)
  · obtain ⟨H0, x, dx, n, rfl, _⟩ := h
    rfl
  · obtain ⟨H0, x, dx, n, rfl, hx, hf, e0, hE, k⟩ := h
    have cl := T.o_Weighted.cl
    have kM := T.k_Weighted_MOST
    have na := T.na_Weighted_many
    have fx0 := T.o_Weighted.cl
    have fx1 := T.na_Weighted_many
    have fx2 := T.k_Weighted_MOST
    refine ⟨_, (pss_cons (ps_if (pt_cmpR Z.op_gt (pv 1) (Z.con (K := K) rfl (pv 0) rfl) (nomark _)) (pss_one (Z.ps_raiseZ rfl (takes_of rfl rfl rfl rfl) (pmk_oex T.oe_TooMany T.si_TooMany.2.2.1 T.si_TooMany.2.2.2 (ok_TooMany___init__ T) (hr.mono (by decide)) T.b_TooMany___init__ .nil passL (by rfl) T.g_TooMany (pa_cons (pv 1) (pa_cons (Z.con (K := K) rfl (pv 0) rfl) pa_nil))))) pss_nil)
      (pss_one (ps_fld (pv 0) (pv 1) rfl))), ?_⟩
    try dsimp only [cxOf, Cx.nox, Cx.wish]
    try (show (_ : TS) _ [some _, some _] _)
    walk_at "go"
    refine Z.w_dec (fun h1 => ?_) (fun h1 => ?_)
    · walk_at "go"
      rename_i d H2 hn he hp
      exact hE h1 d H2 (e0.trans he) hp
    · walk_at "go"
      refine Z.w_put hx cl na (by decide) fun H2 h2 hk ho => ?_
      walk_at "go"
      exact k (by omega) H2 (hk H0 e0 hf) h2 ho

/-- the first weight below 1 -/
def spW_err (K : PySem.W.Frag) (ws : List Int) (a : Int) (E : XK) (H0 : Hp) : Prop :=
  (24 < ws.length → ∀ d H', Ex H0 H' → At H' d (.xd [("most", .int 24), ("many", .int ws.length)]) → E (.ref (He.ga K "TooMany")) (some d) H') ∧
  (ws.length ≤ 24 → ∀ i, i < ws.length → ws.getD i 0 < 1 → (∀ j, j < i → 1 ≤ ws.getD j 0) → ∀ d H', Ex H0 H' → At H' d (.xd [("at", .int (i : Nat)), ("what", .str "weights")]) → E (.ref (He.ga K "BadNumber")) (some d) H') ∧
  (ws.length ≤ 24 → (∀ j, j < ws.length → 1 ≤ ws.getD j 0) → a < 1 → ∀ d H', Ex H0 H' → At H' d (.xd [("at", .non), ("what", .str "aside")]) → E (.ref (He.ga K "BadNumber")) (some d) H')
def sp_Weighted___init__ (K : PySem.W.Frag) : Sp := fun vs H Q E => ∃ (H0 : Hp) (x dx l : Addr) (ws : List Int) (a : Int), vs = [.ref x, .ref l, .int a] ∧ At H x (.ins (He.ga K "Weighted") dx []) ∧ Fr H0 x ∧ Ex H0 H ∧ (SqL K H0 l (ws.map V.int) ∨ At H0 l (.tup (ws.map V.int))) ∧ ws.length ≤ 100 ∧
  spW_err K ws a E H0 ∧
  (ws.length ≤ 24 → (∀ j, j < ws.length → 1 ≤ ws.getD j 0) → 1 ≤ a → ∀ H' t, Ex H0 H' → At H' x (.ins (He.ga K "Weighted") dx (wF ws.length t a)) → At H' t (.tup (ws.map V.int)) → Q .non H')
theorem ok_Weighted___init__ (T : Tx P K mg) : FnOk P w K mg base (L2.CX P w) 5 (He.ma K (He.ga K "Weighted") "__init__") (Z.fdOf K (He.ma K (He.ga K "Weighted") "__init__")) ["self", "weights", "aside"] (sp_Weighted___init__ K) := by
  refine Z.FunS.ok (x0 := "self") T.F_Weighted___init__ sc_Weighted___init__ (by decide +kernel) rfl rfl rfl (by decide +kernel) (by decide +kernel) T.p_top T.n_super T.c_Weighted (fun vs H Q E h => ?_) (fun cc cda A outer s H vs Q E hr h S => ?_)
  · obtain ⟨H0, x, dx, l, ws, a, rfl, _⟩ := h
    rfl
  · obtain ⟨H0, x, dx, l, ws, a, rfl, hx, hf, e0, hl, hw, hE, k⟩ := h
    rcases hl with hl | hl
    · skip
      have cl := T.o_Weighted.cl
      have na1 := T.na_Weighted_weights
      have na2 := T.na_Weighted_aside
      have fx0 := T.o_Weighted.cl
      have fx1 := T.na_Weighted_aside
      have fx2 := T.na_Weighted_weights
      refine ⟨_, _, (Z.ps_supE (Z.pe_sup S T.mro_Weighted_Weighted T.third T.sm_Weighted_Weighted___init__.1 T.sm_Weighted_Weighted___init__.2.1 T.sm_Weighted_Weighted___init__.2.2 (Z.rawOk (ok_Weighted_Rule___init__ T) T.b_Rule___init__) (hr.mono (by decide)) (fun σ => passAt (takes_of rfl rfl rfl rfl) σ) (pa_cons (pe_callB (Z.call_len (K := K) rfl) (by rfl) T.n_len (by decide +kernel) (pa_cons (pv 1) pa_nil)) pa_nil))), (pss_cons (ps_for (passes_of rfl) rfl (Z.pi_enumA (K := K) rfl (by rfl) T.n_enumerate (pa_cons (pv 1) pa_nil)) (pg_tup (by rfl) (pgs_cons (pg_name (i := 4) sc_Weighted___init__.nd rfl (by first | exact Or.inl rfl | exact Or.inr rfl)) (pgs_cons (pg_name (i := 5) sc_Weighted___init__.nd rfl (by first | exact Or.inl rfl | exact Or.inr rfl)) pgs_nil))) (pss_one (ps_if (pt_cmpR Z.op_lt (pv 5) pe_int (nomark _)) (pss_one (Z.ps_raiseZ rfl (takes_of rfl rfl rfl rfl) (pmk_oex T.oe_BadNumber T.si_BadNumber.2.2.1 T.si_BadNumber.2.2.2 (ok_BadNumber___init__ T) (hr.mono (by decide)) T.b_BadNumber___init__ .nil passL (by rfl) T.g_BadNumber (pa_cons pe_str (pa_cons (pv 4) pa_nil))))) pss_nil)))
      (pss_cons (ps_if (pt_cmpR Z.op_lt (pv 2) pe_int (nomark _)) (pss_one (Z.ps_raiseZ rfl (takes_of rfl rfl rfl rfl) (pmk_oex T.oe_BadNumber T.si_BadNumber.2.2.1 T.si_BadNumber.2.2.2 (ok_BadNumber___init__ T) (hr.mono (by decide)) T.b_BadNumber___init__ .nil passL (by rfl) T.g_BadNumber (pa_cons pe_str (pa_cons pe_non pa_nil))))) pss_nil)
      (pss_cons (ps_fld (pv 0) (pe_callTy (Z.call_tuple (K := K) rfl) (by rfl) T.n_tuple (by decide +kernel) (pa_cons (pv 1) pa_nil)) rfl)
      (pss_one (ps_fld (pv 0) (pv 2) rfl))))), ?_⟩
      change tSeq _ _ _ [some _, some _, some _, none, none, none] _
      try dsimp only [Z.scx, NdefX.ncx]
      walk_at "go"
      refine ⟨H0, x, dx, _, rfl, hx, hf, e0, fun h d H' e hp => hE.1 (by omega) d H' e hp, fun h24 H1 e1 h1 ho1 => ?_⟩
      have hA1 : SqA K H1 l (ws.map V.int) := .inl (e1.l hl)
      have h24 : ws.length ≤ 24 := by omega
      walk_at "go"
      rename_i J S
      refine Z.fg S (fun i σ G => ∃ (v4 v5 : Option V), σ = [some (.ref x), some (.ref l), some (.int a), none, v4, v5] ∧ Ex H1 G ∧ At G x (.ins (He.ga K "Weighted") dx [("many", .int ws.length)]) ∧ ∀ j, j < i → 1 ≤ ws.getD j 0)
        ⟨none, none, rfl, Ex.refl _, h1, fun j hj => absurd hj (by omega)⟩ (fun i σ' G _ ⟨_, _, _, e, _⟩ => aOk hA1 e) ?_ ?_
      · rintro i y σ' G G2 hi ⟨v4, v5, rfl, eG, hG, hall⟩ e2 ⟨t, z, rfl, ht, hz⟩
        obtain ⟨hi2, rfl⟩ := get_int hz
        have hG2 := e2.get hG
        walk_at "go"
        refine Z.w_dec (fun h => ?_) (fun h => ?_)
        · walk_at "go"
          rename_i d H5 hn5 he5 hp5
          exact hE.2.1 h24 i hi2 h hall d H5 (e1.trans ((eG.trans e2).trans he5)) hp5
        · walk_at "go"
          refine ⟨_, _, rfl, eG.trans e2, hG2, fun j hj => ?_⟩
          by_cases e : j = i
          · subst e; omega
          · exact hall j (by omega)
      · rintro σ' G ⟨v4, v5, rfl, eG, hG, hall⟩
        rw [List.length_map] at hall
        walk_at "go"
        refine Z.w_dec (fun h => ?_) (fun h => ?_)
        · walk_at "go"
          rename_i d H5 hn5 he5 hp5
          exact hE.2.2 h24 hall h d H5 (e1.trans (eG.trans he5)) hp5
        · have hl2 := eG.l (e1.l hl)
          walk_at "go"
          rename_i t H5 hn5 he5 hp5
          have hG5 := he5.get hG
          refine Z.w_putE hG5 cl na1 (by show 1 < 900; decide) (by simp only [List.map_cons, List.map_nil]; decide +kernel) fun H6 h6 hk6 ho6 => ?_
          have ht6 := ho6 t _ (fun z => hG.ne hn5 z.symm) hp5
          walk_at "go"
          refine Z.w_putE h6 cl na2 (by show 2 < 900; decide) (by simp only [List.map_cons, List.map_nil, List.cons_append, List.nil_append]; decide +kernel) fun H7 h7 hk7 ho7 => ?_
          walk_at "go"
          refine k h24 hall (by omega) H7 t (hk7 H0 (hk6 H0 (e1.trans (eG.trans he5)) hf) hf) ?_ (ho7 t _ (fun z => hG.ne hn5 z.symm) ht6)
          exact h7
    · skip
      have cl := T.o_Weighted.cl
      have na1 := T.na_Weighted_weights
      have na2 := T.na_Weighted_aside
      have fx0 := T.o_Weighted.cl
      have fx1 := T.na_Weighted_aside
      have fx2 := T.na_Weighted_weights
      refine ⟨_, _, (Z.ps_supE (Z.pe_sup S T.mro_Weighted_Weighted T.third T.sm_Weighted_Weighted___init__.1 T.sm_Weighted_Weighted___init__.2.1 T.sm_Weighted_Weighted___init__.2.2 (Z.rawOk (ok_Weighted_Rule___init__ T) T.b_Rule___init__) (hr.mono (by decide)) (fun σ => passAt (takes_of rfl rfl rfl rfl) σ) (pa_cons (pe_callB (Z.call_len (K := K) rfl) (by rfl) T.n_len (by decide +kernel) (pa_cons (pv 1) pa_nil)) pa_nil))), (pss_cons (ps_for (passes_of rfl) rfl (Z.pi_enumA (K := K) rfl (by rfl) T.n_enumerate (pa_cons (pv 1) pa_nil)) (pg_tup (by rfl) (pgs_cons (pg_name (i := 4) sc_Weighted___init__.nd rfl (by first | exact Or.inl rfl | exact Or.inr rfl)) (pgs_cons (pg_name (i := 5) sc_Weighted___init__.nd rfl (by first | exact Or.inl rfl | exact Or.inr rfl)) pgs_nil))) (pss_one (ps_if (pt_cmpR Z.op_lt (pv 5) pe_int (nomark _)) (pss_one (Z.ps_raiseZ rfl (takes_of rfl rfl rfl rfl) (pmk_oex T.oe_BadNumber T.si_BadNumber.2.2.1 T.si_BadNumber.2.2.2 (ok_BadNumber___init__ T) (hr.mono (by decide)) T.b_BadNumber___init__ .nil passL (by rfl) T.g_BadNumber (pa_cons pe_str (pa_cons (pv 4) pa_nil))))) pss_nil)))
      (pss_cons (ps_if (pt_cmpR Z.op_lt (pv 2) pe_int (nomark _)) (pss_one (Z.ps_raiseZ rfl (takes_of rfl rfl rfl rfl) (pmk_oex T.oe_BadNumber T.si_BadNumber.2.2.1 T.si_BadNumber.2.2.2 (ok_BadNumber___init__ T) (hr.mono (by decide)) T.b_BadNumber___init__ .nil passL (by rfl) T.g_BadNumber (pa_cons pe_str (pa_cons pe_non pa_nil))))) pss_nil)
      (pss_cons (ps_fld (pv 0) (pe_callTy (Z.call_tuple (K := K) rfl) (by rfl) T.n_tuple (by decide +kernel) (pa_cons (pv 1) pa_nil)) rfl)
      (pss_one (ps_fld (pv 0) (pv 2) rfl))))), ?_⟩
      change tSeq _ _ _ [some _, some _, some _, none, none, none] _
      try dsimp only [Z.scx, NdefX.ncx]
      walk_at "go"
      refine ⟨H0, x, dx, _, rfl, hx, hf, e0, fun h d H' e hp => hE.1 (by omega) d H' e hp, fun h24 H1 e1 h1 ho1 => ?_⟩
      have hA1 : SqA K H1 l (ws.map V.int) := .inr (st_of (e1.get hl))
      have h24 : ws.length ≤ 24 := by omega
      walk_at "go"
      rename_i J S
      refine Z.fg S (fun i σ G => ∃ (v4 v5 : Option V), σ = [some (.ref x), some (.ref l), some (.int a), none, v4, v5] ∧ Ex H1 G ∧ At G x (.ins (He.ga K "Weighted") dx [("many", .int ws.length)]) ∧ ∀ j, j < i → 1 ≤ ws.getD j 0)
        ⟨none, none, rfl, Ex.refl _, h1, fun j hj => absurd hj (by omega)⟩ (fun i σ' G _ ⟨_, _, _, e, _⟩ => aOk hA1 e) ?_ ?_
      · rintro i y σ' G G2 hi ⟨v4, v5, rfl, eG, hG, hall⟩ e2 ⟨t, z, rfl, ht, hz⟩
        obtain ⟨hi2, rfl⟩ := get_int hz
        have hG2 := e2.get hG
        walk_at "go"
        refine Z.w_dec (fun h => ?_) (fun h => ?_)
        · walk_at "go"
          rename_i d H5 hn5 he5 hp5
          exact hE.2.1 h24 i hi2 h hall d H5 (e1.trans ((eG.trans e2).trans he5)) hp5
        · walk_at "go"
          refine ⟨_, _, rfl, eG.trans e2, hG2, fun j hj => ?_⟩
          by_cases e : j = i
          · subst e; omega
          · exact hall j (by omega)
      · rintro σ' G ⟨v4, v5, rfl, eG, hG, hall⟩
        rw [List.length_map] at hall
        walk_at "go"
        refine Z.w_dec (fun h => ?_) (fun h => ?_)
        · walk_at "go"
          rename_i d H5 hn5 he5 hp5
          exact hE.2.2 h24 hall h d H5 (e1.trans (eG.trans he5)) hp5
        · have hl2 := eG.get (e1.get hl)
          walk_at "go"
          have hne : l ≠ x := fun z => hl.ne hf z
          refine Z.w_putE hG cl na1 (by show 1 < 900; decide) (by simp only [List.map_cons, List.map_nil]; decide +kernel) fun H6 h6 hk6 ho6 => ?_
          have ht6 := ho6 l _ hne hl2
          walk_at "go"
          refine Z.w_putE h6 cl na2 (by show 2 < 900; decide) (by simp only [List.map_cons, List.map_nil, List.cons_append, List.nil_append]; decide +kernel) fun H7 h7 hk7 ho7 => ?_
          walk_at "go"
          refine k h24 hall (by omega) H7 l (hk7 H0 (hk6 H0 (e1.trans eG) hf) hf) ?_ (ho7 l _ hne ht6)
          exact h7
/-- Weighted(l, a) as a new object -/
theorem mk_Weighted___init__ {H : Hp} {Q : VK} {E : XK} {l : Addr} {ws : List Int} {a : Int} (hl : SqL K H l (ws.map V.int) ∨ At H l (.tup (ws.map V.int))) (hw : ws.length ≤ 100) (hE : spW_err K ws a E H)
    (k : ws.length ≤ 24 → (∀ j, j < ws.length → 1 ≤ ws.getD j 0) → 1 ≤ a → ∀ x dx t H', Fr H x → Ex H H' → At H' x (.ins (He.ga K "Weighted") dx (wF ws.length t a)) → At H' t (.tup (ws.map V.int)) → Q (.ref x) H') :
    dMk (He.ga K "Weighted") (sp_Weighted___init__ K) [] E Q [.ref l, .int a] H :=
  w_dMk fun p dx H2 nw => ⟨H, p, dx, l, ws, a, rfl, nw.at_, nw.new, nw.ex, hl, hw, hE, fun h1 h2 h3 H' t e hx ht => ⟨rfl, k h1 h2 h3 p dx t H' nw.new e hx ht⟩⟩
theorem pos_of {ws : List Int} (h : ∀ j, j < ws.length → 1 ≤ ws.getD j 0) : ∀ w ∈ ws, 1 ≤ w := fun w hw => by
  obtain ⟨i, hi, rfl⟩ := List.mem_iff_getElem.mp hw
  have := h i hi
  rwa [getD_get _ _ _ hi] at this
/-- .. of right numbers -/
theorem mkW {H : Hp} {Q : VK} {E : XK} {l : Addr} {ws : List Int} {a : Int} (hl : SqL K H l (ws.map V.int)) (hw : ws.length ≤ 24) (hp : ∀ w ∈ ws, 1 ≤ w) (ha : 1 ≤ a) (k : ∀ x H', Fr H x → Ex H H' → WR K H' x ws a → Q (.ref x) H') :
    dMk (He.ga K "Weighted") (sp_Weighted___init__ K) [] E Q [.ref l, .int a] H :=
  mk_Weighted___init__ (.inl hl) (by omega) ⟨fun h => by omega, fun h i hi hi2 => by have := hp _ (List.getElem_mem hi); rw [getD_get _ _ _ hi] at hi2; omega, fun _ _ h => by omega⟩ fun h1 h2 h3 x dx t H' hf e hx ht => k x H' hf e ⟨⟨dx, t, hx, ht⟩, hw, hp, ha⟩
/-- .. of a tuple -/
theorem mkWT {H : Hp} {Q : VK} {E : XK} {l : Addr} {ws : List Int} {a : Int} (hl : At H l (.tup (ws.map V.int))) (hw : ws.length ≤ 24) (hp : ∀ w ∈ ws, 1 ≤ w) (ha : 1 ≤ a) (k : ∀ x H', Fr H x → Ex H H' → WR K H' x ws a → Q (.ref x) H') :
    dMk (He.ga K "Weighted") (sp_Weighted___init__ K) [] E Q [.ref l, .int a] H :=
  mk_Weighted___init__ (.inr hl) (by omega) ⟨fun h => by omega, fun h i hi hi2 => by have := hp _ (List.getElem_mem hi); rw [getD_get _ _ _ hi] at hi2; omega, fun _ _ h => by omega⟩ fun h1 h2 h3 x dx t H' hf e hx ht => k x H' hf e ⟨⟨dx, t, hx, ht⟩, hw, hp, ha⟩
local macro_rules | `(tactic| walk_at "call") => `(tactic| ((with_reducible apply R.mkW); (walk_at "fi"); (walk_at "num"); (with_reducible assumption); (with_reducible assumption); (intro p H2 hn he hr)))

/-- Rule.shares of an object of the class Stepping -/
def sp_Stepping_Rule_shares (K : PySem.W.Frag) : Sp := fun vs H Q E => ∃ (x l : Addr) (n : Int) (lot : List Int), vs = [.ref x, .ref l] ∧ RB (He.ga K "Stepping") H x n ∧ SqT K H l (lot.map V.int) ∧ (¬ IsLot n lot → ∀ H', Ex H H' → E (.ref (He.ga K "BadLot")) none H') ∧
  (IsLot n lot → ∀ p H' xs, Fr H p → Ex H H' → At H' p (.lst xs) → RL (He.ga K "Ratio") H' xs (List.replicate n.toNat 0) 1 → Q (.ref p) H')
theorem ok_Stepping_Rule_shares (T : Tx P K mg) : FnOk P w K mg base (L2.CX P w) 3 (He.ma K (He.ga K "Rule") "shares") (Z.fdOf K (He.ma K (He.ga K "Rule") "shares")) ["self", "lot"] (sp_Stepping_Rule_shares K) := by
  refine T.F_Rule_shares.ok sc_Rule_shares (fun vs H Q E h => ?_) (fun cdv A outer s H vs Q E hr h => ?_)
  · obtain ⟨x, l, n, lot, rfl, _⟩ := h
    rfl
  · obtain ⟨x, l, n, lot, rfl, hx, hl, hE, k⟩ := h
    obtain ⟨_, _, _, _, _, hn0, hn1⟩ := id hx
    obtain ⟨ds2_Ratio___init__, vd2_Ratio___init__, bd2_Ratio___init__⟩ := T.b2_Ratio___init__
    have fx0 := T.o_Stepping.cl
    have fx1 := T.na_Stepping_many
    refine ⟨_, (pss_cons (ps_expr (Z.pe_callZ (ok_check_lot T) (hr.mono (by decide)) (by rfl) T.g_check_lot T.F_check_lot.kp T.b_check_lot .nil (fun σ => passAt (takes_of rfl rfl rfl rfl) σ) (pa_cons (pv 1) (pa_cons (Z.fld (K := K) rfl (pv 0) rfl) pa_nil))))
      (pss_one (ps_ret (pe_lc (own := [("_", 2)]) rfl sc_Rule_shares.nd (pi_range1 (by rfl) T.n_range (pa_cons (Z.fld (K := K) rfl (pv 0) rfl) pa_nil)) (blkOk_by (N := ["self", "lot", "_"]) (sc := defScope s_Rule_shares) (by decide +kernel)) (fun _ _ _ _ _ => (pg_name (i := 2) sc_Rule_shares.nd rfl (by first | exact Or.inl rfl | exact Or.inr rfl))) (fun _ _ _ _ _ => pts_nil) (fun _ _ _ _ _ => (pe_make T.mk_Ratio (ok_Ratio___init__ T) (hr.mono (by decide)) (by rfl) T.g_Ratio bd2_Ratio___init__ vd2_Ratio___init__ passL (pa_cons pe_int pa_nil))))))), ?_⟩
    try dsimp only [cxOf, Cx.nox, Cx.wish]
    try (show (_ : TS) _ [some _, some _, none] _)
    walk_at "go"
    refine ⟨l, lot, n, rfl, hl, hE, fun hlot H1 e1 => ?_⟩
    walk_at "go"
    rename_i J S
    refine Z.cgX S (fun i acc G => RL (He.ga K "Ratio") G acc (List.replicate i 0) 1) (fun H' e => RL.nil) (fun i acc G1 G2 h e => h.ex e) (fun H' e => trivial) (by show _ ≤ 16777216; omega) (fun Dl i y G acc hi ec cd hal hP hy => ?_) (fun p G acc hn he hp hal hP => ?_) rfl
    · subst hy
      walk_at "go"
      rename_i p G2 hn he hr
      have hr := hr.tight (r := 0) (m := 1) (by exact_mod_cast rfl) (sz0 (by decide)) (by decide)
      refine Z.elx cd hal (by show _ < 16777216; omega) he fun G3 hnl => ?_
      rw [List.replicate_succ']
      exact ((hP.ex he).nl hnl).snoc (hr.nl hnl)
    · exact k hlot p G acc (e1.back hn) (e1.trans he) hp hP

def sp_Stepping_step_total (K : PySem.W.Frag) : Sp := fun vs H Q _ => ∃ (x : Addr) (t : Nat) (fs : List Int) (a : Int) (st : List (List Int)) (lv : List Int), vs = [.ref x, .int t] ∧ StR K H x fs a st lv ∧ CGood fs a st lv ∧ t < fs.length ∧ fs.length ≤ 8 ∧ ∀ H', Ex H H' → Q (.int (stTot st lv t)) H'
theorem ok_Stepping_step_total (T : Tx P K mg) : FnOk P w K mg base (L2.CX P w) 1 (He.ma K (He.ga K "Stepping") "step_total") (Z.fdOf K (He.ma K (He.ga K "Stepping") "step_total")) ["self", "thing"] (sp_Stepping_step_total K) := by
  refine T.F_Stepping_step_total.ok sc_Stepping_step_total (fun vs H Q E h => ?_) (fun cdv A outer s H vs Q E hr h => ?_)
  · obtain ⟨x, t, fs, a, st, lv, rfl, _⟩ := h
    rfl
  · obtain ⟨x, t, fs, a, st, lv, rfl, hx, hg, ht, h8, k⟩ := h
    obtain ⟨dx, t1, t2, t3, ys, q1, q2, q3, q4, q5⟩ := hx
    obtain ⟨rr, g1, g2⟩ := q4.2 t (by have := hg.sl; omega)
    have hyl := q4.1
    have hsl := hg.sl
    have hll := hg.ll
    have hidx : atI ys (t : Int) = some (.ref rr) := by
      unfold atI
      rw [ixN_pos (by omega) (by omega), Int.toNat_natCast]
      exact g1
    have fx0 := T.o_Stepping.cl
    have fx1 := T.na_Stepping_leaves
    have fx2 := T.na_Stepping_steps
    refine ⟨_, PSs.nox (pss_one (ps_ret (pe_op Z.op_add (pe_ix (Z.ix (K := K) rfl) (Z.fld (K := K) rfl (pv 0) rfl) (pv 1) (fun _ _ => rfl)) (pe_callB (Z.call_sum (K := K) rfl rfl) (by rfl) T.n_sum (by decide +kernel) (pa_cons (pe_ix (Z.ix (K := K) rfl) (Z.fld (K := K) rfl (pv 0) rfl) (pv 1) (fun _ _ => rfl)) pa_nil))))), ?_⟩
    try dsimp only [cxOf, Cx.nox, Cx.wish]
    try (show (_ : TS) _ [some _, some _] _)
    walk_at "go"
    refine w_ixT (st_of q3) hidx ?_
    walk_at "go"
    exact k _ (Ex.refl _)

theorem ok_Ratio___mul__ (T : Tx P K mg) : FnOk P w K mg base (L2.CX P w) 3 (He.ma K (He.ga K "Ratio") "__mul__") (Z.fdOf K (He.ma K (He.ga K "Ratio") "__mul__")) ["self", "other"] (spBin (He.ga K "Ratio") fun q r => q * r) := by
  refine T.F_Ratio___mul__.ok sc_Ratio___mul__ (fun vs H Q E h => ?_) (fun cdv A outer s H vs Q E hr h => ?_)
  · obtain ⟨a, v, q, r, n, m, rfl, _⟩ := h
    rfl
  · obtain ⟨a, v, q, r, n, m, rfl, ha, hv, hnm, k⟩ := h
    have O := T.o_Ratio
    have cl := T.o_Ratio.cl
    have na1 := T.na_Ratio_top
    have na2 := T.na_Ratio_bottom
    obtain ⟨⟨dx, hx⟩, sq, h9⟩ := ha
    have b1 := sq.1
    have b2 := sq.den
    cases hv with
    | @int i _ hi =>
      dsimp only at k
      rw [mul_int'] at k
      obtain ⟨ds3_Ratio___init__, vd3_Ratio___init__, bd3_Ratio___init__⟩ := T.b3_Ratio___init__
      have fx0 := T.o_Ratio
      have fx1 := T.o_Rule
      have fx2 := T.o_Stepping
      have fx3 := T.o_Weighted
      refine ⟨_, PSs.nox (pss_cons (ps_if (pt_val (pe_callB (Z.call_isi (K := K) rfl) (by rfl) T.n_isinstance (by decide +kernel) (pa_cons (pv 1) (pa_cons (pe_bltn (v := .ty "int") (u := .type "int") (by rfl) T.n_int (by decide +kernel) rfl) pa_nil)))) (pss_one (ps_ret (pe_make T.mk_Ratio (ok_Ratio___init__ T) (hr.mono (by decide)) (by rfl) T.g_Ratio bd3_Ratio___init__ vd3_Ratio___init__ passL (pa_cons (pe_op Z.op_mul (Z.fld (K := K) rfl (pv 0) rfl) (pv 1)) (pa_cons (Z.fld (K := K) rfl (pv 0) rfl) pa_nil))))) pss_nil)
      (pss_cons (ps_if (pt_not (pt_val (pe_callB (Z.call_isi (K := K) rfl) (by rfl) T.n_isinstance (by decide +kernel) (pa_cons (pv 1) (pa_cons (pe_glob (v := .ref (He.ga K "Ratio")) (by rfl) T.g_Ratio rfl) pa_nil))))) (pss_one ps_never) pss_nil)
      (pss_one (ps_ret (pe_make T.mk_Ratio (ok_Ratio___init__ T) (hr.mono (by decide)) (by rfl) T.g_Ratio bd3_Ratio___init__ vd3_Ratio___init__ passL (pa_cons (pe_op Z.op_mul (Z.fld (K := K) rfl (pv 0) rfl) (Z.fld (K := K) rfl (pv 1) rfl)) (pa_cons (pe_op Z.op_mul (Z.fld (K := K) rfl (pv 0) rfl) (Z.fld (K := K) rfl (pv 1) rfl)) pa_nil))))))), ?_⟩
      try dsimp only [cxOf, Cx.nox, Cx.wish]
      try (show (_ : TS) _ [some _, some _] _)
      walk_at "go"
      refine mkR (n := n + m + 1) (m := n + m + 1) ?_ (bt_mono b2 (by omega)) (by omega) (den0 q) (fun p H' hn he hr => k p H' hn he (by rw [Nat.max_self] at hr; exact hr))
      exact bt_mono (bt_mul b1 hi) (by omega)
    | @rat b r _ hb =>
      obtain ⟨⟨dy, hy⟩, sr, g9⟩ := hb
      have b3 := sr.1
      have b4 := sr.den
      dsimp only at k
      rw [mul_rat] at k
      obtain ⟨ds3_Ratio___init__, vd3_Ratio___init__, bd3_Ratio___init__⟩ := T.b3_Ratio___init__
      have fx0 := T.o_Ratio
      have fx1 := T.o_Rule
      have fx2 := T.o_Stepping
      have fx3 := T.o_Weighted
      refine ⟨_, PSs.nox (pss_cons (ps_if (pt_val (pe_callB (Z.call_isi (K := K) rfl) (by rfl) T.n_isinstance (by decide +kernel) (pa_cons (pv 1) (pa_cons (pe_bltn (v := .ty "int") (u := .type "int") (by rfl) T.n_int (by decide +kernel) rfl) pa_nil)))) (pss_one (ps_ret (pe_make T.mk_Ratio (ok_Ratio___init__ T) (hr.mono (by decide)) (by rfl) T.g_Ratio bd3_Ratio___init__ vd3_Ratio___init__ passL (pa_cons (pe_op Z.op_mul (Z.fld (K := K) rfl (pv 0) rfl) (pv 1)) (pa_cons (Z.fld (K := K) rfl (pv 0) rfl) pa_nil))))) pss_nil)
      (pss_cons (ps_if (pt_not (pt_val (pe_callB (Z.call_isi (K := K) rfl) (by rfl) T.n_isinstance (by decide +kernel) (pa_cons (pv 1) (pa_cons (pe_glob (v := .ref (He.ga K "Ratio")) (by rfl) T.g_Ratio rfl) pa_nil))))) (pss_one ps_never) pss_nil)
      (pss_one (ps_ret (pe_make T.mk_Ratio (ok_Ratio___init__ T) (hr.mono (by decide)) (by rfl) T.g_Ratio bd3_Ratio___init__ vd3_Ratio___init__ passL (pa_cons (pe_op Z.op_mul (Z.fld (K := K) rfl (pv 0) rfl) (Z.fld (K := K) rfl (pv 1) rfl)) (pa_cons (pe_op Z.op_mul (Z.fld (K := K) rfl (pv 0) rfl) (Z.fld (K := K) rfl (pv 1) rfl)) pa_nil))))))), ?_⟩
      try dsimp only [cxOf, Cx.nox, Cx.wish]
      try (show (_ : TS) _ [some _, some _] _)
      walk_at "go"
      refine mkR (n := n + m + 1) (m := n + m + 1) ?_ (bt_mono (bt_mul b2 b4) (by omega)) (by omega) (Int.mul_ne_zero (den0 q) (den0 r)) (fun p H' hn he hr => k p H' hn he (by rw [Nat.max_self] at hr; exact hr))
      exact bt_mono (bt_mul b1 b3) (by omega)

def sp_Stepping_shares (K : PySem.W.Frag) : Sp := fun vs H Q E => ∃ (x l : Addr) (fs : List Int) (a : Int) (st : List (List Int)) (lv : List Int) (lot : List Int), vs = [.ref x, .ref l] ∧ StR K H x fs a st lv ∧ CGood fs a st lv ∧ StBd fs a st lv ∧ fs.length ≤ 8 ∧ SqT K H l (lot.map V.int) ∧ (¬ IsLot fs.length lot → ∀ H', Ex H H' → E (.ref (He.ga K "BadLot")) none H') ∧
  (IsLot fs.length lot → ∀ p H' xs, Fr H p → Ex H H' → At H' p (.lst xs) → RL (He.ga K "Ratio") H' xs (stSh fs a st lv lot) 600 → Q (.ref p) H')
theorem StR.rb {K : PySem.W.Frag} {H : Hp} {x : Addr} {fs : List Int} {a : Int} {st : List (List Int)} {lv : List Int} (h : StR K H x fs a st lv) (h8 : fs.length ≤ 8) : RB (He.ga K "Stepping") H x fs.length := by
  obtain ⟨dx, t1, t2, t3, ys, h1, _⟩ := h
  refine ⟨dx, _, h1, rfl, fun m hm => ?_, by omega, by omega⟩
  have e1 : (m == ("many" : Str)) = false := by revert m; decide +kernel
  have e2 : (m == ("first" : Str)) = false := by revert m; decide +kernel
  have e3 : (m == ("aside" : Str)) = false := by revert m; decide +kernel
  have e4 : (m == ("steps" : Str)) = false := by revert m; decide +kernel
  have e5 : (m == ("leaves" : Str)) = false := by revert m; decide +kernel
  simp only [List.lookup, e1, e2, e3, e4, e5]
theorem ok_Stepping_shares (T : Tx P K mg) : FnOk P w K mg base (L2.CX P w) 4 (He.ma K (He.ga K "Stepping") "shares") (Z.fdOf K (He.ma K (He.ga K "Stepping") "shares")) ["self", "lot"] (sp_Stepping_shares K) := by
  refine Z.FunS.okC (x0 := "self") T.F_Stepping_shares sc_Stepping_shares (by decide +kernel) rfl rfl rfl (.inr (by decide +kernel)) (by decide +kernel) T.p_top T.n_super T.c_Stepping (by decide +kernel) (fun vs H Q E h => ?_) (fun cc cda A outer s H vs Q E hr h S => ?_)
  · obtain ⟨x, l, fs, a, st, lv, lot, rfl, _⟩ := h
    rfl
  · obtain ⟨x, l, fs, a, st, lv, lot, rfl, hx, hg, hb, h8, hl, hE, k⟩ := h
    have hrb := hx.rb h8
    obtain ⟨dx, t1, t2, t3, ys, q1, q2, q3, q4, q5⟩ := id hx
    obtain ⟨ds2_Ratio___init__, vd2_Ratio___init__, bd2_Ratio___init__⟩ := T.b2_Ratio___init__
    have fx0 := T.o_Stepping.cl
    have fx1 := T.na_Stepping_aside
    have fx2 := T.na_Stepping_first
    have fx3 := T.na_Stepping_steps
    have fx4 := T.na_Stepping_many
    refine ⟨_, _, (Z.ps_supA (i := 3) sc_Stepping_shares.nd rfl (by first | exact Or.inl rfl | exact Or.inr rfl) (Z.pe_sup S T.mro_Stepping_Stepping T.third T.sm_Stepping_Stepping_shares.1 T.sm_Stepping_Stepping_shares.2.1 T.sm_Stepping_Stepping_shares.2.2 (Z.rawOk (ok_Stepping_Rule_shares T) T.b_Rule_shares) (hr.mono (by decide)) (fun σ => passAt (takes_of rfl rfl rfl rfl) σ) (pa_cons (pv 1) pa_nil))), (pss_cons (ps_setLc (i := 4) (own := [("thing", 7)]) rfl sc_Stepping_shares.nd rfl rfl (sw_true rfl rfl rfl (by decide +kernel)) (pi_range1 (by rfl) T.n_range (pa_cons (Z.fld (K := K) rfl (pv 0) rfl) pa_nil)) (blkOk_by (N := ["self", "lot", "__class__", "row", "out", "rows", "at", "thing", "line", "looks", "arrived", "other", "look"]) (sc := defScope s_Stepping_shares) (by decide +kernel)) (fun _ _ _ _ _ => (pg_name (i := 7) sc_Stepping_shares.nd rfl (by first | exact Or.inl rfl | exact Or.inr rfl))) (fun _ _ _ _ _ => (pts_one (pt_cmpR (Z.op_notin (K := K) rfl) (pv 7) (pv 1) (by rfl)))) (fun _ _ _ _ _ => (pv 7)))
      (pss_cons (ps_set (i := 5) sc_Stepping_shares.nd rfl (Or.inl rfl) (pe_lst pa_nil))
      (pss_cons (ps_for (passes_of rfl) rfl (pi_enum (by rfl) T.n_enumerate (pa_cons (pv 4) pa_nil)) (pg_tup (by rfl) (pgs_cons (pg_name (i := 6) sc_Stepping_shares.nd rfl (by first | exact Or.inl rfl | exact Or.inr rfl)) (pgs_cons (pg_name (i := 7) sc_Stepping_shares.nd rfl (by first | exact Or.inl rfl | exact Or.inr rfl)) pgs_nil))) (pss_cons (ps_setLc (i := 8) (own := [("other", 11)]) rfl sc_Stepping_shares.nd rfl rfl (sw_true rfl rfl rfl (by decide +kernel)) (Z.piL (K := K) rfl (pv 4)) (blkOk_by (N := ["self", "lot", "__class__", "row", "out", "rows", "at", "thing", "line", "looks", "arrived", "other", "look"]) (sc := defScope s_Stepping_shares) (by decide +kernel)) (fun _ _ _ _ _ => (pg_name (i := 11) sc_Stepping_shares.nd rfl (by first | exact Or.inl rfl | exact Or.inr rfl))) (fun _ _ _ _ _ => pts_nil) (fun _ _ _ _ _ => (pe_un Z.un_neg (pe_ix (Z.ix (K := K) rfl) (pe_ix (Z.ix (K := K) rfl) (Z.fld (K := K) rfl (pv 0) rfl) (pv 11) (fun _ _ => rfl)) (pv 7) (fun _ _ => rfl)))))
      (pss_cons (ps_asg (Z.pe_methZ (pv 0) T.o_Stepping.cl T.me_Stepping_step_total (ok_Stepping_step_total T) (hr.mono (by decide)) T.b_Stepping_step_total .nil (fun σ => passAt (takes_of rfl rfl rfl rfl) σ) (pa_cons (pv 7) pa_nil)) (pg_sub (pv 8) (pv 6) set_list))
      (pss_one (ps_expr (pe_bm PySem.F.plainAttrs_list PySem.F.slot_list_append PySem.F.type_list_append mt_append (pv 5) (pa_cons (pv 8) pa_nil)))))))
      (pss_cons (ps_set (i := 9) sc_Stepping_shares.nd rfl (Or.inl rfl) (Z.pe_callZ (ok_solve T) (hr.mono (by decide)) (by rfl) T.g_solve T.F_solve.kp T.b_solve .nil (fun σ => passAt (takes_of rfl rfl rfl rfl) σ) (pa_cons (pv 5) (pa_cons (pe_lc (own := [("thing", 7)]) rfl sc_Stepping_shares.nd (Z.piL (K := K) rfl (pv 4)) (blkOk_by (N := ["self", "lot", "__class__", "row", "out", "rows", "at", "thing", "line", "looks", "arrived", "other", "look"]) (sc := defScope s_Stepping_shares) (by decide +kernel)) (fun _ _ _ _ _ => (pg_name (i := 7) sc_Stepping_shares.nd rfl (by first | exact Or.inl rfl | exact Or.inr rfl))) (fun _ _ _ _ _ => pts_nil) (fun _ _ _ _ _ => (pe_ix (Z.ix (K := K) rfl) (Z.fld (K := K) rfl (pv 0) rfl) (pv 7) (fun _ _ => rfl)))) pa_nil))))
      (pss_cons (ps_for (passes_of rfl) rfl (Z.piT (K := K) rfl (pv 1)) (pg_name (i := 7) sc_Stepping_shares.nd rfl (by first | exact Or.inl rfl | exact Or.inr rfl)) (pss_cons (ps_set (i := 10) sc_Stepping_shares.nd rfl (Or.inl rfl) (Z.pe_makeZ T.mk_Ratio (ok_Ratio___init__ T) (hr.mono (by decide)) (by rfl) T.g_Ratio bd2_Ratio___init__ vd2_Ratio___init__ (fun σ => passAt (takes_of rfl rfl rfl rfl) σ) (pa_cons (pe_ix (Z.ix (K := K) rfl) (Z.fld (K := K) rfl (pv 0) rfl) (pv 7) (fun _ _ => rfl)) pa_nil)))
      (pss_cons (ps_for (passes_of rfl) rfl (Z.pi_zipA (K := K) rfl (by rfl) T.n_zip (pa_cons (pv 4) (pa_cons (pv 9) pa_nil))) (pg_tup (by rfl) (pgs_cons (pg_name (i := 11) sc_Stepping_shares.nd rfl (by first | exact Or.inl rfl | exact Or.inr rfl)) (pgs_cons (pg_name (i := 12) sc_Stepping_shares.nd rfl (by first | exact Or.inl rfl | exact Or.inr rfl)) pgs_nil))) (pss_one (ps_set (i := 10) sc_Stepping_shares.nd rfl (Or.inl rfl) (Z.pe_opS (Z.opS_OO T.o_Ratio T.me_Ratio___add__.at_ T.me_Ratio___add__.fn (Z.rawOk (ok_Ratio___add__ T) T.b_Ratio___add__) (hr.mono (by decide)) (fun σ => passAt (takes_of rfl rfl rfl rfl) σ)) (pv 10) (Z.pe_opS (Z.opS_OI T.o_Ratio T.me_Ratio___mul__.at_ T.me_Ratio___mul__.fn T.me_Ratio___rmul__.at_ (.inr ⟨_, rfl⟩) Z.has_mul (Z.rawOk (ok_Ratio___mul__ T) T.b_Ratio___mul__) (hr.mono (by decide)) (fun σ => passAt (takes_of rfl rfl rfl rfl) σ)) (pv 12) (pe_ix (Z.ix (K := K) rfl) (pe_ix (Z.ix (K := K) rfl) (Z.fld (K := K) rfl (pv 0) rfl) (pv 11) (fun _ _ => rfl)) (pv 7) (fun _ _ => rfl)))))))
      (pss_one (ps_asg (Z.pe_methZ (pv 10) T.o_Ratio.cl T.me_Ratio_over (ok_Ratio_over T) (hr.mono (by decide)) T.b_Ratio_over .nil (fun σ => passAt (takes_of rfl rfl rfl rfl) σ) (pa_cons (pe_op Z.op_add (Z.fld (K := K) rfl (pv 0) rfl) (pe_callB (Z.call_sum (K := K) rfl rfl) (by rfl) T.n_sum (by decide +kernel) (pa_cons (Z.fld (K := K) rfl (pv 0) rfl) pa_nil))) pa_nil)) (pg_sub (pv 3) (pv 7) set_list))))))
      (pss_one (ps_ret (pv 3)))))))), ?_⟩
    change tSeq _ _ _ [some _, some _, none, none, none, none, none, none, none, none, none, none, none] _
    try dsimp only [Z.scx, NdefX.ncx]
    walk_at "go"
    clear hr
    have hq1 := q1
    have hq2 := q2
    have hq3 := q3
    have hx0 := hx
    have hl0 := hl
    refine ⟨x, l, _, lot, rfl, hrb, hl, hE, fun hlot p H1 xs hp e1 hat hxs => ?_⟩
    walk_at "go"
    rename_i J S
    have hsl := hg.sl
    have hst := q4.1
    have hall := fun (j i : Nat) (hj : j < fs.length) => q4.2 j (by omega)
    refine Z.cgP S (fun i => !decide ((i : Int) ∈ lot)) (fun i => V.int (i : Nat)) (fun H' e => trivial) (by show _ ≤ 16777216; omega) (fun Dl i y G hi ec cd hz hy => ?_) (fun p4 H4 hn4 he4 hp4 => ?_)
    · subst hy
      walk_at "go"
      refine Z.w_ndec (fun h => ?_) (fun h => ?_)
      · rw [Z.fr_T (by simp [h])]
        walk_at "go"
      · rw [Z.fr_F (by simp [h])]
        exact cd
    have hp4' : At H4 p4 (.lst (((outL fs.length lot).map fun k : Nat => (k : Int)).map V.int)) := hp4.l (by rw [List.map_map]; rfl)
    have hoN := outL_nodup (n := fs.length) (lot := lot)
    have hoL := fun t (h : t ∈ outL fs.length lot) => outL_lt h
    have hol := outL_len (n := fs.length) (lot := lot)
    have hSS : stSh fs a st lv lot = stShi fs a st lv lot lot := rfl
    have hget := fun part t h => stShi_snoc (fs := fs) (a := a) (st := st) (lv := lv) (lot := lot) (part := part) (t := t) h
    clear hp4
    generalize hout : outL fs.length lot = out at *
    have hod : ∀ j, j < out.length → out.getD j 0 < fs.length := fun j hj => hoL _ (by rw [getD_get _ _ _ hj]; exact List.getElem_mem _)
    walk_at "go"
    rename_i p5 H5 hn5 he5 hp5 J2 S2
    have e05 := (e1.trans he4).trans he5
    have hlr := lkRows_len (st := st) (lv := lv) (out := out)
    have f5 : Fr H4 p5 := hn5
    have f4 : Fr H1 p4 := hn4
    clear hn4 hn5 J S
    refine Z.fg S2 (fun i σ G => ∃ (v6 v7 v8 : Option V) (rs : List V), σ = [some (.ref x), some (.ref l), none, some (.ref p), some (.ref p4), some (.ref p5), v6, v7, v8, none, none, none, none] ∧ Ex H4 G ∧ At G p5 (.lst rs) ∧ LLi G rs ((lkRows st lv out).take i)) ⟨none, none, none, [], rfl, he5, hp5, by rw [List.take_zero]; exact .nil⟩ (fun i σ' G _ ⟨_, _, _, _, _, e, _⟩ => e.l (sq_of hp4')) ?_ ?_
    · rintro i y σ' G G2 hi ⟨v6, v7, v8, rs, rfl, eG, hG, hLG⟩ e2 ⟨T0, z, rfl, hT, hz⟩
      obtain ⟨hi2, rfl⟩ := get_int hz
      rw [List.length_map] at hi2
      rw [castD hi2] at hT
      have eG2 := eG.trans e2
      have e0G := (e1.trans he4).trans eG2
      have hG2 := e2.get hG
      have hLG2 := hLG.ex e2
      have hx2 := hx.ex e0G
      have q12 := e0G.get q1
      have q32 := e0G.get q3
      have ho2 := eG2.get hp4'
      have hrl : rs.length = i := by rw [hLG2.1, List.length_take, hlr]; omega
      have hodi := hod i hi2
      have htk := take_snoc (l := lkRows st lv out) (show i < (lkRows st lv out).length by omega) []
      rw [lkRows_row hi2, ← lkRow_set hi2] at htk
      rw [htk]
      have f5' := f5
      clear hG hLG htk hat hp4' hp5 q1 q2 q3 q5 hx hq1 hq2 hq3 hx0 hl0
      walk_at "go"
      rename_i J3 S3
      refine Z.cgI S3 (fun j => -((st.getD (out.getD j 0) []).getD (out.getD i 0) 0)) (fun H' e => e.l (sq_of ho2)) (by rw [List.length_map, List.length_map]; show _ ≤ 16777216; omega) (fun Dl j y G3 hj ec cd hy => ?_) (fun p6 H6 hn6 he6 hp6 => ?_) rfl
      · obtain ⟨hj2, rfl⟩ := get_int hy
        rw [List.length_map] at hj2
        rw [castD hj2]
        have hodj := hod j hj2
        obtain ⟨rr, g1, g2⟩ := hall (out.getD j 0) 0 hodj
        have g3 := ec.get (e0G.get g2)
        have q33 := ec.get q32
        have q13 := ec.get q12
        have hrow := (hg.s (out.getD j 0) (by omega)).1
        have hidx : atI ys ((out.getD j 0 : Nat) : Int) = some (.ref rr) := by
          unfold atI
          rw [ixN_pos (by omega) (by omega), Int.toNat_natCast]
          exact g1
        clear g2
        walk_at "go"
        refine w_ixT (st_of q33) hidx ?_
        generalize st.getD (out.getD j 0) [] = sr at *
        walk_at "go"
      · have hll : ((List.range out.length).map fun j => -((st.getD (out.getD j 0) []).getD (out.getD i 0) 0)).length = out.length := by rw [List.length_map, List.length_range]
        rw [List.length_map, List.length_map] at hp6
        generalize ((List.range out.length).map fun j => -((st.getD (out.getD j 0) []).getD (out.getD i 0) 0)) = lr at *
        have f6 : Fr G2 p6 := hn6
        have hx6 := hx2.ex he6
        have hG6 := he6.get hG2
        have hLG6 := hLG2.ex he6
        have hne : p6 ≠ p5 := fun z => hG2.ne (z ▸ hn6) rfl
        have q16 := he6.get q12
        have hmr : V.ref p6 ∉ rs := hLG2.ne (Ex.refl _) f6
        have eG6 := eG2.trans he6
        have f64 : Fr H4 p6 := eG2.back f6
        clear hx2 hG2 hLG2 q12 ho2 hn6 q32
        walk_at "go"
        refine ⟨x, out.getD i 0, fs, a, st, lv, rfl, hx6, hg, hodi, h8, fun H7 e7 => ?_⟩
        have hG7 := e7.get hG6
        have hLG7 := hLG6.ex e7
        have hp7 := e7.get hp6
        have eG7 := eG6.trans e7
        clear hG6 hLG6 hp6 hx6 q16
        walk_at "go"
        rename_i G8 hp8 hnl8 ho8 hke8
        have hG8 := ho8 _ _ hne.symm hG7
        have hLG8 := hLG7.of ho8 hmr
        have hp8' : At G8 p6 (.lst ((lr.set i (stTot st lv (out.getD i 0))).map V.int)) := hp8
        have f5'' := f5'
        have hrz : rs.length < 1000 := by omega
        clear hp8 hnl8 ho8 hp7 hG7 hLG7
        walk_at "go"
        rename_i G9 hp9 hnl9 ho9 hke9
        exact ⟨_, _, _, _, rfl, hke9, hp9, (hLG8.of ho9 (hLG8.nself hG8)).snoc (ho9 _ _ hne hp8')⟩
    · rintro σ' G ⟨v6, v7, v8, rs, rfl, eG, hG, hLG⟩
      rw [List.length_map, List.length_map, ← hlr, List.take_length] at hLG
      have e0G := (e1.trans he4).trans eG
      have hpG := eG.get hp4'
      have q2G := e0G.get q2
      have q1G := e0G.get q1
      have hpp := (he4.trans eG).get hat
      have hxp := hxs.ex (he4.trans eG)
      have hlG := e0G.t hl
      have q3G := e0G.get q3
      clear hp4' hp5 q1 q2 q3 q5 hx hxs
      walk_at "go"
      rename_i J3 S3
      refine Z.cgI S3 (fun i => fs.getD (out.getD i 0) 0) (fun H' e => e.l (sq_of hpG)) (by rw [List.length_map, List.length_map]; show _ ≤ 16777216; omega) (fun Dl j y G3 hj ec cd hy => ?_) (fun p6 H6 hn6 he6 hp6 => ?_) rfl
      · obtain ⟨hj2, rfl⟩ := get_int hy
        rw [List.length_map] at hj2
        rw [castD hj2]
        have hodj := hod j hj2
        have q13 := ec.get q1G
        have q23 := ec.get q2G
        walk_at "go"
      · rw [List.length_map, List.length_map] at hp6
        have hp6' : At H6 p6 (.lst ((lkRt fs out).map V.int)) := hp6
        have hG6 := he6.get hG
        have hLG6 := hLG.ex he6
        clear hp6
        walk_at "go"
        have hbz := sl_bits hg hb h8 hoN hoL (by omega)
        have hDp := slD_pos hg hoN hoL (lkRt fs out)
        have hez := ev_bd hg hb h8
        have harr := fun t k ht hk => arr_bits hg hb h8 hoN hoL (by omega) (t := t) (k := k) ht hk
        have hqg := fun k hk => slQ_get (rows := lkRows st lv out) (rt := lkRt fs out) (k := k) hk
        have hql := slQ_len (rows := lkRows st lv out) (rt := lkRt fs out)
        have hs1 := fun t k => arr_step (fs := fs) (st := st) (lv := lv) (out := out) (t := t) (k := k)
        have hs0 := fun t => arr_zero (fs := fs) (st := st) (lv := lv) (out := out) (t := t)
        refine ⟨p5, p6, rs, lkRows st lv out, lkRt fs out, 64, rfl, sq_of hG6, hLG6, sq_of hp6', by omega, lkRt_len.trans hlr.symm, fun i hi => by rw [lkRows_row (by omega), lkRow_len, hlr], fun i j hi hj => lk_bits hg hb h8 hoL (by omega) (by omega), by decide, by rw [hlr]; exact lk_mon hg hoN hoL _, fun p7 H7 zs hn7 he7 hp7 hR7 => ?_⟩
        generalize slQ (lkRows st lv out) (lkRt fs out) = qs at *
        generalize slD (lkRows st lv out) (lkRt fs out) = D at *
        generalize hN : slN (lkRows st lv out) (lkRt fs out) = N at *
        have e67 := he6.trans he7
        have hp47 := e67.get hpG
        have hpp7 := e67.get hpp
        have hxp7 := hxp.ex e67
        have eH7 := e0G.trans e67
        have hne4 : p4 ≠ p := fun z => hat.ne (z ▸ f4) rfl
        have hne7 : p7 ≠ p := fun z => (he6.get hpp).ne (z ▸ hn7) rfl
        have hnz : D ≠ 0 := by omega
        have hzl : zs.length = out.length := by rw [hR7.1, hql, hlr]
        clear hpG hpp hxp hG hLG hG6 hLG6 hp6' hlG q1G q2G q3G hn6 hn7
        walk_at "go"
        rename_i J4 S4
        refine Z.fg S4 (fun i σ G => ∃ (v7 v10 v11 v12 : Option V) (xs' : List V), σ = [some (.ref x), some (.ref l), none, some (.ref p), some (.ref p4), some (.ref p5), v6, v7, v8, some (.ref p7), v10, v11, v12] ∧ Ex H G ∧ At G p4 (.lst ((out.map fun k : Nat => (k : Int)).map V.int)) ∧ At G p7 (.lst zs) ∧ RL (He.ga K "Ratio") G zs qs (16 + 8 * 64) ∧ At G p (.lst xs') ∧ RL (He.ga K "Ratio") G xs' (stShi fs a st lv lot (lot.take i)) 600)
          ⟨_, none, none, none, xs, rfl, eH7, hp47, hp7, hR7, hpp7, ?_⟩ (fun i σ' G _ ⟨_, _, _, _, _, _, e, _⟩ => e.t hl) ?_ ?_
        · rw [List.take_zero, stShi_nil]
          exact hxp7.mono (by omega) (by omega)
        · rintro i y σ' G G2 hi ⟨v7, v10, v11, v12, xs', rfl, eG, h4G, h7G, hRG, hpG, hxG⟩ e2' hy
          obtain ⟨hi2, rfl⟩ := get_int hy
          have ht := hlot.2 (lot.getD i 0) (by rw [getD_get _ _ _ hi2]; exact List.getElem_mem hi2)
          have htk := take_snoc hi2 0
          obtain ⟨t, ht2⟩ := Int.eq_ofNat_of_zero_le ht.1
          rw [htk, ht2, ← hget _ t (by omega)]
          rw [ht2] at ht
          have htl : t < fs.length := by omega
          have eG2 := eG.trans e2'
          have h42 := e2'.get h4G
          have h72 := e2'.get h7G
          have hR2 := hRG.ex e2'
          have hp2 := e2'.get hpG
          have hx2 := hxG.ex e2'
          have q12 := eG2.get hq1
          have q22 := eG2.get hq2
          have q32 := eG2.get hq3
          have hft : (fs.getD t 0).natAbs < 2 ^ 60 := nab (by have := hg.f t htl; omega) (by rw [getD_get _ _ _ htl]; exact hb.f _ (List.getElem_mem _))
          clear h4G h7G hRG hpG hxG hp47 hp7 hR7 hpp7 hxp7 hy
          have hD6 : D.natAbs < 2 ^ 600 := bt_mono hbz.1 (by decide)
          walk_at "go"
          rename_i p8 H8 hn8 he8 hr8 J5 S5
          have h48 := he8.get h42
          have h78 := he8.get h72
          have q38 := he8.get q32
          have q18 := he8.get q12
          clear q22
          refine Z.fg S5 (fun k σ G' => ∃ (r : Addr) (v11 v12 : Option V), σ = [some (.ref x), some (.ref l), none, some (.ref p), some (.ref p4), some (.ref p5), v6, some (.int t), v8, some (.ref p7), some (.ref r), v11, v12] ∧ Ex H8 G' ∧ RN (He.ga K "Ratio") G' r (Rat.divInt (arrI fs st lv out t k) D) 600) ⟨p8, _, _, rfl, Ex.refl _, hr8.eq (hs0 t hnz) (by decide) (by decide)⟩ (fun k σ' G' _ ⟨_, _, _, _, e, _⟩ => ⟨e.l (sq_of h48), e.l (sq_of h78)⟩) ?_ ?_
          · rintro k y σ' G3 G4 hk ⟨r, w11, w12, rfl, e3, hr3⟩ e4 ⟨T2, y1, y2, rfl, hT2, hy1, hy2⟩
            obtain ⟨hk2, rfl⟩ := get_int hy1
            rw [List.length_map] at hk2
            rw [castD hk2] at hT2
            obtain ⟨rq, g5, g6⟩ := hR2.2 k (by omega)
            rw [g5] at hy2
            cases hy2
            rw [hqg k (by omega)] at g6
            have hodk := hod k hk2
            obtain ⟨rr, g1, g2⟩ := hall (out.getD k 0) 0 hodk
            have e34 := e3.trans e4
            have g6' := (g6.ex he8).ex e34
            have hr4 := hr3.ex e4
            have q34 := e34.get q38
            have q14 := e34.get q18
            have g3 := ((eG2.trans he8).trans e34).get g2
            have hrow := (hg.s (out.getD k 0) (by omega)).1
            have hidx : atI ys ((out.getD k 0 : Nat) : Int) = some (.ref rr) := by
              unfold atI
              rw [ixN_pos (by omega) (by omega), Int.toNat_natCast]
              exact g1
            have hsb : ((st.getD (out.getD k 0) []).getD t 0).natAbs < 2 ^ 60 := nab (hg.st0 _ _) (hb.st1 _ _)
            have hs1k := hs1 t k hnz
            have hak := harr t (k + 1) htl (by omega)
            clear g2 g6 hr3 q38 q18
            walk_at "go"
            refine w_ixT (st_of q34) hidx ?_
            generalize st.getD (out.getD k 0) [] = sr at *
            walk_at "go"
            rename_i p9 H9 hn9 he9 hr9 p10 H10 hn10 he10 hr10
            exact ⟨p10, _, _, rfl, e34.trans (he9.trans he10), hr10.tight hs1k (sz_div hnz (bt_mono hak (by decide)) hD6) (by decide)⟩
          · rintro σ' G3 ⟨r, w11, w12, rfl, e3, hr3⟩
            rw [List.length_map, List.length_map] at hr3
            have hx3 := (hx2.ex he8).ex e3
            have hp3 := e3.get (he8.get hp2)
            have q13 := e3.get q18
            have q23 := ((eG2.trans he8).trans e3).get hq2
            have hxl : xs'.length = fs.length := by rw [hx2.1, stShi_len]
            have hevb : (a + fs.sum).natAbs < 2 ^ 64 := nab (by omega) hez.2
            have hev0 : ((a + fs.sum : Int) : Rat) ≠ 0 := fun z => by
              have : a + fs.sum = 0 := by exact_mod_cast z
              omega
            have h43 := e3.get h48
            have h73 := e3.get h78
            have hR3 := (hR2.ex he8).ex e3
            have e03 := (eG2.trans he8).trans e3
            have hak := harr t out.length htl (Nat.le_refl _)
            clear h42 h72 hR2 hx2 hp2 h48 h78 q12 q18 q38 hr8
            walk_at "go"
            refine u_over hr3 (.int hevb) (by decide) hev0 fun p9 H9 hn9 he9 hr9 => ?_
            have hx9 := hx3.ex he9
            have hp9 := he9.get hp3
            have hr9' := hr9.tight (divI_over (n := arrI fs st lv out t out.length) (d := D) (e := a + fs.sum)) (sz_div (Int.mul_ne_zero hnz (by omega)) (bt_mono hak (by decide : 592 ≤ 600)) (bt_mono (bt_mul hbz.1 hevb) (by decide))) (by decide)
            have h49 := he9.get h43
            have h79 := he9.get h73
            have hR9 := hR3.ex he9
            have e09 := e03.trans he9
            clear hp3 hx3 h43 h73 hR3 hr9
            walk_at "go"
            rename_i H10 hp10 hnl10 ho10 hke10
            exact ⟨_, _, _, _, _, rfl, hke10, ho10 _ _ hne4 h49, ho10 _ _ hne7 h79, hR9.nl hnl10, hp10, (hx9.nl hnl10).set (hr9'.nl hnl10)⟩
        · rintro σ' G ⟨v7, v10, v11, v12, xs', rfl, eG, h4G, h7G, hRG, hpG, hxG⟩
          rw [List.length_map, List.take_length, ← hSS] at hxG
          walk_at "go"
          exact k hlot p G xs' hp eG hpG hxG
/-- stepping buyers as a rule -/
def Rep_Stepping (K : PySem.W.Frag) (H : Hp) (x : Addr) (n : Int) (sh : List Int → List Rat) (b : Nat) : Prop := ∃ fs a st lv, StR K H x fs a st lv ∧ CGood fs a st lv ∧ StBd fs a st lv ∧ fs.length ≤ 8 ∧ n = fs.length ∧ sh = stSh fs a st lv ∧ 600 ≤ b ∧ b ≤ 13400
theorem Rep_Stepping.ex {K : PySem.W.Frag} {H H' : Hp} {x : Addr} {n : Int} {sh : List Int → List Rat} {b : Nat} (h : Rep_Stepping K H x n sh b) (e : Ex H H') : Rep_Stepping K H' x n sh b := by
  obtain ⟨fs, a, st, lv, h1, h2⟩ := h
  exact ⟨fs, a, st, lv, h1.ex e, h2⟩
theorem Rep_Stepping.nl {K : PySem.W.Frag} {H H' : Hp} {x : Addr} {n : Int} {sh : List Int → List Rat} {b : Nat} (h : Rep_Stepping K H x n sh b) (e : Nl H H') : Rep_Stepping K H' x n sh b := by
  obtain ⟨fs, a, st, lv, h1, h2⟩ := h
  exact ⟨fs, a, st, lv, h1.nl e, h2⟩
theorem Rep_Stepping.rb {K : PySem.W.Frag} {H : Hp} {x : Addr} {n : Int} {sh : List Int → List Rat} {b : Nat} (h : Rep_Stepping K H x n sh b) : RB (He.ga K "Stepping") H x n := by
  obtain ⟨fs, a, st, lv, h1, h2, h3, h4, rfl, _⟩ := h
  exact h1.rb h4
theorem Rep_Stepping.len {K : PySem.W.Frag} {H : Hp} {x : Addr} {n : Int} {sh : List Int → List Rat} {b : Nat} (h : Rep_Stepping K H x n sh b) (lot : List Int) : (sh lot).length = n.toNat := by
  obtain ⟨fs, a, st, lv, h1, h2, h3, h4, rfl, rfl, _⟩ := h
  unfold stSh
  rw [stShi_len]
  rfl
theorem StR.rep {K : PySem.W.Frag} {H : Hp} {x : Addr} {fs : List Int} {a : Int} {st : List (List Int)} {lv : List Int} (h : StR K H x fs a st lv) (hg : CGood fs a st lv) (hb : StBd fs a st lv) (h8 : fs.length ≤ 8) : Rep_Stepping K H x fs.length (stSh fs a st lv) 600 := ⟨fs, a, st, lv, h, hg, hb, h8, rfl, rfl, Nat.le_refl _, by decide⟩
theorem use_Stepping_shares {H : Hp} {Q : VK} {E : XK} {x l : Addr} {n : Int} {sh : List Int → List Rat} {b : Nat} {lot : List Int} (hx : Rep_Stepping K H x n sh b) (hl : SqT K H l (lot.map V.int)) (hE : ¬ IsLot n lot → ∀ H', Ex H H' → E (.ref (He.ga K "BadLot")) none H')
    (k : IsLot n lot → ∀ p H' xs, Fr H p → Ex H H' → At H' p (.lst xs) → RL (He.ga K "Ratio") H' xs (sh lot) b → Q (.ref p) H') : sp_Stepping_shares K [.ref x, .ref l] H Q E := by
  obtain ⟨fs, a, st, lv, h1, h2, h3, h4, rfl, rfl, h5, h6⟩ := hx
  exact ⟨x, l, fs, a, st, lv, lot, rfl, h1, h2, h3, h4, hl, hE, fun h p H' xs g1 g2 g3 g4 => k h p H' xs g1 g2 g3 (g4.mono h5 h6)⟩

/-- Rule.shares of an object of the class Weighted -/
def sp_Weighted_Rule_shares (K : PySem.W.Frag) : Sp := fun vs H Q E => ∃ (x l : Addr) (n : Int) (lot : List Int), vs = [.ref x, .ref l] ∧ RB (He.ga K "Weighted") H x n ∧ SqT K H l (lot.map V.int) ∧ (¬ IsLot n lot → ∀ H', Ex H H' → E (.ref (He.ga K "BadLot")) none H') ∧
  (IsLot n lot → ∀ p H' xs, Fr H p → Ex H H' → At H' p (.lst xs) → RL (He.ga K "Ratio") H' xs (List.replicate n.toNat 0) 1 → Q (.ref p) H')
theorem ok_Weighted_Rule_shares (T : Tx P K mg) : FnOk P w K mg base (L2.CX P w) 3 (He.ma K (He.ga K "Rule") "shares") (Z.fdOf K (He.ma K (He.ga K "Rule") "shares")) ["self", "lot"] (sp_Weighted_Rule_shares K) := by
  refine T.F_Rule_shares.ok sc_Rule_shares (fun vs H Q E h => ?_) (fun cdv A outer s H vs Q E hr h => ?_)
  · obtain ⟨x, l, n, lot, rfl, _⟩ := h
    rfl
  · obtain ⟨x, l, n, lot, rfl, hx, hl, hE, k⟩ := h
    obtain ⟨_, _, _, _, _, hn0, hn1⟩ := id hx
    obtain ⟨ds2_Ratio___init__, vd2_Ratio___init__, bd2_Ratio___init__⟩ := T.b2_Ratio___init__
    have fx0 := T.o_Weighted.cl
    have fx1 := T.na_Weighted_many
    refine ⟨_, (pss_cons (ps_expr (Z.pe_callZ (ok_check_lot T) (hr.mono (by decide)) (by rfl) T.g_check_lot T.F_check_lot.kp T.b_check_lot .nil (fun σ => passAt (takes_of rfl rfl rfl rfl) σ) (pa_cons (pv 1) (pa_cons (Z.fld (K := K) rfl (pv 0) rfl) pa_nil))))
      (pss_one (ps_ret (pe_lc (own := [("_", 2)]) rfl sc_Rule_shares.nd (pi_range1 (by rfl) T.n_range (pa_cons (Z.fld (K := K) rfl (pv 0) rfl) pa_nil)) (blkOk_by (N := ["self", "lot", "_"]) (sc := defScope s_Rule_shares) (by decide +kernel)) (fun _ _ _ _ _ => (pg_name (i := 2) sc_Rule_shares.nd rfl (by first | exact Or.inl rfl | exact Or.inr rfl))) (fun _ _ _ _ _ => pts_nil) (fun _ _ _ _ _ => (pe_make T.mk_Ratio (ok_Ratio___init__ T) (hr.mono (by decide)) (by rfl) T.g_Ratio bd2_Ratio___init__ vd2_Ratio___init__ passL (pa_cons pe_int pa_nil))))))), ?_⟩
    try dsimp only [cxOf, Cx.nox, Cx.wish]
    try (show (_ : TS) _ [some _, some _, none] _)
    walk_at "go"
    refine ⟨l, lot, n, rfl, hl, hE, fun hlot H1 e1 => ?_⟩
    walk_at "go"
    rename_i J S
    refine Z.cgX S (fun i acc G => RL (He.ga K "Ratio") G acc (List.replicate i 0) 1) (fun H' e => RL.nil) (fun i acc G1 G2 h e => h.ex e) (fun H' e => trivial) (by show _ ≤ 16777216; omega) (fun Dl i y G acc hi ec cd hal hP hy => ?_) (fun p G acc hn he hp hal hP => ?_) rfl
    · subst hy
      walk_at "go"
      rename_i p G2 hn he hr
      have hr := hr.tight (r := 0) (m := 1) (by exact_mod_cast rfl) (sz0 (by decide)) (by decide)
      refine Z.elx cd hal (by show _ < 16777216; omega) he fun G3 hnl => ?_
      rw [List.replicate_succ']
      exact ((hP.ex he).nl hnl).snoc (hr.nl hnl)
    · exact k hlot p G acc (e1.back hn) (e1.trans he) hp hP

def sp_Weighted_total_of (K : PySem.W.Frag) : Sp := fun vs H Q _ => ∃ (x l : Addr) (ws : List Int) (a : Int) (lot : List Int), vs = [.ref x, .ref l] ∧ WR K H x ws a ∧ SqT K H l (lot.map V.int) ∧ IsLot ws.length lot ∧ ∀ H', Ex H H' → Q (.int (a + wsum ws lot)) H'
theorem ok_Weighted_total_of (T : Tx P K mg) : FnOk P w K mg base (L2.CX P w) 1 (He.ma K (He.ga K "Weighted") "total_of") (Z.fdOf K (He.ma K (He.ga K "Weighted") "total_of")) ["self", "lot"] (sp_Weighted_total_of K) := by
  refine T.F_Weighted_total_of.ok sc_Weighted_total_of (fun vs H Q E h => ?_) (fun cdv A outer s H vs Q E hr h => ?_)
  · obtain ⟨x, l, ws, a, lot, rfl, _⟩ := h
    rfl
  · obtain ⟨x, l, ws, a, lot, rfl, hx, hl, hlot, k⟩ := h
    have hll := hlot.len
    have hlen := hx.len
    have fx0 := T.o_Weighted.cl
    have fx1 := T.na_Weighted_aside
    have fx2 := T.na_Weighted_weights
    refine ⟨_, PSs.nox (pss_one (ps_ret (pe_op Z.op_add (Z.fld (K := K) rfl (pv 0) rfl) (pe_callB (Z.call_sum (K := K) rfl rfl) (by rfl) T.n_sum (by decide +kernel) (pa_cons (pe_lc (own := [("thing", 2)]) rfl sc_Weighted_total_of.nd (Z.piT (K := K) rfl (pv 1)) (blkOk_by (N := ["self", "lot", "thing"]) (sc := defScope s_Weighted_total_of) (by decide +kernel)) (fun _ _ _ _ _ => (pg_name (i := 2) sc_Weighted_total_of.nd rfl (by first | exact Or.inl rfl | exact Or.inr rfl))) (fun _ _ _ _ _ => pts_nil) (fun _ _ _ _ _ => (pe_ix (Z.ix (K := K) rfl) (Z.fld (K := K) rfl (pv 0) rfl) (pv 2) (fun _ _ => rfl)))) pa_nil))))), ?_⟩
    try dsimp only [cxOf, Cx.nox, Cx.wish]
    try (show (_ : TS) _ [some _, some _, none] _)
    walk_at "go"
    rename_i J S
    refine Z.cgI S (fun i => ws.getD (lot.getD i 0).toNat 0) (fun H' e => e.t hl) (by rw [List.length_map]; show _ ≤ 16777216; omega) (fun Dl i y G hi ec c hy => ?_) (fun p G hn he hp => ?_) rfl
    · obtain ⟨hi2, rfl⟩ := get_int hy
      have := hlot.2 (lot.getD i 0) (by rw [getD_get _ _ _ hi2]; exact List.getElem_mem hi2)
      walk_at "go"
    · rw [List.length_map, range_map lot (fun t => ws.getD t.toNat 0)] at hp
      walk_at "go"
      exact k _ he

def sp_Weighted_shares (K : PySem.W.Frag) : Sp := fun vs H Q E => ∃ (x l : Addr) (ws : List Int) (a : Int) (B : Nat) (lot : List Int), vs = [.ref x, .ref l] ∧ WR K H x ws a ∧ SqT K H l (lot.map V.int) ∧ (∀ w ∈ ws, w < 2 ^ B) ∧ a < 2 ^ B ∧ B + 5 ≤ 13400 ∧ (¬ IsLot ws.length lot → ∀ H', Ex H H' → E (.ref (He.ga K "BadLot")) none H') ∧
  (IsLot ws.length lot → ∀ p H' xs, Fr H p → Ex H H' → At H' p (.lst xs) → RL (He.ga K "Ratio") H' xs (shW ws a lot) (B + 5) → Q (.ref p) H')
theorem ok_Weighted_shares (T : Tx P K mg) : FnOk P w K mg base (L2.CX P w) 4 (He.ma K (He.ga K "Weighted") "shares") (Z.fdOf K (He.ma K (He.ga K "Weighted") "shares")) ["self", "lot"] (sp_Weighted_shares K) := by
  refine Z.FunS.ok (x0 := "self") T.F_Weighted_shares sc_Weighted_shares (by decide +kernel) rfl rfl rfl (by decide +kernel) (by decide +kernel) T.p_top T.n_super T.c_Weighted (fun vs H Q E h => ?_) (fun cc cda A outer s H vs Q E hr h S => ?_)
  · obtain ⟨x, l, ws, a, B, lot, rfl, _⟩ := h
    rfl
  · obtain ⟨x, l, ws, a, B, lot, rfl, hx, hl, hwB, haB, hB9, hE, k⟩ := h
    have hrb := hx.rb
    have hlen := hx.len
    obtain ⟨⟨dx0, t0, hat0, _⟩, _⟩ := id hx
    obtain ⟨ds3_Ratio___init__, vd3_Ratio___init__, bd3_Ratio___init__⟩ := T.b3_Ratio___init__
    have fx0 := T.o_Weighted.cl
    have fx1 := T.na_Weighted_weights
    refine ⟨_, _, (Z.ps_supA (i := 3) sc_Weighted_shares.nd rfl (by first | exact Or.inl rfl | exact Or.inr rfl) (Z.pe_sup S T.mro_Weighted_Weighted T.third T.sm_Weighted_Weighted_shares.1 T.sm_Weighted_Weighted_shares.2.1 T.sm_Weighted_Weighted_shares.2.2 (Z.rawOk (ok_Weighted_Rule_shares T) T.b_Rule_shares) (hr.mono (by decide)) (fun σ => passAt (takes_of rfl rfl rfl rfl) σ) (pa_cons (pv 1) pa_nil))), (pss_cons (ps_set (i := 4) sc_Weighted_shares.nd rfl (Or.inl rfl) (Z.pe_methZ (pv 0) T.o_Weighted.cl T.me_Weighted_total_of (ok_Weighted_total_of T) (hr.mono (by decide)) T.b_Weighted_total_of .nil (fun σ => passAt (takes_of rfl rfl rfl rfl) σ) (pa_cons (pv 1) pa_nil)))
      (pss_cons (ps_for (passes_of rfl) rfl (Z.piT (K := K) rfl (pv 1)) (pg_name (i := 5) sc_Weighted_shares.nd rfl (by first | exact Or.inl rfl | exact Or.inr rfl)) (pss_one (ps_asg (Z.pe_makeZ T.mk_Ratio (ok_Ratio___init__ T) (hr.mono (by decide)) (by rfl) T.g_Ratio bd3_Ratio___init__ vd3_Ratio___init__ (fun σ => passAt (takes_of rfl rfl rfl rfl) σ) (pa_cons (pe_ix (Z.ix (K := K) rfl) (Z.fld (K := K) rfl (pv 0) rfl) (pv 5) (fun _ _ => rfl)) (pa_cons (pv 4) pa_nil))) (pg_sub (pv 3) (pv 5) set_list))))
      (pss_one (ps_ret (pv 3))))), ?_⟩
    change tSeq _ _ _ [some _, some _, none, none, none, none] _
    try dsimp only [Z.scx, NdefX.ncx]
    walk_at "go"
    refine ⟨x, l, _, lot, rfl, hrb, hl, hE, fun hlot p H1 xs hp e1 hat hxs => ?_⟩
    have htot := tot_bt hx.pos hx.apos hwB haB (show lot.length ≤ 24 by have := hlot.len; omega)
    have hll := hlot.len
    walk_at "go"
    refine ⟨x, l, ws, a, lot, rfl, hx.ex e1, e1.t hl, hlot, fun H2 e2 => ?_⟩
    generalize htt : a + wsum ws lot = tot at *
    walk_at "go"
    rename_i J S
    refine Z.fg S (fun i σ G => ∃ (v5 : Option V) (ys : List V), σ = [some (.ref x), some (.ref l), none, some (.ref p), some (.int tot), v5] ∧ Ex H G ∧ At G p (.lst ys) ∧ RL (He.ga K "Ratio") G ys (shWi ws tot (lot.take i)) (B + 5))
      ⟨none, xs, rfl, e1.trans e2, e2.get hat, ?_⟩ (fun i σ' G _ ⟨_, _, _, e, _⟩ => e.t hl) ?_ ?_
    · rw [List.take_zero, shWi_nil]
      exact (hxs.ex e2).mono (by omega) hB9
    · rintro i y σ' G G2 hi ⟨v5, ys, rfl, eG, hG, hR⟩ e2' hy
      obtain ⟨hi2, rfl⟩ := get_int hy
      have ht := hlot.2 (lot.getD i 0) (by rw [getD_get _ _ _ hi2]; exact List.getElem_mem hi2)
      have hx2 := (hx.ex eG).ex e2'
      have hG2 := e2'.get hG
      have hR2 := hR.ex e2'
      have hyl : ys.length = ws.length := by rw [hR.1, shWi_len]
      have hwb : (ws.getD (lot.getD i 0).toNat 0).natAbs < 2 ^ (B + 5) := by
        have h1 := hx.posD (lot.getD i 0).toNat (by omega)
        have h2 := hwB _ (List.getElem_mem (show (lot.getD i 0).toNat < ws.length by omega))
        rw [← getD_get _ _ 0] at h2
        refine bt_mono (n := B) ?_ (by omega)
        have h3 : ((ws.getD (lot.getD i 0).toNat 0).natAbs : Int) < ((2 ^ B : Nat) : Int) := by
          rw [Int.natAbs_of_nonneg (by omega)]
          push_cast
          exact h2
        exact_mod_cast h3
      have hnz : tot ≠ 0 := by omega
      have htb := htot.2
      walk_at "go"
      rename_i tw htw htw2 p3 H3 hn3 he3 hr3 H4 hp4 hnl4 ho4 hke4
      refine ⟨_, _, rfl, hke4, hp4, ?_⟩
      rw [take_snoc hi2 0, ← shWi_snoc ws tot _ ht.1 ht.2]
      exact ((hR2.ex he3).nl hnl4).set ((hr3.eq rfl (by omega) hB9).nl hnl4)
    · rintro σ' G ⟨v5, ys, rfl, eG, hG, hR⟩
      rw [List.length_map, List.take_length] at hR
      walk_at "go"
      refine k hlot p G ys hp eG hG ?_
      unfold shW
      rw [htt]
      exact hR
theorem use_Weighted_shares {H : Hp} {Q : VK} {E : XK} {x l : Addr} {n : Int} {sh : List Int → List Rat} {b : Nat} {lot : List Int} (hx : Rep_Weighted K H x n sh b) (hl : SqT K H l (lot.map V.int)) (hE : ¬ IsLot n lot → ∀ H', Ex H H' → E (.ref (He.ga K "BadLot")) none H')
    (k : IsLot n lot → ∀ p H' xs, Fr H p → Ex H H' → At H' p (.lst xs) → RL (He.ga K "Ratio") H' xs (sh lot) b → Q (.ref p) H') : sp_Weighted_shares K [.ref x, .ref l] H Q E := by
  obtain ⟨ws, a, B, h1, rfl, rfl, h2, h3, h4, h5⟩ := hx
  exact ⟨x, l, ws, a, B, lot, rfl, h1, hl, h2, h3, by omega, hE, fun h p H' xs g1 g2 g3 g4 => k h p H' xs g1 g2 g3 (g4.mono h4 h5)⟩

def sp_Weighted_best (K : PySem.W.Frag) : Sp := fun vs H Q E => ∃ (x pl : Addr) (ws : List Int) (a : Int) (ps : List Int), vs = [.ref x, .ref pl] ∧ WR K H x ws a ∧ (∀ w ∈ ws, w < 2 ^ 64) ∧ a < 2 ^ 64 ∧ SqL K H pl (ps.map V.int) ∧ (∀ p ∈ ps, p.natAbs < 2 ^ 64) ∧ PErr K ws.length ps E H ∧
  (PricesOk ws.length ps → ∀ p t z H' (lot : List Int), Fr H p → Fr H z → Ex H H' → At H' p (.tup [.ref t, .ref z]) → At H' t (.tup (lot.map V.int)) → RN (He.ga K "Ratio") H' z (Rat.divInt (wpsum ws ps lot) (a + wsum ws lot)) 200 → BestW ws a ps lot → Q (.ref p) H')
theorem ok_Weighted_best (T : Tx P K mg) : FnOk P w K mg base (L2.CX P w) 5 (He.ma K (He.ga K "Weighted") "best") (Z.fdOf K (He.ma K (He.ga K "Weighted") "best")) ["self", "prices"] (sp_Weighted_best K) := by
  refine T.F_Weighted_best.ok sc_Weighted_best (fun vs H Q E h => ?_) (fun cdv A outer s H vs Q E hr h => ?_)
  · obtain ⟨x, pl, ws, a, ps, rfl, _⟩ := h
    rfl
  · obtain ⟨x, pl, ws, a, ps, rfl, hx, hw, ha, hp, hpb, hE, k⟩ := h
    have fx0 := T.o_Weighted.cl
    have fx1 := T.na_Weighted_many
    refine ⟨_, (pss_cons (ps_expr (Z.pe_callZ (ok_check_prices T) (hr.mono (by decide)) (by rfl) T.g_check_prices T.F_check_prices.kp T.b_check_prices .nil (fun σ => passAt (takes_of rfl rfl rfl rfl) σ) (pa_cons (pv 1) (pa_cons (Z.fld (K := K) rfl (pv 0) rfl) pa_nil))))
      (pss_one (ps_ret (Z.pe_callZ (ok_dearer_than_worth T) (hr.mono (by decide)) (by rfl) T.g_dearer_than_worth T.F_dearer_than_worth.kp T.b_dearer_than_worth .nil (fun σ => passAt (takes_of rfl rfl rfl rfl) σ) (pa_cons (pv 0) (pa_cons (pv 1) pa_nil)))))), ?_⟩
    try dsimp only [cxOf, Cx.nox, Cx.wish]
    try (show (_ : TS) _ [some _, some _] _)
    walk_at "go"
    refine ⟨pl, ps, _, rfl, hp, hE, fun hok H1 e1 => ?_⟩
    walk_at "go"
    exact ⟨x, pl, ws, a, ps, rfl, hx.ex e1, hw, ha, e1.l hp, by have := hok.1; omega, hpb, fun p t z H' lot h1 h2 h3 => k hok p t z H' lot (e1.back h1) (e1.back h2) (e1.trans h3)⟩

def sp_Stepping_onward (K : PySem.W.Frag) : Sp := fun vs H Q _ => ∃ (x v : Addr) (t : Nat) (fs : List Int) (a : Int) (st : List (List Int)) (lv : List Int) (xs : List V) (us : List Rat) (b : Nat), vs = [.ref x, .int t, .ref v] ∧ StR K H x fs a st lv ∧ CGood fs a st lv ∧ StBd fs a st lv ∧ fs.length ≤ 8 ∧ t < fs.length ∧ At H v (.lst xs) ∧ RL (He.ga K "Ratio") H xs us b ∧ us.length = fs.length ∧ b ≤ 1008 ∧
  ∀ p H', Fr H p → Ex H H' → RN (He.ga K "Ratio") H' p (onwQ st lv fs.length t us) 8700 → Q (.ref p) H'
theorem ok_Stepping_onward (T : Tx P K mg) : FnOk P w K mg base (L2.CX P w) 4 (He.ma K (He.ga K "Stepping") "onward") (Z.fdOf K (He.ma K (He.ga K "Stepping") "onward")) ["self", "thing", "values"] (sp_Stepping_onward K) := by
  refine T.F_Stepping_onward.ok sc_Stepping_onward (fun vs H Q E h => ?_) (fun cdv A outer s H vs Q E hr h => ?_)
  · obtain ⟨x, v, t, fs, a, st, lv, xs, us, b, rfl, _⟩ := h
    rfl
  · obtain ⟨x, v, t, fs, a, st, lv, xs, us, b, rfl, hx, hg, hb, h8, ht, hv, hR, hul, hb9, k⟩ := h
    obtain ⟨dx, t1, t2, t3, ys, q1, q2, q3, q4, q5⟩ := id hx
    obtain ⟨rr, g1, g2⟩ := q4.2 t (by have := hg.sl; omega)
    have hyl := q4.1
    have hsl := hg.sl
    have hidx : atI ys (t : Int) = some (.ref rr) := by
      unfold atI
      rw [ixN_pos (by omega) (by omega), Int.toNat_natCast]
      exact g1
    have hrow := (hg.s t (by omega)).1
    have htb := stTot_bd hg hb h8 ht
    have hxl := hR.1
    have hsb := fun j => nab (hg.st0 t j) (hb.st1 t j)
    have hS : ∀ k, onwS st k t us = sumR k fun o => (((st.getD t []).getD o 0 : Int) : Rat) * us.getD o 0 := fun k => rfl
    have hQ : onwQ st lv fs.length t us = onwS st fs.length t us / (stTot st lv t : Rat) := rfl
    obtain ⟨ds2_Ratio___init__, vd2_Ratio___init__, bd2_Ratio___init__⟩ := T.b2_Ratio___init__
    have fx0 := T.o_Stepping.cl
    have fx1 := T.na_Stepping_steps
    refine ⟨_, PSs.nox (pss_cons (ps_set (i := 3) sc_Stepping_onward.nd rfl (Or.inl rfl) (pe_make T.mk_Ratio (ok_Ratio___init__ T) (hr.mono (by decide)) (by rfl) T.g_Ratio bd2_Ratio___init__ vd2_Ratio___init__ passL (pa_cons pe_int pa_nil)))
      (pss_cons (ps_for PassesOwn.never rfl (Z.pi_zipM (K := K) rfl (by rfl) T.n_zip (pa_cons (pe_ix (Z.ix (K := K) rfl) (Z.fld (K := K) rfl (pv 0) rfl) (pv 1) (fun _ _ => rfl)) (pa_cons (pv 2) pa_nil))) (pg_tup (by rfl) (pgs_cons (pg_name (i := 4) sc_Stepping_onward.nd rfl (by first | exact Or.inl rfl | exact Or.inr rfl)) (pgs_cons (pg_name (i := 5) sc_Stepping_onward.nd rfl (by first | exact Or.inl rfl | exact Or.inr rfl)) pgs_nil))) (pss_one (ps_set (i := 3) sc_Stepping_onward.nd rfl (Or.inl rfl) (pe_op (Z.op_OO T.o_Ratio T.me_Ratio___add__.at_ T.me_Ratio___add__.fn (Z.rawOk (ok_Ratio___add__ T) T.b_Ratio___add__) (hr.mono (by decide)) passL) (pv 3) (pe_op (Z.op_OI T.o_Ratio T.me_Ratio___mul__.at_ T.me_Ratio___mul__.fn T.me_Ratio___rmul__.at_ (.inr ⟨_, rfl⟩) Z.has_mul (Z.rawOk (ok_Ratio___mul__ T) T.b_Ratio___mul__) (hr.mono (by decide)) passL) (pv 5) (pv 4))))))
      (pss_one (ps_ret (pe_meth (pv 3) T.o_Ratio.cl T.me_Ratio_over (ok_Ratio_over T) (hr.mono (by decide)) T.b_Ratio_over .nil passL (pa_cons (pe_meth (pv 0) T.o_Stepping.cl T.me_Stepping_step_total (ok_Stepping_step_total T) (hr.mono (by decide)) T.b_Stepping_step_total .nil passL (pa_cons (pv 1) pa_nil)) pa_nil)))))), ?_⟩
    try dsimp only [cxOf, Cx.nox, Cx.wish]
    try (show (_ : TS) _ [some _, some _, some _, none, none, none] _)
    walk_at "go"
    rename_i p1 H1 hn1 he1 hr1
    have q31 := he1.get q3
    have g21 := he1.get g2
    have hv1 := he1.get hv
    have hR1 := hR.ex he1
    have hx1 := hx.ex he1
    generalize st.getD t [] = sr at *
    refine w_ixT (st_of q31) hidx ?_
    walk_at "go"
    rename_i J S
    refine Z.fg S (fun i σ G => ∃ (r : Addr) (v4 v5 : Option V), σ = [some (.ref x), some (.int t), some (.ref v), some (.ref r), v4, v5] ∧ Ex H1 G ∧ Fr H r ∧ RN (He.ga K "Ratio") G r (onwS st i t us) (65 + 1070 * i)) ⟨p1, none, none, rfl, Ex.refl _, hn1, hr1.eq (by rw [hS]; simp [sumR]) (by decide) (by decide)⟩ (fun i σ' G _ ⟨_, _, _, _, e, _⟩ => ⟨e.t (st_of g21), e.l (sq_of hv1)⟩) ?_ ?_
    · rintro i y σ' G G2 hi ⟨r, v4, v5, rfl, eG, hfr, hr2⟩ e2 ⟨T2, y1, y2, rfl, hT2, hy1, hy2⟩
      obtain ⟨hi2, rfl⟩ := get_int hy1
      obtain ⟨rq, g5, g6⟩ := hR1.2 i (by omega)
      rw [g5] at hy2
      cases hy2
      have g6' := ((g6.ex eG).ex e2).eq (m := 1008) rfl hb9 (by decide)
      have hr3 := hr2.ex e2
      have hsi := hsb i
      clear hr2 g6
      walk_at "go"
      rename_i p9 H9 hn9 he9 hr9 p10 H10 hn10 he10 hr10
      refine ⟨p10, _, _, rfl, (eG.trans e2).trans (he9.trans he10), he1.back ((eG.trans e2).back (he9.back hn10)), hr10.eq ?_ (by omega) (by omega)⟩
      rw [hS, hS]
      simp only [sumR]
      rw [Rat.mul_comm (us.getD i 0)]
    · rintro σ' G ⟨r, v4, v5, rfl, eG, hfr, hr2⟩
      rw [List.length_map, hrow] at hr2
      have hxG := hx1.ex eG
      walk_at "go"
      refine ⟨x, t, fs, a, st, lv, rfl, hxG, hg, ht, h8, fun H7 e7 => ?_⟩
      have hr7 := hr2.ex e7
      have hb7 : (stTot st lv t).natAbs < 2 ^ 64 := nab (by omega) htb.2
      have hz7 : ((stTot st lv t : Int) : Rat) ≠ 0 := fun z => by
        have : stTot st lv t = 0 := by exact_mod_cast z
        omega
      walk_at "go"
      refine u_over hr7 (.int hb7) (by omega) hz7 fun p9 H9 hn9 he9 hr9 => ?_
      walk_at "go"
      exact k p9 H9 (he1.back (eG.back (e7.back hn9))) (((he1.trans eG).trans e7).trans he9) (hr9.eq hQ.symm (by omega) (by decide))

def sp_Stepping_values_of (K : PySem.W.Frag) : Sp := fun vs H Q _ => ∃ (x l p : Addr) (fs : List Int) (a : Int) (st : List (List Int)) (lv lot ps : List Int), vs = [.ref x, .ref l, .ref p] ∧ StR K H x fs a st lv ∧ CGood fs a st lv ∧ StBd fs a st lv ∧ fs.length ≤ 8 ∧ SqT K H l (lot.map V.int) ∧ IsLot fs.length lot ∧ SqL K H p (ps.map V.int) ∧ ps.length = fs.length ∧ (∀ z ∈ ps, 0 ≤ z ∧ z < 2 ^ 60) ∧
  ∀ r H' xs us, Fr H r → Ex H H' → At H' r (.lst xs) → RL (He.ga K "Ratio") H' xs us 1008 → ValOk fs.length st lv ps lot us → Q (.ref r) H'
theorem ok_Stepping_values_of (T : Tx P K mg) : FnOk P w K mg base (L2.CX P w) 4 (He.ma K (He.ga K "Stepping") "values_of") (Z.fdOf K (He.ma K (He.ga K "Stepping") "values_of")) ["self", "lot", "prices"] (sp_Stepping_values_of K) := by
  refine T.F_Stepping_values_of.ok sc_Stepping_values_of (fun vs H Q E h => ?_) (fun cdv A outer s H vs Q E hr h => ?_)
  · obtain ⟨x, l, p, fs, a, st, lv, lot, ps, rfl, _⟩ := h
    rfl
  · obtain ⟨x, l, p, fs, a, st, lv, lot, ps, rfl, hx, hg, hb, h8, hl, hlot, hp, hpl, hpb, k⟩ := h
    obtain ⟨dx, t1, t2, t3, ys, q1, q2, q3, q4, q5⟩ := id hx
    have hsl := hg.sl
    have hst := q4.1
    have hx0 := hx
    have hq1 := q1
    have hq3 := q3
    have hp0 := hp
    have hl0 := hl
    have hall := fun (j i : Nat) (hj : j < fs.length) => q4.2 j (by omega)
    obtain ⟨ds2_Ratio___init__, vd2_Ratio___init__, bd2_Ratio___init__⟩ := T.b2_Ratio___init__
    have fx0 := T.o_Stepping.cl
    have fx1 := T.na_Stepping_steps
    have fx2 := T.na_Stepping_many
    refine ⟨_, PSs.nox (pss_cons (ps_setLc (i := 3) (own := [("thing", 7)]) rfl sc_Stepping_values_of.nd rfl rfl (sw_true rfl rfl rfl (by decide +kernel)) (pi_range1 (by rfl) T.n_range (pa_cons (Z.fld (K := K) rfl (pv 0) rfl) pa_nil)) (blkOk_by (N := ["self", "lot", "prices", "out", "rows", "right", "at", "thing", "line", "values", "value", "other", "price"]) (sc := defScope s_Stepping_values_of) (by decide +kernel)) (fun _ _ _ _ _ => (pg_name (i := 7) sc_Stepping_values_of.nd rfl (by first | exact Or.inl rfl | exact Or.inr rfl))) (fun _ _ _ _ _ => (pts_one (pt_cmpR (Z.op_notin (K := K) rfl) (pv 7) (pv 1) (by rfl)))) (fun _ _ _ _ _ => (pv 7)))
      (pss_cons (ps_set (i := 4) sc_Stepping_values_of.nd rfl (Or.inl rfl) (pe_lst pa_nil))
      (pss_cons (ps_set (i := 5) sc_Stepping_values_of.nd rfl (Or.inl rfl) (pe_lst pa_nil))
      (pss_cons (ps_for PassesOwn.never rfl (pi_enum (by rfl) T.n_enumerate (pa_cons (pv 3) pa_nil)) (pg_tup (by rfl) (pgs_cons (pg_name (i := 6) sc_Stepping_values_of.nd rfl (by first | exact Or.inl rfl | exact Or.inr rfl)) (pgs_cons (pg_name (i := 7) sc_Stepping_values_of.nd rfl (by first | exact Or.inl rfl | exact Or.inr rfl)) pgs_nil))) (pss_cons (ps_setLc (i := 8) (own := [("other", 11)]) rfl sc_Stepping_values_of.nd rfl rfl (sw_true rfl rfl rfl (by decide +kernel)) (Z.piL (K := K) rfl (pv 3)) (blkOk_by (N := ["self", "lot", "prices", "out", "rows", "right", "at", "thing", "line", "values", "value", "other", "price"]) (sc := defScope s_Stepping_values_of) (by decide +kernel)) (fun _ _ _ _ _ => (pg_name (i := 11) sc_Stepping_values_of.nd rfl (by first | exact Or.inl rfl | exact Or.inr rfl))) (fun _ _ _ _ _ => pts_nil) (fun _ _ _ _ _ => (pe_un Z.un_neg (pe_ix (Z.ix (K := K) rfl) (pe_ix (Z.ix (K := K) rfl) (Z.fld (K := K) rfl (pv 0) rfl) (pv 7) (fun _ _ => rfl)) (pv 11) (fun _ _ => rfl)))))
      (pss_cons (ps_asg (pe_meth (pv 0) T.o_Stepping.cl T.me_Stepping_step_total (ok_Stepping_step_total T) (hr.mono (by decide)) T.b_Stepping_step_total .nil passL (pa_cons (pv 7) pa_nil)) (pg_sub (pv 8) (pv 6) set_list))
      (pss_cons (ps_expr (pe_bm PySem.F.plainAttrs_list PySem.F.slot_list_append PySem.F.type_list_append mt_append (pv 4) (pa_cons (pv 8) pa_nil)))
      (pss_one (ps_expr (pe_bm PySem.F.plainAttrs_list PySem.F.slot_list_append PySem.F.type_list_append mt_append (pv 5) (pa_cons (pe_callB (Z.call_sum (K := K) rfl rfl) (by rfl) T.n_sum (by decide +kernel) (pa_cons (pe_lc (own := [("other", 11)]) rfl sc_Stepping_values_of.nd (Z.piT (K := K) rfl (pv 1)) (blkOk_by (N := ["self", "lot", "prices", "out", "rows", "right", "at", "thing", "line", "values", "value", "other", "price"]) (sc := defScope s_Stepping_values_of) (by decide +kernel)) (fun _ _ _ _ _ => (pg_name (i := 11) sc_Stepping_values_of.nd rfl (by first | exact Or.inl rfl | exact Or.inr rfl))) (fun _ _ _ _ _ => pts_nil) (fun _ _ _ _ _ => (pe_op Z.op_mul (pe_ix (Z.ix (K := K) rfl) (pe_ix (Z.ix (K := K) rfl) (Z.fld (K := K) rfl (pv 0) rfl) (pv 7) (fun _ _ => rfl)) (pv 11) (fun _ _ => rfl)) (pe_ix (Z.ix (K := K) rfl) (pv 2) (pv 11) (fun _ _ => rfl))))) pa_nil)) pa_nil))))))))
      (pss_cons (ps_setLc (i := 9) (own := [("price", 12)]) rfl sc_Stepping_values_of.nd rfl rfl (sw_true rfl rfl rfl (by decide +kernel)) (Z.piL (K := K) rfl (pv 2)) (blkOk_by (N := ["self", "lot", "prices", "out", "rows", "right", "at", "thing", "line", "values", "value", "other", "price"]) (sc := defScope s_Stepping_values_of) (by decide +kernel)) (fun _ _ _ _ _ => (pg_name (i := 12) sc_Stepping_values_of.nd rfl (by first | exact Or.inl rfl | exact Or.inr rfl))) (fun _ _ _ _ _ => pts_nil) (fun _ _ _ _ _ => (pe_make T.mk_Ratio (ok_Ratio___init__ T) (hr.mono (by decide)) (by rfl) T.g_Ratio bd2_Ratio___init__ vd2_Ratio___init__ passL (pa_cons (pv 12) pa_nil))))
      (pss_cons (ps_for PassesOwn.never rfl (Z.pi_zipA (K := K) rfl (by rfl) T.n_zip (pa_cons (pv 3) (pa_cons (pe_call (ok_solve T) (hr.mono (by decide)) (by rfl) T.g_solve T.F_solve.kp T.b_solve .nil passL (pa_cons (pv 4) (pa_cons (pv 5) pa_nil))) pa_nil))) (pg_tup (by rfl) (pgs_cons (pg_name (i := 7) sc_Stepping_values_of.nd rfl (by first | exact Or.inl rfl | exact Or.inr rfl)) (pgs_cons (pg_name (i := 10) sc_Stepping_values_of.nd rfl (by first | exact Or.inl rfl | exact Or.inr rfl)) pgs_nil))) (pss_one (ps_asg (pv 10) (pg_sub (pv 9) (pv 7) set_list))))
      (pss_one (ps_ret (pv 9))))))))), ?_⟩
    try dsimp only [cxOf, Cx.nox, Cx.wish]
    try (show (_ : TS) _ [some _, some _, some _, none, none, none, none, none, none, none, none, none, none] _)
    walk_at "go"
    rename_i J S
    refine Z.cgP S (fun i => !decide ((i : Int) ∈ lot)) (fun i => V.int (i : Nat)) (fun H' e => trivial) (by show _ ≤ 16777216; omega) (fun Dl i y G hi ec cd hz hy => ?_) (fun p4 H4 hn4 he4 hp4 => ?_)
    · subst hy
      walk_at "go"
      refine Z.w_ndec (fun h => ?_) (fun h => ?_)
      · rw [Z.fr_T (by simp [h])]
        walk_at "go"
      · rw [Z.fr_F (by simp [h])]
        exact cd
    have hp4' : At H4 p4 (.lst (((outL fs.length lot).map fun k : Nat => (k : Int)).map V.int)) := hp4.l (by rw [List.map_map]; rfl)
    have hoN := outL_nodup (n := fs.length) (lot := lot)
    have hoL := fun t (h : t ∈ outL fs.length lot) => outL_lt h
    have hon := fun t (h : t ∈ outL fs.length lot) => outL_not h
    have hol := outL_len (n := fs.length) (lot := lot)
    have hsol := fun us => vl_sol (ps := ps) (vs := us) hg (n := fs.length) rfl hlot
    have hll := hlot.len
    clear hp4
    have h4' := hp4'
    generalize hout : outL fs.length lot = out at *
    have hod : ∀ j, j < out.length → out.getD j 0 < fs.length := fun j hj => hoL _ (by rw [getD_get _ _ _ hj]; exact List.getElem_mem _)
    walk_at "go"
    rename_i p5 H5 hn5 he5 hp5 p6 H6 hn6 he6 hp6 J2 S2
    have e04 := he4
    have hlr := vlRows_len (st := st) (lv := lv) (out := out)
    have hlt := vlRt_len (st := st) (ps := ps) (lot := lot) (out := out)
    have h46 := (he5.trans he6).get hp4'
    have h56 := he6.get hp5
    have f5 : Fr H4 p5 := hn5
    have f6 : Fr H4 p6 := he5.back hn6
    have f4 : Fr H p4 := hn4
    have hne56 : p5 ≠ p6 := fun z => hp5.ne (z ▸ hn6) rfl
    clear J S hp5
    refine Z.fg S2 (fun i σ G => ∃ (v6 v7 v8 : Option V) (rs : List V), σ = [some (.ref x), some (.ref l), some (.ref p), some (.ref p4), some (.ref p5), some (.ref p6), v6, v7, v8, none, none, none, none] ∧ Ex H4 G ∧ At G p5 (.lst rs) ∧ LLi G rs ((vlRows st lv out).take i) ∧ At G p6 (.lst (((vlRt st ps lot out).take i).map V.int)) ∧ V.ref p6 ∉ rs) ⟨none, none, none, [], rfl, he5.trans he6, h56, by rw [List.take_zero]; exact .nil, by rw [List.take_zero]; exact hp6, by simp⟩ (fun i σ' G _ ⟨_, _, _, _, _, e, _⟩ => e.l (sq_of hp4')) ?_ ?_
    · rintro i y σ' G G2 hi ⟨v6, v7, v8, rs, rfl, eG, hG, hLG, hr6, hm6⟩ e2 ⟨T0, z, rfl, hT, hz⟩
      obtain ⟨hi2, rfl⟩ := get_int hz
      rw [List.length_map] at hi2
      rw [castD hi2] at hT
      have eG2 := eG.trans e2
      have e0G := he4.trans eG2
      have hG2 := e2.get hG
      have hr62 := e2.get hr6
      have hLG2 := hLG.ex e2
      have hx2 := hx.ex e0G
      have q12 := e0G.get q1
      have q32 := e0G.get q3
      have hl2 := e0G.t hl
      have hpG2 := e0G.l hp
      have ho2 := eG2.get hp4'
      have hrl : rs.length = i := by rw [hLG2.1, List.length_take, hlr]; omega
      have hodi := hod i hi2
      obtain ⟨rr, g1, g2⟩ := hall (out.getD i 0) 0 hodi
      have g22 := e0G.get g2
      have hg2 := g2
      have hrow := (hg.s (out.getD i 0) (by omega)).1
      have hidx : atI ys ((out.getD i 0 : Nat) : Int) = some (.ref rr) := by
        unfold atI
        rw [ixN_pos (by omega) (by omega), Int.toNat_natCast]
        exact g1
      have htk := take_snoc (l := vlRows st lv out) (show i < (vlRows st lv out).length by omega) []
      rw [vlRows_row hi2, ← vlRow_set hi2] at htk
      have htk2 := take_snoc (l := vlRt st ps lot out) (show i < (vlRt st ps lot out).length by omega) 0
      have hvi : (vlRt st ps lot out).getD i 0 = vlR st ps lot (out.getD i 0) := by unfold vlRt; exact rangeD hi2
      rw [hvi] at htk2
      have hvr : vlR st ps lot (out.getD i 0) = (lot.map fun o => (st.getD (out.getD i 0) []).getD o.toNat 0 * ps.getD o.toNat 0).sum := rfl
      have hsb := fun j => nab (hg.st0 (out.getD i 0) j) (hb.st1 (out.getD i 0) j)
      rw [htk, htk2]
      have f5' := f5
      clear hG hLG hr6 htk hp4' q1 q2 q3 q5 hx g2 hl hp h46 h56 hp6
      walk_at "go"
      rename_i J3 S3
      refine Z.cgI S3 (fun j => -((st.getD (out.getD i 0) []).getD (out.getD j 0) 0)) (fun H' e => e.l (sq_of ho2)) (by rw [List.length_map, List.length_map]; show _ ≤ 16777216; omega) (fun Dl j y G3 hj ec cd hy => ?_) (fun p7 H7 hn7 he7 hp7 => ?_) rfl
      · obtain ⟨hj2, rfl⟩ := get_int hy
        rw [List.length_map] at hj2
        rw [castD hj2]
        have hodj := hod j hj2
        have g3 := ec.get g22
        have q33 := ec.get q32
        have q13 := ec.get q12
        clear g22 q32 q12
        walk_at "go"
        refine w_ixT (st_of q33) hidx ?_
        generalize st.getD (out.getD i 0) [] = sr at *
        walk_at "go"
      · have hll2 : ((List.range out.length).map fun j => -((st.getD (out.getD i 0) []).getD (out.getD j 0) 0)).length = out.length := by rw [List.length_map, List.length_range]
        rw [List.length_map, List.length_map] at hp7
        generalize ((List.range out.length).map fun j => -((st.getD (out.getD i 0) []).getD (out.getD j 0) 0)) = lr at *
        have f7 : Fr G2 p7 := hn7
        have hx7 := hx2.ex he7
        have hG7 := he7.get hG2
        have hr67 := he7.get hr62
        have hLG7 := hLG2.ex he7
        have hne : p7 ≠ p5 := fun z => hG2.ne (z ▸ hn7) rfl
        have hne6 : p7 ≠ p6 := fun z => hr62.ne (z ▸ hn7) rfl
        have q17 := he7.get q12
        have hmr : V.ref p7 ∉ rs := hLG2.ne (Ex.refl _) f7
        have eG7 := eG2.trans he7
        have f74 : Fr H4 p7 := eG2.back f7
        clear hx2 hG2 hr62 hLG2 q12 ho2 hn7 q32 g22 hl2 hpG2
        walk_at "go"
        refine ⟨x, out.getD i 0, fs, a, st, lv, rfl, hx7, hg, hodi, h8, fun H8 e8 => ?_⟩
        have hG8 := e8.get hG7
        have hr68 := e8.get hr67
        have hLG8 := hLG7.ex e8
        have hp8 := e8.get hp7
        have eG8 := eG7.trans e8
        clear hG7 hr67 hLG7 hp7 hx7 q17
        walk_at "go"
        rename_i G9 hp9 hnl9 ho9 hke9
        have hG9 := ho9 _ _ hne.symm hG8
        have hr69 := ho9 _ _ hne6.symm hr68
        have hLG9 := hLG8.of ho9 hmr
        have hp9' : At G9 p7 (.lst ((lr.set i (stTot st lv (out.getD i 0))).map V.int)) := hp9
        have hrz : rs.length < 1000 := by omega
        have f5'' := f5'
        clear hp9 hnl9 ho9 hp8 hG8 hr68 hLG8
        walk_at "go"
        rename_i G10 hp10 hnl10 ho10 hke10
        have hLG10 := (hLG9.of ho10 (hLG9.nself hG9)).snoc (ho10 _ _ hne hp9')
        have hr610 := ho10 _ _ hne56.symm hr69
        have e010 := he4.trans hke10
        have q310 := e010.get hq3
        have q110 := e010.get hq1
        have hp10' := e010.l hp0
        have g210 := e010.get hg2
        have hl10 := e010.t hl0
        have hrl2 : (rs ++ [V.ref p7]).length = i + 1 := by rw [List.length_append, hrl]; rfl
        have f6' := f6
        clear hG9 hr69 hLG9 hp9' hnl10 ho10
        walk_at "go"
        rename_i J4 S4
        refine Z.cgI S4 (fun k => (st.getD (out.getD i 0) []).getD (lot.getD k 0).toNat 0 * ps.getD (lot.getD k 0).toNat 0) (fun H' e => e.t hl10) (by rw [List.length_map]; show _ ≤ 16777216; omega) (fun Dl k y G11 hk ec cd hy => ?_) (fun p11 H11 hn11 he11 hp11 => ?_) rfl
        · obtain ⟨hk2, rfl⟩ := get_int hy
          have ht := hlot.2 (lot.getD k 0) (by rw [getD_get _ _ _ hk2]; exact List.getElem_mem hk2)
          have q311 := ec.get q310
          have q111 := ec.get q110
          have g211 := ec.get g210
          have hp11' := ec.l hp10'
          have hb2 : (ps.getD (lot.getD k 0).toNat 0).natAbs < 2 ^ 60 := by
            have := hpb (ps.getD (lot.getD k 0).toNat 0) (by rw [getD_get _ _ _ (by omega)]; exact List.getElem_mem _)
            exact nab this.1 this.2
          have hb1 := hsb (lot.getD k 0).toNat
          clear q310 q110 g210 hp10' hl10
          walk_at "go"
          refine w_ixT (st_of q311) hidx ?_
          generalize st.getD (out.getD i 0) [] = sr at *
          walk_at "go"
        · rw [List.length_map, range_map lot (fun w => (st.getD (out.getD i 0) []).getD w.toNat 0 * ps.getD w.toNat 0)] at hp11
          have hvv : (lot.map fun w => (st.getD (out.getD i 0) []).getD w.toNat 0 * ps.getD w.toNat 0).sum = vlR st ps lot (out.getD i 0) := rfl
          have hr611 := he11.get hr610
          have hp1011 := he11.get hp10
          have hL11 := hLG10.ex he11
          have e411 := hke10.trans he11
          have hrz2 : (vlRt st ps lot out |>.take i).length < 1000 := by rw [List.length_take]; omega
          clear hr610 hp10 hLG10
          walk_at "go"
          rename_i H12 hp12 hnl12 ho12 hke12
          rw [hvv] at hp12
          have hm6' : V.ref p6 ∉ rs ++ [V.ref p7] := fun hm => by
            rcases List.mem_append.1 hm with q | q
            · exact hm6 q
            · exact hne6 (V.ref.inj (List.mem_singleton.1 q)).symm
          exact ⟨_, _, _, _, rfl, hke12, ho12 _ _ hne56 hp1011, hL11.of ho12 hm6', by rw [List.map_append]; exact hp12, hm6'⟩
    · rintro σ' G ⟨v6, v7, v8, rs, rfl, eG, hG, hLG, hr6, hm6⟩
      rw [List.length_map, List.length_map] at hLG hr6
      rw [List.take_of_length_le (Nat.le_of_eq hlr)] at hLG
      rw [List.take_of_length_le (Nat.le_of_eq hlt)] at hr6
      have e0G := he4.trans eG
      have hpG := e0G.l hp0
      have h4G := eG.get hp4'
      clear hp4' h46 h56 hp6
      walk_at "go"
      rename_i J3 S3
      refine Z.cgX S3 (fun i acc G' => RL (He.ga K "Ratio") G' acc ((ps.map fun p : Int => (p : Rat)).take i) 1008) (fun H' e => by rw [List.take_zero]; exact RL.nil) (fun k acc Ga Gb h e => h.ex e) (fun H' e => e.l hpG) (by rw [List.length_map]; show _ ≤ 16777216; omega) (fun Dl i y G3 acc hi ec cd hal hP hy => ?_) (fun p7 H7 acc hn7 he7 hp7 hal7 hP7 => ?_) rfl
      · obtain ⟨hi2, rfl⟩ := get_int hy
        have hb2 : (ps.getD i 0).natAbs < 2 ^ 60 := by
          have := hpb (ps.getD i 0) (by rw [getD_get _ _ _ hi2]; exact List.getElem_mem _)
          exact nab this.1 this.2
        walk_at "go"
        rename_i p8 H8 hn8 he8 hr8
        refine Z.elx cd hal (by rw [hal]; show i < 16777216; omega) he8 fun H5 hnl => ?_
        rw [take_snoc (by rw [List.length_map]; exact hi2) 0, show (ps.map fun p : Int => (p : Rat)).getD i 0 = (ps.getD i 0 : Rat) by rw [getD_get _ _ _ (show i < (ps.map fun p : Int => (p : Rat)).length by rw [List.length_map]; exact hi2), List.getElem_map, getD_get _ _ _ hi2]]
        exact ((hP.ex he8).nl hnl).snoc ((hr8.eq rfl (by decide) (by decide)).nl hnl)
      rw [List.length_map, List.take_of_length_le (by rw [List.length_map]; exact Nat.le_refl _)] at hP7
      have hG7 := he7.get hG
      have hLG7 := hLG.ex he7
      have hr67 := he7.get hr6
      have h47 := he7.get h4G
      have e07 := e0G.trans he7
      clear hG hLG hr6 h4G hpG
      walk_at "go"
      refine ⟨p5, p6, rs, vlRows st lv out, vlRt st ps lot out, 124, rfl, sq_of hG7, hLG7, sq_of hr67, by omega, hlt.trans hlr.symm, fun i hi => by rw [vlRows_row (by omega), vlRow_len, hlr], fun i j hi hj => vl_bits hg hb h8 (by omega) hpb hoL (by omega) (by omega), by decide, by rw [hlr]; exact vl_mon hg hoN hoL _, fun p8 H8 zs hn8 he8 hp8 hR8 => ?_⟩
      have hql := slQ_len (rows := vlRows st lv out) (rt := vlRt st ps lot out)
      generalize slQ (vlRows st lv out) (vlRt st ps lot out) = qs at *
      have hzl : zs.length = out.length := by rw [hR8.1, hql, hlr]
      have h48 := he8.get h47
      have hp78 := he8.get hp7
      have hP78 := hP7.ex he8
      have e08 := e07.trans he8
      have hne4 : p4 ≠ p7 := fun z => (eG.get h4').ne (z ▸ hn7) rfl
      have hne8 : p8 ≠ p7 := fun z => hp7.ne (z ▸ hn8) rfl
      have f7 : Fr H p7 := e0G.back hn7
      have hpn : ps.length = fs.length := hpl
      clear hG7 hLG7 hr67 h47 hp7 hP7
      walk_at "go"
      rename_i J4 S4
      refine Z.fg S4 (fun k σ G' => ∃ (v7 v10 v11 v12 : Option V) (us : List Rat) (xs : List V), σ = [some (.ref x), some (.ref l), some (.ref p), some (.ref p4), some (.ref p5), some (.ref p6), v6, v7, v8, some (.ref p7), v10, v11, v12] ∧ Ex H G' ∧ At G' p4 (.lst ((out.map fun k : Nat => (k : Int)).map V.int)) ∧ At G' p8 (.lst zs) ∧ RL (He.ga K "Ratio") G' zs qs (16 + 8 * 124) ∧ At G' p7 (.lst xs) ∧ RL (He.ga K "Ratio") G' xs us 1008 ∧ us.length = fs.length ∧ (∀ j, j < k → us.getD (out.getD j 0) 0 = qs.getD j 0) ∧ ∀ t, (∀ j, j < k → out.getD j 0 ≠ t) → us.getD t 0 = (ps.map fun p : Int => (p : Rat)).getD t 0)
        ⟨_, _, _, _, _, acc, rfl, e08, h48, hp8, hR8, hp78, hP78, by rw [List.length_map]; exact hpl, fun j hj => absurd hj (by omega), fun t _ => rfl⟩ (fun i σ' G _ ⟨_, _, _, _, _, _, _, _, e1, e2, _⟩ => ⟨sq_of e1, sq_of e2⟩) ?_ ?_
      · rintro k' y σ' G9 G10 hk ⟨v7, v10, v11, v12, us, xs, rfl, e9, h4G, h8G, hRG, h7G, hxG, hul, hq1', hq2'⟩ e10 ⟨T2, y1, y2, rfl, hT2, hy1, hy2⟩
        obtain ⟨hk2, rfl⟩ := get_int hy1
        rw [List.length_map] at hk2
        rw [castD hk2] at hT2
        obtain ⟨rq, g5, g6⟩ := hRG.2 k' (by omega)
        rw [g5] at hy2
        cases hy2
        have g6' := g6.ex e10
        have h410 := e10.get h4G
        have h810 := e10.get h8G
        have hR10 := hRG.ex e10
        have h710 := e10.get h7G
        have hx10 := hxG.ex e10
        have e010 := e9.trans e10
        have hodk := hod k' hk2
        have hxl := hx10.1
        have f7' := f7
        clear h4G h8G hRG h7G hxG hp8 hR8 hp78 hP78 h48
        walk_at "go"
        rename_i H11 hp11 hnl11 ho11 hke11
        rw [Int.toNat_natCast] at hp11
        refine ⟨_, _, _, _, us.set (out.getD k' 0) (qs.getD k' 0), _, rfl, hke11, ho11 _ _ hne4 h410, ho11 _ _ hne8 h810, hR10.nl hnl11, hp11, (hx10.nl hnl11).set (g6'.nl hnl11), by rw [List.length_set]; exact hul, fun j hj => ?_, fun t ht => ?_⟩
        · by_cases e : j = k'
          · subst e
            rw [List.getD_eq_getElem?_getD, List.getElem?_set_self (by omega)]; rfl
          · have hne : out.getD k' 0 ≠ out.getD j 0 := fun z => by
              rw [getD_get _ _ _ hk2, getD_get _ _ _ (show j < out.length by omega)] at z
              have hp := List.pairwise_iff_getElem.mp hoN j k' (by omega) hk2 (by omega)
              exact hp z.symm
            rw [List.getD_eq_getElem?_getD, List.getElem?_set_ne hne, ← List.getD_eq_getElem?_getD]
            exact hq1' j (by omega)
        · rw [List.getD_eq_getElem?_getD, List.getElem?_set_ne (ht k' (by omega)), ← List.getD_eq_getElem?_getD]
          exact hq2' t fun j hj => ht j (by omega)
      · rintro σ' G ⟨v7, v10, v11, v12, us, xs, rfl, eG9, h4G, h8G, hRG, h7G, hxG, hul, hq1', hq2'⟩
        rw [List.length_map, List.length_map] at hq1' hq2'
        walk_at "go"
        refine k p7 G xs us f7 eG9 h7G hxG (hsol us (fun t ht hm => ?_) (fun j hj => hq1' j hj) hul)
        rw [hq2' t fun j hj z => hon t (by rw [← z, getD_get _ _ _ hj]; exact List.getElem_mem _) hm, getD_get _ _ _ (show t < (ps.map fun p : Int => (p : Rat)).length by rw [List.length_map]; omega), List.getElem_map, getD_get _ _ _ (show t < ps.length by omega)]

theorem ok_Ratio___lt__ (T : Tx P K mg) : FnOk P w K mg base (L2.CX P w) 1 (He.ma K (He.ga K "Ratio") "__lt__") (Z.fdOf K (He.ma K (He.ga K "Ratio") "__lt__")) ["self", "other"] (spCmp (He.ga K "Ratio") fun q r => decide (q < r)) := by
  refine T.F_Ratio___lt__.ok sc_Ratio___lt__ (fun vs H Q E h => ?_) (fun cdv A outer s H vs Q E hr h => ?_)
  · obtain ⟨a, v, q, r, n, m, rfl, _⟩ := h
    rfl
  · obtain ⟨a, v, q, r, n, m, rfl, ha, hv, hnm, k⟩ := h
    have O := T.o_Ratio
    have cl := T.o_Ratio.cl
    have na1 := T.na_Ratio_top
    have na2 := T.na_Ratio_bottom
    obtain ⟨⟨dx, hx⟩, sq, h9⟩ := ha
    have b1 := sq.1
    have b2 := sq.den
    cases hv with
    | @int i _ hi =>
      simp only [lt_int] at k
      have fx0 := T.o_Ratio
      have fx1 := T.o_Rule
      have fx2 := T.o_Stepping
      have fx3 := T.o_Weighted
      refine ⟨_, PSs.nox (pss_cons (ps_if (pt_val (pe_callB (Z.call_isi (K := K) rfl) (by rfl) T.n_isinstance (by decide +kernel) (pa_cons (pv 1) (pa_cons (pe_bltn (v := .ty "int") (u := .type "int") (by rfl) T.n_int (by decide +kernel) rfl) pa_nil)))) (pss_one (ps_ret (pe_cmpR Z.op_lt (Z.fld (K := K) rfl (pv 0) rfl) (pe_op Z.op_mul (pv 1) (Z.fld (K := K) rfl (pv 0) rfl)) (nomark _)))) pss_nil)
      (pss_cons (ps_if (pt_not (pt_val (pe_callB (Z.call_isi (K := K) rfl) (by rfl) T.n_isinstance (by decide +kernel) (pa_cons (pv 1) (pa_cons (pe_glob (v := .ref (He.ga K "Ratio")) (by rfl) T.g_Ratio rfl) pa_nil))))) (pss_one ps_never) pss_nil)
      (pss_one (ps_ret (pe_cmpR Z.op_lt (pe_op Z.op_mul (Z.fld (K := K) rfl (pv 0) rfl) (Z.fld (K := K) rfl (pv 1) rfl)) (pe_op Z.op_mul (Z.fld (K := K) rfl (pv 1) rfl) (Z.fld (K := K) rfl (pv 0) rfl)) (nomark _)))))), ?_⟩
      try dsimp only [cxOf, Cx.nox, Cx.wish]
      try (show (_ : TS) _ [some _, some _] _)
      walk_at "go"
      exact k
    | @rat b r _ hb =>
      obtain ⟨⟨dy, hy⟩, sr, g9⟩ := hb
      have b3 := sr.1
      have b4 := sr.den
      simp only [lt_rat] at k
      have fx0 := T.o_Ratio
      have fx1 := T.o_Rule
      have fx2 := T.o_Stepping
      have fx3 := T.o_Weighted
      refine ⟨_, PSs.nox (pss_cons (ps_if (pt_val (pe_callB (Z.call_isi (K := K) rfl) (by rfl) T.n_isinstance (by decide +kernel) (pa_cons (pv 1) (pa_cons (pe_bltn (v := .ty "int") (u := .type "int") (by rfl) T.n_int (by decide +kernel) rfl) pa_nil)))) (pss_one (ps_ret (pe_cmpR Z.op_lt (Z.fld (K := K) rfl (pv 0) rfl) (pe_op Z.op_mul (pv 1) (Z.fld (K := K) rfl (pv 0) rfl)) (nomark _)))) pss_nil)
      (pss_cons (ps_if (pt_not (pt_val (pe_callB (Z.call_isi (K := K) rfl) (by rfl) T.n_isinstance (by decide +kernel) (pa_cons (pv 1) (pa_cons (pe_glob (v := .ref (He.ga K "Ratio")) (by rfl) T.g_Ratio rfl) pa_nil))))) (pss_one ps_never) pss_nil)
      (pss_one (ps_ret (pe_cmpR Z.op_lt (pe_op Z.op_mul (Z.fld (K := K) rfl (pv 0) rfl) (Z.fld (K := K) rfl (pv 1) rfl)) (pe_op Z.op_mul (Z.fld (K := K) rfl (pv 1) rfl) (Z.fld (K := K) rfl (pv 0) rfl)) (nomark _)))))), ?_⟩
      try dsimp only [cxOf, Cx.nox, Cx.wish]
      try (show (_ : TS) _ [some _, some _] _)
      walk_at "go"
      exact k

def sp_Stepping_settled (K : PySem.W.Frag) : Sp := fun vs H Q _ => ∃ (x p : Addr) (fs : List Int) (a : Int) (st : List (List Int)) (lv ps : List Int), vs = [.ref x, .ref p] ∧ StR K H x fs a st lv ∧ CGood fs a st lv ∧ StBd fs a st lv ∧ fs.length ≤ 8 ∧ SqL K H p (ps.map V.int) ∧ ps.length = fs.length ∧ (∀ z ∈ ps, 0 ≤ z ∧ z < 2 ^ 60) ∧
  ∀ r H' lt vt lot us xs, Fr H r → Ex H H' → At H' r (.tup [.ref lt, .ref vt]) → At H' lt (.tup (lot.map V.int)) → At H' vt (.lst xs) → RL (He.ga K "Ratio") H' xs us 1008 → Settled fs.length st lv ps lot us → Fr H vt → Q (.ref r) H'
theorem ok_Stepping_settled (T : Tx P K mg) : FnOk P w K mg base (L2.CX P w) 5 (He.ma K (He.ga K "Stepping") "settled") (Z.fdOf K (He.ma K (He.ga K "Stepping") "settled")) ["self", "prices"] (sp_Stepping_settled K) := by
  refine T.F_Stepping_settled.ok sc_Stepping_settled (fun vs H Q E h => ?_) (fun cdv A outer s H vs Q E hr h => ?_)
  · obtain ⟨x, p, fs, a, st, lv, ps, rfl, _⟩ := h
    rfl
  · obtain ⟨x, p, fs, a, st, lv, ps, rfl, hx, hg, hb, h8, hp, hpl, hpb, k⟩ := h
    obtain ⟨dx, t1, t2, t3, ys, q1, q2, q3, q4, q5⟩ := id hx
    have fx0 := T.o_Stepping.cl
    have fx1 := T.na_Stepping_many
    refine ⟨_, PSs.nox (pss_cons (ps_set (i := 2) sc_Stepping_settled.nd rfl (Or.inl rfl) (pe_tupRg rfl (by rfl) T.n_tuple (prg_1 (by rfl) T.n_range (Z.fld (K := K) rfl (pv 0) rfl))))
      (pss_cons (ps_set (i := 3) sc_Stepping_settled.nd rfl (Or.inr rfl) (pe_meth (pv 0) T.o_Stepping.cl T.me_Stepping_values_of (ok_Stepping_values_of T) (hr.mono (by decide)) T.b_Stepping_values_of .nil passL (pa_cons (pv 2) (pa_cons (pv 1) pa_nil))))
      (pss_cons (ps_setLc (i := 4) (own := [("thing", 5)]) rfl sc_Stepping_settled.nd rfl rfl (sw_true rfl rfl rfl (by decide +kernel)) (Z.piT (K := K) rfl (pv 2)) (blkOk_by (N := ["self", "prices", "lot", "values", "kept", "thing"]) (sc := defScope s_Stepping_settled) (by decide +kernel)) (fun _ _ _ _ _ => (pg_name (i := 5) sc_Stepping_settled.nd rfl (by first | exact Or.inl rfl | exact Or.inr rfl))) (fun _ _ _ _ _ => (pts_one (pt_cmpR (Z.cmp_OI (fun _ _ => rfl) T.o_Ratio T.me_Ratio___lt__.at_ T.me_Ratio___lt__.fn (Z.rawOk (ok_Ratio___lt__ T) T.b_Ratio___lt__) (hr.mono (by decide)) passL) (pe_meth (pv 0) T.o_Stepping.cl T.me_Stepping_onward (ok_Stepping_onward T) (hr.mono (by decide)) T.b_Stepping_onward .nil passL (pa_cons (pv 5) (pa_cons (pv 3) pa_nil))) (pe_ix (Z.ix (K := K) rfl) (pv 1) (pv 5) (fun _ _ => rfl)) (nomark _)))) (fun _ _ _ _ _ => (pv 5)))
      (pss_cons (ps_while PassesOwn.never (pt_cmpR Z.op_lt (pe_callB (Z.call_len (K := K) rfl) (by rfl) T.n_len (by decide +kernel) (pa_cons (pv 4) pa_nil)) (pe_callB (Z.call_len (K := K) rfl) (by rfl) T.n_len (by decide +kernel) (pa_cons (pv 2) pa_nil)) (nomark _)) (pss_cons (ps_set (i := 2) sc_Stepping_settled.nd rfl (Or.inl rfl) (pe_callTy (Z.call_tuple (K := K) rfl) (by rfl) T.n_tuple (by decide +kernel) (pa_cons (pv 4) pa_nil)))
      (pss_cons (ps_set (i := 3) sc_Stepping_settled.nd rfl (Or.inr rfl) (pe_meth (pv 0) T.o_Stepping.cl T.me_Stepping_values_of (ok_Stepping_values_of T) (hr.mono (by decide)) T.b_Stepping_values_of .nil passL (pa_cons (pv 2) (pa_cons (pv 1) pa_nil))))
      (pss_one (ps_setLc (i := 4) (own := [("thing", 5)]) rfl sc_Stepping_settled.nd rfl rfl (sw_true rfl rfl rfl (by decide +kernel)) (Z.piT (K := K) rfl (pv 2)) (blkOk_by (N := ["self", "prices", "lot", "values", "kept", "thing"]) (sc := defScope s_Stepping_settled) (by decide +kernel)) (fun _ _ _ _ _ => (pg_name (i := 5) sc_Stepping_settled.nd rfl (by first | exact Or.inl rfl | exact Or.inr rfl))) (fun _ _ _ _ _ => (pts_one (pt_cmpR (Z.cmp_OI (fun _ _ => rfl) T.o_Ratio T.me_Ratio___lt__.at_ T.me_Ratio___lt__.fn (Z.rawOk (ok_Ratio___lt__ T) T.b_Ratio___lt__) (hr.mono (by decide)) passL) (pe_meth (pv 0) T.o_Stepping.cl T.me_Stepping_onward (ok_Stepping_onward T) (hr.mono (by decide)) T.b_Stepping_onward .nil passL (pa_cons (pv 5) (pa_cons (pv 3) pa_nil))) (pe_ix (Z.ix (K := K) rfl) (pv 1) (pv 5) (fun _ _ => rfl)) (nomark _)))) (fun _ _ _ _ _ => (pv 5)))))))
      (pss_one (ps_ret (pe_tup (pa_cons (pv 2) (pa_cons (pv 3) pa_nil))))))))), ?_⟩
    try dsimp only [cxOf, Cx.nox, Cx.wish]
    try (show (_ : TS) _ [some _, some _, none, none, none, none] _)
    walk_at "go"
    rename_i p1 H1 hn1 he1 hp1
    have hal : IsLot fs.length ((List.range (fs.length : Int).toNat).map fun i : Nat => (i : Int)) := allLot (n := (fs.length : Int)) (by omega)
    have hmem : ∀ t : Nat, t < fs.length → (t : Int) ∈ ((List.range (fs.length : Int).toNat).map fun i : Nat => (i : Int)) := fun t ht => List.mem_map.mpr ⟨t, List.mem_range.mpr (by omega), rfl⟩
    generalize ((List.range (fs.length : Int).toNat).map fun i : Nat => (i : Int)) = full at *
    have hx1 := hx.ex he1
    refine ⟨x, p1, p, fs, a, st, lv, full, ps, rfl, hx1, hg, hb, h8, st_of hp1, hal, he1.l hp, hpl, hpb, fun p2 H2 xs us hn2 he2 hp2 hR2 hok => ?_⟩
    have hp12 := he2.get hp1
    have hx2 := hx1.ex he2
    have hpp2 := (he1.trans he2).l hp
    have e02 := he1.trans he2
    have f2 : Fr H p2 := he1.back hn2
    clear hp1 hx hx1
    walk_at "go"
    rename_i J S
    refine Z.cgP S (fun i => decide (onwQ st lv fs.length (full.getD i 0).toNat us < (ps.getD (full.getD i 0).toNat 0 : Rat))) (fun i => V.int (full.getD i 0)) (fun H' e => e.t (st_of hp12)) (by rw [List.length_map]; show _ ≤ 16777216; have := hal.len; omega) (fun Dl i y G hi ec cd hz hy => ?_) (fun p3 H3 hn3 he3 hp3 => ?_)
    · obtain ⟨hi2, rfl⟩ := get_int hy
      have ht := hal.2 (full.getD i 0) (by rw [getD_get _ _ _ hi2]; exact List.getElem_mem hi2)
      obtain ⟨t, ht2⟩ := Int.eq_ofNat_of_zero_le ht.1
      have hxG := hx2.ex ec
      obtain ⟨dx', t1', t2', t3', ys', q1', _⟩ := id hxG
      have hppG := ec.l hpp2
      have htt : (full.getD i 0).toNat = t := by rw [ht2]; rfl
      have hpe : ∀ b, b = ps.getD t 0 → b.natAbs < 2 ^ 60 := fun b hb => by
        rw [hb, getD_get _ _ _ (show t < ps.length by omega)]
        exact nab (hpb _ (List.getElem_mem _)).1 (hpb _ (List.getElem_mem _)).2
      have hpe2 := hpe _ rfl
      walk_at "go"
      rw [ht2]
      refine ⟨x, p2, t, fs, a, st, lv, xs, us, 1008, rfl, hxG, hg, hb, h8, by omega, ec.get hp2, hR2.ex ec, hok.len, Nat.le_refl _, fun p9 H9 hn9 he9 hr9 => ?_⟩
      walk_at "go"
      refine Z.w_dec (fun h => ?_) (fun h => ?_)
      · rw [Z.fr_T (by rw [htt]; exact decide_eq_true h)]
        rw [ht2]
        have cd9 := cd.up he9
        walk_at "go"
      · rw [Z.fr_F (by rw [htt]; exact decide_eq_false h)]
        exact cd.up he9
    · have hp3' : At H3 p3 (.lst ((kpL st lv ps fs.length full us).map V.int)) := hp3.l (by rw [List.length_map]; unfold kpL; rw [← filter_getD, List.map_map]; rfl)
      clear hp3
      have hul := hok.len
      walk_at "go"
      refine Z.w_while (fun m σ G => ∃ (lt vt k3 : Addr) (v5 : Option V) (lot : List Int) (us : List Rat) (xs : List V), m = lot.length ∧ σ = [some (.ref x), some (.ref p), some (.ref lt), some (.ref vt), some (.ref k3), v5] ∧ Ex H2 G ∧ Fr H vt ∧ At G lt (.tup (lot.map V.int)) ∧ IsLot fs.length lot ∧ At G vt (.lst xs) ∧ RL (He.ga K "Ratio") G xs us 1008 ∧ ValOk fs.length st lv ps lot us ∧ (∀ t : Nat, t < fs.length → (t : Int) ∉ lot → (ps.getD t 0 : Rat) ≤ onwQ st lv fs.length t us) ∧ At G k3 (.lst ((kpL st lv ps fs.length lot us).map V.int))) full.length ⟨p1, p2, p3, _, full, us, xs, rfl, rfl, he3, f2, he3.get hp12, hal, he3.get hp2, hR2.ex he3, hok, fun t ht hn => absurd (hmem t ht) hn, hp3'⟩ ?_
      rintro m σ' G ⟨lt, vt, k3, v5, lot, us', xs', rfl, rfl, eG, fv, hlt, hlot, hvt, hRv, hokv, hlow, hk3⟩
      have hll := hlot.len
      have hkl2 : (kpL st lv ps fs.length lot us').length ≤ lot.length := kpL_len
      walk_at "go"
      refine Z.wb_dec (fun h => ?_) (fun h => ?_)
      · have hlt3 := hlt
        have hxG := hx2.ex eG
        have hppG := eG.l hpp2
        have hkt : IsLot fs.length (kpL st lv ps fs.length lot us') := kpL_lot hlot
        have hsub := fun t (ht : t ∈ kpL st lv ps fs.length lot us') => kpL_sub ht
        have hlw := fun (t : Nat) (_ : t < fs.length) (h1 : (t : Int) ∈ lot) (h2 : (t : Int) ∉ kpL st lv ps fs.length lot us') => kpL_low h1 h2
        have hstep := fun us2 => settle_step (us := us2) hg (n := fs.length) rfl hkt hokv hlow hsub hlw
        generalize hkk : kpL st lv ps fs.length lot us' = kt at *
        obtain ⟨dx', t1', t2', t3', ys', q1', _⟩ := id hxG
        walk_at "go"
        rename_i p4 H4 hn4 he4 hp4
        refine ⟨x, p4, p, fs, a, st, lv, kt, ps, rfl, hxG.ex he4, hg, hb, h8, st_of hp4, hkt, he4.l hppG, hpl, hpb, fun p5 H5 xs5 us5 hn5 he5 hp5 hR5 hok5 => ?_⟩
        have hx5 := (hxG.ex he4).ex he5
        have hpp5 := he5.l (he4.l hppG)
        have hp45 := he5.get hp4
        have e25 := (eG.trans he4).trans he5
        have f5 : Fr H p5 := (e02.trans (eG.trans he4)).back hn5
        clear hxG hppG hp4 q1' hk3 hlt hlt3 hvt
        walk_at "go"
        rename_i J5 S5
        refine Z.cgP S5 (fun i => decide (onwQ st lv fs.length (kt.getD i 0).toNat us5 < (ps.getD (kt.getD i 0).toNat 0 : Rat))) (fun i => V.int (kt.getD i 0)) (fun H' e => e.t (st_of hp45)) (by rw [List.length_map]; show _ ≤ 16777216; have := hkt.len; omega) (fun Dl i y G hi ec cd hz hy => ?_) (fun p6 H6 hn6 he6 hp6 => ?_)
        · obtain ⟨hi2, rfl⟩ := get_int hy
          have ht := hkt.2 (kt.getD i 0) (by rw [getD_get _ _ _ hi2]; exact List.getElem_mem hi2)
          obtain ⟨t, ht2⟩ := Int.eq_ofNat_of_zero_le ht.1
          have hxG := hx5.ex ec
          obtain ⟨dx', t1', t2', t3', ys', q1', _⟩ := id hxG
          have hppG := ec.l hpp5
          have htt : (kt.getD i 0).toNat = t := by rw [ht2]; rfl
          have hpe : ∀ b, b = ps.getD t 0 → b.natAbs < 2 ^ 60 := fun b hb => by
            rw [hb, getD_get _ _ _ (show t < ps.length by omega)]
            exact nab (hpb _ (List.getElem_mem _)).1 (hpb _ (List.getElem_mem _)).2
          have hpe2 := hpe _ rfl
          walk_at "go"
          rw [ht2]
          refine ⟨x, p5, t, fs, a, st, lv, xs5, us5, 1008, rfl, hxG, hg, hb, h8, by omega, ec.get hp5, hR5.ex ec, hok5.len, Nat.le_refl _, fun p9 H9 hn9 he9 hr9 => ?_⟩
          walk_at "go"
          refine Z.w_dec (fun h => ?_) (fun h => ?_)
          · rw [Z.fr_T (by rw [htt]; exact decide_eq_true h)]
            rw [ht2]
            have cd9 := cd.up he9
            walk_at "go"
          · rw [Z.fr_F (by rw [htt]; exact decide_eq_false h)]
            exact cd.up he9
        · have hp6' : At H6 p6 (.lst ((kpL st lv ps fs.length kt us5).map V.int)) := hp6.l (by rw [List.length_map]; unfold kpL; rw [← filter_getD, List.map_map]; rfl)
          clear hp6
          walk_at "go"
          refine ⟨kt.length, by omega, p4, p5, p6, _, kt, us5, xs5, rfl, rfl, e25.trans he6, f5, he6.get hp45, hkt, he6.get hp5, hR5.ex he6, hok5, hstep us5 hok5, hp6'⟩

      · have hall : kpL st lv ps fs.length lot us' = lot := kpL_all (by omega)
        walk_at "go"
        rename_i p7 H7 hn7 he7 hp7
        refine k p7 H7 lt vt lot us' xs' ((e02.trans eG).back hn7) ((e02.trans eG).trans he7) hp7 (he7.get hlt) (he7.get hvt) (hRv.ex he7) ⟨hlot, hokv, fun t ht hm => kpL_up (by rw [hall]; exact hm), hlow⟩ fv

def sp_Stepping_best (K : PySem.W.Frag) : Sp := fun vs H Q E => ∃ (x p : Addr) (fs : List Int) (a : Int) (st : List (List Int)) (lv ps : List Int), vs = [.ref x, .ref p] ∧ StR K H x fs a st lv ∧ CGood fs a st lv ∧ StBd fs a st lv ∧ fs.length ≤ 8 ∧ SqL K H p (ps.map V.int) ∧ PErr K fs.length ps E H ∧
  (PricesOk fs.length ps → (∀ z ∈ ps, z < 2 ^ 60) ∧ ∀ r H' lt wt us lot, Fr H r → Ex H H' → At H' r (.tup [.ref lt, .ref wt]) → At H' lt (.tup (lot.map V.int)) → RN (He.ga K "Ratio") H' wt (fsum fs fs.length us / ((a + fs.sum : Int) : Rat)) 8800 → Settled fs.length st lv ps lot us → Q (.ref r) H')
theorem ok_Stepping_best (T : Tx P K mg) : FnOk P w K mg base (L2.CX P w) 6 (He.ma K (He.ga K "Stepping") "best") (Z.fdOf K (He.ma K (He.ga K "Stepping") "best")) ["self", "prices"] (sp_Stepping_best K) := by
  refine T.F_Stepping_best.ok sc_Stepping_best (fun vs H Q E h => ?_) (fun cdv A outer s H vs Q E hr h => ?_)
  · obtain ⟨x, p, fs, a, st, lv, ps, rfl, _⟩ := h
    rfl
  · obtain ⟨x, p, fs, a, st, lv, ps, rfl, hx, hg, hb, h8, hp, hE, k⟩ := h
    obtain ⟨dx, t1, t2, t3, ys, q1, q2, q3, q4, q5⟩ := id hx
    obtain ⟨ds2_Ratio___init__, vd2_Ratio___init__, bd2_Ratio___init__⟩ := T.b2_Ratio___init__
    have fx0 := T.o_Stepping.cl
    have fx1 := T.na_Stepping_aside
    have fx2 := T.na_Stepping_first
    have fx3 := T.na_Stepping_many
    refine ⟨_, (pss_cons (ps_expr (Z.pe_callZ (ok_check_prices T) (hr.mono (by decide)) (by rfl) T.g_check_prices T.F_check_prices.kp T.b_check_prices .nil (fun σ => passAt (takes_of rfl rfl rfl rfl) σ) (pa_cons (pv 1) (pa_cons (Z.fld (K := K) rfl (pv 0) rfl) pa_nil))))
      (pss_cons (ps_asg (Z.pe_methZ (pv 0) T.o_Stepping.cl T.me_Stepping_settled (ok_Stepping_settled T) (hr.mono (by decide)) T.b_Stepping_settled .nil (fun σ => passAt (takes_of rfl rfl rfl rfl) σ) (pa_cons (pv 1) pa_nil)) (pg_tup (by rfl) (pgs_cons (pg_name (i := 2) sc_Stepping_best.nd rfl (by first | exact Or.inl rfl | exact Or.inr rfl)) (pgs_cons (pg_name (i := 3) sc_Stepping_best.nd rfl (by first | exact Or.inl rfl | exact Or.inr rfl)) pgs_nil))))
      (pss_cons (ps_set (i := 4) sc_Stepping_best.nd rfl (Or.inl rfl) (Z.pe_makeZ T.mk_Ratio (ok_Ratio___init__ T) (hr.mono (by decide)) (by rfl) T.g_Ratio bd2_Ratio___init__ vd2_Ratio___init__ (fun σ => passAt (takes_of rfl rfl rfl rfl) σ) (pa_cons pe_int pa_nil)))
      (pss_cons (ps_for (passes_of rfl) rfl (Z.pi_zipM (K := K) rfl (by rfl) T.n_zip (pa_cons (Z.fld (K := K) rfl (pv 0) rfl) (pa_cons (pv 3) pa_nil))) (pg_tup (by rfl) (pgs_cons (pg_name (i := 5) sc_Stepping_best.nd rfl (by first | exact Or.inl rfl | exact Or.inr rfl)) (pgs_cons (pg_name (i := 6) sc_Stepping_best.nd rfl (by first | exact Or.inl rfl | exact Or.inr rfl)) pgs_nil))) (pss_one (ps_set (i := 4) sc_Stepping_best.nd rfl (Or.inl rfl) (Z.pe_opS (Z.opS_OO T.o_Ratio T.me_Ratio___add__.at_ T.me_Ratio___add__.fn (Z.rawOk (ok_Ratio___add__ T) T.b_Ratio___add__) (hr.mono (by decide)) (fun σ => passAt (takes_of rfl rfl rfl rfl) σ)) (pv 4) (Z.pe_opS (Z.opS_OI T.o_Ratio T.me_Ratio___mul__.at_ T.me_Ratio___mul__.fn T.me_Ratio___rmul__.at_ (.inr ⟨_, rfl⟩) Z.has_mul (Z.rawOk (ok_Ratio___mul__ T) T.b_Ratio___mul__) (hr.mono (by decide)) (fun σ => passAt (takes_of rfl rfl rfl rfl) σ)) (pv 6) (pv 5))))))
      (pss_one (ps_ret (pe_tup (pa_cons (pv 2) (pa_cons (Z.pe_methZ (pv 4) T.o_Ratio.cl T.me_Ratio_over (ok_Ratio_over T) (hr.mono (by decide)) T.b_Ratio_over .nil (fun σ => passAt (takes_of rfl rfl rfl rfl) σ) (pa_cons (pe_op Z.op_add (Z.fld (K := K) rfl (pv 0) rfl) (pe_callB (Z.call_sum (K := K) rfl rfl) (by rfl) T.n_sum (by decide +kernel) (pa_cons (Z.fld (K := K) rfl (pv 0) rfl) pa_nil))) pa_nil)) pa_nil))))))))), ?_⟩
    try dsimp only [cxOf, Cx.nox, Cx.wish]
    try (show (_ : TS) _ [some _, some _, none, none, none, none, none] _)
    walk_at "go"
    refine ⟨p, ps, _, rfl, hp, hE, fun hok H1 e1 => ?_⟩
    obtain ⟨kb, kk⟩ := k hok
    walk_at "go"
    refine ⟨x, p, fs, a, st, lv, ps, rfl, hx.ex e1, hg, hb, h8, e1.l hp, by have := hok.1; omega, fun z hz => ⟨hok.2 z hz, kb z hz⟩, fun p2 H2 lt vt lot us xs hn2 he2 hp2 hlt hvt hR hS nv => ?_⟩
    have e02 := e1.trans he2
    have hx2 := hx.ex e02
    have q12 := e02.get q1
    have q22 := e02.get q2
    have hez := ev_bd hg hb h8
    have hul := hS.ok.len
    have hxl := hR.1
    have hF : ∀ k, fsum fs k us = sumR k fun t => (fs.getD t 0 : Rat) * us.getD t 0 := fun k => rfl
    have hsb : ∀ j, j < fs.length → (fs.getD j 0).natAbs < 2 ^ 60 := fun j hj => nab (by have := hg.f j hj; omega) (by rw [getD_get _ _ _ hj]; exact hb.f _ (List.getElem_mem _))
    walk_at "go"
    rename_i p3 H3 hn3 he3 hr3 J S
    have hvt3 := he3.get hvt
    have hR3 := hR.ex he3
    have q13 := he3.get q12
    have q23 := he3.get q22
    have hlt3 := he3.get hlt
    clear hvt hlt q12 q22 hp2
    refine Z.fg S (fun i σ G => ∃ (r : Addr) (v5 v6 : Option V), σ = [some (.ref x), some (.ref p), some (.ref lt), some (.ref vt), some (.ref r), v5, v6] ∧ Ex H3 G ∧ RN (He.ga K "Ratio") G r (fsum fs i us) (65 + 1070 * i)) ⟨p3, none, none, rfl, Ex.refl _, hr3.eq (by rw [hF]; simp [sumR]) (by decide) (by decide)⟩ (fun i σ' G _ ⟨_, _, _, _, e, _⟩ => ⟨e.t (st_of q23), e.l (sq_of hvt3)⟩) ?_ ?_
    · rintro i y σ' G G2 hi ⟨r, v5, v6, rfl, eG, hr2⟩ e2 ⟨T2, y1, y2, rfl, hT2, hy1, hy2⟩
      obtain ⟨hi2, rfl⟩ := get_int hy1
      obtain ⟨rq, g5, g6⟩ := hR3.2 i (by omega)
      rw [g5] at hy2
      cases hy2
      have g6' := (g6.ex eG).ex e2
      have hr3' := hr2.ex e2
      have hsi := hsb i hi2
      clear hr2 g6 hr3
      walk_at "go"
      rename_i p9 H9 hn9 he9 hr9 p10 H10 hn10 he10 hr10
      refine ⟨p10, _, _, rfl, (eG.trans e2).trans (he9.trans he10), hr10.eq ?_ (by omega) (by omega)⟩
      rw [hF, hF]
      simp only [sumR]
      rw [Rat.mul_comm (us.getD i 0)]
    · rintro σ' G ⟨r, v5, v6, rfl, eG, hr2⟩
      rw [List.length_map] at hr2
      have q1G := eG.get q13
      have q2G := eG.get q23
      have hltG := eG.get hlt3
      have hb7 : (a + fs.sum).natAbs < 2 ^ 64 := nab (by omega) hez.2
      have hz7 : ((a + fs.sum : Int) : Rat) ≠ 0 := fun z => by
        have : a + fs.sum = 0 := by exact_mod_cast z
        omega
      clear hr3 hlt3 q13 q23
      walk_at "go"
      refine u_over hr2 (.int hb7) (by omega) hz7 fun p9 H9 hn9 he9 hr9 => ?_
      have hlt9 := he9.get hltG
      have e09 := ((e02.trans he3).trans eG).trans he9
      walk_at "go"
      rename_i p10 H10 hn10 he10 hp10
      exact kk p10 H10 lt p9 us lot (e09.back hn10) (e09.trans he10) hp10 (he10.get hlt9) ((hr9.ex he10).eq rfl (by omega) (by decide)) hS

/-- lots, as tuples in a list -/
def LtL (H : Hp) (xs : List V) (n : Nat) : Prop := ∀ (i : Nat) (y : V), xs[i]? = some y → ∃ l lot, y = V.ref l ∧ At H l (.tup ((lot : List Int).map V.int)) ∧ IsLot (n : Int) lot
theorem LtL.ex {H H' : Hp} {xs : List V} {n : Nat} (h : LtL H xs n) (e : Ex H H') : LtL H' xs n := fun i y hy => by
  obtain ⟨l, lot, h1, h2, h3⟩ := h i y hy
  exact ⟨l, lot, h1, e.get h2, h3⟩
theorem LtL.nl {H H' : Hp} {xs : List V} {n : Nat} (h : LtL H xs n) (e : Nl H H') : LtL H' xs n := fun i y hy => by
  obtain ⟨l, lot, h1, h2, h3⟩ := h i y hy
  exact ⟨l, lot, h1, e.get (fun l z => by cases z) h2, h3⟩
theorem LtL.nil {H : Hp} {n : Nat} : LtL H [] n := fun i y hy => nomatch hy
theorem LtL.app {H : Hp} {xs ys : List V} {n : Nat} (h : LtL H xs n) (g : LtL H ys n) : LtL H (xs ++ ys) n := fun i y hy => by
  by_cases hi : i < xs.length
  · rw [List.getElem?_append_left hi] at hy
    exact h i y hy
  · rw [List.getElem?_append_right (by omega)] at hy
    exact g _ y hy
theorem LtL.one {H : Hp} {l : Addr} {lot : List Int} {n : Nat} (h1 : At H l (.tup (lot.map V.int))) (h2 : IsLot (n : Int) lot) : LtL H [.ref l] n := fun i y hy => by
  rcases i with _ | i
  · cases hy
    exact ⟨l, lot, rfl, h1, h2⟩
  · cases hy
theorem one_lot {n t : Nat} (h : t < n) : IsLot (n : Int) [(t : Int)] := ⟨List.pairwise_singleton _ _, fun x hx => by
  have := List.mem_singleton.mp hx
  omega⟩
theorem emp_lot {n : Int} : IsLot n [] := ⟨.nil, fun x hx => by simp at hx⟩
/-- the shares due, as pairs -/
def dueL (ws : List Int) (tot : Int) (lot : List Int) (i : Nat) : List (Int × Int) := (List.range i).map fun t : Nat => (if (t : Int) ∈ lot then ws.getD t 0 else 0, tot)
theorem dueL_snoc (ws : List Int) (tot : Int) (lot : List Int) (i : Nat) : dueL ws tot lot (i + 1) = dueL ws tot lot i ++ [(if (i : Int) ∈ lot then ws.getD i 0 else 0, tot)] := by
  unfold dueL
  rw [List.range_succ, List.map_append]
  rfl
theorem dueL_len (ws : List Int) (tot : Int) (lot : List Int) (i : Nat) : (dueL ws tot lot i).length = i := by unfold dueL; simp
theorem dueL_get (ws : List Int) (tot : Int) (lot : List Int) (i n : Nat) (h : i < n) : (dueL ws tot lot n).getD i (0, 0) = (if (i : Int) ∈ lot then ws.getD i 0 else 0, tot) := by
  rw [getD_get _ _ _ (by rw [dueL_len]; exact h)]
  unfold dueL
  simp
/-- the best lot by weights, by its worth -/
theorem bst_ofW {ws ps lot : List Int} {a : Int} (h : BestW ws a ps lot) (hl : ps.length = ws.length) (hw : ∀ w ∈ ws, 1 ≤ w) (ha : 1 ≤ a) : Bst ws a ps lot (Rat.divInt (wpsum ws ps lot) (a + wsum ws lot)) := by
  have hT := h.tot
  obtain ⟨q, hqe⟩ : ∃ q, q = Rat.divInt (wpsum ws ps lot) (a + wsum ws lot) := ⟨_, rfl⟩
  rw [← hqe]
  have hd : (q.den : Int) ≠ 0 := den0 q
  have hq : q.num * (a + wsum ws lot) = wpsum ws ps lot * q.den := by
    have e : Rat.divInt q.num q.den = Rat.divInt (wpsum ws ps lot) (a + wsum ws lot) := by rw [Rat.num_divInt_den]; exact hqe
    exact (Rat.divInt_eq_divInt_iff hd (by omega)).mp e
  refine Bst.of hl hw ha ?_ hq.symm
  rw [show (fun t : Nat => decide (q.num < ps.getD t 0 * q.den)) = (fun t : Nat => decide (wpsum ws ps lot < ps.getD t 0 * (a + wsum ws lot))) from funext fun t => decide_eq_decide.mpr (by rw [← lt_int, hqe, divI_lt hT])]
  exact h.lot_eq
def sp_law (K : PySem.W.Frag) : Sp := fun vs H Q _ => ∃ (a : Addr) (ns : List Int), vs = [.ref a] ∧ SqL K H a (ns.map V.int) ∧ ∀ H', Q (.bl true) H'
theorem ok_law (T : Tx P K mg) : FnOk P w K mg base CX0 9 (He.ga K "law") (Z.fdOf K (He.ga K "law")) ["_law_script"] (sp_law K) := by
  refine T.F_law.ok sc_law (fun vs H Q E h => ?_) (fun cdv A outer s H vs Q E hr h => ?_)
  · obtain ⟨a, ns, rfl, _⟩ := h
    rfl
  · obtain ⟨a, ns, rfl, hS, k⟩ := h
    have fx0 := T.o_Ratio.cl
    have fx1 := T.na_Ratio_bottom
    have fx2 := T.na_Ratio_top
    refine ⟨_, PSs.nox (pss_cons (ps_set (i := 1) sc_law.nd rfl (Or.inl rfl) (pe_call (ok__law_draws T) (hr.mono (by decide)) (by rfl) T.g__law_draws T.F__law_draws.kp T.b__law_draws .nil passL (pa_cons (pe_call (ok__law_cell T) (hr.mono (by decide)) (by rfl) T.g__law_cell T.F__law_cell.kp T.b__law_cell .nil passL (pa_cons (pv 0) (pa_cons pe_int pa_nil))) (pa_cons (pe_lst (pa_cons pe_int (pa_cons pe_int pa_nil))) pa_nil))))
      (pss_cons (ps_set (i := 2) sc_law.nd rfl (Or.inl rfl) (pe_ix (Z.ix (K := K) rfl) (pv 1) pe_int (fun _ _ => rfl)))
      (pss_cons (ps_set (i := 3) sc_law.nd rfl (Or.inl rfl) (pe_call (ok__law_ups T) (hr.mono (by decide)) (by rfl) T.g__law_ups T.F__law_ups.kp T.b__law_ups .nil passL (pa_cons (pe_call (ok__law_row T) (hr.mono (by decide)) (by rfl) T.g__law_row T.F__law_row.kp T.b__law_row .nil passL (pa_cons (pe_call (ok__law_cell T) (hr.mono (by decide)) (by rfl) T.g__law_cell T.F__law_cell.kp T.b__law_cell .nil passL (pa_cons (pv 0) (pa_cons pe_int pa_nil))) (pa_cons (pe_op Z.op_add (pv 2) pe_int) pa_nil))) pa_nil)))
      (pss_cons (ps_set (i := 4) sc_law.nd rfl (Or.inr rfl) (pe_slice (Z.slL (K := K) rfl) (pv 3) po_none (po_some (pv 2))))
      (pss_cons (ps_set (i := 5) sc_law.nd rfl (Or.inl rfl) (pe_ix (Z.ix (K := K) rfl) (pv 3) (pv 2) (fun _ _ => rfl)))
      (pss_cons (ps_set (i := 6) sc_law.nd rfl (Or.inl rfl) (pe_call (ok__law_row T) (hr.mono (by decide)) (by rfl) T.g__law_row T.F__law_row.kp T.b__law_row .nil passL (pa_cons (pe_call (ok__law_cell T) (hr.mono (by decide)) (by rfl) T.g__law_cell T.F__law_cell.kp T.b__law_cell .nil passL (pa_cons (pv 0) (pa_cons pe_int pa_nil))) (pa_cons (pv 2) pa_nil))))
      (pss_cons (ps_set (i := 7) sc_law.nd rfl (Or.inl rfl) (pe_callTy (Z.call_list (K := K) rfl) (by rfl) T.n_list (by decide +kernel) (pa_cons (pv 4) pa_nil)))
      (pss_cons (ps_set (i := 8) sc_law.nd rfl (Or.inl rfl) (pe_make T.mk_Weighted (ok_Weighted___init__ T) (hr.mono (by decide)) (by rfl) T.g_Weighted T.b_Weighted___init__ .nil passL (pa_cons (pv 7) (pa_cons (pv 5) pa_nil))))
      (pss_cons (ps_set (i := 9) sc_law.nd rfl (Or.inl rfl) (Z.pe_cm (pe_glob (v := .ref (He.ga K "Stepping")) (by rfl) T.g_Stepping rfl) T.cr_Stepping T.cm_Stepping_like (Z.rawOk (ok_Stepping_like T) T.b_Stepping_like) (hr.mono (by decide)) (fun σ => Z.passOf passL σ) (pa_cons (pv 8) pa_nil)))
      (pss_cons (ps_if (PW.pt (pw_or (pt_cmpR (Z.op_ne (K := K) rfl hr.units) (pv 7) (pv 4) (nomark _)) (pw_or1 (pt_not (pt_val (pe_call (ok__law_is_like T) (hr.mono (by decide)) (by rfl) T.g__law_is_like T.F__law_is_like.kp T.b__law_is_like .nil passL (pa_cons (pv 9) (pa_cons (pv 4) (pa_cons (pv 5) pa_nil))))))))) (pss_one (ps_ret pe_bl)) pss_nil)
      (pss_cons (ps_set (i := 10) sc_law.nd rfl (Or.inl rfl) (pe_lst (pa_cons (pe_call (ok__law_lot T) (hr.mono (by decide)) (by rfl) T.g__law_lot T.F__law_lot.kp T.b__law_lot .nil passL (pa_cons (pe_ix (Z.ix (K := K) rfl) (pv 1) pe_int (fun _ _ => rfl)) (pa_cons (pv 2) pa_nil))) (pa_cons (pe_tup pa_nil) (pa_cons (pe_callTy (Z.call_tuple (K := K) rfl) (by rfl) T.n_tuple (by decide +kernel) (pa_cons (pe_lc (own := [("_law_thing", 18)]) rfl sc_law.nd (pi_range1 (by rfl) T.n_range (pa_cons (pv 2) pa_nil)) (blkOk_by (N := ["_law_script", "_law_d", "_law_many", "_law_row_here", "_law_weights", "_law_aside", "_law_prices", "_law_passed", "_law_rule", "_law_chain", "_law_lots", "_law_lot_here", "_law_total", "_law_due", "_law_one", "_law_two", "_law_refused_here", "_law_ones", "_law_thing"]) (sc := defScope s_law) (by decide +kernel)) (fun _ _ _ _ _ => (pg_name (i := 18) sc_law.nd rfl (by first | exact Or.inl rfl | exact Or.inr rfl))) (fun _ _ _ _ _ => pts_nil) (fun _ _ _ _ _ => (pv 18))) pa_nil)) pa_nil)))))
      (pss_cons (ps_expr (pe_bm PySem.F.plainAttrs_list PySem.F.slot_list_extend PySem.F.type_list_extend mt_extend (pv 10) (pa_cons (pe_lc (own := [("_law_thing", 18)]) rfl sc_law.nd (pi_range1 (by rfl) T.n_range (pa_cons (pv 2) pa_nil)) (blkOk_by (N := ["_law_script", "_law_d", "_law_many", "_law_row_here", "_law_weights", "_law_aside", "_law_prices", "_law_passed", "_law_rule", "_law_chain", "_law_lots", "_law_lot_here", "_law_total", "_law_due", "_law_one", "_law_two", "_law_refused_here", "_law_ones", "_law_thing"]) (sc := defScope s_law) (by decide +kernel)) (fun _ _ _ _ _ => (pg_name (i := 18) sc_law.nd rfl (by first | exact Or.inl rfl | exact Or.inr rfl))) (fun _ _ _ _ _ => pts_nil) (fun _ _ _ _ _ => (pe_tup (pa_cons (pv 18) pa_nil)))) pa_nil)))
      (pss_cons (ps_for PassesOwn.never rfl (Z.piL (K := K) rfl (pv 10)) (pg_name (i := 11) sc_law.nd rfl (by first | exact Or.inl rfl | exact Or.inr rfl)) (pss_cons (ps_set (i := 12) sc_law.nd rfl (Or.inr rfl) (pe_op Z.op_add (pv 5) (pe_callB (Z.call_sum (K := K) rfl rfl) (by rfl) T.n_sum (by decide +kernel) (pa_cons (pe_lc (own := [("_law_thing", 18)]) rfl sc_law.nd (Z.piT (K := K) rfl (pv 11)) (blkOk_by (N := ["_law_script", "_law_d", "_law_many", "_law_row_here", "_law_weights", "_law_aside", "_law_prices", "_law_passed", "_law_rule", "_law_chain", "_law_lots", "_law_lot_here", "_law_total", "_law_due", "_law_one", "_law_two", "_law_refused_here", "_law_ones", "_law_thing"]) (sc := defScope s_law) (by decide +kernel)) (fun _ _ _ _ _ => (pg_name (i := 18) sc_law.nd rfl (by first | exact Or.inl rfl | exact Or.inr rfl))) (fun _ _ _ _ _ => pts_nil) (fun _ _ _ _ _ => (pe_ix (Z.ix (K := K) rfl) (pv 4) (pv 18) (fun _ _ => rfl)))) pa_nil))))
      (pss_cons (ps_setLc (i := 13) (own := [("_law_thing", 18)]) rfl sc_law.nd rfl rfl (sw_true rfl rfl rfl (by decide +kernel)) (pi_range1 (by rfl) T.n_range (pa_cons (pv 2) pa_nil)) (blkOk_by (N := ["_law_script", "_law_d", "_law_many", "_law_row_here", "_law_weights", "_law_aside", "_law_prices", "_law_passed", "_law_rule", "_law_chain", "_law_lots", "_law_lot_here", "_law_total", "_law_due", "_law_one", "_law_two", "_law_refused_here", "_law_ones", "_law_thing"]) (sc := defScope s_law) (by decide +kernel)) (fun _ _ _ _ _ => (pg_name (i := 18) sc_law.nd rfl (by first | exact Or.inl rfl | exact Or.inr rfl))) (fun _ _ _ _ _ => pts_nil) (fun _ _ _ _ _ => (pe_tup (pa_cons (pe_op Z.op_mul (pe_ix (Z.ix (K := K) rfl) (pv 4) (pv 18) (fun _ _ => rfl)) (pe_callTy Z.call_int (by rfl) T.n_int (by decide +kernel) (pa_cons (pe_cmpR (Z.op_in (K := K) rfl) (pv 18) (pv 11) (by rfl)) pa_nil))) (pa_cons (pv 12) pa_nil)))))
      (pss_one (ps_if (PW.pt (pw_or (pt_not (pt_val (pe_call (ok__law_same_row T) (hr.mono (by decide)) (by rfl) T.g__law_same_row T.F__law_same_row.kp T.b__law_same_row .nil passL (pa_cons (pe_meth (pv 9) T.o_Stepping.cl T.me_Stepping_shares (ok_Stepping_shares T) (hr.mono (by decide)) T.b_Stepping_shares .nil passL (pa_cons (pv 11) pa_nil)) (pa_cons (pv 13) pa_nil))))) (pw_or1 (pt_not (pt_val (pe_call (ok__law_same_row T) (hr.mono (by decide)) (by rfl) T.g__law_same_row T.F__law_same_row.kp T.b__law_same_row .nil passL (pa_cons (pe_meth (pv 8) T.o_Weighted.cl T.me_Weighted_shares (ok_Weighted_shares T) (hr.mono (by decide)) T.b_Weighted_shares .nil passL (pa_cons (pv 11) pa_nil)) (pa_cons (pv 13) pa_nil)))))))) (pss_one (ps_ret pe_bl)) pss_nil)))))
      (pss_cons (ps_set (i := 14) sc_law.nd rfl (Or.inl rfl) (pe_meth (pv 8) T.o_Weighted.cl T.me_Weighted_best (ok_Weighted_best T) (hr.mono (by decide)) T.b_Weighted_best .nil passL (pa_cons (pe_callTy (Z.call_list (K := K) rfl) (by rfl) T.n_list (by decide +kernel) (pa_cons (pv 6) pa_nil)) pa_nil)))
      (pss_cons (ps_set (i := 15) sc_law.nd rfl (Or.inl rfl) (pe_meth (pv 9) T.o_Stepping.cl T.me_Stepping_best (ok_Stepping_best T) (hr.mono (by decide)) T.b_Stepping_best .nil passL (pa_cons (pe_callTy (Z.call_list (K := K) rfl) (by rfl) T.n_list (by decide +kernel) (pa_cons (pv 6) pa_nil)) pa_nil)))
      (pss_cons (ps_if (PW.pt (pw_or (pt_not (pt_val (pe_call (ok__law_is_best T) (hr.mono (by decide)) (by rfl) T.g__law_is_best T.F__law_is_best.kp T.b__law_is_best .nil passL (pa_cons (pv 14) (pa_cons (pv 4) (pa_cons (pv 5) (pa_cons (pv 6) pa_nil))))))) (pw_or1 (pt_not (pt_val (pe_call (ok__law_is_best T) (hr.mono (by decide)) (by rfl) T.g__law_is_best T.F__law_is_best.kp T.b__law_is_best .nil passL (pa_cons (pv 15) (pa_cons (pv 4) (pa_cons (pv 5) (pa_cons (pv 6) pa_nil)))))))))) (pss_one (ps_ret pe_bl)) pss_nil)
      (pss_cons (ps_if (PW.pt (pw_or (pt_cmpR (Z.op_ne (K := K) rfl hr.units) (Z.fld (K := K) rfl (pe_ix (Z.ix (K := K) rfl) (pv 14) pe_int (fun _ _ => rfl)) rfl) (Z.fld (K := K) rfl (pe_ix (Z.ix (K := K) rfl) (pv 15) pe_int (fun _ _ => rfl)) rfl) (nomark _)) (pw_or1 (pt_cmpR (Z.op_ne (K := K) rfl hr.units) (Z.fld (K := K) rfl (pe_ix (Z.ix (K := K) rfl) (pv 14) pe_int (fun _ _ => rfl)) rfl) (Z.fld (K := K) rfl (pe_ix (Z.ix (K := K) rfl) (pv 15) pe_int (fun _ _ => rfl)) rfl) (nomark _))))) (pss_one (ps_ret pe_bl)) pss_nil)
      (pss_cons (ps_set (i := 16) sc_law.nd rfl (Or.inl rfl) (pe_call (ok__law_refused T) (hr.mono (by decide)) (by rfl) T.g__law_refused T.F__law_refused.kp T.b__law_refused .nil passL (pa_cons (pe_make T.mk_Weighted (ok_Weighted___init__ T) (hr.mono (by decide)) (by rfl) T.g_Weighted T.b_Weighted___init__ .nil passL (pa_cons (pe_lst (pa_cons pe_int (pa_cons pe_int (pa_cons pe_int (pa_cons pe_int (pa_cons pe_int (pa_cons pe_int (pa_cons pe_int (pa_cons pe_int (pa_cons pe_int pa_nil)))))))))) (pa_cons pe_int pa_nil))) pa_nil)))
      (pss_cons (ps_if (PW.pt (pw_or (pt_not (pt_val (pe_call (ok__law_is_int T) (hr.mono (by decide)) (by rfl) T.g__law_is_int T.F__law_is_int.kp T.b__law_is_int .nil passL (pa_cons (pe_ix (Z.ix (K := K) rfl) (pv 16) pe_int (fun _ _ => rfl)) pa_nil)))) (pw_or (pt_cmpR (Z.op_ne (K := K) rfl hr.units) (pe_ix (Z.ix (K := K) rfl) (pv 16) pe_int (fun _ _ => rfl)) pe_int (nomark _)) (pw_or (pt_not (pt_val (pe_call (ok__law_is_int T) (hr.mono (by decide)) (by rfl) T.g__law_is_int T.F__law_is_int.kp T.b__law_is_int .nil passL (pa_cons (pe_ix (Z.ix (K := K) rfl) (pv 16) pe_int (fun _ _ => rfl)) pa_nil)))) (pw_or1 (pt_cmpR (Z.op_ne (K := K) rfl hr.units) (pe_ix (Z.ix (K := K) rfl) (pv 16) pe_int (fun _ _ => rfl)) pe_int (nomark _))))))) (pss_one (ps_ret pe_bl)) pss_nil)
      (pss_cons (ps_set (i := 17) sc_law.nd rfl (Or.inl rfl) (pe_lst (pa_cons pe_int (pa_cons pe_int (pa_cons pe_int (pa_cons pe_int (pa_cons pe_int (pa_cons pe_int (pa_cons pe_int (pa_cons pe_int pa_nil))))))))))
      (pss_one (ps_ret (pe_and (pe_call (ok__law_is_like T) (hr.mono (by decide)) (by rfl) T.g__law_is_like T.F__law_is_like.kp T.b__law_is_like .nil passL (pa_cons (Z.pe_cm (pe_glob (v := .ref (He.ga K "Stepping")) (by rfl) T.g_Stepping rfl) T.cr_Stepping T.cm_Stepping_like (Z.rawOk (ok_Stepping_like T) T.b_Stepping_like) (hr.mono (by decide)) (fun σ => Z.passOf passL σ) (pa_cons (pe_make T.mk_Weighted (ok_Weighted___init__ T) (hr.mono (by decide)) (by rfl) T.g_Weighted T.b_Weighted___init__ .nil passL (pa_cons (pv 17) (pa_cons pe_int pa_nil))) pa_nil)) (pa_cons (pv 17) (pa_cons pe_int pa_nil)))) (pe_one (pe_call (ok__law_is_like T) (hr.mono (by decide)) (by rfl) T.g__law_is_like T.F__law_is_like.kp T.b__law_is_like .nil passL (pa_cons (pv 9) (pa_cons (pv 4) (pa_cons (pv 5) pa_nil)))))))))))))))))))))))))))), ?_⟩
    try dsimp only [cxOf, Cx.nox, Cx.wish]
    try (show (_ : TS) _ [some _, none, none, none, none, none, none, none, none, none, none, none, none, none, none, none, none, none, none] _)
    walk_at "go"
    clear hr
    rename_i c0 p1 H1 hn1 he1 hp1 p2 H2 ds hn2 he2 hp2 hd hb2 c1 p3 H3 ns3 hn3 he3 hp3 hl3 hx3 p4 H4 hn4 he4 hp4 p5 H5 hn5 he5 hp5 c2 p6 H6 ps hn6 he6 hp6 hl6 hx6 p7 H7 hn7 he7 hp7
    have hd0 : 0 ≤ ds.getD 0 0 ∧ ds.getD 0 0 < 6 := by omega
    have hd1 : 0 ≤ ds.getD 1 0 := by omega
    have hdl : 2 ≤ ds.length := by omega
    generalize ds.getD 0 0 = mi at *
    obtain ⟨m, rfl⟩ := Int.eq_ofNat_of_zero_le hd0.1
    rw [Int.toNat_natCast] at *
    have hrl : (ns3.map fun x => 1 + x).length = m + 1 := by rw [List.length_map]; omega
    have hrb : ∀ x ∈ ns3.map fun x => 1 + x, 1 ≤ x ∧ x < 2 ^ 60 := fun x hx => by
      obtain ⟨v, hv, rfl⟩ := List.mem_map.mp hx
      have := hx3 v hv
      omega
    generalize (ns3.map fun x => 1 + x) = rs at *
    have hwb : ∀ w ∈ rs.take m, 1 ≤ w ∧ w < 2 ^ 60 := fun w hw => hrb w (List.mem_of_mem_take hw)
    have hab : 1 ≤ rs.getD m 0 ∧ rs.getD m 0 < 2 ^ 60 := by rw [getD_get _ _ _ (show m < rs.length by omega)]; exact hrb _ (List.getElem_mem _)
    have hwl : (rs.take m).length = m := by rw [List.length_take]; omega
    generalize rs.take m = ws at *
    generalize rs.getD m 0 = b at *
    have hw1 : ∀ w ∈ ws, 1 ≤ w := fun w hw => (hwb w hw).1
    have e67 := he6.trans he7
    have hp57 := e67.get hp5
    have hp67 := he7.get hp6
    have hp27 := (((he3.trans he4).trans he5).trans e67).get hp2
    clear hp1 hp2 hp3 hp4 hp5 hp6 hd hn1 hn2 hn3 hn4 hn5 hn6 hn7 hS hx3 hl3
    refine mkW (sq_of hp7) (by omega) hw1 hab.1 fun x H8 hn8 he8 hx8 => ?_
    have hp58 := he8.get hp57
    have hp68 := he8.get hp67
    have hp78 := he8.get hp7
    have hp28 := he8.get hp27
    clear hp7 hp57 hp67 hp27 hn8
    walk_at "go"
    refine ⟨x, ws, b, rfl, hx8, fun h => absurd hwl (by omega), fun _ q H9 hnq he9 hq9 => ?_⟩
    have hp59 := he9.get hp58
    have hp69 := he9.get hp68
    have hp79 := he9.get hp78
    have hp29 := he9.get hp28
    have hx9 := hx8.ex he9
    clear hp58 hp68 hp78 hp28 hx8 hnq
    walk_at "run"
    refine ⟨q, p5, ws, b, rfl, hq9, sq_of hp59, by omega, fun H10 e10 => ?_⟩
    have hp510 := e10.get hp59
    have hp610 := e10.get hp69
    have hp210 := e10.get hp29
    have hx10 := hx9.ex e10
    have hq10 := hq9.ex e10
    clear hp59 hp69 hp79 hp29 hx9 hq9
    walk_at "run"
    rename_i pl Hl lot0 hnl hel hpl hlot0 pe Hx0 hne hee hpe J S
    have hl0 : IsLot (m : Int) lot0 := by
      have h := lotOf_isLot (ds.getD 1 0).toNat m
      rw [Int.toNat_natCast] at hlot0
      rw [← hlot0] at h
      exact h
    have e2l := hel.trans hee
    have hp5e := e2l.get hp510
    have hp6e := e2l.get hp610
    have hxe := hx10.ex e2l
    have hqe := hq10.ex e2l
    have hple := hee.get hpl
    clear hp510 hp610 hp210 hx10 hq10 hpl hnl hne hlot0
    refine Z.cgI S (fun k => (k : Int)) (fun H' e => trivial) (by show _ ≤ 16777216; omega) (fun Dl k y G hk ec cd hy => ?_) (fun pr Hr hnr her hpr => ?_) rfl
    · cases hy
      walk_at "go"
    rw [Int.toNat_natCast] at hpr
    have hall : IsLot (m : Int) ((List.range m).map fun k : Nat => (k : Int)) := by have := allLot (n := (m : Int)) (by omega); rw [Int.toNat_natCast] at this; exact this
    generalize ((List.range m).map fun k : Nat => (k : Int)) = la at *
    have hlal := hall.len
    have hp5r := her.get hp5e
    have hp6r := her.get hp6e
    have hxr := hxe.ex her
    have hqr := hqe.ex her
    have hplr := her.get hple
    have hper := her.get hpe
    clear hp5e hp6e hxe hqe hple hpe hnr
    walk_at "go"
    rename_i pa Ha hna hea hpa pL HL hnL heL hpL J2 S2
    have hp5a := hea.get hp5r
    have hp6a := hea.get hp6r
    have hxa := hxr.ex hea
    have hqa := hqr.ex hea
    have hLta : LtL Ha [.ref pl, .ref pe, .ref pa] m := ((LtL.one (hea.get hplr) hl0).app (LtL.one (lot := []) (hea.get hper) emp_lot)).app (LtL.one hpa hall)
    have fL : Fr Ha pL := hnL
    clear hplr hper hpa hp5r hp6r hxr hqr hpr hna hnL
    refine Z.cgX S2 (fun k acc G => LtL G acc m ∧ acc.length = k) (fun H' e => ⟨.nil, rfl⟩) (fun k acc Ga Gb h e => ⟨h.1.ex e, h.2⟩) (fun H' e => trivial) (by show _ ≤ 16777216; omega) (fun Dl kq z G acc hk ec cd hl hP hy => ?_) (fun p18 H18 acc hn18 he18 hp18 hl18 hP18 => ?_) rfl
    · subst hy
      walk_at "go"
      rename_i pt Ht hnt het hpt
      refine Z.elx cd hl (by rw [hl]; show kq < 16777216; omega) het fun H5 hn5 => ⟨(((hP.1.ex het).nl hn5).app (LtL.one (lot := [(kq : Int)]) (hn5.get (fun l z => by cases z) hpt) (one_lot (by omega)))), by simp [hP.2]⟩
    have hpL18 := he18.get hpL
    clear hpL S2 J2
    walk_at "go"
    rename_i H19 hp19 hnl19 ho19 hke19 J3 S3
    have hp519 := hke19.get hp5a
    have hp619 := hke19.get hp6a
    have hx19 := hxa.ex hke19
    have hq19 := hqa.ex hke19
    have hLt19 : LtL H19 ([V.ref pl, V.ref pe, V.ref pa] ++ acc) m := (hLta.ex hke19).app (hP18.1.nl hnl19)
    generalize [V.ref pl, V.ref pe, V.ref pa] ++ acc = xs at *
    have hg := like_good hw1 hab.1
    have hbd := like_bd (fun w hw => (hwb w hw).2) hab.2
    clear hpL18 hp5a hp6a hxa hqa hLta hP18 hp18 hnl19 ho19 hn18
    refine Z.fg S3 (fun i σ G => ∃ (v11 v12 v13 : Option V), σ = [some (.ref a), some (.ref p2), some (.int m), some (.ref p4), some (.ref p5), some (.int b), some (.ref p6), some (.ref p7), some (.ref x), some (.ref q), some (.ref pL), v11, v12, v13, none, none, none, none, none] ∧ Ex H19 G) ⟨none, none, none, rfl, Ex.refl _⟩ (fun i σ' G _ ⟨_, _, _, _, e⟩ => e.l (sq_of hp19)) ?_ ?_
    · rintro i y σ' G G2 hi ⟨v11, v12, v13, rfl, eG⟩ e2 hy
      obtain ⟨l, lot, rfl, hl, hlot⟩ := hLt19 i y hy
      have eG2 := eG.trans e2
      have hp52 := eG2.get hp519
      have hx2 := hx19.ex eG2
      have hq2 := hq19.ex eG2
      have hl2 := eG2.get hl
      have hll := hlot.len
      have hlw : IsLot ws.length lot := by rw [hwl]; exact hlot
      clear hp519 hp619 hx19 hq19 hl hp19 hLt19
      walk_at "go"
      rename_i J4 S4
      refine Z.cgI S4 (fun i => ws.getD (lot.getD i 0).toNat 0) (fun H' e => e.t (st_of hl2)) (by rw [List.length_map]; show _ ≤ 16777216; omega) (fun Dl i y G hi ec c hy => ?_) (fun p3 G3 hn3 he3 hp3 => ?_) rfl
      · obtain ⟨hi2, rfl⟩ := get_int hy
        have := hlot.2 (lot.getD i 0) (by rw [getD_get _ _ _ hi2]; exact List.getElem_mem hi2)
        have hp53 := ec.get hp52
        walk_at "go"
      rw [List.length_map, range_map lot (fun t => ws.getD t.toNat 0)] at hp3
      have hp53 := he3.get hp52
      have hx3 := hx2.ex he3
      have hq3 := hq2.ex he3
      have hl3 := he3.get hl2
      have htot := tot_bt (lot := lot) (B := 60) hw1 hab.1 (fun w hw => (hwb w hw).2) hab.2 (by omega)
      clear hp52 hx2 hq2 hl2 hn3
      walk_at "go"
      rw [show (lot.map fun t => ws.getD t.toNat 0).sum = wsum ws lot from rfl]
      generalize htt : b + wsum ws lot = tot at *
      rename_i J5 S5
      refine Z.cgX S5 (fun k acc G => PL G acc (dueL ws tot lot k) ∧ acc.length = k) (fun H' e => ⟨.nil, rfl⟩) (fun k acc Ga Gb h e => ⟨h.1.ex e, h.2⟩) (fun H' e => trivial) (by show _ ≤ 16777216; omega) (fun Dl kq z G4 acc hk ec cd hl hP hy => ?_) (fun p8 H8 acc hn8 he8 hp8 hl8 hP8 => ?_) rfl
      · subst hy
        have hp54 := ec.get hp53
        have hl4 := ec.get hl3
        have hkl : kq < m := by omega
        walk_at "go"
        refine .inr ⟨_, rfl, ?_⟩
        have fin : ∀ (y : Int), y = (if (kq : Int) ∈ lot then ws.getD kq 0 else 0) → ∀ pt Ht, Ex G4 Ht → At Ht pt (.tup [.int y, .int tot]) → ElX G3 Dl kq (fun k acc G => PL G acc (dueL ws tot lot k) ∧ acc.length = k) (.ref pt) Ht := fun y hy pt Ht het hpt =>
          Z.elx cd hl (by rw [hl]; show kq < 16777216; omega) het fun H5 hn5 => ⟨by
            rw [dueL_snoc, ← hy]
            exact ((hP.1.ex het).nl hn5).snoc (hn5.get (fun l z => by cases z) hpt), by simp [hP.2]⟩
        by_cases hm : (kq : Int) ∈ lot
        · rw [decide_eq_true hm]
          refine Z.w_mulI (Z.CM.of_right (by decide)) ?_
          walk_at "go"
          rename_i pt Ht hnt het hpt
          exact fin _ (by rw [if_pos hm]; exact Int.mul_one _) pt Ht het hpt
        · rw [decide_eq_false hm]
          refine Z.w_mulI (Z.CM.of_right (by decide)) ?_
          walk_at "go"
          rename_i pt Ht hnt het hpt
          exact fin _ (by rw [if_neg hm]; exact Int.mul_zero _) pt Ht het hpt
      · have hP8' := hP8.1
        have hp58 := he8.get hp53
        have hx8 := hx3.ex he8
        have hq8 := hq3.ex he8
        have hl8 := he8.get hl3
        have hqb := hq8.rb (by omega)
        rw [Int.toNat_natCast] at hP8'
        have hlen8 : (shW ws b lot).length = (dueL ws tot lot m).length := by unfold shW; rw [shWi_len, dueL_len]; exact hwl
        have hdue : ∀ i, i < (dueL ws tot lot m).length → (shW ws b lot).getD i 0 = Rat.divInt ((dueL ws tot lot m).getD i (0, 0)).1 ((dueL ws tot lot m).getD i (0, 0)).2 ∧ 0 < ((dueL ws tot lot m).getD i (0, 0)).2 ∧ ((dueL ws tot lot m).getD i (0, 0)).1.natAbs < 2 ^ 50000 ∧ ((dueL ws tot lot m).getD i (0, 0)).2.natAbs < 2 ^ 50000 := fun i hi => by
          rw [dueL_len] at hi
          rw [dueL_get _ _ _ _ _ hi]
          have hiw : i < ws.length := by omega
          have h1 := hwb _ (List.getElem_mem hiw)
          rw [← getD_get ws i 0 hiw] at h1
          unfold shW
          rw [shWi_get _ _ _ hiw, htt]
          refine ⟨?_, by show 0 < tot; omega, ?_, bt_mono htot.2 (by decide)⟩
          · by_cases c : (i : Int) ∈ lot
            · rw [if_pos c, if_pos c]
            · rw [if_neg c, if_neg c]; exact (Rat.zero_divInt _).symm
          · refine bt_mono (n := 60) ?_ (by decide)
            show (if (i : Int) ∈ lot then ws.getD i 0 else 0).natAbs < _
            split
            · exact nab (by omega) h1.2
            · decide
        clear hp53 hx3 hq3 hl3 hn8
        walk_at "go"
        refine ⟨q, l, ws, b, lkSt ws, List.replicate ws.length b, lot, rfl, hq8, hg, hbd, by omega, st_of hl8, fun z => absurd hlw z, fun _ p9 H9 xs9 hn9 he9 hp9 hR9 => ?_⟩
        rw [like_sh hw1 hab.1 hlw] at hR9
        have hx9 := hx8.ex he9
        have hl9 := he9.get hl8
        have hp89 := he9.get hp8
        have hP9 := hP8'.ex he9
        clear hq8 hqb hx8 hl8 hp8 hP8' hP8 hn9
        walk_at "run"
        refine ⟨p9, p8, xs9, acc, shW ws b lot, _, _, rfl, hp9, sq_of hp89, hR9, hP9, hlen8, by rw [dueL_len]; omega, hdue, fun H10 e10 => ?_⟩
        have hx10 := hx9.ex e10
        have hl10 := e10.get hl9
        have hp810 := e10.get hp89
        have hP10 := hP9.ex e10
        clear hx9 hl9 hp89 hP9 hp9 hR9
        walk_at "run"
        refine use_Weighted_shares (hx10.rep (B := 60) (fun w hw => (hwb w hw).2) hab.2 (by decide)) (st_of hl10) (fun z => absurd hlw z) (fun _ p11 H11 xs11 hn11 he11 hp11 hR11 => ?_)
        walk_at "run"
        refine ⟨p11, p8, xs11, acc, shW ws b lot, _, _, rfl, hp11, sq_of (he11.get hp810), hR11, hP10.ex he11, hlen8, by rw [dueL_len]; omega, hdue, fun H12 e12 => ?_⟩
        walk_at "run"
        exact ⟨_, _, _, rfl, ((((eG2.trans he3).trans he8).trans he9).trans e10).trans (he11.trans e12)⟩
    · rintro σ' G ⟨v11, v12, v13, rfl, eG⟩
      have hp52 := eG.get hp519
      have hp62 := eG.get hp619
      have hx2 := hx19.ex eG
      have hq2 := hq19.ex eG
      clear hp519 hp619 hx19 hq19 hp19 hLt19
      walk_at "go"
      have hok : PricesOk ws.length ps := ⟨by omega, fun z hz => (hx6 z hz).1⟩
      rename_i pb1 Hb1 hnb1 heb1 hpb1
      refine ⟨x, pb1, ws, b, ps, rfl, hx2.ex heb1, fun w hw => by have := hwb w hw; omega, by omega, sq_of hpb1, fun z hz => by have := hx6 z hz; omega, PErr.ok hok, fun _ p3 lt3 z3 H3 lot3 hn3 hnz3 he3 hp3 hlt3 hz3 hB3 => ?_⟩
      have e03 := heb1.trans he3
      have hp53 := e03.get hp52
      have hp63 := e03.get hp62
      have hx3 := hx2.ex e03
      have hq3 := hq2.ex e03
      have hqb := hq3.rb (by omega)
      clear hp52 hp62 hx2 hq2 hpb1
      walk_at "go"
      rename_i pb2 Hb2 hnb2 heb2 hpb2
      refine ⟨q, pb2, ws, b, lkSt ws, List.replicate ws.length b, ps, rfl, hq3.ex heb2, hg, hbd, by omega, sq_of hpb2, PErr.ok hok, fun _ => ⟨fun z hz => by have := hx6 z hz; omega, fun r4 H4 lt4 wt4 us lot4 hn4 he4 hr4 hlt4 hwt4 hSt => ?_⟩⟩
      have B3 := bst_ofW hB3 (by omega) hw1 hab.1
      have B4 := like_best hw1 hab.1 (by omega) hSt
      have hv4 := like_val hw1 hab.1 hSt.isl hSt.ok
      have huq := B3.root.uq B4.root
      have hwt4' : RN (He.ga K "Ratio") H4 wt4 (likeZ ws b us) 8800 := hwt4
      have e04 := heb2.trans he4
      have hp54 := e04.get hp53
      have hp64 := e04.get hp63
      have hx4 := hx3.ex e04
      have hq4 := hq3.ex e04
      have hp34 := e04.get hp3
      have hlt34 := e04.get hlt3
      have hz34 := hz3.ex e04
      have hps : ∀ z ∈ ps, 0 ≤ z ∧ z < 2 ^ 60 := fun z hz => by have := hx6 z hz; omega
      rw [huq] at B3 hz34
      clear hp53 hp63 hx3 hq3 hqb hp3 hlt3 hz3 hpb2 hwt4 hnz3 hn3 hn4
      walk_at "run"
      refine ⟨p3, lt3, z3, p5, p6, ws, b, ps, lot3, _, _, rfl, hp34, hlt34, hz34, sq_of hp54, sq_of hp64, B3, by rw [← huq], by omega, by omega, hwb, hab.1, hab.2, hps, fun H5 e5 => ?_⟩
      have hp55 := e5.get hp54
      have hp65 := e5.get hp64
      have hq5 := hq4.ex e5
      have hp35 := e5.get hp34
      have hz35 := hz34.ex e5
      have hr45 := e5.get hr4
      have hlt45 := e5.get hlt4
      have hwt45 := hwt4'.ex e5
      clear hp54 hp64 hx4 hq4 hp34 hlt34 hz34 hr4 hlt4 hwt4'
      walk_at "run"
      refine ⟨r4, lt4, wt4, p5, p6, ws, b, ps, lot4, _, _, rfl, hr45, hlt45, hwt45, sq_of hp55, sq_of hp65, B4, hv4, by omega, by omega, hwb, hab.1, hab.2, hps, fun H6 e6 => ?_⟩
      have hp56 := e6.get hp55
      have hq6 := hq5.ex e6
      have hp36 := e6.get hp35
      have hz36 := hz35.ex e6
      have hr46 := e6.get hr45
      have hwt46 := hwt45.ex e6
      clear hp55 hp65 hq5 hp35 hz35 hr45 hlt45 hwt45
      walk_at "run"
      rename_i p9 H9 hn9 he9 hp9
      refine mkW (ws := List.replicate 9 1) (sq_of (hp9.l rfl)) (by rw [List.length_replicate]; decide) (fun w hw => by rw [List.eq_of_mem_replicate hw]; decide) (by decide) fun x10 H10 hn10 he10 hx10 => ?_
      walk_at "run"
      refine ⟨x10, _, 1, rfl, hx10, List.length_replicate, fun pr H11 e11 hpr => ?_⟩
      have e11' := (he9.trans he10).trans e11
      have hp511 := e11'.get hp56
      have hq11 := hq6.ex e11'
      clear hp56 hq6 hp36 hz36 hr46 hwt46 hp9 hx10 hn9 hn10
      walk_at "run"
      rename_i p12 H12 hn12 he12 hp12
      have hp512 := he12.get hp511
      have hq12 := hq11.ex he12
      clear hpr
      refine mkW (ws := List.replicate 8 1) (sq_of (hp12.l rfl)) (by rw [List.length_replicate]; decide) (fun w hw => by rw [List.eq_of_mem_replicate hw]; decide) (by decide) fun x13 H13 hn13 he13 hx13 => ?_
      walk_at "run"
      refine ⟨x13, _, 3, rfl, hx13, fun h => absurd h (by rw [List.length_replicate]; decide), fun _ q14 H14 hnq14 he14 hq14 => ?_⟩
      have e14 := he13.trans he14
      have hp514 := e14.get hp512
      have hq014 := hq12.ex e14
      have hp1214 := e14.get hp12
      clear hp512 hq12 hp12 hx13
      walk_at "run"
      refine ⟨q14, p12, _, 3, rfl, hq14, sq_of (hp1214.l rfl), by rw [List.length_replicate]; decide, fun H15 e15 => ?_⟩
      have hp515 := e15.get hp514
      have hq015 := hq014.ex e15
      clear hp514 hq014 hq14 hp1214
      walk_at "run"
      refine ⟨q, p5, ws, b, rfl, hq015, sq_of hp515, by omega, fun H16 e16 => ?_⟩
      exact k _

end R
theorem PySem.Challenge.cw_dearestshelf_k45_whole_like_weights_holds : PySem.Challenge.rw_dearestshelf_k45_whole_like_weights.Holds := by
  exact R.fin fun T => R.ok_law T
