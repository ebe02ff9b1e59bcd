import PyProof.Rows.All
import Wide.All
import OpenK.AllK
import Wide.FinOn
import PyProof.EqAt
import PyProof.EqKinds
import PyProof.TupleCall
import HandS.ForMost
import HandS.ForExc
import HandS.Wide
import HandS.WideBits
import HandS.Gcd
import HandS.Defaults
import HandS.IsInst
import HandS.More
import HandS.Flow
import HandS.Codes
import HandS.SlotsOwn
import HandS.WordsExc
import HandS.Head0
import HandS.Head1
import HandS.Head2
import HandS.HeadEnd
import HandS.HeadHook1
import HandS.HeadHook2
import HandS.Head3
import HandS.CallSlots
import HandS.ExcIs
import HandS.TryOnly
import HandS.Style
import HandS.TupAny
import HandS.SortInts
import HandS.ClsMeth
import HandS.Nested
import HandS.ExcInit
import KE.KSuper
import KE.KExcIs
import HandS.ExcField
import KE.KExcSuper
import HandS.MakeKwOnly
import KE.GoesEnum
import HandS.Zip
import HandS.Star
import HandS.Strs
import HandS.GenList
import PySem.Challenge.RW_dearestshelf_k27_best_of_all_lots
set_option Elab.async false
set_option linter.all false
set_option maxRecDepth 100000
set_option maxHeartbeats 40000000
namespace Z
open PySem L2
/-! ### what stands at an address; what stood stands -/
/-- o stands at a -/
def At (H : Hp) (a : Addr) (o : HO) : Prop := H a = some o
/-- a is free -/
def Fr (H : Hp) (a : Addr) : Prop := H a = none
theorem At.ne {H : Hp} {a b : Addr} {o : HO} (h : At H a o) (f : Fr H b) : a ≠ b := ne_of_none h f
theorem At.inj {H : Hp} {a : Addr} {o o' : HO} (h : At H a o) (h' : At H a o') : o = o' := Option.some.inj ((show H a = some o from h).symm.trans h')
theorem At.l {H : Hp} {a : Addr} {xs ys : List V} (h : At H a (.lst xs)) (e : xs = ys) : At H a (.lst ys) := e ▸ h
theorem At.t {H : Hp} {a : Addr} {xs ys : List V} (h : At H a (.tup xs)) (e : xs = ys) : At H a (.tup ys) := e ▸ h
theorem at_upd {H : Hp} {a : Addr} {o : HO} : At (upd H a o) a o := upd_same
/-- one step: what stood stands -/
class Ex (H H' : Hp) : Prop where
  get : ∀ {a : Addr} {o : HO}, At H a o → At H' a o
theorem Ex.refl (H : Hp) : Ex H H := ⟨fun h => h⟩
theorem Ex.trans {H H1 H2 : Hp} (a : Ex H H1) (b : Ex H1 H2) : Ex H H2 := ⟨fun h => b.get (a.get h)⟩
theorem Ex.new {H : Hp} {p : Addr} {o : HO} (h : Fr H p) : Ex H (upd H p o) := ⟨fun e => by
  show upd H p o _ = _
  rw [upd_ne (ne_of_none e h)]; exact e⟩
/-- an object that H does not know may change -/
theorem Ex.mut {H H' : Hp} {p : Addr} {o : HO} (e : Ex H H') (h : Fr H p) : Ex H (upd H' p o) := ⟨fun ha => by
  show upd H' p o _ = _
  rw [upd_ne (ne_of_none ha h)]; exact e.get ha⟩
theorem Ex.rd {H H' : Hp} {a : Addr} {u : HO} (e : Ex H H') (h : Rd H a u) : Rd H' a u := by
  rcases h with h | ⟨o, h⟩
  · exact Or.inl (e.get h)
  · exact Or.inr ⟨o, e.get h⟩
theorem Ex.l {K : PySem.W.Frag} {H H' : Hp} {a : Addr} {xs : List V} (e : Ex H H') (h : SqL K H a xs) : SqL K H' a xs := by
  rcases h with h | h
  · exact Or.inl (e.rd h)
  · exact Or.inr h
theorem Ex.t {K : PySem.W.Frag} {H H' : Hp} {a : Addr} {xs : List V} (e : Ex H H') (h : SqT K H a xs) : SqT K H' a xs := by
  rcases h with h | h
  · exact Or.inl (e.rd h)
  · exact Or.inr h
theorem Ex.back {H H' : Hp} {p : Addr} (e : Ex H H') (h : Fr H' p) : Fr H p := by
  cases h1 : H p with
  | none => exact h1
  | some o =>
    have z := e.get h1
    unfold At at z
    unfold Fr at h
    rw [z] at h
    cases h
/-- any number of steps -/
class Exs (H H' : Hp) : Prop where
  ex : Ex H H'
set_option synthInstance.checkSynthOrder false in
instance Exs.step {H H1 H2 : Hp} [b : Ex H1 H2] [a : Exs H H1] : Exs H H2 := ⟨a.ex.trans b⟩
instance Exs.here {H : Hp} : Exs H H := ⟨Ex.refl H⟩
theorem exE {H H' : Hp} (e : Exs H H') : Ex H H' := e.ex
theorem getE {H H' : Hp} {a : Addr} {o : HO} (h : At H a o) (e : Exs H H') : At H' a o := e.ex.get h
theorem frE {H H' : Hp} {a : Addr} (h : Fr H' a) (e : Exs H H') : Fr H a := e.ex.back h
theorem kmut {H H' H0 : Hp} {a : Addr} (hk : ∀ H0, Ex H0 H → Fr H0 a → Ex H0 H') (n : Fr H0 a) (e : Exs H0 H) : Ex H0 H' := hk H0 e.ex n
theorem sq_of {K : PySem.W.Frag} {H : Hp} {a : Addr} {xs : List V} (h : At H a (.lst xs)) : SqL K H a xs := Or.inl (Or.inl h)
theorem st_of {K : PySem.W.Frag} {H : Hp} {a : Addr} {xs : List V} (h : At H a (.tup xs)) : SqT K H a xs := Or.inl (Or.inl h)
section
variable {K : PySem.W.Frag} {H H' : Hp} {a : Addr} {xs : List V}
theorem lE (h : SqL K H a xs) (e : Exs H H') : SqL K H' a xs := e.ex.l h
theorem lA (h : At H a (.lst xs)) (e : Exs H H') : SqL K H' a xs := e.ex.l (sq_of h)
theorem tE (h : SqT K H a xs) (e : Exs H H') : SqT K H' a xs := e.ex.t h
theorem tA (h : At H a (.tup xs)) (e : Exs H H') : SqT K H' a xs := e.ex.t (st_of h)
end
/-- one step: all but lists stands -/
class Nl (H1 H2 : Hp) : Prop where
  get : ∀ {a : Addr} {o : HO}, (∀ l, o ≠ HO.lst l) → At H1 a o → At H2 a o
theorem Ex.nl {H1 H2 : Hp} (e : Ex H1 H2) : Nl H1 H2 := ⟨fun _ h => e.get h⟩
theorem Nl.trans {H1 H2 H3 : Hp} (a : Nl H1 H2) (b : Nl H2 H3) : Nl H1 H3 := ⟨fun h e => b.get h (a.get h e)⟩
theorem Nl.refl (H : Hp) : Nl H H := ⟨fun _ h => h⟩
theorem Nl.upd {H : Hp} {p : Addr} {xs ys : List V} (h : At H p (.lst xs)) : Nl H (upd H p (.lst ys)) := ⟨fun {a} {o} ho e => by
  show L2.upd H p _ a = _
  rw [upd_ne (fun z => ho xs (by subst z; exact (h.inj e).symm))]; exact e⟩
theorem Nl.of_other {H H2 : Hp} {p : Addr} {xs : List V} (h : At H p (.lst xs)) (ho : ∀ b o, b ≠ p → At H b o → At H2 b o) : Nl H H2 := ⟨fun {a} {o} hk e => ho a o (fun z => hk xs (by subst z; exact (h.inj e).symm)) e⟩
class Nls (H H' : Hp) : Prop where
  nl : Nl H H'
set_option synthInstance.checkSynthOrder false in
instance Nls.stepE {H H1 H2 : Hp} [b : Ex H1 H2] [a : Nls H H1] : Nls H H2 := ⟨a.nl.trans b.nl⟩
set_option synthInstance.checkSynthOrder false in
instance Nls.step {H H1 H2 : Hp} [b : Nl H1 H2] [a : Nls H H1] : Nls H H2 := ⟨a.nl.trans b⟩
instance Nls.here {H : Hp} : Nls H H := ⟨Nl.refl H⟩
theorem getTN {H H' : Hp} {a : Addr} {xs : List V} (h : At H a (.tup xs)) (e : Nls H H') : At H' a (.tup xs) := e.nl.get (fun l z => by cases z) h
theorem tNA {K : PySem.W.Frag} {H H' : Hp} {a : Addr} {xs : List V} (h : At H a (.tup xs)) (e : Nls H H') : SqT K H' a xs := st_of (getTN h e)
theorem getIN {H H' : Hp} {a C d : Addr} {fs : List (Str × V)} (h : At H a (.ins C d fs)) (e : Nls H H') : At H' a (.ins C d fs) := e.nl.get (fun l z => by cases z) h
/-! ### the row's defs by their names -/
abbrev FnP (K : PySem.W.Frag) (x : Str) (st : Stmt) (f : Addr) (fd : FuncData) : Prop := FunD K x x (defArgs st) (defBody st) (defScope st) [] [] f fd
def noFd : FuncData := PySem.W.fnOf "" "" { posonlyargs := [], args := [], vararg := none, kwonlyargs := [], kw_defaults := [], kwarg := none, defaults := [] } [] { kind := .function, names := [], isGenerator := false, isCoroutine := false } .none .none .none .none none .none .none
def fdOf (K : PySem.W.Frag) (a : Addr) : FuncData := match K.lookup a with
  | some ⟨_, _, .func fd, _⟩ => fd
  | _ => noFd
theorem fd_of {K : PySem.W.Frag} {x qual : Str} {params : Arguments} {body : List Stmt} {scope : Scope} {dvs : List V} {kws : List (Str × V)} {f : Addr} (h : ∃ fd, FunD K x qual params body scope dvs kws f fd) : FunD K x qual params body scope dvs kws f (fdOf K f) := by
  obtain ⟨fd, F⟩ := h
  have e : fdOf K f = fd := by
    obtain ⟨_, _, _, _, _, _, _, _, _, _, _, lk, _⟩ := F.ex
    unfold fdOf
    rw [lk]
  rw [e]
  exact F
/-! ### one step of a reading -/
def nT (Q : VK) : List V → Hp → Prop := fun xs H1 => xs.length ≤ sizeLine ∧ ∀ p, Fr H1 p → Q (.ref p) (upd H1 p (.tup xs))
def nL (Q : VK) : List V → Hp → Prop := fun xs H1 => xs.length ≤ sizeLine ∧ ∀ p, Fr H1 p → Q (.ref p) (upd H1 p (.lst xs))
section
variable {K : PySem.W.Frag} {σ : L2.St} {H H' : Hp} {Q : VK} {v x y : V} {ta tb te tc : TE} {r : R2} {D : Ends} {t u : TS} {c c1 c2 : TT} {ts : TA}
theorem w_var {i : Nat} (h : σ[i]? = some (some v)) (q : Q v H) : tVar i σ H Q := ⟨v, h, q⟩
theorem w_c (q : Q v H) : tC v σ H Q := q
theorem w_op (h : ta σ H fun x H1 => tb σ H1 fun y H2 => r x y H2 Q) : tOp r ta tb σ H Q := h
theorem w_un {r : V → Hp → VK → Prop} (h : ta σ H fun x H1 => r x H1 Q) : tUn r ta σ H Q := h
theorem w_cb {r : List V → Hp → VK → Prop} (h : ts σ H fun vs H1 => r vs H1 Q) : tCB r ts σ H Q := h
theorem w_nil {Q : List V → Hp → Prop} (h : Q [] H) : tNil σ H Q := h
theorem w_cons {Q : List V → Hp → Prop} (h : ta σ H fun x H1 => ts σ H1 fun xs H2 => Q (x :: xs) H2) : tCons ta ts σ H Q := h
theorem w_tup (h : ts σ H (nT Q)) : tTup ts σ H Q := h
theorem w_lst (h : ts σ H (nL Q)) : tLst ts σ H Q := h
theorem w_call {sp : Sp} {dvs : List V} {E : XK} (h : ts σ H fun vs H1 => sp (vs ++ dvs) H1 Q E) : tCall sp dvs E ts σ H Q := h
theorem w_call0 {sp : Sp} {E : XK} (h : ts σ H fun vs H1 => sp vs H1 Q E) : tCall sp [] E ts σ H Q := by
  show ts σ H fun vs H1 => sp (vs ++ []) H1 Q E
  simp only [List.append_nil]
  exact h
theorem w_test {Q : Bool → Hp → Prop} (h : te σ H fun x H1 => ∃ k, x = .bl k ∧ Q k H1) : tTest te σ H Q := h
theorem w_B {Q : Bool → Hp → Prop} (h : te σ H fun x H1 => ∃ k, x = .bl k ∧ Q k H1) : tB te σ H Q := h
theorem w_bl {R : Bool → Prop} {k : Bool} (h : R k) : ∃ k', (V.bl k) = .bl k' ∧ R k' := ⟨k, rfl, h⟩
theorem w_and {Q : Bool → Hp → Prop} (h : c1 σ H fun b H1 => if b = true then c2 σ H1 Q else Q false H1) : tAnd c1 c2 σ H Q := h
theorem w_or {Q : Bool → Hp → Prop} (h : c1 σ H fun b H1 => if b = true then Q true H1 else c2 σ H1 Q) : tOr c1 c2 σ H Q := h
theorem w_not {Q : Bool → Hp → Prop} (h : c σ H fun b H1 => Q (!b) H1) : tNot c σ H Q := h
theorem w_andV (h : ta σ H fun x H1 => ∃ k, x = .bl k ∧ if k = true then tb σ H1 Q else Q (.bl false) H1) : tAndV ta tb σ H Q := h
theorem w_orV (h : ta σ H fun x H1 => ∃ k, x = .bl k ∧ if k = true then Q (.bl true) H1 else tb σ H1 Q) : tOrV ta tb σ H Q := h
theorem w_notV (h : ta σ H fun x H1 => ∃ k, x = .bl k ∧ Q (.bl (!k)) H1) : tNotV ta σ H Q := h
theorem w_ifE (h : c σ H fun b H1 => if b = true then ta σ H1 Q else tb σ H1 Q) : tIf c ta tb σ H Q := h
theorem w_isN (h : ta σ H fun x H1 => Q (.bl (decide (x = .non))) H1) : tIsN ta σ H Q := h
theorem w_notN (h : ta σ H fun x H1 => Q (.bl (!decide (x = .non))) H1) : tNotN ta σ H Q := h
theorem w_seq (h : t ⟨u D, D.rt, D.bk, D.ct⟩ σ H) : tSeq t u D σ H := h
theorem w_asg {g : TG} (h : te σ H fun x H1 => g x σ H1 D.nx) : tAsg te g D σ H := h
theorem w_gn {i : Nat} {R : L2.St → Hp → Prop} (h : R (σ.set i (some v)) H) : gName i v σ H R := h
theorem w_ret (h : te σ H D.rt) : tRet te D σ H := h
theorem w_retN (h : D.rt .non H) : tRetN D σ H := h
theorem w_drop (h : te σ H fun _ H1 => D.nx σ H1) : tDrop te D σ H := h
theorem w_next (h : D.nx σ H) : tNext D σ H := h
theorem w_brk (h : D.bk σ H) : tBreak D σ H := h
theorem w_cnt (h : D.ct σ H) : tCont D σ H := h
theorem w_if (h : c σ H fun b H1 => if b = true then t D σ H1 else u D σ H1) : tIfS c t u D σ H := h
theorem w_par {i j : Nat} (h : ts σ H fun vs H1 => ∃ v w, vs = [v, w] ∧ D.nx ((σ.set i (some v)).set j (some w)) H1) : tPar i j ts D σ H := h
theorem w_exP {R : V → V → Prop} (h : R v x) : ∃ v' x', [v, x] = [v', x'] ∧ R v' x' := ⟨v, x, rfl, h⟩
theorem w_cut (Mid : L2.St → Hp → Prop) (h : t ⟨Mid, D.rt, D.bk, D.ct⟩ σ H) (k : ∀ σ' H', Mid σ' H' → u D σ' H') : C8.tCut t u D σ H := ⟨Mid, h, k⟩
theorem w_nx {f : L2.St → Hp → Prop} {g : VK} {bk ct : L2.St → Hp → Prop} (h : f σ H) : Ends.nx ⟨f, g, bk, ct⟩ σ H := h
theorem w_bk {f : L2.St → Hp → Prop} {g : VK} {bk ct : L2.St → Hp → Prop} (h : bk σ H) : Ends.bk ⟨f, g, bk, ct⟩ σ H := h
theorem w_ct {f : L2.St → Hp → Prop} {g : VK} {bk ct : L2.St → Hp → Prop} (h : ct σ H) : Ends.ct ⟨f, g, bk, ct⟩ σ H := h
theorem w_rt {f : L2.St → Hp → Prop} {g : VK} {bk ct : L2.St → Hp → Prop} (h : g v H) : Ends.rt ⟨f, g, bk, ct⟩ v H := h
theorem w_aug {i : Nat} {ti : TIp} {z : V} (h : σ[i]? = some (some z)) (q : te σ H fun y H1 => ti z y H1 fun z H2 => D.nx (σ.set i (some z)) H2) : tAug i te ti D σ H := ⟨z, h, q⟩
theorem w_ipI {f : Int → Int → Int} {i j : Int} (q : Q (.int (f i j)) H) : ipI f (.int i) (.int j) H Q := ⟨i, j, rfl, rfl, q⟩
theorem w_I0 {g : Int → Int → V} {i j : Int} (q : Q (g i j) H) : rI0 g (.int i) (.int j) H Q := ⟨i, j, rfl, rfl, q⟩
theorem w_I {C : Int → Int → Prop} {g : Int → Int → V} {i j : Int} (hc : C i j) (q : Q (g i j) H) : rI C g (.int i) (.int j) H Q := ⟨i, j, rfl, rfl, hc, q⟩
theorem w_pow {i j z : Int} (hc : CPow i j) (hz : i ^ j.toNat = z) (q : Q (.int z) H) : rI CPow (fun i j => .int (i ^ j.toNat)) (.int i) (.int j) H Q := ⟨i, j, rfl, rfl, hc, by show Q (.int (i ^ j.toNat)) H; rw [hz]; exact q⟩
theorem w_U {g : Int → V} {i : Int} (q : Q (g i) H) : rU g (.int i) H Q := ⟨i, rfl, q⟩
theorem w_eqI {i j : Int} (q : Q (.bl (decide (i = j))) H) : rEq (.int i) (.int j) H Q := ⟨rfl, by
  have e : decide (V.int i = V.int j) = decide (i = j) := by simp
  rw [e]; exact q⟩
theorem w_neI {i j : Int} (q : Q (.bl (!decide (i = j))) H) : rNe (.int i) (.int j) H Q := ⟨rfl, by
  have e : decide (V.int i = V.int j) = decide (i = j) := by simp
  rw [e]; exact q⟩
theorem w_eqS {i j : Str} (q : Q (.bl (decide (i = j))) H) : rEq (.str i) (.str j) H Q := ⟨rfl, by
  have e : decide (V.str i = V.str j) = decide (i = j) := by simp
  rw [e]; exact q⟩
theorem w_neS {i j : Str} (q : Q (.bl (!decide (i = j))) H) : rNe (.str i) (.str j) H Q := ⟨rfl, by
  have e : decide (V.str i = V.str j) = decide (i = j) := by simp
  rw [e]; exact q⟩
theorem w_isB {a b : Bool} (q : Q (.bl (decide (a = b))) H) : rIsB (.bl a) (.bl b) H Q := ⟨a, b, rfl, rfl, q⟩
theorem w_isnB {a b : Bool} (q : Q (.bl (!decide (a = b))) H) : rNotB (.bl a) (.bl b) H Q := ⟨a, b, rfl, rfl, q⟩
/-! tests -/
theorem w_dec {p : Prop} [Decidable p] {A B : Prop} (h1 : p → A) (h2 : ¬ p → B) : if decide p = true then A else B := by
  by_cases h : p
  · rw [decide_eq_true h]; exact h1 h
  · rw [decide_eq_false h]; exact h2 h
theorem w_ndec {p : Prop} [Decidable p] {A B : Prop} (h1 : ¬ p → A) (h2 : p → B) : if (!decide p) = true then A else B := by
  by_cases h : p
  · rw [decide_eq_true h]; exact h2 h
  · rw [decide_eq_false h]; exact h1 h
theorem w_decT {p : Prop} [Decidable p] {A B : Prop} (hp : p) (h : A) : if decide p = true then A else B := w_dec (fun _ => h) (fun n => absurd hp n)
theorem w_decF {p : Prop} [Decidable p] {A B : Prop} (hp : ¬ p) (h : B) : if decide p = true then A else B := w_dec (fun n => absurd n hp) (fun _ => h)
theorem w_ndecT {p : Prop} [Decidable p] {A B : Prop} (hp : ¬ p) (h : A) : if (!decide p) = true then A else B := w_ndec (fun _ => h) (fun n => absurd n hp)
theorem w_ndecF {p : Prop} [Decidable p] {A B : Prop} (hp : p) (h : B) : if (!decide p) = true then A else B := w_ndec (fun n => absurd hp n) (fun _ => h)
theorem w_bool {b : Bool} {A B : Prop} (h1 : b = true → A) (h2 : b = false → B) : if b = true then A else B := by
  cases b
  · exact h2 rfl
  · exact h1 rfl
theorem w_nbool {b : Bool} {A B : Prop} (h1 : b = false → A) (h2 : b = true → B) : if (!b) = true then A else B := by
  cases b
  · exact h1 rfl
  · exact h2 rfl
theorem w_T {A B : Prop} (h : A) : if true = true then A else B := h
theorem w_F {A B : Prop} (h : B) : if false = true then A else B := h
theorem w_nT {A B : Prop} (h : B) : if (!true) = true then A else B := h
theorem w_nF {A B : Prop} (h : A) : if (!false) = true then A else B := h

/-! new objects: the heap behind is named, what is known of it is said -/
theorem w_newT {xs : List V} (hz : xs.length ≤ sizeLine) (q : ∀ p H2, Fr H p → Ex H H2 → At H2 p (.tup xs) → Q (.ref p) H2) : nT Q xs H :=
  ⟨hz, fun p hp => q p _ hp (Ex.new hp) upd_same⟩
theorem w_newL {xs : List V} (hz : xs.length ≤ sizeLine) (q : ∀ p H2, Fr H p → Ex H H2 → At H2 p (.lst xs) → Q (.ref p) H2) : nL Q xs H :=
  ⟨hz, fun p hp => q p _ hp (Ex.new hp) upd_same⟩
end
/-! ### operators of several kinds -/
/-- a product that the model reckons -/
def CM (i j : Int) : Prop := CMul i j ∨ CMulX i j
theorem CM.of_left {i j : Int} (h : i.natAbs < 2 ^ 64) : CM i j := .inl (.inl ⟨by omega, by omega⟩)
theorem CM.of_right {i j : Int} (h : j.natAbs < 2 ^ 64) : CM i j := .inl (.inr ⟨by omega, by omega⟩)
theorem CM.of_pow {i j : Int} {a b : Nat} (ha : i.natAbs < 2 ^ a) (hb : j.natAbs < 2 ^ b) (h : a + b ≤ 134217728) : CM i j := .inr (mulx_ok ha hb h)
/-- bits of ints -/
theorem bt_mul {a b : Int} {n m : Nat} (ha : a.natAbs < 2 ^ n) (hb : b.natAbs < 2 ^ m) : (a * b).natAbs < 2 ^ (n + m) := by
  rw [Int.natAbs_mul, Nat.pow_add]
  exact Nat.mul_lt_mul'' ha hb
theorem bt_mono {a : Int} {n m : Nat} (ha : a.natAbs < 2 ^ n) (h : n ≤ m) : a.natAbs < 2 ^ m := Nat.lt_of_lt_of_le ha (Nat.pow_le_pow_right (by decide) h)
theorem bt_add {a b : Int} {n m : Nat} (ha : a.natAbs < 2 ^ n) (hb : b.natAbs < 2 ^ m) : (a + b).natAbs < 2 ^ (n + m + 1) := by
  have h := Int.natAbs_add_le a b
  have h1 : a.natAbs < 2 ^ (n + m) := bt_mono ha (by omega)
  have h2 : b.natAbs < 2 ^ (n + m) := bt_mono hb (by omega)
  rw [Nat.pow_succ]
  omega
theorem bt_addL {a b : Int} {n m k : Nat} (ha : a.natAbs < 2 ^ n) (hb : b.natAbs < 2 ^ m) (h1 : n ≤ k) (h2 : m ≤ k) : (a + b).natAbs < 2 ^ (k + 1) := by
  have h := Int.natAbs_add_le a b
  have h1 : a.natAbs < 2 ^ k := bt_mono ha h1
  have h2 : b.natAbs < 2 ^ k := bt_mono hb h2
  rw [Nat.pow_succ]
  omega
theorem bt_neg {a : Int} {n : Nat} (ha : a.natAbs < 2 ^ n) : (-a).natAbs < 2 ^ n := by rw [Int.natAbs_neg]; exact ha
theorem bt_sub {a b : Int} {n m : Nat} (ha : a.natAbs < 2 ^ n) (hb : b.natAbs < 2 ^ m) : (a - b).natAbs < 2 ^ (n + m + 1) := by
  rw [Int.sub_eq_add_neg]; exact bt_add ha (bt_neg hb)
theorem bt_subL {a b : Int} {n m k : Nat} (ha : a.natAbs < 2 ^ n) (hb : b.natAbs < 2 ^ m) (h1 : n ≤ k) (h2 : m ≤ k) : (a - b).natAbs < 2 ^ (k + 1) := by
  rw [Int.sub_eq_add_neg]; exact bt_addL ha (bt_neg hb) h1 h2
theorem bt_abs {a : Int} {n : Nat} (ha : a.natAbs < 2 ^ n) : ((a.natAbs : Int)).natAbs < 2 ^ n := by rw [Int.natAbs_natCast]; exact ha
theorem bt_fdiv {a b : Int} {n : Nat} (ha : a.natAbs < 2 ^ n) : (a / b).natAbs < 2 ^ n := Nat.lt_of_le_of_lt (Int.natAbs_ediv_le_natAbs _ _) ha
theorem cm {a b : Int} {n m : Nat} (ha : a.natAbs < 2 ^ n) (hb : b.natAbs < 2 ^ m) (h : n + m ≤ 100000) : CM a b := CM.of_pow ha hb (by omega)
def rInt1 : List V → Hp → VK → Prop := fun xs H Q => (∃ i, xs = [.int i] ∧ Q (.int i) H) ∨ ∃ k, xs = [.bl k] ∧ Q (.int (if k then 1 else 0)) H
def rTupOf (K : PySem.W.Frag) : List V → Hp → VK → Prop := fun xs H Q => ∃ p ys, xs = [.ref p] ∧ ((SqL K H p ys ∧ ∀ l, Fr H l → Q (.ref l) (upd H l (.tup ys))) ∨ (SqT K H p ys ∧ Q (.ref p) H))
def rListOf (K : PySem.W.Frag) : List V → Hp → VK → Prop := fun xs H Q => ∃ p ys, xs = [.ref p] ∧ (SqL K H p ys ∨ SqT K H p ys) ∧ ∀ l, Fr H l → Q (.ref l) (upd H l (.lst ys))
def rIns : V → List V → Hp → VK → Prop := fun x vs H Q => ∃ (l : Addr) (xs : List V) (i : Int) (y : V), x = .ref l ∧ vs = [.int i, y] ∧ At H l (.lst xs) ∧ xs.length < sizeLine ∧ 0 ≤ i ∧ i < 2 ^ 63 ∧ Q .non (upd H l (.lst (xs.take i.toNat ++ [y] ++ xs.drop i.toNat)))
def rShl : R2 := fun x y H Q => ∃ k : Nat, x = .int 1 ∧ y = .int (k : Int) ∧ k ≤ 134217727 ∧ Q (.int (2 ^ k)) H
def rShr : R2 := fun x y H Q => ∃ (n k : Nat), x = .int (n : Int) ∧ y = .int (k : Int) ∧ Q (.int ((n / 2 ^ k : Nat) : Int)) H
def rOdd : R2 := fun x y H Q => ∃ n : Nat, x = .int (n : Int) ∧ y = .int 1 ∧ Q (.int ((n % 2 : Nat) : Int)) H
def rMax2 : List V → Hp → VK → Prop := fun xs H Q => ∃ i j, xs = [.int i, .int j] ∧ Q (.int (if j > i then j else i)) H
def rMin2 : List V → Hp → VK → Prop := fun xs H Q => ∃ i j, xs = [.int i, .int j] ∧ Q (.int (if j < i then j else i)) H
def rAddZ : R2 := fun x y H Q => (rI0 fun i j => .int (i + j)) x y H Q ∨ rCat x y H Q
def rMulZ : R2 := fun x y H Q => rI CMul (fun i j => .int (i * j)) x y H Q ∨ rI CMulX (fun i j => .int (i * j)) x y H Q
def rEqZ (K : PySem.W.Frag) : R2 := fun x y H Q => rEq x y H Q ∨ rEqD K x y H Q
def rNeZ (K : PySem.W.Frag) : R2 := fun x y H Q => rNe x y H Q ∨ rNeD K x y H Q
section
variable {X : Cx}
theorem op_add : OpR X (binaryOp .Add) rAddZ := L2.op_add.or op_cat
theorem op_sub : OpR X (binaryOp .Sub) (rI0 fun i j => .int (i - j)) := L2.op_sub
theorem op_mul : OpR X (binaryOp .Mult) rMulZ := L2.op_mul.or op_mulX
theorem op_fdiv : OpR X (binaryOp .FloorDiv) (rI CDivW fun i j => .int (i / j)) := op_fdivW
theorem op_mod : OpR X (binaryOp .Mod) (rI (fun _ j => 0 < j) fun i j => .int (i % j)) := L2.op_mod
theorem un_neg : UnR X (unaryOp .USub) (rU fun i => .int (-i)) := L2.un_neg
theorem op_lt : OpR X (compareOp .Lt) (rI0 fun i j => .bl (decide (i < j))) := L2.op_lt
theorem op_le : OpR X (compareOp .LtE) (rI0 fun i j => .bl (decide (i ≤ j))) := L2.op_le
theorem op_gt : OpR X (compareOp .Gt) (rI0 fun i j => .bl (decide (j < i))) := L2.op_gt
theorem op_ge : OpR X (compareOp .GtE) (rI0 fun i j => .bl (decide (j ≤ i))) := L2.op_ge
theorem call_max2 (hc : X.calm = true) : CallR X (.builtin "max") rMax2 := L2.call_max2 hc
theorem call_min2 (hc : X.calm = true) : CallR X (.builtin "min") rMin2 := L2.call_min2 hc
theorem op_shl : OpR X (binaryOp .LShift) rShl := op_oneShl
theorem op_shr : OpR X (binaryOp .RShift) rShr := by
  intro pins s σ H x y u v Q I rx ry h
  obtain ⟨n, k, rfl, rfl, q⟩ := h
  refine op_shrN pins s σ H _ _ u v Q I rx ry ⟨(n : Int), k, rfl, rfl, ?_⟩
  have e : (n : Int) / 2 ^ k = ((n / 2 ^ k : Nat) : Int) := by rw [Int.natCast_ediv, Int.natCast_pow]; rfl
  rw [e]
  exact q
theorem op_and1 : OpR X (binaryOp .BitAnd) rOdd := op_odd
variable {K : PySem.W.Frag}
theorem op_eq (hK : X.K = K) (hu : X.A.units + 64 < cLine) : OpR X (compareOp .Eq) (rEqZ K) := hK ▸ L2.op_eq.or (op_eqD hu)
theorem op_ne (hK : X.K = K) (hu : X.A.units + 64 < cLine) : OpR X (compareOp .NotEq) (rNeZ K) := hK ▸ L2.op_ne.or (op_neD hu)
theorem op_in (hK : X.K = K) : OpR X (compareOp .In) (rIn K false) := hK ▸ op_in_seq
theorem op_notin (hK : X.K = K) : OpR X (compareOp .NotIn) (rIn K true) := hK ▸ op_notIn_seq
theorem ix (hK : X.K = K) : IxR X (rIx K) := hK ▸ ix_seq
theorem slL (hK : X.K = K) : SlR X (rSlL K) := hK ▸ sl_list
theorem slT (hK : X.K = K) : SlR X (rSlT K) := hK ▸ sl_tup
theorem call_len (hK : X.K = K) : CallR X (.builtin "len") (rLen K) := hK ▸ L2.call_len
theorem mt_ins : MtR X "list.insert" rIns := mt_insert
theorem call_int : CallR X (.type "int") rInt1 := call_int1
theorem call_tuple (hK : X.K = K) : CallR X (.type "tuple") (rTupOf K) := hK ▸ call_tuple_of
theorem call_list (hK : X.K = K) : CallR X (.type "list") (rListOf K) := hK ▸ call_list_of
theorem call_isi (hK : X.K = K) : CallR X (.builtin "isinstance") (rIsi K) := hK ▸ L2.call_isi
theorem call_sum (hK : X.K = K) (hc : X.calm = true) : CallR X (.builtin "sum") (rSum K) := hK ▸ cr_sum hc
theorem call_min (hK : X.K = K) (hc : X.calm = true) : CallR X (.builtin "min") (rMin K) := hK ▸ cr_min hc
theorem call_max (hK : X.K = K) (hc : X.calm = true) : CallR X (.builtin "max") (rMax K) := hK ▸ cr_max hc
theorem call_any (hK : X.K = K) (hc : X.calm = true) : CallR X (.builtin "any") (rAny K) := hK ▸ cr_any hc
theorem call_all (hK : X.K = K) (hc : X.calm = true) : CallR X (.builtin "all") (rAll K) := hK ▸ cr_all hc
theorem call_sorted (hK : X.K = K) : CallR X (.builtin "sorted") (rSorted K) := hK ▸ cr_sorted
theorem piL (hK : X.K = K) {tg l : Expr} {tl : TE} (hl : PE X l tl) : PI X tg l (iList K tl) := hK ▸ pi_list hl
theorem piT (hK : X.K = K) {tg l : Expr} {tl : TE} (hl : PE X l tl) : PI X tg l (iTup K tl) := hK ▸ pi_tup hl
theorem fld (hK : X.K = K) {e : Expr} {ta : TE} {f : Str} {pos : Pos} (he : PE X e ta) (hb : attributeBase e f X.env (eval e X.env) = eval e X.env) : PE X (.Attribute e f pos) (tFld K ta f) := hK ▸ pe_fld he hb
theorem con (hK : X.K = K) {e : Expr} {ta : TE} {f : Str} {pos : Pos} (he : PE X e ta) (hb : attributeBase e f X.env (eval e X.env) = eval e X.env) : PE X (.Attribute e f pos) (tCon K ta f) := hK ▸ pe_con he hb
end
section
variable {K : PySem.W.Frag} {σ : L2.St} {H H' : Hp} {Q : VK} {v x y : V} {a b p : Addr} {xs ys : List V} {i j : Int}
theorem w_addI (q : Q (.int (i + j)) H) : rAddZ (.int i) (.int j) H Q := .inl ⟨i, j, rfl, rfl, q⟩
theorem w_addL (h1 : At H a (.lst xs)) (h2 : At H b (.lst ys)) (hz : xs.length + ys.length ≤ sizeLine) (q : ∀ p H2, Fr H p → Ex H H2 → At H2 p (.lst (xs ++ ys)) → Q (.ref p) H2) : rAddZ (.ref a) (.ref b) H Q :=
  .inr ⟨a, b, xs, ys, rfl, rfl, h1, h2, hz, fun p hp => q p _ hp (Ex.new hp) upd_same⟩
theorem w_mulI (hc : CM i j) (q : Q (.int (i * j)) H) : rMulZ (.int i) (.int j) H Q := hc.elim (fun h => .inl ⟨i, j, rfl, rfl, h, q⟩) fun h => .inr ⟨i, j, rfl, rfl, h, q⟩
theorem w_eqZI (q : Q (.bl (decide (i = j))) H) : rEqZ K (.int i) (.int j) H Q := .inl (w_eqI q)
theorem w_neZI (q : Q (.bl (!decide (i = j))) H) : rNeZ K (.int i) (.int j) H Q := .inl (w_neI q)
theorem w_eqZS {i j : Str} (q : Q (.bl (decide (i = j))) H) : rEqZ K (.str i) (.str j) H Q := .inl (w_eqS q)
theorem w_neZS {i j : Str} (q : Q (.bl (!decide (i = j))) H) : rNeZ K (.str i) (.str j) H Q := .inl (w_neS q)
theorem w_int1 (q : Q (.int i) H) : rInt1 [.int i] H Q := .inl ⟨i, rfl, q⟩
theorem w_tupL (h : SqL K H a xs) (q : ∀ p H2, Fr H p → Ex H H2 → At H2 p (.tup xs) → Q (.ref p) H2) : rTupOf K [.ref a] H Q := ⟨a, xs, rfl, .inl ⟨h, fun p hp => q p _ hp (Ex.new hp) upd_same⟩⟩
theorem w_tupT (h : SqT K H a xs) (q : Q (.ref a) H) : rTupOf K [.ref a] H Q := ⟨a, xs, rfl, .inr ⟨h, q⟩⟩
theorem w_listL (h : SqL K H a xs) (q : ∀ p H2, Fr H p → Ex H H2 → At H2 p (.lst xs) → Q (.ref p) H2) : rListOf K [.ref a] H Q := ⟨a, xs, rfl, .inl h, fun p hp => q p _ hp (Ex.new hp) upd_same⟩
theorem w_listT (h : SqT K H a xs) (q : ∀ p H2, Fr H p → Ex H H2 → At H2 p (.lst xs) → Q (.ref p) H2) : rListOf K [.ref a] H Q := ⟨a, xs, rfl, .inr h, fun p hp => q p _ hp (Ex.new hp) upd_same⟩
theorem w_lenL (h : SqL K H a xs) (q : Q (.int xs.length) H) : rLen K [.ref a] H Q := ⟨_, _, rfl, .inl ⟨xs, h, rfl⟩, q⟩
theorem w_lenT (h : SqT K H a xs) (q : Q (.int xs.length) H) : rLen K [.ref a] H Q := ⟨_, _, rfl, .inr ⟨xs, h, rfl⟩, q⟩
theorem w_lenLI {ns : List Int} (h : SqL K H a (ns.map V.int)) (q : Q (.int ns.length) H) : rLen K [.ref a] H Q := w_lenL h (by rw [List.length_map]; exact q)
theorem w_lenTI {ns : List Int} (h : SqT K H a (ns.map V.int)) (q : Q (.int ns.length) H) : rLen K [.ref a] H Q := w_lenT h (by rw [List.length_map]; exact q)
theorem atI_int {ns : List Int} (h0 : 0 ≤ i) (h1 : i < ns.length) : atI (ns.map V.int) i = some (.int (ns.getD i.toNat 0)) := by
  unfold atI ixN
  rw [if_pos h0, List.length_map, if_pos h1]
  show (ns.map V.int)[i.toNat]? = _
  have h : i.toNat < ns.length := by omega
  rw [List.getElem?_map, List.getD_eq_getElem?_getD, List.getElem?_eq_getElem h]
  rfl
theorem w_ixLI {ns : List Int} {k : Nat} (h : SqL K H a (ns.map V.int)) (hk : i.toNat = k) (h0 : 0 ≤ i) (h1 : i < ns.length) (q : Q (.int (ns.getD k 0)) H) : rIx K (.ref a) (.int i) H Q := .inl ⟨a, _, i, _, rfl, rfl, h, atI_int h0 h1, hk ▸ q⟩
theorem w_ixTI {ns : List Int} {k : Nat} (h : SqT K H a (ns.map V.int)) (hk : i.toNat = k) (h0 : 0 ≤ i) (h1 : i < ns.length) (q : Q (.int (ns.getD k 0)) H) : rIx K (.ref a) (.int i) H Q := .inr (.inl ⟨a, _, i, _, rfl, rfl, h, atI_int h0 h1, hk ▸ q⟩)
theorem w_ixL (h : SqL K H a xs) (ha : atI xs i = some v) (q : Q v H) : rIx K (.ref a) (.int i) H Q := .inl ⟨a, _, i, _, rfl, rfl, h, ha, q⟩
theorem w_ixT (h : SqT K H a xs) (ha : atI xs i = some v) (q : Q v H) : rIx K (.ref a) (.int i) H Q := .inr (.inl ⟨a, _, i, _, rfl, rfl, h, ha, q⟩)
theorem w_bm {T : String} {r : V → List V → Hp → VK → Prop} {to : TE} {t : TA} (h : to σ H fun x H1 => tyV K T x H1 ∧ t σ H1 fun xs H2 => r x xs H2 Q) : tBM K T r to t σ H Q := h
theorem w_bm0 {T : String} {r : V → List V → Hp → VK → Prop} {to : TE} (h : to σ H fun x H1 => tyV K T x H1 ∧ r x [] H1 Q) : tBM0 K T r to σ H Q := h
/-- the object of a list's method stands -/
theorem w_tyL {A : Prop} (h : At H a (.lst xs)) (k : A) : tyV K "list" (.ref a) H ∧ A := ⟨.inl ⟨rfl, _, sq_of h⟩, k⟩
theorem w_app (h : At H a (.lst xs)) (hz : xs.length < sizeLine) (q : ∀ H2, At H2 a (.lst (xs ++ [v])) → Nl H H2 → (∀ H0, Ex H0 H → Fr H0 a → Ex H0 H2) → (∀ b o, b ≠ a → At H b o → At H2 b o) → Q .non H2) : rAppend (.ref a) [v] H Q :=
  ⟨a, xs, v, rfl, rfl, h, hz, q _ upd_same (Nl.upd h) (fun H0 e n => Ex.mut e n) (fun b o hb e => by unfold At; rw [upd_ne hb]; exact e)⟩
theorem w_sl {r : V → Option Int → Option Int → Hp → VK → Prop} {te : TE} {tl th : TO} (h : te σ H fun x H1 => tl σ H1 fun l H2 => th σ H2 fun u H3 => r x l u H3 Q) : tSl r te tl th σ H Q := h
theorem w_noPart {Q : Option Int → Hp → Prop} (h : Q none H) : tNoPart σ H Q := h
theorem w_part {t : TE} {Q : Option Int → Hp → Prop} (h : t σ H fun x H1 => ∃ i, x = .int i ∧ Q (some i) H1) : tPart t σ H Q := h
theorem w_exI {R : Int → Prop} (h : R i) : ∃ i', V.int i = .int i' ∧ R i' := ⟨i, rfl, h⟩
theorem w_slL {lo hi : Option Int} (h : SqL K H a xs) (q : ∀ p H2, Fr H p → Ex H H2 → At H2 p (.lst (cutV xs lo hi)) → Q (.ref p) H2) : rSlL K (.ref a) lo hi H Q := ⟨a, xs, rfl, h, fun p hp => q p _ hp (Ex.new hp) upd_same⟩
theorem cut_from {xs : List V} (h : 0 ≤ i) : cutV xs (some i) none = xs.drop i.toNat := by
  obtain ⟨k, rfl⟩ := Int.eq_ofNat_of_zero_le h
  unfold cutV
  rw [HT.sIx_nat, HT.sIx_none, Int.toNat_natCast]
  by_cases hk : k ≤ xs.length
  · rw [Nat.min_eq_left hk, List.take_of_length_le]
    rw [List.length_drop]
    exact Nat.le_refl _
  · rw [Nat.min_eq_right (by omega), Nat.sub_self, List.take_zero, List.drop_eq_nil_of_le (by omega)]
theorem cut_to {xs : List V} (h : 0 ≤ i) : cutV xs none (some i) = xs.take i.toNat := by
  obtain ⟨k, rfl⟩ := Int.eq_ofNat_of_zero_le h
  unfold cutV
  rw [HT.sIx_nat, HT.sIx_none, Int.toNat_natCast, List.drop_zero, Nat.sub_zero]
  by_cases hk : k ≤ xs.length
  · rw [Nat.min_eq_left hk]
  · rw [Nat.min_eq_right (by omega), List.take_of_length_le (Nat.le_refl _), List.take_of_length_le (by omega)]
theorem cut_ft {xs : List V} (h : 0 ≤ i) (h2 : 0 ≤ j) : cutV xs (some i) (some j) = (xs.drop i.toNat).take (j.toNat - i.toNat) := by
  obtain ⟨k, rfl⟩ := Int.eq_ofNat_of_zero_le h
  obtain ⟨l, rfl⟩ := Int.eq_ofNat_of_zero_le h2
  unfold cutV
  rw [HT.sIx_nat, HT.sIx_nat, Int.toNat_natCast, Int.toNat_natCast]
  by_cases hk : k ≤ xs.length
  · rw [Nat.min_eq_left hk]
    by_cases hl : l ≤ xs.length
    · rw [Nat.min_eq_left hl]
    · rw [Nat.min_eq_right (by omega), List.take_of_length_le (by rw [List.length_drop]; exact Nat.le_refl _), List.take_of_length_le (by rw [List.length_drop]; omega)]
  · rw [Nat.min_eq_right (by omega : xs.length ≤ k), List.drop_eq_nil_of_le (Nat.le_refl _), List.drop_eq_nil_of_le (by omega), List.take_nil, List.take_nil]
theorem w_slLIf {ns : List Int} (h : SqL K H a (ns.map V.int)) (h0 : 0 ≤ i) (q : ∀ p H2, Fr H p → Ex H H2 → At H2 p (.lst ((ns.drop i.toNat).map V.int)) → Q (.ref p) H2) : rSlL K (.ref a) (some i) none H Q := w_slL h fun p H2 a b c => q p H2 a b (by unfold At at *; rw [c, cut_from h0, List.map_drop])
theorem w_slLIt {ns : List Int} (h : SqL K H a (ns.map V.int)) (h0 : 0 ≤ i) (q : ∀ p H2, Fr H p → Ex H H2 → At H2 p (.lst ((ns.take i.toNat).map V.int)) → Q (.ref p) H2) : rSlL K (.ref a) none (some i) H Q := w_slL h fun p H2 a b c => q p H2 a b (by unfold At at *; rw [c, cut_to h0, List.map_take])
theorem w_slLIft {ns : List Int} (h : SqL K H a (ns.map V.int)) (h0 : 0 ≤ i) (h1 : 0 ≤ j) (q : ∀ p H2, Fr H p → Ex H H2 → At H2 p (.lst (((ns.drop i.toNat).take (j.toNat - i.toNat)).map V.int)) → Q (.ref p) H2) : rSlL K (.ref a) (some i) (some j) H Q := w_slL h fun p H2 a b c => q p H2 a b (by unfold At at *; rw [c, cut_ft h0 h1, List.map_take, List.map_drop])
theorem w_ins {k : Nat} (h : At H a (.lst xs)) (hz : xs.length < sizeLine) (hk : i.toNat = k) (h0 : 0 ≤ i) (h1 : i < 2 ^ 63) (q : ∀ H2, At H2 a (.lst (xs.take k ++ [v] ++ xs.drop k)) → Nl H H2 → (∀ H0, Ex H0 H → Fr H0 a → Ex H0 H2) → (∀ b o, b ≠ a → At H b o → At H2 b o) → Q .non H2) : rIns (.ref a) [.int i, v] H Q :=
  ⟨a, xs, i, v, rfl, rfl, h, hz, h0, h1, q _ (by unfold At; rw [upd_same, hk]) (Nl.upd h) (fun H0 e n => Ex.mut e n) (fun b o hb e => by unfold At; rw [upd_ne hb]; exact e)⟩
theorem w_gT {n : Nat} {t : TGs} {R : L2.St → Hp → Prop} (h : SqT K H a xs) (hn : xs.length = n) (q : t xs σ H R) : gTup K n t (.ref a) σ H R := ⟨a, xs, rfl, h, hn, q⟩
theorem w_gC {g : TG} {u : TGs} {R : L2.St → Hp → Prop} (q : g v σ H fun σ' H' => u xs σ' H' R) : gCons g u (v :: xs) σ H R := ⟨v, xs, rfl, q⟩
theorem w_gN {R : L2.St → Hp → Prop} (q : R σ H) : gNil [] σ H R := ⟨rfl, q⟩
theorem w_yes {Q : Bool → Hp → Prop} (h : Q true H) : tYes σ H Q := h
theorem w_wp {A : Prop} {vs : List Nat} {σ1 σ2 : L2.St} (h : wipe σ1 vs = wipe σ2 vs) (k : A) : wipe σ1 vs = wipe σ2 vs ∧ A := ⟨h, k⟩
theorem w_setL {k : Nat} {R : Hp → Prop} (h : At H a (.lst xs)) (h0 : ixN xs.length i = some k) (q : ∀ H2, At H2 a (.lst (xs.set k v)) → Nl H H2 → (∀ H0, Ex H0 H → Fr H0 a → Ex H0 H2) → (∀ b o, b ≠ a → At H b o → At H2 b o) → R H2) : rSetL (.ref a) (.int i) v H R :=
  ⟨a, xs, i, k, rfl, rfl, h, h0, q _ upd_same (Nl.upd h) (fun H0 e n => Ex.mut e n) (fun b o hb e => by unfold At; rw [upd_ne hb]; exact e)⟩
/-! == of lists and tuples of ints that are the same -/
theorem dpAll_ints : ∀ ns : List Int, DpAll K H (ns.map V.int) (ns.map PyData.int)
  | [] => .nil
  | n :: r => .cons (.int n) (dpAll_ints r)
theorem eqvAll_ints : ∀ ns ms : List Int, PyData.eqvAll (ns.map PyData.int) (ms.map PyData.int) = decide (ns = ms)
  | [], [] => by simp [PyData.eqvAll]
  | [], _ :: _ => by simp [PyData.eqvAll]
  | _ :: _, [] => by simp [PyData.eqvAll]
  | a :: r, b :: t => by
    simp only [List.map_cons, PyData.eqvAll, PyData.eqv, eqvAll_ints r t]
    by_cases h : a = b <;> by_cases h' : r = t <;> simp [h, h']
theorem shaped_tup (ns : List Int) : SeqAt.shaped (.tuple (ns.map PyData.int)) = true := by
  simp [SeqAt.shaped, PyData.canLay0, PyData.depth, PySem.W.ke_canLayAll0, PySem.W.ke_depthAll]
theorem w_eqLI {ns ms : List Int} (h1 : SqL K H a (ns.map V.int)) (h2 : SqL K H b (ms.map V.int)) (q : Q (.bl (decide (ns = ms))) H) : rEqZ K (.ref a) (.ref b) H Q :=
  .inr ⟨_, _, .lst h1 (dpAll_ints ns), .lst h2 (dpAll_ints ms), PySem.W.ke_shaped_ints ns, PySem.W.ke_shaped_ints ms, by simp only [PyData.eqv, eqvAll_ints]; exact q⟩
theorem w_neLI {ns ms : List Int} (h1 : SqL K H a (ns.map V.int)) (h2 : SqL K H b (ms.map V.int)) (q : Q (.bl (!decide (ns = ms))) H) : rNeZ K (.ref a) (.ref b) H Q :=
  .inr ⟨_, _, .lst h1 (dpAll_ints ns), .lst h2 (dpAll_ints ms), PySem.W.ke_shaped_ints ns, PySem.W.ke_shaped_ints ms, by simp only [PyData.eqv, eqvAll_ints]; exact q⟩
theorem w_eqTI {ns ms : List Int} (h1 : SqT K H a (ns.map V.int)) (h2 : SqT K H b (ms.map V.int)) (q : Q (.bl (decide (ns = ms))) H) : rEqZ K (.ref a) (.ref b) H Q :=
  .inr ⟨_, _, .tup h1 (dpAll_ints ns), .tup h2 (dpAll_ints ms), shaped_tup ns, shaped_tup ms, by simp only [PyData.eqv, eqvAll_ints]; exact q⟩
theorem w_neTI {ns ms : List Int} (h1 : SqT K H a (ns.map V.int)) (h2 : SqT K H b (ms.map V.int)) (q : Q (.bl (!decide (ns = ms))) H) : rNeZ K (.ref a) (.ref b) H Q :=
  .inr ⟨_, _, .tup h1 (dpAll_ints ns), .tup h2 (dpAll_ints ms), shaped_tup ns, shaped_tup ms, by simp only [PyData.eqv, eqvAll_ints]; exact q⟩
theorem w_shl {k : Nat} (hk : k ≤ 134217727) (q : Q (.int (2 ^ k)) H) : rShl (.int 1) (.int (k : Int)) H Q := ⟨k, rfl, rfl, hk, q⟩
theorem w_shr {n k : Nat} (q : Q (.int ((n / 2 ^ k : Nat) : Int)) H) : rShr (.int (n : Int)) (.int (k : Int)) H Q := ⟨n, k, rfl, rfl, q⟩
theorem w_odd {n : Nat} (q : Q (.int ((n % 2 : Nat) : Int)) H) : rOdd (.int (n : Int)) (.int 1) H Q := ⟨n, rfl, rfl, q⟩
theorem w_sum {ns : List Int} (h : SqL K H a (ns.map V.int)) (q : Q (.int ns.sum) H) : rSum K [.ref a] H Q := ⟨a, ns, rfl, h, q⟩
theorem w_max2 (q : Q (.int (max i j)) H) : rMax2 [.int i, .int j] H Q := ⟨i, j, rfl, by
  have e : (if j > i then j else i) = max i j := by split <;> omega
  rw [e]; exact q⟩
theorem w_min2 (q : Q (.int (min i j)) H) : rMin2 [.int i, .int j] H Q := ⟨i, j, rfl, by
  have e : (if j < i then j else i) = min i j := by split <;> omega
  rw [e]; exact q⟩
/-! membership among ints -/
theorem inV_int {ns : List Int} : inV (.int i) (ns.map V.int) = decide (i ∈ ns) := by
  unfold inV
  induction ns with
  | nil => simp
  | cons n r ih =>
    rw [List.map_cons, List.any_cons, ih]
    have e : eqV (.int n) (.int i) = decide (n = i) := by unfold eqV; rfl
    rw [e]
    by_cases h : n = i
    · subst h; simp
    · have h' : ¬ i = n := fun z => h z.symm
      simp [h, h']
theorem flat_ints {ns : List Int} : (ns.map V.int).all flatV = true := by
  rw [List.all_map]
  exact List.all_eq_true.mpr fun _ _ => rfl
theorem w_inT {ns : List Int} (h : SqT K H a (ns.map V.int)) (q : Q (.bl (decide (i ∈ ns))) H) : rIn K false (.int i) (.ref a) H Q := ⟨a, _, rfl, .inr h, rfl, flat_ints, by rw [inV_int]; exact q⟩
theorem w_ninT {ns : List Int} (h : SqT K H a (ns.map V.int)) (q : Q (.bl (!decide (i ∈ ns))) H) : rIn K true (.int i) (.ref a) H Q := ⟨a, _, rfl, .inr h, rfl, flat_ints, by rw [inV_int]; exact q⟩
theorem w_inL {ns : List Int} (h : SqL K H a (ns.map V.int)) (q : Q (.bl (decide (i ∈ ns))) H) : rIn K false (.int i) (.ref a) H Q := ⟨a, _, rfl, .inl h, rfl, flat_ints, by rw [inV_int]; exact q⟩
theorem w_ninL {ns : List Int} (h : SqL K H a (ns.map V.int)) (q : Q (.bl (!decide (i ∈ ns))) H) : rIn K true (.int i) (.ref a) H Q := ⟨a, _, rfl, .inl h, rfl, flat_ints, by rw [inV_int]; exact q⟩
/-- the ints of a list of ints -/
def unI : List V → Option (List Int)
  | [] => some []
  | .int i :: r => match unI r with
    | some l => some (i :: l)
    | none => none
  | _ => none
theorem unI_ok : ∀ {xs : List V} {ns : List Int}, unI xs = some ns → xs = ns.map V.int
  | [], ns, h => by cases h; rfl
  | x :: r, ns, h => by
    cases x <;> simp only [unI, reduceCtorEq] at h
    split at h
    · rename_i l e
      cases h
      rw [unI_ok e]
      rfl
    · cases h
theorem lU {ns : List Int} (h : SqL K H a xs) (e : unI xs = some ns) : SqL K H a (ns.map V.int) := unI_ok e ▸ h
theorem tU {ns : List Int} (h : SqT K H a xs) (e : unI xs = some ns) : SqT K H a (ns.map V.int) := unI_ok e ▸ h
/-! lists of naturals -/
theorem getD_map_cast (os : List Nat) (k : Nat) : (os.map (fun n : Nat => (n : Int))).getD k 0 = ((os.getD k 0 : Nat) : Int) := by
  simp only [List.getD_eq_getElem?_getD, List.getElem?_map]
  cases os[k]? <;> rfl
theorem getD_get {α : Type} (xs : List α) (k : Nat) (d : α) (h : k < xs.length) : xs.getD k d = xs[k] := by
  rw [List.getD_eq_getElem?_getD, List.getElem?_eq_getElem h]; rfl
theorem w_ixTN {os : List Nat} {k : Nat} (h : SqT K H a ((os.map fun n : Nat => (n : Int)).map V.int)) (hk : i.toNat = k) (h0 : 0 ≤ i) (h1 : i < os.length) (q : Q (.int ((os.getD k 0 : Nat) : Int)) H) : rIx K (.ref a) (.int i) H Q :=
  w_ixTI h hk h0 (by rw [List.length_map]; exact h1) (by rw [getD_map_cast]; exact q)
theorem w_ixLN {os : List Nat} {k : Nat} (h : SqL K H a ((os.map fun n : Nat => (n : Int)).map V.int)) (hk : i.toNat = k) (h0 : 0 ≤ i) (h1 : i < os.length) (q : Q (.int ((os.getD k 0 : Nat) : Int)) H) : rIx K (.ref a) (.int i) H Q :=
  w_ixLI h hk h0 (by rw [List.length_map]; exact h1) (by rw [getD_map_cast]; exact q)
theorem get_nat {os : List Nat} {k : Nat} {x : V} (h : ((os.map fun n : Nat => (n : Int)).map V.int)[k]? = some x) : k < os.length ∧ x = .int ((os.getD k 0 : Nat) : Int) := by
  have h1 : k < os.length := by simpa using (List.getElem?_eq_some_iff.mp h).1
  have h2 : x = ((os.map fun n : Nat => (n : Int)).map V.int)[k]'(by simpa using h1) := by
    rw [List.getElem?_eq_getElem (by simpa using h1)] at h; exact (Option.some.inj h).symm
  refine ⟨h1, ?_⟩
  rw [h2, List.getElem_map, List.getElem_map, getD_get _ _ _ h1]
theorem get_int {ns : List Int} {k : Nat} {x : V} (h : (ns.map V.int)[k]? = some x) : k < ns.length ∧ x = .int (ns.getD k 0) := by
  rw [List.getElem?_map] at h
  cases e : ns[k]? with
  | none => rw [e] at h; cases h
  | some y =>
    rw [e] at h
    cases h
    exact ⟨(List.getElem?_eq_some_iff.mp e).1, by rw [List.getD_eq_getElem?_getD, e]; rfl⟩
theorem range_map {α : Type} (es : List Int) (f : Int → α) : (List.range es.length).map (fun i => f (es.getD i 0)) = es.map f := by
  apply List.ext_getElem
  · simp
  · intro i h1 h2
    simp at h1 h2
    simp [h1]
theorem range_filter {α : Type} (es : List Int) (P : Int → Bool) (f : Int → α) : ((List.range es.length).filter fun i => P (es.getD i 0)).map (fun i => f (es.getD i 0)) = (es.filter P).map f := by
  have e : (List.range es.length).map (fun i => es.getD i 0) = es := (range_map es id).trans (List.map_id es)
  conv => rhs; rw [← e]
  rw [List.filter_map, List.map_map]
  rfl
theorem range_id (es : List Int) : (List.range es.length).map (fun i => es.getD i 0) = es := (range_map es id).trans (List.map_id es)
/-! isinstance with a built-in class -/
theorem w_isiB {a b : String} {r : Bool} (ty : TyX K H x (.type a)) (h : kitB a b = some r) (q : Q (.bl r) H) : rIsi K [x, .ty b] H Q := ⟨x, _, _, _, r, rfl, .ty b, ty, kit_ty h, q⟩
theorem w_isiII (q : Q (.bl true) H) : rIsi K [.int i, .ty "int"] H Q := w_isiB (.base (.int _)) (by decide +kernel) q
theorem w_isiIB (q : Q (.bl false) H) : rIsi K [.int i, .ty "bool"] H Q := w_isiB (.base (.int _)) (by decide +kernel) q
theorem w_isiBI {k : Bool} (q : Q (.bl true) H) : rIsi K [.bl k, .ty "int"] H Q := w_isiB (.base (.bl _)) (by decide +kernel) q
theorem w_isiBB {k : Bool} (q : Q (.bl true) H) : rIsi K [.bl k, .ty "bool"] H Q := w_isiB (.base (.bl _)) (by decide +kernel) q
theorem w_isiTT (h : At H a (.tup xs)) (q : Q (.bl true) H) : rIsi K [.ref a, .ty "tuple"] H Q := w_isiB (.base (.tup h)) (by decide +kernel) q
theorem w_isiLL (h : At H a (.lst xs)) (q : Q (.bl true) H) : rIsi K [.ref a, .ty "list"] H Q := w_isiB (.base (.lst h)) (by decide +kernel) q
theorem w_isiSS {z : Str} (q : Q (.bl true) H) : rIsi K [.str z, .ty "str"] H Q := w_isiB (.base (.str _)) (by decide +kernel) q
end
/-! ### loops: what is walked (Src), the loop's goal (FG), a comprehension's (CG) -/
/-- J takes n turns while Φ holds; the i-th thing x stands in the heap behind as Y says -/
structure Src (J : It) (Φ : Hp → Prop) (n : Nat) (Y : Nat → V → Hp → Prop) : Prop where
  go : ∀ i H', Φ H' → i < n → J.go i H'
  stop : ∀ H', Φ H' → J.stop n H'
  yld : ∀ i H' x H'', Φ H' → i < n → J.yld i H' x H'' → Ex H' H'' ∧ Y i x H''
def FG (J : It) (g : TG) (tb : TS) (D : Ends) (σ : L2.St) (H1 : Hp) : Prop := ∃ W : Nat → Nat → L2.St → Hp → Prop, (∃ m, W 0 m σ H1) ∧ ∀ i m σ H, W i m σ H →
  (J.stop i H ∧ D.nx σ H) ∨ (J.go i H ∧ ∃ N : L2.St → Hp → Prop, (∀ σ' H', N σ' H' → ∃ m', m' < m ∧ W (i + 1) m' σ' H') ∧ ∀ x H', J.yld i H x H' → g x σ H' fun σ2 H2 => tb { D with nx := N, ct := N, bk := D.nx } σ2 H2)
def CG (J : It) (g : TG) (tt : TT) (te : TE) (vs : List Nat) (σ : L2.St) (H1 : Hp) (Q : VK) : Prop := ∀ D, H1 D = none → ∃ W : Nat → Nat → Hp → Prop, (∃ m, W 0 m (upd H1 D (.lst []))) ∧ ∀ i m H, W i m H →
  (J.stop i H ∧ Q (.ref D) H) ∨ (J.go i H ∧ ∃ Nx : Hp → Prop, (∀ H', Nx H' → ∃ m', m' < m ∧ W (i + 1) m' H') ∧ ∀ x H', J.yld i H x H' → g x (wipe σ vs) H' fun σ2 H2 => wipe σ2 vs = wipe σ vs ∧ tt σ2 H2 fun b H3 =>
    if b = true then te σ2 H3 fun y H4 => ∃ acc, H4 D = some (.lst acc) ∧ acc.length < sizeLine ∧ Nx (upd H4 D (.lst (acc ++ [y]))) else Nx H3)
section
variable {K : PySem.W.Frag} {σ : L2.St} {H H' : Hp} {Q : VK} {v x y : V} {a b p : Addr} {xs ys : List V} {i j : Int} {J : It} {Φ : Hp → Prop} {n : Nat} {Y : Nat → V → Hp → Prop} {g : TG} {tb : TS} {D : Ends} {R : It → Hp → Prop} {tt : TT} {te : TE} {vs : List Nat} {ta : TA}
def dL (K : PySem.W.Frag) (R : It → Hp → Prop) : VK := fun x H1 => ∃ a, x = .ref a ∧ (∃ xs, SqL K H1 a xs) ∧ R (Itl K a) H1
def dT (K : PySem.W.Frag) (R : It → Hp → Prop) : VK := fun x H1 => ∃ a, x = .ref a ∧ (∃ xs, SqT K H1 a xs) ∧ R (Itt K a) H1
def dR1 (R : It → Hp → Prop) : List V → Hp → Prop := fun vs H1 => ∃ j : Int, vs = [.int j] ∧ -(2 ^ 62) ≤ j ∧ j < 2 ^ 62 ∧ R (Itr 0 j.toNat) H1
def dR2 (R : It → Hp → Prop) : List V → Hp → Prop := fun vs H1 => ∃ i j : Int, vs = [.int i, .int j] ∧ (-(2 ^ 62) ≤ i ∧ i < 2 ^ 62 ∧ -(2 ^ 62) ≤ j ∧ j < 2 ^ 62) ∧ R (Itr i (j - i).toNat) H1
def dE (K : PySem.W.Frag) (R : It → Hp → Prop) : List V → Hp → Prop := fun vs H1 => ∃ a xs, vs = [.ref a] ∧ SqL K H1 a xs ∧ R (Ite K a) H1
theorem w_for {wi : TI} (h : wi σ H fun J H1 => FG J g tb D σ H1) : tFor wi g tb D σ H := h
theorem w_lc {wi : TI} (h : wi σ H fun J H1 => CG J g tt te vs σ H1 Q) : tLc wi g tt te vs σ H Q := h
theorem w_iL (h : te σ H (dL K R)) : iList K te σ H R := h
theorem w_iT (h : te σ H (dT K R)) : iTup K te σ H R := h
theorem w_iR1 (h : ta σ H (dR1 R)) : iRng1 ta σ H R := h
theorem w_iR2 (h : ta σ H (dR2 R)) : iRng2 ta σ H R := h
theorem w_iE (h : ta σ H (dE K R)) : iEnum K ta σ H R := h
theorem i_L (h : SqL K H a xs) (k : ∀ J, Src J (fun H' => SqL K H' a xs) xs.length (fun i x _ => xs[i]? = some x) → R J H) : dL K R (.ref a) H :=
  ⟨a, rfl, ⟨xs, h⟩, k _ ⟨fun i H' hp hi => ⟨xs, xs[i], hp, List.getElem?_eq_getElem hi⟩, fun H' hp => ⟨xs, hp, Nat.le_refl _⟩, fun i H' x H'' hp hi hy => by
    obtain ⟨e, f⟩ := hy
    exact ⟨by rw [e]; exact Ex.refl _, f xs hp⟩⟩⟩
theorem i_T (h : SqT K H a xs) (k : ∀ J, Src J (fun H' => SqT K H' a xs) xs.length (fun i x _ => xs[i]? = some x) → R J H) : dT K R (.ref a) H :=
  ⟨a, rfl, ⟨xs, h⟩, k _ ⟨fun i H' hp hi => ⟨xs, xs[i], hp, List.getElem?_eq_getElem hi⟩, fun H' hp => ⟨xs, hp, Nat.le_refl _⟩, fun i H' x H'' hp hi hy => by
    obtain ⟨e, f⟩ := hy
    exact ⟨by rw [e]; exact Ex.refl _, f xs hp⟩⟩⟩
theorem i_R1 (h1 : -(2 ^ 62) ≤ i) (h2 : i < 2 ^ 62) (k : ∀ J, Src J (fun _ => True) i.toNat (fun k x _ => x = .int (k : Nat)) → R J H) : dR1 R [.int i] H :=
  ⟨i, rfl, h1, h2, k _ ⟨fun i H' _ hi => hi, fun H' _ => Nat.le_refl _, fun i H' x H'' _ hi hy => by
    obtain ⟨e, f⟩ := hy
    exact ⟨by rw [e]; exact Ex.refl _, by rw [f, Int.zero_add]⟩⟩⟩
theorem i_R2 (h1 : -(2 ^ 62) ≤ i ∧ i < 2 ^ 62 ∧ -(2 ^ 62) ≤ j ∧ j < 2 ^ 62) (k : ∀ J, Src J (fun _ => True) (j - i).toNat (fun k x _ => x = .int (i + (k : Nat))) → R J H) : dR2 R [.int i, .int j] H :=
  ⟨i, j, rfl, h1, k _ ⟨fun i H' _ hi => hi, fun H' _ => Nat.le_refl _, fun i H' x H'' _ hi hy => by
    obtain ⟨e, f⟩ := hy
    exact ⟨by rw [e]; exact Ex.refl _, f⟩⟩⟩
theorem i_E (h : SqL K H a xs) (k : ∀ J, Src J (fun H' => SqL K H' a xs) xs.length (fun i x H'' => ∃ T y, x = .ref T ∧ At H'' T (.tup [.int (i : Nat), y]) ∧ xs[i]? = some y) → R J H) : dE K R [.ref a] H :=
  ⟨a, xs, rfl, h, k _ ⟨fun i H' hp hi => ⟨xs, xs[i], hp, List.getElem?_eq_getElem hi⟩, fun H' hp => ⟨xs, hp, Nat.le_refl _⟩, fun i H' x H'' hp hi hy => by
    obtain ⟨T, y, e1, e2, e3, f⟩ := hy
    exact ⟨by rw [e3]; exact Ex.new e2, T, y, e1, by rw [e3]; exact upd_same, f xs hp⟩⟩⟩
/-- a for loop by its invariant -/
theorem fg (S : Src J Φ n Y) (Pv : Nat → L2.St → Hp → Prop) (h0 : Pv 0 σ H) (hx : ∀ i σ' H', i ≤ n → Pv i σ' H' → Φ H')
    (hs : ∀ i x σ' H' H'', i < n → Pv i σ' H' → Ex H' H'' → Y i x H'' → g x σ' H'' fun σ2 H2 => tb ⟨Pv (i + 1), D.rt, D.nx, Pv (i + 1)⟩ σ2 H2) (hd : ∀ σ' H', Pv n σ' H' → D.nx σ' H') : FG J g tb D σ H := by
  refine ⟨fun i m σ H => m = n - i ∧ i ≤ n ∧ Pv i σ H, ⟨n, by simp, Nat.zero_le _, h0⟩, ?_⟩
  rintro i m σ H ⟨rfl, hi, p⟩
  have hp := hx i σ H hi p
  by_cases hlt : i < n
  · refine Or.inr ⟨S.go i H hp hlt, Pv (i + 1), fun σ' H' q => ⟨n - (i + 1), by omega, rfl, hlt, q⟩, fun x H' hy => ?_⟩
    obtain ⟨e, y⟩ := S.yld i H x H' hp hlt hy
    exact hs i x σ H H' hlt p e y
  · have e : i = n := by omega
    subst e
    exact Or.inl ⟨S.stop H hp, hd σ H p⟩
/-- a for loop that stores nothing but its own name (slot j) and changes nothing that stood -/
def EndE (H : Hp) (σ : L2.St) (j : Nat) : L2.St → Hp → Prop := fun σ' G' => (∃ v, σ' = σ.set j v) ∧ Ex H G'
theorem fgE (j : Nat) {v0 : Option V} (S : Src J Φ n Y) (hj : σ[j]? = some v0) (hx : ∀ G, Ex H G → Φ G) (hs : ∀ i x G v, i < n → Ex H G → Y i x G → g x (σ.set j v) G fun σ2 H2 => tb ⟨EndE H σ j, D.rt, D.nx, EndE H σ j⟩ σ2 H2) (hd : ∀ v G, Ex H G → D.nx (σ.set j v) G) : FG J g tb D σ H := by
  refine fg S (fun _ σ' G => EndE H σ j σ' G) ⟨⟨v0, ?_⟩, Ex.refl H⟩ (fun i σ' G _ z => hx G z.2) ?_ ?_
  · obtain ⟨h1, h2⟩ := List.getElem?_eq_some_iff.mp hj
    rw [← h2, List.set_getElem_self]
  · rintro i x σ' G G2 hi ⟨⟨v, rfl⟩, e⟩ e2 y
    exact hs i x G2 v hi (e.trans e2) y
  · rintro σ' G ⟨⟨v, rfl⟩, e⟩
    exact hd v G e
/-- a comprehension's list at Dl, between two turns -/
structure CD (H : Hp) (Dl : Addr) (acc : List V) (H' : Hp) : Prop where
  new : Fr H Dl
  ex : Ex H H'
  at_ : At H' Dl (.lst acc)
theorem CD.up {H H' H'' : Hp} {Dl : Addr} {acc : List V} (c : CD H Dl acc H') (e : Ex H' H'') : CD H Dl acc H'' := ⟨c.new, c.ex.trans e, e.get c.at_⟩
/-- behind a turn's element -/
def ElE (H : Hp) (Dl : Addr) (acc : List V) : VK := fun y H4 => ∃ acc', At H4 Dl (.lst acc') ∧ acc'.length < sizeLine ∧ CD H Dl acc (upd H4 Dl (.lst (acc' ++ [y])))
theorem ele {H H' H4 : Hp} {Dl : Addr} {acc : List V} {y : V} (c : CD H Dl acc H') (hz : acc.length < sizeLine) (e : Ex H' H4) : ElE H Dl (acc ++ [y]) y H4 :=
  ⟨acc, e.get c.at_, hz, c.new, Ex.mut (c.ex.trans e) c.new, upd_same⟩
/-- a comprehension without a test; the elements are values that hang on no object -/
theorem cgF (S : Src J Φ n Y) (f : Nat → V) (hx : ∀ H', Ex H H' → Φ H') (hz : n ≤ sizeLine)
    (hs : ∀ Dl i x H', i < n → Ex H H' → CD H Dl ((List.range i).map f) H' → Y i x H' → g x (wipe σ vs) H' fun σ2 H2 => wipe σ2 vs = wipe σ vs ∧ tt σ2 H2 fun b H3 => if b = true then te σ2 H3 (ElE H Dl ((List.range i).map f ++ [f i])) else False)
    (q : ∀ p H2, Fr H p → Ex H H2 → At H2 p (.lst ((List.range n).map f)) → Q (.ref p) H2) (htt : tt = tYes) : CG J g tt te vs σ H Q := by
  subst htt
  have er : ∀ i, (List.range i).map f ++ [f i] = (List.range (i + 1)).map f := fun i => by rw [List.range_succ, List.map_append]; rfl
  intro Dl hD
  refine ⟨fun i m H' => m = n - i ∧ i ≤ n ∧ CD H Dl ((List.range i).map f) H', ⟨n, by simp, Nat.zero_le _, hD, Ex.new hD, upd_same⟩, ?_⟩
  rintro i m H1 ⟨rfl, hi, c⟩
  have hp := hx H1 c.ex
  by_cases hlt : i < n
  · refine Or.inr ⟨S.go i H1 hp hlt, fun H' => CD H Dl ((List.range i).map f ++ [f i]) H', fun H' q => ⟨n - (i + 1), by omega, rfl, hlt, er i ▸ q⟩, fun x H' hy => ?_⟩
    obtain ⟨e', y⟩ := S.yld i H1 x H' hp hlt hy
    exact hs Dl i x H' hlt (c.ex.trans e') ⟨c.new, c.ex.trans e', e'.get c.at_⟩ y
  · have e2 : i = n := by omega
    subst e2
    exact Or.inl ⟨S.stop H1 hp, q Dl H1 hD c.ex c.at_⟩
/-- .. ints -/
theorem cgI (S : Src J Φ n Y) (f : Nat → Int) (hx : ∀ H', Ex H H' → Φ H') (hz : n ≤ sizeLine)
    (hs : ∀ Dl i x H', i < n → Ex H H' → CD H Dl ((List.range i).map fun k => V.int (f k)) H' → Y i x H' → g x (wipe σ vs) H' fun σ2 H2 => wipe σ2 vs = wipe σ vs ∧ tt σ2 H2 fun b H3 => if b = true then te σ2 H3 (ElE H Dl ((List.range i).map (fun k => V.int (f k)) ++ [V.int (f i)])) else False)
    (q : ∀ p H2, Fr H p → Ex H H2 → At H2 p (.lst (((List.range n).map f).map V.int)) → Q (.ref p) H2) (htt : tt = tYes) : CG J g tt te vs σ H Q :=
  cgF S (fun k => V.int (f k)) hx hz hs (fun p H2 hn he hp => q p H2 hn he (hp.l (by rw [List.map_map]; rfl))) htt
/-- .. one int again and again -/
theorem cgK {c : Int} (S : Src J Φ n Y) (hx : ∀ H', Ex H H' → Φ H') (hz : n ≤ sizeLine)
    (hs : ∀ Dl i x H' acc, i < n → Ex H H' → CD H Dl acc H' → acc.length < sizeLine → Y i x H' → g x (wipe σ vs) H' fun σ2 H2 => wipe σ2 vs = wipe σ vs ∧ tt σ2 H2 fun b H3 => if b = true then te σ2 H3 (ElE H Dl (acc ++ [V.int c])) else False)
    (q : ∀ p H2, Fr H p → Ex H H2 → At H2 p (.lst ((List.replicate n c).map V.int)) → Q (.ref p) H2) (htt : tt = tYes) : CG J g tt te vs σ H Q :=
  cgF S (fun _ => V.int c) hx hz (fun Dl i x H' hi ec cd y => hs Dl i x H' _ hi ec cd (by rw [List.length_map, List.length_range]; omega) y) (fun p H2 hn he hp => q p H2 hn he (hp.l (by
    apply List.ext_getElem
    · simp
    · intro i h1 h2; simp))) htt
/-- a comprehension with a test: which turns give an element (p), and which (f) -/
theorem cgP (S : Src J Φ n Y) (p : Nat → Bool) (f : Nat → V) (hx : ∀ H', Ex H H' → Φ H') (hz : n ≤ sizeLine)
    (hs : ∀ Dl i x H', i < n → Ex H H' → CD H Dl (((List.range i).filter p).map f) H' → (((List.range i).filter p).map f).length < sizeLine → Y i x H' → g x (wipe σ vs) H' fun σ2 H2 => wipe σ2 vs = wipe σ vs ∧ tt σ2 H2 fun b H3 => if b = true then te σ2 H3 (ElE H Dl (((List.range (i + 1)).filter p).map f)) else CD H Dl (((List.range (i + 1)).filter p).map f) H3)
    (q : ∀ p' H2, Fr H p' → Ex H H2 → At H2 p' (.lst (((List.range n).filter p).map f)) → Q (.ref p') H2) : CG J g tt te vs σ H Q := by
  intro Dl hD
  refine ⟨fun i m H' => m = n - i ∧ i ≤ n ∧ CD H Dl (((List.range i).filter p).map f) H', ⟨n, by simp, Nat.zero_le _, hD, Ex.new hD, upd_same⟩, ?_⟩
  rintro i m H1 ⟨rfl, hi, c⟩
  have hp := hx H1 c.ex
  by_cases hlt : i < n
  · refine Or.inr ⟨S.go i H1 hp hlt, fun H' => CD H Dl (((List.range (i + 1)).filter p).map f) H', fun H' q => ⟨n - (i + 1), by omega, rfl, hlt, q⟩, fun x H' hy => ?_⟩
    obtain ⟨e', y⟩ := S.yld i H1 x H' hp hlt hy
    refine hs Dl i x H' hlt (c.ex.trans e') ⟨c.new, c.ex.trans e', e'.get c.at_⟩ ?_ y
    rw [List.length_map]
    exact Nat.lt_of_le_of_lt (List.length_filter_le _ _) (by rw [List.length_range]; omega)
  · have e2 : i = n := by omega
    subst e2
    exact Or.inl ⟨S.stop H1 hp, q Dl H1 hD c.ex c.at_⟩
theorem fr_T {α : Type} {p : Nat → Bool} {f : Nat → α} {i : Nat} (h : p i = true) : ((List.range (i + 1)).filter p).map f = ((List.range i).filter p).map f ++ [f i] := by
  rw [List.range_succ, List.filter_append, List.map_append]
  simp [h]
theorem fr_F {α : Type} {p : Nat → Bool} {f : Nat → α} {i : Nat} (h : p i = false) : ((List.range (i + 1)).filter p).map f = ((List.range i).filter p).map f := by
  rw [List.range_succ, List.filter_append, List.map_append]
  simp [h]
/-- a comprehension without a test by an invariant of what it has made -/
def ElX (H : Hp) (Dl : Addr) (i : Nat) (Pv : Nat → List V → Hp → Prop) : VK := fun y H4 => ∃ acc, At H4 Dl (.lst acc) ∧ acc.length < sizeLine ∧ ∃ acc', CD H Dl acc' (upd H4 Dl (.lst (acc ++ [y]))) ∧ acc'.length = i + 1 ∧ Pv (i + 1) acc' (upd H4 Dl (.lst (acc ++ [y])))
theorem elx {H H' H4 : Hp} {Dl : Addr} {acc : List V} {y : V} {i : Nat} {Pv : Nat → List V → Hp → Prop} (c : CD H Dl acc H') (hl : acc.length = i) (hz : acc.length < sizeLine) (e : Ex H' H4) (hp : ∀ H5, Nl H4 H5 → Pv (i + 1) (acc ++ [y]) H5) : ElX H Dl i Pv y H4 :=
  ⟨acc, e.get c.at_, hz, acc ++ [y], ⟨c.new, Ex.mut (c.ex.trans e) c.new, upd_same⟩, by simp [hl], hp _ (Nl.upd (e.get c.at_))⟩
theorem cgX (S : Src J Φ n Y) (Pv : Nat → List V → Hp → Prop) (h0 : ∀ H', Ex H H' → Pv 0 [] H') (st : ∀ i acc H1 H2, Pv i acc H1 → Ex H1 H2 → Pv i acc H2) (hx : ∀ H', Ex H H' → Φ H') (hz : n ≤ sizeLine)
    (hs : ∀ Dl i x H' acc, i < n → Ex H H' → CD H Dl acc H' → acc.length = i → Pv i acc H' → Y i x H' → g x (wipe σ vs) H' fun σ2 H2 => wipe σ2 vs = wipe σ vs ∧ tt σ2 H2 fun b H3 => if b = true then te σ2 H3 (ElX H Dl i Pv) else ∃ acc', CD H Dl acc' H3 ∧ acc'.length = i + 1 ∧ Pv (i + 1) acc' H3)
    (q : ∀ p H2 acc, Fr H p → Ex H H2 → At H2 p (.lst acc) → acc.length = n → Pv n acc H2 → Q (.ref p) H2) (htt : tt = tYes) : CG J g tt te vs σ H Q := by
  subst htt
  intro Dl hD
  refine ⟨fun i m H' => m = n - i ∧ i ≤ n ∧ ∃ acc, CD H Dl acc H' ∧ acc.length = i ∧ Pv i acc H', ⟨n, by simp, Nat.zero_le _, [], ⟨hD, Ex.new hD, upd_same⟩, rfl, h0 _ (Ex.new hD)⟩, ?_⟩
  rintro i m H1 ⟨rfl, hi, acc, c, hl, hP⟩
  have hp := hx H1 c.ex
  by_cases hlt : i < n
  · refine Or.inr ⟨S.go i H1 hp hlt, fun H' => ∃ acc, CD H Dl acc H' ∧ acc.length = i + 1 ∧ Pv (i + 1) acc H', fun H' q => ⟨n - (i + 1), by omega, rfl, hlt, q⟩, fun x H' hy => ?_⟩
    obtain ⟨e', y⟩ := S.yld i H1 x H' hp hlt hy
    exact hs Dl i x H' acc hlt (c.ex.trans e') ⟨c.new, c.ex.trans e', e'.get c.at_⟩ hl (st _ _ _ _ hP e') y
  · have e2 : i = n := by omega
    subst e2
    exact Or.inl ⟨S.stop H1 hp, q Dl H1 acc hD c.ex c.at_ hl hP⟩
/-- a while by an invariant that tells a falling number -/
def WB (W : Nat → L2.St → Hp → Prop) (t : TS) (D : Ends) (m : Nat) (σ' : L2.St) : Bool → Hp → Prop := fun b H1 => if b = true then ∃ N : L2.St → Hp → Prop, (∀ σ' H', N σ' H' → ∃ m', m' < m ∧ W m' σ' H') ∧ t { D with nx := N, ct := N, bk := D.nx } σ' H1 else D.nx σ' H1
theorem w_while {c : TT} {t : TS} (W : Nat → L2.St → Hp → Prop) (m0 : Nat) (h0 : W m0 σ H) (hs : ∀ m σ' H', W m σ' H' → c σ' H' (WB W t D m σ')) : tWhile c t D σ H := ⟨W, ⟨m0, h0⟩, hs⟩
section
variable {W : Nat → L2.St → Hp → Prop} {t : TS} {m : Nat}
theorem wb_T (h : t ⟨fun σ2 H2 => ∃ m', m' < m ∧ W m' σ2 H2, D.rt, D.nx, fun σ2 H2 => ∃ m', m' < m ∧ W m' σ2 H2⟩ σ H) : WB W t D m σ true H := ⟨_, fun _ _ h => h, h⟩
theorem wb_F (h : D.nx σ H) : WB W t D m σ false H := h
theorem wb_dec {p : Prop} [Decidable p] (h1 : p → t ⟨fun σ2 H2 => ∃ m', m' < m ∧ W m' σ2 H2, D.rt, D.nx, fun σ2 H2 => ∃ m', m' < m ∧ W m' σ2 H2⟩ σ H) (h2 : ¬ p → D.nx σ H) : WB W t D m σ (decide p) H := by
  by_cases h : p
  · rw [decide_eq_true h]; exact wb_T (h1 h)
  · rw [decide_eq_false h]; exact wb_F (h2 h)
end
end
end Z
namespace Z
open PySem L2
/-! ### own classes: what the top says of one, as one truth value -/
structure OwnC (K : PySem.W.Frag) (C : Addr) : Prop where
  cl : Cls K C
  sf : PySem.W.selfFirst K C = true
  ca : PySem.W.findIn K (.ref C) "__class__" = some (some (.builtin "object.__class__"))
  cn : PySem.W.specialIn K (.builtin "object.__class__") "__get__" = some (some (.builtin "getset_descriptor.__get__"))
  ct : PySem.W.takesIn K (.builtin "object.__class__") = some true
  cm : PySem.W.mroIn K C (.type "object") = some true
  ni : PySem.W.subIn K (.type "int") (.ref C) = some false
  ni' : PySem.W.subIn K (.ref C) (.type "int") = some false
  kCI : PySem.W.kitOne K (.ref C) (.type "int") = some false
  kIC : PySem.W.kitOne K (.type "int") (.ref C) = some false
  kCC : PySem.W.kitOne K (.ref C) (.ref C) = some true
def ownB (K : PySem.W.Frag) (x : Str) : Bool := (He.Fa.cls x).ok K && (PySem.W.selfFirst K (He.ga K x) && (decide (PySem.W.findIn K (.ref (He.ga K x)) "__class__" = some (some (.builtin "object.__class__"))) &&
  (decide (PySem.W.specialIn K (.builtin "object.__class__") "__get__" = some (some (.builtin "getset_descriptor.__get__"))) && (decide (PySem.W.takesIn K (.builtin "object.__class__") = some true) && (decide (PySem.W.mroIn K (He.ga K x) (.type "object") = some true) &&
  (decide (PySem.W.subIn K (.type "int") (.ref (He.ga K x)) = some false) && (decide (PySem.W.subIn K (.ref (He.ga K x)) (.type "int") = some false) && (decide (PySem.W.kitOne K (.ref (He.ga K x)) (.type "int") = some false) &&
  (decide (PySem.W.kitOne K (.type "int") (.ref (He.ga K x)) = some false) && decide (PySem.W.kitOne K (.ref (He.ga K x)) (.ref (He.ga K x)) = some true))))))))))
theorem ownB_ok {K : PySem.W.Frag} {x : Str} (h : ownB K x = true) : OwnC K (He.ga K x) := by
  obtain ⟨h1, h⟩ := He.ba h
  obtain ⟨h2, h⟩ := He.ba h
  obtain ⟨h3, h⟩ := He.ba h
  obtain ⟨h4, h⟩ := He.ba h
  obtain ⟨h5, h⟩ := He.ba h
  obtain ⟨h6, h⟩ := He.ba h
  obtain ⟨h7, h⟩ := He.ba h
  obtain ⟨h8, h⟩ := He.ba h
  obtain ⟨h9, h⟩ := He.ba h
  obtain ⟨h10, h11⟩ := He.ba h
  exact ⟨He.cls_ok h1, h2, of_decide_eq_true h3, of_decide_eq_true h4, of_decide_eq_true h5, of_decide_eq_true h6, of_decide_eq_true h7, of_decide_eq_true h8, of_decide_eq_true h9, of_decide_eq_true h10, of_decide_eq_true h11⟩
/-! ### own operators -/
section
variable {X : Cx} {CX : CXT} {n : Nat} {C g : Addr} {sp : Sp} {E : XK}
theorem inst_of {pins : List (Addr × Obj)} {σ : L2.St} {H : Hp} {s : Shared} {a dx : Addr} {fs : List (Str × V)} (I : Inv X pins σ H s) (h : At H a (.ins C dx fs)) : ∃ od, PySem.W.InstAt s.heap a (PySem.W.instObj C dx) C (some od) := by
  obtain ⟨mA, O, _⟩ := ins_get I.hok h
  obtain ⟨od, J, _⟩ := O.look
  exact ⟨od, J⟩
/-- int has both slots of an operator, or it is known that it lacks one -/
def IntHas (nm : String) : Prop := ∀ K : PySem.W.Frag, (∃ fo, PySem.W.findIn K (.type "int") (PySem.dunder nm) = some fo) ∧ ∃ ro, PySem.W.findIn K (.type "int") (dunderR nm) = some ro
theorem has_add : IntHas "add" := fun _ => ⟨⟨some (.builtin "int.__add__"), by kernel_rfl⟩, some (.builtin "int.__radd__"), by kernel_rfl⟩
theorem has_sub : IntHas "sub" := fun _ => ⟨⟨some (.builtin "int.__sub__"), by kernel_rfl⟩, some (.builtin "int.__rsub__"), by kernel_rfl⟩
theorem has_mul : IntHas "mul" := fun _ => ⟨⟨some (.builtin "int.__mul__"), by kernel_rfl⟩, some (.builtin "int.__rmul__"), by kernel_rfl⟩
theorem has_floordiv : IntHas "floordiv" := fun _ => ⟨⟨some (.builtin "int.__floordiv__"), by kernel_rfl⟩, some (.builtin "int.__rfloordiv__"), by kernel_rfl⟩
theorem has_mod : IntHas "mod" := fun _ => ⟨⟨some (.builtin "int.__mod__"), by kernel_rfl⟩, some (.builtin "int.__rmod__"), by kernel_rfl⟩
/-- a op b, both of the class at C -/
def rOO (C : Addr) (sp : Sp) (E : XK) : R2 := fun x y H Q => ∃ a dx fs b dy gs, x = .ref a ∧ y = .ref b ∧ At H a (.ins C dx fs) ∧ At H b (.ins C dy gs) ∧ sp [x, y] H Q E
/-- a op i, a of the class at C, i an int -/
def rOI (C : Addr) (sp : Sp) (E : XK) : R2 := fun x y H Q => ∃ a dx fs i, x = .ref a ∧ y = .int i ∧ At H a (.ins C dx fs) ∧ sp [x, y] H Q E
theorem op_OO {op : Operator} (O : OwnC X.K C) (hs : PySem.W.findIn X.K (.ref C) (PySem.dunder op.info.2) = some (some (.ref g))) (hf : PySem.W.isFn X.K (.ref g) = true) (F : FnR X.prog X.w X.K X.mg X.base CX n g sp) (hr : Room n X.A) (hx : Passes CX X E) :
    OpR X (binaryOp op) (rOO C sp E) := by
  intro pins s σ H x y v u Q I rx ry h
  obtain ⟨a, dx, fs, b, dy, gs, rfl, rfl, ha, hb, q⟩ := h
  cases (show v = Value.ref a from rx)
  cases (show u = Value.ref b from ry)
  obtain ⟨od, J⟩ := inst_of I ha
  obtain ⟨od', J'⟩ := inst_of I hb
  obtain ⟨m, hF⟩ := I.fr
  refine PySem.W.binop_K hF I.ok.mod.kin J J'.type O.sf hs hf (wpAny_mono (wpAny_call (run_fnR (us := [.ref a, .ref b]) (vs := [.ref a, .ref b]) F hr hx I (.cons rfl (.cons rfl .nil)) q)) (fun w s' z => ?_) fun _ _ x => x)
  obtain ⟨z', H', I', rz, qz⟩ := z
  exact SlX.cmpback rz ⟨z', H', I', rz, qz⟩
theorem op_OI {op : Operator} {rc : Option Value} (O : OwnC X.K C) (hs : PySem.W.findIn X.K (.ref C) (PySem.dunder op.info.2) = some (some (.ref g))) (hf : PySem.W.isFn X.K (.ref g) = true)
    (hr' : PySem.W.findIn X.K (.ref C) (dunderR op.info.2) = some rc) (hp : rc = none ∨ ∃ g : Addr, rc = some (.ref g)) (h12 : IntHas op.info.2)
    (F : FnR X.prog X.w X.K X.mg X.base CX n g sp) (hr : Room n X.A) (hx : Passes CX X E) : OpR X (binaryOp op) (rOI C sp E) := by
  intro pins s σ H x y v u Q I rx ry h
  obtain ⟨a, dx, fs, i, rfl, rfl, ha, q⟩ := h
  cases (show v = Value.ref a from rx)
  obtain ⟨t, rfl⟩ := (show ∃ t, u = Value.int i t from ry)
  obtain ⟨od, J⟩ := inst_of I ha
  obtain ⟨m, hF⟩ := I.fr
  refine PySem.W.ksp_binT (T := "int") hF I.ok.mod.kin J rfl O.sf hs hf hr' hp (h12 X.K).1.choose_spec (h12 X.K).2.choose_spec O.ni (wpAny_mono (wpAny_call (run_fnR (us := [.ref a, .int i t]) (vs := [.ref a, .int i]) F hr hx I (.cons rfl (.cons ⟨t, rfl⟩ .nil)) q)) (fun w s' z => ?_) fun _ _ x => x)
  obtain ⟨z', H', I', rz, qz⟩ := z
  exact SlX.cmpback rz ⟨z', H', I', rz, qz⟩
/-- -a -/
def rUO (C : Addr) (sp : Sp) (E : XK) : V → Hp → VK → Prop := fun x H Q => ∃ a dx fs, x = .ref a ∧ At H a (.ins C dx fs) ∧ sp [x] H Q E
theorem un_O (hs : PySem.W.findIn X.K (.ref C) "__neg__" = some (some (.ref g))) (hf : PySem.W.isFn X.K (.ref g) = true) (F : FnR X.prog X.w X.K X.mg X.base CX n g sp) (hr : Room n X.A) (hx : Passes CX X E) : UnR X (unaryOp .USub) (rUO C sp E) := by
  intro pins s σ H x v Q I rx h
  obtain ⟨a, dx, fs, rfl, ha, q⟩ := h
  cases (show v = Value.ref a from rx)
  obtain ⟨od, J⟩ := inst_of I ha
  obtain ⟨m, hF⟩ := I.fr
  exact PySem.W.ksp_neg hF I.ok.mod.kin J hs hf (wpAny_call (run_fnR (us := [.ref a]) (vs := [.ref a]) F hr hx I (.cons rfl .nil) q))
/-- a op b by an own comparison, b of the same class or an int -/
theorem cmp_OO {op : CmpOp} (hop : ∀ a b, compareOp op a b = richCompare op a b) (O : OwnC X.K C) (hs : PySem.W.findIn X.K (.ref C) (cmpInfo op).2.1 = some (some (.ref g))) (hf : PySem.W.isFn X.K (.ref g) = true) (F : FnR X.prog X.w X.K X.mg X.base CX n g sp) (hr : Room n X.A) (hx : Passes CX X E) :
    OpR X (compareOp op) (rOO C sp E) := by
  intro pins s σ H x y v u Q I rx ry h
  obtain ⟨a, dx, fs, b, dy, gs, rfl, rfl, ha, hb, q⟩ := h
  cases (show v = Value.ref a from rx)
  cases (show u = Value.ref b from ry)
  obtain ⟨od, J⟩ := inst_of I ha
  obtain ⟨od', J'⟩ := inst_of I hb
  obtain ⟨m, hF⟩ := I.fr
  rw [hop]
  refine PySem.W.cmp_K (op := op) (tb := .ref C) hr.units0 hF I.ok.mod.kin J J'.type (by simp [PySem.W.notFirst]) hs hf (wpAny_mono (wpAny_call (run_fnR (us := [.ref a, .ref b]) (vs := [.ref a, .ref b]) F hr hx I (.cons rfl (.cons rfl .nil)) q)) (fun w s' z => ?_) fun _ _ x => x)
  obtain ⟨z', H', I', rz, qz⟩ := z
  exact SlX.cmpback rz ⟨z', H', I', rz, qz⟩
theorem cmp_OI {op : CmpOp} (hop : ∀ a b, compareOp op a b = richCompare op a b) (O : OwnC X.K C) (hs : PySem.W.findIn X.K (.ref C) (cmpInfo op).2.1 = some (some (.ref g))) (hf : PySem.W.isFn X.K (.ref g) = true) (F : FnR X.prog X.w X.K X.mg X.base CX n g sp) (hr : Room n X.A) (hx : Passes CX X E) :
    OpR X (compareOp op) (rOI C sp E) := by
  intro pins s σ H x y v u Q I rx ry h
  obtain ⟨a, dx, fs, i, rfl, rfl, ha, q⟩ := h
  cases (show v = Value.ref a from rx)
  obtain ⟨t, rfl⟩ := (show ∃ t, u = Value.int i t from ry)
  obtain ⟨od, J⟩ := inst_of I ha
  obtain ⟨m, hF⟩ := I.fr
  rw [hop]
  refine PySem.W.cmp_K (op := op) (tb := .type "int") hr.units0 hF I.ok.mod.kin J (PySem.W.Looks.of_pure rfl) (by simp [PySem.W.notFirst, O.ni]) hs hf (wpAny_mono (wpAny_call (run_fnR (us := [.ref a, .int i t]) (vs := [.ref a, .int i]) F hr hx I (.cons rfl (.cons ⟨t, rfl⟩ .nil)) q)) (fun w s' z => ?_) fun _ _ x => x)
  obtain ⟨z', H', I', rz, qz⟩ := z
  exact SlX.cmpback rz ⟨z', H', I', rz, qz⟩
/-! an int on the left: its own slot hands back NotImplemented -/
theorem asInt_ref {M : Model} {A : Around} {E : Value → Shared → Prop} {s : Shared} {x dx C : Addr} {Q : Option Int → Shared → Prop} (ho : s.heap.get? x = some (PySem.W.instObj C dx)) (h : Q none s) : wpAny M A (asInt? (.ref x)) Q E s := by
  unfold asInt?
  exact wpAny_bind (wpAny_load ho (wpAny_pure h))
theorem intBinary_ni {M : Model} {A : Around} {E : Value → Shared → Prop} {s : Shared} {x dx C : Addr} {nm : String} {f : Int → Int → Sem Fin} {i : Int} {t : Tok} {Q : Fin → Shared → Prop} (ho : s.heap.get? x = some (PySem.W.instObj C dx))
    (h : Q (.done (.ret .notImplemented)) s) : wpAny M A (Builtin.Int.intBinary nm f false ⟨[.int i t, .ref x], []⟩) Q E s := by
  unfold Builtin.Int.intBinary
  refine wpAny_bind (wpAny_of_eq (a := ((Value.int i t : Value), [Value.ref x])) (by first | rfl | (simp only [slotArgs]; rfl)) ?_)
  refine wpAny_bind (wpAny_of_eq (a := i) (by first | rfl | (simp only [Builtin.intOfSelf]; rfl)) ?_)
  refine wpAny_bind (asInt_ref ho ?_)
  exact wpAny_bind (wpAny_rule (wpAny_pure h))
theorem int_ni {prog : Program} {w : World} {A : Around} {E : Value → Shared → Prop} {s : Shared} {x dx C : Addr} {id : String} {name : Str} {B : Builtin} {i : Int} {t : Tok} {Q : Value → Shared → Prop} (slot : Slot "int" name id) (entry : entryFor table id = some B)
    (args : argsOk id ⟨[.int i t, .ref x], []⟩) (hB : ∃ nm f, B = Builtin.Int.intBinary nm f false) (ho : s.heap.get? x = some (PySem.W.instObj C dx)) (h : Q .notImplemented s) : wpAny (model prog w) A (call (.builtin id) [.int i t, .ref x]) Q E s := by
  obtain ⟨nm, f, rfl⟩ := hB
  exact call_meets (S := fun _ R s' => s' = s ∧ R (.ok (.ret .notImplemented)) s) slot (typeIs_int s i t) entry args (fun prog w A R s' hs => by
    obtain ⟨rfl, hs⟩ := hs
    exact intBinary_ni ho hs) ⟨rfl, h⟩
theorem bin_IO {prog : Program} {w : World} {A : Around} {E : Value → Shared → Prop} {s : Shared} {K : PySem.W.Frag} {x dx C f f' : Addr} {od : Option Obj} {op : Operator} {id : String} {B : Builtin} {i : Int} {t : Tok} {Q : Value → Shared → Prop}
    (X : K.In s.heap) (I : PySem.W.InstAt s.heap x (PySem.W.instObj C dx) C od) (hc : PySem.W.selfFirst K C = true) (fills : fillsNumberSlot (.type "int") op.info.2 = pure true) (slot : Slot "int" (PySem.dunder op.info.2) id) (entry : entryFor table id = some B)
    (args : argsOk id ⟨[.int i t, .ref x], []⟩) (hB : ∃ nm f, B = Builtin.Int.intBinary nm f false) (hs : PySem.W.findIn K (.ref C) (PySem.dunder op.info.2) = some (some (.ref f'))) (hR : PySem.W.findIn K (.ref C) (dunderR op.info.2) = some (some (.ref f))) (hf : PySem.W.isFn K (.ref f) = true)
    (hsub : PySem.W.subIn K (.ref C) (.type "int") = some false) (h : wpAny (model prog w) A (call (.ref f) [.ref x, .int i t]) (PySem.W.CmpBack Q) E s) : wpAny (model prog w) A (binaryOp op (.int i t) (.ref x)) Q E s := by
  obtain ⟨cd, rest, hcd, hm⟩ := PySem.W.ksp_first hc
  rcases hi : op.info with ⟨sym, nm⟩
  rw [hi] at fills slot hs hR
  dsimp only at fills slot hs hR
  have hx : s.heap.get? x = some (PySem.W.instObj C dx) := I.1
  have two := PySem.W.ksp_try X I hR hf h
  have one : wpAny (model prog w) A (tryMethod (.int i t) (PySem.dunder nm) (.ref x)) (fun r s' => r = none ∧ s' = s) E s := by
    simp only [tryMethod]
    exact wpAny_bind (wpAny_callSpecial?_slot (typeIs_int s i t) slot (int_ni slot entry args hB hx (wpAny_pure ⟨rfl, rfl⟩)))
  have L1 : PySem.W.Looks (model prog w) s.heap (typeOf (.ref x)) (.ref C) := I.type
  have L3 : PySem.W.Looks (model prog w) s.heap (fillsNumberSlot (.ref C) nm) true := PySem.W.fills_K X hcd hm hs
  have L5 : PySem.W.Looks (model prog w) s.heap (isSubtype (.ref C) (.type "int")) false := PySem.W.looks_subIn X hsub
  have L7 : numberSlotInPython (.type "int") nm = pure false := rfl
  have ne : (Value.type "int" == Value.ref C) = false := Bool.eq_false_iff.mpr fun q => by cases beq_iff_eq.mp q
  simp only [binaryOp, hi]
  refine wpAny_holding (wpAny_bind ?_)
  unfold binaryOp1
  refine wpAny_bind (wpAny_typeOf (typeIs_int s i t) (wpAny_bind (L1.here (wpAny_bind (wpAny_of_eq fills ?_)))))
  simp only [ne, Bool.false_eq_true, if_false]
  refine wpAny_bind (L3.here ?_)
  simp only [Bool.and_self, if_true]
  refine wpAny_bind (L5.here ?_)
  simp only [Bool.false_eq_true, if_false, Bool.not_false, Bool.and_self, if_true, pure_bind, L7]
  refine wpAny_bind (wpAny_mono one (fun r s' hr => ?_) fun _ _ e => e)
  obtain ⟨rfl, rfl⟩ := hr
  dsimp only
  refine wpAny_bind (wpAny_mono two (fun r s' hr => ?_) fun _ _ e => e)
  obtain ⟨v, rfl, hq⟩ := hr
  exact wpAny_bind (wpAny_rule (wpAny_pure (wpAny_pure hq)))
/-- i op a -/
def rIO (C : Addr) (sp : Sp) (E : XK) : R2 := fun x y H Q => ∃ a dx fs i, x = .int i ∧ y = .ref a ∧ At H a (.ins C dx fs) ∧ sp [y, x] H Q E
theorem op_IO {op : Operator} {id : String} {B : Builtin} {f' : Addr} (O : OwnC X.K C) (hR : PySem.W.findIn X.K (.ref C) (dunderR op.info.2) = some (some (.ref g))) (hf : PySem.W.isFn X.K (.ref g) = true) (hs : PySem.W.findIn X.K (.ref C) (PySem.dunder op.info.2) = some (some (.ref f')))
    (fills : fillsNumberSlot (.type "int") op.info.2 = pure true) (slot : Slot "int" (PySem.dunder op.info.2) id) (entry : entryFor table id = some B) (args : ∀ a b, argsOk id ⟨[a, b], []⟩) (hB : ∃ nm f, B = Builtin.Int.intBinary nm f false)
    (F : FnR X.prog X.w X.K X.mg X.base CX n g sp) (hr : Room n X.A) (hx : Passes CX X E) : OpR X (binaryOp op) (rIO C sp E) := by
  intro pins s σ H x y v u Q I rx ry h
  obtain ⟨a, dx, fs, i, rfl, rfl, ha, q⟩ := h
  obtain ⟨t, rfl⟩ := (show ∃ t, v = Value.int i t from rx)
  cases (show u = Value.ref a from ry)
  obtain ⟨od, J⟩ := inst_of I ha
  refine bin_IO I.kIn J O.sf fills slot entry (args _ _) hB hs hR hf O.ni' (wpAny_mono (wpAny_call (run_fnR (us := [.ref a, .int i t]) (vs := [.ref a, .int i]) F hr hx I (.cons rfl (.cons ⟨t, rfl⟩ .nil)) q)) (fun w s' z => ?_) fun _ _ x => x)
  obtain ⟨z', H', I', rz, qz⟩ := z
  exact SlX.cmpback rz ⟨z', H', I', rz, qz⟩
theorem addIO {f' : Addr} (O : OwnC X.K C) (hR : PySem.W.findIn X.K (.ref C) "__radd__" = some (some (.ref g))) (hf : PySem.W.isFn X.K (.ref g) = true) (hs : PySem.W.findIn X.K (.ref C) "__add__" = some (some (.ref f'))) (F : FnR X.prog X.w X.K X.mg X.base CX n g sp) (hr : Room n X.A) (hx : Passes CX X E) : OpR X (binaryOp .Add) (rIO C sp E) :=
  op_IO (op := .Add) O hR hf hs PySem.F.fills_int_add PySem.F.slot_int_add PySem.F.entry_int_add PySem.F.args_int_add_2 ⟨_, _, rfl⟩ F hr hx
theorem subIO {f' : Addr} (O : OwnC X.K C) (hR : PySem.W.findIn X.K (.ref C) "__rsub__" = some (some (.ref g))) (hf : PySem.W.isFn X.K (.ref g) = true) (hs : PySem.W.findIn X.K (.ref C) "__sub__" = some (some (.ref f'))) (F : FnR X.prog X.w X.K X.mg X.base CX n g sp) (hr : Room n X.A) (hx : Passes CX X E) : OpR X (binaryOp .Sub) (rIO C sp E) :=
  op_IO (op := .Sub) O hR hf hs PySem.F.fills_int_sub PySem.F.slot_int_sub PySem.F.entry_int_sub PySem.F.args_int_sub_2 ⟨_, _, rfl⟩ F hr hx
theorem mulIO {f' : Addr} (O : OwnC X.K C) (hR : PySem.W.findIn X.K (.ref C) "__rmul__" = some (some (.ref g))) (hf : PySem.W.isFn X.K (.ref g) = true) (hs : PySem.W.findIn X.K (.ref C) "__mul__" = some (some (.ref f'))) (F : FnR X.prog X.w X.K X.mg X.base CX n g sp) (hr : Room n X.A) (hx : Passes CX X E) : OpR X (binaryOp .Mult) (rIO C sp E) :=
  op_IO (op := .Mult) O hR hf hs PySem.F.fills_int_mul PySem.F.slot_int_mul PySem.F.entry_int_mul PySem.F.args_int_mul_2 ⟨_, _, rfl⟩ F hr hx
/-- abs(a) by an own __abs__ -/
def rC1 (C : Addr) (sp : Sp) (E : XK) : List V → Hp → VK → Prop := fun xs H Q => ∃ a dx fs, xs = [V.ref a] ∧ At H a (.ins C dx fs) ∧ sp [.ref a] H Q E
theorem call_absO (hs : PySem.W.findIn X.K (.ref C) "__abs__" = some (some (.ref g))) (hf : PySem.W.isFn X.K (.ref g) = true) (F : FnR X.prog X.w X.K X.mg X.base CX n g sp) (hr : Room (n + 1) X.A) (hx : Passes CX X E) : CallR X (.builtin "abs") (rC1 C sp E) := by
  intro pins s σ H xs us Q I r h
  obtain ⟨a, dx, fs, rfl, ha, q⟩ := h
  obtain ⟨u, rfl, ru⟩ := r.one
  cases (show u = Value.ref a from ru)
  obtain ⟨od, J⟩ := inst_of I ha
  refine PySem.Calls.call_function_entry PyProof.Rows.kind_abs PyProof.Rows.plain_abs PyProof.Rows.entry_abs (PyProof.Rows.args_abs _) ?_
  unfold Builtin.«abs»
  refine wpAny_bind (m := oneArg "abs" _) (wpAny_pure (wpAny_bind (PySem.W.special_fn I.kIn J hs (beq_iff_eq.mp hf) (wpAny_mono (wpAny_call (SlX.run_at (us := [.ref a]) (ws := [.ref a]) F hr.in1 I.env0.in1 hx I (.cons rfl .nil) q)) (fun w s' z => ?_) fun _ _ x => x))))
  exact wpAny_pure ⟨w, rfl, z⟩
end
/-! ### readings: fields, new instances, own operators -/
def dF (K : PySem.W.Frag) (f : Str) (Q : VK) : VK := fun x H1 => ∃ a C dx fs v, x = .ref a ∧ At H1 a (.ins C dx fs) ∧ Cls K C ∧ NoAttr K C f ∧ fs.lookup f = some v ∧ Q v H1
def dSF (K : PySem.W.Frag) (f : Str) (y : V) (R : Hp → Prop) : VK := fun x H2 => ∃ a C dx fs, x = .ref a ∧ At H2 a (.ins C dx fs) ∧ Cls K C ∧ NoAttr K C f ∧ fs.length < 1000 ∧ R (upd H2 a (.ins C dx (putF f y fs)))
section
variable {K : PySem.W.Frag} {σ : L2.St} {H H' : Hp} {Q : VK} {v x y : V} {a b C dx dy : Addr} {fs gs : List (Str × V)} {f : Str} {i j : Int} {sp : Sp} {E : XK} {D : Ends} {ts : TA}
theorem w_fld {ta : TE} (h : ta σ H (dF K f Q)) : tFld K ta f σ H Q := h
theorem w_dF (h : At H a (.ins C dx fs)) (cl : Cls K C) (na : NoAttr K C f) (hl : fs.lookup f = some v) (q : Q v H) : dF K f Q (.ref a) H := ⟨a, C, dx, fs, v, rfl, h, cl, na, hl, q⟩
theorem w_sfld {ta tv : TE} (h : tv σ H fun y H1 => ta σ H1 (dSF K f y (D.nx σ))) : sFld K ta tv f D σ H := h
theorem w_dSF {R : Hp → Prop} (h : At H a (.ins C dx fs)) (cl : Cls K C) (na : NoAttr K C f) (hl : fs.length < 1000) (q : ∀ H2, At H2 a (.ins C dx (putF f y fs)) → (∀ b o, b ≠ a → At H b o → At H2 b o) → (∀ b, Fr H2 b → Fr H b) → R H2) : dSF K f y R (.ref a) H :=
  ⟨a, C, dx, fs, rfl, h, cl, na, hl, q _ upd_same (fun b o hb e => by unfold At; rw [upd_ne hb]; exact e) fun b e => by
    unfold Fr at *
    by_cases hb : b = a
    · subst hb; rw [upd_same] at e; cases e
    · rwa [upd_ne hb] at e⟩
/-- a new instance, ahead of its __init__ -/
structure New (C : Addr) (H : Hp) (p dx : Addr) (H2 : Hp) : Prop where
  new : Fr H p
  dnew : Fr H dx
  ne : dx ≠ p
  ex : Ex H H2
  at_ : At H2 p (.ins C dx [])
  own : At H2 dx (.own p)
def dMk (C : Addr) (sp : Sp) (dvs : List V) (E : XK) (Q : VK) : List V → Hp → Prop := fun vs H1 => ∀ x dx, Fr H1 x → Fr H1 dx → dx ≠ x → sp (.ref x :: (vs ++ dvs)) (upd (upd H1 dx (.own x)) x (.ins C dx [])) (fun v H2 => v = .non ∧ Q (.ref x) H2) E
theorem w_make {dvs : List V} (h : ts σ H (dMk C sp dvs E Q)) : tMake C sp dvs E ts σ H Q := h
theorem w_dMk {dvs vs : List V} (h : ∀ p dx H2, New C H p dx H2 → sp (.ref p :: (vs ++ dvs)) H2 (fun v H3 => v = .non ∧ Q (.ref p) H3) E) : dMk C sp dvs E Q vs H := fun p dx hp hd hne =>
  h p dx _ ⟨hp, hd, hne, (Ex.new hd).trans (Ex.new (by unfold Fr; rw [upd_ne (Ne.symm hne)]; exact hp)), upd_same, by unfold At; rw [upd_ne hne, upd_same]⟩
theorem w_OO (ha : At H a (.ins C dx fs)) (hb : At H b (.ins C dy gs)) (q : sp [.ref a, .ref b] H Q E) : rOO C sp E (.ref a) (.ref b) H Q := ⟨a, dx, fs, b, dy, gs, rfl, rfl, ha, hb, q⟩
theorem w_OI (ha : At H a (.ins C dx fs)) (q : sp [.ref a, .int i] H Q E) : rOI C sp E (.ref a) (.int i) H Q := ⟨a, dx, fs, i, rfl, rfl, ha, q⟩
theorem w_IO (ha : At H a (.ins C dx fs)) (q : sp [.ref a, .int i] H Q E) : rIO C sp E (.int i) (.ref a) H Q := ⟨a, dx, fs, i, rfl, rfl, ha, q⟩
theorem w_UO (ha : At H a (.ins C dx fs)) (q : sp [.ref a] H Q E) : rUO C sp E (.ref a) H Q := ⟨a, dx, fs, rfl, ha, q⟩
theorem w_C1 (ha : At H a (.ins C dx fs)) (q : sp [.ref a] H Q E) : rC1 C sp E [.ref a] H Q := ⟨a, dx, fs, rfl, ha, q⟩
theorem w_gcd (q : Q (.int ((Nat.gcd i.natAbs j.natAbs : Nat) : Int)) H) : rGcd [.int i, .int j] H Q := ⟨i, j, rfl, q⟩
def rAbsI : List V → Hp → VK → Prop := fun xs H Q => ∃ i, xs = [.int i] ∧ Q (.int (if i < 0 then -i else i)) H
theorem call_absI {X : Cx} : CallR X (.builtin "abs") rAbsI := L2.call_abs
theorem w_absI (q : Q (.int (i.natAbs : Int)) H) : rAbsI [.int i] H Q := ⟨i, rfl, by
  have e : (if i < 0 then -i else i) = (i.natAbs : Int) := by split <;> omega
  rw [e]; exact q⟩
/-- isinstance of an instance, with an own class -/
theorem w_isiOC (O : OwnC K C) (ha : At H a (.ins C dx fs)) (q : Q (.bl true) H) : rIsi K [.ref a, .ref C] H Q := ⟨_, _, .ref C, .ref C, true, rfl, .own C, .base (.ins ha O.cl O.ca O.cn O.ct O.cm), O.kCC, q⟩
theorem w_isiOI (O : OwnC K C) (ha : At H a (.ins C dx fs)) (q : Q (.bl false) H) : rIsi K [.ref a, .ty "int"] H Q := ⟨_, _, .ref C, .type "int", false, rfl, .ty "int", .base (.ins ha O.cl O.ca O.cn O.ct O.cm), O.kCI, q⟩
theorem w_isiIC (O : OwnC K C) (q : Q (.bl false) H) : rIsi K [.int i, .ref C] H Q := ⟨_, _, .type "int", .ref C, false, rfl, .own C, .base (.int _), O.kIC, q⟩
end
theorem rawOk {P : Program} {w : World} {K : PySem.W.Frag} {mg : Str → Option Value} {base : Heap} {CX : CXT} {k : Nat} {f : Addr} {fd : FuncData} {ps : List Str} {sp : Sp} (F : FnOk P w K mg base CX k f fd ps sp) (hb : Binds K fd ps []) : FnR P w K mg base CX k f sp :=
  (F.raw hb .nil).imp fun vs H Q E h => by rw [List.append_nil]; exact h
/-! ### the head's facts as truth values of the written part -/
open He in
def obsZ (n : Nat) (ex : List (PySem.W.Frag → Bool)) (fn : List DefD) (g : Addr → Option Obj) : AlD := ((ex.all fun f => f (frG g (asD g n))) && fn.all fun d => d.ok (frG g (asD g n)), fn.map fun d => fnW (frG g (asD g n)) d.at_)
structure SaysZ (ex : List (PySem.W.Frag → Bool)) (fn : List He.DefD) (K : PySem.W.Frag) : Prop where
  facts : ∀ f ∈ ex, f K = true
  d : He.SaysD [] fn K
theorem SaysZ.fact {ex : List (PySem.W.Frag → Bool)} {fn : List He.DefD} {K : PySem.W.Frag} (c : SaysZ ex fn K) (i : Nat) {f : PySem.W.Frag → Bool} (h : ex[i]? = some f := by rfl) : f K = true := c.facts f (List.mem_of_getElem? h)
def hookZ (n : Nat) (ex : List (PySem.W.Frag → Bool)) (fn : List He.DefD) : PySem.W.Hook where
  α := He.AlD
  obs := fun s => obsZ n ex fn s.heap.get?
  val := fun _ => He.valD fn
  says := fun _ h => ∃ K : PySem.W.Frag, K.In h ∧ SaysZ ex fn K
  of := fun _ s e => by
    have e1 := congrArg (fun z : He.AlD => z.1) e
    have e2 := congrArg (fun z : He.AlD => z.2) e
    obtain ⟨h1, h2⟩ := He.ba e1
    refine ⟨He.frG s.heap.get? (He.asD s.heap.get? n), He.frG_in, fun f hf => List.all_eq_true.mp h1 f hf, ?_⟩
    show ((([] : List He.Fa).all fun f => f.ok _) && fn.all fun d => d.ok _, fn.map fun d => He.fnW _ d.at_) = (true, fn.map He.DefD.val)
    rw [h2]
    exact congrArg (fun z => (true, z)) e2
  keeps := fun _ _ _ ⟨K, hK, c⟩ k => ⟨K, PySem.W.Frag.In.keeps hK k, c⟩
theorem obsZ_eq {n : Nat} {ex : List (PySem.W.Frag → Bool)} {fn : List He.DefD} {g : Addr → Option Obj} {s : Shared} (h : ∀ a, g a = s.heap.get? a) : obsZ n ex fn g = (hookZ n ex fn).obs s := by
  have e : g = s.heap.get? := funext h
  rw [e]
  rfl
def bltB (x : Str) (id : String) (K : PySem.W.Frag) : Bool := He.eqO (PySem.W.nsIn K mainGlobals x) (some (some (.builtin id)))
theorem blt_ok {K : PySem.W.Frag} {h : Heap} {mg : Str → Option Value} (X : K.In h) (G : h.Ns mainGlobals mg) {x : Str} {id : String} (c : bltB x id K = true) : mg x = some (.builtin id) := PySem.W.mg_of X G (He.eqO_ok c)
def nometB (x f : Str) (K : PySem.W.Frag) : Bool := He.eqO (PySem.W.findIn K (.ref (He.ga K x)) f) (some none)
theorem nomet_ok {K : PySem.W.Frag} {x f : Str} (c : nometB x f K = true) : PySem.W.findIn K (.ref (He.ga K x)) f = some none := He.eqO_ok c
end Z
namespace Z
open PySem L2 PySem.Spec PyProof.Rows
/-! ### calls whose errors are wished for at the caller's slots -/
section
variable {X : Cx} {CX : CXT} {k : Nat} {f g C : Addr} {fd : FuncData} {ps : List Str} {sp : Sp} {dvs : List V} {ds : List Value} {E : L2.St → XK} {x m : Str} {p pos apos : Pos} {e o : Expr} {es : List Expr} {ta tb : TE} {t : TA} {a b : Expr}
theorem runR {pins : List (Addr × Obj)} {σ : L2.St} {G : Hp} {s : Shared} {Q : VK} {us : List Value} {vs : List V} (F : FnR X.prog X.w X.K X.mg X.base CX k f sp) (hr : Room k X.A) (hx : PassesAt CX X σ (E σ)) (I : Inv X pins σ G s) (r : Vals vs us) (h : sp vs G Q (E σ)) :
    codeAny (model X.prog X.w) X.A (.call (.ref f) ⟨us, []⟩) (fun r s' => match r with | .ok (.ret v) => EP X pins σ Q v s' | .ok _ => False | .error e => X.xe e s') s :=
  codeAny_mono (F X.A X.stack s G us vs Q (E σ) hr I.env0 r h) fun r s' hq => match r, hq with
    | .error e, hq => hx pins G s e s' I hq
    | .ok (.ret u), hq => I.after hq
    | .ok .next, hq => hq
    | .ok .brk, hq => hq
    | .ok .cont, hq => hq
def tCallZ (sp : Sp) (dvs : List V) (E : L2.St → XK) (t : TA) : TE := fun σ H Q => tCall sp dvs (E σ) t σ H Q
theorem pe_callZ (F : FnOk X.prog X.w X.K X.mg X.base CX k f fd ps sp) (hr : Room k X.A) (hg : Gl X x) (hm : X.mg x = some (.ref f)) (hk : PySem.W.keepIn X.K (.ref f) = true) (hb : Binds X.K fd ps ds) (hd : Vals dvs ds) (hx : ∀ σ, PassesAt CX X σ (E σ)) (ha : PA X (e :: es) t)
    (hdb : (x == ("__debug__" : Str)) = false := by decide) (hst : starEach (e :: es) X.env = (false, eval e X.env) :: starEach es X.env := by rfl) (hpl : (backTo pos (starEach es X.env)).any (·.1) = false := by rfl) : PE X (.Call (.Name x p) (e :: es) [] pos) (tCallZ sp dvs E t) :=
  pe_callSD F hr hg hm hk hb hd hx ha hdb hst hpl
theorem pe_callZ0 (F : FnOk X.prog X.w X.K X.mg X.base CX k f fd ps sp) (hr : Room k X.A) (hg : Gl X x) (hm : X.mg x = some (.ref f)) (hk : PySem.W.keepIn X.K (.ref f) = true) (hb : Binds X.K fd ps ds) (hd : Vals dvs ds) (hx : ∀ σ, PassesAt CX X σ (E σ))
    (hdb : (x == ("__debug__" : Str)) = false := by decide) : PE X (.Call (.Name x p) [] [] pos) (tCallZ sp dvs E tNil) :=
  ⟨fun pins s σ G Q I h => wpAny_Call_Name_kw (ld_glob I hg hm (PySem.W.callWith_K0 I.kIn hk (run_fnSD (us := []) F hr hb hd (hx σ) I .nil h)) hdb)⟩
def tMethZ (C : Addr) (m : Str) (sp : Sp) (dvs : List V) (E : L2.St → XK) (ta : TE) (t : TA) : TE := fun σ H Q => tMeth C m sp dvs (E σ) ta t σ H Q
theorem pe_methZ {pl : Sem Bool} (he : PE X o ta) (c : Cls X.K C) (hm : Meth X.K C m f) (F : FnOk X.prog X.w X.K X.mg X.base CX k f fd ps sp) (hr : Room k X.A) (hb : Binds X.K fd ps ds) (hd : Vals dvs ds) (hx : ∀ σ, PassesAt CX X σ (E σ)) (ha : PA X (e :: es) t)
    (hst : starEach (e :: es) X.env = (false, eval e X.env) :: starEach es X.env := by rfl) (hpl : (backTo pos (starEach es X.env)).any (·.1) = false := by rfl)
    (ht : eval (.Call (.Attribute o m apos) (e :: es) [] pos) X.env = (do let ov ← eval o X.env; standAt apos.atName; let (f, first) ← holding [ov] (getMethod ov m pl); callWith pos f first (backTo pos (starEach (e :: es) X.env)) (backToKw pos (keywordEach [] X.env))) := by rfl) :
    PE X (.Call (.Attribute o m apos) (e :: es) [] pos) (tMethZ C m sp dvs E ta t) :=
  ⟨fun pins s σ G Q I h => PySem.W.methodCall_KW (pl := pl) (thn (he.run pins s σ G _ I h) fun u s1 ⟨z, H1, I1, rx, a, dx, fs, ex, ea, l, q⟩ => by
    subst ex
    obtain rfl : u = Value.ref a := rx
    exact getmeth_ok I1 ea c hm l (PySem.W.callWith_K (first := [.ref a]) (h₀ := X.base) I.ok.mod.kin hm.kp (thn (ha.run pos pins s1 σ H1 _ I1 q) fun us s2 ⟨vs, H2, I2, r, q2⟩ => ⟨I2.kIn, run_fnSD (us := .ref a :: us) (vs := .ref a :: vs) F hr hb hd (hx σ) I2 (.cons rfl r) q2⟩) hst hpl)) ht⟩
theorem pe_methZ0 {pl : Sem Bool} (he : PE X o ta) (c : Cls X.K C) (hm : Meth X.K C m f) (F : FnOk X.prog X.w X.K X.mg X.base CX k f fd ps sp) (hr : Room k X.A) (hb : Binds X.K fd ps ds) (hd : Vals dvs ds) (hx : ∀ σ, PassesAt CX X σ (E σ))
    (ht : eval (.Call (.Attribute o m apos) [] [] pos) X.env = (do let ov ← eval o X.env; standAt apos.atName; let (f, first) ← holding [ov] (getMethod ov m pl); callWith pos f first (backTo pos (starEach [] X.env)) (backToKw pos (keywordEach [] X.env))) := by rfl) :
    PE X (.Call (.Attribute o m apos) [] [] pos) (tMethZ C m sp dvs E ta tNil) :=
  ⟨fun pins s σ G Q I h => PySem.W.methodCall_KW (pl := pl) (thn (he.run pins s σ G _ I h) fun u s1 ⟨z, H1, I1, rx, a, dx, fs, ex, ea, l, q⟩ => by
    subst ex
    obtain rfl : u = Value.ref a := rx
    exact getmeth_ok I1 ea c hm l (PySem.W.callWith_K0 (first := [.ref a]) I1.kIn hm.kp (run_fnSD (us := [.ref a]) (vs := [.ref a]) F hr hb hd (hx σ) I1 (.cons rfl .nil) q))) ht⟩
theorem run_makeZ {pins : List (Addr × Obj)} {σ : L2.St} {G : Hp} {s : Shared} {Q : VK} {us : List Value} {vs : List V} (M : Mk X.K C f) (F : FnOk X.prog X.w X.K X.mg X.base CX k f fd ps sp) (hr : Room (k + 1) X.A) (hb : Binds X.K fd ps ds) (hd : Vals dvs ds) (hx : PassesAt CX X σ (E σ)) (I : Inv X pins σ G s) (r : Vals vs us)
    (h : ∀ x dx, G x = none → G dx = none → dx ≠ x → sp (.ref x :: (vs ++ dvs)) (upd (upd G dx (.own x)) x (.ins C dx [])) (fun v H2 => v = .non ∧ Q (.ref x) H2) (E σ)) : wpAny (model X.prog X.w) X.A (call (.ref C) us) (EP X pins σ Q) X.xe s := by
  have hq := h (s.heap.objs.size + 1) s.heap.objs.size (I.hok.fresh (Nat.le_succ _)) (I.hok.fresh (Nat.le_refl _)) (Nat.ne_of_lt (Nat.lt_succ_self _))
  have J := Inv.made (C := C) I
  have w2 : Vals (V.ref (s.heap.objs.size + 1) :: (vs ++ dvs)) (Value.ref (s.heap.objs.size + 1) :: (us ++ ds)) := .cons rfl (r.append hd)
  have hn : (Value.ref (s.heap.objs.size + 1) :: us ++ ds).length = ps.length := (w2.length.symm.trans (F.len _ _ _ _ hq) : _)
  refine wpAny_call (make_map (f := f) I.kIn M.makes M.init (beq_iff_eq.mp M.fn) (codeAny_mono (F.run _ X.stack _ _ ⟨Value.ref (s.heap.objs.size + 1) :: us, []⟩ _ _ _ (E σ) (hr.make C us []) (J.env0.make C us []) (hb _ (Value.ref (s.heap.objs.size + 1) :: us) J.kIn hn) w2 hq) fun r s' z => ?_))
  match r, z with
  | .error e, z => exact hx pins _ _ e s' J z
  | .ok (.ret u), z =>
    obtain ⟨v, H', I3, rv, ev, q3⟩ := J.after z
    subst ev
    exact ⟨rv, V.ref (s.heap.objs.size + 1), H', I3, rfl, q3⟩
  | .ok .next, z => exact z.elim
  | .ok .brk, z => exact z.elim
  | .ok .cont, z => exact z.elim
def tMakeZ (C : Addr) (sp : Sp) (dvs : List V) (E : L2.St → XK) (t : TA) : TE := fun σ H Q => tMake C sp dvs (E σ) t σ H Q
theorem pe_makeZ (M : Mk X.K C f) (F : FnOk X.prog X.w X.K X.mg X.base CX k f fd ps sp) (hr : Room (k + 1) X.A) (hg : Gl X x) (hm : X.mg x = some (.ref C)) (hb : Binds X.K fd ps ds) (hd : Vals dvs ds) (hx : ∀ σ, PassesAt CX X σ (E σ)) (ha : PA X (e :: es) t)
    (hdb : (x == ("__debug__" : Str)) = false := by decide) (hst : starEach (e :: es) X.env = (false, eval e X.env) :: starEach es X.env := by rfl) (hpl : (backTo pos (starEach es X.env)).any (·.1) = false := by rfl) : PE X (.Call (.Name x p) (e :: es) [] pos) (tMakeZ C sp dvs E t) :=
  ⟨fun pins s σ G Q I h => wpAny_Call_Name_kw (ld_glob I hg hm (PySem.W.callWith_K (h₀ := X.base) I.ok.mod.kin M.kp (thn (ha.run pos pins s σ G _ I h) fun us s1 ⟨vs, H1, I1, r, q⟩ => ⟨I1.kIn, run_makeZ M F hr hb hd (hx σ) I1 r q⟩) hst hpl) hdb)⟩
theorem pe_makeZ0 (M : Mk X.K C f) (F : FnOk X.prog X.w X.K X.mg X.base CX k f fd ps sp) (hr : Room (k + 1) X.A) (hg : Gl X x) (hm : X.mg x = some (.ref C)) (hb : Binds X.K fd ps ds) (hd : Vals dvs ds) (hx : ∀ σ, PassesAt CX X σ (E σ))
    (hdb : (x == ("__debug__" : Str)) = false := by decide) : PE X (.Call (.Name x p) [] [] pos) (tMakeZ C sp dvs E tNil) :=
  ⟨fun pins s σ G Q I h => wpAny_Call_Name_kw (ld_glob I hg hm (PySem.W.callWith_K0 I.kIn M.kp (run_makeZ (us := []) M F hr hb hd (hx σ) I .nil h)) hdb)⟩
/-- an operator at the slots σ -/
def OpS (X : Cx) (op : Operator) (r : L2.St → R2) : Prop := ∀ (pins : List (Addr × Obj)) (s : Shared) (σ : L2.St) (G : Hp) (x y : V) (v u : Value) (Q : VK), Inv X pins σ G s → RelV x v → RelV y u → r σ x y G Q → wpAny (model X.prog X.w) X.A (binaryOp op v u) (EP X pins σ Q) X.xe s
def tOpS (r : L2.St → R2) (ta tb : TE) : TE := fun σ H Q => tOp (r σ) ta tb σ H Q
theorem pe_opS {op : Operator} {r : L2.St → R2} (ho : OpS X op r) (ha : PE X a ta) (hb : PE X b tb) : PE X (.BinOp a op b pos) (tOpS r ta tb) :=
  ⟨fun pins s σ G Q I h => wpAny_BinOp (binT ha hb I h fun v u s2 x y H2 I2 rx ry q => ho pins s2 σ H2 x y v u Q I2 rx ry q)⟩
theorem OpS.or {op : Operator} {r q : L2.St → R2} (h : OpS X op r) (g : OpS X op q) : OpS X op (fun σ x y H Q => r σ x y H Q ∨ q σ x y H Q) := fun pins s σ G x y v u Q I rx ry z => z.elim (h pins s σ G x y v u Q I rx ry) (g pins s σ G x y v u Q I rx ry)
theorem OpS.of {op : Operator} {r : R2} (h : OpR X (binaryOp op) r) : OpS X op (fun _ => r) := fun pins s σ G x y v u Q I rx ry z => h pins s σ G x y v u Q I rx ry z
theorem opS_OO {op : Operator} (O : OwnC X.K C) (hs : PySem.W.findIn X.K (.ref C) (PySem.dunder op.info.2) = some (some (.ref g))) (hf : PySem.W.isFn X.K (.ref g) = true) (F : FnR X.prog X.w X.K X.mg X.base CX k g sp) (hr : Room k X.A) (hx : ∀ σ, PassesAt CX X σ (E σ)) :
    OpS X op (fun σ => rOO C sp (E σ)) := by
  intro pins s σ G x y v u Q I rx ry h
  obtain ⟨a, dx, fs, b, dy, gs, rfl, rfl, ha, hb, q⟩ := h
  cases (show v = Value.ref a from rx)
  cases (show u = Value.ref b from ry)
  obtain ⟨od, J⟩ := inst_of I ha
  obtain ⟨od', J'⟩ := inst_of I hb
  obtain ⟨m, hF⟩ := I.fr
  exact PySem.W.binop_K hF I.ok.mod.kin J J'.type O.sf hs hf (wpAny_mono (wpAny_call (runR (us := [.ref a, .ref b]) (vs := [.ref a, .ref b]) F hr (hx σ) I (.cons rfl (.cons rfl .nil)) q)) (fun w s' ⟨z', H', I', rz, qz⟩ => SlX.cmpback rz ⟨z', H', I', rz, qz⟩) fun _ _ x => x)
theorem opS_OI {op : Operator} {rc : Option Value} (O : OwnC X.K C) (hs : PySem.W.findIn X.K (.ref C) (PySem.dunder op.info.2) = some (some (.ref g))) (hf : PySem.W.isFn X.K (.ref g) = true) (hr' : PySem.W.findIn X.K (.ref C) (dunderR op.info.2) = some rc) (hp : rc = none ∨ ∃ g : Addr, rc = some (.ref g)) (h12 : IntHas op.info.2)
    (F : FnR X.prog X.w X.K X.mg X.base CX k g sp) (hr : Room k X.A) (hx : ∀ σ, PassesAt CX X σ (E σ)) : OpS X op (fun σ => rOI C sp (E σ)) := by
  intro pins s σ G x y v u Q I rx ry h
  obtain ⟨a, dx, fs, i, rfl, rfl, ha, q⟩ := h
  cases (show v = Value.ref a from rx)
  obtain ⟨t, rfl⟩ := (show ∃ t, u = Value.int i t from ry)
  obtain ⟨od, J⟩ := inst_of I ha
  obtain ⟨m, hF⟩ := I.fr
  exact PySem.W.ksp_binT (T := "int") hF I.ok.mod.kin J rfl O.sf hs hf hr' hp (h12 X.K).1.choose_spec (h12 X.K).2.choose_spec O.ni (wpAny_mono (wpAny_call (runR (us := [.ref a, .int i t]) (vs := [.ref a, .int i]) F hr (hx σ) I (.cons rfl (.cons ⟨t, rfl⟩ .nil)) q)) (fun w s' ⟨z', H', I', rz, qz⟩ => SlX.cmpback rz ⟨z', H', I', rz, qz⟩) fun _ _ x => x)
end
/-! ### try .. except X as n; isinstance of the caught error -/
section
variable {X : Cx} {x n : Str} {c : Value} {i : Nat} {body suite : List Stmt} {b₀ : Stmt} {np pos pos' : Pos} {tb : WX → TS} {ts : Addr → Value → Option Addr → TS} {Wout : WX}
def tTryA (K : PySem.W.Frag) (c : Value) (i : Nat) (tb : WX → TS) (ts : Addr → Value → Option Addr → TS) (Wout : WX) : TS := fun D σ H => tb (wAs K c i ts Wout D) D σ H
theorem ps_tryA (hs : X.stack = X.env :: X.outer) (hf : X.env.frame = some X.env.locals) (hN : X.N.Nodup) (hi : X.N[i]? = some n) (hln : X.env.kindOf n = some .local) (hc : Names X x c) (tk : Takes X Wout)
    (hb : ∀ (W : WX) (pn : List (Addr × Obj)) (xe : Value → Shared → Prop), Takes (X.tr pn xe) W → PassesOwn (model X.prog X.w) X.A X.env xe → PSs (X.tr pn xe) body (tb W))
    (hsu : ∀ (a : Addr) (oe : Obj) (cls : Value) (d : Option Addr) (pn : List (Addr × Obj)), Zc cls d oe → (∃ vs, oe.data = .fields vs) → PSs (X.suite a ((a, oe) :: pn)) (b₀ :: suite) (ts a cls d)) :
    PS X (.Try body [.ExceptHandler (some (.Name x np)) (some n) (b₀ :: suite) pos'] [] [] pos) (tTryA X.K c i tb ts Wout) := ps_try_as hs hf hN hi hln hc tk hb hsu
def tTryO (K : PySem.W.Frag) (c : Value) (tb : WX → TS) (ts : Addr → Value → Option Addr → TS) (Wout : WX) : TS := fun D σ H => tb (wOnly K c ts Wout D) D σ H
theorem ps_tryO (hs : X.stack = X.env :: X.outer) (hf : X.env.frame = some X.env.locals) (hc : Names X x c) (tk : Takes X Wout)
    (hb : ∀ (W : WX) (pn : List (Addr × Obj)) (xe : Value → Shared → Prop), Takes (X.tr pn xe) W → PassesOwn (model X.prog X.w) X.A X.env xe → PSs (X.tr pn xe) body (tb W))
    (hsu : ∀ (a : Addr) (oe : Obj) (cls : Value) (d : Option Addr) (pn : List (Addr × Obj)), Zc cls d oe → (∃ vs, oe.data = .fields vs) → PSs (X.suite a ((a, oe) :: pn)) (b₀ :: suite) (ts a cls d)) :
    PS X (.Try body [.ExceptHandler (some (.Name x np)) none (b₀ :: suite) pos'] [] [] pos) (tTryO X.K c tb ts Wout) := ps_try_only hs hf hc tk hb hsu
def rIsZ (K : PySem.W.Frag) (cls : Value) (d : Option Addr) (a : Addr) : List V → Hp → VK → Prop := fun xs H Q => ∃ D, cls = .ref D ∧ d = none ∧ ExcC K D ∧ rIsE K D a xs H Q
theorem call_isZ {a : Addr} {oe : Obj} {cls : Value} {d : Option Addr} {pn : List (Addr × Obj)} (hz : Zc cls d oe) (hf : ∃ vs, oe.data = .fields vs) : CallR (X.suite a ((a, oe) :: pn)) (.builtin "isinstance") (rIsZ X.K cls d a) := by
  intro pins s σ G xs us Q I r h
  obtain ⟨D, rfl, rfl, C, h⟩ := h
  exact call_isE C hz hf pins s σ G xs us Q I r h
end
section
variable {K : PySem.W.Frag} {σ : L2.St} {H : Hp} {Q : VK} {D : Ends} {tb : WX → TS} {ts : Addr → Value → Option Addr → TS} {Wout : WX} {c cls : Value} {d : Option Addr} {i : Nat} {ta : TE} {t : TA} {sp : Sp} {dvs : List V} {E : L2.St → XK} {C a b dx : Addr} {m : Str} {fs : List (Str × V)}
theorem w_tryA (h : tb (wAs K c i ts Wout D) D σ H) : tTryA K c i tb ts Wout D σ H := h
theorem w_tryO (h : tb (wOnly K c ts Wout D) D σ H) : tTryO K c tb ts Wout D σ H := h
/-- behind an except suite with a name -/
def endAs (D : Ends) (i : Nat) : Ends := { nx := fun σ' H' => D.nx (σ'.set i none) H', rt := D.rt, bk := fun σ' H' => D.bk (σ'.set i none) H', ct := fun σ' H' => D.ct (σ'.set i none) H' }
theorem w_as (h : PySem.W.exmOne K cls c = some true) (q : ∀ a, Fr H a → ts a cls d (endAs D i) (σ.set i (some (.ref a))) H) : WE (wAs K c i ts Wout D) σ cls d H := ⟨true, h, fun _ a ha => q a ha, fun z => nomatch z⟩
theorem w_asN (h : PySem.W.exmOne K cls c = some false) (q : Wout cls d σ H) : WE (wAs K c i ts Wout D) σ cls d H := ⟨false, h, fun z => (nomatch z), fun _ => q⟩
theorem w_only (h : PySem.W.exmOne K cls c = some true) (q : ∀ a, Fr H a → ts a cls d D σ H) : WE (wOnly K c ts Wout D) σ cls d H := ⟨true, h, fun _ a ha => q a ha, fun z => nomatch z⟩
theorem w_onlyN (h : PySem.W.exmOne K cls c = some false) (q : Wout cls d σ H) : WE (wOnly K c ts Wout D) σ cls d H := ⟨false, h, fun z => (nomatch z), fun _ => q⟩
theorem w_enx (h : D.nx (σ.set i none) H) : (endAs D i).nx σ H := h
theorem w_ert {v : V} (h : D.rt v H) : (endAs D i).rt v H := h
theorem w_ebk (h : D.bk (σ.set i none) H) : (endAs D i).bk σ H := h
theorem w_ect (h : D.ct (σ.set i none) H) : (endAs D i).ct σ H := h
theorem w_callZ0 (h : t σ H fun vs H1 => sp vs H1 Q (E σ)) : tCallZ sp [] E t σ H Q := by
  show t σ H fun vs H1 => sp (vs ++ []) H1 Q (E σ)
  simp only [List.append_nil]
  exact h
theorem w_callZ (h : t σ H fun vs H1 => sp (vs ++ dvs) H1 Q (E σ)) : tCallZ sp dvs E t σ H Q := h
def dMe (C : Addr) (m : Str) (sp : Sp) (dvs : List V) (E : XK) (t : TA) (σ : L2.St) (Q : VK) : VK := fun x H1 => ∃ a dx fs, x = .ref a ∧ H1 a = some (.ins C dx fs) ∧ fs.lookup m = none ∧ t σ H1 fun vs H2 => sp (x :: (vs ++ dvs)) H2 Q E
theorem w_methZ (h : ta σ H (dMe C m sp dvs (E σ) t σ Q)) : tMethZ C m sp dvs E ta t σ H Q := h
theorem w_meth {E : XK} (h : ta σ H (dMe C m sp dvs E t σ Q)) : tMeth C m sp dvs E ta t σ H Q := h
theorem w_dMe {E : XK} (h : At H a (.ins C dx fs)) (hl : fs.lookup m = none) (q : t σ H fun vs H2 => sp (.ref a :: (vs ++ dvs)) H2 Q E) : dMe C m sp dvs E t σ Q (.ref a) H := ⟨a, dx, fs, rfl, h, hl, q⟩
theorem w_dMe0 {E : XK} (h : At H a (.ins C dx fs)) (hl : fs.lookup m = none) (q : t σ H fun vs H2 => sp (.ref a :: vs) H2 Q E) : dMe C m sp [] E t σ Q (.ref a) H := ⟨a, dx, fs, rfl, h, hl, by simp only [List.append_nil]; exact q⟩
theorem w_makeZ (h : t σ H (dMk C sp dvs (E σ) Q)) : tMakeZ C sp dvs E t σ H Q := h
theorem w_opS {r : L2.St → R2} {tb : TE} (h : ta σ H fun x H1 => tb σ H1 fun y H2 => r σ x y H2 Q) : tOpS r ta tb σ H Q := h
/-- isinstance(e, c) of the caught error, c an own class -/
theorem w_isZ {b : Bool} {e : Addr} (x : ExcC K C) (h : PySem.W.kitOne K (.ref C) (.ref a) = some b) (q : Q (.bl b) H) : rIsZ K (.ref C) none e [.ref e, .ref a] H Q := ⟨C, rfl, rfl, x, .ref a, .ref a, b, rfl, fun u r => r, h, q⟩
theorem w_isZt {b : Bool} {e : Addr} {t : String} (x : ExcC K C) (h : PySem.W.kitOne K (.ref C) (.type t) = some b) (q : Q (.bl b) H) : rIsZ K (.ref C) none e [.ref e, .ty t] H Q := ⟨C, rfl, rfl, x, .ty t, .type t, b, rfl, fun u r => r, h, q⟩
end
def excB (x : Str) (K : PySem.W.Frag) : Bool := decide (PySem.W.findIn K (.ref (He.ga K x)) "__getattribute__" = some (some (.builtin "BaseException.__getattribute__"))) && (decide (PySem.W.findIn K (.ref (He.ga K x)) "__getattr__" = some none) && (decide (PySem.W.subIn K (.ref (He.ga K x)) (.type "BaseException") = some true) &&
  (PySem.W.hasDictIn K (He.ga K x) && (decide (PySem.W.findIn K (.ref (He.ga K x)) "__class__" = some (some (.builtin "object.__class__"))) && (decide (PySem.W.specialIn K (.builtin "object.__class__") "__get__" = some (some (.builtin "getset_descriptor.__get__"))) &&
  (decide (PySem.W.takesIn K (.builtin "object.__class__") = some true) && decide (PySem.W.mroIn K (He.ga K x) (.type "object") = some true)))))))
theorem excB_ok {K : PySem.W.Frag} {x : Str} (h : excB x K = true) : ExcC K (He.ga K x) := by
  obtain ⟨h1, h⟩ := He.ba h
  obtain ⟨h2, h⟩ := He.ba h
  obtain ⟨h3, h⟩ := He.ba h
  obtain ⟨h4, h⟩ := He.ba h
  obtain ⟨h5, h⟩ := He.ba h
  obtain ⟨h6, h⟩ := He.ba h
  obtain ⟨h7, h8⟩ := He.ba h
  exact ⟨of_decide_eq_true h1, of_decide_eq_true h2, of_decide_eq_true h3, h4, of_decide_eq_true h5, of_decide_eq_true h6, of_decide_eq_true h7, of_decide_eq_true h8⟩
/-- what the except clause 'except y' says to an error of the class x -/
def exmB (x y : Str) (b : Bool) (K : PySem.W.Frag) : Bool := decide (PySem.W.exmOne K (.ref (He.ga K x)) (.ref (He.ga K y)) = some b)
theorem exmB_ok {K : PySem.W.Frag} {x y : Str} {b : Bool} (h : exmB x y b K = true) : PySem.W.exmOne K (.ref (He.ga K x)) (.ref (He.ga K y)) = some b := of_decide_eq_true h
def kitB2 (x y : Str) (b : Bool) (K : PySem.W.Frag) : Bool := decide (PySem.W.kitOne K (.ref (He.ga K x)) (.ref (He.ga K y)) = some b)
theorem kitB2_ok {K : PySem.W.Frag} {x y : Str} {b : Bool} (h : kitB2 x y b K = true) : PySem.W.kitOne K (.ref (He.ga K x)) (.ref (He.ga K y)) = some b := of_decide_eq_true h
def kitBt (x : Str) (t : String) (b : Bool) (K : PySem.W.Frag) : Bool := decide (PySem.W.kitOne K (.ref (He.ga K x)) (.type t) = some b)
theorem kitBt_ok {K : PySem.W.Frag} {x : Str} {t : String} {b : Bool} (h : kitBt x t b K = true) : PySem.W.kitOne K (.ref (He.ga K x)) (.type t) = some b := of_decide_eq_true h
/-! ### an int on the left of a comparison -/
theorem one_int {op : CmpOp} {i : Int} {t : Tok} {x : Addr} : oneThing? op (.int i t) (.ref x) = none := by rfl
theorem cmpIO {prog : Program} {w : World} {A : Around} {E : Value → Shared → Prop} {s : Shared} {K : PySem.W.Frag} {x dx C f : Addr} {od : Option Obj} {op : CmpOp} {id : String} {B : Builtin} {i : Int} {t : Tok} {Q : Value → Shared → Prop} (hu : A.units < cLine)
    (X : K.In s.heap) (I : PySem.W.InstAt s.heap x (PySem.W.instObj C dx) C od) (slot : Slot "int" (cmpInfo op).2.1 id) (entry : entryFor table id = some B) (args : argsOk id ⟨[.int i t, .ref x], []⟩) (hB : ∃ nm f, B = Builtin.Int.intBinary nm f false)
    (hs : PySem.W.findIn K (.ref C) (cmpInfo op).2.2 = some (some (.ref f))) (hf : PySem.W.isFn K (.ref f) = true) (hsub : PySem.W.subIn K (.ref C) (.type "int") = some false)
    (h : wpAny (model prog w) A (call (.ref f) [.ref x, .int i t]) (PySem.W.CmpBack Q) E s) : wpAny (model prog w) A (richCompare op (.int i t) (.ref x)) Q E s := by
  have hx : s.heap.get? x = some (PySem.W.instObj C dx) := I.1
  have one : wpAny (model prog w) A (tryCompare (.int i t) (cmpInfo op).2.1 (.ref x)) (fun r s' => r = none ∧ s' = s) E s := by
    simp only [tryCompare]
    exact wpAny_bind (wpAny_callSpecialIfBound?_slot (typeIs_int s i t) slot (int_ni slot entry args hB hx (wpAny_pure ⟨rfl, rfl⟩)))
  have two : wpAny (model prog w) A (tryCompare (.ref x) (cmpInfo op).2.2 (.int i t)) (fun r s' => ∃ v, r = some v ∧ Q v s') E s := by
    simp only [tryCompare]
    refine wpAny_bind (PySem.W.ifBound_K X I hs hf (wpAny_mono h (fun v s' hv => ?_) fun _ _ e => e))
    cases v <;> first | exact wpAny_pure ⟨_, rfl, hv⟩ | exact hv.elim
  have ne : (Value.type "int" != Value.ref C) = true := by
    have : (Value.type "int" == Value.ref C) = false := Bool.eq_false_iff.mpr fun q => by cases beq_iff_eq.mp q
    simp only [bne, this, Bool.not_false]
  have L1 : PySem.W.Looks (model prog w) s.heap (typeOf (.ref x)) (.ref C) := I.type
  have L5 : PySem.W.Looks (model prog w) s.heap (isSubtype (.ref C) (.type "int")) false := PySem.W.looks_subIn X hsub
  unfold richCompare
  simp only [one_int]
  refine wpAny_holding (wpAny_bind (wpAny_cRoomFor hu ?_))
  refine wpAny_bind (wpAny_typeOf (typeIs_int s i t) (wpAny_bind (L1.here ?_)))
  simp only [ne, if_true]
  refine wpAny_bind (L5.here ?_)
  simp only [Bool.false_eq_true, if_false, Bool.not_false, if_true]
  refine wpAny_bind (wpAny_mono one (fun r s' hr => ?_) fun _ _ e => e)
  obtain ⟨rfl, rfl⟩ := hr
  dsimp only
  refine wpAny_bind (wpAny_mono two (fun r s' hr => ?_) fun _ _ e => e)
  obtain ⟨v, rfl, hq⟩ := hr
  exact wpAny_pure hq
section
variable {X : Cx} {CX : CXT} {n : Nat} {C g : Addr} {sp : Sp} {E : XK}
theorem cmp_IO {op : CmpOp} {id : String} {B : Builtin} (hop : ∀ a b, compareOp op a b = richCompare op a b) (O : OwnC X.K C) (slot : Slot "int" (cmpInfo op).2.1 id) (entry : entryFor table id = some B) (args : ∀ a b, argsOk id ⟨[a, b], []⟩) (hB : ∃ nm f, B = Builtin.Int.intBinary nm f false)
    (hs : PySem.W.findIn X.K (.ref C) (cmpInfo op).2.2 = some (some (.ref g))) (hf : PySem.W.isFn X.K (.ref g) = true) (F : FnR X.prog X.w X.K X.mg X.base CX n g sp) (hr : Room n X.A) (hx : Passes CX X E) : OpR X (compareOp op) (rIO C sp E) := by
  intro pins s σ G x y v u Q I rx ry h
  obtain ⟨a, dx, fs, i, rfl, rfl, ha, q⟩ := h
  obtain ⟨t, rfl⟩ := (show ∃ t, v = Value.int i t from rx)
  cases (show u = Value.ref a from ry)
  obtain ⟨od, J⟩ := inst_of I ha
  rw [hop]
  exact cmpIO hr.units0 I.kIn J slot entry (args _ _) hB hs hf O.ni' (wpAny_mono (wpAny_call (run_fnR (us := [.ref a, .int i t]) (vs := [.ref a, .int i]) F hr hx I (.cons rfl (.cons ⟨t, rfl⟩ .nil)) q)) (fun w s' ⟨z', H', I', rz, qz⟩ => SlX.cmpback rz ⟨z', H', I', rz, qz⟩) fun _ _ x => x)
theorem cmp_IO_lt (O : OwnC X.K C) (hs : PySem.W.findIn X.K (.ref C) "__gt__" = some (some (.ref g))) (hf : PySem.W.isFn X.K (.ref g) = true) (F : FnR X.prog X.w X.K X.mg X.base CX n g sp) (hr : Room n X.A) (hx : Passes CX X E) : OpR X (compareOp .Lt) (rIO C sp E) :=
  cmp_IO (op := .Lt) (fun _ _ => rfl) O PySem.F.slot_int_lt PySem.F.entry_int_lt PySem.F.args_int_lt_2 ⟨_, _, rfl⟩ hs hf F hr hx
theorem cmp_IO_le (O : OwnC X.K C) (hs : PySem.W.findIn X.K (.ref C) "__ge__" = some (some (.ref g))) (hf : PySem.W.isFn X.K (.ref g) = true) (F : FnR X.prog X.w X.K X.mg X.base CX n g sp) (hr : Room n X.A) (hx : Passes CX X E) : OpR X (compareOp .LtE) (rIO C sp E) :=
  cmp_IO (op := .LtE) (fun _ _ => rfl) O PySem.F.slot_int_le PySem.F.entry_int_le PySem.F.args_int_le_2 ⟨_, _, rfl⟩ hs hf F hr hx
theorem cmp_IO_gt (O : OwnC X.K C) (hs : PySem.W.findIn X.K (.ref C) "__lt__" = some (some (.ref g))) (hf : PySem.W.isFn X.K (.ref g) = true) (F : FnR X.prog X.w X.K X.mg X.base CX n g sp) (hr : Room n X.A) (hx : Passes CX X E) : OpR X (compareOp .Gt) (rIO C sp E) :=
  cmp_IO (op := .Gt) (fun _ _ => rfl) O PySem.F.slot_int_gt PySem.F.entry_int_gt PySem.F.args_int_gt_2 ⟨_, _, rfl⟩ hs hf F hr hx
theorem cmp_IO_ge (O : OwnC X.K C) (hs : PySem.W.findIn X.K (.ref C) "__le__" = some (some (.ref g))) (hf : PySem.W.isFn X.K (.ref g) = true) (F : FnR X.prog X.w X.K X.mg X.base CX n g sp) (hr : Room n X.A) (hx : Passes CX X E) : OpR X (compareOp .GtE) (rIO C sp E) :=
  cmp_IO (op := .GtE) (fun _ _ => rfl) O PySem.F.slot_int_ge PySem.F.entry_int_ge PySem.F.args_int_ge_2 ⟨_, _, rfl⟩ hs hf F hr hx
theorem cmp_IO_eq (O : OwnC X.K C) (hs : PySem.W.findIn X.K (.ref C) "__eq__" = some (some (.ref g))) (hf : PySem.W.isFn X.K (.ref g) = true) (F : FnR X.prog X.w X.K X.mg X.base CX n g sp) (hr : Room n X.A) (hx : Passes CX X E) : OpR X (compareOp .Eq) (rIO C sp E) :=
  cmp_IO (op := .Eq) (fun _ _ => rfl) O PySem.F.slot_int_eq PySem.F.entry_int_eq PySem.F.args_int_eq_2 ⟨_, _, rfl⟩ hs hf F hr hx
end
/-! ### bool(x) -/
theorem bool_own {prog : Program} {w : World} {A : Around} {E : Value → Shared → Prop} {s : Shared} {K : PySem.W.Frag} {x C f L : Addr} {h₀ : Heap} {m : Str → Option Value} {ox : Obj} {od : Option Obj} {Q : Value → Shared → Prop} (F : PyProof.Rows.Fr h₀ L s.heap m) (X : K.In h₀)
    (I : PySem.W.InstAt s.heap x ox C od) (hs : PySem.W.findIn K (.ref C) "__bool__" = some (some (.ref f))) (hf : PySem.W.isFn K (.ref f) = true)
    (h : wpAny (model prog w) A.in1.in1 (call (.ref f) [.ref x]) (fun r s₁ => ∃ b, r = Value.bool b ∧ Q r s₁) E s) : wpAny (model prog w) A (call (.type "bool") [.ref x]) Q E s := by
  refine callType_codes (T := "bool") (Bi := Builtin.«object.__init__») (Q₁ := fun r s₁ => ∃ b, r = Value.bool b ∧ Q r s₁) PySem.F.called_bool (PySem.F.typeCall_bool_1 _) PySem.F.entry_object_init ?_ ?_
  · refine codeAny_of_tree ?_
    show wpAny _ A.in1.in1 (do checkBuiltinCall "bool.__new__" ⟨[.type "bool", .ref x], []⟩; again (.builtin "bool.__new__" ⟨[.type "bool", .ref x], []⟩)) _ _ s
    refine wpAny_bind (wpAny_of_eq (PySem.F.newCall_bool_1 _) (wpAny_pure ⟨plainId_quiet (by decide +kernel) _, codeAny_builtin PySem.F.entry_bool_new ?_⟩))
    rw [Around.under_plainId (by decide +kernel) _]
    unfold Builtin.«bool.__new__»
    refine wpAny_bind (wpAny_of_eq (a := true) (by first | rfl | kernel_rfl) ?_)
    refine PySem.W.KFB.if_not rfl ?_
    refine wpAny_bind (wpAny_of_eq (a := true) PySem.F.conv_sub_bool ?_)
    refine PySem.W.KFB.if_not rfl ?_
    refine wpAny_bind (wpAny_of_eq (a := [Value.ref x]) (by first | rfl | kernel_rfl) ?_)
    refine wpAny_bind (PySem.W.truthy_K F X I hs hf (wpAny_mono h (fun r s₁ hr => ?_) fun _ _ y => y))
    obtain ⟨b, rfl, hq⟩ := hr
    exact wpAny_pure ⟨b, rfl, hq⟩
  · rintro obj s₁ ⟨b, rfl, hq⟩
    exact ⟨PySem.typeIs_bool _ _, PySem.F.args_object_init_2 _ _, object_init_meets PySem.F.called_bool.init.lookup PySem.F.called_bool.made (by decide) prog w A.in1 _ s₁ ⟨PySem.typeIs_bool _ _, rfl, hq⟩⟩
section
variable {X : Cx} {CX : CXT} {n : Nat} {C g : Addr} {sp : Sp} {E : XK}
/-- bool(x) of an instance -/
def rBoolO (C : Addr) (sp : Sp) (E : XK) : List V → Hp → VK → Prop := fun xs H Q => ∃ a dx fs, xs = [V.ref a] ∧ H a = some (.ins C dx fs) ∧ sp [.ref a] H (fun z H' => ∃ b, z = .bl b ∧ Q z H') E
theorem call_boolO (hs : PySem.W.findIn X.K (.ref C) "__bool__" = some (some (.ref g))) (hf : PySem.W.isFn X.K (.ref g) = true) (F : FnR X.prog X.w X.K X.mg X.base CX n g sp) (hr : Room (n + 2) X.A) (hx : Passes CX X E) : CallR X (.type "bool") (rBoolO C sp E) := by
  intro pins s σ G xs us Q I r h
  obtain ⟨a, dx, fs, rfl, ha, q⟩ := h
  obtain ⟨u, rfl, ru⟩ := r.one
  cases (show u = Value.ref a from ru)
  obtain ⟨od, J⟩ := inst_of I ha
  obtain ⟨m, hF⟩ := I.fr
  have hr2 : Room n X.A.in1.in1 := (show Room (n + 1) X.A.in1 from Room.in1 hr).in1
  refine bool_own hF I.ok.mod.kin J hs hf (wpAny_mono (wpAny_call (SlX.run_at (us := [.ref a]) (ws := [.ref a]) F hr2 I.env0.in1.in1 hx I (.cons rfl .nil) q)) (fun w s' z => ?_) fun _ _ x => x)
  obtain ⟨z', H', I', rz, b, rfl, qz⟩ := z
  cases (show w = Value.bool b from rz)
  exact ⟨b, rfl, .bl b, H', I', rfl, qz⟩
end
theorem w_boolO {C a dx : Addr} {sp : Sp} {E : XK} {H : Hp} {Q : VK} {fs : List (Str × V)} (ha : At H a (.ins C dx fs)) (q : sp [.ref a] H (fun z H' => ∃ b, z = .bl b ∧ Q z H') E) : rBoolO C sp E [.ref a] H Q := ⟨a, dx, fs, rfl, ha, q⟩
def rBool1 : List V → Hp → VK → Prop := fun xs H Q => (∃ i, xs = [.int i] ∧ Q (.bl (i != 0)) H) ∨ ∃ k, xs = [.bl k] ∧ Q (.bl k) H
theorem call_boolI {X : Cx} : CallR X (.type "bool") rBool1 := call_bool1
theorem w_bool1 {i : Int} {H : Hp} {Q : VK} (q : Q (.bl (!decide (i = 0))) H) : rBool1 [.int i] H Q := .inl ⟨i, rfl, by
  have e : (i != 0) = !decide (i = 0) := by by_cases h : i = 0 <;> simp [h]
  rw [e]; exact q⟩
section
variable {K : PySem.W.Frag} {H : Hp} {Q : VK} {a b : Bool}
theorem w_eqZB (q : Q (.bl (decide (a = b))) H) : rEqZ K (.bl a) (.bl b) H Q := .inl ⟨rfl, by
  have e : decide (V.bl a = V.bl b) = decide (a = b) := by simp
  rw [e]; exact q⟩
theorem w_neZB (q : Q (.bl (!decide (a = b))) H) : rNeZ K (.bl a) (.bl b) H Q := .inl ⟨rfl, by
  have e : decide (V.bl a = V.bl b) = decide (a = b) := by simp
  rw [e]; exact q⟩
end
end Z
namespace Z
open PySem L2 PySem.Spec PyProof.Rows
/-! ### super() -/
/-- what is known where a def of the class at D says super(); x its first parameter -/
structure SupX (X : Cx) (D f : Addr) (x : Str) : Prop where
  ks : X.env.kindOf "super" = some .globalImplicit
  kc : X.env.kindOf "__class__" = some .free
  fu : X.env.func = some f
  fn : ∃ (oc : Value) (od : Option Addr) (fd : FuncData) (osl : Array (Option Value)) (ar : Arg), X.K.lookup f = some ⟨oc, od, .func fd, osl⟩ ∧ (fd.params.posonlyargs ++ fd.params.args).head? = some ar ∧ ar.arg = x
  co : ∃ (cda : Addr) (cl : Value) (cd : Option Addr) (vs : Array Value) (cs : Array (Option Value)) (file : Str) (tf : Tok), X.env.code = .ref cda ∧ X.K.lookup cda = some ⟨cl, cd, .fields vs, cs⟩ ∧ vs[2]? = some (.str file tf) ∧ ((X.prog.main.file : Str) == file) = true
  top : (X.prog.main.scope.names.lookup ("super" : Str)).isSome = false
  nm : X.N[0]? = some x
  vis : Vis X.env.scope x
  xd : (x == ("__classdict__" : Str)) = false
  ce : ∃ (cc : Addr) (cl : Value) (cd : Option Addr) (cs : Array (Option Value)), X.env.cells.lookup ("__class__" : Str) = some cc ∧ X.K.lookup cc = some ⟨cl, cd, .cell (some (.ref D)), cs⟩
  mg : X.mg "super" = none
  cl : ∃ cd, PySem.W.clsIn X.K D = some cd
section
variable {X : Cx} {D f g a C : Addr} {x m : Str} {pins : List (Addr × Obj)} {σ : L2.St} {H : Hp} {s : Shared} {ox : Obj} {od : Option Obj} {body : List Stmt} {p0 p1 : Pos} {attr : Str} {whole : Sem Value} {E : Value → Shared → Prop}
theorem sup_base {Q : Value → Shared → Prop} (S : SupX X D f x) (I : Inv X pins σ H s) (h0 : σ[0]? = some (some (.ref a))) (J : PySem.W.InstAt s.heap a ox C od) (hsub : PySem.W.mroIn X.K C (.ref D) = some true) (hat : (attr == ("__class__" : Str)) = false)
    (hq : ∀ so h', (∀ b o, s.heap.get? b = some o → h'.get? b = some o) → h'.get? so = some (PySem.W.ks_superObj D a C) → Q (.ref so) { s with heap := h' }) :
    PySem.wpAt (model X.prog X.w) X.A (.func body X.env) (attributeBase (.Call (.Name "super" p0) [] [] p1) attr X.env whole) Q E s := by
  have KX : X.K.In s.heap := I.kIn
  obtain ⟨oc, odf, fd, osl, ar, hf, hp, rfl⟩ := S.fn
  obtain ⟨cda, ccl, ccd, vs, ccs, file, tf, hco, hcode, hvs, hfile⟩ := S.co
  obtain ⟨cc, cel, ced, ces, hcc, hcell⟩ := S.ce
  obtain ⟨cdD, hD⟩ := S.cl
  obtain ⟨mb, hb1, hb2⟩ := I.mod.blt
  obtain ⟨ml, hn, hl⟩ := I.loc
  obtain ⟨u, r, l⟩ := hl 0 ar.arg (.ref a) S.nm h0 S.vis
  cases (show u = Value.ref a from r)
  obtain ⟨oD, hD1, hD2⟩ : ∃ oD, s.heap.get? D = some oD ∧ oD.data = .cls cdD := by
    unfold PySem.W.clsIn at hD
    split at hD
    · rename_i c d cd' sl ho
      cases hD
      exact ⟨_, KX _ _ ho, rfl⟩
    · cases hD
  refine PySem.ks_wpAt_super_base (env := X.env) S.ks S.kc hat S.fu (KX _ _ hf) rfl hp hco (KX _ _ hcode) rfl hvs hfile S.top ?_
  refine PySem.W.ks_loadName_global I.ok.kind S.ks (Calls.loadGlobal_builtin (by rw [I.ok.glob]; exact I.mod.glob.keeps I.bk) S.mg (by rw [I.ok.blt]; exact hb1.keeps I.bk) ((hb2 "super" (by decide)).trans (by decide +kernel)) ⟨rfl, ?_⟩)
  refine wpAny_loadName_free I.ok.kind S.kc hcc ⟨_, KX _ _ hcell, rfl⟩ ?_
  have fin : wpAny (model X.prog X.w) X.A (isType (.ref D)) (fun b s₄ => b = true ∧ wpAny (model X.prog X.w) X.A (call (.type "super") [.ref D, .ref a]) Q E s₄) E s := by
    obtain ⟨hh, gg, dd, tt, os⟩ := s
    refine PySem.ks_wpAny_isType_cls hD1 hD2 ⟨rfl, ?_⟩
    refine PySem.ks_wpAny_call_super hD1 hD2 J.at_ J.cls (fun c e => ?_) (PySem.W.looks_mroIn KX hsub) (fun h' e k => ?_)
    · have := J.no
      unfold PySem.W.notCls at this
      rw [e] at this
      exact Bool.noConfusion this
    · exact hq _ h' k e
  rcases l with ⟨hk, hm⟩ | ⟨hk, c, hc, hce⟩
  · exact wpAny_loadName_local I.ok.kind hk hn hm fin
  · rcases hk with hk | hk
    · exact wpAny_loadName_cell I.ok.kind hk hc hce fin
    · exact wpAny_loadName_free I.ok.kind hk hc hce fin S.xd
/-- an expression in the body of the running def -/
structure PEat (X : Cx) (c : Code) (e : Expr) (t : TE) : Prop where
  run : ∀ (pins : List (Addr × Obj)) (s : Shared) (σ : L2.St) (G : Hp) (Q : VK), Inv X pins σ G s → t σ G Q → PySem.wpAt (model X.prog X.w) X.A c (eval e X.env) (EP X pins σ Q) X.xe s
structure PSat (X : Cx) (c : Code) (st : Stmt) (t : TS) : Prop where
  run : ∀ (pins : List (Addr × Obj)) (s : Shared) (σ : L2.St) (G : Hp) (D : Ends), Inv X pins σ G s → t D σ G → PySem.wpAt (model X.prog X.w) X.A c (exec st X.env) (SP X pins D) X.xe s
/-- super().m(e, ..), m a def of a class above -/
def tSup (C : Addr) (sp : Sp) (E : L2.St → XK) (t : TA) : TE := fun σ H Q => ∃ a dx fs, σ[0]? = some (some (.ref a)) ∧ H a = some (.ins C dx fs) ∧ t σ H fun vs H2 => sp (.ref a :: vs) H2 Q (E σ)
theorem pe_sup {CX : CXT} {k : Nat} {sp : Sp} {E : L2.St → XK} {e : Expr} {es : List Expr} {t : TA} {apos pos : Pos} {pl : Sem Bool} (S : SupX X D f x) (hsub : PySem.W.mroIn X.K C (.ref D) = some true) (ho : PySem.W.nsIn X.K PySem.cStatics "thirdparty.any" = some none)
    (hm : PySem.W.ks_superIn X.K C D m = some (some (.ref g))) (ht : PySem.W.typeIn X.K (.ref g) = some (.type "function")) (hfn : PySem.W.fnIn X.K g = true) (F : FnR X.prog X.w X.K X.mg X.base CX k g sp) (hr : Room k X.A) (hx : ∀ σ, PassesAt CX X σ (E σ)) (ha : PA X (e :: es) t)
    (hat : (m == ("__class__" : Str)) = false := by decide +kernel) (hst : starEach (e :: es) X.env = (false, eval e X.env) :: starEach es X.env := by rfl) (hpl : (backTo pos (starEach es X.env)).any (·.1) = false := by rfl)
    (hev : eval (.Call (.Attribute (.Call (.Name "super" p0) [] [] p1) m apos) (e :: es) [] pos) X.env = (do let ov ← attributeBase (.Call (.Name "super" p0) [] [] p1) m X.env (eval (.Call (.Name "super" p0) [] [] p1) X.env); standAt apos.atName; let (f, first) ← holding [ov] (getMethod ov m pl); callWith pos f first (backTo pos (starEach (e :: es) X.env)) []) := by rfl) :
    PEat X (.func body X.env) (.Call (.Attribute (.Call (.Name "super" p0) [] [] p1) m apos) (e :: es) [] pos) (tSup C sp E t) := by
  refine ⟨fun pins s σ G Q I h => ?_⟩
  obtain ⟨a, dx, fs, h0, hins, q⟩ := h
  obtain ⟨od, J⟩ := inst_of I hins
  refine PySem.ks_wpAt_MethodCall (pl := pl) (sup_base S I h0 J hsub hat fun so h' up hso => ?_) hev
  have I1 : Inv X pins σ G { s with heap := h' } := I.kept (t' := s.toks) up
  have KX : X.K.In h' := I1.kIn
  obtain ⟨cd, hcd⟩ : ∃ cd, PySem.W.clsIn X.K C = some cd := by
    cases hc : PySem.W.clsIn X.K C with
    | none => unfold PySem.W.ks_superIn at hm; rw [hc] at hm; cases hm
    | some cd => exact ⟨cd, rfl⟩
  have hal : PySem.W.alongIn X.K m ((cd.mro.dropWhile (· != .ref D)).drop 1) = some (some (.ref g)) := by
    unfold PySem.W.ks_superIn at hm
    rw [hcd] at hm
    exact hm
  obtain ⟨og, hog, hogc⟩ : ∃ og, h'.get? g = some og ∧ og.cls = .type "function" := by
    have ht' : (X.K.lookup g).map (·.cls) = some (.type "function") := ht
    cases z : X.K.lookup g with
    | none => rw [z] at ht'; cases ht'
    | some og => rw [z] at ht'; exact ⟨og, KX _ _ z, Option.some.inj ht'⟩
  obtain ⟨hh, gg, dd, tt, os⟩ := s
  refine PySem.ks_wpAny_getMethod_super hso (PySem.W.looks_opaque KX ho) (l₀ := cd.mro) (fun A Q E s k q => wpAny_bind ((PySem.W.looks_clsIn KX hcd) A _ E s k (wpAny_pure q))) rfl KX hal hog hogc (PySem.W.ks_ne I.kIn J hcd) hat ?_
  have I2 := ClX.met_new (g := g) (C := a) I1
  have hb := ClX.base_none I1 (Nat.le_refl _)
  refine ClX.callwith_cm I2 hb hfn (thn (ha.run pos _ _ σ G _ I2 q) fun us s2 ⟨vs, H2, I3, r, q2⟩ => ⟨⟨ClX.pin_at I3, I3.kIn⟩, ?_⟩) hst hpl
  exact thn (wpAny_call (PySem.W.method_call (ClX.pin_at I3) (runR (us := .ref a :: us) (vs := .ref a :: vs) F hr (hx σ) I3 (.cons rfl r) q2))) fun _ _ y => ClX.unpinE y
theorem ps_supE {c : Code} {e : Expr} {pos : Pos} {t : TE} (h : PEat X c e t) (hi : interactive X.env = false := by rfl) (hs : swapsWith e none pos.line X.env = pure false := by rfl) : PSat X c (.Expr e pos) (tDrop t) :=
  ⟨fun pins s σ G D I q => PySem.ks_wpAt_Expr_any (PySem.ks_wpAt_mono (h.run pins s σ G _ I q) (fun v s1 ⟨y, H1, I1, r1, q1⟩ => ⟨σ, H1, I1, q1⟩) fun _ _ z => z) hi hs⟩
theorem ps_supA {c : Code} {e : Expr} {i : Nat} {y : Str} {pos pos' : Pos} {t : TE} (hN : X.N.Nodup) (hi : X.N[i]? = some y) (hy : Loc X.env.scope y) (h : PEat X c e t) (hs : swapsWith e (some (.Name y pos')) pos.line X.env = pure false := by rfl)
    (hf : X.fn y = true ∨ X.env.scope.names.lookup y = some .local := by first | exact .inl rfl | exact .inr rfl) : PSat X c (.Assign [.Name y pos'] e pos) (tAsg t (gName i)) :=
  ⟨fun pins s σ G D I q => PySem.ks_wpAt_Assign_Name (PySem.ks_wpAt_mono (h.run pins s σ G _ I q) (fun v s1 ⟨z, H1, I1, r1, q1⟩ => store_ok I1 hN hi hy r1 (fun s2 I2 => ⟨_, H1, I2, q1⟩) hf) fun _ _ z => z) hs⟩
end
/-- the def at f, of the class at D, that captures the cell of its class -/
structure FunS (P : Program) (K : PySem.W.Frag) (x qual : Str) (params : Arguments) (body : List Stmt) (scope : Scope) (D f : Addr) (fd : FuncData) : Prop where
  ex : ∃ (oc : Value) (od : Option Addr) (doc pm : Value) (an : Option Addr) (cda : Addr) (ct : Value) (osl : Array (Option Value)) (cc : Addr), fd = PySem.W.fnX x qual params body scope [("__class__", cc)] .none .none doc pm an (.ref cda) ct ∧ K.lookup f = some ⟨oc, od, .func fd, osl⟩ ∧
    PySem.W.codeIn K (.ref cda) qual = true ∧ (∃ (cl : Value) (cd : Option Addr) (cs : Array (Option Value)), K.lookup cc = some ⟨cl, cd, .cell (some (.ref D)), cs⟩) ∧
    ∃ (cl : Value) (cd : Option Addr) (vs : Array Value) (cs : Array (Option Value)) (file : Str) (tf : Tok), K.lookup cda = some ⟨cl, cd, .fields vs, cs⟩ ∧ vs[2]? = some (.str file tf) ∧ ((P.main.file : Str) == file) = true
  kp : PySem.W.keepIn K (.ref f) = true
/-- THE RULE for such a def; its first statement says super() -/
theorem FunS.ok {CX : CXT} {P : Program} {w : World} {K : PySem.W.Frag} {mg : Str → Option Value} {base : Heap} {x qual x0 : Str} {params : Arguments} {st : Stmt} {rest : List Stmt} {scope : Scope} {D f : Addr} {fd : FuncData} {N ps : List Str} {k : Nat} {sp : Sp} {ar : Arg}
    (F : FunS P K x qual params (st :: rest) scope D f fd) (S : NdefX.NScope N ps ["__class__"] scope) (hs : scope.names.lookup ("super" : Str) = some .globalImplicit) (hp : (params.posonlyargs ++ params.args).head? = some ar) (har : ar.arg = x0) (hN : N[0]? = some x0) (hx : scope.names.lookup x0 = some .local) (hxd : (x0 == ("__classdict__" : Str)) = false)
    (top : (P.main.scope.names.lookup ("super" : Str)).isSome = false) (hm : mg "super" = none) (hD : ∃ cd, PySem.W.clsIn K D = some cd) (len : ∀ vs H Q E, sp vs H Q E → vs.length = ps.length)
    (hbody : ∀ (cc cda : Addr) (A : Around) (outer : List Env) (s : Shared) (H : Hp) (vs : List V) (Q : VK) (E : XK), Room k (A.deeper (PySem.W.envX qual scope s.heap.objs.size f (.ref cda) [("__class__", cc)])) → sp vs H Q E →
      SupX (NdefX.ncx CX P w K mg base N ⟨x, qual, params, st :: rest, scope, [("__class__", cc)], cda⟩ f A outer s H E) D f x0 →
      ∃ t1 t2, PSat (NdefX.ncx CX P w K mg base N ⟨x, qual, params, st :: rest, scope, [("__class__", cc)], cda⟩ f A outer s H E) (.func (st :: rest) (PySem.W.envX qual scope s.heap.objs.size f (.ref cda) [("__class__", cc)])) st t1 ∧
        PSs (NdefX.ncx CX P w K mg base N ⟨x, qual, params, st :: rest, scope, [("__class__", cc)], cda⟩ f A outer s H E) rest t2 ∧ tSeq t1 t2 { nx := fun _ H' => Q .non H', rt := Q } (NdefX.startF N vs [none]) H) : FnOk P w K mg base CX (k + 1) f fd ps sp := by
  obtain ⟨oc, od, doc, pm, an, cda, ct, osl, cc, rfl, lk, hcd, ⟨cl1, cd1, cs1, hcell⟩, cl2, cd2, vs2, cs2, file, tf, hcode, hvs2, hfile⟩ := F.ex
  refine ⟨len, fun A outer s H args us vs Q E hr e0 hb r hsp => ?_⟩
  have hl := len _ _ _ _ hsp
  have KX : K.In s.heap := e0.mod.kin.keeps fun b o e => (e0.bs b o e).1
  have lim : s.heap.NoLimit := e0.mod.nolimit.keeps fun b o e => (e0.bs b o e).1
  refine PySem.ks_codeAny_call_defAt (fd := PySem.W.fnX x qual params (st :: rest) scope [("__class__", cc)] .none .none doc pm an (.ref cda) ct) (body := st :: rest) (binds := ps.zip us) hr.depth (KX _ _ lk) rfl lim (PySem.W.codeRec_of KX hcd) rfl hb S.nocell (fun y hy => S.par y.1 (List.of_mem_zip hy).1) (fun h₁ hns hk₁ => ?_) S.co S.gen S.kind
  have C : NdefX.CellsAt [(("__class__" : Str), cc)] ["__class__"] [none] s.heap H := by
    refine ⟨rfl, fun y c hc => ?_, fun a b c h1 h2 => ?_, fun i y hy => ?_⟩
    · have e : y = "__class__" ∧ c = cc := by
        simp only [List.lookup] at hc
        split at hc
        · rename_i q; exact ⟨by simpa using q, (Option.some.inj hc).symm⟩
        · cases hc
      obtain ⟨rfl, rfl⟩ := e
      have z := e0.mod.kin _ _ hcell
      exact ⟨(e0.bs _ _ z).2, _, _, KX _ _ hcell, rfl⟩
    · simp only [List.lookup] at h1 h2
      split at h1
      · rename_i q1
        split at h2
        · rename_i q2
          have a1 : a = "__class__" := by simpa using q1
          have b1 : b = "__class__" := by simpa using q2
          rw [a1, b1]
        · cases h2
      · cases h1
    · cases i with
      | zero =>
        cases hy
        refine ⟨cc, by simp [List.lookup], fun v hv => ?_⟩
        cases hv
      | succ i => cases hy
  have I := NdefX.inv_startN (CX := CX) (E := E) (f := f) (F := ⟨x, qual, params, st :: rest, scope, [("__class__", cc)], cda⟩) (ws := [none]) (tk := s.toks + (ps.zip us).length) S hr.hd e0 hl r C hns hk₁
  have SX : SupX (NdefX.ncx CX P w K mg base N ⟨x, qual, params, st :: rest, scope, [("__class__", cc)], cda⟩ f A outer s H E) D f x0 :=
    ⟨hs, S.frk _ (by simp), rfl, ⟨_, _, _, _, ar, lk, hp, har⟩, ⟨cda, _, _, _, _, file, tf, rfl, hcode, hvs2, hfile⟩, top, hN, .inl hx, hxd, ⟨cc, _, _, _, by simp [List.lookup, NdefX.ncx], hcell⟩, hm, hD⟩
  obtain ⟨t1, t2, p1, p2, hq⟩ := hbody cc cda A outer s H vs Q E (hr.deeper _) hsp SX
  have fin : ∀ {σ' : L2.St} {H' : Hp} {v : V} {u : Value} {s' : Shared}, Inv (NdefX.ncx CX P w K mg base N ⟨x, qual, params, st :: rest, scope, [("__class__", cc)], cda⟩ f A outer s H E) [] σ' H' s' → RelV v u → Q v H' → CE outer P w H s Q u s' :=
    fun {σ' H' v u s'} J rv q => ⟨v, H', J.os, J.bare, J.base, J.hok, rv, q⟩
  refine PySem.ks_wpAt_execs_cons (PySem.ks_wpAt_mono (p1.run [] _ _ H _ I hq) (fun fl s' hs' => ?_) fun e s' z => z)
  cases fl with
  | ret u =>
    obtain ⟨v, σ', H', J, rv, q⟩ := hs'
    exact fin J rv q
  | brk => obtain ⟨_, _, _, q⟩ := hs'; exact q.elim
  | cont => obtain ⟨_, _, _, q⟩ := hs'; exact q.elim
  | next =>
    obtain ⟨σ', H', J, q⟩ := hs'
    refine wpAt_of_wpAny (wpAny_mono (p2.run [] s' σ' H' _ J q) (fun fl s2 h2 => ?_) fun e s2 z => z)
    cases fl with
    | ret u =>
      obtain ⟨v, σ2, H2, J2, rv, q⟩ := h2
      exact fin J2 rv q
    | next =>
      obtain ⟨σ2, H2, J2, q⟩ := h2
      exact fin (v := V.non) (u := Value.none) J2 rfl q
    | brk => obtain ⟨_, _, _, q⟩ := h2; exact q.elim
    | cont => obtain ⟨_, _, _, q⟩ := h2; exact q.elim
/-! ### an own error's super().__init__(..) -/
section
variable {X : Cx} {D f a C u : Addr} {x : Str} {pins : List (Addr × Obj)} {σ : L2.St} {H : Hp} {s : Shared} {body : List Stmt} {p0 p1 : Pos} {A : Around} {E : Value → Shared → Prop}
theorem mw_call {us : List Value} {Q : Value → Shared → Prop} (T : OexC X.K C) (I : Inv X pins σ H s) (hu : s.heap.get? u = some (PySem.W.kxs_mw "ValueError.__init__" a)) (e : H a = some (exo a C none)) (hl : us.length ≤ sizeLine) (h : ∀ s', Inv X pins σ H s' → Q .none s') :
    wpAny (model X.prog X.w) A (call (.ref u) us) Q E s := by
  obtain ⟨nm, q, N, bs, bm, sn, sub, ab, col, dd, k0, k1, k2, k3, k5, hC, hbm⟩ := T.cls
  obtain ⟨t1, ho⟩ := exo_at I.hok e
  obtain ⟨hh, gg, d, tt, os⟩ := s
  refine wpAny_call (codeAny_of_tree (show wpAny _ A.in1 (callAny (.ref u) ⟨us, []⟩) _ _ _ from ?_))
  simp only [callAny]
  refine wpAny_bind (wpAny_load hu (?_ : wpAny _ _ _ _ _ _))
  simp only [PySem.W.kxs_mw]
  refine PySem.W.KFB.if_so (by decide) (wpAny_bind (PySem.W.check_bound_init PySem.F.excBase_ValueError.toExcCallFacts (I.kIn _ _ hC) ho rfl (wpAny_bind (wpAny_pure (wpAny_pure ⟨plainId_quiet PySem.F.excBase_ValueError.init.plain _, codeAny_builtin PySem.F.excBase_ValueError.initEntry ?_⟩)))))
  refine PySem.W.exc_init_tree (cls := .ref C) (t0 := t1) (dv := none) (c2 := .none) (c3 := .none) (b4 := .bool false) ho hl fun h' k hx hy => ?_
  have J := I.write (t' := tt) (x := a) (e := a) (o := exo a C none) (by rw [e]; exact True.intro) (.inl rfl) k ⟨_, hx⟩ (exo_ok hx)
  have eu : upd H a (exo a C none) = H := by
    funext b
    by_cases hb : b = a
    · rw [hb, upd_same, e]
    · rw [upd_ne hb]
  rw [eu] at J
  exact h _ J
def tSupX (K : PySem.W.Frag) (C : Addr) (t : TA) : TE := fun σ H Q => ∃ a, σ[0]? = some (some (.ref a)) ∧ OexC K C ∧ H a = some (exo a C none) ∧ t σ H fun vs H2 => vs.length ≤ 1000 ∧ H2 a = some (exo a C none) ∧ Q .non H2
theorem pe_supX {e : Expr} {es : List Expr} {t : TA} {apos pos : Pos} {pl : Sem Bool} (S : SupX X D f x) (hsub : PySem.W.mroIn X.K C (.ref D) = some true) (ho : PySem.W.nsIn X.K PySem.cStatics "thirdparty.any" = some none)
    (hm : PySem.W.ks_superIn X.K C D "__init__" = some (some (.builtin "ValueError.__init__"))) (hI : PySem.W.subIn X.K (.ref C) (.type "ValueError") = some true) (ha : PA X (e :: es) t)
    (hst : starEach (e :: es) X.env = (false, eval e X.env) :: starEach es X.env := by rfl) (hpl : (backTo pos (starEach es X.env)).any (·.1) = false := by rfl)
    (hev : eval (.Call (.Attribute (.Call (.Name "super" p0) [] [] p1) "__init__" apos) (e :: es) [] pos) X.env = (do let ov ← attributeBase (.Call (.Name "super" p0) [] [] p1) "__init__" X.env (eval (.Call (.Name "super" p0) [] [] p1) X.env); standAt apos.atName; let (f, first) ← holding [ov] (getMethod ov "__init__" pl); callWith pos f first (backTo pos (starEach (e :: es) X.env)) []) := by rfl) :
    PEat X (.func body X.env) (.Call (.Attribute (.Call (.Name "super" p0) [] [] p1) "__init__" apos) (e :: es) [] pos) (tSupX X.K C t) := by
  refine ⟨fun pins s σ G Q I h => ?_⟩
  obtain ⟨a, h0, T, hexo, q⟩ := h
  obtain ⟨t1, hoa⟩ := exo_at I.hok hexo
  have J : PySem.W.InstAt s.heap a ({ cls := .ref C, dict := none, data := .fields #[.ref t1, .none, .none, .none, .bool false, .none] } : Obj) C none := ⟨hoa, rfl, rfl, trivial⟩
  refine PySem.ks_wpAt_MethodCall (pl := pl) (sup_base S I h0 J hsub (by decide +kernel) fun so h' up hso => ?_) hev
  have I1 : Inv X pins σ G { s with heap := h' } := I.kept (t' := s.toks) up
  have KX : X.K.In h' := I1.kIn
  obtain ⟨cd, hcd⟩ : ∃ cd, PySem.W.clsIn X.K C = some cd := by
    cases hc : PySem.W.clsIn X.K C with
    | none => unfold PySem.W.ks_superIn at hm; rw [hc] at hm; cases hm
    | some cd => exact ⟨cd, rfl⟩
  have hal : PySem.W.alongIn X.K "__init__" ((cd.mro.dropWhile (· != .ref D)).drop 1) = some (some (.builtin "ValueError.__init__")) := by
    unfold PySem.W.ks_superIn at hm
    rw [hcd] at hm
    exact hm
  have J1 : PySem.W.InstAt h' a ({ cls := .ref C, dict := none, data := .fields #[.ref t1, .none, .none, .none, .bool false, .none] } : Obj) C none := ⟨up _ _ hoa, rfl, rfl, trivial⟩
  have LI : PySem.W.Looks (model X.prog X.w) h' (isInstance (.ref a) (.type "ValueError")) true := (J1.type (M := model X.prog X.w)).andThen (PySem.W.looks_subIn KX hI)
  obtain ⟨hh, gg, dd, tt, os⟩ := s
  refine PySem.W.kxs_getMethod PySem.W.kxs_ValueError hso (PySem.W.looks_opaque KX ho) (l₀ := cd.mro) (fun A Q E s k q => wpAny_bind ((PySem.W.looks_clsIn KX hcd) A _ E s k (wpAny_pure q))) rfl KX hal LI (PySem.W.ks_ne I.kIn J hcd) (by decide +kernel) ?_
  have I2 : Inv X ((h'.objs.size, PySem.W.kxs_mw "ValueError.__init__" a) :: pins) σ G ⟨h'.push (PySem.W.kxs_mw "ValueError.__init__" a), gg, dd, tt + 1, os⟩ := ClX.pin_new I1 (fun _ _ z => Heap.get?_push_of_some _ z) (Nat.le_refl _) (Heap.get?_push_size h' rfl) (fun v z => nomatch z)
  show wpAny _ _ (callWith pos (.ref h'.objs.size) [] (backTo pos (starEach (e :: es) X.env)) []) _ _ _
  have hrun := ha.run pos _ _ σ G _ I2 q
  rw [hst] at hrun ⊢
  refine PySem.W.kxs_callWith (i := "ValueError.__init__") (x := a) (by show (false || (backTo pos (starEach es X.env)).any (·.1)) = false; rw [hpl]; rfl) (PySem.Calls.evalArgs_plain (thn hrun fun us s2 ⟨vs, H2, I3, r, hv, he2, q2⟩ => ⟨ClX.pin_at I3, ?_⟩))
  refine mw_call T I3 (ClX.pin_at I3) he2 ?_ fun s3 I4 => ⟨.non, H2, ClX.unpin I4, rfl, q2⟩
  show us.length ≤ sizeLine
  rw [← r.length, sizeLine_eq]
  omega
end
end Z
namespace Z
open PySem L2 PySem.Spec PyProof.Rows
/-! ### the head's facts of own errors and of defs that say super() -/
def oexB (x : Str) (K : PySem.W.Frag) : Bool := (match K.lookup (He.ga K x) with
  | some ⟨.type "type", _, .cls cd, sl⟩ => (match cd.mro, sl.toList with
    | .ref C' :: bm, [_, _, _, _, some (.builtin n), _] => C' == He.ga K x && n == "ValueError.__new__" && !cd.hasDel && cd.hasDict && PySem.HandSPX.refsVE bm
    | _, _ => false)
  | _ => false) && (decide (PySem.W.findIn K (.ref (He.ga K x)) "__setattr__" = some (some (.builtin "object.__setattr__"))) && (decide (PySem.W.subIn K (.ref (He.ga K x)) (.type "BaseException") = some true) && (decide (PySem.W.typeIn K (.ref (He.ga K x)) = some (.type "type")) && PySem.W.keepIn K (.ref (He.ga K x)))))
theorem oexB_ok {K : PySem.W.Frag} {x : Str} (h : oexB x K = true) : OexC K (He.ga K x) := by
  obtain ⟨q, h⟩ := He.ba h
  obtain ⟨h2, h⟩ := He.ba h
  obtain ⟨h3, h⟩ := He.ba h
  obtain ⟨h4, h5⟩ := He.ba h
  refine ⟨?_, of_decide_eq_true h2, of_decide_eq_true h3, of_decide_eq_true h4, h5⟩
  split at q
  · rename_i dd cd sl ho
    split at q
    · rename_i C' bm k0 k1 k2 k3 n k5 hm hs
      simp only [Bool.and_eq_true, beq_iff_eq, Bool.not_eq_true'] at q
      obtain ⟨⟨⟨⟨rfl, rfl⟩, hdel⟩, hdi⟩, ht⟩ := q
      obtain ⟨nm, bs, mro, ns, qn, hd, sn, sub, ab, col, del⟩ := cd
      dsimp only at hm hdel hdi
      subst hm hdel hdi
      have hsl : sl = #[k0, k1, k2, k3, some (.builtin "ValueError.__new__"), k5] := by
        obtain ⟨l⟩ := sl
        simp only at hs
        rw [hs]
      subst hsl
      exact ⟨nm, qn, ns, bs, bm, sn, sub, ab, col, dd, k0, k1, k2, k3, k5, ho, ht⟩
    · cases q
  · cases q
/-- a def with its closure left out -/
def fnWs (K : PySem.W.Frag) (p : Str × Option Str) : He.FnW := match K.lookup (He.fAd K p) with
  | some ⟨_, _, .func fd, _⟩ => some (fd.name, fd.qualname, fd.params, fd.body, fd.scope, fd.globals, [], fd.builtins)
  | _ => none
def supB (d : He.DefD) (D file : Str) (K : PySem.W.Frag) : Bool := PySem.W.keepIn K (.ref (He.fAd K d.at_)) && (match K.lookup (He.fAd K d.at_) with
  | some ⟨_, _, .func fd, _⟩ => (match fd.closure, fd.code with
    | [(n, cc)], .ref cda => (match fd.defaults, fd.kwdefaults with
      | .none, .none => true
      | _, _ => false) && (decide (n = "__class__") && (PySem.W.codeIn K (.ref cda) d.qual && ((match K.lookup cc with
        | some ⟨_, _, .cell (some (.ref D')), _⟩ => decide (D' = He.ga K D)
        | _ => false) && (match K.lookup cda with
        | some ⟨_, _, .fields vs, _⟩ => (match (vs[2]? : Option Value) with
          | some (Value.str fl _) => file == fl
          | _ => false)
        | _ => false))))
    | _, _ => false)
  | _ => false)
theorem supB_ok {P : Program} {K : PySem.W.Frag} {d : He.DefD} {D : Str} (e : fnWs K d.at_ = d.val) (c : supB d D P.main.file K = true) : ∃ fd, FunS P K d.name d.qual d.params d.body d.scope (He.ga K D) (He.fAd K d.at_) fd := by
  obtain ⟨kp, c2⟩ := He.ba c
  unfold fnWs at e
  cases q : K.lookup (He.fAd K d.at_) with
  | none =>
    rw [q] at c2
    cases c2
  | some o =>
    obtain ⟨oc, od, dt, osl⟩ := o
    rw [q] at c2 e
    cases dt with
    | func fd =>
      obtain ⟨n1, n2, n3, n4, n5, n6, n7, n8, n9, n10, n11, n12, n13, n14, n15⟩ := fd
      have e2 : (some (n1, n2, n3, n4, n5, n6, ([] : List (Str × Addr)), n15) : He.FnW) = some (d.name, d.qual, d.params, .stmts d.body, d.scope, mainGlobals, [], builtinsNs) := e
      simp only [Option.some.injEq, Prod.mk.injEq] at e2
      obtain ⟨h1, h2, h3, h4, h5, h6, _, h8⟩ := e2
      subst h1 h2 h3 h4 h5 h6 h8
      dsimp only at c2
      split at c2
      · rename_i x1 x2 n cc cda
        obtain ⟨k0, c2⟩ := He.ba c2
        obtain ⟨k1, c3⟩ := He.ba c2
        obtain ⟨k2, c4⟩ := He.ba c3
        obtain ⟨k3, k4⟩ := He.ba c4
        have en : n = "__class__" := of_decide_eq_true k1
        subst en
        split at k0
        case h_2 => cases k0
        refine ⟨_, ⟨oc, od, n10, n11, n12, cda, n14, osl, cc, rfl, q, k2, ?_, ?_⟩, kp⟩
        · split at k3
          · rename_i cl cd D' cs hc
            have eD : D' = He.ga K D := of_decide_eq_true k3
            subst eD
            exact ⟨_, _, _, hc⟩
          · cases k3
        · split at k4
          · rename_i cl cd vs cs hc
            split at k4
            · rename_i fl tf hv
              exact ⟨_, _, vs, _, fl, tf, hc, hv, k4⟩
            · cases k4
          · cases k4
      · cases c2
    | _ => cases c2
def fdOf_S {P : Program} {K : PySem.W.Frag} {x qual : Str} {params : Arguments} {body : List Stmt} {scope : Scope} {D f : Addr} (h : ∃ fd, FunS P K x qual params body scope D f fd) : FunS P K x qual params body scope D f (fdOf K f) := by
  obtain ⟨fd, F⟩ := h
  have e : fdOf K f = fd := by
    obtain ⟨_, _, _, _, _, _, _, _, _, _, lk, _⟩ := F.ex
    unfold fdOf
    rw [lk]
  rw [e]
  exact F
/-- the facts that a super() call wants -/
def clsB (x : Str) (K : PySem.W.Frag) : Bool := (PySem.W.clsIn K (He.ga K x)).isSome
theorem clsB_ok {K : PySem.W.Frag} {x : Str} (h : clsB x K = true) : ∃ cd, PySem.W.clsIn K (He.ga K x) = some cd := Option.isSome_iff_exists.mp h
def mroB (x y : Str) (K : PySem.W.Frag) : Bool := decide (PySem.W.mroIn K (He.ga K x) (.ref (He.ga K y)) = some true)
theorem mroB_ok {K : PySem.W.Frag} {x y : Str} (h : mroB x y K = true) : PySem.W.mroIn K (He.ga K x) (.ref (He.ga K y)) = some true := of_decide_eq_true h
def thirdB (K : PySem.W.Frag) : Bool := decide (PySem.W.nsIn K PySem.cStatics "thirdparty.any" = some none)
theorem thirdB_ok {K : PySem.W.Frag} (h : thirdB K = true) : PySem.W.nsIn K PySem.cStatics "thirdparty.any" = some none := of_decide_eq_true h
/-- super().m from the class at y of an object of the class at x is the def m of the class at z -/
def supmB (x y m z : Str) (K : PySem.W.Frag) : Bool := decide (PySem.W.ks_superIn K (He.ga K x) (He.ga K y) m = some (some (.ref (He.ma K (He.ga K z) m)))) && (decide (PySem.W.typeIn K (.ref (He.ma K (He.ga K z) m)) = some (.type "function")) && PySem.W.fnIn K (He.ma K (He.ga K z) m))
theorem supmB_ok {K : PySem.W.Frag} {x y m z : Str} (h : supmB x y m z K = true) : PySem.W.ks_superIn K (He.ga K x) (He.ga K y) m = some (some (.ref (He.ma K (He.ga K z) m))) ∧ PySem.W.typeIn K (.ref (He.ma K (He.ga K z) m)) = some (.type "function") ∧ PySem.W.fnIn K (He.ma K (He.ga K z) m) = true := by
  obtain ⟨h1, h⟩ := He.ba h
  obtain ⟨h2, h3⟩ := He.ba h
  exact ⟨of_decide_eq_true h1, of_decide_eq_true h2, h3⟩
def supiB (x : Str) (K : PySem.W.Frag) : Bool := decide (PySem.W.ks_superIn K (He.ga K x) (He.ga K x) "__init__" = some (some (.builtin "ValueError.__init__"))) && (decide (PySem.W.subIn K (.ref (He.ga K x)) (.type "ValueError") = some true) && (decide (PySem.W.findIn K (.ref (He.ga K x)) "__init__" = some (some (.ref (He.ma K (He.ga K x) "__init__")))) && decide (PySem.W.typeIn K (.ref (He.ma K (He.ga K x) "__init__")) = some (.type "function"))))
theorem supiB_ok {K : PySem.W.Frag} {x : Str} (h : supiB x K = true) : PySem.W.ks_superIn K (He.ga K x) (He.ga K x) "__init__" = some (some (.builtin "ValueError.__init__")) ∧ PySem.W.subIn K (.ref (He.ga K x)) (.type "ValueError") = some true ∧ PySem.W.findIn K (.ref (He.ga K x)) "__init__" = some (some (.ref (He.ma K (He.ga K x) "__init__"))) ∧ PySem.W.typeIn K (.ref (He.ma K (He.ga K x) "__init__")) = some (.type "function") := by
  obtain ⟨h1, h⟩ := He.ba h
  obtain ⟨h2, h⟩ := He.ba h
  obtain ⟨h3, h4⟩ := He.ba h
  exact ⟨of_decide_eq_true h1, of_decide_eq_true h2, of_decide_eq_true h3, of_decide_eq_true h4⟩
/-! the hook with such defs -/
open He in
def obsY (n : Nat) (ex : List (PySem.W.Frag → Bool)) (fn fs : List DefD) (g : Addr → Option Obj) : AlD := ((ex.all fun f => f (frG g (PySem.cStatics :: asD g n))) && fn.all fun d => d.ok (frG g (PySem.cStatics :: asD g n)), (fn.map fun d => fnW (frG g (PySem.cStatics :: asD g n)) d.at_) ++ fs.map fun d => fnWs (frG g (PySem.cStatics :: asD g n)) d.at_)
structure SaysY (ex : List (PySem.W.Frag → Bool)) (fn fs : List He.DefD) (K : PySem.W.Frag) : Prop where
  facts : ∀ f ∈ ex, f K = true
  d : He.SaysD [] fn K
  s : fs.map (fun d => fnWs K d.at_) = fs.map He.DefD.val
theorem SaysY.fact {ex : List (PySem.W.Frag → Bool)} {fn fs : List He.DefD} {K : PySem.W.Frag} (c : SaysY ex fn fs K) (i : Nat) {f : PySem.W.Frag → Bool} (h : ex[i]? = some f := by rfl) : f K = true := c.facts f (List.mem_of_getElem? h)
theorem SaysY.sup {ex : List (PySem.W.Frag → Bool)} {fn fs : List He.DefD} {K : PySem.W.Frag} (c : SaysY ex fn fs K) (i : Nat) {d : He.DefD} (h : fs[i]? = some d := by rfl) : fnWs K d.at_ = d.val := by
  have e : (fs.map fun d => fnWs K d.at_)[i]? = (fs.map He.DefD.val)[i]? := by rw [c.s]
  rw [List.getElem?_map, List.getElem?_map, h] at e
  exact Option.some.inj e
def hookY (n : Nat) (ex : List (PySem.W.Frag → Bool)) (fn fs : List He.DefD) : PySem.W.Hook where
  α := He.AlD
  obs := fun s => obsY n ex fn fs s.heap.get?
  val := fun _ => (true, fn.map He.DefD.val ++ fs.map He.DefD.val)
  says := fun _ h => ∃ K : PySem.W.Frag, K.In h ∧ SaysY ex fn fs K
  of := fun _ s e => by
    have e1 := congrArg (fun z : He.AlD => z.1) e
    have e2 := congrArg (fun z : He.AlD => z.2) e
    obtain ⟨h1, h2⟩ := He.ba e1
    obtain ⟨e3, e4⟩ := List.append_inj e2 (by rw [List.length_map, List.length_map])
    refine ⟨He.frG s.heap.get? (PySem.cStatics :: He.asD s.heap.get? n), He.frG_in, fun f hf => List.all_eq_true.mp h1 f hf, ?_, e4⟩
    show ((([] : List He.Fa).all fun f => f.ok _) && fn.all fun d => d.ok _, fn.map fun d => He.fnW _ d.at_) = (true, fn.map He.DefD.val)
    rw [h2]
    exact congrArg (fun z => (true, z)) e3
  keeps := fun _ _ _ ⟨K, hK, c⟩ k => ⟨K, PySem.W.Frag.In.keeps hK k, c⟩
theorem obsY_eq {n : Nat} {ex : List (PySem.W.Frag → Bool)} {fn fs : List He.DefD} {g : Addr → Option Obj} {s : Shared} (h : ∀ a, g a = s.heap.get? a) : obsY n ex fn fs g = (hookY n ex fn fs).obs s := by
  have e : g = s.heap.get? := funext h
  rw [e]
  rfl
/-! ### own errors with fields -/
/-- __init__ of an error: super().__init__(text), then self.f = v for each of the names -/
def spX (C : Addr) (names : List Str) : Sp := fun vs H Q _ => ∃ (a : Addr) (ws : List V), vs = .ref a :: ws ∧ ws.length = names.length ∧ H a = some (exo a C none) ∧ ∀ dx, H dx = none → dx ≠ a → Q .non (upd (upd H dx (exd dx (names.zip ws).reverse)) a (exo a C (some dx)))
section
variable {K : PySem.W.Frag} {σ : L2.St} {H : Hp} {Q : VK} {D : Ends} {C a dx : Addr} {f : Str} {y : V} {fs : List (Str × V)} {t : TA} {to te : TE}
theorem w_supX (h0 : σ[0]? = some (some (.ref a))) (T : OexC K C) (ha : H a = some (exo a C none)) (q : t σ H fun vs H2 => vs.length ≤ 1000 ∧ H2 a = some (exo a C none) ∧ Q .non H2) : tSupX K C t σ H Q := ⟨a, h0, T, ha, q⟩
theorem upd_swap {H : Hp} {p q : Addr} {o u u' : HO} (h : p ≠ q) : upd (upd (upd H p u) q o) p u' = upd (upd H p u') q o := by
  funext b
  by_cases hp : b = p
  · subst hp; rw [upd_same, upd_ne h, upd_same]
  · by_cases hq : b = q
    · subst hq; rw [upd_ne hp, upd_same, upd_same]
    · rw [upd_ne hp, upd_ne hq, upd_ne hp, upd_ne hq, upd_ne hp]
end
/-- raise C(v, ..) -/
theorem mkX {C : Addr} {names : List Str} {H : Hp} {Q : XK} {vs : List V} (hl : vs.length = names.length) (hn : names.length ≤ 1000) (q : ∀ d H', Fr H d → Ex H H' → At H' d (.xd (names.zip vs).reverse) → Q (.ref C) (some d) H') :
    vs.length ≤ 1000 ∧ ∀ a, H a = none → spX C names (.ref a :: (vs ++ [])) (upd H a (exo a C none)) (fun v H2 => v = .non ∧ ∃ (d : Addr) (fs : List (Str × V)), H2 a = some (exo a C (some d)) ∧ H2 d = some (exd d fs) ∧ H d = none ∧ Q (.ref C) (some d) (upd (del H2 a) d (.xd fs))) (fun _ _ _ => False) := by
  refine ⟨by omega, fun a ha => ⟨a, vs, by rw [List.append_nil], hl, upd_same, fun dx hd hne => ⟨rfl, dx, _, upd_same, by rw [upd_ne hne, upd_same], by rw [upd_ne hne] at hd; exact hd, ?_⟩⟩⟩
  have hd' : H dx = none := by rw [upd_ne hne] at hd; exact hd
  have e : upd (del (upd (upd (upd H a (exo a C none)) dx (exd dx (names.zip vs).reverse)) a (exo a C (some dx))) a) dx (.xd (names.zip vs).reverse) = upd H dx (.xd (names.zip vs).reverse) := by
    funext b
    by_cases hb : b = dx
    · subst hb; rw [upd_same, upd_same]
    · rw [upd_ne hb, upd_ne hb]
      by_cases hba : b = a
      · subst hba; rw [del_same, ha]
      · rw [del_ne hba, upd_ne hba, upd_ne hb, upd_ne hba]
  rw [e]
  exact q dx _ hd' (Ex.new hd') upd_same
theorem FunS.binds {P : Program} {K : PySem.W.Frag} {x qual : Str} {params : Arguments} {body : List Stmt} {scope : Scope} {D f : Addr} {fd : FuncData} {ps : List Str} (F : FunS P K x qual params body scope D f fd)
    (h : ∀ (cl : List (Str × Addr)) (doc pm : Value) (an : Option Addr) (c1 c2 : Value) (us : List Value), us.length = ps.length → bindArgs (PySem.W.fnX x qual params body scope cl .none .none doc pm an c1 c2) ⟨us, []⟩ = pure (ps.zip us)) : Binds K fd ps [] := by
  obtain ⟨oc, od, doc, pm, an, cda, ct, osl, cc, rfl, _⟩ := F.ex
  intro s us _ hl
  rw [List.append_nil] at hl ⊢
  have e := h [("__class__", cc)] doc pm an (.ref cda) ct us hl
  intro M A Q E hq
  rw [e]
  exact wpAny_pure hq
/-! ### the caught error: isinstance, with or without fields; its fields -/
section
variable {X : Cx} {a : Addr} {oe : Obj} {cls : Value} {d : Option Addr} {pn : List (Addr × Obj)}
def rIsY (K : PySem.W.Frag) (cls : Value) (d : Option Addr) (a : Addr) : List V → Hp → VK → Prop := fun xs H Q => ∃ D, cls = .ref D ∧ ExcC K D ∧ (d = none ∨ ∃ dd fs, d = some dd ∧ H dd = some (.xd fs)) ∧ rIsE K D a xs H Q
theorem call_isY (hz : Zc cls d oe) (hf : ∃ vs, oe.data = .fields vs) : CallR (X.suite a ((a, oe) :: pn)) (.builtin "isinstance") (rIsY X.K cls d a) := by
  intro pins s σ G xs us Q I r h
  obtain ⟨D, rfl, C, hd, h⟩ := h
  rcases hd with rfl | ⟨dd, fs, rfl, hxd⟩
  · exact call_isE C hz hf pins s σ G xs us Q I r h
  · obtain ⟨c, cv, b, rfl, hcv, e, q⟩ := h
    cases r with
    | cons rx rr =>
      cases rr with
      | cons rt rr =>
        cases rr
        cases rx
        have ec := hcv _ rt
        subst ec
        obtain ⟨hget, _⟩ := I.pin (a, oe) (List.mem_append.mpr (.inl List.mem_cons_self))
        obtain ⟨vs, hv⟩ := hf
        obtain ⟨mA, hns, hr⟩ := (show ObjOk X.prog X.w G s.heap dd (.xd fs) from I.hok dd _ hxd)
        obtain ⟨od, ho, hl⟩ := lookIn_ns hns
        have J : PySem.W.InstAt s.heap a oe D (some od) := ⟨hget, hz.1, by unfold PySem.W.notCls; rw [hv] <;> rfl, by rw [hz.2]; exact ho⟩
        have hcl : (PySem.W.clsIn X.K D).isSome = true := by
          obtain ⟨cd, hc, _⟩ := PySem.W.any_some C.hd
          rw [hc]; rfl
        exact PySem.W.kia_one (PySem.W.kitx_exc hcl C.hg C.hk C.hs C.ha C.hn C.ht C.hm) I.kIn J e (fun z => nomatch z) fun tk => ⟨.bl b, G, I.kept (t' := tk) fun _ _ z => z, rfl, q⟩
end
section
variable {K : PySem.W.Frag} {σ : L2.St} {H : Hp} {Q : VK} {C a dd : Addr} {f : Str} {v : V} {fs : List (Str × V)} {te : TE} {b : Bool}
theorem w_isY (x : ExcC K C) (h : PySem.W.kitOne K (.ref C) (.ref a) = some b) (q : Q (.bl b) H) {e : Addr} : rIsY K (.ref C) none e [.ref e, .ref a] H Q := ⟨C, rfl, x, .inl rfl, .ref a, .ref a, b, rfl, fun u r => r, h, q⟩
theorem w_isYt {t : String} (x : ExcC K C) (h : PySem.W.kitOne K (.ref C) (.type t) = some b) (q : Q (.bl b) H) {e : Addr} : rIsY K (.ref C) none e [.ref e, .ty t] H Q := ⟨C, rfl, x, .inl rfl, .ty t, .type t, b, rfl, fun u r => r, h, q⟩
theorem w_isYd (x : ExcC K C) (hd : At H dd (.xd fs)) (h : PySem.W.kitOne K (.ref C) (.ref a) = some b) (q : Q (.bl b) H) {e : Addr} : rIsY K (.ref C) (some dd) e [.ref e, .ref a] H Q := ⟨C, rfl, x, .inr ⟨dd, fs, rfl, hd⟩, .ref a, .ref a, b, rfl, fun u r => r, h, q⟩
theorem w_isYdt {t : String} (x : ExcC K C) (hd : At H dd (.xd fs)) (h : PySem.W.kitOne K (.ref C) (.type t) = some b) (q : Q (.bl b) H) {e : Addr} : rIsY K (.ref C) (some dd) e [.ref e, .ty t] H Q := ⟨C, rfl, x, .inr ⟨dd, fs, rfl, hd⟩, .ty t, .type t, b, rfl, fun u r => r, h, q⟩
/-- e.f of the caught error -/
def dXf (a : Addr) (cls : Value) (d : Option Addr) (C : Addr) (f : Str) (Q : VK) : VK := fun x H1 => x = .ref a ∧ cls = .ref C ∧ ∃ (dd : Addr) (fs : List (Str × V)) (v : V), d = some dd ∧ H1 dd = some (.xd fs) ∧ fs.lookup f = some v ∧ Q v H1
theorem w_xf {cls : Value} {d : Option Addr} (h : te σ H (dXf a cls d C f Q)) : tXf a cls d C f te σ H Q := h
theorem w_dXf (hd : At H dd (.xd fs)) (hl : fs.lookup f = some v) (q : Q v H) : dXf a (.ref C) (some dd) C f Q (.ref a) H := ⟨rfl, rfl, dd, fs, v, rfl, hd, hl, q⟩
end
def xfcB (x : Str) (K : PySem.W.Frag) : Bool := xfB K (He.ga K x)
theorem xfcB_ok {K : PySem.W.Frag} {x : Str} (h : xfcB x K = true) : XfC K (He.ga K x) := xfB_ok h
/-! ### raise -/
def tRaise (t : L2.St → Hp → XK → Prop) (W : WX) : TS := fun _ σ H => t σ H fun cls d H' => W cls d σ H'
theorem ps_raiseZ {X : Cx} {W : WX} {e : Expr} {t : L2.St → Hp → XK → Prop} {pos : Pos} (hc : X.calm = true) (tk : Takes X W) (he : PMk X e t) : PS X (.Raise (some e) none pos) (tRaise t W) := ps_raise hc tk he
def dMX (C : Addr) (sp : Sp) (dvs : List V) (Q : XK) : List V → Hp → Prop := fun vs H1 => vs.length ≤ 1000 ∧ ∀ a, H1 a = none → sp (.ref a :: (vs ++ dvs)) (upd H1 a (exo a C none)) (fun v H2 => v = .non ∧ ∃ (d : Addr) (fs : List (Str × V)), H2 a = some (exo a C (some d)) ∧ H2 d = some (exd d fs) ∧ H1 d = none ∧ Q (.ref C) (some d) (upd (del H2 a) d (.xd fs))) (fun _ _ _ => False)
section
variable {σ : L2.St} {H : Hp} {Q : XK} {D : Ends} {C : Addr} {sp : Sp} {dvs vs : List V} {ta : TA} {names : List Str} {t : L2.St → Hp → XK → Prop} {W : WX}
theorem w_raise (h : t σ H fun cls d H' => W cls d σ H') : tRaise t W D σ H := h
theorem w_mkO (h : ta σ H (dMX C sp dvs Q)) : tMkO C sp dvs ta σ H Q := h
theorem w_dMX (hl : vs.length = names.length) (hn : names.length ≤ 1000) (q : ∀ d H', Fr H d → Ex H H' → At H' d (.xd (names.zip vs).reverse) → Q (.ref C) (some d) H') : dMX C (spX C names) [] Q vs H := mkX hl hn q
end
/-! ### slices of tuples, sorted -/
theorem slA {X : Cx} {K : PySem.W.Frag} (hK : X.K = K) : SlR X (rSlA K) := hK ▸ sl_tupA
theorem call_sortI {X : Cx} {K : PySem.W.Frag} (hK : X.K = K) : CallR X (.builtin "sorted") (rSortedI K) := hK ▸ cr_sortedI
section
variable {K : PySem.W.Frag} {H : Hp} {Q : VK} {a : Addr} {i : Int} {ns : List Int}
theorem w_slTo (h : SqT K H a (ns.map V.int)) (h0 : 0 ≤ i) (q : ∀ p H2, Ex H H2 → SqT K H2 p ((ns.take i.toNat).map V.int) → Q (.ref p) H2) : rSlA K (.ref a) none (some i) H Q := by
  refine ⟨a, _, rfl, h, fun hw => ?_, fun hw p hp => q p _ (Ex.new hp) (st_of ?_)⟩
  · refine q a H (Ex.refl H) ?_
    have e : ns.take i.toNat = ns := by
      have := hw.2
      obtain ⟨k, rfl⟩ := Int.eq_ofNat_of_zero_le h0
      rw [HT.sIx_nat, List.length_map] at this
      rw [Int.toNat_natCast]
      exact List.take_of_length_le (by omega)
    rw [e]; exact h
  · show upd H p _ p = _
    rw [upd_same, cut_to h0, List.map_take]
theorem w_slFrom (h : SqT K H a (ns.map V.int)) (h0 : 0 ≤ i) (q : ∀ p H2, Ex H H2 → SqT K H2 p ((ns.drop i.toNat).map V.int) → Q (.ref p) H2) : rSlA K (.ref a) (some i) none H Q := by
  refine ⟨a, _, rfl, h, fun hw => ?_, fun hw p hp => q p _ (Ex.new hp) (st_of ?_)⟩
  · refine q a H (Ex.refl H) ?_
    have e : ns.drop i.toNat = ns := by
      have := hw.1
      obtain ⟨k, rfl⟩ := Int.eq_ofNat_of_zero_le h0
      rw [HT.sIx_nat, List.length_map] at this
      rw [Int.toNat_natCast]
      rcases Nat.eq_zero_or_pos k with z | z
      · rw [z]; rfl
      · have : ns.length = 0 := by omega
        rw [List.length_eq_zero_iff.mp this]; simp
    rw [e]; exact h
  · show upd H p _ p = _
    rw [upd_same, cut_from h0, List.map_drop]
theorem w_sortI (h : SqL K H a (ns.map V.int)) (q : ∀ p H2 (ms : List Int), Fr H p → Ex H H2 → At H2 p (.lst (ms.map V.int)) → ms.Perm ns → ms.Pairwise (· ≤ ·) → Q (.ref p) H2) : rSortedI K [.ref a] H Q :=
  ⟨a, ns, rfl, h, fun ms p h1 h2 hp => q p _ ms hp (Ex.new hp) at_upd h1 h2⟩
end
/-! ### xs.pop(i) -/
theorem w_popI {H : Hp} {Q : VK} {a : Addr} {i : Int} {ns : List Int} (h : At H a (.lst (ns.map V.int))) (h0 : 0 ≤ i) (h1 : i < ns.length) (h2 : ns.length < 2 ^ 62)
    (q : ∀ H2, At H2 a (.lst ((ns.eraseIdx i.toNat).map V.int)) → Nl H H2 → (∀ H0, Ex H0 H → Fr H0 a → Ex H0 H2) → (∀ b o, b ≠ a → At H b o → At H2 b o) → Q (.int (ns.getD i.toNat 0)) H2) : rPopAt (.ref a) [.int i] H Q := by
  have hk : i.toNat < ns.length := by omega
  refine ⟨a, _, i, i.toNat, .int (ns.getD i.toNat 0), rfl, rfl, h, by omega, by omega, ?_, ?_, q _ ?_ (Nl.upd h) (fun H0 e n => Ex.mut e n) (fun b o hb e => by unfold At; rw [upd_ne hb]; exact e)⟩
  · unfold seqIndex?
    rw [List.length_map]
    simp only [show ¬ i < 0 by omega, if_false]
    simp [h0, h1]
  · rw [List.getElem?_map, List.getD_eq_getElem?_getD, List.getElem?_eq_getElem hk]
    rfl
  · unfold At
    rw [upd_same]
    congr 2
    apply List.ext_getElem?
    intro j
    simp only [List.getElem?_eraseIdx, List.getElem?_map]
    split <;> rfl
end Z
namespace Z
open PySem L2 PySem.Spec PyProof.Rows
/-! ### methods of classes above; constants of a class; stores into own fields -/
/-- the method m of the class x is the def m of the class y -/
def methB (x m y : Str) (K : PySem.W.Frag) : Bool := He.eqO (PySem.W.findIn K (.ref (He.ga K x)) m) (some (some (.ref (He.ma K (He.ga K y) m)))) && (PySem.W.isFn K (.ref (He.ma K (He.ga K y) m)) && PySem.W.keepIn K (.ref (He.ma K (He.ga K y) m)))
theorem methB_ok {K : PySem.W.Frag} {x m y : Str} (c : methB x m y K = true) : Meth K (He.ga K x) m (He.ma K (He.ga K y) m) := by
  obtain ⟨c1, c⟩ := He.ba c
  obtain ⟨c2, c3⟩ := He.ba c
  exact ⟨He.eqO_ok c1, c2, c3⟩
/-- the class x makes instances by the __init__ of the class y -/
def mkrB (x y : Str) (K : PySem.W.Frag) : Bool := PySem.W.makesIn K (He.ga K x) && (He.eqO (PySem.W.findIn K (.ref (He.ga K x)) "__init__") (some (some (.ref (He.ma K (He.ga K y) "__init__")))) && (PySem.W.isFn K (.ref (He.ma K (He.ga K y) "__init__")) && PySem.W.keepIn K (.ref (He.ga K x))))
theorem mkrB_ok {K : PySem.W.Frag} {x y : Str} (c : mkrB x y K = true) : Mk K (He.ga K x) (He.ma K (He.ga K y) "__init__") := by
  obtain ⟨c1, c⟩ := He.ba c
  obtain ⟨c2, c⟩ := He.ba c
  obtain ⟨c3, c4⟩ := He.ba c
  exact ⟨c1, He.eqO_ok c2, c3, c4⟩
/-- the class x has the int i as its constant f -/
def conIB (x f : Str) (i : Int) (K : PySem.W.Frag) : Bool := match PySem.W.findIn K (.ref (He.ga K x)) f with
  | some (some (.int j t)) => decide (j = i) && He.eqO (PySem.W.specialIn K (.int j t) "__get__") (some none)
  | _ => false
theorem conIB_ok {K : PySem.W.Frag} {x f : Str} {i : Int} (h : conIB x f i K = true) (hc : PySem.W.copiedNames.contains f = false) : ∃ u, Con K (He.ga K x) f (.int i) u := by
  unfold conIB at h
  split at h
  · rename_i j t e
    obtain ⟨h1, h2⟩ := He.ba h
    have ej : j = i := of_decide_eq_true h1
    subst ej
    exact ⟨_, e, ⟨t, rfl⟩, He.eqO_ok h2, hc⟩
  · cases h
def dCon (K : PySem.W.Frag) (f : Str) (Q : VK) : VK := fun x H1 => ∃ a C dx fs v u, x = .ref a ∧ H1 a = some (.ins C dx fs) ∧ Cls K C ∧ Con K C f v u ∧ fs.lookup f = none ∧ Q v H1
section
variable {K : PySem.W.Frag} {σ : L2.St} {H H' : Hp} {Q : VK} {v x y : V} {a b C dx dy : Addr} {fs gs : List (Str × V)} {f : Str} {i j : Int} {sp : Sp} {D : Ends} {ts : TA}
theorem w_con {ta : TE} (h : ta σ H (dCon K f Q)) : tCon K ta f σ H Q := h
theorem w_dCon (h : At H a (.ins C dx fs)) (cl : Cls K C) (k : ∃ u, Con K C f v u) (hl : fs.lookup f = none) (q : Q v H) : dCon K f Q (.ref a) H := by
  obtain ⟨u, k⟩ := k
  exact ⟨a, C, dx, fs, v, u, rfl, h, cl, k, hl, q⟩
theorem w_put {R : Hp → Prop} (h : At H a (.ins C dx fs)) (cl : Cls K C) (na : NoAttr K C f) (hl : fs.length < 1000) (q : ∀ H2, At H2 a (.ins C dx (putF f y fs)) → (∀ H0, Ex H0 H → Fr H0 a → Ex H0 H2) → (∀ b o, b ≠ a → At H b o → At H2 b o) → R H2) : dSF K f y R (.ref a) H :=
  ⟨a, C, dx, fs, rfl, h, cl, na, hl, q _ upd_same (fun H0 e n => Ex.mut e n) (fun b o hb e => by unfold At; rw [upd_ne hb]; exact e)⟩
theorem w_sup {E : L2.St → XK} {t : TA} (h0 : σ[0]? = some (some (.ref a))) (ha : At H a (.ins C dx fs)) (q : t σ H fun vs H2 => sp (.ref a :: vs) H2 Q (E σ)) : tSup C sp E t σ H Q := ⟨a, dx, fs, h0, ha, q⟩
/-- an object of fs, by its class -/
theorem At.fd {fs gs : List (Str × V)} (h : At H a (.ins C dx fs)) (e : fs = gs) : At H a (.ins C dx gs) := e ▸ h
end
theorem putF_len {f : Str} {y : V} : ∀ {fs : List (Str × V)}, (putF f y fs).length ≤ fs.length + 1
  | [] => Nat.le_refl _
  | (g, z) :: r => by
    unfold putF
    split
    · simp
    · simpa using putF_len (fs := r)
theorem putF_end {f : Str} {y : V} : ∀ {fs : List (Str × V)}, (fs.map Prod.fst).contains f = false → putF f y fs = fs ++ [(f, y)]
  | [], _ => rfl
  | (g, z) :: r, h => by
    rw [List.map_cons, List.contains_cons, Bool.or_eq_false_iff] at h
    have h1 : ¬ g = f := fun e => by
      have := h.1
      rw [e] at this
      simp at this
    unfold putF
    rw [if_neg h1, putF_end h.2]
    rfl
/-- a new field behind the others -/
theorem w_putE {K : PySem.W.Frag} {H : Hp} {a C dx : Addr} {f : Str} {y : V} {fs : List (Str × V)} {R : Hp → Prop} (h : At H a (.ins C dx fs)) (cl : Cls K C) (na : NoAttr K C f) (hl : fs.length < 900) (hn : (fs.map Prod.fst).contains f = false) (q : ∀ H2, At H2 a (.ins C dx (fs ++ [(f, y)])) → (∀ H0, Ex H0 H → Fr H0 a → Ex H0 H2) → (∀ b o, b ≠ a → At H b o → At H2 b o) → R H2) : dSF K f y R (.ref a) H :=
  w_put h cl na (by omega) fun H2 h2 => q H2 (by rw [putF_end hn] at h2; exact h2)
/-- isinstance of an instance with the class y, of the class x -/
theorem w_isiOA {K : PySem.W.Frag} {H : Hp} {Q : VK} {a C D dx : Addr} {fs : List (Str × V)} {b : Bool} (O : OwnC K C) (ha : At H a (.ins C dx fs)) (h : PySem.W.kitOne K (.ref C) (.ref D) = some b) (q : Q (.bl b) H) : rIsi K [.ref a, .ref D] H Q := ⟨_, _, .ref C, .ref D, b, rfl, .own D, .base (.ins ha O.cl O.ca O.cn O.ct O.cm), h, q⟩
end Z
namespace Z
open PySem L2 PySem.Spec PyProof.Rows
/-! ### try with several except clauses that give the error a name -/
abbrev TSx := Addr → Value → Option Addr → TS
/-- what clauses wish, one behind the other -/
def wCl (K : PySem.W.Frag) (W0 : WX) (D : Ends) : List (Value × Option Nat × TSx) → WX
  | [] => W0
  | (c, some i, ts) :: r => wAs K c i ts (wCl K W0 D r) D
  | (c, none, ts) :: r => wOnly K c ts (wCl K W0 D r) D
inductive Clauses (X : Cx) : List ExceptHandler → List (Value × Option Nat × TSx) → Prop
  | nil : Clauses X [] []
  | as {x n : Str} {c : Value} {i : Nat} {ts : TSx} {b0 : Stmt} {su : List Stmt} {p1 p2 : Pos} {hs : List ExceptHandler} {l : List (Value × Option Nat × TSx)} (hc : Names X x c) (hi : X.N[i]? = some n) (hn : X.env.kindOf n = some .local)
      (hp : ∀ (a : Addr) (ob : Obj) (cls : Value) (d : Option Addr) (pl : List (Addr × Obj)), Zc cls d ob → (∃ fv, ob.data = .fields fv) → PSs (X.suite a ((a, ob) :: pl)) (b0 :: su) (ts a cls d)) (r : Clauses X hs l) : Clauses X (.ExceptHandler (some (.Name x p1)) (some n) (b0 :: su) p2 :: hs) ((c, some i, ts) :: l)
  | no {x : Str} {c : Value} {ts : TSx} {b0 : Stmt} {su : List Stmt} {p1 p2 : Pos} {hs : List ExceptHandler} {l : List (Value × Option Nat × TSx)} (hc : Names X x c)
      (hp : ∀ (a : Addr) (ob : Obj) (cls : Value) (d : Option Addr) (pl : List (Addr × Obj)), Zc cls d ob → (∃ fv, ob.data = .fields fv) → PSs (X.suite a ((a, ob) :: pl)) (b0 :: su) (ts a cls d)) (r : Clauses X hs l) : Clauses X (.ExceptHandler (some (.Name x p1)) none (b0 :: su) p2 :: hs) ((c, none, ts) :: l)
section
variable {X : Cx} {body : List Stmt} {e0 : ExceptHandler} {er : List ExceptHandler} {l : List (Value × Option Nat × TSx)} {pos : Pos} {tb : WX → TS} {W0 : WX}
def tTryM (K : PySem.W.Frag) (l : List (Value × Option Nat × TSx)) (tb : WX → TS) (W0 : WX) : TS := fun D σ H => tb (wCl K W0 D l) D σ H
theorem ps_tryM (hst : X.stack = X.env :: X.outer) (hfm : X.env.frame = some X.env.locals) (nd : X.N.Nodup) (tk : Takes X W0)
    (pb : ∀ (W : WX) (pl : List (Addr × Obj)) (xe : Value → Shared → Prop), Takes (X.tr pl xe) W → PassesOwn (model X.prog X.w) X.A X.env xe → PSs (X.tr pl xe) body (tb W))
    (cs : Clauses X (e0 :: er) l) : PS X (.Try body (e0 :: er) [] [] pos) (tTryM X.K l tb W0) := by
  refine ⟨fun pins st σ G D I hg => ?_⟩
  have okX := I.ok
  have hfrs : X.A.frames = some (X.env :: X.outer) := by rw [okX.frames, hst]
  refine wpAny_Try_except (wpAny_mono ((pb (wCl X.K W0 D l) (X.pn ++ pins) (fun er1 z1 => wpAny (model X.prog X.w) X.A (noteFrame er1 X.env) (fun _ z2 => wpAny (model X.prog X.w) X.A (setFlight er1 none) (fun _ z3 => wpAny (model X.prog X.w) X.A (handleBy er1 X.env (e0 :: er)) (SP X pins D) X.xe z3) X.xe z2) X.xe z1) (fun u st' xx => ?_) PassesOwn.looking).run [] st σ G D (I.toTry _) hg) (fun fl st1 hsp => ?_) fun _ _ z => z)
  · obtain ⟨a, B, sJ, pins', σ', G', cls, d, rfl, J', nob, upJ, skyJ, nfree, osJ, agJ, wish⟩ := xx
    have J : Inv X pins σ' G' sJ := J'.ofTry okX
    have sky1 : Sky B (X.env :: X.outer) a (Zc cls d) X.env.locals st'.heap := by rw [← hst]; exact skyJ
    show wpAny (model X.prog X.w) X.A (noteFrame (.ref a) X.env) _ _ _
    refine Sky.land Zc.steady hfrs hfm sky1 fun hp3 fly3 upp3 => ?_
    have J3 : Inv X pins σ' G' { st' with heap := hp3 } := J.landed nob fly3.1 (upJ.trans upp3) osJ agJ
    obtain ⟨ob3, fv3, get3, zc3, dat3⟩ := fly3.there
    have notF : a ∉ frs (X.env :: X.outer) := fun hm => by
      obtain ⟨_, o2, g2, hnf⟩ := fly3.2.2.1.mem hm
      rw [get3] at g2
      cases g2
      exact hnf _ dat3
    have neL : a ≠ X.env.locals := fun z => notF (List.mem_filterMap.mpr ⟨X.env, List.mem_cons_self, by rw [hfm, z]⟩)
    have neF : a ∉ X.fs := fun hm => by
      obtain ⟨en, hen, q⟩ := List.mem_filterMap.mp hm
      exact notF (List.mem_filterMap.mpr ⟨en, List.mem_cons_of_mem _ hen, q⟩)
    have SU := J3.suite get3 dat3 nfree neL neF
    have LT : PySem.W.Looks (model X.prog X.w) hp3 (typeOf (.ref a)) cls := fun A Q E z k q => wpAny_typeOf_ref (k _ _ get3) (by rw [zc3.1]; exact q)
    have each : ∀ {hs2 : List ExceptHandler} {l2 : List (Value × Option Nat × TSx)}, Clauses X hs2 l2 → wCl X.K W0 D l2 cls d σ' G' → wpAny (model X.prog X.w) X.A (handleBy (.ref a) X.env hs2) (SP X pins D) X.xe { st' with heap := hp3 } := by
      intro hs2 l2 hcs
      induction hcs with
      | nil =>
        intro wsh
        refine wpAny_handleBy_nil ?_
        obtain ⟨_, _, _, ob, fv, tbk, _, _, g1, _, dd, i1, _⟩ := id fly3
        unfold PySem.passOn
        refine wpAny_bind (wpAny_field g1 dd i1 ?_)
        rw [if_neg (show ¬ ((Value.ref tbk == Value.none) = true) by simp)]
        have out : wpAny (model X.prog X.w) X.A (setFlight (.ref a) X.env.frame) (fun _ z4 => wpAny (model X.prog X.w) X.A (throw (.ref a) : Sem Flow) (SP X pins D) X.xe z4) X.xe { st' with heap := hp3 } := by
          rw [hfm]
          exact HandSPX.setFlight_upZ fly3 fun hp4 fly4 upp4 => wpAny_throw (tk _ _ ⟨a, B, sJ, pins, σ', G', cls, d, rfl, J, nob, (upJ.trans upp3).trans upp4, .inr (.inr (by rw [hst]; exact fly4)), nfree, osJ, agJ, wsh⟩)
        first
          | exact wpAny_bind (wpAny_pure (wpAny_bind out))
          | exact wpAny_bind out
      | @as x n c i ts b0 su p1 p2 hs3 l3 hc hi hn hp r ih =>
        rintro ⟨b, hb1, yes, no⟩
        refine wpAny_handleBy_cons (codeAny_handlers_test ?_) (fun q => by cases q)
        have look : ∀ {Q : Value → Shared → Prop} {E : Value → Shared → Prop}, Q c { st' with heap := hp3 } → wpAny (model X.prog X.w) (X.A.mark (some (.ref a))) (eval (.Name x p1) X.env) Q E { st' with heap := hp3 } := fun {Q E} q => by
          obtain ⟨gx, dx, mx | ⟨mx, vx, nx⟩⟩ := hc
          · exact ld_glob (X := X.suite a ((a, ob3) :: (X.pn ++ pins))) SU gx mx q dx
          · exact ld_blt (X := X.suite a ((a, ob3) :: (X.pn ++ pins))) SU gx mx vx q nx dx
        refine look ((PySem.W.exm_one (M := model X.prog X.w) J3.kIn LT hb1).here ?_)
        cases b with
        | false =>
          show wpAny _ X.A (handleBy (.ref a) X.env hs3) _ _ _
          exact ih (no rfl)
        | true =>
          refine codeAny_handlers_suite_as (HandSPX.lands_againZ fly3 fun hp4 fly4 upp4 => ?_)
          have J4 : Inv X pins σ' G' { st' with heap := hp4 } := J.landed nob fly4.1 ((upJ.trans upp3).trans upp4) osJ agJ
          obtain ⟨ob4, fv4, get4, zc4, dat4⟩ := fly4.there
          refine store_ok (X := X.suite a ((a, ob4) :: (X.pn ++ pins))) (v := .ref a) (J4.suite get4 dat4 nfree neL neF) nd hi (.inl hn) rfl (fun st5 S5 => ?_) (.inr hn)
          refine wpAny_mono ((hp a ob4 cls d (X.pn ++ pins) zc4 ⟨_, dat4⟩).run [] st5 _ G' _ S5 (yes rfl a nfree)) (fun fl st6 hsp => ?_) (fun _ _ z => False.elim z)
          have bye : ∀ {σ6 : L2.St} {G6 : Hp} {Q : Shared → Prop}, Inv (X.suite a ((a, ob4) :: (X.pn ++ pins))) [] σ6 G6 st6 → (∀ z7, Inv X pins (σ6.set i none) G6 z7 → Q z7) →
              wpAny (model X.prog X.w) X.A (do bindName X.env n .none; unbindBehindTheSuite X.env n p2) (fun _ z7 => Q z7) X.xe st6 := fun {σ6 G6 Q} S6 hq => gone_ok (S6.unsuite okX) nd hi hn hq
          cases fl with
          | next => obtain ⟨_, _, S6, q6⟩ := hsp; exact bye S6 fun _ J7 => ⟨_, _, J7, q6⟩
          | brk => obtain ⟨_, _, S6, q6⟩ := hsp; exact bye S6 fun _ J7 => ⟨_, _, J7, q6⟩
          | cont => obtain ⟨_, _, S6, q6⟩ := hsp; exact bye S6 fun _ J7 => ⟨_, _, J7, q6⟩
          | ret u => obtain ⟨_, _, _, S6, r6, q6⟩ := hsp; exact bye S6 fun _ J7 => ⟨_, _, _, J7, r6, q6⟩
      | @no x c ts b0 su p1 p2 hs3 l3 hc hp r ih =>
        rintro ⟨b, hb1, yes, no⟩
        refine wpAny_handleBy_cons (codeAny_handlers_test ?_) (fun q => by cases q)
        have look : ∀ {Q : Value → Shared → Prop} {E : Value → Shared → Prop}, Q c { st' with heap := hp3 } → wpAny (model X.prog X.w) (X.A.mark (some (.ref a))) (eval (.Name x p1) X.env) Q E { st' with heap := hp3 } := fun {Q E} q => by
          obtain ⟨gx, dx, mx | ⟨mx, vx, nx⟩⟩ := hc
          · exact ld_glob (X := X.suite a ((a, ob3) :: (X.pn ++ pins))) SU gx mx q dx
          · exact ld_blt (X := X.suite a ((a, ob3) :: (X.pn ++ pins))) SU gx mx vx q nx dx
        refine look ((PySem.W.exm_one (M := model X.prog X.w) J3.kIn LT hb1).here ?_)
        cases b with
        | false =>
          show wpAny _ X.A (handleBy (.ref a) X.env hs3) _ _ _
          exact ih (no rfl)
        | true =>
          refine codeAny_handlers_suite (HandSPX.lands_againZ fly3 fun hp4 fly4 upp4 => ?_)
          have J4 : Inv X pins σ' G' { st' with heap := hp4 } := J.landed nob fly4.1 ((upJ.trans upp3).trans upp4) osJ agJ
          obtain ⟨ob4, fv4, get4, zc4, dat4⟩ := fly4.there
          refine wpAny_mono ((hp a ob4 cls d (X.pn ++ pins) zc4 ⟨_, dat4⟩).run [] _ _ G' _ (J4.suite get4 dat4 nfree neL neF) (yes rfl a nfree)) (fun fl st6 hsp => ?_) (fun _ _ z => False.elim z)
          cases fl with
          | next => obtain ⟨_, _, S6, q6⟩ := hsp; exact ⟨_, _, S6.unsuite okX, q6⟩
          | brk => obtain ⟨_, _, S6, q6⟩ := hsp; exact ⟨_, _, S6.unsuite okX, q6⟩
          | cont => obtain ⟨_, _, S6, q6⟩ := hsp; exact ⟨_, _, S6.unsuite okX, q6⟩
          | ret u => obtain ⟨_, _, _, S6, r6, q6⟩ := hsp; exact ⟨_, _, _, S6.unsuite okX, r6, q6⟩
    exact each cs wish
  · cases fl with
    | next => obtain ⟨_, _, J', q⟩ := hsp; exact wpAny_execs_nil ⟨_, _, J'.ofTry okX, q⟩
    | brk => obtain ⟨_, _, J', q⟩ := hsp; exact ⟨_, _, J'.ofTry okX, q⟩
    | cont => obtain ⟨_, _, J', q⟩ := hsp; exact ⟨_, _, J'.ofTry okX, q⟩
    | ret u => obtain ⟨_, _, _, J', r, q⟩ := hsp; exact ⟨_, _, _, J'.ofTry okX, r, q⟩
end
section
variable {K : PySem.W.Frag} {σ : L2.St} {H : Hp} {D : Ends} {tb : WX → TS} {W0 : WX} {c cls : Value} {d : Option Addr} {i : Nat} {ts : TSx} {l : List (Value × Option Nat × TSx)}
theorem w_tryM (h : tb (wCl K W0 D l) D σ H) : tTryM K l tb W0 D σ H := h
theorem w_cl (h : PySem.W.exmOne K cls c = some true) (q : ∀ a, Fr H a → ts a cls d (endAs D i) (σ.set i (some (.ref a))) H) : WE (wCl K W0 D ((c, some i, ts) :: l)) σ cls d H := w_as h q
theorem w_clN (h : PySem.W.exmOne K cls c = some false) (q : WE (wCl K W0 D l) σ cls d H) : WE (wCl K W0 D ((c, some i, ts) :: l)) σ cls d H := w_asN h q
theorem w_clO (h : PySem.W.exmOne K cls c = some true) (q : ∀ a, Fr H a → ts a cls d D σ H) : WE (wCl K W0 D ((c, none, ts) :: l)) σ cls d H := w_only h q
theorem w_clON (h : PySem.W.exmOne K cls c = some false) (q : WE (wCl K W0 D l) σ cls d H) : WE (wCl K W0 D ((c, none, ts) :: l)) σ cls d H := w_onlyN h q
theorem w_cl0 (q : W0 cls d σ H) : WE (wCl K W0 D []) σ cls d H := q
end
/-! ### ways that join: only slot i has changed -/
theorem w_cutI {t u : TS} {D : Ends} {σ : L2.St} {H : Hp} (i : Nat) (P : Int → Prop) (h : t ⟨fun σ' G => G = H ∧ ∃ w : Int, P w ∧ σ' = σ.set i (some (.int w)), D.rt, D.bk, D.ct⟩ σ H) (k : ∀ w, P w → u D (σ.set i (some (.int w))) H) : C8.tCut t u D σ H :=
  w_cut _ h fun σ' G ⟨e1, w, hw, e2⟩ => by subst e1 e2; exact k w hw
theorem w_cutV {t u : TS} {D : Ends} {σ : L2.St} {H : Hp} (i : Nat) (P : V → Hp → Prop) (h : t ⟨fun σ' G => Ex H G ∧ ∃ w, P w G ∧ σ' = σ.set i (some w), D.rt, D.bk, D.ct⟩ σ H) (k : ∀ w G, Ex H G → P w G → u D (σ.set i (some w)) G) : C8.tCut t u D σ H :=
  w_cut _ h fun σ' G ⟨e1, w, hw, e2⟩ => by subst e2; exact k w G e1 hw
/-! ### xs[i] = v -/
theorem w_gSub {to ti : TE} {t : TSet} {v : V} {σ : L2.St} {H : Hp} {Q : L2.St → Hp → Prop} (h : to σ H fun o H1 => ti σ H1 fun i H2 => t o i v H2 fun H3 => Q σ H3) : gSub to ti t v σ H Q := h
theorem ixN_pos {n : Nat} {i : Int} (h0 : 0 ≤ i) (h1 : i < n) : ixN n i = some i.toNat := by unfold ixN; rw [if_pos h0, if_pos h1]
theorem map_set {α β : Type} (f : α → β) (l : List α) (i : Nat) (a : α) : (l.map f).set i (f a) = (l.set i a).map f := by
  apply List.ext_getElem
  · simp
  · intro j h1 h2
    simp only [List.getElem_map, List.getElem_set]
    split <;> rfl
theorem w_setI {H : Hp} {a : Addr} {i v : Int} {ns : List Int} {R : Hp → Prop} (h : At H a (.lst (ns.map V.int))) (h0 : 0 ≤ i) (h1 : i < ns.length) (q : ∀ H2, At H2 a (.lst ((ns.set i.toNat v).map V.int)) → Nl H H2 → (∀ H0, Ex H0 H → Fr H0 a → Ex H0 H2) → (∀ b o, b ≠ a → At H b o → At H2 b o) → R H2) : rSetL (.ref a) (.int i) (.int v) H R :=
  w_setL h (ixN_pos h0 (by rw [List.length_map]; exact h1)) fun H2 h2 => q H2 (by rw [map_set] at h2; exact h2)
/-- .. of values -/
theorem w_setV {H : Hp} {a : Addr} {i : Int} {v : V} {xs : List V} {R : Hp → Prop} (h : At H a (.lst xs)) (h0 : 0 ≤ i) (h1 : i < xs.length) (q : ∀ H2, At H2 a (.lst (xs.set i.toNat v)) → Nl H H2 → (∀ H0, Ex H0 H → Fr H0 a → Ex H0 H2) → (∀ b o, b ≠ a → At H b o → At H2 b o) → R H2) : rSetL (.ref a) (.int i) v H R :=
  w_setL h (ixN_pos h0 h1) q
/-! ### a number with itself -/
section
variable {K : PySem.W.Frag} {H : Hp} {Q : VK} {i : Int} {t : Str}
theorem w_eqIr (q : Q (.bl true) H) : rEqZ K (.int i) (.int i) H Q := w_eqZI (by rw [decide_eq_true rfl]; exact q)
theorem w_neIr (q : Q (.bl false) H) : rNeZ K (.int i) (.int i) H Q := w_neZI (by rw [decide_eq_true rfl]; exact q)
theorem w_eqSr (q : Q (.bl true) H) : rEqZ K (.str t) (.str t) H Q := w_eqZS (by rw [decide_eq_true rfl]; exact q)
theorem w_neSr (q : Q (.bl false) H) : rNeZ K (.str t) (.str t) H Q := w_neZS (by rw [decide_eq_true rfl]; exact q)
end
/-! ### isinstance, the object first -/
section
variable {K : PySem.W.Frag} {H : Hp} {Q : VK} {a C D dx : Addr} {fs : List (Str × V)} {b : Bool}
theorem w_isiOC2 (ha : At H a (.ins C dx fs)) (O : OwnC K C) (q : Q (.bl true) H) : rIsi K [.ref a, .ref C] H Q := w_isiOC O ha q
theorem w_isiOI2 (ha : At H a (.ins C dx fs)) (O : OwnC K C) (q : Q (.bl false) H) : rIsi K [.ref a, .ty "int"] H Q := w_isiOI O ha q
theorem w_isiOA2 (ha : At H a (.ins C dx fs)) (O : OwnC K C) (h : PySem.W.kitOne K (.ref C) (.ref D) = some b) (q : Q (.bl b) H) : rIsi K [.ref a, .ref D] H Q := w_isiOA O ha h q
end
/-! ### is None -/
def dIsN (Q : VK) : VK := fun x H1 => Q (.bl (decide (x = .non))) H1
def dNotN (Q : VK) : VK := fun x H1 => Q (.bl (!decide (x = .non))) H1
section
variable {σ : L2.St} {H : Hp} {Q : VK} {ta : TE} {i : Int} {t : Str} {a : Addr} {b : Bool}
theorem w_isN2 (h : ta σ H (dIsN Q)) : tIsN ta σ H Q := h
theorem w_notN2 (h : ta σ H (dNotN Q)) : tNotN ta σ H Q := h
theorem isN_n (q : Q (.bl true) H) : dIsN Q .non H := q
theorem isN_i (q : Q (.bl false) H) : dIsN Q (.int i) H := q
theorem isN_s (q : Q (.bl false) H) : dIsN Q (.str t) H := q
theorem isN_r (q : Q (.bl false) H) : dIsN Q (.ref a) H := q
theorem isN_b (q : Q (.bl false) H) : dIsN Q (.bl b) H := q
theorem notN_n (q : Q (.bl false) H) : dNotN Q .non H := q
theorem notN_i (q : Q (.bl true) H) : dNotN Q (.int i) H := q
theorem notN_s (q : Q (.bl true) H) : dNotN Q (.str t) H := q
theorem notN_r (q : Q (.bl true) H) : dNotN Q (.ref a) H := q
theorem notN_b (q : Q (.bl true) H) : dNotN Q (.bl b) H := q
end
end Z
namespace Z
open PySem L2 PySem.Spec PyProof.Rows HT
/-! ### t[::-1] of a tuple -/
theorem pick_back (xs : Array Value) : ((List.range xs.size).filterMap fun (m : Nat) => xs[(((xs.size : Int) - 1) + (m : Int) * (-1)).toNat]?).toArray = xs.toList.reverse.toArray := by
  congr 1
  have e : ∀ m, m < xs.size → xs[(((xs.size : Int) - 1) + (m : Int) * (-1)).toNat]? = xs.toList.reverse[m]? := fun m hm => by
    rw [List.getElem?_reverse (by rw [Array.length_toList]; exact hm), Array.length_toList, show (((xs.size : Int) - 1) + (m : Int) * (-1)).toNat = xs.size - 1 - m by omega]
    simp
  have e2 : (List.range xs.size).filterMap (fun (m : Nat) => xs[(((xs.size : Int) - 1) + (m : Int) * (-1)).toNat]?) = (List.range xs.size).filterMap fun m => xs.toList.reverse[m]? := by
    have gen : ∀ l : List Nat, (∀ m ∈ l, m < xs.size) → l.filterMap (fun (m : Nat) => xs[(((xs.size : Int) - 1) + (m : Int) * (-1)).toNat]?) = l.filterMap fun m => xs.toList.reverse[m]? := fun l hl => by
      induction l with
      | nil => rfl
      | cons a r ih =>
        rw [List.filterMap_cons, List.filterMap_cons, e a (hl a (by simp)), ih fun m hm => hl m (by simp [hm])]
    exact gen _ fun m hm => List.mem_range.mp hm
  rw [e2]
  have all : ∀ l : List Value, (List.range l.length).filterMap (fun m => l[m]?) = l := fun l => by
    induction l with
    | nil => rfl
    | cons a r ih =>
      rw [List.length_cons, List.range_succ_eq_map, List.filterMap_cons]
      simp only [List.getElem?_cons_zero, List.filterMap_map]
      congr 1
  have := all xs.toList.reverse
  rwa [List.length_reverse, Array.length_toList] at this
section
variable {prog : Program} {w : World} {A : Around} {E : Value → Shared → Prop} {s : Shared}
theorem tuple_back {t sl : Addr} {its : Array Value} {vl vu vs : Value} {Q : Value → Shared → Prop} (ht : IsTup s.heap t its) (hs : s.heap.IsSliceOf sl vl vu vs) (pl : IsPart vl none) (pu : IsPart vu none) (ps : IsPart vs (some (-1)))
    (h : Q (.ref s.heap.objs.size) { s with heap := s.heap.push { cls := .type "tuple", data := .seq its.toList.reverse.toArray } }) (hz : its.size ≤ sizeLine) : wpAny (model prog w) A (getItem (.ref t) (.ref sl)) Q E s := by
  obtain ⟨ob, hob, hcl, hda⟩ := id hs
  have hT : s.TypeIs (.ref sl) "slice" := ⟨ob, hob, hcl⟩
  have fits : sizeOk (.seq its.toList.reverse.toArray) := by
    show its.toList.reverse.toArray.size ≤ sizeLine
    rw [List.size_toArray, List.length_reverse, Array.length_toList]
    exact hz
  unfold getItem
  try with_reducible refine wpAny_holding ?_
  first | refine wpAny_bind (wpAny_pure ?_) | skip
  refine wpAny_bind (wpAny_sequenceKey ht.typeIs (by decide) ?_)
  refine wpAny_bind (wpAny_callSpecial?_slot (name := Str.ofString "__getitem__") ht.typeIs PyProof.Rows.slot_tuple_getitem (wpAny_call_entry PyProof.Rows.slot_tuple_getitem ht.typeIs entry_tuple_getitem ?_ (args_tuple_getitem _ _)))
  show wpAny _ _ (Builtin.Tuple.tupleItemsOf (.ref t) >>= _) _ _ s
  refine wpAny_bind (tupleItemsOf_ ht (wpAny_bind (wpAny_typeOf hT ?_)))
  rw [if_pos (by decide)]
  have ap : ∀ {Q' : Int × Int × Nat → Shared → Prop} {A' : Around} {E' : Value → Shared → Prop}, Q' ((its.size : Int) - 1, -1, its.size) s → wpAny (model prog w) A' (Builtin.Slice.sliceApplied (.ref sl) (pure (its.size : Int))) Q' E' s := by
    intro Q' A' E' q
    unfold Builtin.Slice.sliceApplied Builtin.Slice.sliceFields
    refine wpAny_bind (wpAny_bind (wpAny_field hob hda (x := vl) rfl (wpAny_bind (wpAny_field hob hda (x := vu) rfl (wpAny_bind (wpAny_field hob hda (x := vs) rfl (wpAny_pure ?_)))))))
    refine wpAny_bind (slicePart_ ps ?_)
    show wpAny _ _ (if ((-1 : Int) == 0) = true then _ else _) _ _ s
    rw [if_neg (by decide)]
    refine wpAny_bind (slicePart_ pl (wpAny_bind (slicePart_ pu (wpAny_bind (wpAny_pure ?_)))))
    show wpAny _ _ (pure ((its.size : Int) - 1, (-1 : Int), Builtin.Slice.slicePlaces ((its.size : Int) - 1) (-1) (-1))) _ _ s
    have e : Builtin.Slice.slicePlaces ((its.size : Int) - 1) (-1) (-1) = its.size := by
      unfold Builtin.Slice.slicePlaces
      rw [if_neg (by decide)]
      by_cases h0 : its.size = 0
      · rw [h0]; decide
      · rw [if_pos (by omega), show (-(-1) : Int) = 1 from rfl, Int.ediv_one]; omega
    rw [e]
    exact wpAny_pure q
  refine wpAny_bind (ap ?_)
  have hno : ¬ ((((its.size : Int) - 1) == 0 && (-1 : Int) == 1 && its.size == its.size) = true) := fun q => by
    rw [Bool.and_eq_true, Bool.and_eq_true] at q
    exact absurd q.1.2 (by decide)
  show wpAny _ _ (if (((its.size : Int) - 1) == 0 && (-1 : Int) == 1 && its.size == its.size) = true then _ else _) _ _ s
  rw [if_neg hno, pick_back]
  first
    | exact wpAny_bind (m := Builtin.Tuple.tupleExact _) (wpAny_newObj_type (wpAny_pure ⟨_, rfl, wpAny_pure h⟩) fits)
    | exact wpAny_bind (wpAny_bind (m := Builtin.Tuple.tupleExact _) (wpAny_newObj_type (wpAny_pure (wpAny_pure ⟨_, rfl, wpAny_pure h⟩)) fits))
    | exact wpAny_bind (wpAny_bind (m := Builtin.Tuple.tupleExact _) (wpAny_newObj_type (wpAny_pure ⟨_, rfl, wpAny_pure h⟩) fits))
end
section
variable {X : Cx}
def tRevT (K : PySem.W.Frag) (te : TE) : TE := fun σ H Q => te σ H fun x H1 => ∃ a xs, x = .ref a ∧ SqT K H1 a xs ∧ ∀ p, Fr H1 p → Q (.ref p) (upd H1 p (.tup xs.reverse))
theorem pe_revT {K : PySem.W.Frag} (hK : X.K = K) {e : Expr} {te : TE} {k : Nat} {p1 p2 p3 pos : Pos} (he : PE X e te) : PE X (.Subscript e (.Slice none none (some (.UnaryOp .USub (.Constant (.int 1) k p1) p2)) p3) pos) (tRevT K te) := by
  subst hK
  refine ⟨fun pins s σ G Q I h => Subscript_ (thn (he.run pins s σ G _ I h) fun v s1 ⟨x, G1, I1, r1, a, xs, ex, hx, q⟩ => ?_)⟩
  subst ex
  cases r1
  have hst : PO X (some (.UnaryOp .USub (.Constant (.int 1) k p1) p2)) (tPart (tUn (rU fun i => .int (-i)) (tC (.int 1)))) := po_some (pe_un L2.un_neg pe_int)
  refine wpAny_Slice (thn (po_none.run pins s1 σ G1 (fun o G2 => o = none ∧ G2 = G1) I1 ⟨rfl, rfl⟩) fun vl s2 ⟨l, G2, I2, pl, el, eg2⟩ => ?_)
  subst el eg2
  refine thn (po_none.run pins s2 σ G2 (fun o G3 => o = none ∧ G3 = G2) I2 ⟨rfl, rfl⟩) fun vu s3 ⟨u, G3, I3, pu, eu, eg3⟩ => ?_
  subst eu eg3
  refine thn (hst.run pins s3 σ G3 (fun o G4 => o = some (-1) ∧ G4 = G3) I3 ⟨1, rfl, -1, rfl, rfl, rfl⟩) fun vs s4 ⟨o, G4, I4, ps, eo, eg4⟩ => ?_
  subst eo eg4
  have I5 : Inv X pins σ G4 { s4 with heap := s4.heap.push { cls := .type "slice", data := .fields #[vl, vu, vs] } } := I4.kept (t' := s4.toks) fun b ob q => Heap.get?_push_of_some _ q
  obtain ⟨its, r, ht, hz⟩ := I5.tuple hx
  have hlen := r.length
  refine tail_any (ops := [.ref a, .ref s4.heap.objs.size]) ht.typeIs PyProof.Rows.slot_tuple_getitem.lookup ?_ (by with_unfolding_all rfl)
  refine tuple_back ht (Heap.IsSliceOf.new _ vl vu vs) pl pu ps ?_ (by rw [List.size_toArray]; omega)
  refine ⟨.ref _, _, I5.laid (t' := s4.toks) (o := .tup xs.reverse) (fun b ob q => Heap.get?_push_of_some _ q) (Nat.le_refl _) ?_, rfl, q _ (I5.hok.fresh (Nat.le_refl _))⟩
  exact ⟨by rw [List.length_reverse]; exact hz, _, r.reverse, IsTup.new _ _⟩
theorem revL {K : PySem.W.Frag} (hK : X.K = K) {e : Expr} {te : TE} {k : Nat} {p1 p2 p3 pos : Pos} (he : PE X e te) : PE X (.Subscript e (.Slice none none (some (.UnaryOp .USub (.Constant (.int 1) k p1) p2)) p3) pos) (tRevL K te) := hK ▸ pe_revL he
theorem catA {K : PySem.W.Frag} (hK : X.K = K) : OpR X (binaryOp .Add) (rCatA K) := hK ▸ op_catA
end
def dRevT (K : PySem.W.Frag) (Q : VK) : VK := fun x H1 => ∃ a xs, x = .ref a ∧ SqT K H1 a xs ∧ ∀ p, Fr H1 p → Q (.ref p) (upd H1 p (.tup xs.reverse))
def dRevL (K : PySem.W.Frag) (Q : VK) : VK := fun x H1 => ∃ a xs, x = .ref a ∧ SqL K H1 a xs ∧ ∀ p, H1 p = none → Q (.ref p) (upd H1 p (.lst xs.reverse))
section
variable {K : PySem.W.Frag} {σ : L2.St} {H : Hp} {Q : VK} {te : TE} {a b : Addr} {ns ms : List Int} {xs ys : List V}
theorem w_revT (h : te σ H (dRevT K Q)) : tRevT K te σ H Q := h
theorem w_revL (h : te σ H (dRevL K Q)) : tRevL K te σ H Q := h
theorem w_dRevT (h : SqT K H a (ns.map V.int)) (q : ∀ p H2, Fr H p → Ex H H2 → At H2 p (.tup (ns.reverse.map V.int)) → Q (.ref p) H2) : dRevT K Q (.ref a) H := ⟨a, _, rfl, h, fun p hp => q p _ hp (Ex.new hp) (by rw [List.map_reverse]; exact at_upd)⟩
theorem w_dRevL (h : SqL K H a (ns.map V.int)) (q : ∀ p H2, Fr H p → Ex H H2 → At H2 p (.lst (ns.reverse.map V.int)) → Q (.ref p) H2) : dRevL K Q (.ref a) H := ⟨a, _, rfl, h, fun p hp => q p _ hp (Ex.new hp) (by rw [List.map_reverse]; exact at_upd)⟩
/-- t + u of tuples of ints -/
theorem w_catI (h1 : SqT K H a (ns.map V.int)) (h2 : SqT K H b (ms.map V.int)) (hz : ns.length + ms.length ≤ 16777216) (q : ∀ p H2, Ex H H2 → SqT K H2 p ((ns ++ ms).map V.int) → Q (.ref p) H2) : rCatA K (.ref a) (.ref b) H Q := by
  refine ⟨a, b, _, _, rfl, rfl, h1, h2, by rw [List.length_map, List.length_map]; exact hz, fun e => ?_, fun _ e => ?_, fun _ _ p hp => q p _ (Ex.new hp) (st_of (by rw [List.map_append]; exact at_upd))⟩
  · have : ns = [] := by simpa using e
    subst this
    exact q b H (Ex.refl H) h2
  · have : ms = [] := by simpa using e
    subst this
    rw [List.append_nil] at q
    exact q a H (Ex.refl H) h1
/-- any slice of a tuple of ints is one, and no longer -/
theorem w_slAny {lo hi : Option Int} (h : SqT K H a (ns.map V.int)) (q : ∀ p H2 (ms : List Int), Ex H H2 → ms.Sublist ns → SqT K H2 p (ms.map V.int) → Q (.ref p) H2) : rSlA K (.ref a) lo hi H Q := by
  refine ⟨a, _, rfl, h, fun hw => q a H ns (Ex.refl H) (List.Sublist.refl _) h, fun hw p hp => ?_⟩
  refine q p _ ((ns.drop (HT.sIx (ns.map V.int).length 0 lo)).take (HT.sIx (ns.map V.int).length (ns.map V.int).length hi - HT.sIx (ns.map V.int).length 0 lo)) (Ex.new hp) ((List.take_sublist _ _).trans (List.drop_sublist _ _)) (st_of ?_)
  show upd H p _ p = _
  rw [upd_same]
  unfold cutV
  rw [List.map_take, List.map_drop]
end
/-- ways that join with the slots as they were -/
theorem w_cutS {t u : TS} {D : Ends} {σ : L2.St} {H : Hp} (H0 : Hp) (h : t ⟨fun σ' G => σ' = σ ∧ Ex H0 G, D.rt, D.bk, D.ct⟩ σ H) (k : ∀ G, Ex H0 G → u D σ G) : C8.tCut t u D σ H :=
  w_cut _ h fun σ' G ⟨e1, e2⟩ => by subst e1; exact k G e2
/-- tuples stand behind an append -/
theorem Nl.t {K : PySem.W.Frag} {H H' : Hp} {a : Addr} {xs : List V} (e : Nl H H') (h : SqT K H a xs) : SqT K H' a xs := by
  rcases h with (h | ⟨o, h⟩) | h
  · exact .inl (.inl (e.get (fun l z => by cases z) h))
  · exact .inl (.inr ⟨o, e.get (fun l z => by cases z) h⟩)
  · exact .inr h
theorem tEN {K : PySem.W.Frag} {H H' : Hp} {a : Addr} {xs : List V} (h : SqT K H a xs) (e : Nls H H') : SqT K H' a xs := e.nl.t h
/-- t[-1:] of a tuple of ints that is not empty -/
theorem w_slBack {K : PySem.W.Frag} {H : Hp} {Q : VK} {a : Addr} {ns : List Int} (h : SqT K H a (ns.map V.int)) (h0 : 0 < ns.length) (q : ∀ p H2, Ex H H2 → SqT K H2 p ((ns.drop (ns.length - 1)).map V.int) → Q (.ref p) H2) : rSlA K (.ref a) (some (-1)) none H Q := by
  have e : HT.sIx (ns.map V.int).length 0 (some (-1)) = ns.length - 1 := by
    rw [List.length_map]
    unfold HT.sIx
    simp
    omega
  refine ⟨a, _, rfl, h, fun hw => ?_, fun hw p hp => q p _ (Ex.new hp) (st_of ?_)⟩
  · have := hw.1
    rw [e] at this
    refine q a H (Ex.refl H) ?_
    rw [this, List.drop_zero]
    exact h
  · show upd H p _ p = _
    rw [upd_same]
    unfold cutV
    rw [e, HT.sIx_none, List.length_map, List.take_of_length_le (by rw [List.length_drop, List.length_map]; exact Nat.le_refl _), List.map_drop]
/-- xs.pop() of ints -/
theorem w_pop0 {H : Hp} {Q : VK} {a : Addr} {ns : List Int} (h : At H a (.lst (ns.map V.int))) (h0 : 0 < ns.length) (q : ∀ H2, At H2 a (.lst (ns.dropLast.map V.int)) → Nl H H2 → (∀ H0, Ex H0 H → Fr H0 a → Ex H0 H2) → (∀ b o, b ≠ a → At H b o → At H2 b o) → Q (.int (ns.getD (ns.length - 1) 0)) H2) : rPop (.ref a) [] H Q := by
  refine ⟨a, _, _, rfl, rfl, h, ?_, q _ ?_ (Nl.upd h) (fun H0 e n => Ex.mut e n) (fun b o hb e => by unfold At; rw [upd_ne hb]; exact e)⟩
  · rw [List.length_map, List.getElem?_map, List.getD_eq_getElem?_getD, List.getElem?_eq_getElem (by omega)]
    rfl
  · unfold At
    rw [upd_same, List.map_dropLast]
section
variable {K : PySem.W.Frag} {H : Hp} {Q : VK} {a b : Addr} {ns : List Int}
theorem w_eqLr (h1 : SqL K H a (ns.map V.int)) (h2 : SqL K H b (ns.map V.int)) (q : Q (.bl true) H) : rEqZ K (.ref a) (.ref b) H Q := w_eqLI h1 h2 (by rw [decide_eq_true rfl]; exact q)
theorem w_neLr (h1 : SqL K H a (ns.map V.int)) (h2 : SqL K H b (ns.map V.int)) (q : Q (.bl false) H) : rNeZ K (.ref a) (.ref b) H Q := w_neLI h1 h2 (by rw [decide_eq_true rfl]; exact q)
theorem w_eqTr (h1 : SqT K H a (ns.map V.int)) (h2 : SqT K H b (ns.map V.int)) (q : Q (.bl true) H) : rEqZ K (.ref a) (.ref b) H Q := w_eqTI h1 h2 (by rw [decide_eq_true rfl]; exact q)
theorem w_neTr (h1 : SqT K H a (ns.map V.int)) (h2 : SqT K H b (ns.map V.int)) (q : Q (.bl false) H) : rNeZ K (.ref a) (.ref b) H Q := w_neTI h1 h2 (by rw [decide_eq_true rfl]; exact q)
end
/-! ### slots as a written list -/
class SetsTo (σ : List (Option V)) (i : Nat) (v : Option V) (σ' : outParam (List (Option V))) : Prop where
  eq : σ.set i v = σ'
instance SetsTo.zero {x v : Option V} {r : List (Option V)} : SetsTo (x :: r) 0 v (v :: r) := ⟨rfl⟩
instance SetsTo.succ {x v : Option V} {r r' : List (Option V)} {i : Nat} [s : SetsTo r i v r'] : SetsTo (x :: r) (i + 1) v (x :: r') := ⟨by rw [← s.eq]; rfl⟩
theorem w_gnS {i : Nat} {v : V} {σ σ' : L2.St} {H : Hp} {R : L2.St → Hp → Prop} [s : SetsTo σ i (some v) σ'] (h : R σ' H) : gName i v σ H R := by
  have e := s.eq
  show R (σ.set i (some v)) H
  rw [e]
  exact h
end Z
namespace Z
open PySem L2 PySem.Spec PyProof.Rows
/-! ### for x in a list or a tuple -/
def SqA (K : PySem.W.Frag) (H : Hp) (a : Addr) (xs : List V) : Prop := SqL K H a xs ∨ SqT K H a xs
def dA (K : PySem.W.Frag) (R : It → Hp → Prop) : VK := fun x H1 => ∃ a, x = .ref a ∧ (((∃ xs, SqL K H1 a xs) ∧ R (Itl K a) H1) ∨ ((∃ xs, SqT K H1 a xs) ∧ R (Itt K a) H1))
def iAny (K : PySem.W.Frag) (tl : TE) : TI := fun σ H R => tl σ H (dA K R)
theorem piA {X : Cx} {K : PySem.W.Frag} (hK : X.K = K) {tg l : Expr} {tl : TE} (hl : PE X l tl) : PI X tg l (iAny K tl) := by
  subst hK
  constructor
  intro pins s σ H R I h
  refine thn (hl.run pins s σ H _ I h) ?_
  rintro v s1 ⟨x, H1, I1, r1, a, rfl, q1⟩
  cases r1
  have new : ∀ b ∈ [s1.heap.objs.size], FpOk X pins H1 b := fun b hb => by
    rw [List.mem_singleton.mp hb]
    exact I1.fpOk (Nat.le_refl _) (I1.hok.fresh (Nat.le_refl _))
  rcases q1 with ⟨⟨xs, hq⟩, q⟩ | ⟨⟨xs, hq⟩, q⟩
  · obtain ⟨its, rv, p, hz⟩ := I1.list hq
    exact wpAny_pyIter_list p.isList ⟨_, [s1.heap.objs.size], _, _, H1, rfl, I1.kept (t' := s1.toks) fun b o e => Heap.get?_push_of_some _ e, turn_list a _, ⟨_, Heap.get?_push_size _ rfl, rfl, rfl⟩, new, q⟩
  · obtain ⟨its, rv, p, hz⟩ := I1.tuple hq
    exact wpAny_pyIter_tuple (show s1.heap.IsTuple a its.toArray from p) ⟨_, [s1.heap.objs.size], _, _, H1, rfl, I1.kept (t' := s1.toks) fun b o e => Heap.get?_push_of_some _ e, turn_tuple a _, ⟨_, Heap.get?_push_size _ rfl, rfl, rfl⟩, new, q⟩
section
variable {K : PySem.W.Frag} {σ : L2.St} {H H' : Hp} {Q : VK} {te : TE} {a : Addr} {xs : List V} {R : It → Hp → Prop}
theorem w_iA (h : te σ H (dA K R)) : iAny K te σ H R := h
theorem Ex.sa (e : Ex H H') (h : SqA K H a xs) : SqA K H' a xs := h.imp e.l e.t
theorem aE (h : SqA K H a xs) (e : Exs H H') : SqA K H' a xs := e.ex.sa h
theorem i_A (h : SqA K H a xs) (k : ∀ J, Src J (fun H' => SqA K H' a xs ∧ (SqL K H a xs → SqL K H' a xs) ∧ (SqT K H a xs → SqT K H' a xs)) xs.length (fun i x _ => xs[i]? = some x) → R J H) : dA K R (.ref a) H := by
  refine ⟨a, rfl, ?_⟩
  rcases h with h | h
  · refine .inl ⟨⟨xs, h⟩, k _ ⟨fun i H' hp hi => ⟨xs, xs[i], hp.2.1 h, List.getElem?_eq_getElem hi⟩, fun H' hp => ⟨xs, hp.2.1 h, Nat.le_refl _⟩, fun i H' x H'' hp hi hy => ?_⟩⟩
    obtain ⟨e, f⟩ := hy
    exact ⟨by rw [e]; exact Ex.refl _, f xs (hp.2.1 h)⟩
  · refine .inr ⟨⟨xs, h⟩, k _ ⟨fun i H' hp hi => ⟨xs, xs[i], hp.2.2 h, List.getElem?_eq_getElem hi⟩, fun H' hp => ⟨xs, hp.2.2 h, Nat.le_refl _⟩, fun i H' x H'' hp hi hy => ?_⟩⟩
    obtain ⟨e, f⟩ := hy
    exact ⟨by rw [e]; exact Ex.refl _, f xs (hp.2.2 h)⟩
theorem aOk (h : SqA K H a xs) (e : Ex H H') : SqA K H' a xs ∧ (SqL K H a xs → SqL K H' a xs) ∧ (SqT K H a xs → SqT K H' a xs) := ⟨e.sa h, e.l, e.t⟩
end
end Z
namespace Z
open PySem L2 PySem.Spec PyProof.Rows
/-! ### == of lists and tuples of flat values -/
def flD : V → Option PyData
  | .non => some .none
  | .bl b => some (.bool b)
  | .int i => some (.int i)
  | .str x => some (.str x)
  | _ => none
def okV : V → Bool
  | .str x => PyData.strOk x
  | _ => true
def okVs : List V → Bool
  | [] => true
  | v :: r => okV v && okVs r
def fls : List V → Option (List PyData)
  | [] => some []
  | v :: r => match flD v, fls r with
    | some d, some ds => some (d :: ds)
    | _, _ => none
theorem fls_cons {v : V} {r : List V} {es : List PyData} (h : fls (v :: r) = some es) : ∃ d ds, flD v = some d ∧ fls r = some ds ∧ es = d :: ds := by
  unfold fls at h
  split at h
  · rename_i d ds h1 h2
    exact ⟨d, ds, h1, h2, (Option.some.inj h).symm⟩
  · cases h
theorem flD_dp {K : PySem.W.Frag} {H : Hp} {v : V} {d : PyData} (h : flD v = some d) : Dp K H v d := by
  cases v <;> simp only [flD, reduceCtorEq, Option.some.injEq] at h <;> subst h <;> constructor
theorem fls_dp {K : PySem.W.Frag} {H : Hp} : ∀ {xs : List V} {ds : List PyData}, fls xs = some ds → DpAll K H xs ds
  | [], ds, h => by cases h; exact .nil
  | v :: r, es, h => by
    obtain ⟨d, ds, h1, h2, rfl⟩ := fls_cons h
    exact .cons (flD_dp h1) (fls_dp h2)
theorem flD_can {v : V} {d : PyData} (h : flD v = some d) (o : okV v = true) : d.canLay0 = true ∧ d.depth = 0 ∧ PyData.eqv d d = true := by
  cases v <;> simp only [flD, reduceCtorEq, Option.some.injEq] at h <;> subst h <;> first | (simp [PyData.canLay0, PyData.depth, PyData.eqv]; done) | (simp only [okV] at o; simp [PyData.canLay0, PyData.depth, PyData.eqv, o])
theorem fls_can : ∀ {xs : List V} {ds : List PyData}, fls xs = some ds → okVs xs = true → PyData.canLayAll0 ds = true ∧ PyData.depthAll ds = 0 ∧ PyData.eqvAll ds ds = true
  | [], ds, h, _ => by cases h; simp [PyData.canLayAll0, PyData.depthAll, PyData.eqvAll]
  | v :: r, es, h, o => by
    obtain ⟨d, ds, h1, h2, rfl⟩ := fls_cons h
    obtain ⟨o1, o2⟩ := Bool.and_eq_true_iff.mp (show (okV v && okVs r) = true from o)
    obtain ⟨a1, a2, a3⟩ := flD_can h1 o1
    obtain ⟨b1, b2, b3⟩ := fls_can h2 o2
    simp [PyData.canLayAll0, PyData.depthAll, PyData.eqvAll, a1, a2, a3, b1, b2, b3]
theorem fls_shL {xs : List V} {ds : List PyData} (h : fls xs = some ds) (o : okVs xs = true) : SeqAt.shaped (.list ds) = true := by
  obtain ⟨b1, b2, b3⟩ := fls_can h o
  simp [SeqAt.shaped, PyData.canLay0, PyData.depth, b1, b2]
theorem fls_shT {xs : List V} {ds : List PyData} (h : fls xs = some ds) (o : okVs xs = true) : SeqAt.shaped (.tuple ds) = true := by
  obtain ⟨b1, b2, b3⟩ := fls_can h o
  simp [SeqAt.shaped, PyData.canLay0, PyData.depth, b1, b2]
section
variable {K : PySem.W.Frag} {H : Hp} {Q : VK} {a b : Addr} {xs ys : List V} {ds es : List PyData}
theorem w_eqLF (h1 : SqL K H a xs) (h2 : SqL K H b ys) (e1 : fls xs = some ds) (e2 : fls ys = some es) (o1 : okVs xs = true) (o2 : okVs ys = true) (q : Q (.bl (PyData.eqvAll ds es)) H) : rEqZ K (.ref a) (.ref b) H Q := .inr ⟨_, _, .lst h1 (fls_dp e1), .lst h2 (fls_dp e2), fls_shL e1 o1, fls_shL e2 o2, by unfold PyData.eqv; exact q⟩
theorem w_neLF (h1 : SqL K H a xs) (h2 : SqL K H b ys) (e1 : fls xs = some ds) (e2 : fls ys = some es) (o1 : okVs xs = true) (o2 : okVs ys = true) (q : Q (.bl (!PyData.eqvAll ds es)) H) : rNeZ K (.ref a) (.ref b) H Q := .inr ⟨_, _, .lst h1 (fls_dp e1), .lst h2 (fls_dp e2), fls_shL e1 o1, fls_shL e2 o2, by unfold PyData.eqv; exact q⟩
theorem w_eqTF (h1 : SqT K H a xs) (h2 : SqT K H b ys) (e1 : fls xs = some ds) (e2 : fls ys = some es) (o1 : okVs xs = true) (o2 : okVs ys = true) (q : Q (.bl (PyData.eqvAll ds es)) H) : rEqZ K (.ref a) (.ref b) H Q := .inr ⟨_, _, .tup h1 (fls_dp e1), .tup h2 (fls_dp e2), fls_shT e1 o1, fls_shT e2 o2, by unfold PyData.eqv; exact q⟩
theorem w_neTF (h1 : SqT K H a xs) (h2 : SqT K H b ys) (e1 : fls xs = some ds) (e2 : fls ys = some es) (o1 : okVs xs = true) (o2 : okVs ys = true) (q : Q (.bl (!PyData.eqvAll ds es)) H) : rNeZ K (.ref a) (.ref b) H Q := .inr ⟨_, _, .tup h1 (fls_dp e1), .tup h2 (fls_dp e2), fls_shT e1 o1, fls_shT e2 o2, by unfold PyData.eqv; exact q⟩
theorem w_eqLFr (h1 : SqL K H a xs) (h2 : SqL K H b xs) (e1 : fls xs = some ds) (o1 : okVs xs = true) (q : Q (.bl true) H) : rEqZ K (.ref a) (.ref b) H Q := w_eqLF h1 h2 e1 e1 o1 o1 (by rw [(fls_can e1 o1).2.2]; exact q)
theorem w_neLFr (h1 : SqL K H a xs) (h2 : SqL K H b xs) (e1 : fls xs = some ds) (o1 : okVs xs = true) (q : Q (.bl false) H) : rNeZ K (.ref a) (.ref b) H Q := w_neLF h1 h2 e1 e1 o1 o1 (by rw [(fls_can e1 o1).2.2]; exact q)
theorem w_eqTFr (h1 : SqT K H a xs) (h2 : SqT K H b xs) (e1 : fls xs = some ds) (o1 : okVs xs = true) (q : Q (.bl true) H) : rEqZ K (.ref a) (.ref b) H Q := w_eqTF h1 h2 e1 e1 o1 o1 (by rw [(fls_can e1 o1).2.2]; exact q)
theorem w_neTFr (h1 : SqT K H a xs) (h2 : SqT K H b xs) (e1 : fls xs = some ds) (o1 : okVs xs = true) (q : Q (.bl false) H) : rNeZ K (.ref a) (.ref b) H Q := w_neTF h1 h2 e1 e1 o1 o1 (by rw [(fls_can e1 o1).2.2]; exact q)
end
example (i : Int) : okVs [.str "prices", .int i, .non] = true := by kernel_rfl
end Z
namespace Z
open PySem L2 PySem.Spec PyProof.Rows
/-! ### C(e, .., k = v, ..): keyword-only parameters without defaults -/
theorem kb_of {K : PySem.W.Frag} {x qual : Str} {params : Arguments} {body : List Stmt} {scope : Scope} {kws : List (Str × V)} {f : Addr} {fd : FuncData} {ps ks : List Str} {n : Nat} (F : FunD K x qual params body scope [] kws f fd)
    (h : ∀ (kV doc pm : Value) (an : Option Addr) (cdv ct : Value) (us ws : List Value), us.length = n → ws.length = ks.length → bindArgs (PySem.W.fnOf x qual params body scope .none kV doc pm an cdv ct) ⟨us, ks.zip ws⟩ = pure (ps.zip (us ++ ws))) : KBn K fd ps n ks (fun us ws => us ++ ws) (fun vs zs => vs ++ zs) := by
  obtain ⟨oc, od, dV, kV, doc, pm, an, cdv, ct, osl, rfl, lk, hcd, hD, hK⟩ := F.ex
  rcases hD with ⟨_, rfl⟩ | ⟨e, _⟩
  · exact ⟨fun s us ws _ l1 l2 => .of_eq (h kV doc pm an cdv ct us ws l1 l2), fun r1 r2 => r1.append r2⟩
  · exact absurd rfl e
section
variable {X : Cx} {CX : CXT} {k n : Nat} {f C : Addr} {fd : FuncData} {ps ks : List Str} {sp : Sp} {E : L2.St → XK} {x : Str} {p pos : Pos} {e : Expr} {es : List Expr} {kws : List Keyword} {t tk : TA} {g : List Value → List Value → List Value} {gV : List V → List V → List V}
theorem run_makeKZ {pins : List (Addr × Obj)} {σ : L2.St} {G : Hp} {s : Shared} {Q : VK} {us ws : List Value} {vs zs : List V} (M : Mk X.K C f) (F : FnOk X.prog X.w X.K X.mg X.base CX k f fd ps sp) (hr : Room (k + 1) X.A) (hb : KBn X.K fd ps (n + 1) ks g gV) (hx : PassesAt CX X σ (E σ)) (I : Inv X pins σ G s) (r : Vals vs us) (rz : Vals zs ws) (l1 : vs.length = n) (l2 : zs.length = ks.length)
    (h : ∀ x dx, G x = none → G dx = none → dx ≠ x → sp (gV (.ref x :: vs) zs) (upd (upd G dx (.own x)) x (.ins C dx [])) (fun v H2 => v = .non ∧ Q (.ref x) H2) (E σ)) : wpAny (model X.prog X.w) X.A (call (.ref C) us (ks.zip ws)) (EP X pins σ Q) X.xe s := by
  have J := Inv.made (C := C) I
  have w2 := hb.rel (show Vals (V.ref (s.heap.objs.size + 1) :: vs) (Value.ref (s.heap.objs.size + 1) :: us) from .cons rfl r) rz
  have n1 : (Value.ref (s.heap.objs.size + 1) :: us).length = n + 1 := by rw [List.length_cons, ← r.length, l1]
  have hq := h (s.heap.objs.size + 1) s.heap.objs.size (I.hok.fresh (Nat.le_succ _)) (I.hok.fresh (Nat.le_refl _)) (Nat.ne_of_lt (Nat.lt_succ_self _))
  have hB := hb.to _ (Value.ref (s.heap.objs.size + 1) :: us) ws J.kIn n1 (rz.length.symm.trans l2)
  refine wpAny_call (make_map (f := f) I.kIn M.makes M.init (beq_iff_eq.mp M.fn) (codeAny_mono (F.run _ X.stack _ _ _ _ _ _ (E σ) (hr.make C us (ks.zip ws)) (J.env0.make C us (ks.zip ws)) hB w2 hq) fun r s' z => ?_))
  match r, z with
  | .error e, z => exact hx pins _ _ e s' J z
  | .ok (.ret u), z =>
    obtain ⟨v, H', I3, rv, ev, q3⟩ := J.after z
    subst ev
    exact ⟨rv, V.ref (s.heap.objs.size + 1), H', I3, rfl, q3⟩
  | .ok .next, z => exact z.elim
  | .ok .brk, z => exact z.elim
  | .ok .cont, z => exact z.elim
def tMakeKZ (C : Addr) (n m : Nat) (sp : Sp) (gV : List V → List V → List V) (E : L2.St → XK) (t tk : TA) : TE := fun σ H Q => tMakeK C n m sp gV (E σ) t tk σ H Q
theorem pe_makeKZ (M : Mk X.K C f) (F : FnOk X.prog X.w X.K X.mg X.base CX k f fd ps sp) (hr : Room (k + 1) X.A) (hg : Gl X x) (hm : X.mg x = some (.ref C)) (hb : KBn X.K fd ps (n + 1) ks g gV) (hx : ∀ σ, PassesAt CX X σ (E σ)) (ha : PA X (e :: es) t) (hkw : PK X kws tk)
    (hall : (backToKw pos (keywordEach kws X.env)).all (·.1.isSome) = true := by rfl) (hks : (backToKw pos (keywordEach kws X.env)).filterMap (·.1) = ks := by rfl) (hdb : (x == ("__debug__" : Str)) = false := by decide)
    (he : starEach (e :: es) X.env = (false, eval e X.env) :: starEach es X.env := by rfl) (hpl : ((backTo pos (starEach (e :: es) X.env)).any (·.1) || (backToKw pos (keywordEach kws X.env)).any (·.1.isNone)) = false := by rfl) :
    PE X (.Call (.Name x p) (e :: es) kws pos) (tMakeKZ C n ks.length sp gV E t tk) := by
  constructor
  intro pins s σ G Q I h
  have go : ∀ us s1, (∃ vs H1, Inv X pins σ H1 s1 ∧ Vals vs us ∧ tk σ H1 fun zs H2 => vs.length = n ∧ zs.length = ks.length ∧ ∀ x dx, H2 x = none → H2 dx = none → dx ≠ x → sp (gV (.ref x :: vs) zs) (upd (upd H2 dx (.own x)) x (.ins C dx [])) (fun v H3 => v = .non ∧ Q (.ref x) H3) (E σ)) →
      wpAny (model X.prog X.w) X.A (evalAll ((backToKw pos (keywordEach kws X.env)).map (·.2))) (fun ws s2 => X.K.In s2.heap ∧ wpAny (model X.prog X.w) X.A (call (.ref C) us (((backToKw pos (keywordEach kws X.env)).filterMap (·.1)).zip ws)) (EP X pins σ Q) X.xe s2) X.xe s1 := by
    rintro us s1 ⟨vs, H1, I1, r, q⟩
    refine thn (hkw.run pos pins s1 σ H1 _ I1 q) ?_
    rintro ws s2 ⟨zs, H2, I2, rz, l1, l2, q2⟩
    refine ⟨I2.kIn, ?_⟩
    rw [hks]
    exact run_makeKZ M F hr hb (hx σ) I2 r rz l1 l2 q2
  exact wpAny_Call_Name_kw (ld_glob I hg hm (PySem.W.callWith_KW (h₀ := X.base) I.ok.mod.kin M.kp hall (thn (ha.run pos pins s σ G _ I h) go) hpl he) hdb)
end
section
variable {K : PySem.W.Frag} {σ : L2.St} {H : Hp} {Q : VK} {C : Addr} {n m : Nat} {sp : Sp} {t tk : TA} {i : Int} {z : Str} {b : Bool}
theorem w_makeK {E : XK} (h : t σ H fun vs H1 => tk σ H1 fun zs H2 => vs.length = n ∧ zs.length = m ∧ dMk C sp [] E Q (vs ++ zs) H2) : tMakeK C n m sp (fun vs zs => vs ++ zs) E t tk σ H Q := by
  show t σ H fun vs H1 => tk σ H1 fun zs H2 => vs.length = n ∧ zs.length = m ∧ ∀ x dx, H2 x = none → H2 dx = none → dx ≠ x → sp ((.ref x :: vs) ++ zs) (upd (upd H2 dx (.own x)) x (.ins C dx [])) (fun v H3 => v = .non ∧ Q (.ref x) H3) E
  simp only [dMk, List.append_nil] at h
  exact h
theorem w_makeKZ {E : L2.St → XK} (h : t σ H fun vs H1 => tk σ H1 fun zs H2 => vs.length = n ∧ zs.length = m ∧ dMk C sp [] (E σ) Q (vs ++ zs) H2) : tMakeKZ C n m sp (fun vs zs => vs ++ zs) E t tk σ H Q := w_makeK h
theorem w_two {A B R : Prop} (h1 : A) (h2 : B) (h : R) : A ∧ B ∧ R := ⟨h1, h2, h⟩
theorem w_isiIS (q : Q (.bl false) H) : rIsi K [.int i, .ty "str"] H Q := w_isiB (.base (.int _)) (by decide +kernel) q
theorem w_isiSI (q : Q (.bl false) H) : rIsi K [.str z, .ty "int"] H Q := w_isiB (.base (.str _)) (by decide +kernel) q
end
end Z
namespace Z
open PySem L2 PySem.Spec PyProof.Rows
open AutoSeq1 (wpAny_loadPart')
/-! ### enumerate of a tuple -/
theorem meets_enumT (t : Addr) (its : Array Value) (n : Nat) (dct : Option Addr) (sl : Array (Option Value)) :
    Meets (Builtin.«enumerate.__new__» ⟨[.type "enumerate", .ref t], []⟩) (fun _ R s => s.heap.get? t = some { cls := .type "tuple", dict := dct, data := .seq its n, slots := sl } ∧
      R (.ok (.ret (.ref (s.heap.push { cls := .type "tuple_iterator", data := .fields #[.ref t, .int 0 0] }).objs.size)))
        { s with heap := (s.heap.push { cls := .type "tuple_iterator", data := .fields #[.ref t, .int 0 0] }).push { cls := .type "enumerate", data := .fields #[.none, .bool false, .ref s.heap.objs.size, rawInt 0, .none, .none] } }) :=
  .of_wp fun prog w A R s h => by
    obtain ⟨hp, g, d, tk, os⟩ := s
    obtain ⟨ht, h⟩ := h
    have hsub := sub_enumerate
    have hT : Heap.IsTuple (Shared.heap ⟨hp, g, d, tk, os⟩) t its := ⟨_, ht, rfl, n, rfl⟩
    wp_walk using wpAny_loadPart' ht
    refine wpAny_stack_any fun st => wpAny_pure ?_
    split
    · rename_i c _ _ _ _ _
      cases (c == Value.type "enumerate") <;> (wp_walk using wpAny_loadPart' ht, wpAny_pyIter_tuple hT; exact ⟨_, rfl, h⟩)
    · wp_walk using wpAny_loadPart' ht, wpAny_pyIter_tuple hT
      exact ⟨_, rfl, h⟩
theorem call_enumT {prog : Program} {w : World} {A : Around} {E : Value → Shared → Prop} {s : Shared} {t : Addr} {its : Array Value} {Q : Value → Shared → Prop} (hT : s.heap.IsTuple t its)
    (h : ∀ h', IsEnum h' (s.heap.objs.size + 1) s.heap.objs.size 0 .none → h'.IsTupleIter s.heap.objs.size t 0 → (∀ b o, s.heap.get? b = some o → h'.get? b = some o) → Q (.ref (s.heap.objs.size + 1)) { s with heap := h' }) :
    wpAny (model prog w) A (call (.type "enumerate") [.ref t]) Q E s := by
  obtain ⟨⟨c, dct, dt, sl⟩, hl, hc, n, hd⟩ := hT
  cases (show c = .type "tuple" from hc)
  cases (show dt = .seq its n from hd)
  refine callType_new F.called_enumerate (by decide) (F.typeCall_enumerate_1 _) (F.newCall_enumerate_1 _) (fun obj => F.args_object_init_2 obj _) F.entry_enumerate_new (meets_enumT t its n dct sl) ⟨hl, ?_⟩
  have hz : (s.heap.push { cls := .type "tuple_iterator", data := .fields #[.ref t, .int 0 0] }).objs.size = s.heap.objs.size + 1 := Heap.size_push ..
  have he : IsEnum ((s.heap.push { cls := .type "tuple_iterator", data := .fields #[.ref t, .int 0 0] }).push { cls := .type "enumerate", data := .fields #[.none, .bool false, .ref s.heap.objs.size, rawInt 0, .none, .none] }) (s.heap.objs.size + 1) s.heap.objs.size 0 .none := by
    rw [← hz]
    exact Heap.get?_push_size _ rfl
  show _ ∧ _
  rw [hz]
  exact ⟨⟨_, he, rfl⟩, h _ he ⟨_, Heap.get?_push_of_some _ (Heap.get?_push_size _ rfl), rfl, rfl⟩ fun b o x => Heap.get?_push_of_some _ (Heap.get?_push_of_some _ x)⟩
theorem enum_endT {prog : Program} {w : World} {A : Around} {E : Value → Shared → Prop} {s : Shared} {e it t : Addr} {j : Nat} {k : Int} {old : Value} {its : Array Value} {Q : Option Value → Shared → Prop} (hh : A.handled = none) (he : IsEnum s.heap e it k old) (hit : s.heap.IsTupleIter it t j) (ht : s.heap.IsTuple t its) (hx : its[j]? = none)
    (hQ : ∀ h', Heap.ExtBut it s.heap h' → Q none { s with heap := h' }) : wpAny (model prog w) A (pyNext (.ref e)) Q E s := by
  have ty : s.TypeIs (.ref e) "enumerate" := ⟨_, he, rfl⟩
  have body : ∀ {A' : Around} {R : PySem.Fin → Shared → Prop} {E' : Value → Shared → Prop}, A'.handled = none → (∀ h' x, Heap.ExtBut it s.heap h' → (∃ o, h'.get? x = some o ∧ o.cls = .type "StopIteration") → E' (.ref x) { s with heap := h' }) → wpAny (model prog w) A' (Builtin.«enumerate.__next__» ⟨[.ref e], []⟩) R E' s := fun {A' R E'} h0 hE => by
    show wpAny _ _ (field (.ref e) 2 >>= _) _ _ _
    exact wpAny_bind (wpAny_field he rfl (x := .ref it) rfl (wpAny_bind (wpAny_nextOf_tuple_end h0 hit ht hx hE)))
  unfold pyNext
  refine wpAny_bind (wpAny_attempt (wpAny_callSpecial?_slot (name := Str.ofString "__next__") ty F.slot_enumerate_next (wpAny_call_entry F.slot_enumerate_next ty F.entry_enumerate_next (body (by exact hh) ?_) (F.args_enumerate_next_1 _))))
  rintro h' x eb ⟨o, ho, hc⟩
  exact wpAny_bind (wpAny_isInstance (T := "StopIteration") (b := true) ⟨o, ho, hc⟩ isSubtype_stop (wpAny_pure (hQ _ eb)))
/-- the tuple at a, each item in a new pair -/
def IteT (K : PySem.W.Frag) (a : Addr) : It :=
  ⟨fun i H => ∃ (xs : List V) (x : V), SqT K H a xs ∧ xs[i]? = some x, fun i H v H' => ∃ T x, v = .ref T ∧ H T = none ∧ H' = upd H T (.tup [.int (i : Nat), x]) ∧ ∀ xs, SqT K H a xs → xs[i]? = some x, fun i H => ∃ xs : List V, SqT K H a xs ∧ xs.length ≤ i⟩
theorem turn_enumT {P : Program} {w : World} {K : PySem.W.Frag} {elts : List Expr} {kk : Nat} {tpos : Pos} (a e it : Addr) :
    Turn P w K (.Tuple elts kk tpos) (IteT K a) [e, it] e (fun i h => (∃ old, IsEnum h e it ((i : Nat) : Int) old) ∧ h.IsTupleIter it a i ∧ e ≠ it ∧ a ≠ it ∧ a ≠ e) where
  mem := List.mem_cons_self
  obj := by
    rintro i h ⟨⟨old, he⟩, ⟨o, ho, hc, hd⟩, _⟩ b hb
    rcases List.mem_cons.mp hb with rfl | hb
    · exact ⟨_, he, fun v q => nomatch q⟩
    · rw [List.mem_singleton.mp hb]
      exact ⟨o, ho, fun v q => by rw [hd] at q; cases q⟩
  keep := by
    rintro i h h' ⟨⟨old, he⟩, hi, hne⟩ k
    exact ⟨⟨old, k e List.mem_cons_self _ he⟩, hi.at fun o q => k it (by simp) o q, hne⟩
  item := by
    intro X hP hw hK hc i pins s σ H E I hf st hg
    subst hP hw hK
    obtain ⟨⟨old, he⟩, hit, hne, hai, hae⟩ := st
    obtain ⟨xs, x, hq, hx⟩ := hg
    obtain ⟨its, rv, p, hz⟩ := I.tuple hq
    obtain ⟨u, hu, ru⟩ := rv.get hx
    have hlt : i < its.toArray.size := by
      have := (List.getElem?_eq_some_iff.mp hu).1
      simpa using this
    have hel : e < s.heap.objs.size := Heap.lt_size he
    have hil : it < s.heap.objs.size := by obtain ⟨_, q, _⟩ := hit; exact Heap.lt_size q
    refine wpAny_pyNext_enum_itemD (Draws.tuple (A := X.A.in1) (I.ok.hd hc) it a hai its.toArray) he ⟨hit, p⟩ hlt hne (fun z => ?_) fun y h' tk hy ho hit' hT hsz hk => ?_
    · rcases List.mem_cons.mp z with z | z
      · exact hne z
      · exact hae (List.mem_singleton.mp z).symm
    have ey : y = u := by
      have h1 : its.toArray[i]? = some y := hy
      rw [List.getElem?_toArray, hu] at h1
      exact (Option.some.inj h1).symm
    subst ey
    refine ⟨_, rfl, wpAny_letOwnedTupleGo_enum (s := { s with heap := h', toks := tk + 1 }) ho fun h'' he' sb => ?_⟩
    have hT2 : h''.get? s.heap.objs.size = some { cls := .type "tuple", data := .seq #[.int i tk, y] } := (sb.2 _ (Nat.ne_of_gt hel)).trans hT
    have new : ObjOk X.prog X.w (upd H s.heap.objs.size (.tup [.int (i : Nat), x])) h'' s.heap.objs.size (.tup [.int (i : Nat), x]) := by
      refine ⟨?_, [.int i tk, y], .cons ⟨_, rfl⟩ (.cons ru .nil), ⟨_, hT2, rfl, _, rfl⟩⟩
      show 2 ≤ sizeLine
      decide
    have I1 : Inv X pins σ (upd H s.heap.objs.size (.tup [.int (i : Nat), x])) { s with heap := h'', toks := tk + 1 } :=
      I.turnedNew (ch := [e, it]) (fun b ob hb q => (sb.2 b (fun z => hb (by simp [z]))).trans (hk b ob (fun z => hb (by simp [z])) (fun z => hb (by simp [z])) q)) hf (Nat.le_refl _) new
    refine ⟨.ref s.heap.objs.size, _, I1, rfl, ⟨_, x, rfl, I.hok.fresh (Nat.le_refl _), rfl, fun ys hy => by rw [I.tuple_inj hy hq]; exact hx⟩, ⟨⟨y, ?_⟩, hit'.1.at fun o q => (sb.2 it (Ne.symm hne)).trans q, hne, hai, hae⟩, fun b hb => ?_⟩
    · rw [show ((i + 1 : Nat) : Int) = (i : Int) + 1 by omega]
      exact he'
    · have hb' : b < s.heap.objs.size := by
        rcases List.mem_cons.mp hb with z | z
        · rw [z]; exact hel
        · rw [List.mem_singleton.mp z]; exact hil
      rw [upd_ne (Nat.ne_of_lt hb')]
      exact (hf b hb).1
  done := by
    intro X hP hw hK hc i pins s σ H E I hf st hg
    subst hP hw hK
    obtain ⟨⟨old, he⟩, hit, hne, hai, hae⟩ := st
    obtain ⟨xs, hq, hx⟩ := hg
    obtain ⟨its, rv, p, hz⟩ := I.tuple hq
    obtain ⟨f0, f1, f2, f3, f4, f5⟩ := hf it (by simp)
    have hl := rv.length
    refine enum_endT (I.ok.hd hc) he hit p (by simp; omega) fun h' eb => ⟨rfl, I.turned (t' := s.toks) (fun b o hb q => eb b o hb q) f0 f1 f3 f4 f5⟩
  self := by
    rintro A i s Q E ⟨⟨_, he⟩, _⟩ h
    exact wpAny_pyIter_enum he h
/-- enumerate of a list or a tuple -/
def dEA (K : PySem.W.Frag) (R : It → Hp → Prop) : List V → Hp → Prop := fun vs H1 => ∃ a xs, vs = [.ref a] ∧ ((SqL K H1 a xs ∧ R (Ite K a) H1) ∨ (SqT K H1 a xs ∧ R (IteT K a) H1))
def iEnA (K : PySem.W.Frag) (ta : TA) : TI := fun σ H R => ta σ H (dEA K R)
theorem pi_enumA {X : Cx} {K : PySem.W.Frag} (hK : X.K = K) {e : Expr} {ta : TA} {p pos tpos : Pos} {elts : List Expr} {kk : Nat} (hg : Gl X "enumerate") (hm : X.mg "enumerate" = none) (ha : PA X [e] ta) (hs : starEach [e] X.env = [(false, eval e X.env)] := by rfl) :
    PI X (.Tuple elts kk tpos) (.Call (.Name "enumerate" p) [e] [] pos) (iEnA K ta) := by
  subst hK
  constructor
  intro pins s σ H R I h
  have go : ∀ us s1, (∃ vs H1, Inv X pins σ H1 s1 ∧ Vals vs us ∧ dEA X.K R vs H1) → wpAny (model X.prog X.w) X.A (call (.type "enumerate") us) (fun v s2 => wpAny (model X.prog X.w) X.A (pyIter v) (PIE X pins σ (.Tuple elts kk tpos) R) X.xe s2) X.xe s1 := by
    rintro us s1 ⟨vs, H1, I1, r1, a, xs, rfl, q⟩
    cases r1 with
    | cons r rr =>
      cases rr
      cases r
      have new : ∀ b ∈ [s1.heap.objs.size + 1, s1.heap.objs.size], FpOk X pins H1 b := fun b hb => by
        have hle : s1.heap.objs.size ≤ b := by
          rcases List.mem_cons.mp hb with z | z
          · omega
          · rw [List.mem_singleton.mp z]; exact Nat.le_refl _
        exact I1.fpOk hle (I1.hok.fresh hle)
      rcases q with ⟨hq, q⟩ | ⟨hq, q⟩
      · obtain ⟨its, rv, p', hz⟩ := I1.list hq
        exact call_enumerate_list p'.isList fun h' he hit hsz hk => wpAny_pyIter_enum he ⟨s1.heap.objs.size + 1, _, _, _, H1, rfl, I1.kept (t' := s1.toks) hk, turn_enum a (s1.heap.objs.size + 1) s1.heap.objs.size, ⟨⟨.none, he⟩, hit, Nat.succ_ne_self _⟩, new, q⟩
      · obtain ⟨its, rv, p', hz⟩ := I1.tuple hq
        have hlt : a < s1.heap.objs.size := by obtain ⟨o, ho, _⟩ := (show s1.heap.IsTuple a its.toArray from p'); exact Heap.lt_size ho
        exact call_enumT (show s1.heap.IsTuple a its.toArray from p') fun h' he hit hk => wpAny_pyIter_enum he ⟨s1.heap.objs.size + 1, _, _, _, H1, rfl, I1.kept (t' := s1.toks) hk, turn_enumT a (s1.heap.objs.size + 1) s1.heap.objs.size, ⟨⟨.none, he⟩, hit, Nat.succ_ne_self _, Nat.ne_of_lt hlt, Nat.ne_of_lt (Nat.lt_succ_of_lt hlt)⟩, new, q⟩
  exact Call_ (ld_blt I hg hm boot_enumerate (PyProof.Rows.callWith_type1 (thn (ha.run pos pins s σ H _ I h) go) hs rfl))
section
variable {K : PySem.W.Frag} {σ : L2.St} {H H' : Hp} {a : Addr} {xs : List V} {R : It → Hp → Prop} {ta : TA}
theorem w_iEA (h : ta σ H (dEA K R)) : iEnA K ta σ H R := h
theorem i_EA (h : SqA K H a xs) (k : ∀ J, Src J (fun H' => SqA K H' a xs ∧ (SqL K H a xs → SqL K H' a xs) ∧ (SqT K H a xs → SqT K H' a xs)) xs.length (fun i x H'' => ∃ T y, x = .ref T ∧ At H'' T (.tup [.int (i : Nat), y]) ∧ xs[i]? = some y) → R J H) : dEA K R [.ref a] H := by
  refine ⟨a, xs, rfl, ?_⟩
  rcases h with h | h
  · refine .inl ⟨h, k _ ⟨fun i H' hp hi => ⟨xs, xs[i], hp.2.1 h, List.getElem?_eq_getElem hi⟩, fun H' hp => ⟨xs, hp.2.1 h, Nat.le_refl _⟩, fun i H' x H'' hp hi hy => ?_⟩⟩
    obtain ⟨T, y, e1, e2, e3, f⟩ := hy
    exact ⟨by rw [e3]; exact Ex.new e2, T, y, e1, by rw [e3]; exact upd_same, f xs (hp.2.1 h)⟩
  · refine .inr ⟨h, k _ ⟨fun i H' hp hi => ⟨xs, xs[i], hp.2.2 h, List.getElem?_eq_getElem hi⟩, fun H' hp => ⟨xs, hp.2.2 h, Nat.le_refl _⟩, fun i H' x H'' hp hi hy => ?_⟩⟩
    obtain ⟨T, y, e1, e2, e3, f⟩ := hy
    exact ⟨by rw [e3]; exact Ex.new e2, T, y, e1, by rw [e3]; exact upd_same, f xs (hp.2.2 h)⟩
/-- slices of lists of anything -/
theorem w_slLVt {Q : VK} {i : Int} (h : SqL K H a xs) (h0 : 0 ≤ i) (q : ∀ p H2, Fr H p → Ex H H2 → At H2 p (.lst (xs.take i.toNat)) → Q (.ref p) H2) : rSlL K (.ref a) none (some i) H Q := w_slL h fun p H2 a b c => q p H2 a b (by rw [cut_to h0] at c; exact c)
theorem w_slLVf {Q : VK} {i : Int} (h : SqL K H a xs) (h0 : 0 ≤ i) (q : ∀ p H2, Fr H p → Ex H H2 → At H2 p (.lst (xs.drop i.toNat)) → Q (.ref p) H2) : rSlL K (.ref a) (some i) none H Q := w_slL h fun p H2 a b c => q p H2 a b (by rw [cut_from h0] at c; exact c)
end
/-! ### isinstance of a tuple, a list, None or a text with an own class -/
def kitBo (t : String) (y : Str) (K : PySem.W.Frag) : Bool := decide (PySem.W.kitOne K (.type t) (.ref (He.ga K y)) = some false)
theorem kitBo_ok {K : PySem.W.Frag} {t : String} {y : Str} (h : kitBo t y K = true) : PySem.W.kitOne K (.type t) (.ref (He.ga K y)) = some false := of_decide_eq_true h
theorem w_isiTC {K : PySem.W.Frag} {H : Hp} {Q : VK} {a C : Addr} {xs : List V} (ha : At H a (.tup xs)) (h : PySem.W.kitOne K (.type "tuple") (.ref C) = some false) (q : Q (.bl false) H) : rIsi K [.ref a, .ref C] H Q := ⟨_, _, .type "tuple", .ref C, false, rfl, .own C, .base (.tup ha), h, q⟩
theorem w_isiLC {K : PySem.W.Frag} {H : Hp} {Q : VK} {a C : Addr} {xs : List V} (ha : At H a (.lst xs)) (h : PySem.W.kitOne K (.type "list") (.ref C) = some false) (q : Q (.bl false) H) : rIsi K [.ref a, .ref C] H Q := ⟨_, _, .type "list", .ref C, false, rfl, .own C, .base (.lst ha), h, q⟩
end Z
namespace Z
open PySem L2
/-! ### // of great ints -/
/-- the model reckons i // j -/
def CDivZ (i j : Int) : Prop := 0 < j ∧ Builtin.divisionGoesByPylong i j = false
theorem CDivZ.of {i j : Int} (h : CDivW i j) : CDivZ i j := ⟨h.1, PyProof.noPylong_of_log2 h.2⟩
theorem cdivz {i j : Int} (h : 0 < j) (hi : i.natAbs < 2 ^ 13400) : CDivZ i j := by
  refine ⟨h, ?_⟩
  have h1 : i.natAbs.log2 < 13400 := PySem.Flt.log2_lt_of (by decide) hi
  have h2 : (if i == 0 then 0 else i.natAbs.log2 / 30 + 1) ≤ 447 := by
    split <;> omega
  show (decide ((if j == 0 then 0 else j.natAbs.log2 / 30 + 1) > 300) && decide ((if i == 0 then 0 else i.natAbs.log2 / 30 + 1) > (if j == 0 then 0 else j.natAbs.log2 / 30 + 1) + 150)) = false
  by_cases hj : (if j == 0 then 0 else j.natAbs.log2 / 30 + 1) > 300
  · rw [decide_eq_false (p := (if i == 0 then 0 else i.natAbs.log2 / 30 + 1) > (if j == 0 then 0 else j.natAbs.log2 / 30 + 1) + 150) (by omega), Bool.and_false]
  · rw [decide_eq_false hj, Bool.false_and]
theorem op_fdivP {X : Cx} : OpR X (binaryOp .FloorDiv) (rI CDivZ fun i j => .int (i / j)) := opI fun i j _ _ _ _ _ hc q => by
  have h1 : (0 : Int) < j := hc.1
  exact PyProof.Rows.floordiv_int (by omega) (by rw [Int.fdiv_eq_ediv_of_nonneg i (by omega)]; exact q) (.inl hc.2)
/-! ### a < b < c -/
section
variable {σ : L2.St} {H : Hp} {Q : VK} {ta tb tc : TE} {r r' : R2}
theorem w_chain (h : ta σ H fun x H1 => tb σ H1 fun y H2 => r x y H2 fun z H3 => ∃ k, z = .bl k ∧ (if k = true then tc σ H3 fun w' H4 => r' y w' H4 Q else Q (.bl false) H3)) : tChain r r' ta tb tc σ H Q := h
end
end Z
namespace Z
open PySem L2 PySem.Spec PyProof.Rows
/-! ### zip of two tuples, of two lists -/
theorem pi_zipA {X : Cx} {K : PySem.W.Frag} (hK : X.K = K) {e e2 : Expr} {ta : TA} {p pos tpos : Pos} {elts : List Expr} {kk : Nat} (hg : Gl X "zip") (hm : X.mg "zip" = none) (ha : PA X [e, e2] ta)
    (hs : starEach [e, e2] X.env = (false, eval e X.env) :: starEach [e2] X.env := by rfl) (hpl : (backTo pos (starEach [e2] X.env)).any (·.1) = false := by rfl) :
    PI X (.Tuple elts kk tpos) (.Call (.Name "zip" p) [e, e2] [] pos) (RZ.iZipA K ta) := hK ▸ RZ.pi_zipA hg hm ha hs hpl
def dZA (K : PySem.W.Frag) (R : It → Hp → Prop) : List V → Hp → Prop := fun vs H1 => ∃ a b xs ys, vs = [.ref a, .ref b] ∧ ((SqL K H1 a xs ∧ SqL K H1 b ys ∧ R (Itz K a b) H1) ∨ (SqT K H1 a xs ∧ SqT K H1 b ys ∧ R (RZ.ItzT K a b) H1))
section
variable {K : PySem.W.Frag} {σ : L2.St} {H H' : Hp} {a b : Addr} {xs ys : List V} {R : It → Hp → Prop} {ta : TA}
theorem w_iZA (h : ta σ H (dZA K R)) : RZ.iZipA K ta σ H R := h
theorem i_ZT (hx : SqT K H a xs) (hy : SqT K H b ys) (hl : xs.length = ys.length) (k : ∀ J, Src J (fun H' => SqT K H' a xs ∧ SqT K H' b ys) xs.length (fun i x H'' => ∃ T y z, x = .ref T ∧ At H'' T (.tup [y, z]) ∧ xs[i]? = some y ∧ ys[i]? = some z) → R J H) : dZA K R [.ref a, .ref b] H := by
  refine ⟨a, b, xs, ys, rfl, .inr ⟨hx, hy, k _ ⟨fun i H' hp hi => ⟨xs, ys, xs[i], ys[i]'(by omega), hp.1, hp.2, List.getElem?_eq_getElem hi, List.getElem?_eq_getElem (by omega)⟩, fun H' hp => ⟨xs, ys, hp.1, hp.2, .inl (Nat.le_refl _)⟩, fun i H' x H'' hp hi hy => ?_⟩⟩⟩
  obtain ⟨T, y, z, e1, e2, e3, f1, f2⟩ := hy
  exact ⟨by rw [e3]; exact Ex.new e2, T, y, z, e1, by rw [e3]; exact upd_same, f1 xs hp.1, f2 ys hp.2⟩
end
end Z
namespace Z
open PySem L2 PySem.Spec PyProof.Rows
/-! ### sets of ints -/
theorem cr_set0 {X : Cx} {w : World} (hw : X.w = w) : CallR X (.type "set") (rSet0 w) := hw ▸ L2.cr_set0
theorem or_sin {X : Cx} {w : World} (hw : X.w = w) : OpR X (compareOp .In) (rSIn w) := hw ▸ L2.or_sin
theorem pe_sadd {X : Cx} {w : World} (hw : X.w = w) {o e : Expr} {es : List Expr} {to : TE} {t : TA} {apos cpos : Pos} (ho : PE X o to) (ha : PA X (e :: es) t)
    (hbase : attributeBase o "add" X.env (eval o X.env) = eval o X.env := by rfl)
    (hfew : ((backTo cpos (starEach (e :: es) X.env)).all (fun x => !x.1) && (backToKw cpos (keywordEach [] X.env)).all (fun x => x.1.isSome)
      && decide ((e :: es).length + ([] : List Keyword).length + (if ([] : List Keyword).isEmpty then 0 else 1) < 30)) = true := by rfl)
    (hline : (apos.endLine == cpos.line) = true := by rfl) (hs : starEach (e :: es) X.env = (false, eval e X.env) :: starEach es X.env := by rfl) (hplain : (backTo cpos (starEach es X.env)).any (·.1) = false := by rfl) :
    PE X (.Call (.Attribute o "add" apos) (e :: es) [] cpos) (tSAdd w to t) := hw ▸ L2.pe_sadd ho ha hbase hfew hline hs hplain
section
variable {K : PySem.W.Frag} {w : World} {σ : L2.St} {H H' : Hp} {Q : VK} {a : Addr} {S : Int → Bool} {n : Nat} {k : Int}
theorem w_set0 (q : ∀ p H2, Fr H p → Ex H H2 → At H2 p (SetO w p (fun _ => false) 0) → Q (.ref p) H2) : rSet0 w [] H Q := ⟨rfl, fun p hp => q p _ hp (Ex.new hp) upd_same⟩
theorem w_tSAdd {to : TE} {t : TA} (h : to σ H fun x H1 => (∃ a S n, x = V.ref a ∧ H1 a = some (SetO w a S n)) ∧ t σ H1 fun xs H2 => rSAdd w x xs H2 Q) : tSAdd w to t σ H Q := h
theorem w_tyS {A : Prop} (h : At H a (SetO w a S n)) (q : A) : (∃ a' S n, V.ref a = V.ref a' ∧ H a' = some (SetO w a' S n)) ∧ A := ⟨⟨a, S, n, rfl, h⟩, q⟩
theorem w_sadd (h : At H a (SetO w a S n)) (hr : n + 1 < scanBound) (q : ∀ H2, At H2 a (SetO w a (fun j => S j || decide (j = k)) (if S k = true then n else n + 1)) → (∀ H0, Ex H0 H → Fr H0 a → Ex H0 H2) → (∀ b o, b ≠ a → At H b o → At H2 b o) → Q .non H2) : rSAdd w (.ref a) [.int k] H Q :=
  ⟨a, k, S, n, rfl, rfl, h, hr, q _ upd_same (fun H0 e n => Ex.mut e n) (fun b o hb e => by unfold At; rw [upd_ne hb]; exact e)⟩
theorem w_sin (h : At H a (SetO w a S n)) (q : Q (.bl (S k)) H) : rSIn w (.int k) (.ref a) H Q := ⟨k, a, S, n, rfl, rfl, h, q⟩
end
/-! ### an instance is called -/
/-- instances of the class x are called by the def __call__ of the class y -/
def callB (x y : Str) (K : PySem.W.Frag) : Bool := He.eqO (PySem.W.findIn K (.ref (He.ga K x)) "__call__") (some (some (.ref (He.ma K (He.ga K y) "__call__")))) && (PySem.W.isFn K (.ref (He.ma K (He.ga K y) "__call__")) && PySem.W.fnIn K (He.ma K (He.ga K y) "__call__"))
theorem callB_ok {K : PySem.W.Frag} {x y : Str} (c : callB x y K = true) : StX.CallO K (He.ga K x) (He.ma K (He.ga K y) "__call__") := by
  obtain ⟨c1, c⟩ := He.ba c
  obtain ⟨c2, c3⟩ := He.ba c
  exact ⟨He.eqO_ok c1, c2, c3⟩
def dCO (C : Addr) (sp : Sp) (E : XK) (t : TA) (σ : L2.St) (Q : VK) : VK := fun y H1 => ∃ a, y = V.ref a ∧ t σ H1 fun vs H2 => (∃ dx fs, At H2 a (.ins C dx fs)) ∧ sp (V.ref a :: vs) H2 Q E
def tCO (C : Addr) (sp : Sp) (E : XK) (tf : TE) (t : TA) : TE := fun σ H Q => tf σ H (dCO C sp E t σ Q)
theorem pe_callO {X : Cx} {CX : CXT} {k : Nat} {C g : Addr} {sp : Sp} {E : XK} {fe e : Expr} {es : List Expr} {tf : TE} {t : TA} {pos : Pos} (hf : PE X fe tf) (c : StX.CallO X.K C g) (F : FnR X.prog X.w X.K X.mg X.base CX k g sp) (hr : Room k X.A) (hx : Passes CX X E) (ha : PA X (e :: es) t)
    (ht : eval (.Call fe (e :: es) [] pos) X.env = (do callWith pos (← eval fe X.env) [] (backTo pos (starEach (e :: es) X.env)) (backToKw pos (keywordEach [] X.env))) := by rfl)
    (he : starEach (e :: es) X.env = (false, eval e X.env) :: starEach es X.env := by rfl) (hpl : (backTo pos (starEach es X.env)).any (·.1) = false := by rfl) : PE X (.Call fe (e :: es) [] pos) (tCO C sp E tf t) := by
  refine ⟨fun pins s σ H Q I h => ?_⟩
  refine Call_ (thn (hf.run pins s σ H _ I h) fun u s1 ⟨y, H1, I1, ry, a, ey, q⟩ => ?_) ht
  subst ey
  obtain rfl : u = Value.ref a := ry
  refine StX.callO_with (thn (ha.run pos pins s1 σ H1 _ I1 q) fun us s2 ⟨vs, H2, I2, r, ⟨dx, fs, hi⟩, q2⟩ => ?_) he hpl
  have hI : StX.InsC X H2 a C := .inr ⟨dx, fs, hi⟩
  obtain ⟨ox, od, J, hd⟩ := StX.insC_at I2 hI
  exact ⟨⟨C, ox, od, J, hd⟩, StX.run_callO c F hr hx I2 hI r q2⟩
section
variable {σ : L2.St} {H : Hp} {Q : VK} {C a dx : Addr} {fs : List (Str × V)} {sp : Sp} {E : XK} {tf : TE} {t : TA}
theorem w_tCO (h : tf σ H (dCO C sp E t σ Q)) : tCO C sp E tf t σ H Q := h
theorem w_dCO (q : t σ H fun vs H2 => (∃ dx fs, At H2 a (.ins C dx fs)) ∧ sp (V.ref a :: vs) H2 Q E) : dCO C sp E t σ Q (.ref a) H := ⟨a, rfl, q⟩
theorem w_insC {A : Prop} (h : At H a (.ins C dx fs)) (q : A) : (∃ dx fs, At H a (.ins C dx fs)) ∧ A := ⟨⟨dx, fs, h⟩, q⟩
end
end Z
namespace Z
open PySem L2 PySem.Spec PyProof.Rows
/-! ### list * int, list.extend -/
section
variable {K : PySem.W.Frag} {H : Hp} {Q : VK} {a b : Addr} {xs ys : List V} {k : Int}
theorem w_rep (h : At H a (.lst xs)) (h1 : 0 ≤ k) (h2 : k ≤ 1000) (h3 : xs.length ≤ 1000) (q : ∀ p H2, Fr H p → Ex H H2 → At H2 p (.lst (List.replicate k.toNat xs).flatten) → Q (.ref p) H2) : rRep (.ref a) (.int k) H Q :=
  ⟨a, k, xs, rfl, rfl, h, by omega, by omega, by
    have := Nat.mul_le_mul h3 (show k.toNat ≤ 1000 by omega)
    show _ ≤ 16777216
    omega, fun p hp => q p _ hp (Ex.new hp) upd_same⟩
theorem w_ext (h : At H a (.lst xs)) (h2 : At H b (.lst ys)) (hz : xs.length + ys.length ≤ sizeLine) (q : ∀ H2, At H2 a (.lst (xs ++ ys)) → Nl H H2 → (∀ H0, Ex H0 H → Fr H0 a → Ex H0 H2) → (∀ b o, b ≠ a → At H b o → At H2 b o) → Q .non H2) : rExtend (.ref a) [.ref b] H Q :=
  ⟨a, b, xs, ys, rfl, rfl, h, h2, hz, q _ upd_same (Nl.upd h) (fun H0 e n => Ex.mut e n) (fun b o hb e => by unfold At; rw [upd_ne hb]; exact e)⟩
end
end Z
namespace Z
open PySem L2 PySem.Spec PyProof.Rows
/-! ### a def that captures the cell of its class and has cells of its own -/
theorem cells_app : ∀ (nms : List (Str × NameKind)) (n : Nat) (acc : List (Str × Addr)), cellsFrom n nms acc = cellsFrom n nms [] ++ acc
  | [], n, acc => rfl
  | (x, k) :: r, n, acc => by
    show (if k == .cell then cellsFrom (n + 1) r ((x, n) :: acc) else cellsFrom n r acc) = (if k == .cell then cellsFrom (n + 1) r [(x, n)] else cellsFrom n r []) ++ acc
    by_cases e : (k == .cell) = true
    · rw [if_pos e, if_pos e, cells_app r (n + 1) ((x, n) :: acc), cells_app r (n + 1) [(x, n)], List.append_assoc]
      rfl
    · rw [if_neg e, if_neg e]
      exact cells_app r n acc
theorem cells_mem : ∀ (nms : List (Str × NameKind)) (n : Nat) {y : Str} {c : Addr}, (cellsFrom n nms []).lookup y = some c → (y, NameKind.cell) ∈ nms
  | [], n, y, c, h => by cases h
  | (x, k) :: r, n, y, c, h => by
    have h : (if k == .cell then cellsFrom (n + 1) r [(x, n)] else cellsFrom n r []).lookup y = some c := h
    by_cases e : (k == .cell) = true
    · rw [if_pos e, cells_app, List.lookup_append] at h
      cases z : (cellsFrom (n + 1) r []).lookup y with
      | some d => exact List.mem_cons_of_mem _ (cells_mem r (n + 1) z)
      | none =>
        rw [z] at h
        simp only [Option.none_or, List.lookup] at h
        split at h
        · rename_i g
          have g : y = x := by simpa using g
          have e : k = .cell := by simpa using e
          rw [g, e]
          exact List.mem_cons_self
        · cases h
    · rw [if_neg e] at h
      exact List.mem_cons_of_mem _ (cells_mem r n h)
abbrev ownC (L : Addr) (sc : Scope) : List (Str × Addr) := cellsFrom (L + 1) sc.names []
section
variable {M : Model} {A : Around} {E : Value → Shared → Prop} {s₀ s : Shared} {m cm : Str → Option Value} {env : Env} {own : List (Str × Addr)}
theorem putL {n : Str} {v : Value} {Q : Unit → Shared → Prop} (x : InCallC s₀ env.locals m own cm s) (fk : env.scope.kind = .function) (kl : env.kindOf n = some .local)
    (q : ∀ s', InCallC s₀ env.locals (fun y => if y = n then some v else m y) own cm s' → Q () s') : wpAny M A (storeName env n v) Q E s := by
  obtain ⟨⟨⟨h1, tk, e1⟩, ns, kp, fr⟩, cl, ap, ab⟩ := x
  subst e1
  refine wpAny_storeName_local kl ns (fun h2 n2 b2 => q _ ⟨⟨⟨h2, _, rfl⟩, n2, fun b o e => ?_, fr⟩, fun k c z => ?_, ap, ab⟩) (by rw [fk]; rfl)
  · have lt := Nat.lt_of_lt_of_le (Heap.lt_size e) fr
    exact b2.extBut b o (Nat.ne_of_lt lt) (kp b o e)
  · have lt := ab k c (mem_of_lookup z)
    exact (cl k c z).sameBut b2 (Nat.ne_of_gt lt)
theorem putC {n : Str} {c : Addr} {v : Value} {Q : Unit → Shared → Prop} (x : InCallC s₀ env.locals m own cm s) (fk : env.scope.kind = .function) (kc : env.kindOf n = some .cell) (ho : own.lookup n = some c) (he : env.cells.lookup n = some c)
    (q : ∀ s', InCallC s₀ env.locals m own (fun y => if y = n then some v else cm y) s' → Q () s') : wpAny M A (storeName env n v) Q E s := by
  obtain ⟨⟨⟨h1, tk, e1⟩, ns, kp, fr⟩, cl, ap, ab⟩ := x
  subst e1
  have hc := mem_of_lookup ho
  have hL := ab n c hc
  refine wpAny_storeName_cell fk kc he (cl n c ho) fun h2 i2 b2 => q _ ⟨⟨⟨h2, _, rfl⟩, ns.sameBut b2 (Nat.ne_of_lt hL), fun b o e => ?_, fr⟩, fun k c' z => ?_, ap, ab⟩
  · have lt := Nat.lt_trans (Nat.lt_of_lt_of_le (Heap.lt_size e) fr) hL
    exact b2.extBut b o (Nat.ne_of_lt lt) (kp b o e)
  · by_cases g : k = n
    · subst g
      cases ho.symm.trans z
      rw [if_pos rfl]
      exact i2
    · rw [if_neg g]
      refine (cl k c' z).sameBut b2 fun w => g ?_
      subst w
      exact name_of_addr ap (mem_of_lookup z) hc
theorem putAll (f : Str × Value → PUnit → Sem (ForInStep PUnit)) (hf : ∀ n v u, f (n, v) u = (storeName env n v >>= fun _ => pure (.yield ⟨⟩))) (fk : env.scope.kind = .function) (hown : ∀ n c, own.lookup n = some c → env.cells.lookup n = some c) :
    ∀ (bs : List (Str × Value)) (m cm : Str → Option Value) (s : Shared) (Q : PUnit → Shared → Prop), InCallC s₀ env.locals m own cm s → (∀ y ∈ bs, env.kindOf y.1 = some .local ∨ (env.kindOf y.1 = some .cell ∧ (own.lookup y.1).isSome = true)) →
      (∀ s', InCallC s₀ env.locals (bindL env.kindOf bs m) own (bindC env.kindOf bs cm) s' → Q ⟨⟩ s') → wpAny M A (forIn bs ⟨⟩ f) Q E s
  | [], m, cm, s, Q, x, _, q => by
    rw [List.forIn_nil]
    exact wpAny_pure (q s x)
  | (n, v) :: r, m, cm, s, Q, x, hk, q => by
    rw [List.forIn_cons, hf]
    have kr := fun y hy => hk y (List.mem_cons_of_mem _ hy)
    unfold bindL bindC at q
    refine wpAny_bind (wpAny_bind ?_)
    rcases hk (n, v) List.mem_cons_self with kl | ⟨kc, hc⟩
    · rw [if_pos kl, if_pos kl] at q
      exact putL x fk kl fun s2 x2 => wpAny_pure (putAll f hf fk hown r _ _ s2 Q x2 kr q)
    · have nl : ¬ env.kindOf n = some .local := by rw [kc]; decide
      rw [if_neg nl, if_neg nl] at q
      obtain ⟨c, hc⟩ := Option.isSome_iff_exists.mp hc
      exact putC x fk kc hc (hown n c hc) fun s2 x2 => wpAny_pure (putAll f hf fk hown r _ _ s2 Q x2 kr q)
theorem newEnv_cl {sc : Scope} {gl : Addr} {cl : List (Str × Addr)} {bs : List (Str × Value)} {qual : Str} {fn : Option Addr} {cd : Value} {blt : Addr} {Q : Env → Shared → Prop} (fk : sc.kind = .function)
    (hk : ∀ y ∈ bs, sc.names.lookup y.1 = some .local ∨ (sc.names.lookup y.1 = some .cell ∧ ((ownC s.heap.objs.size sc).lookup y.1).isSome = true))
    (q : ∀ s', InCallC s s.heap.objs.size (bindL (newEnv sc s.heap.objs.size gl (ownC s.heap.objs.size sc ++ cl) qual fn cd none blt).kindOf bs fun _ => none) (ownC s.heap.objs.size sc) (bindC (newEnv sc s.heap.objs.size gl (ownC s.heap.objs.size sc ++ cl) qual fn cd none blt).kindOf bs fun _ => none) s' →
      Q (newEnv sc s.heap.objs.size gl (ownC s.heap.objs.size sc ++ cl) qual fn cd none blt) s') : wpAny M A (newFunctionEnv sc gl cl bs qual fn cd none blt) Q E s := by
  simp only [newFunctionEnv, Option.isSome_none, Bool.false_eq_true, if_false]
  refine wpAny_bind (wpAny_alloc (wpAny_bind (wpAny_layCells _ (fun x k cs => by cases e : k == NameKind.cell <;> simp [e]) _ _ _ _ ?_)))
  have ok := cellsFrom_ok sc.names (s.heap.push { cls := .type "frame", data := .dict #[] }) (s.heap.objs.size + 1) [] ⟨fun _ _ z => (nomatch z), List.Pairwise.nil⟩ (by rw [Heap.size_push]; exact Nat.le_refl _)
  have es : ({ s with heap := s.heap.push { cls := .type "frame", data := .dict #[] } } : Shared).heap.objs.size = s.heap.objs.size + 1 := Heap.size_push ..
  rw [Heap.size_push] at ok
  rw [es, cells_app]
  have kp := fun b o (e : s.heap.get? b = some o) => pushCells_keeps sc.names _ b o (Heap.get?_push_of_some { cls := .type "frame", data := .dict #[] } e)
  refine wpAny_bind (putAll (s₀ := s) (own := ownC s.heap.objs.size sc) (env := newEnv sc s.heap.objs.size gl (ownC s.heap.objs.size sc ++ cl) qual fn cd none blt) _ (fun _ _ _ => rfl) fk (fun n c e => ?_) bs (fun _ => none) (fun _ => none) _ _ ⟨⟨⟨_, _, rfl⟩, ?_, kp, Nat.le_refl _⟩, ?_, ok.apart, ?_⟩ hk fun s2 x => wpAny_pure (q s2 x))
  · show (ownC s.heap.objs.size sc ++ cl).lookup n = some c
    rw [List.lookup_append, e]
    rfl
  · exact (Heap.Ns.new s.heap (.type "frame")).keeps (pushCells_keeps _ _)
  · exact fun n c e => (ok.empty n c (mem_of_lookup e)).1
  · exact fun n c e => (ok.empty n c e).2
end
/-- its names: the parameters, the class's cell, its locals -/
structure SScope (N ps fr : List Str) (sc : Scope) : Prop where
  kind : sc.kind = .function
  co : sc.isCoroutine = false
  gen : sc.isGenerator = false
  nd : N.Nodup
  pre : N.take (ps.length + fr.length) = ps ++ fr
  par : ∀ x ∈ ps, sc.names.lookup x = some .local ∨ sc.names.lookup x = some .cell
  free : ∀ y ∈ sc.names, y.2 = .free → y.1 ∈ fr
  frk : ∀ x ∈ fr, sc.names.lookup x = some .free
  ncl : ∀ y ∈ sc.names, y.2 = .cell → y.1 ∉ fr
def sscB (N ps fr : List Str) (sc : Scope) : Bool :=
  decide (sc.kind = .function) && (!sc.isCoroutine && (!sc.isGenerator && (decide N.Nodup && (decide (N.take (ps.length + fr.length) = ps ++ fr) && (ps.all (fun x => decide (sc.names.lookup x = some .local ∨ sc.names.lookup x = some .cell)) && (sc.names.all (fun y => decide (y.2 = .free → y.1 ∈ fr)) && (fr.all (fun x => decide (sc.names.lookup x = some .free)) && sc.names.all (fun y => decide (y.2 = .cell → y.1 ∉ fr)))))))))
theorem sscope_by {N ps fr : List Str} {sc : Scope} (h : sscB N ps fr sc = true) : SScope N ps fr sc := by
  unfold sscB at h
  simp only [Bool.and_eq_true, Bool.not_eq_true', decide_eq_true_eq, List.all_eq_true] at h
  obtain ⟨h1, h2, h3, h4, h5, h6, h7, h8, h9⟩ := h
  exact ⟨h1, h2, h3, h4, h5, h6, h7, h8, h9⟩
/-- the context of such a body -/
def scx (CX : CXT) (P : Program) (w : World) (K : PySem.W.Frag) (mg : Str → Option Value) (base : Heap) (N : List Str) (F : NdefX.NF) (f : Addr) (A : Around) (outer : List Env) (s : Shared) (H : Hp) (E : XK) : Cx :=
  { NdefX.ncx CX P w K mg base N F f A outer s H E with fn := fun y => match F.scope.names.lookup y with | some .cell => true | _ => false }
theorem inv_scx {CX : CXT} {P : Program} {w : World} {K : PySem.W.Frag} {mg : Str → Option Value} {base : Heap} {N ps : List Str} {x0 qual : Str} {params : Arguments} {body : List Stmt} {scope : Scope} {cda cc f : Addr} {A : Around} {outer : List Env} {s s1 : Shared} {H : Hp} {E : XK} {us : List Value} {vs : List V}
    (S : SScope N ps ["__class__"] scope) (hd : A.handled = none) (e0 : Env0 P w K mg base A outer s H) (hl : vs.length = ps.length) (r : Vals vs us) (hcc : H cc = none) (hcv : ∃ v, s.heap.IsCell cc v)
    (x : InCallC s s.heap.objs.size (bindL (fun y => scope.names.lookup y) (ps.zip us) fun _ => none) (ownC s.heap.objs.size scope) (bindC (fun y => scope.names.lookup y) (ps.zip us) fun _ => none) s1) :
    Inv (scx CX P w K mg base N ⟨x0, qual, params, body, scope, ownC s.heap.objs.size scope ++ [(("__class__" : Str), cc)], cda⟩ f A outer s H E) [] (NdefX.startF N vs [none]) H s1 := by
  have hpl : ps.length + 1 ≤ N.length := by
    have z := congrArg List.length S.pre
    rw [List.length_take, List.length_append, List.length_singleton] at z
    omega
  obtain ⟨h1, tk, e1, kp⟩ := x.done
  subst e1
  have noA : ∀ (b : Addr) (z : b ∈ ([] : List Addr)), False := fun b z => by cases z
  obtain ⟨v0, hcv⟩ := hcv
  have hck : h1.IsCell cc v0 := hcv.keeps kp
  have lk : ∀ y c, (ownC s.heap.objs.size scope ++ [(("__class__" : Str), cc)]).lookup y = some c → (ownC s.heap.objs.size scope).lookup y = some c ∨ (y = "__class__" ∧ c = cc) := fun y c e => by
    rw [List.lookup_append] at e
    cases z : (ownC s.heap.objs.size scope).lookup y with
    | some d => rw [z] at e; cases e; exact .inl rfl
    | none =>
      rw [z] at e
      simp only [Option.none_or, List.lookup] at e
      split at e
      · rename_i g; exact .inr ⟨by simpa using g, (Option.some.inj e).symm⟩
      · cases e
  have ltc : cc < s.heap.objs.size := hcv.lt
  have gt : ∀ y c, (ownC s.heap.objs.size scope).lookup y = some c → s.heap.objs.size < c := fun y c e => x.above y c (PySem.mem_of_lookup e)
  have has : ∀ y, scope.names.lookup y = some .cell → ∃ c, (ownC s.heap.objs.size scope).lookup y = some c := fun y e => cell_has e
  have dom : ∀ y c, (ownC s.heap.objs.size scope ++ [(("__class__" : Str), cc)]).lookup y = some c → (∃ v, h1.IsCell c v) ∧ H c = none := fun y c e => by
    rcases lk y c e with z | ⟨_, rfl⟩
    · exact ⟨⟨_, x.cell y c z⟩, e0.hok.fresh (Nat.le_of_lt (gt y c z))⟩
    · exact ⟨⟨_, hck⟩, hcc⟩
  refine ⟨⟨e0.mod, S.kind, rfl, rfl, Nat.le_refl _, fun y z c g1 g2 => ?_, fun y hy => ?_, fun y c z g => ?_, fun _ => hd, Around.frames_deeper e0.frames, .inr ⟨rfl, rfl⟩, fun b z => (noA b z).elim, e0.bs, e0.bsz, fun b _ _ z => noA b z, fun b z => (noA b z).elim, e0.funs, e0.frf⟩,
    rfl, e0.bare, Un.kept kp, ⟨_, x.toInCall.ns, fun i y v g1 g2 g3 => ?_⟩, fun y c e => (dom y c e).1, e0.hok.fresh (Nat.le_refl _), fun y c e => (dom y c e).2, fun p hp => absurd (show p ∈ ([] : List (Addr × Obj)) ++ [] from hp) (by simp), e0.hok.kept kp, ?_⟩
  · rcases lk y c g1 with a1 | ⟨a1, b1⟩
    · rcases lk z c g2 with a2 | ⟨a2, b2⟩
      · exact name_of_addr x.apart (PySem.mem_of_lookup a1) (PySem.mem_of_lookup a2)
      · exact absurd (b2 ▸ gt y c a1) (Nat.not_lt.mpr (Nat.le_of_lt ltc))
    · rcases lk z c g2 with a2 | ⟨a2, b2⟩
      · exact absurd (b1 ▸ gt z c a2) (Nat.not_lt.mpr (Nat.le_of_lt ltc))
      · rw [a1, a2]
  · have hy : scope.names.lookup y = some .cell ∨ scope.names.lookup y = some .free := hy
    show ∃ c, (ownC s.heap.objs.size scope ++ [(("__class__" : Str), cc)]).lookup y = some c
    rw [List.lookup_append]
    rcases hy with hy | hy
    · obtain ⟨c, e⟩ := has y hy
      exact ⟨c, by rw [e]; rfl⟩
    · have hm := List.mem_singleton.mp (S.free _ (PySem.mem_of_lookup hy) rfl)
      have hm : y = "__class__" := hm
      subst hm
      cases (ownC s.heap.objs.size scope).lookup ("__class__" : Str) with
      | some c => exact ⟨c, rfl⟩
      | none => exact ⟨cc, by simp [List.lookup]⟩
  · have z : (match scope.names.lookup y with | some .cell => true | _ => false) = true := z
    have hy : scope.names.lookup y = some .cell := by
      split at z
      · assumption
      · cases z
    obtain ⟨d, e⟩ := has y hy
    have g : (ownC s.heap.objs.size scope ++ [(("__class__" : Str), cc)]).lookup y = some c := g
    rw [List.lookup_append, e] at g
    cases g
    exact Nat.le_of_lt (gt y _ e)
  · have g1 : N[i]? = some y := g1
    unfold NdefX.startF at g2
    by_cases hi : i < ps.length
    · have hq : (ps ++ [("__class__" : Str)])[i]? = some y := by
        rw [← S.pre, List.getElem?_take_of_lt (by rw [List.length_singleton]; omega)]
        exact g1
      rw [List.getElem?_append_left hi] at hq
      rw [List.getElem?_append_left (by rw [List.length_map]; omega), List.getElem?_map] at g2
      have ha : vs[i]? = some v := by
        cases e : vs[i]? with
        | none => rw [e] at g2; cases g2
        | some a => rw [e] at g2; cases g2; rfl
      obtain ⟨u, hu, rv⟩ := r.get ha
      have nd : ps.Nodup := by
        have z := S.nd.sublist (List.take_sublist (ps.length + [("__class__" : Str)].length) N)
        rw [S.pre] at z
        exact (List.nodup_append.mp z).1
      refine ⟨u, rv, ?_⟩
      rcases S.par y (List.mem_of_getElem? hq) with k | k
      · exact .inl ⟨k, bindL_get nd hq hu k⟩
      · obtain ⟨c, e⟩ := has y k
        have hc := x.cell y c e
        rw [bindC_get nd hq hu (by rw [k]; decide)] at hc
        refine .inr ⟨.inl k, c, ?_, hc⟩
        show (ownC s.heap.objs.size scope ++ [(("__class__" : Str), cc)]).lookup y = some c
        rw [List.lookup_append, e]
        rfl
    · rw [List.getElem?_append_right (by rw [List.length_map]; omega), List.length_map] at g2
      by_cases h2 : i - vs.length < 1
      · have e0 : i - vs.length = 0 := by omega
        rw [e0] at g2
        cases g2
      · rw [List.getElem?_append_right (by rw [List.length_singleton]; omega), List.getElem?_replicate] at g2
        split at g2 <;> cases g2
  · unfold NdefX.startF
    show _ = N.length
    rw [List.length_append, List.length_append, List.length_map, List.length_replicate, List.length_singleton]
    omega
/-- THE RULE for such a def; its first statement says super() -/
theorem FunS.okC {CX : CXT} {P : Program} {w : World} {K : PySem.W.Frag} {mg : Str → Option Value} {base : Heap} {x qual x0 : Str} {params : Arguments} {st : Stmt} {rest : List Stmt} {scope : Scope} {D f : Addr} {fd : FuncData} {N ps : List Str} {k : Nat} {sp : Sp} {ar : Arg}
    (F : FunS P K x qual params (st :: rest) scope D f fd) (S : SScope N ps ["__class__"] scope) (hs : scope.names.lookup ("super" : Str) = some .globalImplicit) (hp : (params.posonlyargs ++ params.args).head? = some ar) (har : ar.arg = x0) (hN : N[0]? = some x0) (hx : scope.names.lookup x0 = some .local ∨ scope.names.lookup x0 = some .cell) (hxd : (x0 == ("__classdict__" : Str)) = false)
    (top : (P.main.scope.names.lookup ("super" : Str)).isSome = false) (hm : mg "super" = none) (hD : ∃ cd, PySem.W.clsIn K D = some cd) (hnc : scope.names.lookup ("__class__" : Str) = some .free) (len : ∀ vs H Q E, sp vs H Q E → vs.length = ps.length)
    (hbody : ∀ (cc cda : Addr) (A : Around) (outer : List Env) (s : Shared) (H : Hp) (vs : List V) (Q : VK) (E : XK), Room k (A.deeper (PySem.W.envX qual scope s.heap.objs.size f (.ref cda) (ownC s.heap.objs.size scope ++ [(("__class__" : Str), cc)]))) → sp vs H Q E →
      SupX (scx CX P w K mg base N ⟨x, qual, params, st :: rest, scope, ownC s.heap.objs.size scope ++ [(("__class__" : Str), cc)], cda⟩ f A outer s H E) D f x0 →
      ∃ t1 t2, PSat (scx CX P w K mg base N ⟨x, qual, params, st :: rest, scope, ownC s.heap.objs.size scope ++ [(("__class__" : Str), cc)], cda⟩ f A outer s H E) (.func (st :: rest) (PySem.W.envX qual scope s.heap.objs.size f (.ref cda) (ownC s.heap.objs.size scope ++ [(("__class__" : Str), cc)]))) st t1 ∧
        PSs (scx CX P w K mg base N ⟨x, qual, params, st :: rest, scope, ownC s.heap.objs.size scope ++ [(("__class__" : Str), cc)], cda⟩ f A outer s H E) rest t2 ∧ tSeq t1 t2 { nx := fun _ H' => Q .non H', rt := Q } (NdefX.startF N vs [none]) H) : FnOk P w K mg base CX (k + 1) f fd ps sp := by
  obtain ⟨oc, od, doc, pm, an, cda, ct, osl, cc, rfl, lk, hcd, ⟨cl1, cd1, cs1, hcell⟩, cl2, cd2, vs2, cs2, file, tf, hcode, hvs2, hfile⟩ := F.ex
  refine ⟨len, fun A outer s H args us vs Q E hr e0 hb r hsp => ?_⟩
  have hl := len _ _ _ _ hsp
  have KX : K.In s.heap := e0.mod.kin.keeps fun b o e => (e0.bs b o e).1
  have lim : s.heap.NoLimit := e0.mod.nolimit.keeps fun b o e => (e0.bs b o e).1
  have hk : ∀ y ∈ ps.zip us, scope.names.lookup y.1 = some .local ∨ (scope.names.lookup y.1 = some .cell ∧ ((ownC s.heap.objs.size scope).lookup y.1).isSome = true) := fun y hy => by
    rcases S.par y.1 (List.of_mem_zip hy).1 with z | z
    · exact .inl z
    · obtain ⟨c, e⟩ := cell_has (n := s.heap.objs.size + 1) z
      exact .inr ⟨z, by show ((ownC s.heap.objs.size scope).lookup y.1).isSome = true; rw [e]; rfl⟩
  refine codeAny_call_function hr.depth (KX _ _ lk) rfl S.co S.gen rfl (PySem.W.codeRec_of KX hcd) (hb _ _ _ _ ?_)
  refine newEnv_cl S.kind hk fun s1 xx => ⟨lim.keeps xx.toInCall.keep, PySem.ks_codeAny_funcAt ?_⟩
  have zc := e0.mod.kin _ _ hcell
  have I := inv_scx (CX := CX) (E := E) (f := f) (x0 := x) (qual := qual) (params := params) (body := st :: rest) (cda := cda) S hr.hd e0 hl r (e0.bs _ _ zc).2 ⟨_, _, KX _ _ hcell, rfl⟩ xx
  have hcl : (ownC s.heap.objs.size scope ++ [(("__class__" : Str), cc)]).lookup ("__class__" : Str) = some cc := by
    rw [List.lookup_append]
    cases z : (ownC s.heap.objs.size scope).lookup ("__class__" : Str) with
    | none => simp [List.lookup]
    | some c => exact absurd (List.mem_singleton_self _) (S.ncl _ (cells_mem _ _ z) rfl)
  have SX : SupX (scx CX P w K mg base N ⟨x, qual, params, st :: rest, scope, ownC s.heap.objs.size scope ++ [(("__class__" : Str), cc)], cda⟩ f A outer s H E) D f x0 :=
    ⟨hs, hnc, rfl, ⟨_, _, _, _, ar, lk, hp, har⟩, ⟨cda, _, _, _, _, file, tf, rfl, hcode, hvs2, hfile⟩, top, hN, hx.elim .inl fun z => .inr (.inl z), hxd, ⟨cc, _, _, _, hcl, hcell⟩, hm, hD⟩
  obtain ⟨t1, t2, p1, p2, hq⟩ := hbody cc cda A outer s H vs Q E (hr.deeper _) hsp SX
  have fin : ∀ {σ' : L2.St} {H' : Hp} {v : V} {u : Value} {s' : Shared}, Inv (scx CX P w K mg base N ⟨x, qual, params, st :: rest, scope, ownC s.heap.objs.size scope ++ [(("__class__" : Str), cc)], cda⟩ f A outer s H E) [] σ' H' s' → RelV v u → Q v H' → CE outer P w H s Q u s' :=
    fun {σ' H' v u s'} J rv q => ⟨v, H', J.os, J.bare, J.base, J.hok, rv, q⟩
  refine PySem.ks_wpAt_execs_cons (PySem.ks_wpAt_mono (p1.run [] _ _ H _ I hq) (fun fl s' z => ?_) fun e s' z => z)
  cases fl with
  | brk => obtain ⟨_, _, _, q⟩ := z; exact q.elim
  | cont => obtain ⟨_, _, _, q⟩ := z; exact q.elim
  | ret u =>
    obtain ⟨v, σ', H', J, rv, q⟩ := z
    exact fin J rv q
  | next =>
    obtain ⟨σ', H', J, q⟩ := z
    refine wpAt_of_wpAny (wpAny_mono (p2.run [] s' σ' H' _ J q) (fun fl s2 z2 => ?_) fun e s2 z2 => z2)
    cases fl with
    | brk => obtain ⟨_, _, _, q⟩ := z2; exact q.elim
    | cont => obtain ⟨_, _, _, q⟩ := z2; exact q.elim
    | ret u =>
      obtain ⟨v, σ2, H2, J2, rv, q⟩ := z2
      exact fin J2 rv q
    | next =>
      obtain ⟨σ2, H2, J2, q⟩ := z2
      exact fin (v := V.non) (u := Value.none) J2 rfl q
end Z
namespace Z
open PySem L2 StX PySem.Spec PyProof.Rows
/-! ### a def with a star parameter whose second statement says super() -/
def StarSp (n : Nat) (sp : Sp) : Sp := fun vs H Q E => ∃ ws rest, vs = ws ++ rest ∧ ws.length = n ∧ rest.length ≤ sizeLine ∧ ∀ p, H p = Option.none → sp (ws ++ [V.ref p]) (upd H p (.tup rest)) Q E
def BindsS (fd : FuncData) (ps : List Str) (pv : Str) : Prop := ∀ us rest : List Value, us.length = ps.length → bindArgs fd ⟨us ++ rest, []⟩ = (newTuple rest >>= fun t => pure (ps.zip us ++ [(pv, t)]))
theorem FunS.bindsS {P : Program} {K : PySem.W.Frag} {x qual pv : Str} {params : Arguments} {body : List Stmt} {scope : Scope} {D f : Addr} {fd : FuncData} {ps : List Str} (F : FunS P K x qual params body scope D f fd)
    (h : ∀ (cl : List (Str × Addr)) (doc pm : Value) (an : Option Addr) (c1 c2 : Value) (us rest : List Value), us.length = ps.length → bindArgs (PySem.W.fnX x qual params body scope cl .none .none doc pm an c1 c2) ⟨us ++ rest, []⟩ = (newTuple rest >>= fun t => pure (ps.zip us ++ [(pv, t)]))) : BindsS fd ps pv := by
  obtain ⟨oc, od, doc, pm, an, cda, ct, osl, cc, rfl, _⟩ := F.ex
  exact fun us rest hl => h _ _ _ _ _ _ us rest hl
theorem FunS.okS {CX : CXT} {P : Program} {w : World} {K : PySem.W.Frag} {mg : Str → Option Value} {base : Heap} {x qual x0 pv : Str} {params : Arguments} {st0 st : Stmt} {rest : List Stmt} {scope : Scope} {D f : Addr} {fd : FuncData} {N ps : List Str} {k : Nat} {sp : Sp} {ar : Arg}
    (F : FunS P K x qual params (st0 :: st :: rest) scope D f fd) (S : SScope N (ps ++ [pv]) ["__class__"] scope) (hCX : CXUp CX) (hbs : BindsS fd ps pv) (hs : scope.names.lookup ("super" : Str) = some .globalImplicit) (hp : (params.posonlyargs ++ params.args).head? = some ar) (har : ar.arg = x0) (hN : N[0]? = some x0) (hx : scope.names.lookup x0 = some .local ∨ scope.names.lookup x0 = some .cell) (hxd : (x0 == ("__classdict__" : Str)) = false)
    (top : (P.main.scope.names.lookup ("super" : Str)).isSome = false) (hm : mg "super" = Option.none) (hD : ∃ cd, PySem.W.clsIn K D = some cd) (hnc : scope.names.lookup ("__class__" : Str) = some .free)
    (hbody : ∀ (cc cda : Addr) (A : Around) (outer : List Env) (s : Shared) (H : Hp) (vs : List V) (Q : VK) (E : XK), Room k (A.deeper (PySem.W.envX qual scope s.heap.objs.size f (.ref cda) (ownC s.heap.objs.size scope ++ [(("__class__" : Str), cc)]))) → sp vs H Q E →
      SupX (scx CX P w K mg base N ⟨x, qual, params, st0 :: st :: rest, scope, ownC s.heap.objs.size scope ++ [(("__class__" : Str), cc)], cda⟩ f A outer s H E) D f x0 →
      ∃ t0 t1 t2, PS (scx CX P w K mg base N ⟨x, qual, params, st0 :: st :: rest, scope, ownC s.heap.objs.size scope ++ [(("__class__" : Str), cc)], cda⟩ f A outer s H E) st0 t0 ∧
        PSat (scx CX P w K mg base N ⟨x, qual, params, st0 :: st :: rest, scope, ownC s.heap.objs.size scope ++ [(("__class__" : Str), cc)], cda⟩ f A outer s H E) (.func (st0 :: st :: rest) (PySem.W.envX qual scope s.heap.objs.size f (.ref cda) (ownC s.heap.objs.size scope ++ [(("__class__" : Str), cc)]))) st t1 ∧
        PSs (scx CX P w K mg base N ⟨x, qual, params, st0 :: st :: rest, scope, ownC s.heap.objs.size scope ++ [(("__class__" : Str), cc)], cda⟩ f A outer s H E) rest t2 ∧ tSeq t0 (tSeq t1 t2) { nx := fun _ H' => Q .non H', rt := Q } (NdefX.startF N vs [Option.none]) H) : FnR P w K mg base CX (k + 1) f (StarSp ps.length sp) := by
  obtain ⟨oc, od, doc, pm, an, cda, ct, osl, cc, rfl, lk, hcd, ⟨cl1, cd1, cs1, hcell⟩, cl2, cd2, vs2, cs2, file, tf, hcode, hvs2, hfile⟩ := F.ex
  intro A outer s H us vs Q E hr e0 r hsp
  obtain ⟨ws, rst, ev, hl, hz, hq0⟩ := hsp
  subst ev
  obtain ⟨u1, u2, eu, r1, r2⟩ := vals_split r
  subst eu
  have hn : H s.heap.objs.size = Option.none := e0.hok.fresh (Nat.le_refl _)
  have hl1 : u1.length = ps.length := by rw [← r1.length]; exact hl
  have hl2 : u2.length ≤ sizeLine := by rw [← r2.length]; exact hz
  have hbnd : Bnd CX P w K mg base (PySem.W.fnX x qual params (st0 :: st :: rest) scope [("__class__", cc)] .none .none doc pm an (.ref cda) ct) ⟨u1 ++ u2, []⟩ (ps ++ [pv]) A outer s H E (fun xs H2 => ∃ p, H p = Option.none ∧ xs = ws ++ [V.ref p] ∧ H2 = upd H p (.tup rst)) := fun A' Ex Q' h => by
    rw [hbs u1 u2 hl1]
    refine wpAny_bind (wpAny_newTuple (wpAny_pure ?_) hl2)
    have new : ObjOk P w (upd H s.heap.objs.size (.tup rst)) (s.heap.push ({ cls := .type "tuple", data := .seq u2.toArray } : Obj)) s.heap.objs.size (.tup rst) := ⟨hz, u2, r2, ⟨_, Heap.get?_push_size _ rfl, rfl, _, rfl⟩⟩
    have un := un_laid (fs := frs outer) (s := s) (o := ({ cls := .type "tuple", data := .seq u2.toArray } : Obj)) (u := .tup rst) hn
    have z := h _ _ (ws ++ [V.ref s.heap.objs.size]) (u1 ++ [Value.ref s.heap.objs.size]) (env0_laid e0 new) un rfl (fun e s' => hCX outer s H _ _ E e s' un (fun b o q => Heap.get?_push_of_some _ q) rfl) (r1.append (.cons rfl .nil))
      (by rw [List.length_append, List.length_append, hl] <;> rfl) ⟨_, hn, rfl, rfl⟩
    rw [List.zip_append hl1.symm] at z
    exact z
  have KX0 : K.In s.heap := e0.mod.kin.keeps fun b o e => (e0.bs b o e).1
  refine codeAny_call_function hr.depth (KX0 _ _ lk) rfl S.co S.gen rfl (PySem.W.codeRec_of KX0 hcd) (hbnd _ _ _ fun s2 H2 vs us e2 un ho hxe r hl2 g => ?_)
  obtain ⟨p, hpn, rfl, rfl⟩ := g
  have hsp := hq0 p hpn
  have KX : K.In s2.heap := e2.mod.kin.keeps fun b o e => (e2.bs b o e).1
  have lim : s2.heap.NoLimit := e2.mod.nolimit.keeps fun b o e => (e2.bs b o e).1
  have hk : ∀ y ∈ (ps ++ [pv]).zip us, scope.names.lookup y.1 = some .local ∨ (scope.names.lookup y.1 = some .cell ∧ ((ownC s2.heap.objs.size scope).lookup y.1).isSome = true) := fun y hy => by
    rcases S.par y.1 (List.of_mem_zip hy).1 with z | z
    · exact .inl z
    · obtain ⟨c, e⟩ := cell_has (n := s2.heap.objs.size + 1) z
      exact .inr ⟨z, by show ((ownC s2.heap.objs.size scope).lookup y.1).isSome = true; rw [e]; rfl⟩
  refine newEnv_cl S.kind hk fun s1 xx => ⟨lim.keeps xx.toInCall.keep, PySem.ks_codeAny_funcAt ?_⟩
  have zc := e2.mod.kin _ _ hcell
  have I := inv_scx (CX := CX) (E := E) (f := f) (x0 := x) (qual := qual) (params := params) (body := st0 :: st :: rest) (cda := cda) S hr.hd e2 hl2 r (e2.bs _ _ zc).2 ⟨_, _, KX _ _ hcell, rfl⟩ xx
  have hcl : (ownC s2.heap.objs.size scope ++ [(("__class__" : Str), cc)]).lookup ("__class__" : Str) = some cc := by
    rw [List.lookup_append]
    cases z : (ownC s2.heap.objs.size scope).lookup ("__class__" : Str) with
    | none => simp [List.lookup]
    | some c => exact absurd (List.mem_singleton_self _) (S.ncl _ (cells_mem _ _ z) rfl)
  have SX : SupX (scx CX P w K mg base N ⟨x, qual, params, st0 :: st :: rest, scope, ownC s2.heap.objs.size scope ++ [(("__class__" : Str), cc)], cda⟩ f A outer s2 (upd H p (.tup rst)) E) D f x0 :=
    ⟨hs, hnc, rfl, ⟨_, _, _, _, ar, lk, hp, har⟩, ⟨cda, _, _, _, _, file, tf, rfl, hcode, hvs2, hfile⟩, top, hN, hx.elim .inl fun z => .inr (.inl z), hxd, ⟨cc, _, _, _, hcl, hcell⟩, hm, hD⟩
  obtain ⟨t0, t1, t2, p0, p1, p2, hq⟩ := hbody cc cda A outer s2 _ _ Q E (hr.deeper _) hsp SX
  have fin : ∀ {σ' : L2.St} {H' : Hp} {v : V} {u : Value} {s' : Shared}, Inv (scx CX P w K mg base N ⟨x, qual, params, st0 :: st :: rest, scope, ownC s2.heap.objs.size scope ++ [(("__class__" : Str), cc)], cda⟩ f A outer s2 (upd H p (.tup rst)) E) [] σ' H' s' → RelV v u → Q v H' → CE outer P w H s Q u s' :=
    fun {σ' H' v u s'} J rv q => ⟨v, H', J.os.trans ho, J.bare, un.trans J.base, J.hok, rv, q⟩
  refine PySem.ks_wpAt_mono (PySem.ks_wpAt_execs_cons (wpAt_of_wpAny (wpAny_mono (p0.run [] _ _ _ _ I hq) (fun fl s' z => ?_) fun e s' z => z))) (fun fl s' z => z) (fun e s' hs => wpAny_mono hs (fun _ s'' z => hxe e s'' z) fun e' s'' z => hxe e' s'' z)
  cases fl with
  | brk => obtain ⟨_, _, _, q⟩ := z; exact q.elim
  | cont => obtain ⟨_, _, _, q⟩ := z; exact q.elim
  | ret u =>
    obtain ⟨v, σ', H', J, rv, q⟩ := z
    exact fin J rv q
  | next =>
    obtain ⟨σ0, H0, J0, q0⟩ := z
    refine PySem.ks_wpAt_execs_cons (PySem.ks_wpAt_mono (p1.run [] _ _ H0 _ J0 q0) (fun fl s' z => ?_) fun e s' z => z)
    cases fl with
    | brk => obtain ⟨_, _, _, q⟩ := z; exact q.elim
    | cont => obtain ⟨_, _, _, q⟩ := z; exact q.elim
    | ret u =>
      obtain ⟨v, σ', H', J, rv, q⟩ := z
      exact fin J rv q
    | next =>
      obtain ⟨σ', H', J, q⟩ := z
      refine wpAt_of_wpAny (wpAny_mono (p2.run [] s' σ' H' _ J q) (fun fl s2 z2 => ?_) fun e s2 z2 => z2)
      cases fl with
      | brk => obtain ⟨_, _, _, q⟩ := z2; exact q.elim
      | cont => obtain ⟨_, _, _, q⟩ := z2; exact q.elim
      | ret u =>
        obtain ⟨v, σ2, H2, J2, rv, q⟩ := z2
        exact fin J2 rv q
      | next =>
        obtain ⟨σ2, H2, J2, q⟩ := z2
        exact fin (v := V.non) (u := Value.none) J2 rfl q
/-! ### making an instance by a positional promise -/
theorem pe_imp {X : Cx} {e : Expr} {t u : TE} (h : PE X e t) (i : ∀ σ H Q, u σ H Q → t σ H Q) : PE X e u := ⟨fun pins s σ H Q I q => h.run pins s σ H Q I (i σ H Q q)⟩
section
variable {X : Cx} {CX : CXT} {k : Nat} {f C : Addr} {sp : Sp} {E : XK} {x : Str} {e : Expr} {es : List Expr} {t : TA} {p pos : Pos}
theorem pe_mkS (M : Mk X.K C f) (F : FnR X.prog X.w X.K X.mg X.base CX k f sp) (hr : Room (k + 1) X.A) (hg : Gl X x) (hm : X.mg x = some (.ref C)) (hx : Passes CX X E) (ha : PA X (e :: es) t) (hdb : (x == ("__debug__" : Str)) = false := by decide)
    (he : starEach (e :: es) X.env = (false, eval e X.env) :: starEach es X.env := by rfl) (hpl : (backTo pos (starEach es X.env)).any (·.1) = false := by rfl) : PE X (.Call (.Name x p) (e :: es) [] pos) (tMake C sp [] E t) := by
  refine pe_imp (pe_makeR M F hr hg hm hx ha hdb he hpl) fun σ H Q h => ?_
  unfold tMake at h
  simp only [List.append_nil] at h
  exact h
theorem pe_mkS0 (M : Mk X.K C f) (F : FnR X.prog X.w X.K X.mg X.base CX k f sp) (hr : Room (k + 1) X.A) (hg : Gl X x) (hm : X.mg x = some (.ref C)) (hx : Passes CX X E) (hdb : (x == ("__debug__" : Str)) = false := by decide) : PE X (.Call (.Name x p) [] [] pos) (tMake C sp [] E tNil) := by
  refine ⟨fun pins s σ H Q I h => ?_⟩
  refine wpAny_Call_Name_kw (ld_glob I hg hm ?_ hdb)
  exact PySem.W.callWith_K0 I.kIn M.kp (run_makeR (us := []) M F hr hx I .nil (by simpa only [tMake, tNil, List.append_nil] using h))
theorem run_makeRZ {pins : List (Addr × Obj)} {σ : L2.St} {H : Hp} {s : Shared} {Q : VK} {us : List Value} {vs : List V} {E : L2.St → XK} (M : Mk X.K C f) (F : FnR X.prog X.w X.K X.mg X.base CX k f sp) (hr : Room (k + 1) X.A) (hx : PassesAt CX X σ (E σ)) (I : Inv X pins σ H s) (r : Vals vs us)
    (h : ∀ x dx, H x = Option.none → H dx = Option.none → dx ≠ x → sp (V.ref x :: vs) (upd (upd H dx (.own x)) x (.ins C dx [])) (fun v H2 => v = .non ∧ Q (.ref x) H2) (E σ)) :
    wpAny (model X.prog X.w) X.A (call (.ref C) us) (EP X pins σ Q) X.xe s := by
  have hq := h (s.heap.objs.size + 1) s.heap.objs.size (I.hok.fresh (Nat.le_succ _)) (I.hok.fresh (Nat.le_refl _)) (Nat.ne_of_lt (Nat.lt_succ_self _))
  have J := Inv.made (C := C) I
  have w2 : Vals (V.ref (s.heap.objs.size + 1) :: vs) (Value.ref (s.heap.objs.size + 1) :: us) := .cons rfl r
  refine wpAny_call (make_map (f := f) I.kIn M.makes M.init (beq_iff_eq.mp M.fn) (codeAny_mono (F _ X.stack _ _ (Value.ref (s.heap.objs.size + 1) :: us) _ _ (E σ) (hr.make C us []) (J.env0.make C us []) w2 hq) fun r s' z => ?_))
  match r, z with
  | .error e, z => exact hx pins _ _ e s' J z
  | .ok (.ret u), z =>
    obtain ⟨v, H', I3, rv, ev, q3⟩ := J.after z
    subst ev
    exact ⟨rv, V.ref (s.heap.objs.size + 1), H', I3, rfl, q3⟩
  | .ok .next, z => exact z.elim
  | .ok .brk, z => exact z.elim
  | .ok .cont, z => exact z.elim
theorem pe_mkSZ {E : L2.St → XK} (M : Mk X.K C f) (F : FnR X.prog X.w X.K X.mg X.base CX k f sp) (hr : Room (k + 1) X.A) (hg : Gl X x) (hm : X.mg x = some (.ref C)) (hx : ∀ σ, PassesAt CX X σ (E σ)) (ha : PA X (e :: es) t) (hdb : (x == ("__debug__" : Str)) = false := by decide)
    (he : starEach (e :: es) X.env = (false, eval e X.env) :: starEach es X.env := by rfl) (hpl : (backTo pos (starEach es X.env)).any (·.1) = false := by rfl) : PE X (.Call (.Name x p) (e :: es) [] pos) (tMakeZ C sp [] E t) :=
  ⟨fun pins s σ G Q I h => wpAny_Call_Name_kw (ld_glob I hg hm (PySem.W.callWith_K (h₀ := X.base) I.ok.mod.kin M.kp (thn (ha.run pos pins s σ G _ I h) fun us s1 ⟨vs, H1, I1, r, q⟩ => ⟨I1.kIn, run_makeRZ M F hr (hx σ) I1 r (by simpa only [List.append_nil] using q)⟩) he hpl) hdb)⟩
theorem pe_mkSZ0 {E : L2.St → XK} (M : Mk X.K C f) (F : FnR X.prog X.w X.K X.mg X.base CX k f sp) (hr : Room (k + 1) X.A) (hg : Gl X x) (hm : X.mg x = some (.ref C)) (hx : ∀ σ, PassesAt CX X σ (E σ)) (hdb : (x == ("__debug__" : Str)) = false := by decide) : PE X (.Call (.Name x p) [] [] pos) (tMakeZ C sp [] E tNil) :=
  ⟨fun pins s σ G Q I h => wpAny_Call_Name_kw (ld_glob I hg hm (PySem.W.callWith_K0 I.kIn M.kp (run_makeRZ (us := []) M F hr (hx σ) I .nil (by simpa only [tMakeZ, tMake, tNil, List.append_nil] using h))) hdb)⟩
/-- a statement that is never reached -/
theorem ps_dead {st : Stmt} : PS X st (fun _ _ _ => False) := ⟨fun _ _ _ _ _ _ h => h.elim⟩
/-- one of two derivations -/
theorem pe_or {e : Expr} {t u : TE} (h : PE X e t) (g : PE X e u) : PE X e (fun σ H Q => t σ H Q ∨ u σ H Q) := ⟨fun pins s σ H Q I q => q.elim (h.run pins s σ H Q I) (g.run pins s σ H Q I)⟩
end
end Z
namespace Z
open PySem PySem.Spec PyProof.Rows
open Sem (wp)
/-! ### what sleeps is not touched: a run that never wakes a generator is the same whatever that generator is -/
/-- a frame that is no generator's -/
def plainF : Frame → Frame
  | .gen _ _ _ c p => .ret (fun _ => .unsupported "") none false [] c p []
  | f => f
theorem plainF_where (f : Frame) : (plainF f).where_ = f.where_ := by cases f <;> rfl
/-- it may not be woken, and looks as it did -/
def poison : GenState → GenState
  | .suspended _ l c p fs _ => .suspended (fun _ => .unsupported "") l c p (fs.map plainF) false
  | x => x
def isSusp : GenState → Bool
  | .suspended .. => true
  | _ => false
theorem poison_seen (x : GenState) : (poison x).seen = x.seen := by
  cases x with
  | suspended k l c p fs cl =>
    show (GenStatus.suspended, some ((c, p) :: (fs.map plainF).map Frame.where_)) = (GenStatus.suspended, some ((c, p) :: fs.map Frame.where_))
    rw [List.map_map]
    congr 4
    funext f
    exact plainF_where f
  | _ => rfl
theorem poison_bare (x : GenState) (h : isSusp x = true) : (poison x).bare = true := by
  cases x with
  | suspended k l c p fs cl => rfl
  | _ => cases h
/-- no generator's frame among its frames -/
def Cln : GenState → Prop
  | .suspended _ _ _ _ fs _ => splitAtGen fs = none
  | _ => True
theorem split_plain : ∀ fs : List Frame, splitAtGen (fs.map plainF) = none
  | [] => rfl
  | .gen g k l c p :: r => by
    show (splitAtGen (r.map plainF)).map _ = none
    rw [split_plain r]; rfl
  | .ret k h g l c p kp :: r => by
    show (splitAtGen (r.map plainF)).map _ = none
    rw [split_plain r]; rfl
theorem poison_cln (x : GenState) : Cln (poison x) := by
  cases x with
  | suspended k l c p fs cl => exact split_plain fs
  | _ => trivial
def ClnE : End → Prop
  | .susp _ _ _ _ _ _ fs => splitAtGen fs = none
  | _ => True
theorem ClnE.state {e : End} (h : ClnE e) : Cln e.genState := by
  cases e with
  | ret r => trivial
  | susp v g l k c p fs => exact h
theorem split_ret {k h g l c p kp} {fs : List Frame} : splitAtGen (.ret k h g l c p kp :: fs) = none ↔ splitAtGen fs = none := by
  show (splitAtGen fs).map _ = none ↔ _
  rw [Option.map_eq_none_iff]
theorem split_app : ∀ {a b : List Frame}, splitAtGen a = none → splitAtGen b = none → splitAtGen (a ++ b) = none
  | [], _, _, h => h
  | .gen .. :: _, _, h, _ => by cases h
  | .ret .. :: r, b, h, h2 => split_ret.mpr (split_app (split_ret.mp h) h2)
/-- u: as s, but what is in pz is poisoned -/
structure Sim (pz : Nat → Option GenState) (u s : Shared) : Prop where
  heap : u.heap = s.heap
  drawn : u.drawn = s.drawn
  toks : u.toks = s.toks
  os : u.os = s.os
  size : u.gens.size = s.gens.size
  froz : ∀ (g : Nat) (x : GenState), pz g = some x → isSusp x = true ∧ u.gens[g]? = some (poison x) ∧ s.gens[g]? = some x
  else_ : ∀ g : Nat, pz g = none → u.gens[g]? = s.gens[g]?
  cln : ∀ (g : Nat) (x : GenState), u.gens[g]? = some x → Cln x
theorem Sim.set {pz : Nat → Option GenState} {u s : Shared} {g : Nat} {x : GenState} (h : Sim pz u s) (hg : pz g = none) (hx : Cln x) : Sim pz (u.setGen g x) (s.setGen g x) := by
  refine ⟨h.heap, h.drawn, h.toks, h.os, ?_, fun g' y hy => ?_, fun g' hy => ?_, fun g' y hy => ?_⟩
  · show (u.gens.setIfInBounds g x).size = (s.gens.setIfInBounds g x).size
    rw [Array.size_setIfInBounds, Array.size_setIfInBounds, h.size]
  · have hne : g ≠ g' := fun z => by rw [z, hy] at hg; cases hg
    obtain ⟨a, b, c⟩ := h.froz g' y hy
    refine ⟨a, ?_, ?_⟩
    · show (u.gens.setIfInBounds g x)[g']? = _
      rw [Array.getElem?_setIfInBounds_ne hne]; exact b
    · show (s.gens.setIfInBounds g x)[g']? = _
      rw [Array.getElem?_setIfInBounds_ne hne]; exact c
  · show (u.gens.setIfInBounds g x)[g']? = (s.gens.setIfInBounds g x)[g']?
    by_cases hne : g = g'
    · subst hne
      rw [Array.getElem?_setIfInBounds_self, Array.getElem?_setIfInBounds_self, h.size]
    · rw [Array.getElem?_setIfInBounds_ne hne, Array.getElem?_setIfInBounds_ne hne]; exact h.else_ g' hy
  · have hy : (u.gens.setIfInBounds g x)[g']? = some y := hy
    by_cases hne : g = g'
    · subst hne
      rw [Array.getElem?_setIfInBounds_self] at hy
      split at hy
      · cases hy; exact hx
      · cases hy
    · rw [Array.getElem?_setIfInBounds_ne hne] at hy
      exact h.cln g' y hy
theorem Sim.push {pz : Nat → Option GenState} {u s : Shared} {c : Code} (h : Sim pz u s) : Sim pz { u with gens := u.gens.push (.fresh c) } { s with gens := s.gens.push (.fresh c) } := by
  refine ⟨h.heap, h.drawn, h.toks, h.os, ?_, fun g y hy => ?_, fun g hy => ?_, fun g y hy => ?_⟩
  · show (u.gens.push _).size = (s.gens.push _).size
    rw [Array.size_push, Array.size_push, h.size]
  · obtain ⟨a, b, d⟩ := h.froz g y hy
    refine ⟨a, ?_, ?_⟩
    · show (u.gens.push _)[g]? = _
      rw [Array.getElem?_push, if_neg (Nat.ne_of_lt (Array.getElem?_eq_some_iff.mp b).1)]; exact b
    · show (s.gens.push _)[g]? = _
      rw [Array.getElem?_push, if_neg (Nat.ne_of_lt (Array.getElem?_eq_some_iff.mp d).1)]; exact d
  · show (u.gens.push _)[g]? = (s.gens.push _)[g]?
    rw [Array.getElem?_push, Array.getElem?_push, h.size, h.else_ g hy]
  · have hy : (u.gens.push (.fresh c))[g]? = some y := hy
    rw [Array.getElem?_push] at hy
    split at hy
    · cases hy; trivial
    · exact h.cln g y hy
theorem Sim.at {pz : Nat → Option GenState} {u s : Shared} {g : Nat} {x : GenState} (h : Sim pz u s) (hx : u.gens[g]? = some x) (hs : isSusp x = false) : pz g = none ∧ s.gens[g]? = some x := by
  have e : pz g = none := by
    cases q : pz g with
    | none => rfl
    | some y =>
      obtain ⟨a, b, c⟩ := h.froz g y q
      rw [hx] at b
      cases b
      cases y with
      | suspended => cases hs
      | _ => cases a
  exact ⟨e, by rw [← h.else_ g e]; exact hx⟩
theorem Sim.to {pz : Nat → Option GenState} {u s : Shared} (h : Sim pz u s) : s = { u with gens := s.gens } := by
  obtain ⟨a, b, c, d, e⟩ := u
  obtain ⟨a', b', c', d', e'⟩ := s
  obtain ⟨h1, h2, h3, h4, _⟩ := h
  cases h1; cases h2; cases h3; cases h4
  rfl
variable {M : Model}
theorem no_uns {Γ : PySem.Ctx} {p : Pos} {w : String} {s s' : Shared} {e : End} : ∀ {fs : List Frame}, ¬ Runs M Γ p (.unsupported w) fs s e s' := by
  have base : ∀ {Γ : PySem.Ctx} {e : End} {s' : Shared}, ¬ Runs M Γ p (.unsupported w) [] s e s' := fun h => by cases h
  intro fs h
  cases h with
  | segRet a b => exact base a
  | segGen a b => exact base a
  | segSuspOut a b => exact base b
  | segSuspGen a b => exact base b
theorem Sim.back {pz : Nat → Option GenState} {u s : Shared} (h : Sim pz u s) {u' s' : Shared} (e1 : u'.gens = u.gens) (e2 : s'.gens = s.gens) (a : u'.heap = s'.heap) (b : u'.drawn = s'.drawn) (c : u'.toks = s'.toks) (d : u'.os = s'.os) : Sim pz u' s' :=
  ⟨a, b, c, d, by rw [e1, e2]; exact h.size, fun g x q => by rw [e1, e2]; exact h.froz g x q, fun g q => by rw [e1, e2]; exact h.else_ g q, fun g x q => h.cln g x (by rw [← e1]; exact q)⟩
theorem Sim.seen {pz : Nat → Option GenState} {u s : Shared} {g : Nat} {x : GenState} (h : Sim pz u s) (hx : u.gens[g]? = some x) : ∃ y, s.gens[g]? = some y ∧ y.seen = x.seen := by
  cases q : pz g with
  | none => exact ⟨x, (h.else_ g q).symm.trans hx, rfl⟩
  | some y =>
    obtain ⟨h1, h2, h3⟩ := h.froz g y q
    rw [hx] at h2
    cases h2
    exact ⟨y, h3, (poison_seen y).symm⟩
theorem runs_sim {Γ : PySem.Ctx} {p : Pos} {t : Sem PySem.Fin} {fs : List Frame} {u u' : Shared} {e : End} {pz : Nat → Option GenState} (h : Runs M Γ p t fs u e u') :
    ∀ s : Shared, splitAtGen fs = none → Sim pz u s → ∃ s', Runs M Γ p t fs s e s' ∧ Sim pz u' s' ∧ ClnE e := by
  induction h with
  | done => exact fun _ _ z => ⟨_, .done, z, trivial⟩
  | raise => exact fun _ _ z => ⟨_, .raise, z, trivial⟩
  | again q _ ih => exact fun s n z => let ⟨s', a, b⟩ := ih s n z; ⟨s', .again q a, b⟩
  | rule _ ih => exact fun s n z => let ⟨s', a, b⟩ := ih s n z; ⟨s', .rule a, b⟩
  | «at» _ ih => exact fun s n z => let ⟨s', a, b⟩ := ih s n z; ⟨s', .at a, b⟩
  | load ho _ ih =>
    intro s n z
    obtain ⟨s', a, b⟩ := ih s n z
    exact ⟨s', .load (by rw [← z.heap]; exact ho) a, b⟩
  | update ho _ ih =>
    intro s n z
    obtain ⟨s', a, b⟩ := ih { s with heap := s.heap.update _ _ } n (z.back rfl rfl (by rw [z.heap]) z.drawn z.toks z.os)
    exact ⟨s', .update (by rw [← z.heap]; exact ho) a, b⟩
  | loadIfAlive _ ih =>
    intro s n z
    obtain ⟨s', a, b⟩ := ih s n z
    exact ⟨s', .loadIfAlive (by rw [z.heap] at a; exact a), b⟩
  | point _ ih => exact fun s n z => let ⟨s', a, b⟩ := ih s n z; ⟨s', .point a, b⟩
  | alloc _ ih =>
    intro s n z
    obtain ⟨s', a, b⟩ := ih { s with heap := s.heap.push _ } n (z.back rfl rfl (by rw [z.heap]) z.drawn z.toks z.os)
    exact ⟨s', .alloc (by rw [z.heap] at a; exact a), b⟩
  | fresh _ ih =>
    intro s n z
    obtain ⟨s', a, b⟩ := ih { s with toks := s.toks + 1 } n (z.back rfl rfl z.heap z.drawn (by rw [z.toks]) z.os)
    exact ⟨s', .fresh (by rw [z.toks] at a; exact a), b⟩
  | ask _ ih => exact fun s n z => let ⟨s', a, b⟩ := ih s n z; ⟨s', .ask a, b⟩
  | choose hn _ ih =>
    intro s n z
    obtain ⟨s', a, b⟩ := ih { s with drawn := s.drawn.bump _ } n (z.back rfl rfl z.heap (by rw [z.drawn]) z.toks z.os)
    exact ⟨s', .choose hn (by rw [z.drawn] at a; exact a), b⟩
  | os _ ih =>
    intro s n z
    obtain ⟨s', a, b⟩ := ih { s with os := (Os.step s.os _).1 } n (z.back rfl rfl z.heap z.drawn z.toks (by rw [z.os]))
    exact ⟨s', .os (by rw [z.os] at a; exact a), b⟩
  | handled _ ih => exact fun s n z => let ⟨s', a, b⟩ := ih s n z; ⟨s', .handled a, b⟩
  | genState hg _ ih =>
    intro s1 n z
    obtain ⟨s2, a, b⟩ := ih s1 n z
    obtain ⟨y, h1, h2⟩ := z.seen hg
    rw [← h2] at a
    exact ⟨s2, .genState h1 a, b⟩
  | stack _ ih => exact fun s n z => let ⟨s', a, b⟩ := ih s n z; ⟨s', .stack a, b⟩
  | thread _ ih => exact fun s n z => let ⟨s', a, b⟩ := ih s n z; ⟨s', .thread a, b⟩
  | newGen _ ih =>
    intro s n z
    obtain ⟨s', a, b⟩ := ih _ n z.push
    exact ⟨s', .newGen (by rw [z.size] at a; exact a), b⟩
  | call _ _ ih1 ih2 =>
    intro s n z
    obtain ⟨s1, a1, b1, _⟩ := ih1 _ rfl z
    obtain ⟨s2, a2, b2⟩ := ih2 _ rfl b1
    exact ⟨s2, .call a1 a2, b2⟩
  | callSusp _ ih =>
    intro s n z
    obtain ⟨s1, a1, b1, c1⟩ := ih _ rfl z
    exact ⟨s1, .callSusp a1, b1, split_app c1 rfl⟩
  | yield => exact fun _ _ z => ⟨_, .yield, z, rfl⟩
  | resumeFresh hg _ hq _ ih1 ih2 =>
    intro s n z
    obtain ⟨g1, g2⟩ := z.at hg rfl
    obtain ⟨s1, a1, b1, c1⟩ := ih1 _ rfl (z.set g1 trivial)
    obtain ⟨s2, a2, b2⟩ := ih2 _ rfl (b1.set g1 c1.state)
    exact ⟨s2, .resumeFresh g2 a1 hq a2, b2⟩
  | @resumeSuspended Γ p g r l k s0 k0 l0 c0 p0 fs0 cl e1 u1 e u2 hg hr hq _ ih1 ih2 =>
    intro s n z
    cases q : pz g with
    | none =>
      obtain ⟨s1, a1, b1, c1⟩ := ih1 _ (z.cln g _ hg) (z.set q trivial)
      obtain ⟨s2, a2, b2⟩ := ih2 _ rfl (b1.set q c1.state)
      exact ⟨s2, .resumeSuspended ((z.else_ g q).symm.trans hg) a1 hq a2, b2⟩
    | some y =>
      obtain ⟨h1, h2, h3⟩ := z.froz g y q
      rw [hg] at h2
      cases y with
      | suspended =>
        cases h2
        exact (no_uns hr).elim
      | _ => cases h1
  | resumeJustStarted hg hv _ ih =>
    intro s n z
    obtain ⟨g1, g2⟩ := z.at hg rfl
    obtain ⟨s1, a1, b1⟩ := ih _ rfl z
    exact ⟨s1, .resumeJustStarted g2 hv a1, b1⟩
  | resumeThrowFresh hg _ ih =>
    intro s n z
    obtain ⟨g1, g2⟩ := z.at hg rfl
    obtain ⟨s1, a1, b1⟩ := ih _ rfl (z.set g1 trivial)
    exact ⟨s1, .resumeThrowFresh g2 a1, b1⟩
  | resumeRunning hg _ ih =>
    intro s n z
    obtain ⟨g1, g2⟩ := z.at hg rfl
    obtain ⟨s1, a1, b1⟩ := ih _ rfl z
    exact ⟨s1, .resumeRunning g2 a1, b1⟩
  | resumeFinished hg _ ih =>
    intro s n z
    obtain ⟨g1, g2⟩ := z.at hg rfl
    obtain ⟨s1, a1, b1⟩ := ih _ rfl z
    exact ⟨s1, .resumeFinished g2 a1, b1⟩
  | segRet _ _ ih1 ih2 =>
    intro s n z
    obtain ⟨s1, a1, b1, _⟩ := ih1 _ rfl z
    obtain ⟨s2, a2, b2⟩ := ih2 _ (split_ret.mp n) b1
    exact ⟨s2, .segRet a1 a2, b2⟩
  | segGen => exact fun _ n => by cases n
  | segSuspOut hn _ ih =>
    intro s n z
    obtain ⟨s1, a1, b1, c1⟩ := ih _ rfl z
    exact ⟨s1, .segSuspOut hn a1, b1, split_app c1 hn⟩
  | segSuspGen hn => exact fun _ n => by rw [n] at hn; cases hn

theorem wakes_sim {Γ : PySem.Ctx} {p : Pos} {g : Nat} {r : Resume} {u u' : Shared} {res : GenResult} {pz : Nat → Option GenState} (h : Wakes M Γ p g r u res u') {s : Shared} (z : Sim pz u s) : ∃ s', Wakes M Γ p g r s res s' ∧ Sim pz u' s' := by
  unfold Wakes at h
  cases q : u.gens[g]? with
  | none => simp only [q] at h
  | some x =>
    simp only [q] at h
    cases x with
    | fresh c =>
      obtain ⟨g1, g2⟩ := z.at q rfl
      cases r with
      | throw e =>
        obtain ⟨rfl, rfl⟩ := h
        exact ⟨s.setGen g .finished, by unfold Wakes; rw [g2]; exact ⟨rfl, rfl⟩, z.set g1 trivial⟩
      | send v =>
        by_cases hv : v = .none
        · subst hv
          obtain ⟨e1, s1, hr, hq, rfl, rfl⟩ := h
          obtain ⟨s2, a, b, c⟩ := runs_sim hr _ rfl (z.set g1 trivial)
          exact ⟨s2.setGen g e1.genState, by unfold Wakes; rw [g2]; exact ⟨e1, s2, a, hq, rfl, rfl⟩, b.set g1 c.state⟩
        · have : res = .justStarted ∧ u' = u := by cases v <;> first | exact absurd rfl hv | exact h
          obtain ⟨rfl, rfl⟩ := this
          exact ⟨s, Sem.wakes_justStarted M Γ g2 hv, z⟩
    | suspended k l c p0 fs cl =>
      obtain ⟨e1, s1, hr, hq, rfl, rfl⟩ := h
      cases e : pz g with
      | none =>
        obtain ⟨s2, a, b, c⟩ := runs_sim hr _ (z.cln g _ q) (z.set e trivial)
        exact ⟨s2.setGen g e1.genState, by unfold Wakes; rw [(z.else_ g e).symm.trans q]; exact ⟨e1, s2, a, hq, rfl, rfl⟩, b.set e c.state⟩
      | some y =>
        obtain ⟨h1, h2, h3⟩ := z.froz g y e
        rw [q] at h2
        cases y with
        | suspended =>
          cases h2
          exact (no_uns hr).elim
        | _ => cases h1
    | running =>
      obtain ⟨g1, g2⟩ := z.at q rfl
      obtain ⟨rfl, rfl⟩ := h
      exact ⟨s, by unfold Wakes; rw [g2]; exact ⟨rfl, rfl⟩, z⟩
    | finished =>
      obtain ⟨g1, g2⟩ := z.at q rfl
      obtain ⟨rfl, rfl⟩ := h
      exact ⟨s, by unfold Wakes; rw [g2]; exact ⟨rfl, rfl⟩, z⟩
theorem wp_sim {α : Type} (Γ : PySem.Ctx) (pz : Nat → Option GenState) (t : Sem α) : ∀ (Q : α → Pos → Shared → Prop) (E : Value → Pos → Shared → Prop) (p : Pos) (u s : Shared), Sim pz u s → wp M Γ t Q E p u →
    wp M Γ t (fun a p' s' => ∃ u', Sim pz u' s' ∧ Q a p' u') (fun e p' s' => ∃ u', Sim pz u' s' ∧ E e p' u') p s := by
  induction t with
  | pure a => exact fun Q E p u s z h => ⟨u, z, h⟩
  | raise e => exact fun Q E p u s z h => ⟨u, z, h⟩
  | unsupported _ => exact fun Q E p u s _ h => h
  | finish _ => exact fun Q E p u s _ h => h
  | rule _ k ih => exact fun Q E p u s z h => ih () Q E p u s z h
  | «at» p' k ih => exact fun Q E p u s z h => ih () Q E p' u s z h
  | load a _ k ih => exact fun Q E p u s z ⟨o, ho, h⟩ => ⟨o, by rw [← z.heap]; exact ho, ih o Q E p u s z h⟩
  | update a _ f k ih =>
    exact fun Q E p u s z ⟨h1, h⟩ => by
      have z2 : Sim pz { u with heap := u.heap.update a f } { s with heap := s.heap.update a f } := z.back rfl rfl (by rw [z.heap]) z.drawn z.toks z.os
      exact ⟨by rw [← z.heap]; exact h1, ih () Q E p _ _ z2 h⟩
  | loadIfAlive a k ih =>
    exact fun Q E p u s z h => by
      have h2 : wp M Γ (k (u.heap.get? a)) Q E p u := h
      rw [z.heap] at h2
      exact ih _ Q E p u s z h2
  | point _ k ih => exact fun Q E p u s z h => ih () Q E p u s z h
  | register _ _ => exact fun Q E p u s _ h => h
  | alloc o k ih =>
    exact fun Q E p u s z h => by
      have h2 : wp M Γ (k u.heap.objs.size) Q E p { u with heap := u.heap.push o } := h
      have z2 : Sim pz { u with heap := u.heap.push o } { s with heap := s.heap.push o } := z.back rfl rfl (by rw [z.heap]) z.drawn z.toks z.os
      have e : u.heap.objs.size = s.heap.objs.size := by rw [z.heap]
      rw [e] at h2
      exact ih _ Q E p _ _ z2 h2
  | fresh k ih =>
    exact fun Q E p u s z h => by
      have h2 : wp M Γ (k u.toks) Q E p { u with toks := u.toks + 1 } := h
      have z2 : Sim pz { u with toks := u.toks + 1 } { s with toks := s.toks + 1 } := z.back rfl rfl z.heap z.drawn (by rw [z.toks]) z.os
      have e : u.toks = s.toks := z.toks
      have h3 := ih _ Q E p _ _ z2 h2
      rw [e] at h3
      exact h3
  | ask k ih => exact fun Q E p u s z h => ih _ Q E p u s z h
  | choose src n k ih =>
    exact fun Q E p u s z ⟨h1, h⟩ => by
      have z2 : Sim pz { u with drawn := u.drawn.bump src } { s with drawn := s.drawn.bump src } := z.back rfl rfl z.heap (by rw [z.drawn]) z.toks z.os
      have h3 := ih _ Q E p _ _ z2 h
      rw [z.drawn] at h3
      exact ⟨h1, h3⟩
  | os q l k ih =>
    exact fun Q E p u s z h => by
      have h2 : wp M Γ (k (Os.step u.os q).2) Q E p { u with os := (Os.step u.os q).1 } := h
      have z2 : Sim pz { u with os := (Os.step u.os q).1 } { s with os := (Os.step s.os q).1 } := z.back rfl rfl z.heap z.drawn z.toks (by rw [z.os])
      have h3 := ih _ Q E p _ _ z2 h2
      rw [z.os] at h3
      exact h3
  | call c hd g l k ih =>
    intro Q E p u s z h
    obtain ⟨r, u', hr, h⟩ := h
    obtain ⟨s', a, b, _⟩ := runs_sim hr s rfl z
    exact ⟨r, s', a, ih r Q E p u' s' b h⟩
  | handled own k ih => exact fun Q E p u s z h => ih _ Q E p u s z h
  | genState g k ih =>
    intro Q E p u s z h
    obtain ⟨st, hs, h⟩ := h
    obtain ⟨y, h1, h2⟩ := z.seen hs
    rw [← h2] at h
    exact ⟨y, h1, ih _ Q E p u s z h⟩
  | newGen c k ih =>
    exact fun Q E p u s z h => by
      have h2 : wp M Γ (k u.gens.size) Q E p { u with gens := u.gens.push (.fresh c) } := h
      have h3 := ih _ Q E p _ _ (z.push (c := c)) h2
      rw [z.size] at h3
      exact h3
  | resume g r l k ih =>
    intro Q E p u s z h
    obtain ⟨res, u', hw, h⟩ := h
    obtain ⟨s', a, b⟩ := wakes_sim hw z
    exact ⟨res, s', a, ih res Q E p u' s' b h⟩
  | yield _ _ _ _ => exact fun Q E p u s _ h => h
  | stack k ih => exact fun Q E p u s z h => ih _ Q E p u s z h
  | fork _ _ => exact fun Q E p u s _ h => h
  | thread k ih => exact fun Q E p u s z h => ih _ Q E p u s z h
  | await _ _ _ _ _ => exact fun Q E p u s _ h => h
theorem wpAny_sim {α : Type} {A : Around} {t : Sem α} {Q : α → Shared → Prop} {E : Value → Shared → Prop} {pz : Nat → Option GenState} {u s : Shared} (z : Sim pz u s) (h : wpAny M A t Q E u) :
    wpAny M A t (fun a s' => ∃ u', Sim pz u' s' ∧ Q a u') (fun e s' => ∃ u', Sim pz u' s' ∧ E e u') s := fun Γ p hΓ => wp_sim Γ pz t _ _ p u s z (h Γ p hΓ)
/-- what sleeps in s -/
def slp (s : Shared) (g : Nat) : Option GenState := match s.gens[g]? with
  | some x => if isSusp x = true then some x else none
  | none => none
/-- s, all that sleeps poisoned -/
def psn (s : Shared) : Shared := { s with gens := s.gens.map poison }
theorem slp_some {s : Shared} {g : Nat} {x : GenState} : slp s g = some x ↔ s.gens[g]? = some x ∧ isSusp x = true := by
  unfold slp
  cases q : s.gens[g]? with
  | none => simp
  | some y =>
    by_cases h : isSusp y = true
    · simp only [h, if_true]
      constructor
      · intro e; cases e; exact ⟨rfl, h⟩
      · rintro ⟨e, _⟩; exact e
    · simp only [h]
      constructor
      · intro e; cases e
      · rintro ⟨e, e2⟩; cases e; exact absurd e2 h
theorem sim_psn (s : Shared) : Sim (slp s) (psn s) s := by
  have hg : ∀ g : Nat, (psn s).gens[g]? = s.gens[g]?.map poison := fun g => Array.getElem?_map
  refine ⟨rfl, rfl, rfl, rfl, Array.size_map, fun g x q => ?_, fun g q => ?_, fun g x q => ?_⟩
  · obtain ⟨h1, h2⟩ := slp_some.mp q
    exact ⟨h2, by rw [hg, h1]; rfl, h1⟩
  · rw [hg]
    cases e : s.gens[g]? with
    | none => rfl
    | some y =>
      cases hy : isSusp y with
      | true => exact absurd (slp_some.mpr ⟨e, hy⟩) (by rw [q]; exact fun z => by cases z)
      | false =>
        cases y with
        | suspended => cases hy
        | _ => rfl
  · rw [hg] at q
    cases e : s.gens[g]? with
    | none => rw [e] at q; cases q
    | some y => rw [e] at q; cases q; exact poison_cln y
theorem bare_psn {s : Shared} (h : AllBare s.gens) : AllBare (psn s).gens := fun y hy => by
  obtain ⟨x, hx, rfl⟩ := Array.mem_map.mp hy
  cases q : isSusp x with
  | true => exact poison_bare x q
  | false =>
    cases x with
    | suspended => cases q
    | _ => rfl
theorem Sim.bare {s0 u s : Shared} (z : Sim (slp s0) u s) (h0 : AllBare s0.gens) (hu : AllBare u.gens) : AllBare s.gens := fun y hy => by
  obtain ⟨g, hg, e⟩ := Array.mem_iff_getElem.mp hy
  have e' : s.gens[g]? = some y := by rw [Array.getElem?_eq_getElem hg, e]
  cases q : slp s0 g with
  | none => exact hu y (Array.mem_of_getElem? ((z.else_ g q).trans e'))
  | some x =>
    obtain ⟨h1, h2⟩ := slp_some.mp q
    obtain ⟨_, _, h3⟩ := z.froz g x q
    rw [e'] at h3
    cases h3
    exact h0 _ (Array.mem_of_getElem? h1)
theorem Sim.still {s0 u s : Shared} (z : Sim (slp s0) u s) {g : Nat} {x : GenState} (h : s0.gens[g]? = some x) (hx : isSusp x = true) : s.gens[g]? = some x := (z.froz g x (slp_some.mpr ⟨h, hx⟩)).2.2
/-- what is true of a run from the poisoned state is true of the run -/
theorem wpAny_still {α : Type} {A : Around} {t : Sem α} {Q : α → Shared → Prop} {E : Value → Shared → Prop} {s : Shared} (hb : AllBare s.gens) (h : wpAny M A t Q E (psn s)) :
    wpAny M A t (fun a s' => ∃ u, Sim (slp s) u s' ∧ Q a u) (fun e s' => ∃ u, Sim (slp s) u s' ∧ E e u) s := wpAny_sim (sim_psn s) h
/-- other generators, the same invariant -/
theorem _root_.L2.Inv.gens {X : L2.Cx} {pins : List (Addr × Obj)} {σ : L2.St} {H : L2.Hp} {s s' : Shared} (I : L2.Inv X pins σ H s) (h1 : s'.heap = s.heap) (h2 : s'.os = s.os) (hb : AllBare s'.gens) : L2.Inv X pins σ H s' := by
  obtain ⟨a, b, c, d, e⟩ := s
  obtain ⟨a', b', c', d', e'⟩ := s'
  cases h1
  cases h2
  exact ⟨I.ok, I.os, hb, I.base, I.loc, I.cell, I.free, I.freeC, I.pin, I.hok, I.len⟩
end Z
namespace Z
open PySem PySem.Spec PyProof.Rows GenW
open L2
/-! ### generators between whose turns other code runs -/
/-- the objects below n, as they stand in s -/
def cutS (n : Nat) (s : Shared) : Shared := { s with heap := { s.heap with objs := s.heap.objs.extract 0 n } }
theorem ext_get {objs : Array Obj} {n b : Nat} (h : b < n) : (objs.extract 0 n)[b]? = objs[b]? := by
  rw [Array.getElem?_extract]
  by_cases hb : b < objs.size
  · rw [if_pos (by omega), Nat.zero_add]
  · rw [if_neg (by omega), Array.getElem?_eq_none (by omega)]
theorem ext_size (objs : Array Obj) (n : Nat) : (objs.extract 0 n).size = min n objs.size := by simp
theorem cut_lt {n : Nat} {s : Shared} {b : Addr} (h : b < n) : (cutS n s).heap.get? b = s.heap.get? b := by
  show Heap.get? ⟨s.heap.objs.extract 0 n, _⟩ b = _
  unfold Heap.get?
  rw [show (s.heap.objs.extract 0 n)[b]? = s.heap.objs[b]? from ext_get h]
theorem cut_size {n : Nat} {s : Shared} (h : n ≤ s.heap.objs.size) : (cutS n s).heap.objs.size = n := by
  show (s.heap.objs.extract 0 n).size = n
  rw [ext_size]
  exact Nat.min_eq_left h
theorem cut_some {n : Nat} {s : Shared} {b : Addr} {o : Obj} (h : (cutS n s).heap.get? b = some o) : s.heap.get? b = some o ∧ b < n := by
  have hb : b < n := by
    refine Nat.lt_of_lt_of_le (Heap.lt_size h) ?_
    show (s.heap.objs.extract 0 n).size ≤ n
    rw [ext_size]
    exact Nat.min_le_left _ _
  exact ⟨(cut_lt hb).symm.trans h, hb⟩
theorem cut_frames {n : Nat} {s : Shared} {base : Heap} : ∀ {l : List Env}, s.heap.FunFrames base l → (∀ b ∈ frs l, b < n) → (cutS n s).heap.FunFrames base l
  | [], _, _ => trivial
  | env :: r, h, hb => by
    obtain ⟨hk, ⟨L, o, hf, hn, ho, hd⟩, hr⟩ := h
    have e : frs (env :: r) = L :: frs r := by
      unfold frs
      rw [List.filterMap_cons, hf]
    rw [e] at hb
    exact ⟨hk, ⟨L, o, hf, hn, (cut_lt (hb L List.mem_cons_self)).trans ho, hd⟩, cut_frames hr fun b z => hb b (List.mem_cons_of_mem _ z)⟩
/-- a generator's frame -/
structure GCx where
  P : Program
  w : World
  K : PySem.W.Frag
  mg : Str → Option Value
  base : Heap
  N : List Str
  qual : Str
  scope : Scope
  f : Addr
  cd : Value
  A : Around
  outer : List Env
  n0 : Nat
  pn : List (Addr × Obj)
abbrev GCx.env (c : GCx) : Env := envOfC c.qual c.scope c.n0 c.f c.cd
/-- it runs: woken in s0, H0 -/
def GCx.X (c : GCx) (s0 : Shared) (H0 : Hp) : Cx where
  prog := c.P
  w := c.w
  K := c.K
  mg := c.mg
  base := c.base
  A := c.A.deeper (envOfC c.qual c.scope c.n0 c.f c.cd)
  N := c.N
  s_0 := cutS c.n0 s0
  H_0 := H0
  env := envOfC c.qual c.scope c.n0 c.f c.cd
  outer := c.outer
  stack := envOfC c.qual c.scope c.n0 c.f c.cd :: c.outer
  ex := []
  calm := true
  fn := fun _ => true
  pn := c.pn
  xe := fun _ _ => False
/-- it may be woken in s', H' after it slept in s -/
structure WakeOk (c : GCx) (ip : List (Addr × Obj)) (s : Shared) (H' : Hp) (s' : Shared) : Prop where
  env : Env0 c.P c.w c.K c.mg c.base c.A c.outer s' H'
  os : s'.os = s.os
  loc : ∀ o, s.heap.get? c.n0 = some o → s'.heap.get? c.n0 = some o
  free : H' c.n0 = none
  pin : ∀ p ∈ c.pn ++ ip, s'.heap.get? p.1 = some p.2 ∧ H' p.1 = none
theorem rebase {c : GCx} {ip : List (Addr × Obj)} {σ : L2.St} {H H' H0 : Hp} {s s' s0 : Shared} (hc : (c.X s0 H0).env.cells = []) (I : L2.Inv (c.X s0 H0) ip σ H s) (w : WakeOk c ip s H' s') : L2.Inv (c.X s' H') ip σ H' s' := by
  have nocell : ∀ {x : Str} {b : Addr}, (c.X s0 H0).env.cells.lookup x = some b → False := fun {x b} h => by rw [hc] at h; cases h
  obtain ⟨m, ⟨oL, es, ep, hoL, rL⟩, hloc⟩ := id I.loc
  have hoL : s.heap.get? c.n0 = some oL := hoL
  have hn0 : c.n0 < s'.heap.objs.size := Heap.lt_size (w.loc oL hoL)
  have hsz := cut_size (s := s') (Nat.le_of_lt hn0)
  have hbz : c.base.objs.size ≤ c.n0 := Nat.le_trans I.ok.bsz I.ok.above
  have hfr : ∀ b ∈ frs c.outer, b < c.n0 := fun b hb => by
    obtain ⟨_, o, ho, _⟩ := I.ok.funs.mem hb
    exact (cut_some ho).2
  have ok' : (c.X s' H').Ok := {
    mod := w.env.mod
    kind := I.ok.kind
    glob := I.ok.glob
    blt := I.ok.blt
    above := by
      show (cutS c.n0 s').heap.objs.size ≤ c.n0
      rw [hsz]; exact Nat.le_refl _
    inj := fun x y b h _ => (nocell h).elim
    has := I.ok.has
    cab := fun x b _ h => (nocell h).elim
    hd := I.ok.hd
    frames := I.ok.frames
    stk := I.ok.stk
    exf := fun b hb => by cases hb
    bs := fun b o e => by
      obtain ⟨h1, h2⟩ := w.env.bs b o e
      exact ⟨(cut_lt (Nat.lt_of_lt_of_le (Heap.lt_size e) hbz)).trans h1, h2⟩
    bsz := by
      show c.base.objs.size ≤ (cutS c.n0 s').heap.objs.size
      rw [hsz]; exact hbz
    noex := fun b o _ hb => by cases hb
    exfs := fun b hb => by cases hb
    funs := cut_frames w.env.funs hfr
    frf := w.env.frf }
  refine ⟨ok', rfl, w.env.bare, Un.kept fun b o e => (cut_some e).1, ⟨m, ⟨oL, es, ep, w.loc oL hoL, rL⟩, fun i x v h1 h2 h3 => ?_⟩, fun x b h => (nocell h).elim, w.free, fun x b h => (nocell h).elim, fun p hp => ?_, w.env.hok, I.len⟩
  · obtain ⟨u, r, q⟩ := hloc i x v h1 h2 h3
    refine ⟨u, r, ?_⟩
    rcases q with q | ⟨_, b, q, _⟩
    · exact .inl q
    · exact (nocell q).elim
  · obtain ⟨h1, h2⟩ := w.pin p hp
    obtain ⟨_, _, h3, h4, h5⟩ := I.pin p hp
    exact ⟨h1, h2, h3, h4, h5⟩
/-- so many items; what the i-th is, where it comes out; what has to stay while the generator sleeps -/
structure GPar where
  n : Nat
  Yp : Nat → V → Hp → Prop
  rel : Hp → Hp → Prop
/-- the consumer is ready for the i-th item -/
abbrev Rdy := Nat → Hp → Shared → Prop
def YG (c : GCx) (g : GPar) (R : Rdy) : Protocol := fun n s0 v s kap => ∃ i x ip σ H Hw, n + i = g.n ∧ i < g.n ∧ RelV x v ∧ R i Hw s0 ∧ c.n0 < s0.heap.objs.size ∧ (∀ p ∈ ip, c.n0 ≤ p.1) ∧ L2.Inv (c.X s0 Hw) ip σ H s ∧ Ex Hw H ∧ g.Yp i x H ∧
  ∀ s' H', WakeOk c ip s H' s' → g.rel H H' → R (i + 1) H' s' → kap (.send .none) s' ∧ kap (.send (.bool true)) s'
def RG (c : GCx) (g : GPar) (R : Rdy) : GenEnd := fun n s0 r s => r = .ok (.ret .none) ∧ ∃ ip σ H Hw, n = 1 ∧ R g.n Hw s0 ∧ c.n0 < s0.heap.objs.size ∧ L2.Inv (c.X s0 Hw) ip σ H s ∧ Ex Hw H
/-- what is wanted behind a statement of a generator; the items that are out, the heap at the last waking -/
structure GD where
  nx : Nat → Hp → L2.St → Hp → Prop
  bk : Nat → Hp → L2.St → Hp → Prop := fun _ _ _ _ => False
  ct : Nat → Hp → L2.St → Hp → Prop := fun _ _ _ _ => False
abbrev TGz := GD → Nat → Hp → L2.St → Hp → Prop
def GP (D : GD) (i : Nat) (Hw : Hp) (σ : L2.St) (H : Hp) : Flow → Prop
  | .next => D.nx i Hw σ H
  | .brk => D.bk i Hw σ H
  | .cont => D.ct i Hw σ H
  | .ret _ => False
/-- where the code stands -/
structure GCz (c : GCx) (A : Around) (code : Code) (fs : List Frame) (gd : Bool → Bool) : Prop where
  over : A.over code fs = c.A.deeper c.env
  split : splitAtGen fs = none
  guard : fs.any Frame.guarded = false
  gd : gd false = false
  cells : c.env.cells = []
structure GAt (c : GCx) (g : GPar) (R : Rdy) (n i : Nat) (s0 : Shared) (Hw : Hp) (ip : List (Addr × Obj)) (σ : L2.St) (H : Hp) (s : Shared) : Prop where
  cnt : n + i = g.n + 1
  rdy : R i Hw s0
  sz : c.n0 < s0.heap.objs.size
  low : ∀ p ∈ ip, c.n0 ≤ p.1
  inv : L2.Inv (c.X s0 Hw) ip σ H s
/-- what follows -/
def GKz (c : GCx) (g : GPar) (A : Around) (R : Rdy) (ip : List (Addr × Obj)) (code : Code) (fs : List Frame) (K : Flow → Sem PySem.Fin) (D : GD) : Prop :=
  ∀ n i s0 Hw σ H s f, GAt c g R n i s0 Hw ip σ H s → GP D i Hw σ H f → Seg (model c.P c.w) A (RG c g R) (YG c g R) n s0 code (K f) fs s
structure GSz (c : GCx) (g : GPar) (st : Stmt) (t : TGz) : Prop where
  run : ∀ (A : Around) (R : Rdy) (ip : List (Addr × Obj)) (n i : Nat) (s0 s : Shared) (Hw : Hp) (code : Code) (fs : List Frame) (K : Flow → Sem PySem.Fin) (J : Value → Sem PySem.Fin) (gd : Bool → Bool) (lv : List Value → List Value) (σ : L2.St) (H : Hp) (D : GD),
    GCz c A code fs gd → GAt c g R n i s0 Hw ip σ H s → GKz c g A R ip code fs K D → t D i Hw σ H → Seg (model c.P c.w) A (RG c g R) (YG c g R) n s0 code ((exec st c.env).wrap K J gd lv) fs s
structure GSzs (c : GCx) (g : GPar) (st : List Stmt) (t : TGz) : Prop where
  run : ∀ (A : Around) (R : Rdy) (ip : List (Addr × Obj)) (n i : Nat) (s0 s : Shared) (Hw : Hp) (code : Code) (fs : List Frame) (K : Flow → Sem PySem.Fin) (J : Value → Sem PySem.Fin) (gd : Bool → Bool) (lv : List Value → List Value) (σ : L2.St) (H : Hp) (D : GD),
    GCz c A code fs gd → GAt c g R n i s0 Hw ip σ H s → GKz c g A R ip code fs K D → t D i Hw σ H → Seg (model c.P c.w) A (RG c g R) (YG c g R) n s0 code ((execs st c.env).wrap K J gd lv) fs s
section
variable {c : GCx} {g : GPar} {st : Stmt} {rest : List Stmt}
/-- a statement that hands out nothing -/
def tPl (t : TS) : TGz := fun D i Hw σ H => t ⟨D.nx i Hw, fun _ _ => False, D.bk i Hw, D.ct i Hw⟩ σ H
theorem gz_ps {t : TS} (h : ∀ s0 H0, PS (c.X s0 H0) st t) : GSz c g st (tPl t) := by
  refine ⟨fun A R ip n i s0 s Hw code fs K J gd lv σ H D G a k ht => ?_⟩
  refine seg_wrap ?_
  rw [G.over]
  refine wpAny_mono ((h s0 Hw).run ip s σ H _ a.inv ht) (fun f s' hs => ?_) fun x s' hx => hx.elim
  cases f with
  | next => obtain ⟨σ', H', I, q⟩ := hs; exact k n i s0 Hw σ' H' s' .next ⟨a.cnt, a.rdy, a.sz, a.low, I⟩ q
  | brk => obtain ⟨σ', H', I, q⟩ := hs; exact k n i s0 Hw σ' H' s' .brk ⟨a.cnt, a.rdy, a.sz, a.low, I⟩ q
  | cont => obtain ⟨σ', H', I, q⟩ := hs; exact k n i s0 Hw σ' H' s' .cont ⟨a.cnt, a.rdy, a.sz, a.low, I⟩ q
  | ret u => obtain ⟨_, _, _, _, _, q⟩ := hs; exact q.elim
def tGz0 : TGz := fun D i Hw σ H => D.nx i Hw σ H
theorem gzs_nil : GSzs c g [] tGz0 := ⟨fun A R ip n i s0 s Hw code fs K J gd lv σ H D G a k ht => seg_execs_nil (k n i s0 Hw σ H s .next a ht)⟩
def tGzT (t u : TGz) : TGz := fun D i Hw σ H => t { D with nx := fun i' Hw' σ' H' => u D i' Hw' σ' H' } i Hw σ H
theorem gzs_cons {t u : TGz} (a : GSz c g st t) (b : GSzs c g rest u) : GSzs c g (st :: rest) (tGzT t u) := by
  refine ⟨fun A R ip n i s0 s Hw code fs K J gd lv σ H D G z k ht => ?_⟩
  refine seg_execs_cons (a.run A R ip n i s0 s Hw code fs _ J gd lv σ H _ G z (fun n' i' s0' Hw' σ' H' s' f z' hf => ?_) ht)
  cases f with
  | next => exact b.run A R ip n' i' s0' s' Hw' code fs K J gd lv σ' H' D G z' k hf
  | brk => exact k n' i' s0' Hw' σ' H' s' .brk z' hf
  | cont => exact k n' i' s0' Hw' σ' H' s' .cont z' hf
  | ret u => exact hf.elim
/-! ### yield -/
def tYl (g : GPar) (te : TE) : TGz := fun D i Hw σ H => i < g.n ∧ te σ H fun x H1 => Ex Hw H1 ∧ g.Yp i x H1 ∧ ∀ H2, g.rel H1 H2 → D.nx (i + 1) H2 σ H2
theorem gz_yield {e : Expr} {yp pos : Pos} {te : TE} (he : ∀ s0 H0, PE (c.X s0 H0) e te) (hco : c.env.scope.isCoroutine = false) (hi : interactive c.env = false) : GSz c g (.Expr (.Yield (some e) yp) pos) (tYl g te) := by
  refine ⟨fun A R ip n i s0 s Hw code fs K J gd lv σ H D G a k ht => ?_⟩
  obtain ⟨hlt, ht⟩ := ht
  have hc := a.cnt
  obtain ⟨n, rfl⟩ : ∃ m, n = m + 1 := ⟨n - 1, by omega⟩
  refine seg_Expr_Yield G.split G.gd G.guard ?_ hco hi
  rw [G.over]
  refine wpAny_mono ((he s0 Hw).run ip s σ H _ a.inv ht) (fun v s' hv => ?_) fun x s' hx => hx.elim
  obtain ⟨x, H1, I1, rv, ex, yp', q⟩ := hv
  intro kap hk
  refine ⟨i, x, ip, σ, H1, Hw, by omega, hlt, rv, a.rdy, a.sz, a.low, I1, ex, yp', fun s2 H2 w hr hR => ?_⟩
  have I2 := rebase G.cells I1 w
  have hz : c.n0 < s2.heap.objs.size := by
    obtain ⟨m, ⟨oL, _, _, hoL, _⟩, _⟩ := I2.loc
    exact Heap.lt_size hoL
  have z : Seg (model c.P c.w) A (RG c g R) (YG c g R) n s2 code (K .next) fs s2 := k n (i + 1) s2 H2 σ H2 s2 .next ⟨by omega, hR, hz, a.low, I2⟩ (q H2 hr)
  exact ⟨hk .none s2 z, hk (.bool true) s2 z⟩
/-! ### while -/
def tGzW (tc : TT) (tb : TGz) : TGz := fun D i Hw σ H => ∃ W : Nat → Nat → Hp → L2.St → Hp → Prop, (∃ m, W m i Hw σ H) ∧ ∀ m i Hw σ H, W m i Hw σ H →
  tc σ H fun b H1 => if b = true then ∃ Nx : Nat → Hp → L2.St → Hp → Prop, (∀ i' Hw' σ' H', Nx i' Hw' σ' H' → ∃ m', m' < m ∧ W m' i' Hw' σ' H') ∧ tb ⟨Nx, D.nx, Nx⟩ i Hw σ H1 else D.nx i Hw σ H1
theorem GCz.loop {A : Around} {code code' : Code} {fs : List Frame} {gd : Bool → Bool} {kk : Result → Sem PySem.Fin} {l kp : List Value} {p : Pos} (G : GCz c A code fs gd) (hw : code'.weight = 0) (hu : code'.cUnits = 0) :
    GCz c A code' (.ret kk none (gd false) l code p kp :: fs) id := by
  refine ⟨(over_loop hw hu).trans G.over, split_ret.mpr G.split, ?_, rfl, G.cells⟩
  rw [List.any_cons, G.guard]
  show (gd false || false) = false
  rw [G.gd]; rfl
theorem gz_while {test : Expr} {body : List Stmt} {pos : Pos} {tc : TT} {tb : TGz} (hc : ∀ s0 H0, PT (c.X s0 H0) test tc) (hb : GSzs c g body tb) : GSz c g (.While test body [] pos) (tGzW tc tb) := by
  refine ⟨fun A R ip n i s0 s Hw code fs K J gd lv σ H D G a k ht => ?_⟩
  obtain ⟨W, ⟨m0, w0⟩, turn⟩ := ht
  refine seg_While fun p => ?_
  suffices loop : ∀ (m n i : Nat) (s0 s : Shared) (Hw : Hp) (σ : L2.St) (H : Hp), GAt c g R n i s0 Hw ip σ H s → W m i Hw σ H →
      Seg (model c.P c.w) A (RG c g R) (YG c g R) n s0 (.whileLoop test body [] c.env) ((model c.P c.w).den (.whileLoop test body [] c.env)) _ s from loop m0 n i s0 s Hw σ H a w0
  intro m
  induction m using Nat.strongRecOn with
  | ind m ih =>
    intro n i s0 s Hw σ H a w
    refine seg_whileLoop ?_
    rw [(G.loop rfl rfl).over]
    refine wpAny_mono ((hc s0 Hw).run ip s σ H _ a.inv (turn m i Hw σ H w)) (fun b s' hb' => ?_) fun x s' hx => hx.elim
    obtain ⟨H2, I2, q⟩ := hb'
    have a2 : GAt c g R n i s0 Hw ip σ H2 s' := ⟨a.cnt, a.rdy, a.sz, a.low, I2⟩
    cases b with
    | false =>
      rw [if_neg Bool.false_ne_true] at q ⊢
      exact seg_execs_nil (seg_leaf (.ok .next) (k n i s0 Hw σ H2 s' .next a2 q))
    | true =>
      rw [if_pos rfl] at q ⊢
      obtain ⟨Nx, hN, q⟩ := q
      refine hb.run A R ip n i s0 s' Hw _ _ _ _ id id σ H2 _ (G.loop rfl rfl) a2 (fun n' i' s0' Hw' σ' H' s3 f z hf => ?_) q
      cases f with
      | next =>
        obtain ⟨m', hm, w'⟩ := hN i' Hw' σ' H' hf
        exact seg_again rfl (ih m' hm n' i' s0' s3 Hw' σ' H' z w')
      | cont =>
        obtain ⟨m', hm, w'⟩ := hN i' Hw' σ' H' hf
        exact seg_again rfl (ih m' hm n' i' s0' s3 Hw' σ' H' z w')
      | brk => exact seg_leaf (.ok .next) (k n' i' s0' Hw' σ' H' s3 .next z hf)
      | ret u => exact hf.elim
/-! ### for -/
def tGzF (wi : TI) (tg : TG) (tb : TGz) : TGz := fun D i Hw σ H => wi σ H fun J H1 => ∃ W : Nat → Nat → Nat → Hp → L2.St → Hp → Prop, (∃ m, W 0 m i Hw σ H1) ∧ ∀ j m i Hw σ H, W j m i Hw σ H →
  (J.stop j H ∧ D.nx i Hw σ H) ∨ (J.go j H ∧ ∃ Nx : Nat → Hp → L2.St → Hp → Prop, (∀ i' Hw' σ' H', Nx i' Hw' σ' H' → ∃ m', m' < m ∧ W (j + 1) m' i' Hw' σ' H') ∧ ∀ x H', J.yld j H x H' → tg x σ H' fun σ2 H2 => tb ⟨Nx, D.nx, Nx⟩ i Hw σ2 H2)
theorem GAt.fp {R : Rdy} {n i : Nat} {s0 s : Shared} {Hw H : Hp} {ip : List (Addr × Obj)} {σ : L2.St} (a : GAt c g R n i s0 Hw ip σ H s) {b : Addr} (h : H b = none) (h2 : b ≠ c.n0) (h3 : b ∉ frs c.outer) (h4 : c.n0 ≤ b) (h5 : c.env.cells = []) (h6 : ∀ p ∈ c.pn ++ ip, p.1 ≠ b) : FpOk (c.X s0 Hw) ip H b := by
  refine ⟨h, h2, h3, .inr ?_, fun x d q => ?_, h6⟩
  · show (cutS c.n0 s0).heap.objs.size ≤ b
    rw [cut_size (Nat.le_of_lt a.sz)]; exact h4
  · have q : c.env.cells.lookup x = some d := q
    rw [h5] at q; cases q
theorem gz_for {iter tgt : Expr} {body : List Stmt} {pos : Pos} {wi : TI} {tg : TG} {tb : TGz} (hi : ∀ s0 H0, PI (c.X s0 H0) tgt iter wi) (hg : ∀ s0 H0, PG (c.X s0 H0) tgt tg) (hb : GSzs c g body tb)
    (hs : ∀ x, foldedSetIterable iter c.env x = pure x := by intro _; rfl) : GSz c g (.For tgt iter body [] pos) (tGzF wi tg tb) := by
  refine ⟨fun A R ip n i s0 s Hw code fs K J gd lv σ H D G a k ht => ?_⟩
  rw [exec_For]
  refine seg_bind_wrap (wpAny_standAt ?_)
  refine seg_bind_wrap ?_
  rw [G.over]
  refine wpAny_mono ((hi s0 Hw).run ip s σ H _ a.inv ht) (fun v s1 h1 => ?_) fun x s' hx => hx.elim
  refine seg_bind_wrap (wpAny_of_eq (hs v) ?_)
  refine seg_bind_wrap (wpAny_standAt ?_)
  refine seg_bind_wrap (wpAny_holding ?_)
  rw [G.over]
  refine wpAny_mono h1 (fun itv s2 h2 => ?_) fun x s' hx => hx.elim
  obtain ⟨it, fp, tn, J2, H2, rfl, I2, T, st2, f2, W, ⟨m0, w0⟩, turn⟩ := h2
  have low : ∀ b ∈ fp, b ≠ c.n0 ∧ b ∉ frs c.outer ∧ c.n0 ≤ b ∧ ∀ p ∈ c.pn ++ ip, p.1 ≠ b := fun b hb' => by
    obtain ⟨_, q1, q2, q3, _, q5⟩ := f2 b hb'
    refine ⟨q1, q2, ?_, q5⟩
    rcases q3 with q | q
    · cases q
    · have q : (cutS c.n0 s0).heap.objs.size ≤ b := q
      rw [cut_size (Nat.le_of_lt a.sz)] at q
      exact q
  refine seg_call fun p => ?_
  suffices loop : ∀ (m j n i : Nat) (s0 s : Shared) (Hw : Hp) (σ : L2.St) (H : Hp), GAt c g R n i s0 Hw ip σ H s → tn j s.heap → (∀ b ∈ fp, H b = none) → W j m i Hw σ H →
      Seg (model c.P c.w) A (RG c g R) (YG c g R) n s0 (.forLoop tgt (.ref it) body [] c.env) ((model c.P c.w).den (.forLoop tgt (.ref it) body [] c.env)) _ s from
    loop m0 0 n i s0 s2 Hw σ H2 ⟨a.cnt, a.rdy, a.sz, a.low, I2⟩ st2 (fun b hb' => (f2 b hb').1) w0
  intro m
  induction m using Nat.strongRecOn with
  | ind m ih =>
    intro j n i s0 s Hw σ H a st fr w
    have G2 := fun (kk : Result → Sem PySem.Fin) => G.loop (kk := kk) (code' := .forLoop tgt (.ref it) body [] c.env) (l := lv []) (kp := []) (p := p) rfl rfl
    have fpk : ∀ b ∈ fp, FpOk (c.X s0 Hw) ip H b := fun b hb' => by
      obtain ⟨q1, q2, q3, q4⟩ := low b hb'
      exact a.fp (fr b hb') q1 q2 q3 G.cells q4
    show Seg _ _ _ _ _ _ _ ((forTurn tgt (.ref it) body [] c.env).onRaise (fun x => do noteFrame x c.env; theTreesLotGoes x)) _ _
    rw [Sem.onRaise_eq_wrap]
    unfold forTurn
    refine seg_bind_wrap (wpAny_standAt ?_)
    refine seg_bind_wrap (wpAny_onRaise ?_)
    rw [(G2 _).over]
    rcases turn j m i Hw σ H w with ⟨stop, qn⟩ | ⟨go, Nx, hN, step⟩
    · refine wpAny_mono (T.done (c.X s0 Hw) rfl rfl rfl rfl j ip s σ H (fun _ _ => False) a.inv fpk st stop) (fun r s3 h3 => ?_) fun x s' hx => hx.elim
      obtain ⟨rfl, I3⟩ := h3
      refine seg_again (c' := .block [] c.env) rfl ?_
      exact seg_leaf (.ok .next) (k n i s0 Hw σ H s3 .next ⟨a.cnt, a.rdy, a.sz, a.low, I3⟩ qn)
    · refine wpAny_mono (T.item (c.X s0 Hw) rfl rfl rfl rfl j ip s σ H (fun _ _ => False) a.inv fpk st go) (fun r s3 h3 => ?_) fun x s' hx => hx.elim
      obtain ⟨u, rfl, h3⟩ := h3
      refine seg_bind_wrap ?_
      rw [(G2 _).over]
      refine wpAny_mono h3 (fun _ s4 h4 => ?_) fun x s' hx => hx.elim
      obtain ⟨x, H4, I4, r4, y4, st4, fr4⟩ := h4
      have a4 : GAt c g R n i s0 Hw ip σ H4 s4 := ⟨a.cnt, a.rdy, a.sz, a.low, I4⟩
      have fpk4 : ∀ b ∈ fp, FpOk (c.X s0 Hw) ip H4 b := fun b hb' => by
        obtain ⟨q1, q2, q3, q4⟩ := low b hb'
        exact a4.fp (fr4 b hb') q1 q2 q3 G.cells q4
      have I4' := I4.pinned fpk4 (T.obj _ _ st4)
      refine seg_bind_wrap ?_
      rw [(G2 _).over]
      refine wpAny_mono ((hg s0 Hw).run _ s4 σ H4 x u _ I4' r4 (step x H4 y4)) (fun _ s5 h5 => ?_) fun x s' hx => hx.elim
      obtain ⟨σ5, H5, I5, q5⟩ := h5
      rw [Sem.bind_eq_wrap', Sem.wrap_wrap]
      refine hb.run A R (ip ++ pinsAt fp s4.heap) n i s0 s5 Hw _ _ _ _ _ _ σ5 H5 _ ⟨(G2 _).over, (G2 _).split, (G2 _).guard, rfl, G.cells⟩ ⟨a.cnt, a.rdy, a.sz, fun p hp => ?_, I5⟩ (fun n' i' s0' Hw' σ' H' s6 f z hf => ?_) q5
      · rcases List.mem_append.mp hp with hp | hp
        · exact a.low p hp
        · exact (low p.1 (of_pinsAt hp).1).2.2.1
      have z2 : GAt c g R n' i' s0' Hw' ip σ' H' s6 := ⟨z.cnt, z.rdy, z.sz, a.low, z.inv.unpinned⟩
      have stay : ∀ b ∈ fp, ∀ o, s4.heap.get? b = some o → s6.heap.get? b = some o ∧ H' b = none := fun b hb' o e => by
        obtain ⟨q1, q2, _⟩ := z.inv.pin (b, o) (List.mem_append_right _ (List.mem_append_right _ (mem_pinsAt hb' e)))
        exact ⟨q1, q2⟩
      have again : Nx i' Hw' σ' H' → Seg (model c.P c.w) A (RG c g R) (YG c g R) n' s0' (.forLoop tgt (.ref it) body [] c.env) ((model c.P c.w).den (.forLoop tgt (.ref it) body [] c.env)) _ s6 := fun hN' => by
        obtain ⟨m', hm, w'⟩ := hN i' Hw' σ' H' hN'
        exact ih m' hm (j + 1) n' i' s0' s6 Hw' σ' H' z2 (T.keep _ _ _ st4 fun b hb' o e => (stay b hb' o e).1) (fun b hb' => by
          obtain ⟨o, e, _⟩ := T.obj _ _ st4 b hb'
          exact (stay b hb' o e).2) w'
      cases f with
      | next => exact seg_again rfl (again hf)
      | cont => exact seg_again rfl (again hf)
      | brk => exact seg_leaf (.ok .next) (k n' i' s0' Hw' σ' H' s6 .next z2 hf)
      | ret u => exact hf.elim
end
/-! ### the call of a generator def -/
/-- what such a def promises, by its arguments and the heap -/
abbrev SpZ := List V → Hp → GPar → Prop
/-- a generator that has not begun -/
def GMz (P : Program) (w : World) (K : PySem.W.Frag) (mg : Str → Option Value) (base : Heap) (k : Nat) (outer : List Env) (H : Hp) (s : Shared) (g : GPar) (u : Value) (s' : Shared) : Prop :=
  ∃ (a : Addr) (gi : Nat) (code : Code) (N : List Str) (qual : Str) (scope : Scope) (f : Addr) (cd : Value) (go : Obj), u = .ref a ∧ s.heap.objs.size < a ∧ s'.heap.IsGen a gi ∧ s'.gens[gi]? = some (.fresh code) ∧ s'.os = s.os ∧ AllBare s'.gens ∧ (∀ b o, s.heap.get? b = some o → s'.heap.get? b = some o) ∧
    H s.heap.objs.size = none ∧ s'.heap.get? a = some go ∧ H a = none ∧ (envOfC qual scope s.heap.objs.size f cd).cells = [] ∧
    ∀ (A : Around) (R : Rdy) (s2 : Shared), Room k A → A.frames = some outer → WakeOk ⟨P, w, K, mg, base, N, qual, scope, f, cd, A, outer, s.heap.objs.size, [(a, go)]⟩ [] s' H s2 → R 0 H s2 →
      Seg (model P w) A (RG ⟨P, w, K, mg, base, N, qual, scope, f, cd, A, outer, s.heap.objs.size, [(a, go)]⟩ g R) (YG ⟨P, w, K, mg, base, N, qual, scope, f, cd, A, outer, s.heap.objs.size, [(a, go)]⟩ g R) (g.n + 1) s2 code ((model P w).den code) [] s2
structure GFz (P : Program) (w : World) (K : PySem.W.Frag) (mg : Str → Option Value) (base : Heap) (k : Nat) (f : Addr) (fd : FuncData) (ps : List Str) (sp : SpZ) : Prop where
  len : ∀ vs H g, sp vs H g → vs.length = ps.length
  run : ∀ (A : Around) (outer : List Env) (s : Shared) (H : Hp) (args : Args) (us : List Value) (vs : List V) (g : GPar), Room k A → Env0 P w K mg base A outer s H → BindsTo s fd args (ps.zip us) → Vals vs us → sp vs H g →
    codeAny (model P w) A (.call (.ref f) args) (fun r s' => match r with | .ok (.ret u) => GMz P w K mg base k outer H s g u s' | _ => False) s
/-- THE RULE: a generator def, by its body -/
theorem gfz_of {P : Program} {w : World} {K : PySem.W.Frag} {mg : Str → Option Value} {base : Heap} {k : Nat} {f : Addr} {name qual : Str} {params : Arguments} {body : List Stmt} {scope : Scope} {dV kV doc pm cdv ct oc : Value} {an od : Option Addr}
    {osl : Array (Option Value)} {N ps : List Str} {sp : SpZ} (lk : K.lookup f = some ⟨oc, od, .func (PySem.W.fnOf name qual params body scope dV kV doc pm an cdv ct), osl⟩) (hcd : PySem.W.codeIn K cdv qual = true) (S : GScope N ps scope) (hcl : ∀ n, cellsFrom (n + 1) scope.names [] = [])
    (len : ∀ vs H g, sp vs H g → vs.length = ps.length)
    (hbody : ∀ (A : Around) (outer : List Env) (n0 : Nat) (pn : List (Addr × Obj)) (H : Hp) (vs : List V) (g : GPar), Room k (A.deeper (envOfC qual scope n0 f cdv)) → sp vs H g →
      ∃ t, GSzs ⟨P, w, K, mg, base, N, qual, scope, f, cdv, A, outer, n0, pn⟩ g body t ∧ t { nx := fun i Hw _ H' => i = g.n ∧ Ex Hw H' } 0 H (start N vs) H) :
    GFz P w K mg base (k + 1) f (PySem.W.fnOf name qual params body scope dV kV doc pm an cdv ct) ps sp := by
  refine ⟨len, fun A outer s H args us vs g hr e0 hb r hsp => ?_⟩
  have hlen := len _ _ _ hsp
  have kin : K.In s.heap := e0.mod.kin.keeps fun b o q => (e0.bs b o q).1
  have nolim : s.heap.NoLimit := e0.mod.nolimit.keeps fun b o q => (e0.bs b o q).1
  have par : ∀ y ∈ ps.zip us, scope.names.lookup y.1 = some .local ∨ (scope.names.lookup y.1 = some .cell ∧ ((cellsFrom (s.heap.objs.size + 1) scope.names []).lookup y.1).isSome = true) := by
    rintro ⟨y, v⟩ hy
    rcases S.par y (List.of_mem_zip hy).1 with q | q
    · exact .inl q
    · exact .inr ⟨q, PySem.W.cellsFrom_some _ _ _ (.inl q)⟩
  refine codeAny_call_generator hr.depth (kin _ _ lk) rfl S.co S.gen rfl (PySem.W.codeRec_of kin hcd) (hb _ _ _ _ ?_)
  refine wpAny_newFunctionEnv_cells S.kind par fun env he s1 x => ?_
  subst he
  refine ⟨nolim.keeps x.toInCall.keep, ?_⟩
  obtain ⟨h1, tk, es1, _⟩ := x.done
  have eos : s1.os = s.os := by rw [es1]
  have egen : s1.gens = s.gens := by rw [es1]
  have lt1 : s.heap.objs.size < s1.heap.objs.size := x.toInCall.ns.lt
  have kp : ∀ b o, s.heap.get? b = some o → s1.heap.get? b = some o := x.toInCall.keep
  have fin : ∀ (go : Obj) (v1 v2 : Value) (tk2 : Nat), go.cls = .type "generator" → go.data = .fields #[.int s1.gens.size 0, v1, v2] → go.slots = #[] → (∀ h : Heap, (h.push go).get? h.objs.size = some go) →
      GMz P w K mg base (k + 1) outer H s g (.ref s1.heap.objs.size) { s1 with gens := s1.gens.push (.fresh (.func body (envOfC qual scope s.heap.objs.size f cdv))), toks := tk2, heap := s1.heap.push go } := by
    intro go v1 v2 tk2 g1 g2 g3 g4
    have here : (s1.heap.push go).get? s1.heap.objs.size = some go := g4 _
    have kp2 : ∀ b o, s1.heap.get? b = some o → (s1.heap.push go).get? b = some o := fun b o e => Heap.get?_push_of_some _ e
    have kp3 : ∀ b o, s.heap.get? b = some o → (s1.heap.push go).get? b = some o := fun b o e => kp2 b o (kp b o e)
    have hcl' : (envOfC qual scope s.heap.objs.size f cdv).cells = [] := hcl _
    have fr1 : H s.heap.objs.size = none := e0.hok.fresh (Nat.le_refl _)
    have fr2 : H s1.heap.objs.size = none := e0.hok.fresh (Nat.le_of_lt lt1)
    have bare2 : AllBare (s1.gens.push (.fresh (.func body (envOfC qual scope s.heap.objs.size f cdv)))) := AllBare.push (by rw [egen]; exact e0.bare) rfl
    refine ⟨s1.heap.objs.size, s1.gens.size, _, N, qual, scope, f, cdv, go, rfl, lt1, ⟨go, v1, v2, here, g1, g2, g3⟩, Array.getElem?_push_size .., eos, bare2, kp3, fr1, here, fr2, hcl', ?_⟩
    intro Aw R s2 hrw hfr ww hR
    have e0w : Env0 P w K mg base Aw outer s H := ⟨hfr, e0.mod, e0.bs, e0.bsz, e0.funs, e0.frf, e0.hok, e0.bare⟩
    have I1 : L2.Inv (gcxOf P w K mg base N qual scope f cdv Aw outer s H E0 []) [] (start N vs) H s1 := inv_startG S hrw.hd e0w hlen r x
    have frl : ∀ b ∈ frs outer, b < s.heap.objs.size := fun b hb' => by
      obtain ⟨_, o, ho, _⟩ := e0.funs.mem hb'
      exact Heap.lt_size ho
    have nocell : ∀ {x : Str} {b : Addr}, (envOfC qual scope s.heap.objs.size f cdv).cells.lookup x = some b → False := fun {x b} h => by rw [hcl'] at h; cases h
    have hsz : (cutS s.heap.objs.size { s1 with gens := s1.gens.push (.fresh (.func body (envOfC qual scope s.heap.objs.size f cdv))), toks := tk2, heap := s1.heap.push go }).heap.objs.size = s.heap.objs.size := cut_size (by
      show s.heap.objs.size ≤ (s1.heap.push go).objs.size
      rw [Heap.size_push]; omega)
    have I0 : L2.Inv (GCx.X ⟨P, w, K, mg, base, N, qual, scope, f, cdv, Aw, outer, s.heap.objs.size, [(s1.heap.objs.size, go)]⟩ { s1 with gens := s1.gens.push (.fresh (.func body (envOfC qual scope s.heap.objs.size f cdv))), toks := tk2, heap := s1.heap.push go } H) [] (start N vs) H
        { s1 with gens := s1.gens.push (.fresh (.func body (envOfC qual scope s.heap.objs.size f cdv))), toks := tk2, heap := s1.heap.push go } := by
      refine ⟨{
        mod := e0.mod
        kind := I1.ok.kind
        glob := I1.ok.glob
        blt := I1.ok.blt
        above := Nat.le_of_eq hsz
        inj := fun x y b h _ => (nocell h).elim
        has := I1.ok.has
        cab := fun x b _ h => (nocell h).elim
        hd := I1.ok.hd
        frames := I1.ok.frames
        stk := I1.ok.stk
        exf := fun b z => nomatch z
        bs := fun b o e => ⟨(cut_lt (Nat.lt_of_lt_of_le (Heap.lt_size e) e0.bsz)).trans (kp3 b o (e0.bs b o e).1), (e0.bs b o e).2⟩
        bsz := Nat.le_trans e0.bsz (Nat.le_of_eq hsz.symm)
        noex := fun b o _ z => nomatch z
        exfs := fun b z => nomatch z
        funs := cut_frames (e0.funs.of_keeps fun b o e _ => ⟨o, kp3 b o e, rfl⟩) frl
        frf := e0.frf }, rfl, bare2, Un.kept fun b o e => (cut_some e).1, ?_, fun x b h => (nocell h).elim, fr1, fun x b h => (nocell h).elim, fun p hp => ?_, e0.hok.kept kp3, I1.len⟩
      · obtain ⟨m, ⟨o, es, ep, ho, rr⟩, hl⟩ := I1.loc
        refine ⟨m, ⟨o, es, ep, kp2 _ o ho, rr⟩, fun i y v q1 q2 q3 => ?_⟩
        obtain ⟨u, ru, z⟩ := hl i y v q1 q2 q3
        refine ⟨u, ru, ?_⟩
        rcases z with z | ⟨_, b, z, _⟩
        · exact .inl z
        · exact (nocell z).elim
      · have hp : p ∈ [(s1.heap.objs.size, go)] ++ [] := hp
        rw [List.append_nil] at hp
        rw [List.mem_singleton.mp hp]
        exact ⟨here, fr2, Nat.ne_of_gt lt1, fun z => absurd (Nat.lt_trans (frl _ z) lt1) (Nat.lt_irrefl _), fun v q => by rw [g2] at q; cases q⟩
    have I2 := rebase (c := ⟨P, w, K, mg, base, N, qual, scope, f, cdv, Aw, outer, s.heap.objs.size, [(s1.heap.objs.size, go)]⟩) hcl' I0 ww
    obtain ⟨t, ht, hq⟩ := hbody Aw outer s.heap.objs.size [(s1.heap.objs.size, go)] H vs g (hrw.deeper _) hsp
    have hz : s.heap.objs.size < s2.heap.objs.size := by
      obtain ⟨m, ⟨oL, _, _, hoL, _⟩, _⟩ := I2.loc
      exact Heap.lt_size hoL
    refine seg_func ?_
    refine ht.run Aw R [] (g.n + 1) 0 s2 s2 H _ [] _ _ id id (start N vs) H _ ⟨over_func, rfl, rfl, rfl, hcl'⟩ ⟨rfl, hR, hz, fun p hp => (by cases hp), I2⟩ (fun n' i' s0' Hw' σ' H' s6 f' z hf => ?_) hq
    cases f' with
    | next =>
      obtain ⟨z1, z2⟩ := hf
      have z3 := z.cnt
      exact seg_end (.ok (.ret .none)) ⟨rfl, [], σ', H', Hw', by omega, by rw [← z1]; exact z.rdy, z.sz, z.inv, z2⟩
    | brk => exact hf.elim
    | cont => exact hf.elim
    | ret u => exact hf.elim
  exact fin _ _ _ _ rfl rfl rfl fun h => Heap.get?_push_size _ rfl
end Z
namespace Z
open PySem PySem.Spec PyProof.Rows GenW
open L2
/-! ### for x in g(..) -/
/-- an exception's place is not told by the generators that sleep -/
def XeOk (X : Cx) : Prop := ∀ (e : Value) (s0 u s : Shared), AllBare s0.gens → Sim (slp s0) u s → X.xe e u → X.xe e s
abbrev TZe := L2.St → Hp → (GPar → Hp → Prop) → Prop
/-- an expression whose value is a generator that has not begun -/
structure PGz (X : Cx) (k : Nat) (e : Expr) (tg : TZe) : Prop where
  run : ∀ (pins : List (Addr × Obj)) (s : Shared) (σ : L2.St) (H : Hp) (cont : GPar → Hp → Prop), L2.Inv X pins σ H s → tg σ H cont → wpAny (model X.prog X.w) X.A (eval e X.env)
    (fun u s' => ∃ H1 sc g, L2.Inv X pins σ H1 sc ∧ GMz X.prog X.w X.K X.mg X.base k X.stack H1 sc g u s' ∧ cont g H1) X.xe s
def nrm (s : Shared) : Shared := { s with gens := #[] }
theorem yg_mono {c : GCx} {g : GPar} {R : Rdy} {n : Nat} {s0 s : Shared} {v : Value} {kap kap' : Resume → Shared → Prop} (h : ∀ r s', kap r s' → kap' r s') (y : YG c g R n s0 v s kap) : YG c g R n s0 v s kap' := by
  obtain ⟨i, x, ip, σ, H, Hw, y1, y2, y3, y4, y5, y6, y7, y8, y9, y10⟩ := y
  exact ⟨i, x, ip, σ, H, Hw, y1, y2, y3, y4, y5, y6, y7, y8, y9, fun s' H' a b d => ⟨h _ _ (y10 s' H' a b d).1, h _ _ (y10 s' H' a b d).2⟩⟩
theorem goes_imp {M : Model} {A : Around} {E E' : GenEnd} {c : GCx} {g : GPar} {R : Rdy} (h : ∀ n s0 r s, E n s0 r s → E' n s0 r s) {gs : GenState} {n : Nat} {r : Resume} {s : Shared} (z : gs.Goes M A E (YG c g R) n r s) : gs.Goes M A E' (YG c g R) n r s := by
  cases gs with
  | fresh q => exact ⟨z.1, seg_imp (Y := YG c g R) (Y' := YG c g R) h (fun _ _ _ _ _ _ kk => yg_mono kk) n z.2⟩
  | suspended k l q p fs cl => exact seg_imp (Y := YG c g R) (Y' := YG c g R) h (fun _ _ _ _ _ _ kk => yg_mono kk) n z
  | running => exact z
  | finished => exact z
def tForG (tg : TZe) (gt : TG) (tb : TS) : TS := fun D σ H => tg σ H fun g H1 => ∃ W : Nat → L2.St → Hp → Prop, W 0 σ H1 ∧
  (∀ i σ H, i < g.n → W i σ H → ∀ x H', Ex H H' → g.Yp i x H' → gt x σ H' fun σ2 H2 => tb ⟨fun σ3 H3 => g.rel H' H3 ∧ W (i + 1) σ3 H3, D.rt, D.nx, fun σ3 H3 => g.rel H' H3 ∧ W (i + 1) σ3 H3⟩ σ2 H2) ∧
  ∀ σ H, W g.n σ H → ∀ H', Ex H H' → D.nx σ H'
theorem ps_forG {X : Cx} {k : Nat} {tgt e : Expr} {body : List Stmt} {pos : Pos} {tg : TZe} {gt : TG} {tb : TS} (hp : PassesOwn (model X.prog X.w) X.A X.env X.xe) (hxe : XeOk X) (hc : X.calm = true) (hr : Room (k + 1) X.A) (he : PGz X k e tg) (hg : PG X tgt gt) (hb : PSs X body tb)
    (hs : ∀ x, foldedSetIterable e X.env x = pure x := by intro _; rfl) : PS X (.For tgt e body [] pos) (tForG tg gt tb) := by
  refine ⟨fun pins s σ H D I h => ?_⟩
  refine wpAny_For (thn (he.run pins s σ H _ I h) fun v s1 h1 => ?_) hs
  obtain ⟨H1, sc, g, I1, hG, W, w0, step, done⟩ := h1
  obtain ⟨a, gi, code, N, qual, scope, f, cd, go, rfl, ha, hgen, hgs, hos, hbare, hkp, hfree, hgo, hfa, hcells, wake⟩ := hG
  refine wpAny_pyIter_gen hgen ?_
  have Ic : L2.Inv X pins σ H1 s1 := I1.call' (ch := []) hos (Un.kept hkp) (I1.hok.kept hkp) hbare fun b hb' => by cases hb'
  have lo0 : X.s_0.heap.objs.size ≤ sc.heap.objs.size := I1.sz
  have loL : X.env.locals < sc.heap.objs.size := I1.lt
  have loC : ∀ x b, X.env.cells.lookup x = some b → b < sc.heap.objs.size := fun x b q => by
    obtain ⟨v, o, ho, _⟩ := I1.cell x b q
    exact Heap.lt_size ho
  have loP : ∀ p ∈ X.pn ++ pins, p.1 < sc.heap.objs.size := fun p q => Heap.lt_size (I1.pin p q).1
  have loF : ∀ b ∈ frs X.stack, b < sc.heap.objs.size := fun b q => by
    obtain ⟨_, o, ho, _⟩ := I1.env0.funs.mem q
    exact Heap.lt_size ho
  have loX : ∀ b ∈ X.fs, b < sc.heap.objs.size := fun b q => by
    obtain ⟨_, o, ho, _⟩ := I1.ok.funs.mem q
    exact Nat.lt_of_lt_of_le (Heap.lt_size ho) lo0
  obtain ⟨oG, nm, qn, hoG, hcG, hdG, hsG⟩ := id hgen
  rw [hgo] at hoG
  cases hoG
  generalize hn0 : sc.heap.objs.size = n0 at *
  let R : Rdy := fun i H' s' => ∃ σ', L2.Inv X pins σ' H' (nrm s') ∧ W i σ' H'
  have env0 : ∀ {σ' : L2.St} {H' : Hp} {s' : Shared} {pins' : List (Addr × Obj)}, L2.Inv X pins' σ' H' s' → Env0 X.prog X.w X.K X.mg X.base X.A.in1 X.stack (s'.setGen gi .running) H' := fun {σ' H' s' pins'} J => by
    have e := J.env0
    exact ⟨e.frames, e.mod, e.bs, e.bsz, e.funs, e.frf, e.hok, allBare_setGen e.bare rfl⟩
  let F : Nat → Shared → Shared → Prop := fun n s0 s => ∃ ip σ H Hw, n = 1 ∧ R g.n Hw s0 ∧ n0 < s0.heap.objs.size ∧ L2.Inv (GCx.X ⟨X.prog, X.w, X.K, X.mg, X.base, N, qual, scope, f, cd, X.A.in1, X.stack, n0, [(a, go)]⟩ s0 Hw) ip σ H s ∧ Ex Hw H
  let RE : GenEnd := fun n s0 r s => ((r = .ok (.ret .none) ∨ r = .ok .next) ∧ F n s0 s) ∨ ∃ e : Value, r = .error e ∧ False
  let LI : Nat → Shared → Prop := fun m s => ∃ i σ H, m + i = g.n ∧ L2.Inv X pins σ H s ∧ W i σ H ∧ s.heap.IsGen a gi ∧ ∃ gs, s.gens[gi]? = some gs ∧
    gs.Goes (model X.prog X.w) X.A.in1 RE (YG ⟨X.prog, X.w, X.K, X.mg, X.base, N, qual, scope, f, cd, X.A.in1, X.stack, n0, [(a, go)]⟩ g R) (m + 1) (.send .none) (s.setGen gi .running)
  have init : LI g.n s1 := by
    refine ⟨0, σ, H1, rfl, Ic, w0, hgen, .fresh code, hgs, goes_imp (E := RG ⟨X.prog, X.w, X.K, X.mg, X.base, N, qual, scope, f, cd, X.A.in1, X.stack, n0, [(a, go)]⟩ g R) (fun n s0 r s z => .inl ⟨.inl z.1, z.2⟩) (gs := .fresh code) ⟨rfl, ?_⟩⟩
    refine wake X.A.in1 R (s1.setGen gi .running) hr.in1 I1.ok.frames ⟨env0 Ic, rfl, fun o q => q, hfree, fun p hp => ?_⟩ ⟨σ, Ic.gens rfl rfl (fun y hy => by simp [nrm] at hy), w0⟩
    have hp : p ∈ [(a, go)] ++ [] := hp
    rw [List.append_nil] at hp
    rw [List.mem_singleton.mp hp]
    exact ⟨hgo, hfa⟩
  refine codeAny_forLoop_any LI ?_ g.n init
  rintro m s3 ⟨i, σ3, H3, hmi, I3, w3, hg3, gs, hgs3, hgo3⟩
  have hgl : gi < s3.gens.size := (Array.getElem?_eq_some_iff.mp hgs3).1
  -- the consumer's frame behind a turn of the generator
  have turn2 : ∀ {ip : List (Addr × Obj)} {σ' σg : L2.St} {Hw Hg : Hp} {s4 : Shared}, L2.Inv X pins σ' Hw s3 → L2.Inv (GCx.X ⟨X.prog, X.w, X.K, X.mg, X.base, N, qual, scope, f, cd, X.A.in1, X.stack, n0, [(a, go)]⟩ (s3.setGen gi .running) Hw) ip σg Hg s4 → L2.Inv X pins σ' Hg s4 := fun {ip σ' σg Hw Hg s4} I J => by
    have old : ∀ b o, s3.heap.get? b = some o → b ∉ (List.range s3.heap.objs.size).filter (fun b => decide (n0 ≤ b)) → b < n0 := fun b o q hx => by
      refine Nat.lt_of_not_le fun z => hx (List.mem_filter.mpr ⟨List.mem_range.mpr (Heap.lt_size q), by simpa using z⟩)
    have noex : ∀ b : Addr, b ∉ ([] : List Addr) := fun b z => by cases z
    have cut : ∀ b o, s3.heap.get? b = some o → b ∉ (List.range s3.heap.objs.size).filter (fun b => decide (n0 ≤ b)) → (cutS n0 (s3.setGen gi .running)).heap.get? b = some o := fun b o q hx => (cut_lt (old b o q hx)).trans q
    refine I.call' (ch := (List.range s3.heap.objs.size).filter fun b => decide (n0 ≤ b)) J.os ⟨fun b o q hn hf hx => J.base.keep b o (cut b o q hx) hn hf (noex b), fun b o q hn hf hx => J.base.slot b o (cut b o q hx) hn hf (noex b), fun b o q hn hx => J.base.free b o (cut b o q hx) hn (noex b), fun b o q hx => J.base.there b o (cut b o q hx) (noex b), J.base.tups, J.base.frzs, J.base.tbls⟩ J.hok J.bare fun b hb' => ?_
    have hn : n0 ≤ b := by simpa using (List.mem_filter.mp hb').2
    exact ⟨.inr (Nat.le_trans lo0 hn), fun z => absurd (Nat.lt_of_lt_of_le loL hn) (by rw [z]; exact Nat.lt_irrefl _), fun x d q z => absurd (Nat.lt_of_lt_of_le (loC x d q) hn) (by rw [z]; exact Nat.lt_irrefl _), fun p hp z => absurd (Nat.lt_of_lt_of_le (loP p hp) hn) (by rw [z]; exact Nat.lt_irrefl _)⟩
  refine wpAny_passesOwn hp (wpAny_gsz (n := gi + 1) hgl (next_genG (A := X.A) (F := F) (Er := fun _ _ => False) (n := m + 1) (I3.ok.hd hc) I3.nolimit hr.depth hg3 hgs3 hgo3 (fun v s4 gs4 hb4 hv => ?_) (fun s4 h4 h' hk => ?_) fun e s4 z => z.elim))
  · intro hsz
    obtain ⟨i', x, ip, σg, Hg, Hw, cnt, hlt, rv, ⟨σ', I', w'⟩, hz, lowp, Ig, ex, yp, kp⟩ := hv
    have ei : i' = i := by omega
    subst ei
    obtain ⟨m, rfl⟩ : ∃ m', m = m' + 1 := ⟨m - 1, by omega⟩
    have I2 : L2.Inv X pins σ' Hw s3 := I'.gens rfl rfl I3.bare
    have I4 : L2.Inv X pins σ' Hg (s4.setGen gi gs4) := (turn2 I2 Ig).gens rfl rfl (allBare_setGen Ig.bare hb4)
    have hsz4 : gi < s4.gens.size := by
      have q : (s4.setGen gi gs4).gens.size = s4.gens.size := setGen_size _ _ _
      have hsz' : gi + 1 ≤ (s4.setGen gi gs4).gens.size := hsz
      omega
    have gat4 : (s4.setGen gi gs4).gens[gi]? = some gs4 := setGen_at hsz4
    obtain ⟨mL, ⟨oL, es, ep, hoL, hdL, hrL⟩, _⟩ := id Ig.loc
    have hoL : s4.heap.get? n0 = some oL := hoL
    have hgo4 : s4.heap.get? a = some go := (Ig.pin (a, go) (List.mem_append_left _ (List.mem_singleton.mpr rfl))).1
    have ne_of_le : ∀ b, n0 ≤ b → b ≠ X.env.locals ∧ b ∉ X.fs := fun b hb' => ⟨fun z => absurd (Nat.lt_of_lt_of_le loL hb') (by rw [z]; exact Nat.lt_irrefl _), fun z => absurd (Nat.lt_of_lt_of_le (loX b z) hb') (Nat.lt_irrefl _)⟩
    have Ip : L2.Inv X (pins ++ ((n0, oL) :: (a, go) :: ip)) σ' Hg (s4.setGen gi gs4) := by
      refine I4.pins_of fun p hp => ?_
      rcases List.mem_append.mp hp with hp | hp
      · exact I4.pin p (List.mem_append_right _ hp)
      rcases List.mem_cons.mp hp with hp | hp
      · rw [hp]
        obtain ⟨q1, q2⟩ := ne_of_le n0 (Nat.le_refl _)
        exact ⟨hoL, Ig.free, q1, q2, fun v q => by rw [hdL] at q; cases q⟩
      · have hp' : p ∈ [(a, go)] ++ ip := hp
        obtain ⟨h1, h2, _, _, h5⟩ := Ig.pin p hp'
        have h6 : n0 ≤ p.1 := by
          rcases List.mem_append.mp hp' with z | z
          · rw [List.mem_singleton.mp z]; exact Nat.le_of_lt ha
          · exact lowp p z
        obtain ⟨q1, q2⟩ := ne_of_le p.1 h6
        exact ⟨h1, h2, q1, q2, h5⟩
    have Iu : L2.Inv X (pins ++ ((n0, oL) :: (a, go) :: ip)) σ' Hg (psn (s4.setGen gi gs4)) := Ip.gens rfl rfl (bare_psn Ip.bare)
    refine go_of (s := s4.setGen gi gs4) (o := go) hgo4 hcG hdG (by decide) ?_
    refine wpAny_passesOwn hp (wpAny_mono (wpAny_sim (sim_psn (s4.setGen gi gs4)) (hg.run _ _ σ' Hg x v _ Iu rv (step i' σ' Hw hlt w' x Hg ex yp))) (fun _ s5 h5 => ?_) fun e s5 h5 => ?_)
    · obtain ⟨u5, z5, σ5, H5, I5, q5⟩ := h5
      refine wpAny_passesOwn hp (wpAny_mono (wpAny_sim z5 (hb.run _ u5 σ5 H5 _ I5 q5)) (fun fl s6 h6 => ?_) fun e s6 h6 => ?_)
      · obtain ⟨u6, z6, q6⟩ := h6
        have real : ∀ {σ7 : L2.St} {H7 : Hp}, L2.Inv X (pins ++ ((n0, oL) :: (a, go) :: ip)) σ7 H7 u6 → L2.Inv X (pins ++ ((n0, oL) :: (a, go) :: ip)) σ7 H7 s6 := fun J => J.gens z6.heap.symm z6.os.symm (z6.bare Ip.bare J.bare)
        have again : ∀ {σ7 : L2.St} {H7 : Hp}, L2.Inv X (pins ++ ((n0, oL) :: (a, go) :: ip)) σ7 H7 u6 → g.rel Hg H7 ∧ W (i' + 1) σ7 H7 → ∃ m', m' < m + 1 ∧ LI m' s6 := fun {σ7 H7} J0 h => by
          have J := real J0
          have J1 : L2.Inv X pins σ7 H7 s6 := J.unpinned
          have pk : ∀ p, p ∈ ((n0, oL) :: (a, go) :: ip) → s6.heap.get? p.1 = some p.2 ∧ H7 p.1 = none := fun p hp => by
            obtain ⟨q1, q2, _⟩ := J.pin p (List.mem_append_right _ (List.mem_append_right _ hp))
            exact ⟨q1, q2⟩
          have wk : WakeOk ⟨X.prog, X.w, X.K, X.mg, X.base, N, qual, scope, f, cd, X.A.in1, X.stack, n0, [(a, go)]⟩ ip s4 H7 (s6.setGen gi .running) := by
            refine ⟨env0 J, ?_, fun o q => ?_, (pk (n0, oL) List.mem_cons_self).2, fun p hp => pk p (List.mem_cons_of_mem _ hp)⟩
            · have e1 : s6.os = X.s_0.os := J.os
              have e2 : s4.os = X.s_0.os := I4.os
              exact e1.trans e2.symm
            · have q : s4.heap.get? n0 = some o := q
              rw [hoL] at q
              cases q
              exact (pk (n0, oL) List.mem_cons_self).1
          obtain ⟨k1, k2⟩ := kp (s6.setGen gi .running) H7 wk h.1 ⟨σ7, J1.gens rfl rfl (fun y hy => by simp [nrm] at hy), h.2⟩
          have hsus : isSusp gs4 = true := by
            cases gs4 with
            | suspended => rfl
            | fresh q => exact absurd k2.1 (by simp)
            | running => exact k2.elim
            | finished => exact k2.elim
          exact ⟨m, Nat.lt_succ_self m, i' + 1, σ7, H7, by omega, J1, h.2, ⟨go, nm, qn, (pk (a, go) (List.mem_cons_of_mem _ List.mem_cons_self)).1, hcG, hdG, hsG⟩, gs4, z6.still gat4 hsus, k1⟩
        cases fl with
        | next => obtain ⟨σ7, H7, J, q⟩ := q6; exact again J q
        | cont => obtain ⟨σ7, H7, J, q⟩ := q6; exact again J q
        | brk => obtain ⟨σ7, H7, J, q⟩ := q6; exact ⟨σ7, H7, (real J).unpinned, q⟩
        | ret u => obtain ⟨v7, σ7, H7, J, r7, q⟩ := q6; exact ⟨v7, σ7, H7, (real J).unpinned, r7, q⟩
      · obtain ⟨u6, z6, q6⟩ := h6
        exact hxe e _ u6 s6 Ip.bare z6 q6
    · obtain ⟨u5, z5, q5⟩ := h5
      exact hxe e _ u5 s5 Ip.bare z5 q5
  · intro hsz
    obtain ⟨ip, σg, H, Hw, hm, ⟨σ', I', w'⟩, hz, Ig, ex⟩ := h4
    have I2 : L2.Inv X pins σ' Hw s3 := I'.gens rfl rfl I3.bare
    have I4 := turn2 I2 Ig
    have I5 : L2.Inv X pins σ' H { s4.setGen gi .finished with heap := h' } := (I4.kept (t' := s4.toks) hk).gens rfl rfl (allBare_setGen (s := s4) Ig.bare rfl)
    exact wpAny_execs_nil ⟨σ', H, I5, done σ' Hw w' H ex⟩
theorem xe_nox {X : Cx} : XeOk X.nox := fun _ _ _ _ _ _ h => h.elim
theorem cx_sim {P : Program} {w : World} {outer : List Env} {H : Hp} {s : Shared} {E : XK} {e : Value} {s0 u r : Shared} (h0 : AllBare s0.gens) (z : Sim (slp s0) u r) (h : L2.CX P w outer H s E e u) : L2.CX P w outer H s E e r := by
  obtain ⟨a, B, H', cls, d, h1, h2, h3, h4, h5, h6, h7, h8⟩ := h
  exact ⟨a, B, H', cls, d, h1, by rw [← z.heap]; exact h2, h3, by rw [← z.heap]; exact h4, h5, by rw [← z.os]; exact h6, z.bare h0 h7, h8⟩
theorem xe_cx {P : Program} {w : World} {K : PySem.W.Frag} {mg : Str → Option Value} {base : Heap} {N : List Str} {qual : Str} {scope : Scope} {f : Addr} {cd : Value} {A : Around} {outer : List Env} {s : Shared} {H : Hp} {E : XK} : XeOk (cxOf (L2.CX P w) P w K mg base N qual scope f cd A outer s H E) := fun e s0 u r h0 z h =>
  wpAny_mono (wpAny_sim z h) (fun _ r' ⟨u', z', q⟩ => cx_sim h0 z' q) fun _ r' ⟨u', z', q⟩ => cx_sim h0 z' q
/-! ### the def, the calls -/
theorem FunD.gz {P : Program} {w : World} {K : PySem.W.Frag} {mg : Str → Option Value} {base : Heap} {x qual : Str} {params : Arguments} {body : List Stmt} {scope : Scope} {dvs : List V} {kws : List (Str × V)} {f : Addr} {fd : FuncData} {N ps : List Str} {k : Nat} {sp : SpZ}
    (F : L2.FunD K x qual params body scope dvs kws f fd) (S : GScope N ps scope) (hcl : ∀ n, cellsFrom (n + 1) scope.names [] = []) (len : ∀ vs H g, sp vs H g → vs.length = ps.length)
    (hbody : ∀ (cdv : Value) (A : Around) (outer : List Env) (n0 : Nat) (pn : List (Addr × Obj)) (H : Hp) (vs : List V) (g : GPar), Room k (A.deeper (envOfC qual scope n0 f cdv)) → sp vs H g →
      ∃ t, GSzs ⟨P, w, K, mg, base, N, qual, scope, f, cdv, A, outer, n0, pn⟩ g body t ∧ t { nx := fun i Hw _ H' => i = g.n ∧ Ex Hw H' } 0 H (start N vs) H) : GFz P w K mg base (k + 1) f fd ps sp := by
  obtain ⟨oc, od, dV, kV, doc, pm, an, cdv, ct, osl, rfl, lk, hcd, _, _⟩ := F.ex
  exact gfz_of lk hcd S hcl len fun A outer n0 pn H vs g hr hsp => hbody cdv A outer n0 pn H vs g hr hsp
section
variable {X : Cx} {k : Nat} {f C : Addr} {fd : FuncData} {ps : List Str} {sp : SpZ} {dvs : List V} {ds : List Value} {x m : Str} {p pos pos' apos : Pos} {o : Expr} {ta : TE}
theorem run_gfz {pins : List (Addr × Obj)} {σ : L2.St} {H : Hp} {s : Shared} {us : List Value} {vs : List V} {cont : GPar → Hp → Prop} {E1 : Value → Shared → Prop} (F : GFz X.prog X.w X.K X.mg X.base k f fd ps sp) (hr : Room k X.A) (hb : Binds X.K fd ps ds) (hd : Vals dvs ds)
    (I : L2.Inv X pins σ H s) (r : Vals vs us) (h : ∃ g, sp (vs ++ dvs) H g ∧ cont g H) : wpAny (model X.prog X.w) X.A (call (.ref f) us) (fun u s' => ∃ H1 sc g, L2.Inv X pins σ H1 sc ∧ GMz X.prog X.w X.K X.mg X.base k X.stack H1 sc g u s' ∧ cont g H1) E1 s := by
  obtain ⟨g, hsp, hc⟩ := h
  have rr : Vals (vs ++ dvs) (us ++ ds) := r.append hd
  have ll : (us ++ ds).length = ps.length := rr.length.symm.trans (F.len _ _ _ hsp)
  refine wpAny_call (codeAny_mono (F.run X.A X.stack s H ⟨us, []⟩ (us ++ ds) (vs ++ dvs) g hr I.env0 (hb s us I.kIn ll) rr hsp) fun q s' hq => ?_)
  match q, hq with
  | .ok (.ret u), hq => exact ⟨H, s, g, I, hq, hc⟩
  | .ok .next, hq => exact hq.elim
  | .ok .brk, hq => exact hq.elim
  | .ok .cont, hq => exact hq.elim
  | .error e, hq => exact hq.elim
def tCallG (sp : SpZ) (dvs : List V) (t : TA) : TZe := fun σ H cont => t σ H fun vs H1 => ∃ g, sp (vs ++ dvs) H1 g ∧ cont g H1
/-- f(e, ..) of a generator def -/
theorem pgz_call {e : Expr} {es : List Expr} {t : TA} (F : GFz X.prog X.w X.K X.mg X.base k f fd ps sp) (hr : Room k X.A) (hg : Gl X x) (hm : X.mg x = some (.ref f)) (hk : PySem.W.keepIn X.K (.ref f) = true) (hb : Binds X.K fd ps ds) (hd : Vals dvs ds) (ha : PA X (e :: es) t)
    (hdb : (x == ("__debug__" : Str)) = false := by decide) (he : starEach (e :: es) X.env = (false, eval e X.env) :: starEach es X.env := by rfl) (hpl : (backTo pos' (starEach es X.env)).any (·.1) = false := by rfl) : PGz X k (.Call (.Name x p) (e :: es) [] pos') (tCallG sp dvs t) :=
  ⟨fun pins s σ H cont I h => wpAny_Call_Name_kw (ld_glob I hg hm (PySem.W.callWith_K (h₀ := X.base) I.ok.mod.kin hk (thn (ha.run pos' pins s σ H _ I h) fun us s1 hq => by
    obtain ⟨vs, H1, I1, r, q⟩ := hq
    exact ⟨I1.kIn, run_gfz F hr hb hd I1 r q⟩) he hpl) hdb)⟩
def tMethG (C : Addr) (m : Str) (sp : SpZ) (dvs : List V) (ta : TE) (t : TA) : TZe := fun σ H cont => ta σ H fun x H1 => ∃ a dx fs, x = .ref a ∧ H1 a = some (.ins C dx fs) ∧ fs.lookup m = none ∧ t σ H1 fun vs H2 => ∃ g, sp (x :: (vs ++ dvs)) H2 g ∧ cont g H2
/-- o.m() of a generator method -/
theorem pgz_meth0 {pl : Sem Bool} (he : PE X o ta) (c : Cls X.K C) (hm : Meth X.K C m f) (F : GFz X.prog X.w X.K X.mg X.base k f fd ps sp) (hr : Room k X.A) (hb : Binds X.K fd ps ds) (hd : Vals dvs ds)
    (ht : eval (.Call (.Attribute o m apos) [] [] pos') X.env = (do
      let ov ← eval o X.env
      standAt apos.atName
      let (f, first) ← holding [ov] (getMethod ov m pl)
      callWith pos' f first (backTo pos' (starEach [] X.env)) (backToKw pos' (keywordEach [] X.env))) := by rfl) : PGz X k (.Call (.Attribute o m apos) [] [] pos') (tMethG C m sp dvs ta tNil) := by
  refine ⟨fun pins s σ H cont I h => PySem.W.methodCall_KW (pl := pl) (thn (he.run pins s σ H _ I h) fun u s1 hq => ?_) ht⟩
  obtain ⟨x, H1, I1, rx, a, dx, fs, rfl, ea, l, q⟩ := hq
  obtain rfl : u = Value.ref a := rx
  exact getmeth_ok I1 ea c hm l (PySem.W.callWith_K0 (first := [.ref a]) I1.kIn hm.kp (run_gfz (us := [.ref a]) (vs := [.ref a]) F hr hb hd I1 (.cons rfl .nil) q))
end
/-! ### readings -/
def FGz (g : GPar) (gt : TG) (tb : TS) (D : Ends) (σ : L2.St) (H1 : Hp) : Prop := ∃ W : Nat → L2.St → Hp → Prop, W 0 σ H1 ∧
  (∀ i σ H, i < g.n → W i σ H → ∀ x H', Ex H H' → g.Yp i x H' → gt x σ H' fun σ2 H2 => tb ⟨fun σ3 H3 => g.rel H' H3 ∧ W (i + 1) σ3 H3, D.rt, D.nx, fun σ3 H3 => g.rel H' H3 ∧ W (i + 1) σ3 H3⟩ σ2 H2) ∧
  ∀ σ H, W g.n σ H → ∀ H', Ex H H' → D.nx σ H'
section
variable {tg : TZe} {gt : TG} {tb : TS} {D : Ends} {σ : L2.St} {H : Hp} {sp : SpZ} {dvs : List V} {t : TA} {ta : TE} {C : Addr} {m : Str} {cont : GPar → Hp → Prop} {c : GCx} {g : GPar} {i : Nat} {Hw : Hp} {te : TE} {GDe : GD}
theorem w_forG (h : tg σ H fun g H1 => FGz g gt tb D σ H1) : tForG tg gt tb D σ H := h
theorem w_callG0 (h : t σ H fun vs H1 => ∃ g, sp vs H1 g ∧ cont g H1) : tCallG sp [] t σ H cont := by
  unfold tCallG
  simp only [List.append_nil]
  exact h
theorem w_methG0 (h : ta σ H fun x H1 => ∃ a dx fs, x = .ref a ∧ H1 a = some (.ins C dx fs) ∧ fs.lookup m = none ∧ t σ H1 fun vs H2 => ∃ g, sp (x :: vs) H2 g ∧ cont g H2) : tMethG C m sp [] ta t σ H cont := by
  unfold tMethG
  simp only [List.append_nil]
  exact h
theorem w_gzT {t u : TGz} (h : t { GDe with nx := fun i' Hw' σ' H' => u GDe i' Hw' σ' H' } i Hw σ H) : tGzT t u GDe i Hw σ H := h
theorem w_gz0 (h : GDe.nx i Hw σ H) : tGz0 GDe i Hw σ H := h
theorem w_pl {t : TS} (h : t ⟨GDe.nx i Hw, fun _ _ => False, GDe.bk i Hw, GDe.ct i Hw⟩ σ H) : tPl t GDe i Hw σ H := h
theorem w_yl (hi : i < g.n) (h : te σ H fun x H1 => Ex Hw H1 ∧ g.Yp i x H1 ∧ ∀ H2, g.rel H1 H2 → GDe.nx (i + 1) H2 σ H2) : tYl g te GDe i Hw σ H := ⟨hi, h⟩
end
def GFG (J : It) (gt : TG) (tb : TGz) (D : GD) (i : Nat) (Hw : Hp) (σ : L2.St) (H1 : Hp) : Prop := ∃ W : Nat → Nat → Nat → Hp → L2.St → Hp → Prop, (∃ m, W 0 m i Hw σ H1) ∧ ∀ j m i Hw σ H, W j m i Hw σ H →
  (J.stop j H ∧ D.nx i Hw σ H) ∨ (J.go j H ∧ ∃ Nx : Nat → Hp → L2.St → Hp → Prop, (∀ i' Hw' σ' H', Nx i' Hw' σ' H' → ∃ m', m' < m ∧ W (j + 1) m' i' Hw' σ' H') ∧ ∀ x H', J.yld j H x H' → gt x σ H' fun σ2 H2 => tb ⟨Nx, D.nx, Nx⟩ i Hw σ2 H2)
theorem w_gzF {wi : TI} {gt : TG} {tb : TGz} {D : GD} {i : Nat} {Hw : Hp} {σ : L2.St} {H : Hp} (h : wi σ H fun J H1 => GFG J gt tb D i Hw σ H1) : tGzF wi gt tb D i Hw σ H := h
theorem gfg {J : It} {Φ : Hp → Prop} {n : Nat} {Y : Nat → V → Hp → Prop} {gt : TG} {tb : TGz} {D : GD} {i : Nat} {Hw : Hp} {σ : L2.St} {H : Hp} (S : Src J Φ n Y) (Pv : Nat → Nat → Hp → L2.St → Hp → Prop) (h0 : Pv 0 i Hw σ H) (hx : ∀ j i' Hw' σ' H', j ≤ n → Pv j i' Hw' σ' H' → Φ H')
    (hs : ∀ j x i' Hw' σ' H' H'', j < n → Pv j i' Hw' σ' H' → Ex H' H'' → Y j x H'' → gt x σ' H'' fun σ2 H2 => tb ⟨Pv (j + 1), D.nx, Pv (j + 1)⟩ i' Hw' σ2 H2) (hd : ∀ i' Hw' σ' H', Pv n i' Hw' σ' H' → D.nx i' Hw' σ' H') : GFG J gt tb D i Hw σ H := by
  refine ⟨fun j m i Hw σ H => m = n - j ∧ j ≤ n ∧ Pv j i Hw σ H, ⟨n, by simp, Nat.zero_le _, h0⟩, ?_⟩
  rintro j m i Hw σ H ⟨rfl, hj, p⟩
  have hp := hx j i Hw σ H hj p
  by_cases hlt : j < n
  · refine Or.inr ⟨S.go j H hp hlt, Pv (j + 1), fun i' Hw' σ' H' q => ⟨n - (j + 1), by omega, rfl, hlt, q⟩, fun x H' hy => ?_⟩
    obtain ⟨e, y⟩ := S.yld j H x H' hp hlt hy
    exact hs j x i Hw σ H H' hlt p e y
  · have e : j = n := by omega
    subst e
    exact Or.inl ⟨S.stop H hp, hd i Hw σ H p⟩
def GWG (tc : TT) (tb : TGz) (D : GD) (i : Nat) (Hw : Hp) (σ : L2.St) (H : Hp) : Prop := tGzW tc tb D i Hw σ H
theorem w_gzW {tc : TT} {tb : TGz} {D : GD} {i : Nat} {Hw : Hp} {σ : L2.St} {H : Hp} (h : GWG tc tb D i Hw σ H) : tGzW tc tb D i Hw σ H := h
end Z
namespace Z
open PySem HandSHeadRun
/-! ### the head in parts: each runs the top anew, none looks at all -/
theorem opt_two {α β γ : Type} {R : Option α} {f : α → β} {g : α → γ} {b : β} {c : γ} (h1 : R.map f = some b) (h2 : R.map g = some c) : R.map (fun x => (f x, g x)) = some (b, c) := by
  cases R with
  | none => cases h1
  | some x =>
    cases h1
    cases h2
    rfl
abbrev KX (n : Nat) (s : PySem.W.SharedT) : PySem.W.Frag := He.frG (getT s) (PySem.cStatics :: He.asD (getT s) n)
theorem run_join {r : PySem.W.OpenRow} {q : Program} {n M : Nat} {fa fa1 fa2 : List (PySem.W.Frag → Bool)} {fn fs : List He.DefD} {loose : List Str} {w : World} (e : fa = fa1 ++ fa2)
    (h1 : (wholeF (fun p => stepQ (denQ tabQ) p w) fenceQ M r.prog).map (fun x => (looksF r.prog x.1.heap x.2.abs, seenQ q loose (importedModules r.prog.main.body) (fun s => PySem.W.xlAt q [] s && PySem.W.recOk r.toRowW.records s) x.2.abs)) = some (true, PySem.W.openGood q loose))
    (h2 : (wholeF (fun p => stepQ (denQ tabQ) p w) fenceQ M r.prog).map (fun x => fa1.all fun f => f (KX n x.2)) = some true)
    (h3 : (wholeF (fun p => stepQ (denQ tabQ) p w) fenceQ M r.prog).map (fun x => fa2.all fun f => f (KX n x.2)) = some true)
    (h4 : (wholeF (fun p => stepQ (denQ tabQ) p w) fenceQ M r.prog).map (fun x => (fn.all fun d => d.ok (KX n x.2), fn.map (fun d => He.fnW (KX n x.2) d.at_), fs.map fun d => fnWs (KX n x.2) d.at_)) = some (true, fn.map He.DefD.val, fs.map He.DefD.val)) :
    RunEqI r q (hookY n fa fn fs) (fun s => obsY n fa fn fs (getT s)) M loose w := by
  subst e
  unfold RunEqI
  generalize wholeF (fun p => stepQ (denQ tabQ) p w) fenceQ M r.prog = R at *
  cases R with
  | none => cases h1
  | some x =>
    have a1 := Option.some.inj h1
    have a2 : (fa1.all fun f => f (KX n x.2)) = true := Option.some.inj h2
    have a3 : (fa2.all fun f => f (KX n x.2)) = true := Option.some.inj h3
    have a4 := Option.some.inj h4
    obtain ⟨b1, b2⟩ := Prod.mk.inj a1
    obtain ⟨b3, b4⟩ := Prod.mk.inj a4
    obtain ⟨b4, b5⟩ := Prod.mk.inj b4
    refine congrArg some (Prod.ext b1 (Prod.ext b2 (Prod.ext ?_ ?_)))
    · show (((fa1 ++ fa2).all fun f => f (KX n x.2)) && fn.all fun d => d.ok (KX n x.2)) = true
      rw [List.all_append, a2, a3, b3]
      rfl
    · show (fn.map (fun d => He.fnW (KX n x.2) d.at_) ++ fs.map fun d => fnWs (KX n x.2) d.at_) = fn.map He.DefD.val ++ fs.map He.DefD.val
      rw [b4, b5]
end Z
namespace R
open PySem L2 Z
def top (i : Nat) : Stmt := PySem.Challenge.pw_dearestshelf_k27_best_of_all_lots.main.body.getD i (.Pass ⟨0, 0, 0, 0⟩)
abbrev s_Ratio___add__ : Stmt := inClass (top 22) 1
theorem sc_Ratio___add__ : FnScope ["self", "other"] ["self", "other"] (defScope s_Ratio___add__) := ⟨rfl, rfl, rfl, by decide +kernel, rfl, by decide +kernel, by decide +kernel⟩
abbrev s_Ratio___eq__ : Stmt := inClass (top 22) 12
theorem sc_Ratio___eq__ : FnScope ["self", "other"] ["self", "other"] (defScope s_Ratio___eq__) := ⟨rfl, rfl, rfl, by decide +kernel, rfl, by decide +kernel, by decide +kernel⟩
abbrev s_Ratio___gt__ : Stmt := inClass (top 22) 15
theorem sc_Ratio___gt__ : FnScope ["self", "other"] ["self", "other"] (defScope s_Ratio___gt__) := ⟨rfl, rfl, rfl, by decide +kernel, rfl, by decide +kernel, by decide +kernel⟩
abbrev s_Ratio___init__ : Stmt := inClass (top 22) 0
theorem sc_Ratio___init__ : FnScope ["self", "top", "bottom", "shared"] ["self", "top", "bottom"] (defScope s_Ratio___init__) := ⟨rfl, rfl, rfl, by decide +kernel, rfl, by decide +kernel, by decide +kernel⟩
abbrev s_Ratio___mul__ : Stmt := inClass (top 22) 5
theorem sc_Ratio___mul__ : FnScope ["self", "other"] ["self", "other"] (defScope s_Ratio___mul__) := ⟨rfl, rfl, rfl, by decide +kernel, rfl, by decide +kernel, by decide +kernel⟩
abbrev s_Rule___init__ : Stmt := inClass (top 24) 2
theorem sc_Rule___init__ : FnScope ["self", "many"] ["self", "many"] (defScope s_Rule___init__) := ⟨rfl, rfl, rfl, by decide +kernel, rfl, by decide +kernel, by decide +kernel⟩
abbrev s_Rule_best : Stmt := inClass (top 24) 6
theorem sc_Rule_best : FnScope ["self", "prices", "found", "most", "lot", "worth"] ["self", "prices"] (defScope s_Rule_best) := ⟨rfl, rfl, rfl, by decide +kernel, rfl, by decide +kernel, by decide +kernel⟩
abbrev s_Rule_shares : Stmt := inClass (top 24) 3
theorem sc_Rule_shares : FnScope ["self", "lot", "_"] ["self", "lot"] (defScope s_Rule_shares) := ⟨rfl, rfl, rfl, by decide +kernel, rfl, by decide +kernel, by decide +kernel⟩
abbrev s_Rule_worth : Stmt := inClass (top 24) 5
theorem sc_Rule_worth : FnScope ["self", "lot", "prices", "shares", "total", "thing"] ["self", "lot", "prices"] (defScope s_Rule_worth) := ⟨rfl, rfl, rfl, by decide +kernel, rfl, by decide +kernel, by decide +kernel⟩
abbrev s_Wish___call__ : Stmt := inClass (top 26) 1
theorem sc_Wish___call__ : FnScope ["self", "lot", "thing"] ["self", "lot"] (defScope s_Wish___call__) := ⟨rfl, rfl, rfl, by decide +kernel, rfl, by decide +kernel, by decide +kernel⟩
abbrev s_Wish___init__ : Stmt := inClass (top 26) 0
theorem sc_Wish___init__ : FnScope ["self", "things"] ["self", "things"] (defScope s_Wish___init__) := ⟨rfl, rfl, rfl, by decide +kernel, rfl, by decide +kernel, by decide +kernel⟩
abbrev s__law_asked : Stmt := top 56
theorem sc__law_asked : FnScope ["_law_rule", "_law_prices", "e"] ["_law_rule", "_law_prices"] (defScope s__law_asked) := ⟨rfl, rfl, rfl, by decide +kernel, rfl, by decide +kernel, by decide +kernel⟩
abbrev s__law_below : Stmt := top 47
theorem sc__law_below : FnScope ["_law_a", "_law_b"] ["_law_a", "_law_b"] (defScope s__law_below) := ⟨rfl, rfl, rfl, by decide +kernel, rfl, by decide +kernel, by decide +kernel⟩
abbrev s__law_big : Stmt := top 58
theorem sc__law_big : FnScope ["_law_kind", "_law_many"] ["_law_kind", "_law_many"] (defScope s__law_big) := ⟨rfl, rfl, rfl, by decide +kernel, rfl, by decide +kernel, by decide +kernel⟩
abbrev s__law_brings : Stmt := top 54
theorem sc__law_brings : FnScope ["_law_row_here", "_law_prices", "_law_thing"] ["_law_row_here", "_law_prices"] (defScope s__law_brings) := ⟨rfl, rfl, rfl, by decide +kernel, rfl, by decide +kernel, by decide +kernel⟩
abbrev s__law_cell : Stmt := top 36
theorem sc__law_cell : FnScope ["_law_script", "_law_place"] ["_law_script", "_law_place"] (defScope s__law_cell) := ⟨rfl, rfl, rfl, by decide +kernel, rfl, by decide +kernel, by decide +kernel⟩
abbrev s__law_draws : Stmt := top 37
theorem sc__law_draws : FnScope ["_law_cell_here", "_law_sizes", "_law_left", "_law_found", "_law_size", "_law_k", "_law_low", "_law_high"] ["_law_cell_here", "_law_sizes"] (defScope s__law_draws) := ⟨rfl, rfl, rfl, by decide +kernel, rfl, by decide +kernel, by decide +kernel⟩
abbrev s__law_filled : Stmt := top 51
theorem sc__law_filled : FnScope ["_law_things", "_law_many", "_law_thing"] ["_law_things", "_law_many"] (defScope s__law_filled) := ⟨rfl, rfl, rfl, by decide +kernel, rfl, by decide +kernel, by decide +kernel⟩
abbrev s__law_good : Stmt := top 55
theorem sc__law_good : FnScope ["_law_rule", "_law_rows_here", "_law_prices", "_law_many", "_law_handed", "_law_told", "_law_most", "_law_row_here", "_law_found", "_law_number"] ["_law_rule", "_law_rows_here", "_law_prices"] (defScope s__law_good) := ⟨rfl, rfl, rfl, by decide +kernel, rfl, by decide +kernel, by decide +kernel⟩
abbrev s__law_is_int : Stmt := top 44
theorem sc__law_is_int : FnScope ["_law_x"] ["_law_x"] (defScope s__law_is_int) := ⟨rfl, rfl, rfl, by decide +kernel, rfl, by decide +kernel, by decide +kernel⟩
abbrev s__law_like : Stmt := top 57
theorem sc__law_like : FnScope ["_law_told", "_law_due", "_law_k"] ["_law_told", "_law_due"] (defScope s__law_like) := ⟨rfl, rfl, rfl, by decide +kernel, rfl, by decide +kernel, by decide +kernel⟩
abbrev s__law_listed_rows : Stmt := top 52
theorem sc__law_listed_rows : FnScope ["_law_pairs", "_law_many", "_law_everyone", "_law_rows_here", "_law_number", "_law_lot_here", "_law_pair", "_law_thing"] ["_law_pairs", "_law_many"] (defScope s__law_listed_rows) := ⟨rfl, rfl, rfl, by decide +kernel, rfl, by decide +kernel, by decide +kernel⟩
abbrev s__law_lot : Stmt := top 40
theorem sc__law_lot : FnScope ["_law_bits", "_law_many", "_law_found", "_law_left", "_law_thing"] ["_law_bits", "_law_many"] (defScope s__law_lot) := ⟨rfl, rfl, rfl, by decide +kernel, rfl, by decide +kernel, by decide +kernel⟩
abbrev s__law_mixed_rows : Stmt := top 53
theorem sc__law_mixed_rows : FnScope ["_law_first", "_law_second", "_law_buyers", "_law_rows_here", "_law_number", "_law_one", "_law_two", "_law_row_here", "_law_k"] ["_law_first", "_law_second", "_law_buyers"] (defScope s__law_mixed_rows) := ⟨rfl, rfl, rfl, by decide +kernel, rfl, by decide +kernel, by decide +kernel⟩
abbrev s__law_pool : Stmt := top 48
theorem sc__law_pool : FnScope ["_law_low", "_law_high", "_law_pool_here", "_law_cell_here", "_law_drawn", "_law_bound", "_law_k", "_law_value"] ["_law_low", "_law_high"] (defScope s__law_pool) := ⟨rfl, rfl, rfl, by decide +kernel, rfl, by decide +kernel, by decide +kernel⟩
abbrev s__law_power : Stmt := top 41
theorem sc__law_power : FnScope ["_law_many", "_law_power_here", "_law_k"] ["_law_many"] (defScope s__law_power) := ⟨rfl, rfl, rfl, by decide +kernel, rfl, by decide +kernel, by decide +kernel⟩
abbrev s__law_row : Stmt := top 38
theorem sc__law_row : FnScope ["_law_cell_here", "_law_count", "_law_drawn", "_law_bound", "_law_k", "_law_value"] ["_law_cell_here", "_law_count"] (defScope s__law_row) := ⟨rfl, rfl, rfl, by decide +kernel, rfl, by decide +kernel, by decide +kernel⟩
abbrev s__law_rows : Stmt := top 49
theorem sc__law_rows : FnScope ["_law_pool_here", "_law_many", "_law_size", "_law_rows_here", "_law_number", "_law_lot_here", "_law_part", "_law_counts", "_law_k", "_law_thing"] ["_law_pool_here", "_law_many"] (defScope s__law_rows) := ⟨rfl, rfl, rfl, by decide +kernel, rfl, by decide +kernel, by decide +kernel⟩
abbrev s__law_same : Stmt := top 45
theorem sc__law_same : FnScope ["_law_x", "_law_top", "_law_bottom"] ["_law_x", "_law_top", "_law_bottom"] (defScope s__law_same) := ⟨rfl, rfl, rfl, by decide +kernel, rfl, by decide +kernel, by decide +kernel⟩
abbrev s__law_same_lot : Stmt := top 46
theorem sc__law_same_lot : FnScope ["_law_x", "_law_due", "_law_k"] ["_law_x", "_law_due"] (defScope s__law_same_lot) := ⟨rfl, rfl, rfl, by decide +kernel, rfl, by decide +kernel, by decide +kernel⟩
abbrev s__law_shuffled : Stmt := top 42
theorem sc__law_shuffled : FnScope ["_law_places", "_law_things", "_law_left", "_law_found", "_law_place"] ["_law_places", "_law_things"] (defScope s__law_shuffled) := ⟨rfl, rfl, rfl, by decide +kernel, rfl, by decide +kernel, by decide +kernel⟩
abbrev s__law_takers : Stmt := top 50
theorem sc__law_takers : FnScope ["_law_pairs", "_law_lot_here", "_law_thing", "_law_total", "_law_pair", "_law_place"] ["_law_pairs", "_law_lot_here", "_law_thing"] (defScope s__law_takers) := ⟨rfl, rfl, rfl, by decide +kernel, rfl, by decide +kernel, by decide +kernel⟩
abbrev s__law_ups : Stmt := top 39
theorem sc__law_ups : FnScope ["_law_row_here", "_law_number"] ["_law_row_here"] (defScope s__law_ups) := ⟨rfl, rfl, rfl, by decide +kernel, rfl, by decide +kernel, by decide +kernel⟩
abbrev s__law_wishes : Stmt := top 43
theorem sc__law_wishes : FnScope ["_law_cell_here", "_law_many", "_law_count", "_law_size", "_law_sizes", "_law_drawn", "_law_found", "_law_k", "_law_part", "_law_things", "_law_thing"] ["_law_cell_here", "_law_many", "_law_count"] (defScope s__law_wishes) := ⟨rfl, rfl, rfl, by decide +kernel, rfl, by decide +kernel, by decide +kernel⟩
abbrev s_check_lot : Stmt := top 14
theorem sc_check_lot : FnScope ["lot", "many", "before", "thing"] ["lot", "many"] (defScope s_check_lot) := ⟨rfl, rfl, rfl, by decide +kernel, rfl, by decide +kernel, by decide +kernel⟩
abbrev s_check_prices : Stmt := top 15
theorem sc_check_prices : FnScope ["prices", "many", "at", "price"] ["prices", "many"] (defScope s_check_prices) := ⟨rfl, rfl, rfl, by decide +kernel, rfl, by decide +kernel, by decide +kernel⟩
abbrev s_fits_lot : Stmt := top 31
theorem sc_fits_lot : FnScope ["row", "lot", "many", "thing"] ["row", "lot", "many"] (defScope s_fits_lot) := ⟨rfl, rfl, rfl, by decide +kernel, rfl, by decide +kernel, by decide +kernel⟩
abbrev s_is_wish : Stmt := top 25
theorem sc_is_wish : FnScope ["things", "seen", "thing"] ["things"] (defScope s_is_wish) := ⟨rfl, rfl, rfl, by decide +kernel, rfl, by decide +kernel, by decide +kernel⟩
abbrev s_law : Stmt := top 59
theorem sc_law : FnScope ["_law_script", "_law_drawn", "_law_many", "_law_rows_here", "_law_pairs", "_law_buyers", "_law_prices", "_law_rule", "_law_bad", "_law_place", "_law_wide", "_law_big_here", "_law_shown", "_law_price", "_law_pair", "_law_row_here", "_law_thing"] ["_law_script"] (defScope s_law) := ⟨rfl, rfl, rfl, by decide +kernel, rfl, by decide +kernel, by decide +kernel⟩
abbrev s_lot_at : Stmt := top 17
theorem sc_lot_at : FnScope ["number", "many", "thing"] ["number", "many"] (defScope s_lot_at) := ⟨rfl, rfl, rfl, by decide +kernel, rfl, by decide +kernel, by decide +kernel⟩
abbrev s_lot_number : Stmt := top 16
theorem sc_lot_number : FnScope ["lot", "thing"] ["lot"] (defScope s_lot_number) := ⟨rfl, rfl, rfl, by decide +kernel, rfl, by decide +kernel, by decide +kernel⟩
abbrev s_lots : Stmt := top 18
theorem sc_lots : GScope ["many", "number"] ["many"] (defScope s_lots) := ⟨rfl, rfl, rfl, by decide +kernel, rfl, by decide +kernel, by decide +kernel⟩
abbrev s_lowest : Stmt := top 32
theorem sc_lowest : FnScope ["row", "shared", "number"] ["row"] (defScope s_lowest) := ⟨rfl, rfl, rfl, by decide +kernel, rfl, by decide +kernel, by decide +kernel⟩
abbrev s_BadNumber___init__ : Stmt := inClass (top 8) 0
theorem sc_BadNumber___init__ : NdefX.NScope ["self", "what", "at", "__class__"] ["self", "what", "at"] ["__class__"] (defScope s_BadNumber___init__) := NdefX.nscope_by (by decide +kernel)
abbrev s_BadTable___init__ : Stmt := inClass (top 12) 0
theorem sc_BadTable___init__ : NdefX.NScope ["self", "at", "__class__"] ["self", "at"] ["__class__"] (defScope s_BadTable___init__) := NdefX.nscope_by (by decide +kernel)
abbrev s_BadWish___init__ : Stmt := inClass (top 10) 0
theorem sc_BadWish___init__ : NdefX.NScope ["self", "at", "__class__"] ["self", "at"] ["__class__"] (defScope s_BadWish___init__) := NdefX.nscope_by (by decide +kernel)
abbrev s_Listed___init__ : Stmt := inClass (top 27) 0
theorem sc_Listed___init__ : Z.SScope ["self", "many", "wishes", "__class__", "at", "buyers", "things", "thing"] ["self", "many", "wishes"] ["__class__"] (defScope s_Listed___init__) := Z.sscope_by (by decide +kernel)
abbrev s_Listed_shares : Stmt := inClass (top 27) 1
theorem sc_Listed_shares : NdefX.NScope ["self", "lot", "__class__", "row", "everyone", "buyers", "things", "wish", "taken", "_"] ["self", "lot"] ["__class__"] (defScope s_Listed_shares) := NdefX.nscope_by (by decide +kernel)
abbrev s_Mixed___init__ : Stmt := inClass (top 29) 0
theorem sc_Mixed___init__ : Z.SScope ["self", "parts", "__class__", "at", "buyers", "rule"] ["self", "parts"] ["__class__"] (defScope s_Mixed___init__) := Z.sscope_by (by decide +kernel)
abbrev s_Mixed_shares : Stmt := inClass (top 29) 1
theorem sc_Mixed_shares : NdefX.NScope ["self", "lot", "__class__", "row", "everyone", "buyers", "rule", "thing", "share", "_"] ["self", "lot"] ["__class__"] (defScope s_Mixed_shares) := NdefX.nscope_by (by decide +kernel)
abbrev s_Tabled___init__ : Stmt := inClass (top 34) 1
theorem sc_Tabled___init__ : NdefX.NScope ["self", "many", "rows", "__class__", "number", "row"] ["self", "many", "rows"] ["__class__"] (defScope s_Tabled___init__) := NdefX.nscope_by (by decide +kernel)
abbrev s_Tabled_shares : Stmt := inClass (top 34) 2
theorem sc_Tabled_shares : NdefX.NScope ["self", "lot", "__class__", "row", "told", "thing"] ["self", "lot"] ["__class__"] (defScope s_Tabled_shares) := NdefX.nscope_by (by decide +kernel)
abbrev s_TooMany___init__ : Stmt := inClass (top 9) 0
theorem sc_TooMany___init__ : NdefX.NScope ["self", "many", "most", "__class__"] ["self", "many", "most"] ["__class__"] (defScope s_TooMany___init__) := NdefX.nscope_by (by decide +kernel)
abbrev s_Unlike___init__ : Stmt := inClass (top 11) 0
theorem sc_Unlike___init__ : NdefX.NScope ["self", "at", "__class__"] ["self", "at"] ["__class__"] (defScope s_Unlike___init__) := NdefX.nscope_by (by decide +kernel)
structure Tx (P : Program) (K : PySem.W.Frag) (mg : Str → Option Value) : Prop where
  n_any : mg "any" = none
  n_bool : mg "bool" = none
  n_enumerate : mg "enumerate" = none
  n_int : mg "int" = none
  n_isinstance : mg "isinstance" = none
  n_len : mg "len" = none
  n_list : mg "list" = none
  n_max : mg "max" = none
  n_range : mg "range" = none
  n_set : mg "set" = none
  n_str : mg "str" = none
  n_sum : mg "sum" = none
  n_super : mg "super" = none
  n_tuple : mg "tuple" = none
  m_gcd : mg "gcd" = some (.builtin "math.gcd")
  g__law_asked : mg "_law_asked" = some (.ref (He.ga K "_law_asked"))
  g__law_below : mg "_law_below" = some (.ref (He.ga K "_law_below"))
  g__law_big : mg "_law_big" = some (.ref (He.ga K "_law_big"))
  g__law_brings : mg "_law_brings" = some (.ref (He.ga K "_law_brings"))
  g__law_cell : mg "_law_cell" = some (.ref (He.ga K "_law_cell"))
  g__law_draws : mg "_law_draws" = some (.ref (He.ga K "_law_draws"))
  g__law_filled : mg "_law_filled" = some (.ref (He.ga K "_law_filled"))
  g__law_good : mg "_law_good" = some (.ref (He.ga K "_law_good"))
  g__law_is_int : mg "_law_is_int" = some (.ref (He.ga K "_law_is_int"))
  g__law_like : mg "_law_like" = some (.ref (He.ga K "_law_like"))
  g__law_listed_rows : mg "_law_listed_rows" = some (.ref (He.ga K "_law_listed_rows"))
  g__law_lot : mg "_law_lot" = some (.ref (He.ga K "_law_lot"))
  g__law_mixed_rows : mg "_law_mixed_rows" = some (.ref (He.ga K "_law_mixed_rows"))
  g__law_pool : mg "_law_pool" = some (.ref (He.ga K "_law_pool"))
  g__law_power : mg "_law_power" = some (.ref (He.ga K "_law_power"))
  g__law_row : mg "_law_row" = some (.ref (He.ga K "_law_row"))
  g__law_rows : mg "_law_rows" = some (.ref (He.ga K "_law_rows"))
  g__law_same : mg "_law_same" = some (.ref (He.ga K "_law_same"))
  g__law_same_lot : mg "_law_same_lot" = some (.ref (He.ga K "_law_same_lot"))
  g__law_shuffled : mg "_law_shuffled" = some (.ref (He.ga K "_law_shuffled"))
  g__law_takers : mg "_law_takers" = some (.ref (He.ga K "_law_takers"))
  g__law_ups : mg "_law_ups" = some (.ref (He.ga K "_law_ups"))
  g__law_wishes : mg "_law_wishes" = some (.ref (He.ga K "_law_wishes"))
  g_check_lot : mg "check_lot" = some (.ref (He.ga K "check_lot"))
  g_check_prices : mg "check_prices" = some (.ref (He.ga K "check_prices"))
  g_fits_lot : mg "fits_lot" = some (.ref (He.ga K "fits_lot"))
  g_is_wish : mg "is_wish" = some (.ref (He.ga K "is_wish"))
  g_law : mg "law" = some (.ref (He.ga K "law"))
  g_lot_at : mg "lot_at" = some (.ref (He.ga K "lot_at"))
  g_lot_number : mg "lot_number" = some (.ref (He.ga K "lot_number"))
  g_lots : mg "lots" = some (.ref (He.ga K "lots"))
  g_lowest : mg "lowest" = some (.ref (He.ga K "lowest"))
  exm_ShelfError_BadNumber : PySem.W.exmOne K (.ref (He.ga K "ShelfError")) (.ref (He.ga K "BadNumber")) = some false
  exm_ShelfError_TooMany : PySem.W.exmOne K (.ref (He.ga K "ShelfError")) (.ref (He.ga K "TooMany")) = some false
  g_ZeroBottom : mg "ZeroBottom" = some (.ref (He.ga K "ZeroBottom"))
  exm_ZeroBottom_BadNumber : PySem.W.exmOne K (.ref (He.ga K "ZeroBottom")) (.ref (He.ga K "BadNumber")) = some false
  exm_ZeroBottom_TooMany : PySem.W.exmOne K (.ref (He.ga K "ZeroBottom")) (.ref (He.ga K "TooMany")) = some false
  x_ZeroBottom : PySem.W.excIn K (He.ga K "ZeroBottom") He.veBase "ValueError.__new__" = true ∧ PySem.W.keepIn K (.ref (He.ga K "ZeroBottom")) = true ∧ PySem.W.subIn K (.ref (He.ga K "ZeroBottom")) (.type "BaseException") = some true ∧ PySem.W.typeIn K (.ref (He.ga K "ZeroBottom")) = some (.type "type")
  exm_BadText_BadNumber : PySem.W.exmOne K (.ref (He.ga K "BadText")) (.ref (He.ga K "BadNumber")) = some false
  exm_BadText_TooMany : PySem.W.exmOne K (.ref (He.ga K "BadText")) (.ref (He.ga K "TooMany")) = some false
  g_BadLot : mg "BadLot" = some (.ref (He.ga K "BadLot"))
  exm_BadLot_BadNumber : PySem.W.exmOne K (.ref (He.ga K "BadLot")) (.ref (He.ga K "BadNumber")) = some false
  exm_BadLot_TooMany : PySem.W.exmOne K (.ref (He.ga K "BadLot")) (.ref (He.ga K "TooMany")) = some false
  x_BadLot : PySem.W.excIn K (He.ga K "BadLot") He.veBase "ValueError.__new__" = true ∧ PySem.W.keepIn K (.ref (He.ga K "BadLot")) = true ∧ PySem.W.subIn K (.ref (He.ga K "BadLot")) (.type "BaseException") = some true ∧ PySem.W.typeIn K (.ref (He.ga K "BadLot")) = some (.type "type")
  g_NoBuyers : mg "NoBuyers" = some (.ref (He.ga K "NoBuyers"))
  exm_NoBuyers_BadNumber : PySem.W.exmOne K (.ref (He.ga K "NoBuyers")) (.ref (He.ga K "BadNumber")) = some false
  exm_NoBuyers_TooMany : PySem.W.exmOne K (.ref (He.ga K "NoBuyers")) (.ref (He.ga K "TooMany")) = some false
  x_NoBuyers : PySem.W.excIn K (He.ga K "NoBuyers") He.veBase "ValueError.__new__" = true ∧ PySem.W.keepIn K (.ref (He.ga K "NoBuyers")) = true ∧ PySem.W.subIn K (.ref (He.ga K "NoBuyers")) (.type "BaseException") = some true ∧ PySem.W.typeIn K (.ref (He.ga K "NoBuyers")) = some (.type "type")
  g_BadNumber : mg "BadNumber" = some (.ref (He.ga K "BadNumber"))
  xf_BadNumber : XfC K (He.ga K "BadNumber")
  oe_BadNumber : OexC K (He.ga K "BadNumber")
  si_BadNumber : PySem.W.ks_superIn K (He.ga K "BadNumber") (He.ga K "BadNumber") "__init__" = some (some (.builtin "ValueError.__init__")) ∧ PySem.W.subIn K (.ref (He.ga K "BadNumber")) (.type "ValueError") = some true ∧ PySem.W.findIn K (.ref (He.ga K "BadNumber")) "__init__" = some (some (.ref (He.ma K (He.ga K "BadNumber") "__init__"))) ∧ PySem.W.typeIn K (.ref (He.ma K (He.ga K "BadNumber") "__init__")) = some (.type "function")
  nf_BadNumber_what : PySem.W.findIn K (.ref (He.ga K "BadNumber")) "what" = some none
  nf_BadNumber_at : PySem.W.findIn K (.ref (He.ga K "BadNumber")) "at" = some none
  exm_BadNumber_BadNumber : PySem.W.exmOne K (.ref (He.ga K "BadNumber")) (.ref (He.ga K "BadNumber")) = some true
  exm_BadNumber_TooMany : PySem.W.exmOne K (.ref (He.ga K "BadNumber")) (.ref (He.ga K "TooMany")) = some false
  g_TooMany : mg "TooMany" = some (.ref (He.ga K "TooMany"))
  xf_TooMany : XfC K (He.ga K "TooMany")
  oe_TooMany : OexC K (He.ga K "TooMany")
  si_TooMany : PySem.W.ks_superIn K (He.ga K "TooMany") (He.ga K "TooMany") "__init__" = some (some (.builtin "ValueError.__init__")) ∧ PySem.W.subIn K (.ref (He.ga K "TooMany")) (.type "ValueError") = some true ∧ PySem.W.findIn K (.ref (He.ga K "TooMany")) "__init__" = some (some (.ref (He.ma K (He.ga K "TooMany") "__init__"))) ∧ PySem.W.typeIn K (.ref (He.ma K (He.ga K "TooMany") "__init__")) = some (.type "function")
  nf_TooMany_many : PySem.W.findIn K (.ref (He.ga K "TooMany")) "many" = some none
  nf_TooMany_most : PySem.W.findIn K (.ref (He.ga K "TooMany")) "most" = some none
  exm_TooMany_BadNumber : PySem.W.exmOne K (.ref (He.ga K "TooMany")) (.ref (He.ga K "BadNumber")) = some false
  exm_TooMany_TooMany : PySem.W.exmOne K (.ref (He.ga K "TooMany")) (.ref (He.ga K "TooMany")) = some true
  g_BadWish : mg "BadWish" = some (.ref (He.ga K "BadWish"))
  oe_BadWish : OexC K (He.ga K "BadWish")
  si_BadWish : PySem.W.ks_superIn K (He.ga K "BadWish") (He.ga K "BadWish") "__init__" = some (some (.builtin "ValueError.__init__")) ∧ PySem.W.subIn K (.ref (He.ga K "BadWish")) (.type "ValueError") = some true ∧ PySem.W.findIn K (.ref (He.ga K "BadWish")) "__init__" = some (some (.ref (He.ma K (He.ga K "BadWish") "__init__"))) ∧ PySem.W.typeIn K (.ref (He.ma K (He.ga K "BadWish") "__init__")) = some (.type "function")
  nf_BadWish_at : PySem.W.findIn K (.ref (He.ga K "BadWish")) "at" = some none
  exm_BadWish_BadNumber : PySem.W.exmOne K (.ref (He.ga K "BadWish")) (.ref (He.ga K "BadNumber")) = some false
  exm_BadWish_TooMany : PySem.W.exmOne K (.ref (He.ga K "BadWish")) (.ref (He.ga K "TooMany")) = some false
  g_Unlike : mg "Unlike" = some (.ref (He.ga K "Unlike"))
  oe_Unlike : OexC K (He.ga K "Unlike")
  si_Unlike : PySem.W.ks_superIn K (He.ga K "Unlike") (He.ga K "Unlike") "__init__" = some (some (.builtin "ValueError.__init__")) ∧ PySem.W.subIn K (.ref (He.ga K "Unlike")) (.type "ValueError") = some true ∧ PySem.W.findIn K (.ref (He.ga K "Unlike")) "__init__" = some (some (.ref (He.ma K (He.ga K "Unlike") "__init__"))) ∧ PySem.W.typeIn K (.ref (He.ma K (He.ga K "Unlike") "__init__")) = some (.type "function")
  nf_Unlike_at : PySem.W.findIn K (.ref (He.ga K "Unlike")) "at" = some none
  exm_Unlike_BadNumber : PySem.W.exmOne K (.ref (He.ga K "Unlike")) (.ref (He.ga K "BadNumber")) = some false
  exm_Unlike_TooMany : PySem.W.exmOne K (.ref (He.ga K "Unlike")) (.ref (He.ga K "TooMany")) = some false
  g_BadTable : mg "BadTable" = some (.ref (He.ga K "BadTable"))
  oe_BadTable : OexC K (He.ga K "BadTable")
  si_BadTable : PySem.W.ks_superIn K (He.ga K "BadTable") (He.ga K "BadTable") "__init__" = some (some (.builtin "ValueError.__init__")) ∧ PySem.W.subIn K (.ref (He.ga K "BadTable")) (.type "ValueError") = some true ∧ PySem.W.findIn K (.ref (He.ga K "BadTable")) "__init__" = some (some (.ref (He.ma K (He.ga K "BadTable") "__init__"))) ∧ PySem.W.typeIn K (.ref (He.ma K (He.ga K "BadTable") "__init__")) = some (.type "function")
  nf_BadTable_at : PySem.W.findIn K (.ref (He.ga K "BadTable")) "at" = some none
  exm_BadTable_BadNumber : PySem.W.exmOne K (.ref (He.ga K "BadTable")) (.ref (He.ga K "BadNumber")) = some false
  exm_BadTable_TooMany : PySem.W.exmOne K (.ref (He.ga K "BadTable")) (.ref (He.ga K "TooMany")) = some false
  g_Ratio : mg "Ratio" = some (.ref (He.ga K "Ratio"))
  o_Ratio : Z.OwnC K (He.ga K "Ratio")
  mk_Ratio : Mk K (He.ga K "Ratio") (He.ma K (He.ga K "Ratio") "__init__")
  ki_Ratio_Rule : PySem.W.kitOne K (.ref (He.ga K "Ratio")) (.ref (He.ga K "Rule")) = some false
  na_Ratio_top : NoAttr K (He.ga K "Ratio") "top"
  na_Ratio_bottom : NoAttr K (He.ga K "Ratio") "bottom"
  me_Ratio___add__ : Meth K (He.ga K "Ratio") "__add__" (He.ma K (He.ga K "Ratio") "__add__")
  me_Ratio___mul__ : Meth K (He.ga K "Ratio") "__mul__" (He.ma K (He.ga K "Ratio") "__mul__")
  me_Ratio___rmul__ : Meth K (He.ga K "Ratio") "__rmul__" (He.ma K (He.ga K "Ratio") "__rmul__")
  me_Ratio___eq__ : Meth K (He.ga K "Ratio") "__eq__" (He.ma K (He.ga K "Ratio") "__eq__")
  me_Ratio___gt__ : Meth K (He.ga K "Ratio") "__gt__" (He.ma K (He.ga K "Ratio") "__gt__")
  g_Rule : mg "Rule" = some (.ref (He.ga K "Rule"))
  o_Rule : Z.OwnC K (He.ga K "Rule")
  mk_Rule : Mk K (He.ga K "Rule") (He.ma K (He.ga K "Rule") "__init__")
  k_Rule_MOST : ∃ u, Con K (He.ga K "Rule") "MOST" (.int 24) u
  k_Rule_SMALL : ∃ u, Con K (He.ga K "Rule") "SMALL" (.int 6) u
  na_Rule_many : NoAttr K (He.ga K "Rule") "many"
  me_Rule_shares : Meth K (He.ga K "Rule") "shares" (He.ma K (He.ga K "Rule") "shares")
  me_Rule_worth : Meth K (He.ga K "Rule") "worth" (He.ma K (He.ga K "Rule") "worth")
  me_Rule_best : Meth K (He.ga K "Rule") "best" (He.ma K (He.ga K "Rule") "best")
  g_Wish : mg "Wish" = some (.ref (He.ga K "Wish"))
  o_Wish : Z.OwnC K (He.ga K "Wish")
  mk_Wish : Mk K (He.ga K "Wish") (He.ma K (He.ga K "Wish") "__init__")
  ki_Wish_Rule : PySem.W.kitOne K (.ref (He.ga K "Wish")) (.ref (He.ga K "Rule")) = some false
  na_Wish_things : NoAttr K (He.ga K "Wish") "things"
  co_Wish : StX.CallO K (He.ga K "Wish") (He.ma K (He.ga K "Wish") "__call__")
  g_Listed : mg "Listed" = some (.ref (He.ga K "Listed"))
  o_Listed : Z.OwnC K (He.ga K "Listed")
  mk_Listed : Mk K (He.ga K "Listed") (He.ma K (He.ga K "Listed") "__init__")
  k_Listed_MOST : ∃ u, Con K (He.ga K "Listed") "MOST" (.int 24) u
  k_Listed_SMALL : ∃ u, Con K (He.ga K "Listed") "SMALL" (.int 6) u
  ki_Listed_Rule : PySem.W.kitOne K (.ref (He.ga K "Listed")) (.ref (He.ga K "Rule")) = some true
  na_Listed_wishes : NoAttr K (He.ga K "Listed") "wishes"
  na_Listed_many : NoAttr K (He.ga K "Listed") "many"
  me_Listed_shares : Meth K (He.ga K "Listed") "shares" (He.ma K (He.ga K "Listed") "shares")
  me_Listed_worth : Meth K (He.ga K "Listed") "worth" (He.ma K (He.ga K "Rule") "worth")
  me_Listed_best : Meth K (He.ga K "Listed") "best" (He.ma K (He.ga K "Rule") "best")
  g_Mixed : mg "Mixed" = some (.ref (He.ga K "Mixed"))
  o_Mixed : Z.OwnC K (He.ga K "Mixed")
  mk_Mixed : Mk K (He.ga K "Mixed") (He.ma K (He.ga K "Mixed") "__init__")
  k_Mixed_MOST : ∃ u, Con K (He.ga K "Mixed") "MOST" (.int 24) u
  k_Mixed_SMALL : ∃ u, Con K (He.ga K "Mixed") "SMALL" (.int 6) u
  ki_Mixed_Rule : PySem.W.kitOne K (.ref (He.ga K "Mixed")) (.ref (He.ga K "Rule")) = some true
  na_Mixed_parts : NoAttr K (He.ga K "Mixed") "parts"
  na_Mixed_many : NoAttr K (He.ga K "Mixed") "many"
  me_Mixed_shares : Meth K (He.ga K "Mixed") "shares" (He.ma K (He.ga K "Mixed") "shares")
  me_Mixed_worth : Meth K (He.ga K "Mixed") "worth" (He.ma K (He.ga K "Rule") "worth")
  me_Mixed_best : Meth K (He.ga K "Mixed") "best" (He.ma K (He.ga K "Rule") "best")
  g_Tabled : mg "Tabled" = some (.ref (He.ga K "Tabled"))
  o_Tabled : Z.OwnC K (He.ga K "Tabled")
  mk_Tabled : Mk K (He.ga K "Tabled") (He.ma K (He.ga K "Tabled") "__init__")
  k_Tabled_MOST : ∃ u, Con K (He.ga K "Tabled") "MOST" (.int 6) u
  k_Tabled_SMALL : ∃ u, Con K (He.ga K "Tabled") "SMALL" (.int 6) u
  ki_Tabled_Rule : PySem.W.kitOne K (.ref (He.ga K "Tabled")) (.ref (He.ga K "Rule")) = some true
  na_Tabled_rows : NoAttr K (He.ga K "Tabled") "rows"
  na_Tabled_many : NoAttr K (He.ga K "Tabled") "many"
  me_Tabled_shares : Meth K (He.ga K "Tabled") "shares" (He.ma K (He.ga K "Tabled") "shares")
  me_Tabled_worth : Meth K (He.ga K "Tabled") "worth" (He.ma K (He.ga K "Rule") "worth")
  me_Tabled_best : Meth K (He.ga K "Tabled") "best" (He.ma K (He.ga K "Rule") "best")
  third : PySem.W.nsIn K PySem.cStatics "thirdparty.any" = some none
  c_BadNumber : ∃ cd, PySem.W.clsIn K (He.ga K "BadNumber") = some cd
  mro_BadNumber_BadNumber : PySem.W.mroIn K (He.ga K "BadNumber") (.ref (He.ga K "BadNumber")) = some true
  c_TooMany : ∃ cd, PySem.W.clsIn K (He.ga K "TooMany") = some cd
  mro_TooMany_TooMany : PySem.W.mroIn K (He.ga K "TooMany") (.ref (He.ga K "TooMany")) = some true
  c_BadWish : ∃ cd, PySem.W.clsIn K (He.ga K "BadWish") = some cd
  mro_BadWish_BadWish : PySem.W.mroIn K (He.ga K "BadWish") (.ref (He.ga K "BadWish")) = some true
  c_Unlike : ∃ cd, PySem.W.clsIn K (He.ga K "Unlike") = some cd
  mro_Unlike_Unlike : PySem.W.mroIn K (He.ga K "Unlike") (.ref (He.ga K "Unlike")) = some true
  c_BadTable : ∃ cd, PySem.W.clsIn K (He.ga K "BadTable") = some cd
  mro_BadTable_BadTable : PySem.W.mroIn K (He.ga K "BadTable") (.ref (He.ga K "BadTable")) = some true
  c_Listed : ∃ cd, PySem.W.clsIn K (He.ga K "Listed") = some cd
  mro_Listed_Listed : PySem.W.mroIn K (He.ga K "Listed") (.ref (He.ga K "Listed")) = some true
  c_Mixed : ∃ cd, PySem.W.clsIn K (He.ga K "Mixed") = some cd
  mro_Mixed_Mixed : PySem.W.mroIn K (He.ga K "Mixed") (.ref (He.ga K "Mixed")) = some true
  c_Tabled : ∃ cd, PySem.W.clsIn K (He.ga K "Tabled") = some cd
  mro_Tabled_Tabled : PySem.W.mroIn K (He.ga K "Tabled") (.ref (He.ga K "Tabled")) = some true
  sm_Listed_Listed___init__ : PySem.W.ks_superIn K (He.ga K "Listed") (He.ga K "Listed") "__init__" = some (some (.ref (He.ma K (He.ga K "Rule") "__init__"))) ∧ PySem.W.typeIn K (.ref (He.ma K (He.ga K "Rule") "__init__")) = some (.type "function") ∧ PySem.W.fnIn K (He.ma K (He.ga K "Rule") "__init__") = true
  sm_Listed_Listed_shares : PySem.W.ks_superIn K (He.ga K "Listed") (He.ga K "Listed") "shares" = some (some (.ref (He.ma K (He.ga K "Rule") "shares"))) ∧ PySem.W.typeIn K (.ref (He.ma K (He.ga K "Rule") "shares")) = some (.type "function") ∧ PySem.W.fnIn K (He.ma K (He.ga K "Rule") "shares") = true
  sm_Mixed_Mixed___init__ : PySem.W.ks_superIn K (He.ga K "Mixed") (He.ga K "Mixed") "__init__" = some (some (.ref (He.ma K (He.ga K "Rule") "__init__"))) ∧ PySem.W.typeIn K (.ref (He.ma K (He.ga K "Rule") "__init__")) = some (.type "function") ∧ PySem.W.fnIn K (He.ma K (He.ga K "Rule") "__init__") = true
  sm_Mixed_Mixed_shares : PySem.W.ks_superIn K (He.ga K "Mixed") (He.ga K "Mixed") "shares" = some (some (.ref (He.ma K (He.ga K "Rule") "shares"))) ∧ PySem.W.typeIn K (.ref (He.ma K (He.ga K "Rule") "shares")) = some (.type "function") ∧ PySem.W.fnIn K (He.ma K (He.ga K "Rule") "shares") = true
  sm_Tabled_Tabled___init__ : PySem.W.ks_superIn K (He.ga K "Tabled") (He.ga K "Tabled") "__init__" = some (some (.ref (He.ma K (He.ga K "Rule") "__init__"))) ∧ PySem.W.typeIn K (.ref (He.ma K (He.ga K "Rule") "__init__")) = some (.type "function") ∧ PySem.W.fnIn K (He.ma K (He.ga K "Rule") "__init__") = true
  sm_Tabled_Tabled_shares : PySem.W.ks_superIn K (He.ga K "Tabled") (He.ga K "Tabled") "shares" = some (some (.ref (He.ma K (He.ga K "Rule") "shares"))) ∧ PySem.W.typeIn K (.ref (He.ma K (He.ga K "Rule") "shares")) = some (.type "function") ∧ PySem.W.fnIn K (He.ma K (He.ga K "Rule") "shares") = true
  F_Ratio___add__ : FunD K "__add__" "Ratio.__add__" (defArgs s_Ratio___add__) (defBody s_Ratio___add__) (defScope s_Ratio___add__) [] [] (He.ma K (He.ga K "Ratio") "__add__") (Z.fdOf K (He.ma K (He.ga K "Ratio") "__add__"))
  b_Ratio___add__ : Binds K (Z.fdOf K (He.ma K (He.ga K "Ratio") "__add__")) ["self", "other"] []
  F_Ratio___eq__ : FunD K "__eq__" "Ratio.__eq__" (defArgs s_Ratio___eq__) (defBody s_Ratio___eq__) (defScope s_Ratio___eq__) [] [] (He.ma K (He.ga K "Ratio") "__eq__") (Z.fdOf K (He.ma K (He.ga K "Ratio") "__eq__"))
  b_Ratio___eq__ : Binds K (Z.fdOf K (He.ma K (He.ga K "Ratio") "__eq__")) ["self", "other"] []
  F_Ratio___gt__ : FunD K "__gt__" "Ratio.__gt__" (defArgs s_Ratio___gt__) (defBody s_Ratio___gt__) (defScope s_Ratio___gt__) [] [] (He.ma K (He.ga K "Ratio") "__gt__") (Z.fdOf K (He.ma K (He.ga K "Ratio") "__gt__"))
  b_Ratio___gt__ : Binds K (Z.fdOf K (He.ma K (He.ga K "Ratio") "__gt__")) ["self", "other"] []
  F_Ratio___init__ : FunD K "__init__" "Ratio.__init__" (defArgs s_Ratio___init__) (defBody s_Ratio___init__) (defScope s_Ratio___init__) [V.int 1] [] (He.ma K (He.ga K "Ratio") "__init__") (Z.fdOf K (He.ma K (He.ga K "Ratio") "__init__"))
  b2_Ratio___init__ : ∃ ds, Vals (([V.int 1] : List V).drop 0) ds ∧ Binds K (Z.fdOf K (He.ma K (He.ga K "Ratio") "__init__")) ["self", "top", "bottom"] ds
  b3_Ratio___init__ : ∃ ds, Vals (([V.int 1] : List V).drop 1) ds ∧ Binds K (Z.fdOf K (He.ma K (He.ga K "Ratio") "__init__")) ["self", "top", "bottom"] ds
  F_Ratio___mul__ : FunD K "__mul__" "Ratio.__mul__" (defArgs s_Ratio___mul__) (defBody s_Ratio___mul__) (defScope s_Ratio___mul__) [] [] (He.ma K (He.ga K "Ratio") "__mul__") (Z.fdOf K (He.ma K (He.ga K "Ratio") "__mul__"))
  b_Ratio___mul__ : Binds K (Z.fdOf K (He.ma K (He.ga K "Ratio") "__mul__")) ["self", "other"] []
  F_Rule___init__ : FunD K "__init__" "Rule.__init__" (defArgs s_Rule___init__) (defBody s_Rule___init__) (defScope s_Rule___init__) [] [] (He.ma K (He.ga K "Rule") "__init__") (Z.fdOf K (He.ma K (He.ga K "Rule") "__init__"))
  b_Rule___init__ : Binds K (Z.fdOf K (He.ma K (He.ga K "Rule") "__init__")) ["self", "many"] []
  F_Rule_best : FunD K "best" "Rule.best" (defArgs s_Rule_best) (defBody s_Rule_best) (defScope s_Rule_best) [] [] (He.ma K (He.ga K "Rule") "best") (Z.fdOf K (He.ma K (He.ga K "Rule") "best"))
  b_Rule_best : Binds K (Z.fdOf K (He.ma K (He.ga K "Rule") "best")) ["self", "prices"] []
  F_Rule_shares : FunD K "shares" "Rule.shares" (defArgs s_Rule_shares) (defBody s_Rule_shares) (defScope s_Rule_shares) [] [] (He.ma K (He.ga K "Rule") "shares") (Z.fdOf K (He.ma K (He.ga K "Rule") "shares"))
  b_Rule_shares : Binds K (Z.fdOf K (He.ma K (He.ga K "Rule") "shares")) ["self", "lot"] []
  F_Rule_worth : FunD K "worth" "Rule.worth" (defArgs s_Rule_worth) (defBody s_Rule_worth) (defScope s_Rule_worth) [] [] (He.ma K (He.ga K "Rule") "worth") (Z.fdOf K (He.ma K (He.ga K "Rule") "worth"))
  b_Rule_worth : Binds K (Z.fdOf K (He.ma K (He.ga K "Rule") "worth")) ["self", "lot", "prices"] []
  F_Wish___call__ : FunD K "__call__" "Wish.__call__" (defArgs s_Wish___call__) (defBody s_Wish___call__) (defScope s_Wish___call__) [] [] (He.ma K (He.ga K "Wish") "__call__") (Z.fdOf K (He.ma K (He.ga K "Wish") "__call__"))
  b_Wish___call__ : Binds K (Z.fdOf K (He.ma K (He.ga K "Wish") "__call__")) ["self", "lot"] []
  F_Wish___init__ : FunD K "__init__" "Wish.__init__" (defArgs s_Wish___init__) (defBody s_Wish___init__) (defScope s_Wish___init__) [] [] (He.ma K (He.ga K "Wish") "__init__") (Z.fdOf K (He.ma K (He.ga K "Wish") "__init__"))
  b_Wish___init__ : Binds K (Z.fdOf K (He.ma K (He.ga K "Wish") "__init__")) ["self", "things"] []
  F__law_asked : FunD K "_law_asked" "_law_asked" (defArgs s__law_asked) (defBody s__law_asked) (defScope s__law_asked) [] [] (He.ga K "_law_asked") (Z.fdOf K (He.ga K "_law_asked"))
  b__law_asked : Binds K (Z.fdOf K (He.ga K "_law_asked")) ["_law_rule", "_law_prices"] []
  F__law_below : FunD K "_law_below" "_law_below" (defArgs s__law_below) (defBody s__law_below) (defScope s__law_below) [] [] (He.ga K "_law_below") (Z.fdOf K (He.ga K "_law_below"))
  b__law_below : Binds K (Z.fdOf K (He.ga K "_law_below")) ["_law_a", "_law_b"] []
  F__law_big : FunD K "_law_big" "_law_big" (defArgs s__law_big) (defBody s__law_big) (defScope s__law_big) [] [] (He.ga K "_law_big") (Z.fdOf K (He.ga K "_law_big"))
  b__law_big : Binds K (Z.fdOf K (He.ga K "_law_big")) ["_law_kind", "_law_many"] []
  F__law_brings : FunD K "_law_brings" "_law_brings" (defArgs s__law_brings) (defBody s__law_brings) (defScope s__law_brings) [] [] (He.ga K "_law_brings") (Z.fdOf K (He.ga K "_law_brings"))
  b__law_brings : Binds K (Z.fdOf K (He.ga K "_law_brings")) ["_law_row_here", "_law_prices"] []
  F__law_cell : FunD K "_law_cell" "_law_cell" (defArgs s__law_cell) (defBody s__law_cell) (defScope s__law_cell) [] [] (He.ga K "_law_cell") (Z.fdOf K (He.ga K "_law_cell"))
  b__law_cell : Binds K (Z.fdOf K (He.ga K "_law_cell")) ["_law_script", "_law_place"] []
  F__law_draws : FunD K "_law_draws" "_law_draws" (defArgs s__law_draws) (defBody s__law_draws) (defScope s__law_draws) [] [] (He.ga K "_law_draws") (Z.fdOf K (He.ga K "_law_draws"))
  b__law_draws : Binds K (Z.fdOf K (He.ga K "_law_draws")) ["_law_cell_here", "_law_sizes"] []
  F__law_filled : FunD K "_law_filled" "_law_filled" (defArgs s__law_filled) (defBody s__law_filled) (defScope s__law_filled) [] [] (He.ga K "_law_filled") (Z.fdOf K (He.ga K "_law_filled"))
  b__law_filled : Binds K (Z.fdOf K (He.ga K "_law_filled")) ["_law_things", "_law_many"] []
  F__law_good : FunD K "_law_good" "_law_good" (defArgs s__law_good) (defBody s__law_good) (defScope s__law_good) [] [] (He.ga K "_law_good") (Z.fdOf K (He.ga K "_law_good"))
  b__law_good : Binds K (Z.fdOf K (He.ga K "_law_good")) ["_law_rule", "_law_rows_here", "_law_prices"] []
  F__law_is_int : FunD K "_law_is_int" "_law_is_int" (defArgs s__law_is_int) (defBody s__law_is_int) (defScope s__law_is_int) [] [] (He.ga K "_law_is_int") (Z.fdOf K (He.ga K "_law_is_int"))
  b__law_is_int : Binds K (Z.fdOf K (He.ga K "_law_is_int")) ["_law_x"] []
  F__law_like : FunD K "_law_like" "_law_like" (defArgs s__law_like) (defBody s__law_like) (defScope s__law_like) [] [] (He.ga K "_law_like") (Z.fdOf K (He.ga K "_law_like"))
  b__law_like : Binds K (Z.fdOf K (He.ga K "_law_like")) ["_law_told", "_law_due"] []
  F__law_listed_rows : FunD K "_law_listed_rows" "_law_listed_rows" (defArgs s__law_listed_rows) (defBody s__law_listed_rows) (defScope s__law_listed_rows) [] [] (He.ga K "_law_listed_rows") (Z.fdOf K (He.ga K "_law_listed_rows"))
  b__law_listed_rows : Binds K (Z.fdOf K (He.ga K "_law_listed_rows")) ["_law_pairs", "_law_many"] []
  F__law_lot : FunD K "_law_lot" "_law_lot" (defArgs s__law_lot) (defBody s__law_lot) (defScope s__law_lot) [] [] (He.ga K "_law_lot") (Z.fdOf K (He.ga K "_law_lot"))
  b__law_lot : Binds K (Z.fdOf K (He.ga K "_law_lot")) ["_law_bits", "_law_many"] []
  F__law_mixed_rows : FunD K "_law_mixed_rows" "_law_mixed_rows" (defArgs s__law_mixed_rows) (defBody s__law_mixed_rows) (defScope s__law_mixed_rows) [] [] (He.ga K "_law_mixed_rows") (Z.fdOf K (He.ga K "_law_mixed_rows"))
  b__law_mixed_rows : Binds K (Z.fdOf K (He.ga K "_law_mixed_rows")) ["_law_first", "_law_second", "_law_buyers"] []
  F__law_pool : FunD K "_law_pool" "_law_pool" (defArgs s__law_pool) (defBody s__law_pool) (defScope s__law_pool) [] [] (He.ga K "_law_pool") (Z.fdOf K (He.ga K "_law_pool"))
  b__law_pool : Binds K (Z.fdOf K (He.ga K "_law_pool")) ["_law_low", "_law_high"] []
  F__law_power : FunD K "_law_power" "_law_power" (defArgs s__law_power) (defBody s__law_power) (defScope s__law_power) [] [] (He.ga K "_law_power") (Z.fdOf K (He.ga K "_law_power"))
  b__law_power : Binds K (Z.fdOf K (He.ga K "_law_power")) ["_law_many"] []
  F__law_row : FunD K "_law_row" "_law_row" (defArgs s__law_row) (defBody s__law_row) (defScope s__law_row) [] [] (He.ga K "_law_row") (Z.fdOf K (He.ga K "_law_row"))
  b__law_row : Binds K (Z.fdOf K (He.ga K "_law_row")) ["_law_cell_here", "_law_count"] []
  F__law_rows : FunD K "_law_rows" "_law_rows" (defArgs s__law_rows) (defBody s__law_rows) (defScope s__law_rows) [] [] (He.ga K "_law_rows") (Z.fdOf K (He.ga K "_law_rows"))
  b__law_rows : Binds K (Z.fdOf K (He.ga K "_law_rows")) ["_law_pool_here", "_law_many"] []
  F__law_same : FunD K "_law_same" "_law_same" (defArgs s__law_same) (defBody s__law_same) (defScope s__law_same) [] [] (He.ga K "_law_same") (Z.fdOf K (He.ga K "_law_same"))
  b__law_same : Binds K (Z.fdOf K (He.ga K "_law_same")) ["_law_x", "_law_top", "_law_bottom"] []
  F__law_same_lot : FunD K "_law_same_lot" "_law_same_lot" (defArgs s__law_same_lot) (defBody s__law_same_lot) (defScope s__law_same_lot) [] [] (He.ga K "_law_same_lot") (Z.fdOf K (He.ga K "_law_same_lot"))
  b__law_same_lot : Binds K (Z.fdOf K (He.ga K "_law_same_lot")) ["_law_x", "_law_due"] []
  F__law_shuffled : FunD K "_law_shuffled" "_law_shuffled" (defArgs s__law_shuffled) (defBody s__law_shuffled) (defScope s__law_shuffled) [] [] (He.ga K "_law_shuffled") (Z.fdOf K (He.ga K "_law_shuffled"))
  b__law_shuffled : Binds K (Z.fdOf K (He.ga K "_law_shuffled")) ["_law_places", "_law_things"] []
  F__law_takers : FunD K "_law_takers" "_law_takers" (defArgs s__law_takers) (defBody s__law_takers) (defScope s__law_takers) [] [] (He.ga K "_law_takers") (Z.fdOf K (He.ga K "_law_takers"))
  b__law_takers : Binds K (Z.fdOf K (He.ga K "_law_takers")) ["_law_pairs", "_law_lot_here", "_law_thing"] []
  F__law_ups : FunD K "_law_ups" "_law_ups" (defArgs s__law_ups) (defBody s__law_ups) (defScope s__law_ups) [] [] (He.ga K "_law_ups") (Z.fdOf K (He.ga K "_law_ups"))
  b__law_ups : Binds K (Z.fdOf K (He.ga K "_law_ups")) ["_law_row_here"] []
  F__law_wishes : FunD K "_law_wishes" "_law_wishes" (defArgs s__law_wishes) (defBody s__law_wishes) (defScope s__law_wishes) [] [] (He.ga K "_law_wishes") (Z.fdOf K (He.ga K "_law_wishes"))
  b__law_wishes : Binds K (Z.fdOf K (He.ga K "_law_wishes")) ["_law_cell_here", "_law_many", "_law_count"] []
  F_check_lot : FunD K "check_lot" "check_lot" (defArgs s_check_lot) (defBody s_check_lot) (defScope s_check_lot) [] [] (He.ga K "check_lot") (Z.fdOf K (He.ga K "check_lot"))
  b_check_lot : Binds K (Z.fdOf K (He.ga K "check_lot")) ["lot", "many"] []
  F_check_prices : FunD K "check_prices" "check_prices" (defArgs s_check_prices) (defBody s_check_prices) (defScope s_check_prices) [] [] (He.ga K "check_prices") (Z.fdOf K (He.ga K "check_prices"))
  b_check_prices : Binds K (Z.fdOf K (He.ga K "check_prices")) ["prices", "many"] []
  F_fits_lot : FunD K "fits_lot" "fits_lot" (defArgs s_fits_lot) (defBody s_fits_lot) (defScope s_fits_lot) [] [] (He.ga K "fits_lot") (Z.fdOf K (He.ga K "fits_lot"))
  b_fits_lot : Binds K (Z.fdOf K (He.ga K "fits_lot")) ["row", "lot", "many"] []
  F_is_wish : FunD K "is_wish" "is_wish" (defArgs s_is_wish) (defBody s_is_wish) (defScope s_is_wish) [] [] (He.ga K "is_wish") (Z.fdOf K (He.ga K "is_wish"))
  b_is_wish : Binds K (Z.fdOf K (He.ga K "is_wish")) ["things"] []
  F_law : FunD K "law" "law" (defArgs s_law) (defBody s_law) (defScope s_law) [] [] (He.ga K "law") (Z.fdOf K (He.ga K "law"))
  b_law : Binds K (Z.fdOf K (He.ga K "law")) ["_law_script"] []
  F_lot_at : FunD K "lot_at" "lot_at" (defArgs s_lot_at) (defBody s_lot_at) (defScope s_lot_at) [] [] (He.ga K "lot_at") (Z.fdOf K (He.ga K "lot_at"))
  b_lot_at : Binds K (Z.fdOf K (He.ga K "lot_at")) ["number", "many"] []
  F_lot_number : FunD K "lot_number" "lot_number" (defArgs s_lot_number) (defBody s_lot_number) (defScope s_lot_number) [] [] (He.ga K "lot_number") (Z.fdOf K (He.ga K "lot_number"))
  b_lot_number : Binds K (Z.fdOf K (He.ga K "lot_number")) ["lot"] []
  F_lots : FunD K "lots" "lots" (defArgs s_lots) (defBody s_lots) (defScope s_lots) [] [] (He.ga K "lots") (Z.fdOf K (He.ga K "lots"))
  b_lots : Binds K (Z.fdOf K (He.ga K "lots")) ["many"] []
  F_lowest : FunD K "lowest" "lowest" (defArgs s_lowest) (defBody s_lowest) (defScope s_lowest) [] [] (He.ga K "lowest") (Z.fdOf K (He.ga K "lowest"))
  b_lowest : Binds K (Z.fdOf K (He.ga K "lowest")) ["row"] []
  F_BadNumber___init__ : Z.FunS P K "__init__" "BadNumber.__init__" (defArgs s_BadNumber___init__) (defBody s_BadNumber___init__) (defScope s_BadNumber___init__) (He.ga K "BadNumber") (He.ma K (He.ga K "BadNumber") "__init__") (Z.fdOf K (He.ma K (He.ga K "BadNumber") "__init__"))
  b_BadNumber___init__ : Binds K (Z.fdOf K (He.ma K (He.ga K "BadNumber") "__init__")) ["self", "what", "at"] []
  F_BadTable___init__ : Z.FunS P K "__init__" "BadTable.__init__" (defArgs s_BadTable___init__) (defBody s_BadTable___init__) (defScope s_BadTable___init__) (He.ga K "BadTable") (He.ma K (He.ga K "BadTable") "__init__") (Z.fdOf K (He.ma K (He.ga K "BadTable") "__init__"))
  b_BadTable___init__ : Binds K (Z.fdOf K (He.ma K (He.ga K "BadTable") "__init__")) ["self", "at"] []
  F_BadWish___init__ : Z.FunS P K "__init__" "BadWish.__init__" (defArgs s_BadWish___init__) (defBody s_BadWish___init__) (defScope s_BadWish___init__) (He.ga K "BadWish") (He.ma K (He.ga K "BadWish") "__init__") (Z.fdOf K (He.ma K (He.ga K "BadWish") "__init__"))
  b_BadWish___init__ : Binds K (Z.fdOf K (He.ma K (He.ga K "BadWish") "__init__")) ["self", "at"] []
  F_Listed___init__ : Z.FunS P K "__init__" "Listed.__init__" (defArgs s_Listed___init__) (defBody s_Listed___init__) (defScope s_Listed___init__) (He.ga K "Listed") (He.ma K (He.ga K "Listed") "__init__") (Z.fdOf K (He.ma K (He.ga K "Listed") "__init__"))
  b_Listed___init__ : Binds K (Z.fdOf K (He.ma K (He.ga K "Listed") "__init__")) ["self", "many", "wishes"] []
  F_Listed_shares : Z.FunS P K "shares" "Listed.shares" (defArgs s_Listed_shares) (defBody s_Listed_shares) (defScope s_Listed_shares) (He.ga K "Listed") (He.ma K (He.ga K "Listed") "shares") (Z.fdOf K (He.ma K (He.ga K "Listed") "shares"))
  b_Listed_shares : Binds K (Z.fdOf K (He.ma K (He.ga K "Listed") "shares")) ["self", "lot"] []
  F_Mixed___init__ : Z.FunS P K "__init__" "Mixed.__init__" (defArgs s_Mixed___init__) (defBody s_Mixed___init__) (defScope s_Mixed___init__) (He.ga K "Mixed") (He.ma K (He.ga K "Mixed") "__init__") (Z.fdOf K (He.ma K (He.ga K "Mixed") "__init__"))
  bs_Mixed___init__ : Z.BindsS (Z.fdOf K (He.ma K (He.ga K "Mixed") "__init__")) ["self"] "parts"
  F_Mixed_shares : Z.FunS P K "shares" "Mixed.shares" (defArgs s_Mixed_shares) (defBody s_Mixed_shares) (defScope s_Mixed_shares) (He.ga K "Mixed") (He.ma K (He.ga K "Mixed") "shares") (Z.fdOf K (He.ma K (He.ga K "Mixed") "shares"))
  b_Mixed_shares : Binds K (Z.fdOf K (He.ma K (He.ga K "Mixed") "shares")) ["self", "lot"] []
  F_Tabled___init__ : Z.FunS P K "__init__" "Tabled.__init__" (defArgs s_Tabled___init__) (defBody s_Tabled___init__) (defScope s_Tabled___init__) (He.ga K "Tabled") (He.ma K (He.ga K "Tabled") "__init__") (Z.fdOf K (He.ma K (He.ga K "Tabled") "__init__"))
  b_Tabled___init__ : Binds K (Z.fdOf K (He.ma K (He.ga K "Tabled") "__init__")) ["self", "many", "rows"] []
  F_Tabled_shares : Z.FunS P K "shares" "Tabled.shares" (defArgs s_Tabled_shares) (defBody s_Tabled_shares) (defScope s_Tabled_shares) (He.ga K "Tabled") (He.ma K (He.ga K "Tabled") "shares") (Z.fdOf K (He.ma K (He.ga K "Tabled") "shares"))
  b_Tabled_shares : Binds K (Z.fdOf K (He.ma K (He.ga K "Tabled") "shares")) ["self", "lot"] []
  F_TooMany___init__ : Z.FunS P K "__init__" "TooMany.__init__" (defArgs s_TooMany___init__) (defBody s_TooMany___init__) (defScope s_TooMany___init__) (He.ga K "TooMany") (He.ma K (He.ga K "TooMany") "__init__") (Z.fdOf K (He.ma K (He.ga K "TooMany") "__init__"))
  b_TooMany___init__ : Binds K (Z.fdOf K (He.ma K (He.ga K "TooMany") "__init__")) ["self", "many", "most"] []
  F_Unlike___init__ : Z.FunS P K "__init__" "Unlike.__init__" (defArgs s_Unlike___init__) (defBody s_Unlike___init__) (defScope s_Unlike___init__) (He.ga K "Unlike") (He.ma K (He.ga K "Unlike") "__init__") (Z.fdOf K (He.ma K (He.ga K "Unlike") "__init__"))
  b_Unlike___init__ : Binds K (Z.fdOf K (He.ma K (He.ga K "Unlike") "__init__")) ["self", "at"] []
  p_top : (P.main.scope.names.lookup ("super" : Str)).isSome = false
variable {P : Program} {w : World} {K : PySem.W.Frag} {mg : Str → Option Value} {base : Heap}
def d_Ratio___add__ : He.DefD := ⟨("Ratio", some "__add__"), "__add__", "Ratio.__add__", defArgs s_Ratio___add__, defBody s_Ratio___add__, defScope s_Ratio___add__, [], []⟩
def d_Ratio___eq__ : He.DefD := ⟨("Ratio", some "__eq__"), "__eq__", "Ratio.__eq__", defArgs s_Ratio___eq__, defBody s_Ratio___eq__, defScope s_Ratio___eq__, [], []⟩
def d_Ratio___gt__ : He.DefD := ⟨("Ratio", some "__gt__"), "__gt__", "Ratio.__gt__", defArgs s_Ratio___gt__, defBody s_Ratio___gt__, defScope s_Ratio___gt__, [], []⟩
def d_Ratio___init__ : He.DefD := ⟨("Ratio", some "__init__"), "__init__", "Ratio.__init__", defArgs s_Ratio___init__, defBody s_Ratio___init__, defScope s_Ratio___init__, [.int 1], []⟩
def d_Ratio___mul__ : He.DefD := ⟨("Ratio", some "__mul__"), "__mul__", "Ratio.__mul__", defArgs s_Ratio___mul__, defBody s_Ratio___mul__, defScope s_Ratio___mul__, [], []⟩
def d_Rule___init__ : He.DefD := ⟨("Rule", some "__init__"), "__init__", "Rule.__init__", defArgs s_Rule___init__, defBody s_Rule___init__, defScope s_Rule___init__, [], []⟩
def d_Rule_best : He.DefD := ⟨("Rule", some "best"), "best", "Rule.best", defArgs s_Rule_best, defBody s_Rule_best, defScope s_Rule_best, [], []⟩
def d_Rule_shares : He.DefD := ⟨("Rule", some "shares"), "shares", "Rule.shares", defArgs s_Rule_shares, defBody s_Rule_shares, defScope s_Rule_shares, [], []⟩
def d_Rule_worth : He.DefD := ⟨("Rule", some "worth"), "worth", "Rule.worth", defArgs s_Rule_worth, defBody s_Rule_worth, defScope s_Rule_worth, [], []⟩
def d_Wish___call__ : He.DefD := ⟨("Wish", some "__call__"), "__call__", "Wish.__call__", defArgs s_Wish___call__, defBody s_Wish___call__, defScope s_Wish___call__, [], []⟩
def d_Wish___init__ : He.DefD := ⟨("Wish", some "__init__"), "__init__", "Wish.__init__", defArgs s_Wish___init__, defBody s_Wish___init__, defScope s_Wish___init__, [], []⟩
def d__law_asked : He.DefD := ⟨("_law_asked", none), "_law_asked", "_law_asked", defArgs s__law_asked, defBody s__law_asked, defScope s__law_asked, [], []⟩
def d__law_below : He.DefD := ⟨("_law_below", none), "_law_below", "_law_below", defArgs s__law_below, defBody s__law_below, defScope s__law_below, [], []⟩
def d__law_big : He.DefD := ⟨("_law_big", none), "_law_big", "_law_big", defArgs s__law_big, defBody s__law_big, defScope s__law_big, [], []⟩
def d__law_brings : He.DefD := ⟨("_law_brings", none), "_law_brings", "_law_brings", defArgs s__law_brings, defBody s__law_brings, defScope s__law_brings, [], []⟩
def d__law_cell : He.DefD := ⟨("_law_cell", none), "_law_cell", "_law_cell", defArgs s__law_cell, defBody s__law_cell, defScope s__law_cell, [], []⟩
def d__law_draws : He.DefD := ⟨("_law_draws", none), "_law_draws", "_law_draws", defArgs s__law_draws, defBody s__law_draws, defScope s__law_draws, [], []⟩
def d__law_filled : He.DefD := ⟨("_law_filled", none), "_law_filled", "_law_filled", defArgs s__law_filled, defBody s__law_filled, defScope s__law_filled, [], []⟩
def d__law_good : He.DefD := ⟨("_law_good", none), "_law_good", "_law_good", defArgs s__law_good, defBody s__law_good, defScope s__law_good, [], []⟩
def d__law_is_int : He.DefD := ⟨("_law_is_int", none), "_law_is_int", "_law_is_int", defArgs s__law_is_int, defBody s__law_is_int, defScope s__law_is_int, [], []⟩
def d__law_like : He.DefD := ⟨("_law_like", none), "_law_like", "_law_like", defArgs s__law_like, defBody s__law_like, defScope s__law_like, [], []⟩
def d__law_listed_rows : He.DefD := ⟨("_law_listed_rows", none), "_law_listed_rows", "_law_listed_rows", defArgs s__law_listed_rows, defBody s__law_listed_rows, defScope s__law_listed_rows, [], []⟩
def d__law_lot : He.DefD := ⟨("_law_lot", none), "_law_lot", "_law_lot", defArgs s__law_lot, defBody s__law_lot, defScope s__law_lot, [], []⟩
def d__law_mixed_rows : He.DefD := ⟨("_law_mixed_rows", none), "_law_mixed_rows", "_law_mixed_rows", defArgs s__law_mixed_rows, defBody s__law_mixed_rows, defScope s__law_mixed_rows, [], []⟩
def d__law_pool : He.DefD := ⟨("_law_pool", none), "_law_pool", "_law_pool", defArgs s__law_pool, defBody s__law_pool, defScope s__law_pool, [], []⟩
def d__law_power : He.DefD := ⟨("_law_power", none), "_law_power", "_law_power", defArgs s__law_power, defBody s__law_power, defScope s__law_power, [], []⟩
def d__law_row : He.DefD := ⟨("_law_row", none), "_law_row", "_law_row", defArgs s__law_row, defBody s__law_row, defScope s__law_row, [], []⟩
def d__law_rows : He.DefD := ⟨("_law_rows", none), "_law_rows", "_law_rows", defArgs s__law_rows, defBody s__law_rows, defScope s__law_rows, [], []⟩
def d__law_same : He.DefD := ⟨("_law_same", none), "_law_same", "_law_same", defArgs s__law_same, defBody s__law_same, defScope s__law_same, [], []⟩
def d__law_same_lot : He.DefD := ⟨("_law_same_lot", none), "_law_same_lot", "_law_same_lot", defArgs s__law_same_lot, defBody s__law_same_lot, defScope s__law_same_lot, [], []⟩
def d__law_shuffled : He.DefD := ⟨("_law_shuffled", none), "_law_shuffled", "_law_shuffled", defArgs s__law_shuffled, defBody s__law_shuffled, defScope s__law_shuffled, [], []⟩
def d__law_takers : He.DefD := ⟨("_law_takers", none), "_law_takers", "_law_takers", defArgs s__law_takers, defBody s__law_takers, defScope s__law_takers, [], []⟩
def d__law_ups : He.DefD := ⟨("_law_ups", none), "_law_ups", "_law_ups", defArgs s__law_ups, defBody s__law_ups, defScope s__law_ups, [], []⟩
def d__law_wishes : He.DefD := ⟨("_law_wishes", none), "_law_wishes", "_law_wishes", defArgs s__law_wishes, defBody s__law_wishes, defScope s__law_wishes, [], []⟩
def d_check_lot : He.DefD := ⟨("check_lot", none), "check_lot", "check_lot", defArgs s_check_lot, defBody s_check_lot, defScope s_check_lot, [], []⟩
def d_check_prices : He.DefD := ⟨("check_prices", none), "check_prices", "check_prices", defArgs s_check_prices, defBody s_check_prices, defScope s_check_prices, [], []⟩
def d_fits_lot : He.DefD := ⟨("fits_lot", none), "fits_lot", "fits_lot", defArgs s_fits_lot, defBody s_fits_lot, defScope s_fits_lot, [], []⟩
def d_is_wish : He.DefD := ⟨("is_wish", none), "is_wish", "is_wish", defArgs s_is_wish, defBody s_is_wish, defScope s_is_wish, [], []⟩
def d_law : He.DefD := ⟨("law", none), "law", "law", defArgs s_law, defBody s_law, defScope s_law, [], []⟩
def d_lot_at : He.DefD := ⟨("lot_at", none), "lot_at", "lot_at", defArgs s_lot_at, defBody s_lot_at, defScope s_lot_at, [], []⟩
def d_lot_number : He.DefD := ⟨("lot_number", none), "lot_number", "lot_number", defArgs s_lot_number, defBody s_lot_number, defScope s_lot_number, [], []⟩
def d_lots : He.DefD := ⟨("lots", none), "lots", "lots", defArgs s_lots, defBody s_lots, defScope s_lots, [], []⟩
def d_lowest : He.DefD := ⟨("lowest", none), "lowest", "lowest", defArgs s_lowest, defBody s_lowest, defScope s_lowest, [], []⟩
def d_BadNumber___init__ : He.DefD := ⟨("BadNumber", some "__init__"), "__init__", "BadNumber.__init__", defArgs s_BadNumber___init__, defBody s_BadNumber___init__, defScope s_BadNumber___init__, [], []⟩
def d_BadTable___init__ : He.DefD := ⟨("BadTable", some "__init__"), "__init__", "BadTable.__init__", defArgs s_BadTable___init__, defBody s_BadTable___init__, defScope s_BadTable___init__, [], []⟩
def d_BadWish___init__ : He.DefD := ⟨("BadWish", some "__init__"), "__init__", "BadWish.__init__", defArgs s_BadWish___init__, defBody s_BadWish___init__, defScope s_BadWish___init__, [], []⟩
def d_Listed___init__ : He.DefD := ⟨("Listed", some "__init__"), "__init__", "Listed.__init__", defArgs s_Listed___init__, defBody s_Listed___init__, defScope s_Listed___init__, [], []⟩
def d_Listed_shares : He.DefD := ⟨("Listed", some "shares"), "shares", "Listed.shares", defArgs s_Listed_shares, defBody s_Listed_shares, defScope s_Listed_shares, [], []⟩
def d_Mixed___init__ : He.DefD := ⟨("Mixed", some "__init__"), "__init__", "Mixed.__init__", defArgs s_Mixed___init__, defBody s_Mixed___init__, defScope s_Mixed___init__, [], []⟩
def d_Mixed_shares : He.DefD := ⟨("Mixed", some "shares"), "shares", "Mixed.shares", defArgs s_Mixed_shares, defBody s_Mixed_shares, defScope s_Mixed_shares, [], []⟩
def d_Tabled___init__ : He.DefD := ⟨("Tabled", some "__init__"), "__init__", "Tabled.__init__", defArgs s_Tabled___init__, defBody s_Tabled___init__, defScope s_Tabled___init__, [], []⟩
def d_Tabled_shares : He.DefD := ⟨("Tabled", some "shares"), "shares", "Tabled.shares", defArgs s_Tabled_shares, defBody s_Tabled_shares, defScope s_Tabled_shares, [], []⟩
def d_TooMany___init__ : He.DefD := ⟨("TooMany", some "__init__"), "__init__", "TooMany.__init__", defArgs s_TooMany___init__, defBody s_TooMany___init__, defScope s_TooMany___init__, [], []⟩
def d_Unlike___init__ : He.DefD := ⟨("Unlike", some "__init__"), "__init__", "Unlike.__init__", defArgs s_Unlike___init__, defBody s_Unlike___init__, defScope s_Unlike___init__, [], []⟩
def fs : List He.DefD := [d_BadNumber___init__, d_BadTable___init__, d_BadWish___init__, d_Listed___init__, d_Listed_shares, d_Mixed___init__, d_Mixed_shares, d_Tabled___init__, d_Tabled_shares, d_TooMany___init__, d_Unlike___init__]
def fn : List He.DefD := [d_Ratio___add__, d_Ratio___eq__, d_Ratio___gt__, d_Ratio___init__, d_Ratio___mul__, d_Rule___init__, d_Rule_best, d_Rule_shares, d_Rule_worth, d_Wish___call__, d_Wish___init__, d__law_asked, d__law_below, d__law_big, d__law_brings, d__law_cell, d__law_draws, d__law_filled, d__law_good, d__law_is_int, d__law_like, d__law_listed_rows, d__law_lot, d__law_mixed_rows, d__law_pool, d__law_power, d__law_row, d__law_rows, d__law_same, d__law_same_lot, d__law_shuffled, d__law_takers, d__law_ups, d__law_wishes, d_check_lot, d_check_prices, d_fits_lot, d_is_wish, d_law, d_lot_at, d_lot_number, d_lots, d_lowest]
def fa : List (PySem.W.Frag → Bool) := [(He.Fa.free "any").ok,
  (He.Fa.free "bool").ok,
  (He.Fa.free "enumerate").ok,
  (He.Fa.free "int").ok,
  (He.Fa.free "isinstance").ok,
  (He.Fa.free "len").ok,
  (He.Fa.free "list").ok,
  (He.Fa.free "max").ok,
  (He.Fa.free "range").ok,
  (He.Fa.free "set").ok,
  (He.Fa.free "str").ok,
  (He.Fa.free "sum").ok,
  (He.Fa.free "super").ok,
  (He.Fa.free "tuple").ok,
  Z.bltB "gcd" "math.gcd",
  (He.Fa.glo "_law_asked").ok,
  (He.Fa.glo "_law_below").ok,
  (He.Fa.glo "_law_big").ok,
  (He.Fa.glo "_law_brings").ok,
  (He.Fa.glo "_law_cell").ok,
  (He.Fa.glo "_law_draws").ok,
  (He.Fa.glo "_law_filled").ok,
  (He.Fa.glo "_law_good").ok,
  (He.Fa.glo "_law_is_int").ok,
  (He.Fa.glo "_law_like").ok,
  (He.Fa.glo "_law_listed_rows").ok,
  (He.Fa.glo "_law_lot").ok,
  (He.Fa.glo "_law_mixed_rows").ok,
  (He.Fa.glo "_law_pool").ok,
  (He.Fa.glo "_law_power").ok,
  (He.Fa.glo "_law_row").ok,
  (He.Fa.glo "_law_rows").ok,
  (He.Fa.glo "_law_same").ok,
  (He.Fa.glo "_law_same_lot").ok,
  (He.Fa.glo "_law_shuffled").ok,
  (He.Fa.glo "_law_takers").ok,
  (He.Fa.glo "_law_ups").ok,
  (He.Fa.glo "_law_wishes").ok,
  (He.Fa.glo "check_lot").ok,
  (He.Fa.glo "check_prices").ok,
  (He.Fa.glo "fits_lot").ok,
  (He.Fa.glo "is_wish").ok,
  (He.Fa.glo "law").ok,
  (He.Fa.glo "lot_at").ok,
  (He.Fa.glo "lot_number").ok,
  (He.Fa.glo "lots").ok,
  (He.Fa.glo "lowest").ok,
  Z.exmB "ShelfError" "BadNumber" false,
  Z.exmB "ShelfError" "TooMany" false,
  (He.Fa.glo "ZeroBottom").ok,
  Z.exmB "ZeroBottom" "BadNumber" false,
  Z.exmB "ZeroBottom" "TooMany" false,
  (He.Fa.exc "ZeroBottom").ok,
  Z.exmB "BadText" "BadNumber" false,
  Z.exmB "BadText" "TooMany" false,
  (He.Fa.glo "BadLot").ok,
  Z.exmB "BadLot" "BadNumber" false,
  Z.exmB "BadLot" "TooMany" false,
  (He.Fa.exc "BadLot").ok,
  (He.Fa.glo "NoBuyers").ok,
  Z.exmB "NoBuyers" "BadNumber" false,
  Z.exmB "NoBuyers" "TooMany" false,
  (He.Fa.exc "NoBuyers").ok,
  (He.Fa.glo "BadNumber").ok,
  Z.xfcB "BadNumber",
  Z.oexB "BadNumber",
  Z.supiB "BadNumber",
  Z.nometB "BadNumber" "what",
  Z.nometB "BadNumber" "at",
  Z.exmB "BadNumber" "BadNumber" true,
  Z.exmB "BadNumber" "TooMany" false,
  (He.Fa.glo "TooMany").ok,
  Z.xfcB "TooMany",
  Z.oexB "TooMany",
  Z.supiB "TooMany",
  Z.nometB "TooMany" "many",
  Z.nometB "TooMany" "most",
  Z.exmB "TooMany" "BadNumber" false,
  Z.exmB "TooMany" "TooMany" true,
  (He.Fa.glo "BadWish").ok,
  Z.oexB "BadWish",
  Z.supiB "BadWish",
  Z.nometB "BadWish" "at",
  Z.exmB "BadWish" "BadNumber" false,
  Z.exmB "BadWish" "TooMany" false,
  (He.Fa.glo "Unlike").ok,
  Z.oexB "Unlike",
  Z.supiB "Unlike",
  Z.nometB "Unlike" "at",
  Z.exmB "Unlike" "BadNumber" false,
  Z.exmB "Unlike" "TooMany" false,
  (He.Fa.glo "BadTable").ok,
  Z.oexB "BadTable",
  Z.supiB "BadTable",
  Z.nometB "BadTable" "at",
  Z.exmB "BadTable" "BadNumber" false,
  Z.exmB "BadTable" "TooMany" false,
  (He.Fa.glo "Ratio").ok,
  (fun K => Z.ownB K "Ratio"),
  Z.mkrB "Ratio" "Ratio",
  Z.kitB2 "Ratio" "Rule" false,
  (He.Fa.noat "Ratio" "top").ok,
  (He.Fa.noat "Ratio" "bottom").ok,
  Z.methB "Ratio" "__add__" "Ratio",
  Z.methB "Ratio" "__mul__" "Ratio",
  Z.methB "Ratio" "__rmul__" "Ratio",
  Z.methB "Ratio" "__eq__" "Ratio",
  Z.methB "Ratio" "__gt__" "Ratio",
  (He.Fa.glo "Rule").ok,
  (fun K => Z.ownB K "Rule"),
  Z.mkrB "Rule" "Rule",
  Z.conIB "Rule" "MOST" 24,
  Z.conIB "Rule" "SMALL" 6,
  (He.Fa.noat "Rule" "many").ok,
  Z.methB "Rule" "shares" "Rule",
  Z.methB "Rule" "worth" "Rule",
  Z.methB "Rule" "best" "Rule",
  (He.Fa.glo "Wish").ok,
  (fun K => Z.ownB K "Wish"),
  Z.mkrB "Wish" "Wish",
  Z.kitB2 "Wish" "Rule" false,
  (He.Fa.noat "Wish" "things").ok,
  Z.callB "Wish" "Wish",
  (He.Fa.glo "Listed").ok,
  (fun K => Z.ownB K "Listed"),
  Z.mkrB "Listed" "Listed",
  Z.conIB "Listed" "MOST" 24,
  Z.conIB "Listed" "SMALL" 6,
  Z.kitB2 "Listed" "Rule" true,
  (He.Fa.noat "Listed" "wishes").ok,
  (He.Fa.noat "Listed" "many").ok,
  Z.methB "Listed" "shares" "Listed",
  Z.methB "Listed" "worth" "Rule",
  Z.methB "Listed" "best" "Rule",
  (He.Fa.glo "Mixed").ok,
  (fun K => Z.ownB K "Mixed"),
  Z.mkrB "Mixed" "Mixed",
  Z.conIB "Mixed" "MOST" 24,
  Z.conIB "Mixed" "SMALL" 6,
  Z.kitB2 "Mixed" "Rule" true,
  (He.Fa.noat "Mixed" "parts").ok,
  (He.Fa.noat "Mixed" "many").ok,
  Z.methB "Mixed" "shares" "Mixed",
  Z.methB "Mixed" "worth" "Rule",
  Z.methB "Mixed" "best" "Rule",
  (He.Fa.glo "Tabled").ok,
  (fun K => Z.ownB K "Tabled"),
  Z.mkrB "Tabled" "Tabled",
  Z.conIB "Tabled" "MOST" 6,
  Z.conIB "Tabled" "SMALL" 6,
  Z.kitB2 "Tabled" "Rule" true,
  (He.Fa.noat "Tabled" "rows").ok,
  (He.Fa.noat "Tabled" "many").ok,
  Z.methB "Tabled" "shares" "Tabled",
  Z.methB "Tabled" "worth" "Rule",
  Z.methB "Tabled" "best" "Rule",
  Z.thirdB,
  Z.clsB "BadNumber",
  Z.mroB "BadNumber" "BadNumber",
  Z.clsB "TooMany",
  Z.mroB "TooMany" "TooMany",
  Z.clsB "BadWish",
  Z.mroB "BadWish" "BadWish",
  Z.clsB "Unlike",
  Z.mroB "Unlike" "Unlike",
  Z.clsB "BadTable",
  Z.mroB "BadTable" "BadTable",
  Z.clsB "Listed",
  Z.mroB "Listed" "Listed",
  Z.clsB "Mixed",
  Z.mroB "Mixed" "Mixed",
  Z.clsB "Tabled",
  Z.mroB "Tabled" "Tabled",
  Z.supmB "Listed" "Listed" "__init__" "Rule",
  Z.supmB "Listed" "Listed" "shares" "Rule",
  Z.supmB "Mixed" "Mixed" "__init__" "Rule",
  Z.supmB "Mixed" "Mixed" "shares" "Rule",
  Z.supmB "Tabled" "Tabled" "__init__" "Rule",
  Z.supmB "Tabled" "Tabled" "shares" "Rule",
  Z.supB d_BadNumber___init__ "BadNumber" PySem.Challenge.pw_dearestshelf_k27_best_of_all_lots.main.file,
  Z.supB d_BadTable___init__ "BadTable" PySem.Challenge.pw_dearestshelf_k27_best_of_all_lots.main.file,
  Z.supB d_BadWish___init__ "BadWish" PySem.Challenge.pw_dearestshelf_k27_best_of_all_lots.main.file,
  Z.supB d_Listed___init__ "Listed" PySem.Challenge.pw_dearestshelf_k27_best_of_all_lots.main.file,
  Z.supB d_Listed_shares "Listed" PySem.Challenge.pw_dearestshelf_k27_best_of_all_lots.main.file,
  Z.supB d_Mixed___init__ "Mixed" PySem.Challenge.pw_dearestshelf_k27_best_of_all_lots.main.file,
  Z.supB d_Mixed_shares "Mixed" PySem.Challenge.pw_dearestshelf_k27_best_of_all_lots.main.file,
  Z.supB d_Tabled___init__ "Tabled" PySem.Challenge.pw_dearestshelf_k27_best_of_all_lots.main.file,
  Z.supB d_Tabled_shares "Tabled" PySem.Challenge.pw_dearestshelf_k27_best_of_all_lots.main.file,
  Z.supB d_TooMany___init__ "TooMany" PySem.Challenge.pw_dearestshelf_k27_best_of_all_lots.main.file,
  Z.supB d_Unlike___init__ "Unlike" PySem.Challenge.pw_dearestshelf_k27_best_of_all_lots.main.file]
abbrev Rw : PySem.W.OpenRow := PySem.W.OpenLaw.row PySem.Challenge.rw_dearestshelf_k27_best_of_all_lots
abbrev hk : PySem.W.Hook := Z.hookY 5 fa fn fs
def ob (s : PySem.W.SharedT) : He.AlD := Z.obsY 5 fa fn fs (HandSHeadRun.getT s)
theorem ob_eq (s : PySem.W.SharedT) : ob s = hk.obs s.abs := Z.obsY_eq (HandSHeadRun.getT_eq s)
def fa1 : List (PySem.W.Frag → Bool) := [(He.Fa.free "any").ok,
  (He.Fa.free "bool").ok,
  (He.Fa.free "enumerate").ok,
  (He.Fa.free "int").ok,
  (He.Fa.free "isinstance").ok,
  (He.Fa.free "len").ok,
  (He.Fa.free "list").ok,
  (He.Fa.free "max").ok,
  (He.Fa.free "range").ok,
  (He.Fa.free "set").ok,
  (He.Fa.free "str").ok,
  (He.Fa.free "sum").ok,
  (He.Fa.free "super").ok,
  (He.Fa.free "tuple").ok,
  Z.bltB "gcd" "math.gcd",
  (He.Fa.glo "_law_asked").ok,
  (He.Fa.glo "_law_below").ok,
  (He.Fa.glo "_law_big").ok,
  (He.Fa.glo "_law_brings").ok,
  (He.Fa.glo "_law_cell").ok,
  (He.Fa.glo "_law_draws").ok,
  (He.Fa.glo "_law_filled").ok,
  (He.Fa.glo "_law_good").ok,
  (He.Fa.glo "_law_is_int").ok,
  (He.Fa.glo "_law_like").ok,
  (He.Fa.glo "_law_listed_rows").ok,
  (He.Fa.glo "_law_lot").ok,
  (He.Fa.glo "_law_mixed_rows").ok,
  (He.Fa.glo "_law_pool").ok,
  (He.Fa.glo "_law_power").ok,
  (He.Fa.glo "_law_row").ok,
  (He.Fa.glo "_law_rows").ok,
  (He.Fa.glo "_law_same").ok,
  (He.Fa.glo "_law_same_lot").ok,
  (He.Fa.glo "_law_shuffled").ok,
  (He.Fa.glo "_law_takers").ok,
  (He.Fa.glo "_law_ups").ok,
  (He.Fa.glo "_law_wishes").ok,
  (He.Fa.glo "check_lot").ok,
  (He.Fa.glo "check_prices").ok,
  (He.Fa.glo "fits_lot").ok,
  (He.Fa.glo "is_wish").ok,
  (He.Fa.glo "law").ok,
  (He.Fa.glo "lot_at").ok,
  (He.Fa.glo "lot_number").ok,
  (He.Fa.glo "lots").ok,
  (He.Fa.glo "lowest").ok,
  Z.exmB "ShelfError" "BadNumber" false,
  Z.exmB "ShelfError" "TooMany" false,
  (He.Fa.glo "ZeroBottom").ok,
  Z.exmB "ZeroBottom" "BadNumber" false,
  Z.exmB "ZeroBottom" "TooMany" false,
  (He.Fa.exc "ZeroBottom").ok,
  Z.exmB "BadText" "BadNumber" false,
  Z.exmB "BadText" "TooMany" false,
  (He.Fa.glo "BadLot").ok,
  Z.exmB "BadLot" "BadNumber" false,
  Z.exmB "BadLot" "TooMany" false,
  (He.Fa.exc "BadLot").ok,
  (He.Fa.glo "NoBuyers").ok,
  Z.exmB "NoBuyers" "BadNumber" false,
  Z.exmB "NoBuyers" "TooMany" false,
  (He.Fa.exc "NoBuyers").ok,
  (He.Fa.glo "BadNumber").ok,
  Z.xfcB "BadNumber",
  Z.oexB "BadNumber",
  Z.supiB "BadNumber",
  Z.nometB "BadNumber" "what",
  Z.nometB "BadNumber" "at",
  Z.exmB "BadNumber" "BadNumber" true,
  Z.exmB "BadNumber" "TooMany" false,
  (He.Fa.glo "TooMany").ok,
  Z.xfcB "TooMany",
  Z.oexB "TooMany",
  Z.supiB "TooMany",
  Z.nometB "TooMany" "many",
  Z.nometB "TooMany" "most",
  Z.exmB "TooMany" "BadNumber" false,
  Z.exmB "TooMany" "TooMany" true,
  (He.Fa.glo "BadWish").ok,
  Z.oexB "BadWish",
  Z.supiB "BadWish",
  Z.nometB "BadWish" "at",
  Z.exmB "BadWish" "BadNumber" false,
  Z.exmB "BadWish" "TooMany" false,
  (He.Fa.glo "Unlike").ok,
  Z.oexB "Unlike",
  Z.supiB "Unlike",
  Z.nometB "Unlike" "at",
  Z.exmB "Unlike" "BadNumber" false,
  Z.exmB "Unlike" "TooMany" false,
  (He.Fa.glo "BadTable").ok,
  Z.oexB "BadTable",
  Z.supiB "BadTable",
  Z.nometB "BadTable" "at"]
def fa2 : List (PySem.W.Frag → Bool) := [Z.exmB "BadTable" "BadNumber" false,
  Z.exmB "BadTable" "TooMany" false,
  (He.Fa.glo "Ratio").ok,
  (fun K => Z.ownB K "Ratio"),
  Z.mkrB "Ratio" "Ratio",
  Z.kitB2 "Ratio" "Rule" false,
  (He.Fa.noat "Ratio" "top").ok,
  (He.Fa.noat "Ratio" "bottom").ok,
  Z.methB "Ratio" "__add__" "Ratio",
  Z.methB "Ratio" "__mul__" "Ratio",
  Z.methB "Ratio" "__rmul__" "Ratio",
  Z.methB "Ratio" "__eq__" "Ratio",
  Z.methB "Ratio" "__gt__" "Ratio",
  (He.Fa.glo "Rule").ok,
  (fun K => Z.ownB K "Rule"),
  Z.mkrB "Rule" "Rule",
  Z.conIB "Rule" "MOST" 24,
  Z.conIB "Rule" "SMALL" 6,
  (He.Fa.noat "Rule" "many").ok,
  Z.methB "Rule" "shares" "Rule",
  Z.methB "Rule" "worth" "Rule",
  Z.methB "Rule" "best" "Rule",
  (He.Fa.glo "Wish").ok,
  (fun K => Z.ownB K "Wish"),
  Z.mkrB "Wish" "Wish",
  Z.kitB2 "Wish" "Rule" false,
  (He.Fa.noat "Wish" "things").ok,
  Z.callB "Wish" "Wish",
  (He.Fa.glo "Listed").ok,
  (fun K => Z.ownB K "Listed"),
  Z.mkrB "Listed" "Listed",
  Z.conIB "Listed" "MOST" 24,
  Z.conIB "Listed" "SMALL" 6,
  Z.kitB2 "Listed" "Rule" true,
  (He.Fa.noat "Listed" "wishes").ok,
  (He.Fa.noat "Listed" "many").ok,
  Z.methB "Listed" "shares" "Listed",
  Z.methB "Listed" "worth" "Rule",
  Z.methB "Listed" "best" "Rule",
  (He.Fa.glo "Mixed").ok,
  (fun K => Z.ownB K "Mixed"),
  Z.mkrB "Mixed" "Mixed",
  Z.conIB "Mixed" "MOST" 24,
  Z.conIB "Mixed" "SMALL" 6,
  Z.kitB2 "Mixed" "Rule" true,
  (He.Fa.noat "Mixed" "parts").ok,
  (He.Fa.noat "Mixed" "many").ok,
  Z.methB "Mixed" "shares" "Mixed",
  Z.methB "Mixed" "worth" "Rule",
  Z.methB "Mixed" "best" "Rule",
  (He.Fa.glo "Tabled").ok,
  (fun K => Z.ownB K "Tabled"),
  Z.mkrB "Tabled" "Tabled",
  Z.conIB "Tabled" "MOST" 6,
  Z.conIB "Tabled" "SMALL" 6,
  Z.kitB2 "Tabled" "Rule" true,
  (He.Fa.noat "Tabled" "rows").ok,
  (He.Fa.noat "Tabled" "many").ok,
  Z.methB "Tabled" "shares" "Tabled",
  Z.methB "Tabled" "worth" "Rule",
  Z.methB "Tabled" "best" "Rule",
  Z.thirdB,
  Z.clsB "BadNumber",
  Z.mroB "BadNumber" "BadNumber",
  Z.clsB "TooMany",
  Z.mroB "TooMany" "TooMany",
  Z.clsB "BadWish",
  Z.mroB "BadWish" "BadWish",
  Z.clsB "Unlike",
  Z.mroB "Unlike" "Unlike",
  Z.clsB "BadTable",
  Z.mroB "BadTable" "BadTable",
  Z.clsB "Listed",
  Z.mroB "Listed" "Listed",
  Z.clsB "Mixed",
  Z.mroB "Mixed" "Mixed",
  Z.clsB "Tabled",
  Z.mroB "Tabled" "Tabled",
  Z.supmB "Listed" "Listed" "__init__" "Rule",
  Z.supmB "Listed" "Listed" "shares" "Rule",
  Z.supmB "Mixed" "Mixed" "__init__" "Rule",
  Z.supmB "Mixed" "Mixed" "shares" "Rule",
  Z.supmB "Tabled" "Tabled" "__init__" "Rule",
  Z.supmB "Tabled" "Tabled" "shares" "Rule",
  Z.supB d_BadNumber___init__ "BadNumber" PySem.Challenge.pw_dearestshelf_k27_best_of_all_lots.main.file,
  Z.supB d_BadTable___init__ "BadTable" PySem.Challenge.pw_dearestshelf_k27_best_of_all_lots.main.file,
  Z.supB d_BadWish___init__ "BadWish" PySem.Challenge.pw_dearestshelf_k27_best_of_all_lots.main.file,
  Z.supB d_Listed___init__ "Listed" PySem.Challenge.pw_dearestshelf_k27_best_of_all_lots.main.file,
  Z.supB d_Listed_shares "Listed" PySem.Challenge.pw_dearestshelf_k27_best_of_all_lots.main.file,
  Z.supB d_Mixed___init__ "Mixed" PySem.Challenge.pw_dearestshelf_k27_best_of_all_lots.main.file,
  Z.supB d_Mixed_shares "Mixed" PySem.Challenge.pw_dearestshelf_k27_best_of_all_lots.main.file,
  Z.supB d_Tabled___init__ "Tabled" PySem.Challenge.pw_dearestshelf_k27_best_of_all_lots.main.file,
  Z.supB d_Tabled_shares "Tabled" PySem.Challenge.pw_dearestshelf_k27_best_of_all_lots.main.file,
  Z.supB d_TooMany___init__ "TooMany" PySem.Challenge.pw_dearestshelf_k27_best_of_all_lots.main.file,
  Z.supB d_Unlike___init__ "Unlike" PySem.Challenge.pw_dearestshelf_k27_best_of_all_lots.main.file]
theorem run1 (w : World) : (HandSHeadRun.wholeF (fun p => HandSHeadRun.stepQ (HandSHeadRun.denQ HandSHeadRun.tabQ) p w) HandSHeadRun.fenceQ 20000 Rw.prog).map (fun x => (HandSHeadRun.looksF Rw.prog x.1.heap x.2.abs, HandSHeadRun.seenQ (PySem.W.view Rw.prog [0, 59]) ((["_wall", "ShelfError", "ZeroBottom", "BadText", "BadLot", "NoBuyers", "BadNumber", "TooMany", "BadWish", "Unlike", "BadTable", "check_lot", "check_prices", "lot_number", "lot_at", "lots", "DIGITS", "read_whole", "Ratio", "Rule", "is_wish", "Wish", "Listed", "Mixed", "fits_lot"] : List Str) ++ (["lowest", "common_row", "Tabled", "_law_cell", "_law_draws", "_law_row", "_law_ups", "_law_lot", "_law_power", "_law_shuffled", "_law_wishes", "_law_is_int", "_law_same", "_law_same_lot", "_law_below", "_law_pool", "_law_rows", "_law_takers", "_law_filled", "_law_listed_rows", "_law_mixed_rows", "_law_brings", "_law_good", "_law_asked", "_law_like"] : List Str) ++ (["_law_big"] : List Str)) (importedModules Rw.prog.main.body) (fun s => PySem.W.xlAt (PySem.W.view Rw.prog [0, 59]) [] s && PySem.W.recOk Rw.toRowW.records s) x.2.abs)) = some (true, PySem.W.openGood (PySem.W.view Rw.prog [0, 59]) ((["_wall", "ShelfError", "ZeroBottom", "BadText", "BadLot", "NoBuyers", "BadNumber", "TooMany", "BadWish", "Unlike", "BadTable", "check_lot", "check_prices", "lot_number", "lot_at", "lots", "DIGITS", "read_whole", "Ratio", "Rule", "is_wish", "Wish", "Listed", "Mixed", "fits_lot"] : List Str) ++ (["lowest", "common_row", "Tabled", "_law_cell", "_law_draws", "_law_row", "_law_ups", "_law_lot", "_law_power", "_law_shuffled", "_law_wishes", "_law_is_int", "_law_same", "_law_same_lot", "_law_below", "_law_pool", "_law_rows", "_law_takers", "_law_filled", "_law_listed_rows", "_law_mixed_rows", "_law_brings", "_law_good", "_law_asked", "_law_like"] : List Str) ++ (["_law_big"] : List Str))) := by
  kernel_rfl
theorem run2 (w : World) : (HandSHeadRun.wholeF (fun p => HandSHeadRun.stepQ (HandSHeadRun.denQ HandSHeadRun.tabQ) p w) HandSHeadRun.fenceQ 20000 Rw.prog).map (fun x => fa1.all fun f => f (Z.KX 5 x.2)) = some true := by
  kernel_rfl
theorem run3 (w : World) : (HandSHeadRun.wholeF (fun p => HandSHeadRun.stepQ (HandSHeadRun.denQ HandSHeadRun.tabQ) p w) HandSHeadRun.fenceQ 20000 Rw.prog).map (fun x => fa2.all fun f => f (Z.KX 5 x.2)) = some true := by
  kernel_rfl
theorem run4 (w : World) : (HandSHeadRun.wholeF (fun p => HandSHeadRun.stepQ (HandSHeadRun.denQ HandSHeadRun.tabQ) p w) HandSHeadRun.fenceQ 20000 Rw.prog).map (fun x => (fn.all fun d => d.ok (Z.KX 5 x.2), fn.map (fun d => He.fnW (Z.KX 5 x.2) d.at_), fs.map fun d => Z.fnWs (Z.KX 5 x.2) d.at_)) = some (true, fn.map He.DefD.val, fs.map He.DefD.val) := by
  kernel_rfl
theorem run (w : World) : HandSHeadRun.RunEqI Rw (PySem.W.view Rw.prog [0, 59]) hk ob 20000 ((["_wall", "ShelfError", "ZeroBottom", "BadText", "BadLot", "NoBuyers", "BadNumber", "TooMany", "BadWish", "Unlike", "BadTable", "check_lot", "check_prices", "lot_number", "lot_at", "lots", "DIGITS", "read_whole", "Ratio", "Rule", "is_wish", "Wish", "Listed", "Mixed", "fits_lot"] : List Str) ++ (["lowest", "common_row", "Tabled", "_law_cell", "_law_draws", "_law_row", "_law_ups", "_law_lot", "_law_power", "_law_shuffled", "_law_wishes", "_law_is_int", "_law_same", "_law_same_lot", "_law_below", "_law_pool", "_law_rows", "_law_takers", "_law_filled", "_law_listed_rows", "_law_mixed_rows", "_law_brings", "_law_good", "_law_asked", "_law_like"] : List Str) ++ (["_law_big"] : List Str)) w := Z.run_join (fa1 := fa1) (fa2 := fa2) rfl (run1 w) (run2 w) (run3 w) (run4 w)
theorem tx {K : PySem.W.Frag} {h : Heap} {mg : Str → Option Value} (X : K.In h) (G : h.Ns mainGlobals mg) (c : Z.SaysY fa fn fs K) : Tx PySem.Challenge.pw_dearestshelf_k27_best_of_all_lots K mg := by
  have F_Ratio___add__ := Z.fd_of (c.d.def_ 0 (d := d_Ratio___add__) rfl)
  have F_Ratio___eq__ := Z.fd_of (c.d.def_ 1 (d := d_Ratio___eq__) rfl)
  have F_Ratio___gt__ := Z.fd_of (c.d.def_ 2 (d := d_Ratio___gt__) rfl)
  have F_Ratio___init__ := Z.fd_of (c.d.def_ 3 (d := d_Ratio___init__) rfl)
  have F_Ratio___mul__ := Z.fd_of (c.d.def_ 4 (d := d_Ratio___mul__) rfl)
  have F_Rule___init__ := Z.fd_of (c.d.def_ 5 (d := d_Rule___init__) rfl)
  have F_Rule_best := Z.fd_of (c.d.def_ 6 (d := d_Rule_best) rfl)
  have F_Rule_shares := Z.fd_of (c.d.def_ 7 (d := d_Rule_shares) rfl)
  have F_Rule_worth := Z.fd_of (c.d.def_ 8 (d := d_Rule_worth) rfl)
  have F_Wish___call__ := Z.fd_of (c.d.def_ 9 (d := d_Wish___call__) rfl)
  have F_Wish___init__ := Z.fd_of (c.d.def_ 10 (d := d_Wish___init__) rfl)
  have F__law_asked := Z.fd_of (c.d.def_ 11 (d := d__law_asked) rfl)
  have F__law_below := Z.fd_of (c.d.def_ 12 (d := d__law_below) rfl)
  have F__law_big := Z.fd_of (c.d.def_ 13 (d := d__law_big) rfl)
  have F__law_brings := Z.fd_of (c.d.def_ 14 (d := d__law_brings) rfl)
  have F__law_cell := Z.fd_of (c.d.def_ 15 (d := d__law_cell) rfl)
  have F__law_draws := Z.fd_of (c.d.def_ 16 (d := d__law_draws) rfl)
  have F__law_filled := Z.fd_of (c.d.def_ 17 (d := d__law_filled) rfl)
  have F__law_good := Z.fd_of (c.d.def_ 18 (d := d__law_good) rfl)
  have F__law_is_int := Z.fd_of (c.d.def_ 19 (d := d__law_is_int) rfl)
  have F__law_like := Z.fd_of (c.d.def_ 20 (d := d__law_like) rfl)
  have F__law_listed_rows := Z.fd_of (c.d.def_ 21 (d := d__law_listed_rows) rfl)
  have F__law_lot := Z.fd_of (c.d.def_ 22 (d := d__law_lot) rfl)
  have F__law_mixed_rows := Z.fd_of (c.d.def_ 23 (d := d__law_mixed_rows) rfl)
  have F__law_pool := Z.fd_of (c.d.def_ 24 (d := d__law_pool) rfl)
  have F__law_power := Z.fd_of (c.d.def_ 25 (d := d__law_power) rfl)
  have F__law_row := Z.fd_of (c.d.def_ 26 (d := d__law_row) rfl)
  have F__law_rows := Z.fd_of (c.d.def_ 27 (d := d__law_rows) rfl)
  have F__law_same := Z.fd_of (c.d.def_ 28 (d := d__law_same) rfl)
  have F__law_same_lot := Z.fd_of (c.d.def_ 29 (d := d__law_same_lot) rfl)
  have F__law_shuffled := Z.fd_of (c.d.def_ 30 (d := d__law_shuffled) rfl)
  have F__law_takers := Z.fd_of (c.d.def_ 31 (d := d__law_takers) rfl)
  have F__law_ups := Z.fd_of (c.d.def_ 32 (d := d__law_ups) rfl)
  have F__law_wishes := Z.fd_of (c.d.def_ 33 (d := d__law_wishes) rfl)
  have F_check_lot := Z.fd_of (c.d.def_ 34 (d := d_check_lot) rfl)
  have F_check_prices := Z.fd_of (c.d.def_ 35 (d := d_check_prices) rfl)
  have F_fits_lot := Z.fd_of (c.d.def_ 36 (d := d_fits_lot) rfl)
  have F_is_wish := Z.fd_of (c.d.def_ 37 (d := d_is_wish) rfl)
  have F_law := Z.fd_of (c.d.def_ 38 (d := d_law) rfl)
  have F_lot_at := Z.fd_of (c.d.def_ 39 (d := d_lot_at) rfl)
  have F_lot_number := Z.fd_of (c.d.def_ 40 (d := d_lot_number) rfl)
  have F_lots := Z.fd_of (c.d.def_ 41 (d := d_lots) rfl)
  have F_lowest := Z.fd_of (c.d.def_ 42 (d := d_lowest) rfl)
  have F_BadNumber___init__ := Z.fdOf_S (P := PySem.Challenge.pw_dearestshelf_k27_best_of_all_lots) (Z.supB_ok (c.sup 0 rfl) (c.fact 179 rfl))
  have F_BadTable___init__ := Z.fdOf_S (P := PySem.Challenge.pw_dearestshelf_k27_best_of_all_lots) (Z.supB_ok (c.sup 1 rfl) (c.fact 180 rfl))
  have F_BadWish___init__ := Z.fdOf_S (P := PySem.Challenge.pw_dearestshelf_k27_best_of_all_lots) (Z.supB_ok (c.sup 2 rfl) (c.fact 181 rfl))
  have F_Listed___init__ := Z.fdOf_S (P := PySem.Challenge.pw_dearestshelf_k27_best_of_all_lots) (Z.supB_ok (c.sup 3 rfl) (c.fact 182 rfl))
  have F_Listed_shares := Z.fdOf_S (P := PySem.Challenge.pw_dearestshelf_k27_best_of_all_lots) (Z.supB_ok (c.sup 4 rfl) (c.fact 183 rfl))
  have F_Mixed___init__ := Z.fdOf_S (P := PySem.Challenge.pw_dearestshelf_k27_best_of_all_lots) (Z.supB_ok (c.sup 5 rfl) (c.fact 184 rfl))
  have F_Mixed_shares := Z.fdOf_S (P := PySem.Challenge.pw_dearestshelf_k27_best_of_all_lots) (Z.supB_ok (c.sup 6 rfl) (c.fact 185 rfl))
  have F_Tabled___init__ := Z.fdOf_S (P := PySem.Challenge.pw_dearestshelf_k27_best_of_all_lots) (Z.supB_ok (c.sup 7 rfl) (c.fact 186 rfl))
  have F_Tabled_shares := Z.fdOf_S (P := PySem.Challenge.pw_dearestshelf_k27_best_of_all_lots) (Z.supB_ok (c.sup 8 rfl) (c.fact 187 rfl))
  have F_TooMany___init__ := Z.fdOf_S (P := PySem.Challenge.pw_dearestshelf_k27_best_of_all_lots) (Z.supB_ok (c.sup 9 rfl) (c.fact 188 rfl))
  have F_Unlike___init__ := Z.fdOf_S (P := PySem.Challenge.pw_dearestshelf_k27_best_of_all_lots) (Z.supB_ok (c.sup 10 rfl) (c.fact 189 rfl))
  exact {
    n_any := He.free_ok X G (c.fact 0 rfl)
    n_bool := He.free_ok X G (c.fact 1 rfl)
    n_enumerate := He.free_ok X G (c.fact 2 rfl)
    n_int := He.free_ok X G (c.fact 3 rfl)
    n_isinstance := He.free_ok X G (c.fact 4 rfl)
    n_len := He.free_ok X G (c.fact 5 rfl)
    n_list := He.free_ok X G (c.fact 6 rfl)
    n_max := He.free_ok X G (c.fact 7 rfl)
    n_range := He.free_ok X G (c.fact 8 rfl)
    n_set := He.free_ok X G (c.fact 9 rfl)
    n_str := He.free_ok X G (c.fact 10 rfl)
    n_sum := He.free_ok X G (c.fact 11 rfl)
    n_super := He.free_ok X G (c.fact 12 rfl)
    n_tuple := He.free_ok X G (c.fact 13 rfl)
    m_gcd := Z.blt_ok X G (c.fact 14 rfl)
    g__law_asked := He.glo_ok X G (c.fact 15 rfl)
    g__law_below := He.glo_ok X G (c.fact 16 rfl)
    g__law_big := He.glo_ok X G (c.fact 17 rfl)
    g__law_brings := He.glo_ok X G (c.fact 18 rfl)
    g__law_cell := He.glo_ok X G (c.fact 19 rfl)
    g__law_draws := He.glo_ok X G (c.fact 20 rfl)
    g__law_filled := He.glo_ok X G (c.fact 21 rfl)
    g__law_good := He.glo_ok X G (c.fact 22 rfl)
    g__law_is_int := He.glo_ok X G (c.fact 23 rfl)
    g__law_like := He.glo_ok X G (c.fact 24 rfl)
    g__law_listed_rows := He.glo_ok X G (c.fact 25 rfl)
    g__law_lot := He.glo_ok X G (c.fact 26 rfl)
    g__law_mixed_rows := He.glo_ok X G (c.fact 27 rfl)
    g__law_pool := He.glo_ok X G (c.fact 28 rfl)
    g__law_power := He.glo_ok X G (c.fact 29 rfl)
    g__law_row := He.glo_ok X G (c.fact 30 rfl)
    g__law_rows := He.glo_ok X G (c.fact 31 rfl)
    g__law_same := He.glo_ok X G (c.fact 32 rfl)
    g__law_same_lot := He.glo_ok X G (c.fact 33 rfl)
    g__law_shuffled := He.glo_ok X G (c.fact 34 rfl)
    g__law_takers := He.glo_ok X G (c.fact 35 rfl)
    g__law_ups := He.glo_ok X G (c.fact 36 rfl)
    g__law_wishes := He.glo_ok X G (c.fact 37 rfl)
    g_check_lot := He.glo_ok X G (c.fact 38 rfl)
    g_check_prices := He.glo_ok X G (c.fact 39 rfl)
    g_fits_lot := He.glo_ok X G (c.fact 40 rfl)
    g_is_wish := He.glo_ok X G (c.fact 41 rfl)
    g_law := He.glo_ok X G (c.fact 42 rfl)
    g_lot_at := He.glo_ok X G (c.fact 43 rfl)
    g_lot_number := He.glo_ok X G (c.fact 44 rfl)
    g_lots := He.glo_ok X G (c.fact 45 rfl)
    g_lowest := He.glo_ok X G (c.fact 46 rfl)
    exm_ShelfError_BadNumber := Z.exmB_ok (c.fact 47 rfl)
    exm_ShelfError_TooMany := Z.exmB_ok (c.fact 48 rfl)
    g_ZeroBottom := He.glo_ok X G (c.fact 49 rfl)
    exm_ZeroBottom_BadNumber := Z.exmB_ok (c.fact 50 rfl)
    exm_ZeroBottom_TooMany := Z.exmB_ok (c.fact 51 rfl)
    x_ZeroBottom := He.exc_ok (c.fact 52 rfl)
    exm_BadText_BadNumber := Z.exmB_ok (c.fact 53 rfl)
    exm_BadText_TooMany := Z.exmB_ok (c.fact 54 rfl)
    g_BadLot := He.glo_ok X G (c.fact 55 rfl)
    exm_BadLot_BadNumber := Z.exmB_ok (c.fact 56 rfl)
    exm_BadLot_TooMany := Z.exmB_ok (c.fact 57 rfl)
    x_BadLot := He.exc_ok (c.fact 58 rfl)
    g_NoBuyers := He.glo_ok X G (c.fact 59 rfl)
    exm_NoBuyers_BadNumber := Z.exmB_ok (c.fact 60 rfl)
    exm_NoBuyers_TooMany := Z.exmB_ok (c.fact 61 rfl)
    x_NoBuyers := He.exc_ok (c.fact 62 rfl)
    g_BadNumber := He.glo_ok X G (c.fact 63 rfl)
    xf_BadNumber := Z.xfcB_ok (c.fact 64 rfl)
    oe_BadNumber := Z.oexB_ok (c.fact 65 rfl)
    si_BadNumber := Z.supiB_ok (c.fact 66 rfl)
    nf_BadNumber_what := Z.nomet_ok (c.fact 67 rfl)
    nf_BadNumber_at := Z.nomet_ok (c.fact 68 rfl)
    exm_BadNumber_BadNumber := Z.exmB_ok (c.fact 69 rfl)
    exm_BadNumber_TooMany := Z.exmB_ok (c.fact 70 rfl)
    g_TooMany := He.glo_ok X G (c.fact 71 rfl)
    xf_TooMany := Z.xfcB_ok (c.fact 72 rfl)
    oe_TooMany := Z.oexB_ok (c.fact 73 rfl)
    si_TooMany := Z.supiB_ok (c.fact 74 rfl)
    nf_TooMany_many := Z.nomet_ok (c.fact 75 rfl)
    nf_TooMany_most := Z.nomet_ok (c.fact 76 rfl)
    exm_TooMany_BadNumber := Z.exmB_ok (c.fact 77 rfl)
    exm_TooMany_TooMany := Z.exmB_ok (c.fact 78 rfl)
    g_BadWish := He.glo_ok X G (c.fact 79 rfl)
    oe_BadWish := Z.oexB_ok (c.fact 80 rfl)
    si_BadWish := Z.supiB_ok (c.fact 81 rfl)
    nf_BadWish_at := Z.nomet_ok (c.fact 82 rfl)
    exm_BadWish_BadNumber := Z.exmB_ok (c.fact 83 rfl)
    exm_BadWish_TooMany := Z.exmB_ok (c.fact 84 rfl)
    g_Unlike := He.glo_ok X G (c.fact 85 rfl)
    oe_Unlike := Z.oexB_ok (c.fact 86 rfl)
    si_Unlike := Z.supiB_ok (c.fact 87 rfl)
    nf_Unlike_at := Z.nomet_ok (c.fact 88 rfl)
    exm_Unlike_BadNumber := Z.exmB_ok (c.fact 89 rfl)
    exm_Unlike_TooMany := Z.exmB_ok (c.fact 90 rfl)
    g_BadTable := He.glo_ok X G (c.fact 91 rfl)
    oe_BadTable := Z.oexB_ok (c.fact 92 rfl)
    si_BadTable := Z.supiB_ok (c.fact 93 rfl)
    nf_BadTable_at := Z.nomet_ok (c.fact 94 rfl)
    exm_BadTable_BadNumber := Z.exmB_ok (c.fact 95 rfl)
    exm_BadTable_TooMany := Z.exmB_ok (c.fact 96 rfl)
    g_Ratio := He.glo_ok X G (c.fact 97 rfl)
    o_Ratio := Z.ownB_ok (c.fact 98 rfl)
    mk_Ratio := Z.mkrB_ok (c.fact 99 rfl)
    ki_Ratio_Rule := Z.kitB2_ok (c.fact 100 rfl)
    na_Ratio_top := He.noat_ok (c.fact 101 rfl)
    na_Ratio_bottom := He.noat_ok (c.fact 102 rfl)
    me_Ratio___add__ := Z.methB_ok (c.fact 103 rfl)
    me_Ratio___mul__ := Z.methB_ok (c.fact 104 rfl)
    me_Ratio___rmul__ := Z.methB_ok (c.fact 105 rfl)
    me_Ratio___eq__ := Z.methB_ok (c.fact 106 rfl)
    me_Ratio___gt__ := Z.methB_ok (c.fact 107 rfl)
    g_Rule := He.glo_ok X G (c.fact 108 rfl)
    o_Rule := Z.ownB_ok (c.fact 109 rfl)
    mk_Rule := Z.mkrB_ok (c.fact 110 rfl)
    k_Rule_MOST := (Z.conIB_ok (c.fact 111 rfl) (by decide +kernel))
    k_Rule_SMALL := (Z.conIB_ok (c.fact 112 rfl) (by decide +kernel))
    na_Rule_many := He.noat_ok (c.fact 113 rfl)
    me_Rule_shares := Z.methB_ok (c.fact 114 rfl)
    me_Rule_worth := Z.methB_ok (c.fact 115 rfl)
    me_Rule_best := Z.methB_ok (c.fact 116 rfl)
    g_Wish := He.glo_ok X G (c.fact 117 rfl)
    o_Wish := Z.ownB_ok (c.fact 118 rfl)
    mk_Wish := Z.mkrB_ok (c.fact 119 rfl)
    ki_Wish_Rule := Z.kitB2_ok (c.fact 120 rfl)
    na_Wish_things := He.noat_ok (c.fact 121 rfl)
    co_Wish := Z.callB_ok (c.fact 122 rfl)
    g_Listed := He.glo_ok X G (c.fact 123 rfl)
    o_Listed := Z.ownB_ok (c.fact 124 rfl)
    mk_Listed := Z.mkrB_ok (c.fact 125 rfl)
    k_Listed_MOST := (Z.conIB_ok (c.fact 126 rfl) (by decide +kernel))
    k_Listed_SMALL := (Z.conIB_ok (c.fact 127 rfl) (by decide +kernel))
    ki_Listed_Rule := Z.kitB2_ok (c.fact 128 rfl)
    na_Listed_wishes := He.noat_ok (c.fact 129 rfl)
    na_Listed_many := He.noat_ok (c.fact 130 rfl)
    me_Listed_shares := Z.methB_ok (c.fact 131 rfl)
    me_Listed_worth := Z.methB_ok (c.fact 132 rfl)
    me_Listed_best := Z.methB_ok (c.fact 133 rfl)
    g_Mixed := He.glo_ok X G (c.fact 134 rfl)
    o_Mixed := Z.ownB_ok (c.fact 135 rfl)
    mk_Mixed := Z.mkrB_ok (c.fact 136 rfl)
    k_Mixed_MOST := (Z.conIB_ok (c.fact 137 rfl) (by decide +kernel))
    k_Mixed_SMALL := (Z.conIB_ok (c.fact 138 rfl) (by decide +kernel))
    ki_Mixed_Rule := Z.kitB2_ok (c.fact 139 rfl)
    na_Mixed_parts := He.noat_ok (c.fact 140 rfl)
    na_Mixed_many := He.noat_ok (c.fact 141 rfl)
    me_Mixed_shares := Z.methB_ok (c.fact 142 rfl)
    me_Mixed_worth := Z.methB_ok (c.fact 143 rfl)
    me_Mixed_best := Z.methB_ok (c.fact 144 rfl)
    g_Tabled := He.glo_ok X G (c.fact 145 rfl)
    o_Tabled := Z.ownB_ok (c.fact 146 rfl)
    mk_Tabled := Z.mkrB_ok (c.fact 147 rfl)
    k_Tabled_MOST := (Z.conIB_ok (c.fact 148 rfl) (by decide +kernel))
    k_Tabled_SMALL := (Z.conIB_ok (c.fact 149 rfl) (by decide +kernel))
    ki_Tabled_Rule := Z.kitB2_ok (c.fact 150 rfl)
    na_Tabled_rows := He.noat_ok (c.fact 151 rfl)
    na_Tabled_many := He.noat_ok (c.fact 152 rfl)
    me_Tabled_shares := Z.methB_ok (c.fact 153 rfl)
    me_Tabled_worth := Z.methB_ok (c.fact 154 rfl)
    me_Tabled_best := Z.methB_ok (c.fact 155 rfl)
    third := Z.thirdB_ok (c.fact 156 rfl)
    c_BadNumber := Z.clsB_ok (c.fact 157 rfl)
    mro_BadNumber_BadNumber := Z.mroB_ok (c.fact 158 rfl)
    c_TooMany := Z.clsB_ok (c.fact 159 rfl)
    mro_TooMany_TooMany := Z.mroB_ok (c.fact 160 rfl)
    c_BadWish := Z.clsB_ok (c.fact 161 rfl)
    mro_BadWish_BadWish := Z.mroB_ok (c.fact 162 rfl)
    c_Unlike := Z.clsB_ok (c.fact 163 rfl)
    mro_Unlike_Unlike := Z.mroB_ok (c.fact 164 rfl)
    c_BadTable := Z.clsB_ok (c.fact 165 rfl)
    mro_BadTable_BadTable := Z.mroB_ok (c.fact 166 rfl)
    c_Listed := Z.clsB_ok (c.fact 167 rfl)
    mro_Listed_Listed := Z.mroB_ok (c.fact 168 rfl)
    c_Mixed := Z.clsB_ok (c.fact 169 rfl)
    mro_Mixed_Mixed := Z.mroB_ok (c.fact 170 rfl)
    c_Tabled := Z.clsB_ok (c.fact 171 rfl)
    mro_Tabled_Tabled := Z.mroB_ok (c.fact 172 rfl)
    sm_Listed_Listed___init__ := Z.supmB_ok (c.fact 173 rfl)
    sm_Listed_Listed_shares := Z.supmB_ok (c.fact 174 rfl)
    sm_Mixed_Mixed___init__ := Z.supmB_ok (c.fact 175 rfl)
    sm_Mixed_Mixed_shares := Z.supmB_ok (c.fact 176 rfl)
    sm_Tabled_Tabled___init__ := Z.supmB_ok (c.fact 177 rfl)
    sm_Tabled_Tabled_shares := Z.supmB_ok (c.fact 178 rfl)
    F_Ratio___add__ := F_Ratio___add__
    F_Ratio___eq__ := F_Ratio___eq__
    F_Ratio___gt__ := F_Ratio___gt__
    F_Ratio___init__ := F_Ratio___init__
    F_Ratio___mul__ := F_Ratio___mul__
    F_Rule___init__ := F_Rule___init__
    F_Rule_best := F_Rule_best
    F_Rule_shares := F_Rule_shares
    F_Rule_worth := F_Rule_worth
    F_Wish___call__ := F_Wish___call__
    F_Wish___init__ := F_Wish___init__
    F__law_asked := F__law_asked
    F__law_below := F__law_below
    F__law_big := F__law_big
    F__law_brings := F__law_brings
    F__law_cell := F__law_cell
    F__law_draws := F__law_draws
    F__law_filled := F__law_filled
    F__law_good := F__law_good
    F__law_is_int := F__law_is_int
    F__law_like := F__law_like
    F__law_listed_rows := F__law_listed_rows
    F__law_lot := F__law_lot
    F__law_mixed_rows := F__law_mixed_rows
    F__law_pool := F__law_pool
    F__law_power := F__law_power
    F__law_row := F__law_row
    F__law_rows := F__law_rows
    F__law_same := F__law_same
    F__law_same_lot := F__law_same_lot
    F__law_shuffled := F__law_shuffled
    F__law_takers := F__law_takers
    F__law_ups := F__law_ups
    F__law_wishes := F__law_wishes
    F_check_lot := F_check_lot
    F_check_prices := F_check_prices
    F_fits_lot := F_fits_lot
    F_is_wish := F_is_wish
    F_law := F_law
    F_lot_at := F_lot_at
    F_lot_number := F_lot_number
    F_lots := F_lots
    F_lowest := F_lowest
    F_BadNumber___init__ := F_BadNumber___init__
    F_BadTable___init__ := F_BadTable___init__
    F_BadWish___init__ := F_BadWish___init__
    F_Listed___init__ := F_Listed___init__
    F_Listed_shares := F_Listed_shares
    F_Mixed___init__ := F_Mixed___init__
    F_Mixed_shares := F_Mixed_shares
    F_Tabled___init__ := F_Tabled___init__
    F_Tabled_shares := F_Tabled_shares
    F_TooMany___init__ := F_TooMany___init__
    F_Unlike___init__ := F_Unlike___init__
    p_top := by kernel_rfl
    b_Ratio___add__ := F_Ratio___add__.bindsN fun _ _ _ _ _ _ us hl => match us, hl with | [_, _], _ => rfl
    b_Ratio___eq__ := F_Ratio___eq__.bindsN fun _ _ _ _ _ _ us hl => match us, hl with | [_, _], _ => rfl
    b_Ratio___gt__ := F_Ratio___gt__.bindsN fun _ _ _ _ _ _ us hl => match us, hl with | [_, _], _ => rfl
    b2_Ratio___init__ := F_Ratio___init__.binds1 2 0 (by intro z; cases z) rfl fun _ _ _ _ _ _ _ us its hl hi => match us, hl, its, hi with | [_, _], _, [_], _ => ⟨_, rfl, rfl⟩
    b3_Ratio___init__ := F_Ratio___init__.binds1 3 1 (by intro z; cases z) rfl fun _ _ _ _ _ _ _ us its hl hi => match us, hl, its, hi with | [_, _, _], _, [_], _ => ⟨_, rfl, rfl⟩
    b_Ratio___mul__ := F_Ratio___mul__.bindsN fun _ _ _ _ _ _ us hl => match us, hl with | [_, _], _ => rfl
    b_Rule___init__ := F_Rule___init__.bindsN fun _ _ _ _ _ _ us hl => match us, hl with | [_, _], _ => rfl
    b_Rule_best := F_Rule_best.bindsN fun _ _ _ _ _ _ us hl => match us, hl with | [_, _], _ => rfl
    b_Rule_shares := F_Rule_shares.bindsN fun _ _ _ _ _ _ us hl => match us, hl with | [_, _], _ => rfl
    b_Rule_worth := F_Rule_worth.bindsN fun _ _ _ _ _ _ us hl => match us, hl with | [_, _, _], _ => rfl
    b_Wish___call__ := F_Wish___call__.bindsN fun _ _ _ _ _ _ us hl => match us, hl with | [_, _], _ => rfl
    b_Wish___init__ := F_Wish___init__.bindsN fun _ _ _ _ _ _ us hl => match us, hl with | [_, _], _ => rfl
    b__law_asked := F__law_asked.bindsN fun _ _ _ _ _ _ us hl => match us, hl with | [_, _], _ => rfl
    b__law_below := F__law_below.bindsN fun _ _ _ _ _ _ us hl => match us, hl with | [_, _], _ => rfl
    b__law_big := F__law_big.bindsN fun _ _ _ _ _ _ us hl => match us, hl with | [_, _], _ => rfl
    b__law_brings := F__law_brings.bindsN fun _ _ _ _ _ _ us hl => match us, hl with | [_, _], _ => rfl
    b__law_cell := F__law_cell.bindsN fun _ _ _ _ _ _ us hl => match us, hl with | [_, _], _ => rfl
    b__law_draws := F__law_draws.bindsN fun _ _ _ _ _ _ us hl => match us, hl with | [_, _], _ => rfl
    b__law_filled := F__law_filled.bindsN fun _ _ _ _ _ _ us hl => match us, hl with | [_, _], _ => rfl
    b__law_good := F__law_good.bindsN fun _ _ _ _ _ _ us hl => match us, hl with | [_, _, _], _ => rfl
    b__law_is_int := F__law_is_int.bindsN fun _ _ _ _ _ _ us hl => match us, hl with | [_], _ => rfl
    b__law_like := F__law_like.bindsN fun _ _ _ _ _ _ us hl => match us, hl with | [_, _], _ => rfl
    b__law_listed_rows := F__law_listed_rows.bindsN fun _ _ _ _ _ _ us hl => match us, hl with | [_, _], _ => rfl
    b__law_lot := F__law_lot.bindsN fun _ _ _ _ _ _ us hl => match us, hl with | [_, _], _ => rfl
    b__law_mixed_rows := F__law_mixed_rows.bindsN fun _ _ _ _ _ _ us hl => match us, hl with | [_, _, _], _ => rfl
    b__law_pool := F__law_pool.bindsN fun _ _ _ _ _ _ us hl => match us, hl with | [_, _], _ => rfl
    b__law_power := F__law_power.bindsN fun _ _ _ _ _ _ us hl => match us, hl with | [_], _ => rfl
    b__law_row := F__law_row.bindsN fun _ _ _ _ _ _ us hl => match us, hl with | [_, _], _ => rfl
    b__law_rows := F__law_rows.bindsN fun _ _ _ _ _ _ us hl => match us, hl with | [_, _], _ => rfl
    b__law_same := F__law_same.bindsN fun _ _ _ _ _ _ us hl => match us, hl with | [_, _, _], _ => rfl
    b__law_same_lot := F__law_same_lot.bindsN fun _ _ _ _ _ _ us hl => match us, hl with | [_, _], _ => rfl
    b__law_shuffled := F__law_shuffled.bindsN fun _ _ _ _ _ _ us hl => match us, hl with | [_, _], _ => rfl
    b__law_takers := F__law_takers.bindsN fun _ _ _ _ _ _ us hl => match us, hl with | [_, _, _], _ => rfl
    b__law_ups := F__law_ups.bindsN fun _ _ _ _ _ _ us hl => match us, hl with | [_], _ => rfl
    b__law_wishes := F__law_wishes.bindsN fun _ _ _ _ _ _ us hl => match us, hl with | [_, _, _], _ => rfl
    b_check_lot := F_check_lot.bindsN fun _ _ _ _ _ _ us hl => match us, hl with | [_, _], _ => rfl
    b_check_prices := F_check_prices.bindsN fun _ _ _ _ _ _ us hl => match us, hl with | [_, _], _ => rfl
    b_fits_lot := F_fits_lot.bindsN fun _ _ _ _ _ _ us hl => match us, hl with | [_, _, _], _ => rfl
    b_is_wish := F_is_wish.bindsN fun _ _ _ _ _ _ us hl => match us, hl with | [_], _ => rfl
    b_law := F_law.bindsN fun _ _ _ _ _ _ us hl => match us, hl with | [_], _ => rfl
    b_lot_at := F_lot_at.bindsN fun _ _ _ _ _ _ us hl => match us, hl with | [_, _], _ => rfl
    b_lot_number := F_lot_number.bindsN fun _ _ _ _ _ _ us hl => match us, hl with | [_], _ => rfl
    b_lots := F_lots.bindsN fun _ _ _ _ _ _ us hl => match us, hl with | [_], _ => rfl
    b_lowest := F_lowest.bindsN fun _ _ _ _ _ _ us hl => match us, hl with | [_], _ => rfl
    b_BadNumber___init__ := Z.FunS.binds F_BadNumber___init__ fun _ _ _ _ _ _ us hl => match us, hl with | [_, _, _], _ => rfl
    b_BadTable___init__ := Z.FunS.binds F_BadTable___init__ fun _ _ _ _ _ _ us hl => match us, hl with | [_, _], _ => rfl
    b_BadWish___init__ := Z.FunS.binds F_BadWish___init__ fun _ _ _ _ _ _ us hl => match us, hl with | [_, _], _ => rfl
    b_Listed___init__ := Z.FunS.binds F_Listed___init__ fun _ _ _ _ _ _ us hl => match us, hl with | [_, _, _], _ => rfl
    b_Listed_shares := Z.FunS.binds F_Listed_shares fun _ _ _ _ _ _ us hl => match us, hl with | [_, _], _ => rfl
    bs_Mixed___init__ := Z.FunS.bindsS F_Mixed___init__ fun _ _ _ _ _ _ us rs hl => match us, hl, rs with | [_], _, [] => rfl | [_], _, _ :: _ => rfl
    b_Mixed_shares := Z.FunS.binds F_Mixed_shares fun _ _ _ _ _ _ us hl => match us, hl with | [_, _], _ => rfl
    b_Tabled___init__ := Z.FunS.binds F_Tabled___init__ fun _ _ _ _ _ _ us hl => match us, hl with | [_, _, _], _ => rfl
    b_Tabled_shares := Z.FunS.binds F_Tabled_shares fun _ _ _ _ _ _ us hl => match us, hl with | [_, _], _ => rfl
    b_TooMany___init__ := Z.FunS.binds F_TooMany___init__ fun _ _ _ _ _ _ us hl => match us, hl with | [_, _, _], _ => rfl
    b_Unlike___init__ := Z.FunS.binds F_Unlike___init__ fun _ _ _ _ _ _ us hl => match us, hl with | [_, _], _ => rfl }
def sp_law0 (K : PySem.W.Frag) : Sp := fun vs H Q _ => ∃ (a : Addr) (ns : List Int), vs = [.ref a] ∧ SqL K H a (ns.map V.int) ∧ ∀ H', Q (.bl true) H'
end R
section
open PySem PySem.W PySem.Calls PyProof.Rows
set_option maxRecDepth 100000 in
set_option maxHeartbeats 0 in
theorem R.fin (ok : ∀ {w : World} {K : PySem.W.Frag} {mg : PySem.Str → Option Value} {base : Heap}, R.Tx PySem.Challenge.pw_dearestshelf_k27_best_of_all_lots K mg → L2.FnOk PySem.Challenge.pw_dearestshelf_k27_best_of_all_lots w K mg base L2.CX0 10 (He.ga K "law") (Z.fdOf K (He.ga K "law")) ["_law_script"] (R.sp_law0 K)) : PySem.Challenge.rw_dearestshelf_k27_best_of_all_lots.Holds := by
  w_on; o_law
  refine HandSHeadRun.head_imp (r := OpenLaw.row PySem.Challenge.rw_dearestshelf_k27_best_of_all_lots) (q := view (OpenLaw.row PySem.Challenge.rw_dearestshelf_k27_best_of_all_lots).prog [0, 59]) (H := R.hk) (ob := R.ob) (M := 20000) (loose := ((["_wall", "ShelfError", "ZeroBottom", "BadText", "BadLot", "NoBuyers", "BadNumber", "TooMany", "BadWish", "Unlike", "BadTable", "check_lot", "check_prices", "lot_number", "lot_at", "lots", "DIGITS", "read_whole", "Ratio", "Rule", "is_wish", "Wish", "Listed", "Mixed", "fits_lot"] : List Str) ++ (["lowest", "common_row", "Tabled", "_law_cell", "_law_draws", "_law_row", "_law_ups", "_law_lot", "_law_power", "_law_shuffled", "_law_wishes", "_law_is_int", "_law_same", "_law_same_lot", "_law_below", "_law_pool", "_law_rows", "_law_takers", "_law_filled", "_law_listed_rows", "_law_mixed_rows", "_law_brings", "_law_good", "_law_asked", "_law_like"] : List Str) ++ (["_law_big"] : List Str))) (d := HandSHeadRun.topDef (OpenLaw.row PySem.Challenge.rw_dearestshelf_k27_best_of_all_lots).prog 59) (kwd := []) R.ob_eq
    R.run (by kernel_rfl) (by kernel_rfl) (by kernel_rfl) (by rfl) (by first | assumption | decide +kernel) (by decide +kernel) ⟨rfl, rfl, rfl, rfl, rfl, by decide +kernel⟩ ?hw ?hc
  case hw => w_witness2
  case hc =>
    refine L2.walk_ofE (l := PySem.Challenge.rw_dearestshelf_k27_best_of_all_lots) (n := 63) (k := 10) (x := "_law_script") (CX := L2.CX0) rfl (by decide) (by kernel_rfl) ⟨rfl, by decide, by decide⟩ ?F (fun _ _ _ _ z => z)
    intro w mg fa h Y G hmg0
    obtain ⟨K, KX, c⟩ := Y
    have hmg : mg ("law" : PySem.Str) = some (.ref fa) := by
      have e : (HandSHeadRun.topDef (OpenLaw.row PySem.Challenge.rw_dearestshelf_k27_best_of_all_lots).prog 59).name = ("law" : PySem.Str) := by kernel_rfl
      rw [← e]
      exact hmg0
    have T := R.tx KX G c
    have e := hmg.symm.trans T.g_law
    cases e
    have b := L2.FunD.bindsA (ps := ["_law_script"]) T.F_law fun _ _ _ _ _ _ us hl => match us, hl with | [_], _ => rfl
    exact ⟨K, _, R.sp_law0 K, KX, fun s v => b s [v] rfl, fun H a ns hl _ hS => ⟨a, ns, rfl, hS, fun _ => rfl⟩, fun base _ _ => ok T⟩
end
namespace R
open PySem L2 Z
variable {P : Program} {w : World} {K : PySem.W.Frag} {mg : Str → Option Value} {base : Heap}
--lib
/-! ### a Ratio stands for a Rat -/
def rF (t b : Int) : List (Str × V) := [("top", .int t), ("bottom", .int b)]
theorem rF_top (t b : Int) : (rF t b).lookup ("top" : Str) = some (.int t) := rfl
theorem rF_bottom (t b : Int) : (rF t b).lookup ("bottom" : Str) = some (.int b) := by
  have h : (("bottom" : Str) == ("top" : Str)) = false := by decide +kernel
  simp only [rF, List.lookup, h]
  rfl
theorem rF_put (t b : Int) : putF "bottom" (.int b) (putF "top" (.int t) []) = rF t b := by
  have h : ¬ (("top" : Str) = ("bottom" : Str)) := by decide +kernel
  show (if ("top" : Str) = "bottom" then _ else _) = _
  rw [if_neg h]
  rfl
theorem rF_no (t b : Int) {m : Str} (h1 : (m == ("top" : Str)) = false) (h2 : (m == ("bottom" : Str)) = false) : (rF t b).lookup m = none := by
  simp only [rF, List.lookup, h1, h2]
/-- numbers of less than n bits -/
def Sz (q : Rat) (n : Nat) : Prop := q.num.natAbs < 2 ^ n ∧ q.den < 2 ^ n
theorem Sz.mono {q : Rat} {n m : Nat} (h : Sz q n) (hm : n ≤ m) : Sz q m := ⟨Nat.lt_of_lt_of_le h.1 (Nat.pow_le_pow_right (by decide) hm), Nat.lt_of_lt_of_le h.2 (Nat.pow_le_pow_right (by decide) hm)⟩
theorem Sz.den {q : Rat} {n : Nat} (h : Sz q n) : ((q.den : Int)).natAbs < 2 ^ n := by rw [Int.natAbs_natCast]; exact h.2
theorem Sz.num {q : Rat} {n : Nat} (h : Sz q n) : q.num.natAbs < 2 ^ n := h.1
/-- the Ratio of q stands at a, its numbers have less than n bits -/
structure RN (C : Addr) (H : Hp) (a : Addr) (q : Rat) (n : Nat) : Prop where
  at_ : ∃ dx, At H a (.ins C dx (rF q.num q.den))
  sz : Sz q n
  le : n ≤ 13400
theorem RN.ex {C a : Addr} {H H' : Hp} {q : Rat} {n : Nat} (h : RN C H a q n) (e : Ex H H') : RN C H' a q n := ⟨⟨h.at_.choose, e.get h.at_.choose_spec⟩, h.sz, h.le⟩
theorem RN.nl {C a : Addr} {H H' : Hp} {q : Rat} {n : Nat} (h : RN C H a q n) (e : Nl H H') : RN C H' a q n := ⟨⟨h.at_.choose, e.get (fun l z => by cases z) h.at_.choose_spec⟩, h.sz, h.le⟩
theorem rnE {C a : Addr} {H H' : Hp} {q : Rat} {n : Nat} (h : RN C H a q n) (e : Exs H H') : RN C H' a q n := h.ex e.ex
theorem rnN {C a : Addr} {H H' : Hp} {q : Rat} {n : Nat} (h : RN C H a q n) (e : Nls H H') : RN C H' a q n := h.nl e.nl
theorem RN.eq {C a : Addr} {H : Hp} {q r : Rat} {n m : Nat} (h : RN C H a q n) (e : q = r) (hm : n ≤ m) (h9 : m ≤ 13400) : RN C H a r m := ⟨e ▸ h.at_, e ▸ h.sz.mono hm, h9⟩
/-- an int or a Ratio -/
inductive RZ (C : Addr) (H : Hp) : V → Rat → Nat → Prop where
  | int {i : Int} {n : Nat} (h : i.natAbs < 2 ^ n) : RZ C H (.int i) (i : Rat) n
  | rat {a : Addr} {q : Rat} {n : Nat} (h : RN C H a q n) : RZ C H (.ref a) q n
theorem RZ.ex {C : Addr} {H H' : Hp} {v : V} {q : Rat} {n : Nat} (h : RZ C H v q n) (e : Ex H H') : RZ C H' v q n := by
  cases h with
  | int h => exact .int h
  | rat h => exact .rat (h.ex e)
/-- what __init__ reckons -/
theorem div_num {t b : Int} (hb : 0 < b) : (Rat.divInt t b).num = t / ((Nat.gcd t.natAbs b.natAbs : Nat) : Int) := by
  rw [Rat.num_divInt, Int.sign_eq_one_of_pos hb, Int.one_mul, Int.gcd_comm]; rfl
theorem div_den {t b : Int} (hb : 0 < b) : ((Rat.divInt t b).den : Int) = b / ((Nat.gcd t.natAbs b.natAbs : Nat) : Int) := by
  rw [Rat.den_divInt, if_neg (by omega), Int.gcd_comm, Int.natCast_ediv, Int.natAbs_of_nonneg (by omega)]; rfl
theorem sz_div {t b : Int} {n : Nat} (hb : b ≠ 0) (h1 : t.natAbs < 2 ^ n) (h2 : b.natAbs < 2 ^ n) : Sz (Rat.divInt t b) n := by
  constructor
  · rw [Rat.num_divInt]
    refine Nat.lt_of_le_of_lt ?_ h1
    refine Nat.le_trans (Int.natAbs_ediv_le_natAbs _ _) ?_
    rw [Int.natAbs_mul, Int.natAbs_sign_of_ne_zero hb]
    omega
  · rw [Rat.den_divInt, if_neg hb]
    exact Nat.lt_of_le_of_lt (Nat.div_le_self _ _) h2
theorem rat_eq (q : Rat) : q = Rat.divInt q.num q.den := (Rat.num_divInt_den q).symm
theorem div1 (n : Int) : (n : Rat) = Rat.divInt n 1 := by
  apply Rat.ext
  · rw [Rat.num_divInt]; simp
  · rw [Rat.den_divInt]; simp
theorem sz_int {i : Int} {n : Nat} (h : i.natAbs < 2 ^ n) : Sz (i : Rat) (n + 1) := by
  rw [div1]
  exact sz_div (by decide) (bt_mono h (by omega)) (by rw [Nat.pow_succ]; have := Nat.pow_pos (n := n) (show 0 < 2 by decide); show 1 < _; omega)
theorem den0 (q : Rat) : (q.den : Int) ≠ 0 := by have := q.den_pos; omega
theorem den1 (q : Rat) : (0 : Int) < q.den := by have := q.den_pos; omega
/-- sums, products, as __init__ is called for them -/
theorem add_int (q : Rat) (n : Int) : q + (n : Rat) = Rat.divInt (q.num + n * q.den) q.den := by
  conv => lhs; rw [div1 n, rat_eq q]
  rw [Rat.divInt_add_divInt _ _ (den0 q) (by decide), Int.mul_one, Int.mul_one]
theorem sub_int (q : Rat) (n : Int) : q - (n : Rat) = Rat.divInt (q.num - n * q.den) q.den := by
  conv => lhs; rw [div1 n, rat_eq q]
  rw [Rat.divInt_sub_divInt _ _ (den0 q) (by decide), Int.mul_one, Int.mul_one]
theorem mul_int' (q : Rat) (n : Int) : q * (n : Rat) = Rat.divInt (q.num * n) q.den := by
  conv => lhs; rw [div1 n, rat_eq q]
  rw [Rat.divInt_mul_divInt, Int.mul_one]
theorem add_rat (q r : Rat) : q + r = Rat.divInt (q.num * r.den + r.num * q.den) (q.den * r.den) := by
  conv => lhs; rw [rat_eq q, rat_eq r]
  rw [Rat.divInt_add_divInt _ _ (den0 q) (den0 r)]
theorem sub_rat (q r : Rat) : q - r = Rat.divInt (q.num * r.den - r.num * q.den) (q.den * r.den) := by
  conv => lhs; rw [rat_eq q, rat_eq r]
  rw [Rat.divInt_sub_divInt _ _ (den0 q) (den0 r)]
theorem mul_rat (q r : Rat) : q * r = Rat.divInt (q.num * r.num) (q.den * r.den) := by
  conv => lhs; rw [rat_eq q, rat_eq r]
  rw [Rat.divInt_mul_divInt]
theorem up9 {a : Int} {n : Nat} (h : a.natAbs < 2 ^ n) (hn : n ≤ 13400) : a.natAbs < 2 ^ 13400 := bt_mono h hn
theorem num0 {q : Rat} : q.num = 0 ↔ q = 0 := by
  constructor
  · intro h
    rw [rat_eq q, h]
    exact Rat.zero_divInt _
  · intro h; rw [h]; rfl
/-- quotients -/
theorem div_int (q : Rat) {n : Int} (h : n ≠ 0) : q / (n : Rat) = Rat.divInt q.num (q.den * n) := by
  conv => lhs; rw [div1 n, rat_eq q]
  rw [Rat.div_def, Rat.inv_divInt, Rat.divInt_mul_divInt, Int.mul_one]
theorem div_rat (q r : Rat) : q / r = Rat.divInt (q.num * r.den) (q.den * r.num) := by
  conv => lhs; rw [rat_eq q, rat_eq r]
  rw [Rat.div_def, Rat.inv_divInt, Rat.divInt_mul_divInt]
/-- order by whole numbers -/
theorem lt_rat (q r : Rat) : q < r ↔ q.num * r.den < r.num * q.den := Rat.lt_iff q r
theorem le_rat (q r : Rat) : q ≤ r ↔ q.num * r.den ≤ r.num * q.den := Rat.le_iff q r
theorem lt_int (q : Rat) (n : Int) : q < (n : Rat) ↔ q.num < n * q.den := by rw [lt_rat]; simp
theorem le_int (q : Rat) (n : Int) : q ≤ (n : Rat) ↔ q.num ≤ n * q.den := by rw [le_rat]; simp
theorem int_lt (q : Rat) (n : Int) : (n : Rat) < q ↔ n * q.den < q.num := by rw [lt_rat]; simp
theorem int_le (q : Rat) (n : Int) : (n : Rat) ≤ q ↔ n * q.den ≤ q.num := by rw [le_rat]; simp
theorem eq_rat (q r : Rat) : q = r ↔ (q.num = r.num ∧ (q.den : Int) = r.den) := by
  constructor
  · rintro rfl; exact ⟨rfl, rfl⟩
  · rintro ⟨h1, h2⟩
    exact Rat.ext h1 (by omega)
/-- a Ratio's fields, behind its __init__ -/
theorem mk_rat {C p dx : Addr} {H H2 H' : Hp} {q : Rat} {n : Nat} (nw : New C H p dx H2) (h1 : ∀ c o, c ≠ p → At H2 c o → At H' c o) (h2 : At H' p (.ins C dx (rF q.num q.den))) (hs : Sz q n) (hn : n ≤ 13400) : Ex H H' ∧ RN C H' p q n :=
  ⟨⟨fun {a} {o} e => h1 a o (e.ne nw.new) (nw.ex.get e)⟩, ⟨dx, h2⟩, hs, hn⟩
theorem floor_nd (q : Rat) : q.floor = q.num / q.den := by
  unfold Rat.floor
  split
  · rename_i h; rw [h]; simp
  · rfl
theorem le_divI {f t b : Int} (hb : 0 < b) : (f : Rat) ≤ Rat.divInt t b ↔ f * b ≤ t := by
  have h0 : (0 : Rat) < (b : Rat) := by exact_mod_cast hb
  rw [Rat.divInt_eq_div, ← Rat.not_lt, Rat.div_lt_iff h0, Rat.not_lt]
  exact_mod_cast Iff.rfl
theorem divI_lt {f t b : Int} (hb : 0 < b) : Rat.divInt t b < (f : Rat) ↔ t < f * b := by
  have h0 : (0 : Rat) < (b : Rat) := by exact_mod_cast hb
  rw [Rat.divInt_eq_div, Rat.div_lt_iff h0]
  exact_mod_cast Iff.rfl
/-- the floor of a fraction -/
theorem floor_div {t b : Int} (hb : 0 < b) : (Rat.divInt t b).floor * b ≤ t ∧ t < ((Rat.divInt t b).floor + 1) * b :=
  ⟨(le_divI hb).mp (Rat.floor_le _), (divI_lt hb).mp (Rat.lt_floor_add_one _)⟩
theorem floor_bt {q : Rat} {n : Nat} (h : Sz q n) : q.floor.natAbs < 2 ^ n := by rw [floor_nd]; exact bt_fdiv h.1
theorem floor_divI {t b : Int} (hb : 0 < b) : (Rat.divInt t b).floor = t / b := by
  obtain ⟨h1, h2⟩ := floor_div (t := t) hb
  apply Int.le_antisymm
  · exact (Int.le_ediv_iff_mul_le hb).mpr h1
  · exact Int.le_of_lt_add_one ((Int.ediv_lt_iff_lt_mul hb).mpr h2)
/-- the rest is smaller than the divisor -/
theorem rest_lt {t b : Int} (hb : b ≠ 0) : (t - b * (Rat.divInt t b).floor).natAbs < b.natAbs := by
  by_cases h : 0 < b
  · rw [floor_divI h]
    have h1 := Int.emod_nonneg t hb
    have h2 := Int.emod_lt_of_pos t h
    have h3 := Int.mul_ediv_add_emod t b
    omega
  · have hn : 0 < -b := by omega
    have e : Rat.divInt t b = Rat.divInt (-t) (-b) := (Rat.neg_divInt_neg t b).symm
    rw [e, floor_divI hn]
    have h1 := Int.emod_nonneg (-t) (show -b ≠ 0 by omega)
    have h2 := Int.emod_lt_of_pos (-t) hn
    have h3 := Int.mul_ediv_add_emod (-t) (-b)
    have h4 : -b * (-t / -b) = -(b * (-t / -b)) := Int.neg_mul _ _
    omega
theorem sz_mod {q r : Rat} {n m : Nat} (hq : Sz q n) (hr : Sz r m) (h0 : r ≠ 0) : Sz (q - r * ((q / r).floor : Rat)) (n + m) := by
  have hn : r.num ≠ 0 := fun z => h0 (num0.mp z)
  have hd := den0 q
  have e : q - r * ((q / r).floor : Rat) = Rat.divInt (q.num * r.den - r.num * q.den * (q / r).floor) (q.den * r.den) := by
    conv => lhs; rw [rat_eq q, rat_eq r]
    rw [← rat_eq q, ← rat_eq r]
    generalize (q / r).floor = f
    have e1 : r * (f : Rat) = Rat.divInt (r.num * f) r.den := mul_int' r f
    rw [e1]
    conv => lhs; rw [rat_eq q]
    rw [Rat.divInt_sub_divInt _ _ hd (den0 r)]
    congr 1
    grind
  have hb : (q.den : Int) * r.num ≠ 0 := Int.mul_ne_zero hd hn
  have hl := rest_lt (t := q.num * r.den) hb
  rw [← div_rat] at hl
  have hl2 : (q.num * r.den - r.num * q.den * (q / r).floor).natAbs < 2 ^ (n + m) := by
    rw [Int.mul_comm r.num q.den]
    exact Nat.lt_trans hl (bt_mul hq.den hr.1)
  rw [e]
  exact sz_div (Int.mul_ne_zero hd (den0 r)) hl2 (bt_mul hq.den hr.den)
theorem div_lt {a b c d : Int} (hb : 0 < b) (hd : 0 < d) : Rat.divInt a b < Rat.divInt c d ↔ a * d < c * b := by
  have h1 : (0 : Rat) < (b : Rat) := by exact_mod_cast hb
  have h2 : (0 : Rat) < (d : Rat) := by exact_mod_cast hd
  have e : (c : Rat) / d * b = (c : Rat) * b / d := by rw [Rat.div_def, Rat.div_def]; grind
  rw [Rat.divInt_eq_div, Rat.divInt_eq_div, Rat.div_lt_iff h1, e, Rat.lt_div_iff h2]
  exact_mod_cast Iff.rfl
theorem div_le {a b c d : Int} (hb : 0 < b) (hd : 0 < d) : Rat.divInt a b ≤ Rat.divInt c d ↔ a * d ≤ c * b := by
  rw [← Rat.not_lt, div_lt hd hb, Int.not_lt]
theorem RN.tight {C a : Addr} {H : Hp} {q r : Rat} {n m : Nat} (h : RN C H a q n) (e : q = r) (hs : Sz r m) (h9 : m ≤ 13400) : RN C H a r m := ⟨e ▸ h.at_, hs, h9⟩
theorem sz0 {n : Nat} (h : 1 ≤ n) : Sz 0 n := Sz.mono (n := 1) ⟨by decide, by decide⟩ h
theorem sz1 {n : Nat} (h : 1 ≤ n) : Sz 1 n := Sz.mono (n := 1) ⟨by decide, by decide⟩ h
theorem divI_le_q (q : Rat) {B T : Int} (hT : 0 < T) : Rat.divInt B T ≤ q ↔ B * q.den ≤ q.num * T := by
  have h := div_le (a := B) (c := q.num) hT (den1 q)
  rwa [← rat_eq q] at h
theorem divI_lt_q (q : Rat) {B T : Int} (hT : 0 < T) : Rat.divInt B T < q ↔ B * q.den < q.num * T := by
  have h := div_lt (a := B) (c := q.num) hT (den1 q)
  rwa [← rat_eq q] at h
theorem divI_eq_q (q : Rat) {B T : Int} (hT : 0 < T) : Rat.divInt B T = q ↔ B * q.den = q.num * T := by
  have h := Rat.divInt_eq_divInt_iff (n₁ := B) (n₂ := q.num) (show T ≠ 0 by omega) (den0 q)
  rwa [← rat_eq q] at h

--lib
/-! ### what Ratio's methods promise -/
/-- q op r -/
def spBin (C : Addr) (f : Rat → Rat → Rat) : Sp := fun vs H Q _ => ∃ (a : Addr) (v : V) (q r : Rat) (n m : Nat), vs = [.ref a, v] ∧ RN C H a q n ∧ RZ C H v r m ∧ n + m + 1 ≤ 13400 ∧ ∀ p H', Fr H p → Ex H H' → RN C H' p (f q r) (n + m + 1) → Q (.ref p) H'
/-- i op q, i an int on the left -/
def spRev (C : Addr) (f : Rat → Rat → Rat) : Sp := fun vs H Q _ => ∃ (a : Addr) (i : Int) (q : Rat) (n m : Nat), vs = [.ref a, .int i] ∧ RN C H a q n ∧ i.natAbs < 2 ^ m ∧ n + m + 1 ≤ 13400 ∧ ∀ p H', Fr H p → Ex H H' → RN C H' p (f (i : Rat) q) (n + m + 1) → Q (.ref p) H'
def spUn (C : Addr) (f : Rat → Rat) : Sp := fun vs H Q _ => ∃ (a : Addr) (q : Rat) (n : Nat), vs = [.ref a] ∧ RN C H a q n ∧ ∀ p H', Fr H p → Ex H H' → RN C H' p (f q) n → Q (.ref p) H'
/-- q < r and the like -/
def spCmp (C : Addr) (f : Rat → Rat → Bool) : Sp := fun vs H Q _ => ∃ (a : Addr) (v : V) (q r : Rat) (n m : Nat), vs = [.ref a, v] ∧ RN C H a q n ∧ RZ C H v r m ∧ m ≤ 50000 ∧ Q (.bl (f q r)) H
/-- q == r; an int is never equal -/
def spEq (C : Addr) : Sp := fun vs H Q _ => ∃ (a : Addr) (q : Rat) (n : Nat), RN C H a q n ∧ ((∃ (b : Addr) (r : Rat) (m : Nat), vs = [.ref a, .ref b] ∧ RN C H b r m ∧ Q (.bl (decide (q = r))) H) ∨ ∃ i : Int, vs = [.ref a, .int i] ∧ Q (.bl false) H)
def spBool (C : Addr) : Sp := fun vs H Q _ => ∃ (a : Addr) (q : Rat) (n : Nat), vs = [.ref a] ∧ RN C H a q n ∧ Q (.bl (!decide (q = 0))) H
/-- q.over(r) -/
def spOver (K : PySem.W.Frag) : Sp := fun vs H Q E => ∃ (a : Addr) (v : V) (q r : Rat) (n m : Nat), vs = [.ref a, v] ∧ RN (He.ga K "Ratio") H a q n ∧ RZ (He.ga K "Ratio") H v r m ∧ n + m + 1 ≤ 13400 ∧
  (r = 0 → ∀ H', Ex H H' → E (.ref (He.ga K "ZeroBottom")) none H') ∧ (r ≠ 0 → ∀ p H', Fr H p → Ex H H' → RN (He.ga K "Ratio") H' p (q / r) (n + m + 1) → Q (.ref p) H')
/-- q // r -/
def spFloor (K : PySem.W.Frag) : Sp := fun vs H Q E => ∃ (a : Addr) (v : V) (q r : Rat) (n m : Nat), vs = [.ref a, v] ∧ RN (He.ga K "Ratio") H a q n ∧ RZ (He.ga K "Ratio") H v r m ∧ n + m + 1 ≤ 13400 ∧
  (r = 0 → ∀ H', Ex H H' → E (.ref (He.ga K "ZeroBottom")) none H') ∧ (r ≠ 0 → ∀ H', Ex H H' → (q / r).floor.natAbs < 2 ^ (n + m + 1) → Q (.int (q / r).floor) H')
/-- q % r -/
def spMod (K : PySem.W.Frag) : Sp := fun vs H Q E => ∃ (a : Addr) (v : V) (q r : Rat) (n m : Nat), vs = [.ref a, v] ∧ RN (He.ga K "Ratio") H a q n ∧ RZ (He.ga K "Ratio") H v r m ∧ 3 * n + 3 * m + 9 ≤ 13400 ∧
  (r = 0 → ∀ H', Ex H H' → E (.ref (He.ga K "ZeroBottom")) none H') ∧ (r ≠ 0 → ∀ p H', Fr H p → Ex H H' → RN (He.ga K "Ratio") H' p (q - r * ((q / r).floor : Rat)) (n + m + 1) → Q (.ref p) H')
section
variable {C : Addr} {H : Hp} {Q : VK} {E : XK} {a b : Addr} {q r : Rat} {n m : Nat} {i : Int} {f : Rat → Rat → Rat} {f1 : Rat → Rat} {fc : Rat → Rat → Bool} {K : PySem.W.Frag}
theorem u_OO (ha : RN C H a q n) (hb : RN C H b r m) (hs : n + m + 1 ≤ 13400) (k : ∀ p H', Fr H p → Ex H H' → RN C H' p (f q r) (n + m + 1) → Q (.ref p) H') : rOO C (spBin C f) E (.ref a) (.ref b) H Q := by
  obtain ⟨dx, hx⟩ := ha.at_
  obtain ⟨dy, hy⟩ := hb.at_
  exact ⟨a, dx, _, b, dy, _, rfl, rfl, hx, hy, a, _, q, r, n, m, rfl, ha, .rat hb, hs, k⟩
theorem u_OI (ha : RN C H a q n) (hb : i.natAbs < 2 ^ m) (hs : n + m + 1 ≤ 13400) (k : ∀ p H', Fr H p → Ex H H' → RN C H' p (f q (i : Rat)) (n + m + 1) → Q (.ref p) H') : rOI C (spBin C f) E (.ref a) (.int i) H Q := by
  obtain ⟨dx, hx⟩ := ha.at_
  exact ⟨a, dx, _, i, rfl, rfl, hx, a, _, q, _, n, m, rfl, ha, .int hb, hs, k⟩
theorem u_IO (ha : RN C H a q n) (hb : i.natAbs < 2 ^ m) (hs : n + m + 1 ≤ 13400) (k : ∀ p H', Fr H p → Ex H H' → RN C H' p (f (i : Rat) q) (n + m + 1) → Q (.ref p) H') : rIO C (spRev C f) E (.int i) (.ref a) H Q := by
  obtain ⟨dx, hx⟩ := ha.at_
  exact ⟨a, dx, _, i, rfl, rfl, hx, a, i, q, n, m, rfl, ha, hb, hs, k⟩
theorem u_UO (ha : RN C H a q n) (k : ∀ p H', Fr H p → Ex H H' → RN C H' p (f1 q) n → Q (.ref p) H') : rUO C (spUn C f1) E (.ref a) H Q := by
  obtain ⟨dx, hx⟩ := ha.at_
  exact ⟨a, dx, _, rfl, hx, a, q, n, rfl, ha, k⟩
theorem u_C1 (ha : RN C H a q n) (k : ∀ p H', Fr H p → Ex H H' → RN C H' p (f1 q) n → Q (.ref p) H') : rC1 C (spUn C f1) E [.ref a] H Q := by
  obtain ⟨dx, hx⟩ := ha.at_
  exact ⟨a, dx, _, rfl, hx, a, q, n, rfl, ha, k⟩
theorem u_cOO (ha : RN C H a q n) (hb : RN C H b r m) (k : Q (.bl (fc q r)) H) : rOO C (spCmp C fc) E (.ref a) (.ref b) H Q := by
  obtain ⟨dx, hx⟩ := ha.at_
  obtain ⟨dy, hy⟩ := hb.at_
  have := hb.le
  exact ⟨a, dx, _, b, dy, _, rfl, rfl, hx, hy, a, _, q, r, n, m, rfl, ha, .rat hb, by omega, k⟩
theorem u_cOI (ha : RN C H a q n) (hb : i.natAbs < 2 ^ m) (hm : m ≤ 50000) (k : Q (.bl (fc q (i : Rat))) H) : rOI C (spCmp C fc) E (.ref a) (.int i) H Q := by
  obtain ⟨dx, hx⟩ := ha.at_
  exact ⟨a, dx, _, i, rfl, rfl, hx, a, _, q, _, n, m, rfl, ha, .int hb, hm, k⟩
theorem u_cIO (ha : RN C H a q n) (hb : i.natAbs < 2 ^ m) (hm : m ≤ 50000) (k : Q (.bl (fc q (i : Rat))) H) : rIO C (spCmp C fc) E (.int i) (.ref a) H Q := by
  obtain ⟨dx, hx⟩ := ha.at_
  exact ⟨a, dx, _, i, rfl, rfl, hx, a, _, q, _, n, m, rfl, ha, .int hb, hm, k⟩
theorem u_eOO (ha : RN C H a q n) (hb : RN C H b r m) (k : Q (.bl (decide (q = r))) H) : rOO C (spEq C) E (.ref a) (.ref b) H Q := by
  obtain ⟨dx, hx⟩ := ha.at_
  obtain ⟨dy, hy⟩ := hb.at_
  exact ⟨a, dx, _, b, dy, _, rfl, rfl, hx, hy, a, q, n, ha, .inl ⟨b, r, m, rfl, hb, k⟩⟩
theorem u_eOI (ha : RN C H a q n) (k : Q (.bl false) H) : rOI C (spEq C) E (.ref a) (.int i) H Q := by
  obtain ⟨dx, hx⟩ := ha.at_
  exact ⟨a, dx, _, i, rfl, rfl, hx, a, q, n, ha, .inr ⟨i, rfl, k⟩⟩
theorem u_eIO (ha : RN C H a q n) (k : Q (.bl false) H) : rIO C (spEq C) E (.int i) (.ref a) H Q := by
  obtain ⟨dx, hx⟩ := ha.at_
  exact ⟨a, dx, _, i, rfl, rfl, hx, a, q, n, ha, .inr ⟨i, rfl, k⟩⟩
theorem u_bO (ha : RN C H a q n) (k : Q (.bl (!decide (q = 0))) H) : rBoolO C (spBool C) E [.ref a] H Q := by
  obtain ⟨dx, hx⟩ := ha.at_
  exact ⟨a, dx, _, rfl, hx, a, q, n, rfl, ha, _, rfl, k⟩
theorem u_me {m : Str} {sp : Sp} {t : TA} {σ : L2.St} {k : Nat} (ha : RN C H a q k) (h1 : (m == ("top" : Str)) = false) (h2 : (m == ("bottom" : Str)) = false) (k : t σ H fun vs H2 => sp (.ref a :: vs) H2 Q E) : dMe C m sp [] E t σ Q (.ref a) H := by
  obtain ⟨dx, hx⟩ := ha.at_
  exact w_dMe0 hx (rF_no _ _ h1 h2) k
theorem u_top (ha : RN C H a q n) (cl : Cls K C) (na : NoAttr K C "top") (k : Q (.int q.num) H) : dF K "top" Q (.ref a) H := by
  obtain ⟨dx, hx⟩ := ha.at_
  exact w_dF hx cl na (rF_top _ _) k
theorem u_bot (ha : RN C H a q n) (cl : Cls K C) (na : NoAttr K C "bottom") (k : Q (.int q.den) H) : dF K "bottom" Q (.ref a) H := by
  obtain ⟨dx, hx⟩ := ha.at_
  exact w_dF hx cl na (rF_bottom _ _) k
theorem u_isR (ha : RN C H a q n) (O : OwnC K C) (k : Q (.bl true) H) : rIsi K [.ref a, .ref C] H Q := by
  obtain ⟨dx, hx⟩ := ha.at_
  exact w_isiOC O hx k
end
/-- a.over(v) -/
theorem u_over {K : PySem.W.Frag} {H : Hp} {Q : VK} {E : XK} {a : Addr} {v : V} {q r : Rat} {n m : Nat} (ha : RN (He.ga K "Ratio") H a q n) (hv : RZ (He.ga K "Ratio") H v r m) (hs : n + m + 1 ≤ 13400) (h0 : r ≠ 0) (k : ∀ p H', Fr H p → Ex H H' → RN (He.ga K "Ratio") H' p (q / r) (n + m + 1) → Q (.ref p) H') :
    spOver K [.ref a, v] H Q E := ⟨a, v, q, r, n, m, rfl, ha, hv, hs, fun z => absurd z h0, fun _ => k⟩

--lib
/-- a tuple of naturals -/
abbrev nats (os : List Nat) : List V := (os.map fun n : Nat => (n : Int)).map V.int
/-! ### lots and their numbers -/
/-- the bit t of n -/
def tb (n t : Nat) : Bool := n / 2 ^ t % 2 == 1
/-- the lot with the number n, of the things below m -/
def lotOf (n m : Nat) : List Nat := (List.range m).filter (tb n)
def sum2 (l : List Nat) : Nat := (l.map fun t => 2 ^ t).sum
theorem sum2_append (l r : List Nat) : sum2 (l ++ r) = sum2 l + sum2 r := by simp [sum2]
theorem lotOf_succ (n m : Nat) : lotOf n (m + 1) = lotOf n m ++ (if tb n m then [m] else []) := by
  unfold lotOf
  rw [List.range_succ, List.filter_append]
  by_cases h : tb n m <;> simp [h]
theorem sum2_lotOf (n m : Nat) : sum2 (lotOf n m) = n % 2 ^ m := by
  induction m with
  | zero => simp [lotOf, sum2, Nat.mod_one]
  | succ m ih =>
    rw [lotOf_succ, sum2_append, ih, Nat.mod_pow_succ]
    have h2 : n / 2 ^ m % 2 = 0 ∨ n / 2 ^ m % 2 = 1 := by omega
    unfold tb
    rcases h2 with h | h <;> simp [h, sum2]
theorem lotOf_more {n m : Nat} (h : n < 2 ^ m) : lotOf n (m + 1) = lotOf n m := by
  rw [lotOf_succ]
  have : tb n m = false := by
    unfold tb
    rw [Nat.div_eq_of_lt h]
    rfl
  simp [this]
theorem lotOf_lt {n m x : Nat} (h : x ∈ lotOf n m) : x < m := List.mem_range.mp (List.mem_filter.mp h).1
theorem lotOf_sorted (n m : Nat) : (lotOf n m).Pairwise (· < ·) := List.Pairwise.filter _ List.pairwise_lt_range
theorem lotOf_len (n m : Nat) : (lotOf n m).length ≤ m := by
  unfold lotOf
  exact Nat.le_trans (List.length_filter_le _ _) (by simp)
theorem sum2_take {l : List Nat} {i : Nat} (h : i < l.length) : sum2 (l.take (i + 1)) = sum2 (l.take i) + 2 ^ (l.getD i 0) := by
  rw [List.take_succ_eq_append_getElem h, sum2_append, Z.getD_get _ _ _ h]
  simp [sum2]

--lib
/-! ### lots, prices, rules (behind lots) -/
def IsLot (n : Int) (lot : List Int) : Prop := lot.Pairwise (· < ·) ∧ ∀ x ∈ lot, 0 ≤ x ∧ x < n
/-- above what stood before, below n -/
def okFrom (n : Int) : Int → List Int → Prop
  | _, [] => True
  | b, x :: r => b < x ∧ x < n ∧ okFrom n x r
theorem okFrom_iff (n : Int) : ∀ (lot : List Int) (b : Int), okFrom n b lot ↔ (lot.Pairwise (· < ·) ∧ ∀ x ∈ lot, b < x ∧ x < n)
  | [], b => ⟨fun _ => ⟨.nil, fun x hx => by simp at hx⟩, fun _ => trivial⟩
  | y :: r, b => by
    show (b < y ∧ y < n ∧ okFrom n y r) ↔ _
    rw [okFrom_iff n r y, List.pairwise_cons]
    constructor
    · rintro ⟨h1, h2, h3, h4⟩
      refine ⟨⟨fun x hx => (h4 x hx).1, h3⟩, fun x hx => ?_⟩
      rcases List.mem_cons.mp hx with rfl | hx
      · exact ⟨h1, h2⟩
      · have := h4 x hx; omega
    · rintro ⟨⟨h1, h2⟩, h3⟩
      exact ⟨(h3 y (by simp)).1, (h3 y (by simp)).2, h2, fun x hx => ⟨h1 x hx, (h3 x (by simp [hx])).2⟩⟩
theorem isLot_iff {n : Int} {lot : List Int} : IsLot n lot ↔ okFrom n (-1) lot := by
  rw [okFrom_iff]
  constructor
  · rintro ⟨h1, h2⟩; exact ⟨h1, fun x hx => by have := h2 x hx; omega⟩
  · rintro ⟨h1, h2⟩; exact ⟨h1, fun x hx => by have := h2 x hx; omega⟩
theorem lot_len : ∀ (lot : List Int) (b n : Int), okFrom n b lot → (lot.length : Int) ≤ max 0 (n - 1 - b)
  | [], b, n, _ => by simp; omega
  | x :: r, b, n, ⟨h1, h2, h3⟩ => by
    have := lot_len r x n h3
    rw [List.length_cons]
    omega
theorem IsLot.len {n : Int} {lot : List Int} (h : IsLot n lot) : lot.length ≤ n.toNat := by
  have := lot_len lot (-1) n (isLot_iff.mp h)
  omega
/-- prices that check_prices lets pass -/
def PricesOk (n : Int) (ps : List Int) : Prop := (ps.length : Int) = n ∧ ∀ x ∈ ps, 0 ≤ x
/-- the errors of check_prices -/
def PErr (K : PySem.W.Frag) (n : Int) (ps : List Int) (E : XK) (H : Hp) : Prop :=
  ((ps.length : Int) ≠ n → ∀ d H', Fr H d → Ex H H' → At H' d (.xd [("at", .non), ("what", .str "prices")]) → E (.ref (He.ga K "BadNumber")) (some d) H') ∧
  ((ps.length : Int) = n → ∀ i, i < ps.length → ps.getD i 0 < 0 → (∀ j, j < i → 0 ≤ ps.getD j 0) → ∀ d H', Fr H d → Ex H H' → At H' d (.xd [("at", .int (i : Nat)), ("what", .str "prices")]) → E (.ref (He.ga K "BadNumber")) (some d) H')
theorem PErr.up {K : PySem.W.Frag} {n : Int} {ps : List Int} {E : XK} {H H1 : Hp} (h : PErr K n ps E H) (e : Ex H H1) : PErr K n ps E H1 :=
  ⟨fun a d H' f g => h.1 a d H' (e.back f) (e.trans g), fun a i b c j d H' f g => h.2 a i b c j d H' (e.back f) (e.trans g)⟩
theorem PErr.ok {K : PySem.W.Frag} {n : Int} {ps : List Int} {E : XK} {H : Hp} (h : PricesOk n ps) : PErr K n ps E H :=
  ⟨fun z => absurd h.1 z, fun _ i hi hn => by rw [getD_get _ _ _ hi] at hn; have := h.2 _ (List.getElem_mem hi); omega⟩
theorem all_getD {ps : List Int} {c : Int} (h : ∀ j, j < ps.length → c ≤ ps.getD j 0) : ∀ x ∈ ps, c ≤ x := fun w hw => by
  obtain ⟨i, hi, rfl⟩ := List.mem_iff_getElem.mp hw
  have := h i hi
  rwa [getD_get _ _ _ hi] at this
/-- a list of Ratios -/
def RL (C : Addr) (H : Hp) (xs : List V) (qs : List Rat) (b : Nat) : Prop := xs.length = qs.length ∧ ∀ i, i < qs.length → ∃ a, xs[i]? = some (.ref a) ∧ RN C H a (qs.getD i 0) b
theorem RL.ex {C : Addr} {H H' : Hp} {xs : List V} {qs : List Rat} {b : Nat} (h : RL C H xs qs b) (e : Ex H H') : RL C H' xs qs b := ⟨h.1, fun i hi => by
  obtain ⟨a, h1, h2⟩ := h.2 i hi
  exact ⟨a, h1, h2.ex e⟩⟩
theorem RL.nl {C : Addr} {H H' : Hp} {xs : List V} {qs : List Rat} {b : Nat} (h : RL C H xs qs b) (e : Nl H H') : RL C H' xs qs b := ⟨h.1, fun i hi => by
  obtain ⟨a, h1, h2⟩ := h.2 i hi
  exact ⟨a, h1, h2.nl e⟩⟩
theorem rlE {C : Addr} {H H' : Hp} {xs : List V} {qs : List Rat} {b : Nat} (h : RL C H xs qs b) (e : Exs H H') : RL C H' xs qs b := h.ex e.ex
theorem rlN {C : Addr} {H H' : Hp} {xs : List V} {qs : List Rat} {b : Nat} (h : RL C H xs qs b) (e : Nls H H') : RL C H' xs qs b := h.nl e.nl
theorem RL.mono {C : Addr} {H : Hp} {xs : List V} {qs : List Rat} {b c : Nat} (h : RL C H xs qs b) (hb : b ≤ c) (h9 : c ≤ 13400) : RL C H xs qs c := ⟨h.1, fun i hi => by
  obtain ⟨a, h1, h2⟩ := h.2 i hi
  exact ⟨a, h1, h2.eq rfl hb h9⟩⟩
theorem RL.nil {C : Addr} {H : Hp} {b : Nat} : RL C H [] [] b := ⟨rfl, fun i hi => absurd hi (by simp)⟩
theorem RL.snoc {C : Addr} {H : Hp} {xs : List V} {qs : List Rat} {b : Nat} {a : Addr} {q : Rat} (h : RL C H xs qs b) (r : RN C H a q b) : RL C H (xs ++ [.ref a]) (qs ++ [q]) b := by
  refine ⟨by simp [h.1], fun i hi => ?_⟩
  by_cases e : i < qs.length
  · obtain ⟨c, h1, h2⟩ := h.2 i e
    refine ⟨c, by rw [List.getElem?_append_left (by rw [h.1]; exact e)]; exact h1, ?_⟩
    rw [List.getD_eq_getElem?_getD, List.getElem?_append_left e, ← List.getD_eq_getElem?_getD]
    exact h2
  · have ei : i = qs.length := by simp at hi; omega
    subst ei
    refine ⟨a, by rw [← h.1]; simp, ?_⟩
    rw [List.getD_eq_getElem?_getD]
    simpa using r
theorem RL.set {C : Addr} {H : Hp} {xs : List V} {qs : List Rat} {b i : Nat} {a : Addr} {q : Rat} (h : RL C H xs qs b) (r : RN C H a q b) : RL C H (xs.set i (.ref a)) (qs.set i q) b := by
  refine ⟨by simp [h.1], fun j hj => ?_⟩
  rw [List.length_set] at hj
  by_cases e : i = j
  · subst e
    refine ⟨a, by simp [h.1, hj], ?_⟩
    rw [List.getD_eq_getElem?_getD]
    simpa [hj] using r
  · obtain ⟨c, h1, h2⟩ := h.2 j hj
    refine ⟨c, by rw [List.getElem?_set_ne e]; exact h1, ?_⟩
    rw [List.getD_eq_getElem?_getD, List.getElem?_set_ne e, ← List.getD_eq_getElem?_getD]
    exact h2
theorem RL.at {C : Addr} {H : Hp} {xs : List V} {qs : List Rat} {b : Nat} {i : Int} (h : RL C H xs qs b) (h0 : 0 ≤ i) (h1 : i < qs.length) : ∃ a, atI xs i = some (.ref a) ∧ RN C H a (qs.getD i.toNat 0) b := by
  obtain ⟨a, h2, h3⟩ := h.2 i.toNat (by omega)
  refine ⟨a, ?_, h3⟩
  unfold atI
  rw [ixN_pos h0 (by rw [h.1]; exact h1)]
  exact h2
/-- rl[i] -/
theorem u_ixR {K : PySem.W.Frag} {C : Addr} {H : Hp} {Q : VK} {l : Addr} {xs : List V} {qs : List Rat} {b : Nat} {i : Int} (hl : SqL K H l xs) (h : RL C H xs qs b) (h0 : 0 ≤ i) (h1 : i < qs.length) (k : ∀ a, RN C H a (qs.getD i.toNat 0) b → Q (.ref a) H) : rIx K (.ref l) (.int i) H Q := by
  obtain ⟨a, h2, h3⟩ := h.at h0 h1
  exact w_ixL hl h2 (k a h3)
/-- what a lot brings -/
def worthQ (sh : List Rat) (lot ps : List Int) : Rat := (lot.map fun t => sh.getD t.toNat 0 * (ps.getD t.toNat 0 : Rat)).sum
theorem sum_snocQ (l : List Rat) (q : Rat) : (l ++ [q]).sum = l.sum + q := by
  induction l with
  | nil => simp [Rat.add_comm, Rat.add_zero]
  | cons a r ih => rw [List.cons_append, List.sum_cons, List.sum_cons, ih, Rat.add_assoc]
/-- the plain rule -/
def Rep_Rule (K : PySem.W.Frag) (H : Hp) (x : Addr) (n : Int) (sh : List Int → List Rat) (b : Nat) : Prop := (∃ dx, At H x (.ins (He.ga K "Rule") dx [("many", .int n)])) ∧ 0 ≤ n ∧ n ≤ 24 ∧ sh = (fun _ => List.replicate n.toNat 0) ∧ 1 ≤ b ∧ b ≤ 13400
theorem Rep_Rule.ex {K : PySem.W.Frag} {H H' : Hp} {x : Addr} {n : Int} {sh : List Int → List Rat} {b : Nat} (h : Rep_Rule K H x n sh b) (e : Ex H H') : Rep_Rule K H' x n sh b := by
  obtain ⟨⟨dx, h1⟩, h2⟩ := h
  exact ⟨⟨dx, e.get h1⟩, h2⟩
theorem Rep_Rule.nl {K : PySem.W.Frag} {H H' : Hp} {x : Addr} {n : Int} {sh : List Int → List Rat} {b : Nat} (h : Rep_Rule K H x n sh b) (e : Nl H H') : Rep_Rule K H' x n sh b := by
  obtain ⟨⟨dx, h1⟩, h2⟩ := h
  exact ⟨⟨dx, e.get (fun l z => by cases z) h1⟩, h2⟩
/-- what all rules have: the number of things and methods -/
def RB (C : Addr) (H : Hp) (x : Addr) (n : Int) : Prop := ∃ dx fs, At H x (.ins C dx fs) ∧ fs.lookup ("many" : Str) = some (.int n) ∧ (∀ m ∈ (["shares", "away", "worth", "best", "best_dearest", "MOST", "SMALL", "total_of", "reduced", "bound", "thing_values"] : List Str), fs.lookup m = none) ∧ 0 ≤ n ∧ n ≤ 24
theorem RB.ex {C : Addr} {H H' : Hp} {x : Addr} {n : Int} (h : RB C H x n) (e : Ex H H') : RB C H' x n := by
  obtain ⟨dx, fs, h1, h2⟩ := h
  exact ⟨dx, fs, e.get h1, h2⟩
theorem RB.nl {C : Addr} {H H' : Hp} {x : Addr} {n : Int} (h : RB C H x n) (e : Nl H H') : RB C H' x n := by
  obtain ⟨dx, fs, h1, h2⟩ := h
  exact ⟨dx, fs, e.get (fun l z => by cases z) h1, h2⟩
theorem rbE {C : Addr} {H H' : Hp} {x : Addr} {n : Int} (h : RB C H x n) (e : Exs H H') : RB C H' x n := h.ex e.ex
theorem rbN {C : Addr} {H H' : Hp} {x : Addr} {n : Int} (h : RB C H x n) (e : Nls H H') : RB C H' x n := h.nl e.nl
theorem Rep_Rule.rb {K : PySem.W.Frag} {H : Hp} {x : Addr} {n : Int} {sh : List Int → List Rat} {b : Nat} (h : Rep_Rule K H x n sh b) : RB (He.ga K "Rule") H x n := by
  obtain ⟨⟨dx, h1⟩, h2, h3, _⟩ := h
  refine ⟨dx, _, h1, rfl, fun m hm => ?_, h2, h3⟩
  have : (m == ("many" : Str)) = false := by revert m; decide +kernel
  simp only [List.lookup, this]
theorem Rep_Rule.len {K : PySem.W.Frag} {H : Hp} {x : Addr} {n : Int} {sh : List Int → List Rat} {b : Nat} (h : Rep_Rule K H x n sh b) (lot : List Int) : (sh lot).length = n.toNat := by
  obtain ⟨_, _, _, rfl, _⟩ := h
  simp
section
variable {K : PySem.W.Frag} {C : Addr} {H : Hp} {Q : VK} {E : XK} {x : Addr} {n : Int}
theorem u_rmany (h : RB C H x n) (cl : Cls K C) (na : NoAttr K C "many") (k : Q (.int n) H) : dF K "many" Q (.ref x) H := by
  obtain ⟨dx, fs, h1, h2, _⟩ := h
  exact w_dF h1 cl na h2 k
theorem u_rme {m : Str} {sp : Sp} {t : TA} {σ : L2.St} (h : RB C H x n) (hm : m ∈ (["shares", "away", "worth", "best", "best_dearest", "MOST", "SMALL", "total_of", "reduced", "bound", "thing_values"] : List Str)) (k : t σ H fun vs H2 => sp (.ref x :: vs) H2 Q E) : dMe C m sp [] E t σ Q (.ref x) H := by
  obtain ⟨dx, fs, h1, h2, h3, _⟩ := h
  exact w_dMe0 h1 (h3 m hm) k
theorem u_rcon {f : Str} {v : V} (h : RB C H x n) (cl : Cls K C) (hk : ∃ u, Con K C f v u) (hm : f ∈ (["shares", "away", "worth", "best", "best_dearest", "MOST", "SMALL", "total_of", "reduced", "bound", "thing_values"] : List Str)) (k : Q v H) : dCon K f Q (.ref x) H := by
  obtain ⟨dx, fs, h1, h2, h3, _⟩ := h
  exact w_dCon h1 cl hk (h3 f hm) k
theorem u_risC2 {D : Addr} {b : Bool} (h : RB C H x n) (O : OwnC K C) (hk : PySem.W.kitOne K (.ref C) (.ref D) = some b) (k : Q (.bl b) H) : rIsi K [.ref x, .ref D] H Q := by
  obtain ⟨dx, fs, h1, _⟩ := h
  exact w_isiOA O h1 hk k
theorem u_risO2 (h : RB C H x n) (O : OwnC K C) (k : Q (.bl true) H) : rIsi K [.ref x, .ref C] H Q := by
  obtain ⟨dx, fs, h1, _⟩ := h
  exact w_isiOC O h1 k
end
theorem sum_take {qs : List Rat} {i : Nat} (h : i < qs.length) : (qs.take (i + 1)).sum = (qs.take i).sum + qs.getD i 0 := by
  rw [List.take_succ_eq_append_getElem h, sum_snocQ, getD_get _ _ _ h]
theorem take_snoc {α : Type} {l : List α} {i : Nat} (h : i < l.length) (d : α) : l.take (i + 1) = l.take i ++ [l.getD i d] := by
  rw [List.take_succ_eq_append_getElem h, getD_get _ _ _ h]
theorem adj_pw : ∀ (l : List Int), (∀ j, j + 1 < l.length → l.getD j 0 < l.getD (j + 1) 0) → l.Pairwise (· < ·)
  | [], _ => .nil
  | [a], _ => by simp
  | a :: b :: r, h => by
    have ih := adj_pw (b :: r) fun j hj => by
      have := h (j + 1) (by simpa using hj)
      simpa using this
    have hab : a < b := by have := h 0 (by simp); simpa using this
    refine List.pairwise_cons.mpr ⟨fun x hx => ?_, ih⟩
    rcases List.mem_cons.mp hx with rfl | hx
    · exact hab
    · have := (List.pairwise_cons.mp ih).1 x hx
      omega
theorem pw_adj {l : List Int} (h : l.Pairwise (· < ·)) (j : Nat) (hj : j + 1 < l.length) : l.getD j 0 < l.getD (j + 1) 0 := by
  rw [getD_get _ _ _ hj, getD_get _ _ _ (show j < l.length by omega)]
  exact List.pairwise_iff_getElem.mp h j (j + 1) (by omega) hj (by omega)
theorem lotOf_isLot (c m : Nat) : IsLot (m : Int) ((lotOf c m).map fun n : Nat => (n : Int)) := by
  constructor
  · rw [List.pairwise_map]
    exact (lotOf_sorted c m).imp fun h => by omega
  · intro x hx
    obtain ⟨t, ht, rfl⟩ := List.mem_map.mp hx
    have := lotOf_lt ht
    omega
/-- a plain rule of n things -/
abbrev RuleAt (K : PySem.W.Frag) (H : Hp) (x : Addr) (n : Int) : Prop := Rep_Rule K H x n (fun _ => List.replicate n.toNat 0) 1
theorem sum_rep0 (n : Nat) : (List.replicate n (0 : Rat)).sum = 0 := by
  induction n with
  | zero => rfl
  | succ n ih => rw [List.replicate_succ, List.sum_cons, ih]; exact Rat.add_zero 0
theorem getD_rep0 (n i : Nat) : (List.replicate n (0 : Rat)).getD i 0 = 0 := by
  rw [List.getD_eq_getElem?_getD, List.getElem?_replicate]
  split <;> rfl
theorem worth0 (n : Nat) (lot ps : List Int) : worthQ (List.replicate n 0) lot ps = 0 := by
  unfold worthQ
  induction lot with
  | nil => rfl
  | cons t r ih => rw [List.map_cons, List.sum_cons, ih, getD_rep0]; grind
/-- all things -/
theorem allLot {n : Int} (hn : 0 ≤ n) : IsLot n ((List.range n.toNat).map fun k : Nat => (k : Int)) := by
  constructor
  · rw [List.pairwise_map]
    exact List.pairwise_lt_range.imp fun h => by omega
  · intro x hx
    obtain ⟨k, hk, rfl⟩ := List.mem_map.mp hx
    have := List.mem_range.mp hk
    omega
/-- a list of pairs of ints -/
def PL (H : Hp) (xs : List V) (ps : List (Int × Int)) : Prop := xs.length = ps.length ∧ ∀ i, i < ps.length → ∃ a, xs[i]? = some (.ref a) ∧ At H a (.tup [.int (ps.getD i (0, 0)).1, .int (ps.getD i (0, 0)).2])
theorem PL.ex {H H' : Hp} {xs : List V} {ps : List (Int × Int)} (h : PL H xs ps) (e : Ex H H') : PL H' xs ps := ⟨h.1, fun i hi => by
  obtain ⟨a, h1, h2⟩ := h.2 i hi
  exact ⟨a, h1, e.get h2⟩⟩
theorem PL.nl {H H' : Hp} {xs : List V} {ps : List (Int × Int)} (h : PL H xs ps) (e : Nl H H') : PL H' xs ps := ⟨h.1, fun i hi => by
  obtain ⟨a, h1, h2⟩ := h.2 i hi
  exact ⟨a, h1, e.get (fun l z => by cases z) h2⟩⟩
theorem plE {H H' : Hp} {xs : List V} {ps : List (Int × Int)} (h : PL H xs ps) (e : Exs H H') : PL H' xs ps := h.ex e.ex
theorem plN {H H' : Hp} {xs : List V} {ps : List (Int × Int)} (h : PL H xs ps) (e : Nls H H') : PL H' xs ps := h.nl e.nl
theorem PL.nil {H : Hp} : PL H [] [] := ⟨rfl, fun i hi => absurd hi (by simp)⟩
theorem PL.snoc {H : Hp} {xs : List V} {ps : List (Int × Int)} {a : Addr} {p : Int × Int} (h : PL H xs ps) (r : At H a (.tup [.int p.1, .int p.2])) : PL H (xs ++ [.ref a]) (ps ++ [p]) := by
  refine ⟨by simp [h.1], fun i hi => ?_⟩
  by_cases e : i < ps.length
  · obtain ⟨c, h1, h2⟩ := h.2 i e
    refine ⟨c, by rw [List.getElem?_append_left (by rw [h.1]; exact e)]; exact h1, ?_⟩
    rw [List.getD_eq_getElem?_getD, List.getElem?_append_left e, ← List.getD_eq_getElem?_getD]
    exact h2
  · have ei : i = ps.length := by simp at hi; omega
    subst ei
    refine ⟨a, by rw [← h.1]; simp, ?_⟩
    rw [List.getD_eq_getElem?_getD]
    simpa using r
theorem u_ixP {K : PySem.W.Frag} {H : Hp} {Q : VK} {l : Addr} {xs : List V} {ps : List (Int × Int)} {i : Int} (hl : SqL K H l xs) (h : PL H xs ps) (h0 : 0 ≤ i) (h1 : i < ps.length) (k : ∀ a, At H a (.tup [.int (ps.getD i.toNat (0, 0)).1, .int (ps.getD i.toNat (0, 0)).2]) → Q (.ref a) H) : rIx K (.ref l) (.int i) H Q := by
  obtain ⟨a, h2, h3⟩ := h.2 i.toNat (by omega)
  refine w_ixL hl ?_ (k a h3)
  unfold atI
  rw [ixN_pos h0 (by rw [h.1]; exact h1)]
  exact h2
/-- what comes of worth, and the place of the first wrong price -/
inductive PRes (n : Int) (ps : List Int) : V → Int → Prop
  | len (h : (ps.length : Int) ≠ n) : PRes n ps .non (-1)
  | neg (h : (ps.length : Int) = n) (i : Nat) (hi : i < ps.length) (hw : ps.getD i 0 < 0) (hb : ∀ j, j < i → 0 ≤ ps.getD j 0) : PRes n ps (.int (i : Nat)) (i : Nat)
theorem PRes.det {n : Int} {ps : List Int} {v w : V} {i j : Int} (h : PRes n ps v i) (g : PRes n ps w j) : v = w ∧ i = j := by
  cases h with
  | len h => cases g <;> first | exact ⟨rfl, rfl⟩ | contradiction
  | neg h i hi hw hb =>
    cases g with
    | len h => contradiction
    | neg h2 i2 hi2 hw2 hb2 =>
      have : i = i2 := by
        rcases Nat.lt_trichotomy i i2 with q | q | q
        · have := hb2 i q; omega
        · exact q
        · have := hb i2 q; omega
      subst this
      exact ⟨rfl, rfl⟩
theorem PRes.no {n : Int} {ps : List Int} {v : V} {i : Int} (h : PRes n ps v i) (g : PricesOk n ps) : False := by
  cases h with
  | len h => exact h g.1
  | neg h i hi hw hb =>
    have := g.2 _ (List.getElem_mem hi)
    rw [getD_get _ _ _ hi] at hw
    omega
theorem PRes.lt {n : Int} {ps : List Int} {v : V} {i : Int} (h : PRes n ps v i) (hn : 0 ≤ n) : i < n := by
  cases h with
  | len h => omega
  | neg h i hi hw hb => omega

--lib
/-! ### Weighted rules -/
/-- fields of a Weighted -/
abbrev wF (n : Int) (t : Addr) (a : Int) : List (Str × V) := [("many", .int n), ("weights", .ref t), ("aside", .int a)]
/-- a Weighted with these numbers stands at x -/
structure WR (K : PySem.W.Frag) (H : Hp) (x : Addr) (ws : List Int) (a : Int) : Prop where
  at_ : ∃ dx t, At H x (.ins (He.ga K "Weighted") dx (wF ws.length t a)) ∧ At H t (.tup (ws.map V.int))
  len : ws.length ≤ 24
  pos : ∀ w ∈ ws, 1 ≤ w
  apos : 1 ≤ a
theorem WR.ex {K : PySem.W.Frag} {H H' : Hp} {x : Addr} {ws : List Int} {a : Int} (h : WR K H x ws a) (e : Ex H H') : WR K H' x ws a := by
  obtain ⟨⟨dx, t, h1, h2⟩, h3, h4, h5⟩ := h
  exact ⟨⟨dx, t, e.get h1, e.get h2⟩, h3, h4, h5⟩
theorem WR.nl {K : PySem.W.Frag} {H H' : Hp} {x : Addr} {ws : List Int} {a : Int} (h : WR K H x ws a) (e : Nl H H') : WR K H' x ws a := by
  obtain ⟨⟨dx, t, h1, h2⟩, h3, h4, h5⟩ := h
  exact ⟨⟨dx, t, e.get (fun l z => by cases z) h1, e.get (fun l z => by cases z) h2⟩, h3, h4, h5⟩
theorem wrE {K : PySem.W.Frag} {H H' : Hp} {x : Addr} {ws : List Int} {a : Int} (h : WR K H x ws a) (e : Exs H H') : WR K H' x ws a := h.ex e.ex
theorem wrN {K : PySem.W.Frag} {H H' : Hp} {x : Addr} {ws : List Int} {a : Int} (h : WR K H x ws a) (e : Nls H H') : WR K H' x ws a := h.nl e.nl
theorem WR.posD {K : PySem.W.Frag} {H : Hp} {x : Addr} {ws : List Int} {a : Int} (h : WR K H x ws a) (i : Nat) (hi : i < ws.length) : 1 ≤ ws.getD i 0 := by
  rw [getD_get _ _ _ hi]; exact h.pos _ (List.getElem_mem hi)
section
variable {K : PySem.W.Frag} {H : Hp} {Q : VK} {E : XK} {x : Addr} {ws : List Int} {a : Int}
theorem u_wts (h : WR K H x ws a) (cl : Cls K (He.ga K "Weighted")) (na : NoAttr K (He.ga K "Weighted") "weights") (k : ∀ t, SqT K H t (ws.map V.int) → At H t (.tup (ws.map V.int)) → Q (.ref t) H) : dF K "weights" Q (.ref x) H := by
  obtain ⟨⟨dx, t, h1, h2⟩, h3, h4, h5⟩ := h
  exact w_dF h1 cl na rfl (k t (st_of h2) h2)
theorem u_asd (h : WR K H x ws a) (cl : Cls K (He.ga K "Weighted")) (na : NoAttr K (He.ga K "Weighted") "aside") (k : Q (.int a) H) : dF K "aside" Q (.ref x) H := by
  obtain ⟨⟨dx, t, h1, h2⟩, h3, h4, h5⟩ := h
  exact w_dF h1 cl na rfl k
theorem u_many (h : WR K H x ws a) (cl : Cls K (He.ga K "Weighted")) (na : NoAttr K (He.ga K "Weighted") "many") (k : Q (.int ws.length) H) : dF K "many" Q (.ref x) H := by
  obtain ⟨⟨dx, t, h1, h2⟩, h3, h4, h5⟩ := h
  exact w_dF h1 cl na rfl k
theorem u_meW {m : Str} {sp : Sp} {t : TA} {σ : L2.St} (h : WR K H x ws a) (h1 : (m == ("many" : Str)) = false) (h2 : (m == ("weights" : Str)) = false) (h3 : (m == ("aside" : Str)) = false) (k : t σ H fun vs H2 => sp (.ref x :: vs) H2 Q E) : dMe (He.ga K "Weighted") m sp [] E t σ Q (.ref x) H := by
  obtain ⟨⟨dx, t', h4, h5⟩, h6, h7, h8⟩ := h
  exact w_dMe0 h4 (by simp only [wF, List.lookup, h1, h2, h3]) k
theorem u_isW (h : WR K H x ws a) (O : OwnC K (He.ga K "Weighted")) (k : Q (.bl true) H) : rIsi K [.ref x, .ref (He.ga K "Weighted")] H Q := by
  obtain ⟨⟨dx, t', h4, h5⟩, h6, h7, h8⟩ := h
  exact w_isiOC O h4 k
end
/-! the greatest divisor of all -/
def gL (a : Nat) (ws : List Int) : Nat := ws.foldl (fun g w => Nat.gcd g w.natAbs) a
theorem gL_snoc (a : Nat) (ws : List Int) (w : Int) : gL a (ws ++ [w]) = Nat.gcd (gL a ws) w.natAbs := by unfold gL; rw [List.foldl_append]; rfl
theorem gL_dvd : ∀ (ws : List Int) (a : Nat), gL a ws ∣ a ∧ ∀ w ∈ ws, gL a ws ∣ w.natAbs
  | [], a => ⟨Nat.dvd_refl _, fun w h => by simp at h⟩
  | w :: r, a => by
    obtain ⟨h1, h2⟩ := gL_dvd r (Nat.gcd a w.natAbs)
    refine ⟨Nat.dvd_trans h1 (Nat.gcd_dvd_left _ _), fun x hx => ?_⟩
    rcases List.mem_cons.mp hx with rfl | hx
    · exact Nat.dvd_trans h1 (Nat.gcd_dvd_right _ _)
    · exact h2 x hx
theorem gL_div : ∀ (ws : List Int) (a d : Nat), 0 < d → d ∣ a → (∀ w ∈ ws, 0 ≤ w ∧ d ∣ w.natAbs) → gL (a / d) (ws.map fun w => w / (d : Int)) = gL a ws / d
  | [], a, d, _, _, _ => rfl
  | w :: r, a, d, hd, ha, hw => by
    obtain ⟨h0, h1⟩ := hw w (by simp)
    have e : (w / (d : Int)).natAbs = w.natAbs / d := by
      obtain ⟨n, rfl⟩ := Int.eq_ofNat_of_zero_le h0
      rfl
    show gL (Nat.gcd (a / d) (w / (d : Int)).natAbs) (r.map fun w => w / (d : Int)) = gL (Nat.gcd a w.natAbs) r / d
    rw [e, Nat.gcd_div ha h1]
    exact gL_div r _ d hd (Nat.dvd_gcd ha h1) fun x hx => hw x (List.mem_cons_of_mem _ hx)
theorem gL_one (a : Nat) (ws : List Int) (ha : 0 < a) (hw : ∀ w ∈ ws, 0 ≤ w) : gL (a / gL a ws) (ws.map fun w => w / (gL a ws : Int)) = 1 := by
  obtain ⟨h1, h2⟩ := gL_dvd ws a
  have h3 : 0 < gL a ws := Nat.pos_of_dvd_of_pos h1 ha
  rw [gL_div ws a (gL a ws) h3 h1 fun w hx => ⟨hw w hx, h2 w hx⟩]
  exact Nat.div_self h3

--lib
/-! ### shares by weights -/
def wsum (ws lot : List Int) : Int := (lot.map fun t => ws.getD t.toNat 0).sum
/-- shares when the things of the lot up to place i have got theirs -/
def shWi (ws : List Int) (tot : Int) (part : List Int) : List Rat := (List.range ws.length).map fun t : Nat => if (t : Int) ∈ part then Rat.divInt (ws.getD t 0) tot else 0
def shW (ws : List Int) (a : Int) (lot : List Int) : List Rat := shWi ws (a + wsum ws lot) lot
theorem shWi_len (ws : List Int) (tot : Int) (part : List Int) : (shWi ws tot part).length = ws.length := by unfold shWi; simp
theorem shWi_get (ws : List Int) (tot : Int) (part : List Int) {t : Nat} (h : t < ws.length) : (shWi ws tot part).getD t 0 = if (t : Int) ∈ part then Rat.divInt (ws.getD t 0) tot else 0 := by
  rw [getD_get _ _ _ (by rw [shWi_len]; exact h)]
  unfold shWi
  simp
theorem shWi_nil (ws : List Int) (tot : Int) : shWi ws tot [] = List.replicate ws.length 0 := by
  unfold shWi
  apply List.ext_getElem
  · simp
  · intro i h1 h2; simp
theorem shWi_snoc (ws : List Int) (tot : Int) (part : List Int) {t : Int} (h0 : 0 ≤ t) (h1 : t < ws.length) : (shWi ws tot part).set t.toNat (Rat.divInt (ws.getD t.toNat 0) tot) = shWi ws tot (part ++ [t]) := by
  obtain ⟨t, rfl⟩ := Int.eq_ofNat_of_zero_le h0
  unfold shWi
  apply List.ext_getElem
  · simp
  · intro i h2 h3
    simp only [List.length_set, List.length_map, List.length_range] at h2
    rw [List.getElem_set]
    simp only [List.getElem_map, List.getElem_range, Int.toNat_natCast, List.mem_append, List.mem_singleton]
    by_cases e : t = i
    · subst e; simp
    · have e' : ¬ (i : Int) = (t : Int) := by omega
      simp [e, e']
theorem wsum_snoc (ws lot : List Int) (t : Int) : wsum ws (lot ++ [t]) = wsum ws lot + ws.getD t.toNat 0 := by unfold wsum; simp
theorem wsum_nonneg {ws : List Int} (h : ∀ w ∈ ws, 1 ≤ w) (lot : List Int) : 0 ≤ wsum ws lot := by
  unfold wsum
  induction lot with
  | nil => simp
  | cons t r ih =>
    rw [List.map_cons, List.sum_cons]
    have : 0 ≤ ws.getD t.toNat 0 := by
      rw [List.getD_eq_getElem?_getD]
      cases e : ws[t.toNat]? with
      | none => simp
      | some w =>
        have := h w (List.mem_of_getElem? e)
        simp; omega
    omega
theorem wsum_le {ws : List Int} {B : Int} (hB : 0 ≤ B) (h : ∀ w ∈ ws, w ≤ B) : ∀ (lot : List Int), wsum ws lot ≤ (lot.length : Int) * B
  | [] => by simp [wsum]
  | t :: r => by
    have ih := wsum_le hB h r
    unfold wsum at *
    rw [List.map_cons, List.sum_cons, List.length_cons]
    have : ws.getD t.toNat 0 ≤ B := by
      rw [List.getD_eq_getElem?_getD]
      cases e : ws[t.toNat]? with
      | none => simpa using hB
      | some w => exact h w (List.mem_of_getElem? e)
    rw [Int.natCast_add, Int.add_mul]
    omega
/-- the things of a lot among all things -/
theorem lot_filter {n : Int} {lot : List Int} (h : IsLot n lot) : (((List.range n.toNat).filter fun t : Nat => decide ((t : Int) ∈ lot)).map fun t : Nat => (t : Int)) = lot := by
  refine List.Perm.eq_of_pairwise (le := (· ≤ ·)) (fun a b _ _ h g => by omega) ?_ (h.1.imp fun h => by omega) ?_
  · rw [List.pairwise_map]
    exact (List.pairwise_lt_range.filter _).imp fun h => by omega
  · refine (List.perm_ext_iff_of_nodup ?_ (h.1.imp fun h => by omega)).mpr fun a => ?_
    · unfold List.Nodup
      rw [List.pairwise_map]
      exact (List.pairwise_lt_range.filter _).imp fun h => by omega
    · rw [List.mem_map]
      constructor
      · rintro ⟨t, ht, rfl⟩
        have := (List.mem_filter.mp ht).2
        simpa using this
      · intro ha
        have := h.2 a ha
        refine ⟨a.toNat, ?_, by omega⟩
        rw [List.mem_filter, List.mem_range]
        refine ⟨by omega, ?_⟩
        rw [Int.toNat_of_nonneg this.1]
        simpa using ha
theorem sum_if {α : Type} (l : List α) (p : α → Bool) (f : α → Rat) : (l.map fun t => if p t = true then f t else 0).sum = ((l.filter p).map f).sum := by
  induction l with
  | nil => rfl
  | cons a r ih =>
    rw [List.map_cons, List.sum_cons, ih, List.filter_cons]
    by_cases h : p a
    · simp [h]
    · simp [h]; exact Rat.zero_add _
theorem sum_divInt {α : Type} (l : List α) (f : α → Int) {d : Int} (hd : d ≠ 0) : (l.map fun t => Rat.divInt (f t) d).sum = Rat.divInt (l.map f).sum d := by
  induction l with
  | nil => simp
  | cons a r ih =>
    rw [List.map_cons, List.sum_cons, ih, List.map_cons, List.sum_cons, Rat.divInt_add_divInt _ _ hd hd]
    have : f a * d + (r.map f).sum * d = (f a + (r.map f).sum) * d := by rw [Int.add_mul]
    rw [this]
    exact Rat.divInt_mul_right hd
theorem shW_sum {ws : List Int} {a : Int} {lot : List Int} (h : IsLot ws.length lot) (ht : a + wsum ws lot ≠ 0) : (shW ws a lot).sum = Rat.divInt (wsum ws lot) (a + wsum ws lot) := by
  unfold shW shWi
  have e : (List.range ws.length).map (fun t : Nat => if (t : Int) ∈ lot then Rat.divInt (ws.getD t 0) (a + wsum ws lot) else 0) = (List.range ws.length).map (fun t : Nat => if decide ((t : Int) ∈ lot) = true then Rat.divInt (ws.getD t 0) (a + wsum ws lot) else 0) := by
    simp only [decide_eq_true_eq]
  rw [e, sum_if (List.range ws.length) (fun t : Nat => decide ((t : Int) ∈ lot)) fun t : Nat => Rat.divInt (ws.getD t 0) (a + wsum ws lot)]
  have f := lot_filter h
  rw [Int.toNat_natCast] at f
  have g : (((List.range ws.length).filter fun t : Nat => decide ((t : Int) ∈ lot)).map fun t : Nat => Rat.divInt (ws.getD t 0) (a + wsum ws lot)) = lot.map fun t => Rat.divInt (ws.getD t.toNat 0) (a + wsum ws lot) := by
    generalize a + wsum ws lot = tot
    have q : ∀ l : List Int, l = lot → (((List.range ws.length).filter fun t : Nat => decide ((t : Int) ∈ lot)).map fun t : Nat => (t : Int)) = l → (((List.range ws.length).filter fun t : Nat => decide ((t : Int) ∈ lot)).map fun t : Nat => Rat.divInt (ws.getD t 0) tot) = l.map fun t => Rat.divInt (ws.getD t.toNat 0) tot := fun l _ hl => by
      rw [← hl, List.map_map]
      rfl
    exact q lot rfl f
  rw [g, sum_divInt lot (fun t => ws.getD t.toNat 0) ht]
  rfl
theorem awayW {ws : List Int} {a : Int} {lot : List Int} (h : IsLot ws.length lot) (ht : a + wsum ws lot ≠ 0) : 1 - (shW ws a lot).sum = Rat.divInt a (a + wsum ws lot) := by
  rw [shW_sum h ht]
  have e : (1 : Rat) = Rat.divInt (a + wsum ws lot) (a + wsum ws lot) := (Rat.divInt_self' ht).symm
  rw [e, Rat.divInt_sub_divInt _ _ ht ht, ← Int.sub_mul, Rat.divInt_mul_right ht]
  congr 1
  omega
/-- weight times price -/
def wpsum (ws ps lot : List Int) : Int := (lot.map fun t => ws.getD t.toNat 0 * ps.getD t.toNat 0).sum
theorem worthW {ws ps : List Int} {a : Int} {lot : List Int} (h : IsLot ws.length lot) (ht : a + wsum ws lot ≠ 0) : worthQ (shW ws a lot) lot ps = Rat.divInt (wpsum ws ps lot) (a + wsum ws lot) := by
  unfold worthQ wpsum
  rw [← sum_divInt lot _ ht]
  congr 1
  apply List.map_congr_left
  intro t hm
  have := h.2 t hm
  have e : (shW ws a lot).getD t.toNat 0 = Rat.divInt (ws.getD t.toNat 0) (a + wsum ws lot) := by
    unfold shW
    rw [shWi_get _ _ _ (by omega), Int.toNat_of_nonneg this.1, if_pos hm]
  rw [e, div1 (ps.getD t.toNat 0), Rat.divInt_mul_divInt, Int.mul_one]
/-- a Weighted as a rule; its weights have B bits -/
def Rep_Weighted (K : PySem.W.Frag) (H : Hp) (x : Addr) (n : Int) (sh : List Int → List Rat) (b : Nat) : Prop := ∃ ws a B, WR K H x ws a ∧ n = ws.length ∧ sh = shW ws a ∧ (∀ w ∈ ws, w < 2 ^ B) ∧ a < 2 ^ B ∧ B + 5 ≤ b ∧ b ≤ 13400
theorem Rep_Weighted.ex {K : PySem.W.Frag} {H H' : Hp} {x : Addr} {n : Int} {sh : List Int → List Rat} {b : Nat} (h : Rep_Weighted K H x n sh b) (e : Ex H H') : Rep_Weighted K H' x n sh b := by
  obtain ⟨ws, a, B, h1, h2⟩ := h
  exact ⟨ws, a, B, h1.ex e, h2⟩
theorem Rep_Weighted.nl {K : PySem.W.Frag} {H H' : Hp} {x : Addr} {n : Int} {sh : List Int → List Rat} {b : Nat} (h : Rep_Weighted K H x n sh b) (e : Nl H H') : Rep_Weighted K H' x n sh b := by
  obtain ⟨ws, a, B, h1, h2⟩ := h
  exact ⟨ws, a, B, h1.nl e, h2⟩
theorem WR.rb {K : PySem.W.Frag} {H : Hp} {x : Addr} {ws : List Int} {a : Int} (h : WR K H x ws a) : RB (He.ga K "Weighted") H x ws.length := by
  obtain ⟨⟨dx, t, h1, h2⟩, h3, _⟩ := h
  refine ⟨dx, _, h1, rfl, fun m hm => ?_, by omega, by omega⟩
  have e1 : (m == ("many" : Str)) = false := by revert m; decide +kernel
  have e2 : (m == ("weights" : Str)) = false := by revert m; decide +kernel
  have e3 : (m == ("aside" : Str)) = false := by revert m; decide +kernel
  simp only [wF, List.lookup, e1, e2, e3]
theorem Rep_Weighted.rb {K : PySem.W.Frag} {H : Hp} {x : Addr} {n : Int} {sh : List Int → List Rat} {b : Nat} (h : Rep_Weighted K H x n sh b) : RB (He.ga K "Weighted") H x n := by
  obtain ⟨ws, a, B, h1, rfl, _⟩ := h
  exact h1.rb
theorem Rep_Weighted.len {K : PySem.W.Frag} {H : Hp} {x : Addr} {n : Int} {sh : List Int → List Rat} {b : Nat} (h : Rep_Weighted K H x n sh b) (lot : List Int) : (sh lot).length = n.toNat := by
  obtain ⟨ws, a, B, h1, rfl, rfl, _⟩ := h
  unfold shW
  rw [shWi_len]
  rfl
theorem WR.rep {K : PySem.W.Frag} {H : Hp} {x : Addr} {ws : List Int} {a : Int} {B : Nat} (h : WR K H x ws a) (hw : ∀ w ∈ ws, w < 2 ^ B) (ha : a < 2 ^ B) (hB : B + 5 ≤ 13400) : Rep_Weighted K H x ws.length (shW ws a) (B + 5) := ⟨ws, a, B, h, rfl, rfl, hw, ha, Nat.le_refl _, hB⟩
/-- the total has B + 5 bits -/
theorem tot_bt {ws lot : List Int} {a : Int} {B : Nat} (hp : ∀ w ∈ ws, 1 ≤ w) (ha0 : 1 ≤ a) (hw : ∀ w ∈ ws, w < 2 ^ B) (ha : a < 2 ^ B) (hl : lot.length ≤ 24) : 1 ≤ a + wsum ws lot ∧ (a + wsum ws lot).natAbs < 2 ^ (B + 5) := by
  have h1 := wsum_nonneg hp lot
  have h2 := wsum_le (B := 2 ^ B) (by exact_mod_cast Nat.zero_le _) (fun w hx => by have := hw w hx; omega) lot
  have h3 : (lot.length : Int) * 2 ^ B ≤ 24 * 2 ^ B := Int.mul_le_mul_of_nonneg_right (by omega) (by exact_mod_cast Nat.zero_le _)
  refine ⟨by omega, ?_⟩
  have h4 : a + wsum ws lot < 32 * 2 ^ B := by omega
  have h5 : ((a + wsum ws lot).natAbs : Int) < ((2 ^ (B + 5) : Nat) : Int) := by
    rw [Int.natAbs_of_nonneg (by omega), Nat.pow_add]
    push_cast
    omega
  exact_mod_cast h5
theorem others_lot {n : Int} (hn : 0 ≤ n) (p : Nat → Bool) : IsLot n (((List.range n.toNat).filter p).map fun k : Nat => (k : Int)) := by
  constructor
  · rw [List.pairwise_map]
    exact (List.pairwise_lt_range.filter _).imp fun h => by omega
  · intro x hx
    obtain ⟨k, hk, rfl⟩ := List.mem_map.mp hx
    have := List.mem_range.mp (List.mem_filter.mp hk).1
    omega

--lib
/-! ### lists of wishes -/
def IsWish (ns : List Int) : Prop := (∀ x ∈ ns, 0 ≤ x) ∧ ns.Nodup
instance (ns : List Int) : Decidable (IsWish ns) := inferInstanceAs (Decidable (_ ∧ _))
/-- the first thing that is in the lot -/
def fIn (ns lot : List Int) : Option Int := ns.find? fun t => decide (t ∈ lot)
def optV : Option Int → V
  | none => .non
  | some i => .int i
/-- a Wish stands at x -/
def WiR (K : PySem.W.Frag) (H : Hp) (x : Addr) (ns : List Int) : Prop := ∃ dx t, At H x (.ins (He.ga K "Wish") dx [("things", .ref t)]) ∧ Rd H t (.tup (ns.map V.int))
theorem WiR.ex {K : PySem.W.Frag} {H H' : Hp} {x : Addr} {ns : List Int} (h : WiR K H x ns) (e : Ex H H') : WiR K H' x ns := by
  obtain ⟨dx, t, h1, h2⟩ := h
  exact ⟨dx, t, e.get h1, e.rd h2⟩
theorem fIn_cons {x : Int} {ns lot : List Int} : fIn (x :: ns) lot = if x ∈ lot then some x else fIn ns lot := by
  unfold fIn
  rw [List.find?_cons]
  by_cases h : x ∈ lot
  · rw [if_pos h, decide_eq_true h]
  · rw [if_neg h, decide_eq_false h]

--lib
/-! ### rules by lists of wishes -/
/-- pairs: so many buyers, their list -/
theorem nlRd {H H' : Hp} {a : Addr} {xs : List V} (e : Nl H H') (h : Rd H a (.tup xs)) : Rd H' a (.tup xs) := by
  rcases h with h | ⟨o, h⟩
  · exact Or.inl (e.get (fun l z => by cases z) h)
  · exact Or.inr ⟨o, e.get (fun l z => by cases z) h⟩
def LPt (H : Hp) (xs : List V) (ps : List (Int × List Int)) : Prop := xs.length = ps.length ∧ ∀ i, i < ps.length → ∃ a t, xs[i]? = some (.ref a) ∧ At H a (.tup [.int (ps.getD i (0, [])).1, .ref t]) ∧ Rd H t (.tup ((ps.getD i (0, [])).2.map V.int))
theorem LPt.ex {H H' : Hp} {xs : List V} {ps : List (Int × List Int)} (h : LPt H xs ps) (e : Ex H H') : LPt H' xs ps := ⟨h.1, fun i hi => by
  obtain ⟨a, t, h1, h2, h3⟩ := h.2 i hi
  exact ⟨a, t, h1, e.get h2, e.rd h3⟩⟩
theorem LPt.nl {H H' : Hp} {xs : List V} {ps : List (Int × List Int)} (h : LPt H xs ps) (e : Nl H H') : LPt H' xs ps := ⟨h.1, fun i hi => by
  obtain ⟨a, t, h1, h2, h3⟩ := h.2 i hi
  exact ⟨a, t, h1, e.get (fun l z => by cases z) h2, nlRd e h3⟩⟩
theorem LPt.nil {H : Hp} : LPt H [] [] := ⟨rfl, fun i hi => absurd hi (by simp)⟩
theorem LPt.snoc {H : Hp} {xs : List V} {ps : List (Int × List Int)} {a t : Addr} {p : Int × List Int} (h : LPt H xs ps) (r : At H a (.tup [.int p.1, .ref t])) (r2 : Rd H t (.tup (p.2.map V.int))) : LPt H (xs ++ [.ref a]) (ps ++ [p]) := by
  refine ⟨by simp [h.1], fun i hi => ?_⟩
  by_cases e : i < ps.length
  · obtain ⟨c, u, h1, h2, h3⟩ := h.2 i e
    have eg : (ps ++ [p]).getD i (0, []) = ps.getD i (0, []) := by rw [List.getD_eq_getElem?_getD, List.getElem?_append_left e, ← List.getD_eq_getElem?_getD]
    exact ⟨c, u, by rw [List.getElem?_append_left (by rw [h.1]; exact e)]; exact h1, by rw [eg]; exact h2, by rw [eg]; exact h3⟩
  · have ei : i = ps.length := by simp at hi; omega
    subst ei
    have eg : (ps ++ [p]).getD ps.length (0, []) = p := by rw [List.getD_eq_getElem?_getD, List.getElem?_append_right (Nat.le_refl _), Nat.sub_self]; rfl
    exact ⟨a, t, by rw [← h.1]; simp, by rw [eg]; exact r, by rw [eg]; exact r2⟩
theorem LPt.at {H : Hp} {xs : List V} {ps : List (Int × List Int)} (h : LPt H xs ps) {i : Nat} (hi : i < ps.length) : ∃ a t, atI xs (i : Int) = some (.ref a) ∧ At H a (.tup [.int (ps.getD i (0, [])).1, .ref t]) ∧ Rd H t (.tup ((ps.getD i (0, [])).2.map V.int)) := by
  obtain ⟨a, t, h1, h2, h3⟩ := h.2 i hi
  refine ⟨a, t, ?_, h2, h3⟩
  unfold atI
  rw [ixN_pos (by omega) (by rw [h.1]; omega), Int.toNat_natCast]
  exact h1
def PGood (n : Int) (p : Int × List Int) : Prop := 1 ≤ p.1 ∧ IsWish p.2 ∧ ∀ t ∈ p.2, t < n
def LdGood (n : Int) (ps : List (Int × List Int)) : Prop := n ≤ 24 ∧ ps ≠ [] ∧ ∀ j, j < ps.length → PGood n (ps.getD j (0, []))
/-- what is refused at a pair -/
inductive LdRes (n : Int) (ps : List (Int × List Int)) : Nat → Bool → Prop
  | num (i : Nat) (hi : i < ps.length) (h : (ps.getD i (0, [])).1 < 1) (hb : ∀ j, j < i → PGood n (ps.getD j (0, []))) : LdRes n ps i true
  | wish (i : Nat) (hi : i < ps.length) (h1 : 1 ≤ (ps.getD i (0, [])).1) (h : ¬ PGood n (ps.getD i (0, []))) (hb : ∀ j, j < i → PGood n (ps.getD j (0, []))) : LdRes n ps i false
def LdErr (K : PySem.W.Frag) (n : Int) (ps : List (Int × List Int)) (E : XK) (H : Hp) : Prop :=
  (24 < n → ∀ d H', Ex H H' → At H' d (.xd [("most", .int 24), ("many", .int n)]) → E (.ref (He.ga K "TooMany")) (some d) H') ∧
  (n ≤ 24 → ps = [] → ∀ H', Ex H H' → E (.ref (He.ga K "NoBuyers")) none H') ∧
  (n ≤ 24 → ∀ i, LdRes n ps i true → ∀ d H', Ex H H' → At H' d (.xd [("at", .int (i : Nat)), ("what", .str "buyers")]) → E (.ref (He.ga K "BadNumber")) (some d) H') ∧
  (n ≤ 24 → ∀ i, LdRes n ps i false → ∀ d H', Ex H H' → At H' d (.xd [("at", .int (i : Nat))]) → E (.ref (He.ga K "BadWish")) (some d) H')
theorem LdRes.good {n : Int} {ps : List (Int × List Int)} {i : Nat} {b : Bool} (h : LdRes n ps i b) (g : LdGood n ps) : False := by
  cases h with
  | num hi h hb => have := (g.2.2 _ hi).1; omega
  | wish hi h1 h hb => exact h (g.2.2 _ hi)
theorem LdErr.good {K : PySem.W.Frag} {n : Int} {ps : List (Int × List Int)} {E : XK} {H : Hp} (g : LdGood n ps) : LdErr K n ps E H := ⟨fun h => by have := g.1; omega, fun _ h => absurd h g.2.1, fun _ i h => (h.good g).elim, fun _ i h => (h.good g).elim⟩
/-- a Listed stands at x -/
def LdR (K : PySem.W.Frag) (H : Hp) (x : Addr) (n : Int) (ps : List (Int × List Int)) : Prop := ∃ dx tp ys, At H x (.ins (He.ga K "Listed") dx [("many", .int n), ("wishes", .ref tp)]) ∧ At H tp (.tup ys) ∧ LPt H ys ps
theorem LdR.ex {K : PySem.W.Frag} {H H' : Hp} {x : Addr} {n : Int} {ps : List (Int × List Int)} (h : LdR K H x n ps) (e : Ex H H') : LdR K H' x n ps := by
  obtain ⟨dx, tp, ys, h1, h2, h3⟩ := h
  exact ⟨dx, tp, ys, e.get h1, e.get h2, h3.ex e⟩
theorem LdR.nl {K : PySem.W.Frag} {H H' : Hp} {x : Addr} {n : Int} {ps : List (Int × List Int)} (h : LdR K H x n ps) (e : Nl H H') : LdR K H' x n ps := by
  obtain ⟨dx, tp, ys, h1, h2, h3⟩ := h
  exact ⟨dx, tp, ys, e.get (fun l z => by cases z) h1, e.get (fun l z => by cases z) h2, h3.nl e⟩
/-! ### their shares -/
/-- the buyers who take t -/
def ldS (ps : List (Int × List Int)) (lot : List Int) (t : Int) : Int := (ps.map fun p => if fIn p.2 lot = some t then p.1 else 0).sum
def ldT (ps : List (Int × List Int)) : Int := (ps.map Prod.fst).sum
def ldI (n : Int) (D : Int) (ps : List (Int × List Int)) (lot : List Int) : List Rat := (List.range n.toNat).map fun t : Nat => Rat.divInt (ldS ps lot t) D
abbrev ldSh (n : Int) (ps : List (Int × List Int)) (lot : List Int) : List Rat := ldI n (ldT ps) ps lot
theorem ldI_len (n D : Int) (ps : List (Int × List Int)) (lot : List Int) : (ldI n D ps lot).length = n.toNat := by unfold ldI; rw [List.length_map, List.length_range]
theorem ldI_get {n D : Int} {ps : List (Int × List Int)} {lot : List Int} {t : Nat} (h : t < n.toNat) : (ldI n D ps lot).getD t 0 = Rat.divInt (ldS ps lot t) D := by
  rw [getD_get _ _ _ (by rw [ldI_len]; exact h)]
  unfold ldI
  rw [List.getElem_map, List.getElem_range]
theorem ext_getD {l r : List Rat} (h : l.length = r.length) (g : ∀ i, i < r.length → l.getD i 0 = r.getD i 0) : l = r := by
  apply List.ext_getElem h
  intro i h1 h2
  have := g i h2
  rwa [getD_get _ _ _ h1, getD_get _ _ _ h2] at this
theorem ldI_nil (n D : Int) (lot : List Int) : ldI n D [] lot = List.replicate n.toNat 0 := by
  refine ext_getD (by rw [ldI_len, List.length_replicate]) fun i hi => ?_
  rw [getD_get _ _ _ hi, List.getElem_replicate]
  rw [List.length_replicate] at hi
  rw [ldI_get hi]
  exact Rat.zero_divInt D
theorem ldS_snoc (ps : List (Int × List Int)) (p : Int × List Int) (lot : List Int) (t : Int) : ldS (ps ++ [p]) lot t = ldS ps lot t + (if fIn p.2 lot = some t then p.1 else 0) := by
  unfold ldS
  rw [List.map_append, List.sum_append]
  simp
theorem div_add_same {a b D : Int} (h : D ≠ 0) : Rat.divInt a D + Rat.divInt b D = Rat.divInt (a + b) D := by
  rw [Rat.divInt_add_divInt _ _ h h, ← Int.add_mul, Rat.divInt_mul_right h]
theorem ldI_none {n D : Int} {ps : List (Int × List Int)} {p : Int × List Int} {lot : List Int} (h : fIn p.2 lot = none) : ldI n D (ps ++ [p]) lot = ldI n D ps lot := by
  unfold ldI
  refine List.map_congr_left fun t _ => ?_
  rw [ldS_snoc, h, if_neg (by simp), Int.add_zero]
theorem ldI_some {n D : Int} {ps : List (Int × List Int)} {p : Int × List Int} {lot : List Int} {t : Nat} (hD : D ≠ 0) (h : fIn p.2 lot = some (t : Int)) (ht : t < n.toNat) : ldI n D (ps ++ [p]) lot = (ldI n D ps lot).set t ((ldI n D ps lot).getD t 0 + Rat.divInt p.1 D) := by
  rw [ldI_get ht, div_add_same hD]
  refine ext_getD (by rw [List.length_set, ldI_len, ldI_len]) fun i hi => ?_
  rw [List.length_set, ldI_len] at hi
  rw [ldI_get hi, ldS_snoc, h]
  by_cases e : t = i
  · subst e
    rw [if_pos rfl, List.getD_eq_getElem?_getD, List.getElem?_set_self (by rw [ldI_len]; exact hi)]
    rfl
  · rw [if_neg (by intro z; cases z; exact e rfl), Int.add_zero, List.getD_eq_getElem?_getD, List.getElem?_set_ne e, ← List.getD_eq_getElem?_getD, ldI_get hi]
theorem fIn_mem {ns lot : List Int} {t : Int} (h : fIn ns lot = some t) : t ∈ ns ∧ t ∈ lot := by
  unfold fIn at h
  have h1 := List.find?_some h
  exact ⟨List.mem_of_find?_eq_some h, by simpa using h1⟩
theorem ldS_bd {n : Int} {lot : List Int} {t : Int} : ∀ {ps : List (Int × List Int)}, (∀ p ∈ ps, PGood n p) → 0 ≤ ldS ps lot t ∧ ldS ps lot t ≤ ldT ps
  | [], _ => by unfold ldS ldT; simp
  | p :: ps, h => by
    have ih := ldS_bd (lot := lot) (t := t) (ps := ps) fun q hq => h q (List.mem_cons_of_mem _ hq)
    have h1 := (h p List.mem_cons_self).1
    unfold ldS ldT at *
    rw [List.map_cons, List.sum_cons, List.map_cons, List.sum_cons]
    split <;> omega
theorem ldT_pos {n : Int} : ∀ {ps : List (Int × List Int)}, (∀ p ∈ ps, PGood n p) → 0 ≤ ldT ps ∧ (ps ≠ [] → 1 ≤ ldT ps)
  | [], _ => by unfold ldT; simp
  | p :: ps, h => by
    have ih := ldT_pos (ps := ps) fun q hq => h q (List.mem_cons_of_mem _ hq)
    have h1 := (h p List.mem_cons_self).1
    unfold ldT at *
    rw [List.map_cons, List.sum_cons]
    exact ⟨by omega, fun _ => by omega⟩
theorem ldT_take {ps : List (Int × List Int)} {n : Int} (h : ∀ p ∈ ps, PGood n p) (i : Nat) : ldT (ps.take i) ≤ ldT ps := by
  have e : ldT ps = ldT (ps.take i) + ldT (ps.drop i) := by
    unfold ldT
    rw [← List.sum_append, ← List.map_append, List.take_append_drop]
  have := (ldT_pos (ps := ps.drop i) fun p hp => h p (List.mem_of_mem_drop hp)).1
  omega

--lib
/-! ### the best of all lots -/
def lotI (i m : Nat) : List Int := (lotOf i m).map fun k : Nat => (k : Int)
theorem lotI_isLot (i m : Nat) : IsLot (m : Int) (lotI i m) := by
  refine ⟨?_, fun x hx => ?_⟩
  · unfold lotI
    rw [List.pairwise_map]
    exact (lotOf_sorted i m).imp fun h => by omega
  · obtain ⟨k, hk, rfl⟩ := List.mem_map.1 hx
    have := lotOf_lt hk
    omega
theorem lotI_len (i m : Nat) : (lotI i m).length ≤ m := by unfold lotI; rw [List.length_map]; exact lotOf_len i m
theorem lotI_zero (m : Nat) : lotI 0 m = [] := by
  unfold lotI lotOf
  rw [List.filter_eq_nil_iff.mpr (fun t _ => by unfold tb; rw [Nat.zero_div]; decide)]
  rfl
/-- what the lot with the number i brings -/
def wv (sh : List Int → List Rat) (ps : List Int) (m i : Nat) : Rat := worthQ (sh (lotI i m)) (lotI i m) ps
/-- the best among the first k lots: the one with the number f -/
structure BestTo (sh : List Int → List Rat) (ps : List Int) (m k f : Nat) : Prop where
  lt : f < 2 ^ m
  top : ∀ j, j < k → wv sh ps m j ≤ wv sh ps m f
  few : ∀ j, j < k → wv sh ps m j = wv sh ps m f → (lotI f m).length ≤ (lotI j m).length
  first : ∀ j, j < f → wv sh ps m j = wv sh ps m f → (lotI f m).length < (lotI j m).length
theorem BestTo.zero {sh : List Int → List Rat} {ps : List Int} {m : Nat} : BestTo sh ps m 0 0 := ⟨Nat.pow_pos (by decide), fun j h => absurd h (by omega), fun j h => absurd h (by omega), fun j h => absurd h (by omega)⟩
theorem BestTo.take {sh : List Int → List Rat} {ps : List Int} {m k f : Nat} (h : BestTo sh ps m k f) (hk : k < 2 ^ m) (g : wv sh ps m f < wv sh ps m k ∨ wv sh ps m k = wv sh ps m f ∧ (lotI k m).length < (lotI f m).length) : BestTo sh ps m (k + 1) k := by
  refine ⟨hk, fun j hj => ?_, fun j hj e => ?_, fun j hj e => ?_⟩
  · by_cases z : j = k
    · rw [z]; exact Rat.le_refl
    · have := h.top j (by omega)
      rcases g with g | g
      · exact Rat.le_trans this (Rat.le_of_lt g)
      · rw [g.1]; exact this
  · by_cases z : j = k
    · rw [z]; exact Nat.le_refl _
    · have h1 := h.top j (by omega)
      rcases g with g | g
      · rw [e] at h1; exact absurd g (Rat.not_lt.mpr h1)
      · have := h.few j (by omega) (e.trans g.1)
        omega
  · have h1 := h.top j (by omega)
    rcases g with g | g
    · rw [e] at h1; exact absurd g (Rat.not_lt.mpr h1)
    · have := h.few j (by omega) (e.trans g.1)
      omega
theorem BestTo.keep {sh : List Int → List Rat} {ps : List Int} {m k f : Nat} (h : BestTo sh ps m k f) (g : ¬ (wv sh ps m f < wv sh ps m k)) (g2 : wv sh ps m k = wv sh ps m f → ¬ (lotI k m).length < (lotI f m).length) : BestTo sh ps m (k + 1) f := by
  refine ⟨h.lt, fun j hj => ?_, fun j hj e => ?_, h.first⟩
  · by_cases z : j = k
    · rw [z]; exact Rat.not_lt.mp g
    · exact h.top j (by omega)
  · by_cases z : j = k
    · subst z; exact Nat.not_lt.mp (g2 e)
    · exact h.few j (by omega) e

--lib
/-! ### rows of a table -/
/-- the row is a total and counts of the things of the lot -/
def Fits (r lot : List Int) (m : Int) : Prop := (r.length : Int) = m + 1 ∧ 1 ≤ r.getD 0 0 ∧ (r.drop 1).sum ≤ r.getD 0 0 ∧ ∀ t : Nat, (t : Int) < m → 0 ≤ r.getD (t + 1) 0 ∧ (0 < r.getD (t + 1) 0 → (t : Int) ∈ lot)
/-- divided by what divides all -/
abbrev lowR (r : List Int) : List Int := r.map fun x => x / ((gL 0 r : Nat) : Int)
theorem fits_pos {r lot : List Int} {m : Int} (h : Fits r lot m) (hm : 0 ≤ m) : 0 < r.length := by have := h.1; omega
/-- tuples of ints -/
def LTt (H : Hp) (xs : List V) (ls : List (List Int)) : Prop := xs.length = ls.length ∧ ∀ i, i < ls.length → ∃ a, xs[i]? = some (.ref a) ∧ At H a (.tup ((ls.getD i []).map V.int))
theorem LTt.ex {H H' : Hp} {xs : List V} {ls : List (List Int)} (h : LTt H xs ls) (e : Ex H H') : LTt H' xs ls := ⟨h.1, fun i hi => by
  obtain ⟨a, h1, h2⟩ := h.2 i hi
  exact ⟨a, h1, e.get h2⟩⟩
theorem LTt.nl {H H' : Hp} {xs : List V} {ls : List (List Int)} (h : LTt H xs ls) (e : Nl H H') : LTt H' xs ls := ⟨h.1, fun i hi => by
  obtain ⟨a, h1, h2⟩ := h.2 i hi
  exact ⟨a, h1, e.get (fun l z => by cases z) h2⟩⟩
theorem LTt.nil {H : Hp} : LTt H [] [] := ⟨rfl, fun i hi => absurd hi (by simp)⟩
theorem LTt.snoc {H : Hp} {xs : List V} {ls : List (List Int)} {a : Addr} {l : List Int} (h : LTt H xs ls) (r : At H a (.tup (l.map V.int))) : LTt H (xs ++ [.ref a]) (ls ++ [l]) := by
  refine ⟨by simp [h.1], fun i hi => ?_⟩
  by_cases e : i < ls.length
  · obtain ⟨c, h1, h2⟩ := h.2 i e
    exact ⟨c, by rw [List.getElem?_append_left (by rw [h.1]; exact e)]; exact h1, by rw [(show (ls ++ [l]).getD i [] = ls.getD i [] by rw [List.getD_eq_getElem?_getD, List.getElem?_append_left e, ← List.getD_eq_getElem?_getD])]; exact h2⟩
  · have ei : i = ls.length := by simp at hi; omega
    subst ei
    exact ⟨a, by rw [← h.1]; simp, by rw [(show (ls ++ [l]).getD ls.length [] = l by rw [List.getD_eq_getElem?_getD, List.getElem?_append_right (Nat.le_refl _), Nat.sub_self]; rfl)]; exact r⟩

--lib
/-! ### lists of lists of ints -/
def LLi (H : Hp) (xs : List V) (nss : List (List Int)) : Prop := xs.length = nss.length ∧ ∀ i, i < nss.length → ∃ a, xs[i]? = some (.ref a) ∧ At H a (.lst ((nss.getD i []).map V.int))
theorem LLi.ex {H H' : Hp} {xs : List V} {nss : List (List Int)} (h : LLi H xs nss) (e : Ex H H') : LLi H' xs nss := ⟨h.1, fun i hi => by
  obtain ⟨a, h1, h2⟩ := h.2 i hi
  exact ⟨a, h1, e.get h2⟩⟩
theorem LLi.nil {H : Hp} : LLi H [] [] := ⟨rfl, fun i hi => absurd hi (by simp)⟩
theorem LLi.snoc {H : Hp} {xs : List V} {nss : List (List Int)} {a : Addr} {ns : List Int} (h : LLi H xs nss) (r : At H a (.lst (ns.map V.int))) : LLi H (xs ++ [.ref a]) (nss ++ [ns]) := by
  refine ⟨by simp [h.1], fun i hi => ?_⟩
  by_cases e : i < nss.length
  · obtain ⟨c, h1, h2⟩ := h.2 i e
    refine ⟨c, by rw [List.getElem?_append_left (by rw [h.1]; exact e)]; exact h1, ?_⟩
    rw [List.getD_eq_getElem?_getD, List.getElem?_append_left e, ← List.getD_eq_getElem?_getD]
    exact h2
  · have ei : i = nss.length := by simp at hi; omega
    subst ei
    refine ⟨a, by rw [← h.1]; simp, ?_⟩
    rw [List.getD_eq_getElem?_getD]
    simpa using r
/-- what is not the list at p stands: the lists in it too, if p is none of them -/
theorem LLi.of {H H' : Hp} {xs : List V} {nss : List (List Int)} {p : Addr} (h : LLi H xs nss) (ho : ∀ b o, b ≠ p → At H b o → At H' b o) (hp : V.ref p ∉ xs) : LLi H' xs nss := ⟨h.1, fun i hi => by
  obtain ⟨a, h1, h2⟩ := h.2 i hi
  exact ⟨a, h1, ho a _ (fun z => hp (by rw [← z]; exact List.mem_of_getElem? h1)) h2⟩⟩
theorem LLi.app {H : Hp} {xs ys : List V} {nss mss : List (List Int)} (h : LLi H xs nss) (g : LLi H ys mss) : LLi H (xs ++ ys) (nss ++ mss) := by
  refine ⟨by simp [h.1, g.1], fun i hi => ?_⟩
  by_cases e : i < nss.length
  · obtain ⟨c, h1, h2⟩ := h.2 i e
    refine ⟨c, by rw [List.getElem?_append_left (by rw [h.1]; exact e)]; exact h1, ?_⟩
    rw [List.getD_eq_getElem?_getD, List.getElem?_append_left e, ← List.getD_eq_getElem?_getD]
    exact h2
  · obtain ⟨c, h1, h2⟩ := g.2 (i - nss.length) (by simp at hi; omega)
    refine ⟨c, by rw [List.getElem?_append_right (by rw [h.1]; omega), h.1]; exact h1, ?_⟩
    rw [List.getD_eq_getElem?_getD, List.getElem?_append_right (by omega), ← List.getD_eq_getElem?_getD]
    exact h2
/-- the lists hold ints alone: the outer list is none of them -/
theorem LLi.nself {H : Hp} {xs : List V} {nss : List (List Int)} {p : Addr} (h : LLi H xs nss) (hp : At H p (.lst xs)) : V.ref p ∉ xs := by
  intro hm
  obtain ⟨j, hj, e⟩ := List.getElem_of_mem hm
  obtain ⟨a, h1, h2⟩ := h.2 j (by rw [← h.1]; exact hj)
  rw [List.getElem?_eq_getElem hj, e] at h1
  cases h1
  unfold At at hp h2
  rw [hp] at h2
  have h3 := HO.lst.inj (Option.some.inj h2)
  rw [h3] at hm
  obtain ⟨z, _, hz⟩ := List.mem_map.1 hm
  cases hz
theorem LLi.set {H : Hp} {xs : List V} {nss : List (List Int)} {a : Addr} {ns : List Int} {n : Nat} (h : LLi H xs nss) (r : At H a (.lst (ns.map V.int))) : LLi H (xs.set n (.ref a)) (nss.set n ns) := by
  refine ⟨by simp [h.1], fun i hi => ?_⟩
  rw [List.length_set] at hi
  by_cases e : n = i
  · subst e
    refine ⟨a, by rw [List.getElem?_set_self (by rw [h.1]; exact hi)], ?_⟩
    rw [List.getD_eq_getElem?_getD, List.getElem?_set_self hi]
    exact r
  · obtain ⟨c, h1, h2⟩ := h.2 i hi
    refine ⟨c, by rw [List.getElem?_set_ne e]; exact h1, ?_⟩
    rw [List.getD_eq_getElem?_getD, List.getElem?_set_ne e, ← List.getD_eq_getElem?_getD]
    exact h2
theorem LLi.drop {H : Hp} {xs : List V} {nss : List (List Int)} {n : Nat} (h : LLi H xs nss) : LLi H (xs.drop n) (nss.drop n) := by
  refine ⟨by simp [h.1], fun i hi => ?_⟩
  rw [List.length_drop] at hi
  obtain ⟨c, h1, h2⟩ := h.2 (n + i) (by omega)
  refine ⟨c, by rw [List.getElem?_drop]; exact h1, ?_⟩
  rw [List.getD_eq_getElem?_getD, List.getElem?_drop, ← List.getD_eq_getElem?_getD]
  exact h2
/-- the end of a comprehension's turn that makes a list of ints -/
theorem elxL {H H' H4 : Hp} {Dl a : Addr} {acc : List V} {i : Nat} (nss : Nat → List (List Int)) {ns : List Int} (c : CD H Dl acc H') (hl : acc.length = i) (hz : acc.length < sizeLine) (e : Ex H' H4) (hP : LLi H' acc (nss i)) (hn : nss (i + 1) = nss i ++ [ns]) (ha : At H4 a (.lst (ns.map V.int))) (hne : a ≠ Dl) : ElX H Dl i (fun i acc H' => LLi H' acc (nss i)) (.ref a) H4 := by
  have hD := e.get c.at_
  have hP4 := hP.ex e
  refine ⟨acc, hD, hz, acc ++ [V.ref a], ⟨c.new, Ex.mut (c.ex.trans e) c.new, (upd_same : At (upd H4 Dl (HO.lst (acc ++ [V.ref a]))) Dl (HO.lst (acc ++ [V.ref a])))⟩, by simp [hl], ?_⟩
  show LLi _ _ (nss (i + 1))
  rw [hn]
  refine LLi.snoc (hP4.of (fun b o hb h => ?_) (hP4.nself hD)) ?_
  · unfold At; rw [upd_ne hb]; exact h
  · unfold At; rw [upd_ne hne]; exact ha
/-! ### == of lists of lists of ints -/
def dIs (r : List Int) : List PyData := r.map PyData.int
def dLL (nss : List (List Int)) : List PyData := nss.map fun r => .list (dIs r)
theorem dpIs {K : PySem.W.Frag} {H : Hp} : ∀ (r : List Int), DpAll K H (r.map V.int) (dIs r)
  | [] => .nil
  | z :: r => .cons (.int z) (dpIs r)
theorem LLi.tail {H : Hp} {x : V} {xs : List V} {r : List Int} {nss : List (List Int)} (h : LLi H (x :: xs) (r :: nss)) : LLi H xs nss := ⟨by have := h.1; simpa using this, fun i hi => h.2 (i + 1) (by simpa using hi)⟩
theorem LLi.dp {K : PySem.W.Frag} {H : Hp} : ∀ {nss : List (List Int)} {xs : List V}, LLi H xs nss → DpAll K H xs (dLL nss)
  | [], xs, h => by
    cases xs with
    | nil => exact .nil
    | cons x xs => exact absurd h.1 (by simp)
  | r :: nss, xs, h => by
    cases xs with
    | nil => exact absurd h.1 (by simp)
    | cons x xs =>
      obtain ⟨a, h1, h2⟩ := h.2 0 (by simp)
      cases h1
      exact .cons (.lst (sq_of h2) (dpIs r)) (LLi.dp h.tail)
theorem can_dIs : ∀ (r : List Int), PyData.canLayAll0 (dIs r) = true ∧ PyData.depthAll (dIs r) = 0
  | [] => by simp [dIs, PyData.canLayAll0, PyData.depthAll]
  | z :: r => by
    obtain ⟨h1, h2⟩ := can_dIs r
    unfold dIs at *
    simp [PyData.canLayAll0, PyData.depthAll, PyData.canLay0, PyData.depth, h1, h2]
theorem can_dLL : ∀ (nss : List (List Int)), PyData.canLayAll0 (dLL nss) = true ∧ PyData.depthAll (dLL nss) ≤ 1
  | [] => by simp [dLL, PyData.canLayAll0, PyData.depthAll]
  | r :: nss => by
    obtain ⟨h1, h2⟩ := can_dLL nss
    obtain ⟨h3, h4⟩ := can_dIs r
    unfold dLL at *
    simp [PyData.canLayAll0, PyData.depthAll, PyData.canLay0, PyData.depth, h1, h2, h3, h4]
theorem eqv_dIs : ∀ (a b : List Int), PyData.eqvAll (dIs a) (dIs b) = decide (a = b)
  | [], [] => by simp [dIs, PyData.eqvAll]
  | [], _ :: _ => by simp [dIs, PyData.eqvAll]
  | _ :: _, [] => by simp [dIs, PyData.eqvAll]
  | x :: a, y :: b => by
    have h := eqv_dIs a b
    unfold dIs at *
    have e : (x == y) = decide (x = y) := by by_cases e : x = y <;> simp [e]
    simp [PyData.eqvAll, PyData.eqv, h, e]
theorem eqv_dLL : ∀ (a b : List (List Int)), PyData.eqvAll (dLL a) (dLL b) = decide (a = b)
  | [], [] => by simp [dLL, PyData.eqvAll]
  | [], _ :: _ => by simp [dLL, PyData.eqvAll]
  | _ :: _, [] => by simp [dLL, PyData.eqvAll]
  | x :: a, y :: b => by
    have h := eqv_dLL a b
    have h2 := eqv_dIs x y
    unfold dLL at *
    simp [PyData.eqvAll, PyData.eqv, h, h2]
theorem sh_dLL (nss : List (List Int)) : SeqAt.shaped (.list (dLL nss)) = true := by
  obtain ⟨h1, h2⟩ := can_dLL nss
  simp [SeqAt.shaped, PyData.canLay0, PyData.depth, h1]
  omega
theorem w_eqLL {K : PySem.W.Frag} {H : Hp} {Q : VK} {a b : Addr} {xs ys : List V} {nss mss : List (List Int)} (h1 : SqL K H a xs) (h2 : SqL K H b ys) (l1 : LLi H xs nss) (l2 : LLi H ys mss) (q : Q (.bl (decide (nss = mss))) H) : rEqZ K (.ref a) (.ref b) H Q := .inr ⟨_, _, .lst h1 l1.dp, .lst h2 l2.dp, sh_dLL _, sh_dLL _, by unfold PyData.eqv; rw [eqv_dLL]; exact q⟩
theorem w_neLL {K : PySem.W.Frag} {H : Hp} {Q : VK} {a b : Addr} {xs ys : List V} {nss mss : List (List Int)} (h1 : SqL K H a xs) (h2 : SqL K H b ys) (l1 : LLi H xs nss) (l2 : LLi H ys mss) (q : Q (.bl (!decide (nss = mss))) H) : rNeZ K (.ref a) (.ref b) H Q := .inr ⟨_, _, .lst h1 l1.dp, .lst h2 l2.dp, sh_dLL _, sh_dLL _, by unfold PyData.eqv; rw [eqv_dLL]; exact q⟩
/-! ### lists of lists of ints, each of its own -/
structure LLn (H0 H : Hp) (xs : List V) (nss : List (List Int)) : Prop where
  ll : LLi H xs nss
  nd : xs.Nodup
  fr : ∀ v ∈ xs, ∃ a, v = .ref a ∧ Fr H0 a
theorem LLn.ex {H0 H H' : Hp} {xs : List V} {nss : List (List Int)} (h : LLn H0 H xs nss) (e : Ex H H') : LLn H0 H' xs nss := ⟨h.ll.ex e, h.nd, h.fr⟩
theorem LLn.nil {H0 H : Hp} : LLn H0 H [] [] := ⟨.nil, .nil, fun v hv => by simp at hv⟩
theorem LLi.ne {H G : Hp} {xs : List V} {nss : List (List Int)} {a : Addr} (h : LLi H xs nss) (e : Ex H G) (n : Fr G a) : V.ref a ∉ xs := by
  intro hm
  obtain ⟨j, hj, ej⟩ := List.getElem_of_mem hm
  obtain ⟨b, h1, h2⟩ := h.2 j (by rw [← h.1]; exact hj)
  rw [List.getElem?_eq_getElem hj, ej] at h1
  cases h1
  exact (e.get h2).ne n rfl
theorem LLn.snoc {H0 H : Hp} {xs : List V} {nss : List (List Int)} {a : Addr} {ns : List Int} (h : LLn H0 H xs nss) (r : At H a (.lst (ns.map V.int))) (hm : V.ref a ∉ xs) (hf : Fr H0 a) : LLn H0 H (xs ++ [.ref a]) (nss ++ [ns]) := by
  refine ⟨h.ll.snoc r, ?_, fun v hv => ?_⟩
  · rw [List.nodup_append]
    exact ⟨h.nd, by simp, fun v hv w hw e => by rw [List.mem_singleton.1 hw] at e; rw [e] at hv; exact hm hv⟩
  · rcases List.mem_append.1 hv with q | q
    · exact h.fr v q
    · exact ⟨a, List.mem_singleton.1 q, hf⟩
theorem LLn.of {H0 H H' : Hp} {xs : List V} {nss : List (List Int)} {p : Addr} (h : LLn H0 H xs nss) (ho : ∀ b o, b ≠ p → At H b o → At H' b o) (hp : V.ref p ∉ xs) : LLn H0 H' xs nss := ⟨h.ll.of ho hp, h.nd, h.fr⟩
/-- an inner list is changed -/
theorem LLn.inner {H0 H H' : Hp} {xs : List V} {nss : List (List Int)} {i : Nat} {a : Addr} {ns : List Int} (h : LLn H0 H xs nss) (hx : xs[i]? = some (.ref a)) (hi : i < nss.length) (ho : ∀ b o, b ≠ a → At H b o → At H' b o) (r : At H' a (.lst (ns.map V.int))) : LLn H0 H' xs (nss.set i ns) := by
  refine ⟨⟨by rw [List.length_set]; exact h.ll.1, fun j hj => ?_⟩, h.nd, h.fr⟩
  rw [List.length_set] at hj
  by_cases e : i = j
  · subst e
    exact ⟨a, hx, by rw [List.getD_eq_getElem?_getD, List.getElem?_set_self hi]; exact r⟩
  · obtain ⟨b, h1, h2⟩ := h.ll.2 j hj
    refine ⟨b, h1, ?_⟩
    rw [List.getD_eq_getElem?_getD, List.getElem?_set_ne e, ← List.getD_eq_getElem?_getD]
    refine ho b _ (fun z => e ?_) h2
    subst z
    obtain ⟨hi2, ei⟩ := List.getElem?_eq_some_iff.mp hx
    obtain ⟨hj2, ej⟩ := List.getElem?_eq_some_iff.mp h1
    have hp := List.pairwise_iff_getElem.mp h.nd
    rcases Nat.lt_trichotomy i j with q | q | q
    · exact absurd (ei.trans ej.symm) (hp i j hi2 hj2 q)
    · exact q
    · exact absurd (ej.trans ei.symm) (hp j i hj2 hi2 q)
/-- the end of a turn of [list(row) for row in ..] -/
theorem elxN {H H' H4 : Hp} {Dl a : Addr} {acc : List V} {i : Nat} (nss : Nat → List (List Int)) {ns : List Int} (c : CD H Dl acc H') (hl : acc.length = i) (hz : acc.length < sizeLine) (n : Fr H' a) (e : Ex H' H4) (hP : LLn H H' acc (nss i)) (hn : nss (i + 1) = nss i ++ [ns]) (ha : At H4 a (.lst (ns.map V.int))) : ElX H Dl i (fun i acc H' => LLn H H' acc (nss i)) (.ref a) H4 := by
  have hD := e.get c.at_
  have hP4 := hP.ex e
  have hne : a ≠ Dl := fun z => c.at_.ne (z ▸ n) rfl
  refine ⟨acc, hD, hz, acc ++ [V.ref a], ⟨c.new, Ex.mut (c.ex.trans e) c.new, (upd_same : At (upd H4 Dl (HO.lst (acc ++ [V.ref a]))) Dl (HO.lst (acc ++ [V.ref a])))⟩, by simp [hl], ?_⟩
  show LLn H _ _ (nss (i + 1))
  rw [hn]
  refine LLn.snoc (hP4.of (fun b o hb h => ?_) (hP4.ll.nself hD)) ?_ (hP.ll.ne (Ex.refl _) n) (c.ex.back n)
  · unfold At; rw [upd_ne hb]; exact h
  · unfold At; rw [upd_ne hne]; exact ha

--lib
/-! ### a row of a total and counts: what it brings -/
def rbr (r ps : List Int) : Int := ((List.range ps.length).map fun t => r.getD (t + 1) 0 * ps.getD t 0).sum

--lib
/-! ### mixtures -/
/-- any rule of n things -/
def RAny (K : PySem.W.Frag) (H : Hp) (x : Addr) (n : Int) : Prop := ∃ C, RB C H x n ∧ Cls K C ∧ NoAttr K C "many"
theorem RAny.ex {K : PySem.W.Frag} {H H' : Hp} {x : Addr} {n : Int} (h : RAny K H x n) (e : Ex H H') : RAny K H' x n := by
  obtain ⟨C, h1, h2⟩ := h
  exact ⟨C, h1.ex e, h2⟩
theorem RAny.nl {K : PySem.W.Frag} {H H' : Hp} {x : Addr} {n : Int} (h : RAny K H x n) (e : Nl H H') : RAny K H' x n := by
  obtain ⟨C, h1, h2⟩ := h
  exact ⟨C, h1.nl e, h2⟩
theorem RAny.bd {K : PySem.W.Frag} {H : Hp} {x : Addr} {n : Int} (h : RAny K H x n) : 0 ≤ n ∧ n ≤ 24 := by
  obtain ⟨C, ⟨dx, fs, h1, h2, h3, h4, h5⟩, _⟩ := h
  exact ⟨h4, h5⟩
theorem u_anymany {K : PySem.W.Frag} {H : Hp} {Q : VK} {x : Addr} {n : Int} (h : RAny K H x n) (k : Q (.int n) H) : dF K "many" Q (.ref x) H := by
  obtain ⟨C, h1, h2, h3⟩ := h
  exact u_rmany h1 h2 h3 k
/-- pairs: so many buyers, their rule; as (buyers, things of the rule, the rule's place) -/
abbrev MP := Int × Int × Addr
def mp0 : MP := (0, 0, 0)
def MPt (K : PySem.W.Frag) (H : Hp) (xs : List V) (ps : List MP) : Prop := xs.length = ps.length ∧ ∀ i, i < ps.length → ∃ a, xs[i]? = some (.ref a) ∧ At H a (.tup [.int (ps.getD i mp0).1, .ref (ps.getD i mp0).2.2]) ∧ RAny K H (ps.getD i mp0).2.2 (ps.getD i mp0).2.1
theorem MPt.ex {K : PySem.W.Frag} {H H' : Hp} {xs : List V} {ps : List MP} (h : MPt K H xs ps) (e : Ex H H') : MPt K H' xs ps := ⟨h.1, fun i hi => by
  obtain ⟨a, h1, h2, h3⟩ := h.2 i hi
  exact ⟨a, h1, e.get h2, h3.ex e⟩⟩
theorem MPt.nl {K : PySem.W.Frag} {H H' : Hp} {xs : List V} {ps : List MP} (h : MPt K H xs ps) (e : Nl H H') : MPt K H' xs ps := ⟨h.1, fun i hi => by
  obtain ⟨a, h1, h2, h3⟩ := h.2 i hi
  exact ⟨a, h1, e.get (fun l z => by cases z) h2, h3.nl e⟩⟩
theorem MPt.nil {K : PySem.W.Frag} {H : Hp} : MPt K H [] [] := ⟨rfl, fun i hi => absurd hi (by simp)⟩
theorem MPt.snoc {K : PySem.W.Frag} {H : Hp} {xs : List V} {ps : List MP} {a : Addr} {p : MP} (h : MPt K H xs ps) (r : At H a (.tup [.int p.1, .ref p.2.2])) (r2 : RAny K H p.2.2 p.2.1) : MPt K H (xs ++ [.ref a]) (ps ++ [p]) := by
  refine ⟨by simp [h.1], fun i hi => ?_⟩
  by_cases e : i < ps.length
  · obtain ⟨c, h1, h2, h3⟩ := h.2 i e
    have eg : (ps ++ [p]).getD i mp0 = ps.getD i mp0 := by rw [List.getD_eq_getElem?_getD, List.getElem?_append_left e, ← List.getD_eq_getElem?_getD]
    exact ⟨c, by rw [List.getElem?_append_left (by rw [h.1]; exact e)]; exact h1, by rw [eg]; exact h2, by rw [eg]; exact h3⟩
  · have ei : i = ps.length := by simp at hi; omega
    subst ei
    have eg : (ps ++ [p]).getD ps.length mp0 = p := by rw [List.getD_eq_getElem?_getD, List.getElem?_append_right (Nat.le_refl _), Nat.sub_self]; rfl
    exact ⟨a, by rw [← h.1]; simp, by rw [eg]; exact r, by rw [eg]; exact r2⟩
theorem MPt.at {K : PySem.W.Frag} {H : Hp} {xs : List V} {ps : List MP} (h : MPt K H xs ps) {i : Nat} (hi : i < ps.length) : ∃ a, atI xs (i : Int) = some (.ref a) ∧ At H a (.tup [.int (ps.getD i mp0).1, .ref (ps.getD i mp0).2.2]) ∧ RAny K H (ps.getD i mp0).2.2 (ps.getD i mp0).2.1 := by
  obtain ⟨a, h1, h2, h3⟩ := h.2 i hi
  refine ⟨a, ?_, h2, h3⟩
  unfold atI
  rw [ixN_pos (by omega) (by rw [h.1]; omega), Int.toNat_natCast]
  exact h1
/-- one that may stand in a mixture whose rules have n things -/
def XGood (n : Int) (p : MP) : Prop := 1 ≤ p.1 ∧ p.2.1 = n
def MxGood (n : Int) (ps : List MP) : Prop := ps ≠ [] ∧ ∀ j, j < ps.length → XGood n (ps.getD j mp0)
inductive MxRes (n : Int) (ps : List MP) : Nat → Bool → Prop
  | num (i : Nat) (hi : i < ps.length) (h : (ps.getD i mp0).1 < 1) (hb : ∀ j, j < i → XGood n (ps.getD j mp0)) : MxRes n ps i true
  | unl (i : Nat) (hi : i < ps.length) (h1 : 1 ≤ (ps.getD i mp0).1) (h : (ps.getD i mp0).2.1 ≠ n) (hb : ∀ j, j < i → XGood n (ps.getD j mp0)) : MxRes n ps i false
theorem MxRes.is {n : Int} {ps : List MP} {i : Nat} {b : Bool} (h : MxRes n ps i b) : i < ps.length ∧ ¬ XGood n (ps.getD i mp0) ∧ (∀ j, j < i → XGood n (ps.getD j mp0)) ∧ b = decide ((ps.getD i mp0).1 < 1) := by
  cases h with
  | num hi h hb => exact ⟨hi, fun g => by have := g.1; omega, hb, (decide_eq_true h).symm⟩
  | unl hi h1 h hb => exact ⟨hi, fun g => h g.2, hb, (decide_eq_false (by omega)).symm⟩
theorem MxRes.det {n : Int} {ps : List MP} {i j : Nat} {b c : Bool} (h : MxRes n ps i b) (g : MxRes n ps j c) : i = j ∧ b = c := by
  obtain ⟨h1, h2, h3, h4⟩ := h.is
  obtain ⟨g1, g2, g3, g4⟩ := g.is
  have e : i = j := by
    rcases Nat.lt_trichotomy i j with q | q | q
    · exact absurd (g3 i q) h2
    · exact q
    · exact absurd (h3 j q) g2
  subst e
  exact ⟨rfl, h4.trans g4.symm⟩
theorem MxRes.ne {n : Int} {ps : List MP} {i : Nat} {b : Bool} (h : MxRes n ps i b) : ps ≠ [] := fun z => by have := h.is.1; rw [z] at this; simp at this
theorem MxRes.good {n : Int} {ps : List MP} {i : Nat} {b : Bool} (h : MxRes n ps i b) (g : MxGood n ps) : False := by
  obtain ⟨h1, h2, _⟩ := h.is
  exact h2 (g.2 i h1)
/-- how many things the first rule has -/
def mxN (ps : List MP) : Int := (ps.getD 0 mp0).2.1
def MxErr (K : PySem.W.Frag) (ps : List MP) (E : XK) (H : Hp) : Prop :=
  (ps = [] → ∀ H', Ex H H' → E (.ref (He.ga K "NoBuyers")) none H') ∧
  (∀ i, MxRes (mxN ps) ps i true → ∀ d H', Ex H H' → At H' d (.xd [("at", .int (i : Nat)), ("what", .str "buyers")]) → E (.ref (He.ga K "BadNumber")) (some d) H') ∧
  (∀ i, MxRes (mxN ps) ps i false → ∀ d H', Ex H H' → At H' d (.xd [("at", .int (i : Nat))]) → E (.ref (He.ga K "Unlike")) (some d) H')
theorem MxErr.good {K : PySem.W.Frag} {ps : List MP} {E : XK} {H : Hp} (g : MxGood (mxN ps) ps) : MxErr K ps E H := ⟨fun h => absurd h g.1, fun i h => (h.good g).elim, fun i h => (h.good g).elim⟩
/-- a mixture stands at x -/
def MxR (K : PySem.W.Frag) (H : Hp) (x : Addr) (n : Int) (ps : List MP) : Prop := ∃ dx tp ys, At H x (.ins (He.ga K "Mixed") dx [("many", .int n), ("parts", .ref tp)]) ∧ At H tp (.tup ys) ∧ MPt K H ys ps
theorem MxR.ex {K : PySem.W.Frag} {H H' : Hp} {x : Addr} {n : Int} {ps : List MP} (h : MxR K H x n ps) (e : Ex H H') : MxR K H' x n ps := by
  obtain ⟨dx, tp, ys, h1, h2, h3⟩ := h
  exact ⟨dx, tp, ys, e.get h1, e.get h2, h3.ex e⟩
theorem MxR.nl {K : PySem.W.Frag} {H H' : Hp} {x : Addr} {n : Int} {ps : List MP} (h : MxR K H x n ps) (e : Nl H H') : MxR K H' x n ps := by
  obtain ⟨dx, tp, ys, h1, h2, h3⟩ := h
  exact ⟨dx, tp, ys, e.get (fun l z => by cases z) h1, e.get (fun l z => by cases z) h2, h3.nl e⟩
theorem ext_get1 {α : Type} {xs : List α} {a : α} (h : xs.length = 1) (h0 : xs[0]? = some a) : xs = [a] := by
  match xs, h with
  | [x], _ => simpa using h0
theorem ext_get2 {α : Type} {xs : List α} {a b : α} (h : xs.length = 2) (h0 : xs[0]? = some a) (h1 : xs[1]? = some b) : xs = [a, b] := by
  match xs, h with
  | [x, y], _ => simp at h0 h1; rw [h0, h1]
theorem ext_get3 {α : Type} {xs : List α} {a b c : α} (h : xs.length = 3) (h0 : xs[0]? = some a) (h1 : xs[1]? = some b) (h2 : xs[2]? = some c) : xs = [a, b, c] := by
  match xs, h with
  | [x, y, z], _ => simp at h0 h1 h2; rw [h0, h1, h2]
theorem ext_get4 {α : Type} {xs : List α} {a b c d : α} (h : xs.length = 4) (h0 : xs[0]? = some a) (h1 : xs[1]? = some b) (h2 : xs[2]? = some c) (h3 : xs[3]? = some d) : xs = [a, b, c, d] := by
  match xs, h with
  | [x, y, z, w], _ => simp at h0 h1 h2 h3; rw [h0, h1, h2, h3]

local macro_rules | `(tactic| walk_at "ex") => `(tactic| first | with_reducible assumption | ((with_reducible apply Z.exE); exact inferInstance))
local macro_rules | `(tactic| walk_at "fr") => `(tactic| first | with_reducible assumption | ((with_reducible apply Z.frE); (with_reducible assumption); exact inferInstance))
local macro_rules | `(tactic| walk_at "fx") => `(tactic| first | with_reducible assumption | ((with_reducible apply Z.getE); (with_reducible assumption); exact inferInstance) | ((with_reducible apply Z.getTN); (with_reducible assumption); exact inferInstance) | ((with_reducible apply Z.getIN); (with_reducible assumption); exact inferInstance))
local macro_rules | `(tactic| walk_at "fl") => `(tactic| first | with_reducible assumption | ((with_reducible apply Z.lA); (with_reducible assumption); exact inferInstance) | ((with_reducible apply Z.lE); (with_reducible assumption); exact inferInstance))
local macro_rules | `(tactic| walk_at "fi") => `(tactic| first | walk_at "fl" | ((with_reducible apply Z.lU); (walk_at "fl"); exact rfl))
local macro_rules | `(tactic| walk_at "ti") => `(tactic| first | walk_at "ft" | ((with_reducible apply Z.tU); (walk_at "ft"); exact rfl))
local macro_rules | `(tactic| walk_at "ft") => `(tactic| first | with_reducible assumption | ((with_reducible apply Z.tA); (with_reducible assumption); exact inferInstance) | ((with_reducible apply Z.tE); (with_reducible assumption); exact inferInstance) | ((with_reducible apply Z.tNA); (with_reducible assumption); exact inferInstance) | ((with_reducible apply Z.tEN); (with_reducible assumption); exact inferInstance))
local macro_rules | `(tactic| walk_at "fa") => `(tactic| first | with_reducible assumption | ((with_reducible apply Z.aE); (with_reducible assumption); exact inferInstance) | ((with_reducible apply Or.inl); (walk_at "fl")) | ((with_reducible apply Or.inr); (walk_at "ft")))
local macro_rules | `(tactic| walk_at "num") => `(tactic| first | with_reducible assumption | omega | (simp only [List.length_map, List.length_append, List.length_cons, List.length_nil, List.length_range, List.length_take, List.length_drop, List.length_replicate]; omega) | (simp only [List.length_map, List.length_append, List.length_cons, List.length_nil, List.length_range, List.length_take, List.length_drop, List.length_replicate] at *; omega) | decide | exact rfl)
local macro_rules | `(tactic| walk_at "nat") => `(tactic| first | with_reducible assumption | (simp only [Int.reduceToNat]; exact rfl) | (simp only [Int.toNat_natCast]; exact rfl) | exact rfl)
local macro_rules | `(tactic| walk_at "sz") => `(tactic| first | with_reducible assumption | (show _ ≤ 16777216; walk_at "num") | (show _ < 16777216; walk_at "num"))
local macro_rules | `(tactic| walk_at "div") => `(tactic| first | with_reducible assumption | ((with_reducible apply Z.CDivZ.of); with_reducible assumption) | exact Z.CDivZ.of (L2.wide_div (b := 64) (by omega) (by omega) (by decide) (by decide)) | exact Z.CDivZ.of (L2.wide_div (b := 64) (by decide) (by decide) (by decide) (by decide)))
local macro_rules | `(tactic| walk_at "look") => `(tactic| first | with_reducible assumption | exact R.rF_top _ _ | exact R.rF_bottom _ _ | exact rfl)
local macro_rules | `(tactic| walk_at "call") => `(tactic| fail)
local macro_rules | `(tactic| walk_at "rn") => `(tactic| (first | with_reducible assumption | ((with_reducible apply R.rnE); (with_reducible assumption); exact inferInstance) | ((with_reducible apply R.rnN); (with_reducible assumption); exact inferInstance)))
local macro_rules | `(tactic| walk_at "rb") => `(tactic| (first | with_reducible assumption | ((with_reducible apply R.rbE); (with_reducible assumption); exact inferInstance) | ((with_reducible apply R.rbN); (with_reducible assumption); exact inferInstance)))
local macro_rules | `(tactic| walk_at "rl") => `(tactic| (first | with_reducible assumption | ((with_reducible apply R.rlE); (with_reducible assumption); exact inferInstance) | ((with_reducible apply R.rlN); (with_reducible assumption); exact inferInstance)))
local macro_rules | `(tactic| walk_at "call") => `(tactic| ((with_reducible apply R.u_rme); (walk_at "rb"); (decide +kernel)))
local macro_rules | `(tactic| walk_at "call") => `(tactic| ((with_reducible apply R.u_rmany); (walk_at "rb"); (with_reducible assumption); (with_reducible assumption)))
local macro_rules | `(tactic| walk_at "call") => `(tactic| ((with_reducible apply R.u_rcon); (walk_at "rb"); (with_reducible assumption); (with_reducible assumption); (decide +kernel)))
local macro_rules | `(tactic| walk_at "call") => `(tactic| ((with_reducible apply R.u_risC2); (walk_at "rb"); (with_reducible assumption); (with_reducible assumption)))
local macro_rules | `(tactic| walk_at "call") => `(tactic| ((with_reducible apply R.u_risO2); (walk_at "rb"); (with_reducible assumption)))
local macro_rules | `(tactic| walk_at "call") => `(tactic| ((with_reducible apply R.u_ixR); (walk_at "fl"); (walk_at "rl"); (walk_at "num"); (walk_at "num"); (intro ra hra)))
local macro_rules | `(tactic| walk_at "pl") => `(tactic| (first | with_reducible assumption | ((with_reducible apply R.plE); (with_reducible assumption); exact inferInstance) | ((with_reducible apply R.plN); (with_reducible assumption); exact inferInstance)))
local macro_rules | `(tactic| walk_at "call") => `(tactic| ((with_reducible apply R.u_ixP); (walk_at "fl"); (walk_at "pl"); (walk_at "num"); (walk_at "num"); (intro pa hpa)))
local macro_rules | `(tactic| walk_at "wr") => `(tactic| (first | with_reducible assumption | ((with_reducible apply R.wrE); (with_reducible assumption); exact inferInstance) | ((with_reducible apply R.wrN); (with_reducible assumption); exact inferInstance)))
local macro_rules | `(tactic| walk_at "call") => `(tactic| ((with_reducible apply R.u_meW); (walk_at "wr"); (decide +kernel); (decide +kernel); (decide +kernel)))
local macro_rules | `(tactic| walk_at "call") => `(tactic| ((with_reducible apply R.u_wts); (walk_at "wr"); (with_reducible assumption); (with_reducible assumption); (intro tw htw htw2)))
local macro_rules | `(tactic| walk_at "call") => `(tactic| ((with_reducible apply R.u_asd); (walk_at "wr"); (with_reducible assumption); (with_reducible assumption)))
local macro_rules | `(tactic| walk_at "call") => `(tactic| ((with_reducible apply R.u_many); (walk_at "wr"); (with_reducible assumption); (with_reducible assumption)))
local macro_rules | `(tactic| walk_at "call") => `(tactic| ((with_reducible apply R.u_isW); (walk_at "wr"); (with_reducible assumption)))
local macro_rules | `(tactic| walk_at "call") => `(tactic| ((with_reducible apply R.u_OO); (walk_at "rn"); (walk_at "rn"); (first | decide | omega); (intro p H2 hn he hr)))
local macro_rules | `(tactic| walk_at "call") => `(tactic| ((with_reducible apply R.u_OI); (walk_at "rn"); (walk_at "bt"); (first | decide | omega); (intro p H2 hn he hr)))
local macro_rules | `(tactic| walk_at "call") => `(tactic| ((with_reducible apply R.u_IO); (walk_at "rn"); (walk_at "bt"); (first | decide | omega); (intro p H2 hn he hr)))
local macro_rules | `(tactic| walk_at "call") => `(tactic| ((with_reducible apply R.u_UO); (walk_at "rn"); (intro p H2 hn he hr)))
local macro_rules | `(tactic| walk_at "call") => `(tactic| ((with_reducible apply R.u_C1); (walk_at "rn"); (intro p H2 hn he hr)))
local macro_rules | `(tactic| walk_at "call") => `(tactic| ((with_reducible apply R.u_eOO); (walk_at "rn"); (walk_at "rn")))
local macro_rules | `(tactic| walk_at "call") => `(tactic| ((with_reducible apply R.u_eOI); (walk_at "rn")))
local macro_rules | `(tactic| walk_at "call") => `(tactic| ((with_reducible apply R.u_eIO); (walk_at "rn")))
local macro_rules | `(tactic| walk_at "call") => `(tactic| ((with_reducible apply R.u_bO); (walk_at "rn")))
local macro_rules | `(tactic| walk_at "call") => `(tactic| ((with_reducible apply R.u_cIO); (walk_at "rn"); (walk_at "bt"); (first | decide | omega)))
local macro_rules | `(tactic| walk_at "call") => `(tactic| ((with_reducible apply R.u_cOO); (walk_at "rn"); (walk_at "rn")))
local macro_rules | `(tactic| walk_at "call") => `(tactic| ((with_reducible apply R.u_cOI); (walk_at "rn"); (walk_at "bt"); (first | decide | omega)))
local macro_rules | `(tactic| walk_at "call") => `(tactic| ((with_reducible apply R.u_me); (walk_at "rn"); (decide +kernel); (decide +kernel)))
local macro_rules | `(tactic| walk_at "call") => `(tactic| ((with_reducible apply R.u_top); (walk_at "rn"); (with_reducible assumption); (with_reducible assumption)))
local macro_rules | `(tactic| walk_at "call") => `(tactic| ((with_reducible apply R.u_bot); (walk_at "rn"); (with_reducible assumption); (with_reducible assumption)))
local macro_rules | `(tactic| walk_at "call") => `(tactic| ((with_reducible apply R.u_isR); (walk_at "rn"); (with_reducible assumption)))
local macro_rules | `(tactic| walk_at "st1") => `(tactic| (first
  | ((with_reducible apply Z.w_var); exact rfl)
  | with_reducible refine Z.w_c ?_
  | with_reducible refine Z.w_op ?_
  | with_reducible refine Z.w_un ?_
  | with_reducible refine Z.w_cb ?_
  | with_reducible refine Z.w_nil ?_
  | with_reducible refine Z.w_cons ?_
  | with_reducible refine Z.w_tup ?_
  | with_reducible refine Z.w_lst ?_
  | with_reducible refine Z.w_call0 ?_
  | with_reducible refine Z.w_call ?_
  | with_reducible refine Z.w_test ?_
  | with_reducible refine Z.w_B ?_
  | with_reducible refine Z.w_bl ?_
  | with_reducible refine Z.w_and ?_
  | with_reducible refine Z.w_or ?_
  | with_reducible refine Z.w_not ?_
  | with_reducible refine Z.w_andV ?_
  | with_reducible refine Z.w_orV ?_
  | with_reducible refine Z.w_notV ?_
  | with_reducible refine Z.w_ifE ?_
  | with_reducible refine Z.w_isN2 ?_
  | with_reducible refine Z.w_notN2 ?_
  | with_reducible refine Z.isN_n ?_
  | with_reducible refine Z.isN_i ?_
  | with_reducible refine Z.isN_s ?_
  | with_reducible refine Z.isN_r ?_
  | with_reducible refine Z.isN_b ?_
  | with_reducible refine Z.notN_n ?_
  | with_reducible refine Z.notN_i ?_
  | with_reducible refine Z.notN_s ?_
  | with_reducible refine Z.notN_r ?_
  | with_reducible refine Z.notN_b ?_
  | with_reducible refine Z.w_seq ?_
  | with_reducible refine Z.w_asg ?_
  | with_reducible refine Z.w_gnS ?_
  | with_reducible refine Z.w_gn ?_
  | with_reducible refine Z.w_ret ?_
  | with_reducible refine Z.w_retN ?_
  | with_reducible refine Z.w_drop ?_
  | with_reducible refine Z.w_next ?_
  | with_reducible refine Z.w_brk ?_
  | with_reducible refine Z.w_cnt ?_
  | with_reducible refine Z.w_if ?_
  | with_reducible refine Z.w_enx ?_
  | with_reducible refine Z.w_ert ?_
  | with_reducible refine Z.w_ebk ?_
  | with_reducible refine Z.w_ect ?_
  | ((with_reducible show L2.Ends.nx _ _ _); with_reducible refine Z.w_nx ?_)
  | ((with_reducible show L2.Ends.bk _ _ _); with_reducible refine Z.w_bk ?_)
  | ((with_reducible show L2.Ends.ct _ _ _); with_reducible refine Z.w_ct ?_)
  | ((with_reducible show L2.Ends.rt _ _ _); with_reducible refine Z.w_rt ?_)
  | ((with_reducible apply Z.w_aug); exact rfl)
  | with_reducible refine Z.w_for ?_
  | with_reducible refine Z.w_lc ?_
  | with_reducible refine Z.w_iL ?_
  | with_reducible refine Z.w_iT ?_
  | with_reducible refine Z.w_iA ?_
  | with_reducible refine Z.w_iR1 ?_
  | with_reducible refine Z.w_iR2 ?_
  | with_reducible refine Z.w_iE ?_
  | with_reducible refine Z.w_iEA ?_
  | with_reducible refine Z.w_iZA ?_
  | with_reducible refine Z.w_tSAdd ?_
  | with_reducible refine Z.w_tCO ?_
  | with_reducible refine Z.w_dCO ?_
  | with_reducible refine Z.w_bm ?_
  | with_reducible refine Z.w_bm0 ?_
  | with_reducible refine Z.w_yes ?_
  | with_reducible refine Z.w_par ?_
  | with_reducible refine Z.w_exP ?_
  | with_reducible refine Z.w_fld ?_
  | with_reducible refine Z.w_sfld ?_
  | with_reducible refine Z.w_make ?_
  | with_reducible refine Z.w_raise ?_
  | with_reducible refine Z.w_mkO ?_
  | with_reducible refine Z.w_xf ?_
  | with_reducible refine Z.w_gSub ?_
  | with_reducible refine Z.w_revT ?_
  | with_reducible refine Z.w_revL ?_
  | with_reducible refine Z.w_tryA ?_
  | with_reducible refine Z.w_tryO ?_
  | with_reducible refine Z.w_tryM ?_
  | with_reducible refine Z.w_con ?_
  | with_reducible refine Z.w_callZ0 ?_
  | with_reducible refine Z.w_callZ ?_
  | with_reducible refine Z.w_methZ ?_
  | with_reducible refine Z.w_meth ?_
  | with_reducible refine Z.w_makeZ ?_
  | with_reducible refine Z.w_makeK ?_
  | with_reducible refine Z.w_makeKZ ?_
  | with_reducible refine Z.w_opS ?_
  | with_reducible refine Z.w_chain ?_
  | with_reducible refine Z.w_sl ?_
  | with_reducible refine Z.w_noPart ?_
  | with_reducible refine Z.w_part ?_
  | ((with_reducible refine Z.w_wp ?_ ?_); exact rfl)))
local macro_rules | `(tactic| walk_at "st2") => `(tactic| (first
  | walk_at "call"
  | with_reducible refine Z.w_ipI ?_
  | with_reducible refine Z.w_I0 ?_
  | with_reducible refine Z.w_U ?_
  | with_reducible refine Z.w_addI ?_
  | ((with_reducible refine Z.w_mulI ?_ ?_); (walk_at "mul"))
  | with_reducible refine Z.w_eqIr ?_
  | with_reducible refine Z.w_neIr ?_
  | with_reducible refine Z.w_eqSr ?_
  | with_reducible refine Z.w_neSr ?_
  | with_reducible refine Z.w_eqZB ?_
  | with_reducible refine Z.w_neZB ?_
  | with_reducible refine Z.w_bool1 ?_
  | with_reducible refine Z.w_eqZI ?_
  | with_reducible refine Z.w_neZI ?_
  | with_reducible refine Z.w_eqZS ?_
  | with_reducible refine Z.w_neZS ?_
  | with_reducible refine Z.w_T ?_
  | with_reducible refine Z.w_F ?_
  | with_reducible refine Z.w_nT ?_
  | with_reducible refine Z.w_nF ?_
  | with_reducible refine Z.w_int1 ?_
  | with_reducible refine Z.w_exI ?_
  | with_reducible refine Z.w_max2 ?_
  | with_reducible refine Z.w_min2 ?_
  | with_reducible refine Z.w_gcd ?_
  | with_reducible refine Z.w_absI ?_
  | ((with_reducible apply Z.w_dF); (walk_at "fx"); (with_reducible assumption); (with_reducible assumption); (walk_at "look"))
  | ((with_reducible apply Z.w_dCon); (walk_at "fx"); (with_reducible assumption); (with_reducible assumption); (first | with_reducible assumption | rfl | decide +kernel))
  | ((with_reducible apply Z.w_sup); (exact rfl); (walk_at "fx"))
  | ((with_reducible apply Z.w_dMe0); (walk_at "fx"); (exact rfl))
  | with_reducible refine Z.w_isB ?_
  | with_reducible refine Z.w_isnB ?_
  | with_reducible refine Z.w_isiII ?_
  | with_reducible refine Z.w_isiIB ?_
  | ((with_reducible apply Z.w_cl); (with_reducible assumption); (intro ea hea))
  | ((with_reducible apply Z.w_clN); (with_reducible assumption))
  | ((with_reducible apply Z.w_clO); (with_reducible assumption); (intro ea hea))
  | ((with_reducible apply Z.w_clON); (with_reducible assumption))
  | with_reducible refine Z.w_cl0 ?_
  | ((with_reducible apply Z.w_as); (with_reducible assumption); (intro ea hea))
  | ((with_reducible apply Z.w_only); (with_reducible assumption); (intro ea hea))
  | ((with_reducible apply Z.w_asN); (with_reducible assumption))
  | ((with_reducible apply Z.w_onlyN); (with_reducible assumption))
  | ((with_reducible apply Z.w_isY); (with_reducible assumption); (with_reducible assumption))
  | ((with_reducible apply Z.w_isYt); (with_reducible assumption); (with_reducible assumption))
  | ((with_reducible apply Z.w_isYd); (with_reducible assumption); (walk_at "fx"); (with_reducible assumption))
  | ((with_reducible apply Z.w_isYdt); (with_reducible assumption); (walk_at "fx"); (with_reducible assumption))
  | ((with_reducible apply Z.w_dXf); (walk_at "fx"); (first | rfl | (simp only [List.zip_cons_cons, List.zip_nil_right, List.zip_nil_left, List.reverse_cons, List.reverse_nil, List.nil_append, List.singleton_append, List.cons_append, List.lookup]; rfl) | decide +kernel))
  | ((with_reducible apply Z.w_dMX); (exact rfl); (decide); (intro d H2 hn he hp))
  | ((with_reducible apply Z.w_isiOC2); (walk_at "fx"); (with_reducible assumption))
  | ((with_reducible apply Z.w_isiOA2); (walk_at "fx"); (with_reducible assumption); (with_reducible assumption))
  | ((with_reducible apply Z.w_isiOI2); (walk_at "fx"); (with_reducible assumption))
  | ((with_reducible apply Z.w_isiIC); (with_reducible assumption))
  | ((with_reducible apply Z.w_OO); (walk_at "fx"); (walk_at "fx"))
  | ((with_reducible apply Z.w_OI); (walk_at "fx"))
  | ((with_reducible apply Z.w_IO); (walk_at "fx"))
  | ((with_reducible apply Z.w_UO); (walk_at "fx"))
  | ((with_reducible apply Z.w_C1); (walk_at "fx"))
  | ((with_reducible refine Z.w_shl ?_ ?_); (walk_at "num"))
  | with_reducible refine Z.w_shr ?_
  | with_reducible refine Z.w_odd ?_
  | ((with_reducible apply Z.w_sum); (walk_at "fl"))
  | ((with_reducible apply Z.w_eqLr); (walk_at "fi"); (walk_at "fi"))
  | ((with_reducible apply Z.w_neLr); (walk_at "fi"); (walk_at "fi"))
  | ((with_reducible apply Z.w_eqTr); (walk_at "ti"); (walk_at "ti"))
  | ((with_reducible apply Z.w_neTr); (walk_at "ti"); (walk_at "ti"))
  | ((with_reducible apply Z.w_eqLI); (walk_at "fi"); (walk_at "fi"))
  | ((with_reducible apply Z.w_neLI); (walk_at "fi"); (walk_at "fi"))
  | ((with_reducible apply Z.w_eqTI); (walk_at "ti"); (walk_at "ti"))
  | ((with_reducible apply Z.w_neTI); (walk_at "ti"); (walk_at "ti"))
  | ((with_reducible apply Z.w_eqLFr); (walk_at "fl"); (walk_at "fl"); (exact rfl); (kernel_rfl))
  | ((with_reducible apply Z.w_neLFr); (walk_at "fl"); (walk_at "fl"); (exact rfl); (kernel_rfl))
  | ((with_reducible apply Z.w_eqTFr); (walk_at "ft"); (walk_at "ft"); (exact rfl); (kernel_rfl))
  | ((with_reducible apply Z.w_neTFr); (walk_at "ft"); (walk_at "ft"); (exact rfl); (kernel_rfl))
  | ((with_reducible apply Z.w_eqLF); (walk_at "fl"); (walk_at "fl"); (exact rfl); (exact rfl); (kernel_rfl); (kernel_rfl))
  | ((with_reducible apply Z.w_neLF); (walk_at "fl"); (walk_at "fl"); (exact rfl); (exact rfl); (kernel_rfl); (kernel_rfl))
  | ((with_reducible apply Z.w_eqTF); (walk_at "ft"); (walk_at "ft"); (exact rfl); (exact rfl); (kernel_rfl); (kernel_rfl))
  | ((with_reducible apply Z.w_neTF); (walk_at "ft"); (walk_at "ft"); (exact rfl); (exact rfl); (kernel_rfl); (kernel_rfl))
  | ((with_reducible apply Z.w_inT); (walk_at "ft"))
  | ((with_reducible apply Z.w_ninT); (walk_at "ft"))
  | ((with_reducible apply Z.w_inL); (walk_at "fl"))
  | ((with_reducible apply Z.w_ninL); (walk_at "fl"))
  | with_reducible refine Z.wb_F ?_
  | with_reducible refine Z.wb_T ?_
  | ((with_reducible apply Z.w_ins); (walk_at "fx"); (walk_at "sz"); (walk_at "nat"); (walk_at "num"); (walk_at "num"); (intro H2 hp hnl hk ho); (try (have hke := Z.kmut hk (by with_reducible assumption) inferInstance; clear hk)))
  | ((with_reducible apply Z.w_popI); (walk_at "fx"); (walk_at "num"); (walk_at "num"); (walk_at "num"); (intro H2 hp hnl hk ho); (try (have hke := Z.kmut hk (by with_reducible assumption) inferInstance; clear hk)))
  | ((with_reducible apply Z.w_pop0); (walk_at "fx"); (walk_at "num"); (intro H2 hp hnl hk ho); (try (have hke := Z.kmut hk (by with_reducible assumption) inferInstance; clear hk)))
  | ((with_reducible apply Z.w_setI); (walk_at "fx"); (walk_at "num"); (walk_at "num"); (intro H2 hp hnl hk ho); (try (have hke := Z.kmut hk (by with_reducible assumption) inferInstance; clear hk)))
  | ((with_reducible apply Z.w_setV); (walk_at "fx"); (walk_at "num"); (walk_at "num"); (intro H2 hp hnl hk ho); (try (have hke := Z.kmut hk (by with_reducible assumption) inferInstance; clear hk)))
  | ((with_reducible apply Z.w_gT); (walk_at "ft"); (exact rfl))
  | with_reducible refine Z.w_gC ?_
  | with_reducible refine Z.w_gN ?_
  | with_reducible refine Z.w_isiBI ?_
  | with_reducible refine Z.w_isiBB ?_
  | with_reducible refine Z.w_isiSS ?_
  | with_reducible refine Z.w_isiIS ?_
  | with_reducible refine Z.w_isiSI ?_
  | ((with_reducible refine Z.w_two ?_ ?_ ?_); (exact rfl); (exact rfl))
  | ((with_reducible apply Z.w_isiTT); (walk_at "fx"))
  | ((with_reducible apply Z.w_isiLL); (walk_at "fx"))
  | ((with_reducible apply Z.w_addL); (walk_at "fx"); (walk_at "fx"); (walk_at "sz"); (intro p H2 hn he hp))
  | ((with_reducible apply Z.w_dRevT); (walk_at "ti"); (intro p H2 hn he hp))
  | ((with_reducible apply Z.w_dRevL); (walk_at "fi"); (intro p H2 hn he hp))
  | ((with_reducible apply Z.w_catI); (walk_at "ti"); (walk_at "ti"); (walk_at "num"); (intro p H2 he hp))
  | ((with_reducible apply Z.w_slTo); (walk_at "ti"); (walk_at "num"); (intro p H2 he hp))
  | ((with_reducible apply Z.w_slFrom); (walk_at "ti"); (walk_at "num"); (intro p H2 he hp))
  | ((with_reducible apply Z.w_slBack); (walk_at "ti"); (walk_at "num"); (intro p H2 he hp))
  | ((with_reducible apply Z.w_slAny); (walk_at "ti"); (intro p H2 ms he hsub hp))
  | ((with_reducible apply Z.w_sortI); (walk_at "fi"); (intro p H2 ms hn he hp hperm hsort))
  | ((with_reducible apply Z.w_slLIf); (walk_at "fl"); (walk_at "num"); (intro p H2 hn he hp))
  | ((with_reducible apply Z.w_slLIt); (walk_at "fl"); (walk_at "num"); (intro p H2 hn he hp))
  | ((with_reducible apply Z.w_slLIft); (walk_at "fl"); (walk_at "num"); (walk_at "num"); (intro p H2 hn he hp))
  | ((with_reducible apply Z.w_slLVt); (walk_at "fl"); (walk_at "num"); (intro p H2 hn he hp))
  | ((with_reducible apply Z.w_slLVf); (walk_at "fl"); (walk_at "num"); (intro p H2 hn he hp))
  | ((with_reducible apply Z.w_app); (walk_at "fx"); (walk_at "sz"); (intro H2 hp hnl hk ho); (try (have hke := Z.kmut hk (by with_reducible assumption) inferInstance; clear hk)))
  | ((with_reducible apply Z.w_ext); (walk_at "fx"); (walk_at "fx"); (walk_at "sz"); (intro H2 hp hnl hk ho); (try (have hke := Z.kmut hk (by with_reducible assumption) inferInstance; clear hk)))
  | ((with_reducible apply Z.w_rep); (walk_at "fx"); (walk_at "num"); (walk_at "num"); (walk_at "num"); (intro p H2 hn he hp))
  | ((with_reducible apply Z.ele); (with_reducible assumption); (walk_at "sz"); (walk_at "ex"))
  | ((with_reducible apply Z.w_tupL); (walk_at "fl"); (intro p H2 hn he hp))
  | ((with_reducible apply Z.w_tupT); (walk_at "ft"))
  | ((with_reducible apply Z.w_listL); (walk_at "fl"); (intro p H2 hn he hp))
  | ((with_reducible apply Z.w_listT); (walk_at "ft"); (intro p H2 hn he hp))
  | ((with_reducible refine Z.w_newT ?_ (fun p H2 hn he hp => ?_)); (walk_at "sz"))
  | ((with_reducible refine Z.w_newL ?_ (fun p H2 hn he hp => ?_)); (walk_at "sz"))
  | ((with_reducible apply Z.w_lenLI); (walk_at "fl"))
  | ((with_reducible apply Z.w_lenTI); (walk_at "ft"))
  | ((with_reducible apply Z.w_lenL); (walk_at "fl"))
  | ((with_reducible apply Z.w_lenT); (walk_at "ft"))
  | ((with_reducible apply Z.w_pow); (exact ⟨by decide, by decide, by decide⟩); (simp only [Int.reduceToNat, Int.reducePow]; exact rfl))
  | ((with_reducible refine Z.w_I (C := Z.CDivZ) ?_ ?_); (walk_at "div"))
  | ((with_reducible refine Z.w_I (C := fun _ j => 0 < j) ?_ ?_); (first | assumption | omega | decide))
  | ((with_reducible apply Z.cgK); (with_reducible assumption); (intro H2 ex2; first | exact trivial | walk_at "fl"); (walk_at "sz"); (focus (intro Dl i x H2 acc hi ec cd hz y; walk_at "go"; done)); (intro p H2 hn he hp); (rotate_left); (exact rfl))
  | ((with_reducible apply Z.w_ixT); (walk_at "ft"); (exact rfl))
  | ((with_reducible apply Z.w_ixL); (walk_at "fl"); (exact rfl))
  | ((with_reducible apply Z.w_ixLN); (walk_at "fl"); (walk_at "nat"); (walk_at "num"); (walk_at "num"))
  | ((with_reducible apply Z.w_ixTN); (walk_at "ft"); (walk_at "nat"); (walk_at "num"); (walk_at "num"))
  | ((with_reducible apply Z.w_ixLI); (walk_at "fi"); (walk_at "nat"); (walk_at "num"); (walk_at "num"))
  | ((with_reducible apply Z.w_ixTI); (walk_at "ti"); (walk_at "nat"); (walk_at "num"); (walk_at "num"))
  | ((with_reducible apply Z.i_L); (walk_at "fl"); (intro J S))
  | ((with_reducible apply Z.i_A); (walk_at "fa"); (intro J S))
  | ((with_reducible apply Z.i_T); (walk_at "ft"); (intro J S))
  | ((with_reducible apply Z.i_E); (walk_at "fl"); (intro J S))
  | ((with_reducible apply Z.i_EA); (walk_at "fa"); (intro J S))
  | ((with_reducible apply Z.i_ZT); (walk_at "ft"); (walk_at "ft"); (walk_at "num"); (intro J S))
  | ((with_reducible refine Z.i_R1 ?_ ?_ (fun J S => ?_)); (walk_at "num"); (walk_at "num"))
  | ((with_reducible refine Z.i_R2 ?_ (fun J S => ?_)); (exact ⟨by walk_at "num", by walk_at "num", by walk_at "num", by walk_at "num"⟩))
  | ((with_reducible apply Z.w_tyL); (walk_at "fx"))
  | ((with_reducible apply Z.w_set0); (intro p H2 hn he hp))
  | ((with_reducible apply Z.w_tyS); (walk_at "fx"))
  | ((with_reducible apply Z.w_sin); (walk_at "fx"))
  | ((with_reducible apply Z.w_insC); (walk_at "fx"))
  | ((with_reducible apply Or.inl); (walk_at "st2"))
  | ((with_reducible apply Or.inr); (walk_at "st2"))))
local macro_rules | `(tactic| walk_at "go") => `(tactic| repeat (first | walk_at "st1" | walk_at "st2"))
local macro_rules | `(tactic| walk_at "numb") => `(tactic| first | with_reducible assumption | omega | (simp only [List.length_map, List.length_append, List.length_cons, List.length_nil, List.length_range, List.length_take, List.length_drop, List.length_replicate]; omega) | decide | exact rfl)
local macro_rules | `(tactic| walk_at "br") => `(tactic| (first
  | ((with_reducible refine Z.w_decT ?_ ?_); (walk_at "numb"))
  | ((with_reducible refine Z.w_decF ?_ ?_); (walk_at "numb"))
  | ((with_reducible refine Z.w_ndecF ?_ ?_); (walk_at "numb"))
  | ((with_reducible refine Z.w_ndecT ?_ ?_); (walk_at "numb"))))
local macro_rules | `(tactic| walk_at "run") => `(tactic| repeat (first | walk_at "st1" | walk_at "st2" | walk_at "br"))
local macro_rules | `(tactic| walk_at "bt") => `(tactic| (first | with_reducible assumption | ((with_reducible apply Z.bt_mul); (walk_at "bt"); (walk_at "bt")) | ((with_reducible apply Z.bt_add); (walk_at "bt"); (walk_at "bt")) | ((with_reducible apply Z.bt_sub); (walk_at "bt"); (walk_at "bt")) | ((with_reducible apply Z.bt_neg); (walk_at "bt")) | ((with_reducible apply Z.bt_abs); (walk_at "bt")) | ((with_reducible apply R.Sz.den); with_reducible assumption) | ((with_reducible apply R.Sz.num); with_reducible assumption) | (show _ < 2 ^ 64; omega) | (show _ < 2 ^ 200; omega)))
local macro_rules | `(tactic| walk_at "mul") => `(tactic| first | with_reducible assumption | exact Z.CM.of_right (by decide) | exact Z.CM.of_left (by decide) | exact Z.CM.of_right (by omega) | exact Z.CM.of_left (by omega) | ((with_reducible apply Z.cm); (walk_at "bt"); (walk_at "bt"); (first | decide | omega)))
local macro_rules | `(tactic| walk_at "st1") => `(tactic| (first
  | with_reducible refine Z.w_forG ?_
  | with_reducible refine Z.w_callG0 ?_
  | with_reducible refine Z.w_methG0 ?_
  | with_reducible refine Z.w_gzT ?_
  | with_reducible refine Z.w_gz0 ?_
  | with_reducible refine Z.w_gzF ?_
  | with_reducible refine Z.w_gzW ?_
  | with_reducible refine Z.w_pl ?_))
def sp_check_lot (K : PySem.W.Frag) : Sp := fun vs H Q E => ∃ (a : Addr) (lot : List Int) (n : Int), vs = [.ref a, .int n] ∧ SqT K H a (lot.map V.int) ∧ (¬ IsLot n lot → ∀ H', Ex H H' → E (.ref (He.ga K "BadLot")) none H') ∧ (IsLot n lot → ∀ H', Ex H H' → Q .non H')
theorem ok_check_lot (T : Tx P K mg) : FnOk P w K mg base (L2.CX P w) 1 (He.ga K "check_lot") (Z.fdOf K (He.ga K "check_lot")) ["lot", "many"] (sp_check_lot K) := by
  refine T.F_check_lot.ok sc_check_lot (fun vs H Q E h => ?_) (fun cdv A outer s H vs Q E hr h => ?_)
  · obtain ⟨a, lot, n, rfl, _⟩ := h
    rfl
  · obtain ⟨a, lot, n, rfl, ha, hE, k⟩ := h
    rw [isLot_iff] at hE k
    refine ⟨_, (pss_cons (ps_set (i := 2) sc_check_lot.nd rfl (Or.inl rfl) (pe_un Z.un_neg pe_int))
      (pss_one (ps_for (passes_of rfl) rfl (Z.piT (K := K) rfl (pv 0)) (pg_name (i := 3) sc_check_lot.nd rfl (by first | exact Or.inl rfl | exact Or.inr rfl)) (pss_cons (ps_if (PW.pt (pw_or (pt_cmpR Z.op_le (pv 3) (pv 2) (nomark _)) (pw_or1 (pt_cmpR Z.op_ge (pv 3) (pv 1) (nomark _))))) (pss_one (ps_raise rfl (takes_of rfl rfl rfl rfl) (pmk_own PySem.F.excBase_ValueError T.x_BadLot.1 T.g_BadLot T.x_BadLot.2.1 (raises_own T.x_BadLot.2.2.1 T.x_BadLot.2.2.2) (by exact rfl)))) pss_nil)
      (pss_one (ps_set (i := 2) sc_check_lot.nd rfl (Or.inl rfl) (pv 3))))))), ?_⟩
    try dsimp only [cxOf, Cx.nox, Cx.wish]
    try (show (_ : TS) _ [some _, some _, none, none] _)
    walk_at "go"
    rename_i J S
    refine Z.fg S (fun i σ G => ∃ (b : Int) (v : Option V), σ = [some (.ref a), some (.int n), some (.int b), v] ∧ Ex H G ∧ (okFrom n b (lot.drop i) ↔ okFrom n (-1) lot)) ⟨-1, none, rfl, Ex.refl H, Iff.rfl⟩ (fun i σ' G _ ⟨_, _, _, e, _⟩ => e.t ha) ?_ ?_
    · rintro i y σ' G G2 hi ⟨b, v, rfl, eG, hiff⟩ e2 hy
      obtain ⟨hi2, rfl⟩ := get_int hy
      rw [List.drop_eq_getElem_cons hi2, ← getD_get lot i 0 hi2] at hiff
      have hiff : (b < lot.getD i 0 ∧ lot.getD i 0 < n ∧ okFrom n (lot.getD i 0) (lot.drop (i + 1))) ↔ okFrom n (-1) lot := hiff
      walk_at "go"
      refine Z.w_dec (fun h => ?_) (fun h => ?_)
      · walk_at "go"
        exact hE (fun z => by have := hiff.mpr z; omega) _ (by walk_at "ex")
      · walk_at "go"
        refine Z.w_dec (fun h' => ?_) (fun h' => ?_)
        · walk_at "go"
          exact hE (fun z => by have := hiff.mpr z; omega) _ (by walk_at "ex")
        · walk_at "go"
          exact ⟨_, _, rfl, eG.trans e2, ⟨fun z => hiff.mp ⟨by omega, by omega, z⟩, fun z => (hiff.mpr z).2.2⟩⟩
    · rintro σ' G ⟨b, v, rfl, eG, hiff⟩
      rw [List.length_map, List.drop_length] at hiff
      walk_at "go"
      exact k (hiff.mp trivial) G eG

theorem ok_BadNumber___init__ (T : Tx P K mg) : FnOk P w K mg base (L2.CX P w) 1 (He.ma K (He.ga K "BadNumber") "__init__") (Z.fdOf K (He.ma K (He.ga K "BadNumber") "__init__")) ["self", "what", "at"] (Z.spX (He.ga K "BadNumber") ["what", "at"]) := by
  refine Z.FunS.ok (x0 := "self") T.F_BadNumber___init__ sc_BadNumber___init__ (by decide +kernel) rfl rfl rfl (by decide +kernel) (by decide +kernel) T.p_top T.n_super T.c_BadNumber (fun vs H Q E h => ?_) (fun cc cda A outer s H vs Q E hr h S => ?_)
  · obtain ⟨a, ws, rfl, hl, _⟩ := h
    simpa using hl
  · obtain ⟨a, ws, rfl, hl, ha, k⟩ := h
    obtain ⟨v1, v2, rfl⟩ : ∃ v1 v2, ws = [v1, v2] := by
      match ws, hl with
      | [v1, v2], _ => exact ⟨v1, v2, rfl⟩
    refine ⟨_, _, Z.ps_supE (Z.pe_supX S T.mro_BadNumber_BadNumber T.third T.si_BadNumber.1 T.si_BadNumber.2.1 (pa_cons pe_str pa_nil)), (pss_cons (ps_ost (pv 0) (pv 1)) (pss_one (ps_ost (pv 0) (pv 2)))), ?_⟩
    refine ⟨a, rfl, T.oe_BadNumber, ha, by decide, ha, ?_⟩
    refine ⟨_, rfl, _, rfl, a, He.ga K "BadNumber", rfl, T.oe_BadNumber, T.nf_BadNumber_what, .inl ⟨ha, fun dx hd hne => ?_⟩⟩
    refine ⟨_, rfl, _, rfl, a, He.ga K "BadNumber", rfl, T.oe_BadNumber, T.nf_BadNumber_at, .inr ⟨dx, _, upd_same, by rw [upd_ne hne, upd_same], by simp, ?_⟩⟩
    rw [Z.upd_swap hne]
    exact k dx hd hne

def sp_check_prices (K : PySem.W.Frag) : Sp := fun vs H Q E => ∃ (a : Addr) (ps : List Int) (n : Int), vs = [.ref a, .int n] ∧ SqL K H a (ps.map V.int) ∧ PErr K n ps E H ∧ (PricesOk n ps → ∀ H', Ex H H' → Q .non H')
theorem ok_check_prices (T : Tx P K mg) : FnOk P w K mg base (L2.CX P w) 3 (He.ga K "check_prices") (Z.fdOf K (He.ga K "check_prices")) ["prices", "many"] (sp_check_prices K) := by
  refine T.F_check_prices.ok sc_check_prices (fun vs H Q E h => ?_) (fun cdv A outer s H vs Q E hr h => ?_)
  · obtain ⟨a, ps, n, rfl, _⟩ := h
    rfl
  · obtain ⟨a, ps, n, rfl, ha, hE, k⟩ := h
    refine ⟨_, (pss_cons (ps_if (pt_cmpR (Z.op_ne (K := K) rfl hr.units) (pe_callB (Z.call_len (K := K) rfl) (by rfl) T.n_len (by decide +kernel) (pa_cons (pv 0) pa_nil)) (pv 1) (nomark _)) (pss_one (Z.ps_raiseZ rfl (takes_of rfl rfl rfl rfl) (pmk_oex T.oe_BadNumber T.si_BadNumber.2.2.1 T.si_BadNumber.2.2.2 (ok_BadNumber___init__ T) (hr.mono (by decide)) T.b_BadNumber___init__ .nil passL (by rfl) T.g_BadNumber (pa_cons pe_str (pa_cons pe_non pa_nil))))) pss_nil)
      (pss_one (ps_for (passes_of rfl) rfl (pi_enum (by rfl) T.n_enumerate (pa_cons (pv 0) pa_nil)) (pg_tup (by rfl) (pgs_cons (pg_name (i := 2) sc_check_prices.nd rfl (by first | exact Or.inl rfl | exact Or.inr rfl)) (pgs_cons (pg_name (i := 3) sc_check_prices.nd rfl (by first | exact Or.inl rfl | exact Or.inr rfl)) pgs_nil))) (pss_one (ps_if (pt_cmpR Z.op_lt (pv 3) pe_int (nomark _)) (pss_one (Z.ps_raiseZ rfl (takes_of rfl rfl rfl rfl) (pmk_oex T.oe_BadNumber T.si_BadNumber.2.2.1 T.si_BadNumber.2.2.2 (ok_BadNumber___init__ T) (hr.mono (by decide)) T.b_BadNumber___init__ .nil passL (by rfl) T.g_BadNumber (pa_cons pe_str (pa_cons (pv 2) pa_nil))))) pss_nil))))), ?_⟩
    try dsimp only [cxOf, Cx.nox, Cx.wish]
    try (show (_ : TS) _ [some _, some _, none, none] _)
    walk_at "go"
    refine Z.w_ndec (fun h => ?_) (fun h => ?_)
    · walk_at "go"
      exact hE.1 h _ _ (by assumption) (by walk_at "ex") (by assumption)
    · walk_at "go"
      rename_i J S
      refine Z.fg S (fun i σ G => ∃ (v2 v3 : Option V), σ = [some (.ref a), some (.int n), v2, v3] ∧ Ex H G ∧ ∀ j, j < i → 0 ≤ ps.getD j 0) ⟨none, none, rfl, Ex.refl H, fun j hj => absurd hj (by omega)⟩ (fun i σ' G _ ⟨_, _, _, e, _⟩ => e.l ha) ?_ ?_
      · rintro i y σ' G G2 hi ⟨v2, v3, rfl, eG, hall⟩ e2 ⟨t, z, rfl, ht, hz⟩
        obtain ⟨hi2, rfl⟩ := get_int hz
        walk_at "go"
        refine Z.w_dec (fun h' => ?_) (fun h' => ?_)
        · walk_at "go"
          exact hE.2 h i hi2 h' hall _ _ (by walk_at "fr") (by walk_at "ex") (by assumption)
        · walk_at "go"
          refine ⟨_, _, rfl, eG.trans e2, fun j hj => ?_⟩
          by_cases e : j = i
          · subst e; omega
          · exact hall j (by omega)
      · rintro σ' G ⟨v2, v3, rfl, eG, hall⟩
        rw [List.length_map] at hall
        walk_at "go"
        exact k ⟨h, all_getD hall⟩ G eG

def sp_lot_number (K : PySem.W.Frag) : Sp := fun vs H Q _ => ∃ (a : Addr) (os : List Nat), vs = [.ref a] ∧ SqT K H a (nats os) ∧ os.length ≤ 1000 ∧ (∀ x ∈ os, x ≤ 1000) ∧ ∀ H', Ex H H' → Q (.int ((sum2 os : Nat) : Int)) H'
theorem sum_pows (os : List Nat) : ((List.range os.length).map fun i => (2 : Int) ^ (os.getD i 0)).sum = ((sum2 os : Nat) : Int) := by
  have e : ((List.range os.length).map fun i => (2 : Int) ^ (os.getD i 0)) = os.map fun t => (2 : Int) ^ t := by
    apply List.ext_getElem
    · simp
    · intro i h1 h2
      simp at h1 h2
      simp [h1]
  rw [e]
  unfold sum2
  induction os with
  | nil => rfl
  | cons x r ih =>
    simp only [List.map_cons, List.sum_cons]
    rw [Int.natCast_add, Int.natCast_pow]
    have : ((List.range r.length).map fun i => (2 : Int) ^ (r.getD i 0)) = r.map fun t => (2 : Int) ^ t := by
      apply List.ext_getElem
      · simp
      · intro i h1 h2
        simp at h1 h2
        simp [h1]
    rw [ih this]
    rfl
theorem ok_lot_number (T : Tx P K mg) : FnOk P w K mg base (L2.CX P w) 1 (He.ga K "lot_number") (Z.fdOf K (He.ga K "lot_number")) ["lot"] (sp_lot_number K) := by
  refine T.F_lot_number.ok sc_lot_number (fun vs H Q E h => ?_) (fun cdv A outer s H vs Q E hr h => ?_)
  · obtain ⟨a, os, rfl, _⟩ := h
    rfl
  · obtain ⟨a, os, rfl, ha, hl, hx, k⟩ := h
    refine ⟨_, PSs.nox (pss_one (ps_ret (pe_callB (Z.call_sum (K := K) rfl rfl) (by rfl) T.n_sum (by decide +kernel) (pa_cons (pe_lc (own := [("thing", 1)]) rfl sc_lot_number.nd (Z.piT (K := K) rfl (pv 0)) (blkOk_by (N := ["lot", "thing"]) (sc := defScope s_lot_number) (by decide +kernel)) (fun _ _ _ _ _ => (pg_name (i := 1) sc_lot_number.nd rfl (by first | exact Or.inl rfl | exact Or.inr rfl))) (fun _ _ _ _ _ => pts_nil) (fun _ _ _ _ _ => (pe_op Z.op_shl pe_int (pv 1)))) pa_nil)))), ?_⟩
    try dsimp only [cxOf, Cx.nox, Cx.wish]
    try (show (_ : TS) _ [some _, none] _)
    walk_at "go"
    refine Z.cgI (by assumption) (fun i => 2 ^ (os.getD i 0)) (fun H2 e => by walk_at "ft") (by walk_at "sz") (fun Dl i x H2 hi ec c y => ?_) (fun p H2 hn he hp => ?_) rfl
    · obtain ⟨h1, rfl⟩ := get_nat y
      have hb : os.getD i 0 ≤ 1000 := by rw [getD_get _ _ _ h1]; exact hx _ (List.getElem_mem h1)
      walk_at "go"
    · walk_at "go"
      have e : (List.map (fun i => (2 : Int) ^ os.getD i 0) (List.range (nats os).length)).sum = ((sum2 os : Nat) : Int) := by
        rw [← sum_pows os]; simp
      rw [e]
      exact k _ he

def sp_lot_at (K : PySem.W.Frag) : Sp := fun vs H Q _ => ∃ (n m : Nat), vs = [.int (n : Int), .int (m : Int)] ∧ m ≤ 1000 ∧ ∀ p H', Fr H p → Ex H H' → At H' p (.tup (nats (lotOf n m))) → Q (.ref p) H'
theorem ok_lot_at (T : Tx P K mg) : FnOk P w K mg base (L2.CX P w) 1 (He.ga K "lot_at") (Z.fdOf K (He.ga K "lot_at")) ["number", "many"] (sp_lot_at K) := by
  refine T.F_lot_at.ok sc_lot_at (fun vs H Q E h => ?_) (fun cdv A outer s H vs Q E hr h => ?_)
  · obtain ⟨n, m, rfl, _⟩ := h
    rfl
  · obtain ⟨n, m, rfl, hm, k⟩ := h
    refine ⟨_, PSs.nox (pss_one (ps_ret (pe_callTy (Z.call_tuple (K := K) rfl) (by rfl) T.n_tuple (by decide +kernel) (pa_cons (pe_lc (own := [("thing", 2)]) rfl sc_lot_at.nd (pi_range1 (by rfl) T.n_range (pa_cons (pv 1) pa_nil)) (blkOk_by (N := ["number", "many", "thing"]) (sc := defScope s_lot_at) (by decide +kernel)) (fun _ _ _ _ _ => (pg_name (i := 2) sc_lot_at.nd rfl (by first | exact Or.inl rfl | exact Or.inr rfl))) (fun _ _ _ _ _ => (pts_one (pt_cmpR (Z.op_eq (K := K) rfl hr.units) (pe_op Z.op_and1 (pe_op Z.op_shr (pv 0) (pv 2)) pe_int) pe_int (nomark _)))) (fun _ _ _ _ _ => (pv 2))) pa_nil)))), ?_⟩
    try dsimp only [cxOf, Cx.nox, Cx.wish]
    try (show (_ : TS) _ [some _, some _, none] _)
    walk_at "go"
    refine Z.cgP (by assumption) (tb n) (fun i => V.int (i : Nat)) (fun _ _ => trivial) (by walk_at "sz") (fun Dl i x H' hi ec c hz y => ?_) (fun p H2 hn he hp => ?_)
    · subst y
      walk_at "go"
      refine Z.w_dec (fun hc => ?_) (fun hc => ?_)
      · rw [Z.fr_T (by unfold tb; simpa using (by omega : n / 2 ^ i % 2 = 1))]
        walk_at "go"
      · rw [Z.fr_F (by unfold tb; simpa using (by omega : ¬ n / 2 ^ i % 2 = 1))]
        exact c
    · walk_at "go"
      rename_i p2 H3 hn3 he3 hp3
      refine k p2 H3 (he.back hn3) (he.trans he3) ?_
      refine hp3.t ?_
      simp [lotOf, nats]

def sp_is_wish (K : PySem.W.Frag) : Sp := fun vs H Q _ => ∃ (a : Addr) (ns : List Int), vs = [.ref a] ∧ SqT K H a (ns.map V.int) ∧ ns.length ≤ 4000 ∧ ∀ H', Ex H H' → Q (.bl (decide (IsWish ns))) H'
theorem ok_is_wish (T : Tx P K mg) : FnOk P w K mg base (L2.CX P w) 1 (He.ga K "is_wish") (Z.fdOf K (He.ga K "is_wish")) ["things"] (sp_is_wish K) := by
  refine T.F_is_wish.ok sc_is_wish (fun vs H Q E h => ?_) (fun cdv A outer s H vs Q E hr h => ?_)
  · obtain ⟨a, ns, rfl, _⟩ := h
    rfl
  · obtain ⟨a, ns, rfl, ha, hl, k⟩ := h
    refine ⟨_, PSs.nox (pss_cons (ps_set (i := 1) sc_is_wish.nd rfl (Or.inl rfl) (pe_callTy0 (Z.cr_set0 (w := w) rfl) (by rfl) T.n_set (by decide +kernel)))
      (pss_cons (ps_for PassesOwn.never rfl (Z.piT (K := K) rfl (pv 0)) (pg_name (i := 2) sc_is_wish.nd rfl (by first | exact Or.inl rfl | exact Or.inr rfl)) (pss_cons (ps_if (PW.pt (pw_or (pt_cmpR Z.op_lt (pv 2) pe_int (nomark _)) (pw_or1 (pt_cmpR (Z.or_sin (w := w) rfl) (pv 2) (pv 1) (by rfl))))) (pss_one (ps_ret pe_bl)) pss_nil)
      (pss_one (ps_expr (Z.pe_sadd (w := w) rfl (pv 1) (pa_cons (pv 2) pa_nil))))))
      (pss_one (ps_ret pe_bl)))), ?_⟩
    try dsimp only [cxOf, Cx.nox, Cx.wish]
    try (show (_ : TS) _ [some _, none, none] _)
    walk_at "go"
    rename_i p1 H1 hn1 he1 hp1 J S
    refine Z.fg S (fun i σ G => ∃ (v : Option V) (St : Int → Bool) (n : Nat), σ = [some (.ref a), some (.ref p1), v] ∧ Ex H G ∧ At G p1 (SetO w p1 St n) ∧ (∀ k, St k = decide (k ∈ ns.take i)) ∧ n ≤ i ∧ IsWish (ns.take i)) ⟨none, _, _, rfl, he1, hp1, fun k => by simp, Nat.le_refl _, by simp, by simp⟩ (fun i σ' G _ ⟨_, _, _, _, e, _⟩ => e.t ha) ?_ ?_
    · rintro i y σ' G G2 hi ⟨v, St, n, rfl, eG, hp, hS, hn, hw⟩ e2 hy
      obtain ⟨hi2, rfl⟩ := get_int hy
      have hp2 := e2.get hp
      have eG2 := eG.trans e2
      have hmem : ns.getD i 0 ∈ ns := by rw [getD_get _ _ _ hi2]; exact List.getElem_mem _
      have htk : ns.take (i + 1) = ns.take i ++ [ns.getD i 0] := by rw [List.take_succ_eq_append_getElem hi2, getD_get _ _ _ hi2]
      have hsub : (ns.take (i + 1)).Nodup → ns.getD i 0 ∉ ns.take i := fun h hm => by
        rw [htk] at h
        exact (List.nodup_append.mp h).2.2 _ hm _ (List.mem_singleton.mpr rfl) rfl
      clear hp hp1
      walk_at "go"
      refine Z.w_dec (fun h => ?_) (fun h => ?_)
      · walk_at "go"
        rw [show (false : Bool) = decide (IsWish ns) from (decide_eq_false fun z => by have := z.1 _ hmem; omega).symm]
        exact k _ eG2
      walk_at "go"
      rw [hS]
      refine Z.w_dec (fun h2 => ?_) (fun h2 => ?_)
      · walk_at "go"
        rw [show (false : Bool) = decide (IsWish ns) from (decide_eq_false fun z => hsub (z.2.sublist (List.take_sublist _ _)) h2).symm]
        exact k _ eG2
      walk_at "go"
      refine Z.w_sadd hp2 (by unfold scanBound; omega) fun H3 hp3 k3 o3 => ?_
      have e3 : Ex H H3 := k3 H eG2 hn1
      have hSf : St (ns.getD i 0) = false := by rw [hS]; exact decide_eq_false h2
      rw [hSf] at hp3
      walk_at "go"
      refine ⟨_, _, _, rfl, e3, hp3, fun k => ?_, by simp; omega, ?_, ?_⟩
      · rw [hS, htk]
        by_cases h1 : k ∈ ns.take i <;> by_cases h2 : k = ns.getD i 0 <;> simp [h1, h2]
      · intro x hx
        rw [htk] at hx
        rcases List.mem_append.mp hx with hx | hx
        · exact hw.1 x hx
        · rw [List.mem_singleton.mp hx]; omega
      · rw [htk]
        refine List.nodup_append.mpr ⟨hw.2, by simp, fun x hx y hy => ?_⟩
        rw [List.mem_singleton.mp hy]
        exact fun z => h2 (z ▸ hx)
    · rintro σ' G ⟨v, St, n, rfl, eG, hp, hS, hn, hw⟩
      rw [List.length_map, List.take_length] at hw
      walk_at "go"
      rw [show (true : Bool) = decide (IsWish ns) from (decide_eq_true hw).symm]
      exact k _ eG

def sp_fits_lot (K : PySem.W.Frag) : Sp := fun vs H Q _ => ∃ (a l : Addr) (r lot : List Int) (m : Int), vs = [.ref a, .ref l, .int m] ∧ SqL K H a (r.map V.int) ∧ SqT K H l (lot.map V.int) ∧ 0 ≤ m ∧ m ≤ 1000 ∧ (Fits r lot m → ∀ H', Ex H H' → Q (.bl true) H') ∧ (¬ Fits r lot m → ∀ H', Ex H H' → Q (.bl false) H')
theorem ok_fits_lot (T : Tx P K mg) : FnOk P w K mg base (L2.CX P w) 1 (He.ga K "fits_lot") (Z.fdOf K (He.ga K "fits_lot")) ["row", "lot", "many"] (sp_fits_lot K) := by
  refine T.F_fits_lot.ok sc_fits_lot (fun vs H Q E h => ?_) (fun cdv A outer s H vs Q E hr h => ?_)
  · obtain ⟨a, l, r, lot, m, rfl, _⟩ := h
    rfl
  · obtain ⟨a, l, r, lot, m, rfl, ha, hl, hm0, hm1, kT, kF⟩ := h
    refine ⟨_, PSs.nox (pss_cons (ps_if (PW.pt (pw_or (pt_cmpR (Z.op_ne (K := K) rfl hr.units) (pe_callB (Z.call_len (K := K) rfl) (by rfl) T.n_len (by decide +kernel) (pa_cons (pv 0) pa_nil)) (pe_op Z.op_add (pv 2) pe_int) (nomark _)) (pw_or (pt_cmpR Z.op_lt (pe_ix (Z.ix (K := K) rfl) (pv 0) pe_int (fun _ _ => rfl)) pe_int (nomark _)) (pw_or1 (pt_cmpR Z.op_gt (pe_callB (Z.call_sum (K := K) rfl rfl) (by rfl) T.n_sum (by decide +kernel) (pa_cons (pe_slice (Z.slL (K := K) rfl) (pv 0) (po_some pe_int) po_none) pa_nil)) (pe_ix (Z.ix (K := K) rfl) (pv 0) pe_int (fun _ _ => rfl)) (nomark _)))))) (pss_one (ps_ret pe_bl)) pss_nil)
      (pss_cons (ps_for PassesOwn.never rfl (pi_range1 (by rfl) T.n_range (pa_cons (pv 2) pa_nil)) (pg_name (i := 3) sc_fits_lot.nd rfl (by first | exact Or.inl rfl | exact Or.inr rfl)) (pss_one (ps_if (PW.pt (pw_or (pt_cmpR Z.op_lt (pe_ix (Z.ix (K := K) rfl) (pv 0) (pe_op Z.op_add (pv 3) pe_int) (fun _ _ => rfl)) pe_int (nomark _)) (pw_or1 (PW.pt (pw_and (pt_cmpR Z.op_gt (pe_ix (Z.ix (K := K) rfl) (pv 0) (pe_op Z.op_add (pv 3) pe_int) (fun _ _ => rfl)) pe_int (nomark _)) (pw_and1 (pt_cmpR (Z.op_notin (K := K) rfl) (pv 3) (pv 1) (by rfl)))))))) (pss_one (ps_ret pe_bl)) pss_nil)))
      (pss_one (ps_ret pe_bl)))), ?_⟩
    try dsimp only [cxOf, Cx.nox, Cx.wish]
    try (show (_ : TS) _ [some _, some _, some _, none] _)
    walk_at "go"
    refine Z.w_ndec (fun h1 => ?_) (fun h1 => ?_)
    · walk_at "go"
      exact kF (fun z => h1 z.1) _ (Ex.refl _)
    walk_at "go"
    refine Z.w_dec (fun h2 => ?_) (fun h2 => ?_)
    · walk_at "go"
      exact kF (fun z => by have := z.2.1; omega) _ (Ex.refl _)
    walk_at "go"
    rename_i p1 H1 hn1 he1 hp1
    refine Z.w_dec (fun h3 => ?_) (fun h3 => ?_)
    · walk_at "go"
      exact kF (fun z => by have h4 : (r.drop 1).sum ≤ _ := z.2.2.1; have h5 : r.getD 0 0 < (r.drop 1).sum := h3; omega) _ he1
    have h3 : ¬ r.getD 0 0 < (r.drop 1).sum := h3
    walk_at "go"
    rename_i J S
    refine Z.fg S (fun i σ G => ∃ (v3 : Option V), σ = [some (.ref a), some (.ref l), some (.int m), v3] ∧ Ex H1 G ∧ ∀ t : Nat, t < i → 0 ≤ r.getD (t + 1) 0 ∧ (0 < r.getD (t + 1) 0 → (t : Int) ∈ lot)) ⟨none, rfl, Ex.refl _, fun t ht => absurd ht (by omega)⟩ (fun i σ' G _ _ => trivial) ?_ ?_
    · rintro i y σ' G G2 hi ⟨v3, rfl, eG, hall⟩ e2 rfl
      have hi2 : (i : Int) < m := by omega
      have eG2 := he1.trans (eG.trans e2)
      have e1 : ((i : Int) + 1).toNat = i + 1 := by omega
      walk_at "go"
      refine Z.w_dec (fun h4 => ?_) (fun h4 => ?_)
      · walk_at "go"
        exact kF (fun z => by have := (z.2.2.2 i hi2).1; omega) _ eG2
      walk_at "go"
      refine Z.w_dec (fun h5 => ?_) (fun h5 => ?_)
      · walk_at "go"
        refine Z.w_ndec (fun h6 => ?_) (fun h6 => ?_)
        · walk_at "go"
          exact kF (fun z => h6 ((z.2.2.2 i hi2).2 h5)) _ eG2
        · walk_at "go"
          refine ⟨_, rfl, eG.trans e2, fun t ht => ?_⟩
          by_cases e : t = i
          · subst e; exact ⟨by omega, fun _ => h6⟩
          · exact hall t (by omega)
      · walk_at "go"
        refine ⟨_, rfl, eG.trans e2, fun t ht => ?_⟩
        by_cases e : t = i
        · subst e; exact ⟨by omega, fun z => absurd z h5⟩
        · exact hall t (by omega)
    · rintro σ' G ⟨v3, rfl, eG, hall⟩
      walk_at "go"
      exact kT ⟨h1, by omega, by omega, fun t ht => hall t (by omega)⟩ _ (he1.trans eG)

def sp_lowest (K : PySem.W.Frag) : Sp := fun vs H Q _ => ∃ (a : Addr) (r : List Int), vs = [.ref a] ∧ SqL K H a (r.map V.int) ∧ r.length ≤ 1000 ∧ 1 ≤ r.getD 0 0 ∧ 0 < r.length ∧ (∀ x ∈ r, x.natAbs < 2 ^ 64) ∧ ∀ p H', Fr H p → Ex H H' → At H' p (.tup ((lowR r).map V.int)) → Q (.ref p) H'
theorem ok_lowest (T : Tx P K mg) : FnOk P w K mg base (L2.CX P w) 1 (He.ga K "lowest") (Z.fdOf K (He.ga K "lowest")) ["row"] (sp_lowest K) := by
  refine T.F_lowest.ok sc_lowest (fun vs H Q E h => ?_) (fun cdv A outer s H vs Q E hr h => ?_)
  · obtain ⟨a, r, rfl, _⟩ := h
    rfl
  · obtain ⟨a, r, rfl, ha, hl, h1, hl0, hb, k⟩ := h
    have hg := gL_dvd r 0
    have h0 : r.getD 0 0 ∈ r := by rw [getD_get _ _ _ hl0]; exact List.getElem_mem _
    have hgd := hg.2 _ h0
    have hg0 : 0 < gL 0 r := Nat.pos_of_dvd_of_pos hgd (by omega)
    have hgl : gL 0 r ≤ (r.getD 0 0).natAbs := Nat.le_of_dvd (by omega) hgd
    have hb0 := hb _ h0
    have hdv : ∀ i, CDivW i ((gL 0 r : Nat) : Int) := fun i => wide_div (b := 64) (by omega) (by rw [Int.natAbs_natCast]; omega) (by decide) (by decide)
    refine ⟨_, PSs.nox (pss_cons (ps_set (i := 1) sc_lowest.nd rfl (Or.inr rfl) pe_int)
      (pss_cons (ps_for PassesOwn.never rfl (Z.piL (K := K) rfl (pv 0)) (pg_name (i := 2) sc_lowest.nd rfl (by first | exact Or.inl rfl | exact Or.inr rfl)) (pss_one (ps_set (i := 1) sc_lowest.nd rfl (Or.inr rfl) (pe_callBfun cr_gcd (by rfl) T.m_gcd (pa_cons (pv 1) (pa_cons (pv 2) pa_nil))))))
      (pss_one (ps_ret (pe_callTy (Z.call_tuple (K := K) rfl) (by rfl) T.n_tuple (by decide +kernel) (pa_cons (pe_lc (own := [("number", 2)]) rfl sc_lowest.nd (Z.piL (K := K) rfl (pv 0)) (blkOk_by (N := ["row", "shared", "number"]) (sc := defScope s_lowest) (by decide +kernel)) (fun _ _ _ _ _ => (pg_name (i := 2) sc_lowest.nd rfl (by first | exact Or.inl rfl | exact Or.inr rfl))) (fun _ _ _ _ _ => pts_nil) (fun _ _ _ _ _ => (pe_op Z.op_fdivP (pv 2) (pv 1)))) pa_nil)))))), ?_⟩
    try dsimp only [cxOf, Cx.nox, Cx.wish]
    try (show (_ : TS) _ [some _, none, none] _)
    walk_at "go"
    rename_i J S
    refine Z.fg S (fun i σ G => ∃ v2, σ = [some (.ref a), some (.int ((gL 0 (r.take i) : Nat) : Int)), v2] ∧ Ex H G) ⟨none, rfl, Ex.refl H⟩ (fun i σ' G _ ⟨_, _, e⟩ => e.l ha) ?_ ?_
    · rintro i y σ' G G2 hi ⟨v2, rfl, eG⟩ e2 hy
      obtain ⟨hi2, rfl⟩ := get_int hy
      walk_at "go"
      have e : gL 0 (r.take (i + 1)) = Nat.gcd (gL 0 (r.take i)) (r.getD i 0).natAbs := by
        rw [List.take_succ, List.getElem?_eq_getElem hi2, getD_get _ _ _ hi2]
        exact gL_snoc _ _ _
      exact ⟨_, by rw [e]; try rfl, eG.trans e2⟩
    · rintro σ' G ⟨v2, rfl, eG⟩
      rw [List.length_map, List.take_length]
      walk_at "go"
      rename_i J2 S2
      refine Z.cgI S2 (fun i => r.getD i 0 / ((gL 0 r : Nat) : Int)) (fun H' e => by walk_at "fl") (by rw [List.length_map]; show _ ≤ 16777216; omega) (fun Dl i x H' hi ec c y => ?_) (fun p8 H8 hn8 he8 hp8 => ?_) rfl
      · obtain ⟨hi2, rfl⟩ := get_int y
        have hd2 := hdv (r.getD i 0)
        walk_at "go"
      · rw [List.length_map, range_map r (fun w => w / ((gL 0 r : Nat) : Int))] at hp8
        walk_at "go"
        rename_i p9 H9 hn9 he9 hp9
        exact k p9 H9 (eG.back (he8.back hn9)) (eG.trans (he8.trans he9)) hp9

/-- a cell of the script, or 0: some int -/
def sp__law_cell (K : PySem.W.Frag) : Sp := fun vs H Q _ => ∃ (l : Addr) (ns : List Int) (j : Int), vs = [.ref l, .int j] ∧ SqL K H l (ns.map V.int) ∧ 0 ≤ j ∧ ∀ i : Int, Q (.int i) H
theorem ok__law_cell (T : Tx P K mg) : FnOk P w K mg base (L2.CX P w) 1 (He.ga K "_law_cell") (Z.fdOf K (He.ga K "_law_cell")) ["_law_script", "_law_place"] (sp__law_cell K) := by
  refine T.F__law_cell.ok sc__law_cell (fun vs H Q E h => ?_) (fun cdv A outer s H vs Q E hr h => ?_)
  · obtain ⟨l, ns, j, rfl, _⟩ := h
    rfl
  · obtain ⟨l, ns, j, rfl, hl, hj, k⟩ := h
    refine ⟨_, PSs.nox (pss_cons (ps_if (pt_cmpR Z.op_lt (pv 1) (pe_callB (Z.call_len (K := K) rfl) (by rfl) T.n_len (by decide +kernel) (pa_cons (pv 0) pa_nil)) (nomark _)) (pss_one (ps_ret (pe_callTy Z.call_int (by rfl) T.n_int (by decide +kernel) (pa_cons (pe_ix (Z.ix (K := K) rfl) (pv 0) (pv 1) (fun _ _ => rfl)) pa_nil)))) pss_nil)
      (pss_one (ps_ret pe_int))), ?_⟩
    try dsimp only [cxOf, Cx.nox, Cx.wish]
    try (show (_ : TS) _ [some _, some _] _)
    walk_at "go"
    refine Z.w_dec (fun hc => ?_) (fun hc => ?_)
    · walk_at "go"
      exact k _
    · walk_at "go"
      exact k _
theorem u_cell {H : Hp} {Q : VK} {E : XK} {l : Addr} {ns : List Int} {j : Int} (h : SqL K H l (ns.map V.int)) (hj : 0 ≤ j) (k : ∀ i : Int, Q (.int i) H) : sp__law_cell K [.ref l, .int j] H Q E := ⟨l, ns, j, rfl, h, hj, k⟩
local macro_rules | `(tactic| walk_at "call") => `(tactic| ((with_reducible apply R.u_cell); (walk_at "fl"); (walk_at "num"); (intro cell)))

/-- as many numbers as sizes, each below its size -/
def Dr (sz ds : List Int) : Prop := ds.length = sz.length ∧ ∀ k, k < ds.length → 0 ≤ ds.getD k 0 ∧ ds.getD k 0 < sz.getD k 0
def sp__law_draws (K : PySem.W.Frag) : Sp := fun vs H Q _ => ∃ (c : Int) (l : Addr) (sz : List Int), vs = [.int c, .ref l] ∧ SqL K H l (sz.map V.int) ∧ sz.length ≤ 100000 ∧ (∀ z ∈ sz, 0 < z ∧ z < 2 ^ 250) ∧
  ∀ (p : Addr) (H' : Hp) (ds : List Int), Fr H p → Ex H H' → At H' p (.lst (ds.map V.int)) → Dr sz ds → Q (.ref p) H'
theorem dr_snoc {sz ds : List Int} {z : Int} (hl : ds.length < sz.length) (h : ∀ k, k < ds.length → 0 ≤ ds.getD k 0 ∧ ds.getD k 0 < sz.getD k 0) (h0 : 0 ≤ z) (h1 : z < sz.getD ds.length 0) :
    ∀ k, k < (ds ++ [z]).length → 0 ≤ (ds ++ [z]).getD k 0 ∧ (ds ++ [z]).getD k 0 < sz.getD k 0 := by
  intro k hk
  rw [List.length_append] at hk
  by_cases e : k < ds.length
  · have := h k e
    simp only [List.getD_eq_getElem?_getD, List.getElem?_append_left e] at this ⊢
    exact this
  · have ek : k = ds.length := by simp at hk; omega
    subst ek
    simp only [List.getD_eq_getElem?_getD] at h1 ⊢
    simp [h0, h1]
theorem ok__law_draws (T : Tx P K mg) : FnOk P w K mg base (L2.CX P w) 1 (He.ga K "_law_draws") (Z.fdOf K (He.ga K "_law_draws")) ["_law_cell_here", "_law_sizes"] (sp__law_draws K) := by
  refine T.F__law_draws.ok sc__law_draws (fun vs H Q E h => ?_) (fun cdv A outer s H vs Q E hr h => ?_)
  · obtain ⟨c, l, sz, rfl, _⟩ := h
    rfl
  · obtain ⟨c, l, sz, rfl, hl, hz, hp, k⟩ := h
    have gp : ∀ i, i < sz.length → 0 < sz.getD i 0 ∧ sz.getD i 0 < 2 ^ 250 := fun i hi => by
      rw [List.getD_eq_getElem?_getD, List.getElem?_eq_getElem hi]
      exact hp _ (List.getElem_mem hi)
    refine ⟨_, PSs.nox (pss_cons (ps_if (pt_cmpR (Z.op_eq (K := K) rfl hr.units) (pv 0) pe_int (nomark _)) (pss_one (ps_ret (pe_lc (own := [("_law_size", 4)]) rfl sc__law_draws.nd (Z.piL (K := K) rfl (pv 1)) (blkOk_by (N := ["_law_cell_here", "_law_sizes", "_law_left", "_law_found", "_law_size", "_law_k", "_law_low", "_law_high"]) (sc := defScope s__law_draws) (by decide +kernel)) (fun _ _ _ _ _ => (pg_name (i := 4) sc__law_draws.nd rfl (by first | exact Or.inl rfl | exact Or.inr rfl))) (fun _ _ _ _ _ => pts_nil) (fun _ _ _ _ _ => pe_int)))) pss_nil)
      (pss_cons (ps_if (pt_cmpR Z.op_ge (pv 0) (pe_op op_pow pe_int pe_int) (nomark _)) (pss_cons (ps_set (i := 2) sc__law_draws.nd rfl (Or.inl rfl) (pe_op Z.op_sub (pv 0) (pe_op op_pow pe_int pe_int)))
      (pss_cons (ps_set (i := 3) sc__law_draws.nd rfl (Or.inl rfl) (pe_lst pa_nil))
      (pss_cons (ps_for PassesOwn.never rfl (Z.piL (K := K) rfl (pv 1)) (pg_name (i := 4) sc__law_draws.nd rfl (by first | exact Or.inl rfl | exact Or.inr rfl)) (pss_cons (ps_expr (pe_bm PySem.F.plainAttrs_list PySem.F.slot_list_append PySem.F.type_list_append mt_append (pv 3) (pa_cons (pe_op Z.op_mod (pe_callTy Z.call_int (by rfl) T.n_int (by decide +kernel) (pa_cons (pv 2) pa_nil)) (pv 4)) pa_nil)))
      (pss_one (ps_set (i := 2) sc__law_draws.nd rfl (Or.inl rfl) (pe_op Z.op_fdivP (pv 2) (pv 4))))))
      (pss_one (ps_ret (pv 3)))))) pss_nil)
      (pss_cons (ps_set (i := 3) sc__law_draws.nd rfl (Or.inl rfl) (pe_lst pa_nil))
      (pss_cons (ps_for PassesOwn.never rfl (pi_range1 (by rfl) T.n_range (pa_cons (pe_callB (Z.call_len (K := K) rfl) (by rfl) T.n_len (by decide +kernel) (pa_cons (pv 1) pa_nil)) pa_nil)) (pg_name (i := 5) sc__law_draws.nd rfl (by first | exact Or.inl rfl | exact Or.inr rfl)) (pss_cons (ps_set (i := 6) sc__law_draws.nd rfl (Or.inl rfl) (pe_op Z.op_mod (pe_callTy Z.call_int (by rfl) T.n_int (by decide +kernel) (pa_cons (pe_op Z.op_add (pe_op Z.op_mul (pv 0) pe_int) (pe_op Z.op_mul (pe_op Z.op_add (pv 5) pe_int) pe_int)) pa_nil)) pe_int))
      (pss_cons (ps_set (i := 6) sc__law_draws.nd rfl (Or.inl rfl) (pe_op Z.op_mod (pe_callTy Z.call_int (by rfl) T.n_int (by decide +kernel) (pa_cons (pe_op Z.op_add (pe_op Z.op_mul (pv 6) pe_int) (pe_op Z.op_mul (pe_op Z.op_add (pv 5) pe_int) pe_int)) pa_nil)) pe_int))
      (pss_cons (ps_set (i := 7) sc__law_draws.nd rfl (Or.inl rfl) (pe_op Z.op_mod (pe_callTy Z.call_int (by rfl) T.n_int (by decide +kernel) (pa_cons (pe_op Z.op_add (pe_op Z.op_mul (pv 0) pe_int) (pe_op Z.op_mul (pe_op Z.op_add (pv 5) pe_int) pe_int)) pa_nil)) pe_int))
      (pss_cons (ps_set (i := 7) sc__law_draws.nd rfl (Or.inl rfl) (pe_op Z.op_mod (pe_callTy Z.call_int (by rfl) T.n_int (by decide +kernel) (pa_cons (pe_op Z.op_add (pe_op Z.op_mul (pv 7) pe_int) (pv 6)) pa_nil)) pe_int))
      (pss_one (ps_expr (pe_bm PySem.F.plainAttrs_list PySem.F.slot_list_append PySem.F.type_list_append mt_append (pv 3) (pa_cons (pe_op Z.op_mod (pe_callTy Z.call_int (by rfl) T.n_int (by decide +kernel) (pa_cons (pe_op Z.op_add (pe_op Z.op_mul (pv 7) pe_int) (pv 6)) pa_nil)) (pe_ix (Z.ix (K := K) rfl) (pv 1) (pv 5) (fun _ _ => rfl))) pa_nil)))))))))
      (pss_one (ps_ret (pv 3))))))), ?_⟩
    try dsimp only [cxOf, Cx.nox, Cx.wish]
    try (show (_ : TS) _ [some _, some _, none, none, none, none, none, none] _)
    walk_at "go"
    refine Z.w_dec (fun hc => ?_) (fun hc => ?_)
    · walk_at "go"
      rename_i J S p H2 hn he hp
      refine k p H2 (List.replicate sz.length 0) hn he (hp.l (by rw [List.length_map])) ⟨List.length_replicate, fun i hi => ?_⟩
      · rw [List.length_replicate] at hi
        simp only [List.getD_eq_getElem?_getD, List.getElem?_replicate, hi, if_true, Option.getD_some]
        have := (gp i hi).1
        rw [List.getD_eq_getElem?_getD] at this
        exact ⟨Int.le_refl 0, this⟩
    · walk_at "go"
      refine Z.w_dec (fun hd => ?_) (fun hd => ?_)
      · walk_at "go"
        rename_i F H1 hF e1 h1 J S
        refine Z.fg S (fun i σ H' => ∃ (left : Int) (ds : List Int) (v : Option V), σ = [some (.int c), some (.ref l), some (.int left), some (.ref F), v, none, none, none] ∧ Ex H H' ∧ At H' F (.lst (ds.map V.int)) ∧ ds.length = i ∧ ∀ k, k < ds.length → 0 ≤ ds.getD k 0 ∧ ds.getD k 0 < sz.getD k 0)
          ⟨_, [], none, rfl, e1, h1, rfl, fun k hk => absurd hk (by simp)⟩ (fun i σ' H' _ ⟨_, _, _, _, e, _⟩ => by walk_at "fl") ?_ ?_
        · rintro i x σ' H' H'' hi ⟨left, ds, v, rfl, e, hds, hlen, hall⟩ e2 hx
          rw [List.length_map] at hi
          rw [List.getElem?_map, List.getElem?_eq_getElem hi] at hx
          obtain rfl := (Option.some.inj hx).symm
          have g0 := gp i hi
          have ei : sz.getD i 0 = sz[i] := by rw [List.getD_eq_getElem?_getD, List.getElem?_eq_getElem hi]; rfl
          rw [ei] at g0
          have hds2 := e2.get hds
          have hdv : CDivW left sz[i] := wide_div (b := 250) g0.1 (by have := g0.2; have := g0.1; omega) (by decide) (by decide)
          walk_at "go"
          rename_i H2 hp2 hnl2 ho2 hke
          refine ⟨_, ds ++ [left % sz[i]], some _, rfl, hke, hp2.l (by rw [List.map_append]; rfl), by simp [hlen], dr_snoc (by omega) hall (Int.emod_nonneg _ (by omega)) ?_⟩
          rw [hlen, ei]
          exact Int.emod_lt_of_pos _ g0.1
        · rintro σ' H' ⟨left, ds, v, rfl, e, hds, hlen, hall⟩
          walk_at "go"
          exact k F H' ds hF e hds ⟨by simpa using hlen, hall⟩
      · walk_at "go"
        rename_i F H1 hF e1 h1 J S
        refine Z.fg S (fun i σ H' => ∃ (ds : List Int) (v5 v6 v7 : Option V), σ = [some (.int c), some (.ref l), none, some (.ref F), none, v5, v6, v7] ∧ Ex H H' ∧ At H' F (.lst (ds.map V.int)) ∧ ds.length = i ∧ ∀ k, k < ds.length → 0 ≤ ds.getD k 0 ∧ ds.getD k 0 < sz.getD k 0)
          ⟨[], none, none, none, rfl, e1, h1, rfl, fun k hk => absurd hk (by simp)⟩ (fun i σ' H' _ _ => trivial) ?_ ?_
        · rintro i x σ' H' H'' hi ⟨ds, v5, v6, v7, rfl, e, hds, hlen, hall⟩ e2 rfl
          have hi' : i < sz.length := by simpa using hi
          have g0 := gp i hi'
          have hds2 := e2.get hds
          have g1 : 0 < sz.getD (Int.toNat (i : Int)) 0 := by rw [Int.toNat_natCast]; exact g0.1
          walk_at "go"
          rename_i H2 hp2 hnl2 ho2 hke
          refine ⟨ds ++ [_], some _, some _, some _, rfl, hke, hp2.l (by rw [List.map_append]; rfl), by simp [hlen], dr_snoc (by omega) hall (Int.emod_nonneg _ (by omega)) ?_⟩
          rw [hlen]
          exact Int.emod_lt_of_pos _ g1
        · rintro σ' H' ⟨ds, v5, v6, v7, rfl, e, hds, hlen, hall⟩
          walk_at "go"
          exact k F H' ds hF e hds ⟨by simpa using hlen, hall⟩
theorem u_draws {H : Hp} {Q : VK} {E : XK} {l : Addr} {sz : List Int} {c : Int} (h : SqL K H l (sz.map V.int)) (hz : sz.length ≤ 100000 ∧ ∀ z ∈ sz, 0 < z ∧ z < 2 ^ 250) (k : ∀ (p : Addr) (H' : Hp) (ds : List Int), Fr H p → Ex H H' → At H' p (.lst (ds.map V.int)) → Dr sz ds → Q (.ref p) H') : sp__law_draws K [.int c, .ref l] H Q E :=
  ⟨c, l, sz, rfl, h, hz.1, hz.2, k⟩
theorem Dr.all {n : Nat} {c : Int} {ds : List Int} (h : Dr (List.replicate n c) ds) : ds.length = n ∧ ∀ x ∈ ds, 0 ≤ x ∧ x < c := by
  have hl : ds.length = n := by rw [h.1, List.length_replicate]
  refine ⟨hl, fun x hx => ?_⟩
  obtain ⟨i, hi, rfl⟩ := List.mem_iff_getElem.mp hx
  have q := h.2 i hi
  rw [getD_get _ _ _ hi, List.getD_eq_getElem?_getD, List.getElem?_replicate, if_pos (by omega)] at q
  exact q
/-- the bounds one by one -/
def Bs : List Int → List Int → Nat → Prop
  | [], _, _ => True
  | z :: r, ds, k => (0 ≤ ds.getD k 0 ∧ ds.getD k 0 < z) ∧ Bs r ds (k + 1)
theorem bs_of : ∀ (sz ds : List Int) (k : Nat), (∀ i, i < sz.length → 0 ≤ ds.getD (k + i) 0 ∧ ds.getD (k + i) 0 < sz.getD i 0) → Bs sz ds k
  | [], _, _, _ => trivial
  | z :: r, ds, k, h => ⟨by have := h 0 (by simp); simpa using this, bs_of r ds (k + 1) fun i hi => by
      have := h (i + 1) (by simpa using hi)
      rw [show k + 1 + i = k + (i + 1) by omega]
      simpa using this⟩
theorem Dr.bnd {sz ds : List Int} (h : Dr sz ds) : ds.length = sz.length ∧ Bs sz ds 0 := ⟨h.1, bs_of sz ds 0 fun i hi => by rw [Nat.zero_add]; exact h.2 i (by rw [h.1]; exact hi)⟩
theorem Dr.drop {sz ds : List Int} {j : Nat} {c : Int} (h : Dr sz ds) (hz : ∀ z ∈ sz.drop j, z ≤ c) : ∀ x ∈ ds.drop j, 0 ≤ x ∧ x < c := fun x hx => by
  obtain ⟨i, hi, rfl⟩ := List.mem_iff_getElem.mp hx
  have h1 : j + i < ds.length := by rw [List.length_drop] at hi; omega
  have h2 : j + i < sz.length := by rw [← h.1]; exact h1
  have q := h.2 (j + i) h1
  rw [getD_get _ _ _ h1, getD_get _ _ _ h2] at q
  have h3 : i < (sz.drop j).length := by rw [List.length_drop]; omega
  have := hz (sz.drop j)[i] (List.getElem_mem h3)
  rw [List.getElem_drop] at this ⊢
  omega
theorem Dr.whole {sz ds : List Int} {c : Int} (h : Dr sz ds) (hz : ∀ z ∈ sz, z ≤ c) : ∀ x ∈ ds, 0 ≤ x ∧ x < c := h.drop (j := 0) hz
local macro_rules | `(tactic| walk_at "call") => `(tactic| ((with_reducible apply R.u_draws); (walk_at "fi"); (first | decide | with_reducible assumption); (intro p H2 ds hn he hp hd); (try dsimp only at hd); (try (have hb := R.Dr.bnd hd; simp only [R.Bs, List.length_cons, List.length_nil, Nat.reduceAdd, and_true] at hb))))

def sp__law_row (K : PySem.W.Frag) : Sp := fun vs H Q _ => ∃ (c n : Int), vs = [.int c, .int n] ∧ 0 ≤ n ∧ n ≤ 50000 ∧
  ∀ (p : Addr) (H' : Hp) (ns : List Int), Fr H p → Ex H H' → At H' p (.lst (ns.map V.int)) → ns.length = n.toNat → (∀ x ∈ ns, 0 ≤ x ∧ x < 999999999999999999) → Q (.ref p) H'
theorem ok__law_row (T : Tx P K mg) : FnOk P w K mg base (L2.CX P w) 2 (He.ga K "_law_row") (Z.fdOf K (He.ga K "_law_row")) ["_law_cell_here", "_law_count"] (sp__law_row K) := by
  refine T.F__law_row.ok sc__law_row (fun vs H Q E h => ?_) (fun cdv A outer s H vs Q E hr h => ?_)
  · obtain ⟨c, n, rfl, _⟩ := h
    rfl
  · obtain ⟨c, n, rfl, hn0, hn1, k⟩ := h
    refine ⟨_, PSs.nox (pss_cons (ps_set (i := 2) sc__law_row.nd rfl (Or.inl rfl) (pe_call (ok__law_draws T) (hr.mono (by decide)) (by rfl) T.g__law_draws T.F__law_draws.kp T.b__law_draws .nil passL (pa_cons (pv 0) (pa_cons (pe_op Z.op_add (pe_lst (pa_cons pe_int pa_nil)) (pe_lc (own := [("_law_k", 4)]) rfl sc__law_row.nd (pi_range1 (by rfl) T.n_range (pa_cons (pv 1) pa_nil)) (blkOk_by (N := ["_law_cell_here", "_law_count", "_law_drawn", "_law_bound", "_law_k", "_law_value"]) (sc := defScope s__law_row) (by decide +kernel)) (fun _ _ _ _ _ => (pg_name (i := 4) sc__law_row.nd rfl (by first | exact Or.inl rfl | exact Or.inr rfl))) (fun _ _ _ _ _ => pts_nil) (fun _ _ _ _ _ => (pe_op op_pow pe_int pe_int)))) pa_nil))))
      (pss_cons (ps_set (i := 3) sc__law_row.nd rfl (Or.inr rfl) (pe_ix (Z.ix (K := K) rfl) (pe_lst (pa_cons pe_int (pa_cons pe_int (pa_cons (pe_op op_pow pe_int pe_int) (pa_cons (pe_op Z.op_sub (pe_op op_pow pe_int pe_int) pe_int) pa_nil))))) (pe_ix (Z.ix (K := K) rfl) (pv 2) pe_int (fun _ _ => rfl)) (fun _ _ => rfl)))
      (pss_one (ps_ret (pe_lc (own := [("_law_value", 5)]) rfl sc__law_row.nd (Z.piL (K := K) rfl (pe_slice (Z.slL (K := K) rfl) (pv 2) (po_some pe_int) po_none)) (blkOk_by (N := ["_law_cell_here", "_law_count", "_law_drawn", "_law_bound", "_law_k", "_law_value"]) (sc := defScope s__law_row) (by decide +kernel)) (fun _ _ _ _ _ => (pg_name (i := 5) sc__law_row.nd rfl (by first | exact Or.inl rfl | exact Or.inr rfl))) (fun _ _ _ _ _ => pts_nil) (fun _ _ _ _ _ => (pe_op Z.op_mod (pe_callTy Z.call_int (by rfl) T.n_int (by decide +kernel) (pa_cons (pv 5) pa_nil)) (pv 3)))))))), ?_⟩
    try dsimp only [cxOf, Cx.nox, Cx.wish]
    try (show (_ : TS) _ [some _, some _, none, none, none, none] _)
    walk_at "go"
    rename_i p0 H0 hn0 he0 hp0 J1 S1 p1 H1 hn1' he1 hp1 p2 H2 hn2 he2 hp2
    refine u_draws (sz := 4 :: List.replicate n.toNat 1000000000000000000) (sq_of hp2) ⟨by simp; omega, ?_⟩ fun p3 H3 ds hn3 he3 hp3 hd => ?_
    · intro z hz
      rcases List.mem_cons.mp hz with rfl | hz
      · decide
      · rw [List.eq_of_mem_replicate hz]; decide
    have hl : ds.length = n.toNat + 1 := by rw [hd.1]; simp
    have h0 := hd.2 0 (by omega)
    have h0' : ds.getD 0 0 < 4 := h0.2
    walk_at "go"
    rename_i p4 H4 hn4 he4 hp4 p5 H5 hn5 he5 hp5 J5 S5
    have hbd : ∃ bd : Int, ([4, 30, 1000000000, 1000000000000000000 - 1] : List Int).getD (ds.getD 0 0).toNat 0 = bd ∧ 0 < bd ∧ bd ≤ 999999999999999999 := by
      have : ds.getD 0 0 = 0 ∨ ds.getD 0 0 = 1 ∨ ds.getD 0 0 = 2 ∨ ds.getD 0 0 = 3 := by omega
      rcases this with e | e | e | e <;> rw [e] <;> exact ⟨_, rfl, by decide, by decide⟩
    obtain ⟨bd, ebd, hbd0, hbd1⟩ := hbd
    rw [ebd]
    have hlen : (ds.drop (Int.toNat 1)).length = n.toNat := by simp [hl]
    generalize hds : ds.drop (Int.toNat 1) = es at *
    refine Z.cgI S5 (fun i => es.getD i 0 % bd) (fun H' e => by walk_at "fl") (by rw [List.length_map, hlen]; show _ ≤ 16777216; omega) (fun Dl i x H' hi ec c y => ?_) (fun p8 H8 hn8 he8 hp8 => ?_) rfl
    · obtain ⟨hi2, rfl⟩ := get_int y
      walk_at "go"
    · rw [List.length_map, hlen] at hp8
      refine k p8 H8 _ (by walk_at "fr") (by walk_at "ex") hp8 (by simp) ?_
      intro x hx
      obtain ⟨i, _, rfl⟩ := List.mem_map.mp hx
      exact ⟨Int.emod_nonneg _ (by omega), Int.lt_of_lt_of_le (Int.emod_lt_of_pos _ hbd0) hbd1⟩
theorem u_row {H : Hp} {Q : VK} {E : XK} {c n : Int} (h0 : 0 ≤ n) (h1 : n ≤ 50000) (k : ∀ (p : Addr) (H' : Hp) (ns : List Int), Fr H p → Ex H H' → At H' p (.lst (ns.map V.int)) → ns.length = n.toNat → (∀ x ∈ ns, 0 ≤ x ∧ x < 999999999999999999) → Q (.ref p) H') : sp__law_row K [.int c, .int n] H Q E := ⟨c, n, rfl, h0, h1, k⟩
local macro_rules | `(tactic| walk_at "call") => `(tactic| ((with_reducible apply R.u_row); (walk_at "num"); (walk_at "num"); (intro p H2 ns hn he hp hl hx)))

def sp__law_ups (K : PySem.W.Frag) : Sp := fun vs H Q _ => ∃ (a : Addr) (ns : List Int), vs = [.ref a] ∧ SqL K H a (ns.map V.int) ∧ ns.length ≤ 100000 ∧ ∀ p H', Fr H p → Ex H H' → At H' p (.lst ((ns.map fun x => 1 + x).map V.int)) → Q (.ref p) H'
theorem ok__law_ups (T : Tx P K mg) : FnOk P w K mg base (L2.CX P w) 1 (He.ga K "_law_ups") (Z.fdOf K (He.ga K "_law_ups")) ["_law_row_here"] (sp__law_ups K) := by
  refine T.F__law_ups.ok sc__law_ups (fun vs H Q E h => ?_) (fun cdv A outer s H vs Q E hr h => ?_)
  · obtain ⟨a, ns, rfl, _⟩ := h
    rfl
  · obtain ⟨a, ns, rfl, ha, hl, k⟩ := h
    refine ⟨_, PSs.nox (pss_one (ps_ret (pe_lc (own := [("_law_number", 1)]) rfl sc__law_ups.nd (Z.piL (K := K) rfl (pv 0)) (blkOk_by (N := ["_law_row_here", "_law_number"]) (sc := defScope s__law_ups) (by decide +kernel)) (fun _ _ _ _ _ => (pg_name (i := 1) sc__law_ups.nd rfl (by first | exact Or.inl rfl | exact Or.inr rfl))) (fun _ _ _ _ _ => pts_nil) (fun _ _ _ _ _ => (pe_op Z.op_add pe_int (pv 1)))))), ?_⟩
    try dsimp only [cxOf, Cx.nox, Cx.wish]
    try (show (_ : TS) _ [some _, none] _)
    walk_at "go"
    rename_i J S
    refine Z.cgI S (fun i => 1 + ns.getD i 0) (fun H' e => by walk_at "fl") (by rw [List.length_map]; show _ ≤ 16777216; omega) (fun Dl i x H' hi ec c y => ?_) (fun p2 H2 hn2 he2 hp2 => ?_) rfl
    · obtain ⟨hi2, rfl⟩ := get_int y
      walk_at "go"
    · rw [List.length_map, range_map ns (fun x => 1 + x)] at hp2
      exact k p2 H2 hn2 he2 hp2
theorem u_ups {H : Hp} {Q : VK} {E : XK} {a : Addr} {ns : List Int} (h : SqL K H a (ns.map V.int)) (hl : ns.length ≤ 100000) (k : ∀ p H', Fr H p → Ex H H' → At H' p (.lst ((ns.map fun x => 1 + x).map V.int)) → Q (.ref p) H') : sp__law_ups K [.ref a] H Q E := ⟨a, ns, rfl, h, hl, k⟩
local macro_rules | `(tactic| walk_at "call") => `(tactic| ((with_reducible apply R.u_ups); (walk_at "fi"); (walk_at "num"); (intro p H2 hn he hp)))

def sp__law_lot (K : PySem.W.Frag) : Sp := fun vs H Q _ => ∃ (n m : Nat), vs = [.int (n : Int), .int (m : Int)] ∧ m ≤ 1000 ∧ ∀ p H', Fr H p → Ex H H' → At H' p (.tup (nats (lotOf n m))) → Q (.ref p) H'
theorem ok__law_lot (T : Tx P K mg) : FnOk P w K mg base (L2.CX P w) 1 (He.ga K "_law_lot") (Z.fdOf K (He.ga K "_law_lot")) ["_law_bits", "_law_many"] (sp__law_lot K) := by
  refine T.F__law_lot.ok sc__law_lot (fun vs H Q E h => ?_) (fun cdv A outer s H vs Q E hr h => ?_)
  · obtain ⟨n, m, rfl, _⟩ := h
    rfl
  · obtain ⟨n, m, rfl, hm, k⟩ := h
    refine ⟨_, PSs.nox (pss_cons (ps_set (i := 2) sc__law_lot.nd rfl (Or.inl rfl) (pe_lst pa_nil))
      (pss_cons (ps_set (i := 3) sc__law_lot.nd rfl (Or.inl rfl) (pe_callTy Z.call_int (by rfl) T.n_int (by decide +kernel) (pa_cons (pv 0) pa_nil)))
      (pss_cons (ps_for PassesOwn.never rfl (pi_range1 (by rfl) T.n_range (pa_cons (pv 1) pa_nil)) (pg_name (i := 4) sc__law_lot.nd rfl (by first | exact Or.inl rfl | exact Or.inr rfl)) (C8.pss_cut (ps_if (pt_cmpR (Z.op_eq (K := K) rfl hr.units) (pe_op Z.op_mod (pv 3) pe_int) pe_int (nomark _)) (pss_one (ps_expr (pe_bm PySem.F.plainAttrs_list PySem.F.slot_list_append PySem.F.type_list_append mt_append (pv 2) (pa_cons (pv 4) pa_nil)))) pss_nil)
      (pss_one (ps_set (i := 3) sc__law_lot.nd rfl (Or.inl rfl) (pe_op Z.op_fdivP (pv 3) pe_int)))))
      (pss_one (ps_ret (pe_callTy (Z.call_tuple (K := K) rfl) (by rfl) T.n_tuple (by decide +kernel) (pa_cons (pv 2) pa_nil))))))), ?_⟩
    try dsimp only [cxOf, Cx.nox, Cx.wish]
    try (show (_ : TS) _ [some _, some _, none, none, none] _)
    walk_at "go"
    rename_i F H1 hF e1 h1 J S
    have hlen : ∀ i, (lotOf n i).length ≤ i := fun i => by unfold lotOf; exact Nat.le_trans (List.length_filter_le _ _) (by simp)
    refine Z.fg S (fun i σ G => ∃ v, σ = [some (.int (n : Int)), some (.int (m : Int)), some (.ref F), some (.int ((n / 2 ^ i : Nat) : Int)), v] ∧ Ex H G ∧ At G F (.lst (nats (lotOf n i)))) ⟨none, by simp [L2.start], e1, h1⟩ (fun i σ' G _ _ => trivial) ?_ ?_
    · rintro i x σ' G G2 hi ⟨v, rfl, e, hG⟩ e2 rfl
      have hG2 := e2.get hG
      have hl2 := hlen i
      have hs := lotOf_succ n i
      walk_at "go"
      refine Z.w_cut (fun σ2 G3 => σ2 = [some (.int (n : Int)), some (.int (m : Int)), some (.ref F), some (.int ((n / 2 ^ i : Nat) : Int)), some (.int (i : Nat))] ∧ Ex H G3 ∧ At G3 F (.lst (nats (lotOf n (i + 1))))) ?_ ?_
      · walk_at "go"
        refine Z.w_dec (fun hc => ?_) (fun hc => ?_)
        · have ht : tb n i = true := by unfold tb; simp; omega
          rw [ht] at hs
          walk_at "go"
          rename_i H2 hp hnl ho hke
          exact ⟨rfl, hke, hp.l (by rw [hs]; simp [nats])⟩
        · have ht : tb n i = false := by unfold tb; simp; omega
          rw [ht] at hs
          walk_at "go"
          exact ⟨rfl, e.trans e2, hG2.l (by rw [hs]; simp [nats])⟩
      rintro σ2 G3 ⟨rfl, e3, h3⟩
      walk_at "go"
      refine ⟨some (.int (i : Nat)), ?_, e3, h3⟩
      have ed : ((n / 2 ^ i : Nat) : Int) / 2 = ((n / 2 ^ (i + 1) : Nat) : Int) := by
        rw [Nat.pow_succ, ← Nat.div_div_eq_div_mul]; rfl
      rw [← ed]
      try rfl
    · rintro σ' G ⟨v, rfl, e, hG⟩
      walk_at "go"
      rename_i p H2 hn he hp
      rw [Int.toNat_natCast] at hp
      exact k p H2 (e.back hn) (e.trans he) hp
/-- .. of ints -/
theorem u_lot {H : Hp} {Q : VK} {E : XK} {c m : Int} (hc : 0 ≤ c) (hm : 0 ≤ m) (hm2 : m ≤ 1000) (k : ∀ p H' (lot : List Int), Fr H p → Ex H H' → At H' p (.tup (lot.map V.int)) → lot = (lotOf c.toNat m.toNat).map (fun n : Nat => (n : Int)) → Q (.ref p) H') : sp__law_lot K [.int c, .int m] H Q E := by
  obtain ⟨c, rfl⟩ := Int.eq_ofNat_of_zero_le hc
  obtain ⟨m, rfl⟩ := Int.eq_ofNat_of_zero_le hm
  exact ⟨c, m, rfl, by omega, fun p H' h1 h2 h3 => k p H' _ h1 h2 h3 rfl⟩
local macro_rules | `(tactic| walk_at "call") => `(tactic| ((with_reducible apply R.u_lot); (walk_at "num"); (walk_at "num"); (walk_at "num"); (intro p H2 lot hn he hp hlot)))

def sp__law_power : Sp := fun vs H Q _ => ∃ m : Nat, vs = [.int (m : Int)] ∧ m ≤ 1000 ∧ ∀ H', Ex H H' → Q (.int ((2 ^ m : Nat) : Int)) H'
theorem ok__law_power (T : Tx P K mg) : FnOk P w K mg base (L2.CX P w) 1 (He.ga K "_law_power") (Z.fdOf K (He.ga K "_law_power")) ["_law_many"] sp__law_power := by
  refine T.F__law_power.ok sc__law_power (fun vs H Q E h => ?_) (fun cdv A outer s H vs Q E hr h => ?_)
  · obtain ⟨m, rfl, _⟩ := h
    rfl
  · obtain ⟨m, rfl, hm, k⟩ := h
    refine ⟨_, PSs.nox (pss_cons (ps_set (i := 1) sc__law_power.nd rfl (Or.inl rfl) pe_int)
      (pss_cons (ps_for PassesOwn.never rfl (pi_range1 (by rfl) T.n_range (pa_cons (pv 0) pa_nil)) (pg_name (i := 2) sc__law_power.nd rfl (by first | exact Or.inl rfl | exact Or.inr rfl)) (pss_one (ps_set (i := 1) sc__law_power.nd rfl (Or.inl rfl) (pe_op Z.op_mul (pv 1) pe_int))))
      (pss_one (ps_ret (pv 1))))), ?_⟩
    try dsimp only [cxOf, Cx.nox, Cx.wish]
    try (show (_ : TS) _ [some _, none, none] _)
    walk_at "go"
    refine Z.fg (by assumption) (fun i σ G => ∃ v, σ = [some (.int (m : Int)), some (.int ((2 ^ i : Nat) : Int)), v] ∧ Ex H G) ⟨none, rfl, Ex.refl _⟩ (fun i σ' G _ _ => trivial) ?_ ?_
    · rintro i x σ' G G2 hi ⟨v, rfl, e⟩ e2 y
      walk_at "go"
      refine ⟨some x, ?_, e.trans e2⟩
      rw [Nat.pow_succ, Int.natCast_mul]
      rfl
    · rintro σ' G ⟨v, rfl, e⟩
      walk_at "go"
      rw [Int.toNat_natCast]
      exact k _ e

theorem erase_perm : ∀ (l : List Int) (j : Nat) (h : j < l.length), (l[j] :: l.eraseIdx j).Perm l
  | x :: l, 0, _ => List.Perm.refl _
  | x :: l, j + 1, h => by
    have ih := erase_perm l j (by simpa using h)
    exact (List.Perm.swap x (l[j]'(by simpa using h)) (l.eraseIdx j)).trans (List.Perm.cons x ih)
theorem perm_take {fs ls ns : List Int} {j : Nat} (h : (fs ++ ls).Perm ns) (hj : j < ls.length) : ((fs ++ [ls.getD j 0]) ++ ls.eraseIdx j).Perm ns := by
  rw [getD_get _ _ _ hj, List.append_assoc]
  refine List.Perm.trans (List.Perm.append_left fs ?_) h
  exact erase_perm ls j hj
def sp__law_shuffled (K : PySem.W.Frag) : Sp := fun vs H Q _ => ∃ (a b : Addr) (ps ns : List Int), vs = [.ref a, .ref b] ∧ SqL K H a (ps.map V.int) ∧ SqL K H b (ns.map V.int) ∧ ps.length ≤ 100 ∧ ns.length ≤ 100 ∧ ∀ p H' (ms : List Int), Fr H p → Ex H H' → At H' p (.lst (ms.map V.int)) → ms.length ≤ ps.length → (∃ rs, (ms ++ rs).Perm ns) → Q (.ref p) H'
theorem ok__law_shuffled (T : Tx P K mg) : FnOk P w K mg base (L2.CX P w) 1 (He.ga K "_law_shuffled") (Z.fdOf K (He.ga K "_law_shuffled")) ["_law_places", "_law_things"] (sp__law_shuffled K) := by
  refine T.F__law_shuffled.ok sc__law_shuffled (fun vs H Q E h => ?_) (fun cdv A outer s H vs Q E hr h => ?_)
  · obtain ⟨a, b, ps, ns, rfl, _⟩ := h
    rfl
  · obtain ⟨a, b, ps, ns, rfl, ha, hb, hl, hl2, k⟩ := h
    refine ⟨_, PSs.nox (pss_cons (ps_set (i := 2) sc__law_shuffled.nd rfl (Or.inl rfl) (pe_callTy (Z.call_list (K := K) rfl) (by rfl) T.n_list (by decide +kernel) (pa_cons (pv 1) pa_nil)))
      (pss_cons (ps_set (i := 3) sc__law_shuffled.nd rfl (Or.inl rfl) (pe_lst pa_nil))
      (pss_cons (ps_for PassesOwn.never rfl (Z.piL (K := K) rfl (pv 0)) (pg_name (i := 4) sc__law_shuffled.nd rfl (by first | exact Or.inl rfl | exact Or.inr rfl)) (pss_one (ps_if (pt_cmpR Z.op_gt (pe_callB (Z.call_len (K := K) rfl) (by rfl) T.n_len (by decide +kernel) (pa_cons (pv 2) pa_nil)) pe_int (nomark _)) (pss_one (ps_expr (pe_bm PySem.F.plainAttrs_list PySem.F.slot_list_append PySem.F.type_list_append mt_append (pv 3) (pa_cons (pe_bm PySem.F.plainAttrs_list PySem.F.slot_list_pop PySem.F.type_list_pop mt_popAt (pv 2) (pa_cons (pe_op Z.op_mod (pe_callTy Z.call_int (by rfl) T.n_int (by decide +kernel) (pa_cons (pv 4) pa_nil)) (pe_callB (Z.call_len (K := K) rfl) (by rfl) T.n_len (by decide +kernel) (pa_cons (pv 2) pa_nil))) pa_nil)) pa_nil)))) pss_nil)))
      (pss_one (ps_ret (pv 3)))))), ?_⟩
    try dsimp only [cxOf, Cx.nox, Cx.wish]
    try (show (_ : TS) _ [some _, some _, none, none, none] _)
    walk_at "go"
    rename_i L H1 hL he1 hp1 F H2 hF he2 hp2 J S
    have hLF : F ≠ L := fun z => hp1.ne hF z.symm
    have hF0 : Fr H F := he1.back hF
    refine Z.fg S (fun i σ G => ∃ (ls fs : List Int) (v : Option V), σ = [some (.ref a), some (.ref b), some (.ref L), some (.ref F), v] ∧ At G L (.lst (ls.map V.int)) ∧ At G F (.lst (fs.map V.int)) ∧ ls.length ≤ 100 ∧ fs.length ≤ i ∧ Ex H G ∧ (fs ++ ls).Perm ns) ⟨ns, [], none, rfl, by walk_at "fx", (show At _ F (.lst []) by walk_at "fx"), hl2, by simp, by walk_at "ex", List.Perm.refl _⟩ (fun i σ G _ ⟨_, _, _, _, _, _, _, _, e, _⟩ => by walk_at "fl") ?_ ?_
    · rintro i x σ G G2 hi ⟨ls, fs, v, rfl, hL2, hF2, hll, hfl, eG, hpm⟩ e2 y
      obtain ⟨hi2, rfl⟩ := get_int y
      have hL3 := e2.get hL2
      have hF3 := e2.get hF2
      have eG2 := eG.trans e2
      clear hp1 hp2 hF he1 he2 hL2 hF2
      walk_at "go"
      refine Z.w_dec (fun h => ?_) (fun h => ?_)
      · have hm0 := Int.emod_nonneg (ps.getD i 0) (show (ls.length : Int) ≠ 0 by omega)
        have hm1 := Int.emod_lt_of_pos (ps.getD i 0) (show 0 < (ls.length : Int) by omega)
        walk_at "run"
        rename_i G3 hL4 hnl ho hke
        have hF4 := ho F _ hLF hF3
        walk_at "go"
        rename_i G4 hF5 hnl2 ho2 hke2
        exact ⟨_, fs ++ [ls.getD (ps.getD i 0 % (ls.length : Int)).toNat 0], _, rfl, ho2 L _ hLF.symm hL4, hF5.l (by rw [List.map_append]; rfl), by rw [List.length_eraseIdx]; split <;> omega, by simp; omega, hke2, perm_take hpm (by omega)⟩
      · walk_at "go"
        exact ⟨ls, fs, _, rfl, hL3, hF3, hll, by omega, eG2, hpm⟩
    · rintro σ G ⟨ls, fs, v, rfl, hL2, hF2, _, hfl, eG, hpm⟩
      rw [List.length_map] at hfl
      walk_at "go"
      exact k F G fs hF0 eG hF2 hfl ⟨ls, hpm⟩

theorem flat_ints (n : Nat) (bs : List Int) : (List.replicate n (bs.map V.int)).flatten = ((List.replicate n bs).flatten).map V.int := by
  rw [List.map_flatten, List.map_replicate]
theorem mem_flat {n : Nat} {bs : List Int} {z : Int} (h : z ∈ (List.replicate n bs).flatten) : z ∈ bs := by
  obtain ⟨l, hl, hz⟩ := List.mem_flatten.1 h
  rw [List.eq_of_mem_replicate hl] at hz
  exact hz
theorem flat_len (n : Nat) (bs : List Int) : ((List.replicate n bs).flatten).length = n * bs.length := by
  rw [List.length_flatten, List.map_replicate, List.sum_replicate_nat]
def sp__law_wishes (K : PySem.W.Frag) : Sp := fun vs H Q _ => ∃ (c : Int) (m cnt : Nat), vs = [.int c, .int (m : Int), .int (cnt : Int)] ∧ m ≤ 24 ∧ cnt ≤ 6 ∧ ∀ p H' xs (ps : List (Int × List Int)), Fr H p → Ex H H' → At H' p (.lst xs) → LPt H' xs ps → ps.length = cnt → (∀ q ∈ ps, PGood m q ∧ q.1 ≤ 25 ∧ q.2.length ≤ 24) → Q (.ref p) H'
theorem ok__law_wishes (T : Tx P K mg) : FnOk P w K mg base (L2.CX P w) 2 (He.ga K "_law_wishes") (Z.fdOf K (He.ga K "_law_wishes")) ["_law_cell_here", "_law_many", "_law_count"] (sp__law_wishes K) := by
  refine T.F__law_wishes.ok sc__law_wishes (fun vs H Q E h => ?_) (fun cdv A outer s H vs Q E hr h => ?_)
  · obtain ⟨c, m, cnt, rfl, _⟩ := h
    rfl
  · obtain ⟨c, m, cnt, rfl, hm, hcn, k⟩ := h
    refine ⟨_, PSs.nox (pss_cons (ps_set (i := 3) sc__law_wishes.nd rfl (Or.inl rfl) (pe_op Z.op_add pe_int (pv 1)))
      (pss_cons (ps_set (i := 4) sc__law_wishes.nd rfl (Or.inl rfl) (pe_op Z.op_add (pe_lst (pa_cons pe_int (pa_cons (pe_op Z.op_add (pv 1) pe_int) pa_nil))) (pe_lc (own := [("_law_k", 7)]) rfl sc__law_wishes.nd (pi_range1 (by rfl) T.n_range (pa_cons (pv 1) pa_nil)) (blkOk_by (N := ["_law_cell_here", "_law_many", "_law_count", "_law_size", "_law_sizes", "_law_drawn", "_law_found", "_law_k", "_law_part", "_law_things", "_law_thing"]) (sc := defScope s__law_wishes) (by decide +kernel)) (fun _ _ _ _ _ => (pg_name (i := 7) sc__law_wishes.nd rfl (by first | exact Or.inl rfl | exact Or.inr rfl))) (fun _ _ _ _ _ => pts_nil) (fun _ _ _ _ _ => pe_int))))
      (pss_cons (ps_set (i := 5) sc__law_wishes.nd rfl (Or.inl rfl) (pe_call (ok__law_draws T) (hr.mono (by decide)) (by rfl) T.g__law_draws T.F__law_draws.kp T.b__law_draws .nil passL (pa_cons (pv 0) (pa_cons (pe_op op_rep (pv 4) (pv 2)) pa_nil))))
      (pss_cons (ps_set (i := 6) sc__law_wishes.nd rfl (Or.inl rfl) (pe_lst pa_nil))
      (pss_cons (ps_for PassesOwn.never rfl (pi_range1 (by rfl) T.n_range (pa_cons (pv 2) pa_nil)) (pg_name (i := 7) sc__law_wishes.nd rfl (by first | exact Or.inl rfl | exact Or.inr rfl)) (pss_cons (ps_set (i := 8) sc__law_wishes.nd rfl (Or.inl rfl) (pe_slice (Z.slL (K := K) rfl) (pv 5) (po_some (pe_op Z.op_mul (pv 7) (pv 3))) (po_some (pe_op Z.op_mul (pe_op Z.op_add (pv 7) pe_int) (pv 3)))))
      (pss_cons (ps_set (i := 9) sc__law_wishes.nd rfl (Or.inl rfl) (pe_call (ok__law_shuffled T) (hr.mono (by decide)) (by rfl) T.g__law_shuffled T.F__law_shuffled.kp T.b__law_shuffled .nil passL (pa_cons (pe_slice (Z.slL (K := K) rfl) (pv 8) (po_some pe_int) po_none) (pa_cons (pe_lc (own := [("_law_thing", 10)]) rfl sc__law_wishes.nd (pi_range1 (by rfl) T.n_range (pa_cons (pv 1) pa_nil)) (blkOk_by (N := ["_law_cell_here", "_law_many", "_law_count", "_law_size", "_law_sizes", "_law_drawn", "_law_found", "_law_k", "_law_part", "_law_things", "_law_thing"]) (sc := defScope s__law_wishes) (by decide +kernel)) (fun _ _ _ _ _ => (pg_name (i := 10) sc__law_wishes.nd rfl (by first | exact Or.inl rfl | exact Or.inr rfl))) (fun _ _ _ _ _ => pts_nil) (fun _ _ _ _ _ => (pv 10))) pa_nil))))
      (pss_one (ps_expr (pe_bm PySem.F.plainAttrs_list PySem.F.slot_list_append PySem.F.type_list_append mt_append (pv 6) (pa_cons (pe_tup (pa_cons (pe_op Z.op_add pe_int (pe_ix (Z.ix (K := K) rfl) (pv 8) pe_int (fun _ _ => rfl))) (pa_cons (pe_callTy (Z.call_tuple (K := K) rfl) (by rfl) T.n_tuple (by decide +kernel) (pa_cons (pe_slice (Z.slL (K := K) rfl) (pv 9) po_none (po_some (pe_ix (Z.ix (K := K) rfl) (pv 8) pe_int (fun _ _ => rfl)))) pa_nil)) pa_nil))) pa_nil)))))))
      (pss_one (ps_ret (pv 6)))))))), ?_⟩
    try dsimp only [cxOf, Cx.nox, Cx.wish]
    try (show (_ : TS) _ [some _, some _, some _, none, none, none, none, none, none, none, none] _)
    walk_at "go"
    rename_i p1 H1 hn1 he1 hp1 J S p2 H2 hn2 he2 hp2 p3 H3 hn3 he3 hp3 p4 H4 hn4 he4 hp4
    have hp4' : At H4 p4 (.lst (((List.replicate cnt ([9, (m : Int) + 1] ++ List.replicate m 12)).flatten).map V.int)) := by
      rw [Int.toNat_natCast, Int.toNat_natCast] at hp4
      rw [← flat_ints, List.map_append]
      exact hp4
    have hl0 : ([9, (m : Int) + 1] ++ List.replicate m (12 : Int)).length = m + 2 := by rw [List.length_append, List.length_replicate]; show 2 + m = m + 2; omega
    have hfl := flat_len cnt ([9, (m : Int) + 1] ++ List.replicate m (12 : Int))
    rw [hl0] at hfl
    have hcl : cnt * (m + 2) ≤ 6 * 26 := Nat.mul_le_mul hcn (by omega)
    have hsz : ∀ z ∈ (List.replicate cnt ([9, (m : Int) + 1] ++ List.replicate m 12)).flatten, 0 < z ∧ z ≤ 25 := fun z hz => by
      have := mem_flat hz
      rcases List.mem_append.1 this with h | h
      · rcases List.mem_cons.1 h with h | h
        · omega
        · have := List.mem_singleton.1 h; omega
      · have := List.eq_of_mem_replicate h; omega
    refine u_draws (sz := (List.replicate cnt ([9, (m : Int) + 1] ++ List.replicate m 12)).flatten) (sq_of hp4') ⟨by omega, fun z hz => by have := hsz z hz; omega⟩ fun p5 H5 ds hn5 he5 hp5 hd => ?_
    have hdl : ds.length = cnt * (m + 2) := by rw [hd.1, hfl]
    have hdb : ∀ z ∈ ds, 0 ≤ z ∧ z < 25 := fun z hz => by
      obtain ⟨i, hi, rfl⟩ := List.mem_iff_getElem.mp hz
      have h1 := hd.2 i hi
      rw [getD_get _ _ _ hi] at h1
      have h2 := hsz (((List.replicate cnt ([9, (m : Int) + 1] ++ List.replicate m 12)).flatten).getD i 0) (by rw [getD_get _ _ _ (by omega)]; exact List.getElem_mem _)
      omega
    have e05 := ((he1.trans he2).trans he3).trans (he4.trans he5)
    clear hp1 hp2 hp3 hp4 hp4' hd hsz hfl hl0 S
    walk_at "go"
    rename_i p6 H6 hn6 he6 hp6 J7 S7
    have e06 := e05.trans he6
    have hp56 := he6.get hp5
    have hf6 := e05.back hn6
    have hne56 : p5 ≠ p6 := hp5.ne hn6
    clear hp5 hn1 hn2 hn3 hn4 hn5 e05
    refine Z.fg S7 (fun i σ G => ∃ (xs : List V) (ps : List (Int × List Int)) (v7 v8 v9 : Option V), σ = [some (.int c), some (.int (m : Int)), some (.int (cnt : Int)), some (.int (2 + (m : Int))), some (.ref p3), some (.ref p5), some (.ref p6), v7, v8, v9, none] ∧ Ex H G ∧ At G p6 (.lst xs) ∧ At G p5 (.lst (ds.map V.int)) ∧ LPt G xs ps ∧ ps.length = i ∧ ∀ q ∈ ps, PGood m q ∧ q.1 ≤ 25 ∧ q.2.length ≤ 24) ⟨[], [], none, none, none, rfl, e06, hp6, hp56, LPt.nil, rfl, fun q hq => absurd hq (by simp)⟩ (fun i σ' G _ _ => trivial) ?_ ?_
    · rintro i y σ' G G2 hi ⟨xs, ps, v7, v8, v9, rfl, eG, h6, h5, hL, hpl, hpp⟩ e2 rfl
      have hi2 : i < cnt := by omega
      have him : i * (m + 2) + (m + 2) ≤ cnt * (m + 2) := by
        have := Nat.mul_le_mul_right (m + 2) (show i + 1 ≤ cnt by omega)
        rw [Nat.add_mul, Nat.one_mul] at this
        exact this
      have ei1 : (i : Int) * (2 + (m : Int)) = ((i * (m + 2) : Nat) : Int) := by rw [Int.natCast_mul]; congr 1; omega
      have ei2 : ((i : Int) + 1) * (2 + (m : Int)) = ((i * (m + 2) + (m + 2) : Nat) : Int) := by rw [Int.natCast_add, Int.natCast_mul, show (2 + (m : Int)) = ((m + 2 : Nat) : Int) by omega, Int.add_mul, Int.one_mul]
      have cm1 : CM (i : Int) (2 + (m : Int)) := CM.of_right (by omega)
      have cm2 : CM ((i : Int) + 1) (2 + (m : Int)) := CM.of_right (by omega)
      have h62 := e2.get h6
      have h52 := e2.get h5
      have hL2 := hL.ex e2
      have eG2 := eG.trans e2
      have h0i : 0 ≤ (i : Int) * (2 + (m : Int)) := by omega
      have h1i : 0 ≤ ((i : Int) + 1) * (2 + (m : Int)) := by omega
      clear h6 h5 hL S7 hp6 hp56
      walk_at "go"
      rename_i pa A1 hna hea hpa pb B1 hnb heb hpb J8 S8
      refine Z.cgI S8 (fun j => (j : Int)) (fun H' e => trivial) (by show _ ≤ 16777216; omega) (fun Dl j x H' hj ec c y => ?_) (fun pc C1 hnc hec hpc => ?_) rfl
      · cases y
        walk_at "go"
      have hal : ((ds.drop (↑i * (2 + (m : Int))).toNat).take (((↑i + 1) * (2 + (m : Int))).toNat - (↑i * (2 + (m : Int))).toNat)).length = m + 2 := by
        rw [ei1, ei2, Int.toNat_natCast, Int.toNat_natCast, List.length_take, List.length_drop]
        omega
      have hab : ∀ z ∈ ((ds.drop (↑i * (2 + (m : Int))).toNat).take (((↑i + 1) * (2 + (m : Int))).toNat - (↑i * (2 + (m : Int))).toNat)), 0 ≤ z ∧ z < 25 := fun z hz => hdb z (List.mem_of_mem_drop (List.mem_of_mem_take hz))
      generalize ((ds.drop (↑i * (2 + (m : Int))).toNat).take (((↑i + 1) * (2 + (m : Int))).toNat - (↑i * (2 + (m : Int))).toNat)) = as at *
      have e2c := (hea.trans heb).trans hec
      have h6c := e2c.get h62
      have h5c := e2c.get h52
      have hLc := hL2.ex e2c
      have eGc := eG2.trans e2c
      have hpac := (heb.trans hec).get hpa
      have hpbc := hec.get hpb
      clear h62 h52 hL2 eG2 hpa hpb S8 cm1 cm2 ei1 ei2 h0i h1i
      walk_at "go"
      refine ⟨pb, pc, _, _, rfl, sq_of hpbc, sq_of hpc, by rw [List.length_drop]; omega, by rw [List.length_map, List.length_range]; omega, fun pd D1 ms hnd hed hpd hml hpm => ?_⟩
      obtain ⟨rs, hpm⟩ := hpm
      have hnd2 : ((List.range (m : Int).toNat).map fun i : Nat => (i : Int)).Nodup := by
        rw [List.nodup_iff_pairwise_ne, List.pairwise_map]
        exact List.pairwise_lt_range.imp fun h z => by omega
      have hmn : ms.Nodup := (List.nodup_append.mp (hpm.nodup_iff.mpr hnd2)).1
      have hmb : ∀ t ∈ ms, 0 ≤ t ∧ t < (m : Int) := fun t ht => by
        have h1 := hpm.mem_iff.mp (List.mem_append_left _ ht)
        obtain ⟨i, hi, rfl⟩ := List.mem_map.1 h1
        have := List.mem_range.1 hi
        omega
      rw [List.length_drop] at hml
      have h0 := hab (as.getD 0 0) (by rw [getD_get _ _ _ (show 0 < as.length by omega)]; exact List.getElem_mem _)
      have h1 := hab (as.getD 1 0) (by rw [getD_get _ _ _ (show 1 < as.length by omega)]; exact List.getElem_mem _)
      have h6d := hed.get h6c
      have h5d := hed.get h5c
      have hLd := hLc.ex hed
      have eGd := eGc.trans hed
      have hpad := hed.get hpac
      have hxl := hLd.1
      clear h6c h5c hLc eGc hpac hpbc hpc hea heb hec hed e2c
      walk_at "go"
      rename_i pe E1 hne hee hpe pf F1 hnf hef hpf pg G1 hng heg hpg G3 h63 hnl3 ho3 hke3
      have e13 := (hee.trans hef).trans heg
      have hsub := List.take_sublist (as.getD 1 0).toNat ms
      have hsl := hsub.length_le
      have e2' : Int.toNat 2 = 2 := rfl
      refine ⟨_, ps ++ [(1 + as.getD 0 0, ms.take (as.getD 1 0).toNat)], _, _, _, rfl, hke3, h63, ho3 p5 _ hne56 (e13.get h5d), ?_, by rw [List.length_append, hpl]; rfl, fun q hq => ?_⟩
      · refine ((hLd.ex e13).nl hnl3).snoc (hnl3.get (fun l z => by cases z) hpg) (.inl (hnl3.get (fun l z => by cases z) (heg.get hpf)))
      · rcases List.mem_append.1 hq with h | h
        · exact hpp q h
        · rw [List.mem_singleton.1 h]
          refine ⟨⟨by show 1 ≤ 1 + as.getD 0 0; omega, ⟨fun z hz => (hmb z (hsub.subset hz)).1, hmn.sublist hsub⟩, fun z hz => (hmb z (hsub.subset hz)).2⟩, by show 1 + as.getD 0 0 ≤ 25; omega, ?_⟩
          show (ms.take (as.getD 1 0).toNat).length ≤ 24
          omega
    · rintro σ' G ⟨xs, ps, v7, v8, v9, rfl, eG, h6, h5, hL, hpl, hpp⟩
      walk_at "go"
      exact k p6 G xs ps hf6 eG h6 hL (by rw [hpl]; rfl) hpp

def sp__law_is_int : Sp := fun vs H Q _ => ∃ i : Int, vs = [.int i] ∧ Q (.bl true) H
theorem ok__law_is_int (T : Tx P K mg) : FnOk P w K mg base (L2.CX P w) 1 (He.ga K "_law_is_int") (Z.fdOf K (He.ga K "_law_is_int")) ["_law_x"] sp__law_is_int := by
  refine T.F__law_is_int.ok sc__law_is_int (fun vs H Q E h => ?_) (fun cdv A outer s H vs Q E hr h => ?_)
  · obtain ⟨i, rfl, _⟩ := h
    rfl
  · obtain ⟨i, rfl, k⟩ := h
    refine ⟨_, PSs.nox (pss_one (ps_ret (pe_and (pe_callB (Z.call_isi (K := K) rfl) (by rfl) T.n_isinstance (by decide +kernel) (pa_cons (pv 0) (pa_cons (pe_bltn (v := .ty "int") (u := .type "int") (by rfl) T.n_int (by decide +kernel) rfl) pa_nil))) (pe_one (pe_not (pe_callB (Z.call_isi (K := K) rfl) (by rfl) T.n_isinstance (by decide +kernel) (pa_cons (pv 0) (pa_cons (pe_bltn (v := .ty "bool") (u := .type "bool") (by rfl) T.n_bool (by decide +kernel) rfl) pa_nil)))))))), ?_⟩
    try dsimp only [cxOf, Cx.nox, Cx.wish]
    try (show (_ : TS) _ [some _] _)
    walk_at "go"
    exact k
theorem u_isint {H : Hp} {Q : VK} {E : XK} {i : Int} (k : Q (.bl true) H) : sp__law_is_int [.int i] H Q E := ⟨i, rfl, k⟩
local macro_rules | `(tactic| walk_at "call") => `(tactic| ((with_reducible refine R.u_isint ?_)))

/-- x is the Ratio of t over b -/
def sp__law_same (K : PySem.W.Frag) : Sp := fun vs H Q _ => ∃ (a : Addr) (q : Rat) (n : Nat) (t b : Int), vs = [.ref a, .int t, .int b] ∧ RN (He.ga K "Ratio") H a q n ∧ 0 < b ∧ t.natAbs < 2 ^ 50000 ∧ b.natAbs < 2 ^ 50000 ∧ Q (.bl (decide (q = Rat.divInt t b))) H
theorem ok__law_same (T : Tx P K mg) : FnOk P w K mg base (L2.CX P w) 2 (He.ga K "_law_same") (Z.fdOf K (He.ga K "_law_same")) ["_law_x", "_law_top", "_law_bottom"] (sp__law_same K) := by
  refine T.F__law_same.ok sc__law_same (fun vs H Q E h => ?_) (fun cdv A outer s H vs Q E hr h => ?_)
  · obtain ⟨a, q, n, t, b, rfl, _⟩ := h
    rfl
  · obtain ⟨a, q, n, t, b, rfl, ha, hb, ht, hbs, k⟩ := h
    obtain ⟨⟨dx, hx⟩, sq, h9⟩ := id ha
    have hp := q.den_pos
    have b1 := sq.1
    have b2 := sq.den
    have fx0 := T.o_Ratio.cl
    have fx1 := T.na_Ratio_top
    have fx2 := T.na_Ratio_bottom
    have fx3 := T.o_Ratio
    have fx4 := T.o_Rule
    have fx5 := T.o_Wish
    have fx6 := T.o_Listed
    have fx7 := T.o_Mixed
    have fx8 := T.o_Tabled
    refine ⟨_, PSs.nox (pss_cons (ps_if (pt_not (pt_val (pe_callB (Z.call_isi (K := K) rfl) (by rfl) T.n_isinstance (by decide +kernel) (pa_cons (pv 0) (pa_cons (pe_glob (v := .ref (He.ga K "Ratio")) (by rfl) T.g_Ratio rfl) pa_nil))))) (pss_one (ps_ret pe_bl)) pss_nil)
      (pss_cons (ps_if (PW.pt (pw_or (pt_not (pt_val (pe_call (ok__law_is_int T) (hr.mono (by decide)) (by rfl) T.g__law_is_int T.F__law_is_int.kp T.b__law_is_int .nil passL (pa_cons (Z.fld (K := K) rfl (pv 0) rfl) pa_nil)))) (pw_or (pt_not (pt_val (pe_call (ok__law_is_int T) (hr.mono (by decide)) (by rfl) T.g__law_is_int T.F__law_is_int.kp T.b__law_is_int .nil passL (pa_cons (Z.fld (K := K) rfl (pv 0) rfl) pa_nil)))) (pw_or1 (pt_cmpR Z.op_lt (Z.fld (K := K) rfl (pv 0) rfl) pe_int (nomark _)))))) (pss_one (ps_ret pe_bl)) pss_nil)
      (pss_one (ps_ret (pe_cmpR (Z.op_eq (K := K) rfl hr.units) (pe_op Z.op_mul (Z.fld (K := K) rfl (pv 0) rfl) (pv 2)) (pe_op Z.op_mul (pv 1) (Z.fld (K := K) rfl (pv 0) rfl)) (nomark _)))))), ?_⟩
    try dsimp only [cxOf, Cx.nox, Cx.wish]
    try (show (_ : TS) _ [some _, some _, some _] _)
    walk_at "go"
    walk_at "run"
    have e : decide (q = Rat.divInt t b) = decide (q.num * b = t * q.den) := by
      rw [decide_eq_decide]
      conv => lhs; rw [rat_eq q]
      exact Rat.divInt_eq_divInt_iff (den0 q) (by omega)
    rw [← e]
    exact k
theorem u_sameT {H : Hp} {Q : VK} {E : XK} {a : Addr} {q : Rat} {n : Nat} {t b : Int} (ha : RN (He.ga K "Ratio") H a q n) (hb : 0 < b) (hq : q = Rat.divInt t b) (ht : t.natAbs < 2 ^ 50000) (hs : b.natAbs < 2 ^ 50000) (k : Q (.bl true) H) : sp__law_same K [.ref a, .int t, .int b] H Q E :=
  ⟨a, q, n, t, b, rfl, ha, hb, ht, hs, by rw [decide_eq_true hq]; exact k⟩
/-- .. 0 and 1 -/
theorem u_same0 {H : Hp} {Q : VK} {E : XK} {a : Addr} {q : Rat} {n : Nat} (ha : RN (He.ga K "Ratio") H a q n) (hq : q = 0) (k : Q (.bl true) H) : sp__law_same K [.ref a, .int 0, .int 1] H Q E :=
  u_sameT ha (by decide) (by rw [hq]; exact (Rat.zero_divInt 1).symm) (by exact Nat.pow_pos (by decide)) (by exact Nat.one_lt_two_pow (by decide)) k
theorem u_same1 {H : Hp} {Q : VK} {E : XK} {a : Addr} {q : Rat} {n : Nat} (ha : RN (He.ga K "Ratio") H a q n) (hq : q = 1) (k : Q (.bl true) H) : sp__law_same K [.ref a, .int 1, .int 1] H Q E :=
  u_sameT ha (by decide) (by rw [hq]; exact div1 1) (by exact Nat.one_lt_two_pow (by decide)) (by exact Nat.one_lt_two_pow (by decide)) k

theorem w_isiTS {K : PySem.W.Frag} {H : Hp} {Q : VK} {a : Addr} {xs : List V} (h : SqT K H a xs) (q : Q (.bl true) H) : rIsi K [.ref a, .ty "tuple"] H Q := by
  rcases h with (h | ⟨o, h⟩) | ⟨o, its, n, h1, h2, h3⟩
  · exact w_isiTT h q
  · exact w_isiB (.fTuple h) (by decide +kernel) q
  · exact w_isiB (.kTuple h1 h2) (by decide +kernel) q
/-- the very same tuple of ints -/
def sp__law_same_lot (K : PySem.W.Frag) : Sp := fun vs H Q _ => ∃ (a b : Addr) (ns : List Int), vs = [.ref a, .ref b] ∧ SqT K H a (ns.map V.int) ∧ SqA K H b (ns.map V.int) ∧ ns.length ≤ 100000 ∧ ∀ H', Ex H H' → Q (.bl true) H'
theorem ok__law_same_lot (T : Tx P K mg) : FnOk P w K mg base (L2.CX P w) 2 (He.ga K "_law_same_lot") (Z.fdOf K (He.ga K "_law_same_lot")) ["_law_x", "_law_due"] (sp__law_same_lot K) := by
  refine T.F__law_same_lot.ok sc__law_same_lot (fun vs H Q E h => ?_) (fun cdv A outer s H vs Q E hr h => ?_)
  · obtain ⟨a, b, ns, rfl, _⟩ := h
    rfl
  · obtain ⟨a, b, ns, rfl, ha, hb, hl, k⟩ := h
    rcases hb with hb | hb
    · skip
      refine ⟨_, PSs.nox (pss_cons (ps_if (PW.pt (pw_or (pt_not (pt_val (pe_callB (Z.call_isi (K := K) rfl) (by rfl) T.n_isinstance (by decide +kernel) (pa_cons (pv 0) (pa_cons (pe_bltn (v := .ty "tuple") (u := .type "tuple") (by rfl) T.n_tuple (by decide +kernel) rfl) pa_nil))))) (pw_or1 (pt_cmpR (Z.op_ne (K := K) rfl hr.units) (pe_callB (Z.call_len (K := K) rfl) (by rfl) T.n_len (by decide +kernel) (pa_cons (pv 0) pa_nil)) (pe_callB (Z.call_len (K := K) rfl) (by rfl) T.n_len (by decide +kernel) (pa_cons (pv 1) pa_nil)) (nomark _))))) (pss_one (ps_ret pe_bl)) pss_nil)
      (pss_cons (ps_for PassesOwn.never rfl (pi_range1 (by rfl) T.n_range (pa_cons (pe_callB (Z.call_len (K := K) rfl) (by rfl) T.n_len (by decide +kernel) (pa_cons (pv 1) pa_nil)) pa_nil)) (pg_name (i := 2) sc__law_same_lot.nd rfl (by first | exact Or.inl rfl | exact Or.inr rfl)) (pss_one (ps_if (PW.pt (pw_or (pt_not (pt_val (pe_call (ok__law_is_int T) (hr.mono (by decide)) (by rfl) T.g__law_is_int T.F__law_is_int.kp T.b__law_is_int .nil passL (pa_cons (pe_ix (Z.ix (K := K) rfl) (pv 0) (pv 2) (fun _ _ => rfl)) pa_nil)))) (pw_or1 (pt_cmpR (Z.op_ne (K := K) rfl hr.units) (pe_ix (Z.ix (K := K) rfl) (pv 0) (pv 2) (fun _ _ => rfl)) (pe_ix (Z.ix (K := K) rfl) (pv 1) (pv 2) (fun _ _ => rfl)) (nomark _))))) (pss_one (ps_ret pe_bl)) pss_nil)))
      (pss_one (ps_ret pe_bl)))), ?_⟩
      try dsimp only [cxOf, Cx.nox, Cx.wish]
      try (show (_ : TS) _ [some _, some _, none] _)
      walk_at "go"
      walk_at "run"
      refine w_isiTS ha ?_
      walk_at "run"
      refine Z.fgE 2 (by assumption) rfl (fun G _ => trivial) (fun i x G v hi e hz => ?_) (fun v G e => ?_)
      · subst hz
        have hi' : i < ns.length := by simpa using hi
        walk_at "run"
        exact ⟨⟨_, rfl⟩, by walk_at "ex"⟩
      · walk_at "run"
        exact k _ e
    · skip
      refine ⟨_, PSs.nox (pss_cons (ps_if (PW.pt (pw_or (pt_not (pt_val (pe_callB (Z.call_isi (K := K) rfl) (by rfl) T.n_isinstance (by decide +kernel) (pa_cons (pv 0) (pa_cons (pe_bltn (v := .ty "tuple") (u := .type "tuple") (by rfl) T.n_tuple (by decide +kernel) rfl) pa_nil))))) (pw_or1 (pt_cmpR (Z.op_ne (K := K) rfl hr.units) (pe_callB (Z.call_len (K := K) rfl) (by rfl) T.n_len (by decide +kernel) (pa_cons (pv 0) pa_nil)) (pe_callB (Z.call_len (K := K) rfl) (by rfl) T.n_len (by decide +kernel) (pa_cons (pv 1) pa_nil)) (nomark _))))) (pss_one (ps_ret pe_bl)) pss_nil)
      (pss_cons (ps_for PassesOwn.never rfl (pi_range1 (by rfl) T.n_range (pa_cons (pe_callB (Z.call_len (K := K) rfl) (by rfl) T.n_len (by decide +kernel) (pa_cons (pv 1) pa_nil)) pa_nil)) (pg_name (i := 2) sc__law_same_lot.nd rfl (by first | exact Or.inl rfl | exact Or.inr rfl)) (pss_one (ps_if (PW.pt (pw_or (pt_not (pt_val (pe_call (ok__law_is_int T) (hr.mono (by decide)) (by rfl) T.g__law_is_int T.F__law_is_int.kp T.b__law_is_int .nil passL (pa_cons (pe_ix (Z.ix (K := K) rfl) (pv 0) (pv 2) (fun _ _ => rfl)) pa_nil)))) (pw_or1 (pt_cmpR (Z.op_ne (K := K) rfl hr.units) (pe_ix (Z.ix (K := K) rfl) (pv 0) (pv 2) (fun _ _ => rfl)) (pe_ix (Z.ix (K := K) rfl) (pv 1) (pv 2) (fun _ _ => rfl)) (nomark _))))) (pss_one (ps_ret pe_bl)) pss_nil)))
      (pss_one (ps_ret pe_bl)))), ?_⟩
      try dsimp only [cxOf, Cx.nox, Cx.wish]
      try (show (_ : TS) _ [some _, some _, none] _)
      walk_at "go"
      walk_at "run"
      refine w_isiTS ha ?_
      walk_at "run"
      refine Z.fgE 2 (by assumption) rfl (fun G _ => trivial) (fun i x G v hi e hz => ?_) (fun v G e => ?_)
      · subst hz
        have hi' : i < ns.length := by simpa using hi
        walk_at "run"
        exact ⟨⟨_, rfl⟩, by walk_at "ex"⟩
      · walk_at "run"
        exact k _ e
theorem u_samelot {H : Hp} {Q : VK} {E : XK} {a b : Addr} {ns : List Int} (ha : At H a (.tup (ns.map V.int))) (hb : SqT K H b (ns.map V.int)) (hl : ns.length ≤ 100000) (k : ∀ H', Ex H H' → Q (.bl true) H') : sp__law_same_lot K [.ref a, .ref b] H Q E := ⟨a, b, ns, rfl, st_of ha, .inr hb, hl, k⟩
theorem u_samelotA {H : Hp} {Q : VK} {E : XK} {a b : Addr} {ns : List Int} (ha : At H a (.tup (ns.map V.int))) (hb : SqA K H b (ns.map V.int)) (hl : ns.length ≤ 100000) (k : ∀ H', Ex H H' → Q (.bl true) H') : sp__law_same_lot K [.ref a, .ref b] H Q E := ⟨a, b, ns, rfl, st_of ha, hb, hl, k⟩
theorem u_samelotT {H : Hp} {Q : VK} {E : XK} {a b : Addr} {ns : List Int} (ha : SqT K H a (ns.map V.int)) (hb : SqT K H b (ns.map V.int)) (hl : ns.length ≤ 100000) (k : ∀ H', Ex H H' → Q (.bl true) H') : sp__law_same_lot K [.ref a, .ref b] H Q E := ⟨a, b, ns, rfl, ha, .inr hb, hl, k⟩

def sp__law_below (K : PySem.W.Frag) : Sp := fun vs H Q _ => ∃ (a b : Addr) (w x y z : Int), vs = [.ref a, .ref b] ∧ SqT K H a [.int w, .int x] ∧ SqT K H b [.int y, .int z] ∧ w.natAbs < 2 ^ 300 ∧ x.natAbs < 2 ^ 300 ∧ y.natAbs < 2 ^ 300 ∧ z.natAbs < 2 ^ 300 ∧ Q (.bl (decide (w * z < y * x))) H
theorem ok__law_below (T : Tx P K mg) : FnOk P w K mg base (L2.CX P w) 1 (He.ga K "_law_below") (Z.fdOf K (He.ga K "_law_below")) ["_law_a", "_law_b"] (sp__law_below K) := by
  refine T.F__law_below.ok sc__law_below (fun vs H Q E h => ?_) (fun cdv A outer s H vs Q E hr h => ?_)
  · obtain ⟨a, b, w, x, y, z, rfl, _⟩ := h
    rfl
  · obtain ⟨a, b, w, x, y, z, rfl, ha, hb, h1, h2, h3, h4, k⟩ := h
    refine ⟨_, PSs.nox (pss_one (ps_ret (pe_cmpR Z.op_lt (pe_op Z.op_mul (pe_ix (Z.ix (K := K) rfl) (pv 0) pe_int (fun _ _ => rfl)) (pe_ix (Z.ix (K := K) rfl) (pv 1) pe_int (fun _ _ => rfl))) (pe_op Z.op_mul (pe_ix (Z.ix (K := K) rfl) (pv 1) pe_int (fun _ _ => rfl)) (pe_ix (Z.ix (K := K) rfl) (pv 0) pe_int (fun _ _ => rfl))) (nomark _)))), ?_⟩
    try dsimp only [cxOf, Cx.nox, Cx.wish]
    try (show (_ : TS) _ [some _, some _] _)
    walk_at "go"
    exact k

def sp__law_pool (K : PySem.W.Frag) : Sp := fun vs H Q _ => ∃ (x y : Int), vs = [.int x, .int y] ∧ ∀ p H' (ps : List Int), Fr H p → Ex H H' → At H' p (.lst (ps.map V.int)) → ps.length = 80 → (∀ z ∈ ps, 0 ≤ z ∧ z < 10000000000000000) → Q (.ref p) H'
theorem ok__law_pool (T : Tx P K mg) : FnOk P w K mg base (L2.CX P w) 2 (He.ga K "_law_pool") (Z.fdOf K (He.ga K "_law_pool")) ["_law_low", "_law_high"] (sp__law_pool K) := by
  refine T.F__law_pool.ok sc__law_pool (fun vs H Q E h => ?_) (fun cdv A outer s H vs Q E hr h => ?_)
  · obtain ⟨x, y, rfl, _⟩ := h
    rfl
  · obtain ⟨x, y, rfl, k⟩ := h
    refine ⟨_, PSs.nox (pss_cons (ps_set (i := 2) sc__law_pool.nd rfl (Or.inl rfl) (pe_lst pa_nil))
      (pss_cons (ps_for PassesOwn.never rfl (Z.piL (K := K) rfl (pe_lst (pa_cons (pv 0) (pa_cons (pv 1) pa_nil)))) (pg_name (i := 3) sc__law_pool.nd rfl (by first | exact Or.inl rfl | exact Or.inr rfl)) (pss_cons (ps_set (i := 4) sc__law_pool.nd rfl (Or.inl rfl) (pe_call (ok__law_draws T) (hr.mono (by decide)) (by rfl) T.g__law_draws T.F__law_draws.kp T.b__law_draws .nil passL (pa_cons (pv 3) (pa_cons (pe_op Z.op_add (pe_lst (pa_cons pe_int pa_nil)) (pe_lc (own := [("_law_k", 6)]) rfl sc__law_pool.nd (pi_range1 (by rfl) T.n_range (pa_cons pe_int pa_nil)) (blkOk_by (N := ["_law_low", "_law_high", "_law_pool_here", "_law_cell_here", "_law_drawn", "_law_bound", "_law_k", "_law_value"]) (sc := defScope s__law_pool) (by decide +kernel)) (fun _ _ _ _ _ => (pg_name (i := 6) sc__law_pool.nd rfl (by first | exact Or.inl rfl | exact Or.inr rfl))) (fun _ _ _ _ _ => pts_nil) (fun _ _ _ _ _ => (pe_op op_pow pe_int pe_int)))) pa_nil))))
      (pss_cons (ps_set (i := 5) sc__law_pool.nd rfl (Or.inr rfl) (pe_ix (Z.ix (K := K) rfl) (pe_lst (pa_cons pe_int (pa_cons pe_int (pa_cons pe_int (pa_cons (pe_op op_pow pe_int pe_int) pa_nil))))) (pe_ix (Z.ix (K := K) rfl) (pv 4) pe_int (fun _ _ => rfl)) (fun _ _ => rfl)))
      (pss_one (ps_expr (pe_bm PySem.F.plainAttrs_list PySem.F.slot_list_extend PySem.F.type_list_extend mt_extend (pv 2) (pa_cons (pe_lc (own := [("_law_value", 7)]) rfl sc__law_pool.nd (Z.piL (K := K) rfl (pe_slice (Z.slL (K := K) rfl) (pv 4) (po_some pe_int) po_none)) (blkOk_by (N := ["_law_low", "_law_high", "_law_pool_here", "_law_cell_here", "_law_drawn", "_law_bound", "_law_k", "_law_value"]) (sc := defScope s__law_pool) (by decide +kernel)) (fun _ _ _ _ _ => (pg_name (i := 7) sc__law_pool.nd rfl (by first | exact Or.inl rfl | exact Or.inr rfl))) (fun _ _ _ _ _ => pts_nil) (fun _ _ _ _ _ => (pe_op Z.op_mod (pe_callTy Z.call_int (by rfl) T.n_int (by decide +kernel) (pa_cons (pv 7) pa_nil)) (pv 5)))) pa_nil)))))))
      (pss_one (ps_ret (pv 2))))), ?_⟩
    try dsimp only [cxOf, Cx.nox, Cx.wish]
    try (show (_ : TS) _ [some _, some _, none, none, none, none, none, none] _)
    walk_at "go"
    rename_i P H1 hP he1 hp1 c2 H2 hn2 he2 hp2 J S
    have hne : c2 ≠ P := fun z => hp1.ne hn2 z.symm
    have fP : Fr H P := hP
    refine Z.fg S (fun i σ G => ∃ (ps : List Int) (v3 v4 v5 v6 v7 : Option V), σ = [some (.int x), some (.int y), some (.ref P), v3, v4, v5, v6, v7] ∧ Ex H G ∧ At G P (.lst (ps.map V.int)) ∧ At G c2 (.lst [.int x, .int y]) ∧ ps.length = 40 * i ∧ ∀ z ∈ ps, 0 ≤ z ∧ z < 10000000000000000) ⟨[], none, none, none, none, none, rfl, he1.trans he2, he2.get hp1, hp2, rfl, fun z hz => absurd hz (by simp)⟩ (fun i σ' G _ ⟨_, _, _, _, _, _, _, _, _, h, _⟩ => sq_of h) ?_ ?_
    · rintro i w σ' G G2 hi ⟨ps, v3, v4, v5, v6, v7, rfl, eG, hG, hc, hl, hb⟩ e2 hy
      obtain ⟨z, rfl⟩ : ∃ z, w = .int z := by
        match i, hi with
        | 0, _ => cases hy; exact ⟨_, rfl⟩
        | 1, _ => cases hy; exact ⟨_, rfl⟩
        | n + 2, h => exact absurd h (by simp)
      have hi2 : i < 2 := hi
      have hG2 := e2.get hG
      have hc2 := e2.get hc
      have eG2 := eG.trans e2
      clear hp1 hp2 hP hn2 hG hc
      walk_at "go"
      rename_i D3 G3 ds hn3 he3 hp3 hd hb2 p4 G4 hn4 he4 hp4 D5 G5 hn5 he5 hp5 J5 S5
      have hdl : ds.length = 41 := hb2.1
      have hd0 := hb2.2.1
      clear hb2 hd
      have key : ∀ n : Nat, n < 4 → 0 < ([2, 6, 1000, 10000000000000000] : List Int).getD n 0 ∧ ([2, 6, 1000, 10000000000000000] : List Int).getD n 0 ≤ 10000000000000000 := by decide
      have hm := key (ds.getD 0 0).toNat (by omega)
      generalize ([2, 6, 1000, 10000000000000000] : List Int).getD (ds.getD 0 0).toNat 0 = m at *
      clear key
      have hel : (ds.drop (Int.toNat 1)).length = 40 := by rw [List.length_drop, hdl]; rfl
      generalize ds.drop (Int.toNat 1) = es at *
      refine Z.cgI S5 (fun i => (es.getD i 0) % m) (fun H' e => e.l (sq_of hp5)) (by rw [List.length_map]; show _ ≤ 16777216; omega) (fun Dl j y G6 hj ec cd hy => ?_) (fun L6 G6 hL6 he6 hp6 => ?_) rfl
      · rw [List.length_map] at hj
        rw [List.getElem?_map, List.getElem?_eq_getElem hj] at hy
        cases hy
        have hgd : es.getD j 0 = es[j] := by rw [List.getD_eq_getElem?_getD, List.getElem?_eq_getElem hj]; rfl
        rw [hgd]
        walk_at "go"
      · have hvl : ((List.range (es.map V.int).length).map fun i => es.getD i 0 % m).length = 40 := by rw [List.length_map, List.length_range, List.length_map, hel]
        have hvb : ∀ v ∈ ((List.range (es.map V.int).length).map fun i => es.getD i 0 % m), 0 ≤ v ∧ v < 10000000000000000 := by
          intro v hv
          obtain ⟨k0, _, rfl⟩ := List.mem_map.1 hv
          have h1 := Int.emod_nonneg (es.getD k0 0) (show m ≠ 0 by omega)
          have h2 := Int.emod_lt_of_pos (es.getD k0 0) (show 0 < m by omega)
          omega
        generalize ((List.range (es.map V.int).length).map fun i => es.getD i 0 % m) = fs at *
        have hG6 : At G6 P (.lst (ps.map V.int)) := by walk_at "fx"
        have hc6 : At G6 c2 (.lst [.int x, .int y]) := by walk_at "fx"
        have eG6 : Ex H G6 := by walk_at "ex"
        have hsz : (ps.map V.int).length + (fs.map V.int).length ≤ sizeLine := by rw [List.length_map, List.length_map]; show _ ≤ 16777216; omega
        walk_at "go"
        rename_i G7 hp7 hn7 ho7 e7
        refine ⟨ps ++ fs, _, _, _, _, _, rfl, e7, by rw [List.map_append]; exact hp7, ho7 _ _ hne hc6, by rw [List.length_append]; omega, fun v hv => ?_⟩
        rcases List.mem_append.1 hv with h | h
        · exact hb v h
        · exact hvb v h
    · rintro σ' G ⟨ps, v3, v4, v5, v6, v7, rfl, eG, hG, hc, hl, hb⟩
      walk_at "go"
      exact k P G ps fP eG hG (by rw [hl]; rfl) hb

/-- such a row is right -/
theorem row_fits {f0 : Int} {cs lot : List Int} {m : Nat} (h0 : 0 ≤ f0) (hcl : cs.length = m) (hcb : ∀ v ∈ cs, 0 ≤ v) (hcF : ∀ t : Nat, t < m → 0 < cs.getD t 0 → (t : Int) ∈ lot) : Fits (max 1 (f0 + cs.sum) :: cs) lot m := by
  refine ⟨by rw [List.length_cons, hcl]; omega, ?_, ?_, fun t ht => ?_⟩
  · show 1 ≤ max 1 (f0 + cs.sum); omega
  · show cs.sum ≤ max 1 (f0 + cs.sum); omega
  · have ht2 : t < m := by omega
    show 0 ≤ cs.getD t 0 ∧ (0 < cs.getD t 0 → (t : Int) ∈ lot)
    refine ⟨?_, hcF t ht2⟩
    rw [getD_get _ _ _ (by omega)]
    exact hcb _ (List.getElem_mem _)
def sp__law_rows (K : PySem.W.Frag) : Sp := fun vs H Q _ => ∃ (q : Addr) (m : Nat) (ps : List Int), vs = [.ref q, .int (m : Int)] ∧ SqL K H q (ps.map V.int) ∧ m ≤ 6 ∧ ps.length = 80 ∧ (∀ z ∈ ps, 0 ≤ z ∧ z < 10000000000000000) ∧
  ∀ p H' xs (rows : List (List Int)), Fr H p → Ex H H' → At H' p (.lst xs) → LLi H' xs rows → rows.length = 2 ^ m → (∀ r ∈ rows, r.length = m + 1 ∧ ∀ z ∈ r, 0 ≤ z ∧ z < 2 ^ 57) → (∀ j, j < rows.length → Fits (rows.getD j []) ((lotOf j m).map fun k : Nat => (k : Int)) m) → Q (.ref p) H'
theorem ok__law_rows (T : Tx P K mg) : FnOk P w K mg base (L2.CX P w) 2 (He.ga K "_law_rows") (Z.fdOf K (He.ga K "_law_rows")) ["_law_pool_here", "_law_many"] (sp__law_rows K) := by
  refine T.F__law_rows.ok sc__law_rows (fun vs H Q E h => ?_) (fun cdv A outer s H vs Q E hr h => ?_)
  · obtain ⟨q, m, ps, rfl, _⟩ := h
    rfl
  · obtain ⟨q, m, ps, rfl, hq, hm, hpl, hpb, k⟩ := h
    refine ⟨_, PSs.nox (pss_cons (ps_set (i := 2) sc__law_rows.nd rfl (Or.inr rfl) (pe_op Z.op_add (pv 1) pe_int))
      (pss_cons (ps_set (i := 3) sc__law_rows.nd rfl (Or.inl rfl) (pe_lst pa_nil))
      (pss_cons (ps_for PassesOwn.never rfl (pi_range1 (by rfl) T.n_range (pa_cons (pe_call (ok__law_power T) (hr.mono (by decide)) (by rfl) T.g__law_power T.F__law_power.kp T.b__law_power .nil passL (pa_cons (pv 1) pa_nil)) pa_nil)) (pg_name (i := 4) sc__law_rows.nd rfl (by first | exact Or.inl rfl | exact Or.inr rfl)) (pss_cons (ps_set (i := 5) sc__law_rows.nd rfl (Or.inr rfl) (pe_call (ok__law_lot T) (hr.mono (by decide)) (by rfl) T.g__law_lot T.F__law_lot.kp T.b__law_lot .nil passL (pa_cons (pv 4) (pa_cons (pv 1) pa_nil))))
      (pss_cons (ps_set (i := 6) sc__law_rows.nd rfl (Or.inr rfl) (pe_lc (own := [("_law_k", 8)]) rfl sc__law_rows.nd (pi_range1 (by rfl) T.n_range (pa_cons (pv 2) pa_nil)) (blkOk_by (N := ["_law_pool_here", "_law_many", "_law_size", "_law_rows_here", "_law_number", "_law_lot_here", "_law_part", "_law_counts", "_law_k", "_law_thing"]) (sc := defScope s__law_rows) (by decide +kernel)) (fun _ _ _ _ _ => (pg_name (i := 8) sc__law_rows.nd rfl (by first | exact Or.inl rfl | exact Or.inr rfl))) (fun _ _ _ _ _ => pts_nil) (fun _ _ _ _ _ => (pe_ix (Z.ix (K := K) rfl) (pv 0) (pe_op Z.op_mod (pe_callTy Z.call_int (by rfl) T.n_int (by decide +kernel) (pa_cons (pe_op Z.op_add (pe_op Z.op_mul (pv 4) (pv 2)) (pv 8)) pa_nil)) pe_int) (fun _ _ => rfl)))))
      (pss_cons (ps_setLc (i := 7) (own := [("_law_thing", 9)]) rfl sc__law_rows.nd rfl rfl (sw_true rfl rfl rfl (by decide +kernel)) (pi_range1 (by rfl) T.n_range (pa_cons (pv 1) pa_nil)) (blkOk_by (N := ["_law_pool_here", "_law_many", "_law_size", "_law_rows_here", "_law_number", "_law_lot_here", "_law_part", "_law_counts", "_law_k", "_law_thing"]) (sc := defScope s__law_rows) (by decide +kernel)) (fun _ _ _ _ _ => (pg_name (i := 9) sc__law_rows.nd rfl (by first | exact Or.inl rfl | exact Or.inr rfl))) (fun _ _ _ _ _ => pts_nil) (fun _ _ _ _ _ => (pe_op Z.op_mul (pe_ix (Z.ix (K := K) rfl) (pv 6) (pe_op Z.op_add (pv 9) pe_int) (fun _ _ => rfl)) (pe_callTy Z.call_int (by rfl) T.n_int (by decide +kernel) (pa_cons (pe_cmpR (Z.op_in (K := K) rfl) (pv 9) (pv 5) (by rfl)) pa_nil)))))
      (pss_one (ps_expr (pe_bm PySem.F.plainAttrs_list PySem.F.slot_list_append PySem.F.type_list_append mt_append (pv 3) (pa_cons (pe_op Z.op_add (pe_lst (pa_cons (pe_callB (Z.call_max2 rfl) (by rfl) T.n_max (by decide +kernel) (pa_cons pe_int (pa_cons (pe_op Z.op_add (pe_ix (Z.ix (K := K) rfl) (pv 6) pe_int (fun _ _ => rfl)) (pe_callB (Z.call_sum (K := K) rfl rfl) (by rfl) T.n_sum (by decide +kernel) (pa_cons (pv 7) pa_nil))) pa_nil))) pa_nil)) (pv 7)) pa_nil))))))))
      (pss_one (ps_ret (pv 3)))))), ?_⟩
    try dsimp only [cxOf, Cx.nox, Cx.wish]
    try (show (_ : TS) _ [some _, some _, none, none, none, none, none, none, none, none] _)
    walk_at "go"
    rename_i R H1 hR he1 hp1
    have hpw : (2 ^ m : Nat) ≤ 2 ^ 6 := Nat.pow_le_pow_right (by decide) hm
    refine ⟨m, rfl, by omega, fun H2 he2 => ?_⟩
    have hq2 := (he1.trans he2).l hq
    have hp2 := he2.get hp1
    have e02 := he1.trans he2
    have fR : Fr H R := hR
    clear hp1 hR he1 he2
    generalize hN : (2 ^ m : Nat) = N at *
    walk_at "go"
    rename_i J S
    refine Z.fg S (fun i σ G => ∃ (xs : List V) (rows : List (List Int)) (v4 v5 v6 v7 v8 v9 : Option V), σ = [some (.ref q), some (.int m), some (.int ((m : Int) + 1)), some (.ref R), v4, v5, v6, v7, v8, v9] ∧ Ex H G ∧ At G R (.lst xs) ∧ V.ref R ∉ xs ∧ LLi G xs rows ∧ rows.length = i ∧ (∀ r ∈ rows, r.length = m + 1 ∧ ∀ z ∈ r, 0 ≤ z ∧ z < 2 ^ 57) ∧ ∀ j, j < i → Fits (rows.getD j []) ((lotOf j m).map fun k : Nat => (k : Int)) m) ⟨[], [], none, none, none, none, none, none, rfl, e02, hp2, by simp, LLi.nil, rfl, fun r hr => absurd hr (by simp), fun j hj => absurd hj (by omega)⟩ (fun i σ' G _ _ => trivial) ?_ ?_
    · rintro i w σ' G G2 hi ⟨xs, rows, v4, v5, v6, v7, v8, v9, rfl, eG, hG, hm2, hL, hrl, hrb, hrF⟩ e2 rfl
      have hG2 := e2.get hG
      have hL2 := hL.ex e2
      have eG2 := eG.trans e2
      have hqG := eG2.l hq
      clear hG hL hp2 hq2
      have hmi : (↑i : Int).toNat = i := rfl
      walk_at "go"
      rename_i p3 G3 lot hn3 he3 hp3 hlot J3 S3
      refine Z.cgI S3 (fun k => ps.getD (((i : Int) * ((m : Int) + 1) + (k : Int)) % 80).toNat 0) (fun H' e => trivial) (by show _ ≤ 16777216; omega) (fun Dl j y G4 hj ec cd hy => ?_) (fun L4 G4 hL4 he4 hp4 => ?_) rfl
      · cases hy
        have hm1 : 0 ≤ ((i : Int) * ((m : Int) + 1)) ∧ ((i : Int) * ((m : Int) + 1)) ≤ 1000 := by
          constructor
          · exact Int.mul_nonneg (by omega) (by omega)
          · have := Nat.mul_le_mul (show i ≤ 64 by omega) (show m + 1 ≤ 7 by omega)
            have h2 : ((i : Int) * ((m : Int) + 1)) = ((i * (m + 1) : Nat) : Int) := by push_cast; rfl
            omega
        have hqq := (he3.trans ec).l hqG
        walk_at "go"
      · have hpb2 : ∀ k : Nat, 0 ≤ ps.getD k 0 ∧ ps.getD k 0 < 10000000000000000 := by
          intro k
          by_cases h : k < ps.length
          · have := hpb _ (List.getElem_mem h)
            rw [List.getD_eq_getElem?_getD, List.getElem?_eq_getElem h]; exact this
          · rw [List.getD_eq_getElem?_getD, List.getElem?_eq_none (by omega)]; decide
        have hfl : ((List.range ((m : Int) + 1).toNat).map fun (k : Nat) => ps.getD (((i : Int) * ((m : Int) + 1) + (k : Int)) % 80).toNat 0).length = m + 1 := by rw [List.length_map, List.length_range]; omega
        have hfb : ∀ v ∈ ((List.range ((m : Int) + 1).toNat).map fun (k : Nat) => ps.getD (((i : Int) * ((m : Int) + 1) + (k : Int)) % 80).toNat 0), 0 ≤ v ∧ v < 10000000000000000 := by
          intro v hv
          obtain ⟨k0, _, rfl⟩ := List.mem_map.1 hv
          exact hpb2 _
        generalize ((List.range ((m : Int) + 1).toNat).map fun (k : Nat) => ps.getD (((i : Int) * ((m : Int) + 1) + (k : Int)) % 80).toNat 0) = fs at *
        have hlz := hlot
        have e4 := he3.trans he4
        have hp34 := he4.get hp3
        walk_at "go"
        rename_i J5 S5
        refine Z.cgI S5 (fun t => fs.getD (t + 1) 0 * (if (t : Int) ∈ lot then 1 else 0)) (fun H' e => trivial) (by show _ ≤ 16777216; omega) (fun Dl j y G6 hj ec cd hy => ?_) (fun L6 G6 hL6 he6 hp6 => ?_) rfl
        · cases hy
          have hp44 := ec.get hp4
          have hp35 := ec.get hp34
          have ej : ((j : Int) + 1).toNat = j + 1 := by omega
          have hjm : (j : Int) + 1 < (m : Int) + 1 := by omega
          walk_at "go"
          refine Or.inr ⟨_, rfl, ?_⟩
          have hdc : (if decide ((j : Int) ∈ lot) = true then 1 else 0 : Int) = if (j : Int) ∈ lot then 1 else 0 := by
            by_cases h : (j : Int) ∈ lot <;> simp [h]
          rw [hdc]
          walk_at "go"
        · have hcl : ((List.range ((m : Int)).toNat).map fun (t : Nat) => fs.getD (t + 1) 0 * (if (t : Int) ∈ lot then 1 else 0 : Int)).length = m := by rw [List.length_map, List.length_range]; omega
          have hcb : ∀ v ∈ ((List.range ((m : Int)).toNat).map fun (t : Nat) => fs.getD (t + 1) 0 * (if (t : Int) ∈ lot then 1 else 0 : Int)), 0 ≤ v ∧ v < 10000000000000000 := by
            intro v hv
            obtain ⟨k0, _, rfl⟩ := List.mem_map.1 hv
            have hf : 0 ≤ fs.getD (k0 + 1) 0 ∧ fs.getD (k0 + 1) 0 < 10000000000000000 := by
              by_cases h : k0 + 1 < fs.length
              · have := hfb _ (List.getElem_mem h)
                rw [List.getD_eq_getElem?_getD, List.getElem?_eq_getElem h]; exact this
              · rw [List.getD_eq_getElem?_getD, List.getElem?_eq_none (by omega)]; decide
            by_cases h : (k0 : Int) ∈ lot
            · simp only [h, if_true]; omega
            · simp only [h, if_false]; omega
          have hcF : ∀ t : Nat, t < m → 0 < ((List.range ((m : Int)).toNat).map fun (t : Nat) => fs.getD (t + 1) 0 * (if (t : Int) ∈ lot then 1 else 0 : Int)).getD t 0 → (t : Int) ∈ lot := by
            intro t ht h0
            rw [getD_get _ _ _ (by rw [hcl]; exact ht)] at h0
            simp only [List.getElem_map, List.getElem_range] at h0
            by_cases h : (t : Int) ∈ lot
            · exact h
            · rw [if_neg h] at h0; omega
          generalize ((List.range ((m : Int)).toNat).map fun (t : Nat) => fs.getD (t + 1) 0 * (if (t : Int) ∈ lot then 1 else 0 : Int)) = cs at *
          have hp46 := he6.get hp4
          have hxl := hL2.1
          have hG6 := (e4.trans he6).get hG2
          have hL6' := (hL2.ex e4).ex he6
          have eG6 : Ex H G6 := (eG2.trans e4).trans he6
          have hRr : ∀ p, Fr G6 p → p ≠ R := fun p h z => by subst z; exact hG6.ne h rfl
          walk_at "go"
          rename_i p7 G7 hn7 he7 hp7 p8 G8 hn8 he8 hp8 G9 hp9 hnl9 ho9 he9
          have h0b : 0 ≤ fs.getD 0 0 ∧ fs.getD 0 0 < 10000000000000000 := by
            have h : 0 < fs.length := by omega
            have := hfb _ (List.getElem_mem h)
            rw [List.getD_eq_getElem?_getD, List.getElem?_eq_getElem h]; exact this
          have hsb : 0 ≤ cs.sum ∧ cs.sum ≤ (cs.length : Int) * 10000000000000000 := by
            clear hp46 hp6 hp7 hp8 hcl hcF
            induction cs with
            | nil => simp
            | cons c cs ih =>
              have h1 := hcb c (by simp)
              have h2 := ih (fun v hv => hcb v (by simp [hv]))
              rw [List.sum_cons, List.length_cons]
              push_cast
              omega
          have hR8 : p8 ≠ R := fun z => (he7.get hG6).ne (z ▸ hn8) rfl
          have hp8' := ho9 p8 _ hR8 hp8
          refine ⟨_, rows ++ [max 1 (fs.getD 0 0 + cs.sum) :: cs], _, _, _, _, _, _, rfl, he9, hp9, ?_, ?_, by rw [List.length_append, hrl]; rfl, ?_, ?_⟩
          · intro hm3
            rcases List.mem_append.1 hm3 with h | h
            · exact hm2 h
            · exact hR8 (V.ref.inj (List.mem_singleton.1 h)).symm
          · refine LLi.snoc (((hL6'.ex he7).ex he8).of ho9 hm2) hp8'
          · intro r hr'
            rcases List.mem_append.1 hr' with h | h
            · exact hrb r h
            · rw [List.mem_singleton.1 h]
              refine ⟨by rw [List.length_cons, hcl], fun v hv => ?_⟩
              rcases List.mem_cons.1 hv with h2 | h2
              · subst h2; rw [hcl] at hsb; omega
              · have := hcb v h2; omega
          · intro j hj
            by_cases e : j = i
            · subst e
              have e3 : (rows ++ [max 1 (fs.getD 0 0 + cs.sum) :: cs]).getD j [] = max 1 (fs.getD 0 0 + cs.sum) :: cs := by
                rw [List.getD_eq_getElem?_getD, ← hrl, List.getElem?_append_right (Nat.le_refl _), Nat.sub_self]; rfl
              rw [e3]
              have e4 : lot = (lotOf j m).map fun k : Nat => (k : Int) := by rw [hlot, Int.toNat_natCast, Int.toNat_natCast]
              rw [← e4]
              exact row_fits h0b.1 hcl (fun v hv => (hcb v hv).1) hcF
            · have e3 : (rows ++ [max 1 (fs.getD 0 0 + cs.sum) :: cs]).getD j [] = rows.getD j [] := by
                rw [List.getD_eq_getElem?_getD, List.getElem?_append_left (by omega), ← List.getD_eq_getElem?_getD]
              rw [e3]
              exact hrF j (by omega)
    · rintro σ' G ⟨xs, rows, v4, v5, v6, v7, v8, v9, rfl, eG, hG, hm2, hL, hrl, hrb, hrF⟩
      walk_at "go"
      exact k R G xs rows fR eG hG hL (by rw [hrl]; rfl) hrb fun j hj => hrF j (by omega)

theorem fIn_drop {ns lot : List Int} : ∀ {p : Nat}, p ≤ ns.length → (∀ j, j < p → ns.getD j 0 ∉ lot) → fIn ns lot = fIn (ns.drop p) lot
  | 0, _, _ => by rw [List.drop_zero]
  | p + 1, hp, h => by
    rw [fIn_drop (p := p) (by omega) fun j hj => h j (by omega), List.drop_eq_getElem_cons (show p < ns.length by omega), fIn_cons, ← getD_get _ _ 0, if_neg (h p (by omega))]
theorem fIn_at {ns lot : List Int} {p : Nat} (hp : p ≤ ns.length) (h : ∀ j, j < p → ns.getD j 0 ∉ lot) (he : p = ns.length ∨ ns.getD p 0 ∈ lot) : fIn ns lot = if p < ns.length then some (ns.getD p 0) else none := by
  rw [fIn_drop hp h]
  by_cases e : p < ns.length
  · rw [if_pos e, List.drop_eq_getElem_cons e, fIn_cons, ← getD_get _ _ 0 e, if_pos (he.resolve_left (by omega))]
  · rw [if_neg e, show p = ns.length by omega, List.drop_length]
    rfl
def sp__law_takers (K : PySem.W.Frag) : Sp := fun vs H Q _ => ∃ (q l : Addr) (xs : List V) (ps : List (Int × List Int)) (lot : List Int) (t : Int), vs = [.ref q, .ref l, .int t] ∧ At H q (.lst xs) ∧ LPt H xs ps ∧ SqT K H l (lot.map V.int) ∧ ps.length ≤ 1000 ∧ (∀ p ∈ ps, p.2.length ≤ 1000) ∧ ∀ H', Ex H H' → Q (.int (ldS ps lot t)) H'
theorem ok__law_takers (T : Tx P K mg) : FnOk P w K mg base (L2.CX P w) 1 (He.ga K "_law_takers") (Z.fdOf K (He.ga K "_law_takers")) ["_law_pairs", "_law_lot_here", "_law_thing"] (sp__law_takers K) := by
  refine T.F__law_takers.ok sc__law_takers (fun vs H Q E h => ?_) (fun cdv A outer s H vs Q E hr h => ?_)
  · obtain ⟨q, l, xs, ps, lot, t, rfl, _⟩ := h
    rfl
  · obtain ⟨q, l, xs, ps, lot, t, rfl, hq, hL, hl, hpl, hpn, k⟩ := h
    have hxl := hL.1
    refine ⟨_, PSs.nox (pss_cons (ps_set (i := 3) sc__law_takers.nd rfl (Or.inl rfl) pe_int)
      (pss_cons (ps_for PassesOwn.never rfl (Z.piL (K := K) rfl (pv 0)) (pg_name (i := 4) sc__law_takers.nd rfl (by first | exact Or.inl rfl | exact Or.inr rfl)) (pss_cons (ps_set (i := 5) sc__law_takers.nd rfl (Or.inl rfl) pe_int)
      (pss_cons (ps_while PassesOwn.never (PW.pt (pw_and (pt_cmpR Z.op_lt (pv 5) (pe_callB (Z.call_len (K := K) rfl) (by rfl) T.n_len (by decide +kernel) (pa_cons (pe_ix (Z.ix (K := K) rfl) (pv 4) pe_int (fun _ _ => rfl)) pa_nil)) (nomark _)) (pw_and1 (pt_cmpR (Z.op_notin (K := K) rfl) (pe_ix (Z.ix (K := K) rfl) (pe_ix (Z.ix (K := K) rfl) (pv 4) pe_int (fun _ _ => rfl)) (pv 5) (fun _ _ => rfl)) (pv 1) (by rfl))))) (pss_one (ps_set (i := 5) sc__law_takers.nd rfl (Or.inl rfl) (pe_op Z.op_add (pv 5) pe_int))))
      (pss_one (ps_if (PW.pt (pw_and (pt_cmpR Z.op_lt (pv 5) (pe_callB (Z.call_len (K := K) rfl) (by rfl) T.n_len (by decide +kernel) (pa_cons (pe_ix (Z.ix (K := K) rfl) (pv 4) pe_int (fun _ _ => rfl)) pa_nil)) (nomark _)) (pw_and1 (pt_cmpR (Z.op_eq (K := K) rfl hr.units) (pe_ix (Z.ix (K := K) rfl) (pe_ix (Z.ix (K := K) rfl) (pv 4) pe_int (fun _ _ => rfl)) (pv 5) (fun _ _ => rfl)) (pv 2) (nomark _))))) (pss_one (ps_set (i := 3) sc__law_takers.nd rfl (Or.inl rfl) (pe_op Z.op_add (pv 3) (pe_ix (Z.ix (K := K) rfl) (pv 4) pe_int (fun _ _ => rfl))))) pss_nil)))))
      (pss_one (ps_ret (pv 3))))), ?_⟩
    try dsimp only [cxOf, Cx.nox, Cx.wish]
    try (show (_ : TS) _ [some _, some _, some _, none, none, none] _)
    walk_at "go"
    rename_i J S
    refine Z.fg S (fun i σ G => ∃ (v4 v5 : Option V), σ = [some (.ref q), some (.ref l), some (.int t), some (.int (ldS (ps.take i) lot t)), v4, v5] ∧ Ex H G) ⟨none, none, rfl, Ex.refl _⟩ (fun i σ' G _ ⟨_, _, _, e⟩ => e.l (sq_of hq)) ?_ ?_
    · rintro i y σ' G G2 hi ⟨v4, v5, rfl, eG⟩ e2 hy
      have hi2 : i < ps.length := by omega
      have eG2 := eG.trans e2
      obtain ⟨a, tq, g1, g2, g3⟩ := (hL.ex eG2).2 i hi2
      rw [g1] at hy
      cases hy
      have hlen : (ps.getD i (0, [])).2.length ≤ 1000 := hpn _ (by rw [getD_get _ _ _ hi2]; exact List.getElem_mem _)
      have htk := take_snoc hi2 (0, [])
      have hl2 := eG2.t hl
      generalize ps.getD i (0, []) = p at *
      obtain ⟨b, ns⟩ := p
      have hlen : ns.length ≤ 1000 := hlen
      clear hq
      walk_at "go"
      refine Z.w_while (fun m σ G' => ∃ pl : Nat, σ = [some (.ref q), some (.ref l), some (.int t), some (.int (ldS (ps.take i) lot t)), some (.ref a), some (.int (pl : Nat))] ∧ Ex G2 G' ∧ pl ≤ ns.length ∧ ns.length - pl ≤ m ∧ ∀ j, j < pl → ns.getD j 0 ∉ lot) ns.length ⟨0, rfl, Ex.refl _, by omega, by omega, fun j hj => absurd hj (by omega)⟩ ?_
      rintro m σ' G' ⟨pl, rfl, eG', hp1, hp2, hp3⟩
      have h2' := eG'.get g2
      have h3' := eG'.t (show SqT K G2 tq (ns.map V.int) from .inl g3)
      have hl3 := eG'.t hl2
      rw [htk, ldS_snoc]
      have g2 : At G' a (.tup [.int b, .ref tq]) := h2'
      have g3 : SqT K G' tq (ns.map V.int) := h3'
      have e0 : Ex H G' := eG2.trans eG'
      clear h2' h3'
      have hf := fIn_at (lot := lot) hp1 hp3
      walk_at "go"
      refine Z.w_dec (fun h => ?_) (fun h => ?_)
      · have hpn : pl < ns.length := by omega
        walk_at "go"
        by_cases hin : ns.getD pl 0 ∈ lot
        · have hf := hf (.inr hin)
          rw [if_pos hpn] at hf
          rw [show (decide (ns.getD pl 0 ∈ lot)) = true from decide_eq_true hin]
          refine Z.wb_F ?_
          walk_at "run"
          refine Z.w_dec (fun h2 => ?_) (fun h2 => ?_)
          · walk_at "go"
            exact ⟨_, _, by rw [hf, h2, if_pos rfl], e0⟩
          · walk_at "go"
            exact ⟨_, _, by rw [hf, if_neg (fun z => h2 (Option.some.inj z)), Int.add_zero], e0⟩
        · rw [show (decide (ns.getD pl 0 ∈ lot)) = false from decide_eq_false hin]
          refine Z.wb_T ?_
          walk_at "go"
          refine ⟨m - 1, by omega, pl + 1, rfl, eG', by omega, by omega, fun j hj => ?_⟩
          by_cases e : j = pl
          · rw [e]; exact hin
          · exact hp3 j (by omega)
      · have he : pl = ns.length := by have h : ¬ ((pl : Int) < (ns.length : Int)) := h; omega
        have hf := hf (.inl he)
        rw [if_neg (by omega)] at hf
        refine Z.wb_F ?_
        walk_at "run"
        exact ⟨_, _, by rw [hf, if_neg (by simp), Int.add_zero], e0⟩
    · rintro σ' G ⟨v4, v5, rfl, eG⟩
      rw [hxl, List.take_length]
      walk_at "go"
      exact k _ eG

theorem w_catRd {K : PySem.W.Frag} {H : Hp} {Q : VK} {a b : Addr} {ns ms : List Int} (h1 : Rd H a (.tup (ns.map V.int))) (h2 : Rd H b (.tup (ms.map V.int))) (hz : ns.length + ms.length ≤ 16777216) (q : ∀ p H2, Ex H H2 → Rd H2 p (.tup ((ns ++ ms).map V.int)) → Q (.ref p) H2) : rCatA K (.ref a) (.ref b) H Q := by
  refine ⟨a, b, _, _, rfl, rfl, .inl h1, .inl h2, by rw [List.length_map, List.length_map]; exact hz, fun e => ?_, fun _ e => ?_, fun _ _ p hp => q p _ (Ex.new hp) (.inl (by rw [List.map_append]; exact upd_same))⟩
  · have : ns = [] := by simpa using e
    subst this
    exact q b H (Ex.refl H) h2
  · have : ms = [] := by simpa using e
    subst this
    rw [List.append_nil] at q
    exact q a H (Ex.refl H) h1
def sp__law_filled (K : PySem.W.Frag) : Sp := fun vs H Q _ => ∃ (l : Addr) (m : Nat) (ns : List Int), vs = [.ref l, .int (m : Int)] ∧ m ≤ 24 ∧ Rd H l (.tup (ns.map V.int)) ∧ ns.length ≤ 24 ∧ IsWish ns ∧ (∀ t ∈ ns, t < m) ∧ ∀ p H' (ms : List Int), Ex H H' → Rd H' p (.tup (ms.map V.int)) → IsWish ms → (∀ t ∈ ms, t < m) → ms.length ≤ 48 → Q (.ref p) H'
theorem ok__law_filled (T : Tx P K mg) : FnOk P w K mg base (L2.CX P w) 1 (He.ga K "_law_filled") (Z.fdOf K (He.ga K "_law_filled")) ["_law_things", "_law_many"] (sp__law_filled K) := by
  refine T.F__law_filled.ok sc__law_filled (fun vs H Q E h => ?_) (fun cdv A outer s H vs Q E hr h => ?_)
  · obtain ⟨l, m, ns, rfl, _⟩ := h
    rfl
  · obtain ⟨l, m, ns, rfl, hm, hl, hnl, hw, hb, k⟩ := h
    refine ⟨_, PSs.nox (pss_one (ps_ret (pe_op (Z.catA (K := K) rfl) (pv 0) (pe_callTy (Z.call_tuple (K := K) rfl) (by rfl) T.n_tuple (by decide +kernel) (pa_cons (pe_lc (own := [("_law_thing", 2)]) rfl sc__law_filled.nd (pi_range1 (by rfl) T.n_range (pa_cons (pv 1) pa_nil)) (blkOk_by (N := ["_law_things", "_law_many", "_law_thing"]) (sc := defScope s__law_filled) (by decide +kernel)) (fun _ _ _ _ _ => (pg_name (i := 2) sc__law_filled.nd rfl (by first | exact Or.inl rfl | exact Or.inr rfl))) (fun _ _ _ _ _ => (pts_one (pt_cmpR (Z.op_notin (K := K) rfl) (pv 2) (pv 0) (by rfl)))) (fun _ _ _ _ _ => (pv 2))) pa_nil))))), ?_⟩
    try dsimp only [cxOf, Cx.nox, Cx.wish]
    try (show (_ : TS) _ [some _, some _, none] _)
    walk_at "go"
    rename_i J S
    refine Z.cgP S (fun i => !decide ((i : Int) ∈ ns)) (fun i => V.int (i : Nat)) (fun H' e => trivial) (by show _ ≤ 16777216; omega) (fun Dl i y G hi ec cd hz hy => ?_) (fun p9 H9 hn9 he9 hp9 => ?_)
    · subst hy
      have hp8G : SqT K G l (ns.map V.int) := .inl (ec.rd hl)
      walk_at "go"
      refine Z.w_ndec (fun h => ?_) (fun h => ?_)
      · rw [Z.fr_T (by simp [h])]
        walk_at "go"
      · rw [Z.fr_F (by simp [h])]
        exact cd
    have hp9' : At H9 p9 (.lst ((((List.range (m : Int).toNat).filter fun i : Nat => !decide ((i : Int) ∈ ns)).map fun k : Nat => (k : Int)).map V.int)) := hp9.l (by rw [List.map_map]; rfl)
    have hfl : (((List.range (m : Int).toNat).filter fun i : Nat => !decide ((i : Int) ∈ ns)).map fun k : Nat => (k : Int)).length ≤ m := by
      rw [List.length_map]
      have := List.length_filter_le (fun i : Nat => !decide ((i : Int) ∈ ns)) (List.range (m : Int).toNat)
      rw [List.length_range] at this
      omega
    have hfd : (((List.range (m : Int).toNat).filter fun i : Nat => !decide ((i : Int) ∈ ns)).map fun k : Nat => (k : Int)).Nodup := by
      rw [List.nodup_iff_pairwise_ne, List.pairwise_map]
      exact (List.pairwise_lt_range.filter _).imp fun h z => by omega
    have hfm : ∀ z ∈ (((List.range (m : Int).toNat).filter fun i : Nat => !decide ((i : Int) ∈ ns)).map fun k : Nat => (k : Int)), 0 ≤ z ∧ z < m ∧ z ∉ ns := fun z hz => by
      obtain ⟨i, hi, rfl⟩ := List.mem_map.1 hz
      obtain ⟨h1, h2⟩ := List.mem_filter.1 hi
      have := List.mem_range.1 h1
      exact ⟨by omega, by omega, by simpa using h2⟩
    generalize (((List.range (m : Int).toNat).filter fun i : Nat => !decide ((i : Int) ∈ ns)).map fun k : Nat => (k : Int)) = fs at *
    have hl9 := he9.rd hl
    clear hp9
    walk_at "go"
    rename_i p10 H10 hn10 he10 hp10
    refine w_catRd (he10.rd hl9) (.inl hp10) (by omega) fun p11 H11 he11 hp11 => ?_
    walk_at "go"
    refine k p11 H11 _ ((he9.trans he10).trans he11) hp11 ⟨fun z hz => ?_, ?_⟩ (fun z hz => ?_) (by rw [List.length_append]; omega)
    · rcases List.mem_append.1 hz with h | h
      · exact hw.1 z h
      · exact (hfm z h).1
    · exact List.nodup_append.2 ⟨hw.2, hfd, fun a ha b hb e => (hfm b hb).2.2 (e ▸ ha)⟩
    · rcases List.mem_append.1 hz with h | h
      · exact hb z h
      · exact (hfm z h).2.1

/-- the rows of buyers with lists -/
def ldRow (m : Nat) (ps : List (Int × List Int)) (i : Nat) : List Int := ldT ps :: (List.range m).map fun t : Nat => ldS ps ((lotOf i m).map fun k : Nat => (k : Int)) t
theorem range_fst2 (ps : List (Int × List Int)) : ((List.range ps.length).map fun i => (ps.getD i (0, [])).1) = ps.map Prod.fst := by
  apply List.ext_getElem
  · rw [List.length_map, List.length_range, List.length_map]
  · intro i h1 h2
    rw [List.length_map] at h2
    rw [List.getElem_map, List.getElem_map, List.getElem_range, getD_get _ _ _ h2]
def sp__law_listed_rows (K : PySem.W.Frag) : Sp := fun vs H Q _ => ∃ (q : Addr) (m : Nat) (xs : List V) (ps : List (Int × List Int)), vs = [.ref q, .int (m : Int)] ∧ At H q (.lst xs) ∧ LPt H xs ps ∧ m ≤ 6 ∧ ps.length ≤ 10 ∧ (∀ p ∈ ps, p.2.length ≤ 1000) ∧
  ∀ p H' ys, Fr H p → Ex H H' → At H' p (.lst ys) → LLi H' ys ((List.range (2 ^ m)).map (ldRow m ps)) → Q (.ref p) H'
theorem ok__law_listed_rows (T : Tx P K mg) : FnOk P w K mg base (L2.CX P w) 2 (He.ga K "_law_listed_rows") (Z.fdOf K (He.ga K "_law_listed_rows")) ["_law_pairs", "_law_many"] (sp__law_listed_rows K) := by
  refine T.F__law_listed_rows.ok sc__law_listed_rows (fun vs H Q E h => ?_) (fun cdv A outer s H vs Q E hr h => ?_)
  · obtain ⟨q, m, xs, ps, rfl, _⟩ := h
    rfl
  · obtain ⟨q, m, xs, ps, rfl, hq, hL, hm, hpl, hpn, k⟩ := h
    have hxl := hL.1
    refine ⟨_, PSs.nox (pss_cons (ps_set (i := 2) sc__law_listed_rows.nd rfl (Or.inl rfl) (pe_callB (Z.call_sum (K := K) rfl rfl) (by rfl) T.n_sum (by decide +kernel) (pa_cons (pe_lc (own := [("_law_pair", 6)]) rfl sc__law_listed_rows.nd (Z.piL (K := K) rfl (pv 0)) (blkOk_by (N := ["_law_pairs", "_law_many", "_law_everyone", "_law_rows_here", "_law_number", "_law_lot_here", "_law_pair", "_law_thing"]) (sc := defScope s__law_listed_rows) (by decide +kernel)) (fun _ _ _ _ _ => (pg_name (i := 6) sc__law_listed_rows.nd rfl (by first | exact Or.inl rfl | exact Or.inr rfl))) (fun _ _ _ _ _ => pts_nil) (fun _ _ _ _ _ => (pe_ix (Z.ix (K := K) rfl) (pv 6) pe_int (fun _ _ => rfl)))) pa_nil)))
      (pss_cons (ps_set (i := 3) sc__law_listed_rows.nd rfl (Or.inl rfl) (pe_lst pa_nil))
      (pss_cons (ps_for PassesOwn.never rfl (pi_range1 (by rfl) T.n_range (pa_cons (pe_call (ok__law_power T) (hr.mono (by decide)) (by rfl) T.g__law_power T.F__law_power.kp T.b__law_power .nil passL (pa_cons (pv 1) pa_nil)) pa_nil)) (pg_name (i := 4) sc__law_listed_rows.nd rfl (by first | exact Or.inl rfl | exact Or.inr rfl)) (pss_cons (ps_set (i := 5) sc__law_listed_rows.nd rfl (Or.inr rfl) (pe_call (ok__law_lot T) (hr.mono (by decide)) (by rfl) T.g__law_lot T.F__law_lot.kp T.b__law_lot .nil passL (pa_cons (pv 4) (pa_cons (pv 1) pa_nil))))
      (pss_one (ps_expr (pe_bm PySem.F.plainAttrs_list PySem.F.slot_list_append PySem.F.type_list_append mt_append (pv 3) (pa_cons (pe_op Z.op_add (pe_lst (pa_cons (pv 2) pa_nil)) (pe_lc (own := [("_law_thing", 7)]) rfl sc__law_listed_rows.nd (pi_range1 (by rfl) T.n_range (pa_cons (pv 1) pa_nil)) (blkOk_by (N := ["_law_pairs", "_law_many", "_law_everyone", "_law_rows_here", "_law_number", "_law_lot_here", "_law_pair", "_law_thing"]) (sc := defScope s__law_listed_rows) (by decide +kernel)) (fun _ _ _ _ _ => (pg_name (i := 7) sc__law_listed_rows.nd rfl (by first | exact Or.inl rfl | exact Or.inr rfl))) (fun _ _ _ _ _ => pts_nil) (fun _ _ _ _ _ => (pe_call (ok__law_takers T) (hr.mono (by decide)) (by rfl) T.g__law_takers T.F__law_takers.kp T.b__law_takers .nil passL (pa_cons (pv 0) (pa_cons (pv 5) (pa_cons (pv 7) pa_nil))))))) pa_nil))))))
      (pss_one (ps_ret (pv 3)))))), ?_⟩
    try dsimp only [cxOf, Cx.nox, Cx.wish]
    try (show (_ : TS) _ [some _, some _, none, none, none, none, none, none] _)
    walk_at "go"
    rename_i J S
    refine Z.cgI S (fun i => (ps.getD i (0, [])).1) (fun H' e => e.l (sq_of hq)) (by rw [hxl]; show _ ≤ 16777216; omega) (fun Dl i y G3 hi ec cd hy => ?_) (fun p2 H2 hn2 he2 hp2 => ?_) rfl
    · obtain ⟨a, t, g1, g2, g3⟩ := (hL.ex ec).2 i (by omega)
      rw [g1] at hy
      cases hy
      walk_at "go"
    rw [hxl, range_fst2] at hp2
    have eT : (ps.map Prod.fst).sum = ldT ps := rfl
    have hpw : (2 ^ m : Nat) ≤ 2 ^ 6 := Nat.pow_le_pow_right (by decide) hm
    walk_at "go"
    rw [eT]
    rename_i p3 H3 hn3 he3 hp3
    refine ⟨m, rfl, by omega, fun H4 he4 => ?_⟩
    have e04 := (he2.trans he3).trans he4
    have hp34 := he4.get hp3
    have hf3 := he2.back hn3
    clear hp2 hp3 hn3 S
    generalize hN : (2 ^ m : Nat) = N at *
    walk_at "go"
    rename_i J5 S5
    refine Z.fg S5 (fun i σ G => ∃ (ys : List V) (v4 v5 : Option V), σ = [some (.ref q), some (.int (m : Int)), some (.int (ldT ps)), some (.ref p3), v4, v5, none, none] ∧ Ex H G ∧ At G p3 (.lst ys) ∧ LLi G ys ((List.range i).map (ldRow m ps))) ⟨[], none, none, rfl, e04, hp34, LLi.nil⟩ (fun i σ' G _ _ => trivial) ?_ ?_
    · rintro i w σ' G G2 hi ⟨ys, v4, v5, rfl, eG, h3, hR⟩ e2 rfl
      have hi2 : i < N := by omega
      have eG2 := eG.trans e2
      have h32 := e2.get h3
      have hR2 := hR.ex e2
      have hyl : ys.length = i := by rw [hR2.1, List.length_map, List.length_range]
      rw [List.range_succ, List.map_append, List.map_singleton]
      clear h3 hR hp34
      walk_at "go"
      rename_i p5 G5 lot hn5 he5 hp5 hlot p6 G6 hn6 he6 hp6 J7 S7
      have e56 := he5.trans he6
      have hq6 := (eG2.trans e56).get hq
      have hL6 := hL.ex (eG2.trans e56)
      have hp56 := he6.get hp5
      have hll : lot.length ≤ 24 := by
        rw [hlot, List.length_map]
        have := lotOf_len (i : Int).toNat (m : Int).toNat
        omega
      refine Z.cgI S7 (fun t => ldS ps lot t) (fun H' e => trivial) (by show _ ≤ 16777216; omega) (fun Dl t y G7 ht ec cd hy => ?_) (fun p8 H8 hn8 he8 hp8 => ?_) rfl
      · cases hy
        have hq7 := ec.get hq6
        have hL7 := hL6.ex ec
        have hp57 := ec.get hp56
        walk_at "go"
        refine ⟨q, p5, xs, ps, lot, t, rfl, hq7, hL7, st_of hp57, by omega, hpn, fun H' e' => ?_⟩
        walk_at "go"
      · have hl8 : ((List.range (m : Int).toNat).map fun t : Nat => ldS ps lot t).length = m := by simp
        have hrow : ldRow m ps i = ldT ps :: (List.range (m : Int).toNat).map fun t : Nat => ldS ps lot t := by
          rw [hlot, Int.toNat_natCast, Int.toNat_natCast]
          rfl
        have hp68 := he8.get hp6
        have h38 := (e56.trans he8).get h32
        have hR8 := hR2.ex (e56.trans he8)
        have e8 := eG2.trans (e56.trans he8)
        have hf3' : Fr H p3 := hf3
        clear hp56 hp6 hp5 hn5 hn6 hn8 S7 hq6 hL6 hR2 h32
        walk_at "go"
        rename_i p9 H9 hn9 he9 hp9 G5 h5 hnl5 ho5 hke5
        have hne : p9 ≠ p3 := fun z => by subst z; exact h38.ne hn9 rfl
        have hns := hR8.nself h38
        refine ⟨_, _, _, rfl, hke5, h5, LLi.snoc ((hR8.ex he9).of ho5 hns) (ho5 p9 _ hne ?_)⟩
        rw [hrow]
        exact hp9
    · rintro σ' G ⟨ys, v4, v5, rfl, eG, h3, hR⟩
      walk_at "go"
      exact k p3 G ys hf3 eG h3 hR

/-- a row of two kinds of buyers -/
def mxRow (b0 b1 : Int) (r s : List Int) : List Int := ((b0 + b1) * r.getD 0 0 * s.getD 0 0) :: (List.range (r.length - 1)).map fun t => b0 * r.getD (t + 1) 0 * s.getD 0 0 + b1 * s.getD (t + 1) 0 * r.getD 0 0
def sp__law_mixed_rows (K : PySem.W.Frag) : Sp := fun vs H Q _ => ∃ (f s b : Addr) (m : Nat) (xs ys : List V) (rs ss : List (List Int)) (b0 b1 : Int), vs = [.ref f, .ref s, .ref b] ∧ At H f (.lst xs) ∧ LLi H xs rs ∧ At H s (.lst ys) ∧ LLi H ys ss ∧ SqL K H b ([b0, b1].map V.int) ∧ rs.length = ss.length ∧ rs.length ≤ 64 ∧ m ≤ 6 ∧ (∀ r ∈ rs, r.length = m + 1 ∧ ∀ z ∈ r, z.natAbs < 2 ^ 60) ∧ (∀ r ∈ ss, r.length = m + 1 ∧ ∀ z ∈ r, z.natAbs < 2 ^ 60) ∧ b0.natAbs < 2 ^ 60 ∧ b1.natAbs < 2 ^ 60 ∧
  ∀ p H' zs, Fr H p → Ex H H' → At H' p (.lst zs) → LLi H' zs ((List.range rs.length).map fun i => mxRow b0 b1 (rs.getD i []) (ss.getD i [])) → Q (.ref p) H'
theorem ok__law_mixed_rows (T : Tx P K mg) : FnOk P w K mg base (L2.CX P w) 1 (He.ga K "_law_mixed_rows") (Z.fdOf K (He.ga K "_law_mixed_rows")) ["_law_first", "_law_second", "_law_buyers"] (sp__law_mixed_rows K) := by
  refine T.F__law_mixed_rows.ok sc__law_mixed_rows (fun vs H Q E h => ?_) (fun cdv A outer s H vs Q E hr h => ?_)
  · obtain ⟨f, s, b, m, xs, ys, rs, ss, b0, b1, rfl, _⟩ := h
    rfl
  · obtain ⟨f, s, b, m, xs, ys, rs, ss, b0, b1, rfl, hf, hLf, hs, hLs, hb, hrl, hr64, hm, hrb, hsb, hb0, hb1, k⟩ := h
    have hxl := hLf.1
    have hyl := hLs.1
    refine ⟨_, PSs.nox (pss_cons (ps_set (i := 3) sc__law_mixed_rows.nd rfl (Or.inl rfl) (pe_lst pa_nil))
      (pss_cons (ps_for PassesOwn.never rfl (pi_range1 (by rfl) T.n_range (pa_cons (pe_callB (Z.call_len (K := K) rfl) (by rfl) T.n_len (by decide +kernel) (pa_cons (pv 0) pa_nil)) pa_nil)) (pg_name (i := 4) sc__law_mixed_rows.nd rfl (by first | exact Or.inl rfl | exact Or.inr rfl)) (pss_cons (ps_set (i := 5) sc__law_mixed_rows.nd rfl (Or.inl rfl) (pe_ix (Z.ix (K := K) rfl) (pv 0) (pv 4) (fun _ _ => rfl)))
      (pss_cons (ps_set (i := 6) sc__law_mixed_rows.nd rfl (Or.inl rfl) (pe_ix (Z.ix (K := K) rfl) (pv 1) (pv 4) (fun _ _ => rfl)))
      (pss_cons (ps_set (i := 7) sc__law_mixed_rows.nd rfl (Or.inl rfl) (pe_lst (pa_cons (pe_op Z.op_mul (pe_op Z.op_mul (pe_op Z.op_add (pe_ix (Z.ix (K := K) rfl) (pv 2) pe_int (fun _ _ => rfl)) (pe_ix (Z.ix (K := K) rfl) (pv 2) pe_int (fun _ _ => rfl))) (pe_ix (Z.ix (K := K) rfl) (pv 5) pe_int (fun _ _ => rfl))) (pe_ix (Z.ix (K := K) rfl) (pv 6) pe_int (fun _ _ => rfl))) pa_nil)))
      (pss_cons (ps_for PassesOwn.never rfl (pi_range2 (by rfl) T.n_range (pa_cons pe_int (pa_cons (pe_callB (Z.call_len (K := K) rfl) (by rfl) T.n_len (by decide +kernel) (pa_cons (pv 5) pa_nil)) pa_nil))) (pg_name (i := 8) sc__law_mixed_rows.nd rfl (by first | exact Or.inl rfl | exact Or.inr rfl)) (pss_one (ps_expr (pe_bm PySem.F.plainAttrs_list PySem.F.slot_list_append PySem.F.type_list_append mt_append (pv 7) (pa_cons (pe_op Z.op_add (pe_op Z.op_mul (pe_op Z.op_mul (pe_ix (Z.ix (K := K) rfl) (pv 2) pe_int (fun _ _ => rfl)) (pe_ix (Z.ix (K := K) rfl) (pv 5) (pv 8) (fun _ _ => rfl))) (pe_ix (Z.ix (K := K) rfl) (pv 6) pe_int (fun _ _ => rfl))) (pe_op Z.op_mul (pe_op Z.op_mul (pe_ix (Z.ix (K := K) rfl) (pv 2) pe_int (fun _ _ => rfl)) (pe_ix (Z.ix (K := K) rfl) (pv 6) (pv 8) (fun _ _ => rfl))) (pe_ix (Z.ix (K := K) rfl) (pv 5) pe_int (fun _ _ => rfl)))) pa_nil)))))
      (pss_one (ps_expr (pe_bm PySem.F.plainAttrs_list PySem.F.slot_list_append PySem.F.type_list_append mt_append (pv 3) (pa_cons (pv 7) pa_nil)))))))))
      (pss_one (ps_ret (pv 3))))), ?_⟩
    try dsimp only [cxOf, Cx.nox, Cx.wish]
    try (show (_ : TS) _ [some _, some _, some _, none, none, none, none, none, none] _)
    walk_at "go"
    rename_i p2 H2 hn2 he2 hp2 J S
    refine Z.fg S (fun i σ G => ∃ (zs : List V) (v4 v5 v6 v7 v8 : Option V), σ = [some (.ref f), some (.ref s), some (.ref b), some (.ref p2), v4, v5, v6, v7, v8] ∧ Ex H G ∧ At G p2 (.lst zs) ∧ LLi G zs ((List.range i).map fun i => mxRow b0 b1 (rs.getD i []) (ss.getD i []))) ⟨[], none, none, none, none, none, rfl, he2, hp2, LLi.nil⟩ (fun i σ' G _ _ => trivial) ?_ ?_
    · rintro i w σ' G G2 hi ⟨zs, v4, v5, v6, v7, v8, rfl, eG, h2, hR⟩ e2 rfl
      have hi2 : i < rs.length := by omega
      have eG2 := eG.trans e2
      obtain ⟨ra, g1, g2⟩ := (hLf.ex eG2).2 i hi2
      obtain ⟨sa, k1, k2⟩ := (hLs.ex eG2).2 i (by omega)
      have hrm := hrb (rs.getD i []) (by rw [getD_get _ _ _ hi2]; exact List.getElem_mem _)
      have hsm := hsb (ss.getD i []) (by rw [getD_get _ _ _ (show i < ss.length by omega)]; exact List.getElem_mem _)
      have hix1 : atI xs (i : Int) = some (.ref ra) := by unfold atI; rw [ixN_pos (by omega) (by omega), Int.toNat_natCast]; exact g1
      have hix2 : atI ys (i : Int) = some (.ref sa) := by unfold atI; rw [ixN_pos (by omega) (by omega), Int.toNat_natCast]; exact k1
      have hR2 := hR.ex e2
      have h22 := e2.get h2
      have hfG := eG2.get hf
      have hsG := eG2.get hs
      have hbG := eG2.l hb
      rw [List.range_succ, List.map_append, List.map_singleton]
      generalize rs.getD i [] = r at *
      generalize ss.getD i [] = u at *
      obtain ⟨hr1, hr2⟩ := hrm
      obtain ⟨hu1, hu2⟩ := hsm
      have hrg : ∀ j : Nat, (r.getD j 0).natAbs < 2 ^ 60 := fun j => by
        by_cases h : j < r.length
        · rw [getD_get _ _ _ h]; exact hr2 _ (List.getElem_mem _)
        · rw [List.getD_eq_getElem?_getD, List.getElem?_eq_none (by omega)]; decide
      have hug : ∀ j : Nat, (u.getD j 0).natAbs < 2 ^ 60 := fun j => by
        by_cases h : j < u.length
        · rw [getD_get _ _ _ h]; exact hu2 _ (List.getElem_mem _)
        · rw [List.getD_eq_getElem?_getD, List.getElem?_eq_none (by omega)]; decide
      have hr0 := hrg 0
      have hu0 := hug 0
      clear h2 hR hp2 S
      walk_at "go"
      refine w_ixL (sq_of hfG) hix1 ?_
      walk_at "go"
      refine w_ixL (sq_of hsG) hix2 ?_
      walk_at "go"
      rename_i p7 G7 hn7 he7 hp7 J8 S8
      have hr7 := he7.get g2
      have hu7 := he7.get k2
      have hb7 := he7.l hbG
      have h27 := he7.get h22
      have hR7 := hR2.ex he7
      have hne : p7 ≠ p2 := fun z => by subst z; exact h22.ne hn7 rfl
      have hf7 : Fr G2 p7 := hn7
      have e7 := eG2.trans he7
      generalize hx0 : (b0 + b1) * r.getD 0 0 * u.getD 0 0 = x0 at *
      have g2' := g2
      have k2' := k2
      have hbG' := hbG
      have h22' := h22
      have hR2' := hR2
      clear hfG hsG hbG h22 hR2 g2 k2 hn7
      refine Z.fg S8 (fun t σ G => ∃ (v8 : Option V), σ = [some (.ref f), some (.ref s), some (.ref b), some (.ref p2), some (.int (i : Nat)), some (.ref ra), some (.ref sa), some (.ref p7), v8] ∧ Ex G2 G ∧ At G p7 (.lst ((x0 :: (List.range t).map fun t => b0 * r.getD (t + 1) 0 * u.getD 0 0 + b1 * u.getD (t + 1) 0 * r.getD 0 0).map V.int))) ⟨_, rfl, he7, hp7⟩ (fun t σ' G _ _ => trivial) ?_ ?_
      · rintro t w σ' G3 G4 ht ⟨v8, rfl, e3, h3⟩ e4 rfl
        have ht2 : t < m := by omega
        have e34 := e3.trans e4
        have hr4 := e34.get g2'
        have hu4 := e34.get k2'
        have hb4 := e34.l hbG'
        have h34 := e4.get h3
        have et : (1 + (t : Int)).toNat = t + 1 := by omega
        have ht3 := hrg (t + 1)
        have ht4 := hug (t + 1)
        clear h3 hr7 hu7 hb7 h27 hR7 hp7 S8
        walk_at "go"
        rename_i G5 h5 hnl5 ho5 hke5
        exact ⟨_, rfl, hke5, h5.l (by rw [List.range_succ, List.map_append, List.map_singleton, ← List.cons_append, List.map_append]; rfl)⟩
      · rintro σ' G3 ⟨v8, rfl, e3, h3⟩
        have h23 := e3.get h22'
        have hR3 := hR2'.ex e3
        have hz : zs.length = i := by rw [hR3.1, List.length_map, List.length_range]
        have hlen : ((r.length : Int) - 1).toNat = r.length - 1 := by omega
        rw [hlen] at h3
        have hn3 := hR3.nself h23
        have hf2 : Fr H p2 := hn2
        have e23 := eG2.trans e3
        clear hr7 hu7 hb7 h27 hR7 hp7 S8 hn2 hf7
        walk_at "go"
        rename_i G5 h5 hnl5 ho5 hke5
        refine ⟨_, _, _, _, _, _, rfl, hke5, h5, LLi.snoc (hR3.of ho5 hn3) (ho5 p7 _ hne ?_)⟩
        rw [← hx0] at h3
        exact h3
    · rintro σ' G ⟨zs, v4, v5, v6, v7, v8, rfl, eG, h2, hR⟩
      rw [hxl] at hR
      walk_at "go"
      exact k p2 G zs hn2 eG h2 hR

/-- what a row brings at these prices -/
def sp__law_brings (K : PySem.W.Frag) : Sp := fun vs H Q _ => ∃ (r pl : Addr) (rw ps : List Int), vs = [.ref r, .ref pl] ∧ SqL K H r (rw.map V.int) ∧ SqL K H pl (ps.map V.int) ∧ rw.length = ps.length + 1 ∧ ps.length ≤ 24 ∧ (∀ p ∈ ps, p.natAbs < 2 ^ 64) ∧ (∀ z ∈ rw, z.natAbs < 2 ^ 200) ∧ ∀ p H', Fr H p → Ex H H' → At H' p (.tup [.int (rbr rw ps), .int (rw.getD 0 0)]) → Q (.ref p) H'
theorem ok__law_brings (T : Tx P K mg) : FnOk P w K mg base (L2.CX P w) 1 (He.ga K "_law_brings") (Z.fdOf K (He.ga K "_law_brings")) ["_law_row_here", "_law_prices"] (sp__law_brings K) := by
  refine T.F__law_brings.ok sc__law_brings (fun vs H Q E h => ?_) (fun cdv A outer s H vs Q E hr h => ?_)
  · obtain ⟨r, pl, rw, ps, rfl, _⟩ := h
    rfl
  · obtain ⟨r, pl, rw, ps, rfl, hr, hp, hrl, hpl, hpb, hrb, k⟩ := h
    refine ⟨_, PSs.nox (pss_one (ps_ret (pe_tup (pa_cons (pe_callB (Z.call_sum (K := K) rfl rfl) (by rfl) T.n_sum (by decide +kernel) (pa_cons (pe_lc (own := [("_law_thing", 2)]) rfl sc__law_brings.nd (pi_range1 (by rfl) T.n_range (pa_cons (pe_callB (Z.call_len (K := K) rfl) (by rfl) T.n_len (by decide +kernel) (pa_cons (pv 1) pa_nil)) pa_nil)) (blkOk_by (N := ["_law_row_here", "_law_prices", "_law_thing"]) (sc := defScope s__law_brings) (by decide +kernel)) (fun _ _ _ _ _ => (pg_name (i := 2) sc__law_brings.nd rfl (by first | exact Or.inl rfl | exact Or.inr rfl))) (fun _ _ _ _ _ => pts_nil) (fun _ _ _ _ _ => (pe_op Z.op_mul (pe_ix (Z.ix (K := K) rfl) (pv 0) (pe_op Z.op_add (pv 2) pe_int) (fun _ _ => rfl)) (pe_ix (Z.ix (K := K) rfl) (pv 1) (pv 2) (fun _ _ => rfl))))) pa_nil)) (pa_cons (pe_ix (Z.ix (K := K) rfl) (pv 0) pe_int (fun _ _ => rfl)) pa_nil))))), ?_⟩
    try dsimp only [cxOf, Cx.nox, Cx.wish]
    try (show (_ : TS) _ [some _, some _, none] _)
    walk_at "go"
    rename_i J S
    refine Z.cgI S (fun t => rw.getD (t + 1) 0 * ps.getD t 0) (fun H' e => trivial) (by show _ ≤ 16777216; omega) (fun Dl i y G ht ec cd hy => ?_) (fun p2 H2 hn2 he2 hp2 => ?_) rfl
    · cases hy
      have h1 : (rw.getD (i + 1) 0).natAbs < 2 ^ 200 := by rw [getD_get _ _ _ (show i + 1 < rw.length by omega)]; exact hrb _ (List.getElem_mem _)
      have h2 : (ps.getD i 0).natAbs < 2 ^ 64 := by rw [getD_get _ _ _ (show i < ps.length by omega)]; exact hpb _ (List.getElem_mem _)
      have e1 : ((i : Int) + 1).toNat = i + 1 := by omega
      have hr' := ec.l hr
      have hp' := ec.l hp
      have cm1 := CM.of_right (i := rw.getD (i + 1) 0) h2
      walk_at "go"
    have e3 : ((List.range ((ps.length : Nat) : Int).toNat).map fun t => rw.getD (t + 1) 0 * ps.getD t 0).sum = rbr rw ps := rfl
    have hr2 := he2.l hr
    walk_at "go"
    rename_i p3 H3 hn3 he3 hp3
    exact k p3 H3 (he2.back hn3) (he2.trans he3) hp3

theorem ok_TooMany___init__ (T : Tx P K mg) : FnOk P w K mg base (L2.CX P w) 1 (He.ma K (He.ga K "TooMany") "__init__") (Z.fdOf K (He.ma K (He.ga K "TooMany") "__init__")) ["self", "many", "most"] (Z.spX (He.ga K "TooMany") ["many", "most"]) := by
  refine Z.FunS.ok (x0 := "self") T.F_TooMany___init__ sc_TooMany___init__ (by decide +kernel) rfl rfl rfl (by decide +kernel) (by decide +kernel) T.p_top T.n_super T.c_TooMany (fun vs H Q E h => ?_) (fun cc cda A outer s H vs Q E hr h S => ?_)
  · obtain ⟨a, ws, rfl, hl, _⟩ := h
    simpa using hl
  · obtain ⟨a, ws, rfl, hl, ha, k⟩ := h
    obtain ⟨v1, v2, rfl⟩ : ∃ v1 v2, ws = [v1, v2] := by
      match ws, hl with
      | [v1, v2], _ => exact ⟨v1, v2, rfl⟩
    refine ⟨_, _, Z.ps_supE (Z.pe_supX S T.mro_TooMany_TooMany T.third T.si_TooMany.1 T.si_TooMany.2.1 (pa_cons pe_str pa_nil)), (pss_cons (ps_ost (pv 0) (pv 1)) (pss_one (ps_ost (pv 0) (pv 2)))), ?_⟩
    refine ⟨a, rfl, T.oe_TooMany, ha, by decide, ha, ?_⟩
    refine ⟨_, rfl, _, rfl, a, He.ga K "TooMany", rfl, T.oe_TooMany, T.nf_TooMany_many, .inl ⟨ha, fun dx hd hne => ?_⟩⟩
    refine ⟨_, rfl, _, rfl, a, He.ga K "TooMany", rfl, T.oe_TooMany, T.nf_TooMany_most, .inr ⟨dx, _, upd_same, by rw [upd_ne hne, upd_same], by simp, ?_⟩⟩
    rw [Z.upd_swap hne]
    exact k dx hd hne

/-- Ratio(t, b) -/
def sp_Ratio___init__ (K : PySem.W.Frag) : Sp := fun vs H Q E => ∃ (x dx : Addr) (t b : Int), vs = [.ref x, .int t, .int b] ∧ At H x (.ins (He.ga K "Ratio") dx []) ∧ b.natAbs < 2 ^ 13400 ∧ t.natAbs < 2 ^ 13400 ∧
  (b = 0 → E (.ref (He.ga K "ZeroBottom")) none H) ∧ (b ≠ 0 → ∀ H', (∀ c o, c ≠ x → At H c o → At H' c o) → (∀ c, Fr H' c → Fr H c) → At H' x (.ins (He.ga K "Ratio") dx (rF (Rat.divInt t b).num (Rat.divInt t b).den)) → Q .non H')
theorem ok_Ratio___init__ (T : Tx P K mg) : FnOk P w K mg base (L2.CX P w) 1 (He.ma K (He.ga K "Ratio") "__init__") (Z.fdOf K (He.ma K (He.ga K "Ratio") "__init__")) ["self", "top", "bottom"] (sp_Ratio___init__ K) := by
  refine T.F_Ratio___init__.ok sc_Ratio___init__ (fun vs H Q E h => ?_) (fun cdv A outer s H vs Q E hr h => ?_)
  · obtain ⟨x, dx, t, b, rfl, _⟩ := h
    rfl
  · obtain ⟨x, dx, t, b, rfl, hx, hsz, hst, hE, k⟩ := h
    have cl := T.o_Ratio.cl
    have na1 := T.na_Ratio_top
    have na2 := T.na_Ratio_bottom
    refine ⟨_, (pss_cons (ps_if (pt_cmpR (Z.op_eq (K := K) rfl hr.units) (pv 2) pe_int (nomark _)) (pss_one (ps_raise rfl (takes_of rfl rfl rfl rfl) (pmk_own PySem.F.excBase_ValueError T.x_ZeroBottom.1 T.g_ZeroBottom T.x_ZeroBottom.2.1 (raises_own T.x_ZeroBottom.2.2.1 T.x_ZeroBottom.2.2.2) (by exact rfl)))) pss_nil)
      (C8.pss_cut (ps_if (pt_cmpR Z.op_lt (pv 2) pe_int (nomark _)) (pss_one (ps_par (i := 1) (j := 2) (by rfl) sc_Ratio___init__.nd rfl rfl (by decide) rfl rfl (pa_cons (pe_un Z.un_neg (pv 1)) (pa_cons (pe_un Z.un_neg (pv 2)) pa_nil)) (by rfl))) pss_nil)
      (pss_cons (ps_set (i := 3) sc_Ratio___init__.nd rfl (Or.inl rfl) (pe_callBfun cr_gcd (by rfl) T.m_gcd (pa_cons (pv 1) (pa_cons (pv 2) pa_nil))))
      (pss_cons (ps_fld (pv 0) (pe_op Z.op_fdivP (pv 1) (pv 3)) rfl)
      (pss_one (ps_fld (pv 0) (pe_op Z.op_fdivP (pv 2) (pv 3)) rfl)))))), ?_⟩
    try dsimp only [cxOf, Cx.nox, Cx.wish]
    try (show (_ : TS) _ [some _, some _, some _, none] _)
    walk_at "go"
    refine Z.w_dec (fun hb => hE hb) (fun hb => ?_)
    have kk := k hb
    walk_at "go"
    refine Z.w_cut (fun σ G => ∃ t' b' : Int, 0 < b' ∧ b'.natAbs < 2 ^ 13400 ∧ t'.natAbs < 2 ^ 13400 ∧ Rat.divInt t b = Rat.divInt t' b' ∧ G = H ∧ σ = [some (.ref x), some (.int t'), some (.int b'), none]) ?_ ?_
    · walk_at "go"
      refine Z.w_dec (fun hc => ?_) (fun hc => ?_)
      · walk_at "go"
        exact ⟨-t, -b, by omega, by rw [Int.natAbs_neg]; exact hsz, by rw [Int.natAbs_neg]; exact hst, (Rat.neg_divInt_neg t b).symm, rfl, rfl⟩
      · walk_at "go"
        exact ⟨t, b, by omega, hsz, hst, rfl, rfl, rfl⟩
    rintro σ G ⟨t', b', hb0, hb1, ht1, he, rfl, rfl⟩
    rw [he, div_num hb0, div_den hb0] at kk
    have hg0 : 0 < Nat.gcd t'.natAbs b'.natAbs := Nat.gcd_pos_of_pos_right _ (by omega)
    have hg1 : Nat.gcd t'.natAbs b'.natAbs ≤ b'.natAbs := Nat.gcd_le_right _ (by omega)
    have hd1 : CDivZ t' ((Nat.gcd t'.natAbs b'.natAbs : Nat) : Int) := cdivz (by omega) ht1
    have hd2 : CDivZ b' ((Nat.gcd t'.natAbs b'.natAbs : Nat) : Int) := cdivz (by omega) hb1
    walk_at "go"
    refine Z.w_dSF hx cl na1 (by decide) fun H2 h2 o2 f2 => ?_
    walk_at "go"
    refine Z.w_dSF h2 cl na2 (by show 1 < 1000; decide) fun H3 h3 o3 f3 => ?_
    walk_at "go"
    exact kk H3 (fun c o hc e => o3 c o hc (o2 c o hc e)) (fun c e => f2 c (f3 c e)) (by rw [rF_put] at h3; exact h3)
/-- Ratio(t, b) as a new object -/
theorem mkR {H : Hp} {Q : VK} {E : XK} {t b : Int} {n m : Nat} (ht : t.natAbs < 2 ^ n) (hs : b.natAbs < 2 ^ m) (hn : max n m ≤ 13400) (hb : b ≠ 0) (q : ∀ p H', Fr H p → Ex H H' → RN (He.ga K "Ratio") H' p (Rat.divInt t b) (max n m) → Q (.ref p) H') :
    dMk (He.ga K "Ratio") (sp_Ratio___init__ K) (([V.int 1] : List V).drop 1) E Q [.int t, .int b] H :=
  w_dMk fun p dx H2 nw => ⟨p, dx, t, b, rfl, nw.at_, up9 hs (by omega), up9 ht (by omega), fun z => absurd z hb, fun _ H' h1 _ h3 =>
    have z := mk_rat nw h1 h3 (sz_div hb (bt_mono ht (Nat.le_max_left n m)) (bt_mono hs (Nat.le_max_right n m))) hn
    ⟨rfl, q p H' nw.new z.1 z.2⟩⟩
/-- Ratio(t) as a new object -/
theorem mkR1 {H : Hp} {Q : VK} {E : XK} {t : Int} {n : Nat} (ht : t.natAbs < 2 ^ n) (hn : n + 1 ≤ 13400) (q : ∀ p H', Fr H p → Ex H H' → RN (He.ga K "Ratio") H' p (t : Rat) (n + 1) → Q (.ref p) H') :
    dMk (He.ga K "Ratio") (sp_Ratio___init__ K) (([V.int 1] : List V).drop 0) E Q [.int t] H :=
  w_dMk fun p dx H2 nw => ⟨p, dx, t, 1, rfl, nw.at_, by rw [show (1 : Int).natAbs = 1 from rfl]; exact Nat.one_lt_two_pow (by decide), up9 ht (by omega), fun z => absurd z (by decide), fun _ H' h1 _ h3 =>
    have z := mk_rat (q := (t : Rat)) nw h1 (by rw [div1]; exact h3) (sz_int ht) hn
    ⟨rfl, q p H' nw.new z.1 z.2⟩⟩
/-- Ratio(t, 0) raises -/
theorem mkR0 {H : Hp} {Q : VK} {E : XK} {t b : Int} (hb : b = 0) (ht : t.natAbs < 2 ^ 13400) (q : ∀ H', Ex H H' → E (.ref (He.ga K "ZeroBottom")) none H') :
    dMk (He.ga K "Ratio") (sp_Ratio___init__ K) (([V.int 1] : List V).drop 1) E Q [.int t, .int b] H :=
  w_dMk fun p dx H2 nw => ⟨p, dx, t, b, rfl, nw.at_, by rw [hb]; exact Nat.pow_pos (by decide), ht, fun _ => q _ nw.ex, fun z => absurd hb z⟩
local macro_rules | `(tactic| walk_at "call") => `(tactic| ((with_reducible apply R.mkR); (walk_at "bt"); (walk_at "bt"); (first | decide | omega); (first | with_reducible assumption | omega); (intro p H2 hn he hr)))
local macro_rules | `(tactic| walk_at "call") => `(tactic| ((with_reducible apply R.mkR1); (walk_at "bt"); (first | decide | omega); (intro p H2 hn he hr)))

/-- Rule.shares of an object of the class Tabled -/
def sp_Tabled_Rule_shares (K : PySem.W.Frag) : Sp := fun vs H Q E => ∃ (x l : Addr) (n : Int) (lot : List Int), vs = [.ref x, .ref l] ∧ RB (He.ga K "Tabled") H x n ∧ SqT K H l (lot.map V.int) ∧ (¬ IsLot n lot → ∀ H', Ex H H' → E (.ref (He.ga K "BadLot")) none H') ∧
  (IsLot n lot → ∀ p H' xs, Fr H p → Ex H H' → At H' p (.lst xs) → RL (He.ga K "Ratio") H' xs (List.replicate n.toNat 0) 1 → Q (.ref p) H')
theorem ok_Tabled_Rule_shares (T : Tx P K mg) : FnOk P w K mg base (L2.CX P w) 3 (He.ma K (He.ga K "Rule") "shares") (Z.fdOf K (He.ma K (He.ga K "Rule") "shares")) ["self", "lot"] (sp_Tabled_Rule_shares K) := by
  refine T.F_Rule_shares.ok sc_Rule_shares (fun vs H Q E h => ?_) (fun cdv A outer s H vs Q E hr h => ?_)
  · obtain ⟨x, l, n, lot, rfl, _⟩ := h
    rfl
  · obtain ⟨x, l, n, lot, rfl, hx, hl, hE, k⟩ := h
    obtain ⟨_, _, _, _, _, hn0, hn1⟩ := id hx
    obtain ⟨ds2_Ratio___init__, vd2_Ratio___init__, bd2_Ratio___init__⟩ := T.b2_Ratio___init__
    have fx0 := T.o_Tabled.cl
    have fx1 := T.na_Tabled_many
    refine ⟨_, (pss_cons (ps_expr (Z.pe_callZ (ok_check_lot T) (hr.mono (by decide)) (by rfl) T.g_check_lot T.F_check_lot.kp T.b_check_lot .nil (fun σ => passAt (takes_of rfl rfl rfl rfl) σ) (pa_cons (pv 1) (pa_cons (Z.fld (K := K) rfl (pv 0) rfl) pa_nil))))
      (pss_one (ps_ret (pe_lc (own := [("_", 2)]) rfl sc_Rule_shares.nd (pi_range1 (by rfl) T.n_range (pa_cons (Z.fld (K := K) rfl (pv 0) rfl) pa_nil)) (blkOk_by (N := ["self", "lot", "_"]) (sc := defScope s_Rule_shares) (by decide +kernel)) (fun _ _ _ _ _ => (pg_name (i := 2) sc_Rule_shares.nd rfl (by first | exact Or.inl rfl | exact Or.inr rfl))) (fun _ _ _ _ _ => pts_nil) (fun _ _ _ _ _ => (pe_make T.mk_Ratio (ok_Ratio___init__ T) (hr.mono (by decide)) (by rfl) T.g_Ratio bd2_Ratio___init__ vd2_Ratio___init__ passL (pa_cons pe_int pa_nil))))))), ?_⟩
    try dsimp only [cxOf, Cx.nox, Cx.wish]
    try (show (_ : TS) _ [some _, some _, none] _)
    walk_at "go"
    refine ⟨l, lot, n, rfl, hl, hE, fun hlot H1 e1 => ?_⟩
    walk_at "go"
    rename_i J S
    refine Z.cgX S (fun i acc G => RL (He.ga K "Ratio") G acc (List.replicate i 0) 1) (fun H' e => RL.nil) (fun i acc G1 G2 h e => h.ex e) (fun H' e => trivial) (by show _ ≤ 16777216; omega) (fun Dl i y G acc hi ec cd hal hP hy => ?_) (fun p G acc hn he hp hal hP => ?_) rfl
    · subst hy
      walk_at "go"
      rename_i p G2 hn he hr
      have hr := hr.tight (r := 0) (m := 1) (by exact_mod_cast rfl) (sz0 (by decide)) (by decide)
      refine Z.elx cd hal (by show _ < 16777216; omega) he fun G3 hnl => ?_
      rw [List.replicate_succ']
      exact ((hP.ex he).nl hnl).snoc (hr.nl hnl)
    · exact k hlot p G acc (e1.back hn) (e1.trans he) hp hP

/-- Rule.__init__ of an object of the class Tabled that is new -/
def sp_Tabled_Rule___init__ (K : PySem.W.Frag) : Sp := fun vs H Q E => ∃ (H0 : Hp) (x dx : Addr) (n : Int), vs = [.ref x, .int n] ∧ At H x (.ins (He.ga K "Tabled") dx []) ∧ Fr H0 x ∧ Ex H0 H ∧
  (6 < n → ∀ d H', Ex H0 H' → At H' d (.xd [("most", .int 6), ("many", .int n)]) → E (.ref (He.ga K "TooMany")) (some d) H') ∧ (n ≤ 6 → ∀ H', Ex H0 H' → At H' x (.ins (He.ga K "Tabled") dx [("many", .int n)]) → (∀ b o, b ≠ x → At H b o → At H' b o) → Q .non H')
theorem ok_Tabled_Rule___init__ (T : Tx P K mg) : FnOk P w K mg base (L2.CX P w) 3 (He.ma K (He.ga K "Rule") "__init__") (Z.fdOf K (He.ma K (He.ga K "Rule") "__init__")) ["self", "many"] (sp_Tabled_Rule___init__ K) := by
  refine T.F_Rule___init__.ok sc_Rule___init__ (fun vs H Q E h => ?_) (fun cdv A outer s H vs Q E hr h => ?_)
  · obtain ⟨H0, x, dx, n, rfl, _⟩ := h
    rfl
  · obtain ⟨H0, x, dx, n, rfl, hx, hf, e0, hE, k⟩ := h
    have cl := T.o_Tabled.cl
    have kM := T.k_Tabled_MOST
    have na := T.na_Tabled_many
    have fx0 := T.o_Tabled.cl
    have fx1 := T.na_Tabled_many
    have fx2 := T.k_Tabled_MOST
    refine ⟨_, (pss_cons (ps_if (pt_cmpR Z.op_gt (pv 1) (Z.con (K := K) rfl (pv 0) rfl) (nomark _)) (pss_one (Z.ps_raiseZ rfl (takes_of rfl rfl rfl rfl) (pmk_oex T.oe_TooMany T.si_TooMany.2.2.1 T.si_TooMany.2.2.2 (ok_TooMany___init__ T) (hr.mono (by decide)) T.b_TooMany___init__ .nil passL (by rfl) T.g_TooMany (pa_cons (pv 1) (pa_cons (Z.con (K := K) rfl (pv 0) rfl) pa_nil))))) pss_nil)
      (pss_one (ps_fld (pv 0) (pv 1) rfl))), ?_⟩
    try dsimp only [cxOf, Cx.nox, Cx.wish]
    try (show (_ : TS) _ [some _, some _] _)
    walk_at "go"
    refine Z.w_dec (fun h1 => ?_) (fun h1 => ?_)
    · walk_at "go"
      rename_i d H2 hn he hp
      exact hE h1 d H2 (e0.trans he) hp
    · walk_at "go"
      refine Z.w_put hx cl na (by decide) fun H2 h2 hk ho => ?_
      walk_at "go"
      exact k (by omega) H2 (hk H0 e0 hf) h2 ho

theorem ok_BadTable___init__ (T : Tx P K mg) : FnOk P w K mg base (L2.CX P w) 1 (He.ma K (He.ga K "BadTable") "__init__") (Z.fdOf K (He.ma K (He.ga K "BadTable") "__init__")) ["self", "at"] (Z.spX (He.ga K "BadTable") ["at"]) := by
  refine Z.FunS.ok (x0 := "self") T.F_BadTable___init__ sc_BadTable___init__ (by decide +kernel) rfl rfl rfl (by decide +kernel) (by decide +kernel) T.p_top T.n_super T.c_BadTable (fun vs H Q E h => ?_) (fun cc cda A outer s H vs Q E hr h S => ?_)
  · obtain ⟨a, ws, rfl, hl, _⟩ := h
    simpa using hl
  · obtain ⟨a, ws, rfl, hl, ha, k⟩ := h
    obtain ⟨v1, rfl⟩ : ∃ v1, ws = [v1] := by
      match ws, hl with
      | [v1], _ => exact ⟨v1, rfl⟩
    refine ⟨_, _, Z.ps_supE (Z.pe_supX S T.mro_BadTable_BadTable T.third T.si_BadTable.1 T.si_BadTable.2.1 (pa_cons pe_str pa_nil)), (pss_one (ps_ost (pv 0) (pv 1))), ?_⟩
    refine ⟨a, rfl, T.oe_BadTable, ha, by decide, ha, ?_⟩
    refine ⟨_, rfl, _, rfl, a, He.ga K "BadTable", rfl, T.oe_BadTable, T.nf_BadTable_at, .inl ⟨ha, fun dx hd hne => ?_⟩⟩
    exact k dx hd hne

/-- what of its making is refused: at a row, or as a whole -/
inductive TRes (n : Int) (rows : List (List Int)) : V → Prop
  | len (h : n ≤ 6) (hr : (rows.length : Int) ≠ (2 ^ n.toNat : Nat)) : TRes n rows .non
  | row (h : n ≤ 6) (hr : (rows.length : Int) = (2 ^ n.toNat : Nat)) (i : Nat) (hi : i < rows.length) (hw : ¬ Fits (rows.getD i []) ((lotOf i n.toNat).map fun k : Nat => (k : Int)) n) (hb : ∀ j, j < i → Fits (rows.getD j []) ((lotOf j n.toNat).map fun k : Nat => (k : Int)) n) : TRes n rows (.int (i : Nat))
def TGood (n : Int) (rows : List (List Int)) : Prop := n ≤ 6 ∧ (rows.length : Int) = (2 ^ n.toNat : Nat) ∧ ∀ j, j < rows.length → Fits (rows.getD j []) ((lotOf j n.toNat).map fun k : Nat => (k : Int)) n
def TErr (K : PySem.W.Frag) (n : Int) (rows : List (List Int)) (E : XK) (H : Hp) : Prop :=
  (6 < n → ∀ d H', Ex H H' → At H' d (.xd [("most", .int 6), ("many", .int n)]) → E (.ref (He.ga K "TooMany")) (some d) H') ∧ (∀ v, TRes n rows v → ∀ d H', Ex H H' → At H' d (.xd [("at", v)]) → E (.ref (He.ga K "BadTable")) (some d) H')
def sp_Tabled___init__ (K : PySem.W.Frag) : Sp := fun vs H Q E => ∃ (H0 : Hp) (x dx pl : Addr) (n : Int) (xs : List V) (rows : List (List Int)), vs = [.ref x, .int n, .ref pl] ∧ At H x (.ins (He.ga K "Tabled") dx []) ∧ Fr H0 x ∧ Ex H0 H ∧ At H0 pl (.lst xs) ∧ LLi H0 xs rows ∧ 0 ≤ n ∧ rows.length ≤ 1000 ∧ (∀ r ∈ rows, ∀ z ∈ r, z.natAbs < 2 ^ 64) ∧ TErr K n rows E H0 ∧
  (TGood n rows → ∀ H' tp ys, Ex H0 H' → At H' x (.ins (He.ga K "Tabled") dx [("many", .int n), ("rows", .ref tp)]) → At H' tp (.tup ys) → LTt H' ys (rows.map lowR) → Q .non H')
theorem ok_Tabled___init__ (T : Tx P K mg) : FnOk P w K mg base (L2.CX P w) 5 (He.ma K (He.ga K "Tabled") "__init__") (Z.fdOf K (He.ma K (He.ga K "Tabled") "__init__")) ["self", "many", "rows"] (sp_Tabled___init__ K) := by
  refine Z.FunS.ok (x0 := "self") T.F_Tabled___init__ sc_Tabled___init__ (by decide +kernel) rfl rfl rfl (by decide +kernel) (by decide +kernel) T.p_top T.n_super T.c_Tabled (fun vs H Q E h => ?_) (fun cc cda A outer s H vs Q E hr h S => ?_)
  · obtain ⟨H0, x, dx, pl, n, xs, rows, rfl, _⟩ := h
    rfl
  · obtain ⟨H0, x, dx, pl, n, xs, rows, rfl, hx, hf, e0, hp0, hL0, hn0, hrl, hrb, hE, k⟩ := h
    have fx0 := T.o_Tabled.cl
    have fx1 := T.na_Tabled_rows
    refine ⟨_, _, (Z.ps_supE (Z.pe_sup S T.mro_Tabled_Tabled T.third T.sm_Tabled_Tabled___init__.1 T.sm_Tabled_Tabled___init__.2.1 T.sm_Tabled_Tabled___init__.2.2 (Z.rawOk (ok_Tabled_Rule___init__ T) T.b_Rule___init__) (hr.mono (by decide)) (fun σ => passAt (takes_of rfl rfl rfl rfl) σ) (pa_cons (pv 1) pa_nil))), (pss_cons (ps_if (pt_cmpR (Z.op_ne (K := K) rfl hr.units) (pe_callB (Z.call_len (K := K) rfl) (by rfl) T.n_len (by decide +kernel) (pa_cons (pv 2) pa_nil)) (pe_op Z.op_shl pe_int (pv 1)) (nomark _)) (pss_one (Z.ps_raiseZ rfl (takes_of rfl rfl rfl rfl) (pmk_oex T.oe_BadTable T.si_BadTable.2.2.1 T.si_BadTable.2.2.2 (ok_BadTable___init__ T) (hr.mono (by decide)) T.b_BadTable___init__ .nil passL (by rfl) T.g_BadTable (pa_cons pe_non pa_nil)))) pss_nil)
      (pss_cons (ps_for (passes_of rfl) rfl (pi_enum (by rfl) T.n_enumerate (pa_cons (pv 2) pa_nil)) (pg_tup (by rfl) (pgs_cons (pg_name (i := 4) sc_Tabled___init__.nd rfl (by first | exact Or.inl rfl | exact Or.inr rfl)) (pgs_cons (pg_name (i := 5) sc_Tabled___init__.nd rfl (by first | exact Or.inl rfl | exact Or.inr rfl)) pgs_nil))) (pss_one (ps_if (pt_not (pt_val (Z.pe_callZ (ok_fits_lot T) (hr.mono (by decide)) (by rfl) T.g_fits_lot T.F_fits_lot.kp T.b_fits_lot .nil (fun σ => passAt (takes_of rfl rfl rfl rfl) σ) (pa_cons (pv 5) (pa_cons (Z.pe_callZ (ok_lot_at T) (hr.mono (by decide)) (by rfl) T.g_lot_at T.F_lot_at.kp T.b_lot_at .nil (fun σ => passAt (takes_of rfl rfl rfl rfl) σ) (pa_cons (pv 4) (pa_cons (pv 1) pa_nil))) (pa_cons (pv 1) pa_nil)))))) (pss_one (Z.ps_raiseZ rfl (takes_of rfl rfl rfl rfl) (pmk_oex T.oe_BadTable T.si_BadTable.2.2.1 T.si_BadTable.2.2.2 (ok_BadTable___init__ T) (hr.mono (by decide)) T.b_BadTable___init__ .nil passL (by rfl) T.g_BadTable (pa_cons (pv 4) pa_nil)))) pss_nil)))
      (pss_one (ps_fld (pv 0) (pe_callTy (Z.call_tuple (K := K) rfl) (by rfl) T.n_tuple (by decide +kernel) (pa_cons (pe_lc (own := [("row", 5)]) rfl sc_Tabled___init__.nd (Z.piL (K := K) rfl (pv 2)) (blkOk_by (N := ["self", "many", "rows", "__class__", "number", "row"]) (sc := defScope s_Tabled___init__) (by decide +kernel)) (fun _ _ _ _ _ => (pg_name (i := 5) sc_Tabled___init__.nd rfl (by first | exact Or.inl rfl | exact Or.inr rfl))) (fun _ _ _ _ _ => pts_nil) (fun _ _ _ _ _ => (pe_call (ok_lowest T) (hr.mono (by decide)) (by rfl) T.g_lowest T.F_lowest.kp T.b_lowest .nil passL (pa_cons (pv 5) pa_nil)))) pa_nil)) rfl)))), ?_⟩
    change tSeq _ _ _ [some _, some _, some _, none, none, none] _
    try dsimp only [Z.scx, NdefX.ncx]
    walk_at "go"
    obtain ⟨m, rfl⟩ := Int.eq_ofNat_of_zero_le hn0
    refine ⟨H0, x, dx, m, rfl, hx, hf, e0, fun h d H' e hd => hE.1 h d H' e hd, fun hn6 H1 e1 hx1 ho1 => ?_⟩
    have hp1 := e1.get hp0
    have hL1 := hL0.ex e1
    have hxl := hL1.1
    have hpw : (2 ^ m : Nat) ≤ 2 ^ 6 := Nat.pow_le_pow_right (by decide) (by omega)
    have hcast : ((2 : Int) ^ m) = ((2 ^ m : Nat) : Int) := by rw [Int.natCast_pow]; rfl
    have hm6 : m ≤ 134217727 := by omega
    walk_at "go"
    rw [hcast]
    refine Z.w_ndec (fun h => ?_) (fun h => ?_)
    · walk_at "go"
      rename_i d H5 hn5 he5 hp5
      exact hE.2 _ (.len hn6 (by rw [Int.toNat_natCast]; omega)) d H5 (e1.trans he5) hp5
    have hrl2 : (rows.length : Int) = (2 ^ (m : Int).toNat : Nat) := by rw [Int.toNat_natCast]; omega
    walk_at "go"
    rename_i J S
    refine Z.fg S (fun i σ G => ∃ (v4 v5 : Option V), σ = [some (.ref x), some (.int m), some (.ref pl), none, v4, v5] ∧ Ex H1 G ∧ ∀ j, j < i → Fits (rows.getD j []) ((lotOf j (m : Int).toNat).map fun k : Nat => (k : Int)) m)
      ⟨none, none, rfl, Ex.refl _, fun j hj => absurd hj (by omega)⟩ (fun i σ' G _ ⟨_, _, _, e, _⟩ => e.l (sq_of hp1)) ?_ ?_
    · rintro i y σ' G G2 hi ⟨v4, v5, rfl, eG, hall⟩ e2 ⟨t, z, rfl, ht, hz⟩
      have hi2 : i < rows.length := by omega
      obtain ⟨rr, g1, g2⟩ := hL1.2 i hi2
      rw [g1] at hz
      cases hz
      have g22 := (eG.trans e2).get g2
      have eG2 := eG.trans e2
      walk_at "go"
      refine ⟨i, m, rfl, by omega, fun lt H3 hn3 he3 hp3 => ?_⟩
      walk_at "go"
      refine ⟨rr, lt, _, _, m, rfl, sq_of (he3.get g22), st_of hp3, by omega, by omega, fun hF H4 he4 => ?_, fun hF H4 he4 => ?_⟩
      · walk_at "go"
        refine ⟨_, _, rfl, by walk_at "ex", fun j hj => ?_⟩
        by_cases e : j = i
        · subst e
          rw [Int.toNat_natCast]
          exact hF
        · exact hall j (by omega)
      · walk_at "go"
        rename_i d H5 hn5 he5 hp5
        exact hE.2 _ (.row hn6 hrl2 i hi2 (by rw [Int.toNat_natCast]; exact hF) hall) d H5 (e1.trans (eG2.trans (he3.trans (he4.trans he5)))) hp5
    · rintro σ' G ⟨v4, v5, rfl, eG, hall⟩
      rw [hxl] at hall
      have hxG := eG.get hx1
      have hpG := eG.get hp1
      have hLG := hL1.ex eG
      walk_at "go"
      rename_i J2 S2
      refine Z.cgX S2 (fun k acc G' => LTt G' acc ((rows.take k).map lowR)) (fun H' e => LTt.nil) (fun k acc Ga Gb h e => h.ex e) (fun H' e => e.l (sq_of hpG)) (by rw [hxl]; show _ ≤ 16777216; omega) (fun Dl kq z G2 acc hk ec cd hl hP hy => ?_) (fun p7 H7 acc hn7 he7 hp7 hl7 hP7 => ?_) rfl
      · have hk2 : kq < rows.length := by omega
        obtain ⟨rr, g1, g2⟩ := hLG.2 kq hk2
        rw [g1] at hy
        cases hy
        have hmem : rows.getD kq [] ∈ rows := by rw [getD_get _ _ _ hk2]; exact List.getElem_mem _
        have hF := hall kq hk2
        have hlen : (rows.getD kq []).length ≤ 1000 := by have := hF.1; omega
        have htk : (rows.take (kq + 1)).map lowR = (rows.take kq).map lowR ++ [lowR (rows.getD kq [])] := by rw [List.take_succ_eq_append_getElem hk2, List.map_append, getD_get _ _ _ hk2]; rfl
        have g22 := ec.get g2
        walk_at "go"
        refine ⟨rr, _, rfl, sq_of g22, hlen, hF.2.1, fits_pos hF (by omega), hrb _ hmem, fun pt H3 hn3 he3 hp3 => ?_⟩
        refine Z.elx cd hl (by rw [hl]; show kq < 16777216; omega) he3 fun H5 hnl => ?_
        rw [htk]
        exact ((hP.ex he3).nl hnl).snoc (hnl.get (fun l z => by cases z) hp3)
      · rw [hxl, List.take_length] at hP7
        walk_at "go"
        rename_i tp H8 hn8 he8 hp8
        have hx8 := he8.get (he7.get hxG)
        refine Z.w_putE hx8 fx0 fx1 (by show 1 < 900; decide) (by simp only [List.map_cons, List.map_nil]; decide +kernel) fun H9 h9 hk9 ho9 => ?_
        have e09 : Ex H0 H9 := hk9 H0 (e1.trans (eG.trans (he7.trans he8))) hf
        walk_at "go"
        have hL8 := hP7.ex he8
        refine k ⟨hn6, hrl2, hall⟩ H9 tp acc e09 h9 (ho9 tp _ (fun z => by subst z; cases hx8.inj hp8) hp8) ⟨hL8.1, fun i hi => ?_⟩
        obtain ⟨a, q1, q2⟩ := hL8.2 i hi
        exact ⟨a, q1, ho9 a _ (fun z => by subst z; cases hx8.inj q2) q2⟩
/-- a Tabled stands at x -/
def TdR (K : PySem.W.Frag) (H : Hp) (x : Addr) (n : Int) (rows : List (List Int)) : Prop := ∃ dx tp ys, At H x (.ins (He.ga K "Tabled") dx [("many", .int n), ("rows", .ref tp)]) ∧ At H tp (.tup ys) ∧ LTt H ys (rows.map lowR)
theorem TdR.ex {K : PySem.W.Frag} {H H' : Hp} {x : Addr} {n : Int} {rows : List (List Int)} (h : TdR K H x n rows) (e : Ex H H') : TdR K H' x n rows := by
  obtain ⟨dx, tp, ys, h1, h2, h3⟩ := h
  exact ⟨dx, tp, ys, e.get h1, e.get h2, h3.ex e⟩
/-- Tabled(n, pl) -/
theorem mkTd {H : Hp} {Q : VK} {E : XK} {pl : Addr} {n : Int} {xs : List V} {rows : List (List Int)} (hp : At H pl (.lst xs)) (hL : LLi H xs rows) (hn : 0 ≤ n) (hl : rows.length ≤ 1000) (hb : ∀ r ∈ rows, ∀ z ∈ r, z.natAbs < 2 ^ 64) (hE : TErr K n rows E H) (k : TGood n rows → ∀ x H', Fr H x → Ex H H' → TdR K H' x n rows → Q (.ref x) H') :
    dMk (He.ga K "Tabled") (sp_Tabled___init__ K) [] E Q [.int n, .ref pl] H :=
  w_dMk fun x dx H2 nw => ⟨H, x, dx, pl, n, xs, rows, rfl, nw.at_, nw.new, nw.ex, hp, hL, hn, hl, hb, hE, fun h1 H' tp ys e h2 h3 h4 => ⟨rfl, k h1 x H' nw.new e ⟨dx, tp, ys, h2, h3, h4⟩⟩⟩

/-- the shares that a table tells -/
def tbW (n : Int) (r : List Int) : List Int := (List.range n.toNat).map fun t : Nat => (lowR r).getD (t + 1) 0
theorem tbW_len (n : Int) (r : List Int) : (tbW n r).length = n.toNat := by unfold tbW; simp
theorem tbW_get {n : Int} {r : List Int} {t : Nat} (h : t < n.toNat) : (tbW n r).getD t 0 = (lowR r).getD (t + 1) 0 := by
  rw [getD_get _ _ _ (by rw [tbW_len]; exact h)]
  unfold tbW
  simp
def tbR (rows : List (List Int)) (lot : List Int) : List Int := rows.getD (sum2 (lot.map Int.toNat)) []
def tbSh (n : Int) (rows : List (List Int)) (lot : List Int) : List Rat := shWi (tbW n (tbR rows lot)) ((lowR (tbR rows lot)).getD 0 0) lot
theorem nats_lot {lot : List Int} (h : ∀ t ∈ lot, 0 ≤ t) : nats (lot.map Int.toNat) = lot.map V.int := by
  unfold nats
  rw [List.map_map, List.map_map]
  refine List.map_congr_left fun t ht => ?_
  show V.int ((t.toNat : Nat) : Int) = V.int t
  rw [Int.toNat_of_nonneg (h t ht)]
theorem sum2_lt : ∀ (l : List Nat) (m : Nat), l.Pairwise (· < ·) → (∀ t ∈ l, t < m) → sum2 l < 2 ^ m := by
  intro l m
  induction m generalizing l with
  | zero =>
    intro _ h
    cases l with
    | nil => simp [sum2]
    | cons a r => exact absurd (h a (by simp)) (by omega)
  | succ m ih =>
    intro hp h
    rcases List.eq_nil_or_concat l with rfl | ⟨r, a, rfl⟩
    · simp only [sum2, List.map_nil, List.sum_nil]; exact Nat.pow_pos (by decide)
    · rw [List.concat_eq_append] at *
      have h1 := List.pairwise_append.mp hp
      have hlt : ∀ t ∈ r, t < a := fun t ht => h1.2.2 t ht a (by simp)
      have h3 := h a (by simp)
      rw [Nat.pow_succ]
      by_cases e : a = m
      · subst e
        have h2 := ih r h1.1 hlt
        have h5 : sum2 [a] = 2 ^ a := by simp [sum2]
        rw [sum2_append]
        omega
      · have h2 := ih (r ++ [a]) hp (fun t ht => by
          rcases List.mem_append.mp ht with q | q
          · have := hlt t q; omega
          · rw [List.mem_singleton.mp q]; omega)
        omega
theorem lot_num {n : Int} {lot : List Int} (h : IsLot n lot) : sum2 (lot.map Int.toNat) < 2 ^ n.toNat := by
  refine sum2_lt _ _ ?_ fun t ht => ?_
  · rw [List.pairwise_map]
    have h2 := h.2
    refine h.1.imp_of_mem fun {a b} ha hb hab => ?_
    have := h2 a ha
    have := h2 b hb
    omega
  · obtain ⟨x, hx, rfl⟩ := List.mem_map.mp ht
    have := h.2 x hx
    omega
def sp_Tabled_shares (K : PySem.W.Frag) : Sp := fun vs H Q E => ∃ (x l : Addr) (n : Int) (rows : List (List Int)) (B : Nat) (lot : List Int), vs = [.ref x, .ref l] ∧ TdR K H x n rows ∧ TGood n rows ∧ 0 ≤ n ∧ SqT K H l (lot.map V.int) ∧ (∀ r ∈ rows, ∀ z ∈ r, z.natAbs < 2 ^ B) ∧ B ≤ 13400 ∧ 1 ≤ B ∧ (¬ IsLot n lot → ∀ H', Ex H H' → E (.ref (He.ga K "BadLot")) none H') ∧
  (IsLot n lot → ∀ p H' xs, Fr H p → Ex H H' → At H' p (.lst xs) → RL (He.ga K "Ratio") H' xs (tbSh n rows lot) B → Q (.ref p) H')
theorem TdR.rb {K : PySem.W.Frag} {H : Hp} {x : Addr} {n : Int} {rows : List (List Int)} (h : TdR K H x n rows) (h0 : 0 ≤ n) (h6 : n ≤ 6) : RB (He.ga K "Tabled") H x n := by
  obtain ⟨dx, tp, ys, h1, h2, h3⟩ := h
  refine ⟨dx, _, h1, rfl, fun m hm => ?_, h0, by omega⟩
  have e1 : (m == ("many" : Str)) = false := by revert m; decide +kernel
  have e2 : (m == ("rows" : Str)) = false := by revert m; decide +kernel
  simp only [List.lookup, e1, e2]
theorem lowR_bd {r : List Int} {B : Nat} (h : ∀ z ∈ r, z.natAbs < 2 ^ B) : ∀ z ∈ lowR r, z.natAbs < 2 ^ B := fun z hz => by
  obtain ⟨v, hv, rfl⟩ := List.mem_map.mp hz
  exact Nat.lt_of_le_of_lt (Int.natAbs_ediv_le_natAbs _ _) (h v hv)
theorem getD_mapL {α β : Type} (l : List (List α)) (f : List α → List β) {i : Nat} (h : i < l.length) : (l.map f).getD i [] = f (l.getD i []) := by
  rw [getD_get _ _ _ (by rw [List.length_map]; exact h), getD_get _ _ _ h, List.getElem_map]
theorem lowR_get (r : List Int) (i : Nat) : (lowR r).getD i 0 = r.getD i 0 / ((gL 0 r : Nat) : Int) := by
  by_cases h : i < r.length
  · rw [getD_get _ _ _ (by rw [List.length_map]; exact h), getD_get _ _ _ h, List.getElem_map]
  · rw [List.getD_eq_getElem?_getD, List.getD_eq_getElem?_getD, List.getElem?_eq_none (by rw [List.length_map]; omega), List.getElem?_eq_none (by omega)]
    exact (Int.zero_ediv _).symm
theorem gL_row {r lot : List Int} {m : Int} (h : Fits r lot m) (hm : 0 ≤ m) : 0 < gL 0 r ∧ ∀ i, ((gL 0 r : Nat) : Int) ∣ r.getD i 0 := by
  have hg := gL_dvd r 0
  have hl := fits_pos h hm
  have h0 := hg.2 (r.getD 0 0) (by rw [getD_get _ _ _ hl]; exact List.getElem_mem _)
  have h1 := h.2.1
  refine ⟨Nat.pos_of_dvd_of_pos h0 (by omega), fun i => ?_⟩
  by_cases hi : i < r.length
  · rw [getD_get _ _ _ hi]
    exact Int.ofNat_dvd_left.mpr (hg.2 _ (List.getElem_mem _))
  · rw [List.getD_eq_getElem?_getD, List.getElem?_eq_none (by omega)]
    exact Int.dvd_zero _
theorem lowR_pos {r lot : List Int} {m : Int} (h : Fits r lot m) (hm : 0 ≤ m) : 1 ≤ (lowR r).getD 0 0 := by
  obtain ⟨h1, h2⟩ := gL_row h hm
  rw [lowR_get]
  have h3 := h.2.1
  obtain ⟨c, hc⟩ := h2 0
  rw [hc, Int.mul_ediv_cancel_left _ (by omega)]
  rcases Int.lt_or_le 0 c with q | q
  · omega
  · have := Int.mul_nonpos_of_nonneg_of_nonpos (show 0 ≤ ((gL 0 r : Nat) : Int) by omega) q
    omega
theorem ok_Tabled_shares (T : Tx P K mg) : FnOk P w K mg base (L2.CX P w) 4 (He.ma K (He.ga K "Tabled") "shares") (Z.fdOf K (He.ma K (He.ga K "Tabled") "shares")) ["self", "lot"] (sp_Tabled_shares K) := by
  refine Z.FunS.ok (x0 := "self") T.F_Tabled_shares sc_Tabled_shares (by decide +kernel) rfl rfl rfl (by decide +kernel) (by decide +kernel) T.p_top T.n_super T.c_Tabled (fun vs H Q E h => ?_) (fun cc cda A outer s H vs Q E hr h S => ?_)
  · obtain ⟨x, l, n, rows, B, lot, rfl, _⟩ := h
    rfl
  · obtain ⟨x, l, n, rows, B, lot, rfl, hx, hg, hn0, hl, hbd, hB9, hB1, hE, k⟩ := h
    have hrb := hx.rb hn0 hg.1
    obtain ⟨dx0, tp0, ys0, hat0, htp0, hLT0⟩ := id hx
    obtain ⟨ds3_Ratio___init__, vd3_Ratio___init__, bd3_Ratio___init__⟩ := T.b3_Ratio___init__
    have fx0 := T.o_Tabled.cl
    have fx1 := T.na_Tabled_rows
    refine ⟨_, _, (Z.ps_supA (i := 3) sc_Tabled_shares.nd rfl (by first | exact Or.inl rfl | exact Or.inr rfl) (Z.pe_sup S T.mro_Tabled_Tabled T.third T.sm_Tabled_Tabled_shares.1 T.sm_Tabled_Tabled_shares.2.1 T.sm_Tabled_Tabled_shares.2.2 (Z.rawOk (ok_Tabled_Rule_shares T) T.b_Rule_shares) (hr.mono (by decide)) (fun σ => passAt (takes_of rfl rfl rfl rfl) σ) (pa_cons (pv 1) pa_nil))), (pss_cons (ps_set (i := 4) sc_Tabled_shares.nd rfl (Or.inl rfl) (pe_ix (Z.ix (K := K) rfl) (Z.fld (K := K) rfl (pv 0) rfl) (Z.pe_callZ (ok_lot_number T) (hr.mono (by decide)) (by rfl) T.g_lot_number T.F_lot_number.kp T.b_lot_number .nil (fun σ => passAt (takes_of rfl rfl rfl rfl) σ) (pa_cons (pv 1) pa_nil)) (fun _ _ => rfl)))
      (pss_cons (ps_for (passes_of rfl) rfl (Z.piT (K := K) rfl (pv 1)) (pg_name (i := 5) sc_Tabled_shares.nd rfl (by first | exact Or.inl rfl | exact Or.inr rfl)) (pss_one (ps_asg (Z.pe_makeZ T.mk_Ratio (ok_Ratio___init__ T) (hr.mono (by decide)) (by rfl) T.g_Ratio bd3_Ratio___init__ vd3_Ratio___init__ (fun σ => passAt (takes_of rfl rfl rfl rfl) σ) (pa_cons (pe_ix (Z.ix (K := K) rfl) (pv 4) (pe_op Z.op_add (pv 5) pe_int) (fun _ _ => rfl)) (pa_cons (pe_ix (Z.ix (K := K) rfl) (pv 4) pe_int (fun _ _ => rfl)) pa_nil))) (pg_sub (pv 3) (pv 5) set_list))))
      (pss_one (ps_ret (pv 3))))), ?_⟩
    change tSeq _ _ _ [some _, some _, none, none, none, none] _
    try dsimp only [Z.scx, NdefX.ncx]
    walk_at "go"
    refine ⟨x, l, n, lot, rfl, hrb, hl, hE, fun hlot p H1 xs hp e1 hat hxs => ?_⟩
    have hnum := lot_num hlot
    have hll := hlot.len
    have hat1 := e1.get hat0
    have htp1 := e1.get htp0
    have hLT1 := hLT0.ex e1
    have hl1 : SqT K H1 l (nats (lot.map Int.toNat)) := by rw [nats_lot fun t ht => (hlot.2 t ht).1]; exact e1.t hl
    have hgl := hg.2.1
    have hn6 := hg.1
    have hkl : sum2 (lot.map Int.toNat) < rows.length := by omega
    have hF := hg.2.2 _ hkl
    have hrm : rows.getD (sum2 (lot.map Int.toNat)) [] ∈ rows := by rw [getD_get _ _ _ hkl]; exact List.getElem_mem _
    obtain ⟨rr, g1, g2⟩ := hLT1.2 (sum2 (lot.map Int.toNat)) (by rw [List.length_map]; exact hkl)
    rw [getD_mapL rows lowR hkl] at g2
    have hidx : atI ys0 ((sum2 (lot.map Int.toNat) : Nat) : Int) = some (.ref rr) := by
      unfold atI
      rw [ixN_pos (by omega) (by rw [hLT0.1, List.length_map]; omega), Int.toNat_natCast]
      exact g1
    walk_at "go"
    refine ⟨l, lot.map Int.toNat, rfl, hl1, by rw [List.length_map]; omega, fun z hz => ?_, fun H2 e2 => ?_⟩
    · obtain ⟨t, ht, rfl⟩ := List.mem_map.mp hz
      have := hlot.2 t ht
      omega
    have htp2 := e2.get htp1
    have hat2 := e2.get hat1
    have g3 := e2.get g2
    have hrl : (lowR (rows.getD (sum2 (lot.map Int.toNat)) [])).length = n.toNat + 1 := by
      rw [List.length_map]
      have := hF.1
      omega
    have hr1 := lowR_pos hF hn0
    have hrb := lowR_bd (hbd _ hrm)
    have hW : tbW n (tbR rows lot) = tbW n (rows.getD (sum2 (lot.map Int.toNat)) []) := rfl
    have hsh : tbSh n rows lot = shWi (tbW n (rows.getD (sum2 (lot.map Int.toNat)) [])) ((lowR (rows.getD (sum2 (lot.map Int.toNat)) [])).getD 0 0) lot := rfl
    clear hl1 hat1 htp1 g2 hat0 htp0 hLT0 hLT1 g1
    walk_at "go"
    refine w_ixT (st_of htp2) hidx ?_
    generalize rows.getD (sum2 (lot.map Int.toNat)) [] = rw0 at *
    have hwl := tbW_len n rw0
    have hwg : ∀ t : Nat, t < n.toNat → (tbW n rw0).getD t 0 = (lowR rw0).getD (t + 1) 0 := fun t ht => tbW_get ht
    generalize tbW n rw0 = ws at *
    generalize lowR rw0 = lr at *
    walk_at "go"
    rename_i J S
    have e02 := e1.trans e2
    have hR0 := hxs.ex e2
    have hat3 := e2.get hat
    refine Z.fg S (fun i σ G => ∃ (v5 : Option V) (ys : List V), σ = [some (.ref x), some (.ref l), none, some (.ref p), some (.ref rr), v5] ∧ Ex H G ∧ At G rr (.tup (lr.map V.int)) ∧ At G p (.lst ys) ∧ RL (He.ga K "Ratio") G ys (shWi ws (lr.getD 0 0) (lot.take i)) B)
      ⟨none, xs, rfl, e02, g3, hat3, ?_⟩ (fun i σ' G _ ⟨_, _, _, e, _⟩ => e.t hl) ?_ ?_
    · rw [List.take_zero, shWi_nil, hwl]
      exact hR0.mono (by omega) hB9
    · rintro i y σ' G G2 hi ⟨v5, ys, rfl, eG, hrr, hG, hR⟩ e2' hy
      obtain ⟨hi2, rfl⟩ := get_int hy
      have ht := hlot.2 (lot.getD i 0) (by rw [getD_get _ _ _ hi2]; exact List.getElem_mem hi2)
      have hrr2 := e2'.get hrr
      have hG2 := e2'.get hG
      have hR2 := hR.ex e2'
      have hyl : ys.length = n.toNat := by rw [hR.1, shWi_len, hwl]
      have hm1 : ∀ k : Nat, k < lr.length → (lr.getD k 0).natAbs < 2 ^ B := fun k hk => by rw [getD_get _ _ _ hk]; exact hrb _ (List.getElem_mem _)
      have hb0 := hm1 0 (by omega)
      have hb1 := hm1 ((lot.getD i 0).toNat + 1) (by omega)
      have e3 : ((lot.getD i 0) + 1).toNat = (lot.getD i 0).toNat + 1 := by omega
      have hnz : lr.getD 0 0 ≠ 0 := by omega
      clear hrr hG
      walk_at "go"
      rename_i p3 H3 hn3 he3 hr3 H4 hp4 hnl4 ho4 hke4
      refine ⟨_, _, rfl, hke4, hnl4.get (fun l z => by cases z) (he3.get hrr2), hp4, ?_⟩
      rw [take_snoc hi2 0, ← shWi_snoc ws _ _ ht.1 (by omega)]
      rw [← hwg _ (by omega)] at hr3
      exact ((hR2.ex he3).nl hnl4).set ((hr3.eq rfl (by omega) hB9).nl hnl4)
    · rintro σ' G ⟨v5, ys, rfl, eG, hrr, hG, hR⟩
      rw [List.length_map, List.take_length] at hR
      walk_at "go"
      exact k hlot p G ys hp eG hG (by rw [hsh]; exact hR)
/-- a table -/
def Rep_Tabled (K : PySem.W.Frag) (H : Hp) (x : Addr) (n : Int) (sh : List Int → List Rat) (b : Nat) : Prop := ∃ rows B, TdR K H x n rows ∧ TGood n rows ∧ 0 ≤ n ∧ sh = tbSh n rows ∧ (∀ r ∈ rows, ∀ z ∈ r, z.natAbs < 2 ^ B) ∧ 1 ≤ B ∧ B ≤ b ∧ b ≤ 13400
theorem Rep_Tabled.ex {K : PySem.W.Frag} {H H' : Hp} {x : Addr} {n : Int} {sh : List Int → List Rat} {b : Nat} (h : Rep_Tabled K H x n sh b) (e : Ex H H') : Rep_Tabled K H' x n sh b := by
  obtain ⟨rows, B, h1, h2⟩ := h
  exact ⟨rows, B, h1.ex e, h2⟩
theorem TdR.nl {K : PySem.W.Frag} {H H' : Hp} {x : Addr} {n : Int} {rows : List (List Int)} (h : TdR K H x n rows) (e : Nl H H') : TdR K H' x n rows := by
  obtain ⟨dx, tp, ys, h1, h2, h3⟩ := h
  exact ⟨dx, tp, ys, e.get (fun l z => by cases z) h1, e.get (fun l z => by cases z) h2, h3.nl e⟩
theorem Rep_Tabled.nl {K : PySem.W.Frag} {H H' : Hp} {x : Addr} {n : Int} {sh : List Int → List Rat} {b : Nat} (h : Rep_Tabled K H x n sh b) (e : Nl H H') : Rep_Tabled K H' x n sh b := by
  obtain ⟨rows, B, h1, h2⟩ := h
  exact ⟨rows, B, h1.nl e, h2⟩
theorem Rep_Tabled.rb {K : PySem.W.Frag} {H : Hp} {x : Addr} {n : Int} {sh : List Int → List Rat} {b : Nat} (h : Rep_Tabled K H x n sh b) : RB (He.ga K "Tabled") H x n := by
  obtain ⟨rows, B, h1, h2, h3, _⟩ := h
  exact h1.rb h3 h2.1
theorem Rep_Tabled.len {K : PySem.W.Frag} {H : Hp} {x : Addr} {n : Int} {sh : List Int → List Rat} {b : Nat} (h : Rep_Tabled K H x n sh b) (lot : List Int) : (sh lot).length = n.toNat := by
  obtain ⟨rows, B, h1, h2, h3, rfl, _⟩ := h
  unfold tbSh
  rw [shWi_len, tbW_len]
theorem TdR.rep {K : PySem.W.Frag} {H : Hp} {x : Addr} {n : Int} {rows : List (List Int)} {B : Nat} (h : TdR K H x n rows) (hg : TGood n rows) (h0 : 0 ≤ n) (hb : ∀ r ∈ rows, ∀ z ∈ r, z.natAbs < 2 ^ B) (h1 : 1 ≤ B) (h9 : B ≤ 13400) : Rep_Tabled K H x n (tbSh n rows) B := ⟨rows, B, h, hg, h0, rfl, hb, h1, Nat.le_refl _, h9⟩
theorem use_Tabled_shares {H : Hp} {Q : VK} {E : XK} {x l : Addr} {n : Int} {sh : List Int → List Rat} {b : Nat} {lot : List Int} (hx : Rep_Tabled K H x n sh b) (hl : SqT K H l (lot.map V.int)) (hE : ¬ IsLot n lot → ∀ H', Ex H H' → E (.ref (He.ga K "BadLot")) none H')
    (k : IsLot n lot → ∀ p H' xs, Fr H p → Ex H H' → At H' p (.lst xs) → RL (He.ga K "Ratio") H' xs (sh lot) b → Q (.ref p) H') : sp_Tabled_shares K [.ref x, .ref l] H Q E := by
  obtain ⟨rows, B, h1, h2, h3, rfl, h4, h5, h6, h7⟩ := hx
  exact ⟨x, l, n, rows, B, lot, rfl, h1, h2, h3, hl, h4, by omega, h5, hE, fun h p H' xs g1 g2 g3 g4 => k h p H' xs g1 g2 g3 (g4.mono h6 h7)⟩
theorem tbR_row {m : Nat} {i : Nat} {rows : List (List Int)} (hi : i < 2 ^ m) : tbR rows ((lotOf i m).map fun k : Nat => (k : Int)) = rows.getD i [] := by
  unfold tbR
  rw [List.map_map]
  have e : (lotOf i m).map (Int.toNat ∘ fun k : Nat => (k : Int)) = lotOf i m := by
    conv => rhs; rw [← List.map_id (lotOf i m)]
    exact List.map_congr_left fun x _ => rfl
  rw [e, sum2_lotOf, Nat.mod_eq_of_lt hi]
theorem divInt_low {a b g : Int} (hg : 0 < g) (ha : g ∣ a) (hb : g ∣ b) : Rat.divInt (a / g) (b / g) = Rat.divInt a b := by
  obtain ⟨c, rfl⟩ := ha
  obtain ⟨d, rfl⟩ := hb
  rw [Int.mul_ediv_cancel_left _ (by omega), Int.mul_ediv_cancel_left _ (by omega), Rat.divInt_mul_left (by omega)]
/-- for a right row the shares are its counts over its total -/
theorem tbSh_row {m : Nat} {i : Nat} {rows : List (List Int)} (hg : TGood (m : Int) rows) (hi : i < rows.length) : tbSh (m : Int) rows ((lotOf i m).map fun k : Nat => (k : Int)) = ((rows.getD i []).drop 1).map fun z => Rat.divInt z ((rows.getD i []).getD 0 0) := by
  have h2 := hg.2.1
  have hF := hg.2.2 i hi
  rw [Int.toNat_natCast] at h2 hF
  unfold tbSh
  rw [tbR_row (by omega)]
  generalize rows.getD i [] = r at *
  obtain ⟨g0, g1⟩ := gL_row hF (by omega)
  have hl := hF.1
  apply List.ext_getElem
  · rw [shWi_len, tbW_len, List.length_map, List.length_drop]; omega
  · intro t h1 h3
    rw [shWi_len, tbW_len, Int.toNat_natCast] at h1
    rw [← getD_get _ _ 0, shWi_get _ _ _ (by rw [tbW_len]; omega), tbW_get (by omega), List.getElem_map, List.getElem_drop]
    have h4 := hF.2.2.2 t (by omega)
    have e : r[1 + t]'(by omega) = r.getD (t + 1) 0 := by rw [getD_get _ _ _ (show t + 1 < r.length by omega)]; congr 1; omega
    rw [e]
    by_cases hm : (t : Int) ∈ (lotOf i m).map fun k : Nat => (k : Int)
    · rw [if_pos hm, lowR_get, lowR_get]
      exact divInt_low (by omega) (g1 _) (g1 _)
    · rw [if_neg hm]
      have : r.getD (t + 1) 0 = 0 := by
        rcases Int.lt_or_le 0 (r.getD (t + 1) 0) with q | q
        · exact absurd (h4.2 q) hm
        · omega
      rw [this, Rat.zero_divInt]
theorem tbAway {m : Nat} {i : Nat} {rows : List (List Int)} (hg : TGood (m : Int) rows) (hi : i < rows.length) : 1 - (tbSh (m : Int) rows ((lotOf i m).map fun k : Nat => (k : Int))).sum = Rat.divInt ((rows.getD i []).getD 0 0 - ((rows.getD i []).drop 1).sum) ((rows.getD i []).getD 0 0) := by
  have hF := hg.2.2 i hi
  rw [tbSh_row hg hi, sum_divInt _ _ (by have := hF.2.1; omega)]
  have h1 := hF.2.1
  generalize (rows.getD i []).getD 0 0 = d at *
  rw [List.map_id']
  have e : (1 : Rat) = Rat.divInt d d := (Rat.divInt_self' (by omega)).symm
  rw [e, Rat.divInt_sub_divInt _ _ (by omega) (by omega), ← Int.sub_mul, Rat.divInt_mul_right (by omega)]

theorem ok_Ratio___add__ (T : Tx P K mg) : FnOk P w K mg base (L2.CX P w) 3 (He.ma K (He.ga K "Ratio") "__add__") (Z.fdOf K (He.ma K (He.ga K "Ratio") "__add__")) ["self", "other"] (spBin (He.ga K "Ratio") fun q r => q + r) := by
  refine T.F_Ratio___add__.ok sc_Ratio___add__ (fun vs H Q E h => ?_) (fun cdv A outer s H vs Q E hr h => ?_)
  · obtain ⟨a, v, q, r, n, m, rfl, _⟩ := h
    rfl
  · obtain ⟨a, v, q, r, n, m, rfl, ha, hv, hnm, k⟩ := h
    have O := T.o_Ratio
    have cl := T.o_Ratio.cl
    have na1 := T.na_Ratio_top
    have na2 := T.na_Ratio_bottom
    obtain ⟨⟨dx, hx⟩, sq, h9⟩ := ha
    have b1 := sq.1
    have b2 := sq.den
    cases hv with
    | @int i _ hi =>
      dsimp only at k
      rw [add_int] at k
      obtain ⟨ds3_Ratio___init__, vd3_Ratio___init__, bd3_Ratio___init__⟩ := T.b3_Ratio___init__
      have fx0 := T.o_Ratio
      have fx1 := T.o_Rule
      have fx2 := T.o_Wish
      have fx3 := T.o_Listed
      have fx4 := T.o_Mixed
      have fx5 := T.o_Tabled
      refine ⟨_, PSs.nox (pss_cons (ps_if (pt_val (pe_callB (Z.call_isi (K := K) rfl) (by rfl) T.n_isinstance (by decide +kernel) (pa_cons (pv 1) (pa_cons (pe_bltn (v := .ty "int") (u := .type "int") (by rfl) T.n_int (by decide +kernel) rfl) pa_nil)))) (pss_one (ps_ret (pe_make T.mk_Ratio (ok_Ratio___init__ T) (hr.mono (by decide)) (by rfl) T.g_Ratio bd3_Ratio___init__ vd3_Ratio___init__ passL (pa_cons (pe_op Z.op_add (Z.fld (K := K) rfl (pv 0) rfl) (pe_op Z.op_mul (pv 1) (Z.fld (K := K) rfl (pv 0) rfl))) (pa_cons (Z.fld (K := K) rfl (pv 0) rfl) pa_nil))))) pss_nil)
      (pss_cons (ps_if (pt_not (pt_val (pe_callB (Z.call_isi (K := K) rfl) (by rfl) T.n_isinstance (by decide +kernel) (pa_cons (pv 1) (pa_cons (pe_glob (v := .ref (He.ga K "Ratio")) (by rfl) T.g_Ratio rfl) pa_nil))))) (pss_one ps_never) pss_nil)
      (pss_one (ps_ret (pe_make T.mk_Ratio (ok_Ratio___init__ T) (hr.mono (by decide)) (by rfl) T.g_Ratio bd3_Ratio___init__ vd3_Ratio___init__ passL (pa_cons (pe_op Z.op_add (pe_op Z.op_mul (Z.fld (K := K) rfl (pv 0) rfl) (Z.fld (K := K) rfl (pv 1) rfl)) (pe_op Z.op_mul (Z.fld (K := K) rfl (pv 1) rfl) (Z.fld (K := K) rfl (pv 0) rfl))) (pa_cons (pe_op Z.op_mul (Z.fld (K := K) rfl (pv 0) rfl) (Z.fld (K := K) rfl (pv 1) rfl)) pa_nil))))))), ?_⟩
      try dsimp only [cxOf, Cx.nox, Cx.wish]
      try (show (_ : TS) _ [some _, some _] _)
      walk_at "go"
      refine mkR (n := n + m + 1) (m := n + m + 1) ?_ (bt_mono b2 (by omega)) (by omega) (den0 q) (fun p H' hn he hr => k p H' hn he (by rw [Nat.max_self] at hr; exact hr))
      exact bt_addL b1 (bt_mul hi b2) (by omega) (by omega)
    | @rat b r _ hb =>
      obtain ⟨⟨dy, hy⟩, sr, g9⟩ := hb
      have b3 := sr.1
      have b4 := sr.den
      dsimp only at k
      rw [add_rat] at k
      obtain ⟨ds3_Ratio___init__, vd3_Ratio___init__, bd3_Ratio___init__⟩ := T.b3_Ratio___init__
      have fx0 := T.o_Ratio
      have fx1 := T.o_Rule
      have fx2 := T.o_Wish
      have fx3 := T.o_Listed
      have fx4 := T.o_Mixed
      have fx5 := T.o_Tabled
      refine ⟨_, PSs.nox (pss_cons (ps_if (pt_val (pe_callB (Z.call_isi (K := K) rfl) (by rfl) T.n_isinstance (by decide +kernel) (pa_cons (pv 1) (pa_cons (pe_bltn (v := .ty "int") (u := .type "int") (by rfl) T.n_int (by decide +kernel) rfl) pa_nil)))) (pss_one (ps_ret (pe_make T.mk_Ratio (ok_Ratio___init__ T) (hr.mono (by decide)) (by rfl) T.g_Ratio bd3_Ratio___init__ vd3_Ratio___init__ passL (pa_cons (pe_op Z.op_add (Z.fld (K := K) rfl (pv 0) rfl) (pe_op Z.op_mul (pv 1) (Z.fld (K := K) rfl (pv 0) rfl))) (pa_cons (Z.fld (K := K) rfl (pv 0) rfl) pa_nil))))) pss_nil)
      (pss_cons (ps_if (pt_not (pt_val (pe_callB (Z.call_isi (K := K) rfl) (by rfl) T.n_isinstance (by decide +kernel) (pa_cons (pv 1) (pa_cons (pe_glob (v := .ref (He.ga K "Ratio")) (by rfl) T.g_Ratio rfl) pa_nil))))) (pss_one ps_never) pss_nil)
      (pss_one (ps_ret (pe_make T.mk_Ratio (ok_Ratio___init__ T) (hr.mono (by decide)) (by rfl) T.g_Ratio bd3_Ratio___init__ vd3_Ratio___init__ passL (pa_cons (pe_op Z.op_add (pe_op Z.op_mul (Z.fld (K := K) rfl (pv 0) rfl) (Z.fld (K := K) rfl (pv 1) rfl)) (pe_op Z.op_mul (Z.fld (K := K) rfl (pv 1) rfl) (Z.fld (K := K) rfl (pv 0) rfl))) (pa_cons (pe_op Z.op_mul (Z.fld (K := K) rfl (pv 0) rfl) (Z.fld (K := K) rfl (pv 1) rfl)) pa_nil))))))), ?_⟩
      try dsimp only [cxOf, Cx.nox, Cx.wish]
      try (show (_ : TS) _ [some _, some _] _)
      walk_at "go"
      refine mkR (n := n + m + 1) (m := n + m + 1) ?_ (bt_mono (bt_mul b2 b4) (by omega)) (by omega) (Int.mul_ne_zero (den0 q) (den0 r)) (fun p H' hn he hr => k p H' hn he (by rw [Nat.max_self] at hr; exact hr))
      exact bt_addL (bt_mul b1 b4) (bt_mul b3 b2) (by omega) (by omega)

theorem ok_Ratio___mul__ (T : Tx P K mg) : FnOk P w K mg base (L2.CX P w) 3 (He.ma K (He.ga K "Ratio") "__mul__") (Z.fdOf K (He.ma K (He.ga K "Ratio") "__mul__")) ["self", "other"] (spBin (He.ga K "Ratio") fun q r => q * r) := by
  refine T.F_Ratio___mul__.ok sc_Ratio___mul__ (fun vs H Q E h => ?_) (fun cdv A outer s H vs Q E hr h => ?_)
  · obtain ⟨a, v, q, r, n, m, rfl, _⟩ := h
    rfl
  · obtain ⟨a, v, q, r, n, m, rfl, ha, hv, hnm, k⟩ := h
    have O := T.o_Ratio
    have cl := T.o_Ratio.cl
    have na1 := T.na_Ratio_top
    have na2 := T.na_Ratio_bottom
    obtain ⟨⟨dx, hx⟩, sq, h9⟩ := ha
    have b1 := sq.1
    have b2 := sq.den
    cases hv with
    | @int i _ hi =>
      dsimp only at k
      rw [mul_int'] at k
      obtain ⟨ds3_Ratio___init__, vd3_Ratio___init__, bd3_Ratio___init__⟩ := T.b3_Ratio___init__
      have fx0 := T.o_Ratio
      have fx1 := T.o_Rule
      have fx2 := T.o_Wish
      have fx3 := T.o_Listed
      have fx4 := T.o_Mixed
      have fx5 := T.o_Tabled
      refine ⟨_, PSs.nox (pss_cons (ps_if (pt_val (pe_callB (Z.call_isi (K := K) rfl) (by rfl) T.n_isinstance (by decide +kernel) (pa_cons (pv 1) (pa_cons (pe_bltn (v := .ty "int") (u := .type "int") (by rfl) T.n_int (by decide +kernel) rfl) pa_nil)))) (pss_one (ps_ret (pe_make T.mk_Ratio (ok_Ratio___init__ T) (hr.mono (by decide)) (by rfl) T.g_Ratio bd3_Ratio___init__ vd3_Ratio___init__ passL (pa_cons (pe_op Z.op_mul (Z.fld (K := K) rfl (pv 0) rfl) (pv 1)) (pa_cons (Z.fld (K := K) rfl (pv 0) rfl) pa_nil))))) pss_nil)
      (pss_cons (ps_if (pt_not (pt_val (pe_callB (Z.call_isi (K := K) rfl) (by rfl) T.n_isinstance (by decide +kernel) (pa_cons (pv 1) (pa_cons (pe_glob (v := .ref (He.ga K "Ratio")) (by rfl) T.g_Ratio rfl) pa_nil))))) (pss_one ps_never) pss_nil)
      (pss_one (ps_ret (pe_make T.mk_Ratio (ok_Ratio___init__ T) (hr.mono (by decide)) (by rfl) T.g_Ratio bd3_Ratio___init__ vd3_Ratio___init__ passL (pa_cons (pe_op Z.op_mul (Z.fld (K := K) rfl (pv 0) rfl) (Z.fld (K := K) rfl (pv 1) rfl)) (pa_cons (pe_op Z.op_mul (Z.fld (K := K) rfl (pv 0) rfl) (Z.fld (K := K) rfl (pv 1) rfl)) pa_nil))))))), ?_⟩
      try dsimp only [cxOf, Cx.nox, Cx.wish]
      try (show (_ : TS) _ [some _, some _] _)
      walk_at "go"
      refine mkR (n := n + m + 1) (m := n + m + 1) ?_ (bt_mono b2 (by omega)) (by omega) (den0 q) (fun p H' hn he hr => k p H' hn he (by rw [Nat.max_self] at hr; exact hr))
      exact bt_mono (bt_mul b1 hi) (by omega)
    | @rat b r _ hb =>
      obtain ⟨⟨dy, hy⟩, sr, g9⟩ := hb
      have b3 := sr.1
      have b4 := sr.den
      dsimp only at k
      rw [mul_rat] at k
      obtain ⟨ds3_Ratio___init__, vd3_Ratio___init__, bd3_Ratio___init__⟩ := T.b3_Ratio___init__
      have fx0 := T.o_Ratio
      have fx1 := T.o_Rule
      have fx2 := T.o_Wish
      have fx3 := T.o_Listed
      have fx4 := T.o_Mixed
      have fx5 := T.o_Tabled
      refine ⟨_, PSs.nox (pss_cons (ps_if (pt_val (pe_callB (Z.call_isi (K := K) rfl) (by rfl) T.n_isinstance (by decide +kernel) (pa_cons (pv 1) (pa_cons (pe_bltn (v := .ty "int") (u := .type "int") (by rfl) T.n_int (by decide +kernel) rfl) pa_nil)))) (pss_one (ps_ret (pe_make T.mk_Ratio (ok_Ratio___init__ T) (hr.mono (by decide)) (by rfl) T.g_Ratio bd3_Ratio___init__ vd3_Ratio___init__ passL (pa_cons (pe_op Z.op_mul (Z.fld (K := K) rfl (pv 0) rfl) (pv 1)) (pa_cons (Z.fld (K := K) rfl (pv 0) rfl) pa_nil))))) pss_nil)
      (pss_cons (ps_if (pt_not (pt_val (pe_callB (Z.call_isi (K := K) rfl) (by rfl) T.n_isinstance (by decide +kernel) (pa_cons (pv 1) (pa_cons (pe_glob (v := .ref (He.ga K "Ratio")) (by rfl) T.g_Ratio rfl) pa_nil))))) (pss_one ps_never) pss_nil)
      (pss_one (ps_ret (pe_make T.mk_Ratio (ok_Ratio___init__ T) (hr.mono (by decide)) (by rfl) T.g_Ratio bd3_Ratio___init__ vd3_Ratio___init__ passL (pa_cons (pe_op Z.op_mul (Z.fld (K := K) rfl (pv 0) rfl) (Z.fld (K := K) rfl (pv 1) rfl)) (pa_cons (pe_op Z.op_mul (Z.fld (K := K) rfl (pv 0) rfl) (Z.fld (K := K) rfl (pv 1) rfl)) pa_nil))))))), ?_⟩
      try dsimp only [cxOf, Cx.nox, Cx.wish]
      try (show (_ : TS) _ [some _, some _] _)
      walk_at "go"
      refine mkR (n := n + m + 1) (m := n + m + 1) ?_ (bt_mono (bt_mul b2 b4) (by omega)) (by omega) (Int.mul_ne_zero (den0 q) (den0 r)) (fun p H' hn he hr => k p H' hn he (by rw [Nat.max_self] at hr; exact hr))
      exact bt_mono (bt_mul b1 b3) (by omega)

def sp_Tabled_worth (K : PySem.W.Frag) : Sp := fun vs H Q E => ∃ (x l pl : Addr) (n : Int) (sh : List Int → List Rat) (b : Nat) (lot ps : List Int), vs = [.ref x, .ref l, .ref pl] ∧ Rep_Tabled K H x n sh b ∧ SqT K H l (lot.map V.int) ∧ SqL K H pl (ps.map V.int) ∧ n.toNat * (b + 66) + 66 ≤ 13400 ∧ (∀ x ∈ ps, x.natAbs < 2 ^ 64) ∧ PErr K n ps E H ∧
  (PricesOk n ps → ¬ IsLot n lot → ∀ H', Ex H H' → E (.ref (He.ga K "BadLot")) none H') ∧ (PricesOk n ps → IsLot n lot → ∀ p H', Fr H p → Ex H H' → RN (He.ga K "Ratio") H' p (worthQ (sh lot) lot ps) (n.toNat * (b + 66) + 65) → Q (.ref p) H')
theorem ok_Tabled_worth (T : Tx P K mg) : FnOk P w K mg base (L2.CX P w) 5 (He.ma K (He.ga K "Rule") "worth") (Z.fdOf K (He.ma K (He.ga K "Rule") "worth")) ["self", "lot", "prices"] (sp_Tabled_worth K) := by
  refine T.F_Rule_worth.ok sc_Rule_worth (fun vs H Q E h => ?_) (fun cdv A outer s H vs Q E hr h => ?_)
  · obtain ⟨x, l, pl, n, sh, b, lot, ps, rfl, _⟩ := h
    rfl
  · obtain ⟨x, l, pl, n, sh, b, lot, ps, rfl, hx, hl, hp, hb, hps, hPE, hE, k⟩ := h
    have hrb := hx.rb
    have hlen := hx.len lot
    obtain ⟨_, _, _, _, _, hn0, hn1⟩ := id hrb
    obtain ⟨ds2_Ratio___init__, vd2_Ratio___init__, bd2_Ratio___init__⟩ := T.b2_Ratio___init__
    have fx0 := T.o_Tabled.cl
    have fx1 := T.na_Tabled_many
    refine ⟨_, (pss_cons (ps_expr (Z.pe_callZ (ok_check_prices T) (hr.mono (by decide)) (by rfl) T.g_check_prices T.F_check_prices.kp T.b_check_prices .nil (fun σ => passAt (takes_of rfl rfl rfl rfl) σ) (pa_cons (pv 2) (pa_cons (Z.fld (K := K) rfl (pv 0) rfl) pa_nil))))
      (pss_cons (ps_set (i := 3) sc_Rule_worth.nd rfl (Or.inl rfl) (Z.pe_methZ (pv 0) T.o_Tabled.cl T.me_Tabled_shares (ok_Tabled_shares T) (hr.mono (by decide)) T.b_Tabled_shares .nil (fun σ => passAt (takes_of rfl rfl rfl rfl) σ) (pa_cons (pv 1) pa_nil)))
      (pss_cons (ps_set (i := 4) sc_Rule_worth.nd rfl (Or.inl rfl) (Z.pe_makeZ T.mk_Ratio (ok_Ratio___init__ T) (hr.mono (by decide)) (by rfl) T.g_Ratio bd2_Ratio___init__ vd2_Ratio___init__ (fun σ => passAt (takes_of rfl rfl rfl rfl) σ) (pa_cons pe_int pa_nil)))
      (pss_cons (ps_for (passes_of rfl) rfl (Z.piT (K := K) rfl (pv 1)) (pg_name (i := 5) sc_Rule_worth.nd rfl (by first | exact Or.inl rfl | exact Or.inr rfl)) (pss_one (ps_set (i := 4) sc_Rule_worth.nd rfl (Or.inl rfl) (Z.pe_opS (Z.opS_OO T.o_Ratio T.me_Ratio___add__.at_ T.me_Ratio___add__.fn (Z.rawOk (ok_Ratio___add__ T) T.b_Ratio___add__) (hr.mono (by decide)) (fun σ => passAt (takes_of rfl rfl rfl rfl) σ)) (pv 4) (Z.pe_opS (Z.opS_OI T.o_Ratio T.me_Ratio___mul__.at_ T.me_Ratio___mul__.fn T.me_Ratio___rmul__.at_ (.inr ⟨_, rfl⟩) Z.has_mul (Z.rawOk (ok_Ratio___mul__ T) T.b_Ratio___mul__) (hr.mono (by decide)) (fun σ => passAt (takes_of rfl rfl rfl rfl) σ)) (pe_ix (Z.ix (K := K) rfl) (pv 3) (pv 5) (fun _ _ => rfl)) (pe_ix (Z.ix (K := K) rfl) (pv 2) (pv 5) (fun _ _ => rfl)))))))
      (pss_one (ps_ret (pv 4))))))), ?_⟩
    try dsimp only [cxOf, Cx.nox, Cx.wish]
    try (show (_ : TS) _ [some _, some _, some _, none, none, none] _)
    walk_at "go"
    refine ⟨pl, ps, n, rfl, hp, hPE, fun hok H0 he0 => ?_⟩
    walk_at "go"
    refine use_Tabled_shares (hx.ex he0) (he0.t hl) (fun h H' e => hE hok h H' (he0.trans e)) fun hlot p1 H1 xs hp1 he1 hat hxs => ?_
    walk_at "go"
    rename_i p2 H2 hp2 he2 hr2 J S
    have hxl : xs.length = n.toNat := by rw [hxs.1, hlen]
    have hll := hlot.len
    refine Z.fg S (fun i σ G => ∃ (a : Addr) (v5 : Option V), σ = [some (.ref x), some (.ref l), some (.ref pl), some (.ref p1), some (.ref a), v5] ∧ Ex H2 G ∧ Fr H a ∧ RN (He.ga K "Ratio") G a (worthQ (sh lot) (lot.take i) ps) (65 + i * (b + 66)))
      ⟨p2, none, rfl, Ex.refl _, he0.back (he1.back hp2), hr2.eq (by exact_mod_cast rfl) (by omega) (by omega)⟩ (fun i σ' G _ ⟨_, _, _, e, _⟩ => e.t (he2.t (he1.t (he0.t hl)))) ?_ ?_
    · rintro i y σ' G G2 hi ⟨a, v5, rfl, eG, ha, hra⟩ e2 hy
      obtain ⟨hi2, rfl⟩ := get_int hy
      have ht := hlot.2 (lot.getD i 0) (by rw [getD_get _ _ _ hi2]; exact List.getElem_mem hi2)
      have hi3 : i * (b + 66) + (b + 66) ≤ n.toNat * (b + 66) := by
        have := Nat.mul_le_mul_right (b + 66) (show i + 1 ≤ n.toNat by omega)
        rw [Nat.add_mul, Nat.one_mul] at this
        exact this
      have hra2 := hra.ex e2
      have hxs2 := ((hxs.ex he2).ex eG).ex e2
      have hlq : lot.getD i 0 < (sh lot).length := by rw [hlen]; omega
      have hok1 := hok.1
      have hpb : (ps.getD (lot.getD i 0).toNat 0).natAbs < 2 ^ 64 := by
        rw [getD_get _ _ _ (show (lot.getD i 0).toNat < ps.length by omega)]; exact hps _ (List.getElem_mem _)
      walk_at "go"
      rename_i ra hra3 p3 H3 hn3 he3 hr3 p4 H4 hn4 he4 hr4
      refine ⟨p4, _, rfl, by walk_at "ex", ?_, hr4.eq ?_ ?_ ?_⟩
      · exact he0.back (he1.back (he2.back (eG.back (e2.back (he3.back hn4)))))
      · unfold worthQ
        rw [take_snoc hi2 0, List.map_append, List.map_singleton, sum_snocQ]
      · rw [Nat.add_mul, Nat.one_mul]; omega
      · rw [Nat.add_mul, Nat.one_mul]; omega
    · rintro σ' G ⟨a, v5, rfl, eG, ha, hra⟩
      rw [List.length_map, List.take_length] at hra
      have h5 : lot.length * (b + 66) ≤ n.toNat * (b + 66) := Nat.mul_le_mul_right _ hll
      walk_at "go"
      exact k hok hlot a G ha (((he0.trans he1).trans he2).trans eG) (hra.eq rfl (by omega) (by omega))

/-- all lots of m things, by their numbers -/
def gLots (m : Nat) : GPar := { n := 2 ^ m, Yp := fun i x H => ∃ a, x = .ref a ∧ At H a (.tup (nats (lotOf i m))), rel := Nl }
def sp_lots (K : PySem.W.Frag) : SpZ := fun vs H g => ∃ m : Nat, vs = [.int (m : Int)] ∧ m ≤ 24 ∧ g = gLots m
theorem ok_lots (T : Tx P K mg) : Z.GFz P w K mg base 2 (He.ga K "lots") (Z.fdOf K (He.ga K "lots")) ["many"] (sp_lots K) := by
  refine Z.FunD.gz T.F_lots sc_lots (fun _ => rfl) (fun vs H g h => ?_) (fun cdv A outer n0 pn H vs g hr h => ?_)
  · obtain ⟨m, rfl, _⟩ := h
    rfl
  · obtain ⟨m, rfl, hm, rfl⟩ := h
    have hpw : (1 : Int) ≤ 2 ^ m ∧ (2 : Int) ^ m ≤ 16777216 := by
      have h1 : 2 ^ m ≤ 2 ^ 24 := Nat.pow_le_pow_right (by decide) hm
      have h2 : 0 < 2 ^ m := Nat.pow_pos (by decide)
      have h3 : ((2 ^ m : Nat) : Int) = (2 : Int) ^ m := by push_cast; rfl
      omega
    have hpn : ((2 : Int) ^ m).toNat = 2 ^ m := by
      have h3 : ((2 ^ m : Nat) : Int) = (2 : Int) ^ m := by push_cast; rfl
      omega
    refine ⟨_, (Z.gzs_cons (Z.gz_for (fun s0 H0 => (pi_range1 (by rfl) T.n_range (pa_cons (pe_op Z.op_shl pe_int (pv 0)) pa_nil))) (fun s0 H0 => (pg_name (i := 1) sc_lots.nd rfl (by first | exact Or.inl rfl | exact Or.inr rfl))) (Z.gzs_cons (Z.gz_yield (fun s0 H0 => (pe_call (ok_lot_at T) (hr.mono (by decide)) (by rfl) T.g_lot_at T.F_lot_at.kp T.b_lot_at .nil passL (pa_cons (pv 1) (pa_cons (pv 0) pa_nil)))) rfl rfl) Z.gzs_nil)) Z.gzs_nil), ?_⟩
    try dsimp only [Z.GCx.X]
    try (show (_ : Z.TGz) _ _ _ [some _, none] _)
    walk_at "go"
    rename_i J S
    rw [hpn] at S
    refine Z.gfg S (fun j i Hw σ G => i = j ∧ (∃ v1, σ = [some (.int (m : Int)), v1]) ∧ Ex Hw G) ⟨rfl, ⟨none, rfl⟩, Ex.refl _⟩ (fun j i Hw σ G _ _ => trivial) ?_ ?_
    · rintro j x i Hw σ G G2 hj ⟨rfl, ⟨v1, rfl⟩, eG⟩ e2 rfl
      walk_at "go"
      refine Z.w_yl hj ?_
      walk_at "go"
      refine ⟨i, m, rfl, by omega, fun p H3 hn he hp => ?_⟩
      exact ⟨eG.trans (e2.trans he), ⟨p, rfl, hp⟩, fun H4 _ => ⟨rfl, ⟨_, rfl⟩, Ex.refl _⟩⟩
    · rintro i Hw σ G ⟨rfl, ⟨v1, rfl⟩, eG⟩
      walk_at "go"
      exact ⟨rfl, eG⟩

theorem ok_Ratio___gt__ (T : Tx P K mg) : FnOk P w K mg base (L2.CX P w) 1 (He.ma K (He.ga K "Ratio") "__gt__") (Z.fdOf K (He.ma K (He.ga K "Ratio") "__gt__")) ["self", "other"] (spCmp (He.ga K "Ratio") fun q r => decide (r < q)) := by
  refine T.F_Ratio___gt__.ok sc_Ratio___gt__ (fun vs H Q E h => ?_) (fun cdv A outer s H vs Q E hr h => ?_)
  · obtain ⟨a, v, q, r, n, m, rfl, _⟩ := h
    rfl
  · obtain ⟨a, v, q, r, n, m, rfl, ha, hv, hnm, k⟩ := h
    have O := T.o_Ratio
    have cl := T.o_Ratio.cl
    have na1 := T.na_Ratio_top
    have na2 := T.na_Ratio_bottom
    obtain ⟨⟨dx, hx⟩, sq, h9⟩ := ha
    have b1 := sq.1
    have b2 := sq.den
    cases hv with
    | @int i _ hi =>
      simp only [int_lt] at k
      have fx0 := T.o_Ratio
      have fx1 := T.o_Rule
      have fx2 := T.o_Wish
      have fx3 := T.o_Listed
      have fx4 := T.o_Mixed
      have fx5 := T.o_Tabled
      refine ⟨_, PSs.nox (pss_cons (ps_if (pt_val (pe_callB (Z.call_isi (K := K) rfl) (by rfl) T.n_isinstance (by decide +kernel) (pa_cons (pv 1) (pa_cons (pe_bltn (v := .ty "int") (u := .type "int") (by rfl) T.n_int (by decide +kernel) rfl) pa_nil)))) (pss_one (ps_ret (pe_cmpR Z.op_gt (Z.fld (K := K) rfl (pv 0) rfl) (pe_op Z.op_mul (pv 1) (Z.fld (K := K) rfl (pv 0) rfl)) (nomark _)))) pss_nil)
      (pss_cons (ps_if (pt_not (pt_val (pe_callB (Z.call_isi (K := K) rfl) (by rfl) T.n_isinstance (by decide +kernel) (pa_cons (pv 1) (pa_cons (pe_glob (v := .ref (He.ga K "Ratio")) (by rfl) T.g_Ratio rfl) pa_nil))))) (pss_one ps_never) pss_nil)
      (pss_one (ps_ret (pe_cmpR Z.op_gt (pe_op Z.op_mul (Z.fld (K := K) rfl (pv 0) rfl) (Z.fld (K := K) rfl (pv 1) rfl)) (pe_op Z.op_mul (Z.fld (K := K) rfl (pv 1) rfl) (Z.fld (K := K) rfl (pv 0) rfl)) (nomark _)))))), ?_⟩
      try dsimp only [cxOf, Cx.nox, Cx.wish]
      try (show (_ : TS) _ [some _, some _] _)
      walk_at "go"
      exact k
    | @rat b r _ hb =>
      obtain ⟨⟨dy, hy⟩, sr, g9⟩ := hb
      have b3 := sr.1
      have b4 := sr.den
      simp only [lt_rat] at k
      have fx0 := T.o_Ratio
      have fx1 := T.o_Rule
      have fx2 := T.o_Wish
      have fx3 := T.o_Listed
      have fx4 := T.o_Mixed
      have fx5 := T.o_Tabled
      refine ⟨_, PSs.nox (pss_cons (ps_if (pt_val (pe_callB (Z.call_isi (K := K) rfl) (by rfl) T.n_isinstance (by decide +kernel) (pa_cons (pv 1) (pa_cons (pe_bltn (v := .ty "int") (u := .type "int") (by rfl) T.n_int (by decide +kernel) rfl) pa_nil)))) (pss_one (ps_ret (pe_cmpR Z.op_gt (Z.fld (K := K) rfl (pv 0) rfl) (pe_op Z.op_mul (pv 1) (Z.fld (K := K) rfl (pv 0) rfl)) (nomark _)))) pss_nil)
      (pss_cons (ps_if (pt_not (pt_val (pe_callB (Z.call_isi (K := K) rfl) (by rfl) T.n_isinstance (by decide +kernel) (pa_cons (pv 1) (pa_cons (pe_glob (v := .ref (He.ga K "Ratio")) (by rfl) T.g_Ratio rfl) pa_nil))))) (pss_one ps_never) pss_nil)
      (pss_one (ps_ret (pe_cmpR Z.op_gt (pe_op Z.op_mul (Z.fld (K := K) rfl (pv 0) rfl) (Z.fld (K := K) rfl (pv 1) rfl)) (pe_op Z.op_mul (Z.fld (K := K) rfl (pv 1) rfl) (Z.fld (K := K) rfl (pv 0) rfl)) (nomark _)))))), ?_⟩
      try dsimp only [cxOf, Cx.nox, Cx.wish]
      try (show (_ : TS) _ [some _, some _] _)
      walk_at "go"
      exact k

theorem ok_Ratio___eq__ (T : Tx P K mg) : FnOk P w K mg base (L2.CX P w) 1 (He.ma K (He.ga K "Ratio") "__eq__") (Z.fdOf K (He.ma K (He.ga K "Ratio") "__eq__")) ["self", "other"] (spEq (He.ga K "Ratio")) := by
  refine T.F_Ratio___eq__.ok sc_Ratio___eq__ (fun vs H Q E h => ?_) (fun cdv A outer s H vs Q E hr h => ?_)
  · obtain ⟨a, q, n, _, ⟨b, r, m, rfl, _⟩ | ⟨i, rfl, _⟩⟩ := h <;> rfl
  · obtain ⟨a, q, n, ha, h⟩ := h
    have O := T.o_Ratio
    have cl := T.o_Ratio.cl
    have na1 := T.na_Ratio_top
    have na2 := T.na_Ratio_bottom
    rcases h with ⟨b, r, m, rfl, hb, k⟩ | ⟨i, rfl, k⟩
    · skip
      have fx0 := T.o_Ratio
      have fx1 := T.o_Rule
      have fx2 := T.o_Wish
      have fx3 := T.o_Listed
      have fx4 := T.o_Mixed
      have fx5 := T.o_Tabled
      refine ⟨_, PSs.nox (pss_one (ps_ret (pe_and (pe_callB (Z.call_isi (K := K) rfl) (by rfl) T.n_isinstance (by decide +kernel) (pa_cons (pv 1) (pa_cons (pe_glob (v := .ref (He.ga K "Ratio")) (by rfl) T.g_Ratio rfl) pa_nil))) (pe_and (pe_cmpR (Z.op_eq (K := K) rfl hr.units) (Z.fld (K := K) rfl (pv 0) rfl) (Z.fld (K := K) rfl (pv 1) rfl) (nomark _)) (pe_one (pe_cmpR (Z.op_eq (K := K) rfl hr.units) (Z.fld (K := K) rfl (pv 0) rfl) (Z.fld (K := K) rfl (pv 1) rfl) (nomark _))))))), ?_⟩
      try dsimp only [cxOf, Cx.nox, Cx.wish]
      try (show (_ : TS) _ [some _, some _] _)
      walk_at "go"
      rw [show decide (q = r) = (decide (q.num = r.num) && decide ((q.den : Int) = r.den)) by
        have := eq_rat q r
        by_cases h : q = r
        · rw [decide_eq_true h]; obtain ⟨h1, h2⟩ := this.mp h; rw [decide_eq_true h1, decide_eq_true h2]; rfl
        · rw [decide_eq_false h]
          by_cases h1 : q.num = r.num
          · have h2 : ¬ (q.den : Int) = r.den := fun z => h (this.mpr ⟨h1, z⟩)
            rw [decide_eq_false h2, Bool.and_false]
          · rw [decide_eq_false h1, Bool.false_and]] at k
      refine Z.w_dec (fun h1 => ?_) (fun h1 => ?_)
      · rw [decide_eq_true h1, Bool.true_and] at k
        walk_at "go"
        exact k
      · rw [decide_eq_false h1, Bool.false_and] at k
        exact k
    · skip
      have fx0 := T.o_Ratio
      have fx1 := T.o_Rule
      have fx2 := T.o_Wish
      have fx3 := T.o_Listed
      have fx4 := T.o_Mixed
      have fx5 := T.o_Tabled
      refine ⟨_, PSs.nox (pss_one (ps_ret (pe_and (pe_callB (Z.call_isi (K := K) rfl) (by rfl) T.n_isinstance (by decide +kernel) (pa_cons (pv 1) (pa_cons (pe_glob (v := .ref (He.ga K "Ratio")) (by rfl) T.g_Ratio rfl) pa_nil))) (pe_and (pe_cmpR (Z.op_eq (K := K) rfl hr.units) (Z.fld (K := K) rfl (pv 0) rfl) (Z.fld (K := K) rfl (pv 1) rfl) (nomark _)) (pe_one (pe_cmpR (Z.op_eq (K := K) rfl hr.units) (Z.fld (K := K) rfl (pv 0) rfl) (Z.fld (K := K) rfl (pv 1) rfl) (nomark _))))))), ?_⟩
      try dsimp only [cxOf, Cx.nox, Cx.wish]
      try (show (_ : TS) _ [some _, some _] _)
      walk_at "go"
      exact k

/-- Rule.best, by a walk over all lots -/
def sp_Tabled_best (K : PySem.W.Frag) : Sp := fun vs H Q E => ∃ (x pl : Addr) (n : Int) (sh : List Int → List Rat) (b : Nat) (ps : List Int), vs = [.ref x, .ref pl] ∧ Rep_Tabled K H x n sh b ∧ SqL K H pl (ps.map V.int) ∧ n.toNat * (b + 66) + 66 ≤ 13400 ∧ (∀ x ∈ ps, x.natAbs < 2 ^ 64) ∧
  (6 < n → ∀ d H', Ex H H' → At H' d (.xd [("most", .int 6), ("many", .int n)]) → E (.ref (He.ga K "TooMany")) (some d) H') ∧ (n ≤ 6 → PErr K n ps E H) ∧
  (n ≤ 6 → PricesOk n ps → ∀ p t z H' f, Ex H H' → At H' p (.tup [.ref t, .ref z]) → SqT K H' t ((lotI f n.toNat).map V.int) → RN (He.ga K "Ratio") H' z (wv sh ps n.toNat f) (n.toNat * (b + 66) + 65) → BestTo sh ps n.toNat (2 ^ n.toNat) f → Q (.ref p) H')
theorem ok_Tabled_best (T : Tx P K mg) : FnOk P w K mg base (L2.CX P w) 6 (He.ma K (He.ga K "Rule") "best") (Z.fdOf K (He.ma K (He.ga K "Rule") "best")) ["self", "prices"] (sp_Tabled_best K) := by
  refine T.F_Rule_best.ok sc_Rule_best (fun vs H Q E h => ?_) (fun cdv A outer s H vs Q E hr h => ?_)
  · obtain ⟨x, pl, n, sh, b, ps, rfl, _⟩ := h
    rfl
  · obtain ⟨x, pl, n, sh, b, ps, rfl, hx, hp, hb, hps, hT, hPE, k⟩ := h
    have hrb := hx.rb
    have cl := T.o_Tabled.cl
    have kM := T.k_Tabled_SMALL
    have na := T.na_Tabled_many
    obtain ⟨_, _, _, _, _, hn0, hn1⟩ := id hrb
    have fx0 := T.o_Tabled.cl
    have fx1 := T.na_Tabled_many
    have fx2 := T.k_Tabled_SMALL
    refine ⟨_, (pss_cons (ps_if (pt_cmpR Z.op_gt (Z.fld (K := K) rfl (pv 0) rfl) (Z.con (K := K) rfl (pv 0) rfl) (nomark _)) (pss_one (Z.ps_raiseZ rfl (takes_of rfl rfl rfl rfl) (pmk_oex T.oe_TooMany T.si_TooMany.2.2.1 T.si_TooMany.2.2.2 (ok_TooMany___init__ T) (hr.mono (by decide)) T.b_TooMany___init__ .nil passL (by rfl) T.g_TooMany (pa_cons (Z.fld (K := K) rfl (pv 0) rfl) (pa_cons (Z.con (K := K) rfl (pv 0) rfl) pa_nil))))) pss_nil)
      (pss_cons (ps_set (i := 2) sc_Rule_best.nd rfl (Or.inl rfl) (pe_tup pa_nil))
      (pss_cons (ps_set (i := 3) sc_Rule_best.nd rfl (Or.inl rfl) (Z.pe_methZ (pv 0) T.o_Tabled.cl T.me_Tabled_worth (ok_Tabled_worth T) (hr.mono (by decide)) T.b_Rule_worth .nil (fun σ => passAt (takes_of rfl rfl rfl rfl) σ) (pa_cons (pv 2) (pa_cons (pv 1) pa_nil))))
      (pss_cons (Z.ps_forG (passes_of rfl) Z.xe_cx rfl (hr.mono (by decide)) (Z.pgz_call (ok_lots T) (hr.mono (by decide)) (by rfl) T.g_lots T.F_lots.kp T.b_lots .nil (pa_cons (Z.fld (K := K) rfl (pv 0) rfl) pa_nil)) (pg_name (i := 4) sc_Rule_best.nd rfl (by first | exact Or.inl rfl | exact Or.inr rfl)) (pss_cons (ps_set (i := 5) sc_Rule_best.nd rfl (Or.inl rfl) (Z.pe_methZ (pv 0) T.o_Tabled.cl T.me_Tabled_worth (ok_Tabled_worth T) (hr.mono (by decide)) T.b_Rule_worth .nil (fun σ => passAt (takes_of rfl rfl rfl rfl) σ) (pa_cons (pv 4) (pa_cons (pv 1) pa_nil))))
      (pss_one (ps_if (PW.pt (pw_or (pt_cmpR (Z.cmp_OO (fun _ _ => rfl) T.o_Ratio T.me_Ratio___gt__.at_ T.me_Ratio___gt__.fn (Z.rawOk (ok_Ratio___gt__ T) T.b_Ratio___gt__) (hr.mono (by decide)) passL) (pv 5) (pv 3) (nomark _)) (pw_or1 (PW.pt (pw_and (pt_cmpR (Z.cmp_OO (fun _ _ => rfl) T.o_Ratio T.me_Ratio___eq__.at_ T.me_Ratio___eq__.fn (Z.rawOk (ok_Ratio___eq__ T) T.b_Ratio___eq__) (hr.mono (by decide)) passL) (pv 5) (pv 3) (nomark _)) (pw_and1 (pt_cmpR Z.op_lt (pe_callB (Z.call_len (K := K) rfl) (by rfl) T.n_len (by decide +kernel) (pa_cons (pv 4) pa_nil)) (pe_callB (Z.call_len (K := K) rfl) (by rfl) T.n_len (by decide +kernel) (pa_cons (pv 2) pa_nil)) (nomark _)))))))) (pss_cons (ps_set (i := 2) sc_Rule_best.nd rfl (Or.inl rfl) (pv 4))
      (pss_one (ps_set (i := 3) sc_Rule_best.nd rfl (Or.inl rfl) (pv 5)))) pss_nil))))
      (pss_one (ps_ret (pe_tup (pa_cons (pv 2) (pa_cons (pv 3) pa_nil))))))))), ?_⟩
    try dsimp only [cxOf, Cx.nox, Cx.wish]
    try (show (_ : TS) _ [some _, some _, none, none, none, none] _)
    walk_at "go"
    refine Z.w_dec (fun h6 => ?_) (fun h6 => ?_)
    · walk_at "go"
      rename_i d H2 hn2 he hp2
      exact hT h6 d H2 he hp2
    have hn6 : n ≤ 6 := by omega
    have hPE := hPE hn6
    have k := k hn6
    obtain ⟨m, rfl⟩ := Int.eq_ofNat_of_zero_le hn0
    rw [Int.toNat_natCast] at hb k
    walk_at "go"
    rename_i p1 H1 hp1n he1 hp1
    refine ⟨x, p1, pl, m, sh, b, [], ps, rfl, hx.ex he1, st_of hp1, he1.l hp, by rw [Int.toNat_natCast]; exact hb, hps, hPE.up he1, fun _ h => absurd ⟨by simp, by simp⟩ h, fun hok _ z H2 fz ez hz => ?_⟩
    have e02 := he1.trans ez
    have hw0 : worthQ (sh []) [] ps = wv sh ps m 0 := by unfold wv; rw [lotI_zero]
    rw [hw0, Int.toNat_natCast] at hz
    have hr2 := hrb.ex e02
    have hp2 := ez.get hp1
    clear hw0 hrb hp1 hT hPE
    walk_at "go"
    refine ⟨gLots m, ⟨m, rfl, by omega, rfl⟩, fun i σ G => ∃ (f : Nat) (t z : Addr) (v4 v5 : Option V), σ = [some (.ref x), some (.ref pl), some (.ref t), some (.ref z), v4, v5] ∧ Ex H2 G ∧ SqT K G t ((lotI f m).map V.int) ∧ RN (He.ga K "Ratio") G z (wv sh ps m f) (m * (b + 66) + 65) ∧ BestTo sh ps m i f, ⟨0, p1, z, none, none, rfl, Ex.refl _, by rw [lotI_zero]; exact st_of hp2, hz, BestTo.zero⟩, ?_, ?_⟩
    · rintro i σ G hi ⟨f, t, z, v4, v5, rfl, eG, ht, hz, hB⟩ y G2 e2 ⟨l, rfl, hl⟩
      have hi : i < 2 ^ m := hi
      have eG2 := eG.trans e2
      have ht2 := e2.t ht
      have hz2 := hz.ex e2
      have hl2 : At G2 l (.tup ((lotI i m).map V.int)) := hl
      have hr3 := hr2.ex eG2
      clear ht hz hl hr2 hp2
      walk_at "go"
      refine ⟨x, l, pl, m, sh, b, lotI i m, ps, rfl, (hx.ex e02).ex eG2, st_of hl2, eG2.l (e02.l hp), by rw [Int.toNat_natCast]; exact hb, hps, PErr.ok hok, fun _ h => absurd (lotI_isLot i m) h, fun _ _ z3 H3 fz3 ez3 hz3 => ?_⟩
      rw [show worthQ (sh (lotI i m)) (lotI i m) ps = wv sh ps m i from rfl, Int.toNat_natCast] at hz3
      have hz23 := hz2.ex ez3
      have ht23 := ez3.t ht2
      have hl23 := ez3.get hl2
      clear hz2 ht2 hl2
      walk_at "go"
      have e23 := eG2.trans ez3
      refine Z.w_dec (fun h => ?_) (fun h => ?_)
      · walk_at "go"
        exact ⟨ez3.nl, i, l, z3, _, _, rfl, e23, st_of hl23, hz3, hB.take hi (.inl h)⟩
      · walk_at "go"
        refine Z.w_dec (fun he => ?_) (fun he => ?_)
        · walk_at "go"
          refine Z.w_dec (fun hl => ?_) (fun hl => ?_)
          · walk_at "go"
            exact ⟨ez3.nl, i, l, z3, _, _, rfl, e23, st_of hl23, hz3, hB.take hi (.inr ⟨he, by omega⟩)⟩
          · walk_at "go"
            exact ⟨ez3.nl, f, t, z, _, _, rfl, e23, ht23, hz23, hB.keep h fun _ => by omega⟩
        · walk_at "go"
          exact ⟨ez3.nl, f, t, z, _, _, rfl, e23, ht23, hz23, hB.keep h fun q => absurd q he⟩
    · rintro σ G ⟨f, t, z, v4, v5, rfl, eG, ht, hz, hB⟩ G2 e2
      have ht2 := e2.t ht
      have hz2 := hz.ex e2
      walk_at "go"
      rename_i p5 H5 hn5 he5 hp5
      exact k hok p5 t z H5 f ((e02.trans eG).trans (e2.trans he5)) hp5 (he5.t ht2) (hz2.ex he5) hB

/-- Rule.shares of an object of the class Listed -/
def sp_Listed_Rule_shares (K : PySem.W.Frag) : Sp := fun vs H Q E => ∃ (x l : Addr) (n : Int) (lot : List Int), vs = [.ref x, .ref l] ∧ RB (He.ga K "Listed") H x n ∧ SqT K H l (lot.map V.int) ∧ (¬ IsLot n lot → ∀ H', Ex H H' → E (.ref (He.ga K "BadLot")) none H') ∧
  (IsLot n lot → ∀ p H' xs, Fr H p → Ex H H' → At H' p (.lst xs) → RL (He.ga K "Ratio") H' xs (List.replicate n.toNat 0) 1 → Q (.ref p) H')
theorem ok_Listed_Rule_shares (T : Tx P K mg) : FnOk P w K mg base (L2.CX P w) 3 (He.ma K (He.ga K "Rule") "shares") (Z.fdOf K (He.ma K (He.ga K "Rule") "shares")) ["self", "lot"] (sp_Listed_Rule_shares K) := by
  refine T.F_Rule_shares.ok sc_Rule_shares (fun vs H Q E h => ?_) (fun cdv A outer s H vs Q E hr h => ?_)
  · obtain ⟨x, l, n, lot, rfl, _⟩ := h
    rfl
  · obtain ⟨x, l, n, lot, rfl, hx, hl, hE, k⟩ := h
    obtain ⟨_, _, _, _, _, hn0, hn1⟩ := id hx
    obtain ⟨ds2_Ratio___init__, vd2_Ratio___init__, bd2_Ratio___init__⟩ := T.b2_Ratio___init__
    have fx0 := T.o_Listed.cl
    have fx1 := T.na_Listed_many
    refine ⟨_, (pss_cons (ps_expr (Z.pe_callZ (ok_check_lot T) (hr.mono (by decide)) (by rfl) T.g_check_lot T.F_check_lot.kp T.b_check_lot .nil (fun σ => passAt (takes_of rfl rfl rfl rfl) σ) (pa_cons (pv 1) (pa_cons (Z.fld (K := K) rfl (pv 0) rfl) pa_nil))))
      (pss_one (ps_ret (pe_lc (own := [("_", 2)]) rfl sc_Rule_shares.nd (pi_range1 (by rfl) T.n_range (pa_cons (Z.fld (K := K) rfl (pv 0) rfl) pa_nil)) (blkOk_by (N := ["self", "lot", "_"]) (sc := defScope s_Rule_shares) (by decide +kernel)) (fun _ _ _ _ _ => (pg_name (i := 2) sc_Rule_shares.nd rfl (by first | exact Or.inl rfl | exact Or.inr rfl))) (fun _ _ _ _ _ => pts_nil) (fun _ _ _ _ _ => (pe_make T.mk_Ratio (ok_Ratio___init__ T) (hr.mono (by decide)) (by rfl) T.g_Ratio bd2_Ratio___init__ vd2_Ratio___init__ passL (pa_cons pe_int pa_nil))))))), ?_⟩
    try dsimp only [cxOf, Cx.nox, Cx.wish]
    try (show (_ : TS) _ [some _, some _, none] _)
    walk_at "go"
    refine ⟨l, lot, n, rfl, hl, hE, fun hlot H1 e1 => ?_⟩
    walk_at "go"
    rename_i J S
    refine Z.cgX S (fun i acc G => RL (He.ga K "Ratio") G acc (List.replicate i 0) 1) (fun H' e => RL.nil) (fun i acc G1 G2 h e => h.ex e) (fun H' e => trivial) (by show _ ≤ 16777216; omega) (fun Dl i y G acc hi ec cd hal hP hy => ?_) (fun p G acc hn he hp hal hP => ?_) rfl
    · subst hy
      walk_at "go"
      rename_i p G2 hn he hr
      have hr := hr.tight (r := 0) (m := 1) (by exact_mod_cast rfl) (sz0 (by decide)) (by decide)
      refine Z.elx cd hal (by show _ < 16777216; omega) he fun G3 hnl => ?_
      rw [List.replicate_succ']
      exact ((hP.ex he).nl hnl).snoc (hr.nl hnl)
    · exact k hlot p G acc (e1.back hn) (e1.trans he) hp hP

theorem ok_BadWish___init__ (T : Tx P K mg) : FnOk P w K mg base (L2.CX P w) 1 (He.ma K (He.ga K "BadWish") "__init__") (Z.fdOf K (He.ma K (He.ga K "BadWish") "__init__")) ["self", "at"] (Z.spX (He.ga K "BadWish") ["at"]) := by
  refine Z.FunS.ok (x0 := "self") T.F_BadWish___init__ sc_BadWish___init__ (by decide +kernel) rfl rfl rfl (by decide +kernel) (by decide +kernel) T.p_top T.n_super T.c_BadWish (fun vs H Q E h => ?_) (fun cc cda A outer s H vs Q E hr h S => ?_)
  · obtain ⟨a, ws, rfl, hl, _⟩ := h
    simpa using hl
  · obtain ⟨a, ws, rfl, hl, ha, k⟩ := h
    obtain ⟨v1, rfl⟩ : ∃ v1, ws = [v1] := by
      match ws, hl with
      | [v1], _ => exact ⟨v1, rfl⟩
    refine ⟨_, _, Z.ps_supE (Z.pe_supX S T.mro_BadWish_BadWish T.third T.si_BadWish.1 T.si_BadWish.2.1 (pa_cons pe_str pa_nil)), (pss_one (ps_ost (pv 0) (pv 1))), ?_⟩
    refine ⟨a, rfl, T.oe_BadWish, ha, by decide, ha, ?_⟩
    refine ⟨_, rfl, _, rfl, a, He.ga K "BadWish", rfl, T.oe_BadWish, T.nf_BadWish_at, .inl ⟨ha, fun dx hd hne => ?_⟩⟩
    exact k dx hd hne

def sp_Wish___init__ (K : PySem.W.Frag) : Sp := fun vs H Q E => ∃ (H0 : Hp) (x dx a : Addr) (ns : List Int), vs = [.ref x, .ref a] ∧ At H x (.ins (He.ga K "Wish") dx []) ∧ Fr H0 x ∧ Ex H0 H ∧ Rd H0 a (.tup (ns.map V.int)) ∧ ns.length ≤ 4000 ∧
  (¬ IsWish ns → ∀ d H', Ex H0 H' → At H' d (.xd [("at", .non)]) → E (.ref (He.ga K "BadWish")) (some d) H') ∧
  (IsWish ns → ∀ H', Ex H0 H' → WiR K H' x ns → Q .non H')
theorem ok_Wish___init__ (T : Tx P K mg) : FnOk P w K mg base (L2.CX P w) 3 (He.ma K (He.ga K "Wish") "__init__") (Z.fdOf K (He.ma K (He.ga K "Wish") "__init__")) ["self", "things"] (sp_Wish___init__ K) := by
  refine T.F_Wish___init__.ok sc_Wish___init__ (fun vs H Q E h => ?_) (fun cdv A outer s H vs Q E hr h => ?_)
  · obtain ⟨H0, x, dx, a, ns, rfl, _⟩ := h
    rfl
  · obtain ⟨H0, x, dx, a, ns, rfl, hx, hf, e0, ha0, hl, hE, k⟩ := h
    have ha : SqT K H a (ns.map V.int) := .inl (e0.rd ha0)
    have fx0 := T.o_Wish.cl
    have fx1 := T.na_Wish_things
    refine ⟨_, (pss_cons (ps_if (pt_not (pt_val (Z.pe_callZ (ok_is_wish T) (hr.mono (by decide)) (by rfl) T.g_is_wish T.F_is_wish.kp T.b_is_wish .nil (fun σ => passAt (takes_of rfl rfl rfl rfl) σ) (pa_cons (pv 1) pa_nil)))) (pss_one (Z.ps_raiseZ rfl (takes_of rfl rfl rfl rfl) (pmk_oex T.oe_BadWish T.si_BadWish.2.2.1 T.si_BadWish.2.2.2 (ok_BadWish___init__ T) (hr.mono (by decide)) T.b_BadWish___init__ .nil passL (by rfl) T.g_BadWish (pa_cons pe_non pa_nil)))) pss_nil)
      (pss_one (ps_fld (pv 0) (pe_callTy (Z.call_tuple (K := K) rfl) (by rfl) T.n_tuple (by decide +kernel) (pa_cons (pv 1) pa_nil)) rfl))), ?_⟩
    try dsimp only [cxOf, Cx.nox, Cx.wish]
    try (show (_ : TS) _ [some _, some _] _)
    walk_at "go"
    refine ⟨a, ns, rfl, ha, hl, fun H1 e1 => ?_⟩
    have hx1 := e1.get hx
    have e01 := e0.trans e1
    walk_at "go"
    refine Z.w_ndec (fun h => ?_) (fun h => ?_)
    · walk_at "go"
      rename_i d H5 hn5 he5 hp5
      exact hE h d H5 (e01.trans he5) hp5
    walk_at "go"
    have ha1 := e1.t ha
    refine Z.w_putE hx1 fx0 fx1 (by show 0 < 900; decide) (by decide +kernel) fun H2 g2 k2 o2 => ?_
    have e2 : Ex H0 H2 := k2 H0 e01 hf
    walk_at "go"
    exact k h H2 e2 ⟨dx, a, g2, e2.rd ha0⟩
/-- Wish(a) -/
theorem mkWi {H : Hp} {Q : VK} {E : XK} {a : Addr} {ns : List Int} (ha : Rd H a (.tup (ns.map V.int))) (hl : ns.length ≤ 4000) (hE : ¬ IsWish ns → ∀ d H', Ex H H' → At H' d (.xd [("at", .non)]) → E (.ref (He.ga K "BadWish")) (some d) H') (k : IsWish ns → ∀ x H', Fr H x → Ex H H' → WiR K H' x ns → Q (.ref x) H') :
    dMk (He.ga K "Wish") (sp_Wish___init__ K) [] E Q [.ref a] H :=
  w_dMk fun x dx H2 nw => ⟨H, x, dx, a, ns, rfl, nw.at_, nw.new, nw.ex, ha, hl, hE, fun h1 H' e hs => ⟨rfl, k h1 x H' nw.new e hs⟩⟩

def sp_Wish___call__ (K : PySem.W.Frag) : Sp := fun vs H Q E => ∃ (x l : Addr) (ns lot : List Int), vs = [.ref x, .ref l] ∧ WiR K H x ns ∧ SqT K H l (lot.map V.int) ∧ ∀ H', Ex H H' → Q (optV (fIn ns lot)) H'
theorem ok_Wish___call__ (T : Tx P K mg) : FnOk P w K mg base (L2.CX P w) 1 (He.ma K (He.ga K "Wish") "__call__") (Z.fdOf K (He.ma K (He.ga K "Wish") "__call__")) ["self", "lot"] (sp_Wish___call__ K) := by
  refine T.F_Wish___call__.ok sc_Wish___call__ (fun vs H Q E h => ?_) (fun cdv A outer s H vs Q E hr h => ?_)
  · obtain ⟨x, l, ns, lot, rfl, _⟩ := h
    rfl
  · obtain ⟨x, l, ns, lot, rfl, hx, hl, k⟩ := h
    obtain ⟨dx, t, hx1, ht0⟩ := hx
    have ht : SqT K H t (ns.map V.int) := .inl ht0
    have fx0 := T.o_Wish.cl
    have fx1 := T.na_Wish_things
    refine ⟨_, PSs.nox (pss_cons (ps_for PassesOwn.never rfl (Z.piT (K := K) rfl (Z.fld (K := K) rfl (pv 0) rfl)) (pg_name (i := 2) sc_Wish___call__.nd rfl (by first | exact Or.inl rfl | exact Or.inr rfl)) (pss_one (ps_if (pt_cmpR (Z.op_in (K := K) rfl) (pv 2) (pv 1) (by rfl)) (pss_one (ps_ret (pv 2))) pss_nil)))
      (pss_one (ps_ret pe_non))), ?_⟩
    try dsimp only [cxOf, Cx.nox, Cx.wish]
    try (show (_ : TS) _ [some _, some _, none] _)
    walk_at "go"
    rename_i J S
    refine Z.fg S (fun i σ G => ∃ (v : Option V), σ = [some (.ref x), some (.ref l), v] ∧ Ex H G ∧ fIn ns lot = fIn (ns.drop i) lot) ⟨none, rfl, Ex.refl _, by rw [List.drop_zero]⟩ (fun i σ' G _ ⟨_, _, e, _⟩ => e.t ht) ?_ ?_
    · rintro i y σ' G G2 hi ⟨v, rfl, eG, hf⟩ e2 hy
      obtain ⟨hi2, rfl⟩ := get_int hy
      rw [List.drop_eq_getElem_cons hi2, fIn_cons, ← getD_get _ _ 0 hi2] at hf
      have hl2 := (eG.trans e2).t hl
      walk_at "go"
      refine Z.w_dec (fun h => ?_) (fun h => ?_)
      · rw [if_pos h] at hf
        walk_at "go"
        rw [hf] at k
        exact k _ (eG.trans e2)
      · rw [if_neg h] at hf
        walk_at "go"
        exact ⟨_, rfl, eG.trans e2, hf⟩
    · rintro σ' G ⟨v, rfl, eG, hf⟩
      rw [List.length_map, List.drop_length] at hf
      walk_at "go"
      rw [hf] at k
      exact k _ eG

/-- Rule.__init__ of an object of the class Listed that is new -/
def sp_Listed_Rule___init__ (K : PySem.W.Frag) : Sp := fun vs H Q E => ∃ (H0 : Hp) (x dx : Addr) (n : Int), vs = [.ref x, .int n] ∧ At H x (.ins (He.ga K "Listed") dx []) ∧ Fr H0 x ∧ Ex H0 H ∧
  (24 < n → ∀ d H', Ex H0 H' → At H' d (.xd [("most", .int 24), ("many", .int n)]) → E (.ref (He.ga K "TooMany")) (some d) H') ∧ (n ≤ 24 → ∀ H', Ex H0 H' → At H' x (.ins (He.ga K "Listed") dx [("many", .int n)]) → (∀ b o, b ≠ x → At H b o → At H' b o) → Q .non H')
theorem ok_Listed_Rule___init__ (T : Tx P K mg) : FnOk P w K mg base (L2.CX P w) 3 (He.ma K (He.ga K "Rule") "__init__") (Z.fdOf K (He.ma K (He.ga K "Rule") "__init__")) ["self", "many"] (sp_Listed_Rule___init__ K) := by
  refine T.F_Rule___init__.ok sc_Rule___init__ (fun vs H Q E h => ?_) (fun cdv A outer s H vs Q E hr h => ?_)
  · obtain ⟨H0, x, dx, n, rfl, _⟩ := h
    rfl
  · obtain ⟨H0, x, dx, n, rfl, hx, hf, e0, hE, k⟩ := h
    have cl := T.o_Listed.cl
    have kM := T.k_Listed_MOST
    have na := T.na_Listed_many
    have fx0 := T.o_Listed.cl
    have fx1 := T.na_Listed_many
    have fx2 := T.k_Listed_MOST
    refine ⟨_, (pss_cons (ps_if (pt_cmpR Z.op_gt (pv 1) (Z.con (K := K) rfl (pv 0) rfl) (nomark _)) (pss_one (Z.ps_raiseZ rfl (takes_of rfl rfl rfl rfl) (pmk_oex T.oe_TooMany T.si_TooMany.2.2.1 T.si_TooMany.2.2.2 (ok_TooMany___init__ T) (hr.mono (by decide)) T.b_TooMany___init__ .nil passL (by rfl) T.g_TooMany (pa_cons (pv 1) (pa_cons (Z.con (K := K) rfl (pv 0) rfl) pa_nil))))) pss_nil)
      (pss_one (ps_fld (pv 0) (pv 1) rfl))), ?_⟩
    try dsimp only [cxOf, Cx.nox, Cx.wish]
    try (show (_ : TS) _ [some _, some _] _)
    walk_at "go"
    refine Z.w_dec (fun h1 => ?_) (fun h1 => ?_)
    · walk_at "go"
      rename_i d H2 hn he hp
      exact hE h1 d H2 (e0.trans he) hp
    · walk_at "go"
      refine Z.w_put hx cl na (by decide) fun H2 h2 hk ho => ?_
      walk_at "go"
      exact k (by omega) H2 (hk H0 e0 hf) h2 ho

theorem any_ge (r : List Int) (n : Int) : ((List.range r.length).map fun j => decide (n ≤ r.getD j 0)).any id = false ↔ ∀ z ∈ r, z < n := by
  rw [List.any_eq_false]
  constructor
  · intro h z hz
    obtain ⟨i, hi, rfl⟩ := List.mem_iff_getElem.mp hz
    have := h _ (List.mem_map.2 ⟨i, List.mem_range.2 hi, rfl⟩)
    rw [getD_get _ _ _ hi] at this
    simpa using this
  · intro h b hb
    obtain ⟨i, hi, rfl⟩ := List.mem_map.1 hb
    have hi := List.mem_range.1 hi
    have := h _ (List.getElem_mem hi)
    rw [getD_get _ _ _ hi]
    simpa using this
def sp_Listed___init__ (K : PySem.W.Frag) : Sp := fun vs H Q E => ∃ (H0 : Hp) (x dx pl : Addr) (n : Int) (xs : List V) (ps : List (Int × List Int)), vs = [.ref x, .int n, .ref pl] ∧ At H x (.ins (He.ga K "Listed") dx []) ∧ Fr H0 x ∧ Ex H0 H ∧ At H0 pl (.lst xs) ∧ LPt H0 xs ps ∧ ps.length ≤ 1000 ∧ (∀ p ∈ ps, p.2.length ≤ 1000) ∧ LdErr K n ps E H0 ∧
  (LdGood n ps → ∀ H' tp ys, Ex H0 H' → At H' x (.ins (He.ga K "Listed") dx [("many", .int n), ("wishes", .ref tp)]) → At H' tp (.tup ys) → LPt H' ys ps → Q .non H')
theorem ok_Listed___init__ (T : Tx P K mg) : FnOk P w K mg base (L2.CX P w) 5 (He.ma K (He.ga K "Listed") "__init__") (Z.fdOf K (He.ma K (He.ga K "Listed") "__init__")) ["self", "many", "wishes"] (sp_Listed___init__ K) := by
  refine Z.FunS.okC (x0 := "self") T.F_Listed___init__ sc_Listed___init__ (by decide +kernel) rfl rfl rfl (.inl (by decide +kernel)) (by decide +kernel) T.p_top T.n_super T.c_Listed (by decide +kernel) (fun vs H Q E h => ?_) (fun cc cda A outer s H vs Q E hr h S => ?_)
  · obtain ⟨H0, x, dx, pl, n, xs, ps, rfl, _⟩ := h
    rfl
  · obtain ⟨H0, x, dx, pl, n, xs, ps, rfl, hx, hf, e0, hp0, hL0, hpl, hnl, hE, k⟩ := h
    have fx0 := T.o_Listed.cl
    have fx1 := T.na_Listed_wishes
    refine ⟨_, _, (Z.ps_supE (Z.pe_sup S T.mro_Listed_Listed T.third T.sm_Listed_Listed___init__.1 T.sm_Listed_Listed___init__.2.1 T.sm_Listed_Listed___init__.2.2 (Z.rawOk (ok_Listed_Rule___init__ T) T.b_Rule___init__) (hr.mono (by decide)) (fun σ => passAt (takes_of rfl rfl rfl rfl) σ) (pa_cons (pv 1) pa_nil))), (pss_cons (ps_if (pt_cmpR (Z.op_eq (K := K) rfl hr.units) (pe_callB (Z.call_len (K := K) rfl) (by rfl) T.n_len (by decide +kernel) (pa_cons (pv 2) pa_nil)) pe_int (nomark _)) (pss_one (ps_raise rfl (takes_of rfl rfl rfl rfl) (pmk_own PySem.F.excBase_ValueError T.x_NoBuyers.1 T.g_NoBuyers T.x_NoBuyers.2.1 (raises_own T.x_NoBuyers.2.2.1 T.x_NoBuyers.2.2.2) (by exact rfl)))) pss_nil)
      (pss_cons (ps_for (passes_of rfl) rfl (pi_enum (by rfl) T.n_enumerate (pa_cons (pv 2) pa_nil)) (pg_tup (by rfl) (pgs_cons (pg_name (i := 4) sc_Listed___init__.nd rfl (by first | exact Or.inl rfl | exact Or.inr rfl)) (pgs_cons (pg_tup (by rfl) (pgs_cons (pg_name (i := 5) sc_Listed___init__.nd rfl (by first | exact Or.inl rfl | exact Or.inr rfl)) (pgs_cons (pg_name (i := 6) sc_Listed___init__.nd rfl (by first | exact Or.inl rfl | exact Or.inr rfl)) pgs_nil))) pgs_nil))) (pss_cons (ps_if (pt_cmpR Z.op_lt (pv 5) pe_int (nomark _)) (pss_one (Z.ps_raiseZ rfl (takes_of rfl rfl rfl rfl) (pmk_oex T.oe_BadNumber T.si_BadNumber.2.2.1 T.si_BadNumber.2.2.2 (ok_BadNumber___init__ T) (hr.mono (by decide)) T.b_BadNumber___init__ .nil passL (by rfl) T.g_BadNumber (pa_cons pe_str (pa_cons (pv 4) pa_nil))))) pss_nil)
      (pss_one (ps_if (PW.pt (pw_or (pt_not (pt_val (Z.pe_callZ (ok_is_wish T) (hr.mono (by decide)) (by rfl) T.g_is_wish T.F_is_wish.kp T.b_is_wish .nil (fun σ => passAt (takes_of rfl rfl rfl rfl) σ) (pa_cons (pv 6) pa_nil)))) (pw_or1 (pt_val (pe_callB (Z.call_any (K := K) rfl rfl) (by rfl) T.n_any (by decide +kernel) (pa_cons (pe_lc (own := [("thing", 7)]) rfl sc_Listed___init__.nd (Z.piT (K := K) rfl (pv 6)) (blkOk_by (N := ["self", "many", "wishes", "__class__", "at", "buyers", "things", "thing"]) (sc := defScope s_Listed___init__) (by decide +kernel)) (fun _ _ _ _ _ => (pg_name (i := 7) sc_Listed___init__.nd rfl (by first | exact Or.inl rfl | exact Or.inr rfl))) (fun _ _ _ _ _ => pts_nil) (fun _ _ _ _ _ => (pe_cmpR Z.op_ge (pv 7) (pv 1) (nomark _)))) pa_nil)))))) (pss_one (Z.ps_raiseZ rfl (takes_of rfl rfl rfl rfl) (pmk_oex T.oe_BadWish T.si_BadWish.2.2.1 T.si_BadWish.2.2.2 (ok_BadWish___init__ T) (hr.mono (by decide)) T.b_BadWish___init__ .nil passL (by rfl) T.g_BadWish (pa_cons (pv 4) pa_nil)))) pss_nil))))
      (pss_one (ps_fld (pv 0) (pe_callTy (Z.call_tuple (K := K) rfl) (by rfl) T.n_tuple (by decide +kernel) (pa_cons (pe_lc (own := [("buyers", 5), ("things", 6)]) (g := (gTup K 2 (gCons (gName 5) (gCons (gName 6) gNil)))) rfl sc_Listed___init__.nd (Z.piL (K := K) rfl (pv 2)) (blkOk_by (N := ["self", "many", "wishes", "__class__", "at", "buyers", "things", "thing"]) (sc := defScope s_Listed___init__) (by decide +kernel)) (fun _ _ _ _ _ => (pg_tup (by rfl) (pgs_cons (pg_name (i := 5) sc_Listed___init__.nd rfl (by first | exact Or.inl rfl | exact Or.inr rfl)) (pgs_cons (pg_name (i := 6) sc_Listed___init__.nd rfl (by first | exact Or.inl rfl | exact Or.inr rfl)) pgs_nil)))) (fun _ _ _ _ _ => pts_nil) (fun _ _ _ _ _ => (pe_tup (pa_cons (pv 5) (pa_cons (pe_callTy (Z.call_tuple (K := K) rfl) (by rfl) T.n_tuple (by decide +kernel) (pa_cons (pv 6) pa_nil)) pa_nil))))) pa_nil)) rfl)))), ?_⟩
    change tSeq _ _ _ [some _, some _, some _, none, none, none, none, none] _
    try dsimp only [Z.scx, NdefX.ncx]
    walk_at "go"
    refine ⟨H0, x, dx, n, rfl, hx, hf, e0, fun h d H' e hd => hE.1 h d H' e hd, fun hn H1 e1 hx1 ho1 => ?_⟩
    have hp1 := e1.get hp0
    have hL1 := hL0.ex e1
    have hxl := hL1.1
    clear hx hp0
    walk_at "go"
    refine Z.w_dec (fun h => ?_) (fun h => ?_)
    · walk_at "go"
      exact hE.2.1 hn (List.length_eq_zero_iff.mp (by omega)) _ e1
    have hne : ps ≠ [] := fun z => h (by rw [hxl, z]; rfl)
    clear h
    walk_at "go"
    rename_i J S
    refine Z.fg S (fun i σ G => ∃ (v4 v5 v6 : Option V), σ = [some (.ref x), some (.int n), some (.ref pl), none, v4, v5, v6, none] ∧ Ex H1 G ∧ ∀ j, j < i → PGood n (ps.getD j (0, []))) ⟨none, none, none, rfl, Ex.refl _, fun j hj => absurd hj (by omega)⟩ (fun i σ' G _ ⟨_, _, _, _, e, _⟩ => e.l (sq_of hp1)) ?_ ?_
    · rintro i y σ' G G2 hi ⟨v4, v5, v6, rfl, eG, hall⟩ e2 ⟨t, z, rfl, ht, hz⟩
      have hi2 : i < ps.length := by omega
      have eG2 := eG.trans e2
      have e02 := e1.trans eG2
      obtain ⟨a, tq, g1, g2, g3⟩ := (hL1.ex eG2).2 i hi2
      rw [g1] at hz
      cases hz
      have hlen : (ps.getD i (0, [])).2.length ≤ 1000 := hnl _ (by rw [getD_get _ _ _ hi2]; exact List.getElem_mem _)
      have hyes : PGood n (ps.getD i (0, [])) → ∀ j, j < i + 1 → PGood n (ps.getD j (0, [])) := fun h j hj => by
        by_cases e : j = i
        · subst e; exact h
        · exact hall j (by omega)
      have hno1 : (ps.getD i (0, [])).1 < 1 → LdRes n ps i true := fun h => .num i hi2 h hall
      have hno2 : 1 ≤ (ps.getD i (0, [])).1 → ¬ PGood n (ps.getD i (0, [])) → LdRes n ps i false := fun h1 h => .wish i hi2 h1 h hall
      clear hp1 hx1 hall
      generalize ps.getD i (0, []) = p at *
      obtain ⟨b, ns⟩ := p
      walk_at "go"
      refine Z.w_dec (fun h => ?_) (fun h => ?_)
      · walk_at "go"
        rename_i d H5 hn5 he5 hp5
        exact hE.2.2.1 hn i (hno1 h) d H5 (e02.trans he5) hp5
      have hb1 : 1 ≤ b := by have h : ¬ b < 1 := h; omega
      walk_at "go"
      refine ⟨tq, ns, rfl, .inl g3, by have : ns.length ≤ 1000 := hlen; omega, fun H3 e3 => ?_⟩
      have g33 : SqT K H3 tq (ns.map V.int) := .inl (e3.rd g3)
      have e03 := e02.trans e3
      clear g3 g2
      walk_at "go"
      refine Z.w_ndec (fun h => ?_) (fun hw => ?_)
      · walk_at "go"
        rename_i d H5 hn5 he5 hp5
        exact hE.2.2.2 hn i (hno2 hb1 fun z => h z.2.1) d H5 (e03.trans he5) hp5
      walk_at "go"
      rename_i J3 S3
      refine Z.cgF S3 (fun j => .bl (decide (n ≤ ns.getD j 0))) (fun H' e => e.t g33) (by rw [List.length_map]; show _ ≤ 16777216; have : ns.length ≤ 1000 := hlen; omega) (fun Dl j y G5 hj ec cd hy => ?_) (fun p7 G7 hn7 he7 hp7 => ?_) rfl
      · obtain ⟨hj2, rfl⟩ := get_int hy
        walk_at "go"
      · have hp8 : SqL K G7 p7 (((List.range ns.length).map fun j => decide (n ≤ ns.getD j 0)).map V.bl) := by
          rw [List.map_map]
          rw [List.length_map] at hp7
          exact sq_of hp7
        have ha := any_ge ns n
        refine ⟨p7, _, rfl, hp8, ?_⟩
        generalize ((List.range ns.length).map fun j => decide (n ≤ ns.getD j 0)).any id = bb at *
        cases bb with
        | true =>
          walk_at "run"
          rename_i d H5 hn5 he5 hp5
          exact hE.2.2.2 hn i (hno2 hb1 fun z => by have := ha.2 z.2.2; cases this) d H5 ((e03.trans he7).trans he5) hp5
        | false =>
          walk_at "run"
          exact ⟨_, _, _, rfl, (eG2.trans e3).trans he7, hyes ⟨hb1, hw, ha.1 rfl⟩⟩
    · rintro σ' G ⟨v4, v5, v6, rfl, eG, hall⟩
      rw [hxl] at hall
      have hxG := eG.get hx1
      have hpG := eG.get hp1
      have hLG := hL1.ex eG
      clear hx1 hp1
      walk_at "go"
      rename_i J2 S2
      refine Z.cgX S2 (fun k acc G' => LPt G' acc (ps.take k)) (fun H' e => LPt.nil) (fun k acc Ga Gb h e => h.ex e) (fun H' e => e.l (sq_of hpG)) (by rw [hxl]; show _ ≤ 16777216; omega) (fun Dl kq z G2 acc hk ec cd hl hP hy => ?_) (fun p7 H7 acc hn7 he7 hp7 hl7 hP7 => ?_) rfl
      · have hk2 : kq < ps.length := by omega
        obtain ⟨a, tq, g1, g2, g3⟩ := (hLG.ex ec).2 kq hk2
        rw [g1] at hy
        cases hy
        have htk := take_snoc hk2 (0, [])
        have g3s : SqT K G2 tq ((ps.getD kq (0, [])).2.map V.int) := .inl g3
        walk_at "go"
        rename_i pt H3 hn3 he3 hp3
        refine Z.elx cd hl (by rw [hl]; show kq < 16777216; omega) he3 fun H5 hnl => ?_
        rw [htk]
        exact ((hP.ex he3).nl hnl).snoc (hnl.get (fun l z => by cases z) hp3) (nlRd hnl (he3.rd g3))
      · rw [hxl, List.take_length] at hP7
        walk_at "go"
        rename_i tp H8 hn8 he8 hp8
        have hx8 := he8.get (he7.get hxG)
        refine Z.w_putE hx8 fx0 fx1 (by show 1 < 900; decide) (by simp only [List.map_cons, List.map_nil]; decide +kernel) fun H9 h9 hk9 ho9 => ?_
        have e09 : Ex H0 H9 := hk9 H0 (e1.trans (eG.trans (he7.trans he8))) hf
        walk_at "go"
        have hL8 := hP7.ex he8
        have ne : ∀ {b : Addr} {ys : List V}, At H8 b (.tup ys) → b ≠ x := fun hb z => by subst z; cases hx8.inj hb
        refine k ⟨hn, hne, hall⟩ H9 tp acc e09 h9 (ho9 tp _ (ne hp8) hp8) ⟨hL8.1, fun i hi => ?_⟩
        obtain ⟨a, t, q1, q2, q3⟩ := hL8.2 i hi
        exact ⟨a, t, q1, ho9 a _ (ne q2) q2, by
          rcases q3 with q3 | ⟨o, q3⟩
          · exact .inl (ho9 t _ (ne q3) q3)
          · exact .inr ⟨o, ho9 t _ (fun z => by subst z; cases hx8.inj q3) q3⟩⟩
/-- Listed(n, pl) -/
theorem mkLd {H : Hp} {Q : VK} {E : XK} {pl : Addr} {n : Int} {xs : List V} {ps : List (Int × List Int)} (hp : At H pl (.lst xs)) (hL : LPt H xs ps) (hl : ps.length ≤ 1000) (hb : ∀ p ∈ ps, p.2.length ≤ 1000) (hE : LdErr K n ps E H) (k : LdGood n ps → ∀ x H', Fr H x → Ex H H' → LdR K H' x n ps → Q (.ref x) H') :
    dMk (He.ga K "Listed") (sp_Listed___init__ K) [] E Q [.int n, .ref pl] H :=
  w_dMk fun x dx H2 nw => ⟨H, x, dx, pl, n, xs, ps, rfl, nw.at_, nw.new, nw.ex, hp, hL, hl, hb, hE, fun h1 H' tp ys e h2 h3 h4 => ⟨rfl, k h1 x H' nw.new e ⟨dx, tp, ys, h2, h3, h4⟩⟩⟩

def sp_Listed_shares (K : PySem.W.Frag) : Sp := fun vs H Q E => ∃ (x l : Addr) (n : Int) (ps : List (Int × List Int)) (B : Nat) (lot : List Int), vs = [.ref x, .ref l] ∧ LdR K H x n ps ∧ LdGood n ps ∧ 0 ≤ n ∧ SqT K H l (lot.map V.int) ∧ ps.length ≤ 1000 ∧ (∀ p ∈ ps, p.2.length ≤ 1000) ∧ ldT ps < 2 ^ B ∧ 1 ≤ B ∧ 2 * B + 3 ≤ 13400 ∧ (¬ IsLot n lot → ∀ H', Ex H H' → E (.ref (He.ga K "BadLot")) none H') ∧
  (IsLot n lot → ∀ p H' xs, Fr H p → Ex H H' → At H' p (.lst xs) → RL (He.ga K "Ratio") H' xs (ldSh n ps lot) B → Q (.ref p) H')
theorem LdR.rb {K : PySem.W.Frag} {H : Hp} {x : Addr} {n : Int} {ps : List (Int × List Int)} (h : LdR K H x n ps) (h0 : 0 ≤ n) (h6 : n ≤ 24) : RB (He.ga K "Listed") H x n := by
  obtain ⟨dx, tp, ys, h1, h2, h3⟩ := h
  refine ⟨dx, _, h1, rfl, fun m hm => ?_, h0, h6⟩
  have e1 : (m == ("many" : Str)) = false := by revert m; decide +kernel
  have e2 : (m == ("wishes" : Str)) = false := by revert m; decide +kernel
  simp only [List.lookup, e1, e2]
theorem range_fst (ps : List (Int × List Int)) : ((List.range ps.length).map fun i => (ps.getD i (0, [])).1) = ps.map Prod.fst := by
  apply List.ext_getElem
  · rw [List.length_map, List.length_range, List.length_map]
  · intro i h1 h2
    rw [List.length_map] at h2
    rw [List.getElem_map, List.getElem_map, List.getElem_range, getD_get _ _ _ h2]
theorem ok_Listed_shares (T : Tx P K mg) : FnOk P w K mg base (L2.CX P w) 5 (He.ma K (He.ga K "Listed") "shares") (Z.fdOf K (He.ma K (He.ga K "Listed") "shares")) ["self", "lot"] (sp_Listed_shares K) := by
  refine Z.FunS.ok (x0 := "self") T.F_Listed_shares sc_Listed_shares (by decide +kernel) rfl rfl rfl (by decide +kernel) (by decide +kernel) T.p_top T.n_super T.c_Listed (fun vs H Q E h => ?_) (fun cc cda A outer s H vs Q E hr h S => ?_)
  · obtain ⟨x, l, n, ps, B, lot, rfl, _⟩ := h
    rfl
  · obtain ⟨x, l, n, ps, B, lot, rfl, hx, hg, hn0, hl, hpl, hpn, hT, hB1, hB9, hE, k⟩ := h
    have hrb := hx.rb hn0 hg.1
    obtain ⟨dx, tp, ys, hat, htp, hLP⟩ := id hx
    have hyl := hLP.1
    obtain ⟨ds3_Ratio___init__, vd3_Ratio___init__, bd3_Ratio___init__⟩ := T.b3_Ratio___init__
    have fx0 := T.o_Listed.cl
    have fx1 := T.na_Listed_wishes
    refine ⟨_, _, (Z.ps_supA (i := 3) sc_Listed_shares.nd rfl (by first | exact Or.inl rfl | exact Or.inr rfl) (Z.pe_sup S T.mro_Listed_Listed T.third T.sm_Listed_Listed_shares.1 T.sm_Listed_Listed_shares.2.1 T.sm_Listed_Listed_shares.2.2 (Z.rawOk (ok_Listed_Rule_shares T) T.b_Rule_shares) (hr.mono (by decide)) (fun σ => passAt (takes_of rfl rfl rfl rfl) σ) (pa_cons (pv 1) pa_nil))), (pss_cons (ps_set (i := 4) sc_Listed_shares.nd rfl (Or.inl rfl) (pe_callB (Z.call_sum (K := K) rfl rfl) (by rfl) T.n_sum (by decide +kernel) (pa_cons (pe_lc (own := [("buyers", 5), ("_", 9)]) (g := (gTup K 2 (gCons (gName 5) (gCons (gName 9) gNil)))) rfl sc_Listed_shares.nd (Z.piT (K := K) rfl (Z.fld (K := K) rfl (pv 0) rfl)) (blkOk_by (N := ["self", "lot", "__class__", "row", "everyone", "buyers", "things", "wish", "taken", "_"]) (sc := defScope s_Listed_shares) (by decide +kernel)) (fun _ _ _ _ _ => (pg_tup (by rfl) (pgs_cons (pg_name (i := 5) sc_Listed_shares.nd rfl (by first | exact Or.inl rfl | exact Or.inr rfl)) (pgs_cons (pg_name (i := 9) sc_Listed_shares.nd rfl (by first | exact Or.inl rfl | exact Or.inr rfl)) pgs_nil)))) (fun _ _ _ _ _ => pts_nil) (fun _ _ _ _ _ => (pv 5))) pa_nil)))
      (pss_cons (ps_for (passes_of rfl) rfl (Z.piT (K := K) rfl (Z.fld (K := K) rfl (pv 0) rfl)) (pg_tup (by rfl) (pgs_cons (pg_name (i := 5) sc_Listed_shares.nd rfl (by first | exact Or.inl rfl | exact Or.inr rfl)) (pgs_cons (pg_name (i := 6) sc_Listed_shares.nd rfl (by first | exact Or.inl rfl | exact Or.inr rfl)) pgs_nil))) (pss_cons (ps_set (i := 7) sc_Listed_shares.nd rfl (Or.inl rfl) (Z.pe_makeZ T.mk_Wish (ok_Wish___init__ T) (hr.mono (by decide)) (by rfl) T.g_Wish T.b_Wish___init__ .nil (fun σ => passAt (takes_of rfl rfl rfl rfl) σ) (pa_cons (pv 6) pa_nil)))
      (pss_cons (ps_set (i := 8) sc_Listed_shares.nd rfl (Or.inl rfl) (Z.pe_callO (pv 7) T.co_Wish (Z.rawOk (ok_Wish___call__ T) T.b_Wish___call__) (hr.mono (by decide)) passL (pa_cons (pv 1) pa_nil)))
      (pss_one (ps_if (pt_cmp (pc_notN (pv 8))) (pss_one (ps_asg (Z.pe_opS (Z.opS_OO T.o_Ratio T.me_Ratio___add__.at_ T.me_Ratio___add__.fn (Z.rawOk (ok_Ratio___add__ T) T.b_Ratio___add__) (hr.mono (by decide)) (fun σ => passAt (takes_of rfl rfl rfl rfl) σ)) (pe_ix (Z.ix (K := K) rfl) (pv 3) (pv 8) (fun _ _ => rfl)) (Z.pe_makeZ T.mk_Ratio (ok_Ratio___init__ T) (hr.mono (by decide)) (by rfl) T.g_Ratio bd3_Ratio___init__ vd3_Ratio___init__ (fun σ => passAt (takes_of rfl rfl rfl rfl) σ) (pa_cons (pv 5) (pa_cons (pv 4) pa_nil)))) (pg_sub (pv 3) (pv 8) set_list))) pss_nil)))))
      (pss_one (ps_ret (pv 3))))), ?_⟩
    change tSeq _ _ _ [some _, some _, none, none, none, none, none, none, none, none] _
    try dsimp only [Z.scx, NdefX.ncx]
    walk_at "go"
    refine ⟨x, l, n, lot, rfl, hrb, hl, hE, fun hlot p H1 xs hp e1 hat1 hxs => ?_⟩
    have hatG := e1.get hat
    have htpG := e1.get htp
    have hLP1 := hLP.ex e1
    clear hat htp
    walk_at "go"
    rename_i J S
    refine Z.cgI S (fun i => (ps.getD i (0, [])).1) (fun H' e => e.t (st_of htpG)) (by rw [hyl]; show _ ≤ 16777216; omega) (fun Dl i y G3 hi ec cd hy => ?_) (fun p2 H2 hn2 he2 hp2 => ?_) rfl
    · obtain ⟨a, t, g1, g2, g3⟩ := (hLP1.ex ec).2 i (by omega)
      rw [g1] at hy
      cases hy
      walk_at "go"
    rw [hyl, range_fst] at hp2
    have hpg : ∀ q ∈ ps, PGood n q := fun q hq => by
      obtain ⟨i, hi, rfl⟩ := List.mem_iff_getElem.mp hq
      have := hg.2.2 i hi
      rwa [getD_get _ _ _ hi] at this
    have hTp := (ldT_pos hpg).2 hg.2.1
    have hnz : ldT ps ≠ 0 := by omega
    have hD : (ldT ps).natAbs < 2 ^ B := by
      have h1 : ((ldT ps).natAbs : Int) < ((2 ^ B : Nat) : Int) := by
        rw [Int.natAbs_of_nonneg (by omega), Int.natCast_pow]
        exact hT
      exact_mod_cast h1
    have hsm : ∀ z : Int, 0 ≤ z → z ≤ ldT ps → z.natAbs < 2 ^ B := fun z h0 h1 => by omega
    have hat2 := he2.get hat1
    have hxs2 := hxs.ex he2
    have htp2 := he2.get htpG
    have hxG2 := he2.get hatG
    have hLP2 := hLP1.ex he2
    have e02 := e1.trans he2
    clear hat1 hxs htpG hatG hLP1 hn2
    walk_at "go"
    rename_i J2 S2
    have eT : (ps.map Prod.fst).sum = ldT ps := rfl
    rw [eT]
    clear hp2
    refine Z.fg S2 (fun i σ G => ∃ (v5 v6 v7 v8 : Option V) (rs : List V), σ = [some (.ref x), some (.ref l), none, some (.ref p), some (.int (ldT ps)), v5, v6, v7, v8, none] ∧ Ex H G ∧ At G tp (.tup ys) ∧ LPt G ys ps ∧ At G p (.lst rs) ∧ RL (He.ga K "Ratio") G rs (ldI n (ldT ps) (ps.take i) lot) B)
      ⟨none, none, none, none, xs, rfl, e02, htp2, hLP2, hat2, ?_⟩ (fun i σ' G _ ⟨_, _, _, _, _, _, _, h, _⟩ => st_of h) ?_ ?_
    · rw [List.take_zero, ldI_nil]
      exact hxs2.mono hB1 (by omega)
    · rintro i y σ' G G2 hi ⟨v5, v6, v7, v8, rs, rfl, eG, htG, hLG, hG, hR⟩ e2 hy
      have hi2 : i < ps.length := by omega
      have hLG2 := hLG.ex e2
      have htG2 := e2.get htG
      have hG2 := e2.get hG
      have hR2 := hR.ex e2
      have eG2 := eG.trans e2
      obtain ⟨a, t, g1, g2, g3⟩ := hLG2.2 i hi2
      rw [g1] at hy
      cases hy
      have htk := take_snoc hi2 (0, [])
      have hm : ps.getD i (0, []) ∈ ps := by rw [getD_get _ _ _ hi2]; exact List.getElem_mem _
      have hq := hpg _ hm
      have hql := hpn _ hm
      have hSb := fun t => ldS_bd (lot := lot) (t := t) (ps := ps.take (i + 1)) fun q hq => hpg q (List.mem_of_mem_take hq)
      have hTk := ldT_take hpg (i + 1)
      have hqT : (ps.getD i (0, [])).1 ≤ ldT ps := by
        have h1 := ldT_take hpg (i + 1)
        have h2 := (ldT_pos (ps := ps.take i) fun q hq => hpg q (List.mem_of_mem_take hq)).1
        have h3 : ldT (ps.take (i + 1)) = ldT (ps.take i) + (ps.getD i (0, [])).1 := by rw [htk]; unfold ldT; rw [List.map_append, List.sum_append]; simp
        omega
      rw [htk]
      rw [htk] at hSb hTk
      generalize ps.getD i (0, []) = q at *
      obtain ⟨b, ns⟩ := q
      have hb1 : 1 ≤ b := hq.1
      have hbb := hsm b (by omega) hqT
      have hlG2 := eG2.t hl
      clear hG htG hR hLG hat2 htp2
      walk_at "go"
      refine mkWi g3 (by have : ns.length ≤ 1000 := hql; omega) (fun h => absurd hq.2.1 h) fun _ xw H3 hn3 he3 hw3 => ?_
      have hG3 := he3.get hG2
      have hR3 := hR2.ex he3
      have htG3 := he3.get htG2
      have hLG3 := hLG2.ex he3
      have eG3 := eG2.trans he3
      have hlG3 := he3.t hlG2
      obtain ⟨dw, tw, hw4, hw5⟩ := id hw3
      clear hG2 htG2 hR2 hLG2 g2 g3 hlG2 hn3
      walk_at "go"
      refine ⟨xw, l, ns, lot, rfl, hw3, hlG3, fun H4 he4 => ?_⟩
      have hG4 := he4.get hG3
      have hR4 := hR3.ex he4
      have htG4 := he4.get htG3
      have hLG4 := hLG3.ex he4
      have eG4 := eG3.trans he4
      clear hG3 htG3 hR3 hLG3 hw3 hw4 hw5 hlG3
      cases hf : fIn ns lot with
      | none =>
        dsimp only [optV]
        walk_at "run"
        exact ⟨_, _, _, _, rs, rfl, eG4, htG4, hLG4, hG4, by rw [ldI_none hf]; exact hR4⟩
      | some t0 =>
        obtain ⟨m1, m2⟩ := fIn_mem hf
        have ht0 := hlot.2 t0 m2
        obtain ⟨tn, rfl⟩ := Int.eq_ofNat_of_zero_le ht0.1
        have htn : tn < n.toNat := by omega
        have hrl : rs.length = n.toNat := by rw [hR4.1, ldI_len]
        have hll := ldI_len n (ldT ps) (ps.take i) lot
        dsimp only [optV]
        walk_at "run"
        rename_i ra hra p5 H5 hn5 he5 hr5 p6 H6 hn6 he6 hr6 H7 hp7 hnl7 ho7 hke7
        rw [Int.toNat_natCast] at hr6 hp7
        have e46 := he5.trans he6
        refine ⟨_, _, _, _, _, rfl, hke7, hnl7.get (fun l z => by cases z) (e46.get htG4), (hLG4.ex e46).nl hnl7, hp7, ?_⟩
        rw [ldI_some hnz hf htn]
        have hq6 : RN (He.ga K "Ratio") H6 p6 ((ldI n (ldT ps) (ps.take i) lot).getD tn 0 + Rat.divInt b (ldT ps)) B := by
          refine ⟨hr6.at_, ?_, by omega⟩
          have h1 := hSb (tn : Int)
          rw [ldS_snoc, hf, if_pos rfl] at h1
          rw [ldI_get htn, div_add_same hnz]
          exact sz_div hnz (hsm _ h1.1 (by have h2 := h1.2; have h3 := hTk; omega)) hD
        exact ((hR4.ex e46).nl hnl7).set (hq6.nl hnl7)
    · rintro σ' G ⟨v5, v6, v7, v8, rs, rfl, eG, htG, hLG, hG, hR⟩
      rw [hyl, List.take_length] at hR
      walk_at "go"
      exact k hlot p G rs hp eG hG hR
/-- lists of wishes -/
def Rep_Listed (K : PySem.W.Frag) (H : Hp) (x : Addr) (n : Int) (sh : List Int → List Rat) (b : Nat) : Prop := ∃ ps B, LdR K H x n ps ∧ LdGood n ps ∧ 0 ≤ n ∧ sh = ldSh n ps ∧ ps.length ≤ 1000 ∧ (∀ p ∈ ps, p.2.length ≤ 1000) ∧ ldT ps < 2 ^ B ∧ 1 ≤ B ∧ B ≤ b ∧ 2 * B + 3 ≤ 13400 ∧ b ≤ 13400
theorem Rep_Listed.ex {K : PySem.W.Frag} {H H' : Hp} {x : Addr} {n : Int} {sh : List Int → List Rat} {b : Nat} (h : Rep_Listed K H x n sh b) (e : Ex H H') : Rep_Listed K H' x n sh b := by
  obtain ⟨ps, B, h1, h2⟩ := h
  exact ⟨ps, B, h1.ex e, h2⟩
theorem Rep_Listed.nl {K : PySem.W.Frag} {H H' : Hp} {x : Addr} {n : Int} {sh : List Int → List Rat} {b : Nat} (h : Rep_Listed K H x n sh b) (e : Nl H H') : Rep_Listed K H' x n sh b := by
  obtain ⟨ps, B, h1, h2⟩ := h
  exact ⟨ps, B, h1.nl e, h2⟩
theorem Rep_Listed.rb {K : PySem.W.Frag} {H : Hp} {x : Addr} {n : Int} {sh : List Int → List Rat} {b : Nat} (h : Rep_Listed K H x n sh b) : RB (He.ga K "Listed") H x n := by
  obtain ⟨ps, B, h1, h2, h3, _⟩ := h
  exact h1.rb h3 h2.1
theorem Rep_Listed.len {K : PySem.W.Frag} {H : Hp} {x : Addr} {n : Int} {sh : List Int → List Rat} {b : Nat} (h : Rep_Listed K H x n sh b) (lot : List Int) : (sh lot).length = n.toNat := by
  obtain ⟨ps, B, h1, h2, h3, rfl, _⟩ := h
  exact ldI_len _ _ _ _
theorem LdR.rep {K : PySem.W.Frag} {H : Hp} {x : Addr} {n : Int} {ps : List (Int × List Int)} {B : Nat} (h : LdR K H x n ps) (hg : LdGood n ps) (h0 : 0 ≤ n) (h1 : ps.length ≤ 1000) (h2 : ∀ p ∈ ps, p.2.length ≤ 1000) (hT : ldT ps < 2 ^ B) (hB : 1 ≤ B) (h9 : 2 * B + 3 ≤ 13400) : Rep_Listed K H x n (ldSh n ps) B := ⟨ps, B, h, hg, h0, rfl, h1, h2, hT, hB, Nat.le_refl _, h9, by omega⟩
theorem use_Listed_shares {H : Hp} {Q : VK} {E : XK} {x l : Addr} {n : Int} {sh : List Int → List Rat} {b : Nat} {lot : List Int} (hx : Rep_Listed K H x n sh b) (hl : SqT K H l (lot.map V.int)) (hE : ¬ IsLot n lot → ∀ H', Ex H H' → E (.ref (He.ga K "BadLot")) none H')
    (k : IsLot n lot → ∀ p H' xs, Fr H p → Ex H H' → At H' p (.lst xs) → RL (He.ga K "Ratio") H' xs (sh lot) b → Q (.ref p) H') : sp_Listed_shares K [.ref x, .ref l] H Q E := by
  obtain ⟨ps, B, h1, h2, h3, rfl, h4, h5, h6, h7, h8, h9, h10⟩ := hx
  exact ⟨x, l, n, ps, B, lot, rfl, h1, h2, h3, hl, h4, h5, h6, h7, h9, hE, fun h p H' xs g1 g2 g3 g4 => k h p H' xs g1 g2 g3 (g4.mono h8 h10)⟩

def sp_Listed_worth (K : PySem.W.Frag) : Sp := fun vs H Q E => ∃ (x l pl : Addr) (n : Int) (sh : List Int → List Rat) (b : Nat) (lot ps : List Int), vs = [.ref x, .ref l, .ref pl] ∧ Rep_Listed K H x n sh b ∧ SqT K H l (lot.map V.int) ∧ SqL K H pl (ps.map V.int) ∧ n.toNat * (b + 66) + 66 ≤ 13400 ∧ (∀ x ∈ ps, x.natAbs < 2 ^ 64) ∧ PErr K n ps E H ∧
  (PricesOk n ps → ¬ IsLot n lot → ∀ H', Ex H H' → E (.ref (He.ga K "BadLot")) none H') ∧ (PricesOk n ps → IsLot n lot → ∀ p H', Fr H p → Ex H H' → RN (He.ga K "Ratio") H' p (worthQ (sh lot) lot ps) (n.toNat * (b + 66) + 65) → Q (.ref p) H')
theorem ok_Listed_worth (T : Tx P K mg) : FnOk P w K mg base (L2.CX P w) 6 (He.ma K (He.ga K "Rule") "worth") (Z.fdOf K (He.ma K (He.ga K "Rule") "worth")) ["self", "lot", "prices"] (sp_Listed_worth K) := by
  refine T.F_Rule_worth.ok sc_Rule_worth (fun vs H Q E h => ?_) (fun cdv A outer s H vs Q E hr h => ?_)
  · obtain ⟨x, l, pl, n, sh, b, lot, ps, rfl, _⟩ := h
    rfl
  · obtain ⟨x, l, pl, n, sh, b, lot, ps, rfl, hx, hl, hp, hb, hps, hPE, hE, k⟩ := h
    have hrb := hx.rb
    have hlen := hx.len lot
    obtain ⟨_, _, _, _, _, hn0, hn1⟩ := id hrb
    obtain ⟨ds2_Ratio___init__, vd2_Ratio___init__, bd2_Ratio___init__⟩ := T.b2_Ratio___init__
    have fx0 := T.o_Listed.cl
    have fx1 := T.na_Listed_many
    refine ⟨_, (pss_cons (ps_expr (Z.pe_callZ (ok_check_prices T) (hr.mono (by decide)) (by rfl) T.g_check_prices T.F_check_prices.kp T.b_check_prices .nil (fun σ => passAt (takes_of rfl rfl rfl rfl) σ) (pa_cons (pv 2) (pa_cons (Z.fld (K := K) rfl (pv 0) rfl) pa_nil))))
      (pss_cons (ps_set (i := 3) sc_Rule_worth.nd rfl (Or.inl rfl) (Z.pe_methZ (pv 0) T.o_Listed.cl T.me_Listed_shares (ok_Listed_shares T) (hr.mono (by decide)) T.b_Listed_shares .nil (fun σ => passAt (takes_of rfl rfl rfl rfl) σ) (pa_cons (pv 1) pa_nil)))
      (pss_cons (ps_set (i := 4) sc_Rule_worth.nd rfl (Or.inl rfl) (Z.pe_makeZ T.mk_Ratio (ok_Ratio___init__ T) (hr.mono (by decide)) (by rfl) T.g_Ratio bd2_Ratio___init__ vd2_Ratio___init__ (fun σ => passAt (takes_of rfl rfl rfl rfl) σ) (pa_cons pe_int pa_nil)))
      (pss_cons (ps_for (passes_of rfl) rfl (Z.piT (K := K) rfl (pv 1)) (pg_name (i := 5) sc_Rule_worth.nd rfl (by first | exact Or.inl rfl | exact Or.inr rfl)) (pss_one (ps_set (i := 4) sc_Rule_worth.nd rfl (Or.inl rfl) (Z.pe_opS (Z.opS_OO T.o_Ratio T.me_Ratio___add__.at_ T.me_Ratio___add__.fn (Z.rawOk (ok_Ratio___add__ T) T.b_Ratio___add__) (hr.mono (by decide)) (fun σ => passAt (takes_of rfl rfl rfl rfl) σ)) (pv 4) (Z.pe_opS (Z.opS_OI T.o_Ratio T.me_Ratio___mul__.at_ T.me_Ratio___mul__.fn T.me_Ratio___rmul__.at_ (.inr ⟨_, rfl⟩) Z.has_mul (Z.rawOk (ok_Ratio___mul__ T) T.b_Ratio___mul__) (hr.mono (by decide)) (fun σ => passAt (takes_of rfl rfl rfl rfl) σ)) (pe_ix (Z.ix (K := K) rfl) (pv 3) (pv 5) (fun _ _ => rfl)) (pe_ix (Z.ix (K := K) rfl) (pv 2) (pv 5) (fun _ _ => rfl)))))))
      (pss_one (ps_ret (pv 4))))))), ?_⟩
    try dsimp only [cxOf, Cx.nox, Cx.wish]
    try (show (_ : TS) _ [some _, some _, some _, none, none, none] _)
    walk_at "go"
    refine ⟨pl, ps, n, rfl, hp, hPE, fun hok H0 he0 => ?_⟩
    walk_at "go"
    refine use_Listed_shares (hx.ex he0) (he0.t hl) (fun h H' e => hE hok h H' (he0.trans e)) fun hlot p1 H1 xs hp1 he1 hat hxs => ?_
    walk_at "go"
    rename_i p2 H2 hp2 he2 hr2 J S
    have hxl : xs.length = n.toNat := by rw [hxs.1, hlen]
    have hll := hlot.len
    refine Z.fg S (fun i σ G => ∃ (a : Addr) (v5 : Option V), σ = [some (.ref x), some (.ref l), some (.ref pl), some (.ref p1), some (.ref a), v5] ∧ Ex H2 G ∧ Fr H a ∧ RN (He.ga K "Ratio") G a (worthQ (sh lot) (lot.take i) ps) (65 + i * (b + 66)))
      ⟨p2, none, rfl, Ex.refl _, he0.back (he1.back hp2), hr2.eq (by exact_mod_cast rfl) (by omega) (by omega)⟩ (fun i σ' G _ ⟨_, _, _, e, _⟩ => e.t (he2.t (he1.t (he0.t hl)))) ?_ ?_
    · rintro i y σ' G G2 hi ⟨a, v5, rfl, eG, ha, hra⟩ e2 hy
      obtain ⟨hi2, rfl⟩ := get_int hy
      have ht := hlot.2 (lot.getD i 0) (by rw [getD_get _ _ _ hi2]; exact List.getElem_mem hi2)
      have hi3 : i * (b + 66) + (b + 66) ≤ n.toNat * (b + 66) := by
        have := Nat.mul_le_mul_right (b + 66) (show i + 1 ≤ n.toNat by omega)
        rw [Nat.add_mul, Nat.one_mul] at this
        exact this
      have hra2 := hra.ex e2
      have hxs2 := ((hxs.ex he2).ex eG).ex e2
      have hlq : lot.getD i 0 < (sh lot).length := by rw [hlen]; omega
      have hok1 := hok.1
      have hpb : (ps.getD (lot.getD i 0).toNat 0).natAbs < 2 ^ 64 := by
        rw [getD_get _ _ _ (show (lot.getD i 0).toNat < ps.length by omega)]; exact hps _ (List.getElem_mem _)
      walk_at "go"
      rename_i ra hra3 p3 H3 hn3 he3 hr3 p4 H4 hn4 he4 hr4
      refine ⟨p4, _, rfl, by walk_at "ex", ?_, hr4.eq ?_ ?_ ?_⟩
      · exact he0.back (he1.back (he2.back (eG.back (e2.back (he3.back hn4)))))
      · unfold worthQ
        rw [take_snoc hi2 0, List.map_append, List.map_singleton, sum_snocQ]
      · rw [Nat.add_mul, Nat.one_mul]; omega
      · rw [Nat.add_mul, Nat.one_mul]; omega
    · rintro σ' G ⟨a, v5, rfl, eG, ha, hra⟩
      rw [List.length_map, List.take_length] at hra
      have h5 : lot.length * (b + 66) ≤ n.toNat * (b + 66) := Nat.mul_le_mul_right _ hll
      walk_at "go"
      exact k hok hlot a G ha (((he0.trans he1).trans he2).trans eG) (hra.eq rfl (by omega) (by omega))

/-- Rule.best, by a walk over all lots -/
def sp_Listed_best (K : PySem.W.Frag) : Sp := fun vs H Q E => ∃ (x pl : Addr) (n : Int) (sh : List Int → List Rat) (b : Nat) (ps : List Int), vs = [.ref x, .ref pl] ∧ Rep_Listed K H x n sh b ∧ SqL K H pl (ps.map V.int) ∧ n.toNat * (b + 66) + 66 ≤ 13400 ∧ (∀ x ∈ ps, x.natAbs < 2 ^ 64) ∧
  (6 < n → ∀ d H', Ex H H' → At H' d (.xd [("most", .int 6), ("many", .int n)]) → E (.ref (He.ga K "TooMany")) (some d) H') ∧ (n ≤ 6 → PErr K n ps E H) ∧
  (n ≤ 6 → PricesOk n ps → ∀ p t z H' f, Ex H H' → At H' p (.tup [.ref t, .ref z]) → SqT K H' t ((lotI f n.toNat).map V.int) → RN (He.ga K "Ratio") H' z (wv sh ps n.toNat f) (n.toNat * (b + 66) + 65) → BestTo sh ps n.toNat (2 ^ n.toNat) f → Q (.ref p) H')
theorem ok_Listed_best (T : Tx P K mg) : FnOk P w K mg base (L2.CX P w) 7 (He.ma K (He.ga K "Rule") "best") (Z.fdOf K (He.ma K (He.ga K "Rule") "best")) ["self", "prices"] (sp_Listed_best K) := by
  refine T.F_Rule_best.ok sc_Rule_best (fun vs H Q E h => ?_) (fun cdv A outer s H vs Q E hr h => ?_)
  · obtain ⟨x, pl, n, sh, b, ps, rfl, _⟩ := h
    rfl
  · obtain ⟨x, pl, n, sh, b, ps, rfl, hx, hp, hb, hps, hT, hPE, k⟩ := h
    have hrb := hx.rb
    have cl := T.o_Listed.cl
    have kM := T.k_Listed_SMALL
    have na := T.na_Listed_many
    obtain ⟨_, _, _, _, _, hn0, hn1⟩ := id hrb
    have fx0 := T.o_Listed.cl
    have fx1 := T.na_Listed_many
    have fx2 := T.k_Listed_SMALL
    refine ⟨_, (pss_cons (ps_if (pt_cmpR Z.op_gt (Z.fld (K := K) rfl (pv 0) rfl) (Z.con (K := K) rfl (pv 0) rfl) (nomark _)) (pss_one (Z.ps_raiseZ rfl (takes_of rfl rfl rfl rfl) (pmk_oex T.oe_TooMany T.si_TooMany.2.2.1 T.si_TooMany.2.2.2 (ok_TooMany___init__ T) (hr.mono (by decide)) T.b_TooMany___init__ .nil passL (by rfl) T.g_TooMany (pa_cons (Z.fld (K := K) rfl (pv 0) rfl) (pa_cons (Z.con (K := K) rfl (pv 0) rfl) pa_nil))))) pss_nil)
      (pss_cons (ps_set (i := 2) sc_Rule_best.nd rfl (Or.inl rfl) (pe_tup pa_nil))
      (pss_cons (ps_set (i := 3) sc_Rule_best.nd rfl (Or.inl rfl) (Z.pe_methZ (pv 0) T.o_Listed.cl T.me_Listed_worth (ok_Listed_worth T) (hr.mono (by decide)) T.b_Rule_worth .nil (fun σ => passAt (takes_of rfl rfl rfl rfl) σ) (pa_cons (pv 2) (pa_cons (pv 1) pa_nil))))
      (pss_cons (Z.ps_forG (passes_of rfl) Z.xe_cx rfl (hr.mono (by decide)) (Z.pgz_call (ok_lots T) (hr.mono (by decide)) (by rfl) T.g_lots T.F_lots.kp T.b_lots .nil (pa_cons (Z.fld (K := K) rfl (pv 0) rfl) pa_nil)) (pg_name (i := 4) sc_Rule_best.nd rfl (by first | exact Or.inl rfl | exact Or.inr rfl)) (pss_cons (ps_set (i := 5) sc_Rule_best.nd rfl (Or.inl rfl) (Z.pe_methZ (pv 0) T.o_Listed.cl T.me_Listed_worth (ok_Listed_worth T) (hr.mono (by decide)) T.b_Rule_worth .nil (fun σ => passAt (takes_of rfl rfl rfl rfl) σ) (pa_cons (pv 4) (pa_cons (pv 1) pa_nil))))
      (pss_one (ps_if (PW.pt (pw_or (pt_cmpR (Z.cmp_OO (fun _ _ => rfl) T.o_Ratio T.me_Ratio___gt__.at_ T.me_Ratio___gt__.fn (Z.rawOk (ok_Ratio___gt__ T) T.b_Ratio___gt__) (hr.mono (by decide)) passL) (pv 5) (pv 3) (nomark _)) (pw_or1 (PW.pt (pw_and (pt_cmpR (Z.cmp_OO (fun _ _ => rfl) T.o_Ratio T.me_Ratio___eq__.at_ T.me_Ratio___eq__.fn (Z.rawOk (ok_Ratio___eq__ T) T.b_Ratio___eq__) (hr.mono (by decide)) passL) (pv 5) (pv 3) (nomark _)) (pw_and1 (pt_cmpR Z.op_lt (pe_callB (Z.call_len (K := K) rfl) (by rfl) T.n_len (by decide +kernel) (pa_cons (pv 4) pa_nil)) (pe_callB (Z.call_len (K := K) rfl) (by rfl) T.n_len (by decide +kernel) (pa_cons (pv 2) pa_nil)) (nomark _)))))))) (pss_cons (ps_set (i := 2) sc_Rule_best.nd rfl (Or.inl rfl) (pv 4))
      (pss_one (ps_set (i := 3) sc_Rule_best.nd rfl (Or.inl rfl) (pv 5)))) pss_nil))))
      (pss_one (ps_ret (pe_tup (pa_cons (pv 2) (pa_cons (pv 3) pa_nil))))))))), ?_⟩
    try dsimp only [cxOf, Cx.nox, Cx.wish]
    try (show (_ : TS) _ [some _, some _, none, none, none, none] _)
    walk_at "go"
    refine Z.w_dec (fun h6 => ?_) (fun h6 => ?_)
    · walk_at "go"
      rename_i d H2 hn2 he hp2
      exact hT h6 d H2 he hp2
    have hn6 : n ≤ 6 := by omega
    have hPE := hPE hn6
    have k := k hn6
    obtain ⟨m, rfl⟩ := Int.eq_ofNat_of_zero_le hn0
    rw [Int.toNat_natCast] at hb k
    walk_at "go"
    rename_i p1 H1 hp1n he1 hp1
    refine ⟨x, p1, pl, m, sh, b, [], ps, rfl, hx.ex he1, st_of hp1, he1.l hp, by rw [Int.toNat_natCast]; exact hb, hps, hPE.up he1, fun _ h => absurd ⟨by simp, by simp⟩ h, fun hok _ z H2 fz ez hz => ?_⟩
    have e02 := he1.trans ez
    have hw0 : worthQ (sh []) [] ps = wv sh ps m 0 := by unfold wv; rw [lotI_zero]
    rw [hw0, Int.toNat_natCast] at hz
    have hr2 := hrb.ex e02
    have hp2 := ez.get hp1
    clear hw0 hrb hp1 hT hPE
    walk_at "go"
    refine ⟨gLots m, ⟨m, rfl, by omega, rfl⟩, fun i σ G => ∃ (f : Nat) (t z : Addr) (v4 v5 : Option V), σ = [some (.ref x), some (.ref pl), some (.ref t), some (.ref z), v4, v5] ∧ Ex H2 G ∧ SqT K G t ((lotI f m).map V.int) ∧ RN (He.ga K "Ratio") G z (wv sh ps m f) (m * (b + 66) + 65) ∧ BestTo sh ps m i f, ⟨0, p1, z, none, none, rfl, Ex.refl _, by rw [lotI_zero]; exact st_of hp2, hz, BestTo.zero⟩, ?_, ?_⟩
    · rintro i σ G hi ⟨f, t, z, v4, v5, rfl, eG, ht, hz, hB⟩ y G2 e2 ⟨l, rfl, hl⟩
      have hi : i < 2 ^ m := hi
      have eG2 := eG.trans e2
      have ht2 := e2.t ht
      have hz2 := hz.ex e2
      have hl2 : At G2 l (.tup ((lotI i m).map V.int)) := hl
      have hr3 := hr2.ex eG2
      clear ht hz hl hr2 hp2
      walk_at "go"
      refine ⟨x, l, pl, m, sh, b, lotI i m, ps, rfl, (hx.ex e02).ex eG2, st_of hl2, eG2.l (e02.l hp), by rw [Int.toNat_natCast]; exact hb, hps, PErr.ok hok, fun _ h => absurd (lotI_isLot i m) h, fun _ _ z3 H3 fz3 ez3 hz3 => ?_⟩
      rw [show worthQ (sh (lotI i m)) (lotI i m) ps = wv sh ps m i from rfl, Int.toNat_natCast] at hz3
      have hz23 := hz2.ex ez3
      have ht23 := ez3.t ht2
      have hl23 := ez3.get hl2
      clear hz2 ht2 hl2
      walk_at "go"
      have e23 := eG2.trans ez3
      refine Z.w_dec (fun h => ?_) (fun h => ?_)
      · walk_at "go"
        exact ⟨ez3.nl, i, l, z3, _, _, rfl, e23, st_of hl23, hz3, hB.take hi (.inl h)⟩
      · walk_at "go"
        refine Z.w_dec (fun he => ?_) (fun he => ?_)
        · walk_at "go"
          refine Z.w_dec (fun hl => ?_) (fun hl => ?_)
          · walk_at "go"
            exact ⟨ez3.nl, i, l, z3, _, _, rfl, e23, st_of hl23, hz3, hB.take hi (.inr ⟨he, by omega⟩)⟩
          · walk_at "go"
            exact ⟨ez3.nl, f, t, z, _, _, rfl, e23, ht23, hz23, hB.keep h fun _ => by omega⟩
        · walk_at "go"
          exact ⟨ez3.nl, f, t, z, _, _, rfl, e23, ht23, hz23, hB.keep h fun q => absurd q he⟩
    · rintro σ G ⟨f, t, z, v4, v5, rfl, eG, ht, hz, hB⟩ G2 e2
      have ht2 := e2.t ht
      have hz2 := hz.ex e2
      walk_at "go"
      rename_i p5 H5 hn5 he5 hp5
      exact k hok p5 t z H5 f ((e02.trans eG).trans (e2.trans he5)) hp5 (he5.t ht2) (hz2.ex he5) hB

/-- Rule.shares of an object of the class Rule -/
def sp_Rule_shares (K : PySem.W.Frag) : Sp := fun vs H Q E => ∃ (x l : Addr) (n : Int) (lot : List Int), vs = [.ref x, .ref l] ∧ RB (He.ga K "Rule") H x n ∧ SqT K H l (lot.map V.int) ∧ (¬ IsLot n lot → ∀ H', Ex H H' → E (.ref (He.ga K "BadLot")) none H') ∧
  (IsLot n lot → ∀ p H' xs, Fr H p → Ex H H' → At H' p (.lst xs) → RL (He.ga K "Ratio") H' xs (List.replicate n.toNat 0) 1 → Q (.ref p) H')
theorem ok_Rule_shares (T : Tx P K mg) : FnOk P w K mg base (L2.CX P w) 3 (He.ma K (He.ga K "Rule") "shares") (Z.fdOf K (He.ma K (He.ga K "Rule") "shares")) ["self", "lot"] (sp_Rule_shares K) := by
  refine T.F_Rule_shares.ok sc_Rule_shares (fun vs H Q E h => ?_) (fun cdv A outer s H vs Q E hr h => ?_)
  · obtain ⟨x, l, n, lot, rfl, _⟩ := h
    rfl
  · obtain ⟨x, l, n, lot, rfl, hx, hl, hE, k⟩ := h
    obtain ⟨_, _, _, _, _, hn0, hn1⟩ := id hx
    obtain ⟨ds2_Ratio___init__, vd2_Ratio___init__, bd2_Ratio___init__⟩ := T.b2_Ratio___init__
    have fx0 := T.o_Rule.cl
    have fx1 := T.na_Rule_many
    refine ⟨_, (pss_cons (ps_expr (Z.pe_callZ (ok_check_lot T) (hr.mono (by decide)) (by rfl) T.g_check_lot T.F_check_lot.kp T.b_check_lot .nil (fun σ => passAt (takes_of rfl rfl rfl rfl) σ) (pa_cons (pv 1) (pa_cons (Z.fld (K := K) rfl (pv 0) rfl) pa_nil))))
      (pss_one (ps_ret (pe_lc (own := [("_", 2)]) rfl sc_Rule_shares.nd (pi_range1 (by rfl) T.n_range (pa_cons (Z.fld (K := K) rfl (pv 0) rfl) pa_nil)) (blkOk_by (N := ["self", "lot", "_"]) (sc := defScope s_Rule_shares) (by decide +kernel)) (fun _ _ _ _ _ => (pg_name (i := 2) sc_Rule_shares.nd rfl (by first | exact Or.inl rfl | exact Or.inr rfl))) (fun _ _ _ _ _ => pts_nil) (fun _ _ _ _ _ => (pe_make T.mk_Ratio (ok_Ratio___init__ T) (hr.mono (by decide)) (by rfl) T.g_Ratio bd2_Ratio___init__ vd2_Ratio___init__ passL (pa_cons pe_int pa_nil))))))), ?_⟩
    try dsimp only [cxOf, Cx.nox, Cx.wish]
    try (show (_ : TS) _ [some _, some _, none] _)
    walk_at "go"
    refine ⟨l, lot, n, rfl, hl, hE, fun hlot H1 e1 => ?_⟩
    walk_at "go"
    rename_i J S
    refine Z.cgX S (fun i acc G => RL (He.ga K "Ratio") G acc (List.replicate i 0) 1) (fun H' e => RL.nil) (fun i acc G1 G2 h e => h.ex e) (fun H' e => trivial) (by show _ ≤ 16777216; omega) (fun Dl i y G acc hi ec cd hal hP hy => ?_) (fun p G acc hn he hp hal hP => ?_) rfl
    · subst hy
      walk_at "go"
      rename_i p G2 hn he hr
      have hr := hr.tight (r := 0) (m := 1) (by exact_mod_cast rfl) (sz0 (by decide)) (by decide)
      refine Z.elx cd hal (by show _ < 16777216; omega) he fun G3 hnl => ?_
      rw [List.replicate_succ']
      exact ((hP.ex he).nl hnl).snoc (hr.nl hnl)
    · exact k hlot p G acc (e1.back hn) (e1.trans he) hp hP
theorem use_Rule_shares {H : Hp} {Q : VK} {E : XK} {x l : Addr} {n : Int} {sh : List Int → List Rat} {b : Nat} {lot : List Int} (hx : Rep_Rule K H x n sh b) (hl : SqT K H l (lot.map V.int)) (hE : ¬ IsLot n lot → ∀ H', Ex H H' → E (.ref (He.ga K "BadLot")) none H')
    (k : IsLot n lot → ∀ p H' xs, Fr H p → Ex H H' → At H' p (.lst xs) → RL (He.ga K "Ratio") H' xs (sh lot) b → Q (.ref p) H') : sp_Rule_shares K [.ref x, .ref l] H Q E := by
  refine ⟨x, l, n, lot, rfl, hx.rb, hl, hE, fun h p H' xs h1 h2 h3 h4 => k h p H' xs h1 h2 h3 ?_⟩
  obtain ⟨_, _, _, rfl, h5, h6⟩ := hx
  exact h4.mono h5 h6

/-- Rule.shares of an object of the class Mixed -/
def sp_Mixed_Rule_shares (K : PySem.W.Frag) : Sp := fun vs H Q E => ∃ (x l : Addr) (n : Int) (lot : List Int), vs = [.ref x, .ref l] ∧ RB (He.ga K "Mixed") H x n ∧ SqT K H l (lot.map V.int) ∧ (¬ IsLot n lot → ∀ H', Ex H H' → E (.ref (He.ga K "BadLot")) none H') ∧
  (IsLot n lot → ∀ p H' xs, Fr H p → Ex H H' → At H' p (.lst xs) → RL (He.ga K "Ratio") H' xs (List.replicate n.toNat 0) 1 → Q (.ref p) H')
theorem ok_Mixed_Rule_shares (T : Tx P K mg) : FnOk P w K mg base (L2.CX P w) 3 (He.ma K (He.ga K "Rule") "shares") (Z.fdOf K (He.ma K (He.ga K "Rule") "shares")) ["self", "lot"] (sp_Mixed_Rule_shares K) := by
  refine T.F_Rule_shares.ok sc_Rule_shares (fun vs H Q E h => ?_) (fun cdv A outer s H vs Q E hr h => ?_)
  · obtain ⟨x, l, n, lot, rfl, _⟩ := h
    rfl
  · obtain ⟨x, l, n, lot, rfl, hx, hl, hE, k⟩ := h
    obtain ⟨_, _, _, _, _, hn0, hn1⟩ := id hx
    obtain ⟨ds2_Ratio___init__, vd2_Ratio___init__, bd2_Ratio___init__⟩ := T.b2_Ratio___init__
    have fx0 := T.o_Mixed.cl
    have fx1 := T.na_Mixed_many
    refine ⟨_, (pss_cons (ps_expr (Z.pe_callZ (ok_check_lot T) (hr.mono (by decide)) (by rfl) T.g_check_lot T.F_check_lot.kp T.b_check_lot .nil (fun σ => passAt (takes_of rfl rfl rfl rfl) σ) (pa_cons (pv 1) (pa_cons (Z.fld (K := K) rfl (pv 0) rfl) pa_nil))))
      (pss_one (ps_ret (pe_lc (own := [("_", 2)]) rfl sc_Rule_shares.nd (pi_range1 (by rfl) T.n_range (pa_cons (Z.fld (K := K) rfl (pv 0) rfl) pa_nil)) (blkOk_by (N := ["self", "lot", "_"]) (sc := defScope s_Rule_shares) (by decide +kernel)) (fun _ _ _ _ _ => (pg_name (i := 2) sc_Rule_shares.nd rfl (by first | exact Or.inl rfl | exact Or.inr rfl))) (fun _ _ _ _ _ => pts_nil) (fun _ _ _ _ _ => (pe_make T.mk_Ratio (ok_Ratio___init__ T) (hr.mono (by decide)) (by rfl) T.g_Ratio bd2_Ratio___init__ vd2_Ratio___init__ passL (pa_cons pe_int pa_nil))))))), ?_⟩
    try dsimp only [cxOf, Cx.nox, Cx.wish]
    try (show (_ : TS) _ [some _, some _, none] _)
    walk_at "go"
    refine ⟨l, lot, n, rfl, hl, hE, fun hlot H1 e1 => ?_⟩
    walk_at "go"
    rename_i J S
    refine Z.cgX S (fun i acc G => RL (He.ga K "Ratio") G acc (List.replicate i 0) 1) (fun H' e => RL.nil) (fun i acc G1 G2 h e => h.ex e) (fun H' e => trivial) (by show _ ≤ 16777216; omega) (fun Dl i y G acc hi ec cd hal hP hy => ?_) (fun p G acc hn he hp hal hP => ?_) rfl
    · subst hy
      walk_at "go"
      rename_i p G2 hn he hr
      have hr := hr.tight (r := 0) (m := 1) (by exact_mod_cast rfl) (sz0 (by decide)) (by decide)
      refine Z.elx cd hal (by show _ < 16777216; omega) he fun G3 hnl => ?_
      rw [List.replicate_succ']
      exact ((hP.ex he).nl hnl).snoc (hr.nl hnl)
    · exact k hlot p G acc (e1.back hn) (e1.trans he) hp hP

/-- a part of a mixture -/
def RPart (K : PySem.W.Frag) (H : Hp) (r : Addr) (n : Int) (sh : List Int → List Rat) (b : Nat) : Prop := Rep_Tabled K H r n sh b ∨ Rep_Listed K H r n sh b ∨ Rep_Rule K H r n sh b
theorem Rep_Tabled.part {K : PySem.W.Frag} {H : Hp} {r : Addr} {n : Int} {sh : List Int → List Rat} {b : Nat} (h : Rep_Tabled K H r n sh b) : RPart K H r n sh b := Or.inl (h)
theorem Rep_Listed.part {K : PySem.W.Frag} {H : Hp} {r : Addr} {n : Int} {sh : List Int → List Rat} {b : Nat} (h : Rep_Listed K H r n sh b) : RPart K H r n sh b := Or.inr (Or.inl (h))
theorem Rep_Rule.part {K : PySem.W.Frag} {H : Hp} {r : Addr} {n : Int} {sh : List Int → List Rat} {b : Nat} (h : Rep_Rule K H r n sh b) : RPart K H r n sh b := Or.inr (Or.inr (h))
theorem RPart.ex {K : PySem.W.Frag} {H H' : Hp} {r : Addr} {n : Int} {sh : List Int → List Rat} {b : Nat} (h : RPart K H r n sh b) (e : Ex H H') : RPart K H' r n sh b := by
  rcases h with h | h | h
  · exact (h.ex e).part
  · exact (h.ex e).part
  · exact (h.ex e).part
theorem RPart.nl {K : PySem.W.Frag} {H H' : Hp} {r : Addr} {n : Int} {sh : List Int → List Rat} {b : Nat} (h : RPart K H r n sh b) (e : Nl H H') : RPart K H' r n sh b := by
  rcases h with h | h | h
  · exact (h.nl e).part
  · exact (h.nl e).part
  · exact (h.nl e).part
theorem RPart.len {K : PySem.W.Frag} {H : Hp} {r : Addr} {n : Int} {sh : List Int → List Rat} {b : Nat} (h : RPart K H r n sh b) (lot : List Int) : (sh lot).length = n.toNat := by
  rcases h with h | h | h
  · exact h.len lot
  · exact h.len lot
  · exact h.len lot
theorem RPart.rany {P : Program} {mg : Str → Option Value} {K : PySem.W.Frag} {H : Hp} {r : Addr} {n : Int} {sh : List Int → List Rat} {b : Nat} (T : Tx P K mg) (h : RPart K H r n sh b) : RAny K H r n := by
  rcases h with h | h | h
  · exact ⟨_, h.rb, T.o_Tabled.cl, T.na_Tabled_many⟩
  · exact ⟨_, h.rb, T.o_Listed.cl, T.na_Listed_many⟩
  · exact ⟨_, h.rb, T.o_Rule.cl, T.na_Rule_many⟩
theorem u_partsh {K : PySem.W.Frag} {H : Hp} {Q : VK} {Ef : L2.St → XK} {r l : Addr} {n : Int} {sh : List Int → List Rat} {b iv il : Nat} {lot : List Int} {σ : L2.St} (hv : σ[iv]? = some (some (V.ref r))) (hv2 : σ[il]? = some (some (V.ref l))) (h : RPart K H r n sh b) (hl : SqT K H l (lot.map V.int)) (hlot : IsLot n lot) (k : ∀ p H' xs, Fr H p → Ex H H' → At H' p (.lst xs) → RL (He.ga K "Ratio") H' xs (sh lot) b → Q (.ref p) H') : tMethZ (He.ga K "Tabled") "shares" (sp_Tabled_shares K) [] Ef (tVar iv) (tCons (tVar il) tNil) σ H Q ∨ tMethZ (He.ga K "Listed") "shares" (sp_Listed_shares K) [] Ef (tVar iv) (tCons (tVar il) tNil) σ H Q ∨ tMethZ (He.ga K "Rule") "shares" (sp_Rule_shares K) [] Ef (tVar iv) (tCons (tVar il) tNil) σ H Q := by
  rcases h with h | h | h
  · exact Or.inl (Z.w_methZ (Z.w_var hv (u_rme h.rb (by decide +kernel) (Z.w_cons (Z.w_var hv2 (Z.w_nil (use_Tabled_shares h hl (fun z => absurd hlot z) fun _ => k)))))))
  · exact Or.inr (Or.inl (Z.w_methZ (Z.w_var hv (u_rme h.rb (by decide +kernel) (Z.w_cons (Z.w_var hv2 (Z.w_nil (use_Listed_shares h hl (fun z => absurd hlot z) fun _ => k))))))))
  · exact Or.inr (Or.inr (Z.w_methZ (Z.w_var hv (u_rme h.rb (by decide +kernel) (Z.w_cons (Z.w_var hv2 (Z.w_nil (use_Rule_shares h hl (fun z => absurd hlot z) fun _ => k))))))))
/-- parts: buyers, shares, bits -/
abbrev MS := Int × (List Int → List Rat) × Nat
def ms0 : MS := (0, fun _ => [], 0)
def mxQ (D : Int) (ms : List MS) (lot : List Int) (t : Nat) : Rat := (ms.map fun e => (e.2.1 lot).getD t 0 * Rat.divInt e.1 D).sum
def mxI (m : Nat) (D : Int) (ms : List MS) (lot : List Int) : List Rat := (List.range m).map fun t => mxQ D ms lot t
def mxD (ms : List MS) : Int := (ms.map Prod.fst).sum
def mxSh (n : Int) (ms : List MS) (lot : List Int) : List Rat := mxI n.toNat (mxD ms) ms lot
def mxBs (ms : List MS) : Nat := 1 + (ms.map fun e => e.2.2 + 70).sum
theorem mxI_len (m : Nat) (D : Int) (ms : List MS) (lot : List Int) : (mxI m D ms lot).length = m := by unfold mxI; simp
theorem mxI_get {m : Nat} {D : Int} {ms : List MS} {lot : List Int} {t : Nat} (h : t < m) : (mxI m D ms lot).getD t 0 = mxQ D ms lot t := by
  rw [getD_get _ _ _ (by rw [mxI_len]; exact h)]
  unfold mxI
  rw [List.getElem_map, List.getElem_range]
theorem mxQ_snoc (D : Int) (ms : List MS) (e : MS) (lot : List Int) (t : Nat) : mxQ D (ms ++ [e]) lot t = mxQ D ms lot t + (e.2.1 lot).getD t 0 * Rat.divInt e.1 D := by
  unfold mxQ
  rw [List.map_append, List.map_singleton, sum_snocQ]
theorem mxI_nil (m : Nat) (D : Int) (lot : List Int) : mxI m D [] lot = List.replicate m 0 := by
  unfold mxI
  apply List.ext_getElem
  · simp
  · intro i h1 h2
    rw [List.getElem_replicate, List.getElem_map]
    rfl
theorem sum_bdM : ∀ (l : List Int), (∀ x ∈ l, 1 ≤ x ∧ x < 2 ^ 64) → (l.length : Int) ≤ l.sum ∧ l.sum ≤ l.length * 2 ^ 64
  | [], _ => by simp
  | x :: r, h => by
    have ih := sum_bdM r fun y hy => h y (List.mem_cons_of_mem _ hy)
    have h1 := h x List.mem_cons_self
    rw [List.sum_cons, List.length_cons]
    push_cast
    omega
theorem mxBs_snoc (ms : List MS) (e : MS) : mxBs (ms ++ [e]) = mxBs ms + (e.2.2 + 70) := by
  unfold mxBs
  rw [List.map_append, List.map_singleton, List.sum_append]
  simp; omega
theorem mxBs_take (ms : List MS) (i : Nat) : mxBs (ms.take i) ≤ mxBs ms := by
  have e : mxBs ms = mxBs (ms.take i) + ((ms.drop i).map fun e => e.2.2 + 70).sum := by
    unfold mxBs
    conv => lhs; rw [← List.take_append_drop i ms]
    rw [List.map_append, List.sum_append]
    omega
  omega
/-- the first t places are done -/
def mxJ (m : Nat) (D : Int) (ms : List MS) (e : MS) (lot : List Int) (t : Nat) : List Rat := (List.range m).map fun u => if u < t then mxQ D (ms ++ [e]) lot u else mxQ D ms lot u
theorem mxJ_len (m : Nat) (D : Int) (ms : List MS) (e : MS) (lot : List Int) (t : Nat) : (mxJ m D ms e lot t).length = m := by unfold mxJ; simp
theorem mxJ_get {m : Nat} {D : Int} {ms : List MS} {e : MS} {lot : List Int} {t u : Nat} (h : u < m) : (mxJ m D ms e lot t).getD u 0 = if u < t then mxQ D (ms ++ [e]) lot u else mxQ D ms lot u := by
  rw [getD_get _ _ _ (by rw [mxJ_len]; exact h)]
  unfold mxJ
  rw [List.getElem_map, List.getElem_range]
theorem mxJ_zero (m : Nat) (D : Int) (ms : List MS) (e : MS) (lot : List Int) : mxJ m D ms e lot 0 = mxI m D ms lot := by
  unfold mxJ mxI
  exact List.map_congr_left fun u _ => if_neg (by omega)
theorem mxJ_all (m : Nat) (D : Int) (ms : List MS) (e : MS) (lot : List Int) : mxJ m D ms e lot m = mxI m D (ms ++ [e]) lot := by
  unfold mxJ mxI
  exact List.map_congr_left fun u hu => if_pos (List.mem_range.1 hu)
theorem mxJ_step {m : Nat} {D : Int} {ms : List MS} {e : MS} {lot : List Int} {t : Nat} (h : t < m) : mxJ m D ms e lot (t + 1) = (mxJ m D ms e lot t).set t (mxQ D (ms ++ [e]) lot t) := by
  unfold mxJ
  apply List.ext_getElem
  · simp
  · intro i h1 h2
    simp only [List.length_map, List.length_range] at h1
    rw [List.getElem_set, List.getElem_map, List.getElem_range, List.getElem_map, List.getElem_range]
    by_cases e1 : t = i
    · subst e1; rw [if_pos (by omega), if_pos rfl]
    · rw [if_neg e1]
      by_cases e2 : i < t
      · rw [if_pos (by omega), if_pos e2]
      · rw [if_neg (by omega), if_neg e2]
def MxP (K : PySem.W.Frag) (H : Hp) (n : Int) (mps : List MP) (ms : List MS) : Prop := mps.length = ms.length ∧ ∀ i, i < ms.length → (mps.getD i mp0).1 = (ms.getD i ms0).1 ∧ RPart K H (mps.getD i mp0).2.2 n (ms.getD i ms0).2.1 (ms.getD i ms0).2.2
theorem MxP.ex {K : PySem.W.Frag} {H H' : Hp} {n : Int} {mps : List MP} {ms : List MS} (h : MxP K H n mps ms) (e : Ex H H') : MxP K H' n mps ms := ⟨h.1, fun i hi => ⟨(h.2 i hi).1, (h.2 i hi).2.ex e⟩⟩
theorem MxP.nl {K : PySem.W.Frag} {H H' : Hp} {n : Int} {mps : List MP} {ms : List MS} (h : MxP K H n mps ms) (e : Nl H H') : MxP K H' n mps ms := ⟨h.1, fun i hi => ⟨(h.2 i hi).1, (h.2 i hi).2.nl e⟩⟩
/-- a mixture -/
def Rep_Mixed (K : PySem.W.Frag) (H : Hp) (x : Addr) (n : Int) (sh : List Int → List Rat) (b : Nat) : Prop := ∃ mps ms, MxR K H x n mps ∧ MxP K H n mps ms ∧ 0 ≤ n ∧ n ≤ 24 ∧ 0 < ms.length ∧ ms.length ≤ 3 ∧ (∀ e ∈ ms, 1 ≤ e.1 ∧ e.1 < 2 ^ 64) ∧ sh = mxSh n ms ∧ mxBs ms ≤ b ∧ b ≤ 13400
theorem Rep_Mixed.ex {K : PySem.W.Frag} {H H' : Hp} {x : Addr} {n : Int} {sh : List Int → List Rat} {b : Nat} (h : Rep_Mixed K H x n sh b) (e : Ex H H') : Rep_Mixed K H' x n sh b := by
  obtain ⟨mps, ms, h1, h2, h3⟩ := h
  exact ⟨mps, ms, h1.ex e, h2.ex e, h3⟩
theorem Rep_Mixed.nl {K : PySem.W.Frag} {H H' : Hp} {x : Addr} {n : Int} {sh : List Int → List Rat} {b : Nat} (h : Rep_Mixed K H x n sh b) (e : Nl H H') : Rep_Mixed K H' x n sh b := by
  obtain ⟨mps, ms, h1, h2, h3⟩ := h
  exact ⟨mps, ms, h1.nl e, h2.nl e, h3⟩
theorem Rep_Mixed.rb {K : PySem.W.Frag} {H : Hp} {x : Addr} {n : Int} {sh : List Int → List Rat} {b : Nat} (h : Rep_Mixed K H x n sh b) : RB (He.ga K "Mixed") H x n := by
  obtain ⟨mps, ms, ⟨dx, tp, ys, h1, h2, h3⟩, _, h4, h5, _⟩ := h
  refine ⟨dx, _, h1, rfl, fun m hm => ?_, h4, h5⟩
  have e1 : (m == ("many" : Str)) = false := by revert m; decide +kernel
  have e2 : (m == ("parts" : Str)) = false := by revert m; decide +kernel
  simp only [List.lookup, e1, e2]
theorem Rep_Mixed.len {K : PySem.W.Frag} {H : Hp} {x : Addr} {n : Int} {sh : List Int → List Rat} {b : Nat} (h : Rep_Mixed K H x n sh b) (lot : List Int) : (sh lot).length = n.toNat := by
  obtain ⟨mps, ms, _, _, _, _, _, _, _, rfl, _⟩ := h
  exact mxI_len _ _ _ _
theorem mps_fst {mps : List MP} {ms : List MS} (hl : mps.length = ms.length) (h : ∀ i, i < ms.length → (mps.getD i mp0).1 = (ms.getD i ms0).1) : ((List.range mps.length).map fun i => (mps.getD i mp0).1) = ms.map Prod.fst := by
  apply List.ext_getElem
  · rw [List.length_map, List.length_range, List.length_map, hl]
  · intro i h1 h2
    rw [List.length_map] at h2
    rw [List.getElem_map, List.getElem_range, List.getElem_map, h i h2, getD_get _ _ _ h2]
def sp_Mixed_shares (K : PySem.W.Frag) : Sp := fun vs H Q E => ∃ (x l : Addr) (n : Int) (sh : List Int → List Rat) (b : Nat) (lot : List Int), vs = [.ref x, .ref l] ∧ Rep_Mixed K H x n sh b ∧ SqT K H l (lot.map V.int) ∧ (¬ IsLot n lot → ∀ H', Ex H H' → E (.ref (He.ga K "BadLot")) none H') ∧
  (IsLot n lot → ∀ p H' xs, Fr H p → Ex H H' → At H' p (.lst xs) → RL (He.ga K "Ratio") H' xs (sh lot) b → Q (.ref p) H')
theorem ok_Mixed_shares (T : Tx P K mg) : FnOk P w K mg base (L2.CX P w) 6 (He.ma K (He.ga K "Mixed") "shares") (Z.fdOf K (He.ma K (He.ga K "Mixed") "shares")) ["self", "lot"] (sp_Mixed_shares K) := by
  refine Z.FunS.ok (x0 := "self") T.F_Mixed_shares sc_Mixed_shares (by decide +kernel) rfl rfl rfl (by decide +kernel) (by decide +kernel) T.p_top T.n_super T.c_Mixed (fun vs H Q E h => ?_) (fun cc cda A outer s H vs Q E hr h S => ?_)
  · obtain ⟨x, l, n, sh, b, lot, rfl, _⟩ := h
    rfl
  · obtain ⟨x, l, n, sh, b, lot, rfl, hx, hl, hE, k⟩ := h
    have hrb := hx.rb
    obtain ⟨mps, ms, hM, hP, hn0, hn24, hm0, hm3, hmb, rfl, hB, hB9⟩ := hx
    obtain ⟨dx, tp, ys, hx1, hx2, hL⟩ := id hM
    have hyl := hL.1
    obtain ⟨ds3_Ratio___init__, vd3_Ratio___init__, bd3_Ratio___init__⟩ := T.b3_Ratio___init__
    have fx0 := T.o_Mixed.cl
    have fx1 := T.na_Mixed_parts
    refine ⟨_, _, (Z.ps_supA (i := 3) sc_Mixed_shares.nd rfl (by first | exact Or.inl rfl | exact Or.inr rfl) (Z.pe_sup S T.mro_Mixed_Mixed T.third T.sm_Mixed_Mixed_shares.1 T.sm_Mixed_Mixed_shares.2.1 T.sm_Mixed_Mixed_shares.2.2 (Z.rawOk (ok_Mixed_Rule_shares T) T.b_Rule_shares) (hr.mono (by decide)) (fun σ => passAt (takes_of rfl rfl rfl rfl) σ) (pa_cons (pv 1) pa_nil))), (pss_cons (ps_set (i := 4) sc_Mixed_shares.nd rfl (Or.inl rfl) (pe_callB (Z.call_sum (K := K) rfl rfl) (by rfl) T.n_sum (by decide +kernel) (pa_cons (pe_lc (own := [("buyers", 5), ("_", 9)]) (g := (gTup K 2 (gCons (gName 5) (gCons (gName 9) gNil)))) rfl sc_Mixed_shares.nd (Z.piT (K := K) rfl (Z.fld (K := K) rfl (pv 0) rfl)) (blkOk_by (N := ["self", "lot", "__class__", "row", "everyone", "buyers", "rule", "thing", "share", "_"]) (sc := defScope s_Mixed_shares) (by decide +kernel)) (fun _ _ _ _ _ => (pg_tup (by rfl) (pgs_cons (pg_name (i := 5) sc_Mixed_shares.nd rfl (by first | exact Or.inl rfl | exact Or.inr rfl)) (pgs_cons (pg_name (i := 9) sc_Mixed_shares.nd rfl (by first | exact Or.inl rfl | exact Or.inr rfl)) pgs_nil)))) (fun _ _ _ _ _ => pts_nil) (fun _ _ _ _ _ => (pv 5))) pa_nil)))
      (pss_cons (ps_for (passes_of rfl) rfl (Z.piT (K := K) rfl (Z.fld (K := K) rfl (pv 0) rfl)) (pg_tup (by rfl) (pgs_cons (pg_name (i := 5) sc_Mixed_shares.nd rfl (by first | exact Or.inl rfl | exact Or.inr rfl)) (pgs_cons (pg_name (i := 6) sc_Mixed_shares.nd rfl (by first | exact Or.inl rfl | exact Or.inr rfl)) pgs_nil))) (pss_one (ps_for (passes_of rfl) rfl (pi_enum (by rfl) T.n_enumerate (pa_cons (Z.pe_or (Z.pe_methZ (pv 6) T.o_Tabled.cl T.me_Tabled_shares (ok_Tabled_shares T) (hr.mono (by decide)) T.b_Tabled_shares .nil (fun σ => passAt (takes_of rfl rfl rfl rfl) σ) (pa_cons (pv 1) pa_nil)) (Z.pe_or (Z.pe_methZ (pv 6) T.o_Listed.cl T.me_Listed_shares (ok_Listed_shares T) (hr.mono (by decide)) T.b_Listed_shares .nil (fun σ => passAt (takes_of rfl rfl rfl rfl) σ) (pa_cons (pv 1) pa_nil)) (Z.pe_methZ (pv 6) T.o_Rule.cl T.me_Rule_shares (ok_Rule_shares T) (hr.mono (by decide)) T.b_Rule_shares .nil (fun σ => passAt (takes_of rfl rfl rfl rfl) σ) (pa_cons (pv 1) pa_nil)))) pa_nil)) (pg_tup (by rfl) (pgs_cons (pg_name (i := 7) sc_Mixed_shares.nd rfl (by first | exact Or.inl rfl | exact Or.inr rfl)) (pgs_cons (pg_name (i := 8) sc_Mixed_shares.nd rfl (by first | exact Or.inl rfl | exact Or.inr rfl)) pgs_nil))) (pss_one (ps_asg (Z.pe_opS (Z.opS_OO T.o_Ratio T.me_Ratio___add__.at_ T.me_Ratio___add__.fn (Z.rawOk (ok_Ratio___add__ T) T.b_Ratio___add__) (hr.mono (by decide)) (fun σ => passAt (takes_of rfl rfl rfl rfl) σ)) (pe_ix (Z.ix (K := K) rfl) (pv 3) (pv 7) (fun _ _ => rfl)) (Z.pe_opS (Z.opS_OO T.o_Ratio T.me_Ratio___mul__.at_ T.me_Ratio___mul__.fn (Z.rawOk (ok_Ratio___mul__ T) T.b_Ratio___mul__) (hr.mono (by decide)) (fun σ => passAt (takes_of rfl rfl rfl rfl) σ)) (pv 8) (Z.pe_makeZ T.mk_Ratio (ok_Ratio___init__ T) (hr.mono (by decide)) (by rfl) T.g_Ratio bd3_Ratio___init__ vd3_Ratio___init__ (fun σ => passAt (takes_of rfl rfl rfl rfl) σ) (pa_cons (pv 5) (pa_cons (pv 4) pa_nil))))) (pg_sub (pv 3) (pv 7) set_list))))))
      (pss_one (ps_ret (pv 3))))), ?_⟩
    change tSeq _ _ _ [some _, some _, none, none, none, none, none, none, none, none] _
    try dsimp only [Z.scx, NdefX.ncx]
    walk_at "go"
    refine ⟨x, l, n, lot, rfl, hrb, hl, hE, fun hlot p H1 xs hp e1 hat1 hxs => ?_⟩
    have hx11 := e1.get hx1
    have hx21 := e1.get hx2
    have hL1 := hL.ex e1
    have hP1 := hP.ex e1
    have hyl3 : ys.length ≤ 3 := by have := hP1.1; omega
    clear hx1 hx2 hM hL hP hrb hE
    walk_at "go"
    rename_i J S
    refine Z.cgI S (fun i => (mps.getD i mp0).1) (fun H' e => e.t (st_of hx21)) (by rw [hyl, hP1.1]; show _ ≤ 16777216; omega) (fun Dl i y G3 hi ec cd hy => ?_) (fun p2 H2 hn2 he2 hp2 => ?_) rfl
    · obtain ⟨c, g1, g2, g3⟩ := (hL1.ex ec).2 i (by omega)
      rw [g1] at hy
      cases hy
      walk_at "go"
    have hD1 := sum_bdM (ms.map Prod.fst) fun z hz => by
      obtain ⟨q, hq, rfl⟩ := List.mem_map.1 hz
      exact hmb q hq
    rw [hyl, mps_fst hP1.1 fun i hi => (hP1.2 i hi).1] at hp2
    rw [List.length_map] at hD1
    have hsum : (ms.map Prod.fst).sum = mxD ms := rfl
    rw [hsum] at hD1
    have hDz : mxD ms ≠ 0 := by omega
    have hD2 : (mxD ms).natAbs < 2 ^ 66 := by
      have : (ms.length : Int) * 2 ^ 64 ≤ 3 * 2 ^ 64 := Int.mul_le_mul_of_nonneg_right (by omega) (by decide)
      omega
    have hx12 := he2.get hx11
    have hx22 := he2.get hx21
    have hL2 := hL1.ex he2
    have hP2 := hP1.ex he2
    have hat2 := he2.get hat1
    have hxs2 := hxs.ex he2
    have e02 := e1.trans he2
    clear S hx11 hx21 hL1 hP1 hat1 hxs hn2 hD1
    walk_at "go"
    rename_i J2 S2
    rw [hsum]
    have hml : mps.length = ms.length := hP2.1
    unfold mxSh at k
    generalize mxD ms = D at *
    refine Z.fg S2 (fun i σ G => ∃ (v5 v6 v7 v8 : Option V) (rs : List V), σ = [some (.ref x), some (.ref l), none, some (.ref p), some (.int D), v5, v6, v7, v8, none] ∧ Nl H2 G ∧ Ex H G ∧ At G p (.lst rs) ∧ RL (He.ga K "Ratio") G rs (mxI n.toNat D (ms.take i) lot) (mxBs (ms.take i)))
      ⟨none, none, none, none, xs, rfl, Nl.refl _, e02, hat2, ?_⟩ (fun i σ' G _ ⟨_, _, _, _, _, _, h, _⟩ => st_of (h.get (fun l z => by cases z) hx22)) ?_ ?_
    · rw [List.take_zero, mxI_nil]
      exact hxs2
    · rintro i y σ' G G2 hi ⟨v5, v6, v7, v8, rs, rfl, nG, eG, hG, hR⟩ e2 hy
      have hi2 : i < ms.length := by omega
      have nG2 := nG.trans e2.nl
      have eG2 := eG.trans e2
      obtain ⟨c, g1, g2, g3⟩ := (hL2.nl nG2).2 i (by omega)
      rw [g1] at hy
      cases hy
      obtain ⟨f1, f2⟩ := (hP2.nl nG2).2 i hi2
      have hG2 := e2.get hG
      have hR2 := hR.ex e2
      have hlG2 := eG2.t hl
      have htk := take_snoc hi2 ms0
      have hem := hmb (ms.getD i ms0) (by rw [getD_get _ _ _ hi2]; exact List.getElem_mem _)
      have hbt : mxBs (ms.take (i+1)) ≤ 13400 := Nat.le_trans (mxBs_take ms (i+1)) (by omega)
      rw [htk, mxBs_snoc] at hbt
      rw [htk, mxBs_snoc]
      rw [f1] at g2
      clear S2 hG hR hat2 hxs2
      generalize ms.getD i ms0 = e at *
      obtain ⟨bu, shf, bb⟩ := e
      dsimp only at *
      generalize (mps.getD i mp0).2.2 = r at *
      walk_at "go"
      refine u_partsh rfl rfl f2 hlG2 hlot fun q G3 zs hq e3 hz hRz => ?_
      have hzl : zs.length = n.toNat := by rw [hRz.1, f2.len]
      have hG3 := e3.get hG2
      have hR3 := hR2.ex e3
      have nG3 := nG2.trans e3.nl
      have eG3 := eG2.trans e3
      have hqp : q ≠ p := fun z => by subst z; exact hG2.ne hq rfl
      have hsl := f2.len lot
      have hsz : ∀ u, u < n.toNat → Sz (mxQ D (ms.take i) lot u) (mxBs (ms.take i)) := fun u hu => by
        obtain ⟨a, h1, h2⟩ := hR3.2 u (by rw [mxI_len]; exact hu)
        rw [mxI_get hu] at h2
        exact h2.sz
      have hbb : bu.natAbs < 2 ^ 66 := by omega
      clear hG2 hR2 g2 hq
      walk_at "go"
      rename_i J3 S3
      refine Z.fg S3 (fun t σ G => ∃ (v7 v8 : Option V) (rs : List V), σ = [some (.ref x), some (.ref l), none, some (.ref p), some (.int D), some (.int bu), some (.ref r), v7, v8, none] ∧ Nl G3 G ∧ Ex H G ∧ At G p (.lst rs) ∧ At G q (.lst zs) ∧ RL (He.ga K "Ratio") G rs (mxJ n.toNat D (ms.take i) (bu, shf, bb) lot t) (mxBs (ms.take i) + (bb + 70)))
        ⟨_, _, rs, rfl, Nl.refl _, eG3, hG3, hz, by rw [mxJ_zero]; exact hR3.mono (by omega) (by omega)⟩ (fun t σ' G _ ⟨_, _, _, _, _, _, _, h, _⟩ => sq_of h) ?_ ?_
      · rintro t y σ' G4 G5 ht ⟨v7, v8, rs4, rfl, nG4, eG4, hG4, hq4, hR4⟩ e5 hy
        have ht2 : t < n.toNat := by omega
        obtain ⟨T5, z, rfl, hT5, hz2⟩ := hy
        obtain ⟨c3, j1, j2⟩ := hRz.2 t (by omega)
        rw [j1] at hz2
        cases hz2
        have j2' := (j2.nl nG4).ex e5
        obtain ⟨c4, j3, j4⟩ := hR4.2 t (by rw [mxJ_len]; exact ht2)
        rw [mxJ_get ht2, if_neg (by omega)] at j4
        have j5 : RN (He.ga K "Ratio") G5 c4 (mxQ D (ms.take i) lot t) (mxBs (ms.take i)) := ⟨(j4.ex e5).at_, hsz t ht2, by omega⟩
        have hl4 : rs4.length = n.toNat := by rw [hR4.1, mxJ_len]
        have hix : atI rs4 (t : Int) = some (.ref c4) := by unfold atI; rw [ixN_pos (by omega) (by omega)]; exact j3
        have hR5 : True ∧ _ := ⟨trivial, hR4.ex e5⟩
        have hG5 := e5.get hG4
        have hq5 := e5.get hq4
        have nG5 := nG4.trans e5.nl
        have eG5 := eG4.trans e5
        clear hR4 hRz S3 j2 hz hG3 hR3 hG4 hq4
        walk_at "go"
        refine w_ixL (sq_of hG5) hix ?_
        walk_at "go"
        rename_i p6 K6 hn6 he6 hr6 p7 K7 hn7 he7 hr7 p8 K8 hn8 he8 hr8 K9 hp9 hnl9 ho9 hke9
        have e58 := (he6.trans he7).trans he8
        refine ⟨_, _, _, rfl, (nG5.trans e58.nl).trans hnl9, hke9, hp9, ho9 q _ hqp (e58.get hq5), ?_⟩
        rw [mxJ_step ht2, mxQ_snoc, Int.toNat_natCast]
        exact ((hR5.2.ex e58).nl hnl9).set ((hr8.nl hnl9).eq rfl (by omega) (by omega))
      · rintro σ' G4 ⟨v7, v8, rs4, rfl, nG4, eG4, hG4, hq4, hR4⟩
        rw [hzl, mxJ_all] at hR4
        walk_at "go"
        exact ⟨_, _, _, _, rs4, rfl, nG3.trans nG4, eG4, hG4, hR4⟩
    · rintro σ' G ⟨v5, v6, v7, v8, rs, rfl, nG, eG, hG, hR⟩
      rw [hyl, hml, List.take_length] at hR
      walk_at "go"
      exact k hlot p G rs hp eG hG (hR.mono hB hB9)
theorem use_Mixed_shares {H : Hp} {Q : VK} {E : XK} {x l : Addr} {n : Int} {sh : List Int → List Rat} {b : Nat} {lot : List Int} (hx : Rep_Mixed K H x n sh b) (hl : SqT K H l (lot.map V.int)) (hE : ¬ IsLot n lot → ∀ H', Ex H H' → E (.ref (He.ga K "BadLot")) none H')
    (k : IsLot n lot → ∀ p H' xs, Fr H p → Ex H H' → At H' p (.lst xs) → RL (He.ga K "Ratio") H' xs (sh lot) b → Q (.ref p) H') : sp_Mixed_shares K [.ref x, .ref l] H Q E := ⟨x, l, n, sh, b, lot, rfl, hx, hl, hE, k⟩

def sp_Mixed_worth (K : PySem.W.Frag) : Sp := fun vs H Q E => ∃ (x l pl : Addr) (n : Int) (sh : List Int → List Rat) (b : Nat) (lot ps : List Int), vs = [.ref x, .ref l, .ref pl] ∧ Rep_Mixed K H x n sh b ∧ SqT K H l (lot.map V.int) ∧ SqL K H pl (ps.map V.int) ∧ n.toNat * (b + 66) + 66 ≤ 13400 ∧ (∀ x ∈ ps, x.natAbs < 2 ^ 64) ∧ PErr K n ps E H ∧
  (PricesOk n ps → ¬ IsLot n lot → ∀ H', Ex H H' → E (.ref (He.ga K "BadLot")) none H') ∧ (PricesOk n ps → IsLot n lot → ∀ p H', Fr H p → Ex H H' → RN (He.ga K "Ratio") H' p (worthQ (sh lot) lot ps) (n.toNat * (b + 66) + 65) → Q (.ref p) H')
theorem ok_Mixed_worth (T : Tx P K mg) : FnOk P w K mg base (L2.CX P w) 7 (He.ma K (He.ga K "Rule") "worth") (Z.fdOf K (He.ma K (He.ga K "Rule") "worth")) ["self", "lot", "prices"] (sp_Mixed_worth K) := by
  refine T.F_Rule_worth.ok sc_Rule_worth (fun vs H Q E h => ?_) (fun cdv A outer s H vs Q E hr h => ?_)
  · obtain ⟨x, l, pl, n, sh, b, lot, ps, rfl, _⟩ := h
    rfl
  · obtain ⟨x, l, pl, n, sh, b, lot, ps, rfl, hx, hl, hp, hb, hps, hPE, hE, k⟩ := h
    have hrb := hx.rb
    have hlen := hx.len lot
    obtain ⟨_, _, _, _, _, hn0, hn1⟩ := id hrb
    obtain ⟨ds2_Ratio___init__, vd2_Ratio___init__, bd2_Ratio___init__⟩ := T.b2_Ratio___init__
    have fx0 := T.o_Mixed.cl
    have fx1 := T.na_Mixed_many
    refine ⟨_, (pss_cons (ps_expr (Z.pe_callZ (ok_check_prices T) (hr.mono (by decide)) (by rfl) T.g_check_prices T.F_check_prices.kp T.b_check_prices .nil (fun σ => passAt (takes_of rfl rfl rfl rfl) σ) (pa_cons (pv 2) (pa_cons (Z.fld (K := K) rfl (pv 0) rfl) pa_nil))))
      (pss_cons (ps_set (i := 3) sc_Rule_worth.nd rfl (Or.inl rfl) (Z.pe_methZ (pv 0) T.o_Mixed.cl T.me_Mixed_shares (ok_Mixed_shares T) (hr.mono (by decide)) T.b_Mixed_shares .nil (fun σ => passAt (takes_of rfl rfl rfl rfl) σ) (pa_cons (pv 1) pa_nil)))
      (pss_cons (ps_set (i := 4) sc_Rule_worth.nd rfl (Or.inl rfl) (Z.pe_makeZ T.mk_Ratio (ok_Ratio___init__ T) (hr.mono (by decide)) (by rfl) T.g_Ratio bd2_Ratio___init__ vd2_Ratio___init__ (fun σ => passAt (takes_of rfl rfl rfl rfl) σ) (pa_cons pe_int pa_nil)))
      (pss_cons (ps_for (passes_of rfl) rfl (Z.piT (K := K) rfl (pv 1)) (pg_name (i := 5) sc_Rule_worth.nd rfl (by first | exact Or.inl rfl | exact Or.inr rfl)) (pss_one (ps_set (i := 4) sc_Rule_worth.nd rfl (Or.inl rfl) (Z.pe_opS (Z.opS_OO T.o_Ratio T.me_Ratio___add__.at_ T.me_Ratio___add__.fn (Z.rawOk (ok_Ratio___add__ T) T.b_Ratio___add__) (hr.mono (by decide)) (fun σ => passAt (takes_of rfl rfl rfl rfl) σ)) (pv 4) (Z.pe_opS (Z.opS_OI T.o_Ratio T.me_Ratio___mul__.at_ T.me_Ratio___mul__.fn T.me_Ratio___rmul__.at_ (.inr ⟨_, rfl⟩) Z.has_mul (Z.rawOk (ok_Ratio___mul__ T) T.b_Ratio___mul__) (hr.mono (by decide)) (fun σ => passAt (takes_of rfl rfl rfl rfl) σ)) (pe_ix (Z.ix (K := K) rfl) (pv 3) (pv 5) (fun _ _ => rfl)) (pe_ix (Z.ix (K := K) rfl) (pv 2) (pv 5) (fun _ _ => rfl)))))))
      (pss_one (ps_ret (pv 4))))))), ?_⟩
    try dsimp only [cxOf, Cx.nox, Cx.wish]
    try (show (_ : TS) _ [some _, some _, some _, none, none, none] _)
    walk_at "go"
    refine ⟨pl, ps, n, rfl, hp, hPE, fun hok H0 he0 => ?_⟩
    walk_at "go"
    refine use_Mixed_shares (hx.ex he0) (he0.t hl) (fun h H' e => hE hok h H' (he0.trans e)) fun hlot p1 H1 xs hp1 he1 hat hxs => ?_
    walk_at "go"
    rename_i p2 H2 hp2 he2 hr2 J S
    have hxl : xs.length = n.toNat := by rw [hxs.1, hlen]
    have hll := hlot.len
    refine Z.fg S (fun i σ G => ∃ (a : Addr) (v5 : Option V), σ = [some (.ref x), some (.ref l), some (.ref pl), some (.ref p1), some (.ref a), v5] ∧ Ex H2 G ∧ Fr H a ∧ RN (He.ga K "Ratio") G a (worthQ (sh lot) (lot.take i) ps) (65 + i * (b + 66)))
      ⟨p2, none, rfl, Ex.refl _, he0.back (he1.back hp2), hr2.eq (by exact_mod_cast rfl) (by omega) (by omega)⟩ (fun i σ' G _ ⟨_, _, _, e, _⟩ => e.t (he2.t (he1.t (he0.t hl)))) ?_ ?_
    · rintro i y σ' G G2 hi ⟨a, v5, rfl, eG, ha, hra⟩ e2 hy
      obtain ⟨hi2, rfl⟩ := get_int hy
      have ht := hlot.2 (lot.getD i 0) (by rw [getD_get _ _ _ hi2]; exact List.getElem_mem hi2)
      have hi3 : i * (b + 66) + (b + 66) ≤ n.toNat * (b + 66) := by
        have := Nat.mul_le_mul_right (b + 66) (show i + 1 ≤ n.toNat by omega)
        rw [Nat.add_mul, Nat.one_mul] at this
        exact this
      have hra2 := hra.ex e2
      have hxs2 := ((hxs.ex he2).ex eG).ex e2
      have hlq : lot.getD i 0 < (sh lot).length := by rw [hlen]; omega
      have hok1 := hok.1
      have hpb : (ps.getD (lot.getD i 0).toNat 0).natAbs < 2 ^ 64 := by
        rw [getD_get _ _ _ (show (lot.getD i 0).toNat < ps.length by omega)]; exact hps _ (List.getElem_mem _)
      walk_at "go"
      rename_i ra hra3 p3 H3 hn3 he3 hr3 p4 H4 hn4 he4 hr4
      refine ⟨p4, _, rfl, by walk_at "ex", ?_, hr4.eq ?_ ?_ ?_⟩
      · exact he0.back (he1.back (he2.back (eG.back (e2.back (he3.back hn4)))))
      · unfold worthQ
        rw [take_snoc hi2 0, List.map_append, List.map_singleton, sum_snocQ]
      · rw [Nat.add_mul, Nat.one_mul]; omega
      · rw [Nat.add_mul, Nat.one_mul]; omega
    · rintro σ' G ⟨a, v5, rfl, eG, ha, hra⟩
      rw [List.length_map, List.take_length] at hra
      have h5 : lot.length * (b + 66) ≤ n.toNat * (b + 66) := Nat.mul_le_mul_right _ hll
      walk_at "go"
      exact k hok hlot a G ha (((he0.trans he1).trans he2).trans eG) (hra.eq rfl (by omega) (by omega))

/-- Rule.best, by a walk over all lots -/
def sp_Mixed_best (K : PySem.W.Frag) : Sp := fun vs H Q E => ∃ (x pl : Addr) (n : Int) (sh : List Int → List Rat) (b : Nat) (ps : List Int), vs = [.ref x, .ref pl] ∧ Rep_Mixed K H x n sh b ∧ SqL K H pl (ps.map V.int) ∧ n.toNat * (b + 66) + 66 ≤ 13400 ∧ (∀ x ∈ ps, x.natAbs < 2 ^ 64) ∧
  (6 < n → ∀ d H', Ex H H' → At H' d (.xd [("most", .int 6), ("many", .int n)]) → E (.ref (He.ga K "TooMany")) (some d) H') ∧ (n ≤ 6 → PErr K n ps E H) ∧
  (n ≤ 6 → PricesOk n ps → ∀ p t z H' f, Ex H H' → At H' p (.tup [.ref t, .ref z]) → SqT K H' t ((lotI f n.toNat).map V.int) → RN (He.ga K "Ratio") H' z (wv sh ps n.toNat f) (n.toNat * (b + 66) + 65) → BestTo sh ps n.toNat (2 ^ n.toNat) f → Q (.ref p) H')
theorem ok_Mixed_best (T : Tx P K mg) : FnOk P w K mg base (L2.CX P w) 8 (He.ma K (He.ga K "Rule") "best") (Z.fdOf K (He.ma K (He.ga K "Rule") "best")) ["self", "prices"] (sp_Mixed_best K) := by
  refine T.F_Rule_best.ok sc_Rule_best (fun vs H Q E h => ?_) (fun cdv A outer s H vs Q E hr h => ?_)
  · obtain ⟨x, pl, n, sh, b, ps, rfl, _⟩ := h
    rfl
  · obtain ⟨x, pl, n, sh, b, ps, rfl, hx, hp, hb, hps, hT, hPE, k⟩ := h
    have hrb := hx.rb
    have cl := T.o_Mixed.cl
    have kM := T.k_Mixed_SMALL
    have na := T.na_Mixed_many
    obtain ⟨_, _, _, _, _, hn0, hn1⟩ := id hrb
    have fx0 := T.o_Mixed.cl
    have fx1 := T.na_Mixed_many
    have fx2 := T.k_Mixed_SMALL
    refine ⟨_, (pss_cons (ps_if (pt_cmpR Z.op_gt (Z.fld (K := K) rfl (pv 0) rfl) (Z.con (K := K) rfl (pv 0) rfl) (nomark _)) (pss_one (Z.ps_raiseZ rfl (takes_of rfl rfl rfl rfl) (pmk_oex T.oe_TooMany T.si_TooMany.2.2.1 T.si_TooMany.2.2.2 (ok_TooMany___init__ T) (hr.mono (by decide)) T.b_TooMany___init__ .nil passL (by rfl) T.g_TooMany (pa_cons (Z.fld (K := K) rfl (pv 0) rfl) (pa_cons (Z.con (K := K) rfl (pv 0) rfl) pa_nil))))) pss_nil)
      (pss_cons (ps_set (i := 2) sc_Rule_best.nd rfl (Or.inl rfl) (pe_tup pa_nil))
      (pss_cons (ps_set (i := 3) sc_Rule_best.nd rfl (Or.inl rfl) (Z.pe_methZ (pv 0) T.o_Mixed.cl T.me_Mixed_worth (ok_Mixed_worth T) (hr.mono (by decide)) T.b_Rule_worth .nil (fun σ => passAt (takes_of rfl rfl rfl rfl) σ) (pa_cons (pv 2) (pa_cons (pv 1) pa_nil))))
      (pss_cons (Z.ps_forG (passes_of rfl) Z.xe_cx rfl (hr.mono (by decide)) (Z.pgz_call (ok_lots T) (hr.mono (by decide)) (by rfl) T.g_lots T.F_lots.kp T.b_lots .nil (pa_cons (Z.fld (K := K) rfl (pv 0) rfl) pa_nil)) (pg_name (i := 4) sc_Rule_best.nd rfl (by first | exact Or.inl rfl | exact Or.inr rfl)) (pss_cons (ps_set (i := 5) sc_Rule_best.nd rfl (Or.inl rfl) (Z.pe_methZ (pv 0) T.o_Mixed.cl T.me_Mixed_worth (ok_Mixed_worth T) (hr.mono (by decide)) T.b_Rule_worth .nil (fun σ => passAt (takes_of rfl rfl rfl rfl) σ) (pa_cons (pv 4) (pa_cons (pv 1) pa_nil))))
      (pss_one (ps_if (PW.pt (pw_or (pt_cmpR (Z.cmp_OO (fun _ _ => rfl) T.o_Ratio T.me_Ratio___gt__.at_ T.me_Ratio___gt__.fn (Z.rawOk (ok_Ratio___gt__ T) T.b_Ratio___gt__) (hr.mono (by decide)) passL) (pv 5) (pv 3) (nomark _)) (pw_or1 (PW.pt (pw_and (pt_cmpR (Z.cmp_OO (fun _ _ => rfl) T.o_Ratio T.me_Ratio___eq__.at_ T.me_Ratio___eq__.fn (Z.rawOk (ok_Ratio___eq__ T) T.b_Ratio___eq__) (hr.mono (by decide)) passL) (pv 5) (pv 3) (nomark _)) (pw_and1 (pt_cmpR Z.op_lt (pe_callB (Z.call_len (K := K) rfl) (by rfl) T.n_len (by decide +kernel) (pa_cons (pv 4) pa_nil)) (pe_callB (Z.call_len (K := K) rfl) (by rfl) T.n_len (by decide +kernel) (pa_cons (pv 2) pa_nil)) (nomark _)))))))) (pss_cons (ps_set (i := 2) sc_Rule_best.nd rfl (Or.inl rfl) (pv 4))
      (pss_one (ps_set (i := 3) sc_Rule_best.nd rfl (Or.inl rfl) (pv 5)))) pss_nil))))
      (pss_one (ps_ret (pe_tup (pa_cons (pv 2) (pa_cons (pv 3) pa_nil))))))))), ?_⟩
    try dsimp only [cxOf, Cx.nox, Cx.wish]
    try (show (_ : TS) _ [some _, some _, none, none, none, none] _)
    walk_at "go"
    refine Z.w_dec (fun h6 => ?_) (fun h6 => ?_)
    · walk_at "go"
      rename_i d H2 hn2 he hp2
      exact hT h6 d H2 he hp2
    have hn6 : n ≤ 6 := by omega
    have hPE := hPE hn6
    have k := k hn6
    obtain ⟨m, rfl⟩ := Int.eq_ofNat_of_zero_le hn0
    rw [Int.toNat_natCast] at hb k
    walk_at "go"
    rename_i p1 H1 hp1n he1 hp1
    refine ⟨x, p1, pl, m, sh, b, [], ps, rfl, hx.ex he1, st_of hp1, he1.l hp, by rw [Int.toNat_natCast]; exact hb, hps, hPE.up he1, fun _ h => absurd ⟨by simp, by simp⟩ h, fun hok _ z H2 fz ez hz => ?_⟩
    have e02 := he1.trans ez
    have hw0 : worthQ (sh []) [] ps = wv sh ps m 0 := by unfold wv; rw [lotI_zero]
    rw [hw0, Int.toNat_natCast] at hz
    have hr2 := hrb.ex e02
    have hp2 := ez.get hp1
    clear hw0 hrb hp1 hT hPE
    walk_at "go"
    refine ⟨gLots m, ⟨m, rfl, by omega, rfl⟩, fun i σ G => ∃ (f : Nat) (t z : Addr) (v4 v5 : Option V), σ = [some (.ref x), some (.ref pl), some (.ref t), some (.ref z), v4, v5] ∧ Ex H2 G ∧ SqT K G t ((lotI f m).map V.int) ∧ RN (He.ga K "Ratio") G z (wv sh ps m f) (m * (b + 66) + 65) ∧ BestTo sh ps m i f, ⟨0, p1, z, none, none, rfl, Ex.refl _, by rw [lotI_zero]; exact st_of hp2, hz, BestTo.zero⟩, ?_, ?_⟩
    · rintro i σ G hi ⟨f, t, z, v4, v5, rfl, eG, ht, hz, hB⟩ y G2 e2 ⟨l, rfl, hl⟩
      have hi : i < 2 ^ m := hi
      have eG2 := eG.trans e2
      have ht2 := e2.t ht
      have hz2 := hz.ex e2
      have hl2 : At G2 l (.tup ((lotI i m).map V.int)) := hl
      have hr3 := hr2.ex eG2
      clear ht hz hl hr2 hp2
      walk_at "go"
      refine ⟨x, l, pl, m, sh, b, lotI i m, ps, rfl, (hx.ex e02).ex eG2, st_of hl2, eG2.l (e02.l hp), by rw [Int.toNat_natCast]; exact hb, hps, PErr.ok hok, fun _ h => absurd (lotI_isLot i m) h, fun _ _ z3 H3 fz3 ez3 hz3 => ?_⟩
      rw [show worthQ (sh (lotI i m)) (lotI i m) ps = wv sh ps m i from rfl, Int.toNat_natCast] at hz3
      have hz23 := hz2.ex ez3
      have ht23 := ez3.t ht2
      have hl23 := ez3.get hl2
      clear hz2 ht2 hl2
      walk_at "go"
      have e23 := eG2.trans ez3
      refine Z.w_dec (fun h => ?_) (fun h => ?_)
      · walk_at "go"
        exact ⟨ez3.nl, i, l, z3, _, _, rfl, e23, st_of hl23, hz3, hB.take hi (.inl h)⟩
      · walk_at "go"
        refine Z.w_dec (fun he => ?_) (fun he => ?_)
        · walk_at "go"
          refine Z.w_dec (fun hl => ?_) (fun hl => ?_)
          · walk_at "go"
            exact ⟨ez3.nl, i, l, z3, _, _, rfl, e23, st_of hl23, hz3, hB.take hi (.inr ⟨he, by omega⟩)⟩
          · walk_at "go"
            exact ⟨ez3.nl, f, t, z, _, _, rfl, e23, ht23, hz23, hB.keep h fun _ => by omega⟩
        · walk_at "go"
          exact ⟨ez3.nl, f, t, z, _, _, rfl, e23, ht23, hz23, hB.keep h fun q => absurd q he⟩
    · rintro σ G ⟨f, t, z, v4, v5, rfl, eG, ht, hz, hB⟩ G2 e2
      have ht2 := e2.t ht
      have hz2 := hz.ex e2
      walk_at "go"
      rename_i p5 H5 hn5 he5 hp5
      exact k hok p5 t z H5 f ((e02.trans eG).trans (e2.trans he5)) hp5 (he5.t ht2) (hz2.ex he5) hB

def sp_Rule_worth (K : PySem.W.Frag) : Sp := fun vs H Q E => ∃ (x l pl : Addr) (n : Int) (sh : List Int → List Rat) (b : Nat) (lot ps : List Int), vs = [.ref x, .ref l, .ref pl] ∧ Rep_Rule K H x n sh b ∧ SqT K H l (lot.map V.int) ∧ SqL K H pl (ps.map V.int) ∧ n.toNat * (b + 66) + 66 ≤ 13400 ∧ (∀ x ∈ ps, x.natAbs < 2 ^ 64) ∧ PErr K n ps E H ∧
  (PricesOk n ps → ¬ IsLot n lot → ∀ H', Ex H H' → E (.ref (He.ga K "BadLot")) none H') ∧ (PricesOk n ps → IsLot n lot → ∀ p H', Fr H p → Ex H H' → RN (He.ga K "Ratio") H' p (worthQ (sh lot) lot ps) (n.toNat * (b + 66) + 65) → Q (.ref p) H')
theorem ok_Rule_worth (T : Tx P K mg) : FnOk P w K mg base (L2.CX P w) 4 (He.ma K (He.ga K "Rule") "worth") (Z.fdOf K (He.ma K (He.ga K "Rule") "worth")) ["self", "lot", "prices"] (sp_Rule_worth K) := by
  refine T.F_Rule_worth.ok sc_Rule_worth (fun vs H Q E h => ?_) (fun cdv A outer s H vs Q E hr h => ?_)
  · obtain ⟨x, l, pl, n, sh, b, lot, ps, rfl, _⟩ := h
    rfl
  · obtain ⟨x, l, pl, n, sh, b, lot, ps, rfl, hx, hl, hp, hb, hps, hPE, hE, k⟩ := h
    have hrb := hx.rb
    have hlen := hx.len lot
    obtain ⟨_, _, _, _, _, hn0, hn1⟩ := id hrb
    obtain ⟨ds2_Ratio___init__, vd2_Ratio___init__, bd2_Ratio___init__⟩ := T.b2_Ratio___init__
    have fx0 := T.o_Rule.cl
    have fx1 := T.na_Rule_many
    refine ⟨_, (pss_cons (ps_expr (Z.pe_callZ (ok_check_prices T) (hr.mono (by decide)) (by rfl) T.g_check_prices T.F_check_prices.kp T.b_check_prices .nil (fun σ => passAt (takes_of rfl rfl rfl rfl) σ) (pa_cons (pv 2) (pa_cons (Z.fld (K := K) rfl (pv 0) rfl) pa_nil))))
      (pss_cons (ps_set (i := 3) sc_Rule_worth.nd rfl (Or.inl rfl) (Z.pe_methZ (pv 0) T.o_Rule.cl T.me_Rule_shares (ok_Rule_shares T) (hr.mono (by decide)) T.b_Rule_shares .nil (fun σ => passAt (takes_of rfl rfl rfl rfl) σ) (pa_cons (pv 1) pa_nil)))
      (pss_cons (ps_set (i := 4) sc_Rule_worth.nd rfl (Or.inl rfl) (Z.pe_makeZ T.mk_Ratio (ok_Ratio___init__ T) (hr.mono (by decide)) (by rfl) T.g_Ratio bd2_Ratio___init__ vd2_Ratio___init__ (fun σ => passAt (takes_of rfl rfl rfl rfl) σ) (pa_cons pe_int pa_nil)))
      (pss_cons (ps_for (passes_of rfl) rfl (Z.piT (K := K) rfl (pv 1)) (pg_name (i := 5) sc_Rule_worth.nd rfl (by first | exact Or.inl rfl | exact Or.inr rfl)) (pss_one (ps_set (i := 4) sc_Rule_worth.nd rfl (Or.inl rfl) (Z.pe_opS (Z.opS_OO T.o_Ratio T.me_Ratio___add__.at_ T.me_Ratio___add__.fn (Z.rawOk (ok_Ratio___add__ T) T.b_Ratio___add__) (hr.mono (by decide)) (fun σ => passAt (takes_of rfl rfl rfl rfl) σ)) (pv 4) (Z.pe_opS (Z.opS_OI T.o_Ratio T.me_Ratio___mul__.at_ T.me_Ratio___mul__.fn T.me_Ratio___rmul__.at_ (.inr ⟨_, rfl⟩) Z.has_mul (Z.rawOk (ok_Ratio___mul__ T) T.b_Ratio___mul__) (hr.mono (by decide)) (fun σ => passAt (takes_of rfl rfl rfl rfl) σ)) (pe_ix (Z.ix (K := K) rfl) (pv 3) (pv 5) (fun _ _ => rfl)) (pe_ix (Z.ix (K := K) rfl) (pv 2) (pv 5) (fun _ _ => rfl)))))))
      (pss_one (ps_ret (pv 4))))))), ?_⟩
    try dsimp only [cxOf, Cx.nox, Cx.wish]
    try (show (_ : TS) _ [some _, some _, some _, none, none, none] _)
    walk_at "go"
    refine ⟨pl, ps, n, rfl, hp, hPE, fun hok H0 he0 => ?_⟩
    walk_at "go"
    refine use_Rule_shares (hx.ex he0) (he0.t hl) (fun h H' e => hE hok h H' (he0.trans e)) fun hlot p1 H1 xs hp1 he1 hat hxs => ?_
    walk_at "go"
    rename_i p2 H2 hp2 he2 hr2 J S
    have hxl : xs.length = n.toNat := by rw [hxs.1, hlen]
    have hll := hlot.len
    refine Z.fg S (fun i σ G => ∃ (a : Addr) (v5 : Option V), σ = [some (.ref x), some (.ref l), some (.ref pl), some (.ref p1), some (.ref a), v5] ∧ Ex H2 G ∧ Fr H a ∧ RN (He.ga K "Ratio") G a (worthQ (sh lot) (lot.take i) ps) (65 + i * (b + 66)))
      ⟨p2, none, rfl, Ex.refl _, he0.back (he1.back hp2), hr2.eq (by exact_mod_cast rfl) (by omega) (by omega)⟩ (fun i σ' G _ ⟨_, _, _, e, _⟩ => e.t (he2.t (he1.t (he0.t hl)))) ?_ ?_
    · rintro i y σ' G G2 hi ⟨a, v5, rfl, eG, ha, hra⟩ e2 hy
      obtain ⟨hi2, rfl⟩ := get_int hy
      have ht := hlot.2 (lot.getD i 0) (by rw [getD_get _ _ _ hi2]; exact List.getElem_mem hi2)
      have hi3 : i * (b + 66) + (b + 66) ≤ n.toNat * (b + 66) := by
        have := Nat.mul_le_mul_right (b + 66) (show i + 1 ≤ n.toNat by omega)
        rw [Nat.add_mul, Nat.one_mul] at this
        exact this
      have hra2 := hra.ex e2
      have hxs2 := ((hxs.ex he2).ex eG).ex e2
      have hlq : lot.getD i 0 < (sh lot).length := by rw [hlen]; omega
      have hok1 := hok.1
      have hpb : (ps.getD (lot.getD i 0).toNat 0).natAbs < 2 ^ 64 := by
        rw [getD_get _ _ _ (show (lot.getD i 0).toNat < ps.length by omega)]; exact hps _ (List.getElem_mem _)
      walk_at "go"
      rename_i ra hra3 p3 H3 hn3 he3 hr3 p4 H4 hn4 he4 hr4
      refine ⟨p4, _, rfl, by walk_at "ex", ?_, hr4.eq ?_ ?_ ?_⟩
      · exact he0.back (he1.back (he2.back (eG.back (e2.back (he3.back hn4)))))
      · unfold worthQ
        rw [take_snoc hi2 0, List.map_append, List.map_singleton, sum_snocQ]
      · rw [Nat.add_mul, Nat.one_mul]; omega
      · rw [Nat.add_mul, Nat.one_mul]; omega
    · rintro σ' G ⟨a, v5, rfl, eG, ha, hra⟩
      rw [List.length_map, List.take_length] at hra
      have h5 : lot.length * (b + 66) ≤ n.toNat * (b + 66) := Nat.mul_le_mul_right _ hll
      walk_at "go"
      exact k hok hlot a G ha (((he0.trans he1).trans he2).trans eG) (hra.eq rfl (by omega) (by omega))

/-- Rule.best, by a walk over all lots -/
def sp_Rule_best (K : PySem.W.Frag) : Sp := fun vs H Q E => ∃ (x pl : Addr) (n : Int) (sh : List Int → List Rat) (b : Nat) (ps : List Int), vs = [.ref x, .ref pl] ∧ Rep_Rule K H x n sh b ∧ SqL K H pl (ps.map V.int) ∧ n.toNat * (b + 66) + 66 ≤ 13400 ∧ (∀ x ∈ ps, x.natAbs < 2 ^ 64) ∧
  (6 < n → ∀ d H', Ex H H' → At H' d (.xd [("most", .int 6), ("many", .int n)]) → E (.ref (He.ga K "TooMany")) (some d) H') ∧ (n ≤ 6 → PErr K n ps E H) ∧
  (n ≤ 6 → PricesOk n ps → ∀ p t z H' f, Ex H H' → At H' p (.tup [.ref t, .ref z]) → SqT K H' t ((lotI f n.toNat).map V.int) → RN (He.ga K "Ratio") H' z (wv sh ps n.toNat f) (n.toNat * (b + 66) + 65) → BestTo sh ps n.toNat (2 ^ n.toNat) f → Q (.ref p) H')
theorem ok_Rule_best (T : Tx P K mg) : FnOk P w K mg base (L2.CX P w) 5 (He.ma K (He.ga K "Rule") "best") (Z.fdOf K (He.ma K (He.ga K "Rule") "best")) ["self", "prices"] (sp_Rule_best K) := by
  refine T.F_Rule_best.ok sc_Rule_best (fun vs H Q E h => ?_) (fun cdv A outer s H vs Q E hr h => ?_)
  · obtain ⟨x, pl, n, sh, b, ps, rfl, _⟩ := h
    rfl
  · obtain ⟨x, pl, n, sh, b, ps, rfl, hx, hp, hb, hps, hT, hPE, k⟩ := h
    have hrb := hx.rb
    have cl := T.o_Rule.cl
    have kM := T.k_Rule_SMALL
    have na := T.na_Rule_many
    obtain ⟨_, _, _, _, _, hn0, hn1⟩ := id hrb
    have fx0 := T.o_Rule.cl
    have fx1 := T.na_Rule_many
    have fx2 := T.k_Rule_SMALL
    refine ⟨_, (pss_cons (ps_if (pt_cmpR Z.op_gt (Z.fld (K := K) rfl (pv 0) rfl) (Z.con (K := K) rfl (pv 0) rfl) (nomark _)) (pss_one (Z.ps_raiseZ rfl (takes_of rfl rfl rfl rfl) (pmk_oex T.oe_TooMany T.si_TooMany.2.2.1 T.si_TooMany.2.2.2 (ok_TooMany___init__ T) (hr.mono (by decide)) T.b_TooMany___init__ .nil passL (by rfl) T.g_TooMany (pa_cons (Z.fld (K := K) rfl (pv 0) rfl) (pa_cons (Z.con (K := K) rfl (pv 0) rfl) pa_nil))))) pss_nil)
      (pss_cons (ps_set (i := 2) sc_Rule_best.nd rfl (Or.inl rfl) (pe_tup pa_nil))
      (pss_cons (ps_set (i := 3) sc_Rule_best.nd rfl (Or.inl rfl) (Z.pe_methZ (pv 0) T.o_Rule.cl T.me_Rule_worth (ok_Rule_worth T) (hr.mono (by decide)) T.b_Rule_worth .nil (fun σ => passAt (takes_of rfl rfl rfl rfl) σ) (pa_cons (pv 2) (pa_cons (pv 1) pa_nil))))
      (pss_cons (Z.ps_forG (passes_of rfl) Z.xe_cx rfl (hr.mono (by decide)) (Z.pgz_call (ok_lots T) (hr.mono (by decide)) (by rfl) T.g_lots T.F_lots.kp T.b_lots .nil (pa_cons (Z.fld (K := K) rfl (pv 0) rfl) pa_nil)) (pg_name (i := 4) sc_Rule_best.nd rfl (by first | exact Or.inl rfl | exact Or.inr rfl)) (pss_cons (ps_set (i := 5) sc_Rule_best.nd rfl (Or.inl rfl) (Z.pe_methZ (pv 0) T.o_Rule.cl T.me_Rule_worth (ok_Rule_worth T) (hr.mono (by decide)) T.b_Rule_worth .nil (fun σ => passAt (takes_of rfl rfl rfl rfl) σ) (pa_cons (pv 4) (pa_cons (pv 1) pa_nil))))
      (pss_one (ps_if (PW.pt (pw_or (pt_cmpR (Z.cmp_OO (fun _ _ => rfl) T.o_Ratio T.me_Ratio___gt__.at_ T.me_Ratio___gt__.fn (Z.rawOk (ok_Ratio___gt__ T) T.b_Ratio___gt__) (hr.mono (by decide)) passL) (pv 5) (pv 3) (nomark _)) (pw_or1 (PW.pt (pw_and (pt_cmpR (Z.cmp_OO (fun _ _ => rfl) T.o_Ratio T.me_Ratio___eq__.at_ T.me_Ratio___eq__.fn (Z.rawOk (ok_Ratio___eq__ T) T.b_Ratio___eq__) (hr.mono (by decide)) passL) (pv 5) (pv 3) (nomark _)) (pw_and1 (pt_cmpR Z.op_lt (pe_callB (Z.call_len (K := K) rfl) (by rfl) T.n_len (by decide +kernel) (pa_cons (pv 4) pa_nil)) (pe_callB (Z.call_len (K := K) rfl) (by rfl) T.n_len (by decide +kernel) (pa_cons (pv 2) pa_nil)) (nomark _)))))))) (pss_cons (ps_set (i := 2) sc_Rule_best.nd rfl (Or.inl rfl) (pv 4))
      (pss_one (ps_set (i := 3) sc_Rule_best.nd rfl (Or.inl rfl) (pv 5)))) pss_nil))))
      (pss_one (ps_ret (pe_tup (pa_cons (pv 2) (pa_cons (pv 3) pa_nil))))))))), ?_⟩
    try dsimp only [cxOf, Cx.nox, Cx.wish]
    try (show (_ : TS) _ [some _, some _, none, none, none, none] _)
    walk_at "go"
    refine Z.w_dec (fun h6 => ?_) (fun h6 => ?_)
    · walk_at "go"
      rename_i d H2 hn2 he hp2
      exact hT h6 d H2 he hp2
    have hn6 : n ≤ 6 := by omega
    have hPE := hPE hn6
    have k := k hn6
    obtain ⟨m, rfl⟩ := Int.eq_ofNat_of_zero_le hn0
    rw [Int.toNat_natCast] at hb k
    walk_at "go"
    rename_i p1 H1 hp1n he1 hp1
    refine ⟨x, p1, pl, m, sh, b, [], ps, rfl, hx.ex he1, st_of hp1, he1.l hp, by rw [Int.toNat_natCast]; exact hb, hps, hPE.up he1, fun _ h => absurd ⟨by simp, by simp⟩ h, fun hok _ z H2 fz ez hz => ?_⟩
    have e02 := he1.trans ez
    have hw0 : worthQ (sh []) [] ps = wv sh ps m 0 := by unfold wv; rw [lotI_zero]
    rw [hw0, Int.toNat_natCast] at hz
    have hr2 := hrb.ex e02
    have hp2 := ez.get hp1
    clear hw0 hrb hp1 hT hPE
    walk_at "go"
    refine ⟨gLots m, ⟨m, rfl, by omega, rfl⟩, fun i σ G => ∃ (f : Nat) (t z : Addr) (v4 v5 : Option V), σ = [some (.ref x), some (.ref pl), some (.ref t), some (.ref z), v4, v5] ∧ Ex H2 G ∧ SqT K G t ((lotI f m).map V.int) ∧ RN (He.ga K "Ratio") G z (wv sh ps m f) (m * (b + 66) + 65) ∧ BestTo sh ps m i f, ⟨0, p1, z, none, none, rfl, Ex.refl _, by rw [lotI_zero]; exact st_of hp2, hz, BestTo.zero⟩, ?_, ?_⟩
    · rintro i σ G hi ⟨f, t, z, v4, v5, rfl, eG, ht, hz, hB⟩ y G2 e2 ⟨l, rfl, hl⟩
      have hi : i < 2 ^ m := hi
      have eG2 := eG.trans e2
      have ht2 := e2.t ht
      have hz2 := hz.ex e2
      have hl2 : At G2 l (.tup ((lotI i m).map V.int)) := hl
      have hr3 := hr2.ex eG2
      clear ht hz hl hr2 hp2
      walk_at "go"
      refine ⟨x, l, pl, m, sh, b, lotI i m, ps, rfl, (hx.ex e02).ex eG2, st_of hl2, eG2.l (e02.l hp), by rw [Int.toNat_natCast]; exact hb, hps, PErr.ok hok, fun _ h => absurd (lotI_isLot i m) h, fun _ _ z3 H3 fz3 ez3 hz3 => ?_⟩
      rw [show worthQ (sh (lotI i m)) (lotI i m) ps = wv sh ps m i from rfl, Int.toNat_natCast] at hz3
      have hz23 := hz2.ex ez3
      have ht23 := ez3.t ht2
      have hl23 := ez3.get hl2
      clear hz2 ht2 hl2
      walk_at "go"
      have e23 := eG2.trans ez3
      refine Z.w_dec (fun h => ?_) (fun h => ?_)
      · walk_at "go"
        exact ⟨ez3.nl, i, l, z3, _, _, rfl, e23, st_of hl23, hz3, hB.take hi (.inl h)⟩
      · walk_at "go"
        refine Z.w_dec (fun he => ?_) (fun he => ?_)
        · walk_at "go"
          refine Z.w_dec (fun hl => ?_) (fun hl => ?_)
          · walk_at "go"
            exact ⟨ez3.nl, i, l, z3, _, _, rfl, e23, st_of hl23, hz3, hB.take hi (.inr ⟨he, by omega⟩)⟩
          · walk_at "go"
            exact ⟨ez3.nl, f, t, z, _, _, rfl, e23, ht23, hz23, hB.keep h fun _ => by omega⟩
        · walk_at "go"
          exact ⟨ez3.nl, f, t, z, _, _, rfl, e23, ht23, hz23, hB.keep h fun q => absurd q he⟩
    · rintro σ G ⟨f, t, z, v4, v5, rfl, eG, ht, hz, hB⟩ G2 e2
      have ht2 := e2.t ht
      have hz2 := hz.ex e2
      walk_at "go"
      rename_i p5 H5 hn5 he5 hp5
      exact k hok p5 t z H5 f ((e02.trans eG).trans (e2.trans he5)) hp5 (he5.t ht2) (hz2.ex he5) hB

/-- a rule of one of four kinds -/
def RAll (K : PySem.W.Frag) (H : Hp) (x : Addr) (n : Int) (sh : List Int → List Rat) (b : Nat) : Prop := Rep_Tabled K H x n sh b ∨ Rep_Listed K H x n sh b ∨ Rep_Mixed K H x n sh b ∨ Rep_Rule K H x n sh b
theorem RAll.ex {K : PySem.W.Frag} {H H' : Hp} {x : Addr} {n : Int} {sh : List Int → List Rat} {b : Nat} (h : RAll K H x n sh b) (e : Ex H H') : RAll K H' x n sh b := by
  rcases h with h | h | h | h
  · exact .inl (h.ex e)
  · exact .inr (.inl (h.ex e))
  · exact .inr (.inr (.inl (h.ex e)))
  · exact .inr (.inr (.inr (h.ex e)))
theorem RAll.bd {K : PySem.W.Frag} {H : Hp} {x : Addr} {n : Int} {sh : List Int → List Rat} {b : Nat} (h : RAll K H x n sh b) : 0 ≤ n ∧ n ≤ 24 := by
  rcases h with h | h | h | h
  · obtain ⟨_, _, _, _, _, h1, h2⟩ := h.rb; exact ⟨h1, h2⟩
  · obtain ⟨_, _, _, _, _, h1, h2⟩ := h.rb; exact ⟨h1, h2⟩
  · obtain ⟨_, _, _, _, _, h1, h2⟩ := h.rb; exact ⟨h1, h2⟩
  · obtain ⟨_, _, _, _, _, h1, h2⟩ := h.rb; exact ⟨h1, h2⟩
theorem u_bestAll {K : PySem.W.Frag} {H : Hp} {Q : VK} {E : XK} {x pl : Addr} {n : Int} {sh : List Int → List Rat} {b iv il : Nat} {ps : List Int} {σ : L2.St} (hv : σ[iv]? = some (some (V.ref x))) (hv2 : σ[il]? = some (some (V.ref pl))) (h : RAll K H x n sh b) (hp : SqL K H pl (ps.map V.int)) (hb : n.toNat * (b + 66) + 66 ≤ 13400) (hps : ∀ x ∈ ps, x.natAbs < 2 ^ 64)
    (hT : 6 < n → ∀ d H', Ex H H' → At H' d (.xd [("most", .int 6), ("many", .int n)]) → E (.ref (He.ga K "TooMany")) (some d) H') (hP : n ≤ 6 → PErr K n ps E H)
    (k : n ≤ 6 → PricesOk n ps → ∀ p t z H' f, Ex H H' → At H' p (.tup [.ref t, .ref z]) → SqT K H' t ((lotI f n.toNat).map V.int) → RN (He.ga K "Ratio") H' z (wv sh ps n.toNat f) (n.toNat * (b + 66) + 65) → BestTo sh ps n.toNat (2 ^ n.toNat) f → Q (.ref p) H') :
    tMeth (He.ga K "Tabled") "best" (sp_Tabled_best K) [] E (tVar iv) (tCons (tVar il) tNil) σ H Q ∨ tMeth (He.ga K "Listed") "best" (sp_Listed_best K) [] E (tVar iv) (tCons (tVar il) tNil) σ H Q ∨ tMeth (He.ga K "Mixed") "best" (sp_Mixed_best K) [] E (tVar iv) (tCons (tVar il) tNil) σ H Q ∨ tMeth (He.ga K "Rule") "best" (sp_Rule_best K) [] E (tVar iv) (tCons (tVar il) tNil) σ H Q := by
  rcases h with h | h | h | h
  · exact .inl (Z.w_meth (Z.w_var hv (u_rme h.rb (by decide +kernel) (Z.w_cons (Z.w_var hv2 (Z.w_nil ⟨x, pl, n, sh, b, ps, rfl, h, hp, hb, hps, hT, hP, k⟩))))))
  · exact .inr (.inl (Z.w_meth (Z.w_var hv (u_rme h.rb (by decide +kernel) (Z.w_cons (Z.w_var hv2 (Z.w_nil ⟨x, pl, n, sh, b, ps, rfl, h, hp, hb, hps, hT, hP, k⟩)))))))
  · exact .inr (.inr (.inl (Z.w_meth (Z.w_var hv (u_rme h.rb (by decide +kernel) (Z.w_cons (Z.w_var hv2 (Z.w_nil ⟨x, pl, n, sh, b, ps, rfl, h, hp, hb, hps, hT, hP, k⟩))))))))
  · exact .inr (.inr (.inr (Z.w_meth (Z.w_var hv (u_rme h.rb (by decide +kernel) (Z.w_cons (Z.w_var hv2 (Z.w_nil ⟨x, pl, n, sh, b, ps, rfl, h, hp, hb, hps, hT, hP, k⟩))))))))
/-- what is told of a refusal -/
inductive BOut (n : Int) (ps : List Int) : List V → Prop
  | num (h : n ≤ 6) (v : V) (i : Int) (hr : PRes n ps v i) : BOut n ps [.str "number", .str "prices", v]
  | many (h : 6 < n) : BOut n ps [.str "many", .int n, .int 6]
def sp__law_asked (K : PySem.W.Frag) : Sp := fun vs H Q _ => ∃ (x pl : Addr) (n : Int) (sh : List Int → List Rat) (b : Nat) (ps : List Int) (o : List V), vs = [.ref x, .ref pl] ∧ RAll K H x n sh b ∧ SqL K H pl (ps.map V.int) ∧ n.toNat * (b + 66) + 66 ≤ 13400 ∧ (∀ x ∈ ps, x.natAbs < 2 ^ 64) ∧ BOut n ps o ∧ ∀ p H', Ex H H' → At H' p (.tup o) → Q (.ref p) H'
theorem ok__law_asked (T : Tx P K mg) : FnOk P w K mg base (L2.CX P w) 9 (He.ga K "_law_asked") (Z.fdOf K (He.ga K "_law_asked")) ["_law_rule", "_law_prices"] (sp__law_asked K) := by
  refine T.F__law_asked.ok sc__law_asked (fun vs H Q E h => ?_) (fun cdv A outer s H vs Q E hr h => ?_)
  · obtain ⟨x, pl, n, sh, b, ps, o, rfl, _⟩ := h
    rfl
  · obtain ⟨x, pl, n, sh, b, ps, o, rfl, hx, hp, hb, hps, ho, k⟩ := h
    have fx0 := T.exm_ShelfError_TooMany
    have fx1 := T.exm_ZeroBottom_TooMany
    have fx2 := T.exm_BadText_TooMany
    have fx3 := T.exm_BadLot_TooMany
    have fx4 := T.exm_NoBuyers_TooMany
    have fx5 := T.exm_BadNumber_TooMany
    have fx6 := T.exm_TooMany_TooMany
    have fx7 := T.exm_BadWish_TooMany
    have fx8 := T.exm_Unlike_TooMany
    have fx9 := T.exm_BadTable_TooMany
    have fx10 := T.exm_ShelfError_BadNumber
    have fx11 := T.exm_ZeroBottom_BadNumber
    have fx12 := T.exm_BadText_BadNumber
    have fx13 := T.exm_BadLot_BadNumber
    have fx14 := T.exm_NoBuyers_BadNumber
    have fx15 := T.exm_BadNumber_BadNumber
    have fx16 := T.exm_TooMany_BadNumber
    have fx17 := T.exm_BadWish_BadNumber
    have fx18 := T.exm_Unlike_BadNumber
    have fx19 := T.exm_BadTable_BadNumber
    refine ⟨_, PSs.nox (pss_cons (Z.ps_tryM rfl rfl sc__law_asked.nd takes0 (fun W pn xe tk _ => (pss_one (ps_expr (Z.pe_or (Z.pe_methZ (pv 0) T.o_Tabled.cl T.me_Tabled_best (ok_Tabled_best T) (hr.mono (by decide)) T.b_Rule_best .nil (fun σ => passAt tk σ) (pa_cons (pv 1) pa_nil)) (Z.pe_or (Z.pe_methZ (pv 0) T.o_Listed.cl T.me_Listed_best (ok_Listed_best T) (hr.mono (by decide)) T.b_Rule_best .nil (fun σ => passAt tk σ) (pa_cons (pv 1) pa_nil)) (Z.pe_or (Z.pe_methZ (pv 0) T.o_Mixed.cl T.me_Mixed_best (ok_Mixed_best T) (hr.mono (by decide)) T.b_Rule_best .nil (fun σ => passAt tk σ) (pa_cons (pv 1) pa_nil)) (Z.pe_methZ (pv 0) T.o_Rule.cl T.me_Rule_best (ok_Rule_best T) (hr.mono (by decide)) T.b_Rule_best .nil (fun σ => passAt tk σ) (pa_cons (pv 1) pa_nil)))))))) (.as (i := 2) ⟨rfl, by decide, .inl T.g_BadNumber⟩ rfl rfl (fun a oe cls d pn hz hf => (pss_one (ps_ret (pe_tup (pa_cons pe_str (pa_cons (pe_xf T.xf_BadNumber T.nf_BadNumber_what hz hf (pv 2)) (pa_cons (pe_xf T.xf_BadNumber T.nf_BadNumber_at hz hf (pv 2)) pa_nil))))))) (.as (i := 2) ⟨rfl, by decide, .inl T.g_TooMany⟩ rfl rfl (fun a oe cls d pn hz hf => (pss_one (ps_ret (pe_tup (pa_cons pe_str (pa_cons (pe_xf T.xf_TooMany T.nf_TooMany_many hz hf (pv 2)) (pa_cons (pe_xf T.xf_TooMany T.nf_TooMany_most hz hf (pv 2)) pa_nil))))))) .nil)))
      (pss_one (ps_ret (pe_tup (pa_cons pe_str pa_nil))))), ?_⟩
    try dsimp only [cxOf, Cx.nox, Cx.wish]
    try (show (_ : TS) _ [some _, some _, none] _)
    walk_at "go"
    have hbd := hx.bd
    refine u_bestAll rfl rfl hx hp hb hps (fun h6 d H' e hd => ?_) (fun h6 => ⟨fun h d H' hf e hd => ?_, fun h j hj hw hb d H' hf e hd => ?_⟩) (fun h6 hok => ?_)
    · cases ho with
      | num h v i hr => exact absurd h (by omega)
      | many h =>
        walk_at "go"
        exact k _ _ (by walk_at "ex") (by assumption)
    · cases ho with
      | many h => exact absurd h (by omega)
      | num h v i hr =>
        obtain ⟨rfl, rfl⟩ := hr.det (.len (by assumption))
        walk_at "go"
        exact k _ _ (by walk_at "ex") (by assumption)
    · cases ho with
      | many h => exact absurd h (by omega)
      | num h v i hr =>
        obtain ⟨rfl, rfl⟩ := hr.det (.neg (by assumption) j hj hw hb)
        walk_at "go"
        exact k _ _ (by walk_at "ex") (by assumption)
    · cases ho with
      | many h => exact absurd h (by omega)
      | num h v i hr => exact (hr.no hok).elim

/-- the rows tell the shares -/
def RowOk (sh : List Int → List Rat) (m i : Nat) (r : List Int) : Prop := r.length = m + 1 ∧ 1 ≤ r.getD 0 0 ∧ (∀ z ∈ r, 0 ≤ z ∧ z < 2 ^ 199) ∧ ∀ t, t < m → if (t : Int) ∈ lotI i m then (sh (lotI i m)).getD t 0 = Rat.divInt (r.getD (t + 1) 0) (r.getD 0 0) else r.getD (t + 1) 0 = 0
def RowsOk (sh : List Int → List Rat) (m : Nat) (rows : List (List Int)) : Prop := rows.length = 2 ^ m ∧ ∀ i, i < 2 ^ m → RowOk sh m i (rows.getD i [])
theorem sum_ite {α : Type} (l : List α) (p : α → Bool) (f : α → Rat) : (l.map fun t => if p t = true then f t else 0).sum = ((l.filter p).map f).sum := by
  induction l with
  | nil => rfl
  | cons a r ih =>
    rw [List.map_cons, List.sum_cons, ih, List.filter_cons]
    by_cases h : p a
    · simp [h]
    · simp [h]; grind
theorem mem_lotI {i m t : Nat} (h : t < m) : (t : Int) ∈ lotI i m ↔ tb i t = true := by
  unfold lotI lotOf
  constructor
  · intro hm
    obtain ⟨k, hk, e⟩ := List.mem_map.1 hm
    have : k = t := by omega
    subst this
    exact (List.mem_filter.1 hk).2
  · intro hm
    exact List.mem_map.2 ⟨t, List.mem_filter.2 ⟨List.mem_range.2 h, hm⟩, rfl⟩
theorem row_val {sh : List Int → List Rat} {m i : Nat} {r ps : List Int} (h : RowOk sh m i r) (hp : ps.length = m) : wv sh ps m i = Rat.divInt (rbr r ps) (r.getD 0 0) := by
  obtain ⟨h1, h2, h3, h4⟩ := h
  have hz : r.getD 0 0 ≠ 0 := by omega
  unfold rbr
  rw [← sum_divInt _ _ hz, hp]
  unfold wv worthQ
  have e1 : ((lotI i m).map fun t => (sh (lotI i m)).getD t.toNat 0 * (ps.getD t.toNat 0 : Rat)) = (((List.range m).filter (tb i)).map fun t : Nat => (sh (lotI i m)).getD t 0 * (ps.getD t 0 : Rat)) := by
    conv => lhs; arg 2; unfold lotI lotOf
    rw [List.map_map]
    rfl
  rw [e1, ← sum_ite]
  congr 1
  apply List.map_congr_left
  intro t ht
  have ht := List.mem_range.1 ht
  have h5 := h4 t ht
  by_cases hb : tb i t = true
  · rw [if_pos hb]
    rw [if_pos ((mem_lotI ht).2 hb)] at h5
    rw [h5, div1 (ps.getD t 0), Rat.divInt_mul_divInt, Int.mul_one]
  · rw [if_neg hb]
    rw [if_neg (fun z => hb ((mem_lotI ht).1 z))] at h5
    rw [h5, Int.zero_mul, Rat.zero_divInt]
theorem dv_le {a b c d : Int} (hb : 0 < b) (hd : 0 < d) : Rat.divInt a b ≤ Rat.divInt c d ↔ a * d ≤ c * b := by
  have h1 : (0 : Rat) < (b : Rat) := by exact_mod_cast hb
  have h2 : (0 : Rat) < (d : Rat) := by exact_mod_cast hd
  have h4 : (0:Rat) < (b : Rat) * d := Rat.mul_pos h1 h2
  rw [Rat.divInt_eq_div, Rat.divInt_eq_div]
  have e1 : (a : Rat) / b * (b * d) = a * d := by grind
  have e2 : (c : Rat) / d * (b * d) = c * b := by grind
  constructor
  · intro h
    have := Rat.mul_le_mul_of_nonneg_right h (Rat.le_of_lt h4)
    rw [e1, e2] at this
    exact_mod_cast this
  · intro h
    have h3 : ((a : Int) : Rat) * d ≤ c * b := by exact_mod_cast h
    refine Rat.le_of_mul_le_mul_right (c := (b : Rat) * d) ?_ h4
    rw [e1, e2]
    exact h3
theorem dv_lt {a b c d : Int} (hb : 0 < b) (hd : 0 < d) : Rat.divInt a b < Rat.divInt c d ↔ a * d < c * b := by
  rw [← Rat.not_le, dv_le hd hb]
  omega
theorem sum_bt (l : List Nat) (f : Nat → Int) (B : Nat) (h : ∀ t ∈ l, (f t).natAbs < 2 ^ B) : ((l.map f).sum).natAbs ≤ l.length * 2 ^ B := by
  induction l with
  | nil => simp
  | cons a r ih =>
    have h1 := h a (by simp)
    have h2 := ih fun t ht => h t (by simp [ht])
    rw [List.map_cons, List.sum_cons, List.length_cons, Nat.add_mul, Nat.one_mul]
    omega
theorem rbr_bt {r ps : List Int} (hl : ps.length ≤ 24) (hr : ∀ z ∈ r, z.natAbs < 2 ^ 200) (hp : ∀ z ∈ ps, z.natAbs < 2 ^ 64) : (rbr r ps).natAbs < 2 ^ 299 := by
  have h := sum_bt (List.range ps.length) (fun t => r.getD (t + 1) 0 * ps.getD t 0) 264 fun t ht => by
    have h1 : (r.getD (t + 1) 0).natAbs < 2 ^ 200 := by
      by_cases h : t + 1 < r.length
      · rw [getD_get _ _ _ h]; exact hr _ (List.getElem_mem _)
      · rw [List.getD_eq_getElem?_getD, List.getElem?_eq_none (by omega)]; decide
    have h2 : (ps.getD t 0).natAbs < 2 ^ 64 := by rw [getD_get _ _ _ (List.mem_range.1 ht)]; exact hp _ (List.getElem_mem _)
    exact bt_mul h1 h2
  rw [List.length_range] at h
  have : ps.length * 2 ^ 264 ≤ 24 * 2 ^ 264 := Nat.mul_le_mul_right _ hl
  unfold rbr
  omega
theorem wv_zero (sh : List Int → List Rat) (ps : List Int) (m : Nat) : wv sh ps m 0 = 0 := by
  unfold wv worthQ
  rw [lotI_zero]
  rfl
/-- the greatest so far -/
def MaxTo (sh : List Int → List Rat) (ps : List Int) (m i : Nat) (w : Rat) : Prop := 0 ≤ w ∧ (∀ j, j < i → wv sh ps m j ≤ w) ∧ (w = 0 ∨ ∃ j, j < i ∧ w = wv sh ps m j)
theorem MaxTo.zero {sh : List Int → List Rat} {ps : List Int} {m : Nat} : MaxTo sh ps m 0 0 := ⟨Rat.le_refl, fun j h => absurd h (by omega), .inl rfl⟩
theorem MaxTo.take {sh : List Int → List Rat} {ps : List Int} {m i : Nat} {w : Rat} (h : MaxTo sh ps m i w) (g : w < wv sh ps m i) : MaxTo sh ps m (i + 1) (wv sh ps m i) := by
  refine ⟨by have := h.1; grind, fun j hj => ?_, .inr ⟨i, by omega, rfl⟩⟩
  by_cases e : j = i
  · rw [e]; exact Rat.le_refl
  · exact Rat.le_trans (h.2.1 j (by omega)) (Rat.le_of_lt g)
theorem MaxTo.keep {sh : List Int → List Rat} {ps : List Int} {m i : Nat} {w : Rat} (h : MaxTo sh ps m i w) (g : ¬ w < wv sh ps m i) : MaxTo sh ps m (i + 1) w := by
  refine ⟨h.1, fun j hj => ?_, h.2.2.imp_right fun ⟨j, h1, h2⟩ => ⟨j, by omega, h2⟩⟩
  by_cases e : j = i
  · rw [e]; exact Rat.not_lt.mp g
  · exact h.2.1 j (by omega)
theorem MaxTo.eq {sh : List Int → List Rat} {ps : List Int} {m f : Nat} {w : Rat} (h : MaxTo sh ps m (2 ^ m) w) (hB : BestTo sh ps m (2 ^ m) f) : w = wv sh ps m f := by
  refine Rat.le_antisymm ?_ (h.2.1 f hB.lt)
  rcases h.2.2 with e | ⟨j, h1, h2⟩
  · rw [e, ← wv_zero sh ps m]; exact hB.top 0 (Nat.pow_pos (by decide))
  · rw [h2]; exact hB.top j h1
/-- the lot found so far -/
def FndTo (sh : List Int → List Rat) (ps : List Int) (m i : Nat) (w : Rat) (c : Int) : Prop := (c = -1 ∧ ∀ j, j < i → wv sh ps m j ≠ w) ∨ ∃ g : Nat, c = g ∧ g < i ∧ wv sh ps m g = w ∧ (∀ j, j < i → wv sh ps m j = w → (lotOf g m).length ≤ (lotOf j m).length) ∧ (∀ j, j < g → wv sh ps m j = w → (lotOf g m).length < (lotOf j m).length)
theorem lotI_len2 (i m : Nat) : (lotI i m).length = (lotOf i m).length := by unfold lotI; rw [List.length_map]
theorem FndTo.eq {sh : List Int → List Rat} {ps : List Int} {m f : Nat} {w : Rat} {c : Int} (h : FndTo sh ps m (2 ^ m) w c) (hB : BestTo sh ps m (2 ^ m) f) (hw : w = wv sh ps m f) : c = f := by
  subst hw
  rcases h with ⟨_, h⟩ | ⟨g, rfl, h1, h2, h3, h4⟩
  · exact absurd rfl (h f hB.lt)
  · have a1 := h3 f hB.lt rfl
    have a2 := hB.few g h1 h2
    rw [lotI_len2, lotI_len2] at a2
    rcases Nat.lt_trichotomy g f with q | q | q
    · have := hB.first g q h2
      rw [lotI_len2, lotI_len2] at this
      omega
    · rw [q]
    · have := h4 f q rfl
      omega
theorem FndTo.pass {sh : List Int → List Rat} {ps : List Int} {m i : Nat} {w : Rat} {c : Int} (h : FndTo sh ps m i w c) (g : wv sh ps m i ≠ w) : FndTo sh ps m (i + 1) w c := by
  rcases h with ⟨e, h⟩ | ⟨g1, rfl, h1, h2, h3, h4⟩
  · refine .inl ⟨e, fun j hj => ?_⟩
    by_cases z : j = i
    · rw [z]; exact g
    · exact h j (by omega)
  · refine .inr ⟨g1, rfl, by omega, h2, fun j hj e => ?_, h4⟩
    by_cases z : j = i
    · subst z; exact absurd e g
    · exact h3 j (by omega) e
theorem FndTo.first {sh : List Int → List Rat} {ps : List Int} {m i : Nat} {w : Rat} (h : FndTo sh ps m i w (-1)) (g : wv sh ps m i = w) : FndTo sh ps m (i + 1) w i := by
  rcases h with ⟨_, h⟩ | ⟨g1, e, _⟩
  · refine .inr ⟨i, rfl, by omega, g, fun j hj e => ?_, fun j hj e => absurd e (h j hj)⟩
    by_cases z : j = i
    · subst z; exact Nat.le_refl _
    · exact absurd e (h j (by omega))
  · omega
theorem FndTo.less {sh : List Int → List Rat} {ps : List Int} {m i k : Nat} {w : Rat} (h : FndTo sh ps m i w (k : Int)) (g : wv sh ps m i = w) (hl : (lotOf i m).length < (lotOf k m).length) : FndTo sh ps m (i + 1) w i := by
  rcases h with ⟨e, h⟩ | ⟨g1, e, h1, h2, h3, h4⟩
  · omega
  · have : g1 = k := by omega
    subst this
    refine .inr ⟨i, rfl, by omega, g, fun j hj e => ?_, fun j hj e => ?_⟩
    · by_cases z : j = i
      · subst z; exact Nat.le_refl _
      · have := h3 j (by omega) e; omega
    · have := h3 j hj e; omega
theorem FndTo.more {sh : List Int → List Rat} {ps : List Int} {m i k : Nat} {w : Rat} (h : FndTo sh ps m i w (k : Int)) (g : wv sh ps m i = w) (hl : ¬ (lotOf i m).length < (lotOf k m).length) : FndTo sh ps m (i + 1) w k := by
  rcases h with ⟨e, h⟩ | ⟨g1, e, h1, h2, h3, h4⟩
  · omega
  · have : g1 = k := by omega
    subst this
    refine .inr ⟨g1, rfl, by omega, h2, fun j hj e => ?_, h4⟩
    by_cases z : j = i
    · subst z; omega
    · exact h3 j (by omega) e
def sp__law_good (K : PySem.W.Frag) : Sp := fun vs H Q _ => ∃ (x rl pl : Addr) (m : Nat) (sh : List Int → List Rat) (b : Nat) (xs : List V) (rows : List (List Int)) (ps : List Int), vs = [.ref x, .ref rl, .ref pl] ∧ RAll K H x (m : Int) sh b ∧ At H rl (.lst xs) ∧ LLi H xs rows ∧ SqL K H pl (ps.map V.int) ∧ m * (b + 66) + 66 ≤ 13400 ∧ (∀ x ∈ ps, x.natAbs < 2 ^ 64) ∧ PricesOk (m : Int) ps ∧ m ≤ 6 ∧ RowsOk sh m rows ∧ ∀ H', Ex H H' → Q (.bl true) H'
theorem ok__law_good (T : Tx P K mg) : FnOk P w K mg base (L2.CX P w) 9 (He.ga K "_law_good") (Z.fdOf K (He.ga K "_law_good")) ["_law_rule", "_law_rows_here", "_law_prices"] (sp__law_good K) := by
  refine T.F__law_good.ok sc__law_good (fun vs H Q E h => ?_) (fun cdv A outer s H vs Q E hr h => ?_)
  · obtain ⟨x, rl, pl, m, sh, b, xs, rows, ps, rfl, _⟩ := h
    rfl
  · obtain ⟨x, rl, pl, m, sh, b, xs, rows, ps, rfl, hx, hrl, hL, hp, hb, hps, hok, hm, hR, k⟩ := h
    refine ⟨_, PSs.nox (pss_cons (ps_set (i := 3) sc__law_good.nd rfl (Or.inl rfl) (pe_callB (Z.call_len (K := K) rfl) (by rfl) T.n_len (by decide +kernel) (pa_cons (pv 2) pa_nil)))
      (pss_cons (ps_set (i := 4) sc__law_good.nd rfl (Or.inl rfl) (pe_callTy (Z.call_list (K := K) rfl) (by rfl) T.n_list (by decide +kernel) (pa_cons (pv 2) pa_nil)))
      (pss_cons (ps_set (i := 5) sc__law_good.nd rfl (Or.inl rfl) (Z.pe_or (pe_meth (pv 0) T.o_Tabled.cl T.me_Tabled_best (ok_Tabled_best T) (hr.mono (by decide)) T.b_Rule_best .nil passL (pa_cons (pv 4) pa_nil)) (Z.pe_or (pe_meth (pv 0) T.o_Listed.cl T.me_Listed_best (ok_Listed_best T) (hr.mono (by decide)) T.b_Rule_best .nil passL (pa_cons (pv 4) pa_nil)) (Z.pe_or (pe_meth (pv 0) T.o_Mixed.cl T.me_Mixed_best (ok_Mixed_best T) (hr.mono (by decide)) T.b_Rule_best .nil passL (pa_cons (pv 4) pa_nil)) (pe_meth (pv 0) T.o_Rule.cl T.me_Rule_best (ok_Rule_best T) (hr.mono (by decide)) T.b_Rule_best .nil passL (pa_cons (pv 4) pa_nil))))))
      (pss_cons (ps_if (PW.pt (pw_or (pt_cmpR (Z.op_ne (K := K) rfl hr.units) (pv 4) (pv 2) (nomark _)) (pw_or (pt_not (pt_val (pe_callB (Z.call_isi (K := K) rfl) (by rfl) T.n_isinstance (by decide +kernel) (pa_cons (pv 5) (pa_cons (pe_bltn (v := .ty "tuple") (u := .type "tuple") (by rfl) T.n_tuple (by decide +kernel) rfl) pa_nil))))) (pw_or1 (pt_cmpR (Z.op_ne (K := K) rfl hr.units) (pe_callB (Z.call_len (K := K) rfl) (by rfl) T.n_len (by decide +kernel) (pa_cons (pv 5) pa_nil)) pe_int (nomark _)))))) (pss_one (ps_ret pe_bl)) pss_nil)
      (pss_cons (ps_set (i := 6) sc__law_good.nd rfl (Or.inl rfl) (pe_tup (pa_cons pe_int (pa_cons pe_int pa_nil))))
      (pss_cons (ps_for PassesOwn.never rfl (Z.piL (K := K) rfl (pv 1)) (pg_name (i := 7) sc__law_good.nd rfl (by first | exact Or.inl rfl | exact Or.inr rfl)) (pss_one (ps_if (pt_val (pe_call (ok__law_below T) (hr.mono (by decide)) (by rfl) T.g__law_below T.F__law_below.kp T.b__law_below .nil passL (pa_cons (pv 6) (pa_cons (pe_call (ok__law_brings T) (hr.mono (by decide)) (by rfl) T.g__law_brings T.F__law_brings.kp T.b__law_brings .nil passL (pa_cons (pv 7) (pa_cons (pv 2) pa_nil))) pa_nil)))) (pss_one (ps_set (i := 6) sc__law_good.nd rfl (Or.inl rfl) (pe_call (ok__law_brings T) (hr.mono (by decide)) (by rfl) T.g__law_brings T.F__law_brings.kp T.b__law_brings .nil passL (pa_cons (pv 7) (pa_cons (pv 2) pa_nil))))) pss_nil)))
      (pss_cons (ps_set (i := 8) sc__law_good.nd rfl (Or.inl rfl) (pe_un Z.un_neg pe_int))
      (pss_cons (ps_for PassesOwn.never rfl (pi_range1 (by rfl) T.n_range (pa_cons (pe_callB (Z.call_len (K := K) rfl) (by rfl) T.n_len (by decide +kernel) (pa_cons (pv 1) pa_nil)) pa_nil)) (pg_name (i := 9) sc__law_good.nd rfl (by first | exact Or.inl rfl | exact Or.inr rfl)) (pss_one (ps_if (pt_not (pt_val (pe_call (ok__law_below T) (hr.mono (by decide)) (by rfl) T.g__law_below T.F__law_below.kp T.b__law_below .nil passL (pa_cons (pe_call (ok__law_brings T) (hr.mono (by decide)) (by rfl) T.g__law_brings T.F__law_brings.kp T.b__law_brings .nil passL (pa_cons (pe_ix (Z.ix (K := K) rfl) (pv 1) (pv 9) (fun _ _ => rfl)) (pa_cons (pv 2) pa_nil))) (pa_cons (pv 6) pa_nil))))) (pss_one (ps_if (PW.pt (pw_or (pt_cmpR Z.op_lt (pv 8) pe_int (nomark _)) (pw_or1 (pt_cmpR Z.op_lt (pe_callB (Z.call_len (K := K) rfl) (by rfl) T.n_len (by decide +kernel) (pa_cons (pe_call (ok__law_lot T) (hr.mono (by decide)) (by rfl) T.g__law_lot T.F__law_lot.kp T.b__law_lot .nil passL (pa_cons (pv 9) (pa_cons (pv 3) pa_nil))) pa_nil)) (pe_callB (Z.call_len (K := K) rfl) (by rfl) T.n_len (by decide +kernel) (pa_cons (pe_call (ok__law_lot T) (hr.mono (by decide)) (by rfl) T.g__law_lot T.F__law_lot.kp T.b__law_lot .nil passL (pa_cons (pv 8) (pa_cons (pv 3) pa_nil))) pa_nil)) (nomark _))))) (pss_one (ps_set (i := 8) sc__law_good.nd rfl (Or.inl rfl) (pv 9))) pss_nil)) pss_nil)))
      (pss_one (ps_ret (pe_and (pe_call (ok__law_same_lot T) (hr.mono (by decide)) (by rfl) T.g__law_same_lot T.F__law_same_lot.kp T.b__law_same_lot .nil passL (pa_cons (pe_ix (Z.ix (K := K) rfl) (pv 5) pe_int (fun _ _ => rfl)) (pa_cons (pe_call (ok__law_lot T) (hr.mono (by decide)) (by rfl) T.g__law_lot T.F__law_lot.kp T.b__law_lot .nil passL (pa_cons (pv 8) (pa_cons (pv 3) pa_nil))) pa_nil))) (pe_one (pe_call (ok__law_same T) (hr.mono (by decide)) (by rfl) T.g__law_same T.F__law_same.kp T.b__law_same .nil passL (pa_cons (pe_ix (Z.ix (K := K) rfl) (pv 5) pe_int (fun _ _ => rfl)) (pa_cons (pe_ix (Z.ix (K := K) rfl) (pv 6) pe_int (fun _ _ => rfl)) (pa_cons (pe_ix (Z.ix (K := K) rfl) (pv 6) pe_int (fun _ _ => rfl)) pa_nil)))))))))))))))), ?_⟩
    try dsimp only [cxOf, Cx.nox, Cx.wish]
    try (show (_ : TS) _ [some _, some _, some _, none, none, none, none, none, none, none] _)
    walk_at "go"
    rename_i p4 H4 hn4 he4 hp4
    refine u_bestAll rfl rfl (hx.ex he4) (sq_of hp4) (by rw [Int.toNat_natCast]; exact hb) hps (fun h6 => absurd h6 (by omega)) (fun _ => PErr.ok hok) fun _ _ p5 t5 z5 H5 f he5 hp5 ht5 hz5 hB => ?_
    rw [Int.toNat_natCast] at ht5 hz5 hB
    have e05 := he4.trans he5
    have hp45 := he5.get hp4
    have hpl5 := e05.l hp
    have hrl5 := e05.get hrl
    have hL5 := hL.ex e05
    have hps1 := hok.1
    have hpsl : ps.length = m := by omega
    have hxl := hL.1
    have hrows := hR.1
    have hpw : (2 ^ m : Nat) ≤ 2 ^ 6 := Nat.pow_le_pow_right (by decide) hm
    have hrg : ∀ i, i < rows.length → (rows.getD i []).length = ps.length + 1 ∧ (∀ z ∈ rows.getD i [], z.natAbs < 2 ^ 200) ∧ 1 ≤ (rows.getD i []).getD 0 0 ∧ (rbr (rows.getD i []) ps).natAbs < 2 ^ 299 ∧ ((rows.getD i []).getD 0 0).natAbs < 2 ^ 200 ∧ wv sh ps m i = Rat.divInt (rbr (rows.getD i []) ps) ((rows.getD i []).getD 0 0) := fun i hi => by
      have h1 := hR.2 i (by omega)
      have hb2 : ∀ z ∈ rows.getD i [], z.natAbs < 2 ^ 200 := fun z hz => by have := h1.2.2.1 z hz; omega
      refine ⟨by rw [h1.1]; omega, hb2, h1.2.1, rbr_bt (by omega) hb2 hps, hb2 _ (by rw [getD_get _ _ _ (show 0 < (rows.getD i []).length by rw [h1.1]; omega)]; exact List.getElem_mem _), row_val h1 hpsl⟩
    clear hL hrl hp hp4 he4 he5 hx
    walk_at "run"
    rename_i p6 H6 hn6 he6 hp6 J6 S6
    have hrl6 := he6.get hrl5
    have hL6 := hL5.ex he6
    have hpl6 := he6.l hpl5
    have hp56 := he6.get hp5
    have ht56 := he6.t ht5
    have hz56 := hz5.ex he6
    have e06 := e05.trans he6
    clear hrl5 hL5 hpl5 hp5 ht5 hz5 hp45 hn6 hn4
    refine Z.fg S6 (fun i σ G => ∃ (mo : Addr) (t b' : Int) (v7 : Option V), σ = [some (.ref x), some (.ref rl), some (.ref pl), some (.int (ps.length : Nat)), some (.ref p4), some (.ref p5), some (.ref mo), v7, none, none] ∧ Ex H6 G ∧ At G mo (.tup [.int t, .int b']) ∧ 0 < b' ∧ t.natAbs < 2 ^ 299 ∧ b'.natAbs < 2 ^ 299 ∧ MaxTo sh ps m i (Rat.divInt t b')) ⟨p6, 0, 1, none, rfl, Ex.refl _, hp6, by decide, by decide, by decide, by rw [Rat.zero_divInt]; exact MaxTo.zero⟩ (fun i σ' G _ ⟨_, _, _, _, _, e, _⟩ => e.l (sq_of hrl6)) ?_ ?_
    · rintro i y σ' G G2 hi ⟨mo, t, b', v7, rfl, eG, hmo, hb0, ht, hb', hM⟩ e2 hy
      have eG2 := eG.trans e2
      obtain ⟨ra, g1, g2⟩ := (hL6.ex eG2).2 i (by omega)
      rw [g1] at hy
      cases hy
      obtain ⟨r1, r2, r3, r4, r5, r6⟩ := hrg i (by omega)
      have hmo2 := e2.get hmo
      have hplG := eG2.l hpl6
      generalize rows.getD i [] = r at *
      have t300 : t.natAbs < 2 ^ 300 := by omega
      have b300 : b'.natAbs < 2 ^ 300 := by omega
      have r400 : (rbr r ps).natAbs < 2 ^ 300 := by omega
      have r500 : (r.getD 0 0).natAbs < 2 ^ 300 := by omega
      have r599 : (r.getD 0 0).natAbs < 2 ^ 299 := by omega
      have hlt := dv_lt (a := t) (c := rbr r ps) hb0 (show 0 < r.getD 0 0 by omega)
      clear hmo S6 hp6 hrl6 hL6
      walk_at "go"
      refine ⟨ra, pl, r, ps, rfl, sq_of g2, hplG, r1, by omega, hps, r2, fun q1 K1 hm1 hk1 hq1 => ?_⟩
      have hmo3 := hk1.get hmo2
      walk_at "go"
      refine ⟨mo, q1, t, b', _, _, rfl, st_of hmo3, st_of hq1, t300, b300, r400, r500, ?_⟩
      walk_at "go"
      refine Z.w_dec (fun h => ?_) (fun h => ?_)
      · walk_at "go"
        refine ⟨ra, pl, r, ps, rfl, sq_of (hk1.get g2), hk1.l hplG, r1, by omega, hps, r2, fun q2 K2 hm2 hk2 hq2 => ?_⟩
        walk_at "go"
        refine ⟨q2, _, _, _, rfl, (eG2.trans hk1).trans hk2, hq2, by omega, r4, r599, ?_⟩
        have := hM.take (by rw [r6]; exact hlt.2 h)
        rwa [r6] at this
      · walk_at "go"
        exact ⟨mo, t, b', _, rfl, eG2.trans hk1, hmo3, hb0, ht, hb', hM.keep (by rw [r6]; exact fun z => h (hlt.1 z))⟩
    rintro σ' G7 ⟨mo, t, b', v7, rfl, eG7, hmo, hb0, ht, hb', hM⟩
    rw [hxl, hrows] at hM
    have hME := hM.eq hB
    have hrl7 := eG7.get hrl6
    have hL7 := hL6.ex eG7
    have hpl7 := eG7.l hpl6
    have hp57 := eG7.get hp56
    have ht57 := eG7.t ht56
    have hz57 := hz56.ex eG7
    have e07 := e06.trans eG7
    have t300 : t.natAbs < 2 ^ 300 := by omega
    have b300 : b'.natAbs < 2 ^ 300 := by omega
    clear hrl6 hL6 hpl6 hp56 ht56 hz56 S6 hp6
    walk_at "go"
    rename_i J8 S8
    refine Z.fg S8 (fun i σ G => ∃ (c : Int) (v9 : Option V), σ = [some (.ref x), some (.ref rl), some (.ref pl), some (.int (ps.length : Nat)), some (.ref p4), some (.ref p5), some (.ref mo), v7, some (.int c), v9] ∧ Ex G7 G ∧ FndTo sh ps m i (Rat.divInt t b') c) ⟨-1, none, rfl, Ex.refl _, .inl ⟨rfl, fun j hj => absurd hj (by omega)⟩⟩ (fun i σ' G _ _ => trivial) ?_ ?_
    · rintro i y σ' G G2 hi ⟨c, v9, rfl, eG, hF⟩ e2 rfl
      have hi2 : i < rows.length := by omega
      have eG2 := eG.trans e2
      obtain ⟨ra, g1, g2⟩ := (hL7.ex eG2).2 i hi2
      have hix : atI xs (i : Int) = some (.ref ra) := by unfold atI; rw [ixN_pos (by omega) (by omega), Int.toNat_natCast]; exact g1
      obtain ⟨r1, r2, r3, r4, r5, r6⟩ := hrg i hi2
      have hmo2 := eG2.get hmo
      have hplG := eG2.l hpl7
      have hrlG := eG2.get hrl7
      have hle : wv sh ps m i ≤ Rat.divInt t b' := hM.2.1 i (by omega)
      generalize rows.getD i [] = r at *
      have r400 : (rbr r ps).natAbs < 2 ^ 300 := by omega
      have r500 : (r.getD 0 0).natAbs < 2 ^ 300 := by omega
      have hlt := dv_lt (a := rbr r ps) (c := t) (show 0 < r.getD 0 0 by omega) hb0
      rw [← r6] at hlt
      clear hmo hrl7 hL7 hpl7 S8
      walk_at "go"
      refine w_ixL (sq_of hrlG) hix ?_
      walk_at "go"
      refine ⟨ra, pl, r, ps, rfl, sq_of g2, hplG, r1, by omega, hps, r2, fun q1 K1 hm1 hk1 hq1 => ?_⟩
      have hmo3 := hk1.get hmo2
      have e1 := eG2.trans hk1
      walk_at "go"
      refine ⟨q1, mo, _, _, t, b', rfl, st_of hq1, st_of hmo3, r400, r500, t300, b300, ?_⟩
      clear hmo2 hmo3 g2 hq1 hrlG hplG
      walk_at "go"
      refine Z.w_ndec (fun h => ?_) (fun h => ?_)
      · have hw : wv sh ps m i = Rat.divInt t b' := Rat.le_antisymm hle (Rat.not_lt.mp fun z => h (hlt.1 z))
        rcases id hF with ⟨rfl, _⟩ | ⟨g, rfl, hg, _⟩
        · walk_at "run"
          exact ⟨i, _, rfl, e1, hF.first hw⟩
        · walk_at "run"
          rename_i u1 U1 l1 hu1 ku1 hv1 hl1 u2 U2 l2 hu2 ku2 hv2 hl2
          have q1 : l1.length = (lotOf i m).length := by rw [hl1, List.length_map, Int.toNat_natCast, Int.toNat_natCast, hpsl]
          have q2 : l2.length = (lotOf g m).length := by rw [hl2, List.length_map, Int.toNat_natCast, Int.toNat_natCast, hpsl]
          refine Z.w_dec (fun hlt2 => ?_) (fun hlt2 => ?_)
          · walk_at "go"
            exact ⟨i, _, rfl, (e1.trans ku1).trans ku2, hF.less hw (by omega)⟩
          · walk_at "go"
            exact ⟨g, _, rfl, (e1.trans ku1).trans ku2, hF.more hw (by omega)⟩
      · walk_at "go"
        exact ⟨c, _, rfl, e1, hF.pass fun z => Rat.ne_of_lt (hlt.2 h) z⟩
    rintro σ' G8 ⟨c, v9, rfl, eG8, hF⟩
    rw [hxl, hrows, Int.toNat_natCast] at hF
    have hc := hF.eq hB hME
    subst hc
    have hmo8 := eG8.get hmo
    have hp58 := eG8.get hp57
    have ht58 := eG8.t ht57
    have hz58 := hz57.ex eG8
    have e08 := e07.trans eG8
    clear hmo hp57 ht57 hz57 hrl7 hL7 hpl7 S8
    walk_at "go"
    rename_i u1 U1 l1 hu1 ku1 hv1 hl1
    have q1 : l1 = lotI f m := by rw [hl1, Int.toNat_natCast, Int.toNat_natCast, hpsl]; rfl
    rw [q1] at hv1
    have hll := lotI_len f m
    refine u_samelotT (ku1.t ht58) (st_of hv1) (by omega) fun U2 ku2 => ?_
    have hmo9 := (ku1.trans ku2).get hmo8
    have hp59 := (ku1.trans ku2).get hp58
    have hz59 := hz58.ex (ku1.trans ku2)
    have e09 := e08.trans (ku1.trans ku2)
    clear hmo8 hp58 hz58 ht58 hv1
    have hup : ∀ z : Int, z.natAbs < 2 ^ 299 → z.natAbs < 2 ^ 50000 := fun z hz => Nat.lt_of_lt_of_le hz (Nat.pow_le_pow_right (by decide) (by decide))
    walk_at "run"
    refine u_sameT hz59 hb0 hME.symm (hup _ ht) (hup _ hb') ?_
    walk_at "go"
    exact k _ e09

/-- None, a text or an int -/
def Flt (v : V) : Prop := v = .non ∨ (∃ s, v = .str s) ∨ ∃ i, v = .int i
theorem w_isiNS {K : PySem.W.Frag} {H : Hp} {Q : VK} (q : Q (.bl false) H) : rIsi K [.non, .ty "str"] H Q := w_isiB (.base .non) (by decide +kernel) q
def sp__law_like (K : PySem.W.Frag) : Sp := fun vs H Q _ => ∃ (a b : Addr) (xs : List V), vs = [.ref a, .ref b] ∧ SqT K H a xs ∧ SqT K H b xs ∧ xs.length ≤ 3 ∧ (∀ v ∈ xs, Flt v) ∧ ∀ H', Ex H H' → Q (.bl true) H'
theorem ok__law_like (T : Tx P K mg) : FnOk P w K mg base (L2.CX P w) 2 (He.ga K "_law_like") (Z.fdOf K (He.ga K "_law_like")) ["_law_told", "_law_due"] (sp__law_like K) := by
  refine T.F__law_like.ok sc__law_like (fun vs H Q E h => ?_) (fun cdv A outer s H vs Q E hr h => ?_)
  · obtain ⟨a, b, xs, rfl, _⟩ := h
    rfl
  · obtain ⟨a, b, xs, rfl, ha, hb, hlen, hflat, k⟩ := h
    refine ⟨_, PSs.nox (pss_cons (ps_if (pt_cmpR (Z.op_ne (K := K) rfl hr.units) (pe_callB (Z.call_len (K := K) rfl) (by rfl) T.n_len (by decide +kernel) (pa_cons (pv 0) pa_nil)) (pe_callB (Z.call_len (K := K) rfl) (by rfl) T.n_len (by decide +kernel) (pa_cons (pv 1) pa_nil)) (nomark _)) (pss_one (ps_ret pe_bl)) pss_nil)
      (pss_cons (ps_for PassesOwn.never rfl (pi_range1 (by rfl) T.n_range (pa_cons (pe_callB (Z.call_len (K := K) rfl) (by rfl) T.n_len (by decide +kernel) (pa_cons (pv 1) pa_nil)) pa_nil)) (pg_name (i := 2) sc__law_like.nd rfl (by first | exact Or.inl rfl | exact Or.inr rfl)) (pss_one (ps_if (pt_val (pe_callB (Z.call_isi (K := K) rfl) (by rfl) T.n_isinstance (by decide +kernel) (pa_cons (pe_ix (Z.ix (K := K) rfl) (pv 1) (pv 2) (fun _ _ => rfl)) (pa_cons (pe_bltn (v := .ty "str") (u := .type "str") (by rfl) T.n_str (by decide +kernel) rfl) pa_nil)))) (pss_one (ps_if (PW.pt (pw_or (pt_not (pt_val (pe_callB (Z.call_isi (K := K) rfl) (by rfl) T.n_isinstance (by decide +kernel) (pa_cons (pe_ix (Z.ix (K := K) rfl) (pv 0) (pv 2) (fun _ _ => rfl)) (pa_cons (pe_bltn (v := .ty "str") (u := .type "str") (by rfl) T.n_str (by decide +kernel) rfl) pa_nil))))) (pw_or1 (pt_cmpR (Z.op_ne (K := K) rfl hr.units) (pe_ix (Z.ix (K := K) rfl) (pv 0) (pv 2) (fun _ _ => rfl)) (pe_ix (Z.ix (K := K) rfl) (pv 1) (pv 2) (fun _ _ => rfl)) (nomark _))))) (pss_one (ps_ret pe_bl)) pss_nil)) (pss_one (ps_if (pt_cmp (pc_isN (pe_ix (Z.ix (K := K) rfl) (pv 1) (pv 2) (fun _ _ => rfl)))) (pss_one (ps_if (pt_cmp (pc_notN (pe_ix (Z.ix (K := K) rfl) (pv 0) (pv 2) (fun _ _ => rfl)))) (pss_one (ps_ret pe_bl)) pss_nil)) (pss_one (ps_if (PW.pt (pw_or (pt_not (pt_val (pe_call (ok__law_is_int T) (hr.mono (by decide)) (by rfl) T.g__law_is_int T.F__law_is_int.kp T.b__law_is_int .nil passL (pa_cons (pe_ix (Z.ix (K := K) rfl) (pv 0) (pv 2) (fun _ _ => rfl)) pa_nil)))) (pw_or1 (pt_cmpR (Z.op_ne (K := K) rfl hr.units) (pe_ix (Z.ix (K := K) rfl) (pv 0) (pv 2) (fun _ _ => rfl)) (pe_ix (Z.ix (K := K) rfl) (pv 1) (pv 2) (fun _ _ => rfl)) (nomark _))))) (pss_one (ps_ret pe_bl)) pss_nil)))))))
      (pss_one (ps_ret pe_bl)))), ?_⟩
    try dsimp only [cxOf, Cx.nox, Cx.wish]
    try (show (_ : TS) _ [some _, some _, none] _)
    walk_at "go"
    walk_at "run"
    rename_i J S
    refine Z.fg S (fun i σ G => ∃ (v2 : Option V), σ = [some (.ref a), some (.ref b), v2] ∧ Ex H G) ⟨none, rfl, Ex.refl _⟩ (fun i σ' G _ _ => trivial) ?_ ?_
    · rintro i y σ' G G2 hi ⟨v2, rfl, eG⟩ e2 rfl
      have hi2 : i < xs.length := by omega
      obtain ⟨v, hv⟩ : ∃ v, xs[i]? = some v := ⟨_, List.getElem?_eq_getElem hi2⟩
      have hat : atI xs (i : Int) = some v := by
        unfold atI
        rw [ixN_pos (by omega) (by omega), Int.toNat_natCast]
        exact hv
      have ha2 : SqT K G2 a xs := by walk_at "ft"
      have hb2 : SqT K G2 b xs := by walk_at "ft"
      have ixa : ∀ {Q : VK}, Q v G2 → rIx K (.ref a) (.int (i : Nat)) G2 Q := fun q => w_ixT ha2 hat q
      have ixb : ∀ {Q : VK}, Q v G2 → rIx K (.ref b) (.int (i : Nat)) G2 Q := fun q => w_ixT hb2 hat q
      clear ha2 hb2
      walk_at "run"
      refine ixb ?_
      rcases hflat v (List.mem_of_getElem? hv) with rfl | ⟨s', rfl⟩ | ⟨j, rfl⟩
      · walk_at "run"
        refine w_isiNS ?_
        walk_at "run"
        refine ixb ?_
        walk_at "run"
        refine ixa ?_
        walk_at "run"
        exact ⟨_, rfl, by walk_at "ex"⟩
      · walk_at "run"
        refine ixa ?_
        walk_at "run"
        refine ixa ?_
        walk_at "run"
        refine ixb ?_
        walk_at "run"
        exact ⟨_, rfl, by walk_at "ex"⟩
      · walk_at "run"
        refine ixb ?_
        walk_at "run"
        refine ixa ?_
        walk_at "run"
        refine ixa ?_
        walk_at "run"
        refine ixb ?_
        walk_at "run"
        exact ⟨_, rfl, by walk_at "ex"⟩
    · rintro σ' G ⟨v2, rfl, eG⟩
      walk_at "go"
      exact k _ eG

/-- Rule.__init__ of an object of the class Rule that is new -/
def sp_Rule___init__ (K : PySem.W.Frag) : Sp := fun vs H Q E => ∃ (H0 : Hp) (x dx : Addr) (n : Int), vs = [.ref x, .int n] ∧ At H x (.ins (He.ga K "Rule") dx []) ∧ Fr H0 x ∧ Ex H0 H ∧
  (24 < n → ∀ d H', Ex H0 H' → At H' d (.xd [("most", .int 24), ("many", .int n)]) → E (.ref (He.ga K "TooMany")) (some d) H') ∧ (n ≤ 24 → ∀ H', Ex H0 H' → At H' x (.ins (He.ga K "Rule") dx [("many", .int n)]) → (∀ b o, b ≠ x → At H b o → At H' b o) → Q .non H')
theorem ok_Rule___init__ (T : Tx P K mg) : FnOk P w K mg base (L2.CX P w) 3 (He.ma K (He.ga K "Rule") "__init__") (Z.fdOf K (He.ma K (He.ga K "Rule") "__init__")) ["self", "many"] (sp_Rule___init__ K) := by
  refine T.F_Rule___init__.ok sc_Rule___init__ (fun vs H Q E h => ?_) (fun cdv A outer s H vs Q E hr h => ?_)
  · obtain ⟨H0, x, dx, n, rfl, _⟩ := h
    rfl
  · obtain ⟨H0, x, dx, n, rfl, hx, hf, e0, hE, k⟩ := h
    have cl := T.o_Rule.cl
    have kM := T.k_Rule_MOST
    have na := T.na_Rule_many
    have fx0 := T.o_Rule.cl
    have fx1 := T.na_Rule_many
    have fx2 := T.k_Rule_MOST
    refine ⟨_, (pss_cons (ps_if (pt_cmpR Z.op_gt (pv 1) (Z.con (K := K) rfl (pv 0) rfl) (nomark _)) (pss_one (Z.ps_raiseZ rfl (takes_of rfl rfl rfl rfl) (pmk_oex T.oe_TooMany T.si_TooMany.2.2.1 T.si_TooMany.2.2.2 (ok_TooMany___init__ T) (hr.mono (by decide)) T.b_TooMany___init__ .nil passL (by rfl) T.g_TooMany (pa_cons (pv 1) (pa_cons (Z.con (K := K) rfl (pv 0) rfl) pa_nil))))) pss_nil)
      (pss_one (ps_fld (pv 0) (pv 1) rfl))), ?_⟩
    try dsimp only [cxOf, Cx.nox, Cx.wish]
    try (show (_ : TS) _ [some _, some _] _)
    walk_at "go"
    refine Z.w_dec (fun h1 => ?_) (fun h1 => ?_)
    · walk_at "go"
      rename_i d H2 hn he hp
      exact hE h1 d H2 (e0.trans he) hp
    · walk_at "go"
      refine Z.w_put hx cl na (by decide) fun H2 h2 hk ho => ?_
      walk_at "go"
      exact k (by omega) H2 (hk H0 e0 hf) h2 ho
theorem mk_Rule___init__ {H : Hp} {Q : VK} {E : XK} {n : Int} (hE : 24 < n → ∀ d H', Ex H H' → At H' d (.xd [("most", .int 24), ("many", .int n)]) → E (.ref (He.ga K "TooMany")) (some d) H')
    (k : n ≤ 24 → ∀ x dx H', Fr H x → Ex H H' → At H' x (.ins (He.ga K "Rule") dx [("many", .int n)]) → Q (.ref x) H') : dMk (He.ga K "Rule") (sp_Rule___init__ K) [] E Q [.int n] H :=
  w_dMk fun p dx H2 nw => ⟨H, p, dx, n, rfl, nw.at_, nw.new, nw.ex, hE, fun h1 H' e hx _ => ⟨rfl, k h1 p dx H' nw.new e hx⟩⟩

/-- Rule.__init__ of an object of the class Mixed that is new -/
def sp_Mixed_Rule___init__ (K : PySem.W.Frag) : Sp := fun vs H Q E => ∃ (H0 : Hp) (x dx : Addr) (n : Int), vs = [.ref x, .int n] ∧ At H x (.ins (He.ga K "Mixed") dx []) ∧ Fr H0 x ∧ Ex H0 H ∧
  (24 < n → ∀ d H', Ex H0 H' → At H' d (.xd [("most", .int 24), ("many", .int n)]) → E (.ref (He.ga K "TooMany")) (some d) H') ∧ (n ≤ 24 → ∀ H', Ex H0 H' → At H' x (.ins (He.ga K "Mixed") dx [("many", .int n)]) → (∀ b o, b ≠ x → At H b o → At H' b o) → Q .non H')
theorem ok_Mixed_Rule___init__ (T : Tx P K mg) : FnOk P w K mg base (L2.CX P w) 3 (He.ma K (He.ga K "Rule") "__init__") (Z.fdOf K (He.ma K (He.ga K "Rule") "__init__")) ["self", "many"] (sp_Mixed_Rule___init__ K) := by
  refine T.F_Rule___init__.ok sc_Rule___init__ (fun vs H Q E h => ?_) (fun cdv A outer s H vs Q E hr h => ?_)
  · obtain ⟨H0, x, dx, n, rfl, _⟩ := h
    rfl
  · obtain ⟨H0, x, dx, n, rfl, hx, hf, e0, hE, k⟩ := h
    have cl := T.o_Mixed.cl
    have kM := T.k_Mixed_MOST
    have na := T.na_Mixed_many
    have fx0 := T.o_Mixed.cl
    have fx1 := T.na_Mixed_many
    have fx2 := T.k_Mixed_MOST
    refine ⟨_, (pss_cons (ps_if (pt_cmpR Z.op_gt (pv 1) (Z.con (K := K) rfl (pv 0) rfl) (nomark _)) (pss_one (Z.ps_raiseZ rfl (takes_of rfl rfl rfl rfl) (pmk_oex T.oe_TooMany T.si_TooMany.2.2.1 T.si_TooMany.2.2.2 (ok_TooMany___init__ T) (hr.mono (by decide)) T.b_TooMany___init__ .nil passL (by rfl) T.g_TooMany (pa_cons (pv 1) (pa_cons (Z.con (K := K) rfl (pv 0) rfl) pa_nil))))) pss_nil)
      (pss_one (ps_fld (pv 0) (pv 1) rfl))), ?_⟩
    try dsimp only [cxOf, Cx.nox, Cx.wish]
    try (show (_ : TS) _ [some _, some _] _)
    walk_at "go"
    refine Z.w_dec (fun h1 => ?_) (fun h1 => ?_)
    · walk_at "go"
      rename_i d H2 hn he hp
      exact hE h1 d H2 (e0.trans he) hp
    · walk_at "go"
      refine Z.w_put hx cl na (by decide) fun H2 h2 hk ho => ?_
      walk_at "go"
      exact k (by omega) H2 (hk H0 e0 hf) h2 ho

theorem ok_Unlike___init__ (T : Tx P K mg) : FnOk P w K mg base (L2.CX P w) 1 (He.ma K (He.ga K "Unlike") "__init__") (Z.fdOf K (He.ma K (He.ga K "Unlike") "__init__")) ["self", "at"] (Z.spX (He.ga K "Unlike") ["at"]) := by
  refine Z.FunS.ok (x0 := "self") T.F_Unlike___init__ sc_Unlike___init__ (by decide +kernel) rfl rfl rfl (by decide +kernel) (by decide +kernel) T.p_top T.n_super T.c_Unlike (fun vs H Q E h => ?_) (fun cc cda A outer s H vs Q E hr h S => ?_)
  · obtain ⟨a, ws, rfl, hl, _⟩ := h
    simpa using hl
  · obtain ⟨a, ws, rfl, hl, ha, k⟩ := h
    obtain ⟨v1, rfl⟩ : ∃ v1, ws = [v1] := by
      match ws, hl with
      | [v1], _ => exact ⟨v1, rfl⟩
    refine ⟨_, _, Z.ps_supE (Z.pe_supX S T.mro_Unlike_Unlike T.third T.si_Unlike.1 T.si_Unlike.2.1 (pa_cons pe_str pa_nil)), (pss_one (ps_ost (pv 0) (pv 1))), ?_⟩
    refine ⟨a, rfl, T.oe_Unlike, ha, by decide, ha, ?_⟩
    refine ⟨_, rfl, _, rfl, a, He.ga K "Unlike", rfl, T.oe_Unlike, T.nf_Unlike_at, .inl ⟨ha, fun dx hd hne => ?_⟩⟩
    exact k dx hd hne

theorem sqL_tup {K : PySem.W.Frag} {H H' : Hp} {a : Addr} {xs ys : List V} (h : At H a (.tup ys)) (l : SqL K H a xs) : SqL K H' a xs := by
  rcases l with l | l
  · rcases l with l | ⟨o, l⟩
    · cases h.inj l
    · cases h.inj l
  · exact .inr l
def sp_Mixed___init__ (K : PySem.W.Frag) : Sp := fun vs H Q E => ∃ (H0 : Hp) (x dx pl : Addr) (xs : List V) (ps : List MP), vs = [.ref x, .ref pl] ∧ At H x (.ins (He.ga K "Mixed") dx []) ∧ Fr H0 x ∧ Ex H0 H ∧ At H pl (.tup xs) ∧ MPt K H0 xs ps ∧ ps.length ≤ 1000 ∧ MxErr K ps E H0 ∧
  (MxGood (mxN ps) ps → ∀ H' tp ys, Ex H0 H' → At H' x (.ins (He.ga K "Mixed") dx [("many", .int (mxN ps)), ("parts", .ref tp)]) → At H' tp (.tup ys) → MPt K H' ys ps → Q .non H')
theorem ok_Mixed___init__ (T : Tx P K mg) : FnR P w K mg base (L2.CX P w) 5 (He.ma K (He.ga K "Mixed") "__init__") (Z.StarSp 1 (sp_Mixed___init__ K)) := by
  refine Z.FunS.okS (x0 := "self") T.F_Mixed___init__ sc_Mixed___init__ StX.cxUp T.bs_Mixed___init__ (by decide +kernel) rfl rfl rfl (.inl (by decide +kernel)) (by decide +kernel) T.p_top T.n_super T.c_Mixed (by decide +kernel) (fun cc cda A outer s H vs Q E hr h S => ?_)
  · obtain ⟨H0, x, dx, pl, xs, ps, rfl, hx, hf, e0, hp, hL0, hpl, hE, k⟩ := h
    have fx0 := T.o_Mixed.cl
    have fx1 := T.na_Mixed_parts
    have fx2 := T.na_Mixed_many
    refine ⟨_, _, _, (ps_if (pt_cmpR (Z.op_eq (K := K) rfl hr.units) (pe_callB (Z.call_len (K := K) rfl) (by rfl) T.n_len (by decide +kernel) (pa_cons (pv 1) pa_nil)) pe_int (nomark _)) (pss_one (ps_raise rfl (takes_of rfl rfl rfl rfl) (pmk_own PySem.F.excBase_ValueError T.x_NoBuyers.1 T.g_NoBuyers T.x_NoBuyers.2.1 (raises_own T.x_NoBuyers.2.2.1 T.x_NoBuyers.2.2.2) (by exact rfl)))) pss_nil), (Z.ps_supE (Z.pe_sup S T.mro_Mixed_Mixed T.third T.sm_Mixed_Mixed___init__.1 T.sm_Mixed_Mixed___init__.2.1 T.sm_Mixed_Mixed___init__.2.2 (Z.rawOk (ok_Mixed_Rule___init__ T) T.b_Rule___init__) (hr.mono (by decide)) (fun σ => passAt (takes_of rfl rfl rfl rfl) σ) (pa_cons (Z.fld (K := K) rfl (pe_ix (Z.ix (K := K) rfl) (pe_ix (Z.ix (K := K) rfl) (pv 1) pe_int (fun _ _ => rfl)) pe_int (fun _ _ => rfl)) rfl) pa_nil))), (pss_cons (ps_for (passes_of rfl) rfl (Z.pi_enumA (K := K) rfl (by rfl) T.n_enumerate (pa_cons (pv 1) pa_nil)) (pg_tup (by rfl) (pgs_cons (pg_name (i := 3) sc_Mixed___init__.nd rfl (by first | exact Or.inl rfl | exact Or.inr rfl)) (pgs_cons (pg_tup (by rfl) (pgs_cons (pg_name (i := 4) sc_Mixed___init__.nd rfl (by first | exact Or.inl rfl | exact Or.inr rfl)) (pgs_cons (pg_name (i := 5) sc_Mixed___init__.nd rfl (by first | exact Or.inl rfl | exact Or.inr rfl)) pgs_nil))) pgs_nil))) (pss_cons (ps_if (pt_cmpR Z.op_lt (pv 4) pe_int (nomark _)) (pss_one (Z.ps_raiseZ rfl (takes_of rfl rfl rfl rfl) (pmk_oex T.oe_BadNumber T.si_BadNumber.2.2.1 T.si_BadNumber.2.2.2 (ok_BadNumber___init__ T) (hr.mono (by decide)) T.b_BadNumber___init__ .nil passL (by rfl) T.g_BadNumber (pa_cons pe_str (pa_cons (pv 3) pa_nil))))) pss_nil)
      (pss_one (ps_if (pt_cmpR (Z.op_ne (K := K) rfl hr.units) (Z.fld (K := K) rfl (pv 5) rfl) (Z.fld (K := K) rfl (pv 0) rfl) (nomark _)) (pss_one (Z.ps_raiseZ rfl (takes_of rfl rfl rfl rfl) (pmk_oex T.oe_Unlike T.si_Unlike.2.2.1 T.si_Unlike.2.2.2 (ok_Unlike___init__ T) (hr.mono (by decide)) T.b_Unlike___init__ .nil passL (by rfl) T.g_Unlike (pa_cons (pv 3) pa_nil)))) pss_nil))))
      (pss_one (ps_fld (pv 0) (pe_callTy (Z.call_tuple (K := K) rfl) (by rfl) T.n_tuple (by decide +kernel) (pa_cons (pe_lc (own := [("buyers", 4), ("rule", 5)]) (g := (gTup K 2 (gCons (gName 4) (gCons (gName 5) gNil)))) rfl sc_Mixed___init__.nd (Z.piT (K := K) rfl (pv 1)) (blkOk_by (N := ["self", "parts", "__class__", "at", "buyers", "rule"]) (sc := defScope s_Mixed___init__) (by decide +kernel)) (fun _ _ _ _ _ => (pg_tup (by rfl) (pgs_cons (pg_name (i := 4) sc_Mixed___init__.nd rfl (by first | exact Or.inl rfl | exact Or.inr rfl)) (pgs_cons (pg_name (i := 5) sc_Mixed___init__.nd rfl (by first | exact Or.inl rfl | exact Or.inr rfl)) pgs_nil)))) (fun _ _ _ _ _ => pts_nil) (fun _ _ _ _ _ => (pe_tup (pa_cons (pv 4) (pa_cons (pv 5) pa_nil))))) pa_nil)) rfl))), ?_⟩
    change tSeq _ _ _ [some _, some _, none, none, none, none] _
    try dsimp only [Z.scx, NdefX.ncx]
    walk_at "go"
    have hxl := hL0.1
    refine Z.w_dec (fun h => ?_) (fun h => ?_)
    · have h : ((xs.length : Nat) : Int) = 0 := h
      exact hE.1 (List.length_eq_zero_iff.mp (by omega)) _ e0
    have hne : 0 < ps.length := by have h : ¬ ((xs.length : Nat) : Int) = 0 := h; omega
    clear h
    obtain ⟨a0, q1, q2, q3⟩ := (hL0.ex e0).at hne
    have hbd := q3.bd
    walk_at "go"
    refine w_ixT (st_of hp) q1 ?_
    walk_at "go"
    refine u_anymany q3 ?_
    walk_at "go"
    refine ⟨H0, x, dx, _, rfl, hx, hf, e0, fun h d H' e hd => absurd hbd.2 (by omega), fun hn H1 e1 hx1 ho1 => ?_⟩
    have hp1 := ho1 pl _ (fun z => by subst z; cases hx.inj hp) hp
    have hL1 := hL0.ex e1
    have hmx : (ps.getD 0 mp0).2.1 = mxN ps := rfl
    rw [hmx] at hx1
    clear hx hp q1 q2 q3 hbd hn
    walk_at "go"
    refine i_EA (.inr (st_of hp1)) fun J S => ?_
    refine Z.fg S (fun i σ G => ∃ (v4 v5 v6 : Option V), σ = [some (.ref x), some (.ref pl), none, v4, v5, v6] ∧ Ex H0 G ∧ At G x (.ins (He.ga K "Mixed") dx [("many", .int (mxN ps))]) ∧ At G pl (.tup xs) ∧ ∀ j, j < i → XGood (mxN ps) (ps.getD j mp0)) ⟨none, none, none, rfl, e1, hx1, hp1, fun j hj => absurd hj (by omega)⟩ (fun i σ' G _ ⟨_, _, _, _, _, _, e, _⟩ => ⟨.inr (st_of e), sqL_tup hp1, fun _ => st_of e⟩) ?_ ?_
    · rintro i y σ' G G2 hi ⟨v4, v5, v6, rfl, eG, hxG, hpG, hall⟩ e2 ⟨t, z, rfl, ht, hz⟩
      have hi2 : i < ps.length := by omega
      have eG2 := eG.trans e2
      have hxG2 := e2.get hxG
      have hpG2 := e2.get hpG
      obtain ⟨a, g1, g2, g3⟩ := (hL0.ex eG2).2 i hi2
      rw [g1] at hz
      cases hz
      have hyes : XGood (mxN ps) (ps.getD i mp0) → ∀ j, j < i + 1 → XGood (mxN ps) (ps.getD j mp0) := fun h j hj => by
        by_cases e : j = i
        · subst e; exact h
        · exact hall j (by omega)
      have hno1 : (ps.getD i mp0).1 < 1 → MxRes (mxN ps) ps i true := fun h => .num i hi2 h hall
      have hno2 : 1 ≤ (ps.getD i mp0).1 → (ps.getD i mp0).2.1 ≠ mxN ps → MxRes (mxN ps) ps i false := fun h1 h => .unl i hi2 h1 h hall
      clear hp1 hx1 hall hxG hpG
      generalize ps.getD i mp0 = p at *
      obtain ⟨b, n, r⟩ := p
      walk_at "go"
      refine Z.w_dec (fun h => ?_) (fun h => ?_)
      · walk_at "go"
        rename_i d H5 hn5 he5 hp5
        exact hE.2.1 i (hno1 h) d H5 (eG2.trans he5) hp5
      have hb1 : 1 ≤ b := by have h : ¬ b < 1 := h; omega
      walk_at "go"
      refine u_anymany g3 ?_
      walk_at "go"
      refine Z.w_ndec (fun h => ?_) (fun hw => ?_)
      · walk_at "go"
        rename_i d H5 hn5 he5 hp5
        exact hE.2.2 i (hno2 hb1 h) d H5 (eG2.trans he5) hp5
      walk_at "go"
      exact ⟨_, _, _, rfl, eG2, hxG2, hpG2, hyes ⟨hb1, hw⟩⟩
    · rintro σ' G ⟨v4, v5, v6, rfl, eG, hxG, hpG, hall⟩
      rw [hxl] at hall
      have hLG := hL0.ex eG
      clear hx1 hp1
      walk_at "go"
      rename_i J2 S2
      refine Z.cgX S2 (fun k acc G' => MPt K G' acc (ps.take k)) (fun H' e => MPt.nil) (fun k acc Ga Gb h e => h.ex e) (fun H' e => e.t (st_of hpG)) (by rw [hxl]; show _ ≤ 16777216; omega) (fun Dl kq z G2 acc hk ec cd hl hP hy => ?_) (fun p7 H7 acc hn7 he7 hp7 hl7 hP7 => ?_) rfl
      · have hk2 : kq < ps.length := by omega
        obtain ⟨a, g1, g2, g3⟩ := (hLG.ex ec).2 kq hk2
        rw [g1] at hy
        cases hy
        have htk := take_snoc hk2 mp0
        walk_at "go"
        rename_i pt H3 hn3 he3 hp3
        refine Z.elx cd hl (by rw [hl]; show kq < 16777216; omega) he3 fun H5 hnl => ?_
        rw [htk]
        exact ((hP.ex he3).nl hnl).snoc (hnl.get (fun l z => by cases z) hp3) ((g3.ex he3).nl hnl)
      · rw [hxl, List.take_length] at hP7
        walk_at "go"
        rename_i tp H8 hn8 he8 hp8
        have hx8 := he8.get (he7.get hxG)
        refine Z.w_putE hx8 fx0 fx1 (by show 1 < 900; decide) (by simp only [List.map_cons, List.map_nil]; decide +kernel) fun H9 h9 hk9 ho9 => ?_
        have e09 : Ex H0 H9 := hk9 H0 (eG.trans (he7.trans he8)) hf
        walk_at "go"
        have hL8 := hP7.ex he8
        have ne : ∀ {b : Addr} {ys : List V}, At H8 b (.tup ys) → b ≠ x := fun hb z => by subst z; cases hx8.inj hb
        refine k ⟨fun z => by subst z; simp at hne, hall⟩ H9 tp acc e09 h9 (ho9 tp _ (ne hp8) hp8) ⟨hL8.1, fun i hi => ?_⟩
        obtain ⟨a, q1, q2, q3⟩ := hL8.2 i hi
        obtain ⟨a', q1', q2', q3'⟩ := hL0.2 i hi
        exact ⟨a, q1, ho9 a _ (ne q2) q2, q3'.ex e09⟩
/-- Mixed(p1, ..) -/
theorem mkMx {H : Hp} {Q : VK} {E : XK} {xs : List V} {ps : List MP} (hL : MPt K H xs ps) (hl : ps.length ≤ 1000) (hE : MxErr K ps E H) (k : MxGood (mxN ps) ps → ∀ x H', Fr H x → Ex H H' → MxR K H' x (mxN ps) ps → Q (.ref x) H') :
    dMk (He.ga K "Mixed") (Z.StarSp 1 (sp_Mixed___init__ K)) [] E Q xs H :=
  w_dMk fun x dx H2 nw => ⟨[.ref x], xs, by simp, rfl, by have := hL.1; rw [sizeLine_eq]; omega, fun p hp => ⟨H, x, dx, p, xs, ps, rfl, by
    have h : At H2 x (.ins (He.ga K "Mixed") dx []) := nw.at_
    exact (Ex.new hp).get h, nw.new, nw.ex.trans (Ex.new hp), by show upd H2 p _ p = _; rw [upd_same], hL, hl, hE, fun h1 H' tp ys e h2 h3 h4 => ⟨rfl, k h1 x H' nw.new e ⟨dx, tp, ys, h2, h3, h4⟩⟩⟩⟩

theorem ldt1 (ts : List Int) : ldT [(1, ts)] = 1 := rfl
theorem bigL {K : PySem.W.Frag} {H : Hp} {x : Addr} {m : Nat} {ts : List Int} (h : LdR K H x m [(1, ts)]) (hg : LdGood m [(1, ts)]) (hl : ts.length ≤ 1) : Rep_Listed K H x (m : Int) (ldSh m [(1, ts)]) 8 :=
  h.rep hg (by omega) (show 1 ≤ 1000 by decide) (fun p hp => by rw [List.mem_singleton.1 hp]; show ts.length ≤ 1000; omega) (by rw [ldt1]; decide) (by decide) (by decide)
/-- a mixture of two -/
theorem mx2 {K : PySem.W.Frag} {H : Hp} {z r1 r2 : Addr} {n b0 b1 : Int} {s1 s2 : List Int → List Rat} {c1 c2 : Nat} (h : MxR K H z n [(b0, n, r1), (b1, n, r2)]) (p1 : RPart K H r1 n s1 c1) (p2 : RPart K H r2 n s2 c2) (h0 : 0 ≤ n) (h24 : n ≤ 24) (g1 : 1 ≤ b0 ∧ b0 < 2 ^ 64) (g2 : 1 ≤ b1 ∧ b1 < 2 ^ 64) (hb : c1 + c2 + 141 ≤ 13400) : Rep_Mixed K H z n (mxSh n [(b0, s1, c1), (b1, s2, c2)]) (c1 + c2 + 141) := by
  refine ⟨_, [(b0, s1, c1), (b1, s2, c2)], h, ⟨rfl, fun i hi => ?_⟩, h0, h24, (by show 0 < 2; decide), (by show 2 ≤ 3; decide), fun e he => ?_, rfl, ?_, hb⟩
  · match i, hi with
    | 0, _ => exact ⟨rfl, p1⟩
    | 1, _ => exact ⟨rfl, p2⟩
    | i + 2, h => exact absurd h (by simp)
  · rcases List.mem_cons.1 he with h | h
    · rw [h]; exact g1
    · rw [List.mem_singleton.1 h]; exact g2
  · show 1 + (c1 + 70 + (c2 + 70 + 0)) ≤ c1 + c2 + 141
    omega
theorem mx2g {n b0 b1 : Int} {r1 r2 : Addr} (g1 : 1 ≤ b0) (g2 : 1 ≤ b1) : MxGood (mxN [(b0, n, r1), (b1, n, r2)]) [(b0, n, r1), (b1, n, r2)] := ⟨by simp, fun j hj => by
  match j, hj with
  | 0, _ => exact ⟨g1, rfl⟩
  | 1, _ => exact ⟨g2, rfl⟩
  | j + 2, h => exact absurd h (by simp)⟩
def sp__law_big (K : PySem.W.Frag) : Sp := fun vs H Q _ => ∃ (k m : Nat), vs = [.int (k : Int), .int (m : Int)] ∧ 7 ≤ m ∧ m ≤ 24 ∧ ∀ p H' sh b, Ex H H' → RAll K H' p (m : Int) sh b → m * (b + 66) + 66 ≤ 13400 → Q (.ref p) H'
theorem ok__law_big (T : Tx P K mg) : FnOk P w K mg base (L2.CX P w) 7 (He.ga K "_law_big") (Z.fdOf K (He.ga K "_law_big")) ["_law_kind", "_law_many"] (sp__law_big K) := by
  refine T.F__law_big.ok sc__law_big (fun vs H Q E h => ?_) (fun cdv A outer s H vs Q E hr h => ?_)
  · obtain ⟨k, m, rfl, _⟩ := h
    rfl
  · obtain ⟨k, m, rfl, h7, h24, hk⟩ := h
    refine ⟨_, PSs.nox (pss_cons (ps_if (pt_cmpR (Z.op_eq (K := K) rfl hr.units) (pv 0) pe_int (nomark _)) (pss_one (ps_ret (pe_make T.mk_Listed (ok_Listed___init__ T) (hr.mono (by decide)) (by rfl) T.g_Listed T.b_Listed___init__ .nil passL (pa_cons (pv 1) (pa_cons (pe_lst (pa_cons (pe_tup (pa_cons pe_int (pa_cons (pe_tup pa_nil) pa_nil))) pa_nil)) pa_nil))))) pss_nil)
      (pss_cons (ps_if (pt_cmpR (Z.op_eq (K := K) rfl hr.units) (pv 0) pe_int (nomark _)) (pss_one (ps_ret (pe_make T.mk_Rule (ok_Rule___init__ T) (hr.mono (by decide)) (by rfl) T.g_Rule T.b_Rule___init__ .nil passL (pa_cons (pv 1) pa_nil)))) pss_nil)
      (pss_one (ps_ret (Z.pe_mkS T.mk_Mixed (ok_Mixed___init__ T) (hr.mono (by decide)) (by rfl) T.g_Mixed passL (pa_cons (pe_tup (pa_cons pe_int (pa_cons (pe_make T.mk_Rule (ok_Rule___init__ T) (hr.mono (by decide)) (by rfl) T.g_Rule T.b_Rule___init__ .nil passL (pa_cons (pv 1) pa_nil)) pa_nil))) (pa_cons (pe_tup (pa_cons pe_int (pa_cons (pe_make T.mk_Listed (ok_Listed___init__ T) (hr.mono (by decide)) (by rfl) T.g_Listed T.b_Listed___init__ .nil passL (pa_cons (pv 1) (pa_cons (pe_lst (pa_cons (pe_tup (pa_cons pe_int (pa_cons (pe_tup (pa_cons pe_int pa_nil)) pa_nil))) pa_nil)) pa_nil))) pa_nil))) pa_nil))))))), ?_⟩
    try dsimp only [cxOf, Cx.nox, Cx.wish]
    try (show (_ : TS) _ [some _, some _] _)
    walk_at "go"
    have hg1 : LdGood m [(1, [])] := ⟨by omega, by simp, fun j hj => by
      have : j = 0 := by simp at hj; omega
      subst this
      exact ⟨by decide, ⟨fun x hx => by simp at hx, by simp⟩, fun t ht => by simp at ht⟩⟩
    have hg2 : LdGood m [(1, [0])] := ⟨by omega, by simp, fun j hj => by
      have : j = 0 := by simp at hj; omega
      subst this
      exact ⟨by decide, ⟨fun x hx => by simp at hx; omega, by simp⟩, fun t ht => by
        have : t = 0 := by simpa using ht
        omega⟩⟩
    have hb8 : m * (8 + 66) + 66 ≤ 13400 := by have := Nat.mul_le_mul_right (8 + 66) h24; omega
    refine Z.w_dec (fun h => ?_) (fun h => ?_)
    · walk_at "go"
      rename_i a1 G1 ha1 ea1 pa1 a2 G2 ha2 ea2 pa2 a3 G3 ha3 ea3 pa3
      have hLo : LPt G3 [.ref a2] [(1, [])] := LPt.nil.snoc (ea3.get pa2) (.inl (ea3.get (ea2.get pa1)))
      refine mkLd pa3 hLo (by decide) (fun p hp => by rw [List.mem_singleton.1 hp]; decide) (LdErr.good hg1) fun _ y G5 hn5 he5 hy5 => ?_
      walk_at "go"
      exact hk y G5 _ 8 (((ea1.trans ea2).trans ea3).trans he5) (.inr (.inl (bigL hy5 hg1 (by decide)))) hb8
    · walk_at "go"
      refine Z.w_dec (fun h => ?_) (fun h => ?_)
      · walk_at "go"
        refine mk_Rule___init__ (fun h => absurd h (by omega)) fun _ x dx G5 hn5 he5 hx5 => ?_
        walk_at "go"
        exact hk x G5 _ 8 he5 (.inr (.inr (.inr ⟨⟨dx, hx5⟩, by omega, by omega, rfl, by decide, by decide⟩))) hb8
      · walk_at "go"
        refine mk_Rule___init__ (fun h => absurd h (by omega)) fun _ x dx G1 hn1 he1 hx1 => ?_
        have hr1 : Rep_Rule K G1 x (m : Int) (fun _ => List.replicate (m : Int).toNat 0) 1 := ⟨⟨dx, hx1⟩, by omega, by omega, rfl, by decide, by decide⟩
        walk_at "go"
        rename_i a1 G2 ha1 ea1 pa1 a2 G3 ha2 ea2 pa2 a3 G4 ha3 ea3 pa3 a4 G5 ha4 ea4 pa4
        have hLo : LPt G5 [.ref a3] [(1, [0])] := LPt.nil.snoc (ea4.get pa3) (.inl (ea4.get (ea3.get pa2)))
        refine mkLd pa4 hLo (by decide) (fun p hp => by rw [List.mem_singleton.1 hp]; decide) (LdErr.good hg2) fun _ y G6 hn6 he6 hy6 => ?_
        have e16 := ((ea1.trans ea2).trans (ea3.trans ea4)).trans he6
        have hr6 := hr1.ex e16
        have pa16 := ((ea2.trans (ea3.trans ea4)).trans he6).get pa1
        have hl6 := bigL hy6 hg2 (by decide)
        clear pa1 pa2 pa3 pa4 hx1 hr1 hLo
        walk_at "go"
        rename_i a7 G7 ha7 ea7 pa7
        have hr7 := (hr6.ex ea7).part
        have hl7 := (hl6.ex ea7).part
        have hLm : MPt K G7 [.ref a1, .ref a7] [(2, (m : Int), x), (1, (m : Int), y)] := (MPt.nil.snoc (p := (2, (m : Int), x)) (ea7.get pa16) (hr7.rany T)).snoc (p := (1, (m : Int), y)) pa7 (hl7.rany T)
        refine mkMx hLm (show (2 : Nat) ≤ 1000 by decide) (MxErr.good (mx2g (by decide) (by decide))) fun _ z G8 hn8 he8 hz8 => ?_
        have hz8' : MxR K G8 z (m : Int) [(2, (m : Int), x), (1, (m : Int), y)] := hz8
        refine hk z G8 _ _ ((he1.trans e16).trans (ea7.trans he8)) (.inr (.inr (.inl (mx2 hz8' (hr7.ex he8) (hl7.ex he8) (by omega) (by omega) (by decide) (by decide) (by decide))))) ?_
        have := Nat.mul_le_mul_right (1 + 8 + 141 + 66) h24
        omega

theorem ok_T {m : Nat} {rows : List (List Int)} (hg : TGood (m : Int) rows) (hl : ∀ r ∈ rows, r.length = m + 1 ∧ ∀ z ∈ r, 0 ≤ z ∧ z < 2 ^ 57) : RowsOk (tbSh (m : Int) rows) m rows := by
  have h2 := hg.2.1
  rw [Int.toNat_natCast] at h2
  refine ⟨by omega, fun i hi => ?_⟩
  have hi2 : i < rows.length := by omega
  have hF := hg.2.2 i hi2
  rw [Int.toNat_natCast] at hF
  have hr := hl (rows.getD i []) (by rw [getD_get _ _ _ hi2]; exact List.getElem_mem _)
  have hT := tbSh_row hg hi2
  refine ⟨hr.1, hF.2.1, fun z hz => by have := hr.2 z hz; omega, fun t ht => ?_⟩
  split
  · rename_i hm
    show (tbSh (m : Int) rows ((lotOf i m).map fun k : Nat => (k : Int))).getD t 0 = _
    rw [hT, getD_get _ _ _ (by rw [List.length_map, List.length_drop, hr.1]; omega), List.getElem_map, List.getElem_drop]
    congr 1
    rw [getD_get _ _ _ (show t + 1 < (rows.getD i []).length by rw [hr.1]; omega)]
    congr 1
    omega
  · rename_i hm
    have h4 := hF.2.2.2 t (by omega)
    rcases Int.lt_or_le 0 ((rows.getD i []).getD (t + 1) 0) with q | q
    · exact absurd (h4.2 q) hm
    · omega
theorem ldS_out {ps : List (Int × List Int)} {lot : List Int} {t : Int} (h : t ∉ lot) : ldS ps lot t = 0 := by
  unfold ldS
  induction ps with
  | nil => rfl
  | cons p r ih =>
    rw [List.map_cons, List.sum_cons, ih, if_neg (fun z => h (fIn_mem z).2)]
    rfl
theorem getD_cons_succ (x : Int) (l : List Int) (i : Nat) : (x :: l).getD (i + 1) 0 = l.getD i 0 := rfl
theorem ldRow_get {m : Nat} {ps : List (Int × List Int)} {i t : Nat} (h : t < m) : (ldRow m ps i).getD (t + 1) 0 = ldS ps (lotI i m) t := by
  unfold ldRow
  rw [getD_cons_succ, getD_get _ _ _ (by simpa using h), List.getElem_map, List.getElem_range]
  rfl
theorem ok_L {m : Nat} {ps : List (Int × List Int)} (hp : ∀ p ∈ ps, PGood m p) (hT : 1 ≤ ldT ps) (hT2 : ldT ps < 2 ^ 60) {rows : List (List Int)} (hr : rows = (List.range (2 ^ m)).map (ldRow m ps)) : RowsOk (ldSh (m : Int) ps) m rows := by
  subst hr
  refine ⟨by simp, fun i hi => ?_⟩
  rw [getD_get _ _ _ (by simpa using hi), List.getElem_map, List.getElem_range]
  refine ⟨by unfold ldRow; simp, hT, fun z hz => ?_, fun t ht => ?_⟩
  · rcases List.mem_cons.1 hz with h | h
    · rw [h]; omega
    · obtain ⟨t, _, rfl⟩ := List.mem_map.1 h
      have := ldS_bd (lot := (lotOf i m).map fun k : Nat => (k : Int)) (t := (t : Int)) hp
      omega
  · rw [ldRow_get ht]
    split
    · rw [ldI_get (by omega)]
      rfl
    · rename_i hm
      exact ldS_out hm
theorem ok_R {m : Nat} {rows : List (List Int)} (hr : rows = List.replicate (2 ^ m) (1 :: List.replicate m 0)) : RowsOk (fun _ => List.replicate (m : Int).toNat 0) m rows := by
  subst hr
  refine ⟨by simp, fun i hi => ?_⟩
  rw [getD_get _ _ _ (by simpa using hi), List.getElem_replicate]
  have h0 : ∀ t, (1 :: List.replicate m (0 : Int)).getD (t + 1) 0 = 0 := fun t => by
    rw [getD_cons_succ, List.getD_eq_getElem?_getD, List.getElem?_replicate]
    split <;> rfl
  refine ⟨by simp, by show 1 ≤ (1 : Int); decide, fun z hz => ?_, fun t ht => ?_⟩
  · rcases List.mem_cons.1 hz with h | h
    · rw [h]; decide
    · rw [List.eq_of_mem_replicate h]; decide
  · rw [h0]
    split
    · rw [getD_rep0, Rat.zero_divInt]
    · rfl
theorem mxRow_get {b0 b1 : Int} {r s : List Int} {m t : Nat} (hr : r.length = m + 1) (h : t < m) : (mxRow b0 b1 r s).getD (t + 1) 0 = b0 * r.getD (t + 1) 0 * s.getD 0 0 + b1 * s.getD (t + 1) 0 * r.getD 0 0 := by
  unfold mxRow
  rw [getD_cons_succ, getD_get _ _ _ (by simp; omega), List.getElem_map, List.getElem_range]
theorem mix_two {b0 b1 x y u v : Int} (h0 : 1 ≤ b0) (h1 : 1 ≤ b1) (hy : 1 ≤ y) (hv : 1 ≤ v) : Rat.divInt x y * Rat.divInt b0 (b0 + (b1 + 0)) + (Rat.divInt u v * Rat.divInt b1 (b0 + (b1 + 0)) + 0) = Rat.divInt (b0 * x * v + b1 * u * y) ((b0 + b1) * y * v) := by
  have hy' : (y : Rat) ≠ 0 := by intro z; have : y = 0 := by exact_mod_cast z
                                 omega
  have hv' : (v : Rat) ≠ 0 := by intro z; have : v = 0 := by exact_mod_cast z
                                 omega
  have hD' : ((b0 : Rat) + b1) ≠ 0 := by intro z; have : b0 + b1 = 0 := by exact_mod_cast z
                                         omega
  rw [Int.add_zero]
  simp only [Rat.divInt_eq_div]
  push_cast
  grind
theorem bnd_mx {b0 b1 x y u v : Int} (h0 : 0 ≤ b0 ∧ b0 < 2 ^ 60) (h1 : 0 ≤ b1 ∧ b1 < 2 ^ 60) (hx : 0 ≤ x ∧ x < 2 ^ 60) (hy : 0 ≤ y ∧ y < 2 ^ 60) (hu : 0 ≤ u ∧ u < 2 ^ 60) (hv : 0 ≤ v ∧ v < 2 ^ 60) : 0 ≤ b0 * x * v + b1 * u * y ∧ b0 * x * v + b1 * u * y < 2 ^ 199 := by
  have a1 : 0 ≤ b0 * x * v := Int.mul_nonneg (Int.mul_nonneg h0.1 hx.1) hv.1
  have a2 : 0 ≤ b1 * u * y := Int.mul_nonneg (Int.mul_nonneg h1.1 hu.1) hy.1
  have c1 : (b0 * x * v).natAbs < 2 ^ (60 + 60 + 60) := bt_mul (bt_mul (by omega) (by omega)) (by omega)
  have c2 : (b1 * u * y).natAbs < 2 ^ (60 + 60 + 60) := bt_mul (bt_mul (by omega) (by omega)) (by omega)
  omega
theorem ok_M {m : Nat} {s1 s2 : List Int → List Rat} {c1 c2 : Nat} {b0 b1 : Int} {rs ss rows : List (List Int)} (h1 : RowsOk s1 m rs) (h2 : RowsOk s2 m ss) (g0 : 1 ≤ b0 ∧ b0 < 2 ^ 60) (g1 : 1 ≤ b1 ∧ b1 < 2 ^ 60) (hrb : ∀ r ∈ rs, ∀ z ∈ r, z < 2 ^ 60) (hsb : ∀ r ∈ ss, ∀ z ∈ r, z < 2 ^ 60) (hr : rows = (List.range rs.length).map fun i => mxRow b0 b1 (rs.getD i []) (ss.getD i [])) : RowsOk (mxSh (m : Int) [(b0, s1, c1), (b1, s2, c2)]) m rows := by
  subst hr
  have hl := h1.1
  have hl2 := h2.1
  refine ⟨by simpa using hl, fun i hi => ?_⟩
  rw [getD_get _ _ _ (by simp; omega), List.getElem_map, List.getElem_range]
  obtain ⟨r1, r2, r3, r4⟩ := h1.2 i hi
  obtain ⟨q1, q2, q3, q4⟩ := h2.2 i hi
  have hrb := hrb (rs.getD i []) (by rw [getD_get _ _ _ (show i < rs.length by omega)]; exact List.getElem_mem _)
  have hsb := hsb (ss.getD i []) (by rw [getD_get _ _ _ (show i < ss.length by omega)]; exact List.getElem_mem _)
  generalize rs.getD i [] = r at *
  generalize ss.getD i [] = s at *
  have hrg : ∀ j, j < m + 1 → 0 ≤ r.getD j 0 ∧ r.getD j 0 < 2 ^ 60 := fun j hj => by
    rw [getD_get _ _ _ (by omega)]; exact ⟨(r3 _ (List.getElem_mem _)).1, hrb _ (List.getElem_mem _)⟩
  have hsg : ∀ j, j < m + 1 → 0 ≤ s.getD j 0 ∧ s.getD j 0 < 2 ^ 60 := fun j hj => by
    rw [getD_get _ _ _ (by omega)]; exact ⟨(q3 _ (List.getElem_mem _)).1, hsb _ (List.getElem_mem _)⟩
  have hr0 := hrg 0 (by omega)
  have hs0 := hsg 0 (by omega)
  have htop : (mxRow b0 b1 r s).getD 0 0 = (b0 + b1) * r.getD 0 0 * s.getD 0 0 := rfl
  refine ⟨by unfold mxRow; simp; omega, ?_, fun z hz => ?_, fun t ht => ?_⟩
  · rw [htop]
    have : 0 < (b0 + b1) * r.getD 0 0 * s.getD 0 0 := Int.mul_pos (Int.mul_pos (by omega) (by omega)) (by omega)
    omega
  · rcases List.mem_cons.1 hz with h | h
    · have := bnd_mx (b0 := b0) (b1 := b1) ⟨by omega, g0.2⟩ ⟨by omega, g1.2⟩ hr0 hr0 hs0 hs0
      rw [h]
      have e : (b0 + b1) * r.getD 0 0 * s.getD 0 0 = b0 * r.getD 0 0 * s.getD 0 0 + b1 * s.getD 0 0 * r.getD 0 0 := by grind
      rw [e]; exact this
    · obtain ⟨t, ht, rfl⟩ := List.mem_map.1 h
      have ht := List.mem_range.1 ht
      exact bnd_mx ⟨by omega, g0.2⟩ ⟨by omega, g1.2⟩ (hrg _ (by omega)) hr0 (hsg _ (by omega)) hs0
  · rw [mxRow_get r1 ht, htop]
    have f1 := r4 t ht
    have f2 := q4 t ht
    split
    · rename_i hm
      rw [if_pos hm] at f1 f2
      unfold mxSh
      rw [mxI_get (by omega)]
      show (s1 (lotI i m)).getD t 0 * Rat.divInt b0 (b0 + (b1 + 0)) + ((s2 (lotI i m)).getD t 0 * Rat.divInt b1 (b0 + (b1 + 0)) + 0) = _
      rw [f1, f2]
      exact mix_two g0.1 g1.1 r2 q2
    · rename_i hm
      rw [if_neg hm] at f1 f2
      rw [f1, f2]
      simp
theorem u_isAll {K : PySem.W.Frag} {H : Hp} {Q : VK} {x : Addr} {n : Int} {sh : List Int → List Rat} {b : Nat} (h : RAll K H x n sh b) (O0 : OwnC K (He.ga K "Rule")) (O1 : OwnC K (He.ga K "Tabled")) (O2 : OwnC K (He.ga K "Listed")) (O3 : OwnC K (He.ga K "Mixed")) (k1 : PySem.W.kitOne K (.ref (He.ga K "Tabled")) (.ref (He.ga K "Rule")) = some true) (k2 : PySem.W.kitOne K (.ref (He.ga K "Listed")) (.ref (He.ga K "Rule")) = some true) (k3 : PySem.W.kitOne K (.ref (He.ga K "Mixed")) (.ref (He.ga K "Rule")) = some true) (k : Q (.bl true) H) : rIsi K [.ref x, .ref (He.ga K "Rule")] H Q := by
  rcases h with h | h | h | h
  · exact u_risC2 h.rb O1 k1 k
  · exact u_risC2 h.rb O2 k2 k
  · exact u_risC2 h.rb O3 k3 k
  · exact u_risO2 h.rb O0 k
theorem TGood.of6 {m : Nat} {rows : List (List Int)} (h1 : rows.length = 2 ^ m) (hm : m ≤ 6) (h3 : ∀ j, j < rows.length → Fits (rows.getD j []) ((lotOf j m).map fun k : Nat => (k : Int)) m) : TGood (m : Int) rows := ⟨by omega, by rw [Int.toNat_natCast, h1], fun j hj => by rw [Int.toNat_natCast]; exact h3 j hj⟩
theorem TErr.ok6 {K : PySem.W.Frag} {n : Int} {rows : List (List Int)} {E : XK} {H : Hp} (hg : TGood n rows) : TErr K n rows E H := ⟨fun h => by have := hg.1; omega, fun v hv => by
  cases hv with
  | len h1 h2 => exact absurd hg.2.1 h2
  | row h1 h2 i hi hw hb => exact absurd (hg.2.2 i hi) hw⟩
theorem ldT_le {c : Int} : ∀ {ps : List (Int × List Int)}, (∀ q ∈ ps, q.1 ≤ c) → ldT ps ≤ c * (ps.length : Int)
  | [], _ => by unfold ldT; simp
  | p :: r, h => by
    have ih := ldT_le (c := c) (ps := r) fun q hq => h q (List.mem_cons_of_mem _ hq)
    have h1 := h p List.mem_cons_self
    unfold ldT at *
    rw [List.map_cons, List.sum_cons, List.length_cons]
    push_cast
    rw [Int.mul_add, Int.mul_one]
    omega
theorem flt_num {a b : Str} (v : V) (h : Flt v) : ∀ z ∈ ([.str a, .str b, v] : List V), Flt z := fun z hz => by
  rcases List.mem_cons.1 hz with h1 | h1
  · exact .inr (.inl ⟨_, h1⟩)
  · rcases List.mem_cons.1 h1 with h2 | h2
    · exact .inr (.inl ⟨_, h2⟩)
    · rw [List.mem_singleton.1 h2]; exact h
theorem flt_many {a : Str} (i j : Int) : ∀ z ∈ ([.str a, .int i, .int j] : List V), Flt z := fun z hz => by
  rcases List.mem_cons.1 hz with h1 | h1
  · exact .inr (.inl ⟨_, h1⟩)
  · rcases List.mem_cons.1 h1 with h2 | h2
    · exact .inr (.inr ⟨_, h2⟩)
    · rw [List.mem_singleton.1 h2]; exact .inr (.inr ⟨_, rfl⟩)
def sp_law (K : PySem.W.Frag) : Sp := fun vs H Q _ => ∃ (a : Addr) (ns : List Int), vs = [.ref a] ∧ SqL K H a (ns.map V.int) ∧ ∀ H', Q (.bl true) H'
theorem ok_law (T : Tx P K mg) : FnOk P w K mg base CX0 10 (He.ga K "law") (Z.fdOf K (He.ga K "law")) ["_law_script"] (sp_law K) := by
  refine T.F_law.ok sc_law (fun vs H Q E h => ?_) (fun cdv A outer s H vs Q E hr h => ?_)
  · obtain ⟨a, ns, rfl, _⟩ := h
    rfl
  · obtain ⟨a, ns, rfl, hS, k⟩ := h
    have fx0 := T.o_Ratio
    have fx1 := T.ki_Ratio_Rule
    have fx2 := T.o_Rule
    have fx3 := T.o_Wish
    have fx4 := T.ki_Wish_Rule
    have fx5 := T.o_Listed
    have fx6 := T.ki_Listed_Rule
    have fx7 := T.o_Mixed
    have fx8 := T.ki_Mixed_Rule
    have fx9 := T.o_Tabled
    have fx10 := T.ki_Tabled_Rule
    refine ⟨_, PSs.nox (pss_cons (ps_set (i := 1) sc_law.nd rfl (Or.inl rfl) (pe_call (ok__law_draws T) (hr.mono (by decide)) (by rfl) T.g__law_draws T.F__law_draws.kp T.b__law_draws .nil passL (pa_cons (pe_call (ok__law_cell T) (hr.mono (by decide)) (by rfl) T.g__law_cell T.F__law_cell.kp T.b__law_cell .nil passL (pa_cons (pv 0) (pa_cons pe_int pa_nil))) (pa_cons (pe_lst (pa_cons pe_int (pa_cons pe_int (pa_cons pe_int (pa_cons pe_int (pa_cons pe_int (pa_cons pe_int (pa_cons (pe_op op_pow pe_int pe_int) pa_nil)))))))) pa_nil))))
      (pss_cons (ps_set (i := 2) sc_law.nd rfl (Or.inr rfl) (pe_ix (Z.ix (K := K) rfl) (pv 1) pe_int (fun _ _ => rfl)))
      (C8.pss_cut (ps_if (pt_cmpR (Z.op_eq (K := K) rfl hr.units) (pe_ix (Z.ix (K := K) rfl) (pv 1) pe_int (fun _ _ => rfl)) pe_int (nomark _)) (pss_one (ps_set (i := 2) sc_law.nd rfl (Or.inr rfl) (pe_ix (Z.ix (K := K) rfl) (pe_lst (pa_cons pe_int (pa_cons pe_int (pa_cons pe_int (pa_cons pe_int (pa_cons pe_int (pa_cons pe_int (pa_cons pe_int pa_nil)))))))) (pe_ix (Z.ix (K := K) rfl) (pv 1) pe_int (fun _ _ => rfl)) (fun _ _ => rfl)))) pss_nil)
      (pss_cons (ps_set (i := 3) sc_law.nd rfl (Or.inl rfl) (pe_call (ok__law_rows T) (hr.mono (by decide)) (by rfl) T.g__law_rows T.F__law_rows.kp T.b__law_rows .nil passL (pa_cons (pe_call (ok__law_pool T) (hr.mono (by decide)) (by rfl) T.g__law_pool T.F__law_pool.kp T.b__law_pool .nil passL (pa_cons (pe_call (ok__law_cell T) (hr.mono (by decide)) (by rfl) T.g__law_cell T.F__law_cell.kp T.b__law_cell .nil passL (pa_cons (pv 0) (pa_cons pe_int pa_nil))) (pa_cons (pe_call (ok__law_cell T) (hr.mono (by decide)) (by rfl) T.g__law_cell T.F__law_cell.kp T.b__law_cell .nil passL (pa_cons (pv 0) (pa_cons pe_int pa_nil))) pa_nil))) (pa_cons (pv 2) pa_nil))))
      (pss_cons (ps_set (i := 4) sc_law.nd rfl (Or.inl rfl) (pe_call (ok__law_wishes T) (hr.mono (by decide)) (by rfl) T.g__law_wishes T.F__law_wishes.kp T.b__law_wishes .nil passL (pa_cons (pe_call (ok__law_cell T) (hr.mono (by decide)) (by rfl) T.g__law_cell T.F__law_cell.kp T.b__law_cell .nil passL (pa_cons (pv 0) (pa_cons pe_int pa_nil))) (pa_cons (pv 2) (pa_cons pe_int pa_nil)))))
      (pss_cons (ps_set (i := 5) sc_law.nd rfl (Or.inl rfl) (pe_call (ok__law_ups T) (hr.mono (by decide)) (by rfl) T.g__law_ups T.F__law_ups.kp T.b__law_ups .nil passL (pa_cons (pe_call (ok__law_row T) (hr.mono (by decide)) (by rfl) T.g__law_row T.F__law_row.kp T.b__law_row .nil passL (pa_cons (pe_call (ok__law_cell T) (hr.mono (by decide)) (by rfl) T.g__law_cell T.F__law_cell.kp T.b__law_cell .nil passL (pa_cons (pv 0) (pa_cons pe_int pa_nil))) (pa_cons pe_int pa_nil))) pa_nil)))
      (pss_cons (ps_set (i := 6) sc_law.nd rfl (Or.inr rfl) (pe_call (ok__law_row T) (hr.mono (by decide)) (by rfl) T.g__law_row T.F__law_row.kp T.b__law_row .nil passL (pa_cons (pe_call (ok__law_cell T) (hr.mono (by decide)) (by rfl) T.g__law_cell T.F__law_cell.kp T.b__law_cell .nil passL (pa_cons (pv 0) (pa_cons pe_int pa_nil))) (pa_cons (pv 2) pa_nil))))
      (C8.pss_cut (ps_if (pt_cmpR (Z.op_eq (K := K) rfl hr.units) (pe_ix (Z.ix (K := K) rfl) (pv 1) pe_int (fun _ _ => rfl)) pe_int (nomark _)) (pss_cons (ps_set (i := 6) sc_law.nd rfl (Or.inr rfl) (pe_lc (own := [("_law_price", 13)]) rfl sc_law.nd (Z.piL (K := K) rfl (pv 6)) (blkOk_by (N := ["_law_script", "_law_drawn", "_law_many", "_law_rows_here", "_law_pairs", "_law_buyers", "_law_prices", "_law_rule", "_law_bad", "_law_place", "_law_wide", "_law_big_here", "_law_shown", "_law_price", "_law_pair", "_law_row_here", "_law_thing"]) (sc := defScope s_law) (by decide +kernel)) (fun _ _ _ _ _ => (pg_name (i := 13) sc_law.nd rfl (by first | exact Or.inl rfl | exact Or.inr rfl))) (fun _ _ _ _ _ => pts_nil) (fun _ _ _ _ _ => (pe_ix (Z.ix (K := K) rfl) (pv 6) pe_int (fun _ _ => rfl)))))
      (pss_one (ps_if (pt_cmpR (Z.op_eq (K := K) rfl hr.units) (pe_ix (Z.ix (K := K) rfl) (pv 1) pe_int (fun _ _ => rfl)) pe_int (nomark _)) (pss_one (ps_setLc (i := 4) (own := [("_law_pair", 14)]) rfl sc_law.nd rfl rfl (sw_true rfl rfl rfl (by decide +kernel)) (Z.piL (K := K) rfl (pv 4)) (blkOk_by (N := ["_law_script", "_law_drawn", "_law_many", "_law_rows_here", "_law_pairs", "_law_buyers", "_law_prices", "_law_rule", "_law_bad", "_law_place", "_law_wide", "_law_big_here", "_law_shown", "_law_price", "_law_pair", "_law_row_here", "_law_thing"]) (sc := defScope s_law) (by decide +kernel)) (fun _ _ _ _ _ => (pg_name (i := 14) sc_law.nd rfl (by first | exact Or.inl rfl | exact Or.inr rfl))) (fun _ _ _ _ _ => pts_nil) (fun _ _ _ _ _ => (pe_tup (pa_cons (pe_ix (Z.ix (K := K) rfl) (pv 14) pe_int (fun _ _ => rfl)) (pa_cons (pe_call (ok__law_filled T) (hr.mono (by decide)) (by rfl) T.g__law_filled T.F__law_filled.kp T.b__law_filled .nil passL (pa_cons (pe_ix (Z.ix (K := K) rfl) (pv 14) pe_int (fun _ _ => rfl)) (pa_cons (pv 2) pa_nil))) pa_nil)))))) pss_nil))) pss_nil)
      (C8.pss_cut (ps_if (pt_cmpR (Z.op_eq (K := K) rfl hr.units) (pe_ix (Z.ix (K := K) rfl) (pv 1) pe_int (fun _ _ => rfl)) pe_int (nomark _)) (pss_one (ps_set (i := 6) sc_law.nd rfl (Or.inr rfl) (pe_lc (own := [("_law_price", 13)]) rfl sc_law.nd (Z.piL (K := K) rfl (pv 6)) (blkOk_by (N := ["_law_script", "_law_drawn", "_law_many", "_law_rows_here", "_law_pairs", "_law_buyers", "_law_prices", "_law_rule", "_law_bad", "_law_place", "_law_wide", "_law_big_here", "_law_shown", "_law_price", "_law_pair", "_law_row_here", "_law_thing"]) (sc := defScope s_law) (by decide +kernel)) (fun _ _ _ _ _ => (pg_name (i := 13) sc_law.nd rfl (by first | exact Or.inl rfl | exact Or.inr rfl))) (fun _ _ _ _ _ => pts_nil) (fun _ _ _ _ _ => (pe_op Z.op_mod (pe_callTy Z.call_int (by rfl) T.n_int (by decide +kernel) (pa_cons (pv 13) pa_nil)) pe_int))))) pss_nil)
      (pss_cons (ps_set (i := 7) sc_law.nd rfl (Or.inl rfl) (pe_make T.mk_Tabled (ok_Tabled___init__ T) (hr.mono (by decide)) (by rfl) T.g_Tabled T.b_Tabled___init__ .nil passL (pa_cons (pv 2) (pa_cons (pe_lc (own := [("_law_row_here", 15)]) rfl sc_law.nd (Z.piL (K := K) rfl (pv 3)) (blkOk_by (N := ["_law_script", "_law_drawn", "_law_many", "_law_rows_here", "_law_pairs", "_law_buyers", "_law_prices", "_law_rule", "_law_bad", "_law_place", "_law_wide", "_law_big_here", "_law_shown", "_law_price", "_law_pair", "_law_row_here", "_law_thing"]) (sc := defScope s_law) (by decide +kernel)) (fun _ _ _ _ _ => (pg_name (i := 15) sc_law.nd rfl (by first | exact Or.inl rfl | exact Or.inr rfl))) (fun _ _ _ _ _ => pts_nil) (fun _ _ _ _ _ => (pe_callTy (Z.call_list (K := K) rfl) (by rfl) T.n_list (by decide +kernel) (pa_cons (pv 15) pa_nil)))) pa_nil))))
      (C8.pss_cut (ps_if (pt_cmpR (Z.op_eq (K := K) rfl hr.units) (pe_ix (Z.ix (K := K) rfl) (pv 1) pe_int (fun _ _ => rfl)) pe_int (nomark _)) (pss_cons (ps_set (i := 7) sc_law.nd rfl (Or.inl rfl) (pe_make T.mk_Listed (ok_Listed___init__ T) (hr.mono (by decide)) (by rfl) T.g_Listed T.b_Listed___init__ .nil passL (pa_cons (pv 2) (pa_cons (pv 4) pa_nil))))
      (pss_one (ps_set (i := 3) sc_law.nd rfl (Or.inl rfl) (pe_call (ok__law_listed_rows T) (hr.mono (by decide)) (by rfl) T.g__law_listed_rows T.F__law_listed_rows.kp T.b__law_listed_rows .nil passL (pa_cons (pv 4) (pa_cons (pv 2) pa_nil)))))) pss_nil)
      (C8.pss_cut (ps_if (pt_cmpR (Z.op_eq (K := K) rfl hr.units) (pe_ix (Z.ix (K := K) rfl) (pv 1) pe_int (fun _ _ => rfl)) pe_int (nomark _)) (pss_cons (ps_set (i := 7) sc_law.nd rfl (Or.inl rfl) (Z.pe_mkS T.mk_Mixed (ok_Mixed___init__ T) (hr.mono (by decide)) (by rfl) T.g_Mixed passL (pa_cons (pe_tup (pa_cons (pe_ix (Z.ix (K := K) rfl) (pv 5) pe_int (fun _ _ => rfl)) (pa_cons (pv 7) pa_nil))) (pa_cons (pe_tup (pa_cons (pe_ix (Z.ix (K := K) rfl) (pv 5) pe_int (fun _ _ => rfl)) (pa_cons (pe_make T.mk_Listed (ok_Listed___init__ T) (hr.mono (by decide)) (by rfl) T.g_Listed T.b_Listed___init__ .nil passL (pa_cons (pv 2) (pa_cons (pv 4) pa_nil))) pa_nil))) pa_nil))))
      (pss_one (ps_set (i := 3) sc_law.nd rfl (Or.inl rfl) (pe_call (ok__law_mixed_rows T) (hr.mono (by decide)) (by rfl) T.g__law_mixed_rows T.F__law_mixed_rows.kp T.b__law_mixed_rows .nil passL (pa_cons (pv 3) (pa_cons (pe_call (ok__law_listed_rows T) (hr.mono (by decide)) (by rfl) T.g__law_listed_rows T.F__law_listed_rows.kp T.b__law_listed_rows .nil passL (pa_cons (pv 4) (pa_cons (pv 2) pa_nil))) (pa_cons (pv 5) pa_nil))))))) pss_nil)
      (pss_cons (ps_if (PW.pt (pw_or (pt_not (pt_val (pe_callB (Z.call_isi (K := K) rfl) (by rfl) T.n_isinstance (by decide +kernel) (pa_cons (pv 7) (pa_cons (pe_glob (v := .ref (He.ga K "Rule")) (by rfl) T.g_Rule rfl) pa_nil))))) (pw_or1 (pt_not (pt_val (pe_call (ok__law_good T) (hr.mono (by decide)) (by rfl) T.g__law_good T.F__law_good.kp T.b__law_good .nil passL (pa_cons (pv 7) (pa_cons (pv 3) (pa_cons (Z.revL (K := K) rfl (pv 6)) pa_nil))))))))) (pss_one (ps_ret pe_bl)) pss_nil)
      (pss_cons (ps_if (pt_not (pt_val (pe_call (ok__law_good T) (hr.mono (by decide)) (by rfl) T.g__law_good T.F__law_good.kp T.b__law_good .nil passL (pa_cons (pe_make T.mk_Rule (ok_Rule___init__ T) (hr.mono (by decide)) (by rfl) T.g_Rule T.b_Rule___init__ .nil passL (pa_cons (pv 2) pa_nil)) (pa_cons (pe_lc (own := [("_law_row_here", 15)]) rfl sc_law.nd (Z.piL (K := K) rfl (pv 3)) (blkOk_by (N := ["_law_script", "_law_drawn", "_law_many", "_law_rows_here", "_law_pairs", "_law_buyers", "_law_prices", "_law_rule", "_law_bad", "_law_place", "_law_wide", "_law_big_here", "_law_shown", "_law_price", "_law_pair", "_law_row_here", "_law_thing"]) (sc := defScope s_law) (by decide +kernel)) (fun _ _ _ _ _ => (pg_name (i := 15) sc_law.nd rfl (by first | exact Or.inl rfl | exact Or.inr rfl))) (fun _ _ _ _ _ => pts_nil) (fun _ _ _ _ _ => (pe_op Z.op_add (pe_lst (pa_cons pe_int pa_nil)) (pe_lc (own := [("_law_thing", 16)]) rfl sc_law.nd (pi_range1 (by rfl) T.n_range (pa_cons (pv 2) pa_nil)) (blkOk_by (N := ["_law_script", "_law_drawn", "_law_many", "_law_rows_here", "_law_pairs", "_law_buyers", "_law_prices", "_law_rule", "_law_bad", "_law_place", "_law_wide", "_law_big_here", "_law_shown", "_law_price", "_law_pair", "_law_row_here", "_law_thing"]) (by kernel_rfl)) (fun _ _ _ _ _ => (pg_name (i := 16) sc_law.nd rfl (by first | exact Or.inl rfl | exact Or.inr rfl))) (fun _ _ _ _ _ => pts_nil) (fun _ _ _ _ _ => pe_int))))) (pa_cons (pv 6) pa_nil)))))) (pss_one (ps_ret pe_bl)) pss_nil)
      (pss_cons (ps_if (pt_not (pt_val (pe_call (ok__law_like T) (hr.mono (by decide)) (by rfl) T.g__law_like T.F__law_like.kp T.b__law_like .nil passL (pa_cons (pe_call (ok__law_asked T) (hr.mono (by decide)) (by rfl) T.g__law_asked T.F__law_asked.kp T.b__law_asked .nil passL (pa_cons (pv 7) (pa_cons (pe_op Z.op_add (pv 6) (pe_lst (pa_cons pe_int pa_nil))) pa_nil))) (pa_cons (pe_tup (pa_cons pe_str (pa_cons pe_str (pa_cons pe_non pa_nil)))) pa_nil))))) (pss_one (ps_ret pe_bl)) pss_nil)
      (C8.pss_cut (ps_if (pt_cmpR Z.op_gt (pv 2) pe_int (nomark _)) (pss_cons (ps_set (i := 8) sc_law.nd rfl (Or.inl rfl) (pe_callTy (Z.call_list (K := K) rfl) (by rfl) T.n_list (by decide +kernel) (pa_cons (pv 6) pa_nil)))
      (pss_cons (ps_set (i := 9) sc_law.nd rfl (Or.inl rfl) (pe_op Z.op_mod (pe_callTy Z.call_int (by rfl) T.n_int (by decide +kernel) (pa_cons (pe_ix (Z.ix (K := K) rfl) (pv 1) pe_int (fun _ _ => rfl)) pa_nil)) (pv 2)))
      (pss_cons (ps_asg (pe_op Z.op_sub (pe_un Z.un_neg pe_int) (pe_ix (Z.ix (K := K) rfl) (pv 1) pe_int (fun _ _ => rfl))) (pg_sub (pv 8) (pv 9) set_list))
      (pss_one (ps_if (pt_not (pt_val (pe_call (ok__law_like T) (hr.mono (by decide)) (by rfl) T.g__law_like T.F__law_like.kp T.b__law_like .nil passL (pa_cons (pe_call (ok__law_asked T) (hr.mono (by decide)) (by rfl) T.g__law_asked T.F__law_asked.kp T.b__law_asked .nil passL (pa_cons (pv 7) (pa_cons (pv 8) pa_nil))) (pa_cons (pe_tup (pa_cons pe_str (pa_cons pe_str (pa_cons (pv 9) pa_nil)))) pa_nil))))) (pss_one (ps_ret pe_bl)) pss_nil))))) pss_nil)
      (pss_cons (ps_set (i := 10) sc_law.nd rfl (Or.inl rfl) (pe_op Z.op_add pe_int (pe_ix (Z.ix (K := K) rfl) (pv 1) pe_int (fun _ _ => rfl))))
      (pss_cons (ps_set (i := 11) sc_law.nd rfl (Or.inl rfl) (pe_call (ok__law_big T) (hr.mono (by decide)) (by rfl) T.g__law_big T.F__law_big.kp T.b__law_big .nil passL (pa_cons (pe_ix (Z.ix (K := K) rfl) (pv 1) pe_int (fun _ _ => rfl)) (pa_cons (pv 10) pa_nil))))
      (pss_cons (ps_for PassesOwn.never rfl (Z.piL (K := K) rfl (pe_lst (pa_cons (pe_lc (own := [("_law_thing", 16)]) rfl sc_law.nd (pi_range1 (by rfl) T.n_range (pa_cons (pv 10) pa_nil)) (blkOk_by (N := ["_law_script", "_law_drawn", "_law_many", "_law_rows_here", "_law_pairs", "_law_buyers", "_law_prices", "_law_rule", "_law_bad", "_law_place", "_law_wide", "_law_big_here", "_law_shown", "_law_price", "_law_pair", "_law_row_here", "_law_thing"]) (sc := defScope s_law) (by decide +kernel)) (fun _ _ _ _ _ => (pg_name (i := 16) sc_law.nd rfl (by first | exact Or.inl rfl | exact Or.inr rfl))) (fun _ _ _ _ _ => pts_nil) (fun _ _ _ _ _ => pe_int)) (pa_cons (pe_lst pa_nil) (pa_cons (pe_lc (own := [("_law_thing", 16)]) rfl sc_law.nd (pi_range1 (by rfl) T.n_range (pa_cons (pv 10) pa_nil)) (blkOk_by (N := ["_law_script", "_law_drawn", "_law_many", "_law_rows_here", "_law_pairs", "_law_buyers", "_law_prices", "_law_rule", "_law_bad", "_law_place", "_law_wide", "_law_big_here", "_law_shown", "_law_price", "_law_pair", "_law_row_here", "_law_thing"]) (sc := defScope s_law) (by decide +kernel)) (fun _ _ _ _ _ => (pg_name (i := 16) sc_law.nd rfl (by first | exact Or.inl rfl | exact Or.inr rfl))) (fun _ _ _ _ _ => pts_nil) (fun _ _ _ _ _ => (pe_un Z.un_neg pe_int))) pa_nil))))) (pg_name (i := 12) sc_law.nd rfl (by first | exact Or.inl rfl | exact Or.inr rfl)) (pss_one (ps_if (pt_not (pt_val (pe_call (ok__law_like T) (hr.mono (by decide)) (by rfl) T.g__law_like T.F__law_like.kp T.b__law_like .nil passL (pa_cons (pe_call (ok__law_asked T) (hr.mono (by decide)) (by rfl) T.g__law_asked T.F__law_asked.kp T.b__law_asked .nil passL (pa_cons (pv 11) (pa_cons (pv 12) pa_nil))) (pa_cons (pe_tup (pa_cons pe_str (pa_cons (pv 10) (pa_cons pe_int pa_nil)))) pa_nil))))) (pss_one (ps_ret pe_bl)) pss_nil)))
      (pss_one (ps_ret (pe_call (ok__law_good T) (hr.mono (by decide)) (by rfl) T.g__law_good T.F__law_good.kp T.b__law_good .nil passL (pa_cons (pv 7) (pa_cons (pv 3) (pa_cons (pv 6) pa_nil))))))))))))))))))))))))), ?_⟩
    try dsimp only [cxOf, Cx.nox, Cx.wish]
    try (show (_ : TS) _ [some _, none, none, none, none, none, none, none, none, none, none, none, none, none, none, none, none] _)
    walk_at "go"
    rename_i c0 p1 H1 hn1 he1 hp1 p2 H2 ds hn2 he2 hp2 hd hb
    obtain ⟨hdl, hb0, hb1, hb2, hb3, hb4, hb5, hb6⟩ := hb
    have hS2 := (he1.trans he2).l hS
    have e02 := he1.trans he2
    clear hp1 hd hn1 hn2 hS
    refine Z.w_cut (fun σ G => ∃ (m : Nat), σ = [some (.ref a), some (.ref p2), some (.int (m : Int)), none, none, none, none, none, none, none, none, none, none, none, none, none, none] ∧ Ex H2 G ∧ m ≤ 6 ∧ (ds.getD 0 0 = 2 → m ≤ 4)) ?_ ?_
    · walk_at "go"
      refine Z.w_dec (fun h => ?_) (fun h => ?_)
      · walk_at "go"
        have key : ∀ n : Nat, n ≤ 6 → (∃ v : Nat, ([0, 1, 2, 3, 4, 2, 3] : List Int).getD n 0 = (v : Int) ∧ v ≤ 4) := by
          intro n hn
          match n, hn with
          | 0, _ => exact ⟨0, rfl, by decide⟩
          | 1, _ => exact ⟨1, rfl, by decide⟩
          | 2, _ => exact ⟨2, rfl, by decide⟩
          | 3, _ => exact ⟨3, rfl, by decide⟩
          | 4, _ => exact ⟨4, rfl, by decide⟩
          | 5, _ => exact ⟨2, rfl, by decide⟩
          | 6, _ => exact ⟨3, rfl, by decide⟩
          | n + 7, h => exact absurd h (by omega)
        obtain ⟨v, hv1, hv2⟩ := key (ds.getD 1 0).toNat (by omega)
        rename_i q3 G3 hn3 he3 hq3
        refine ⟨v, ?_, he3, by omega, fun _ => hv2⟩
        rw [hv1]
      · walk_at "go"
        refine ⟨(ds.getD 1 0).toNat, ?_, Ex.refl _, by omega, fun z => absurd z h⟩
        rw [Int.toNat_of_nonneg hb1.1]
    rintro σ G3 ⟨m, rfl, e3, hm6, hm4⟩
    have hp23 := e3.get hp2
    have hS3 := e3.l hS2
    have e03 := e02.trans e3
    clear hp2 hS2 e3
    walk_at "go"
    refine ⟨_, _, rfl, fun p4 G4 pool hn4 he4 hp4 hpl hpb => ?_⟩
    walk_at "go"
    refine ⟨p4, m, pool, rfl, sq_of hp4, hm6, hpl, hpb, fun p5 G5 xs5 rows hn5 he5 hp5 hLL hrl hrb hrF => ?_⟩
    have hg0 := TGood.of6 hrl hm6 hrF
    have e35 := he4.trans he5
    have hp25 := e35.get hp23
    have hS5 := e35.l hS3
    clear hp4 hpb hpl hn4 hn5 hrF hp23 hS3
    walk_at "go"
    rename_i c6
    refine ⟨c6, m, 3, rfl, by omega, by decide, fun p6 G6 xs6 prs hn6 he6 hp6 hLP hprl hprg => ?_⟩
    have hp26 := he6.get hp25
    have hp56 := he6.get hp5
    have hLL6 := hLL.ex he6
    have hS6 := he6.l hS5
    have e06 := (e03.trans e35).trans he6
    clear hp25 hp5 hLL hS5 hn6
    walk_at "go"
    rename_i c7 p7 G7 bs7 hn7 he7 hp7 hbl7 hbx7 p8 G8 hn8 he8 hp8 c9 p9 G9 qs hn9 he9 hp9 hql hqx
    obtain ⟨b0, b1, hbs⟩ : ∃ b0 b1 : Int, (bs7.map fun x => 1 + x) = [b0, b1] := by
      match bs7, hbl7 with
      | [x, y], _ => exact ⟨1 + x, 1 + y, rfl⟩
    have hbb : (1 ≤ b0 ∧ b0 < 2 ^ 60) ∧ 1 ≤ b1 ∧ b1 < 2 ^ 60 := by
      have h1 : ∀ z ∈ (bs7.map fun x => 1 + x), 1 ≤ z ∧ z < 2 ^ 60 := fun z hz => by
        obtain ⟨x, hx, rfl⟩ := List.mem_map.1 hz
        have := hbx7 x hx
        omega
      rw [hbs] at h1
      exact ⟨h1 b0 (by simp), h1 b1 (by simp)⟩
    rw [hbs] at hp8
    have hqb : ∀ z ∈ qs, 0 ≤ z ∧ z < 2 ^ 60 := fun z hz => by have := hqx z hz; omega
    rw [Int.toNat_natCast] at hql
    have e69 := (he7.trans he8).trans he9
    have hp29 := e69.get hp26
    have hp59 := e69.get hp56
    have hLL9 := hLL6.ex e69
    have hp69 := e69.get hp6
    have hLP9 := hLP.ex e69
    have hp89 := he9.get hp8
    have e09 := e06.trans e69
    have hprs : ∀ q ∈ prs, PGood m q ∧ q.1 ≤ 25 ∧ q.2.length ≤ 48 := fun q hq => by have := hprg q hq; exact ⟨this.1, this.2.1, by omega⟩
    clear hp26 hp56 hLL6 hp6 hLP hp7 hp8 hn7 hn8 hn9 hbl7 hbx7 hbs hqx he7 he8 he9 hS6
    refine Z.w_cut (fun σ G => ∃ (pp pq : Addr) (ys : List V) (prs : List (Int × List Int)) (qs : List Int) (v13 v14 : Option V), σ = [some (.ref a), some (.ref p2), some (.int (m : Int)), some (.ref p5), some (.ref pp), some (.ref p8), some (.ref pq), none, none, none, none, none, none, v13, v14, none, none] ∧ Ex G9 G ∧ At G pp (.lst ys) ∧ LPt G ys prs ∧ prs.length = 3 ∧ (∀ q ∈ prs, PGood m q ∧ q.1 ≤ 25 ∧ q.2.length ≤ 48) ∧ At G pq (.lst (qs.map V.int)) ∧ qs.length = m ∧ ∀ z ∈ qs, 0 ≤ z ∧ z < 2 ^ 60) ?_ ?_
    · walk_at "go"
      refine Z.w_dec (fun h => ?_) (fun h => ?_)
      · walk_at "go"
        rename_i J1 S1 q1 K1 hm1 hk1 hq1
        have hq1l : (List.replicate (qs.map V.int).length (qs.getD 0 0)).length = m := by rw [List.length_replicate, List.length_map, hql]
        have hq1b : ∀ z ∈ List.replicate (qs.map V.int).length (qs.getD 0 0), 0 ≤ z ∧ z < 2 ^ 60 := fun z hz => by
          obtain ⟨h1, h2⟩ := List.mem_replicate.1 hz
          rw [List.length_map] at h1
          rw [h2, getD_get _ _ _ (show 0 < qs.length by omega)]
          exact hqb _ (List.getElem_mem _)
        generalize List.replicate (qs.map V.int).length (qs.getD 0 0) = qs1 at *
        have hp61 := hk1.get hp69
        have hLP1 := hLP9.ex hk1
        clear hp69 hLP9 hp9 hqb hm1 S1
        refine Z.w_dec (fun h1 => ?_) (fun h1 => ?_)
        · walk_at "go"
          rename_i J2 S2
          have hx6l := hLP1.1
          refine Z.cgX S2 (fun i acc H' => ∃ ps, LPt H' acc ps ∧ ps.length = i ∧ ∀ q ∈ ps, PGood m q ∧ q.1 ≤ 25 ∧ q.2.length ≤ 48) (fun H' e => ⟨[], LPt.nil, rfl, fun p hp => absurd hp (by simp)⟩) (fun i acc Ga Gb ⟨ps, h⟩ e => ⟨ps, h.1.ex e, h.2⟩) (fun H' e => e.l (sq_of hp61)) (by rw [hx6l, hprl]; decide) (fun Dl i y G acc hi ec cd hal hP hy => ?_) (fun L7 H7 xs hn7 he7 hp7 hxl hP7 => ?_) rfl
          · obtain ⟨ps, hP1, hP2, hP3⟩ := hP
            have hi2 : i < prs.length := by omega
            obtain ⟨pa, pt, g1, g2, g3⟩ := (hLP1.ex ec).2 i hi2
            rw [g1] at hy
            cases hy
            have hq := hprg (prs.getD i (0, [])) (by rw [getD_get _ _ _ hi2]; exact List.getElem_mem _)
            generalize prs.getD i (0, []) = pr at *
            obtain ⟨bu, ns2⟩ := pr
            obtain ⟨⟨hq1', hq2, hq3⟩, hq4, hq5⟩ := hq
            walk_at "go"
            refine ⟨pt, m, ns2, rfl, by omega, g3, hq5, hq2, hq3, fun pf Gf ms ef hpf hw hmb hml => ?_⟩
            walk_at "go"
            rename_i pa G3' hn3 he3 hp3'
            refine Z.elx cd hal (by rw [hal]; show i < 16777216; omega) (ef.trans he3) fun H9 hnl9 => ?_
            refine ⟨ps ++ [(bu, ms)], ((hP1.ex (ef.trans he3)).nl hnl9).snoc (hnl9.get (fun l z => by cases z) hp3') (nlRd hnl9 (he3.rd hpf)), by rw [List.length_append, hP2]; rfl, fun q hq => ?_⟩
            rcases List.mem_append.1 hq with h | h
            · exact hP3 q h
            · rw [List.mem_singleton.1 h]
              exact ⟨⟨hq1', hw, hmb⟩, hq4, hml⟩
          obtain ⟨ps, hL, hpl, hpp⟩ := hP7
          have hq17 := he7.get hq1
          walk_at "go"
          exact ⟨L7, q1, xs, ps, qs1, _, _, rfl, hk1.trans he7, hp7, hL, by omega, hpp, hq17, hq1l, hq1b⟩
        · walk_at "go"
          exact ⟨p6, q1, xs6, prs, qs1, _, _, rfl, hk1, hp61, hLP1, hprl, hprs, hq1, hq1l, hq1b⟩
      · walk_at "go"
        exact ⟨p6, p9, xs6, prs, qs, _, _, rfl, Ex.refl _, hp69, hLP9, hprl, hprs, hp9, hql, hqb⟩
    clear hp69 hLP9 hprl hprs hp9 hql hqb
    rintro σ G10 ⟨pp, pq, ys, prs, qs, v13, v14, rfl, e10, hpp, hLP, hprl, hprs, hpq, hql, hqb⟩
    clear hprg
    have hp2A := e10.get hp29
    have hp5A := e10.get hp59
    have hLLA := hLL9.ex e10
    have hp8A := e10.get hp89
    have e0A := e09.trans e10
    clear hp29 hp59 hLL9 hp89 e10
    refine Z.w_cut (fun σ G => ∃ (pq : Addr) (qs : List Int) (v13 : Option V), σ = [some (.ref a), some (.ref p2), some (.int (m : Int)), some (.ref p5), some (.ref pp), some (.ref p8), some (.ref pq), none, none, none, none, none, none, v13, v14, none, none] ∧ Ex G10 G ∧ At G pq (.lst (qs.map V.int)) ∧ qs.length = m ∧ ∀ z ∈ qs, 0 ≤ z ∧ z < 2 ^ 60) ?_ ?_
    · walk_at "go"
      refine Z.w_dec (fun h => ?_) (fun h => ?_)
      · walk_at "go"
        rename_i J1 S1
        refine Z.cgI S1 (fun i => qs.getD i 0 % 3) (fun H' e => e.l (sq_of hpq)) (by rw [List.length_map, hql]; show _ ≤ 16777216; omega) (fun Dl j y G3 hj ec c y => ?_) (fun q1 K1 hm1 hk1 hq1 => ?_) rfl
        · obtain ⟨hj2, rfl⟩ := get_int y
          walk_at "go"
        have hq1l : ((List.range (qs.map V.int).length).map fun i => qs.getD i 0 % 3).length = m := by rw [List.length_map, List.length_range, List.length_map, hql]
        have hq1b : ∀ z ∈ ((List.range (qs.map V.int).length).map fun i => qs.getD i 0 % 3), 0 ≤ z ∧ z < 2 ^ 60 := fun z hz => by
          obtain ⟨i, _, rfl⟩ := List.mem_map.1 hz
          have h1 := Int.emod_nonneg (qs.getD i 0) (show (3 : Int) ≠ 0 by decide)
          have h2 := Int.emod_lt_of_pos (qs.getD i 0) (show (0 : Int) < 3 by decide)
          omega
        generalize ((List.range (qs.map V.int).length).map fun i => qs.getD i 0 % 3) = qs1 at *
        walk_at "go"
        exact ⟨q1, qs1, _, rfl, hk1, hq1, hq1l, hq1b⟩
      · walk_at "go"
        exact ⟨pq, qs, _, rfl, Ex.refl _, hpq, hql, hqb⟩
    clear hpq hql hqb
    rintro σ G11 ⟨pq, qs, v13, rfl, e11, hpq, hql, hqb⟩
    have hp2B := e11.get hp2A
    have hp5B := e11.get hp5A
    have hLLB := hLLA.ex e11
    have hp8B := e11.get hp8A
    have hppB := e11.get hpp
    have hLPB := hLP.ex e11
    have e0B := e0A.trans e11
    clear hp2A hp5A hLLA hp8A hpp hLP e11
    walk_at "go"
    rename_i J12 S12
    have hxl := hLLB.1
    have hpw : (2 ^ m : Nat) ≤ 2 ^ 6 := Nat.pow_le_pow_right (by decide) hm6
    refine Z.cgX S12 (fun i acc H' => LLi H' acc (rows.take i)) (fun H' e => LLi.nil) (fun i acc G1 G2 h e => h.ex e) (fun H' e => e.l (sq_of hp5B)) (by show _ ≤ 16777216; omega) (fun Dl i y G acc hi ec cd hal hP hy => ?_) (fun L12 G12 xs12 hL12 he12 hp12 hxl12 hLL12 => ?_) rfl
    · obtain ⟨q1, hq1, hq2⟩ := hLLB.2 i (by omega)
      rw [hq1] at hy
      cases hy
      have hq3 := ec.get hq2
      walk_at "go"
      rename_i p9 G9' hn9 he9 hp9
      exact elxL (fun i => rows.take i) cd hal (by rw [hal]; show _ < 16777216; omega) he9 hP (take_snoc (by omega) []) hp9 (fun z => by subst z; exact cd.at_.ne hn9 rfl)
    rw [hxl, List.take_length] at hLL12
    have hb57 : ∀ r ∈ rows, ∀ z ∈ r, z.natAbs < 2 ^ 64 := fun r hr z hz => by have := (hrb r hr).2 z hz; omega
    have hb60 : ∀ r ∈ rows, ∀ z ∈ r, z.natAbs < 2 ^ 60 := fun r hr z hz => by have := (hrb r hr).2 z hz; omega
    walk_at "go"
    refine mkTd hp12 hLL12 (by omega) (by omega) hb57 (TErr.ok6 hg0) fun _ x13 G13 hn13 he13 hT13 => ?_
    have hrepT : Rep_Tabled K G13 x13 (m : Int) (tbSh m rows) 60 := hT13.rep hg0 (by omega) hb60 (by decide) (by decide)
    have hokT := ok_T hg0 hrb
    have e1213 := he12.trans he13
    have hp2C := e1213.get hp2B
    have hp5C := e1213.get hp5B
    have hLLC := hLLB.ex e1213
    have hp8C := e1213.get hp8B
    have hppC := e1213.get hppB
    have hLPC := hLPB.ex e1213
    have hpqC := e1213.get hpq
    have e0C := e0B.trans e1213
    clear hp2B hp5B hLLB hp8B hppB hLPB hpq hp12 hLL12 hT13 hn13 hL12 e1213 he12 he13
    walk_at "go"
    have hldg : LdGood m prs := ⟨by omega, fun z => by rw [z] at hprl; simp at hprl, fun j hj => by rw [getD_get _ _ _ hj]; exact (hprs _ (List.getElem_mem _)).1⟩
    have hlpg : ∀ p ∈ prs, PGood m p := fun p hp => (hprs p hp).1
    have hlpn : ∀ p ∈ prs, p.2.length ≤ 1000 := fun p hp => by have := (hprs p hp).2.2; omega
    have hlT := ldT_le (c := 25) (ps := prs) fun q hq => (hprs q hq).2.1
    have hlT1 := (ldT_pos hlpg).2 hldg.2.1
    have hlT2 : ldT prs ≤ 75 := by rw [hprl] at hlT; omega
    have hlT8 : ldT prs < 2 ^ 8 := by omega
    clear hlT
    refine Z.w_cut (fun σ G => ∃ (pr px : Addr) (xsr : List V) (rr : List (List Int)) (sh : List Int → List Rat) (b : Nat), σ = [some (.ref a), some (.ref p2), some (.int (m : Int)), some (.ref pr), some (.ref pp), some (.ref p8), some (.ref pq), some (.ref px), none, none, none, none, none, v13, v14, none, none] ∧ Ex G13 G ∧ At G pr (.lst xsr) ∧ LLi G xsr rr ∧ RowsOk sh m rr ∧ ((ds.getD 0 0 = 1 ∧ b = 8 ∧ Rep_Listed K G px (m : Int) sh b) ∨ (ds.getD 0 0 ≠ 1 ∧ b = 60 ∧ Rep_Tabled K G px (m : Int) sh b ∧ ∀ r ∈ rr, r.length = m + 1 ∧ ∀ z ∈ r, 0 ≤ z ∧ z < 2 ^ 57))) ?_ ?_
    · walk_at "go"
      refine Z.w_dec (fun h => ?_) (fun h => ?_)
      · walk_at "go"
        refine mkLd hppC hLPC (by omega) hlpn (LdErr.good hldg) fun _ x14 G14 hn14 he14 hx14 => ?_
        have hpp14 := he14.get hppC
        have hLP14 := hLPC.ex he14
        have hrep14 : Rep_Listed K G14 x14 (m : Int) (ldSh m prs) 8 := hx14.rep hldg (by omega) (by omega) hlpn hlT8 (by decide) (by decide)
        clear hppC hLPC hpqC hp2C hp5C hLLC hp8C hrepT
        walk_at "go"
        refine ⟨pp, m, ys, prs, rfl, hpp14, hLP14, hm6, by omega, hlpn, fun p15 G15 ys15 hn15 he15 hp15 hLL15 => ?_⟩
        walk_at "go"
        exact ⟨p15, x14, ys15, _, _, 8, rfl, he14.trans he15, hp15, hLL15, ok_L hlpg hlT1 (by omega) rfl, .inl ⟨h, rfl, hrep14.ex he15⟩⟩
      · walk_at "go"
        exact ⟨p5, x13, xs5, rows, _, 60, rfl, Ex.refl _, hp5C, hLLC, hokT, .inr ⟨h, rfl, hrepT, hrb⟩⟩
    clear hrb hb57 hb60 hp5C hLLC hrepT hokT hg0 hrl
    rintro σ G14 ⟨pr, px, xsr, rr, sh, b, rfl, e14, hpr, hLr, hRr, hcase⟩
    have hp2D := e14.get hp2C
    have hp8D := e14.get hp8C
    have hppD := e14.get hppC
    have hLPD := hLPC.ex e14
    have hpqD := e14.get hpqC
    have e0D := e0C.trans e14
    clear hp2C hp8C hppC hLPC hpqC e14
    have hmb : ∀ b : Nat, b ≤ 209 → m * (b + 66) + 66 ≤ 13400 := fun b hb => by
      have := Nat.mul_le_mul hm6 (show b + 66 ≤ 275 by omega)
      omega
    refine Z.w_cut (fun σ G => ∃ (pr px : Addr) (xsr : List V) (rr : List (List Int)) (sh : List Int → List Rat) (b : Nat), σ = [some (.ref a), some (.ref p2), some (.int (m : Int)), some (.ref pr), some (.ref pp), some (.ref p8), some (.ref pq), some (.ref px), none, none, none, none, none, v13, v14, none, none] ∧ Ex G14 G ∧ At G pr (.lst xsr) ∧ LLi G xsr rr ∧ RowsOk sh m rr ∧ RAll K G px (m : Int) sh b ∧ b ≤ 209) ?_ ?_
    · walk_at "go"
      refine Z.w_dec (fun h => ?_) (fun h => ?_)
      · rcases hcase with ⟨h1, _⟩ | ⟨h1, rfl, hT, hrb⟩
        · omega
        walk_at "go"
        rename_i t1 K1 hm1 hk1 ht1
        have hT1 := hT.ex hk1
        have hpp1 := hk1.get hppD
        have hLP1 := hLPD.ex hk1
        have hb1 := hk1.get hp8D
        have hr1 := hk1.get hpr
        have hLr1 := hLr.ex hk1
        clear hT hppD hLPD hp8D hpr hLr hm1
        walk_at "go"
        refine mkLd hpp1 hLP1 (by omega) hlpn (LdErr.good hldg) fun _ x2 K2 hn2 hk2 hx2 => ?_
        have ht12 := hk2.get ht1
        have hT2 := hT1.ex hk2
        have hpp2 := hk2.get hpp1
        have hLP2 := hLP1.ex hk2
        have hb2' := hk2.get hb1
        have hr2 := hk2.get hr1
        have hLr2 := hLr1.ex hk2
        have hrep2 : Rep_Listed K K2 x2 (m : Int) (ldSh m prs) 8 := hx2.rep hldg (by omega) (by omega) hlpn hlT8 (by decide) (by decide)
        clear ht1 hT1 hpp1 hLP1 hb1 hr1 hLr1 hn2
        walk_at "go"
        rename_i t3 K3 hm3 hk3 ht3
        have hT3 := (hT2.ex hk3).part
        have hL3 := (hrep2.ex hk3).part
        have ht13 := hk3.get ht12
        have hpp3 := hk3.get hpp2
        have hLP3 := hLP2.ex hk3
        have hb3' := hk3.get hb2'
        have hr3 := hk3.get hr2
        have hLr3 := hLr2.ex hk3
        clear ht12 hT2 hpp2 hLP2 hb2' hr2 hLr2 hm3 hrep2
        have hLm : MPt K K3 [.ref t1, .ref t3] [(b0, (m : Int), px), (b1, (m : Int), x2)] := (MPt.nil.snoc (p := (b0, (m : Int), px)) ht13 (hT3.rany T)).snoc (p := (b1, (m : Int), x2)) ht3 (hL3.rany T)
        refine mkMx hLm (show (2 : Nat) ≤ 1000 by decide) (MxErr.good (mx2g hbb.1.1 hbb.2.1)) fun _ z K4 hn4 hk4 hz4 => ?_
        have hz4' : MxR K K4 z (m : Int) [(b0, (m : Int), px), (b1, (m : Int), x2)] := hz4
        have hrep4 := mx2 hz4' (hT3.ex hk4) (hL3.ex hk4) (by omega) (by omega) ⟨hbb.1.1, by omega⟩ ⟨hbb.2.1, by omega⟩ (by decide)
        have hpp4 := hk4.get hpp3
        have hLP4 := hLP3.ex hk4
        have hb4' := hk4.get hb3'
        have hr4 := hk4.get hr3
        have hLr4 := hLr3.ex hk4
        have e4 := ((hk1.trans hk2).trans hk3).trans hk4
        clear ht13 hT3 hL3 hpp3 hLP3 hb3' hr3 hLr3 hn4 hLm hz4 hz4' ht3
        walk_at "go"
        refine ⟨pp, m, ys, prs, rfl, hpp4, hLP4, hm6, by omega, hlpn, fun p5 K5 ys5 hn5 hk5 hp5 hLL5 => ?_⟩
        have hr5 := hk5.get hr4
        have hLr5 := hLr4.ex hk5
        have hb5' := hk5.get hb4'
        have hrep5 := hrep4.ex hk5
        have hokL := ok_L (rows := (List.range (2 ^ m)).map (ldRow m prs)) hlpg hlT1 (by omega) rfl
        have hLb : ∀ r ∈ (List.range (2 ^ m)).map (ldRow m prs), r.length = m + 1 ∧ ∀ z ∈ r, 0 ≤ z ∧ z < 2 ^ 57 := fun r hr => by
          obtain ⟨i, hi, rfl⟩ := List.mem_map.1 hr
          refine ⟨by unfold ldRow; simp, fun z hz => ?_⟩
          rcases List.mem_cons.1 hz with h | h
          · rw [h]; omega
          · obtain ⟨t, _, rfl⟩ := List.mem_map.1 h
            have := ldS_bd (lot := (lotOf i m).map fun k : Nat => (k : Int)) (t := (t : Int)) hlpg
            omega
        have hlen : ((List.range (2 ^ m)).map (ldRow m prs)).length = 2 ^ m := by simp
        generalize (List.range (2 ^ m)).map (ldRow m prs) = lr at *
        clear hpp4 hLP4 hb4' hr4 hLr4 hrep4
        walk_at "go"
        refine ⟨pr, p5, p8, m, xsr, ys5, rr, lr, b0, b1, rfl, hr5, hLr5, hp5, hLL5, sq_of hb5', by rw [hRr.1, hlen], by rw [hRr.1]; exact hpw, hm6, fun r hr => ⟨(hrb r hr).1, fun z hz => by have := (hrb r hr).2 z hz; omega⟩, fun r hr => ⟨(hLb r hr).1, fun z hz => by have := (hLb r hr).2 z hz; omega⟩, by omega, by omega, fun p6 K6 zs hn6 hk6 hp6 hLL6 => ?_⟩
        walk_at "go"
        exact ⟨p6, z, zs, _, _, _, rfl, (e4.trans hk5).trans hk6, hp6, hLL6, ok_M hRr hokL ⟨hbb.1.1, hbb.1.2⟩ ⟨hbb.2.1, hbb.2.2⟩ (fun r hr z hz => by have := (hrb r hr).2 z hz; omega) (fun r hr z hz => by have := (hLb r hr).2 z hz; omega) rfl, .inr (.inr (.inl (hrep5.ex hk6))), by decide⟩
      · walk_at "go"
        rcases hcase with ⟨h1, rfl, hT⟩ | ⟨h1, rfl, hT, hrb⟩
        · exact ⟨pr, px, xsr, rr, sh, 8, rfl, Ex.refl _, hpr, hLr, hRr, .inr (.inl hT), by decide⟩
        · exact ⟨pr, px, xsr, rr, sh, 60, rfl, Ex.refl _, hpr, hLr, hRr, .inl hT, by decide⟩
    clear hpr hLr hRr hcase
    rintro σ G15 ⟨pr, px, xsr, rr, sh, b, rfl, e15, hpr, hLr, hRr, hX, hb209⟩
    have hp2E := e15.get hp2D
    have hpqE := e15.get hpqD
    have e0E := e0D.trans e15
    clear hp2D hp8D hppD hLPD hpqD e15 hlT8 hlT1 hlT2 hldg hlpg hlpn
    walk_at "go"
    have hqb64 : ∀ z ∈ qs, z.natAbs < 2 ^ 64 := fun z hz => by have := hqb z hz; omega
    have hok : PricesOk (m : Int) qs := ⟨by omega, fun z hz => (hqb z hz).1⟩
    have hokr : PricesOk (m : Int) qs.reverse := ⟨by rw [List.length_reverse]; omega, fun z hz => (hqb z (List.mem_reverse.1 hz)).1⟩
    refine u_isAll hX fx2 fx9 fx5 fx7 fx10 fx6 fx8 ?_
    walk_at "run"
    rename_i q1 I1 hm1 he1 hq1
    refine ⟨px, pr, q1, m, sh, b, xsr, rr, qs.reverse, rfl, hX.ex he1, he1.get hpr, hLr.ex he1, sq_of hq1, hmb b hb209, fun z hz => hqb64 z (List.mem_reverse.1 hz), hokr, hm6, hRr, fun I2 he2 => ?_⟩
    have e152 := he1.trans he2
    have hp22 := e152.get hp2E
    have hpq2 := e152.get hpqE
    have hpr2 := e152.get hpr
    have hLr2 := hLr.ex e152
    have hX2 := hX.ex e152
    have e0F := e0E.trans e152
    clear hq1 hm1 hp2E hpqE hpr hLr hX he1 he2 e152
    walk_at "run"
    refine mk_Rule___init__ (fun h => absurd h (by omega)) fun _ xr dx I3 hn3 he3 hx3 => ?_
    have hrr3 : Rep_Rule K I3 xr (m : Int) (fun _ => List.replicate (m : Int).toNat 0) 1 := ⟨⟨dx, hx3⟩, by omega, by omega, rfl, by decide, by decide⟩
    have hp23 := he3.get hp22
    have hpq3 := he3.get hpq2
    have hpr3 := he3.get hpr2
    have hLr3 := hLr2.ex he3
    have hX3 := hX2.ex he3
    have e0G := e0F.trans he3
    have hrl := hRr.1
    have hxrl := hLr3.1
    clear hp22 hpq2 hpr2 hLr2 hX2 hx3 hn3
    walk_at "run"
    rename_i J4 S4
    refine Z.cgX S4 (fun i acc H' => LLi H' acc (List.replicate i (1 :: List.replicate m 0))) (fun H' e => LLi.nil) (fun i acc G1 G2 h e => h.ex e) (fun H' e => e.l (sq_of hpr3)) (by show _ ≤ 16777216; omega) (fun Dl i y G acc hi ec cd hal hP hy => ?_) (fun L5 I5 xs5' hL5 he5 hp5' hxl5 hLL5 => ?_) rfl
    · walk_at "go"
      rename_i r1 G1 hn1 he1 hr1 J5 S5 r2 G2 hn2 he2 hr2 r3 G3 hn3 he3 hr3
      refine elxL (ns := 1 :: List.replicate m 0) (fun i => List.replicate i (1 :: List.replicate m 0)) cd hal (by rw [hal]; show _ < 16777216; omega) ((he1.trans he2).trans he3) hP List.replicate_succ' (hr3.l (by rw [Int.toNat_natCast]; rfl)) (fun z => by subst z; exact ((he1.trans he2).get cd.at_).ne hn3 rfl)
    rw [hxrl, hrl] at hLL5
    have hokR := ok_R (m := m) rfl
    have hp25 := he5.get hp23
    have hpq5 := he5.get hpq3
    have hpr5 := he5.get hpr3
    have hLr5 := hLr3.ex he5
    have hX5 := hX3.ex he5
    have hrr5 := hrr3.ex he5
    have e0H := e0G.trans he5
    clear hp23 hpq3 hpr3 hLr3 hX3 hrr3
    walk_at "run"
    refine ⟨xr, L5, pq, m, _, 1, xs5', _, qs, rfl, .inr (.inr (.inr hrr5)), hp5', hLL5, sq_of hpq5, hmb 1 (by decide), hqb64, hok, hm6, hokR, fun I6 he6 => ?_⟩
    have hp26 := he6.get hp25
    have hpq6 := he6.get hpq5
    have hpr6 := he6.get hpr5
    have hLr6 := hLr5.ex he6
    have hX6 := hX5.ex he6
    have e0I := e0H.trans he6
    clear hp25 hpq5 hpr5 hLr5 hX5 hrr5 hp5' hLL5 hokR
    walk_at "run"
    rename_i u1 I7 hm7 he7 hu1 u2 I8 hm8 he8 hu2
    have e68 := he7.trans he8
    have hmb' : ∀ b : Nat, b ≤ 209 → (m : Int).toNat * (b + 66) + 66 ≤ 13400 := fun b hb => by rw [Int.toNat_natCast]; exact hmb b hb
    refine ⟨px, u2, m, sh, b, qs ++ [0], _, rfl, hX6.ex e68, sq_of (hu2.l (by rw [List.map_append]; rfl)), hmb' b hb209, fun z hz => by
      rcases List.mem_append.1 hz with h | h
      · exact hqb64 z h
      · rw [List.mem_singleton.1 h]; decide, .num (by omega) .non (-1) (.len (by rw [List.length_append, List.length_singleton]; push_cast; omega)), fun u3 I9 he9 hu3 => ?_⟩
    have e69' := e68.trans he9
    have hp29' := e69'.get hp26
    have hpq9 := e69'.get hpq6
    have hpr9 := e69'.get hpr6
    have hLr9 := hLr6.ex e69'
    have hX9 := hX6.ex e69'
    have e0J := e0I.trans e69'
    clear hp26 hpq6 hpr6 hLr6 hX6 hu1 hu2 hm7 hm8 he7 he8 e68 e69'
    walk_at "run"
    rename_i u4 I10 hm10 he10 hu4
    refine ⟨u3, u4, _, rfl, st_of (he10.get hu3), st_of hu4, show 3 ≤ 3 by decide, flt_num .non (.inl rfl), fun I11 he11 => ?_⟩
    have e11' := he10.trans he11
    have hp2K := e11'.get hp29'
    have hpqK := e11'.get hpq9
    have hprK := e11'.get hpr9
    have hLrK := hLr9.ex e11'
    have hXK := hX9.ex e11'
    have e0K := e0J.trans e11'
    clear hp29' hpq9 hpr9 hLr9 hX9 hu3 hu4 hm10 he10 he11 e11'
    walk_at "run"
    refine Z.w_cut (fun σ G => ∃ (v8 v9 : Option V), σ = [some (.ref a), some (.ref p2), some (.int (m : Int)), some (.ref pr), some (.ref pp), some (.ref p8), some (.ref pq), some (.ref px), v8, v9, none, none, none, v13, v14, none, none] ∧ Ex I11 G) ?_ ?_
    · walk_at "go"
      refine Z.w_dec (fun h => ?_) (fun h => ?_)
      · have hpl0 := Int.emod_nonneg (ds.getD 5 0) (show (m : Int) ≠ 0 by omega)
        have hpl1 := Int.emod_lt_of_pos (ds.getD 5 0) (show (0 : Int) < (m : Int) by omega)
        walk_at "go"
        rename_i u5 I12 hm12 he12 hu5 I13 hu6 hnl13 ho13 hke13
        generalize ds.getD 5 0 % (m : Int) = pl at *
        obtain ⟨pn, rfl⟩ := Int.eq_ofNat_of_zero_le hpl0
        rw [Int.toNat_natCast] at hu6
        have hset : (qs.set pn (-1 - ds.getD 6 0)).length = m := by rw [List.length_set, hql]
        have hsb : ∀ z ∈ qs.set pn (-1 - ds.getD 6 0), z.natAbs < 2 ^ 64 := fun z hz => by
          rcases List.mem_or_eq_of_mem_set hz with h | h
          · exact hqb64 z h
          · rw [h]; omega
        have hres : PRes (m : Int) (qs.set pn (-1 - ds.getD 6 0)) (.int (pn : Nat)) (pn : Nat) := .neg (by omega) pn (by omega) (by
          rw [getD_get _ _ _ (by omega), List.getElem_set_self]; omega) fun j hj => by
            rw [getD_get _ _ _ (by omega), List.getElem_set_ne (by omega)]
            exact (hqb _ (List.getElem_mem _)).1
        generalize qs.set pn (-1 - ds.getD 6 0) = bs at *
        refine ⟨px, u5, m, sh, b, bs, _, rfl, hXK.ex hke13, sq_of hu6, hmb' b hb209, hsb, .num (by omega) _ _ hres, fun u7 I14 he14 hu7 => ?_⟩
        clear hu5 hu6 hp2K hpqK hprK hLrK hXK hm12
        walk_at "run"
        rename_i u8 I15 hm15 he15 hu8
        refine ⟨u7, u8, _, rfl, st_of (he15.get hu7), st_of hu8, show 3 ≤ 3 by decide, flt_num _ (.inr (.inr ⟨_, rfl⟩)), fun I16 he16 => ?_⟩
        walk_at "run"
        exact ⟨_, _, rfl, ((hke13.trans he14).trans he15).trans he16⟩
      · walk_at "go"
        exact ⟨_, _, rfl, Ex.refl _⟩
    rintro σ G20 ⟨v8, v9, rfl, e20⟩
    have hp2L := e20.get hp2K
    have hpqL := e20.get hpqK
    have hprL := e20.get hprK
    have hLrL := hLrK.ex e20
    have hXL := hXK.ex e20
    have e0L := e0K.trans e20
    clear hp2K hpqK hprK hLrK hXK e20
    walk_at "run"
    obtain ⟨d4, hd4⟩ := Int.eq_ofNat_of_zero_le hb4.1
    obtain ⟨wd, hwd⟩ := Int.eq_ofNat_of_zero_le (show 0 ≤ 7 + ds.getD 3 0 by omega)
    rw [hd4, hwd]
    refine ⟨d4, wd, rfl, by omega, by omega, fun bx G21 sh2 b2 he21 hB hb2' => ?_⟩
    have hp2M := he21.get hp2L
    have hpqM := he21.get hpqL
    have hprM := he21.get hprL
    have hLrM := hLrL.ex he21
    have hXM := hXL.ex he21
    have e0M := e0L.trans he21
    clear hp2L hpqL hprL hLrL hXL
    walk_at "run"
    rename_i J1 S1 l1 M1 hn1 he1 hl1 l2 M2 hn2 he2 hl2 J2 S2 l3 M3 hn3 he3 hl3 l4 M4 hn4 he4 hl4 J5 S5
    have e4' := ((he1.trans he2).trans he3).trans he4
    have hshow : ∀ (i : Nat) (y : V), ([V.ref l1, V.ref l2, V.ref l3] : List V)[i]? = some y → ∃ l bs, y = V.ref l ∧ At M4 l (.lst ((bs : List Int).map V.int)) ∧ ∀ z ∈ bs, z.natAbs < 2 ^ 64 := fun i y hy => by
      match i, hy with
      | 0, hy => cases hy; exact ⟨l1, _, rfl, he4.get (he3.get (he2.get hl1)), fun z hz => by rw [List.eq_of_mem_replicate hz]; decide⟩
      | 1, hy => cases hy; exact ⟨l2, [], rfl, he4.get (he3.get hl2), fun z hz => by simp at hz⟩
      | 2, hy => cases hy; exact ⟨l3, _, rfl, he4.get hl3, fun z hz => by rw [List.eq_of_mem_replicate hz]; decide⟩
      | n + 3, hy => simp at hy
    have hB4 := hB.ex e4'
    have hpqN := e4'.get hpqM
    have hprN := e4'.get hprM
    have hLrN := hLrM.ex e4'
    have hXN := hXM.ex e4'
    clear hl1 hl2 hl3 hn1 hn2 hn3 hn4 he1 he2 he3 he4 hB hp2M hpqM hprM hLrM hXM S1 S2
    refine Z.fg S5 (fun i σ G => ∃ (v12 : Option V), σ = [some (.ref a), some (.ref p2), some (.int (m : Int)), some (.ref pr), some (.ref pp), some (.ref p8), some (.ref pq), some (.ref px), v8, v9, some (.int (wd : Int)), some (.ref bx), v12, v13, v14, none, none] ∧ Ex M4 G) ⟨none, rfl, Ex.refl _⟩ (fun i σ' G _ ⟨_, _, e⟩ => e.l (sq_of hl4)) ?_ ?_
    · rintro i y σ' G G2 hi ⟨v12, rfl, eG⟩ e2 hy
      obtain ⟨l, bs, rfl, hl, hbs⟩ := hshow i y hy
      have eG2 := eG.trans e2
      have hBG := hB4.ex eG2
      have hlG := eG2.get hl
      clear hB4 hpqN hprN hLrN hXN hl4 S5
      walk_at "go"
      refine ⟨bx, l, wd, sh2, b2, bs, _, rfl, hBG, sq_of hlG, by rw [Int.toNat_natCast]; exact hb2', hbs, .many (by omega), fun u7 U7 he7 hu7 => ?_⟩
      walk_at "run"
      rename_i u8 U8 hm8 he8 hu8
      refine ⟨u7, u8, _, rfl, st_of (he8.get hu7), st_of hu8, show 3 ≤ 3 by decide, flt_many _ _, fun U9 he9 => ?_⟩
      walk_at "run"
      exact ⟨_, rfl, ((eG2.trans he7).trans he8).trans he9⟩
    rintro σ' G ⟨v12, rfl, eG⟩
    have hpqO := eG.get hpqN
    have hprO := eG.get hprN
    have hLrO := hLrN.ex eG
    have hXO := hXN.ex eG
    clear hpqN hprN hLrN hXN hl4 S5 hB4
    walk_at "go"
    refine ⟨px, pr, pq, m, sh, b, xsr, rr, qs, rfl, hXO, hprO, hLrO, sq_of hpqO, hmb b hb209, hqb64, hok, hm6, hRr, fun I2 he2 => ?_⟩
    exact k _

end R
theorem PySem.Challenge.cw_dearestshelf_k27_best_of_all_lots_holds : PySem.Challenge.rw_dearestshelf_k27_best_of_all_lots.Holds := by
  exact R.fin fun T => R.ok_law T
