import PyProof.Rows.All
import Wide.All
import OpenK.AllK
import Wide.FinOn
import KE.KStateDown
import Lean
import HandS.ForMost
import HandS.Flow
import HandS.IsInst
import HandS.DictTup
import HandS.Codes
import HandS.Defaults
import HandS.Head0
import HandS.Head1
import HandS.Head2
import HandS.HeadEnd
import HandS.HeadHook1
import HandS.HeadHook2
import HandS.HeadHook3
import HandS.Conv
import HandS.Property
import KE.SortKeyHeap
import KE.KMinKey
import HandS.Lambda
import HandS.Sort
import HandS.HeadHook4
import HandS.HeadWalk
import HandS.Property
import HandS.Style
import HandS.MakeKwOnly
import HandS.Wide
import HandS.More
import HandS.DictComp
import HandS.DeepEq
import KE.KExcSuper
import HandS.ExcOwn
import HandS.CallSlots
import HandS.ExcIs
import HandS.ExcField
import HandS.HeadWalk
import HandS.WordsExc
import KE.DataFind
import HandS.Deep
import HandS.GenList
import HandS.Flow
import PyProof.LongRange
import HandS.SortInts
import HandS.SetFor
import PySem.Challenge.RW_livingroll_k27_doubts_due
set_option Elab.async false
set_option linter.all false
set_option maxRecDepth 100000
set_option maxHeartbeats 4000000
/-! own layer: the head by facts, one lemma for each reading, a step tactic -/
namespace RD
open PySem PySem.Spec PyProof.Rows L2 He

/-! ### frames: what stays -/
def Kp (ps : List Addr) (H H' : Hp) : Prop := ∀ b o, H b = some o → b ∉ ps → H' b = some o
theorem Kp.refl {ps : List Addr} {H : Hp} : Kp ps H H := fun _ _ h _ => h
theorem Kp.trans {ps : List Addr} {H H1 H2 : Hp} (a : Kp ps H H1) (b : Kp ps H1 H2) : Kp ps H H2 := fun c o h n => b c o (a c o h n) n
theorem Kp.mono {ps qs : List Addr} {H H' : Hp} (a : Kp ps H H') (h : ∀ p, p ∈ ps → p ∈ qs) : Kp qs H H' := fun c o e n => a c o e fun m => n (h c m)
theorem Kp.of0 {qs : List Addr} {H H' : Hp} (a : Kp [] H H') : Kp qs H H' := fun c o e _ => a c o e (by simp)
theorem Kp.new {ps : List Addr} {H : Hp} {p : Addr} {o : HO} (h : H p = none) : Kp ps H (upd H p o) := fun b u e _ => by
  rw [upd_ne (ne_of_none e h)]
  exact e
theorem Kp.wr {ps : List Addr} {H H' : Hp} {p : Addr} {o : HO} (a : Kp ps H H') (h : p ∈ ps) : Kp ps H (upd H' p o) := fun b u e n => by
  have hb : b ≠ p := by
    intro z
    subst z
    exact n h
  rw [upd_ne hb]
  exact a b u e n
theorem Kp.nw {ps : List Addr} {H H' : Hp} {p : Addr} {o : HO} (a : Kp ps H H') (h : H' p = none) : Kp ps H (upd H' p o) := a.trans (Kp.new h)
/-- an object made behind H is written -/
theorem Kp.mine {ps : List Addr} {H H' : Hp} {p : Addr} {o : HO} (a : Kp ps H H') (h : H p = none) : Kp ps H (upd H' p o) := fun b u e n => by
  rw [upd_ne (ne_of_none e h)]
  exact a b u e n
theorem Kp.g0 {H H' : Hp} {b : Addr} {o : HO} (a : Kp [] H H') (e : H b = some o) : H' b = some o := a b o e (by simp)
theorem Kp.g1 {p : Addr} {H H' : Hp} {b : Addr} {o : HO} (a : Kp [p] H H') (n : b ≠ p) (e : H b = some o) : H' b = some o := a b o e (by simp [n])
theorem Kp.g2 {p q : Addr} {H H' : Hp} {b : Addr} {o : HO} (a : Kp [p, q] H H') (n : b ≠ p) (m : b ≠ q) (e : H b = some o) : H' b = some o := a b o e (by simp [n, m])
theorem Kp.g3 {p q r : Addr} {H H' : Hp} {b : Addr} {o : HO} (a : Kp [p, q, r] H H') (n : b ≠ p) (m : b ≠ q) (l : b ≠ r) (e : H b = some o) : H' b = some o := a b o e (by simp [n, m, l])
theorem Kp.back {ps : List Addr} {H H' : Hp} (a : Kp ps H H') {l : Addr} (h : H' l = none) (n : l ∉ ps) : H l = none := by
  cases q : H l with
  | none => rfl
  | some o =>
    rw [a l o q n] at h
    cases h
theorem Kp.via {ps qs : List Addr} {H H' H2 : Hp} (a : Kp ps H H') (b : Kp qs H' H2) (n : ∀ q, q ∈ qs → q ∈ ps ∨ H q = none) : Kp ps H H2 := fun c o e m => b c o (a c o e m) fun z => by
  rcases n c z with z | z
  · exact m z
  · rw [z] at e
    cases e
theorem Kp.via1 {ps : List Addr} {p : Addr} {H H' H2 : Hp} (a : Kp ps H H') (b : Kp [p] H' H2) (n : H p = none) : Kp ps H H2 := a.via b fun q hq => by
  rw [List.mem_singleton.mp hq]
  exact .inr n
theorem rd_kp {ps : List Addr} {H H' : Hp} {b : Addr} {u : HO} (a : Kp ps H H') (n : b ∉ ps) (h : Rd H b u) : Rd H' b u := by
  rcases h with h | ⟨o, h⟩
  · exact .inl (a _ _ h n)
  · exact .inr ⟨o, a _ _ h n⟩
theorem sl_kp {K : PySem.W.Frag} {ps : List Addr} {H H' : Hp} {b : Addr} {xs : List V} (a : Kp ps H H') (n : b ∉ ps) (h : SqL K H b xs) : SqL K H' b xs := by
  rcases h with h | h
  · exact .inl (rd_kp a n h)
  · exact .inr h
theorem st_kp {K : PySem.W.Frag} {ps : List Addr} {H H' : Hp} {b : Addr} {xs : List V} (a : Kp ps H H') (n : b ∉ ps) (h : SqT K H b xs) : SqT K H' b xs := by
  rcases h with h | h
  · exact .inl (rd_kp a n h)
  · exact .inr h
theorem sl_upd {K : PySem.W.Frag} {H : Hp} {b p : Addr} {o : HO} {xs : List V} (n : b ≠ p) (h : SqL K H b xs) : SqL K (upd H p o) b xs :=
  sl_kp (ps := [p]) (fun c u e m => by rw [upd_ne (by simpa using m)]; exact e) (by simpa using n) h
theorem st_upd {K : PySem.W.Frag} {H : Hp} {b p : Addr} {o : HO} {xs : List V} (n : b ≠ p) (h : SqT K H b xs) : SqT K (upd H p o) b xs :=
  st_kp (ps := [p]) (fun c u e m => by rw [upd_ne (by simpa using m)]; exact e) (by simpa using n) h
theorem hu_ne {H : Hp} {a b : Addr} {o u : HO} (n : b ≠ a) (e : H b = some u) : upd H a o b = some u := by
  rw [upd_ne n]
  exact e
theorem upd_is {H : Hp} {a : Addr} {o o' : HO} (e : o = o') : upd H a o a = some o' := by
  rw [e]
  exact upd_same
theorem ne_fresh {H : Hp} {a b : Addr} {o : HO} (h : upd H a o b = none) : a ≠ b := ne_of_none upd_same h
theorem hn_ne {H : Hp} {a b : Addr} {o : HO} (n : b ≠ a) (e : H b = none) : upd H a o b = none := by
  rw [upd_ne n]
  exact e

/-! ### readings, one lemma each -/
section
variable {K : PySem.W.Frag} {σ : L2.St} {H : Hp} {nx bk ct : L2.St → Hp → Prop} {rt : VK} {t u : TS} {te ta tb tc : TE} {tt tu : TT} {ar : TA} {Q : VK} {QB : Bool → Hp → Prop} {QA : List V → Hp → Prop} {v x y : V} {i j : Int}
abbrev En (nx : L2.St → Hp → Prop) (rt : VK) (bk ct : L2.St → Hp → Prop) : Ends := ⟨nx, rt, bk, ct⟩
theorem rd_seq (h : t ⟨u ⟨nx, rt, bk, ct⟩, rt, bk, ct⟩ σ H) : tSeq t u ⟨nx, rt, bk, ct⟩ σ H := h
theorem rd_next (h : nx σ H) : tNext ⟨nx, rt, bk, ct⟩ σ H := h
theorem rd_brk (h : bk σ H) : tBreak ⟨nx, rt, bk, ct⟩ σ H := h
theorem rd_cont (h : ct σ H) : tCont ⟨nx, rt, bk, ct⟩ σ H := h
theorem rd_asg {g : TG} (h : te σ H fun x H1 => g x σ H1 nx) : tAsg te g ⟨nx, rt, bk, ct⟩ σ H := h
theorem rd_ret (h : te σ H rt) : tRet te ⟨nx, rt, bk, ct⟩ σ H := h
theorem rd_retN (h : rt .non H) : tRetN ⟨nx, rt, bk, ct⟩ σ H := h
theorem rd_drop (h : te σ H fun _ H1 => nx σ H1) : tDrop te ⟨nx, rt, bk, ct⟩ σ H := h
theorem rd_ifS {D : Ends} (h : tt σ H fun b H1 => if b = true then t D σ H1 else u D σ H1) : tIfS tt t u D σ H := h
theorem rd_cut (M : L2.St → Hp → Prop) (h : t ⟨M, rt, bk, ct⟩ σ H) (k : ∀ σ' H', M σ' H' → u ⟨nx, rt, bk, ct⟩ σ' H') : C8.tCut t u ⟨nx, rt, bk, ct⟩ σ H := ⟨M, h, k⟩
theorem rd_gname {n : Nat} {Q : L2.St → Hp → Prop} (h : Q (σ.set n (some v)) H) : gName n v σ H Q := h
theorem rd_gsub {to ti : TE} {s : TSet} {Q : L2.St → Hp → Prop} (h : to σ H fun o H1 => ti σ H1 fun i H2 => s o i v H2 fun H3 => Q σ H3) : gSub to ti s v σ H Q := h
theorem rd_gtup {n : Nat} {g : TGs} {a : Addr} {xs : List V} {Q : L2.St → Hp → Prop} (h : SqT K H a xs) (e : xs.length = n) (q : g xs σ H Q) : gTup K n g (.ref a) σ H Q := ⟨a, xs, rfl, h, e, q⟩
theorem rd_gcons {g : TG} {gs : TGs} {r : List V} {Q : L2.St → Hp → Prop} (q : g v σ H fun σ' H' => gs r σ' H' Q) : gCons g gs (v :: r) σ H Q := ⟨v, r, rfl, q⟩
theorem rd_gnil {Q : L2.St → Hp → Prop} (q : Q σ H) : gNil [] σ H Q := ⟨rfl, q⟩
theorem rd_setL {p : Addr} {xs : List V} {k : Int} {j : Nat} {Q : Hp → Prop} (hp : H p = some (.lst xs)) (hj : ixN xs.length k = some j) (q : Q (upd H p (.lst (xs.set j v)))) : rSetL (.ref p) (.int k) v H Q := ⟨p, xs, k, j, rfl, rfl, hp, hj, q⟩
theorem rd_var {n : Nat} (e : σ[n]? = some (some v)) (h : Q v H) : tVar n σ H Q := ⟨v, e, h⟩
theorem rd_c (h : Q v H) : tC v σ H Q := h
theorem rd_op {r : R2} (h : ta σ H fun x H1 => tb σ H1 fun y H2 => r x y H2 Q) : tOp r ta tb σ H Q := h
theorem rd_un {r : V → Hp → VK → Prop} (h : ta σ H fun x H1 => r x H1 Q) : tUn r ta σ H Q := h
theorem rd_I0 {g : Int → Int → V} (h : Q (g i j) H) : rI0 g (.int i) (.int j) H Q := ⟨i, j, rfl, rfl, h⟩
theorem rd_I {C : Int → Int → Prop} {g : Int → Int → V} (c : C i j) (h : Q (g i j) H) : rI C g (.int i) (.int j) H Q := ⟨i, j, rfl, rfl, c, h⟩
theorem rd_U {g : Int → V} (h : Q (g i) H) : rU g (.int i) H Q := ⟨i, rfl, h⟩
theorem rd_eqI (h : Q (.bl (decide (i = j))) H) : rEq (.int i) (.int j) H Q := ⟨rfl, by
  rw [show decide (V.int i = V.int j) = decide (i = j) from decide_eq_decide.mpr ⟨fun e => V.int.inj e, fun e => congrArg V.int e⟩]
  exact h⟩
theorem rd_neI (h : Q (.bl (!decide (i = j))) H) : rNe (.int i) (.int j) H Q := ⟨rfl, by
  rw [show decide (V.int i = V.int j) = decide (i = j) from decide_eq_decide.mpr ⟨fun e => V.int.inj e, fun e => congrArg V.int e⟩]
  exact h⟩
theorem rd_eqS {a b : Str} (h : Q (.bl (decide (a = b))) H) : rEq (.str a) (.str b) H Q := ⟨rfl, by
  rw [show decide (V.str a = V.str b) = decide (a = b) from decide_eq_decide.mpr ⟨fun e => V.str.inj e, fun e => congrArg V.str e⟩]
  exact h⟩
theorem rd_neS {a b : Str} (h : Q (.bl (!decide (a = b))) H) : rNe (.str a) (.str b) H Q := ⟨rfl, by
  rw [show decide (V.str a = V.str b) = decide (a = b) from decide_eq_decide.mpr ⟨fun e => V.str.inj e, fun e => congrArg V.str e⟩]
  exact h⟩
theorem rd_eqB {a b : Bool} (h : Q (.bl (decide (a = b))) H) : rEq (.bl a) (.bl b) H Q := ⟨rfl, by
  rw [show decide (V.bl a = V.bl b) = decide (a = b) from decide_eq_decide.mpr ⟨fun e => V.bl.inj e, fun e => congrArg V.bl e⟩]
  exact h⟩
theorem rd_neB {a b : Bool} (h : Q (.bl (!decide (a = b))) H) : rNe (.bl a) (.bl b) H Q := ⟨rfl, by
  rw [show decide (V.bl a = V.bl b) = decide (a = b) from decide_eq_decide.mpr ⟨fun e => V.bl.inj e, fun e => congrArg V.bl e⟩]
  exact h⟩
theorem rd_eq (s : scal x y = true) (h : Q (.bl (decide (x = y))) H) : rEq x y H Q := ⟨s, h⟩
theorem rd_ne (s : scal x y = true) (h : Q (.bl (!decide (x = y))) H) : rNe x y H Q := ⟨s, h⟩
theorem rd_test (h : te σ H fun x H1 => ∃ k, x = .bl k ∧ QB k H1) : tTest te σ H QB := h
theorem rd_tB (h : te σ H fun x H1 => ∃ k, x = .bl k ∧ QB k H1) : tB te σ H QB := h
theorem rd_exb {b : Bool} {P : Bool → Prop} (h : P b) : ∃ k, V.bl b = V.bl k ∧ P k := ⟨b, rfl, h⟩
theorem rd_and (h : tt σ H fun c H1 => if c = true then tu σ H1 QB else QB false H1) : tAnd tt tu σ H QB := h
theorem rd_or (h : tt σ H fun c H1 => if c = true then QB true H1 else tu σ H1 QB) : tOr tt tu σ H QB := h
theorem rd_not (h : tt σ H fun c H1 => QB (!c) H1) : tNot tt σ H QB := h
theorem rd_andV (h : ta σ H fun x H1 => ∃ c, x = .bl c ∧ if c = true then tb σ H1 Q else Q (.bl false) H1) : tAndV ta tb σ H Q := h
theorem rd_orV (h : ta σ H fun x H1 => ∃ c, x = .bl c ∧ if c = true then Q (.bl true) H1 else tb σ H1 Q) : tOrV ta tb σ H Q := h
theorem rd_notV (h : ta σ H fun x H1 => ∃ c, x = .bl c ∧ Q (.bl (!c)) H1) : tNotV ta σ H Q := h
theorem rd_ifE (h : tt σ H fun c H1 => if c = true then ta σ H1 Q else tb σ H1 Q) : tIf tt ta tb σ H Q := h
theorem rd_isN (h : ta σ H fun x H1 => Q (.bl (decide (x = .non))) H1) : tIsN ta σ H Q := h
theorem rd_notN (h : ta σ H fun x H1 => Q (.bl (!decide (x = .non))) H1) : tNotN ta σ H Q := h
theorem rd_tru {b : Bool} {P : Bool → Prop} (e : TruV K x H b) (h : P b) : ∃ k, TruV K x H k ∧ P k := ⟨b, e, h⟩
theorem rd_CB {r : List V → Hp → VK → Prop} (h : ar σ H fun vs H1 => r vs H1 Q) : tCB r ar σ H Q := h
theorem rd_nil (h : QA [] H) : tNil σ H QA := h
theorem rd_cons {tr : TA} (h : ta σ H fun x H1 => tr σ H1 fun xs H2 => QA (x :: xs) H2) : tCons ta tr σ H QA := h
theorem rd_call {sp : Sp} {E : XK} (h : ar σ H fun vs H1 => sp vs H1 Q E) : tCall sp [] E ar σ H Q := by
  unfold tCall
  have e : (fun vs H1 => sp (vs ++ []) H1 Q E) = fun vs H1 => sp vs H1 Q E := by
    funext vs H1
    rw [List.append_nil]
  rw [e]
  exact h
theorem rd_make {C : Addr} {sp : Sp} {dvs : List V} {E : XK} (h : ar σ H fun vs H1 => ∀ x dx, H1 x = none → H1 dx = none → dx ≠ x → sp (.ref x :: (vs ++ dvs)) (upd (upd H1 dx (.own x)) x (.ins C dx [])) (fun v H2 => v = .non ∧ Q (.ref x) H2) E) : tMake C sp dvs E ar σ H Q := h
theorem rd_callD {sp : Sp} {dvs : List V} {E : XK} (h : ar σ H fun vs H1 => sp (vs ++ dvs) H1 Q E) : tCall sp dvs E ar σ H Q := h
theorem rd_tup (h : ar σ H fun xs H1 => xs.length ≤ sizeLine ∧ ∀ p, H1 p = none → Q (.ref p) (upd H1 p (.tup xs))) : tTup ar σ H Q := h
theorem rd_lst (h : ar σ H fun xs H1 => xs.length ≤ sizeLine ∧ ∀ p, H1 p = none → Q (.ref p) (upd H1 p (.lst xs))) : tLst ar σ H Q := h
theorem rd_ixL {p : Addr} {xs : List V} (h : SqL K H p xs) (a : atI xs i = some v) (q : Q v H) : rIxL K (.ref p) (.int i) H Q := ⟨p, xs, i, v, rfl, rfl, h, a, q⟩
theorem rd_ixT {p : Addr} {xs : List V} (h : SqT K H p xs) (a : atI xs i = some v) (q : Q v H) : rIxT K (.ref p) (.int i) H Q := ⟨p, xs, i, v, rfl, rfl, h, a, q⟩
theorem rd_fld {f : Str} {a C dx : Addr} {fs : List (Str × V)} {P : V → Hp → Prop} (h : H a = some (.ins C dx fs)) (c : Cls K C) (n : NoAttr K C f) (l : fs.lookup f = some v) (q : Q v H) :
    ∃ a' C' dx' fs' v', V.ref a = V.ref a' ∧ H a' = some (.ins C' dx' fs') ∧ Cls K C' ∧ NoAttr K C' f ∧ fs'.lookup f = some v' ∧ Q v' H := ⟨a, C, dx, fs, v, rfl, h, c, n, l, q⟩
theorem rd_meth {C : Addr} {m : Str} {sp : Sp} {E : XK} (h : ta σ H fun x H1 => ∃ a dx fs, x = .ref a ∧ H1 a = some (.ins C dx fs) ∧ fs.lookup m = none ∧ ar σ H1 fun vs H2 => sp (x :: vs) H2 Q E) : tMeth C m sp [] E ta ar σ H Q := by
  unfold tMeth
  have e : (fun (x : V) (H1 : Hp) => ∃ a dx fs, x = V.ref a ∧ H1 a = some (.ins C dx fs) ∧ fs.lookup m = none ∧ ar σ H1 fun vs H2 => sp (x :: (vs ++ [])) H2 Q E) =
      fun (x : V) (H1 : Hp) => ∃ a dx fs, x = V.ref a ∧ H1 a = some (.ins C dx fs) ∧ fs.lookup m = none ∧ ar σ H1 fun vs H2 => sp (x :: vs) H2 Q E := by
    funext x H1
    simp only [List.append_nil]
  rw [e]
  exact h
theorem rd_methX {C a dx : Addr} {m : Str} {fs : List (Str × V)} {R : Prop} (h : H a = some (.ins C dx fs)) (l : fs.lookup m = none) (q : R) : ∃ a' dx' fs', V.ref a = V.ref a' ∧ H a' = some (.ins C dx' fs') ∧ fs'.lookup m = none ∧ R := ⟨a, dx, fs, rfl, h, l, q⟩
theorem rd_bm {T : String} {r : V → List V → Hp → VK → Prop} (h : ta σ H fun x H1 => tyV K T x H1 ∧ ar σ H1 fun xs H2 => r x xs H2 Q) : tBM K T r ta ar σ H Q := h
theorem rd_bm0 {T : String} {r : V → List V → Hp → VK → Prop} (h : ta σ H fun x H1 => tyV K T x H1 ∧ r x [] H1 Q) : tBM0 K T r ta σ H Q := h
theorem ty_l {p : Addr} {xs : List V} {B : Prop} (h : SqL K H p xs) (q : B) : tyV K "list" (.ref p) H ∧ B := ⟨.inl ⟨rfl, xs, h⟩, q⟩
theorem rd_append {p : Addr} {xs : List V} (h : H p = some (.lst xs)) (l : xs.length < sizeLine) (q : Q .non (upd H p (.lst (xs ++ [v])))) : rAppend (.ref p) [v] H Q := ⟨p, xs, v, rfl, rfl, h, l, q⟩
/-! #### built-ins under names -/
def rInt1 : List V → Hp → VK → Prop := fun xs H Q => (∃ i, xs = [.int i] ∧ Q (.int i) H) ∨ ∃ k, xs = [.bl k] ∧ Q (.int (if k then 1 else 0)) H
theorem call_int1' {X : Cx} : CallR X (.type "int") rInt1 := call_int1
theorem rd_int1 (h : Q (.int i) H) : rInt1 [.int i] H Q := .inl ⟨i, rfl, h⟩
def rAbs : List V → Hp → VK → Prop := fun xs H Q => ∃ i, xs = [.int i] ∧ Q (.int (if i < 0 then -i else i)) H
theorem call_abs' {X : Cx} : CallR X (.builtin "abs") rAbs := call_abs
theorem rd_abs (h : Q (.int (i.natAbs : Int)) H) : rAbs [.int i] H Q := ⟨i, rfl, by
  rw [show (if i < 0 then -i else i) = (i.natAbs : Int) from by split <;> omega]
  exact h⟩
def rLenS (K : PySem.W.Frag) : List V → Hp → VK → Prop := fun xs H Q => ∃ p ys, xs = [.ref p] ∧ (SqL K H p ys ∨ SqT K H p ys) ∧ Q (.int ys.length) H
theorem call_lenS {X : Cx} : CallR X (.builtin "len") (rLenS X.K) := call_len_seq
theorem rd_lenL {p : Addr} {ys : List V} (h : SqL K H p ys) (q : Q (.int ys.length) H) : rLenS K [.ref p] H Q := ⟨p, ys, rfl, .inl h, q⟩
theorem rd_lenI {p : Addr} {ns : List Int} (h : SqL K H p (ns.map V.int)) (q : Q (.int ns.length) H) : rLenS K [.ref p] H Q := ⟨p, ns.map V.int, rfl, .inl h, by
  rw [List.length_map]
  exact q⟩
theorem rd_lenT {p : Addr} {ys : List V} (h : SqT K H p ys) (q : Q (.int ys.length) H) : rLenS K [.ref p] H Q := ⟨p, ys, rfl, .inr h, q⟩
def rMin2 : List V → Hp → VK → Prop := fun xs H Q => ∃ i j, xs = [.int i, .int j] ∧ Q (.int (if j < i then j else i)) H
theorem call_min2' {X : Cx} (hc : X.calm = true) : CallR X (.builtin "min") rMin2 := call_min2 hc
theorem rd_min2 (h : Q (.int (min i j)) H) : rMin2 [.int i, .int j] H Q := ⟨i, j, rfl, by
  rw [show (if j < i then j else i) = min i j from by split <;> omega]
  exact h⟩
def rMax2 : List V → Hp → VK → Prop := fun xs H Q => ∃ i j, xs = [.int i, .int j] ∧ Q (.int (if j > i then j else i)) H
theorem call_max2' {X : Cx} (hc : X.calm = true) : CallR X (.builtin "max") rMax2 := call_max2 hc
theorem rd_max2 (h : Q (.int (max i j)) H) : rMax2 [.int i, .int j] H Q := ⟨i, j, rfl, by
  rw [show (if j > i then j else i) = max i j from by split <;> omega]
  exact h⟩
def rListOf (K : PySem.W.Frag) : List V → Hp → VK → Prop := fun xs H Q => ∃ p ys, xs = [.ref p] ∧ (SqL K H p ys ∨ SqT K H p ys) ∧ ∀ l, H l = none → Q (.ref l) (upd H l (.lst ys))
theorem call_listOf {X : Cx} : CallR X (.type "list") (rListOf X.K) := call_list_of
theorem rd_listL {p : Addr} {ys : List V} (h : SqL K H p ys) (q : ∀ l, H l = none → Q (.ref l) (upd H l (.lst ys))) : rListOf K [.ref p] H Q := ⟨p, ys, rfl, .inl h, q⟩
/-- isinstance against one built-in class -/
theorem rd_isi {t : String} {c : String} {b : Bool} (ty : TyX K H x (.type t)) (e : kitB t c = some b) (h : Q (.bl b) H) : rIsi K [x, .ty c] H Q := ⟨x, .ty c, .type t, .type c, b, rfl, .ty c, ty, kit_ty e, h⟩

/-! ### loops -/
/-- what a for over the walk J asks -/
def ForG (J : It) (g : TG) (t : TS) (D : Ends) (σ : L2.St) (H : Hp) : Prop :=
  ∃ W : Nat → Nat → L2.St → Hp → Prop, (∃ m, W 0 m σ H) ∧ ∀ i m σ H, W i m σ H →
      (J.stop i H ∧ D.nx σ H) ∨ (J.go i H ∧ ∃ N : L2.St → Hp → Prop, (∀ σ' H', N σ' H' → ∃ m', m' < m ∧ W (i + 1) m' σ' H') ∧ ∀ x H', J.yld i H x H' → g x σ H' fun σ2 H2 => t { D with nx := N, ct := N, bk := D.nx } σ2 H2)
theorem rd_for {wi : TI} {g : TG} {D : Ends} (h : wi σ H fun J H1 => ForG J g t D σ H1) : tFor wi g t D σ H := h
theorem rd_iList {R : It → Hp → Prop} (h : te σ H fun x H1 => ∃ a, x = V.ref a ∧ (∃ xs, SqL K H1 a xs) ∧ R (Itl K a) H1) : iList K te σ H R := h
theorem rd_iTup {R : It → Hp → Prop} (h : te σ H fun x H1 => ∃ a, x = V.ref a ∧ (∃ xs, SqT K H1 a xs) ∧ R (Itt K a) H1) : iTup K te σ H R := h
theorem rd_iListX {p : Addr} {xs : List V} {R : Addr → Prop} (h : SqL K H p xs) (q : R p) : ∃ a, V.ref p = V.ref a ∧ (∃ xs, SqL K H a xs) ∧ R a := ⟨p, rfl, ⟨xs, h⟩, q⟩
theorem rd_iTupX {p : Addr} {xs : List V} {R : Addr → Prop} (h : SqT K H p xs) (q : R p) : ∃ a, V.ref p = V.ref a ∧ (∃ xs, SqT K H a xs) ∧ R a := ⟨p, rfl, ⟨xs, h⟩, q⟩
theorem rd_iRng1 {R : It → Hp → Prop} (h : ar σ H fun vs H1 => ∃ j : Int, vs = [.int j] ∧ -(2 ^ 62) ≤ j ∧ j < 2 ^ 62 ∧ R (Itr 0 j.toNat) H1) : iRng1 ar σ H R := h
theorem rd_iRng1X {R : Int → Prop} (h1 : -(2 ^ 62) ≤ j) (h2 : j < 2 ^ 62) (q : R j) : ∃ k : Int, [V.int j] = [V.int k] ∧ -(2 ^ 62) ≤ k ∧ k < 2 ^ 62 ∧ R k := ⟨j, rfl, h1, h2, q⟩
theorem rd_iRng2 {R : It → Hp → Prop} (h : ar σ H fun vs H1 => ∃ i j : Int, vs = [.int i, .int j] ∧ (-(2 ^ 62) ≤ i ∧ i < 2 ^ 62 ∧ -(2 ^ 62) ≤ j ∧ j < 2 ^ 62) ∧ R (Itr i (j - i).toNat) H1) : iRng2 ar σ H R := h
theorem rd_iRng2X {R : Int → Int → Prop} (h1 : -(2 ^ 62) ≤ i ∧ i < 2 ^ 62 ∧ -(2 ^ 62) ≤ j ∧ j < 2 ^ 62) (q : R i j) : ∃ k l : Int, [V.int i, V.int j] = [V.int k, V.int l] ∧ (-(2 ^ 62) ≤ k ∧ k < 2 ^ 62 ∧ -(2 ^ 62) ≤ l ∧ l < 2 ^ 62) ∧ R k l := ⟨i, j, rfl, h1, q⟩
/-- over a list that stays -/
theorem forL_by {a : Addr} {g : TG} (xs : List V) (Pv : Nat → L2.St → Hp → Prop) (h0 : Pv 0 σ H) (hl : ∀ i σ H, i ≤ xs.length → Pv i σ H → SqL K H a xs)
    (hs : ∀ i x σ H, xs[i]? = some x → Pv i σ H → g x σ H fun σ2 H2 => t ⟨Pv (i + 1), rt, nx, Pv (i + 1)⟩ σ2 H2) (hd : ∀ σ H, Pv xs.length σ H → nx σ H) : ForG (Itl K a) g t ⟨nx, rt, bk, ct⟩ σ H := for_list (K := K) Pv h0 hl hs hd
theorem forT_by {a : Addr} {g : TG} (xs : List V) (Pv : Nat → L2.St → Hp → Prop) (h0 : Pv 0 σ H) (hl : ∀ i σ H, i ≤ xs.length → Pv i σ H → SqT K H a xs)
    (hs : ∀ i x σ H, xs[i]? = some x → Pv i σ H → g x σ H fun σ2 H2 => t ⟨Pv (i + 1), rt, nx, Pv (i + 1)⟩ σ2 H2) (hd : ∀ σ H, Pv xs.length σ H → nx σ H) : ForG (Itt K a) g t ⟨nx, rt, bk, ct⟩ σ H := for_tup (K := K) Pv h0 hl hs hd
theorem forR_by {lo : Int} {n : Nat} {g : TG} (Pv : Nat → L2.St → Hp → Prop) (h0 : Pv 0 σ H)
    (hs : ∀ (i : Nat) σ H, i < n → Pv i σ H → g (.int (lo + i)) σ H fun σ2 H2 => t ⟨Pv (i + 1), rt, nx, Pv (i + 1)⟩ σ2 H2) (hd : ∀ σ H, Pv n σ H → nx σ H) : ForG (Itr lo n) g t ⟨nx, rt, bk, ct⟩ σ H := for_range Pv h0 hs hd
/-- the items one by one -/
theorem forL_ints {a : Addr} {g : TG} (ns : List Int) (Pv : Nat → L2.St → Hp → Prop) (h0 : Pv 0 σ H) (hl : ∀ i σ H, i ≤ ns.length → Pv i σ H → SqL K H a (ns.map V.int))
    (hs : ∀ (i : Nat) (h : i < ns.length) σ H, Pv i σ H → g (.int ns[i]) σ H fun σ2 H2 => t ⟨Pv (i + 1), rt, nx, Pv (i + 1)⟩ σ2 H2) (hd : ∀ σ H, Pv ns.length σ H → nx σ H) : ForG (Itl K a) g t ⟨nx, rt, bk, ct⟩ σ H :=
  forL_by (ns.map V.int) Pv h0 (fun i σ H hi p => hl i σ H (by simpa using hi) p) (fun i x σ H e p => by
    rw [List.getElem?_map] at e
    obtain ⟨z, hz, rfl⟩ := Option.map_eq_some_iff.mp e
    obtain ⟨h, rfl⟩ := List.getElem?_eq_some_iff.mp hz
    exact hs i h σ H p) (fun σ H p => hd σ H (by simpa using p))
theorem rd_while (Pv : L2.St → Hp → Prop) (μ : L2.St → Hp → Nat) (h0 : Pv σ H)
    (hs : ∀ σ H, Pv σ H → tt σ H fun b H1 => if b = true then t ⟨fun σ' H' => Pv σ' H' ∧ μ σ' H' < μ σ H, rt, nx, fun σ' H' => Pv σ' H' ∧ μ σ' H' < μ σ H⟩ σ H1 else nx σ H1)
    (mono : ∀ σ H Q Q', (∀ b H1, Q b H1 → Q' b H1) → tt σ H Q → tt σ H Q') : tWhile tt t ⟨nx, rt, bk, ct⟩ σ H := while_by Pv μ h0 hs mono
/-- a list comprehension -/
def LcG (J : It) (g : TG) (tt : TT) (te : TE) (vs : List Nat) (σ : L2.St) (D : Addr) (Qd : Hp → Prop) (H1 : Hp) : Prop :=
  ∃ W : Nat → Nat → Hp → Prop, (∃ m, W 0 m (upd H1 D (.lst []))) ∧ ∀ i m H, W i m H →
      (J.stop i H ∧ Qd H) ∨ (J.go i H ∧ ∃ Nx : Hp → Prop, (∀ H', Nx H' → ∃ m', m' < m ∧ W (i + 1) m' H') ∧ ∀ x H', J.yld i H x H' → g x (wipe σ vs) H' fun σ2 H2 => wipe σ2 vs = wipe σ vs ∧ tt σ2 H2 fun b H3 =>
        if b = true then te σ2 H3 fun y H4 => ∃ acc, H4 D = some (.lst acc) ∧ acc.length < sizeLine ∧ Nx (upd H4 D (.lst (acc ++ [y]))) else Nx H3)
theorem rd_lc {wi : TI} {g : TG} {vs : List Nat} (h : wi σ H fun J H1 => ∀ D, H1 D = none → LcG J g tt te vs σ D (fun H => Q (.ref D) H) H1) : tLc wi g tt te vs σ H Q := h
theorem lcL_by {a D : Addr} {g : TG} {vs : List Nat} {Qd : Hp → Prop} (xs : List V) (Pv : Nat → Hp → Prop) (h0 : Pv 0 (upd H D (.lst []))) (hl : ∀ i H, i ≤ xs.length → Pv i H → SqL K H a xs)
    (hs : ∀ i x H, xs[i]? = some x → Pv i H → g x (wipe σ vs) H fun σ2 H2 => wipe σ2 vs = wipe σ vs ∧ tt σ2 H2 fun b H3 =>
      if b = true then te σ2 H3 fun y H4 => ∃ acc, H4 D = some (.lst acc) ∧ acc.length < sizeLine ∧ Pv (i + 1) (upd H4 D (.lst (acc ++ [y]))) else Pv (i + 1) H3) (hd : ∀ H, Pv xs.length H → Qd H) : LcG (Itl K a) g tt te vs σ D Qd H := lc_list (K := K) Pv h0 hl hs hd
theorem lcR_by {lo : Int} {n : Nat} {D : Addr} {g : TG} {vs : List Nat} {Qd : Hp → Prop} (Pv : Nat → Hp → Prop) (h0 : Pv 0 (upd H D (.lst [])))
    (hs : ∀ (i : Nat) H, i < n → Pv i H → g (.int (lo + i)) (wipe σ vs) H fun σ2 H2 => wipe σ2 vs = wipe σ vs ∧ tt σ2 H2 fun b H3 =>
      if b = true then te σ2 H3 fun y H4 => ∃ acc, H4 D = some (.lst acc) ∧ acc.length < sizeLine ∧ Pv (i + 1) (upd H4 D (.lst (acc ++ [y]))) else Pv (i + 1) H3) (hd : ∀ H, Pv n H → Qd H) : LcG (Itr lo n) g tt te vs σ D Qd H := lc_range Pv h0 hs hd
theorem lcL_ints {a D : Addr} {g : TG} {vs : List Nat} {Qd : Hp → Prop} (ns : List Int) (Pv : Nat → Hp → Prop) (h0 : Pv 0 (upd H D (.lst []))) (hl : ∀ i H, i ≤ ns.length → Pv i H → SqL K H a (ns.map V.int))
    (hs : ∀ (i : Nat) (h : i < ns.length) H, Pv i H → g (.int ns[i]) (wipe σ vs) H fun σ2 H2 => wipe σ2 vs = wipe σ vs ∧ tt σ2 H2 fun b H3 =>
      if b = true then te σ2 H3 fun y H4 => ∃ acc, H4 D = some (.lst acc) ∧ acc.length < sizeLine ∧ Pv (i + 1) (upd H4 D (.lst (acc ++ [y]))) else Pv (i + 1) H3) (hd : ∀ H, Pv ns.length H → Qd H) : LcG (Itl K a) g tt te vs σ D Qd H :=
  lcL_by (ns.map V.int) Pv h0 (fun i H hi p => hl i H (by simpa using hi) p) (fun i x H e p => by
    rw [List.getElem?_map] at e
    obtain ⟨z, hz, rfl⟩ := Option.map_eq_some_iff.mp e
    obtain ⟨h, rfl⟩ := List.getElem?_eq_some_iff.mp hz
    exact hs i h H p) (fun H p => hd H (by simpa using p))
theorem rd_yes {QB : Bool → Hp → Prop} (h : QB true H) : tYes σ H QB := h
end

/-! ### callables in one piece -/
section
variable {P : Program} {w : World} {K : PySem.W.Frag} {mg : Str → Option Value} {base : Heap} {CX : CXT} {X : Cx} {k j : Nat} {C : Addr} {x m : Str} {sp : Sp} {dvs : List V} {E : XK} {p pos apos : Pos} {e o : Expr} {es : List Expr} {ta : TE} {t : TA}
structure CalX (P : Program) (w : World) (K : PySem.W.Frag) (mg : Str → Option Value) (base : Heap) (CX : CXT) (k : Nat) (x : Str) (sp : Sp) (dvs : List V) : Prop where
  ex : ∃ (f : Addr) (fd : FuncData) (ps : List Str) (ds : List Value), FnOk P w K mg base CX k f fd ps sp ∧ mg x = some (.ref f) ∧ PySem.W.keepIn K (.ref f) = true ∧ Binds K fd ps ds ∧ Vals dvs ds
structure MetX (P : Program) (w : World) (K : PySem.W.Frag) (mg : Str → Option Value) (base : Heap) (CX : CXT) (k : Nat) (C : Addr) (m : Str) (sp : Sp) (dvs : List V) : Prop where
  ex : ∃ (f : Addr) (fd : FuncData) (ps : List Str) (ds : List Value), Cls K C ∧ Meth K C m f ∧ FnOk P w K mg base CX k f fd ps sp ∧ Binds K fd ps ds ∧ Vals dvs ds
structure MakX (P : Program) (w : World) (K : PySem.W.Frag) (mg : Str → Option Value) (base : Heap) (CX : CXT) (k : Nat) (x : Str) (C : Addr) (sp : Sp) (dvs : List V) : Prop where
  ex : ∃ (f : Addr) (fd : FuncData) (ps : List Str) (ds : List Value), Mk K C f ∧ FnOk P w K mg base CX k f fd ps sp ∧ mg x = some (.ref C) ∧ Binds K fd ps ds ∧ Vals dvs ds
theorem pe_cal (c : CalX X.prog X.w X.K X.mg X.base CX k x sp dvs) (hr : Room j X.A) (hk : k ≤ j) (hg : Gl X x) (hx : Passes CX X E) (ha : PA X (e :: es) t)
    (hdb : (x == ("__debug__" : Str)) = false := by decide) (he : starEach (e :: es) X.env = (false, eval e X.env) :: starEach es X.env := by rfl) (hpl : (backTo pos (starEach es X.env)).any (·.1) = false := by rfl) :
    PE X (.Call (.Name x p) (e :: es) [] pos) (tCall sp dvs E t) := by
  obtain ⟨f, fd, ps, ds, F, hm, kp, b, d⟩ := c.ex
  exact pe_call F (hr.mono hk) hg hm kp b d hx ha hdb he hpl
theorem pe_mak (c : MakX X.prog X.w X.K X.mg X.base CX k x C sp dvs) (hr : Room j X.A) (hk : k + 1 ≤ j) (hg : Gl X x) (hx : Passes CX X E) (ha : PA X (e :: es) t)
    (hdb : (x == ("__debug__" : Str)) = false := by decide) (he : starEach (e :: es) X.env = (false, eval e X.env) :: starEach es X.env := by rfl) (hpl : (backTo pos (starEach es X.env)).any (·.1) = false := by rfl) :
    PE X (.Call (.Name x p) (e :: es) [] pos) (tMake C sp dvs E t) := by
  obtain ⟨f, fd, ps, ds, M, F, hm, b, d⟩ := c.ex
  exact pe_make M F (hr.mono hk) hg hm b d hx ha hdb he hpl
theorem pe_met {pl : Sem Bool} (c : MetX X.prog X.w X.K X.mg X.base CX k C m sp dvs) (hr : Room j X.A) (hk : k ≤ j) (hx : Passes CX X E) (he : PE X o ta) (ha : PA X (e :: es) t)
    (hst : starEach (e :: es) X.env = (false, eval e X.env) :: starEach es X.env := by rfl) (hpl : (backTo pos (starEach es X.env)).any (·.1) = false := by rfl)
    (ht : eval (.Call (.Attribute o m apos) (e :: es) [] pos) X.env = (do
      let ov ← eval o X.env
      standAt apos.atName
      let (f, first) ← holding [ov] (getMethod ov m pl)
      callWith pos f first (backTo pos (starEach (e :: es) X.env)) (backToKw pos (keywordEach [] X.env))) := by rfl) :
    PE X (.Call (.Attribute o m apos) (e :: es) [] pos) (tMeth C m sp dvs E ta t) := by
  obtain ⟨f, fd, ps, ds, cl, me, F, b, d⟩ := c.ex
  exact pe_meth he cl me F (hr.mono hk) b d hx ha hst hpl ht
end

/-! ### a def's promise by its body -/
section
variable {P : Program} {w : World} {K : PySem.W.Frag} {mg : Str → Option Value} {base : Heap} {CX : CXT} {x qual : Str} {params : Arguments} {body : List Stmt} {scope : Scope} {dvs : List V} {kws : List (Str × V)} {f : Addr} {fd : FuncData}
theorem fnD {N ps : List Str} {k : Nat} {sp : Sp} (F : FunD K x qual params body scope dvs kws f fd) (S : FnScope N ps scope) (len : ∀ vs H Q E, sp vs H Q E → vs.length = ps.length)
    (hbody : ∀ (cdv : Value) (A : Around) (outer : List Env) (s : Shared) (H : Hp) (vs : List V) (Q : VK) (E : XK), Room k (A.deeper (envOfC qual scope s.heap.objs.size f cdv)) → sp vs H Q E →
      ∃ t, PSs (cxOf CX0 P w K mg base N qual scope f cdv A outer s H E).nox body t ∧ t ⟨fun _ H' => Q .non H', Q, fun _ _ => False, fun _ _ => False⟩ (start N vs) H) : FnOk P w K mg base CX0 (k + 1) f fd ps sp :=
  F.ok S len fun cdv A outer s H vs Q E hr h => let ⟨t, h1, h2⟩ := hbody cdv A outer s H vs Q E hr h; ⟨t, h1.nox, h2⟩
end

/-! ### the head: facts of a top, one Bool more -/
abbrev AlM : Type := AlD × Bool
def obsM (n : Nat) (fa : List Fa) (fn : List DefD) (ex : PySem.W.Frag → Bool) (g : Addr → Option Obj) : AlM := (obsD fa fn (frG g (asD g n)), ex (frG g (asD g n)))
def hookM (n : Nat) (fa : List Fa) (fn : List DefD) (ex : PySem.W.Frag → Bool) : PySem.W.Hook where
  α := AlM
  obs := fun s => obsM n fa fn ex s.heap.get?
  val := fun _ => (valD fn, true)
  says := fun _ h => ∃ K : PySem.W.Frag, K.In h ∧ SaysD fa fn K ∧ ex K = true
  of := fun _ _ e => ⟨_, frG_in, congrArg (fun z : AlM => z.1) e, congrArg (fun z : AlM => z.2) e⟩
  keeps := fun _ _ _ ⟨K, hK, c, d⟩ k => ⟨K, PySem.W.Frag.In.keeps hK k, c, d⟩
theorem obsM_eq {n : Nat} {fa : List Fa} {fn : List DefD} {ex : PySem.W.Frag → Bool} {g : Addr → Option Obj} {s : Shared} (h : ∀ a, g a = s.heap.get? a) : obsM n fa fn ex g = (hookM n fa fn ex).obs s := by
  have e : g = s.heap.get? := funext h
  rw [e] <;> rfl
/-- what the defs lean on -/
structure Ctx (fa : List Fa) (fn : List DefD) (ex : PySem.W.Frag → Bool) (K : PySem.W.Frag) (mg : Str → Option Value) : Prop where
  says : SaysD fa fn K
  ex : ex K = true
  at_ : ∃ h, K.In h ∧ h.Ns mainGlobals mg
section
variable {fa : List Fa} {fn : List DefD} {ex : PySem.W.Frag → Bool} {K : PySem.W.Frag} {mg : Str → Option Value}
theorem Ctx.glo (T : Ctx fa fn ex K mg) (i : Nat) {x : Str} (h : fa[i]? = some (.glo x) := by rfl) : mg x = some (.ref (ga K x)) := let ⟨_, X, G⟩ := T.at_; glo_ok X G (T.says.fact i h)
theorem Ctx.fre (T : Ctx fa fn ex K mg) (i : Nat) {x : Str} (h : fa[i]? = some (.free x) := by rfl) : mg x = none := let ⟨_, X, G⟩ := T.at_; free_ok X G (T.says.fact i h)
theorem Ctx.cls (T : Ctx fa fn ex K mg) (i : Nat) {x : Str} (h : fa[i]? = some (.cls x) := by rfl) : Cls K (ga K x) := cls_ok (T.says.fact i h)
theorem Ctx.noat (T : Ctx fa fn ex K mg) (i : Nat) {x f : Str} (h : fa[i]? = some (.noat x f) := by rfl) : NoAttr K (ga K x) f := noat_ok (T.says.fact i h)
theorem Ctx.meth (T : Ctx fa fn ex K mg) (i : Nat) {x m : Str} (h : fa[i]? = some (.meth x m) := by rfl) : Meth K (ga K x) m (ma K (ga K x) m) := meth_ok (T.says.fact i h)
theorem Ctx.mkr (T : Ctx fa fn ex K mg) (i : Nat) {x : Str} (h : fa[i]? = some (.mkr x) := by rfl) : Mk K (ga K x) (ma K (ga K x) "__init__") := mkr_ok (T.says.fact i h)
theorem Ctx.int (T : Ctx fa fn ex K mg) (i : Nat) {x : Str} {z : Int} (h : fa[i]? = some (.int x z) := by rfl) : ∃ t, mg x = some (.int z t) := let ⟨_, X, G⟩ := T.at_; int_ok X G (T.says.fact i h)
theorem Ctx.str (T : Ctx fa fn ex K mg) (i : Nat) {x z : Str} (h : fa[i]? = some (.str x z) := by rfl) : ∃ t, mg x = some (.str z t) := let ⟨_, X, G⟩ := T.at_; str_ok X G (T.says.fact i h)
end
theorem pe_globC {X : Cx} {x : Str} {v : V} {pos : Pos} (hg : Gl X x) (h : ∃ u, X.mg x = some u ∧ RelV v u) (hd : (x == ("__debug__" : Str)) = false := by decide) : PE X (.Name x pos) (tC v) := let ⟨_, hm, r⟩ := h; pe_glob hg hm r hd

/-! ### small facts -/
theorem ite_d {p A B : Prop} [Decidable p] (h1 : p → A) (h2 : ¬ p → B) : if decide p = true then A else B := by
  by_cases h : p
  · rw [decide_eq_true h, if_pos rfl]
    exact h1 h
  · rw [decide_eq_false h, if_neg Bool.false_ne_true]
    exact h2 h
theorem ite_n {p A B : Prop} [Decidable p] (h1 : ¬ p → A) (h2 : p → B) : if (!decide p) = true then A else B := by
  by_cases h : p
  · rw [decide_eq_true h]
    exact iteF (h2 h)
  · rw [decide_eq_false h]
    exact iteT (h1 h)
theorem ite_b {b : Bool} {A B : Prop} (h1 : b = true → A) (h2 : b = false → B) : if b = true then A else B := by
  cases b
  · exact iteF (h2 rfl)
  · exact iteT (h1 rfl)
theorem ite_t {b : Bool} {A B : Prop} (e : b = true) (h : A) : if b = true then A else B := by
  subst e
  exact iteT h
theorem ite_f {b : Bool} {A B : Prop} (e : b = false) (h : B) : if b = true then A else B := by
  subst e
  exact iteF h
theorem atI_ints {ns : List Int} {i : Int} (h0 : 0 ≤ i) (h1 : i < ns.length) : atI (ns.map V.int) i = some (.int (ns.getD i.toNat 0)) := by
  obtain ⟨j, rfl⟩ := Int.eq_ofNat_of_zero_le h0
  refine atI_nat ?_
  have hj : j < ns.length := by omega
  rw [List.getElem?_map, List.getElem?_eq_getElem hj]
  simp [hj]
theorem take_map_succ {ns : List Int} {i : Nat} (h : i < ns.length) : (ns.take i).map V.int ++ [V.int ns[i]] = (ns.take (i + 1)).map V.int := by
  rw [List.take_succ_eq_append_getElem h, List.map_append]
  rfl
theorem sz1000 {n : Nat} (h : n ≤ 1000000) : n ≤ sizeLine := Nat.le_trans h (by decide)
theorem szlt {n : Nat} (h : n < 1000000) : n < sizeLine := Nat.lt_of_lt_of_le h (by decide)

/-! ### more readings -/
section
variable {K : PySem.W.Frag} {σ : L2.St} {H : Hp} {nx bk ct : L2.St → Hp → Prop} {rt : VK} {te ta tb tc : TE} {ar : TA} {Q : VK} {QB : Bool → Hp → Prop} {v x y z : V} {i j : Int}
theorem rd_sfld {f : Str} (h : tb σ H fun y H1 => ta σ H1 fun x H2 => ∃ a C dx fs, x = V.ref a ∧ H2 a = some (.ins C dx fs) ∧ Cls K C ∧ NoAttr K C f ∧ fs.length < 1000 ∧ nx σ (upd H2 a (.ins C dx (putF f y fs)))) : sFld K ta tb f ⟨nx, rt, bk, ct⟩ σ H := h
theorem rd_sfldX {f : Str} {a C dx : Addr} {fs : List (Str × V)} {R : Addr → Addr → Addr → List (Str × V) → Prop} (h : H a = some (.ins C dx fs)) (c : Cls K C) (n : NoAttr K C f) (l : fs.length < 1000) (q : R a C dx fs) :
    ∃ a' C' dx' fs', V.ref a = V.ref a' ∧ H a' = some (.ins C' dx' fs') ∧ Cls K C' ∧ NoAttr K C' f ∧ fs'.length < 1000 ∧ R a' C' dx' fs' := ⟨a, C, dx, fs, rfl, h, c, n, l, q⟩
theorem rd_tfld {f : Str} (h : ta σ H fun x H1 => ∃ a C dx fs v, x = V.ref a ∧ H1 a = some (.ins C dx fs) ∧ Cls K C ∧ NoAttr K C f ∧ fs.lookup f = some v ∧ Q v H1) : tFld K ta f σ H Q := h
theorem rd_fldX {f : Str} {a C dx : Addr} {fs : List (Str × V)} {R : V → Prop} (h : H a = some (.ins C dx fs)) (c : Cls K C) (n : NoAttr K C f) (l : fs.lookup f = some v) (q : R v) :
    ∃ a' C' dx' fs' v', V.ref a = V.ref a' ∧ H a' = some (.ins C' dx' fs') ∧ Cls K C' ∧ NoAttr K C' f ∧ fs'.lookup f = some v' ∧ R v' := ⟨a, C, dx, fs, v, rfl, h, c, n, l, q⟩
theorem rd_tcon {f : Str} (h : ta σ H fun x H1 => ∃ a C dx fs v u, x = V.ref a ∧ H1 a = some (.ins C dx fs) ∧ Cls K C ∧ Con K C f v u ∧ fs.lookup f = none ∧ Q v H1) : tCon K ta f σ H Q := h
theorem rd_conX {f : Str} {a C dx : Addr} {fs : List (Str × V)} {R : V → Prop} (h : H a = some (.ins C dx fs)) (c : Cls K C) (n : ∃ u, Con K C f v u) (l : fs.lookup f = none) (q : R v) :
    ∃ a' C' dx' fs' v' u, V.ref a = V.ref a' ∧ H a' = some (.ins C' dx' fs') ∧ Cls K C' ∧ Con K C' f v' u ∧ fs'.lookup f = none ∧ R v' := let ⟨u, n⟩ := n; ⟨a, C, dx, fs, v, u, rfl, h, c, n, l, q⟩
/-! isinstance -/
theorem rd_isi_ii (h : Q (.bl true) H) : rIsi K [.int i, .ty "int"] H Q := rd_isi (.base (.int i)) (by decide +kernel) h
theorem rd_isi_ib (h : Q (.bl false) H) : rIsi K [.int i, .ty "bool"] H Q := rd_isi (.base (.int i)) (by decide +kernel) h
theorem rd_isi_bb {b : Bool} (h : Q (.bl true) H) : rIsi K [.bl b, .ty "bool"] H Q := rd_isi (.base (.bl b)) (by decide +kernel) h
theorem rd_isi_bi {b : Bool} (h : Q (.bl true) H) : rIsi K [.bl b, .ty "int"] H Q := rd_isi (.base (.bl b)) (by decide +kernel) h
theorem rd_isi_ss {b : Str} (h : Q (.bl true) H) : rIsi K [.str b, .ty "str"] H Q := rd_isi (.base (.str b)) (by decide +kernel) h
theorem rd_isi_ll {a : Addr} {xs : List V} (e : H a = some (.lst xs)) (h : Q (.bl true) H) : rIsi K [.ref a, .ty "list"] H Q := rd_isi (.base (.lst e)) (by decide +kernel) h
theorem rd_isi_tt {a : Addr} {xs : List V} (e : H a = some (.tup xs)) (h : Q (.bl true) H) : rIsi K [.ref a, .ty "tuple"] H Q := rd_isi (.base (.tup e)) (by decide +kernel) h
/-! known tests -/
section
variable {A B : Prop}
theorem ite_nt (h : B) : if (!true) = true then A else B := iteF h
theorem ite_nf (h : A) : if (!false) = true then A else B := iteT h
theorem ite_in (h : B) : if decide (V.int i = V.non) = true then A else B := iteF h
theorem ite_rn {a : Addr} (h : B) : if decide (V.ref a = V.non) = true then A else B := iteF h
theorem ite_sn {a : Str} (h : B) : if decide (V.str a = V.non) = true then A else B := iteF h
theorem ite_bn {a : Bool} (h : B) : if decide (V.bl a = V.non) = true then A else B := by
  cases a <;> exact iteF h
theorem ite_nn (h : A) : if decide (V.non = V.non) = true then A else B := iteT h
theorem ite_xin (h : A) : if (!decide (V.int i = V.non)) = true then A else B := iteT h
theorem ite_xrn {a : Addr} (h : A) : if (!decide (V.ref a = V.non)) = true then A else B := iteT h
theorem ite_xnn (h : B) : if (!decide (V.non = V.non)) = true then A else B := iteF h
end
/-! dicts with tuple keys -/
theorem rd_dnewT (h : ∀ p, H p = none → Q (.ref p) (upd H p (.dT []))) : tDNewT σ H Q := h
theorem rd_dnewK (h : ∀ p, H p = none → Q (.ref p) (upd H p (.dK []))) : tDNewK σ H Q := h
theorem rd_dget2 (h : ta σ H fun x H1 => ∃ a, x = V.ref a ∧ IsD H1 a ∧ tb σ H1 fun y H2 => tc σ H2 fun z H3 => ∃ o, DGet H3 a y o ∧ Q (o.getD z) H3) : tDGet2 ta tb tc σ H Q := h
theorem rd_isdX {a : Addr} {R : Addr → Prop} (d : IsD H a) (q : R a) : ∃ a', V.ref a = V.ref a' ∧ IsD H a' ∧ R a' := ⟨a, rfl, d, q⟩
theorem isD_T {a : Addr} {kvs : List (List Key × V)} (e : H a = some (.dT kvs)) : IsD H a := .inr ⟨kvs, .inl e⟩
theorem isD_K {a : Addr} {kvs : List (Key × V)} (e : H a = some (.dK kvs)) : IsD H a := .inl ⟨kvs, .inl e⟩
theorem rd_dgX {a : Addr} {o : Option V} {R : Option V → Prop} (d : DGet H a y o) (q : R o) : ∃ o', DGet H a y o' ∧ R o' := ⟨o, d, q⟩
theorem dg_is {a b : Addr} {kvs : List (List Key × V)} {s : Int} {z : Str} (e : H a = some (.dT kvs)) (eb : H b = some (.tup [.int s, .str z])) : DGet H a (.ref b) (valV kvs [.inl s, .inr z]) := DGet.t (k := [.inl s, .inr z]) e eb
theorem rd_sdput (h : tc σ H fun v H1 => ta σ H1 fun x H2 => tb σ H2 fun y H3 => ∃ a H4, x = V.ref a ∧ DPut H3 a y v H4 ∧ nx σ H4) : sDPut ta tb tc ⟨nx, rt, bk, ct⟩ σ H := h
theorem rd_dpX {a : Addr} {H' : Hp} {R : Hp → Prop} (d : DPut H a y v H') (q : R H') : ∃ a' H4, V.ref a = V.ref a' ∧ DPut H a' y v H4 ∧ R H4 := ⟨a, H', rfl, d, q⟩
theorem dp_is {a b : Addr} {kvs : List (List Key × V)} {s : Int} {z : Str} (e : H a = some (.dT kvs)) (eb : H b = some (.tup [.int s, .str z])) (l : kvs.length < sizeLine) : DPut H a (.ref b) v (upd H a (.dT (putK kvs [.inl s, .inr z] v))) := DPut.t (k := [.inl s, .inr z]) e eb l
theorem ty_d {a : Addr} {kvs : List (List Key × V)} {B : Prop} (h : H a = some (.dT kvs)) (q : B) : tyV K "dict" (.ref a) H ∧ B := ⟨.inr (.inr (.inl ⟨rfl, .inr ⟨kvs, h⟩⟩)), q⟩
theorem ty_dK {a : Addr} {kvs : List (Key × V)} {B : Prop} (h : H a = some (.dK kvs)) (q : B) : tyV K "dict" (.ref a) H ∧ B := ⟨.inr (.inr (.inl ⟨rfl, .inl ⟨kvs, h⟩⟩)), q⟩
theorem rd_popT {a b : Addr} {kvs : List (List Key × V)} {s : Int} {t : Str} (e : H a = some (.dT kvs)) (eb : H b = some (.tup [.int s, .str t])) (q1 : ∀ v, valV kvs [.inl s, .inr t] = some v → Q v (upd H a (.dT (dropK kvs [.inl s, .inr t])))) (q2 : valV kvs [.inl s, .inr t] = none → Q x H) :
    DX.rPopT (.ref a) [.ref b, x] H Q := ⟨a, kvs, [.inl s, .inr t], b, x, rfl, rfl, e, eb, q1, q2⟩
theorem valV_drop {κ : Type} [DecidableEq κ] (k j : κ) : ∀ kvs : List (κ × V), valV (dropK kvs k) j = if j = k then none else valV kvs j
  | [] => by
    by_cases h : j = k
    · rw [if_pos h]
      rfl
    · rw [if_neg h]
      rfl
  | p :: r => by
    have ih := valV_drop k j r
    by_cases e : p.1 = k
    · rw [dropK_pos e, ih]
      by_cases h : j = k
      · rw [if_pos h, if_pos h]
      · rw [if_neg h, if_neg h, valV_neg (fun z => h (z.symm.trans e))]
    · rw [dropK_neg e]
      by_cases h : p.1 = j
      · rw [valV_pos h, if_neg (fun z => e (h.trans z)), valV_pos h]
      · rw [valV_neg h, ih, valV_neg h]
theorem putK_le {κ : Type} [DecidableEq κ] (kvs : List (κ × V)) (k : κ) (v : V) : (putK kvs k v).length ≤ kvs.length + 1 := by
  unfold putK
  split
  · rw [List.length_map]
    omega
  · rw [List.length_append]
    exact Nat.le_refl _
theorem rd_cat {a b : Addr} {xs ys : List V} (h1 : H a = some (.lst xs)) (h2 : H b = some (.lst ys)) (l : xs.length + ys.length ≤ sizeLine) (q : ∀ p, H p = none → Q (.ref p) (upd H p (.lst (xs ++ ys)))) : rCat (.ref a) (.ref b) H Q := ⟨a, b, xs, ys, rfl, rfl, h1, h2, l, q⟩
/-! list(range(..)) -/
theorem rd_lstRg {t : L2.St → Hp → (Int → Int → Hp → Prop) → Prop} (h : t σ H fun a b H1 => RgOk a b ∧ ∀ q, H1 q = none → Q (.ref q) (upd H1 q (.lst (rgV a b)))) : tLstRg t σ H Q := h
theorem rd_rg1 {R : Int → Int → Hp → Prop} (h : ta σ H fun x H1 => ∃ n, x = V.int n ∧ R 0 n H1) : tRg1 ta σ H R := h
theorem rd_rg2 {R : Int → Int → Hp → Prop} (h : ta σ H fun x H1 => tb σ H1 fun y H2 => ∃ i j, x = V.int i ∧ y = V.int j ∧ R i j H2) : tRg2 ta tb σ H R := h
theorem rd_inX {R : Int → Prop} (h : R i) : ∃ n, V.int i = V.int n ∧ R n := ⟨i, rfl, h⟩
theorem rd_inX2 {R : Int → Int → Prop} (h : R i j) : ∃ n m, V.int i = V.int n ∧ V.int j = V.int m ∧ R n m := ⟨i, j, rfl, rfl, h⟩
theorem rgV_0 (n : Int) : rgV 0 n = ((List.range n.toNat).map fun (i : Nat) => (i : Int)).map V.int := by
  unfold rgV
  rw [List.map_map, Int.sub_zero]
  congr 1
  funext i
  show V.int (0 + (i : Int)) = V.int (i : Int)
  rw [Int.zero_add]
end

/-! ### dicts with int and text keys, slices, more -/
section
variable {K : PySem.W.Frag} {σ : L2.St} {H : Hp} {nx bk ct : L2.St → Hp → Prop} {rt : VK} {t : TS} {te ta tb tc : TE} {tt : TT} {ar : TA} {Q : VK} {QB : Bool → Hp → Prop} {v x y z : V} {i j : Int}
theorem rd_din (h : ta σ H fun y H1 => tb σ H1 fun x H2 => ∃ a o, x = V.ref a ∧ DGet H2 a y o ∧ Q (.bl o.isSome) H2) : tDIn ta tb σ H Q := h
theorem rd_dnotin (h : ta σ H fun y H1 => tb σ H1 fun x H2 => ∃ a o, x = V.ref a ∧ DGet H2 a y o ∧ Q (.bl (!o.isSome)) H2) : tDNotIn ta tb σ H Q := h
theorem rd_dget (h : ta σ H fun x H1 => tb σ H1 fun y H2 => ∃ a v, x = V.ref a ∧ DGet H2 a y (some v) ∧ Q v H2) : tDGet ta tb σ H Q := h
theorem rd_dget1 (h : ta σ H fun x H1 => ∃ a, x = V.ref a ∧ IsD H1 a ∧ tb σ H1 fun y H2 => ∃ o, DGet H2 a y o ∧ Q (o.getD .non) H2) : tDGet1 ta tb σ H Q := h
theorem rd_dinX {a : Addr} {o : Option V} {R : Option V → Prop} (d : DGet H a y o) (q : R o) : ∃ a' o', V.ref a = V.ref a' ∧ DGet H a' y o' ∧ R o' := ⟨a, o, rfl, d, q⟩
theorem rd_dgetX {a : Addr} {R : V → Prop} (d : DGet H a y (some v)) (q : R v) : ∃ a' v', V.ref a = V.ref a' ∧ DGet H a' y (some v') ∧ R v' := ⟨a, v, rfl, d, q⟩
theorem dg_i {a : Addr} {kvs : List (Key × V)} (e : H a = some (.dK kvs)) : DGet H a (.int i) (valV kvs (.inl i)) := DGet.k (k := .inl i) e
theorem dg_s {a : Addr} {kvs : List (Key × V)} {s : Str} (e : H a = some (.dK kvs)) : DGet H a (.str s) (valV kvs (.inr s)) := DGet.k (k := .inr s) e
theorem dg_iv {a : Addr} {kvs : List (Key × V)} (e : H a = some (.dK kvs)) (l : valV kvs (.inl i) = some v) : DGet H a (.int i) (some v) := l ▸ dg_i e
theorem dg_sv {a : Addr} {kvs : List (Key × V)} {s : Str} (e : H a = some (.dK kvs)) (l : valV kvs (.inr s) = some v) : DGet H a (.str s) (some v) := l ▸ dg_s e
theorem dp_i {a : Addr} {kvs : List (Key × V)} (e : H a = some (.dK kvs)) (l : kvs.length < sizeLine) : DPut H a (.int i) v (upd H a (.dK (putK kvs (.inl i) v))) := DPut.k (k := .inl i) e l
theorem dp_s {a : Addr} {kvs : List (Key × V)} {s : Str} (e : H a = some (.dK kvs)) (l : kvs.length < sizeLine) : DPut H a (.str s) v (upd H a (.dK (putK kvs (.inr s) v))) := DPut.k (k := .inr s) e l
theorem rd_disp {trs : List (TE × TE)} (h : ∀ p, H p = none → tPairs trs σ (upd H p (.dK [])) fun ps H2 => H2 p = some (.dK []) ∧ ∃ kvs : List (Key × V), ps = kvs.map (fun kv => (kV kv.1, kv.2)) ∧ kvs.length ≤ 15 ∧ Q (.ref p) (upd H2 p (.dK (mergeK [] kvs)))) : tDisp trs σ H Q := h
theorem rd_pnil {R : List (V × V) → Hp → Prop} (h : R [] H) : tPairs [] σ H R := h
theorem rd_pcons {trs : List (TE × TE)} {R : List (V × V) → Hp → Prop} (h : ta σ H fun x H1 => tb σ H1 fun y H2 => tPairs trs σ H2 fun ps H3 => R ((x, y) :: ps) H3) : tPairs ((ta, tb) :: trs) σ H R := h
theorem rd_sl {r : V → Option Int → Option Int → Hp → VK → Prop} {tl th : TO} (h : te σ H fun x H1 => tl σ H1 fun l H2 => th σ H2 fun u H3 => r x l u H3 Q) : tSl r te tl th σ H Q := h
theorem rd_part {R : Option Int → Hp → Prop} (h : te σ H fun x H1 => ∃ i, x = V.int i ∧ R (some i) H1) : tPart te σ H R := h
theorem rd_nopart {R : Option Int → Hp → Prop} (h : R none H) : tNoPart σ H R := h
theorem rd_slL {a : Addr} {xs : List V} {lo hi : Option Int} (h : SqL K H a xs) (q : ∀ p, H p = none → Q (.ref p) (upd H p (.lst (cutV xs lo hi)))) : rSlL K (.ref a) lo hi H Q := ⟨a, xs, rfl, h, q⟩
theorem cut_to {xs : List V} {k : Nat} : cutV xs none (some (k : Int)) = xs.take k := by
  unfold cutV
  rw [HT.sIx_none, HT.sIx_nat, List.drop_zero, Nat.sub_zero, List.take_eq_take_iff]
  omega
theorem cut_from {xs : List V} {k : Nat} : cutV xs (some (k : Int)) none = xs.drop k := by
  unfold cutV
  rw [HT.sIx_none, HT.sIx_nat]
  by_cases h : k ≤ xs.length
  · rw [Nat.min_eq_left h, List.take_of_length_le (by rw [List.length_drop]; exact Nat.le_refl _)]
  · rw [Nat.min_eq_right (by omega), Nat.sub_self, List.take_zero, List.drop_of_length_le (by omega)]
theorem cut_all {xs : List V} : cutV xs none none = xs := by
  unfold cutV
  rw [HT.sIx_none, HT.sIx_none, List.drop_zero, Nat.sub_zero, List.take_length]
theorem rd_popAt {a : Addr} {xs : List V} {k : Nat} (h : H a = some (.lst xs)) (b1 : -(2 ^ 63) ≤ i) (b2 : i < 2 ^ 63) (s : seqIndex? i xs.length = some k) (g : xs[k]? = some v) (q : Q v (upd H a (.lst (xs.eraseIdx k)))) : rPopAt (.ref a) [.int i] H Q := ⟨a, xs, i, k, v, rfl, rfl, h, b1, b2, s, g, q⟩
theorem rd_clear {a : Addr} {xs : List V} (h : H a = some (.lst xs)) (q : Q .non (upd H a (.lst []))) : rClear (.ref a) [] H Q := ⟨a, xs, rfl, rfl, h, q⟩
theorem rd_aug {n : Nat} {ti : TIp} (e : σ[n]? = some (some x)) (h : te σ H fun y H1 => ti x y H1 fun z H2 => nx (σ.set n (some z)) H2) : tAug n te ti ⟨nx, rt, bk, ct⟩ σ H := ⟨x, e, h⟩
theorem rd_ipI {f : Int → Int → Int} (h : Q (.int (f i j)) H) : ipI f (.int i) (.int j) H Q := ⟨i, j, rfl, rfl, h⟩
theorem rd_whileM (W : Nat → L2.St → Hp → Prop) (m : Nat) (h0 : W m σ H)
    (hs : ∀ m σ H, W m σ H → tt σ H fun b H1 => if b = true then ∃ N : L2.St → Hp → Prop, (∀ σ' H', N σ' H' → ∃ m', m' < m ∧ W m' σ' H') ∧ t ⟨N, rt, nx, N⟩ σ H1 else nx σ H1) : tWhile tt t ⟨nx, rt, bk, ct⟩ σ H := ⟨W, ⟨m, h0⟩, hs⟩
theorem inV_ints (a : Int) : ∀ ns : List Int, inV (.int a) (ns.map V.int) = decide (a ∈ ns)
  | [] => rfl
  | b :: r => by
    have ih := inV_ints a r
    unfold inV at ih ⊢
    rw [List.map_cons, List.any_cons, ih]
    show ((b == a) || decide (a ∈ r)) = decide (a ∈ b :: r)
    by_cases h : b = a
    · subst h
      simp
    · have h2 : (b == a) = false := beq_eq_false_iff_ne.mpr h
      rw [h2, Bool.false_or]
      simp [List.mem_cons, Ne.symm h]
theorem flat_ints : ∀ ns : List Int, (ns.map V.int).all flatV = true
  | [] => rfl
  | _ :: r => by
    rw [List.map_cons, List.all_cons, flat_ints r]
    rfl
theorem rd_inI {p : Addr} {ns : List Int} (h : SqL K H p (ns.map V.int)) (q : Q (.bl (decide (i ∈ ns))) H) : rIn K false (.int i) (.ref p) H Q := ⟨p, ns.map V.int, rfl, .inl h, rfl, flat_ints ns, by
  rw [inV_ints]
  exact q⟩
theorem rd_notInI {p : Addr} {ns : List Int} (h : SqL K H p (ns.map V.int)) (q : Q (.bl (!decide (i ∈ ns))) H) : rIn K true (.int i) (.ref p) H Q := ⟨p, ns.map V.int, rfl, .inl h, rfl, flat_ints ns, by
  rw [inV_ints]
  exact q⟩
def rLenD : List V → Hp → VK → Prop := fun xs H Q => ∃ a kvs, xs = [V.ref a] ∧ H a = some (.dK kvs) ∧ Q (.int kvs.length) H
theorem call_lenD' {X : Cx} : CallR X (.builtin "len") rLenD := call_lenD
theorem rd_lenD {a : Addr} {kvs : List (Key × V)} (h : H a = some (.dK kvs)) (q : Q (.int kvs.length) H) : rLenD [.ref a] H Q := ⟨a, kvs, rfl, h, q⟩
/-! enumerate -/
theorem rd_iEnum {R : It → Hp → Prop} (h : ar σ H fun vs H1 => ∃ a xs, vs = [V.ref a] ∧ SqL K H1 a xs ∧ R (Ite K a) H1) : iEnum K ar σ H R := h
theorem rd_iEnumX {p : Addr} {xs : List V} {R : Addr → Prop} (h : SqL K H p xs) (q : R p) : ∃ a xs, [V.ref p] = [V.ref a] ∧ SqL K H a xs ∧ R a := ⟨p, xs, rfl, h, q⟩
theorem forE_by {a : Addr} {g : TG} (xs : List V) (Pv : Nat → L2.St → Hp → Prop) (h0 : Pv 0 σ H) (hl : ∀ i σ H, i ≤ xs.length → Pv i σ H → SqL K H a xs)
    (hs : ∀ i x σ H T, xs[i]? = some x → Pv i σ H → H T = none → g (.ref T) σ (upd H T (.tup [.int (i : Nat), x])) fun σ2 H2 => t ⟨Pv (i + 1), rt, nx, Pv (i + 1)⟩ σ2 H2) (hd : ∀ σ H, Pv xs.length σ H → nx σ H) : ForG (Ite K a) g t ⟨nx, rt, bk, ct⟩ σ H := by
  refine ⟨fun i m σ H => m = xs.length - i ∧ i ≤ xs.length ∧ Pv i σ H, ⟨xs.length, by simp, Nat.zero_le _, h0⟩, ?_⟩
  rintro i m σ H ⟨rfl, hi, p⟩
  have q := hl i σ H hi p
  by_cases hlt : i < xs.length
  · refine .inr ⟨⟨xs, xs[i], q, by simp [hlt]⟩, Pv (i + 1), fun σ' H' p' => ⟨xs.length - (i + 1), by omega, rfl, hlt, p'⟩, fun x H' y => ?_⟩
    obtain ⟨T, z, rfl, nT, rfl, hz⟩ := y
    exact hs i z σ H T (hz xs q) p nT
  · have e : i = xs.length := by omega
    subst e
    exact .inl ⟨⟨xs, q, Nat.le_refl _⟩, hd σ H p⟩
/-! == of equal data, of int lists -/
theorem dp_ints : ∀ ns : List Int, DpAll K H (ns.map V.int) (ns.map PyData.int)
  | [] => .nil
  | x :: r => .cons (.int x) (dp_ints r)
theorem lay_ints : ∀ ns : List Int, PyData.canLayAll0 (ns.map PyData.int) = true
  | [] => by simp only [List.map_nil, PyData.canLayAll0]
  | x :: r => by simp only [List.map_cons, PyData.canLayAll0, PyData.canLay0, lay_ints r, Bool.and_self]
theorem depth_ints : ∀ ns : List Int, PyData.depthAll (ns.map PyData.int) ≤ 1
  | [] => by simp [PyData.depthAll]
  | x :: r => by
    have := depth_ints r
    simp only [List.map_cons, PyData.depthAll, PyData.depth]
    omega
theorem shaped_ints (ns : List Int) : SeqAt.shaped (.list (ns.map PyData.int)) = true :=
  Bool.and_eq_true_iff.mpr ⟨by simp only [PyData.canLay0, lay_ints], decide_eq_true (by
    have h := depth_ints ns
    simp only [PyData.depth]
    omega)⟩
theorem eqv_ints : ∀ ns ms : List Int, PyData.eqvAll (ns.map PyData.int) (ms.map PyData.int) = decide (ns = ms)
  | [], [] => by simp [PyData.eqvAll]
  | [], y :: m => by simp [PyData.eqvAll]
  | x :: r, [] => by simp [PyData.eqvAll]
  | x :: r, y :: m => by
    have ih := eqv_ints r m
    simp only [List.map_cons, PyData.eqvAll, PyData.eqv, ih]
    by_cases h : x = y
    · subst h
      simp
    · simp [h]
theorem rd_eqLI {p q : Addr} {ns ms : List Int} (h1 : SqL K H p (ns.map V.int)) (h2 : SqL K H q (ms.map V.int)) (k : Q (.bl (decide (ns = ms))) H) : rEqD K (.ref p) (.ref q) H Q :=
  ⟨.list (ns.map PyData.int), .list (ms.map PyData.int), .lst h1 (dp_ints ns), .lst h2 (dp_ints ms), shaped_ints ns, shaped_ints ms, by
    simp only [PyData.eqv, eqv_ints]
    exact k⟩
theorem rd_neLI {p q : Addr} {ns ms : List Int} (h1 : SqL K H p (ns.map V.int)) (h2 : SqL K H q (ms.map V.int)) (k : Q (.bl (!decide (ns = ms))) H) : rNeD K (.ref p) (.ref q) H Q :=
  ⟨.list (ns.map PyData.int), .list (ms.map PyData.int), .lst h1 (dp_ints ns), .lst h2 (dp_ints ms), shaped_ints ns, shaped_ints ms, by
    simp only [PyData.eqv, eqv_ints]
    exact k⟩
end

/-! ### the same rules with the written part named (within comprehensions) -/
section
variable {X : L2.Cx} {K : PySem.W.Frag}
theorem call_listOfK (h : X.K = K) : CallR X (.type "list") (rListOf K) := h ▸ call_listOf
theorem call_lenSK (h : X.K = K) : CallR X (.builtin "len") (rLenS K) := h ▸ call_lenS
theorem ix_listK (h : X.K = K) : IxR X (rIxL K) := h ▸ ix_list
theorem ix_tupK (h : X.K = K) : IxR X (rIxT K) := h ▸ ix_tup
theorem op_in_seqK (h : X.K = K) : OpR X (compareOp .In) (rIn K false) := h ▸ op_in_seq
theorem op_notIn_seqK (h : X.K = K) : OpR X (compareOp .NotIn) (rIn K true) := h ▸ op_notIn_seq
theorem call_isiK2 (h : X.K = K) : CallR X (.builtin "isinstance") (rIsi K) := h ▸ call_isi
theorem pe_fldK {e : Expr} {f : Str} {pos : Pos} {ta : TE} (h : X.K = K) (he : PE X e ta) (hb : attributeBase e f X.env (eval e X.env) = eval e X.env) : PE X (.Attribute e f pos) (tFld K ta f) := h ▸ pe_fld he hb
end
end RD

/-! own layer: sorted(xs, key=f) where f's calls keep the invariant (behind RD) -/
namespace RD
open PySem PySem.Spec PyProof.Rows L2 PySem.W
section
variable {X : Cx} {pins pf : List (Addr × Obj)} {σ : L2.St} {H : Hp} {s : Shared}
/-- what a key's call does -/
def KeyTurn (X : Cx) (A : Around) (σ : L2.St) (H : Hp) (pf : List (Addr × Obj)) (f : Value) (xs : List V) (key : V → Int) : Prop :=
  ∀ (pl : List (Addr × Obj)) (s1 : Shared) (H1 : Hp) (v : V) (u : Value), Inv X (pf ++ pl) σ H1 s1 → Kp [] H H1 → v ∈ xs → RelV v u →
    wpAny (model X.prog X.w) A (call f [u]) (fun z s2 => ∃ H2 t, Inv X (pf ++ pl) σ H2 s2 ∧ Kp [] H1 H2 ∧ z = .int (key v) t) (fun _ _ => False) s1
/-- what stands of an address of ours, whatever runs -/
def Own (X : Cx) (pn : List (Addr × Obj)) (b : Addr) : Prop :=
  b ≠ X.env.locals ∧ b ∉ X.fs ∧ (b ∈ X.ex ∨ X.s_0.heap.objs.size ≤ b) ∧ (∀ x c, X.env.cells.lookup x = some c → c ≠ b) ∧ ∀ p ∈ X.pn ++ pn, p.1 ≠ b
theorem Own.fresh {b : Addr} (I : Inv X pins σ H s) (hb : s.heap.objs.size ≤ b) : Own X pins b := by
  have q := I.fpOk (H' := H) hb (I.hok.fresh hb)
  exact ⟨q.2.1, q.2.2.1, q.2.2.2.1, q.2.2.2.2.1, q.2.2.2.2.2⟩
theorem Own.less {pn pm : List (Addr × Obj)} {b : Addr} (o : Own X pn b) (h : ∀ p, p ∈ pm → p ∈ pn) : Own X pm b :=
  ⟨o.1, o.2.1, o.2.2.1, o.2.2.2.1, fun p hp => o.2.2.2.2 p ((List.mem_append.mp hp).elim (fun z => List.mem_append_left _ z) fun z => List.mem_append_right _ (h p z))⟩
theorem inv_pin {b : Addr} {o : Obj} {pn : List (Addr × Obj)} (I : Inv X (pf ++ pn) σ H s) (w : Own X (pf ++ pn) b) (hn : H b = none) (e : s.heap.get? b = some o) (hc : ∀ v, o.data ≠ .cell v) : Inv X (pf ++ ((b, o) :: pn)) σ H s :=
  I.pins_of fun p hp => by
    rcases List.mem_append.mp hp with z | z
    · exact I.pin p (List.mem_append_right _ (List.mem_append_left _ z))
    · rcases List.mem_cons.mp z with z | z
      · rw [z]
        exact ⟨e, hn, w.1, w.2.1, hc⟩
      · exact I.pin p (List.mem_append_right _ (List.mem_append_right _ z))
theorem inv_unpin {q : Addr × Obj} {pn : List (Addr × Obj)} (I : Inv X (pf ++ (q :: pn)) σ H s) : Inv X (pf ++ pn) σ H s :=
  I.pins_of fun p hp => by
    rcases List.mem_append.mp hp with z | z
    · exact I.pin p (List.mem_append_right _ (List.mem_append_left _ z))
    · exact I.pin p (List.mem_append_right _ (List.mem_append_right _ (List.mem_cons_of_mem _ z)))
theorem inv_head {q : Addr × Obj} {pn : List (Addr × Obj)} (I : Inv X (pf ++ (q :: pn)) σ H s) : s.heap.get? q.1 = some q.2 ∧ H q.1 = none :=
  have z := I.pin q (List.mem_append_right _ (List.mem_append_right _ (.head _)))
  ⟨z.1, z.2.1⟩
/-- the object at b turns -/
theorem inv_turn {b : Addr} {pn : List (Addr × Obj)} {h' : Heap} {t' : Nat} (I : Inv X pn σ H s) (w : Own X pn b) (hn : H b = none) (k : ∀ c o, c ≠ b → s.heap.get? c = some o → h'.get? c = some o) : Inv X pn σ H { s with heap := h', toks := t' } :=
  I.turned k hn w.1 w.2.2.1 w.2.2.2.1 w.2.2.2.2
theorem ints_snoc {vs : List Value} {ns : List Int} {n : Int} {t : Tok} (h : IntsAre vs ns) : IntsAre (vs ++ [.int n t]) (ns ++ [n]) := by
  induction h with
  | nil => exact .cons n t .nil
  | cons m u _ ih => exact .cons m u ih
theorem each_ints {h : Heap} {vs : List Value} {ns : List Int} (e : IntsAre vs ns) : EachIs (fun v d => ∃ as, Reads h v d as) vs (ns.map PyData.int) := by
  induction e with
  | nil => exact .nil
  | cons n t _ ih => exact .cons ⟨[], .int n t⟩ ih
theorem each_vals {xs : List V} {us : List Value} (r : Vals xs us) : EachIs (fun u v => RelV v u) us xs := by
  induction r with
  | nil => exact .nil
  | cons a _ ih => exact .cons a ih
theorem vals_each {xs : List V} {us : List Value} (r : EachIs (fun u v => RelV v u) us xs) : Vals xs us := by
  induction r with
  | nil => exact .nil
  | cons a _ ih => exact .cons a ih
/-- a heap without the object at b -/
def gone (h : Heap) (b : Addr) : Heap := h.update b fun _ => { cls := .none, data := .freed }
theorem gone_at {h : Heap} {b : Addr} {o : Obj} (e : h.get? b = some o) : (gone h b).get? b = none := by
  cases q : (gone h b).get? b with
  | none => rfl
  | some u =>
    exfalso
    obtain ⟨e1, _⟩ := Heap.get?_some_iff.mp e
    obtain ⟨e2, e3⟩ := Heap.get?_some_iff.mp q
    have e4 : (gone h b).objs[b]? = some { cls := .none, data := .freed } := by
      unfold gone
      rw [Heap.objs_update_self, e1]
      rfl
    rw [e4] at e2
    cases e2
    cases e3
theorem gone_ne {h : Heap} {b c : Addr} (n : c ≠ b) : (gone h b).get? c = h.get? c := (Heap.SameBut.update h b _).2 c n
theorem key_end {A : Around} {key : V → Int} {xs : List V} {vs : List Value} {a kS : Addr} {kA : Array Value} {e e1 : Nat} {P : PySem.Fin → Shared → Prop} {E : Value → Shared → Prop} (I : Inv X (pf ++ ((kS, seqObj "list" kA e) :: (a, seqObj "list" #[] e1) :: pins)) σ H s)
    (wk : Own X (pf ++ ((a, seqObj "list" #[] e1) :: pins)) kS) (wa : Own X (pf ++ pins) a) (r : Vals xs vs) (hZ : vs.length ≤ sizeLine) (hu : A.units < cLine) (hk : IntsAre kA.toList (xs.map key))
    (h : ∀ s' out c, Inv X (pf ++ pins) σ H s' → s'.heap.get? a = some (seqObj "list" (List.toArray out) c) → Vals (xs.mergeSort fun p q => decide (key p ≤ key q)) out → P (.done (.ret .none)) s') :
    wpAny (model X.prog X.w) A (ksk_end a false vs.toArray e1 (.ref kS) kA) P E s := by
  have nk := inv_head I
  have na := inv_head (inv_unpin I)
  have hka : kS ≠ a := Ne.symm (wk.2.2.2.2 (a, seqObj "list" #[] e1) (List.mem_append_right _ (List.mem_append_right _ (.head _))))
  have hl : kA.size = vs.length := by
    have h1 := hk.length
    rw [Array.length_toList, List.length_map] at h1
    rw [h1]
    exact r.length
  have hE := each_ints (h := s.heap) hk
  have hkz : (xs.map key).map PyData.int = xs.map (fun v => PyData.int (key v)) := by rw [List.map_map]; rfl
  have hal : AllAlike (xs.map fun v => PyData.int (key v)) := AllAlike.of fun _ _ => by simp [alike]
  have hsk : Sortable (xs.map fun v => PyData.int (key v)) := Sortable.others fun _ => ⟨(fun z => by cases z), (fun _ z => by cases z)⟩
  rw [hkz] at hE
  refine keyH_end (κ := dataKind s.heap (xs.map fun v => PyData.int (key v))) (h₁ := gone s.heap kS) (fun b o hb q => ?_) (gone_at nk.1) nk.1 na.1 hka (SortsAt.data hE hal hsk fun d hd => ?_) hl hZ fun h' tk c kp hc => ?_
  · by_cases hbk : b = kS
    · rw [hbk, gone_at nk.1] at q
      cases q
    · rw [gone_ne hbk] at q
      exact q
  · obtain ⟨v, _, e⟩ := List.mem_map.mp hd
    rw [← e]
    simpa [PyData.depth] using hu
  · have I1 : Inv X (pf ++ ((a, seqObj "list" #[] e1) :: pins)) σ H { s with heap := gone s.heap kS, toks := s.toks } := inv_turn (inv_unpin I) wk nk.2 fun b o hb q => by
      rw [gone_ne hb]
      exact q
    have I2 : Inv X (pf ++ pins) σ H { s with heap := h', toks := tk } := inv_turn (s := { s with heap := gone s.heap kS, toks := s.toks }) (inv_unpin I1) wa na.2 fun b o hb q => kp b o hb q
    have ko : KeyedOut false (xs.map fun v => PyData.int (key v)) vs (sortVals (dataKind s.heap (xs.map fun v => PyData.int (key v))) false kA.toList vs) := ⟨s.heap, kA.toList, hal, rfl, hE⟩
    have eo := keyedOut_each (fun v => PyData.int (key v)) ko (each_vals r)
    rw [dataLe_int key] at eo
    exact h _ _ c I2 hc (vals_each eo)
/-- the keys' loop -/
theorem key_rest {A : Around} {f : Value} {key : V → Int} {xs : List V} {vs : List Value} {a kS : Addr} {e1 : Nat} {P : PySem.Fin → Shared → Prop} {E : Value → Shared → Prop} (T : KeyTurn X A σ H pf f xs key)
    (I : Inv X (pf ++ ((kS, seqObj "list" #[] 0) :: (a, seqObj "list" #[] e1) :: pins)) σ H s) (wk : Own X (pf ++ ((a, seqObj "list" #[] e1) :: pins)) kS) (wa : Own X (pf ++ pins) a) (r : Vals xs vs) (hZ : vs.length ≤ sizeLine) (hu : A.units < cLine)
    (h : ∀ H' s' out c, Inv X (pf ++ pins) σ H' s' → Kp [] H H' → H' a = none → s'.heap.get? a = some (seqObj "list" (List.toArray out) c) → Vals (xs.mergeSort fun p q => decide (key p ≤ key q)) out → P (.done (.ret .none)) s') :
    wpAny (model X.prog X.w) A (ksk_rest a f false vs.toArray e1 (.ref kS)) P E s := by
  unfold ksk_rest
  refine wpAny_bind (wpAny_rule ?_)
  rw [List.forIn_toArray]
  refine wpAny_bind (ksk_fold (fun i s' => ∃ H1 kA e, Inv X (pf ++ ((kS, seqObj "list" kA e) :: (a, seqObj "list" #[] e1) :: pins)) σ H1 s' ∧ Kp [] H H1 ∧ IntsAre kA.toList ((xs.take i).map key)) vs 0 s ⟨H, #[], 0, I, Kp.refl, .nil⟩ ?step ?done)
  case step =>
    rintro j u s' hx ⟨H1, kA, e, I1, k1, hk⟩
    rw [Nat.zero_add] at hk ⊢
    obtain ⟨hj, _⟩ := List.getElem?_eq_some_iff.mp hx
    obtain ⟨v, hv⟩ : ∃ v, xs[j]? = some v := ⟨_, List.getElem?_eq_getElem (by rw [r.length]; exact hj)⟩
    obtain ⟨u', hu', rv⟩ := Vals.get r hv
    rw [hx] at hu'
    cases hu'
    have hz : kA.size ≤ vs.length := by
      have h1 := hk.length
      rw [Array.length_toList, List.length_map, List.length_take] at h1
      omega
    refine wpAny_bind (wpAny_attempt (wpAny_mono (T _ s' H1 v u I1 k1 (List.mem_of_getElem? hv) rv) (fun z s2 he => ?_) fun _ _ hF => hF.elim))
    obtain ⟨H2, t, I2, k2, rfl⟩ := he
    have nk := inv_head I2
    obtain ⟨c2, hc2⟩ : ∃ c2, (s2.heap.update kS (Obj.mapSeq (·.push (.int (key v) t)))).get? kS = some (seqObj "list" (kA.push (.int (key v) t)) c2) := ⟨_, get?_update_seq nk.1 (·.push (.int (key v) t))⟩
    refine wpAny_bind (listUpdate_at nk.1 rfl ?_ (Nat.le_trans hz hZ) (Nat.le_trans (Nat.le_of_eq (Array.size_push ..)) (Nat.succ_le_succ (Nat.le_trans hz hZ))))
    have I3 : Inv X (pf ++ ((a, seqObj "list" #[] e1) :: pins)) σ H2 { s2 with heap := s2.heap.update kS (Obj.mapSeq (·.push (.int (key v) t))), toks := s2.toks } :=
      inv_turn (inv_unpin I2) wk nk.2 fun b o hb q => ((Heap.SameBut.update s2.heap kS _).2 b hb).trans q
    refine wpAny_pure ⟨rfl, H2, kA.push (.int (key v) t), c2, inv_pin I3 wk nk.2 hc2 (fun _ z => by cases z), k1.trans k2, ?_⟩
    rw [Array.toList_push, List.take_add_one, hv, List.map_append]
    exact ints_snoc hk
  case done =>
    rintro s' ⟨H1, kA, e, I1, k1, hk⟩
    rw [Nat.zero_add, ← r.length, List.take_length] at hk
    refine wpAny_bind (listItems_at (inv_head I1).1 rfl ?_)
    exact key_end (key := key) I1 wk wa r hZ hu hk fun s2 out c I2 hc ho => h H1 s2 out c I2 k1 (inv_head (inv_unpin I1)).2 hc ho
/-- xs.sort(key=f) of a list that nobody knows -/
theorem key_tree {A : Around} {f : Value} {key : V → Int} {xs : List V} {vs : List Value} {a : Addr} {n : Nat} {P : PySem.Fin → Shared → Prop} {E : Value → Shared → Prop} (T : KeyTurn X A σ H pf f xs key)
    (I : Inv X (pf ++ pins) σ H s) (wa : Own X (pf ++ pins) a) (na : H a = none) (ho : s.heap.get? a = some (seqObj "list" vs.toArray n)) (r : Vals xs vs) (hZ : vs.length ≤ sizeLine) (hu : A.units < cLine)
    (h : ∀ H' s' out c, Inv X (pf ++ pins) σ H' s' → Kp [] H H' → H' a = none → s'.heap.get? a = some (seqObj "list" (List.toArray out) c) → Vals (xs.mergeSort fun p q => decide (key p ≤ key q)) out → P (.done (.ret .none)) s') :
    wpAny (model X.prog X.w) A (ksk_tree a f false) P E s := by
  obtain ⟨e1, ho1⟩ : ∃ e1, (s.heap.update a (Obj.mapSeq fun _ => (#[] : Array Value))).get? a = some (seqObj "list" #[] e1) := ⟨_, get?_update_seq ho fun _ => #[]⟩
  have I1 : Inv X (pf ++ pins) σ H { s with heap := s.heap.update a (Obj.mapSeq fun _ => (#[] : Array Value)), toks := s.toks } := inv_turn I wa na fun b o hb q => ((Heap.SameBut.update s.heap a _).2 b hb).trans q
  have I2 := inv_pin I1 wa na ho1 (fun _ z => by cases z)
  have I3 : Inv X (pf ++ ((a, seqObj "list" #[] e1) :: pins)) σ H { s with heap := (s.heap.update a (Obj.mapSeq fun _ => (#[] : Array Value))).push (seqObj "tuple" vs.toArray 0), toks := s.toks } := I2.kept fun b o q => Heap.get?_push_of_some _ q
  have wk := Own.fresh I3 (Nat.le_refl _)
  have nk := I3.hok.fresh (Nat.le_refl _)
  have I4 : Inv X (pf ++ ((a, seqObj "list" #[] e1) :: pins)) σ H { s with heap := ((s.heap.update a (Obj.mapSeq fun _ => (#[] : Array Value))).push (seqObj "tuple" vs.toArray 0)).push (seqObj "list" #[] 0), toks := s.toks } := I3.kept fun b o q => Heap.get?_push_of_some _ q
  unfold ksk_tree
  refine wpAny_bind (listItems_at ho rfl ?_)
  refine wpAny_bind (listUpdate_at ho rfl ?_ (by rw [List.size_toArray]; exact hZ) (Nat.zero_le _))
  refine wpAny_bind (seqEpoch_at ho1 rfl ?_)
  refine wpAny_bind (wpAny_newTuple ?_ (by show vs.length ≤ _; exact hZ))
  refine wpAny_bind (wpAny_newList ?_ (Nat.zero_le _))
  refine wpAny_holding ?_
  exact key_rest T (inv_pin I4 wk nk (Heap.get?_push_size _ rfl) (fun _ z => by cases z)) wk wa r hZ hu h
/-- an object of ours becomes known -/
theorem inv_track {a : Addr} {o : HO} {pn : List (Addr × Obj)} (I : Inv X pn σ H s) (w : Own X pn a) (hn : H a = none) (ok : ObjOk X.prog X.w (upd H a o) s.heap a o) : Inv X pn σ (upd H a o) s := by
  have ne : ∀ b u, H b = some u → b ≠ a := fun b u e z => by
    rw [z, hn] at e
    cases e
  have up : ∀ b u, H b = some u → upd H a o b = some u := fun b u e => by rw [upd_ne (ne b u e)]; exact e
  exact I.step (h' := s.heap) (g' := s.gens) (d' := s.drawn) (t' := s.toks) (ch := [a]) (fun b hb => by
      rw [List.mem_singleton.mp hb]
      exact ⟨w.2.2.1, w.1, w.2.2.2.1, w.2.2.2.2⟩)
    (fun b u _ _ _ e _ => e) (fun b u _ _ _ e _ => ⟨u.slots, e⟩) (fun b u hb _ n => by
      rw [upd_ne (fun z => hb (List.mem_singleton.mpr z))]
      exact n)
    (fun b u _ e => ⟨u, e⟩) (fun b xs e => up b _ e) (fun b u v e => up b _ e) (fun b ps e => ⟨#[], by rw [up b _ e]; simp⟩) (fun m hm => hm)
    (fun b u e => by
      by_cases hb : b = a
      · rw [hb, upd_same] at e
        cases e
        rw [hb]
        exact ok
      · rw [upd_ne hb] at e
        exact (I.hok b u e).stay (fun c v _ q => q) (fun c q => up c _ q) fun c xs q => up c _ q) I.bare
/-- sorted(xs, key=f) -/
theorem sorted_key {f : Addr} {key : V → Int} {xs : List V} {l : Addr} {Q : VK} (T : KeyTurn X X.A.in1.in1 σ H pf (.ref f) xs key) (I : Inv X (pf ++ pins) σ H s) (hs : SqL X.K H l xs) (hu : X.A.units + 2 < cLine)
    (h : ∀ H' p, Kp [] H H' → H' p = none → Q (.ref p) (upd H' p (.lst (xs.mergeSort fun a b => decide (key a ≤ key b))))) :
    wpAny (model X.prog X.w) X.A (call (.builtin "sorted") [.ref l] [(Str.ofString "key", .ref f)]) (EP X (pf ++ pins) σ Q) X.xe s := by
  obtain ⟨its, rv, hl, hz⟩ := I.list hs
  have wa := Own.fresh I (b := s.heap.objs.size + 1) (Nat.le_succ _)
  have na : H (s.heap.objs.size + 1) = none := I.hok.fresh (Nat.le_succ _)
  refine sorted_of_sort hl.isList (by rw [← rv.length]; exact hz) (ksk_s1 _ _) (fun _ => ksk_l1 _ _) fun E' => ?_
  rw [ksk_t1]
  have I1 : Inv X (pf ++ pins) σ H { s with heap := copyHeap s.heap its, toks := s.toks } := I.kept fun b o q => copyHeap_old q
  refine key_tree (s := { s with heap := copyHeap s.heap its }) T I1 wa na (copyHeap_at s.heap its) rv (by rw [← rv.length]; exact hz) hu fun H' s' out c I2 k2 n2 hc ro => ⟨rfl, ?_⟩
  have hlen : (xs.mergeSort fun a b => decide (key a ≤ key b)).length ≤ sizeLine := by
    rw [List.length_mergeSort]
    exact hz
  exact ⟨.ref _, _, inv_track (o := .lst (xs.mergeSort fun a b => decide (key a ≤ key b))) I2 wa n2 ⟨hlen, out, c, ro, hc⟩, rfl, h H' _ k2 n2⟩
end
/-! ### a lambda with one parameter -/
structure Lam1 (sc scope : Scope) (p : Str) : Prop where
  kind : scope.kind = .function
  co : scope.isCoroutine = false
  gen : scope.isGenerator = false
  own : ∀ y ∈ scope.names, y.2 ≠ .cell
  par : scope.names.lookup p = some .local
  loc : ∀ {y}, y ≠ p → scope.names.lookup y ≠ some .local
  free : ∀ y ∈ scope.names, y.2 = .free → sc.names.lookup y.1 = some .cell ∨ sc.names.lookup y.1 = some .free
def lam1B (sc scope : Scope) (p : Str) : Bool :=
  decide (scope.kind = .function) && !scope.isCoroutine && !scope.isGenerator && decide (scope.names.lookup p = some .local) && scope.names.all fun y => !decide (y.2 = .cell) && (!decide (y.2 = .local) || decide (y.1 = p)) && (!decide (y.2 = .free) || decide (sc.names.lookup y.1 = some .cell) || decide (sc.names.lookup y.1 = some .free))
theorem lam1_by {sc scope : Scope} {p : Str} (h : lam1B sc scope p = true) : Lam1 sc scope p := by
  unfold lam1B at h
  simp only [Bool.and_eq_true, Bool.or_eq_true, Bool.not_eq_true', decide_eq_true_eq, decide_eq_false_iff_not, List.all_eq_true] at h
  obtain ⟨⟨⟨⟨h1, h2⟩, h3⟩, h5⟩, h4⟩ := h
  refine ⟨h1, h2, h3, fun y hy => (h4 y hy).1.1, h5, fun {y} n e => ?_, fun y hy e => ?_⟩
  · rcases (h4 _ (PySem.mem_of_lookup e)).1.2 with z | z
    · exact z rfl
    · exact n z
  rcases (h4 y hy).2 with (z | z) | z
  · exact absurd e z
  · exact .inl z
  · exact .inr z
theorem Lam1.has {X : Cx} {scope : Scope} {p : Str} (L : Lam1 X.env.scope scope p) (ok : X.Ok) : ∀ y ∈ scope.names, y.2 = .free → ∃ c, X.env.cells.lookup y.1 = some c := fun y hy e => by
  rcases L.free y hy e with k | k
  · exact ok.has _ (.inl k)
  · exact ok.has _ (.inr k)
/-- the context of the lambda's body -/
def lam1Cx (X : Cx) (A : Around) (s : Shared) (H : Hp) (N : List Str) (scope : Scope) (f c' : Addr) : Cx where
  prog := X.prog
  w := X.w
  K := X.K
  mg := X.mg
  base := X.base
  A := A.deeper (LamX.lamEnv X scope s.heap.objs.size f c')
  N := N
  s_0 := s
  H_0 := H
  env := LamX.lamEnv X scope s.heap.objs.size f c'
  outer := X.stack
  stack := LamX.lamEnv X scope s.heap.objs.size f c' :: X.stack
  ex := []
  fn := fun _ => false
  calm := true
  pn := []
  xe := fun _ _ => False
section
variable {X : Cx} {pins : List (Addr × Obj)} {σ σ' : L2.St} {H : Hp} {s : Shared}
/-- each name of the body that has a value: the parameter, or a name of the maker -/
def Caps (X : Cx) (σ : L2.St) (N : List Str) (σ' : L2.St) (p : Str) (v : V) : Prop :=
  σ'.length = N.length ∧ ∀ (i : Nat) (y : Str) (x : V), N[i]? = some y → σ'[i]? = some (some x) → (y = p ∧ x = v) ∨ (y ≠ p ∧ ∃ j : Nat, X.N[j]? = some y ∧ σ[j]? = some (some x))
theorem lam1_start {A : Around} {N : List Str} {scope : Scope} {p : Str} {v : V} {u : Value} {f c' : Addr} {h₁ : Heap} {tk : Nat} (I : Inv X pins σ H s) (L : Lam1 X.env.scope scope p) (hfr : A.frames = some X.stack) (hd : A.handled = none) (C : Caps X σ N σ' p v) (r : RelV v u)
    (hns : h₁.Ns s.heap.objs.size fun y => [(p, u)].reverse.lookup y) (kp : ∀ b o, s.heap.get? b = some o → h₁.get? b = some o) :
    Inv (lam1Cx X A s H N scope f c') [] σ' H { s with heap := h₁, toks := tk } := by
  have e0 := I.env0
  have hfree := L.has I.ok
  have cm : ∀ {y c}, (cloFrom X.env.cells scope.names []).lookup y = some c → X.env.cells.lookup y = some c := fun {y c} e => by
    rcases cloFrom_mem (PySem.mem_of_lookup e) with hm | ⟨h1, h2⟩
    · cases hm
    · obtain ⟨c1, hc⟩ := hfree _ h1 rfl
      have hc : X.env.cells.lookup y = some c1 := hc
      have e2 : c = c1 := by rw [h2, hc] <;> rfl
      rw [e2]
      exact hc
  have look : ∀ {y}, scope.names.lookup y = some .free → ∃ c, (cloFrom X.env.cells scope.names []).lookup y = some c := fun {y} hl =>
    mem_lookup (cloFrom_has (cells := X.env.cells) (acc := []) (PySem.mem_of_lookup hl))
  have cellK : ∀ {c : Addr} {z : Option Value}, s.heap.IsCell c z → h₁.IsCell c z := fun {c z} ⟨o, ho, hd⟩ => ⟨o, kp _ _ ho, hd⟩
  have noA : ∀ b : Addr, b ∉ (lam1Cx X A s H N scope f c').ex := fun b z => by cases z
  constructor
  case ok =>
    constructor
    case mod => exact e0.mod
    case kind => exact L.kind
    case glob => exact rfl
    case blt => exact rfl
    case above => exact Nat.le_refl _
    case inj => exact fun y z c e1 e2 => I.ok.inj y z c (cm e1) (cm e2)
    case has =>
      intro y hy
      have hy : scope.names.lookup y = some .cell ∨ scope.names.lookup y = some .free := hy
      rcases hy with hy | hy
      · exact absurd rfl (L.own _ (PySem.mem_of_lookup hy))
      · exact look hy
    case cab =>
      intro y c z _
      have z : false = true := z
      cases z
    case hd => exact fun _ => hd
    case frames => exact Around.frames_deeper hfr
    case stk => exact .inr ⟨rfl, rfl⟩
    case exf => exact fun b z => absurd z (noA b)
    case bs => exact e0.bs
    case bsz => exact e0.bsz
    case noex => exact fun b _ _ => noA b
    case exfs => exact fun b z => absurd z (noA b)
    case funs => exact e0.funs
    case frf => exact e0.frf
  case os => exact rfl
  case bare => exact e0.bare
  case base => exact Un.kept kp
  case loc =>
    refine ⟨_, hns, fun i y x e1 e2 e3 => ?_⟩
    rcases C.2 i y x e1 e2 with ⟨ey, ex⟩ | ⟨ny, j, j1, j2⟩
    · rw [ey, ex]
      exact ⟨u, r, .inl ⟨L.par, by simp⟩⟩
    · have e3 : Vis scope y := e3
      rcases e3 with k | k | k
      · exact absurd k (L.loc ny)
      · exact absurd rfl (L.own _ (PySem.mem_of_lookup k))
      · obtain ⟨m, hn, hl⟩ := I.loc
        have hvis : Vis X.env.scope y := (L.free _ (PySem.mem_of_lookup k) rfl).elim (fun k => .inr (.inl k)) (fun k => .inr (.inr k))
        obtain ⟨w', r', q⟩ := hl j y x j1 j2 hvis
        obtain ⟨c2, h2⟩ := look k
        refine ⟨w', r', .inr ⟨.inr k, c2, h2, ?_⟩⟩
        have c1 := cm h2
        rcases q with ⟨k', _⟩ | ⟨_, c3, e', z⟩
        · have k' : X.env.scope.names.lookup y = some .local := k'
          rcases L.free _ (PySem.mem_of_lookup k) rfl with k2 | k2 <;> rw [show X.env.scope.names.lookup y = _ from k2] at k' <;> cases k'
        · rw [c1] at e'
          cases e'
          exact cellK z
  case cell =>
    intro y c e
    obtain ⟨w', z⟩ := I.cell y c (cm e)
    exact ⟨w', cellK z⟩
  case free => exact e0.hok.fresh (Nat.le_refl _)
  case freeC => exact fun y c e => I.freeC y c (cm e)
  case pin => exact fun q hq => absurd (show q ∈ ([] : List (Addr × Obj)) ++ [] from hq) (by simp)
  case hok => exact e0.hok.kept kp
  case len => exact C.1
/-- the lambda as a key -/
theorem lam1_turn {A : Around} {k : Nat} {N : List Str} {scope : Scope} {p : Str} {f c' : Addr} {params : Arguments} {body : Expr} {pm ctv : Value} {xs : List V} {key : V → Int} {τ : V → L2.St} (L : Lam1 X.env.scope scope p) (hc : H c' = some (LamX.CodeO c' (X.env.qual ++ "<lambda>")))
    (hA : A.frames = some X.stack) (hr : Room (k + 1) A) (hbind : ∀ u, bindArgs (PySem.W.kla_fn "<lambda>" (X.env.qual ++ "<lambda>") params body scope (cloFrom X.env.cells scope.names []) pm (.ref c') ctv) ⟨[u], []⟩ = pure [(p, u)])
    (hC : ∀ v, v ∈ xs → Caps X σ N (τ v) p v)
    (hbody : ∀ (s : Shared) (H1 : Hp) (v : V), v ∈ xs → Kp [] H H1 → Room k (A.deeper (LamX.lamEnv X scope s.heap.objs.size f c')) → ∃ tb, PE (lam1Cx X A s H1 N scope f c') body tb ∧ tb (τ v) H1 fun x H2 => x = .int (key v) ∧ Kp [] H1 H2) :
    KeyTurn X A σ H [(f, PySem.W.kla_obj "<lambda>" (X.env.qual ++ "<lambda>") params body scope (cloFrom X.env.cells scope.names []) pm c' ctv)] (.ref f) xs key := by
  intro pl s1 H1 v u I1 k1 hv r
  have hf := (I1.pin _ (List.mem_append_right _ (List.mem_append_left _ (.head _)))).1
  obtain ⟨⟨oc, vs, t, hoc, hdc, hvc⟩, _, _⟩ := I1.hok c' _ (k1.g0 hc)
  have rc : codeAny (model X.prog X.w) A (.call (.ref f) ⟨[u], []⟩) (fun r s' => ∃ z, r = .ok (.ret z) ∧ CE X.stack X.prog X.w H1 s1 (fun x H2 => x = .int (key v) ∧ Kp [] H1 H2) z s') s1 := by
    refine PySem.W.kla_callFunE hr.depth hf rfl L.co L.gen rfl ⟨c', oc, vs, t, rfl, hoc, hdc, hvc⟩ ?_
    rw [hbind]
    refine wpAny_pure (wpAny_newFunctionEnv (fun y hy => L.own y hy) (fun y hy => ?_) (fun h₁ hns hsb => ⟨I1.nolimit.fresh _ hsb, ?_⟩) L.kind)
    · rw [List.mem_singleton.mp hy]
      exact L.par
    show codeAny _ _ (.expr body (LamX.lamEnv X scope s1.heap.objs.size f c')) _ _
    have kp : ∀ b o, s1.heap.get? b = some o → h₁.get? b = some o := fun b o e => hsb.extBut b o (Nat.ne_of_lt (Heap.lt_size e)) (Heap.get?_push_of_some _ e)
    have J : Inv (lam1Cx X A s1 H1 N scope f c') [] (τ v) H1 { s1 with heap := h₁, toks := s1.toks + [(p, u)].length } := lam1_start I1 L hA hr.hd (hC v hv) r hns kp
    obtain ⟨tb, hp, ht⟩ := hbody s1 H1 v hv k1 (hr.deeper _)
    refine PySem.W.kla_codeExpr (wpAny_mono (hp.run [] _ _ _ _ J ht) (fun z s' hq => ?_) fun e s' hq => (show False from hq).elim)
    obtain ⟨w', H', J', rv, q⟩ := hq
    exact ⟨z, rfl, w', H', J'.os, J'.bare, J'.base, J'.hok, rv, q⟩
  refine wpAny_call (codeAny_mono rc fun r s' hq => ?_)
  obtain ⟨z, rfl, ce⟩ := hq
  obtain ⟨x, H2, I2, rx, ex, k2⟩ := I1.after ce
  rw [ex] at rx
  obtain ⟨t', e⟩ := rx
  exact ⟨H2, t', I2, k2, e⟩
/-- a made function is pinned -/
theorem fn_pin {f : Addr} {o : Obj} {fd : FuncData} (I : Inv X pins σ H s) (hf : s.heap.get? f = some o) (hd : o.data = .func fd) (hn : H f = none) (hfr : f ∉ frs X.stack) : Inv X ([(f, o)] ++ pins) σ H s :=
  I.pins_of fun p hp => by
    rcases List.mem_append.mp hp with z | z
    · rw [List.mem_singleton.mp z]
      refine ⟨hf, hn, fun e => ?_, fun e => ?_, fun v e => ?_⟩
      · obtain ⟨m, ⟨ol, es, ep, ho, hdl, _⟩, _⟩ := I.loc
        have e : f = X.env.locals := e
        rw [← e, hf] at ho
        cases ho
        rw [hd] at hdl
        cases hdl
      · rcases I.ok.stk with k | ⟨k, _⟩
        · exact hfr (by rw [k]; exact e)
        · refine hfr ?_
          rw [k]
          unfold frs
          rw [List.filterMap_cons]
          have e : f ∈ frs X.outer := e
          unfold frs at e
          split
          · exact e
          · exact List.mem_cons_of_mem _ e
      · have e : o.data = .cell v := e
        rw [hd] at e
        cases e
    · exact I.pin p (List.mem_append_right _ z)
theorem ep_less {q : Addr × Obj} {Q : VK} {u : Value} {s' : Shared} (h : EP X ([q] ++ pins) σ Q u s') : EP X pins σ Q u s' := by
  obtain ⟨v, H', I, r, h⟩ := h
  exact ⟨v, H', I.pins_of fun p hp => I.pin p (List.mem_append_right _ (List.mem_append_right _ hp)), r, h⟩
/-- the names of the body, told by the maker's -/
def CapsN (N0 : List Str) (σ : L2.St) (N : List Str) (σ' : L2.St) (p : Str) (v : V) : Prop :=
  σ'.length = N.length ∧ ∀ (i : Nat) (y : Str) (x : V), N[i]? = some y → σ'[i]? = some (some x) → (y = p ∧ x = v) ∨ (y ≠ p ∧ ∃ j : Nat, N0[j]? = some y ∧ σ[j]? = some (some x))
theorem sq_ext {K : PySem.W.Frag} {H H' : Hp} {l : Addr} {xs : List V} (e : LamX.ExtN H H') (h : SqL K H l xs) : SqL K H' l xs := by
  rcases h with (h | ⟨o, h⟩) | h
  · exact .inl (.inl (e _ _ h fun ps z => by cases z))
  · exact .inl (.inr ⟨o, e _ _ h fun ps z => by cases z⟩)
  · exact .inr h
/-- sorted(e, key=lambda p: body) -/
def tSortKey (K : PySem.W.Frag) (T : List (Addr × Str)) (N0 N : List Str) (p : Str) (t : TA) (tb : TE) : TE := fun σ H Q => t σ H fun vs H1 => ∃ (l : Addr) (xs : List V) (key : V → Int) (τ : V → L2.St), vs = [.ref l] ∧ SqL K H1 l xs ∧ LamX.Tabs T H1 ∧
  (∀ v, v ∈ xs → CapsN N0 σ N (τ v) p v) ∧ ∀ H2, LamX.ExtN H1 H2 → LamX.Tabs T H2 → (∀ (H3 : Hp) (v : V), v ∈ xs → Kp [] H2 H3 → tb (τ v) H3 fun x H4 => x = .int (key v) ∧ Kp [] H3 H4) ∧
    ∀ (H3 : Hp) (q : Addr), Kp [] H2 H3 → H3 q = none → Q (.ref q) (upd H3 q (.lst (xs.mergeSort fun a b => decide (key a ≤ key b))))
theorem pe_sortKey {T : List (Addr × Str)} {N : List Str} {k : Nat} {c P : Addr} {scope : Scope} {p : Str} {params : Arguments} {e body : Expr} {t : TA} {tb : TE} {p1 kpos lpos pos : Pos} (hg : Gl X "sorted") (hm : X.mg "sorted" = none) (ha : PA X [e] t)
    (TB : LamX.TabB X.base X.mg c P) (hcode : X.env.code = .ref c) (hmT : (P, X.env.qual ++ "<lambda>") ∈ T) (huT : ∀ p ∈ T, p.1 = P → p.2 = X.env.qual ++ "<lambda>") (hr : Room (k + 3) X.A) (L : Lam1 X.env.scope scope p) (hdef : defaultsOf params X.env = ([], []))
    (hbind : ∀ (q : Str) (cl : List (Str × Addr)) (pm cv ctv u : Value), bindArgs (PySem.W.kla_fn "<lambda>" q params body scope cl pm cv ctv) ⟨[u], []⟩ = pure [(p, u)])
    (hbody : ∀ (s : Shared) (H : Hp) (f c' : Addr), Room k (X.A.in1.in1.deeper (LamX.lamEnv X scope s.heap.objs.size f c')) → PE (lam1Cx X X.A.in1.in1 s H N scope f c') body tb)
    (he : backTo pos (starEach [e] X.env) = (false, eval e X.env) :: backTo pos (starEach [] X.env) := by rfl) (hpl : (backTo pos (starEach [e] X.env)).any (·.1) = false := by rfl) :
    PE X (.Call (.Name "sorted" p1) [e] [⟨some "key", .Lambda params body scope lpos, kpos⟩] pos) (tSortKey X.K T X.N N p t tb) := by
  refine ⟨fun pins s σ H Q I h => ?_⟩
  refine wpAny_Call_Name_kw (ld_blt I hg hm (show bootBuiltins "sorted" = some (.builtin "sorted") by rfl) ?_ (by decide) (by decide))
  refine PyProof.Rows.callWith_kw (thn (ha.run pos pins s σ H _ I h) fun us s1 ⟨vs, H1, I1, r1, q1⟩ => ?_) he hpl rfl rfl
  obtain ⟨l, xs, key, τ, rfl, hs, hT, hC, q⟩ := q1
  obtain rfl := Vals.ref1 r1
  show wpAny _ _ (evalAll ((do let v ← eval (.Lambda params body scope lpos) X.env; standAt pos; pure v) :: [])) _ _ s1
  refine wpAny_evalAll_cons (wpAny_bind (LamX.lam_make2 I1 TB hcode hmT huT hT hdef (L.has I1.ok) fun f c' pm ctv H2 s2 I2 eN T2 hf hfn hfr hco => wpAny_bind (wpAny_standAt (wpAny_pure (wpAny_evalAll_nil ?_)))))
  obtain ⟨hb, hq⟩ := q H2 eN T2
  show wpAny _ _ (call (.builtin "sorted") [.ref l] [(Str.ofString "key", .ref f)]) _ _ s2
  refine wpAny_mono (sorted_key (lam1_turn L hco I2.ok.frames hr.in1.in1 (fun u => hbind _ _ _ _ _ u) hC fun s H3 v hv k3 hr3 => ⟨tb, hbody s H3 f c' hr3, hb H3 v hv k3⟩) (fn_pin I2 hf rfl hfn hfr) (sq_ext eN hs) (by have := hr.units; omega) hq) (fun u s' h => ep_less h) fun _ _ h => h
end
end RD
namespace RD
open PySem PySem.Spec PyProof.Rows L2 PySem.W
section
variable {X : Cx} {pins pf : List (Addr × Obj)} {σ : L2.St} {H : Hp} {s : Shared}
theorem Own.cons {pn : List (Addr × Obj)} {q : Addr × Obj} {b : Addr} (w : Own X (pf ++ pn) b) (n : q.1 ≠ b) : Own X (pf ++ (q :: pn)) b :=
  ⟨w.1, w.2.1, w.2.2.1, w.2.2.2.1, fun p hp => by
    rcases List.mem_append.mp hp with z | z
    · exact w.2.2.2.2 p (List.mem_append_left _ z)
    · rcases List.mem_append.mp z with z | z
      · exact w.2.2.2.2 p (List.mem_append_right _ (List.mem_append_left _ z))
      · rcases List.mem_cons.mp z with z | z
        · rw [z]
          exact n
        · exact w.2.2.2.2 p (List.mem_append_right _ (List.mem_append_right _ z))⟩
/-- the first of the least -/
def Least (xs : List V) (key : V → Int) (i : Nat) (b : V) : Prop := xs[i]? = some b ∧ ∀ (j : Nat) (z : V), xs[j]? = some z → key b ≤ key z ∧ (j < i → key b < key z)
theorem min_loop {A : Around} {f : Addr} {key : V → Int} {xs : List V} {l Ia S : Addr} {kw : List (Str × Value)} {R : Result → Shared → Prop} (hh : A.handled = none) (T : KeyTurn X A.in1 σ H pf (.ref f) xs key) (hs : SqL X.K H l xs) (hlI : l ≠ Ia) (hSI : S ≠ Ia)
    (wS : Own X (pf ++ pins) S) (wI : Own X (pf ++ pins) Ia)
    (hR : ∀ H2 s2 i b vb, Inv X (pf ++ pins) σ H2 s2 → Kp [] H H2 → Least xs key i b → RelV b vb → R (.ok (.ret vb)) s2) :
    ∀ (r j i : Nat) (s1 : Shared) (H1 : Hp) (b : V) (vb : Value) (tb : Tok) (c : Nat) (oI : Obj), xs.length - (j + 1) = r → j + 1 ≤ xs.length → Inv X (pf ++ ((S, seqObj "list" #[vb, .int (key b) tb] c) :: (Ia, oI) :: pins)) σ H1 s1 → Kp [] H H1 → s1.heap.IsListIter Ia l (j + 1) →
      xs[i]? = some b → RelV b vb → i ≤ j → (∀ (j' : Nat) (z : V), j' ≤ j → xs[j']? = some z → key b ≤ key z ∧ (j' < i → key b < key z)) →
      codeAny (model X.prog X.w) A (.builtin "min.loop" ⟨[.ref Ia, .ref f, .ref S], kw⟩) R s1 := by
  have hname : (toString "min" ++ toString ".loop" : String) = "min.loop" := by decide
  intro r
  induction r with
  | zero =>
    intro j i s1 H1 b vb tb c oI hr hj I1 k1 hit hb rb hij hbest
    have hin : j + 1 = xs.length := by omega
    have nS := inv_head I1
    have nI := inv_head (inv_unpin I1)
    obtain ⟨its, rv, hl, hz⟩ := I1.list (sl_kp k1 (by simp) hs)
    have W := Walks.list (prog := X.prog) (w := X.w) (A := A.in1) hh Ia l hlI its.toArray
    have hsz : its.toArray.size = xs.length := by rw [List.size_toArray, rv.length]
    refine codeAny_builtin (id := "min.loop") PySem.F.entry_min_loop ?_
    rw [Around.under_plainId PySem.F.plain_min_loop _]
    show wpAny (model X.prog X.w) A.in1 (seqItems? (.ref S) >>= _) _ _ _
    refine wpAny_bind (wpAny_seqItems (s := s1) nS.1 rfl ?_)
    show wpAny (model X.prog X.w) A.in1 (tryCatch (pyNext (.ref Ia)) _ >>= _) _ _ _
    refine wpAny_bind (wpAny_tryCatch (W.done s1 _ _ ⟨by rw [hsz, ← hin]; exact hit, hl.isList⟩ fun h' tk' hk' => ?_))
    have hS' := hk' S _ (by simpa using hSI) nS.1
    have I2 : Inv X (pf ++ ((S, seqObj "list" #[vb, .int (key b) tb] c) :: pins)) σ H1 { s1 with heap := h', toks := tk' } :=
      inv_pin (inv_turn (inv_unpin (inv_unpin I1)) wI nI.2 fun a o ha q => hk' a o (by simpa using ha) q) wS nS.2 hS' (fun _ z => by cases z)
    have I3 : Inv X (pf ++ pins) σ H1 { s1 with heap := h'.update S (Obj.mapSeq fun _ => (#[] : Array Value)), toks := tk' } :=
      inv_turn (s := { s1 with heap := h', toks := tk' }) (inv_unpin I2) wS nS.2 fun a o ha q => ((Heap.SameBut.update h' S _).2 a ha).trans q
    show wpAny (model X.prog X.w) A.in1 (updateSeq S (fun _ => #[]) >>= _) _ _ _
    refine wpAny_bind (wpAny_updateSeq hS' rfl (wpAny_bind (wpAny_letGo (wpAny_pure ?_))))
    exact hR H1 _ i b vb I3 k1 ⟨hb, fun j' z hz' => hbest j' z (by have := (List.getElem?_eq_some_iff.mp hz').1; omega) hz'⟩ rb
  | succ r ih =>
    intro j i s1 H1 b vb tb c oI hr hj I1 k1 hit hb rb hij hbest
    have hlt : j + 1 < xs.length := by omega
    have nS := inv_head I1
    have nI := inv_head (inv_unpin I1)
    obtain ⟨its, rv, hl, hz⟩ := I1.list (sl_kp k1 (by simp) hs)
    have W := Walks.list (prog := X.prog) (w := X.w) (A := A.in1) hh Ia l hlI its.toArray
    have hsz : its.toArray.size = xs.length := by rw [List.size_toArray, rv.length]
    refine codeAny_builtin (id := "min.loop") PySem.F.entry_min_loop ?_
    rw [Around.under_plainId PySem.F.plain_min_loop _]
    show wpAny (model X.prog X.w) A.in1 (seqItems? (.ref S) >>= _) _ _ _
    refine wpAny_bind (wpAny_seqItems (s := s1) nS.1 rfl ?_)
    show wpAny (model X.prog X.w) A.in1 (tryCatch (pyNext (.ref Ia)) _ >>= _) _ _ _
    refine wpAny_bind (wpAny_tryCatch (W.item (j + 1) s1 _ _ (by rw [hsz]; exact hlt) ⟨hit, hl.isList⟩ fun u h' tk' hP hst' hk' => ?_))
    have hu : its[j + 1]? = some u := by simpa using hP
    obtain ⟨x, hx⟩ : ∃ x, xs[j + 1]? = some x := ⟨_, List.getElem?_eq_getElem hlt⟩
    obtain ⟨u', hu', rx⟩ := Vals.get rv hx
    rw [hu] at hu'
    cases hu'
    obtain ⟨oI', hoI', hoc, hod⟩ := id hst'.1
    have hS' := hk' S _ (by simpa using hSI) nS.1
    have I2 : Inv X (pf ++ ((S, seqObj "list" #[vb, .int (key b) tb] c) :: (Ia, oI') :: pins)) σ H1 { s1 with heap := h', toks := tk' } :=
      inv_pin (inv_pin (inv_turn (inv_unpin (inv_unpin I1)) wI nI.2 fun a o ha q => hk' a o (by simpa using ha) q) wI nI.2 hoI' (fun v z => by rw [hod] at z; cases z)) (wS.cons hSI.symm) nS.2 hS' (fun _ z => by cases z)
    show wpAny (model X.prog X.w) A.in1 (tryCatch (holding [u] (call (.ref f) [u])) _ >>= _) _ _ _
    refine wpAny_bind (wpAny_tryCatch (wpAny_holding (wpAny_mono (T _ _ H1 x u I2 k1 (List.mem_of_getElem? hx) rx) (fun z s2 he => ?_) fun _ _ hF => hF.elim)))
    obtain ⟨H2, t2, I3, k2, rfl⟩ := he
    have nS2 := inv_head I3
    have nI2 := inv_head (inv_unpin I3)
    have hit2 : s2.heap.IsListIter Ia l (j + 1 + 1) := ⟨oI', nI2.1, hoc, hod⟩
    show wpAny (model X.prog X.w) A.in1 (tryCatch (holding [u, .int (key x) t2] (richCompare .Lt (.int (key x) t2) (.int (key b) tb) >>= _)) _ >>= _) _ _ _
    refine wpAny_bind (wpAny_tryCatch (wpAny_holding (wpAny_bind (CmpOf.ints_lt (prog := X.prog) (w := X.w) (A := A.in1) (P := fun i v => ∃ t, v = .int (if i = 0 then key x else key b) t) (fun i => if i = 0 then key x else key b) (fun i v h => h) 0 1 _ _ _ _ _ ⟨t2, rfl⟩ ⟨tb, rfl⟩ ?_))))
    refine wpAny_bind (wpAny_holding (wpAny_truthy_bool ?_))
    refine wpAny_bind (wpAny_letGo (wpAny_pure ?_))
    have hxb : ∀ (j' : Nat) (z : V), j' ≤ j + 1 → xs[j']? = some z → j' ≤ j ∨ z = x := fun j' z h1 h2 => by
      by_cases e : j' = j + 1
      · rw [e, hx] at h2
        exact .inr (Option.some.inj h2).symm
      · exact .inl (by omega)
    by_cases hbt : key x < key b
    · obtain ⟨c2, hc2⟩ : ∃ c2, (s2.heap.update S (Obj.mapSeq fun _ => #[u, .int (key x) t2])).get? S = some (seqObj "list" #[u, .int (key x) t2] c2) := ⟨_, get?_update_seq nS2.1 fun _ => #[u, .int (key x) t2]⟩
      have I4 : Inv X (pf ++ ((Ia, oI') :: pins)) σ H2 { s2 with heap := s2.heap.update S (Obj.mapSeq fun _ => #[u, .int (key x) t2]), toks := s2.toks } :=
        inv_turn (inv_unpin I3) (wS.cons hSI.symm) nS2.2 fun a o ha q => ((Heap.SameBut.update s2.heap S _).2 a ha).trans q
      simp only [if_true, if_neg (Nat.succ_ne_zero 0), hbt, decide_true]
      refine wpAny_bind (wpAny_updateSeq nS2.1 rfl (wpAny_bind (wpAny_letGo ?_)))
      rw [hname]
      refine wpAny_pure ⟨plainId_quiet PySem.F.plain_min_loop _, ih (j + 1) (j + 1) _ H2 x u t2 c2 oI' (by omega) hlt (inv_pin I4 (wS.cons hSI.symm) nS2.2 hc2 (fun _ z => by cases z)) (k1.trans k2) ?_ hx rx (Nat.le_refl _) fun j' z hj' hz' => ?_⟩
      · exact ⟨oI', ((Heap.SameBut.update s2.heap S _).2 Ia hSI.symm).trans nI2.1, hoc, hod⟩
      · rcases hxb j' z hj' hz' with e | e
        · have h1 := (hbest j' z e hz').1
          exact ⟨by omega, fun _ => by omega⟩
        · rw [e]
          refine ⟨Int.le_refl _, fun hlt' => ?_⟩
          have h1 := hbest j' z (by omega) hz'
          rw [e] at h1
          omega
    · simp only [if_true, if_neg (Nat.succ_ne_zero 0), hbt, decide_false, Bool.false_eq_true, if_false]
      refine wpAny_bind (wpAny_letGo ?_)
      rw [hname]
      refine wpAny_pure ⟨plainId_quiet PySem.F.plain_min_loop _, ih (j + 1) i _ H2 b vb tb c oI' (by omega) hlt I3 (k1.trans k2) hit2 hb rb (by omega) fun j' z hj' hz' => ?_⟩
      rcases hxb j' z hj' hz' with e | e
      · exact hbest j' z e hz'
      · rw [e]
        refine ⟨by omega, fun hlt' => ?_⟩
        have h1 := hbest j' z (by omega) hz'
        rw [e] at h1
        exact h1.2 hlt'
theorem min_args (a v u : Value) : argsOk "min" ⟨[a], [(Str.ofString "key", v), (Str.ofString "default", u)]⟩ := by unfold argsOk; kernel_rfl
/-- min(xs, key=f, default=None) -/
theorem min_key {f : Addr} {key : V → Int} {xs : List V} {l : Addr} {Q : VK} (hh : X.A.handled = none) (T : KeyTurn X X.A.in1 σ H pf (.ref f) xs key) (I : Inv X (pf ++ pins) σ H s) (hs : SqL X.K H l xs) (h1 : xs = [] → Q .non H)
    (h2 : ∀ H' i b, Kp [] H H' → Least xs key i b → Q b H') :
    wpAny (model X.prog X.w) X.A (call (.builtin "min") [.ref l] [(Str.ofString "key", .ref f), (Str.ofString "default", .none)]) (EP X (pf ++ pins) σ Q) X.xe s := by
  have hname : (toString "min" ++ toString ".loop" : String) = "min.loop" := by decide
  obtain ⟨its, rv, hl, hz⟩ := I.list hs
  have hll : l < s.heap.objs.size := by
    obtain ⟨ol, hol, _⟩ := hl.isList
    exact Heap.lt_size hol
  refine kmk_tree PySem.F.kind_min PySem.F.plain_min PySem.F.entry_min (min_args _ _ _) ?_
  show wpAny (model X.prog X.w) X.A.in1 (Builtin.Builtins.bindParams "min" ["key", "default"] 0 ⟨[], [(Str.ofString "key", .ref f), (Str.ofString "default", .none)]⟩ >>= _) _ _ s
  refine wpAny_bind (wpAny_of_eq (show Builtin.Builtins.bindParams "min" ["key", "default"] 0 ⟨[], [(Str.ofString "key", .ref f), (Str.ofString "default", .none)]⟩ = pure [some (.ref f), some .none] from rfl) ?_)
  refine wpAny_bind (wpAny_pure (wpAny_bind (wpAny_pyIter_list hl.isList ?_)))
  refine wpAny_bind (wpAny_newList (items := []) ?_ (Nat.zero_le _))
  rw [hname]
  have hS : (s.heap.push { cls := .type "list_iterator", data := .fields #[.ref l, .int 0 0] }).objs.size = s.heap.objs.size + 1 := size_push' ..
  have wI := Own.fresh I (Nat.le_refl _)
  have nI : H s.heap.objs.size = none := I.hok.fresh (Nat.le_refl _)
  have wS : Own X (pf ++ pins) (s.heap.push { cls := .type "list_iterator", data := .fields #[.ref l, .int 0 0] }).objs.size := Own.fresh I (by rw [hS]; exact Nat.le_succ _)
  have nS : H (s.heap.push { cls := .type "list_iterator", data := .fields #[.ref l, .int 0 0] }).objs.size = none := I.hok.fresh (by rw [hS]; exact Nat.le_succ _)
  have hSI : (s.heap.push { cls := .type "list_iterator", data := .fields #[.ref l, .int 0 0] }).objs.size ≠ s.heap.objs.size := by
    rw [hS]
    exact Nat.succ_ne_self _
  have I1 : Inv X (pf ++ pins) σ H { s with heap := (s.heap.push { cls := .type "list_iterator", data := .fields #[.ref l, .int 0 0] }).push (seqObj "list" #[] 0), toks := s.toks } :=
    I.kept fun b o q => Heap.get?_push_of_some _ (Heap.get?_push_of_some _ q)
  have gI : ((s.heap.push { cls := .type "list_iterator", data := .fields #[.ref l, .int 0 0] }).push (seqObj "list" #[] 0)).get? s.heap.objs.size = some { cls := .type "list_iterator", data := .fields #[.ref l, .int 0 0] } := Heap.get?_push_of_some _ (Heap.get?_push_size _ rfl)
  have gS : ((s.heap.push { cls := .type "list_iterator", data := .fields #[.ref l, .int 0 0] }).push (seqObj "list" #[] 0)).get? (s.heap.push { cls := .type "list_iterator", data := .fields #[.ref l, .int 0 0] }).objs.size = some (seqObj "list" #[] 0) := Heap.get?_push_size _ rfl
  refine wpAny_pure ⟨plainId_quiet PySem.F.plain_min_loop _, ?_⟩
  show codeAny _ _ (.builtin "min.loop" ⟨[.ref s.heap.objs.size, .ref f, .ref _], [("default", .none)]⟩) _ { s with heap := (s.heap.push { cls := .type "list_iterator", data := .fields #[.ref l, .int 0 0] }).push (seqObj "list" #[] 0), toks := s.toks }
  generalize (s.heap.push { cls := .type "list_iterator", data := .fields #[.ref l, .int 0 0] }).push (seqObj "list" #[] 0) = h0 at I1 gI gS ⊢
  generalize (s.heap.push { cls := .type "list_iterator", data := .fields #[.ref l, .int 0 0] }).objs.size = S at *
  obtain ⟨its, rv, hl, hz⟩ := I1.list hs
  have W := Walks.list (prog := X.prog) (w := X.w) (A := X.A.in1) hh s.heap.objs.size l (Nat.ne_of_lt hll) its.toArray
  have hsz : its.toArray.size = xs.length := by rw [List.size_toArray, rv.length]
  refine codeAny_builtin (id := "min.loop") PySem.F.entry_min_loop ?_
  rw [Around.under_plainId PySem.F.plain_min_loop _]
  show wpAny (model X.prog X.w) X.A.in1 (seqItems? (.ref S) >>= _) _ _ _
  refine wpAny_bind (wpAny_seqItems gS rfl ?_)
  show wpAny (model X.prog X.w) X.A.in1 (tryCatch (pyNext (.ref s.heap.objs.size)) _ >>= _) _ _ _
  cases xs with
  | nil =>
    refine wpAny_bind (wpAny_tryCatch (W.done { s with heap := h0, toks := s.toks } _ _ ⟨by rw [hsz]; exact ⟨_, gI, rfl, rfl⟩, hl.isList⟩ fun h' tk' hk' => ?_))
    refine wpAny_bind (wpAny_rule (wpAny_pure ?_))
    exact ⟨.non, H, inv_turn (s := { s with heap := h0, toks := s.toks }) I1 wI nI fun a o ha q => hk' a o (by simpa using ha) q, rfl, h1 rfl⟩
  | cons x xs =>
    refine wpAny_bind (wpAny_tryCatch (W.item 0 { s with heap := h0, toks := s.toks } _ _ (by rw [hsz]; exact Nat.succ_pos _) ⟨⟨_, gI, rfl, rfl⟩, hl.isList⟩ fun u h' tk' hP hst' hk' => ?_))
    have hu : its[0]? = some u := by simpa using hP
    have hx : (x :: xs)[0]? = some x := rfl
    obtain ⟨u', hu', rx⟩ := Vals.get rv hx
    rw [hu] at hu'
    cases hu'
    obtain ⟨oI', hoI', hoc, hod⟩ := id hst'.1
    have hS' := hk' S _ (by simpa using hSI) gS
    have I2 : Inv X (pf ++ ((S, seqObj "list" #[] 0) :: (s.heap.objs.size, oI') :: pins)) σ H { s with heap := h', toks := tk' } :=
      inv_pin (inv_pin (inv_turn (s := { s with heap := h0, toks := s.toks }) I1 wI nI fun a o ha q => hk' a o (by simpa using ha) q) wI nI hoI' (fun v z => by rw [hod] at z; cases z)) (wS.cons hSI.symm) nS hS' (fun _ z => by cases z)
    show wpAny (model X.prog X.w) X.A.in1 (tryCatch (holding [u] (call (.ref f) [u])) _ >>= _) _ _ _
    refine wpAny_bind (wpAny_tryCatch (wpAny_holding (wpAny_mono (T _ _ H x u I2 Kp.refl (.head _) rx) (fun z s2 he => ?_) fun _ _ hF => hF.elim)))
    obtain ⟨H2, t2, I3, k2, rfl⟩ := he
    have nS2 := inv_head I3
    have nI2 := inv_head (inv_unpin I3)
    obtain ⟨c2, hc2⟩ : ∃ c2, (s2.heap.update S (Obj.mapSeq fun _ => #[u, .int (key x) t2])).get? S = some (seqObj "list" #[u, .int (key x) t2] c2) := ⟨_, get?_update_seq nS2.1 fun _ => #[u, .int (key x) t2]⟩
    have I4 : Inv X (pf ++ ((s.heap.objs.size, oI') :: pins)) σ H2 { s2 with heap := s2.heap.update S (Obj.mapSeq fun _ => #[u, .int (key x) t2]), toks := s2.toks } :=
      inv_turn (inv_unpin I3) (wS.cons hSI.symm) nS2.2 fun a o ha q => ((Heap.SameBut.update s2.heap S _).2 a ha).trans q
    show wpAny (model X.prog X.w) X.A.in1 (updateSeq S (fun _ => #[u, .int (key x) t2]) >>= _) _ _ _
    refine wpAny_bind (wpAny_updateSeq nS2.1 rfl ?_)
    rw [hname]
    refine wpAny_pure ⟨plainId_quiet PySem.F.plain_min_loop _, min_loop (xs := x :: xs) hh T hs (Nat.ne_of_lt hll) hSI wS wI (fun H3 s3 i b vb I5 k3 hb rb => ⟨b, H3, I5, rb, h2 H3 i b k3 hb⟩) _ 0 0 _ H2 x u t2 c2 oI' rfl (Nat.succ_pos _) (inv_pin I4 (wS.cons hSI.symm) nS2.2 hc2 (fun _ z => by cases z)) k2
      ⟨oI', ((Heap.SameBut.update s2.heap S _).2 _ hSI.symm).trans nI2.1, hoc, hod⟩ hx rx (Nat.le_refl _) fun j' z hj' hz' => ?_⟩
    have e : j' = 0 := by omega
    rw [e] at hz'
    cases hz'
    exact ⟨Int.le_refl _, fun q => by omega⟩
/-- min(e, key=lambda p: body, default=None) -/
def tMinKey (K : PySem.W.Frag) (T : List (Addr × Str)) (N0 N : List Str) (p : Str) (t : TA) (tb : TE) : TE := fun σ H Q => t σ H fun vs H1 => ∃ (l : Addr) (xs : List V) (key : V → Int) (τ : V → L2.St), vs = [.ref l] ∧ SqL K H1 l xs ∧ LamX.Tabs T H1 ∧
  (∀ v, v ∈ xs → CapsN N0 σ N (τ v) p v) ∧ ∀ H2, LamX.ExtN H1 H2 → LamX.Tabs T H2 → (∀ (H3 : Hp) (v : V), v ∈ xs → Kp [] H2 H3 → tb (τ v) H3 fun x H4 => x = .int (key v) ∧ Kp [] H3 H4) ∧
    (xs = [] → Q .non H2) ∧ ∀ (H3 : Hp) (i : Nat) (b : V), Kp [] H2 H3 → Least xs key i b → Q b H3
theorem pe_minKey {T : List (Addr × Str)} {N : List Str} {k : Nat} {c P : Addr} {scope : Scope} {p : Str} {params : Arguments} {e body : Expr} {t : TA} {tb : TE} {p1 kpos lpos dpos npos pos : Pos} {jn : Nat} (hg : Gl X "min") (hm : X.mg "min" = none) (ha : PA X [e] t)
    (TB : LamX.TabB X.base X.mg c P) (hcode : X.env.code = .ref c) (hmT : (P, X.env.qual ++ "<lambda>") ∈ T) (huT : ∀ p ∈ T, p.1 = P → p.2 = X.env.qual ++ "<lambda>") (hr : Room (k + 3) X.A) (L : Lam1 X.env.scope scope p) (hdef : defaultsOf params X.env = ([], []))
    (hbind : ∀ (q : Str) (cl : List (Str × Addr)) (pm cv ctv u : Value), bindArgs (PySem.W.kla_fn "<lambda>" q params body scope cl pm cv ctv) ⟨[u], []⟩ = pure [(p, u)])
    (hbody : ∀ (s : Shared) (H : Hp) (f c' : Addr), Room k (X.A.in1.deeper (LamX.lamEnv X scope s.heap.objs.size f c')) → PE (lam1Cx X X.A.in1 s H N scope f c') body tb)
    (he : backTo pos (starEach [e] X.env) = (false, eval e X.env) :: backTo pos (starEach [] X.env) := by rfl) (hpl : (backTo pos (starEach [e] X.env)).any (·.1) = false := by rfl) :
    PE X (.Call (.Name "min" p1) [e] [⟨some "key", .Lambda params body scope lpos, kpos⟩, ⟨some "default", .Constant .none jn npos, dpos⟩] pos) (tMinKey X.K T X.N N p t tb) := by
  refine ⟨fun pins s σ H Q I h => ?_⟩
  refine wpAny_Call_Name_kw (ld_blt I hg hm (show bootBuiltins "min" = some (.builtin "min") by rfl) ?_ (by decide) (by decide))
  refine PyProof.Rows.callWith_kw (thn (ha.run pos pins s σ H _ I h) fun us s1 ⟨vs, H1, I1, r1, q1⟩ => ?_) he hpl rfl rfl
  obtain ⟨l, xs, key, τ, rfl, hs, hT, hC, q⟩ := q1
  obtain rfl := Vals.ref1 r1
  show wpAny _ _ (evalAll [(do let v ← eval (.Lambda params body scope lpos) X.env; standAt pos; pure v), (do let v ← eval (.Constant .none jn npos) X.env; standAt pos; pure v)]) _ _ s1
  refine wpAny_evalAll_cons (wpAny_bind (LamX.lam_make2 I1 TB hcode hmT huT hT hdef (L.has I1.ok) fun f c' pm ctv H2 s2 I2 eN T2 hf hfn hfr hco => wpAny_bind (wpAny_standAt (wpAny_pure ?_))))
  obtain ⟨hb, hq0, hq⟩ := q H2 eN T2
  have I3 := fn_pin I2 hf rfl hfn hfr
  refine wpAny_evalAll_cons (wpAny_bind (thn ((pe_non (X := X)).run _ s2 σ H2 (fun (x : V) (H3 : Hp) => x = V.non ∧ H3 = H2) I3 ⟨rfl, rfl⟩) fun u s3 ⟨v, H3, I4, rv, ev, eH⟩ => wpAny_bind (wpAny_standAt (wpAny_pure (wpAny_evalAll_nil ?_)))))
  rw [ev] at rv
  rw [eH] at I4
  obtain rfl : u = Value.none := rv
  show wpAny _ _ (call (.builtin "min") [.ref l] [(Str.ofString "key", .ref f), (Str.ofString "default", .none)]) _ _ s3
  refine wpAny_mono (min_key hr.hd (lam1_turn L hco I2.ok.frames hr.in1 (fun u => hbind _ _ _ _ _ u) hC fun s H3 v hv k3 hr3 => ⟨tb, hbody s H3 f c' (hr3.mono (Nat.le_succ _)), hb H3 v hv k3⟩) I4 (sq_ext eN hs) hq0 hq) (fun u s' h => ep_less h) fun _ _ h => h
end
end RD
/-! ### the head of a law whose defs make lambdas -/
namespace RD
open PySem PySem.Spec PyProof.Rows L2 He
section
variable {P : Program} {w : World} {K : PySem.W.Frag} {mg : Str → Option Value} {base : Heap} {CX : CXT} {x qual : Str} {params : Arguments} {body : List Stmt} {scope : Scope} {dvs : List V} {kws : List (Str × V)} {fd : FuncData}
/-- a def whose code object is told -/
theorem fnDc {at_ : Str × Option Str} {N ps : List Str} {k : Nat} {sp : Sp} (F : FunD K x qual params body scope dvs kws (fAd K at_) fd) (S : FnScope N ps scope) (len : ∀ vs H Q E, sp vs H Q E → vs.length = ps.length)
    (hbody : ∀ (A : Around) (outer : List Env) (s : Shared) (H : Hp) (vs : List V) (Q : VK) (E : XK), Room k (A.deeper (envOfC qual scope s.heap.objs.size (fAd K at_) (.ref (codeOf K at_)))) → sp vs H Q E →
      ∃ t, PSs (cxOf CX0 P w K mg base N qual scope (fAd K at_) (.ref (codeOf K at_)) A outer s H E).nox body t ∧ t ⟨fun _ H' => Q .non H', Q, fun _ _ => False, fun _ _ => False⟩ (start N vs) H) : FnOk P w K mg base CX0 (k + 1) (fAd K at_) fd ps sp := by
  obtain ⟨oc, od, dV, kV, doc, pm, an, cdv, ct, osl, e0, lk, hcd, _, _⟩ := F.ex
  obtain ⟨c, hc⟩ := codeIn_ref hcd
  have e : cdv = .ref (codeOf K at_) := by
    rw [hc]
    refine congrArg Value.ref (codeOf_eq lk ?_).symm
    rw [e0]
    exact hc
  subst e0
  subst e
  exact fn_of lk hcd S len fun A outer s H vs Q E hr hsp => let ⟨t, h1, h2⟩ := hbody A outer s H vs Q E hr hsp; ⟨t, h1.nox, h2⟩
end
/-- the tables at the law's entry -/
theorem tabs_nil {tf : List He.Defn} {K : PySem.W.Frag} {T : List (Addr × Str)} {H : Hp} (e : T.map (·.1) = tf.map fun p => (He.cT K p).2) (h : ∀ p ∈ tf.map (He.cT K), H p.2 = some (.tbl #[])) : LamX.Tabs T H := fun p hp => by
  have hm : p.1 ∈ tf.map fun p => (He.cT K p).2 := e ▸ List.mem_map_of_mem hp
  obtain ⟨q, hq, e2⟩ := List.mem_map.mp hm
  refine LamX.TabS.nil ?_
  rw [← e2]
  exact h _ (List.mem_map_of_mem hq)
end RD
/-! ### frames where tables of lambdas may grow -/
namespace RD
open PySem PySem.Spec PyProof.Rows L2 He
def NoTbl (o : HO) : Prop := ∀ t, o ≠ .tbl t
def Kt (T : List (Addr × Str)) (ps : List Addr) (H H' : Hp) : Prop := (∀ b o, H b = some o → NoTbl o → b ∉ ps → H' b = some o) ∧ LamX.Tabs T H'
section
variable {T : List (Addr × Str)} {ps : List Addr} {H H' H'' : Hp} {p q b : Addr} {o : HO}
theorem Kt.refl (h : LamX.Tabs T H) : Kt T ps H H := ⟨fun _ _ e _ _ => e, h⟩
theorem Kt.trans (a : Kt T ps H H') (b : Kt T ps H' H'') : Kt T ps H H'' := ⟨fun c o e n m => b.1 c o (a.1 c o e n m) n m, b.2⟩
theorem Kt.g0 (a : Kt T [] H H') (n : NoTbl o) (e : H b = some o) : H' b = some o := a.1 b o e n (by simp)
theorem Kt.g1 (a : Kt T [p] H H') (n : NoTbl o) (m : b ≠ p) (e : H b = some o) : H' b = some o := a.1 b o e n (by simp [m])
theorem Kt.of0 (a : Kt T [] H H') : Kt T ps H H' := ⟨fun c o e n _ => a.1 c o e n (by simp), a.2⟩
/-- q is none of the things that stand (tables left out) -/
def Frn (H : Hp) (q : Addr) : Prop := ∀ b o, H b = some o → NoTbl o → b ≠ q
theorem Kt.frn (a : Kt T [] H H') {l : Addr} (h : H' l = none) : Frn H l := fun b o e n z => by
  rw [z] at e
  rw [a.g0 n e] at h
  cases h
theorem Frn.kt {l : Addr} (h : Frn H' l) (a : Kt T [] H H') : Frn H l := fun b o e n => h b o (a.g0 n e) n
theorem Frn.kp {l : Addr} (h : Frn H' l) (a : Kp [] H H') : Frn H l := fun b o e n => h b o (a.g0 e) n
theorem Frn.of {l : Addr} (h : H l = none) : Frn H l := fun b o e _ => ne_of_none e h
theorem Kt.ext (a : LamX.ExtN H H') (t : LamX.Tabs T H') : Kt T ps H H' := ⟨fun b o e n _ => a b o e n, t⟩
/-- what a table and its code objects are not -/
def Plain : HO → Prop
  | .tbl _ => False
  | .ext _ => False
  | _ => True
theorem Plain.noTbl (h : Plain o) : NoTbl o := by
  intro t z
  rw [z] at h
  exact h
theorem tabs_kp (h : LamX.Tabs T H) (k : Kp ps H H') (n : ∀ p, p ∈ ps → ∃ o, H p = some o ∧ Plain o) : LamX.Tabs T H' := fun p hp => by
  obtain ⟨tb, h1, h2, h3⟩ := h p hp
  have ne : ∀ b o, H b = some o → ¬ Plain o → b ∉ ps := fun b o e m z => by
    obtain ⟨o', e', w⟩ := n b z
    rw [e] at e'
    cases e'
    exact m w
  refine ⟨tb, k _ _ h1 (ne _ _ h1 (fun z => z)), h2, fun pos cv e => ?_⟩
  obtain ⟨c, e1, e2⟩ := h3 pos cv e
  exact ⟨c, e1, k _ _ e2 (ne _ _ e2 (fun z => z))⟩
theorem Kt.kp (h : LamX.Tabs T H) (k : Kp ps H H') (n : ∀ p, p ∈ ps → ∃ o, H p = some o ∧ Plain o) : Kt T ps H H' := ⟨fun c o e _ m => k c o e m, tabs_kp h k n⟩
theorem Kt.kp0 (h : LamX.Tabs T H) (k : Kp [] H H') : Kt T ps H H' := ⟨fun c o e _ _ => k c o e (by simp), tabs_kp h k (fun _ z => by cases z)⟩
theorem Kt.kp1 (h : LamX.Tabs T H) (k : Kp [p] H H') (e : H p = some o) (w : Plain o) : Kt T [p] H H' := Kt.kp h k fun q hq => by
  rw [List.mem_singleton.mp hq]
  exact ⟨o, e, w⟩
theorem Kt.new (h : LamX.Tabs T H) (e : H p = none) : Kt T ps H (upd H p o) := Kt.kp0 h (Kp.new e)
theorem Kt.wr {u : HO} (a : Kt T ps H H') (h : p ∈ ps) (e : H' p = some u) (w : Plain u) : Kt T ps H (upd H' p o) :=
  ⟨fun c v ev n m => by
    have hc : c ≠ p := fun z => m (z ▸ h)
    rw [upd_ne hc]
    exact a.1 c v ev n m, tabs_kp a.2 (Kp.refl.wr (ps := [p]) (by simp)) fun q hq => by
    rw [List.mem_singleton.mp hq]
    exact ⟨u, e, w⟩⟩
theorem Kt.nw (a : Kt T ps H H') (e : H' p = none) : Kt T ps H (upd H' p o) := a.trans (Kt.new a.2 e)
end
/-! ### a class made with keywords -/
theorem vals_at {xs : List V} {us : List Value} (i : Nat) (h : Vals xs us) : Vals (xs[i]?).toList (us[i]?).toList := by
  cases e : xs[i]? with
  | none => rw [h.none_of e]; exact .nil
  | some x =>
    obtain ⟨u, e2, r⟩ := h.get e
    rw [e2]
    exact .cons r .nil
structure MakKX (P : Program) (w : World) (K : PySem.W.Frag) (mg : Str → Option Value) (base : Heap) (CX : CXT) (k : Nat) (x : Str) (C : Addr) (sp : Sp) (n : Nat) (ks : List Str) (gV : List V → List V → List V) : Prop where
  ex : ∃ (f : Addr) (fd : FuncData) (ps : List Str) (g : List Value → List Value → List Value), Mk K C f ∧ FnOk P w K mg base CX k f fd ps sp ∧ mg x = some (.ref C) ∧ KBn K fd ps (n + 1) ks g gV
theorem pe_makKX {X : Cx} {CX : CXT} {k j n : Nat} {C : Addr} {x : Str} {sp : Sp} {E : XK} {ks : List Str} {gV : List V → List V → List V} {p pos : Pos} {e : Expr} {es : List Expr} {kws : List Keyword} {t tk : TA} (c : MakKX X.prog X.w X.K X.mg X.base CX k x C sp n ks gV) (hr : Room j X.A) (hk : k + 1 ≤ j) (hg : Gl X x) (hx : Passes CX X E) (ha : PA X (e :: es) t) (hkw : PK X kws tk)
    (hall : (backToKw pos (keywordEach kws X.env)).all (·.1.isSome) = true := by rfl) (hks : (backToKw pos (keywordEach kws X.env)).filterMap (·.1) = ks := by rfl) (hdb : (x == ("__debug__" : Str)) = false := by decide)
    (he : starEach (e :: es) X.env = (false, eval e X.env) :: starEach es X.env := by rfl) (hpl : ((backTo pos (starEach (e :: es) X.env)).any (·.1) || (backToKw pos (keywordEach kws X.env)).any (·.1.isNone)) = false := by rfl) :
    PE X (.Call (.Name x p) (e :: es) kws pos) (tMakeK C n ks.length sp gV E t tk) := by
  obtain ⟨f, fd, ps, g, M, F, hm, hb⟩ := c.ex
  exact pe_makeK M F (hr.mono hk) hg hm hb hx ha hkw hall hks hdb he hpl
theorem rd_makeK {σ : L2.St} {H : Hp} {Q : VK} {C : Addr} {n m : Nat} {sp : Sp} {gV : List V → List V → List V} {E : XK} {t tk : TA} (h : t σ H fun vs H1 => tk σ H1 fun zs H2 => vs.length = n ∧ zs.length = m ∧ ∀ x dx, H2 x = none → H2 dx = none → dx ≠ x →
    sp (gV (.ref x :: vs) zs) (upd (upd H2 dx (.own x)) x (.ins C dx [])) (fun v H3 => v = .non ∧ Q (.ref x) H3) E) : tMakeK C n m sp gV E t tk σ H Q := h
/-! ### more readings -/
section
variable {K : PySem.W.Frag} {σ : L2.St} {H : Hp} {Q : VK} {ta : TE}
theorem rd_prop {C : Addr} {sp : Sp} {E : XK} (h : ta σ H fun x H1 => ∃ a dx fs, x = V.ref a ∧ H1 a = some (.ins C dx fs) ∧ sp [.ref a] H1 Q E) : tProp C sp [] E ta σ H Q := h
theorem rd_propX {C a dx : Addr} {fs : List (Str × V)} {R : Addr → Prop} (h : H a = some (.ins C dx fs)) (q : R a) : ∃ a' dx' fs', V.ref a = V.ref a' ∧ H a' = some (.ins C dx' fs') ∧ R a' := ⟨a, dx, fs, rfl, h, q⟩
theorem rd_revL {te : TE} (h : te σ H fun x H1 => ∃ a xs, x = V.ref a ∧ SqL K H1 a xs ∧ ∀ p, H1 p = none → Q (.ref p) (upd H1 p (.lst xs.reverse))) : tRevL K te σ H Q := h
theorem rd_revLX {a : Addr} {xs : List V} {R : List V → Prop} (h : SqL K H a xs) (q : R xs) : ∃ a' ys, V.ref a = V.ref a' ∧ SqL K H a' ys ∧ R ys := ⟨a, xs, rfl, h, q⟩
end
end RD
namespace RD
open PySem PySem.Spec PyProof.Rows L2 He
/-! ### comprehensions that only look -/
theorem filter_take {α : Type} {p : α → Bool} {ns : List α} {i : Nat} (h : i < ns.length) : (ns.take (i + 1)).filter p = (ns.take i).filter p ++ (if p ns[i] = true then [ns[i]] else []) := by
  rw [List.take_succ_eq_append_getElem h, List.filter_append]
  congr 1
  cases e : p ns[i] <;> simp [e]
section
variable {K : PySem.W.Frag} {σ : L2.St} {H : Hp} {te : TE} {tt : TT}
theorem lcF_ints {a D : Addr} {g : TG} {vs : List Nat} {Qd : Hp → Prop} (ns : List Int) (p : Int → Bool) (f : Int → V) (hS : SqL K H a (ns.map V.int)) (hD : H D = none) (hl : ns.length < 1000000)
    (hs : ∀ (i : Nat) (h : i < ns.length) H1 (E : VK) (N : Hp → Prop), Kp [] H H1 → (∀ H4, Kp [] H1 H4 → p ns[i] = true → E (f ns[i]) H4) → (∀ H3, Kp [] H1 H3 → p ns[i] = false → N H3) → g (.int ns[i]) (wipe σ vs) H1 fun σ2 H2 => wipe σ2 vs = wipe σ vs ∧ tt σ2 H2 fun b H3 => if b = true then te σ2 H3 E else N H3)
    (hd : ∀ H', Kp [] H H' → H' D = some (.lst ((ns.filter p).map f)) → Qd H') : LcG (Itl K a) g tt te vs σ D Qd H := by
  refine lcL_ints ns (fun i H' => H' D = some (.lst (((ns.take i).filter p).map f)) ∧ Kp [] H H') ⟨upd_same, Kp.new hD⟩ (fun i H' _ q => sl_kp q.2 (by simp) hS) (fun i hi H' q => ?_) (fun H' q => ?_)
  · refine hs i hi H' _ _ q.2 (fun H4 k4 hp => ?_) (fun H3 k3 hp => ?_)
    · have fl : (((ns.take i).filter p).map f).length < sizeLine := szlt (by
        rw [List.length_map]
        have h1 := List.length_filter_le p (ns.take i)
        rw [List.length_take] at h1
        omega)
      refine ⟨_, k4.g0 q.1, fl, ?_, Kp.mine (q.2.trans k4) hD⟩
      rw [upd_same, filter_take hi, if_pos hp, List.map_append]
      rfl
    · refine ⟨?_, q.2.trans k3⟩
      rw [filter_take hi, if_neg (by rw [hp]; exact Bool.false_ne_true), List.append_nil]
      exact k3.g0 q.1
  · rw [List.take_length] at q
    exact hd H' q.2 q.1
theorem lcF_range {lo : Int} {n : Nat} {D : Addr} {g : TG} {vs : List Nat} {Qd : Hp → Prop} (p : Nat → Bool) (f : Nat → V) (hD : H D = none) (hl : n < 1000000)
    (hs : ∀ (i : Nat) (h : i < n) H1 (E : VK) (N : Hp → Prop), Kp [] H H1 → (∀ H4, Kp [] H1 H4 → p i = true → E (f i) H4) → (∀ H3, Kp [] H1 H3 → p i = false → N H3) → g (.int (lo + i)) (wipe σ vs) H1 fun σ2 H2 => wipe σ2 vs = wipe σ vs ∧ tt σ2 H2 fun b H3 => if b = true then te σ2 H3 E else N H3)
    (hd : ∀ H', Kp [] H H' → H' D = some (.lst (((List.range n).filter p).map f)) → Qd H') : LcG (Itr lo n) g tt te vs σ D Qd H := by
  refine lcR_by (fun i H' => H' D = some (.lst (((List.range i).filter p).map f)) ∧ Kp [] H H') ⟨upd_same, Kp.new hD⟩ (fun i H' hi q => ?_) (fun H' q => hd H' q.2 q.1)
  have er : (List.range (i + 1)).filter p = (List.range i).filter p ++ (if p i = true then [i] else []) := by
    rw [List.range_succ, List.filter_append]
    congr 1
    cases e : p i <;> simp [e]
  refine hs i hi H' _ _ q.2 (fun H4 k4 hp => ?_) (fun H3 k3 hp => ?_)
  · have fl : (((List.range i).filter p).map f).length < sizeLine := szlt (by
      rw [List.length_map]
      have h1 := List.length_filter_le p (List.range i)
      rw [List.length_range] at h1
      omega)
    refine ⟨_, k4.g0 q.1, fl, ?_, Kp.mine (q.2.trans k4) hD⟩
    rw [upd_same, er, if_pos hp, List.map_append]
    rfl
  · refine ⟨?_, q.2.trans k3⟩
    rw [er, if_neg (by rw [hp]; exact Bool.false_ne_true), List.append_nil]
    exact k3.g0 q.1
end
def keyV (f : Int → Int) : V → Int
  | .int i => f i
  | _ => 0
theorem sort_keyV (f : Int → Int) (ns : List Int) : ((ns.map V.int).mergeSort fun a b => decide (keyV f a ≤ keyV f b)) = (ns.mergeSort fun a b => decide (f a ≤ f b)).map V.int :=
  (List.map_mergeSort (f := V.int) (r := fun a b => decide (f a ≤ f b)) (s := fun a b => decide (keyV f a ≤ keyV f b)) fun _ _ _ _ => rfl).symm
end RD
namespace RD
open PySem PySem.Spec PyProof.Rows L2 He
section
variable {K : PySem.W.Frag} {σ : L2.St} {H : Hp} {T : List (Addr × Str)} {N0 N : List Str} {p : Str} {t : TA} {tb : TE} {Q : VK}
theorem rd_sortKey (h : t σ H fun vs H1 => ∃ (l : Addr) (xs : List V) (key : V → Int) (τ : V → L2.St), vs = [.ref l] ∧ SqL K H1 l xs ∧ LamX.Tabs T H1 ∧
  (∀ v, v ∈ xs → CapsN N0 σ N (τ v) p v) ∧ ∀ H2, LamX.ExtN H1 H2 → LamX.Tabs T H2 → (∀ (H3 : Hp) (v : V), v ∈ xs → Kp [] H2 H3 → tb (τ v) H3 fun x H4 => x = .int (key v) ∧ Kp [] H3 H4) ∧
    ∀ (H3 : Hp) (q : Addr), Kp [] H2 H3 → H3 q = none → Q (.ref q) (upd H3 q (.lst (xs.mergeSort fun a b => decide (key a ≤ key b))))) : tSortKey K T N0 N p t tb σ H Q := h
theorem rd_minKey (h : t σ H fun vs H1 => ∃ (l : Addr) (xs : List V) (key : V → Int) (τ : V → L2.St), vs = [.ref l] ∧ SqL K H1 l xs ∧ LamX.Tabs T H1 ∧
  (∀ v, v ∈ xs → CapsN N0 σ N (τ v) p v) ∧ ∀ H2, LamX.ExtN H1 H2 → LamX.Tabs T H2 → (∀ (H3 : Hp) (v : V), v ∈ xs → Kp [] H2 H3 → tb (τ v) H3 fun x H4 => x = .int (key v) ∧ Kp [] H3 H4) ∧
    (xs = [] → Q .non H2) ∧ ∀ (H3 : Hp) (i : Nat) (b : V), Kp [] H2 H3 → Least xs key i b → Q b H3) : tMinKey K T N0 N p t tb σ H Q := h
/-- of a list of ints, at the key f -/
theorem rd_sortI {D : Addr} (f : Int → Int) (ns : List Int) (τ : Int → L2.St) (hS : SqL K H D (ns.map V.int)) (hT : LamX.Tabs T H) (hC : ∀ n, CapsN N0 σ N (τ n) p (.int n))
    (hb : ∀ (H3 : Hp) (n : Int) (Q' : VK), n ∈ ns → Kt T [] H H3 → Q' (.int (f n)) H3 → tb (τ n) H3 Q')
    (hq : ∀ (H3 : Hp) (q : Addr), Kt T [] H H3 → H3 q = none → Q (.ref q) (upd H3 q (.lst ((ns.mergeSort fun a b => decide (f a ≤ f b)).map V.int)))) :
    ∃ (l : Addr) (xs : List V) (key : V → Int) (τ : V → L2.St), [V.ref D] = [.ref l] ∧ SqL K H l xs ∧ LamX.Tabs T H ∧
      (∀ v, v ∈ xs → CapsN N0 σ N (τ v) p v) ∧ ∀ H2, LamX.ExtN H H2 → LamX.Tabs T H2 → (∀ (H3 : Hp) (v : V), v ∈ xs → Kp [] H2 H3 → tb (τ v) H3 fun x H4 => x = .int (key v) ∧ Kp [] H3 H4) ∧
        ∀ (H3 : Hp) (q : Addr), Kp [] H2 H3 → H3 q = none → Q (.ref q) (upd H3 q (.lst (xs.mergeSort fun a b => decide (key a ≤ key b)))) := by
  refine ⟨D, _, keyV f, fun v => match v with | .int n => τ n | _ => [], rfl, hS, hT, fun v hv => ?_, fun H2 e2 t2 => ⟨fun H3 v hv k3 => ?_, fun H3 q k3 nq => ?_⟩⟩
  · obtain ⟨n, _, rfl⟩ := List.mem_map.mp hv
    exact hC n
  · obtain ⟨n, hn, rfl⟩ := List.mem_map.mp hv
    exact hb H3 n _ hn ((Kt.ext e2 t2).trans (Kt.kp0 t2 k3)) ⟨rfl, Kp.refl⟩
  · rw [sort_keyV]
    exact hq H3 q ((Kt.ext e2 t2).trans (Kt.kp0 t2 k3)) nq
theorem rd_minI {D : Addr} (f : Int → Int) (ns : List Int) (τ : Int → L2.St) (hS : SqL K H D (ns.map V.int)) (hT : LamX.Tabs T H) (hC : ∀ n, CapsN N0 σ N (τ n) p (.int n))
    (hb : ∀ (H3 : Hp) (n : Int) (Q' : VK), n ∈ ns → Kt T [] H H3 → Q' (.int (f n)) H3 → tb (τ n) H3 Q')
    (h0 : ∀ (H3 : Hp), ns = [] → Kt T [] H H3 → Q .non H3)
    (h1 : ∀ (H3 : Hp) (i : Nat) (b : Int), Kt T [] H H3 → ns[i]? = some b → (∀ (j : Nat) (z : Int), ns[j]? = some z → f b ≤ f z ∧ (j < i → f b < f z)) → Q (.int b) H3) :
    ∃ (l : Addr) (xs : List V) (key : V → Int) (τ : V → L2.St), [V.ref D] = [.ref l] ∧ SqL K H l xs ∧ LamX.Tabs T H ∧
      (∀ v, v ∈ xs → CapsN N0 σ N (τ v) p v) ∧ ∀ H2, LamX.ExtN H H2 → LamX.Tabs T H2 → (∀ (H3 : Hp) (v : V), v ∈ xs → Kp [] H2 H3 → tb (τ v) H3 fun x H4 => x = .int (key v) ∧ Kp [] H3 H4) ∧
        (xs = [] → Q .non H2) ∧ ∀ (H3 : Hp) (i : Nat) (b : V), Kp [] H2 H3 → Least xs key i b → Q b H3 := by
  refine ⟨D, _, keyV f, fun v => match v with | .int n => τ n | _ => [], rfl, hS, hT, fun v hv => ?_, fun H2 e2 t2 => ⟨fun H3 v hv k3 => ?_, fun e => ?_, fun H3 i b k3 hl => ?_⟩⟩
  · obtain ⟨n, _, rfl⟩ := List.mem_map.mp hv
    exact hC n
  · obtain ⟨n, hn, rfl⟩ := List.mem_map.mp hv
    exact hb H3 n _ hn ((Kt.ext e2 t2).trans (Kt.kp0 t2 k3)) ⟨rfl, Kp.refl⟩
  · exact h0 H2 (List.map_eq_nil_iff.mp e) (Kt.ext e2 t2)
  · obtain ⟨e1, e3⟩ := hl
    rw [List.getElem?_map] at e1
    obtain ⟨n, hn, rfl⟩ := Option.map_eq_some_iff.mp e1
    refine h1 H3 i n ((Kt.ext e2 t2).trans (Kt.kp0 t2 k3)) hn fun j z hz => ?_
    exact e3 j (.int z) (by rw [List.getElem?_map, hz]; rfl)
end
end RD
namespace RD
open PySem PySem.Spec PyProof.Rows L2 He
/-! ### wide divisors, fields that are added to, least of a list -/
theorem wide60 {i j : Int} (h0 : 0 < j) (h1 : j < 1152921504606846976) : CDivW i j := wide_div (b := 60) h0 (by omega) (by decide) (by decide)
theorem ixN_at {n : Nat} {i : Int} (h0 : 0 ≤ i) (h1 : i < n) : ixN n i = some i.toNat := by
  unfold ixN
  rw [if_pos h0, if_pos h1]
section
variable {K : PySem.W.Frag} {σ : L2.St} {H : Hp} {nx bk ct : L2.St → Hp → Prop} {rt : VK} {ta tv : TE} {Q : VK} {v : V} {i j : Int}
theorem rd_sfldaug {rd : V → V → Hp → VK → Prop} {f : Str} (h : ta σ H fun x H1 => ∃ a C dx fs v, x = .ref a ∧ H1 a = some (.ins C dx fs) ∧ Cls K C ∧ NoAttr K C f ∧ fs.lookup f = some v ∧
  tv σ H1 fun y H2 => rd v y H2 fun z H3 => ∃ dx' fs', H3 a = some (.ins C dx' fs') ∧ fs'.length < 1000 ∧ nx σ (upd H3 a (.ins C dx' (putF f z fs')))) : sFldAug K ta tv rd f ⟨nx, rt, bk, ct⟩ σ H := h
theorem rd_sfldaugX {f : Str} {a C dx : Addr} {fs : List (Str × V)} {R : Addr → Addr → V → Prop} (h : H a = some (.ins C dx fs)) (c : Cls K C) (n : NoAttr K C f) (l : fs.lookup f = some v) (q : R a C v) :
    ∃ a' C' dx' fs' v', V.ref a = V.ref a' ∧ H a' = some (.ins C' dx' fs') ∧ Cls K C' ∧ NoAttr K C' f ∧ fs'.lookup f = some v' ∧ R a' C' v' := ⟨a, C, dx, fs, v, rfl, h, c, n, l, q⟩
theorem rd_insX {a C dx : Addr} {fs : List (Str × V)} {R : Addr → List (Str × V) → Prop} (h : H a = some (.ins C dx fs)) (l : fs.length < 1000) (q : R dx fs) : ∃ dx' fs', H a = some (.ins C dx' fs') ∧ fs'.length < 1000 ∧ R dx' fs' := ⟨dx, fs, h, l, q⟩
theorem rd_addI (h : Q (.int (i + j)) H) : rAdd (.int i) (.int j) H Q := ⟨i, j, rfl, rfl, h⟩
theorem rd_subI (h : Q (.int (i - j)) H) : rSub (.int i) (.int j) H Q := ⟨i, j, rfl, rfl, h⟩
theorem rd_minL {a : Addr} {ns : List Int} (h : SqL K H a (ns.map V.int)) (l : 0 < ns.length) (q : ∀ m, m ∈ ns → (∀ y, y ∈ ns → m ≤ y) → Q (.int m) H) : rMin K [.ref a] H Q := ⟨a, ns, rfl, h, l, q⟩
end
/-- an optional int -/
abbrev ov : Option Int → V
  | none => .non
  | some i => .int i
theorem ov_non {o : Option Int} : decide (ov o = V.non) = o.isNone := by
  cases o with
  | none => rfl
  | some i => exact decide_eq_false (by intro z; cases z)
/-- the first on the way from a place on -/
def FirstOf (r place : Int) (xs : List Int) : Option Int → Prop
  | none => xs = []
  | some b => b ∈ xs ∧ ∀ z, z ∈ xs → (b - place) % r ≤ (z - place) % r
end RD
namespace RD
open PySem PySem.Spec PyProof.Rows L2 He
/-! ### look-ups whose value comes out plain -/
def lookV {κ : Type} [DecidableEq κ] : List (κ × V) → κ → Option V
  | [], _ => none
  | (a, v) :: r, k => if a = k then some v else lookV r k
theorem lookV_eq {κ : Type} [DecidableEq κ] (k : κ) : ∀ kvs : List (κ × V), valV kvs k = lookV kvs k
  | [] => rfl
  | (a, v) :: r => by
    unfold lookV
    by_cases h : a = k
    · rw [if_pos h]
      exact valV_pos h
    · rw [if_neg h, valV_neg h]
      exact lookV_eq k r
theorem dg_sl {H : Hp} {a : Addr} {v : V} {kvs : List (Key × V)} {s : Str} (e : H a = some (.dK kvs)) (l : lookV kvs (.inr s) = some v) : DGet H a (.str s) (some v) := dg_sv e ((lookV_eq _ _).trans l)
theorem Kt.mine {T : List (Addr × Str)} {ps : List Addr} {H H' : Hp} {p : Addr} {o u : HO} (a : Kt T ps H H') (f : Frn H p) (e : H' p = some u) (w : Plain u) : Kt T ps H (upd H' p o) :=
  ⟨fun c v ev n m => by
    rw [upd_ne (f c v ev n)]
    exact a.1 c v ev n m, tabs_kp a.2 (Kp.refl.wr (ps := [p]) (by simp)) fun q hq => by
    rw [List.mem_singleton.mp hq]
    exact ⟨u, e, w⟩⟩
theorem Kt.mono {T : List (Addr × Str)} {ps qs : List Addr} {H H' : Hp} (a : Kt T ps H H') (h : ∀ p, p ∈ ps → p ∈ qs) : Kt T qs H H' := ⟨fun c o e n m => a.1 c o e n fun z => m (h c z), a.2⟩
theorem Kt.kpP {T : List (Addr × Str)} {ps qs : List Addr} {H H' H2 : Hp} (a : Kt T ps H H') (k : Kp qs H' H2) (n : ∀ p, p ∈ qs → p ∈ ps ∧ ∃ o, H' p = some o ∧ Plain o) : Kt T ps H H2 := a.trans ((Kt.kp a.2 k fun p hp => (n p hp).2).mono fun p hp => (n p hp).1)
end RD
namespace RD
open PySem PySem.Spec PyProof.Rows L2 He
theorem rd_sumL {K : PySem.W.Frag} {H : Hp} {Q : VK} {a : Addr} {ns : List Int} (h : SqL K H a (ns.map V.int)) (q : Q (.int ns.sum) H) : rSum K [.ref a] H Q := ⟨a, ns, rfl, h, q⟩
end RD
namespace RD
open PySem PySem.Spec PyProof.Rows L2 He
/-! ### defs called with keywords, dicts of ints, dict comprehensions -/
structure CalKX (P : Program) (w : World) (K : PySem.W.Frag) (mg : Str → Option Value) (base : Heap) (CX : CXT) (k : Nat) (x : Str) (sp : Sp) (n : Nat) (ks : List Str) (gV : List V → List V → List V) : Prop where
  ex : ∃ (f : Addr) (fd : FuncData) (ps : List Str) (g : List Value → List Value → List Value), FnOk P w K mg base CX k f fd ps sp ∧ mg x = some (.ref f) ∧ PySem.W.keepIn K (.ref f) = true ∧ KBn K fd ps n ks g gV
theorem pe_calKX {X : Cx} {CX : CXT} {k j n : Nat} {x : Str} {sp : Sp} {E : XK} {ks : List Str} {gV : List V → List V → List V} {p pos : Pos} {e : Expr} {es : List Expr} {kws : List Keyword} {t tk : TA} (c : CalKX X.prog X.w X.K X.mg X.base CX k x sp n ks gV) (hr : Room j X.A) (hk : k ≤ j) (hg : Gl X x) (hx : Passes CX X E) (ha : PA X (e :: es) t) (hkw : PK X kws tk)
    (hall : (backToKw pos (keywordEach kws X.env)).all (·.1.isSome) = true := by rfl) (hks : (backToKw pos (keywordEach kws X.env)).filterMap (·.1) = ks := by rfl) (hdb : (x == ("__debug__" : Str)) = false := by decide)
    (he : starEach (e :: es) X.env = (false, eval e X.env) :: starEach es X.env := by rfl) (hpl : ((backTo pos (starEach (e :: es) X.env)).any (·.1) || (backToKw pos (keywordEach kws X.env)).any (·.1.isNone)) = false := by rfl) :
    PE X (.Call (.Name x p) (e :: es) kws pos) (tCallN n ks.length sp gV E t tk) := by
  obtain ⟨f, fd, ps, g, F, hm, kp, hb⟩ := c.ex
  exact pe_callN F (hr.mono hk) hg hm kp hb hx ha hkw hall hks hdb he hpl
/-- a dict with int keys, by the keys and a function -/
def dmap (xs : List Int) (f : Int → V) : List (Key × V) := xs.map fun x => (Sum.inl x, f x)
def fset {α : Type} (f : Int → α) (a : Int) (v : α) : Int → α := fun x => if x = a then v else f x
theorem dmap_val {f : Int → V} (a : Int) : ∀ xs : List Int, valV (dmap xs f) (.inl a) = if a ∈ xs then some (f a) else none
  | [] => rfl
  | x :: r => by
    have ih := dmap_val (f := f) a r
    unfold dmap at ih ⊢
    rw [List.map_cons]
    by_cases h : x = a
    · subst h
      rw [valV_pos rfl, if_pos (.head _)]
    · rw [valV_neg (fun e => h (Sum.inl.inj e)), ih]
      by_cases h2 : a ∈ r
      · rw [if_pos h2, if_pos (List.mem_cons_of_mem _ h2)]
      · rw [if_neg h2, if_neg (by simp [h2, Ne.symm h])]
theorem dmap_in {f : Int → V} {a : Int} {xs : List Int} (h : a ∈ xs) : valV (dmap xs f) (.inl a) = some (f a) := by rw [dmap_val, if_pos h]
theorem dmap_out {f : Int → V} {a : Int} {xs : List Int} (h : a ∉ xs) : valV (dmap xs f) (.inl a) = none := by rw [dmap_val, if_neg h]
theorem dmap_congr {f g : Int → V} {xs : List Int} (h : ∀ x, x ∈ xs → f x = g x) : dmap xs f = dmap xs g := List.map_congr_left fun x hx => by rw [h x hx]
theorem dmap_new {f : Int → V} {a : Int} {v : V} {xs : List Int} (h : a ∉ xs) : putK (dmap xs f) (.inl a) v = dmap (xs ++ [a]) (fset f a v) := by
  rw [putK_new _ (dmap_out h)]
  unfold dmap
  rw [List.map_append]
  congr 1
  · refine List.map_congr_left fun x hx => ?_
    unfold fset
    rw [if_neg (show ¬ x = a from fun e => h (e ▸ hx))]
  · unfold fset
    simp
theorem dmap_old {f : Int → V} {a : Int} {v : V} {xs : List Int} (h : a ∈ xs) : putK (dmap xs f) (.inl a) v = dmap xs (fset f a v) := by
  unfold putK dmap
  have e : ((xs.map fun x => ((Sum.inl x : Key), f x)).any fun p => decide (p.1 = Sum.inl a)) = true := by
    rw [List.any_eq_true]
    exact ⟨_, List.mem_map_of_mem h, decide_eq_true rfl⟩
  rw [if_pos (by simpa using e), List.map_map]
  refine List.map_congr_left fun x _ => ?_
  unfold fset
  by_cases hx : x = a
  · subst hx
    simp
  · simp [hx]
theorem dmap_len {f : Int → V} {xs : List Int} : (dmap xs f).length = xs.length := List.length_map _
theorem pickI {d : Int} (ns : List Int) (h0 : 0 ≤ d) (h1 : d < ns.length) : ∃ n, n ∈ ns ∧ atI (ns.map V.int) d = some (.int n) := by
  have h : d.toNat < ns.length := by omega
  refine ⟨ns[d.toNat], List.getElem_mem h, ?_⟩
  rw [atI_ints h0 h1, List.getD_eq_getElem?_getD, List.getElem?_eq_getElem h]
  rfl
end RD
namespace RD
open PySem PySem.Spec PyProof.Rows L2 He
section
variable {K : PySem.W.Frag} {σ : L2.St} {H : Hp} {tt : TT} {tk tv : TE} {Q : VK}
/-- what a dict comprehension over J asks -/
def DcG (J : It) (g : TG) (tt : TT) (tk tv : TE) (vs : List Nat) (σ : L2.St) (D : Addr) (Qd : Hp → Prop) (H1 : Hp) : Prop :=
  ∃ W : Nat → Nat → Hp → Prop, (∃ m, W 0 m (upd H1 D (.dK []))) ∧ ∀ i m H, W i m H →
  (J.stop i H ∧ Qd H) ∨ (J.go i H ∧ ∃ Nx : Hp → Prop, (∀ H', Nx H' → ∃ m', m' < m ∧ W (i + 1) m' H') ∧ ∀ x H', J.yld i H x H' → g x (wipe σ vs) H' fun σ2 H2 => wipe σ2 vs = wipe σ vs ∧ tt σ2 H2 fun b H3 =>
    if b = true then tk σ2 H3 fun y H4 => tv σ2 H4 fun z H5 => ∃ kvs k, y = kV k ∧ H5 D = some (.dK kvs) ∧ kvs.length < sizeLine ∧ Nx (upd H5 D (.dK (putK kvs k z))) else Nx H3)
theorem rd_dc {wi : TI} {g : TG} {vs : List Nat} (h : wi σ H fun J H1 => ∀ D, H1 D = none → DcG J g tt tk tv vs σ D (fun H => Q (.ref D) H) H1) : tDc wi g tt tk tv vs σ H Q := h
theorem dcL_ints {a D : Addr} {g : TG} {vs : List Nat} {Qd : Hp → Prop} (ns : List Int) (Pv : Nat → Hp → Prop) (h0 : Pv 0 (upd H D (.dK []))) (hl : ∀ i H, i ≤ ns.length → Pv i H → SqL K H a (ns.map V.int))
    (hs : ∀ (i : Nat) (h : i < ns.length) H, Pv i H → g (.int ns[i]) (wipe σ vs) H fun σ2 H2 => wipe σ2 vs = wipe σ vs ∧ tt σ2 H2 fun b H3 =>
      if b = true then tk σ2 H3 fun y H4 => tv σ2 H4 fun z H5 => ∃ kvs k, y = kV k ∧ H5 D = some (.dK kvs) ∧ kvs.length < sizeLine ∧ Pv (i + 1) (upd H5 D (.dK (putK kvs k z))) else Pv (i + 1) H3) (hd : ∀ H, Pv ns.length H → Qd H) : DcG (Itl K a) g tt tk tv vs σ D Qd H := by
  refine ⟨fun i m H => m = ns.length - i ∧ i ≤ ns.length ∧ Pv i H, ⟨ns.length, by simp, Nat.zero_le _, h0⟩, ?_⟩
  rintro i m H ⟨rfl, hi, p⟩
  have q := hl i H hi p
  by_cases hlt : i < ns.length
  · have e : (ns.map V.int)[i]? = some (.int ns[i]) := by
      rw [List.getElem?_map, List.getElem?_eq_getElem hlt]
      rfl
    refine .inr ⟨⟨_, _, q, e⟩, Pv (i + 1), fun H' p' => ⟨ns.length - (i + 1), by omega, rfl, hlt, p'⟩, fun x H' y => ?_⟩
    obtain ⟨rfl, hz⟩ := y
    have ex := hz _ q
    rw [e] at ex
    cases ex
    exact hs i hlt _ p
  · have e : i = ns.length := by omega
    subst e
    exact .inl ⟨⟨_, q, by rw [List.length_map]; exact Nat.le_refl _⟩, hd H p⟩
theorem rd_dictD {a : Addr} {kvs : List (Key × V)} (h : H a = some (.dK kvs)) (q : ∀ p, H p = none → Q (.ref p) (upd H p (.dK kvs))) : (∃ (a' : Addr) (kvs' : List (Key × V)), [V.ref a] = [.ref a'] ∧ Rd H a' (.dK kvs') ∧ ∀ p, H p = none → Q (.ref p) (upd H p (.dK kvs'))) := ⟨a, kvs, rfl, .inl h, q⟩
theorem dg_ii {a b : Addr} {kvs : List (List Key × V)} {s z : Int} (e : H a = some (.dT kvs)) (eb : H b = some (.tup [.int s, .int z])) : DGet H a (.ref b) (valV kvs [.inl s, .inl z]) := DGet.t (k := [.inl s, .inl z]) e eb
theorem dp_ii {a b : Addr} {kvs : List (List Key × V)} {s z : Int} {v : V} (e : H a = some (.dT kvs)) (eb : H b = some (.tup [.int s, .int z])) (l : kvs.length < sizeLine) : DPut H a (.ref b) v (upd H a (.dT (putK kvs [.inl s, .inl z] v))) := DPut.t (k := [.inl s, .inl z]) e eb l
end
/-- a table of numbers by two ints -/
structure Tab2 (H : Hp) (d : Addr) (g : Int → Int → Int) (m : Nat) : Prop where
  ex : ∃ kvs : List (List Key × V), H d = some (.dT kvs) ∧ kvs.length ≤ m ∧ ∀ s z, (valV kvs [.inl s, .inl z]).getD (.int 0) = .int (g s z)
theorem Tab2.kp {H H' : Hp} {d : Addr} {f : Int → Int → Int} {m : Nat} {ps : List Addr} (B : Tab2 H d f m) (k : Kp ps H H') (n : d ∉ ps) : Tab2 H' d f m := by
  obtain ⟨kvs, h1, h2, h3⟩ := B.ex
  exact ⟨kvs, k _ _ h1 n, h2, h3⟩
theorem Tab2.mono {H : Hp} {d : Addr} {f : Int → Int → Int} {m m' : Nat} (B : Tab2 H d f m) (h : m ≤ m') : Tab2 H d f m' := by
  obtain ⟨kvs, h1, h2, h3⟩ := B.ex
  exact ⟨kvs, h1, Nat.le_trans h2 h, h3⟩
theorem key2_iff {s a z b : Int} : ([Sum.inl a, Sum.inl b] : List Key) = [Sum.inl s, Sum.inl z] ↔ a = s ∧ b = z := by
  constructor
  · intro e
    injection e with e1 e2
    injection e2 with e3 _
    exact ⟨Sum.inl.inj e1, Sum.inl.inj e3⟩
  · rintro ⟨rfl, rfl⟩
    rfl
theorem tab2_put {kvs : List (List Key × V)} {f : Int → Int → Int} {s z v : Int} (h : ∀ s z, (valV kvs [.inl s, .inl z]).getD (.int 0) = .int (f s z)) :
    ∀ a b, (valV (putK kvs [.inl s, .inl z] (.int v)) [.inl a, .inl b]).getD (.int 0) = .int (if a = s ∧ b = z then v else f a b) := by
  intro a b
  rw [valV_put]
  by_cases e : a = s ∧ b = z
  · rw [if_pos e, if_pos (key2_iff.mpr e)]
    rfl
  · rw [if_neg e, if_neg (fun q => e (key2_iff.mp q))]
    exact h a b
end RD

/-! own layer: getters of properties in the head -/
namespace RD
open PySem PySem.Spec PyProof.Rows L2 He
/-- the property object of the class's name, its getter -/
def prA (K : PySem.W.Frag) (c f : Str) : Addr := ma K (ga K c) f
def prG (K : PySem.W.Frag) (c f : Str) : Addr := match PySem.W.recIn K (prA K c f) "property" with
  | some (.ref g :: _) => g
  | _ => 0
def propB (K : PySem.W.Frag) (c f : Str) : Bool :=
  eqO (PySem.W.findIn K (.ref (ga K c)) f) (some (some (.ref (prA K c f)))) && (eqO (PySem.W.specialIn K (.ref (prA K c f)) "__get__") (some (some (.builtin "property.__get__"))) && (decide (PySem.W.takesIn K (.ref (prA K c f)) = some true) && (match PySem.W.recIn K (prA K c f) "property" with
    | some (.ref g :: _) => decide (g = prG K c f)
    | _ => false)))
theorem propB_ok {K : PySem.W.Frag} {c f : Str} (h : propB K c f = true) : PropOf K (ga K c) f (prA K c f) (prG K c f) := by
  obtain ⟨h1, h2⟩ := ba h
  obtain ⟨h3, h4⟩ := ba h2
  obtain ⟨h5, h6⟩ := ba h4
  refine ⟨eqO_ok h1, eqO_ok h3, of_decide_eq_true h5, ?_⟩
  cases e : PySem.W.recIn K (prA K c f) "property" with
  | none =>
    rw [e] at h6
    cases h6
  | some l =>
    rw [e] at h6
    cases l with
    | nil => cases h6
    | cons v r =>
      cases v with
      | ref g =>
        have h7 : g = prG K c f := of_decide_eq_true h6
        exact ⟨r, by rw [h7]⟩
      | _ => cases h6
/-- a property's getter: its class and name, and the def -/
structure GetD where
  cls : Str
  fld : Str
  name : Str
  qual : Str
  params : Arguments
  body : List Stmt
  scope : Scope
def GetD.seen (K : PySem.W.Frag) (d : GetD) : FnW := match K.lookup (prG K d.cls d.fld) with
  | some ⟨_, _, .func fd, _⟩ => some (fd.name, fd.qualname, fd.params, fd.body, fd.scope, fd.globals, fd.closure, fd.builtins)
  | _ => none
def GetD.val (d : GetD) : FnW := some (d.name, d.qual, d.params, .stmts d.body, d.scope, mainGlobals, [], builtinsNs)
def GetD.ok (K : PySem.W.Frag) (d : GetD) : Bool := propB K d.cls d.fld && (PySem.W.keepIn K (.ref (prG K d.cls d.fld)) && (match K.lookup (prG K d.cls d.fld) with
  | some ⟨_, _, .func fd, _⟩ => PySem.W.codeIn K fd.code d.qual && (dflB K fd.defaults [] && kwdB K fd.kwdefaults [])
  | _ => false))
theorem GetD.funD {K : PySem.W.Frag} {d : GetD} (e : d.seen K = d.val) (c : d.ok K = true) : PropOf K (ga K d.cls) d.fld (prA K d.cls d.fld) (prG K d.cls d.fld) ∧ ∃ fd, FunD K d.name d.qual d.params d.body d.scope [] [] (prG K d.cls d.fld) fd := by
  obtain ⟨c0, c1⟩ := ba c
  obtain ⟨kp, c2⟩ := ba c1
  refine ⟨propB_ok c0, ?_⟩
  unfold GetD.seen at e
  cases q : K.lookup (prG K d.cls d.fld) with
  | none =>
    rw [q] at c2
    cases c2
  | some o =>
    obtain ⟨oc, od, dt, osl⟩ := o
    rw [q] at c2 e
    cases dt with
    | func fd =>
      obtain ⟨n1, n2, n3, n4, n5, n6, n7, n8, n9, n10, n11, n12, n13, n14, n15⟩ := fd
      have e2 : (some (n1, n2, n3, n4, n5, n6, n7, n15) : FnW) = some (d.name, d.qual, d.params, .stmts d.body, d.scope, mainGlobals, [], builtinsNs) := e
      injection e2 with e2
      simp only [Prod.mk.injEq] at e2
      obtain ⟨a1, a2, a3, a4, a5, a6, a7, a8⟩ := e2
      subst a1 a2 a3 a4 a5 a6 a7 a8
      have c3 : (PySem.W.codeIn K n13 d.qual && (dflB K n8 [] && kwdB K n9 [])) = true := c2
      obtain ⟨k1, k2⟩ := ba c3
      obtain ⟨k3, k4⟩ := ba k2
      exact ⟨_, ⟨oc, od, n8, n9, n10, n11, n12, n13, n14, osl, rfl, q, k1, dflB_ok k3, kwdB_ok k4⟩, kp⟩
    | _ => cases c2
/-- the head of a law with properties and tables -/
abbrev AlP : Type := AlX × (Bool × List FnW)
def obsP (n : Nat) (fa : List Fa) (fn : List DefD) (gs : List GetD) (tf : List Defn) (ex : PySem.W.Frag → Bool) (g : Addr → Option Obj) : AlP := (obsX n fa fn [] tf ex g, (gs.all (GetD.ok (frT g (asD g n))), gs.map (GetD.seen (frT g (asD g n)))))
structure SaysP (fa : List Fa) (fn : List DefD) (gs : List GetD) (tf : List Defn) (ex : PySem.W.Frag → Bool) (w : World) (h : Heap) (K : PySem.W.Frag) : Prop where
  x : SaysX fa fn [] tf ex w h K
  ok : gs.all (GetD.ok K) = true
  seen : gs.map (GetD.seen K) = gs.map GetD.val
def hookP (n : Nat) (fa : List Fa) (fn : List DefD) (gs : List GetD) (tf : List Defn) (ex : PySem.W.Frag → Bool) : PySem.W.Hook where
  α := AlP
  obs := fun s => obsP n fa fn gs tf ex s.heap.get?
  val := fun w => (valX fn [] w, (true, gs.map GetD.val))
  says := fun w h => ∃ K : PySem.W.Frag, K.In h ∧ SaysP fa fn gs tf ex w h K
  of := fun _ _ e => ⟨_, frT_in, saysX_of (congrArg (fun z : AlP => z.1) e), congrArg (fun z : AlP => z.2.1) e, congrArg (fun z : AlP => z.2.2) e⟩
  keeps := fun _ _ _ ⟨K, hK, c⟩ k => ⟨K, PySem.W.Frag.In.keeps hK k, ⟨⟨c.x.t, c.x.more, c.x.hd, c.x.out, fun p hp => k _ _ (c.x.empty p hp)⟩, c.ok, c.seen⟩⟩
theorem obsP_eq {n : Nat} {fa : List Fa} {fn : List DefD} {gs : List GetD} {tf : List Defn} {ex : PySem.W.Frag → Bool} {g : Addr → Option Obj} {s : Shared} (h : ∀ a, g a = s.heap.get? a) : obsP n fa fn gs tf ex g = (hookP n fa fn gs tf ex).obs s := by
  have e : g = s.heap.get? := funext h
  rw [e] <;> rfl
theorem SaysP.get {fa : List Fa} {fn : List DefD} {gs : List GetD} {tf : List Defn} {ex : PySem.W.Frag → Bool} {w : World} {h : Heap} {K : PySem.W.Frag} (c : SaysP fa fn gs tf ex w h K) {d : GetD} (hd : d ∈ gs) :
    PropOf K (ga K d.cls) d.fld (prA K d.cls d.fld) (prG K d.cls d.fld) ∧ ∃ fd, FunD K d.name d.qual d.params d.body d.scope [] [] (prG K d.cls d.fld) fd := by
  obtain ⟨i, hi, e⟩ := List.mem_iff_getElem.mp hd
  have e1 := congrArg (fun l : List FnW => l[i]?) c.seen
  have e2 : gs[i]? = some d := by rw [List.getElem?_eq_getElem hi, e]
  simp only [List.getElem?_map, e2, Option.map_some, Option.some.injEq] at e1
  exact GetD.funD e1 (List.all_eq_true.mp c.ok d hd)
/-- a property in one piece -/
structure PrpX (P : Program) (w : World) (K : PySem.W.Frag) (mg : Str → Option Value) (base : Heap) (CX : CXT) (k : Nat) (C : Addr) (f : Str) (sp : Sp) : Prop where
  ex : ∃ (p g : Addr) (fd : FuncData) (ps : List Str), Cls K C ∧ PropOf K C f p g ∧ FnOk P w K mg base CX k g fd ps sp ∧ Binds K fd ps []
theorem pe_prpX {X : Cx} {CX : CXT} {k j : Nat} {C : Addr} {f : Str} {sp : Sp} {E : XK} {e : Expr} {pos : Pos} {ta : TE} (c : PrpX X.prog X.w X.K X.mg X.base CX k C f sp) (hr : Room j X.A) (hk : k + 1 ≤ j) (hx : Passes CX X.nox E) (he : PE X e ta)
    (hab : attributeBase e f X.env (eval e X.env) = eval e X.env := by rfl) : PE X (.Attribute e f pos) (tProp C sp [] E ta) := by
  obtain ⟨p, g, fd, ps, cl, hp, F, b⟩ := c.ex
  exact pe_prop he cl hp F (hr.mono hk) b .nil hx hab
end RD

/-! own layer: own exceptions over an own base over ValueError, whose __init__ says super().__init__(text) and sets one field (or none) -/
namespace PySem
namespace ErrX
open PySem.W PySem.Calls PyProof.Rows PySem.HandSPX
/-! ### the text of __init__ -/
def eA1 (f : Str) (p1 p2 : Pos) : Arguments := { posonlyargs := [], args := [{ arg := "self", annotation := none, pos := p1 }, { arg := f, annotation := none, pos := p2 }], vararg := none, kwonlyargs := [], kw_defaults := [], kwarg := none, defaults := [] }
def eSup (txt : Str) (r1 r2 r3 r4 r5 r6 : Pos) : Stmt := .Expr (.Call (.Attribute (.Call (.Name "super" r1) [] [] r2) "__init__" r3) [.Constant (.str txt) 0 r4] [] r5) r6
def eB1 (f txt : Str) (r1 r2 r3 r4 r5 r6 q1 q2 q3 q4 : Pos) : List Stmt := [eSup txt r1 r2 r3 r4 r5 r6, .Assign [.Attribute (.Name "self" q1) f q2] (.Name f q3) q4]
def eS1 (f : Str) : Scope := { kind := .function, names := [(PySem.Str.ofString "self", .local), (f, .local), (PySem.Str.ofString "__class__", .free), (PySem.Str.ofString "super", .globalImplicit)], isGenerator := false, isCoroutine := false, more := [] }
/-- what the written part says of the class x, at C, its field f -/
structure ErrT (P : Program) (K : Frag) (mg : Str → Option Value) (x f : Str) (C : Addr) : Prop where
  gC : mg x = some (.ref C)
  gS : mg "super" = none
  top : (P.main.scope.names.lookup ("super" : Str)).isSome = false
  f1 : (f == ("self" : Str)) = false
  f2 : (("self" : Str) == f) = false
  f3 : (("super" : Str) == f) = false
  f4 : (("__class__" : Str) == f) = false
  f5 : (f == ("__debug__" : Str)) = false
  cls : ∃ nm q N bs bm sn sub ab col dd k0 k1 k2 k3 k5, K.lookup C = some (excClassObj nm q C N bs bm true sn sub ab col dd k0 k1 k2 k3 k5 "ValueError.__new__") ∧ refsVE bm = true
  sa : findIn K (.ref C) "__setattr__" = some (some (.builtin "object.__setattr__"))
  noN : findIn K (.ref C) f = some none
  kC : keepIn K (.ref C) = true
  exC : subIn K (.ref C) (.type "BaseException") = some true
  tyC : typeIn K (.ref C) = some (.type "type")
  slf : mroIn K C (.ref C) = some true
  veC : subIn K (.ref C) (.type "ValueError") = some true
  sup : ks_superIn K C C "__init__" = some (some (.builtin "ValueError.__init__"))
  st : nsIn K cStatics "thirdparty.any" = some none
  fn : ∃ (fI cc cda : Addr) (oc : Value) (od : Option Addr) (doc pm : Value) (an : Option Addr) (ct : Value) (osl : Array (Option Value)) (qual txt : Str) (p1 p2 r1 r2 r3 r4 r5 r6 q1 q2 q3 q4 : Pos),
    findIn K (.ref C) "__init__" = some (some (.ref fI)) ∧ typeIn K (.ref fI) = some (.type "function") ∧ (r3.endLine == r5.line) = true ∧
    K.lookup fI = some ⟨oc, od, .func (ksFn "__init__" qual (eA1 f p1 p2) (eB1 f txt r1 r2 r3 r4 r5 r6 q1 q2 q3 q4) (eS1 f) .none .none doc pm an (.ref cda) ct cc), osl⟩ ∧ codeIn K (.ref cda) qual = true ∧
    (∃ ccl cdd vs ccs file tf, K.lookup cda = some ⟨ccl, cdd, .fields vs, ccs⟩ ∧ vs[2]? = some (.str file tf) ∧ ((P.main.file : Str) == file) = true) ∧ ∃ cl cld csl, K.lookup cc = some ⟨cl, cld, .cell (some (.ref C)), csl⟩
theorem one_size (v : Value) : [v].length ≤ sizeLine := by
  rw [sizeLine_eq]
  exact (by decide : 1 ≤ 16777216)
/-- what __init__ leaves of a fresh exception at x -/
structure InitEnd (h h' : Heap) (x C dx : Addr) (f : Str) (v : Value) : Prop where
  keep : ∀ b o, b ≠ x → h.get? b = some o → h'.get? b = some o
  obj : ∃ t1 : Addr, h'.get? x = some { cls := .ref C, dict := some dx, data := .fields #[.ref t1, .none, .none, .none, .bool false, .none] }
  dbig : h.objs.size ≤ dx
  dne : dx ≠ x
  ns : h'.Ns1 dx (fun y => if y = f then some v else none)
/-- a made exception -/
structure OwnMade (h h' : Heap) (e C d : Addr) (f : Str) (v : Value) : Prop where
  keep : ∀ b o, h.get? b = some o → h'.get? b = some o
  new : h.objs.size ≤ e
  obj : ∃ oe vs, h'.get? e = some oe ∧ oe.cls = .ref C ∧ oe.dict = some d ∧ oe.data = .fields vs ∧ vs[1]? = some .none
  dbig : h.objs.size ≤ d
  dne : d ≠ e
  ns : h'.Ns1 d (fun y => if y = f then some v else none)
section
variable {prog : Program} {w : World} {A : Around} {E : Value → Shared → Prop} {R : Result → Shared → Prop} {s : Shared} {K : Frag} {mg : Str → Option Value} {x f : Str} {C : Addr}
theorem sup_eval {o : Expr} {m txt : Str} {r3 r4 r5 : Pos} {env : Env} (hl : (r3.endLine == r5.line) = true) : eval (.Call (.Attribute o m r3) [.Constant (.str txt) 0 r4] [] r5) env = (do
      let ov ← attributeBase o m env (eval o env)
      standAt r3.atName
      let (f, first) ← holding [ov] (getMethod ov m (L2.plainOf o env))
      callWith r5 f first (backTo r5 (starEach [.Constant (.str txt) 0 r4] env)) []) := by
  show (do
      let ov ← attributeBase o m env (eval o env)
      standAt r3.atName
      methodCall o m r3 r5 env ov 1 (backTo r5 (starEach [.Constant (.str txt) 0 r4] env)) []) = _
  have e : ∀ ov, methodCall o m r3 r5 env ov 1 (backTo r5 (starEach [.Constant (.str txt) 0 r4] env)) [] = _ := fun ov => L2.mcall_line (n := 1) (by rfl) hl
  simp only [e]
/-- super().__init__(text) -/
theorem sup_init {name : Str} {scope : Scope} {body : List Stmt} {fI cc cda L e t0 : Addr} {txt : Str} {r1 r2 r3 r4 r5 r6 : Pos} {fd : FuncData} {of : Obj} {p1 : Pos} {as : List Arg} {Q : Flow → Shared → Prop} {h : Heap} {g : Array GenState} {d : Drawn} {t : Nat} {os : OsState} {m : Str → Option Value} {vs : Array Value} {file : Str} {tf : Tok} {occ : Obj}
    (hks : scope.names.lookup ("super" : Str) = some .globalImplicit) (hkc : scope.names.lookup ("__class__" : Str) = some .free) (hka : scope.names.lookup ("self" : Str) = some .local) (hk : scope.kind = .function) (hin : interactive (ksEnv name scope L fI (.ref cda) cc) = false) (hl : (r3.endLine == r5.line) = true)
    (gS : mg "super" = none) (top : (prog.main.scope.names.lookup ("super" : Str)).isSome = false) (slf : mroIn K C (.ref C) = some true) (veC : subIn K (.ref C) (.type "ValueError") = some true)
    (sup : ks_superIn K C C "__init__" = some (some (.builtin "ValueError.__init__"))) (st : nsIn K cStatics "thirdparty.any" = some none)
    (hcls : ∃ nm q N bs bm sn sub ab col dd k0 k1 k2 k3 k5, K.lookup C = some (excClassObj nm q C N bs bm true sn sub ab col dd k0 k1 k2 k3 k5 "ValueError.__new__") ∧ refsVE bm = true)
    (X : K.In h) (hg : h.Ns mainGlobals mg) (hb : ∃ mb, h.Ns builtinsNs mb ∧ mb "super" = bootBuiltins "super")
    (hf : h.get? fI = some of) (hfd : of.data = .func fd) (hp : fd.params = { posonlyargs := [], args := { arg := "self", annotation := none, pos := p1 } :: as, vararg := none, kwonlyargs := [], kw_defaults := [], kwarg := none, defaults := [] })
    (hcc : h.get? cda = some occ) (hoc : occ.data = .fields vs) (hvs : vs[2]? = some (.str file tf)) (hfile : ((prog.main.file : Str) == file) = true) (hcell : h.IsCell cc (some (.ref C)))
    (hns : h.Ns L m) (hm : m "self" = some (.ref e)) (he : h.get? e = some (excO C t0)) (heL : e ≠ L)
    (hq : ∀ h' tk t1, (∀ b o, b ≠ e → h.get? b = some o → h'.get? b = some o) → h'.get? e = some (excO C t1) → Q .next ⟨h', g, d, tk, os⟩) :
    _root_.PySem.wpAt (model prog w) A (.func body (ksEnv name scope L fI (.ref cda) cc)) (exec (eSup txt r1 r2 r3 r4 r5 r6) (ksEnv name scope L fI (.ref cda) cc)) Q E ⟨h, g, d, t, os⟩ := by
  obtain ⟨nm, q, N, bs, bm, sn, sub, ab, col, dd, k0, k1, k2, k3, k5, hC, hbm⟩ := hcls
  have hcl : clsIn K C = some { name := nm, bases := bs, mro := .ref C :: bm, ns := N, qualname := q, hasDict := true, slotNames := sn, subclasses := sub, abstract := ab, collection := col, hasDel := false } := by unfold clsIn; rw [hC] <;> rfl
  obtain ⟨mb, hbn, hbs⟩ := hb
  have hCo : h.get? C = some (excClassObj nm q C N bs bm true sn sub ab col dd k0 k1 k2 k3 k5 "ValueError.__new__") := X _ _ hC
  have hne : e ≠ C := fun z => by
    rw [z, hCo] at he
    cases he
  unfold eSup
  refine ks_wpAt_Expr_any (ks_wpAt_MethodCall ?_ (sup_eval hl)) hin
  refine ks_wpAt_super_base (env := ksEnv name scope L fI (.ref cda) cc) (ar := { arg := "self", annotation := none, pos := p1 }) hks hkc (by decide) rfl hf hfd (by rw [hp] <;> rfl) rfl hcc hoc hvs hfile top ?_
  refine ks_loadName_global hk hks (loadGlobal_builtin (env := ksEnv name scope L fI (.ref cda) cc) hg gS hbn (hbs.trans (by rfl)) ⟨rfl, ?_⟩)
  refine wpAny_loadName_free hk hkc rfl hcell ?_
  refine wpAny_loadName_local hk hka hns hm ?_
  refine ks_wpAny_isType_cls hCo rfl ⟨rfl, ?_⟩
  refine ks_wpAny_call_super hCo rfl he rfl (fun c z => by cases z) (looks_mroIn X slf) (fun h1 e1 k => ?_)
  have X1 : K.In h1 := X.keeps k
  have he1 := k _ _ he
  have I1 : InstAt h1 e (excO C t0) C none := ⟨he1, rfl, rfl, trivial⟩
  have hI : Looks (model prog w) h1 (isInstance (.ref e) (.type "ValueError")) true := I1.type.andThen (looks_subIn X1 veC)
  have hal : alongIn K "__init__" ((((Value.ref C :: bm).dropWhile (· != .ref C)).drop 1)) = some (some (.builtin "ValueError.__init__")) := by
    have z := sup
    unfold ks_superIn at z
    rw [hcl] at z
    exact z
  refine kxs_getMethod kxs_ValueError (l₀ := Value.ref C :: bm) e1 (looks_opaque X1 st) (fun A Q E s k q => wpAny_bind ((looks_clsIn X1 hcl) A _ E s k (wpAny_pure q))) rfl X1 hal hI hne (by decide) ?_
  have k2 : ∀ b o, h1.get? b = some o → (h1.push (kxs_mw "ValueError.__init__" e)).get? b = some o := fun b o z => Heap.get?_push_of_some _ z
  have hu : (h1.push (kxs_mw "ValueError.__init__" e)).get? h1.objs.size = some (kxs_mw "ValueError.__init__" e) := Heap.get?_push_at rfl rfl
  refine kxs_callWith (i := "ValueError.__init__") (x := e) (by rfl) (Calls.evalArgs_plain (Calls.spliced_cons (Calls.Constant_str (k := 0) (pos := r4) ?_)))
  refine Calls.spliced_nil ⟨hu, ?_⟩
  show wpAny _ _ (call (.ref h1.objs.size) [.str txt _]) _ _ _
  have he2 := k2 _ _ he1
  have hC2 := k2 _ _ (k _ _ hCo)
  refine wpAny_call (codeAny_of_tree ?_)
  show wpAny _ _ (callAny (.ref h1.objs.size) ⟨[.str txt _], []⟩) _ _ _
  simp only [callAny]
  refine wpAny_bind (wpAny_load hu ?_)
  simp only [kxs_mw, show (Value.type "method-wrapper" == Value.type "method" || Value.type "method-wrapper" == Value.type "builtin_function_or_method" || Value.type "method-wrapper" == Value.type "method-wrapper") = true by decide, if_true]
  refine KFB.if_so (by decide) ?_
  refine wpAny_bind (check_bound_init F.excBase_ValueError.toExcCallFacts hC2 he2 rfl ?_)
  refine wpAny_bind (wpAny_pure (wpAny_pure ?_))
  refine ⟨plainId_quiet F.excBase_ValueError.init.plain _, codeAny_builtin F.excBase_ValueError.initEntry ?_⟩
  refine exc_init_tree (cls := .ref C) (t0 := t0) (dv := none) (c2 := .none) (c3 := .none) (b4 := .bool false) he2 (one_size _) fun h3 k3 e3 _ => ?_
  exact hq h3 _ _ (fun b o hbe z => k3 b o hbe (k2 _ _ (k _ _ z))) e3
theorem ldK {name : Str} {scope : Scope} {L a cc : Addr} {cd : Value} {M : Model} {m : Str → Option Value} {y : Str} {pos : Pos} {v : Value} {Q : Value → Shared → Prop} (hn : s.heap.Ns L m) (hv : m y = some v) (h : Q v s)
    (hk : scope.kind = .function) (hl : scope.names.lookup y = some .local) (hd : (y == ("__debug__" : Str)) = false) :
    wpAny M A (eval (.Name y pos) (ksEnv name scope L a cd cc)) Q E s := wpAny_Name (wpAny_loadName_local (env := ksEnv name scope L a cd cc) hk hl hn hv h) hd
theorem err_init (T : ErrT prog K mg x f C) {fI e t0 : Addr} {v : Value} (hi : findIn K (.ref C) "__init__" = some (some (.ref fI))) (X : K.In s.heap) (hg : s.heap.Ns mainGlobals mg) (hb : ∃ mb, s.heap.Ns builtinsNs mb ∧ mb "super" = bootBuiltins "super") (hlim : s.heap.NoLimit) (hx : s.heap.get? e = some (excO C t0)) (nx : K.lookup e = none)
    (hroom : A.depth < recursionLimit) (hq : ∀ h' tk dx, InitEnd s.heap h' e C dx f v → R (.ok (.ret .none)) { s with heap := h', toks := tk }) :
    codeAny (model prog w) A (.call (.ref fI) ⟨[.ref e, v], []⟩) R s := by
  obtain ⟨fI', cc, cda, oc, od, doc, pm, an, ct, osl, qual, txt, p1, p2, r1, r2, r3, r4, r5, r6, q1, q2, q3, q4, hi', tI, hl, ho, hcd, ⟨ccl, cdd, vs, ccs, file, tf, hcda, hvs, hfile⟩, cl, cld, csl, hcell⟩ := T.fn
  rw [hi] at hi'
  cases hi'
  obtain ⟨nm, q, N, bs, bm, sn, sub, ab, col, dd, k0, k1, k2, k3, k5, hC, hbm⟩ := id T.cls
  have hcl : clsIn K C = some { name := nm, bases := bs, mro := .ref C :: bm, ns := N, qualname := q, hasDict := true, slotNames := sn, subclasses := sub, abstract := ab, collection := col, hasDel := false } := by unfold clsIn; rw [hC] <;> rfl
  obtain ⟨b1, b2, b3, b4, b5⟩ := (⟨T.f1, T.f2, T.f3, T.f4, T.f5⟩ : (f == ("self" : Str)) = false ∧ (("self" : Str) == f) = false ∧ (("super" : Str) == f) = false ∧ (("__class__" : Str) == f) = false ∧ (f == ("__debug__" : Str)) = false)
  have lf : (eS1 f).names.lookup f = some .local := by
    show List.lookup f [(PySem.Str.ofString "self", NameKind.local), (f, .local), _, _] = _
    simp [List.lookup, b1]
  have ls : (eS1 f).names.lookup ("super" : Str) = some .globalImplicit := by
    show List.lookup ("super" : Str) [(("self" : Str), NameKind.local), (f, .local), (("__class__" : Str), .free), (("super" : Str), .globalImplicit)] = _
    have e1 : (("super" : Str) == ("self" : Str)) = false := by decide
    have e2 : (("super" : Str) == ("__class__" : Str)) = false := by decide
    simp [List.lookup, b3, e1, e2]
  have lc : (eS1 f).names.lookup ("__class__" : Str) = some .free := by
    show List.lookup ("__class__" : Str) [(("self" : Str), NameKind.local), (f, .local), (("__class__" : Str), .free), (("super" : Str), .globalImplicit)] = _
    have e1 : (("__class__" : Str) == ("self" : Str)) = false := by decide
    simp [List.lookup, b4, e1]
  have lse : (eS1 f).names.lookup ("self" : Str) = some .local := rfl
  have bd : bindArgs (ksFn "__init__" qual (eA1 f p1 p2) (eB1 f txt r1 r2 r3 r4 r5 r6 q1 q2 q3 q4) (eS1 f) .none .none doc pm an (.ref cda) ct cc) ⟨[.ref e, v], []⟩ = pure [(("self" : Str), .ref e), (f, v)] := by
    have z1 : (List.lookup ("self" : Str) [(("self" : Str), Value.ref e), (f, v)]).isNone = false := by simp [List.lookup]
    have z2 : (List.lookup f [(("self" : Str), Value.ref e), (f, v)]).isNone = false := by simp [List.lookup, b1]
    unfold bindArgs
    simp [eA1, seqItems?, z1, z2, List.lookup, b1]
    rfl
  refine ks_codeAny_call_defAt (fd := ksFn "__init__" qual (eA1 f p1 p2) (eB1 f txt r1 r2 r3 r4 r5 r6 q1 q2 q3 q4) (eS1 f) .none .none doc pm an (.ref cda) ct cc) (body := eB1 f txt r1 r2 r3 r4 r5 r6 q1 q2 q3 q4) (binds := [(("self" : Str), .ref e), (f, v)]) hroom (X _ _ ho) rfl hlim (codeRec_of X hcd) rfl (BindsTo.of_eq bd)
    (fun y hy => ?_) (fun y hy => ?_) (fun h₁ hns hk₁ => ?_) rfl rfl rfl
  · have hy : y ∈ [(("self" : Str), NameKind.local), (f, .local), (("__class__" : Str), .free), (("super" : Str), .globalImplicit)] := hy
    simp only [List.mem_cons, List.not_mem_nil, or_false] at hy
    rcases hy with rfl | rfl | rfl | rfl <;> (intro z; cases z)
  · simp only [List.mem_cons, List.not_mem_nil, or_false] at hy
    rcases hy with rfl | rfl
    · exact lse
    · exact lf
  have X₁ : K.In h₁ := X.keeps hk₁
  have ms : ([(("self" : Str), Value.ref e), (f, v)] : List (Str × Value)).reverse.lookup ("self" : Str) = some (.ref e) := by
    show List.lookup ("self" : Str) [(f, v), (("self" : Str), Value.ref e)] = _
    simp [List.lookup, b2]
  have mf : ([(("self" : Str), Value.ref e), (f, v)] : List (Str × Value)).reverse.lookup f = some v := by
    show List.lookup f [(f, v), (("self" : Str), Value.ref e)] = _
    simp [List.lookup]
  have hxL : e ≠ s.heap.objs.size := Nat.ne_of_lt (Heap.lt_size hx)
  obtain ⟨mb, hb1, hb2⟩ := hb
  refine ks_wpAt_execs_cons (sup_init (K := K) (mg := mg) (C := C) (fd := ksFn "__init__" qual (eA1 f p1 p2) (eB1 f txt r1 r2 r3 r4 r5 r6 q1 q2 q3 q4) (eS1 f) .none .none doc pm an (.ref cda) ct cc) ls lc lse rfl rfl hl T.gS T.top T.slf T.veC T.sup T.st T.cls X₁ (hg.keeps hk₁) ⟨mb, hb1.keeps hk₁, hb2⟩ (hk₁ _ _ (X _ _ ho)) rfl rfl (hk₁ _ _ (X _ _ hcda)) rfl hvs hfile ⟨_, hk₁ _ _ (X _ _ hcell), rfl⟩ hns ms (hk₁ _ _ hx) hxL fun h2 tk2 t1 kp2 he2 => ?_)
  have hns2 : h2.Ns s.heap.objs.size fun y => ([(("self" : Str), Value.ref e), (f, v)] : List (Str × Value)).reverse.lookup y := by
    obtain ⟨oL, es, ep, hL, r⟩ := hns
    exact ⟨oL, es, ep, kp2 _ _ (Ne.symm hxL) hL, r⟩
  have X2 : K.In h2 := fun a o z => kp2 a o (fun y => by rw [y, nx] at z; cases z) (X₁ _ _ z)
  show _root_.PySem.wpAt _ _ _ (execs _ _) _ _ _
  refine wpAt_of_wpAny (wpAny_execs_cons (plainObj_wpAny_Assign_Attribute ?_))
  refine ldK (v := v) hns2 mf (ldK (v := .ref e) hns2 ms ?_ rfl lse (by decide)) rfl lf b5
  refine set_plain X2 (ox := excO C t1) (od := none) ⟨he2, rfl, rfl, trivial⟩ T.sa ?_
  refine exc_osa X2 he2 hcl (show refsVE (.ref C :: bm) = true from hbm) rfl T.noN (fun h₃ tk₃ dx k₃ dn dne hx₃ hn₃ => ?_)
  show wpAny _ _ (execs _ _) _ _ _
  have z : s.heap.objs.size < h₁.objs.size := hns.lt
  have z2 : s.heap.objs.size < h2.objs.size := hns2.lt
  exact wpAny_execs_nil (hq h₃ tk₃ dx ⟨fun b o hb y => k₃ b o hb (kp2 b o hb (hk₁ b o y)), ⟨t1, hx₃⟩, Nat.le_of_lt (Nat.lt_of_lt_of_le z2 dn), dne, hn₃⟩)
theorem err_made (T : ErrT prog K mg x f C) {v : Value} (X : K.In s.heap) (hg : s.heap.Ns mainGlobals mg) (hb : ∃ mb, s.heap.Ns builtinsNs mb ∧ mb "super" = bootBuiltins "super") (hlim : s.heap.NoLimit) (hroom : A.depth + 1 < recursionLimit)
    (hq : ∀ h' tk e d, OwnMade s.heap h' e C d f v → R (.ok (.ret (.ref e))) { s with heap := h', toks := tk }) :
    codeAny (model prog w) A (.call (.ref C) ⟨[v], []⟩) R s := by
  obtain ⟨nm, q, N, bs, bm, sn, sub, ab, col, dd, k0, k1, k2, k3, k5, hC, hbm⟩ := T.cls
  obtain ⟨fI, cc, cda, oc, od, doc, pm, an, ct, osl, qual, txt, p1, p2, r1, r2, r3, r4, r5, r6, q1, q2, q3, q4, hi, tI, -⟩ := T.fn
  obtain ⟨hp, g, dr, tk, os⟩ := s
  have k : ∀ b o, hp.get? b = some o → ((hp.push (kdv_tup [v])).push (excO C hp.objs.size)).get? b = some o := fun b o e => Heap.get?_push_of_some _ (Heap.get?_push_of_some _ e)
  have hget : ((hp.push (kdv_tup [v])).push (excO C hp.objs.size)).get? (hp.objs.size + 1) = some (excO C hp.objs.size) := by heap_get
  have hnx : K.lookup (hp.objs.size + 1) = none := by
    cases e : K.lookup (hp.objs.size + 1) with
    | none => rfl
    | some o =>
      have z : hp.get? (hp.objs.size + 1) = some o := X _ _ e
      exact absurd (Nat.lt_of_succ_lt (Heap.lt_size z)) (Nat.lt_irrefl _)
  obtain ⟨mb, hb1, hb2⟩ := hb
  refine call_own F.excBase_ValueError (fun X => refsVE_contains X bm hbm) (X _ _ hC) (looks_findIn X hi) (fun self => bind_fn X self tI) (one_size v) ?_
  refine err_init (s := ⟨(hp.push (kdv_tup [v])).push (excO C hp.objs.size), g, dr, tk, os⟩) T hi (X.keeps k) (hg.keeps k) ⟨mb, hb1.keeps k, hb2⟩ (hlim.keeps k) hget hnx ?_ fun h' tk' dx ⟨k', ⟨t1, hx⟩, dn, dne, hns⟩ => ?_
  · show A.depth + 1 < recursionLimit
    exact hroom
  · have old : ∀ b o, hp.get? b = some o → h'.get? b = some o := fun b o e => k' b o (Nat.ne_of_lt (Nat.lt_succ_of_lt (Heap.lt_size e))) (k b o e)
    have z : hp.objs.size + 1 + 1 ≤ dx := by
      first
        | (simpa only [Heap.size_push] using dn)
        | exact dn
        | (have q := dn; rw [Heap.size_push, Heap.size_push] at q; exact q)
    exact ⟨rfl, hq h' tk' (hp.objs.size + 1) dx ⟨old, Nat.le_succ _, ⟨_, _, hx, rfl, rfl, rfl, rfl⟩, Nat.le_trans (Nat.le_trans (Nat.le_succ _) (Nat.le_succ _)) z, dne, hns⟩⟩
end
end ErrX
end PySem

namespace RD
open PySem PySem.Spec PyProof.Rows L2 He
theorem relO_one {f : Str} {v : V} {v' : Value} (r : RelV v v') (g : Str) : RelO (List.lookup g [(f, v)]) (if g = f then some v' else none) := by
  by_cases hw : g = f
  · subst hw
    rw [if_pos rfl]
    have q : List.lookup g [(g, v)] = some v := by simp [List.lookup]
    rw [q]
    exact r
  · rw [if_neg hw]
    have qw : (g == f) = false := by simpa using hw
    have q2 : List.lookup g [(f, v)] = none := by simp [List.lookup, qw]
    rw [q2]
    trivial
section
variable {X : Cx} {C : Addr} {x f : Str}
/-- x(e) -/
def tMkE (C : Addr) (f : Str) (ta : TA) : L2.St → Hp → XK → Prop := fun σ H Q => ta σ H fun vs H1 => ∃ v, vs = [v] ∧ ∀ d, H1 d = none → Q (.ref C) (some d) (upd H1 d (.xd [(f, v)]))
theorem pmk_err {a : Expr} {ta : TA} {p pos : Pos} {k : Nat} (T : PySem.ErrX.ErrT X.prog X.K X.mg x f C) (hr : Room k X.A) (ha : PA X [a] ta) (hg : Gl X x) (hdb : (x == ("__debug__" : Str)) = false := by decide)
    (he : starEach (a :: []) X.env = (false, eval a X.env) :: starEach [] X.env := by rfl) (hpl : (backTo pos (starEach [] X.env)).any (·.1) = false := by rfl) :
    PMk X (.Call (.Name x p) [a] [] pos) (tMkE C f ta) := by
  intro pins s σ H Q I h
  refine wpAny_Call_Name_kw (ld_glob I hg T.gC ?_ hdb)
  refine PySem.W.callWith_K (h₀ := X.base) I.ok.mod.kin T.kC (thn (ha.run pos pins s σ H _ I h) fun us s1 hh => ?_) he hpl
  obtain ⟨vs, H1, I1, r1, v, ev, q1⟩ := hh
  subst ev
  refine ⟨I1.kIn, ?_⟩
  cases r1 with
  | cons rv rn =>
    rename_i v' us'
    cases rn
    show wpAny _ _ (call (.ref C) [v']) _ _ _
    have hlim := I1.nolimit
    have hg1 := I1.mod.glob.keeps I1.bk
    obtain ⟨mb, hb1, hb2⟩ := I1.mod.blt
    have hb1 := hb1.keeps I1.bk
    have hb2 := hb2 "super" (by decide)
    obtain ⟨hp, g, dr, tk, os⟩ := s1
    refine wpAny_call (PySem.ErrX.err_made T I1.kIn hg1 ⟨mb, hb1, hb2⟩ hlim (by have := hr.dp; omega) fun h' tk' e d M => ?_)
    show MkP X pins σ Q (.ref e) ⟨h', g, dr, tk', os⟩
    obtain ⟨oe, fv, hoe, hc, hd, hdat, h1⟩ := M.obj
    have hns := M.ns
    obtain ⟨G', g1, g2⟩ := restrict h' fun b => decide (b ≠ e)
    have gk : ∀ b, b ≠ e → G'.get? b = h'.get? b := fun b hb => g1 b (decide_eq_true hb)
    have ge : G'.get? e = none := g2 e (by simp)
    have old : ∀ b o, hp.get? b = some o → G'.get? b = some o := fun b o q => (gk b (Nat.ne_of_lt (Nat.lt_of_lt_of_le (Heap.lt_size q) M.new))).trans (M.keep b o q)
    have ob : ObjOk X.prog X.w (upd H1 d (.xd [(f, v)])) G' d (.xd [(f, v)]) :=
      ⟨_, hns.at (fun o q => (gk d M.dne).trans q), fun g => relO_one rv g⟩
    have J : Inv X pins σ (upd H1 d (.xd [(f, v)])) ⟨G', g, dr, tk', os⟩ := I1.laid (t' := tk') old M.dbig ob
    refine ⟨e, oe, fv, ⟨G', g, dr, tk', os⟩, _, .ref C, some d, rfl, J, fun b o q => ?_, ge, hoe, ⟨hc, hd⟩, hdat, h1, ?_, rfl, I1.bare, raises_own T.exC T.tyC, q1 d (I1.hok.fresh M.dbig)⟩
    · by_cases hb : b = e
      · have q' : G'.get? b = some o := q
        rw [hb, ge] at q'; cases q'
      · exact (gk b hb).symm.trans q
    · rw [upd_ne (Ne.symm M.dne)]
      exact I1.hok.fresh M.new
/-- raise x(e) -/
def tRaiseE (C : Addr) (f : Str) (W : WX) (ta : TA) : TS := fun _ σ H => tMkE C f ta σ H fun cls d H' => W cls d σ H'
theorem ps_raiseE {a : Expr} {ta : TA} {W : WX} {p pos pos2 : Pos} {k : Nat} (hc : X.calm = true) (T : PySem.ErrX.ErrT X.prog X.K X.mg x f C) (hr : Room k X.A) (tk : Takes X W) (ha : PA X [a] ta) (hg : Gl X x) (hdb : (x == ("__debug__" : Str)) = false := by decide)
    (he : starEach (a :: []) X.env = (false, eval a X.env) :: starEach [] X.env := by rfl) (hpl : (backTo pos (starEach [] X.env)).any (·.1) = false := by rfl) :
    PS X (.Raise (some (.Call (.Name x p) [a] [] pos)) none pos2) (tRaiseE C f W ta) := ps_raise hc tk (pmk_err T hr ha hg hdb he hpl)
end
end RD

namespace PySem
namespace ErrX
open PySem.W PySem.Calls PyProof.Rows PySem.Spec
section
variable {prog : Program} {w : World} {A : Around} {E : Value → Shared → Prop} {s : Shared} {K : Frag} {x D : Addr} {ox : Obj} {od : Option Obj}
theorem findObj_dataO {C : Addr} {name : Str} {a g : Value} (hc : (clsIn K C).isSome = true) (ha : findIn K (.ref C) name = some (some a)) (hg : specialIn K a "__get__" = some (some g)) (ht : takesIn K a = some true) : findObj K C od name = some (.bind g a) := by
  obtain ⟨cd, hc⟩ := Option.isSome_iff_exists.mp hc
  unfold findObj
  rw [hc, Option.bind_some, ha, Option.bind_some]
  simp [hg, ht]
/-- the class asked of an exception that may have a dict -/
theorem cls_of_exc {Q : Option Value → Shared → Prop} (T : L2.ExcC K D) (X : K.In s.heap) (I : InstAt s.heap x ox D od) (h : Q (some (.ref D)) { s with toks := s.toks + 1 }) : wpAny (model prog w) A (getAttr? (.ref x) "__class__") Q E s := by
  have hf : findObj K D od "__class__" = some (.bind (.builtin "getset_descriptor.__get__") (.builtin "object.__class__")) := findObj_dataO (by obtain ⟨cd, hc, _⟩ := any_some T.hd; rw [hc]; rfl) T.ha T.hn T.ht
  obtain ⟨hp, g, d, t, os⟩ := s
  have L0 := I.type (M := model prog w)
  have L1 := looks_findIn (M := model prog w) X T.hg
  have L2 := looks_findIn (M := model prog w) X T.hk
  have L3 := looks_find (M := model prog w) X I hf
  have sub : Looks (model prog w) hp (isInstance (.ref x) (.type "BaseException")) true := L0.andThen (looks_subIn X T.hs)
  have hx0 : (false && onTheHeap (Value.builtin "BaseException.__getattribute__")) = false := rfl
  have hx2 : (Value.builtin "BaseException.__getattribute__" == Value.builtin "object.__getattribute__") = false := by decide +kernel
  have hx1 : (onTheHeap (Value.ref D) && Value.builtin "BaseException.__getattribute__" == Value.builtin "object.__getattribute__") = false := by rw [hx2]; rfl
  unfold getAttr? getAttrBy? getAttrBy
  refine wpAny_bind (wpAny_mkText (wpAny_bind (wpAny_attempt (wpAny_holding (wpAny_bind (L0.at (wpAny_bind (L1.at ?_))))))))
  show wpAny _ _ (if (onTheHeap (Value.ref D) && Value.builtin "BaseException.__getattribute__" == Value.builtin "object.__getattribute__") = true then _ else _) _ _ _
  rw [hx1, if_neg Bool.false_ne_true]
  unfold getAttrByItsOwn hookBefore
  refine wpAny_bind ?_
  rw [if_pos (show onTheHeap (Value.ref D) = true from rfl)]
  refine L2.at ?_
  refine wpAny_bind (wpAny_attempt (wpAny_holding ?_))
  unfold callGetattribute
  rw [hx0, if_neg Bool.false_ne_true]
  unfold boundAndCalled
  rw [PySem.F.excAttr_ValueError.ga.bind (.ref x)]
  refine wpAny_bind (wpAny_pure ?_)
  show wpAny _ _ (call (.builtin "BaseException.__getattribute__") [.ref x, .str "__class__" t]) _ _ _
  refine wpAny_call (codeAny_call_builtin PySem.F.excAttr_ValueError.ga.plain PySem.F.entry_bexc_ga ?_)
  refine @check_slot (model prog w) _ _ ⟨hp, g, d, t + 1, os⟩ "BaseException.__getattribute__" "BaseException" "__getattribute__" (.ref x) [.str "__class__" t] [] _ (by decide +kernel) (by decide +kernel) sub (PySem.F.args_bexc_ga (.ref x) (.str "__class__" t)) ?_
  unfold Builtin.«object.__getattribute__»
  refine wpAny_bind (wpAny_of_eq (a := ((Value.ref x : Value), [Value.str "__class__" t])) (by first | rfl | (simp only [slotArgs]; rfl)) ?_)
  refine wpAny_bind (wpAny_pure (wpAny_bind (L0.at (wpAny_bind (L3.at ?_)))))
  show wpAny _ _ (holding [Value.builtin "object.__class__"] (call (.builtin "getset_descriptor.__get__") [.builtin "object.__class__", .ref x, .ref D]) >>= ret) _ _ _
  refine wpAny_bind (wpAny_holding (wpAny_call (class_get (s := ⟨hp, g, d, t + 1, os⟩) (ox := ox) (od := od) X I T.hm ?_)))
  refine wpAny_pure ?_
  show wpAny _ _ (handedOut (.ref D)) _ _ _
  rw [handedOut_of (v := .ref D) rfl]
  first
    | exact wpAny_pure (wpAny_pure h)
    | exact wpAny_pure h
    | exact wpAny_pure (wpAny_bind (wpAny_pure (wpAny_pure h)))
theorem kitx_err (T : L2.ExcC K D) : KitX K (.ref x) (.ref D) (fun h => InstAt h x ox D od) where
  ty := fun _ _ _ I => I.type
  it := fun _ _ X _ => by
    obtain ⟨cdD, hcD, _⟩ := any_some T.hd
    unfold clsIn at hcD
    split at hcD
    · rename_i c' d' cd' sl' ho
      intro A' Q' E' s' k q
      unfold isType loadHead
      exact wpAny_bind (wpAny_loadPart (k _ _ (X _ _ ho)) (wpAny_pure q))
    · cases hcD
  ne := fun h tp dd its n sl X htp => by
    obtain ⟨cdD, hcD, _⟩ := any_some T.hd
    refine Bool.eq_false_iff.mpr fun q => ?_
    have e : D = tp := Value.ref.inj (beq_iff_eq.mp q)
    subst e
    unfold clsIn at hcD
    split at hcD
    · rename_i c' d' cd' sl' ho
      have z := (X _ _ ho).symm.trans htp
      cases z
    · cases hcD
  ca := fun X I k => cls_of_exc T X I k
end
end ErrX
end PySem
namespace RD
open PySem PySem.Spec PyProof.Rows L2 He
section
variable {X : Cx}
/-- isinstance(e, c), e the exception that the suite holds; its dict known -/
def rIsX (K : PySem.W.Frag) (a : Addr) (cls : Value) (d : Option Addr) : List V → Hp → VK → Prop := fun xs H Q => ∃ (D : Addr) (c : V) (cv : Value) (b : Bool), cls = .ref D ∧ ExcC K D ∧ xs = [.ref a, c] ∧ (d = none ∨ ∃ (dd : Addr) (fs : List (Str × V)), d = some dd ∧ H dd = some (.xd fs)) ∧ (∀ u, RelV c u → u = cv) ∧ PySem.W.kitOne K (.ref D) cv = some b ∧ Q (.bl b) H
theorem call_isX {a : Addr} {cls : Value} {oe : Obj} {d : Option Addr} {pn : List (Addr × Obj)} (hz : Zc cls d oe) (hf : ∃ vs, oe.data = .fields vs) : CallR (X.suite a ((a, oe) :: pn)) (.builtin "isinstance") (rIsX X.K a cls d) := by
  intro pins s σ H xs us Q I r h
  obtain ⟨D, c, cv, b, rfl, C, rfl, hd, hcv, e, q⟩ := h
  cases r with
  | cons rx rr =>
    cases rr with
    | cons rt rr =>
      cases rr
      cases rx
      have ec := hcv _ rt
      subst ec
      obtain ⟨hget, _⟩ := I.pin (a, oe) (List.mem_append.mpr (.inl List.mem_cons_self))
      obtain ⟨vs, hv⟩ := hf
      obtain ⟨od, J⟩ : ∃ od, PySem.W.InstAt s.heap a oe D od := by
        obtain ⟨oc, odd, oda, osl⟩ := oe
        obtain ⟨h1, h2⟩ := hz
        dsimp only at h1 h2 hv
        subst h1 h2 hv
        rcases hd with hd | ⟨dd, fs, hd, hx⟩
        · subst hd
          exact ⟨none, hget, rfl, rfl, trivial⟩
        · subst hd
          have hx : ObjOk X.prog X.w H s.heap dd (.xd fs) := I.hok dd _ hx
          obtain ⟨mA, hns, hr⟩ := hx
          obtain ⟨o, ho, _⟩ := lookIn_ns hns
          exact ⟨some o, hget, rfl, rfl, ho⟩
      exact PySem.W.kia_one (PySem.ErrX.kitx_err C) I.kIn J e (fun z => nomatch z) fun tk => ⟨.bl b, H, I.kept (t' := tk) fun _ _ z => z, rfl, q⟩
/-- e.f, e the exception that the suite holds -/
def tXe (K : PySem.W.Frag) (a : Addr) (cls : Value) (d : Option Addr) (f : Str) (te : TE) : TE := fun σ H Q => te σ H fun x H1 => ∃ (C dd : Addr) (fs : List (Str × V)) (v : V), x = .ref a ∧ cls = .ref C ∧ XfC K C ∧ PySem.W.findIn K (.ref C) f = some none ∧ d = some dd ∧ H1 dd = some (.xd fs) ∧ fs.lookup f = some v ∧ Q v H1
theorem pe_xe {a : Addr} {oe : Obj} {cls : Value} {d : Option Addr} {pn : List (Addr × Obj)} {e : Expr} {te : TE} {pos : Pos} {n : Str} (hz : Zc cls d oe) (hf : ∃ vs, oe.data = .fields vs) (he : PE (X.suite a ((a, oe) :: pn)) e te) (hb : attributeBase e n X.env (eval e X.env) = eval e X.env := by rfl) :
    PE (X.suite a ((a, oe) :: pn)) (.Attribute e n pos) (tXe X.K a cls d n te) := by
  refine ⟨fun pins s σ H Q I h => ?_⟩
  refine attr_of hb (thn (he.run pins s σ H _ I h) fun u s1 hh => ?_)
  obtain ⟨x, H1, I1, rx, C, dd, fs, v, ex, ec, T, hno, ed, ea, l, q⟩ := hh
  subst ex
  obtain rfl : u = Value.ref a := rx
  subst ec
  subst ed
  obtain ⟨ha, _⟩ := I1.pin (a, oe) (List.mem_append_left _ List.mem_cons_self)
  obtain ⟨vs, hd⟩ := hf
  have hx : ObjOk X.prog X.w H1 s1.heap dd (.xd fs) := I1.hok dd _ ea
  obtain ⟨mA, hns, hr⟩ := hx
  obtain ⟨od, ho, hl⟩ := lookIn_ns hns
  obtain ⟨u, hu, ru⟩ := RelO.some_of (v := v) (o := mA n) (by rw [← l]; exact hr n)
  have J : PySem.W.InstAt s1.heap a oe C (some od) := ⟨ha, hz.1, by unfold PySem.W.notCls; rw [hd] <;> rfl, by rw [hz.2]; exact ho⟩
  exact PySem.HandSPX.exc_get I1.kIn J T.ga T.gg T.exC (PySem.W.findObj_own T.hdC hno rfl (by rw [hl, hu])) (handed_of ru) ⟨v, H1, I1.tok _, ru, q⟩
end
/-! ### calls whose errors are wished for at the slots -/
section
variable {X : Cx} {CX : CXT} {k j : Nat} {C : Addr} {x m : Str} {sp : Sp} {dvs : List V} {E : L2.St → XK} {p pos apos : Pos} {e o : Expr} {es : List Expr} {ta : TE} {t : TA}
theorem pe_calS (c : CalX X.prog X.w X.K X.mg X.base CX k x sp dvs) (hr : Room j X.A) (hk : k ≤ j) (hg : Gl X x) (hx : ∀ σ, PassesAt CX X σ (E σ)) (ha : PA X (e :: es) t)
    (hdb : (x == ("__debug__" : Str)) = false := by decide) (he : starEach (e :: es) X.env = (false, eval e X.env) :: starEach es X.env := by rfl) (hpl : (backTo pos (starEach es X.env)).any (·.1) = false := by rfl) :
    PE X (.Call (.Name x p) (e :: es) [] pos) (tCallSD sp dvs E t) := by
  obtain ⟨f, fd, ps, ds, F, hm, kp, b, d⟩ := c.ex
  exact pe_callSD F (hr.mono hk) hg hm kp b d hx ha hdb he hpl
def tMetS (C : Addr) (m : Str) (sp : Sp) (dvs : List V) (E : L2.St → XK) (ta : TE) (t : TA) : TE := fun σ H Q => ta σ H fun x H1 => ∃ a dx fs, x = .ref a ∧ H1 a = some (.ins C dx fs) ∧ fs.lookup m = none ∧ t σ H1 fun vs H2 => sp (x :: (vs ++ dvs)) H2 Q (E σ)
theorem pe_metS {pl : Sem Bool} (c : MetX X.prog X.w X.K X.mg X.base CX k C m sp dvs) (hr : Room j X.A) (hk : k ≤ j) (hx : ∀ σ, PassesAt CX X σ (E σ)) (he : PE X o ta) (ha : PA X (e :: es) t)
    (hst : starEach (e :: es) X.env = (false, eval e X.env) :: starEach es X.env := by rfl) (hpl : (backTo pos (starEach es X.env)).any (·.1) = false := by rfl)
    (ht : eval (.Call (.Attribute o m apos) (e :: es) [] pos) X.env = (do
      let ov ← eval o X.env
      standAt apos.atName
      let (f, first) ← holding [ov] (getMethod ov m pl)
      callWith pos f first (backTo pos (starEach (e :: es) X.env)) (backToKw pos (keywordEach [] X.env))) := by rfl) :
    PE X (.Call (.Attribute o m apos) (e :: es) [] pos) (tMetS C m sp dvs E ta t) := by
  obtain ⟨f, fd, ps, ds, cl, me, F, b, d⟩ := c.ex
  refine ⟨fun pins s σ H Q I h => ?_⟩
  refine PySem.W.methodCall_KW (pl := pl) (thn (he.run pins s σ H _ I h) fun u s1 ⟨x, H1, I1, rx, a, dx, fs, ex, ea, l, q⟩ => ?_) ht
  subst ex
  obtain rfl : u = Value.ref a := rx
  refine getmeth_ok I1 ea cl me l ?_
  refine PySem.W.callWith_K (first := [.ref a]) (h₀ := X.base) I.ok.mod.kin me.kp (thn (ha.run pos pins s1 σ H1 _ I1 q) fun us s2 ⟨vs, H2, I2, r, q2⟩ => ⟨I2.kIn, ?_⟩) hst hpl
  exact run_fnSD (us := .ref a :: us) (vs := .ref a :: vs) F (hr.mono hk) b d (hx σ) I2 (.cons rfl r) q2
theorem pe_metS0 {pl : Sem Bool} (c : MetX X.prog X.w X.K X.mg X.base CX k C m sp dvs) (hr : Room j X.A) (hk : k ≤ j) (hx : ∀ σ, PassesAt CX X σ (E σ)) (he : PE X o ta)
    (ht : eval (.Call (.Attribute o m apos) [] [] pos) X.env = (do
      let ov ← eval o X.env
      standAt apos.atName
      let (f, first) ← holding [ov] (getMethod ov m pl)
      callWith pos f first (backTo pos (starEach [] X.env)) (backToKw pos (keywordEach [] X.env))) := by rfl) :
    PE X (.Call (.Attribute o m apos) [] [] pos) (tMetS C m sp dvs E ta tNil) := by
  obtain ⟨f, fd, ps, ds, cl, me, F, b, d⟩ := c.ex
  refine ⟨fun pins s σ H Q I h => ?_⟩
  refine PySem.W.methodCall_KW (pl := pl) (thn (he.run pins s σ H _ I h) fun u s1 ⟨x, H1, I1, rx, a, dx, fs, ex, ea, l, q⟩ => ?_) ht
  subst ex
  obtain rfl : u = Value.ref a := rx
  refine getmeth_ok I1 ea cl me l ?_
  exact PySem.W.callWith_K0 (first := [.ref a]) I1.kIn me.kp (run_fnSD (us := [.ref a]) (vs := [.ref a]) F (hr.mono hk) b d (hx σ) I1 (.cons rfl .nil) q)
end
/-- a def that may raise: its promise by its body -/
theorem fnDX {P : Program} {w : World} {K : PySem.W.Frag} {mg : Str → Option Value} {base : Heap} {x qual : Str} {params : Arguments} {body : List Stmt} {scope : Scope} {dvs : List V} {kws : List (Str × V)} {f : Addr} {fd : FuncData} {N ps : List Str} {k : Nat} {sp : Sp} (F : FunD K x qual params body scope dvs kws f fd) (S : FnScope N ps scope) (len : ∀ vs H Q E, sp vs H Q E → vs.length = ps.length)
    (hbody : ∀ (cdv : Value) (A : Around) (outer : List Env) (s : Shared) (H : Hp) (vs : List V) (Q : VK) (E : XK), Room k (A.deeper (envOfC qual scope s.heap.objs.size f cdv)) → sp vs H Q E →
      ∃ t, PSs (cxOf (L2.CX P w) P w K mg base N qual scope f cdv A outer s H E) body t ∧ t ⟨fun _ H' => Q .non H', Q, fun _ _ => False, fun _ _ => False⟩ (start N vs) H) : FnOk P w K mg base (L2.CX P w) (k + 1) f fd ps sp :=
  F.ok S len fun cdv A outer s H vs Q E hr h => let ⟨t, h1, h2⟩ := hbody cdv A outer s H vs Q E hr h; ⟨t, h1, h2⟩
/-- what isinstance and except ask of the class -/
structure ErrS (K : PySem.W.Frag) (ys : List Str) (x : Str) : Prop where
  xc : ExcC K (ga K x)
  xf : XfC K (ga K x)
  kit : ∀ y, y ∈ ys → PySem.W.kitOne K (.ref (ga K x)) (.ref (ga K y)) = some (decide (y = x) || decide (y = "GroupError"))
  exm : ∀ y, y ∈ ys → PySem.W.exmOne K (.ref (ga K x)) (.ref (ga K y)) = some (decide (y = x) || decide (y = "GroupError"))
  kve : PySem.W.kitOne K (.ref (ga K x)) (.type "ValueError") = some true
  glo : ∀ y, y ∈ ys → PySem.W.nsIn K mainGlobals y = some (some (.ref (ga K y)))
/-! ### readings -/
section
variable {K : PySem.W.Frag} {σ : L2.St} {H : Hp} {nx bk ct : L2.St → Hp → Prop} {rt : VK} {t : TS} {te ta : TE} {ar : TA} {Q : VK} {v x : V} {W : WX} {C : Addr} {f : Str} {D : Ends}
theorem rd_raiseE (h : ar σ H fun vs H1 => ∃ v, vs = [v] ∧ ∀ d, H1 d = none → W (.ref C) (some d) σ (upd H1 d (.xd [(f, v)]))) : tRaiseE C f W ar D σ H := h
theorem rd_raiseX {P : V → Addr → Prop} (q : ∀ d, H d = none → P v d) : ∃ v', [v] = [v'] ∧ ∀ d, H d = none → P v' d := ⟨v, rfl, q⟩
theorem rd_calS {sp : Sp} {E : L2.St → XK} (h : ar σ H fun vs H1 => sp vs H1 Q (E σ)) : tCallSD sp [] E ar σ H Q := by
  unfold tCallSD
  have e : (fun vs H1 => sp (vs ++ []) H1 Q (E σ)) = fun vs H1 => sp vs H1 Q (E σ) := by
    funext vs H1
    rw [List.append_nil]
  rw [e]
  exact h
theorem rd_metS {m : Str} {sp : Sp} {E : L2.St → XK} (h : ta σ H fun x H1 => ∃ a dx fs, x = .ref a ∧ H1 a = some (.ins C dx fs) ∧ fs.lookup m = none ∧ ar σ H1 fun vs H2 => sp (x :: vs) H2 Q (E σ)) : tMetS C m sp [] E ta ar σ H Q := by
  unfold tMetS
  have e : (fun (x : V) (H1 : Hp) => ∃ a dx fs, x = V.ref a ∧ H1 a = some (.ins C dx fs) ∧ fs.lookup m = none ∧ ar σ H1 fun vs H2 => sp (x :: (vs ++ [])) H2 Q (E σ)) =
      fun (x : V) (H1 : Hp) => ∃ a dx fs, x = V.ref a ∧ H1 a = some (.ins C dx fs) ∧ fs.lookup m = none ∧ ar σ H1 fun vs H2 => sp (x :: vs) H2 Q (E σ) := by
    funext x H1
    simp only [List.append_nil]
  rw [e]
  exact h
/-- what flies is of the class x; the clause names y -/
theorem rd_wAs {ys : List Str} {y : Str} {i : Nat} {ts : Addr → Value → Option Addr → TS} {Wout : WX} {d : Option Addr} {x : Str} {b : Bool} (S : ErrS K ys x) (hy : y ∈ ys) (e : (decide (y = x) || decide (y = "GroupError")) = b)
    (q1 : b = true → ∀ a, H a = none → ts a (.ref (ga K x)) d ⟨fun σ' H' => nx (σ'.set i none) H', rt, fun σ' H' => bk (σ'.set i none) H', fun σ' H' => ct (σ'.set i none) H'⟩ (σ.set i (some (.ref a))) H) (q2 : b = false → Wout (.ref (ga K x)) d σ H) :
    wAs K (.ref (ga K y)) i ts Wout ⟨nx, rt, bk, ct⟩ (.ref (ga K x)) d σ H := ⟨b, e ▸ S.exm y hy, q1, q2⟩
theorem rd_isX {ys : List Str} {x y : Str} {a dd : Addr} {fs : List (Str × V)} {b : Bool} (S : ErrS K ys x) (hy : y ∈ ys) (hd : H dd = some (.xd fs)) (e : (decide (y = x) || decide (y = "GroupError")) = b) (q : Q (.bl b) H) : rIsX K a (.ref (ga K x)) (some dd) [.ref a, .ref (ga K y)] H Q :=
  ⟨ga K x, .ref (ga K y), .ref (ga K y), b, rfl, S.xc, rfl, .inr ⟨dd, fs, rfl, hd⟩, fun u r => r, e ▸ S.kit y hy, q⟩
theorem rd_isXt {ys : List Str} {x y : Str} {a dd : Addr} {fs : List (Str × V)} (S : ErrS K ys x) (hy : y ∈ ys) (hd : H dd = some (.xd fs)) (e : (decide (y = x) || decide (y = "GroupError")) = true) (q : Q (.bl true) H) : rIsX K a (.ref (ga K x)) (some dd) [.ref a, .ref (ga K y)] H Q := rd_isX S hy hd e q
theorem rd_isXf {ys : List Str} {x y : Str} {a dd : Addr} {fs : List (Str × V)} (S : ErrS K ys x) (hy : y ∈ ys) (hd : H dd = some (.xd fs)) (e : (decide (y = x) || decide (y = "GroupError")) = false) (q : Q (.bl false) H) : rIsX K a (.ref (ga K x)) (some dd) [.ref a, .ref (ga K y)] H Q := rd_isX S hy hd e q
theorem rd_isXv {ys : List Str} {x : Str} {a dd : Addr} {fs : List (Str × V)} (S : ErrS K ys x) (hd : H dd = some (.xd fs)) (q : Q (.bl true) H) : rIsX K a (.ref (ga K x)) (some dd) [.ref a, .ty "ValueError"] H Q :=
  ⟨ga K x, .ty "ValueError", .type "ValueError", true, rfl, S.xc, rfl, .inr ⟨dd, fs, rfl, hd⟩, fun u r => r, S.kve, q⟩
theorem rd_xe {x f : Str} {a : Addr} {d : Option Addr} (h : te σ H fun z H1 => ∃ (C dd : Addr) (fs : List (Str × V)) (v : V), z = .ref a ∧ (.ref (ga K x) : Value) = .ref C ∧ XfC K C ∧ PySem.W.findIn K (.ref C) f = some none ∧ d = some dd ∧ H1 dd = some (.xd fs) ∧ fs.lookup f = some v ∧ Q v H1) : tXe K a (.ref (ga K x)) d f te σ H Q := h
theorem rd_xeX {ys : List Str} {x f : Str} {a dd : Addr} {fs : List (Str × V)} {R : V → Prop} (S : ErrS K ys x) (n : PySem.W.findIn K (.ref (ga K x)) f = some none) (hd : H dd = some (.xd fs)) (l : fs.lookup f = some v) (q : R v) :
    ∃ (C dd' : Addr) (fs : List (Str × V)) (v : V), V.ref a = .ref a ∧ (.ref (ga K x) : Value) = .ref C ∧ XfC K C ∧ PySem.W.findIn K (.ref C) f = some none ∧ some dd = some dd' ∧ H dd' = some (.xd fs) ∧ fs.lookup f = some v ∧ R v := ⟨ga K x, dd, fs, v, rfl, rfl, S.xf, n, rfl, hd, l, q⟩
end
end RD

/-! ### the head: error classes, tables with text keys -/
namespace RD
open PySem PySem.Spec PyProof.Rows L2 He
open PySem.W (findIn nsIn subIn typeIn keepIn mroIn kitOne exmOne codeIn clsIn ks_superIn)
structure ErrD where
  name : Str
  fld : Str
  txt : Str
  qual : Str
  params : Arguments
  body : List Stmt
  scope : Scope
abbrev FnE : Type := Option (Str × Str × Arguments × FuncBody × Scope × Addr × List Str × Addr)
def ErrD.seen (K : PySem.W.Frag) (d : ErrD) : FnE := match K.lookup (ma K (ga K d.name) "__init__") with
  | some ⟨_, _, .func fd, _⟩ => some (fd.name, fd.qualname, fd.params, fd.body, fd.scope, fd.globals, fd.closure.map (·.1), fd.builtins)
  | _ => none
def ErrD.val (d : ErrD) : FnE := some ("__init__", d.qual, d.params, .stmts d.body, d.scope, mainGlobals, ["__class__"], builtinsNs)
def excClsB (K : PySem.W.Frag) (C : Addr) : Bool := match K.lookup C with
  | some ⟨.type c, _, .cls cd, sl⟩ => decide (c = "type") && (match cd.mro, sl.toList with
    | .ref C' :: bm, [_, _, _, _, some (.builtin n), _] => decide (C' = C) && (decide (n = "ValueError.__new__") && (!cd.hasDel && (cd.hasDict && PySem.HandSPX.refsVE bm)))
    | _, _ => false)
  | _ => false
theorem excClsB_ok {K : PySem.W.Frag} {C : Addr} (h : excClsB K C = true) : ∃ nm q N bs bm sn sub ab col dd k0 k1 k2 k3 k5, K.lookup C = some (excClassObj nm q C N bs bm true sn sub ab col dd k0 k1 k2 k3 k5 "ValueError.__new__") ∧ PySem.HandSPX.refsVE bm = true := by
  unfold excClsB at h
  split at h
  · rename_i c dd cd sl ho
    obtain ⟨h0, h⟩ := ba h
    split at h
    · rename_i C' bm k0 k1 k2 k3 n k5 hm hs
      obtain ⟨h1, h⟩ := ba h
      obtain ⟨h2, h⟩ := ba h
      obtain ⟨h3, h⟩ := ba h
      obtain ⟨h4, h5⟩ := ba h
      have h3' : cd.hasDel = false := by simpa using h3
      clear h3
      obtain ⟨nm, bs, mro, ns, qn, hd, sn, sub, ab, col, del⟩ := cd
      have e0 := of_decide_eq_true h0
      have e1 := of_decide_eq_true h1
      have e2 := of_decide_eq_true h2
      dsimp only at hm h3' h4
      subst hm h3' h4 e0 e1 e2
      have hsl : sl = #[k0, k1, k2, k3, some (.builtin "ValueError.__new__"), k5] := by
        obtain ⟨l⟩ := sl
        simp only at hs
        rw [hs]
      subst hsl
      exact ⟨nm, qn, ns, bs, bm, sn, sub, ab, col, dd, k0, k1, k2, k3, k5, ho, h5⟩
    · cases h
  · cases h
def isNon : Value → Bool
  | .none => true
  | _ => false
theorem isNon_ok {v : Value} (h : isNon v = true) : v = .none := by
  cases v <;> first | rfl | cases h
def fileB (P : Program) (K : PySem.W.Frag) (cd : Value) : Bool := match cd with
  | .ref c => (match K.lookup c with
    | some ⟨_, _, .fields vs, _⟩ => (match (vs[2]? : Option Value) with
      | some (Value.str file _) => (P.main.file == file)
      | _ => false)
    | _ => false)
  | _ => false
theorem fileB_ok {P : Program} {K : PySem.W.Frag} {cd : Value} (h : fileB P K cd = true) : ∃ cda, cd = .ref cda ∧ ∃ ccl cdd vs ccs file tf, K.lookup cda = some ⟨ccl, cdd, .fields vs, ccs⟩ ∧ vs[2]? = some (.str file tf) ∧ ((P.main.file : Str) == file) = true := by
  unfold fileB at h
  split at h
  · rename_i c
    split at h
    · rename_i ccl cdd vs ccs ho
      split at h
      · rename_i file tf hv
        exact ⟨c, rfl, ccl, cdd, vs, ccs, file, tf, ho, hv, h⟩
      · cases h
    · cases h
  · cases h
def cellB (K : PySem.W.Frag) (cl : List (Str × Addr)) (C : Addr) : Bool := match cl with
  | [(_, c)] => (match K.lookup c with
    | some ⟨_, _, .cell (some (.ref D)), _⟩ => decide (D = C)
    | _ => false)
  | _ => false
theorem cellB_ok {K : PySem.W.Frag} {cl : List (Str × Addr)} {C : Addr} (h : cellB K cl C = true) : ∃ x c, cl = [(x, c)] ∧ ∃ k d s, K.lookup c = some ⟨k, d, .cell (some (.ref C)), s⟩ := by
  unfold cellB at h
  split at h
  · rename_i x c
    split at h
    · rename_i k d D s ho
      have e := of_decide_eq_true h
      subst e
      exact ⟨x, c, rfl, k, d, s, ho⟩
    · cases h
  · cases h
def errSB (K : PySem.W.Frag) (ys : List Str) (x : Str) : Bool :=
  xfB K (ga K x) && (eqO (findIn K (.ref (ga K x)) "__class__") (some (some (.builtin "object.__class__"))) && (eqO (PySem.W.specialIn K (.builtin "object.__class__") "__get__") (some (some (.builtin "getset_descriptor.__get__"))) && (decide (PySem.W.takesIn K (.builtin "object.__class__") = some true) && (decide (mroIn K (ga K x) (.type "object") = some true) &&
    (decide (kitOne K (.ref (ga K x)) (.type "ValueError") = some true) && ys.all fun y => decide (kitOne K (.ref (ga K x)) (.ref (ga K y)) = some (decide (y = x) || decide (y = "GroupError"))) && (decide (exmOne K (.ref (ga K x)) (.ref (ga K y)) = some (decide (y = x) || decide (y = "GroupError"))) && eqO (nsIn K mainGlobals y) (some (some (.ref (ga K y))))))))))
theorem errSB_ok {K : PySem.W.Frag} {ys : List Str} {x : Str} (h : errSB K ys x = true) : ErrS K ys x := by
  obtain ⟨h1, h⟩ := ba h
  obtain ⟨h2, h⟩ := ba h
  obtain ⟨h3, h⟩ := ba h
  obtain ⟨h4, h⟩ := ba h
  obtain ⟨h5, h⟩ := ba h
  obtain ⟨h6, h⟩ := ba h
  have X := xfB_ok h1
  have k := fun y hy => ba (List.all_eq_true.mp h y hy)
  exact ⟨⟨X.ga, X.gg, X.exC, X.hdC, eqO_ok h2, eqO_ok h3, of_decide_eq_true h4, of_decide_eq_true h5⟩, X, fun y hy => of_decide_eq_true (k y hy).1, fun y hy => of_decide_eq_true (ba (k y hy).2).1, of_decide_eq_true h6, fun y hy => eqO_ok (ba (k y hy).2).2⟩
def ErrD.ok (P : Program) (K : PySem.W.Frag) (ys : List Str) (d : ErrD) : Bool :=
  errSB K ys d.name && (eqO (nsIn K mainGlobals d.name) (some (some (.ref (ga K d.name)))) && (eqO (nsIn K mainGlobals "super") (some none) && (!(P.main.scope.names.lookup ("super" : Str)).isSome && (excClsB K (ga K d.name) && (eqO (findIn K (.ref (ga K d.name)) "__setattr__") (some (some (.builtin "object.__setattr__"))) &&
  (eqO (findIn K (.ref (ga K d.name)) d.fld) (some none) && (keepIn K (.ref (ga K d.name)) && (decide (typeIn K (.ref (ga K d.name)) = some (.type "type")) && (decide (mroIn K (ga K d.name) (.ref (ga K d.name)) = some true) && (decide (subIn K (.ref (ga K d.name)) (.type "ValueError") = some true) &&
  (eqO (ks_superIn K (ga K d.name) (ga K d.name) "__init__") (some (some (.builtin "ValueError.__init__"))) && (eqO (nsIn K cStatics "thirdparty.any") (some none) && (eqO (findIn K (.ref (ga K d.name)) "__init__") (some (some (.ref (ma K (ga K d.name) "__init__")))) && (decide (typeIn K (.ref (ma K (ga K d.name) "__init__")) = some (.type "function")) &&
  (match K.lookup (ma K (ga K d.name) "__init__") with
    | some ⟨_, _, .func fd, _⟩ => isNon fd.defaults && (isNon fd.kwdefaults && (codeIn K fd.code d.qual && (fileB P K fd.code && cellB K fd.closure (ga K d.name))))
    | _ => false)))))))))))))))
/-- the text of __init__ is of the known form -/
structure ErrF (d : ErrD) : Prop where
  f1 : (d.fld == ("self" : Str)) = false
  f2 : (("self" : Str) == d.fld) = false
  f3 : (("super" : Str) == d.fld) = false
  f4 : (("__class__" : Str) == d.fld) = false
  f5 : (d.fld == ("__debug__" : Str)) = false
  form : ∃ p1 p2 r1 r2 r3 r4 r5 r6 q1 q2 q3 q4, d.params = ErrX.eA1 d.fld p1 p2 ∧ d.body = ErrX.eB1 d.fld d.txt r1 r2 r3 r4 r5 r6 q1 q2 q3 q4 ∧ d.scope = ErrX.eS1 d.fld ∧ (r3.endLine == r5.line) = true
theorem ErrD.errT {P : Program} {K : PySem.W.Frag} {mg : Str → Option Value} {ys : List Str} {d : ErrD} {h : Heap} (X : K.In h) (G : h.Ns mainGlobals mg) (F : ErrF d) (e : d.seen K = d.val) (c : d.ok P K ys = true) : ErrX.ErrT P K mg d.name d.fld (ga K d.name) ∧ ErrS K ys d.name := by
  obtain ⟨h0, c⟩ := ba c
  obtain ⟨h1, c⟩ := ba c
  obtain ⟨h2, c⟩ := ba c
  obtain ⟨h3, c⟩ := ba c
  obtain ⟨h4, c⟩ := ba c
  obtain ⟨h5, c⟩ := ba c
  obtain ⟨h6, c⟩ := ba c
  obtain ⟨h7, c⟩ := ba c
  obtain ⟨h8, c⟩ := ba c
  obtain ⟨h9, c⟩ := ba c
  obtain ⟨h10, c⟩ := ba c
  obtain ⟨h11, c⟩ := ba c
  obtain ⟨h12, c⟩ := ba c
  obtain ⟨h13, c⟩ := ba c
  obtain ⟨h14, c⟩ := ba c
  have S := errSB_ok h0
  refine ⟨⟨PySem.W.mg_of X G (eqO_ok h1), PySem.W.mg_none_of X G (eqO_ok h2), by simpa using h3, F.f1, F.f2, F.f3, F.f4, F.f5, excClsB_ok h4, eqO_ok h5, eqO_ok h6, h7, S.xf.exC, of_decide_eq_true h8, of_decide_eq_true h9, of_decide_eq_true h10, eqO_ok h11, eqO_ok h12, ?_⟩, S⟩
  obtain ⟨p1, p2, r1, r2, r3, r4, r5, r6, q1, q2, q3, q4, g1, g2, g3, g4⟩ := F.form
  unfold ErrD.seen at e
  cases q : K.lookup (ma K (ga K d.name) "__init__") with
  | none =>
    rw [q] at c
    cases c
  | some o =>
    obtain ⟨oc, od, dt, osl⟩ := o
    rw [q] at c e
    cases dt with
    | func fd =>
      obtain ⟨n1, n2, n3, n4, n5, n6, n7, n8, n9, n10, n11, n12, n13, n14, n15⟩ := fd
      have e2 : (some (n1, n2, n3, n4, n5, n6, n7.map (·.1), n15) : FnE) = ErrD.val d := e
      unfold ErrD.val at e2
      injection e2 with e2
      simp only [Prod.mk.injEq] at e2
      obtain ⟨a1, a2, a3, a4, a5, a6, a7, a8⟩ := e2
      have c3 : (isNon n8 && (isNon n9 && (codeIn K n13 d.qual && (fileB P K n13 && cellB K n7 (ga K d.name))))) = true := c
      obtain ⟨k1, c3⟩ := ba c3
      obtain ⟨k2, c3⟩ := ba c3
      obtain ⟨k3, c3⟩ := ba c3
      obtain ⟨k4, k5⟩ := ba c3
      obtain ⟨cda, z1, z2⟩ := fileB_ok k4
      obtain ⟨y, cc, z3, z4⟩ := cellB_ok k5
      have z5 := isNon_ok k1
      have z6 := isNon_ok k2
      subst z3
      have z7 : y = "__class__" := by
        have z : ([y] : List Str) = ([("__class__" : Str)] : List Str) := a7
        injection z
      subst z7
      subst a1 a2 a3 a4 a5 a6 a8 z5 z6 z1
      rw [g1, g2, g3] at q
      exact ⟨_, cc, cda, oc, od, _, _, _, _, osl, _, _, p1, p2, r1, r2, r3, r4, r5, r6, q1, q2, q3, q4, eqO_ok h13, of_decide_eq_true h14, g4, q, k3, z2, z4⟩
    | _ => cases c
/-- the head with all of it -/
def goQ (g : Addr → Option Obj) : Nat → List Addr → List Addr → List Addr
  | 0, sn, _ => sn
  | n + 1, sn, fr => match ((fr.flatMap fun a => match g a with
      | some o => refsD o
      | none => []).filter fun a => !(sn.contains a)).eraseDups with
    | nw => goQ g n (sn ++ nw) nw
/-- what n steps of naming reach from the module's names -/
def asQ (g : Addr → Option Obj) (n : Nat) : List Addr := goQ g n [cStatics, mainGlobals] [mainGlobals]
abbrev AlQ : Type := AlX × (Bool × (List FnW × List FnE))
def obsQ (P : Program) (n : Nat) (fa : List Fa) (fn : List DefD) (gs : List GetD) (es : List ErrD) (ys : List Str) (ts : List Tab) (tf : List Defn) (ex : PySem.W.Frag → Bool) (g : Addr → Option Obj) : AlQ :=
  ((obsT fa fn ts (frT g (asQ g n)), ex (frT g (asQ g n)) && tabsB g tf (frT g (asQ g n))), (gs.all (GetD.ok (frT g (asQ g n))) && es.all (ErrD.ok P (frT g (asQ g n)) ys), (gs.map (GetD.seen (frT g (asQ g n))), es.map (ErrD.seen (frT g (asQ g n))))))
structure SaysQ (P : Program) (fa : List Fa) (fn : List DefD) (gs : List GetD) (es : List ErrD) (ys : List Str) (ts : List Tab) (tf : List Defn) (ex : PySem.W.Frag → Bool) (w : World) (h : Heap) (K : PySem.W.Frag) : Prop where
  x : SaysX fa fn ts tf ex w h K
  ok : gs.all (GetD.ok K) = true
  seen : gs.map (GetD.seen K) = gs.map GetD.val
  eok : es.all (ErrD.ok P K ys) = true
  eseen : es.map (ErrD.seen K) = es.map ErrD.val
theorem saysXQ {fa : List Fa} {fn : List DefD} {ts : List Tab} {tf : List Defn} {ex : PySem.W.Frag → Bool} {w : World} {h : Heap} {as : List Addr} (e1 : obsT fa fn ts (frT h.get? as) = valT fn ts w) (e2 : (ex (frT h.get? as) && tabsB h.get? tf (frT h.get? as)) = true) : SaysX fa fn ts tf ex w h (frT h.get? as) := by
  obtain ⟨h1, h2⟩ := ba e2
  have key : ∀ p ∈ tf, PySem.W.codeHdIn (frT h.get? as) (cT (frT h.get? as) p).1 (cT (frT h.get? as) p).2 = true ∧ ∃ o, h.get? (cT (frT h.get? as) p).2 = some o ∧ emptyTab o = true := fun p hp => by
    obtain ⟨h3, h4⟩ := ba (List.all_eq_true.mp h2 p hp)
    refine ⟨h3, ?_⟩
    cases q : h.get? (cT (frT h.get? as) p).2 with
    | none =>
      rw [q] at h4
      cases h4
    | some o =>
      rw [q] at h4
      exact ⟨o, rfl, h4⟩
  exact ⟨e1, h1, fun p hp => (key p hp).1, fun p hp => by
    obtain ⟨_, o, q, z⟩ := key p hp
    exact frT_none q z, fun p hp => by
    obtain ⟨_, o, q, z⟩ := key p hp
    rw [q, emptyTab_eq z]⟩
theorem saysQ_of {P : Program} {n : Nat} {fa : List Fa} {fn : List DefD} {gs : List GetD} {es : List ErrD} {ys : List Str} {ts : List Tab} {tf : List Defn} {ex : PySem.W.Frag → Bool} {w : World} {h : Heap} (e : obsQ P n fa fn gs es ys ts tf ex h.get? = (valX fn ts w, (true, (gs.map GetD.val, es.map ErrD.val)))) : SaysQ P fa fn gs es ys ts tf ex w h (frT h.get? (asQ h.get? n)) := by
  have e1 : obsT fa fn ts (frT h.get? (asQ h.get? n)) = valT fn ts w := congrArg (fun z : AlQ => z.1.1) e
  have e2 : (ex (frT h.get? (asQ h.get? n)) && tabsB h.get? tf (frT h.get? (asQ h.get? n))) = true := congrArg (fun z : AlQ => z.1.2) e
  have e3 : (gs.all (GetD.ok (frT h.get? (asQ h.get? n))) && es.all (ErrD.ok P (frT h.get? (asQ h.get? n)) ys)) = true := congrArg (fun z : AlQ => z.2.1) e
  obtain ⟨e4, e5⟩ := ba e3
  exact ⟨saysXQ e1 e2, e4, congrArg (fun z : AlQ => z.2.2.1) e, e5, congrArg (fun z : AlQ => z.2.2.2) e⟩
def hookQ (P : Program) (n : Nat) (fa : List Fa) (fn : List DefD) (gs : List GetD) (es : List ErrD) (ys : List Str) (ts : List Tab) (tf : List Defn) (ex : PySem.W.Frag → Bool) : PySem.W.Hook where
  α := AlQ
  obs := fun s => obsQ P n fa fn gs es ys ts tf ex s.heap.get?
  val := fun w => (valX fn ts w, (true, (gs.map GetD.val, es.map ErrD.val)))
  says := fun w h => ∃ K : PySem.W.Frag, K.In h ∧ SaysQ P fa fn gs es ys ts tf ex w h K
  of := fun _ _ e => ⟨_, frT_in, saysQ_of e⟩
  keeps := fun _ _ _ ⟨K, hK, c⟩ k => ⟨K, PySem.W.Frag.In.keeps hK k, ⟨⟨c.x.t, c.x.more, c.x.hd, c.x.out, fun p hp => k _ _ (c.x.empty p hp)⟩, c.ok, c.seen, c.eok, c.eseen⟩⟩
theorem obsQ_eq {P : Program} {n : Nat} {fa : List Fa} {fn : List DefD} {gs : List GetD} {es : List ErrD} {ys : List Str} {ts : List Tab} {tf : List Defn} {ex : PySem.W.Frag → Bool} {g : Addr → Option Obj} {s : Shared} (h : ∀ a, g a = s.heap.get? a) : obsQ P n fa fn gs es ys ts tf ex g = (hookQ P n fa fn gs es ys ts tf ex).obs s := by
  have e : g = s.heap.get? := funext h
  rw [e] <;> rfl
section
variable {P : Program} {fa : List Fa} {fn : List DefD} {gs : List GetD} {es : List ErrD} {ys : List Str} {ts : List Tab} {tf : List Defn} {ex : PySem.W.Frag → Bool} {w : World} {h : Heap} {K : PySem.W.Frag}
theorem SaysQ.get (c : SaysQ P fa fn gs es ys ts tf ex w h K) {d : GetD} (hd : d ∈ gs) :
    PropOf K (ga K d.cls) d.fld (prA K d.cls d.fld) (prG K d.cls d.fld) ∧ ∃ fd, FunD K d.name d.qual d.params d.body d.scope [] [] (prG K d.cls d.fld) fd := by
  obtain ⟨i, hi, e⟩ := List.mem_iff_getElem.mp hd
  have e1 := congrArg (fun l : List FnW => l[i]?) c.seen
  have e2 : gs[i]? = some d := by rw [List.getElem?_eq_getElem hi, e]
  simp only [List.getElem?_map, e2, Option.map_some, Option.some.injEq] at e1
  exact GetD.funD e1 (List.all_eq_true.mp c.ok d hd)
theorem SaysQ.err {mg : Str → Option Value} (c : SaysQ P fa fn gs es ys ts tf ex w h K) (X : K.In h) (G : h.Ns mainGlobals mg) {d : ErrD} (hd : d ∈ es) (F : ErrF d) : ErrX.ErrT P K mg d.name d.fld (ga K d.name) ∧ ErrS K ys d.name := by
  obtain ⟨i, hi, e⟩ := List.mem_iff_getElem.mp hd
  have e1 := congrArg (fun l : List FnE => l[i]?) c.eseen
  have e2 : es[i]? = some d := by rw [List.getElem?_eq_getElem hi, e]
  simp only [List.getElem?_map, e2, Option.map_some, Option.some.injEq] at e1
  exact ErrD.errT X G F e1 (List.all_eq_true.mp c.eok d hd)
theorem SaysQ.tabd (c : SaysQ P fa fn gs es ys ts tf ex w h K) {t : Tab} (ht : t ∈ ts) : ∃ es n, KDict K w (t.1 K) es n := by
  obtain ⟨i, hi, e⟩ := List.mem_iff_getElem.mp ht
  exact c.x.t.tab i (by rw [List.getElem?_eq_getElem hi, e])
end
end RD

/-! own layer: further rules (behind EXC) -/
namespace RD
open PySem PySem.Spec PyProof.Rows L2 He
section
variable {X : Cx}
/-- l.remove(x) of a list of data: the first item that is == x goes -/
def rRemD (K : PySem.W.Frag) : V → List V → Hp → VK → Prop := fun x vs H Q => ∃ (l : Addr) (xs : List V) (y : V) (d : PyData) (ds : List PyData) (j : Nat), x = .ref l ∧ vs = [y] ∧ H l = some (.lst xs) ∧ DpAll K H xs ds ∧ Dp K H y d ∧
  PyData.plainAll ds = true ∧ d.plain = true ∧ d.depth ≤ 60 ∧ PySem.SeqAt.dataPlace ds d = some j ∧ Q .non (upd H l (.lst (xs.eraseIdx j)))
theorem mt_remD (hu : X.A.units + 65 < cLine) : MtM X "list.remove" (rRemD X.K) := by
  intro pins s σ H x xs v us Q I rx rxs h
  obtain ⟨l, vs, y, d, ds, j, rfl, rfl, hH, hda, hy, pl, pd, dep, hp, q⟩ := h
  cases rx
  obtain ⟨u, rfl, ru⟩ := rxs.one
  obtain ⟨z, its, n, r, hl, e⟩ := I.lstM hH
  obtain ⟨bs, r1⟩ := Dp.reads I d y u hy ru
  obtain ⟨as, h4⟩ := Dp.readsAll I ds _ its hda r
  have hn : its.length = ds.length := SeqAt.ReadsAll.length ds its as h4
  refine PySem.SeqAt.remove_list_data (vs := its.toArray) ⟨_, e, rfl, n, rfl⟩ (show ReadsAll s.heap its.toArray.toList ds as from h4) r1 pl pd (by omega) hp (by rw [List.size_toArray]; omega) ?_
  have rr := r.eraseIdx j
  refine ⟨.non, _, I.lset (its' := its.eraseIdx j) (t' := s.toks) hH e ?_ rr ?_, rfl, q⟩
  · show its.toArray.eraseIdxIfInBounds j = (its.eraseIdx j).toArray
    rw [List.eraseIdxIfInBounds_toArray]
  · have z2 : (vs.eraseIdx j).length ≤ vs.length := List.length_eraseIdx_le vs j
    omega
end
end RD
theorem _root_.L2.Room.units65 {k : Nat} {A : PySem.Around} (r : L2.Room k A) : A.units + 65 < PySem.cLine := by
  have := r.un
  omega

namespace L2
open PySem PySem.Spec PyProof.Rows GenW

section
variable {M : Model} {A : Around} {R : GenEnd} {Y : Protocol} {n : Nat} {s₀ : Shared} {c : Code} {fs : List Frame} {s : Shared} {env : Env}
  {K : Flow → Sem PySem.Fin} {J : Value → Sem PySem.Fin} {gd : Bool → Bool} {lv : List Value → List Value}
theorem seg_For {tg iter : Expr} {body : List Stmt} {pos : Pos}
    (h : wpAny M (A.over c fs) (eval iter env) (fun x s₁ => wpAny M (A.over c fs) (pyIter x) (fun it s₂ => ∀ p, Seg M A R Y n s₀ (.forLoop tg it body [] env) (M.den (.forLoop tg it body [] env))
      (.ret (fun r => ((match r with | .ok f => (.pure f : Sem Flow) | .error e => .raise e).onRaise (cameBack env)).wrap K J gd lv) none (gd false) (lv []) c p [] :: fs) s₂) (fun x s' => Seg M A R Y n s₀ c (J x) fs s') s₁) (fun x s' => Seg M A R Y n s₀ c (J x) fs s') s)
    (hs : ∀ x, foldedSetIterable iter env x = pure x) :
    Seg M A R Y n s₀ c ((exec (.For tg iter body [] pos) env).wrap K J gd lv) fs s := by
  rw [exec_For]
  refine seg_bind_wrap (wpAny_standAt ?_)
  refine seg_bind_wrap (wpAny_mono h (fun x s₁ h₁ => ?_) fun _ _ h' => h')
  refine seg_bind_wrap (wpAny_of_eq (hs x) ?_)
  refine seg_bind_wrap (wpAny_standAt ?_)
  refine seg_bind_wrap (wpAny_holding (wpAny_mono h₁ (fun it s₂ h₂ => ?_) fun _ _ h' => h'))
  exact seg_call h₂
end
section
variable {prog : Program} {w : World} {A : Around} {R : GenEnd} {Y : Protocol} {n : Nat} {s₀ : Shared} {fs : List Frame} {s : Shared} {env : Env}
theorem seg_forLoop {tg : Expr} {it : Value} {body : List Stmt}
    (h : wpAny (model prog w) (A.over (.forLoop tg it body [] env) fs) (pyNext it) (fun r s₁ => match r with
      | none => Seg (model prog w) A R Y n s₀ (.forLoop tg it body [] env) (.pure (.again (.block [] env))) fs s₁
      | some v => wpAny (model prog w) (A.over (.forLoop tg it body [] env) fs) (letOwnedTupleGo tg it v) (fun _ s₂ => wpAny (model prog w) (A.over (.forLoop tg it body [] env) fs) (assign tg env v) (fun _ s₃ =>
          Seg (model prog w) A R Y n s₀ (.forLoop tg it body [] env) ((execs body env).wrap (fun f => match f with
            | .next | .cont => .pure (.again (.forLoop tg it body [] env))
            | .brk => .pure (.done .next)
            | .ret v => .pure (.done (.ret v))) (fun e => (do noteFrame e env; theTreesLotGoes e : Sem Unit).wrap (fun _ => .raise e) .raise id id) id id) fs s₃)
          (fun x s' => Seg (model prog w) A R Y n s₀ (.forLoop tg it body [] env) ((do noteFrame x env; theTreesLotGoes x : Sem Unit).wrap (fun _ => .raise x) .raise id id) fs s') s₂)
        (fun x s' => Seg (model prog w) A R Y n s₀ (.forLoop tg it body [] env) ((do noteFrame x env; theTreesLotGoes x : Sem Unit).wrap (fun _ => .raise x) .raise id id) fs s') s₁)
      (fun x s' => Seg (model prog w) A R Y n s₀ (.forLoop tg it body [] env) ((do noteFrame x env; theTreesLotGoes x : Sem Unit).wrap (fun _ => .raise x) .raise id id) fs s') s) :
    Seg (model prog w) A R Y n s₀ (.forLoop tg it body [] env) ((model prog w).den (.forLoop tg it body [] env)) fs s := by
  have ex : ∀ e : Value, ((do noteFrame e env; theTreesLotGoes e : Sem Unit) >>= fun _ => (Sem.raise e : Sem PySem.Fin)) = (do noteFrame e env; theTreesLotGoes e : Sem Unit).wrap (fun _ => .raise e) .raise id id := fun e => Sem.bind_eq_wrap _ _
  show Seg _ A R Y n s₀ _ ((forTurn tg it body [] env).onRaise (fun x => do noteFrame x env; theTreesLotGoes x)) fs s
  unfold forTurn
  rw [Sem.onRaise_eq_wrap]
  refine seg_bind_wrap (wpAny_standAt ?_)
  refine seg_bind_wrap (wpAny_onRaise (wpAny_mono h (fun r s₁ h₁ => ?_) fun x s' hx => wpAny_standAt ?_))
  · cases r with
    | none => exact h₁
    | some v =>
      refine seg_bind_wrap (wpAny_mono h₁ (fun _ s₂ h₂ => ?_) fun x s' hx => ?_)
      · refine seg_bind_wrap (wpAny_mono h₂ (fun _ s₃ h₃ => ?_) fun x s' hx => ?_)
        · rw [Sem.bind_eq_wrap', Sem.wrap_wrap]
          refine Eq.mp (congrArg (fun t => Seg _ A R Y n s₀ _ t fs s₃) (Sem.wrap_congr (execs body env) _ _ (fun f => ?_) (fun e => ?_)).symm) h₃
          · cases f <;> rfl
          · exact ex e
        · rw [← ex] at hx
          exact hx
      · rw [← ex] at hx
        exact hx
  · rw [← ex] at hx
    exact hx
end
/-- W: the invariant by the turn, a measure and what is out; N: what the body is to reach -/
def tGFor (wi : TI) (g : TG) (tb : TGn) : TGn := fun D ys σ H => wi σ H fun J H1 => ∃ W : Nat → Nat → List V → St → Hp → Prop, (∃ m, W 0 m ys σ H1) ∧ ∀ i m ys σ H, W i m ys σ H →
  (J.stop i H ∧ D.nx ys σ H) ∨ (J.go i H ∧ ∃ N : List V → St → Hp → Prop, (∀ ys' σ' H', N ys' σ' H' → ∃ m', m' < m ∧ W (i + 1) m' ys' σ' H') ∧ ∀ x H', J.yld i H x H' → g x σ H' fun σ2 H2 => tb { D with nx := N, ct := N, bk := D.nx } ys σ2 H2)
section
variable {X : Cx}
theorem gs_for {tg iter : Expr} {body : List Stmt} {wi : TI} {g : TG} {tb : TGn} {pos : Pos} (hp : PassesOwn (model X.prog X.w) X.A X.env X.xe) (hc : X.calm = true) (hi : PI X tg iter wi) (hg : PG X tg g) (hb : GSs X body tb)
    (hs : ∀ x, foldedSetIterable iter X.env x = pure x := by intro _; rfl) : GS X (.For tg iter body [] pos) (tGFor wi g tb) := by
  refine ⟨fun A S ip R n ys s₀ c fs K J gd lv s σ H D g0 hn k hI ht => ?_⟩
  obtain ⟨acc, cc, r, I⟩ := hI
  refine seg_For ?_ hs
  rw [g0.over]
  refine wpAny_mono (hi.run _ s σ H _ I ht) (fun v s1 h1 => wpAny_mono h1 (fun itv s2 h2 p => ?_) fun x s' hx => k.exc n s₀ x s' hx) fun x s' hx => k.exc n s₀ x s' hx
  obtain ⟨it, fp, tn, Jt, H2, e, I2, T, st2, f2, W, ⟨m0, w0⟩, turn⟩ := h2
  subst e
  have gl := fun (kk : Result → Sem PySem.Fin) => gc_loop (k := kk) (c' := .forLoop tg (.ref it) body [] X.env) (l := lv []) (kp := []) (p := p) g0 rfl rfl
  have fS : S ∉ fp := fun hS => (f2 S hS).2.2.2.2.2 (S, lstObj acc cc) (List.mem_append_right _ List.mem_cons_self) rfl
  have fip : ∀ b ∈ fp, ∀ q ∈ ip, q.1 ≠ b := fun b hb q hq => (f2 b hb).2.2.2.2.2 q (List.mem_append_right _ (List.mem_cons_of_mem _ hq))
  have stat : ∀ {H' : Hp} {acc' : Array Value} {c' : Nat}, (∀ b ∈ fp, H' b = none) → ∀ b ∈ fp, FpOk X ((S, lstObj acc' c') :: ip) H' b := fun hn b hb => by
    obtain ⟨q1, q2, q3, q4, q5, q6⟩ := f2 b hb
    refine ⟨hn b hb, q2, q3, q4, q5, fun q hq => ?_⟩
    rcases List.mem_append.mp hq with hq | hq
    · exact q6 q (List.mem_append_left _ hq)
    · rcases List.mem_cons.mp hq with rfl | hq
      · exact fun z => fS (by rw [show S = b from z]; exact hb)
      · exact q6 q (List.mem_append_right _ (List.mem_cons_of_mem _ hq))
  have loop : ∀ (m i n : Nat) (ys : List V) (s₀ s : Shared) (σ : St) (H : Hp), n + ys.length = sizeLine → W i m ys σ H → tn i s.heap → (∀ b ∈ fp, H b = none) → GI X S ip ys σ H s →
      Seg (model X.prog X.w) A R (GY X S) n s₀ (.forLoop tg (.ref it) body [] X.env) ((model X.prog X.w).den (.forLoop tg (.ref it) body [] X.env))
        (.ret (fun r => ((match r with | .ok f => (.pure f : Sem Flow) | .error e => .raise e).onRaise (cameBack X.env)).wrap K J gd lv) none (gd false) (lv []) c p [] :: fs) s := by
    intro m
    induction m using Nat.strongRecOn with
    | ind m ih =>
      intro i n ys s₀ s σ H hn w htn hfp hI
      have ee : ∀ (n : Nat) (s₀ : Shared) (x : Value) (s' : Shared), X.xe x s' → Seg (model X.prog X.w) A R (GY X S) n s₀ (.forLoop tg (.ref it) body [] X.env)
          ((do noteFrame x X.env; theTreesLotGoes x : Sem Unit).wrap (fun _ => .raise x) .raise id id)
          (.ret (fun r => ((match r with | .ok f => (.pure f : Sem Flow) | .error e => .raise e).onRaise (cameBack X.env)).wrap K J gd lv) none (gd false) (lv []) c p [] :: fs) s' := fun n s₀ x s' hx => by
        refine seg_wrap ?_
        rw [(gl _).over]
        refine wpAny_bind (wpAny_mono (hp x s' hx) (fun _ s'' hcb => wpAny_theTreesLotGoes ?_) fun y s'' hcb => ?_)
        · exact seg_leaf (.error x) (seg_cameBack g0 k hcb)
        · exact seg_leaf (.error y) (seg_cameBack g0 k hcb)
      refine seg_forLoop ?_
      rw [(gl _).over]
      obtain ⟨acc, cc, r, I⟩ := hI
      rcases turn i m ys σ H w with ⟨stop, qn⟩ | ⟨go, N, hN, step⟩
      · refine wpAny_mono (T.done X rfl rfl rfl hc i _ s σ H X.xe I (stat hfp) htn stop) (fun r' s4 h4 => ?_) fun x s' hx => ee n s₀ x s' hx
        obtain ⟨rfl, I4⟩ := h4
        refine seg_again rfl ?_
        exact seg_leaf (.ok .next) (k.ok n ys s₀ s4 .next hn ⟨σ, H, ⟨acc, cc, r, I4⟩, qn⟩)
      · refine wpAny_mono (T.item X rfl rfl rfl hc i _ s σ H X.xe I (stat hfp) htn go) (fun r' s4 h4 => ?_) fun x s' hx => ee n s₀ x s' hx
        obtain ⟨u, rfl, h4⟩ := h4
        refine wpAny_mono h4 (fun _ s5 h5 => ?_) fun x s' hx => ee n s₀ x s' hx
        obtain ⟨x, H5, I5, r5, y5, st5, fr5⟩ := h5
        have I5' := I5.pinned (stat fr5) (T.obj _ _ st5)
        refine wpAny_mono (hg.run _ s5 σ H5 x u _ I5' r5 (step x H5 y5)) (fun _ s6 h6 => ?_) fun x s' hx => ee n s₀ x s' hx
        obtain ⟨σ6, H6, I6, q6⟩ := h6
        have gl6 : GC X S (ip ++ pinsAt fp s5.heap) A (.forLoop tg (.ref it) body [] X.env) (.ret (fun r => ((match r with | .ok f => (.pure f : Sem Flow) | .error e => .raise e).onRaise (cameBack X.env)).wrap K J gd lv) none (gd false) (lv []) c p [] :: fs) id := by
          obtain ⟨a1, a2, a3, a4, a5, a6, a7⟩ := gl (fun r => ((match r with | .ok f => (.pure f : Sem Flow) | .error e => .raise e).onRaise (cameBack X.env)).wrap K J gd lv)
          refine ⟨a1, fun q hq => ?_, a3, a4, a5, a6, a7⟩
          rcases List.mem_append.mp hq with hq | hq
          · exact a2 q hq
          · exact fun z => fS (by rw [← z]; exact (of_pinsAt hq).1)
        have back : ∀ {ys' : List V} {σ7 : St} {H7 : Hp} {s7 : Shared}, GI X S (ip ++ pinsAt fp s5.heap) ys' σ7 H7 s7 → GI X S ip ys' σ7 H7 s7 := fun {ys' σ7 H7 s7} h => by
          obtain ⟨acc7, c7, r7, I7⟩ := h
          exact ⟨acc7, c7, r7, Inv.unpinned (pl := pinsAt fp s5.heap) I7⟩
        refine hb.run A S (ip ++ pinsAt fp s5.heap) R n ys s₀ _ _ _ _ id id s6 σ6 H6 { D with nx := N, ct := N, bk := D.nx } gl6 hn ⟨fun n' ys' s₀' s7 f hn' hs => ?_, fun n' s₀' x s7 hx => ee n' s₀' x s7 hx⟩ ⟨acc, cc, r, I6⟩ q6
        have again : ∀ {σ7 : St} {H7 : Hp}, GI X S (ip ++ pinsAt fp s5.heap) ys' σ7 H7 s7 → N ys' σ7 H7 → Seg (model X.prog X.w) A R (GY X S) n' s₀' (.forLoop tg (.ref it) body [] X.env) ((model X.prog X.w).den (.forLoop tg (.ref it) body [] X.env))
            (.ret (fun r => ((match r with | .ok f => (.pure f : Sem Flow) | .error e => .raise e).onRaise (cameBack X.env)).wrap K J gd lv) none (gd false) (lv []) c p [] :: fs) s7 := fun {σ7 H7} I7 n7 => by
          obtain ⟨m', hm, w7⟩ := hN ys' σ7 H7 n7
          have I8 := I7
          obtain ⟨acc7, c7, r7, I7⟩ := I7
          have pin7 := fun b hb o e => I7.pin (b, o) (List.mem_append_right _ (List.mem_cons_of_mem _ (List.mem_append_right _ (mem_pinsAt (fp := fp) (h := s5.heap) hb e))))
          refine ih m' hm (i + 1) n' ys' s₀' s7 σ7 H7 hn' w7 (T.keep _ _ _ st5 fun b hb o e => (pin7 b hb o e).1) (fun b hb => ?_) (back I8)
          obtain ⟨o, e, d⟩ := T.obj _ _ st5 b hb
          exact (pin7 b hb o e).2.1
        cases f with
        | next => obtain ⟨σ7, H7, I7, n7⟩ := hs; exact seg_again rfl (again I7 n7)
        | cont => obtain ⟨σ7, H7, I7, n7⟩ := hs; exact seg_again rfl (again I7 n7)
        | brk => obtain ⟨σ7, H7, I7, q7⟩ := hs; exact seg_leaf (.ok .next) (k.ok n' ys' s₀' s7 .next hn' ⟨σ7, H7, back I7, q7⟩)
        | ret v => obtain ⟨x7, σ7, H7, I7, r7, q7⟩ := hs; exact seg_leaf (.ok (.ret v)) (k.ok n' ys' s₀' s7 (.ret v) hn' ⟨x7, σ7, H7, back I7, r7, q7⟩)
  exact loop m0 0 n ys s₀ s2 σ H2 hn w0 st2 (fun b hb => (f2 b hb).1) ⟨acc, cc, r, I2⟩
end
end L2

/-! ### ranges of any size -/
namespace L2
open PySem PySem.Spec PyProof.Rows
theorem turn_long {P : Program} {w : World} {K : PySem.W.Frag} {tg : Expr} (it : Addr) (lo : Int) (n : Nat) : Turn P w K tg (Itr lo n) [it] it (fun i h => IsLongIter h it (lo + (i : Nat) * 1) ((n : Int) - (i : Nat)) 1) where
  mem := by simp
  obj := fun i h st b hb => by
    have e : b = it := by simpa using hb
    subst e
    exact ⟨_, st, fun v z => by
      have z' : Data.fields _ = Data.cell v := z
      cases z'⟩
  keep := fun i h h' st k => k it (by simp) _ st
  item := by
    intro X hP hw hK hc i pins s σ H E I hf st hg
    subst hP hw hK
    obtain ⟨f0, f1, f2, f3, f4, f5⟩ := hf it (by simp)
    have W := Walks.longrange (prog := X.prog) (w := X.w) (I.ok.hd hc) it lo 1 n
    refine W.item i s _ _ hg st fun v h' tk hv st' kk => ?_
    obtain ⟨t, rfl⟩ := hv
    have I1 : Inv X pins σ H { s with heap := h', toks := tk } := I.turned (fun b o hb e => kk b o (by simpa using hb) e) f0 f1 f3 f4 f5
    refine ⟨_, rfl, go_of (s := { s with heap := h', toks := tk }) (n := "longrange_iterator") st' rfl rfl (by decide) ⟨.int (lo + i), H, I1, ⟨t, ?_⟩, ⟨rfl, rfl⟩, st', fun b hb => (hf b hb).1⟩⟩
    rw [Int.mul_one]
  done := by
    intro X hP hw hK hc i pins s σ H E I hf st hg
    subst hP hw hK
    obtain ⟨f0, f1, f2, f3, f4, f5⟩ := hf it (by simp)
    exact wpAny_pyNext_long_end (I.ok.hd hc) st (by have : n ≤ i := hg; omega) fun h' eb => ⟨rfl, I.turned (t' := s.toks) (fun b o hb e => eb b o hb e) f0 f1 f3 f4 f5⟩
  self := fun _ _ _ _ _ st h => wpAny_pyIter_longiter st h
section
variable {X : Cx} {tg : Expr}
theorem range_itB {pins : List (Addr × Obj)} {σ : St} {H : Hp} {s : Shared} {R : It → Hp → Prop} {E : Value → Shared → Prop} {lo hi : Int} {t u v : Tok} {tk : Nat} (I : Inv X pins σ H s)
    (q : R (Itr lo (hi - lo).toNat) H) : wpAny (model X.prog X.w) X.A (pyIter (.ref s.heap.objs.size)) (PIE X pins σ tg R) E { s with heap := s.heap.push { cls := .type "range", data := .fields #[.int lo t, .int hi u, .int 1 v] }, toks := tk } := by
  have e1 : lo + ((0 : Nat) : Int) * 1 = lo := by simp
  have e2 : (((hi - lo).toNat : Nat) : Int) - ((0 : Nat) : Int) = Builtin.Range.rangeSize lo hi 1 := by rw [rangeSize_one]; split <;> omega
  have I1 : Inv X pins σ H { s with heap := s.heap.push { cls := .type "range", data := .fields #[.int lo t, .int hi u, .int 1 v] }, toks := tk } := I.kept fun b o e => Heap.get?_push_of_some _ e
  cases hs : Builtin.Range.small lo hi 1 with
  | true =>
    refine wpAny_pyIter_range (IsRange.new ..) hs ?_
    refine ⟨(s.heap.push { cls := .type "range", data := .fields #[.int lo t, .int hi u, .int 1 v] }).objs.size, [(s.heap.push { cls := .type "range", data := .fields #[.int lo t, .int hi u, .int 1 v] }).objs.size], _, _, H, rfl,
      I1.kept (t' := tk) fun b o e => Heap.get?_push_of_some _ e, turn_range _ lo (hi - lo).toNat, ?_, fun b hb => ?_, q⟩
    · show IsRangeIter _ _ (lo + ((0 : Nat) : Int) * 1) ((((hi - lo).toNat : Nat) : Int) - ((0 : Nat) : Int)) 1
      rw [e1, e2]
      exact Heap.get?_push_size _ rfl
    · have e : b = (s.heap.push { cls := .type "range", data := .fields #[.int lo t, .int hi u, .int 1 v] }).objs.size := by simpa using hb
      subst e
      exact I1.fpOk (Nat.le_refl _) (I1.hok.fresh (Nat.le_refl _))
  | false =>
    refine wpAny_pyIter_longrange (IsRange.new ..) hs ?_
    refine ⟨(s.heap.push { cls := .type "range", data := .fields #[.int lo t, .int hi u, .int 1 v] }).objs.size, [(s.heap.push { cls := .type "range", data := .fields #[.int lo t, .int hi u, .int 1 v] }).objs.size], _, _, H, rfl,
      I1.kept (t' := tk) fun b o e => Heap.get?_push_of_some _ e, turn_long _ lo (hi - lo).toNat, ?_, fun b hb => ?_, q⟩
    · show IsLongIter _ _ (lo + ((0 : Nat) : Int) * 1) ((((hi - lo).toNat : Nat) : Int) - ((0 : Nat) : Int)) 1
      rw [e1, e2]
      exact Heap.get?_push_size _ rfl
    · have e : b = (s.heap.push { cls := .type "range", data := .fields #[.int lo t, .int hi u, .int 1 v] }).objs.size := by simpa using hb
      subst e
      exact I1.fpOk (Nat.le_refl _) (I1.hok.fresh (Nat.le_refl _))
def iRng2B (ta : TA) : TI := fun σ H R => ta σ H fun vs H1 => ∃ i j : Int, vs = [.int i, .int j] ∧ R (Itr i (j - i).toNat) H1
theorem pi_range2B {a b : Expr} {ta : TA} {p pos : Pos} (hg : Gl X "range") (hm : X.mg "range" = none) (ha : PA X [a, b] ta) (hs : starEach [a, b] X.env = [(false, eval a X.env), (false, eval b X.env)] := by rfl) (hs2 : starEach [b] X.env = [(false, eval b X.env)] := by rfl) :
    PI X tg (.Call (.Name "range" p) [a, b] [] pos) (iRng2B ta) := by
  refine ⟨fun pins s σ H R I h => ?_⟩
  refine Call_ (ld_blt I hg hm boot_range (PyProof.Rows.callWith_type1 (thn (ha.run pos pins s σ H _ I h) fun us s1 ⟨vs, H1, I1, r1, q1⟩ => ?_) (by rw [hs, hs2]) (by rw [hs2]; rfl)))
  obtain ⟨i, j, e, q⟩ := q1
  subst e
  cases r1 with
  | cons r rr =>
    cases rr with
    | cons r' rr =>
      cases rr
      obtain ⟨t, rfl⟩ := r
      obtain ⟨t', rfl⟩ := r'
      exact call_range_2 (range_itB I1 q)
end
end L2

namespace RD
open PySem PySem.Spec PyProof.Rows L2 C8 GenW
section
variable {P : Program} {w : World} {K : PySem.W.Frag} {mg : Str → Option Value} {base : Heap} {x qual : Str} {scope : Scope} {params : Arguments} {body : List Stmt} {f : Addr} {fd : FuncData} {dvs : List V} {kws : List (Str × V)}
/-- a generator def's promise from its body -/
theorem fnGD {N ps : List Str} {k : Nat} {sp : SpG} (F : FunD K x qual params body scope dvs kws f fd) (S : GScope N ps scope) (len : ∀ vs H Q E, sp vs H Q E → vs.length = ps.length)
    (hbody : ∀ (cdv : Value) (A : Around) (outer : List Env) (s : Shared) (H : Hp) (vs : List V) (Q : List V → Hp → Prop) (E : XK) (pn : List (Addr × Obj)), Room k (A.deeper (envOfC qual scope s.heap.objs.size f cdv)) → sp vs H Q E →
      ∃ t, GSs (gcxOf P w K mg base N qual scope f cdv A outer s H E pn) body t ∧ t ⟨fun ys _ H' => Q ys H', fun ys v H' => v = .non ∧ Q ys H', fun _ _ _ => False, fun _ _ _ => False⟩ [] (start N vs) H) : GFn P w K mg base (k + 1) f fd ps sp := by
  obtain ⟨oc, od, dV, kV, doc, pm, an, cdv, ct, osl, rfl, lk, hcd, _, _⟩ := F.ex
  exact gfn_of lk hcd S len fun A outer s H vs Q E pn hr hsp => hbody cdv A outer s H vs Q E pn hr hsp
structure GalX (P : Program) (w : World) (K : PySem.W.Frag) (mg : Str → Option Value) (base : Heap) (k : Nat) (x : Str) (sp : SpG) (dvs : List V) : Prop where
  ex : ∃ (f : Addr) (fd : FuncData) (ps : List Str) (ds : List Value), GFn P w K mg base k f fd ps sp ∧ mg x = some (.ref f) ∧ PySem.W.keepIn K (.ref f) = true ∧ Binds K fd ps ds ∧ Vals dvs ds
end
theorem passG {P : Program} {w : World} {X : Cx} : Passes (CX P w) X C8.E0 := fun _ _ _ _ _ _ _ c => by
  obtain ⟨_, _, _, _, _, _, _, _, _, _, _, _, h⟩ := c
  exact h.elim
section
variable {X : Cx} {k j : Nat} {x : Str} {sp : SpG} {dvs : List V} {e : Expr} {es : List Expr} {t : TA} {p p2 pos pos2 : Pos}
theorem pe_listGal (c : GalX X.prog X.w X.K X.mg X.base k x sp dvs) (hr : Room j X.A) (hk : k + 3 ≤ j) (hg : Gl X x) (hgl : Gl X "list") (hml : X.mg "list" = none) (ha : PA X (e :: es) t)
    (hdb : (x == ("__debug__" : Str)) = false := by decide) (he : starEach (e :: es) X.env = (false, eval e X.env) :: starEach es X.env := by rfl) (hpl : (backTo pos2 (starEach es X.env)).any (·.1) = false := by rfl)
    (he2 : starEach [Expr.Call (.Name x p2) (e :: es) [] pos2] X.env = (false, eval (.Call (.Name x p2) (e :: es) [] pos2) X.env) :: starEach [] X.env := by rfl) :
    PE X (.Call (.Name "list" p) [.Call (.Name x p2) (e :: es) [] pos2] [] pos) (tListG (tCallG sp dvs C8.E0 t)) := by
  obtain ⟨f, fd, ps, ds, F, hm, kp, b, d⟩ := c.ex
  exact pe_listG (k := k) (pgen_call F (hr.mono (by omega)) hg hm kp b d ha hdb he hpl) passG (fun _ _ _ h => h.elim) (hr.mono hk) hgl hml (by decide +kernel) (by decide) (by decide) he2
end
section
variable {K : PySem.W.Frag} {σ : L2.St} {H : Hp} {nx : List V → L2.St → Hp → Prop} {rt : List V → VK} {bk ct : List V → L2.St → Hp → Prop} {ys : List V}
theorem rd_gthen {t u : TGn} (h : t ⟨fun ys' σ' H' => u ⟨nx, rt, bk, ct⟩ ys' σ' H', rt, bk, ct⟩ ys σ H) : tGThen t u ⟨nx, rt, bk, ct⟩ ys σ H := h
theorem rd_gplain {t : TS} (h : t ⟨fun σ H => nx ys σ H, fun v H => rt ys v H, fun σ H => bk ys σ H, fun σ H => ct ys σ H⟩ σ H) : tPlain t ⟨nx, rt, bk, ct⟩ ys σ H := h
theorem rd_gend (h : nx ys σ H) : tG0 ⟨nx, rt, bk, ct⟩ ys σ H := h
theorem rd_gyield {te : TE} (hl : ys.length < sizeLine) (h : te σ H fun x H1 => nx (ys ++ [x]) σ H1) : tGYield te ⟨nx, rt, bk, ct⟩ ys σ H := ⟨hl, h⟩
def GForG (J : It) (g : TG) (t : TGn) (D : GEnds) (ys : List V) (σ : L2.St) (H1 : Hp) : Prop := ∃ W : Nat → Nat → List V → L2.St → Hp → Prop, (∃ m, W 0 m ys σ H1) ∧ ∀ i m ys σ H, W i m ys σ H →
  (J.stop i H ∧ D.nx ys σ H) ∨ (J.go i H ∧ ∃ N : List V → L2.St → Hp → Prop, (∀ ys' σ' H', N ys' σ' H' → ∃ m', m' < m ∧ W (i + 1) m' ys' σ' H') ∧ ∀ x H', J.yld i H x H' → g x σ H' fun σ2 H2 => t { D with nx := N, ct := N, bk := D.nx } ys σ2 H2)
theorem rd_gfor {wi : TI} {g : TG} {t : TGn} {D : GEnds} (h : wi σ H fun J H1 => GForG J g t D ys σ H1) : tGFor wi g t D ys σ H := h
theorem gforR_by {lo : Int} {n : Nat} {g : TG} {t : TGn} (Pv : Nat → List V → L2.St → Hp → Prop) (h0 : Pv 0 ys σ H)
    (hs : ∀ (i : Nat) ys σ H, i < n → Pv i ys σ H → g (.int (lo + i)) σ H fun σ2 H2 => t ⟨Pv (i + 1), rt, nx, Pv (i + 1)⟩ ys σ2 H2) (hd : ∀ ys σ H, Pv n ys σ H → nx ys σ H) : GForG (Itr lo n) g t ⟨nx, rt, bk, ct⟩ ys σ H := by
  refine ⟨fun i m ys σ H => m = n - i ∧ i ≤ n ∧ Pv i ys σ H, ⟨n, by simp, Nat.zero_le _, h0⟩, ?_⟩
  rintro i m ys σ H ⟨rfl, hi, p⟩
  by_cases hlt : i < n
  · refine .inr ⟨hlt, Pv (i + 1), fun ys' σ' H' p' => ⟨n - (i + 1), by omega, rfl, hlt, p'⟩, fun x H' y => ?_⟩
    obtain ⟨e, y⟩ := y
    subst e
    subst y
    exact hs i ys σ _ hlt p
  · have e : i = n := by omega
    subst e
    exact .inl ⟨Nat.le_refl _, hd ys σ H p⟩
end
end RD

namespace RD
open PySem PySem.Spec PyProof.Rows L2 C8 GenW
section
variable {K : PySem.W.Frag} {σ : L2.St} {H : Hp} {Q : VK}
theorem rd_iRng2B {ar : TA} {R : It → Hp → Prop} (h : ar σ H fun vs H1 => ∃ i j : Int, vs = [.int i, .int j] ∧ R (Itr i (j - i).toNat) H1) : iRng2B ar σ H R := h
theorem rd_sortedI {a : Addr} {ns : List Int} (h : H a = some (.lst (ns.map V.int))) (q : ∀ (os : List Int) (p : Addr), os.Perm ns → os.Pairwise (· ≤ ·) → H p = none → Q (.ref p) (upd H p (.lst (os.map V.int)))) : rSortedI K [.ref a] H Q := ⟨a, ns, rfl, SqL.of h, q⟩
theorem rd_listG {tg : TGen} (h : tg σ H fun out H2 => ∀ p, H2 p = none → Q (.ref p) (upd H2 p (.lst out))) : tListG tg σ H Q := h
theorem rd_callG {sp : SpG} {dvs : List V} {E : XK} {t : TA} {c : List V → Hp → Prop} (h : t σ H fun vs H1 => sp (vs ++ dvs) H1 c E) : tCallG sp dvs E t σ H c := h
end
theorem sort_uniq {a b : List Int} (p : a.Perm b) (h1 : a.Pairwise (· ≤ ·)) (h2 : b.Pairwise (· ≤ ·)) : a = b := List.Perm.eq_of_pairwise (fun _ _ _ _ => Int.le_antisymm) h1 h2 p
end RD

/-! ### walks over a dict that stays -/
namespace RD
open PySem PySem.Spec PyProof.Rows L2 C8 GenW
section
variable {K : PySem.W.Frag} {σ : L2.St} {H : Hp} {Q : VK} {nx : L2.St → Hp → Prop} {rt : VK} {bk ct : L2.St → Hp → Prop} {te : TE} {tt : TT} {t : TS}
theorem rd_lockS {d : Addr} {u : HO} (h : H d = some u) (mu : Mut (some u)) (k : ∀ od, t ⟨fun σ' H' => H' d = some (.frz od u) ∧ nx σ' (upd H' d u), fun v H' => H' d = some (.frz od u) ∧ rt v (upd H' d u), fun σ' H' => H' d = some (.frz od u) ∧ bk σ' (upd H' d u), fun σ' H' => H' d = some (.frz od u) ∧ ct σ' (upd H' d u)⟩ σ (upd H d (.frz od u))) : tLock t ⟨nx, rt, bk, ct⟩ σ H := ⟨d, u, h, mu, k⟩
theorem rd_lockE {d : Addr} {u : HO} (h : H d = some u) (mu : Mut (some u)) (k : ∀ od, te σ (upd H d (.frz od u)) fun v H' => H' d = some (.frz od u) ∧ Q v (upd H' d u)) : tLockE te σ H Q := ⟨d, u, h, mu, k⟩
theorem rd_iKeys {td : TE} {R : It → Hp → Prop} (h : td σ H fun x H1 => ∃ d o, x = .ref d ∧ ((∃ kvs, H1 d = some (.frz o (.dK kvs)) ∧ R (Itk d o kvs) H1) ∨ ∃ kvs, H1 d = some (.frz o (.dT kvs)) ∧ R (Itkt d o kvs) H1)) : iKeys td σ H R := h
theorem rd_iKeysX {d : Addr} {o : Obj} {kvs : List (Key × V)} {R : It → Prop} {B : Addr → Obj → Prop} (h : H d = some (.frz o (.dK kvs))) (q : R (Itk d o kvs)) : ∃ d' o', V.ref d = V.ref d' ∧ ((∃ kvs, H d' = some (.frz o' (.dK kvs)) ∧ R (Itk d' o' kvs)) ∨ B d' o') := ⟨d, o, rfl, .inl ⟨kvs, h, q⟩⟩
theorem forD_by {d : Addr} {o : Obj} {g : TG} (xs : List Int) (f : Int → V) (Pv : Nat → L2.St → Hp → Prop) (h0 : Pv 0 σ H) (hl : ∀ i σ H, i ≤ xs.length → Pv i σ H → H d = some (.frz o (.dK (dmap xs f))))
    (hs : ∀ (i : Nat) (h : i < xs.length) σ H, Pv i σ H → g (.int xs[i]) σ H fun σ2 H2 => t ⟨Pv (i + 1), rt, nx, Pv (i + 1)⟩ σ2 H2) (hd : ∀ σ H, Pv xs.length σ H → nx σ H) : ForG (Itk d o (dmap xs f)) g t ⟨nx, rt, bk, ct⟩ σ H := by
  refine ⟨fun i m σ H => m = xs.length - i ∧ i ≤ xs.length ∧ Pv i σ H, ⟨xs.length, by simp, Nat.zero_le _, h0⟩, ?_⟩
  rintro i m σ H ⟨rfl, hi, p⟩
  have q := hl i σ H hi p
  by_cases hlt : i < xs.length
  · refine .inr ⟨⟨q, by rw [dmap_len]; exact hlt⟩, Pv (i + 1), fun σ' H' p' => ⟨xs.length - (i + 1), by omega, rfl, hlt, p'⟩, fun x H' y => ?_⟩
    obtain ⟨e, k, v, h1, h2⟩ := y
    subst e
    have h3 : (dmap xs f)[i]? = some (.inl xs[i], f xs[i]) := by
      unfold dmap
      rw [List.getElem?_map, List.getElem?_eq_getElem hlt]
      rfl
    rw [h3] at h1
    cases h1
    subst h2
    exact hs i hlt σ _ p
  · have e : i = xs.length := by omega
    subst e
    exact .inl ⟨⟨q, by rw [dmap_len]; exact Nat.le_refl _⟩, hd σ H p⟩
theorem lcD_by {a D : Addr} {o : Obj} {g : TG} {vs : List Nat} {Qd : Hp → Prop} (xs : List Int) (f : Int → V) (Pv : Nat → Hp → Prop) (h0 : Pv 0 (upd H D (.lst []))) (hl : ∀ i H, i ≤ xs.length → Pv i H → H a = some (.frz o (.dK (dmap xs f))))
    (hs : ∀ (i : Nat) (h : i < xs.length) H, Pv i H → g (.int xs[i]) (wipe σ vs) H fun σ2 H2 => wipe σ2 vs = wipe σ vs ∧ tt σ2 H2 fun b H3 =>
      if b = true then te σ2 H3 fun y H4 => ∃ acc, H4 D = some (.lst acc) ∧ acc.length < sizeLine ∧ Pv (i + 1) (upd H4 D (.lst (acc ++ [y]))) else Pv (i + 1) H3) (hd : ∀ H, Pv xs.length H → Qd H) : LcG (Itk a o (dmap xs f)) g tt te vs σ D Qd H := by
  refine ⟨fun i m H => m = xs.length - i ∧ i ≤ xs.length ∧ Pv i H, ⟨xs.length, by simp, Nat.zero_le _, h0⟩, ?_⟩
  rintro i m H ⟨rfl, hi, p⟩
  have q := hl i H hi p
  by_cases hlt : i < xs.length
  · refine .inr ⟨⟨q, by rw [dmap_len]; exact hlt⟩, Pv (i + 1), fun H' p' => ⟨xs.length - (i + 1), by omega, rfl, hlt, p'⟩, fun x H' y => ?_⟩
    obtain ⟨e, k, v, h1, h2⟩ := y
    subst e
    have h3 : (dmap xs f)[i]? = some (.inl xs[i], f xs[i]) := by
      unfold dmap
      rw [List.getElem?_map, List.getElem?_eq_getElem hlt]
      rfl
    rw [h3] at h1
    cases h1
    subst h2
    exact hs i hlt _ p
  · have e : i = xs.length := by omega
    subst e
    exact .inl ⟨⟨q, by rw [dmap_len]; exact Nat.le_refl _⟩, hd H p⟩
theorem rd_listD {a : Addr} {kvs : List (Key × V)} (h : H a = some (.dK kvs)) (q : ∀ p, H p = none → Q (.ref p) (upd H p (.lst (kvs.map fun kv => kV kv.1)))) : ∃ (a' : Addr) (kvs : List (Key × V)), [V.ref a] = [.ref a'] ∧ Rd H a' (.dK kvs) ∧ ∀ p, H p = none → Q (.ref p) (upd H p (.lst (kvs.map fun kv => kV kv.1))) := ⟨a, kvs, rfl, .inl h, q⟩
theorem rd_anyL {a : Addr} {bs : List Bool} (h : H a = some (.lst (bs.map V.bl))) (q : Q (.bl (bs.any id)) H) : rAny K [.ref a] H Q := ⟨a, bs, rfl, SqL.of h, q⟩
theorem dmap_keys {xs : List Int} {f : Int → V} : ((dmap xs f).map fun kv => kV kv.1) = xs.map V.int := by
  unfold dmap
  rw [List.map_map]
  rfl
/-- behind a lock -/
theorem kp_lock {ps : List Addr} {H H2 : Hp} {d : Addr} {u : HO} {od : Obj} (h : H d = some u) (k : Kp ps (upd H d (.frz od u)) H2) : Kp ps H (upd H2 d u) := fun b o hb hn => by
  by_cases e : b = d
  · subst e
    rw [h] at hb
    rw [upd_same]
    exact hb
  · rw [upd_ne e]
    exact k b o (by rw [upd_ne e]; exact hb) hn
end
end RD

namespace RD
open PySem PySem.Spec PyProof.Rows L2 C8 GenW
section
variable {X : Cx} {CX : CXT} {k j : Nat} {C : Addr} {m : Str} {sp : Sp} {dvs : List V} {E : XK} {o : Expr} {ta : TE} {apos pos : Pos}
theorem pe_met0 {pl : Sem Bool} (c : MetX X.prog X.w X.K X.mg X.base CX k C m sp dvs) (hr : Room j X.A) (hk : k ≤ j) (hx : Passes CX X E) (he : PE X o ta)
    (ht : eval (.Call (.Attribute o m apos) [] [] pos) X.env = (do
      let ov ← eval o X.env
      standAt apos.atName
      let (f, first) ← holding [ov] (getMethod ov m pl)
      callWith pos f first (backTo pos (starEach [] X.env)) (backToKw pos (keywordEach [] X.env))) := by rfl) :
    PE X (.Call (.Attribute o m apos) [] [] pos) (tMeth C m sp dvs E ta tNil) := by
  obtain ⟨f, fd, ps, ds, cl, me, F, b, d⟩ := c.ex
  exact pe_meth0 he cl me F (hr.mono hk) b d hx ht
end
end RD

/-! own layer: texts, dicts of tuples (behind MORE) -/
namespace RD
open PySem PySem.Spec PyProof.Rows L2 He
section
variable {K : PySem.W.Frag} {w : World} {σ : L2.St} {H : Hp} {nx bk ct : L2.St → Hp → Prop} {rt : VK} {t : TS} {te ta tb tc to : TE} {tt : TT} {ar : TA} {Q : VK} {v x y z : V} {i j : Int}
/-! texts -/
def rLenStr : List V → Hp → VK → Prop := fun xs H Q => ∃ z : Str, xs = [.str z] ∧ z.length ≤ sizeLine ∧ Q (.int z.length) H
theorem call_lenStr {X : Cx} : CallR X (.builtin "len") rLenStr := call_len_str
theorem rd_lenStr {z : Str} (l : z.length ≤ sizeLine) (q : Q (.int z.length) H) : rLenStr [.str z] H Q := ⟨z, rfl, l, q⟩
theorem rd_ixS {z : Str} {c : Nat} (l : z.length ≤ sizeLine) (a : atI z.cps.toList i = some c) (q : Q (.str ⟨#[c]⟩) H) : rIxS (.str z) (.int i) H Q := ⟨z, i, c, rfl, rfl, l, a, q⟩
def rInSign : R2 := fun x y H Q => ∃ (c : Nat) (z : Str), x = .str ⟨#[c]⟩ ∧ y = .str z ∧ Q (.bl (decide (c ∈ z.cps.toList))) H
theorem op_inSign {X : Cx} : OpR X (compareOp .In) rInSign := op_in_sign
theorem rd_inSign {c : Nat} {z : Str} (q : Q (.bl (decide (c ∈ z.cps.toList))) H) : rInSign (.str ⟨#[c]⟩) (.str z) H Q := ⟨c, z, rfl, rfl, q⟩
theorem rd_iStr {R : It → Hp → Prop} (h : te σ H fun v H1 => ∃ x, v = .str x ∧ R (Its x) H1) : iStr te σ H R := h
theorem rd_iStrX {x : Str} {R : Str → Prop} (q : R x) : ∃ y, V.str x = V.str y ∧ R y := ⟨x, rfl, q⟩
theorem forS_by {z : Str} {g : TG} (Pv : Nat → L2.St → Hp → Prop) (h0 : Pv 0 σ H)
    (hs : ∀ (i : Nat) c σ H, z.cps.toList[i]? = some c → Pv i σ H → g (.str ⟨#[c]⟩) σ H fun σ2 H2 => t ⟨Pv (i + 1), rt, nx, Pv (i + 1)⟩ σ2 H2) (hd : ∀ σ H, Pv z.cps.size σ H → nx σ H) : ForG (Its z) g t ⟨nx, rt, bk, ct⟩ σ H := by
  refine ⟨fun i m σ H => m = z.cps.size - i ∧ i ≤ z.cps.size ∧ Pv i σ H, ⟨z.cps.size, by simp, Nat.zero_le _, h0⟩, ?_⟩
  rintro i m σ H ⟨rfl, hi, p⟩
  by_cases hlt : i < z.cps.size
  · refine .inr ⟨hlt, Pv (i + 1), fun σ' H' p' => ⟨z.cps.size - (i + 1), by omega, rfl, hlt, p'⟩, fun x H' y => ?_⟩
    obtain ⟨rfl, c, hc, rfl⟩ := y
    exact hs i c σ _ (by rw [Array.getElem?_toList]; exact hc) p
  · have e : i = z.cps.size := by omega
    subst e
    exact .inl ⟨Nat.le_refl _, hd σ H p⟩
theorem lcS_by {z : Str} {D : Addr} {g : TG} {vs : List Nat} {Qd : Hp → Prop} (Pv : Nat → Hp → Prop) (h0 : Pv 0 (upd H D (.lst [])))
    (hs : ∀ (i : Nat) c H, z.cps.toList[i]? = some c → Pv i H → g (.str ⟨#[c]⟩) (wipe σ vs) H fun σ2 H2 => wipe σ2 vs = wipe σ vs ∧ tt σ2 H2 fun b H3 =>
      if b = true then te σ2 H3 fun y H4 => ∃ acc, H4 D = some (.lst acc) ∧ acc.length < sizeLine ∧ Pv (i + 1) (upd H4 D (.lst (acc ++ [y]))) else Pv (i + 1) H3) (hd : ∀ H, Pv z.cps.size H → Qd H) : LcG (Its z) g tt te vs σ D Qd H := by
  refine ⟨fun i m H => m = z.cps.size - i ∧ i ≤ z.cps.size ∧ Pv i H, ⟨z.cps.size, by simp, Nat.zero_le _, h0⟩, ?_⟩
  rintro i m H ⟨rfl, hi, p⟩
  by_cases hlt : i < z.cps.size
  · refine .inr ⟨hlt, Pv (i + 1), fun H' p' => ⟨z.cps.size - (i + 1), by omega, rfl, hlt, p'⟩, fun x H' y => ?_⟩
    obtain ⟨rfl, c, hc, rfl⟩ := y
    exact hs i c _ (by rw [Array.getElem?_toList]; exact hc) p
  · have e : i = z.cps.size := by omega
    subst e
    exact .inl ⟨Nat.le_refl _, hd H p⟩
/-- [.. for c in text]: only looks -/
theorem lcF_str {z : Str} {D : Addr} {g : TG} {vs : List Nat} {Qd : Hp → Prop} (f : Nat → V) (hD : H D = none) (hl : z.cps.size < 1000000)
    (hs : ∀ (i : Nat) c, z.cps.toList[i]? = some c → ∀ H1 (E : VK) (N : Hp → Prop), Kp [] H H1 → (∀ H4, Kp [] H1 H4 → E (f c) H4) → g (.str ⟨#[c]⟩) (wipe σ vs) H1 fun σ2 H2 => wipe σ2 vs = wipe σ vs ∧ tt σ2 H2 fun b H3 => if b = true then te σ2 H3 E else N H3)
    (hd : ∀ H', Kp [] H H' → H' D = some (.lst (z.cps.toList.map f)) → Qd H') : LcG (Its z) g tt te vs σ D Qd H := by
  refine lcS_by (fun i H' => H' D = some (.lst ((z.cps.toList.take i).map f)) ∧ Kp [] H H') ⟨upd_same, Kp.new hD⟩ (fun i c H' hc q => ?_) (fun H' q => ?_)
  · obtain ⟨h1, h2⟩ := List.getElem?_eq_some_iff.mp hc
    refine hs i c hc H' _ _ q.2 (fun H4 k4 => ?_)
    refine ⟨_, k4.g0 q.1, szlt ?_, ?_, Kp.mine (q.2.trans k4) hD⟩
    · rw [List.length_map, List.length_take]
      rw [Array.length_toList] at h1
      omega
    · rw [upd_same, List.take_succ_eq_append_getElem h1, h2, List.map_append]
      rfl
  · rw [List.take_of_length_le (by simp)] at q
    exact hd H' q.2 q.1
def rJoin (K : PySem.W.Frag) : V → List V → Hp → VK → Prop := fun x xs H Q => ∃ a p, ∃ ys : List Str, x = .str a ∧ xs = [.ref p] ∧ (SqL K H p (ys.map V.str) ∨ SqT K H p (ys.map V.str)) ∧ (ys.map (·.length)).sum + ys.length * a.length ≤ 16777216 ∧ Q (.str (Txt.join a ys)) H
theorem pe_join' {X : Cx} {o e : Expr} {apos pos : Pos} (ho : PE X o to) (he : PE X e te) (hs : starEach [e] X.env = [(false, eval e X.env)] := by rfl) (hbase : attributeBase o "join" X.env (eval o X.env) = eval o X.env := by rfl) (hline : (apos.endLine == pos.line) = true := by rfl) :
    PE X (.Call (.Attribute o "join" apos) [e] [] pos) (tM1 (rJoin X.K) to te) := pe_join ho he hs hbase hline
theorem rd_m1 {r : V → List V → Hp → VK → Prop} (h : to σ H fun x H1 => (∃ a, x = .str a) ∧ te σ H1 fun y H2 => r x [y] H2 Q) : tM1 r to te σ H Q := h
theorem rd_m1X {a : Str} {B : Prop} (q : B) : (∃ a', V.str a = V.str a') ∧ B := ⟨⟨a, rfl⟩, q⟩
theorem rd_join {a : Str} {p : Addr} {ys : List Str} (h : H p = some (.lst (ys.map V.str))) (l : (ys.map (·.length)).sum + ys.length * a.length ≤ 16777216) (q : Q (.str (Str.join a ys)) H) : rJoin K (.str a) [.ref p] H Q := ⟨a, p, ys, rfl, rfl, .inl (SqL.of h), l, by
  rw [TL.join_eq]
  exact q⟩
theorem joinL1 : ∀ cs : List Nat, TL.joinL [] (cs.map fun c => [c]) = cs
  | [] => rfl
  | [c] => rfl
  | c :: d :: r => by
    have ih := joinL1 (d :: r)
    show [c] ++ ([] ++ TL.joinL [] ((d :: r).map fun c => [c])) = _
    rw [ih]
    rfl
theorem join1 (cs : List Nat) : Str.join (⟨#[]⟩ : Str) (cs.map fun c => (⟨#[c]⟩ : Str)) = ⟨cs.toArray⟩ := by
  have e := SX.join_S [] (cs.map fun c => [c])
  rw [joinL1, TL.join_eq, List.map_map] at e
  exact e
theorem rd_all {a : Addr} {bs : List Bool} (h : H a = some (.lst (bs.map V.bl))) (q : Q (.bl (bs.all id)) H) : rAll K [.ref a] H Q := ⟨a, bs, rfl, SqL.of h, q⟩
theorem inV_strs (a : Str) : ∀ ns : List Str, inV (.str a) (ns.map V.str) = decide (a ∈ ns)
  | [] => rfl
  | b :: r => by
    have ih := inV_strs a r
    unfold inV at ih ⊢
    rw [List.map_cons, List.any_cons, ih]
    show ((b == a) || decide (a ∈ r)) = decide (a ∈ b :: r)
    by_cases h : b = a
    · subst h
      simp
    · have h2 : (b == a) = false := beq_eq_false_iff_ne.mpr h
      rw [h2, Bool.false_or]
      simp [List.mem_cons, Ne.symm h]
theorem flat_strs : ∀ ns : List Str, (ns.map V.str).all flatV = true
  | [] => rfl
  | _ :: r => by
    rw [List.map_cons, List.all_cons, flat_strs r]
    rfl
theorem rd_inTS {p : Addr} {ns : List Str} {s : Str} (h : SqT K H p (ns.map V.str)) (q : Q (.bl (decide (s ∈ ns))) H) : rIn K false (.str s) (.ref p) H Q := ⟨p, ns.map V.str, rfl, .inr h, rfl, flat_strs ns, by
  rw [inV_strs]
  exact q⟩
theorem rd_indexS {a : Addr} {ns : List Str} {s : Str} {j : Nat} (h : SqL K H a (ns.map V.str)) (e : ns[j]? = some s) (no : ∀ m z, m < j → ns[m]? = some z → z ≠ s) (q : Q (.int (j : Nat)) H) : rIndex K (.ref a) [.str s] H Q :=
  ⟨a, ns.map V.str, .str s, j, .str s, rfl, rfl, h, rfl, flat_strs ns, by rw [List.getElem?_map, e]; rfl, by show (s == s) = true; exact beq_self_eq_true s, fun m z' hm hz => by
    rw [List.getElem?_map] at hz
    obtain ⟨z, h1, rfl⟩ := Option.map_eq_some_iff.mp hz
    show (z == s) = false
    exact beq_eq_false_iff_ne.mpr (no m z hm h1), q⟩
theorem rd_int1b {b : Bool} (h : Q (.int (if b then 1 else 0)) H) : rInt1 [.bl b] H Q := .inr ⟨b, rfl, h⟩
theorem rd_dpop2 (h : ta σ H fun x H1 => ∃ a, x = .ref a ∧ IsD H1 a ∧ tb σ H1 fun y H2 => tc σ H2 fun z H3 => ∃ kvs k, H3 a = some (.dK kvs) ∧ y = kV k ∧
  (∀ v, valV kvs k = some v → Q v (upd H3 a (.dK (dropK kvs k)))) ∧ (valV kvs k = none → Q z H3)) : tDPop2 ta tb tc σ H Q := h
theorem rd_dpopI {a : Addr} {kvs : List (Key × V)} {R1 : List (Key × V) → Key → Prop} (e : H a = some (.dK kvs)) (q : R1 kvs (.inl i)) : ∃ kvs k, H a = some (.dK kvs) ∧ V.int i = kV k ∧ R1 kvs k := ⟨kvs, .inl i, e, rfl, q⟩
theorem rd_ixKD {p : Addr} {s : Str} (h : KDct K w p s v) (q : Q v H) : rIxD K w (.ref p) (.str s) H Q := ⟨p, s, v, rfl, rfl, h, q⟩
theorem kdct_of {a : Addr} {es : Array DictEntry} {n : Nat} {kvs : List (Str × Dv)} (D : KDict K w a es n) (h : valsB K a kvs = true) {s : Str} {d : Dv} (m : (s, d) ∈ kvs) : KDct K w a s (d.v K) := by
  obtain ⟨u, e, r⟩ := valsB_ok h m
  exact ⟨es, n, u, D.at_, D.lit, e, r⟩
end
section
variable {X : L2.Cx} {CX : CXT} {k j : Nat} {x : Str} {sp : Sp} {dvs : List V} {E : XK} {p pos : Pos} {C : Addr}
theorem pe_cal0 (c : CalX X.prog X.w X.K X.mg X.base CX k x sp dvs) (hr : Room j X.A) (hk : k ≤ j) (hg : Gl X x) (hx : Passes CX X E) (hdb : (x == ("__debug__" : Str)) = false := by decide) : PE X (.Call (.Name x p) [] [] pos) (tCall sp dvs E tNil) := by
  obtain ⟨f, fd, ps, ds, F, hm, kp, b, d⟩ := c.ex
  exact pe_call0 F (hr.mono hk) hg hm kp b d hx hdb
theorem pe_mak0 (c : MakX X.prog X.w X.K X.mg X.base CX k x C sp dvs) (hr : Room j X.A) (hk : k + 1 ≤ j) (hg : Gl X x) (hx : Passes CX X E) (hdb : (x == ("__debug__" : Str)) = false := by decide) : PE X (.Call (.Name x p) [] [] pos) (tMake C sp dvs E tNil) := by
  obtain ⟨f, fd, ps, ds, M, F, hm, b, d⟩ := c.ex
  exact pe_make0 M F (hr.mono hk) hg hm b d hx hdb
end
/-! ### a walk over a list or a tuple; ranges with a step; chains -/
section
variable {X : L2.Cx} {K : PySem.W.Frag} {σ : L2.St} {H : Hp} {te ta tb tc : TE} {ar : TA} {Q : VK}
def iSeq (K : PySem.W.Frag) (te : TE) : TI := fun σ H R => te σ H fun x H1 => ∃ a, x = .ref a ∧ (((∃ xs, SqL K H1 a xs) ∧ R (Itl K a) H1) ∨ ((∃ xs, SqT K H1 a xs) ∧ R (Itt K a) H1))
theorem pi_seq {tg l : Expr} (hl : PE X l te) : PI X tg l (iSeq X.K te) := by
  refine ⟨fun pins s σ H R I h => ?_⟩
  refine thn (hl.run pins s σ H _ I h) fun v s1 ⟨x, H1, I1, r1, q1⟩ => ?_
  obtain ⟨a, e, h | h⟩ := q1
  · obtain ⟨⟨xs, hq⟩, q⟩ := h
    subst e
    cases r1
    obtain ⟨its, rv, p, hz⟩ := I1.list hq
    refine wpAny_pyIter_list p.isList ?_
    refine ⟨s1.heap.objs.size, [s1.heap.objs.size], _, _, H1, rfl, I1.kept (t' := s1.toks) fun b o e => Heap.get?_push_of_some _ e, turn_list a _, ⟨_, Heap.get?_push_size _ rfl, rfl, rfl⟩, fun b hb => ?_, q⟩
    have e : b = s1.heap.objs.size := by simpa using hb
    subst e
    exact I1.fpOk (Nat.le_refl _) (I1.hok.fresh (Nat.le_refl _))
  · obtain ⟨⟨xs, hq⟩, q⟩ := h
    subst e
    cases r1
    obtain ⟨its, rv, p, hz⟩ := I1.tuple hq
    refine wpAny_pyIter_tuple (show s1.heap.IsTuple a its.toArray from p) ?_
    refine ⟨s1.heap.objs.size, [s1.heap.objs.size], _, _, H1, rfl, I1.kept (t' := s1.toks) fun b o e => Heap.get?_push_of_some _ e, turn_tuple a _, ⟨_, Heap.get?_push_size _ rfl, rfl, rfl⟩, fun b hb => ?_, q⟩
    have e : b = s1.heap.objs.size := by simpa using hb
    subst e
    exact I1.fpOk (Nat.le_refl _) (I1.hok.fresh (Nat.le_refl _))
theorem rd_iSeq {R : It → Hp → Prop} (h : te σ H fun x H1 => ∃ a, x = V.ref a ∧ (((∃ xs, SqL K H1 a xs) ∧ R (Itl K a) H1) ∨ ((∃ xs, SqT K H1 a xs) ∧ R (Itt K a) H1))) : iSeq K te σ H R := h
theorem rd_iSeqL {p : Addr} {xs : List V} {A : Addr → Prop} {B : Addr → Prop} (h : SqL K H p xs) (q : A p) : ∃ a, V.ref p = V.ref a ∧ (((∃ xs, SqL K H a xs) ∧ A a) ∨ ((∃ xs, SqT K H a xs) ∧ B a)) := ⟨p, rfl, .inl ⟨⟨xs, h⟩, q⟩⟩
theorem rd_iSeqT {p : Addr} {xs : List V} {A : Addr → Prop} {B : Addr → Prop} (h : SqT K H p xs) (q : B p) : ∃ a, V.ref p = V.ref a ∧ (((∃ xs, SqL K H a xs) ∧ A a) ∨ ((∃ xs, SqT K H a xs) ∧ B a)) := ⟨p, rfl, .inr ⟨⟨xs, h⟩, q⟩⟩
theorem rd_chain {r r' : R2} (h : ta σ H fun x H1 => tb σ H1 fun y H2 => r x y H2 fun z H3 => ∃ k, z = V.bl k ∧ (if k = true then tc σ H3 fun w' H4 => r' y w' H4 Q else Q (.bl false) H3)) : tChain r r' ta tb tc σ H Q := h
theorem rd_iRng3 {R : It → Hp → Prop} (h : ar σ H fun vs H1 => ∃ (i j c : Int) (n : Nat), vs = [V.int i, V.int j, V.int c] ∧ RgC i j c n ∧ R (Itc i c n) H1) : iRng3 ar σ H R := h
theorem rd_iRng3X {i j c : Int} {n : Nat} {R : Int → Int → Nat → Prop} (h : RgC i j c n) (q : R i c n) : ∃ (i' j' c' : Int) (n' : Nat), [V.int i, V.int j, V.int c] = [V.int i', V.int j', V.int c'] ∧ RgC i' j' c' n' ∧ R i' c' n' := ⟨i, j, c, n, rfl, h, q⟩
end
/-! ### a tuple at a told place (a default ()) -/
def tupA (K : PySem.W.Frag) (a : Addr) (vs : List Dv) : Bool := match K.lookup a with
  | some ⟨.type c, _, .seq its _, _⟩ => decide (c = "tuple") && (decide (its.size ≤ sizeLine) && relAll (vs.map (Dv.v K)) its.toList)
  | _ => false
theorem tupA_ok {K : PySem.W.Frag} {a : Addr} {vs : List Dv} (h : tupA K a vs = true) (H : Hp) : SqT K H a (vs.map (Dv.v K)) := by
  unfold tupA at h
  cases q : K.lookup a with
  | none =>
    rw [q] at h
    cases h
  | some o =>
    obtain ⟨oc, od, dt, osl⟩ := o
    rw [q] at h
    cases oc with
    | type c =>
      cases dt with
      | seq its n =>
        obtain ⟨h1, h2⟩ := ba (show (decide (c = "tuple") && (decide (its.size ≤ sizeLine) && relAll (vs.map (Dv.v K)) its.toList)) = true from h)
        obtain ⟨h3, h4⟩ := ba h2
        exact .inr ⟨_, its, n, q, congrArg Value.type (of_decide_eq_true h1), rfl, of_decide_eq_true h3, relAll_ok h4⟩
      | _ => cases h
    | _ => cases dt <;> cases h
/-! ### dicts of tuples under int keys -/
section
variable {α : Type}
def kvT (key : α → Int) (xs : List (Addr × α)) : List (Key × V) := xs.map fun p => ((.inl (key p.2) : Key), V.ref p.1)
def fdT (key : α → Int) (xs : List (Addr × α)) (k : Int) : Option (Addr × α) := xs.find? fun p => decide (key p.2 = k)
def ptT (key : α → Int) (xs : List (Addr × α)) (p : Addr × α) : List (Addr × α) := if (xs.any fun q => decide (key q.2 = key p.2)) = true then xs.map (fun q => if key q.2 = key p.2 then p else q) else xs ++ [p]
def dpT (key : α → Int) (xs : List (Addr × α)) (k : Int) : List (Addr × α) := xs.filter fun p => decide (key p.2 ≠ k)
def fdS (key : α → Int) (ys : List α) (k : Int) : Option α := ys.find? fun y => decide (key y = k)
def ptS (key : α → Int) (ys : List α) (y : α) : List α := if (ys.any fun q => decide (key q = key y)) = true then ys.map (fun q => if key q = key y then y else q) else ys ++ [y]
def dpS (key : α → Int) (ys : List α) (k : Int) : List α := ys.filter fun y => decide (key y ≠ k)
theorem inl_iff {a b : Int} : ((.inl a : Key) = .inl b) ↔ a = b := ⟨fun e => Sum.inl.inj e, fun e => by rw [e]⟩
theorem kvT_val (key : α → Int) (k : Int) : ∀ xs : List (Addr × α), valV (kvT key xs) (.inl k) = (fdT key xs k).map fun p => V.ref p.1
  | [] => rfl
  | p :: r => by
    have ih := kvT_val key k r
    by_cases h : key p.2 = k
    · show valV (((.inl (key p.2) : Key), V.ref p.1) :: kvT key r) (.inl k) = _
      rw [valV_pos (inl_iff.mpr h)]
      unfold fdT
      rw [List.find?_cons, decide_eq_true h]
      rfl
    · show valV (((.inl (key p.2) : Key), V.ref p.1) :: kvT key r) (.inl k) = _
      rw [valV_neg (fun e => h (inl_iff.mp e)), ih]
      unfold fdT
      rw [List.find?_cons, decide_eq_false h]
theorem kvT_put (key : α → Int) (xs : List (Addr × α)) (p : Addr × α) : putK (kvT key xs) (.inl (key p.2)) (.ref p.1) = kvT key (ptT key xs p) := by
  have e : ((kvT key xs).any fun kv => decide (kv.1 = (.inl (key p.2) : Key))) = xs.any fun q => decide (key q.2 = key p.2) := by
    unfold kvT
    rw [List.any_map]
    congr 1
    funext q
    exact decide_eq_decide.mpr inl_iff
  unfold putK ptT
  rw [e]
  by_cases h : (xs.any fun q => decide (key q.2 = key p.2)) = true
  · rw [if_pos h, if_pos h]
    unfold kvT
    rw [List.map_map, List.map_map]
    refine List.map_congr_left fun q _ => ?_
    show (if (.inl (key q.2) : Key) = .inl (key p.2) then ((.inl (key q.2) : Key), V.ref p.1) else (.inl (key q.2), V.ref q.1)) = _
    by_cases z : key q.2 = key p.2
    · rw [if_pos (inl_iff.mpr z)]
      show _ = ((.inl (key (if key q.2 = key p.2 then p else q).2) : Key), V.ref (if key q.2 = key p.2 then p else q).1)
      rw [if_pos z, z]
    · rw [if_neg (fun e => z (inl_iff.mp e))]
      show _ = ((.inl (key (if key q.2 = key p.2 then p else q).2) : Key), V.ref (if key q.2 = key p.2 then p else q).1)
      rw [if_neg z]
  · rw [if_neg h, if_neg h]
    unfold kvT
    rw [List.map_append]
    rfl
theorem kvT_drop (key : α → Int) (k : Int) (xs : List (Addr × α)) : dropK (kvT key xs) (.inl k) = kvT key (dpT key xs k) := by
  unfold dropK kvT dpT
  rw [List.filter_map]
  congr 1
  refine List.filter_congr fun q _ => ?_
  exact decide_eq_decide.mpr (not_congr inl_iff)
theorem kvT_keys (key : α → Int) (xs : List (Addr × α)) : ((kvT key xs).map fun kv => kV kv.1) = ((xs.map (·.2)).map key).map V.int := by
  unfold kvT
  rw [List.map_map, List.map_map, List.map_map]
  rfl
theorem kvT_len (key : α → Int) (xs : List (Addr × α)) : (kvT key xs).length = xs.length := List.length_map _
theorem fdT_some {key : α → Int} {xs : List (Addr × α)} {k : Int} {p : Addr × α} (h : fdT key xs k = some p) : p ∈ xs ∧ key p.2 = k := ⟨List.mem_of_find?_eq_some h, by
  have := List.find?_some (p := fun p : Addr × α => decide (key p.2 = k)) h
  exact of_decide_eq_true this⟩
theorem fdT_snd (key : α → Int) (k : Int) : ∀ xs : List (Addr × α), (fdT key xs k).map (·.2) = fdS key (xs.map (·.2)) k
  | [] => rfl
  | p :: r => by
    have ih := fdT_snd key k r
    unfold fdT fdS at ih ⊢
    rw [List.map_cons, List.find?_cons, List.find?_cons]
    cases decide (key p.2 = k) with
    | true => rfl
    | false => exact ih
theorem ptT_snd (key : α → Int) (xs : List (Addr × α)) (p : Addr × α) : (ptT key xs p).map (·.2) = ptS key (xs.map (·.2)) p.2 := by
  unfold ptT ptS
  have e : ((xs.map (·.2)).any fun q => decide (key q = key p.2)) = xs.any fun q => decide (key q.2 = key p.2) := by
    rw [List.any_map]
    rfl
  rw [e]
  by_cases h : (xs.any fun q => decide (key q.2 = key p.2)) = true
  · rw [if_pos h, if_pos h, List.map_map, List.map_map]
    refine List.map_congr_left fun q _ => ?_
    show (if key q.2 = key p.2 then p else q).2 = if key q.2 = key p.2 then p.2 else q.2
    by_cases z : key q.2 = key p.2
    · rw [if_pos z, if_pos z]
    · rw [if_neg z, if_neg z]
  · rw [if_neg h, if_neg h, List.map_append]
    rfl
theorem dpT_snd (key : α → Int) (k : Int) (xs : List (Addr × α)) : (dpT key xs k).map (·.2) = dpS key (xs.map (·.2)) k := by
  unfold dpT dpS
  rw [List.filter_map]
  rfl
theorem ptT_mem {key : α → Int} {xs : List (Addr × α)} {p q : Addr × α} (h : q ∈ ptT key xs p) : q = p ∨ q ∈ xs := by
  unfold ptT at h
  by_cases z : (xs.any fun q => decide (key q.2 = key p.2)) = true
  · rw [if_pos z] at h
    obtain ⟨r, hr, e⟩ := List.mem_map.mp h
    by_cases z2 : key r.2 = key p.2
    · rw [if_pos z2] at e
      exact .inl e.symm
    · rw [if_neg z2] at e
      exact .inr (e ▸ hr)
  · rw [if_neg z] at h
    rcases List.mem_append.mp h with h | h
    · exact .inr h
    · exact .inl (List.mem_singleton.mp h)
theorem ptT_len (key : α → Int) (xs : List (Addr × α)) (p : Addr × α) : (ptT key xs p).length ≤ xs.length + 1 := by
  unfold ptT
  split
  · rw [List.length_map]
    omega
  · rw [List.length_append]
    exact Nat.le_refl _
theorem dpT_len (key : α → Int) (k : Int) (xs : List (Addr × α)) : (dpT key xs k).length ≤ xs.length := List.length_filter_le _ _
theorem dpT_none {key : α → Int} {k : Int} {xs : List (Addr × α)} (h : fdT key xs k = none) : dpT key xs k = xs := by
  refine List.filter_eq_self.mpr fun p hp => ?_
  have := List.find?_eq_none.mp h p hp
  exact decide_eq_true fun z => this (decide_eq_true z)
/-- at d: a dict from int keys to tuples -/
structure TD (key : α → Int) (tup : α → List V) (H : Hp) (d : Addr) (xs : List (Addr × α)) : Prop where
  at_ : H d = some (.dK (kvT key xs))
  ob : ∀ p, p ∈ xs → H p.1 = some (.tup (tup p.2))
def NoT (H : Hp) (ps : List Addr) : Prop := ∀ q, q ∈ ps → ∀ vs, H q ≠ some (.tup vs)
variable {key : α → Int} {tup : α → List V} {H H' : Hp} {d : Addr} {xs : List (Addr × α)} {ps : List Addr}
theorem NoT.n {q : Addr} {vs : List V} (h : NoT H ps) (e : H q = some (.tup vs)) : q ∉ ps := fun m => h q m vs e
theorem TD.kp (B : TD key tup H d xs) (k : Kp ps H H') (n : d ∉ ps) (t : NoT H ps) : TD key tup H' d xs := ⟨k _ _ B.at_ n, fun p hp => k _ _ (B.ob p hp) (t.n (B.ob p hp))⟩
theorem TD.k0 (B : TD key tup H d xs) (k : Kp [] H H') : TD key tup H' d xs := B.kp k (by simp) (fun q hq => by cases hq)
theorem TD.put (B : TD key tup H d xs) {p : Addr × α} (h : H p.1 = some (.tup (tup p.2))) : TD key tup (upd H d (.dK (kvT key (ptT key xs p)))) d (ptT key xs p) := by
  have o : ∀ q vs, H q = some (.tup vs) → upd H d (.dK (kvT key (ptT key xs p))) q = some (.tup vs) := fun q vs e => hu_ne (ne_of e B.at_ (by intro z; cases z)) e
  refine ⟨upd_same, fun q hq => ?_⟩
  rcases ptT_mem hq with rfl | m
  · exact o _ _ h
  · exact o _ _ (B.ob q m)
theorem TD.drop (B : TD key tup H d xs) {k : Int} : TD key tup (upd H d (.dK (kvT key (dpT key xs k)))) d (dpT key xs k) :=
  ⟨upd_same, fun q hq => hu_ne (ne_of (B.ob q (List.mem_filter.mp hq).1) B.at_ (by intro z; cases z)) (B.ob q (List.mem_filter.mp hq).1)⟩
theorem TD.find (B : TD key tup H d xs) {k : Int} {p : Addr × α} (h : fdT key xs k = some p) : H p.1 = some (.tup (tup p.2)) := B.ob p (fdT_some h).1
end
/-! ### ascending lists -/
def srt (l : List Int) : List Int := l.mergeSort fun a b => decide (a ≤ b)
theorem srt_perm (l : List Int) : (srt l).Perm l := List.mergeSort_perm _ _
theorem srt_le (l : List Int) : (srt l).Pairwise (· ≤ ·) := (List.pairwise_mergeSort (le := fun a b : Int => decide (a ≤ b)) (fun a b c h1 h2 => decide_eq_true (Int.le_trans (of_decide_eq_true h1) (of_decide_eq_true h2))) (fun a b => by
  by_cases h : a ≤ b
  · simp [h]
  · simp [h]
    omega) l).imp fun h => of_decide_eq_true h
theorem srt_is {os l : List Int} (p : os.Perm l) (s : os.Pairwise (· ≤ ·)) : os = srt l := sort_uniq (p.trans (srt_perm l).symm) s (srt_le l)
end RD

namespace My
open PySem PySem.Spec PyProof.Rows L2 He RD
open PySem PySem.Spec PyProof.Rows L2 He RD
def top (i : Nat) : Stmt := PySem.Challenge.pw_livingroll_k27_doubts_due.main.body.getD i (.Pass ⟨0, 0, 0, 0⟩)
abbrev R : PySem.W.OpenRow := PySem.W.OpenLaw.row PySem.Challenge.rw_livingroll_k27_doubts_due
abbrev s_l_box : Stmt := (top 28)
abbrev n_l_box : List Str := ["_law_script", "_law_cells", "_law_cell"]
abbrev p_l_box : List Str := ["_law_script"]
theorem sc_l_box : FnScope n_l_box p_l_box (defScope s_l_box) := ⟨rfl, rfl, rfl, by decide +kernel, rfl, by decide +kernel, by decide +kernel⟩
def d_l_box : DefD := ⟨("_law_box", none), "_law_box", "_law_box", defArgs s_l_box, defBody s_l_box, defScope s_l_box, [], []⟩
abbrev s_l_draw : Stmt := (top 29)
abbrev n_l_draw : List Str := ["_law_box_here", "_law_top", "_law_digit", "_law_cells", "_law_place", "_law_cell", "_law_mixed"]
abbrev p_l_draw : List Str := ["_law_box_here", "_law_top"]
theorem sc_l_draw : FnScope n_l_draw p_l_draw (defScope s_l_draw) := ⟨rfl, rfl, rfl, by decide +kernel, rfl, by decide +kernel, by decide +kernel⟩
def d_l_draw : DefD := ⟨("_law_draw", none), "_law_draw", "_law_draw", defArgs s_l_draw, defBody s_l_draw, defScope s_l_draw, [], []⟩
abbrev s_l_bits : Stmt := (top 30)
abbrev n_l_bits : List Str := ["_law_box_here", "_law_way"]
abbrev p_l_bits : List Str := ["_law_box_here"]
theorem sc_l_bits : FnScope n_l_bits p_l_bits (defScope s_l_bits) := ⟨rfl, rfl, rfl, by decide +kernel, rfl, by decide +kernel, by decide +kernel⟩
def d_l_bits : DefD := ⟨("_law_bits", none), "_law_bits", "_law_bits", defArgs s_l_bits, defBody s_l_bits, defScope s_l_bits, [], []⟩
abbrev s_whole : Stmt := (top 6)
abbrev n_whole : List Str := ["value", "low", "high"]
abbrev p_whole : List Str := ["value", "low", "high"]
theorem sc_whole : FnScope n_whole p_whole (defScope s_whole) := ⟨rfl, rfl, rfl, by decide +kernel, rfl, by decide +kernel, by decide +kernel⟩
def d_whole : DefD := ⟨("whole", none), "whole", "whole", defArgs s_whole, defBody s_whole, defScope s_whole, [], []⟩
abbrev s_Setting_init : Stmt := (inClass (top 7) 5)
abbrev n_Setting_init : List Str := ["self", "bits", "patience", "room", "grace", "helpers"]
abbrev p_Setting_init : List Str := ["self", "bits", "patience", "room", "grace", "helpers"]
theorem sc_Setting_init : FnScope n_Setting_init p_Setting_init (defScope s_Setting_init) := ⟨rfl, rfl, rfl, by decide +kernel, rfl, by decide +kernel, by decide +kernel⟩
def d_Setting_init : DefD := ⟨("Setting", some "__init__"), "__init__", "Setting.__init__", defArgs s_Setting_init, defBody s_Setting_init, defScope s_Setting_init, [], [("grace", .int 6), ("helpers", .int 1)]⟩
abbrev s_Setting_seats : Stmt := (inClass (top 7) 7)
abbrev n_Setting_seats : List Str := ["self"]
abbrev p_Setting_seats : List Str := ["self"]
theorem sc_Setting_seats : FnScope n_Setting_seats p_Setting_seats (defScope s_Setting_seats) := ⟨rfl, rfl, rfl, by decide +kernel, rfl, by decide +kernel, by decide +kernel⟩
def g_Setting_seats : GetD := ⟨"Setting", "seats", "seats", "Setting.seats", defArgs s_Setting_seats, defBody s_Setting_seats, defScope s_Setting_seats⟩
abbrev s_is_worth : Stmt := (top 17)
abbrev n_is_worth : List Str := ["text", "sign"]
abbrev p_is_worth : List Str := ["text"]
theorem sc_is_worth : FnScope n_is_worth p_is_worth (defScope s_is_worth) := ⟨rfl, rfl, rfl, by decide +kernel, rfl, by decide +kernel, by decide +kernel⟩
def d_is_worth : DefD := ⟨("is_worth", none), "is_worth", "is_worth", defArgs s_is_worth, defBody s_is_worth, defScope s_is_worth, [], []⟩
abbrev s_life_ok : Stmt := (top 18)
abbrev n_life_ok : List Str := ["life"]
abbrev p_life_ok : List Str := ["life"]
theorem sc_life_ok : FnScope n_life_ok p_life_ok (defScope s_life_ok) := ⟨rfl, rfl, rfl, by decide +kernel, rfl, by decide +kernel, by decide +kernel⟩
def d_life_ok : DefD := ⟨("life_ok", none), "life_ok", "life_ok", defArgs s_life_ok, defBody s_life_ok, defScope s_life_ok, [], []⟩
abbrev s_is_saying : Stmt := (top 19)
abbrev n_is_saying : List Str := ["setting", "saying", "seat", "life", "mark", "worth"]
abbrev p_is_saying : List Str := ["setting", "saying"]
theorem sc_is_saying : FnScope n_is_saying p_is_saying (defScope s_is_saying) := ⟨rfl, rfl, rfl, by decide +kernel, rfl, by decide +kernel, by decide +kernel⟩
def d_is_saying : DefD := ⟨("is_saying", none), "is_saying", "is_saying", defArgs s_is_saying, defBody s_is_saying, defScope s_is_saying, [], []⟩
abbrev s_check_saying : Stmt := (top 20)
abbrev n_check_saying : List Str := ["setting", "saying"]
abbrev p_check_saying : List Str := ["setting", "saying"]
theorem sc_check_saying : FnScope n_check_saying p_check_saying (defScope s_check_saying) := ⟨rfl, rfl, rfl, by decide +kernel, rfl, by decide +kernel, by decide +kernel⟩
def d_check_saying : DefD := ⟨("check_saying", none), "check_saying", "check_saying", defArgs s_check_saying, defBody s_check_saying, defScope s_check_saying, [], []⟩
abbrev s_rank : Stmt := (top 21)
abbrev n_rank : List Str := ["saying"]
abbrev p_rank : List Str := ["saying"]
theorem sc_rank : FnScope n_rank p_rank (defScope s_rank) := ⟨rfl, rfl, rfl, by decide +kernel, rfl, by decide +kernel, by decide +kernel⟩
def d_rank : DefD := ⟨("rank", none), "rank", "rank", defArgs s_rank, defBody s_rank, defScope s_rank, [], []⟩
abbrev s__is_later : Stmt := (top 24)
abbrev n__is_later : List Str := ["rows", "saying"]
abbrev p__is_later : List Str := ["rows", "saying"]
theorem sc__is_later : FnScope n__is_later p__is_later (defScope s__is_later) := ⟨rfl, rfl, rfl, by decide +kernel, rfl, by decide +kernel, by decide +kernel⟩
def d__is_later : DefD := ⟨("_is_later", none), "_is_later", "_is_later", defArgs s__is_later, defBody s__is_later, defScope s__is_later, [], []⟩
abbrev s__latest_rows : Stmt := (top 25)
abbrev n__latest_rows : List Str := ["setting", "sayings", "rows", "saying"]
abbrev p__latest_rows : List Str := ["setting", "sayings"]
theorem sc__latest_rows : FnScope n__latest_rows p__latest_rows (defScope s__latest_rows) := ⟨rfl, rfl, rfl, by decide +kernel, rfl, by decide +kernel, by decide +kernel⟩
def d__latest_rows : DefD := ⟨("_latest_rows", none), "_latest_rows", "_latest_rows", defArgs s__latest_rows, defBody s__latest_rows, defScope s__latest_rows, [], []⟩
abbrev s_Book_init : Stmt := (inClass (top 26) 0)
abbrev n_Book_init : List Str := ["self", "setting", "sayings"]
abbrev p_Book_init : List Str := ["self", "setting", "sayings"]
theorem sc_Book_init : FnScope n_Book_init p_Book_init (defScope s_Book_init) := ⟨rfl, rfl, rfl, by decide +kernel, rfl, by decide +kernel, by decide +kernel⟩
def d_Book_init : DefD := ⟨("Book", some "__init__"), "__init__", "Book.__init__", defArgs s_Book_init, defBody s_Book_init, defScope s_Book_init, [.adr (He.dflAt (("Book", some "__init__")) 0)], []⟩
abbrev s_Book_take : Stmt := (inClass (top 26) 1)
abbrev n_Book_take : List Str := ["self", "saying"]
abbrev p_Book_take : List Str := ["self", "saying"]
theorem sc_Book_take : FnScope n_Book_take p_Book_take (defScope s_Book_take) := ⟨rfl, rfl, rfl, by decide +kernel, rfl, by decide +kernel, by decide +kernel⟩
def d_Book_take : DefD := ⟨("Book", some "take"), "take", "Book.take", defArgs s_Book_take, defBody s_Book_take, defScope s_Book_take, [], []⟩
abbrev s_Book_of : Stmt := (inClass (top 26) 2)
abbrev n_Book_of : List Str := ["self", "seat"]
abbrev p_Book_of : List Str := ["self", "seat"]
theorem sc_Book_of : FnScope n_Book_of p_Book_of (defScope s_Book_of) := ⟨rfl, rfl, rfl, by decide +kernel, rfl, by decide +kernel, by decide +kernel⟩
def d_Book_of : DefD := ⟨("Book", some "of"), "of", "Book.of", defArgs s_Book_of, defBody s_Book_of, defScope s_Book_of, [], []⟩
abbrev s_Book_held : Stmt := (inClass (top 26) 4)
abbrev n_Book_held : List Str := ["self"]
abbrev p_Book_held : List Str := ["self"]
theorem sc_Book_held : FnScope n_Book_held p_Book_held (defScope s_Book_held) := ⟨rfl, rfl, rfl, by decide +kernel, rfl, by decide +kernel, by decide +kernel⟩
def d_Book_held : DefD := ⟨("Book", some "held"), "held", "Book.held", defArgs s_Book_held, defBody s_Book_held, defScope s_Book_held, [], []⟩
abbrev s_Book_rows : Stmt := (inClass (top 26) 5)
abbrev n_Book_rows : List Str := ["self", "seat"]
abbrev p_Book_rows : List Str := ["self"]
theorem sc_Book_rows : FnScope n_Book_rows p_Book_rows (defScope s_Book_rows) := ⟨rfl, rfl, rfl, by decide +kernel, rfl, by decide +kernel, by decide +kernel⟩
def d_Book_rows : DefD := ⟨("Book", some "rows"), "rows", "Book.rows", defArgs s_Book_rows, defBody s_Book_rows, defScope s_Book_rows, [], []⟩
abbrev s_Doubts_init : Stmt := (inClass (top 9) 0)
abbrev n_Doubts_init : List Str := ["self", "setting"]
abbrev p_Doubts_init : List Str := ["self", "setting"]
theorem sc_Doubts_init : FnScope n_Doubts_init p_Doubts_init (defScope s_Doubts_init) := ⟨rfl, rfl, rfl, by decide +kernel, rfl, by decide +kernel, by decide +kernel⟩
def d_Doubts_init : DefD := ⟨("Doubts", some "__init__"), "__init__", "Doubts.__init__", defArgs s_Doubts_init, defBody s_Doubts_init, defScope s_Doubts_init, [], []⟩
abbrev s_Doubts_doubt : Stmt := (inClass (top 9) 1)
abbrev n_Doubts_doubt : List Str := ["self", "seat", "life", "now"]
abbrev p_Doubts_doubt : List Str := ["self", "seat", "life", "now"]
theorem sc_Doubts_doubt : FnScope n_Doubts_doubt p_Doubts_doubt (defScope s_Doubts_doubt) := ⟨rfl, rfl, rfl, by decide +kernel, rfl, by decide +kernel, by decide +kernel⟩
def d_Doubts_doubt : DefD := ⟨("Doubts", some "doubt"), "doubt", "Doubts.doubt", defArgs s_Doubts_doubt, defBody s_Doubts_doubt, defScope s_Doubts_doubt, [], []⟩
abbrev s_Doubts_lift : Stmt := (inClass (top 9) 2)
abbrev n_Doubts_lift : List Str := ["self", "seat"]
abbrev p_Doubts_lift : List Str := ["self", "seat"]
theorem sc_Doubts_lift : FnScope n_Doubts_lift p_Doubts_lift (defScope s_Doubts_lift) := ⟨rfl, rfl, rfl, by decide +kernel, rfl, by decide +kernel, by decide +kernel⟩
def d_Doubts_lift : DefD := ⟨("Doubts", some "lift"), "lift", "Doubts.lift", defArgs s_Doubts_lift, defBody s_Doubts_lift, defScope s_Doubts_lift, [], []⟩
abbrev s_Doubts_since : Stmt := (inClass (top 9) 3)
abbrev n_Doubts_since : List Str := ["self", "seat"]
abbrev p_Doubts_since : List Str := ["self", "seat"]
theorem sc_Doubts_since : FnScope n_Doubts_since p_Doubts_since (defScope s_Doubts_since) := ⟨rfl, rfl, rfl, by decide +kernel, rfl, by decide +kernel, by decide +kernel⟩
def d_Doubts_since : DefD := ⟨("Doubts", some "since"), "since", "Doubts.since", defArgs s_Doubts_since, defBody s_Doubts_since, defScope s_Doubts_since, [], []⟩
abbrev s_Doubts_due : Stmt := (inClass (top 9) 4)
abbrev n_Doubts_due : List Str := ["self", "book", "now", "found", "seat", "life", "start", "saying"]
abbrev p_Doubts_due : List Str := ["self", "book", "now"]
theorem sc_Doubts_due : FnScope n_Doubts_due p_Doubts_due (defScope s_Doubts_due) := ⟨rfl, rfl, rfl, by decide +kernel, rfl, by decide +kernel, by decide +kernel⟩
def d_Doubts_due : DefD := ⟨("Doubts", some "due"), "due", "Doubts.due", defArgs s_Doubts_due, defBody s_Doubts_due, defScope s_Doubts_due, [], []⟩
abbrev s_l_marks : Stmt := (top 31)
abbrev n_l_marks : List Str := []
abbrev p_l_marks : List Str := []
theorem sc_l_marks : FnScope n_l_marks p_l_marks (defScope s_l_marks) := ⟨rfl, rfl, rfl, by decide +kernel, rfl, by decide +kernel, by decide +kernel⟩
def d_l_marks : DefD := ⟨("_law_marks", none), "_law_marks", "_law_marks", defArgs s_l_marks, defBody s_l_marks, defScope s_l_marks, [], []⟩
abbrev s_l_mark : Stmt := (top 32)
abbrev n_l_mark : List Str := ["_law_box_here", "_law_way"]
abbrev p_l_mark : List Str := ["_law_box_here"]
theorem sc_l_mark : FnScope n_l_mark p_l_mark (defScope s_l_mark) := ⟨rfl, rfl, rfl, by decide +kernel, rfl, by decide +kernel, by decide +kernel⟩
def d_l_mark : DefD := ⟨("_law_mark", none), "_law_mark", "_law_mark", defArgs s_l_mark, defBody s_l_mark, defScope s_l_mark, [], []⟩
abbrev s_l_worth : Stmt := (top 33)
abbrev n_l_worth : List Str := ["_law_box_here", "_law_letters", "_law_many", "_law_k"]
abbrev p_l_worth : List Str := ["_law_box_here"]
theorem sc_l_worth : FnScope n_l_worth p_l_worth (defScope s_l_worth) := ⟨rfl, rfl, rfl, by decide +kernel, rfl, by decide +kernel, by decide +kernel⟩
def d_l_worth : DefD := ⟨("_law_worth", none), "_law_worth", "_law_worth", defArgs s_l_worth, defBody s_l_worth, defScope s_l_worth, [], []⟩
abbrev s_l_setting : Stmt := (top 34)
abbrev n_l_setting : List Str := ["_law_box_here", "_law_bits_here", "_law_way", "_law_room", "_law_wait"]
abbrev p_l_setting : List Str := ["_law_box_here", "_law_bits_here"]
theorem sc_l_setting : FnScope n_l_setting p_l_setting (defScope s_l_setting) := ⟨rfl, rfl, rfl, by decide +kernel, rfl, by decide +kernel, by decide +kernel⟩
def d_l_setting : DefD := ⟨("_law_setting", none), "_law_setting", "_law_setting", defArgs s_l_setting, defBody s_l_setting, defScope s_l_setting, [], []⟩
abbrev s_l_next_saying : Stmt := (top 36)
abbrev n_l_next_saying : List Str := ["_law_box_here", "_law_side", "_law_spot", "_law_rows", "_law_mark_here", "_law_same", "_law_held"]
abbrev p_l_next_saying : List Str := ["_law_box_here", "_law_side", "_law_spot"]
theorem sc_l_next_saying : FnScope n_l_next_saying p_l_next_saying (defScope s_l_next_saying) := ⟨rfl, rfl, rfl, by decide +kernel, rfl, by decide +kernel, by decide +kernel⟩
def d_l_next_saying : DefD := ⟨("_law_next_saying", none), "_law_next_saying", "_law_next_saying", defArgs s_l_next_saying, defBody s_l_next_saying, defScope s_l_next_saying, [], []⟩
abbrev s_l_doubted_life : Stmt := (top 37)
abbrev n_l_doubted_life : List Str := ["_law_box_here", "_law_side", "_law_spot", "_law_way", "_law_rows"]
abbrev p_l_doubted_life : List Str := ["_law_box_here", "_law_side", "_law_spot"]
theorem sc_l_doubted_life : FnScope n_l_doubted_life p_l_doubted_life (defScope s_l_doubted_life) := ⟨rfl, rfl, rfl, by decide +kernel, rfl, by decide +kernel, by decide +kernel⟩
def d_l_doubted_life : DefD := ⟨("_law_doubted_life", none), "_law_doubted_life", "_law_doubted_life", defArgs s_l_doubted_life, defBody s_l_doubted_life, defScope s_l_doubted_life, [], []⟩
abbrev s_l_doubt : Stmt := (top 38)
abbrev n_l_doubt : List Str := ["_law_box_here", "_law_doubts", "_law_side", "_law_spot", "_law_now", "_law_number", "_law_clocks"]
abbrev p_l_doubt : List Str := ["_law_box_here", "_law_doubts", "_law_side", "_law_spot", "_law_now"]
theorem sc_l_doubt : FnScope n_l_doubt p_l_doubt (defScope s_l_doubt) := ⟨rfl, rfl, rfl, by decide +kernel, rfl, by decide +kernel, by decide +kernel⟩
def d_l_doubt : DefD := ⟨("_law_doubt", none), "_law_doubt", "_law_doubt", defArgs s_l_doubt, defBody s_l_doubt, defScope s_l_doubt, [], []⟩
abbrev s_l_moment : Stmt := (top 39)
abbrev n_l_moment : List Str := ["_law_box_here", "_law_side", "_law_now", "_law_clocks", "_law_way", "_law_spots", "_law_spot"]
abbrev p_l_moment : List Str := ["_law_box_here", "_law_side", "_law_now"]
theorem sc_l_moment : FnScope n_l_moment p_l_moment (defScope s_l_moment) := ⟨rfl, rfl, rfl, by decide +kernel, rfl, by decide +kernel, by decide +kernel⟩
def d_l_moment : DefD := ⟨("_law_moment", none), "_law_moment", "_law_moment", defArgs s_l_moment, defBody s_l_moment, defScope s_l_moment, [], []⟩
abbrev s_l_due : Stmt := (top 40)
abbrev n_l_due : List Str := ["_law_side", "_law_now", "_law_rows", "_law_clocks", "_law_found", "_law_spot"]
abbrev p_l_due : List Str := ["_law_side", "_law_now"]
theorem sc_l_due : FnScope n_l_due p_l_due (defScope s_l_due) := ⟨rfl, rfl, rfl, by decide +kernel, rfl, by decide +kernel, by decide +kernel⟩
def d_l_due : DefD := ⟨("_law_due", none), "_law_due", "_law_due", defArgs s_l_due, defBody s_l_due, defScope s_l_due, [], []⟩
abbrev s_l_is_whole : Stmt := (top 41)
abbrev n_l_is_whole : List Str := ["_law_answer"]
abbrev p_l_is_whole : List Str := ["_law_answer"]
theorem sc_l_is_whole : FnScope n_l_is_whole p_l_is_whole (defScope s_l_is_whole) := ⟨rfl, rfl, rfl, by decide +kernel, rfl, by decide +kernel, by decide +kernel⟩
def d_l_is_whole : DefD := ⟨("_law_is_whole", none), "_law_is_whole", "_law_is_whole", defArgs s_l_is_whole, defBody s_l_is_whole, defScope s_l_is_whole, [], []⟩
abbrev s_l_sayings_are : Stmt := (top 42)
abbrev n_l_sayings_are : List Str := ["_law_answer", "_law_want", "_law_k", "_law_one"]
abbrev p_l_sayings_are : List Str := ["_law_answer", "_law_want"]
theorem sc_l_sayings_are : FnScope n_l_sayings_are p_l_sayings_are (defScope s_l_sayings_are) := ⟨rfl, rfl, rfl, by decide +kernel, rfl, by decide +kernel, by decide +kernel⟩
def d_l_sayings_are : DefD := ⟨("_law_sayings_are", none), "_law_sayings_are", "_law_sayings_are", defArgs s_l_sayings_are, defBody s_l_sayings_are, defScope s_l_sayings_are, [], []⟩
abbrev s_l_since_holds : Stmt := (top 44)
abbrev n_l_since_holds : List Str := ["_law_doubts", "_law_side", "_law_spots", "_law_clocks", "_law_spot", "_law_answer"]
abbrev p_l_since_holds : List Str := ["_law_doubts", "_law_side", "_law_spots"]
theorem sc_l_since_holds : FnScope n_l_since_holds p_l_since_holds (defScope s_l_since_holds) := ⟨rfl, rfl, rfl, by decide +kernel, rfl, by decide +kernel, by decide +kernel⟩
def d_l_since_holds : DefD := ⟨("_law_since_holds", none), "_law_since_holds", "_law_since_holds", defArgs s_l_since_holds, defBody s_l_since_holds, defScope s_l_since_holds, [], []⟩
abbrev s_l_due_holds : Stmt := (top 43)
abbrev n_l_due_holds : List Str := ["_law_doubts", "_law_book", "_law_side", "_law_now", "_law_want", "_law_rows", "_law_kept", "_law_answer", "_law_spot"]
abbrev p_l_due_holds : List Str := ["_law_doubts", "_law_book", "_law_side", "_law_now"]
theorem sc_l_due_holds : FnScope n_l_due_holds p_l_due_holds (defScope s_l_due_holds) := ⟨rfl, rfl, rfl, by decide +kernel, rfl, by decide +kernel, by decide +kernel⟩
def d_l_due_holds : DefD := ⟨("_law_due_holds", none), "_law_due_holds", "_law_due_holds", defArgs s_l_due_holds, defBody s_l_due_holds, defScope s_l_due_holds, [], []⟩
abbrev s_l_row_holds : Stmt := (top 45)
abbrev n_l_row_holds : List Str := ["_law_box_here", "_law_made_here", "_law_now", "_law_doubts", "_law_book", "_law_side", "_law_pool", "_law_spot", "_law_way", "_law_each", "_law_clocks", "_law_saying", "_law_rows"]
abbrev p_l_row_holds : List Str := ["_law_box_here", "_law_made_here", "_law_now"]
theorem sc_l_row_holds : FnScope n_l_row_holds p_l_row_holds (defScope s_l_row_holds) := ⟨rfl, rfl, rfl, by decide +kernel, rfl, by decide +kernel, by decide +kernel⟩
def d_l_row_holds : DefD := ⟨("_law_row_holds", none), "_law_row_holds", "_law_row_holds", defArgs s_l_row_holds, defBody s_l_row_holds, defScope s_l_row_holds, [], []⟩
abbrev s_l_made : Stmt := (top 35)
abbrev n_l_made : List Str := ["_law_box_here", "_law_bits_here", "_law_ring", "_law_made_here", "_law_base", "_law_pool", "_law_rows", "_law_spot", "_law_word", "_law_side", "_law_k"]
abbrev p_l_made : List Str := ["_law_box_here"]
theorem sc_l_made : FnScope n_l_made p_l_made (defScope s_l_made) := ⟨rfl, rfl, rfl, by decide +kernel, rfl, by decide +kernel, by decide +kernel⟩
def d_l_made : DefD := ⟨("_law_made", none), "_law_made", "_law_made", defArgs s_l_made, defBody s_l_made, defScope s_l_made, [], []⟩
abbrev s_law : Stmt := (top 46)
abbrev n_law : List Str := ["_law_script", "_law_box_here", "_law_many", "_law_now", "_law_made_here", "_law_row", "_law_which", "_law_asked", "_law_one", "_law_spots"]
abbrev p_law : List Str := ["_law_script"]
theorem sc_law : FnScope n_law p_law (defScope s_law) := ⟨rfl, rfl, rfl, by decide +kernel, rfl, by decide +kernel, by decide +kernel⟩
def d_law : DefD := ⟨("law", none), "law", "law", defArgs s_law, defBody s_law, defScope s_law, [], []⟩
def fn : List DefD := [d_l_box, d_l_draw, d_l_bits, d_whole, d_Setting_init, d_is_worth, d_life_ok, d_is_saying, d_check_saying, d_rank, d__is_later, d__latest_rows, d_Book_init, d_Book_take, d_Book_of, d_Book_held, d_Book_rows, d_Doubts_init, d_Doubts_doubt, d_Doubts_lift, d_Doubts_since, d_Doubts_due, d_l_marks, d_l_mark, d_l_worth, d_l_setting, d_l_next_saying, d_l_doubted_life, d_l_doubt, d_l_moment, d_l_due, d_l_is_whole, d_l_sayings_are, d_l_since_holds, d_l_due_holds, d_l_row_holds, d_l_made, d_law]
def fa : List Fa := [.free "abs", .free "all", .free "bool", .free "int", .free "isinstance", .free "len", .free "list", .free "max", .free "range", .free "sorted", .free "str", .free "tuple", .glo "_law_box", .glo "_law_draw", .glo "_law_bits", .glo "whole", .glo "is_worth", .glo "life_ok", .glo "is_saying", .glo "check_saying", .glo "rank", .glo "_is_later", .glo "_latest_rows", .meth "Book" "take", .meth "Book" "of", .meth "Book" "held", .meth "Book" "rows", .meth "Doubts" "doubt", .meth "Doubts" "lift", .meth "Doubts" "since", .meth "Doubts" "due", .glo "_law_marks", .glo "_law_mark", .glo "_law_worth", .glo "_law_setting", .glo "_law_next_saying", .glo "_law_doubted_life", .glo "_law_doubt", .glo "_law_moment", .glo "_law_due", .glo "_law_is_whole", .glo "_law_sayings_are", .glo "_law_since_holds", .glo "_law_due_holds", .glo "_law_row_holds", .glo "_law_made", .glo "law", .glo "Book", .cls "Book", .mkr "Book", .noat "Book" "_setting", .noat "Book" "_rows", .glo "Doubts", .cls "Doubts", .mkr "Doubts", .noat "Doubts" "_setting", .noat "Doubts" "_clocks", .glo "Setting", .cls "Setting", .mkr "Setting", .noat "Setting" "bits", .noat "Setting" "patience", .noat "Setting" "room", .noat "Setting" "grace", .noat "Setting" "helpers", .glo "MARKS", .int "MOST_LIFE" 999999999999999999999999999999999999999999999999999999999999, .int "WORTH_LENGTH" 12, .str "WORTH_SIGNS" "abcdefghijklmnopqrstuvwxyz0123456789", .glo "GroupError", .glo "InvalidSetting", .glo "InvalidSaying", .glo "MARK_STEPS"]
def ex (K : PySem.W.Frag) : Bool := (valsB K (ga K "MARK_STEPS") [("alive", .int 1), ("suspect", .int 2), ("dead", .int 3), ("left", .int 4)] && tupB K "MARKS" [.str "alive", .str "suspect", .str "dead", .str "left"]) && (conB K "Setting" "MOST_BITS" (.int 8) && (conB K "Setting" "MOST_PATIENCE" (.int 6) && (conB K "Setting" "MOST_ROOM" (.int 64) && (conB K "Setting" "MOST_GRACE" (.int 200) && (conB K "Setting" "MOST_HELPERS" (.int 3))))))
def ed_InvalidSetting : ErrD := ⟨"InvalidSetting", "field", "an invalid setting", "InvalidSetting.__init__", defArgs (inClass (top 3) 0), defBody (inClass (top 3) 0), defScope (inClass (top 3) 0)⟩
theorem ef_InvalidSetting : ErrF ed_InvalidSetting := ⟨by decide, by decide, by decide, by decide, by decide, ⟨_, _, _, _, _, _, _, _, _, _, _, _, rfl, rfl, rfl, rfl⟩⟩
def ed_InvalidSaying : ErrD := ⟨"InvalidSaying", "saying", "an invalid saying", "InvalidSaying.__init__", defArgs (inClass (top 4) 0), defBody (inClass (top 4) 0), defScope (inClass (top 4) 0)⟩
theorem ef_InvalidSaying : ErrF ed_InvalidSaying := ⟨by decide, by decide, by decide, by decide, by decide, ⟨_, _, _, _, _, _, _, _, _, _, _, _, rfl, rfl, rfl, rfl⟩⟩
def es : List ErrD := [ed_InvalidSetting, ed_InvalidSaying]
theorem efs : ∀ d, d ∈ es → ErrF d := fun d hd => by
  simp only [es, List.mem_cons, List.not_mem_nil, or_false] at hd
  rcases hd with rfl | rfl
  · exact ef_InvalidSetting
  · exact ef_InvalidSaying
def ys : List Str := ["GroupError", "InvalidSetting", "InvalidSaying"]
def tabs : List Tab := [((fun K => ga K "MARK_STEPS"), ["alive", "suspect", "dead", "left"])]
def gs : List GetD := [g_Setting_seats]
def tf : List He.Defn := []
abbrev TT (K : PySem.W.Frag) : List (Addr × Str) := []
structure Tb (P : Program) (w : World) (K : PySem.W.Frag) (mg : Str → Option Value) (base : Heap) : Prop where
  t : ∀ p, p ∈ tf.map (He.cT K) → LamX.TabB base mg p.1 p.2
  g : ∀ d, d ∈ gs → PropOf K (ga K d.cls) d.fld (prA K d.cls d.fld) (prG K d.cls d.fld) ∧ ∃ fd, FunD K d.name d.qual d.params d.body d.scope [] [] (prG K d.cls d.fld) fd
  e : ∀ d, d ∈ es → ErrX.ErrT P K mg d.name d.fld (ga K d.name) ∧ ErrS K ys d.name
  d : ∀ t, t ∈ tabs → ∃ es n, KDict K w (t.1 K) es n
theorem er_InvalidSetting {P : Program} {w : World} {K : PySem.W.Frag} {mg : Str → Option Value} {base : Heap} (B : Tb P w K mg base) : ErrX.ErrT P K mg "InvalidSetting" "field" (ga K "InvalidSetting") ∧ ErrS K ys "InvalidSetting" := B.e ed_InvalidSetting (.head _)
theorem er_InvalidSaying {P : Program} {w : World} {K : PySem.W.Frag} {mg : Str → Option Value} {base : Heap} (B : Tb P w K mg base) : ErrX.ErrT P K mg "InvalidSaying" "saying" (ga K "InvalidSaying") ∧ ErrS K ys "InvalidSaying" := B.e ed_InvalidSaying (.tail _ (.head _))
theorem td_MARK_STEPS {P : Program} {w : World} {K : PySem.W.Frag} {mg : Str → Option Value} {base : Heap} (B : Tb P w K mg base) : ∃ es n, KDict K w (ga K "MARK_STEPS") es n := B.d _ (.head _)
abbrev Cx (K : PySem.W.Frag) (mg : Str → Option Value) : Prop := RD.Ctx fa fn ex K mg
section
variable {K : PySem.W.Frag} {mg : Str → Option Value}
theorem fr_abs (T : Cx K mg) : mg "abs" = none := T.fre 0
theorem fr_all (T : Cx K mg) : mg "all" = none := T.fre 1
theorem fr_bool (T : Cx K mg) : mg "bool" = none := T.fre 2
theorem fr_int (T : Cx K mg) : mg "int" = none := T.fre 3
theorem fr_isinstance (T : Cx K mg) : mg "isinstance" = none := T.fre 4
theorem fr_len (T : Cx K mg) : mg "len" = none := T.fre 5
theorem fr_list (T : Cx K mg) : mg "list" = none := T.fre 6
theorem fr_max (T : Cx K mg) : mg "max" = none := T.fre 7
theorem fr_range (T : Cx K mg) : mg "range" = none := T.fre 8
theorem fr_sorted (T : Cx K mg) : mg "sorted" = none := T.fre 9
theorem fr_str (T : Cx K mg) : mg "str" = none := T.fre 10
theorem fr_tuple (T : Cx K mg) : mg "tuple" = none := T.fre 11
theorem gl_l_box (T : Cx K mg) : mg "_law_box" = some (.ref (ga K "_law_box")) := T.glo 12
theorem gl_l_draw (T : Cx K mg) : mg "_law_draw" = some (.ref (ga K "_law_draw")) := T.glo 13
theorem gl_l_bits (T : Cx K mg) : mg "_law_bits" = some (.ref (ga K "_law_bits")) := T.glo 14
theorem gl_whole (T : Cx K mg) : mg "whole" = some (.ref (ga K "whole")) := T.glo 15
theorem gl_is_worth (T : Cx K mg) : mg "is_worth" = some (.ref (ga K "is_worth")) := T.glo 16
theorem gl_life_ok (T : Cx K mg) : mg "life_ok" = some (.ref (ga K "life_ok")) := T.glo 17
theorem gl_is_saying (T : Cx K mg) : mg "is_saying" = some (.ref (ga K "is_saying")) := T.glo 18
theorem gl_check_saying (T : Cx K mg) : mg "check_saying" = some (.ref (ga K "check_saying")) := T.glo 19
theorem gl_rank (T : Cx K mg) : mg "rank" = some (.ref (ga K "rank")) := T.glo 20
theorem gl__is_later (T : Cx K mg) : mg "_is_later" = some (.ref (ga K "_is_later")) := T.glo 21
theorem gl__latest_rows (T : Cx K mg) : mg "_latest_rows" = some (.ref (ga K "_latest_rows")) := T.glo 22
theorem mt_Book_take (T : Cx K mg) : Meth K (ga K "Book") "take" (ma K (ga K "Book") "take") := T.meth 23
theorem mt_Book_of (T : Cx K mg) : Meth K (ga K "Book") "of" (ma K (ga K "Book") "of") := T.meth 24
theorem mt_Book_held (T : Cx K mg) : Meth K (ga K "Book") "held" (ma K (ga K "Book") "held") := T.meth 25
theorem mt_Book_rows (T : Cx K mg) : Meth K (ga K "Book") "rows" (ma K (ga K "Book") "rows") := T.meth 26
theorem mt_Doubts_doubt (T : Cx K mg) : Meth K (ga K "Doubts") "doubt" (ma K (ga K "Doubts") "doubt") := T.meth 27
theorem mt_Doubts_lift (T : Cx K mg) : Meth K (ga K "Doubts") "lift" (ma K (ga K "Doubts") "lift") := T.meth 28
theorem mt_Doubts_since (T : Cx K mg) : Meth K (ga K "Doubts") "since" (ma K (ga K "Doubts") "since") := T.meth 29
theorem mt_Doubts_due (T : Cx K mg) : Meth K (ga K "Doubts") "due" (ma K (ga K "Doubts") "due") := T.meth 30
theorem gl_l_marks (T : Cx K mg) : mg "_law_marks" = some (.ref (ga K "_law_marks")) := T.glo 31
theorem gl_l_mark (T : Cx K mg) : mg "_law_mark" = some (.ref (ga K "_law_mark")) := T.glo 32
theorem gl_l_worth (T : Cx K mg) : mg "_law_worth" = some (.ref (ga K "_law_worth")) := T.glo 33
theorem gl_l_setting (T : Cx K mg) : mg "_law_setting" = some (.ref (ga K "_law_setting")) := T.glo 34
theorem gl_l_next_saying (T : Cx K mg) : mg "_law_next_saying" = some (.ref (ga K "_law_next_saying")) := T.glo 35
theorem gl_l_doubted_life (T : Cx K mg) : mg "_law_doubted_life" = some (.ref (ga K "_law_doubted_life")) := T.glo 36
theorem gl_l_doubt (T : Cx K mg) : mg "_law_doubt" = some (.ref (ga K "_law_doubt")) := T.glo 37
theorem gl_l_moment (T : Cx K mg) : mg "_law_moment" = some (.ref (ga K "_law_moment")) := T.glo 38
theorem gl_l_due (T : Cx K mg) : mg "_law_due" = some (.ref (ga K "_law_due")) := T.glo 39
theorem gl_l_is_whole (T : Cx K mg) : mg "_law_is_whole" = some (.ref (ga K "_law_is_whole")) := T.glo 40
theorem gl_l_sayings_are (T : Cx K mg) : mg "_law_sayings_are" = some (.ref (ga K "_law_sayings_are")) := T.glo 41
theorem gl_l_since_holds (T : Cx K mg) : mg "_law_since_holds" = some (.ref (ga K "_law_since_holds")) := T.glo 42
theorem gl_l_due_holds (T : Cx K mg) : mg "_law_due_holds" = some (.ref (ga K "_law_due_holds")) := T.glo 43
theorem gl_l_row_holds (T : Cx K mg) : mg "_law_row_holds" = some (.ref (ga K "_law_row_holds")) := T.glo 44
theorem gl_l_made (T : Cx K mg) : mg "_law_made" = some (.ref (ga K "_law_made")) := T.glo 45
theorem gl_law (T : Cx K mg) : mg "law" = some (.ref (ga K "law")) := T.glo 46
theorem gl_Book (T : Cx K mg) : mg "Book" = some (.ref (ga K "Book")) := T.glo 47
theorem cl_Book (T : Cx K mg) : Cls K (ga K "Book") := T.cls 48
theorem mk_Book (T : Cx K mg) : Mk K (ga K "Book") (ma K (ga K "Book") "__init__") := T.mkr 49
theorem na_Book__setting (T : Cx K mg) : NoAttr K (ga K "Book") "_setting" := T.noat 50
theorem na_Book__rows (T : Cx K mg) : NoAttr K (ga K "Book") "_rows" := T.noat 51
theorem gl_Doubts (T : Cx K mg) : mg "Doubts" = some (.ref (ga K "Doubts")) := T.glo 52
theorem cl_Doubts (T : Cx K mg) : Cls K (ga K "Doubts") := T.cls 53
theorem mk_Doubts (T : Cx K mg) : Mk K (ga K "Doubts") (ma K (ga K "Doubts") "__init__") := T.mkr 54
theorem na_Doubts__setting (T : Cx K mg) : NoAttr K (ga K "Doubts") "_setting" := T.noat 55
theorem na_Doubts__clocks (T : Cx K mg) : NoAttr K (ga K "Doubts") "_clocks" := T.noat 56
theorem gl_Setting (T : Cx K mg) : mg "Setting" = some (.ref (ga K "Setting")) := T.glo 57
theorem cl_Setting (T : Cx K mg) : Cls K (ga K "Setting") := T.cls 58
theorem mk_Setting (T : Cx K mg) : Mk K (ga K "Setting") (ma K (ga K "Setting") "__init__") := T.mkr 59
theorem na_Setting_bits (T : Cx K mg) : NoAttr K (ga K "Setting") "bits" := T.noat 60
theorem na_Setting_patience (T : Cx K mg) : NoAttr K (ga K "Setting") "patience" := T.noat 61
theorem na_Setting_room (T : Cx K mg) : NoAttr K (ga K "Setting") "room" := T.noat 62
theorem na_Setting_grace (T : Cx K mg) : NoAttr K (ga K "Setting") "grace" := T.noat 63
theorem na_Setting_helpers (T : Cx K mg) : NoAttr K (ga K "Setting") "helpers" := T.noat 64
theorem gl_MARKS (T : Cx K mg) : mg "MARKS" = some (.ref (ga K "MARKS")) := T.glo 65
theorem gl_MOST_LIFE (T : Cx K mg) : ∃ u, mg "MOST_LIFE" = some u ∧ RelV (.int 999999999999999999999999999999999999999999999999999999999999) u := let ⟨t, h⟩ := T.int (x := "MOST_LIFE") (z := 999999999999999999999999999999999999999999999999999999999999) 66; ⟨_, h, t, rfl⟩
theorem gl_WORTH_LENGTH (T : Cx K mg) : ∃ u, mg "WORTH_LENGTH" = some u ∧ RelV (.int 12) u := let ⟨t, h⟩ := T.int (x := "WORTH_LENGTH") (z := 12) 67; ⟨_, h, t, rfl⟩
theorem gl_WORTH_SIGNS (T : Cx K mg) : ∃ u, mg "WORTH_SIGNS" = some u ∧ RelV (.str "abcdefghijklmnopqrstuvwxyz0123456789") u := let ⟨t, h⟩ := T.str (x := "WORTH_SIGNS") (z := "abcdefghijklmnopqrstuvwxyz0123456789") 68; ⟨_, h, t, rfl⟩
theorem gl_GroupError (T : Cx K mg) : mg "GroupError" = some (.ref (ga K "GroupError")) := T.glo 69
theorem gl_InvalidSetting (T : Cx K mg) : mg "InvalidSetting" = some (.ref (ga K "InvalidSetting")) := T.glo 70
theorem gl_InvalidSaying (T : Cx K mg) : mg "InvalidSaying" = some (.ref (ga K "InvalidSaying")) := T.glo 71
theorem gl_MARK_STEPS (T : Cx K mg) : mg "MARK_STEPS" = some (.ref (ga K "MARK_STEPS")) := T.glo 72
end

/-- the drawing box: at p the list of the cells' list and three ints -/
structure Box (H : Hp) (p c : Addr) : Prop where
  ex : ∃ (ns : List Int) (a b d : Int), H p = some (.lst [.ref c, .int a, .int b, .int d]) ∧ H c = some (.lst (ns.map V.int)) ∧ ns ≠ [] ∧ ns.length ≤ 63
  ne : c ≠ p
theorem Box.kp {H H' : Hp} {p c : Addr} {ps : List Addr} (B : Box H p c) (k : Kp ps H H') (n1 : p ∉ ps) (n2 : c ∉ ps) : Box H' p c := by
  obtain ⟨⟨ns, a, b, d, h1, h2, h3, h4⟩, ne⟩ := B
  exact ⟨⟨ns, a, b, d, k _ _ h1 n1, k _ _ h2 n2, h3, h4⟩, ne⟩
theorem Box.k0 {H H' : Hp} {p c : Addr} (B : Box H p c) (k : Kp [] H H') : Box H' p c := B.kp k (by simp) (by simp)
theorem Box.k1 {H H' : Hp} {p c q : Addr} (B : Box H p c) (k : Kp [q] H H') (n1 : p ≠ q) (n2 : c ≠ q) : Box H' p c := B.kp k (by simp [n1]) (by simp [n2])
theorem Box.new {H : Hp} {p c q : Addr} {o : HO} (B : Box H p c) (k : H q = none) : Box (upd H q o) p c := B.k0 (Kp.new k)
theorem Box.kt {H H' : Hp} {p c : Addr} {TT : List (Addr × Str)} (B : Box H p c) (k : Kt TT [] H H') : Box H' p c := by
  obtain ⟨⟨ns, a, b, d, h1, h2, h3, h4⟩, ne⟩ := B
  exact ⟨⟨ns, a, b, d, k.g0 (by intro _ z; cases z) h1, k.g0 (by intro _ z; cases z) h2, h3, h4⟩, ne⟩
theorem Box.at {H : Hp} {p c : Addr} (B : Box H p c) : ∃ xs, H p = some (.lst xs) ∧ H c ≠ none := by
  obtain ⟨⟨ns, a, b, d, h1, h2, h3, h4⟩, ne⟩ := B
  exact ⟨_, h1, by rw [h2]; simp⟩
theorem Box.tabs {H H' : Hp} {p c : Addr} {TT : List (Addr × Str)} (B : Box H p c) (h : LamX.Tabs TT H) (k : Kp [p] H H') : LamX.Tabs TT H' := by
  obtain ⟨⟨ns, a, b, d, h1, h2, h3, h4⟩, ne⟩ := B
  exact tabs_kp h k fun q hq => by
    rw [List.mem_singleton.mp hq]
    exact ⟨_, h1, trivial⟩
theorem Box.ne1 {H : Hp} {p c q : Addr} (B : Box H p c) (k : H q = none) : p ≠ q := by
  obtain ⟨xs, h, _⟩ := B.at
  exact ne_of_none h k
theorem Box.ne2 {H : Hp} {p c q : Addr} (B : Box H p c) (k : H q = none) : c ≠ q := by
  obtain ⟨⟨ns, a, b, d, h1, h2, h3, h4⟩, ne⟩ := B
  exact ne_of_none h2 k

/-- the numbers of a setting -/
structure Stg where
  bits : Int
  pat : Int
  room : Int
  grace : Int
  hel : Int
structure Stg.Ok (s : Stg) : Prop where
  b0 : 1 ≤ s.bits
  b1 : s.bits ≤ 8
  p0 : 1 ≤ s.pat
  p1 : s.pat ≤ 6
  r0 : 1 ≤ s.room
  r1 : s.room ≤ 64
  g0 : 1 ≤ s.grace
  g1 : s.grace ≤ 200
  h0 : 0 ≤ s.hel
  h1 : s.hel ≤ 3
@[irreducible] def Stg.ring (s : Stg) : Int := 2 ^ s.bits.toNat
theorem Stg.ring_eq (s : Stg) : s.ring = 2 ^ s.bits.toNat := by
  unfold Stg.ring
  rfl
def Stg.fs (s : Stg) : List (Str × V) := [(("bits" : Str), .int s.bits), (("patience" : Str), .int s.pat), (("room" : Str), .int s.room), (("grace" : Str), .int s.grace), (("helpers" : Str), .int s.hel)]
theorem Stg.Ok.ring {s : Stg} (h : s.Ok) : s.ring = 2 ∨ s.ring = 4 ∨ s.ring = 8 ∨ s.ring = 16 ∨ s.ring = 32 ∨ s.ring = 64 ∨ s.ring = 128 ∨ s.ring = 256 := by
  have h0 := h.b0
  have h1 := h.b1
  have e : s.bits = 1 ∨ s.bits = 2 ∨ s.bits = 3 ∨ s.bits = 4 ∨ s.bits = 5 ∨ s.bits = 6 ∨ s.bits = 7 ∨ s.bits = 8 := by omega
  rw [Stg.ring_eq]
  rcases e with e | e | e | e | e | e | e | e <;> rw [e] <;> decide
theorem Stg.Ok.r2 {s : Stg} (h : s.Ok) : 2 ≤ s.ring := by
  have := h.ring
  omega
theorem Stg.Ok.r256 {s : Stg} (h : s.Ok) : s.ring ≤ 256 := by
  have := h.ring
  omega
/-- a setting stands at p -/
structure SetAt (K : PySem.W.Frag) (H : Hp) (p : Addr) (s : Stg) : Prop where
  ex : ∃ dx : Addr, H p = some (.ins (ga K "Setting") dx s.fs)
  ok : s.Ok
theorem SetAt.kp {K : PySem.W.Frag} {H H' : Hp} {p : Addr} {s : Stg} {ps : List Addr} (S : SetAt K H p s) (k : Kp ps H H') (n : p ∉ ps) : SetAt K H' p s := by
  obtain ⟨⟨dx, h⟩, ok⟩ := S
  exact ⟨⟨dx, k _ _ h n⟩, ok⟩
theorem SetAt.k0 {K : PySem.W.Frag} {H H' : Hp} {p : Addr} {s : Stg} (S : SetAt K H p s) (k : Kp [] H H') : SetAt K H' p s := S.kp k (by simp)
theorem SetAt.k1 {K : PySem.W.Frag} {H H' : Hp} {p q : Addr} {s : Stg} (S : SetAt K H p s) (k : Kp [q] H H') (n : p ≠ q) : SetAt K H' p s := S.kp k (by simp [n])
theorem SetAt.kt {K : PySem.W.Frag} {H H' : Hp} {p : Addr} {s : Stg} {TT : List (Addr × Str)} (S : SetAt K H p s) (k : Kt TT [] H H') : SetAt K H' p s := by
  obtain ⟨⟨dx, h⟩, ok⟩ := S
  exact ⟨⟨dx, k.g0 (by intro _ z; cases z) h⟩, ok⟩
theorem SetAt.nelst {K : PySem.W.Frag} {H : Hp} {p q : Addr} {s : Stg} {xs : List V} (S : SetAt K H p s) (h : H q = some (.lst xs)) : p ≠ q := by
  obtain ⟨⟨dx, e⟩, ok⟩ := S
  exact ne_of e h (by intro z; cases z)

theorem SetAt.neins {K : PySem.W.Frag} {H : Hp} {p q C dx : Addr} {s : Stg} {f : Str} {v : V} {fs : List (Str × V)} (S : SetAt K H p s) (h : H q = some (.ins C dx ((f, v) :: fs))) (n : f ≠ "bits") : p ≠ q := by
  obtain ⟨⟨dx, e⟩, ok⟩ := S
  refine ne_of e h fun z => ?_
  injection z with _ _ e1
  injection e1 with e2 _
  injection e2 with e3
  exact n e3.symm
theorem SetAt.neins' {K : PySem.W.Frag} {H : Hp} {p q C dx : Addr} {s : Stg} (S : SetAt K H p s) (h : H q = some (.ins C dx [])) : p ≠ q := by
  obtain ⟨⟨dx, e⟩, ok⟩ := S
  refine ne_of e h fun z => ?_
  injection z with _ _ e1
  cases e1
theorem SetAt.nedK {K : PySem.W.Frag} {H : Hp} {p q : Addr} {s : Stg} {xs : List (Key × V)} (S : SetAt K H p s) (h : H q = some (.dK xs)) : p ≠ q := by
  obtain ⟨⟨dx, e⟩, ok⟩ := S
  exact ne_of e h (by intro z; cases z)
theorem con_MOST_BITS {K : PySem.W.Frag} {mg : Str → Option Value} (T : Cx K mg) : ∃ u, Con K (ga K "Setting") "MOST_BITS" (.int 8) u := conB_ok (v := .int 8) (ba (ba T.ex).2).1
theorem con_MOST_PATIENCE {K : PySem.W.Frag} {mg : Str → Option Value} (T : Cx K mg) : ∃ u, Con K (ga K "Setting") "MOST_PATIENCE" (.int 6) u := conB_ok (v := .int 6) (ba (ba (ba T.ex).2).2).1
theorem con_MOST_ROOM {K : PySem.W.Frag} {mg : Str → Option Value} (T : Cx K mg) : ∃ u, Con K (ga K "Setting") "MOST_ROOM" (.int 64) u := conB_ok (v := .int 64) (ba (ba (ba (ba T.ex).2).2).2).1
theorem con_MOST_GRACE {K : PySem.W.Frag} {mg : Str → Option Value} (T : Cx K mg) : ∃ u, Con K (ga K "Setting") "MOST_GRACE" (.int 200) u := conB_ok (v := .int 200) (ba (ba (ba (ba (ba T.ex).2).2).2).2).1
theorem con_MOST_HELPERS {K : PySem.W.Frag} {mg : Str → Option Value} (T : Cx K mg) : ∃ u, Con K (ga K "Setting") "MOST_HELPERS" (.int 3) u := conB_ok (v := .int 3) (ba (ba (ba (ba (ba T.ex).2).2).2).2).2

structure Sy where
  s : Int
  l : Int
  m : Str
  w : Str
  deriving DecidableEq
def Sy.tup (y : Sy) : List V := [.int y.s, .int y.l, .str y.m, .str y.w]
abbrev SyAt (H : Hp) (t : Addr) (y : Sy) : Prop := H t = some (.tup y.tup)
abbrev RowT (H : Hp) (d : Addr) (xs : List (Addr × Sy)) : Prop := TD Sy.s Sy.tup H d xs
def MK : List Str := ["alive", "suspect", "dead", "left"]
def stepM (m : Str) : Int := if m = ("alive" : Str) then 1 else if m = ("suspect" : Str) then 2 else if m = ("dead" : Str) then 3 else 4
def SIGNS : Str := "abcdefghijklmnopqrstuvwxyz0123456789"
def wOk (t : Str) : Bool := decide (t.length ≤ 12) && t.cps.toList.all fun c => decide (c ∈ SIGNS.cps.toList)
def MOST : Int := 10 ^ 60 - 1
def syOk (r : Int) (y : Sy) : Bool := ((decide (0 ≤ y.s) && decide (y.s ≤ r - 1)) && (decide (0 ≤ y.l) && decide (y.l ≤ MOST))) && (decide (y.m ∈ MK) && wOk y.w)
def rk (y : Sy) : Int := 4 * y.l + stepM y.m
def rkO : Option Sy → Int
  | none => 0
  | some y => rk y
def takeT (xs : List (Addr × Sy)) (p : Addr × Sy) : List (Addr × Sy) := if rkO ((fdT Sy.s xs p.2.s).map (·.2)) < rk p.2 then ptT Sy.s xs p else xs
theorem syOk_iff {r : Int} {y : Sy} : syOk r y = true ↔ (0 ≤ y.s ∧ y.s ≤ r - 1) ∧ (0 ≤ y.l ∧ y.l ≤ MOST) ∧ y.m ∈ MK ∧ wOk y.w = true := by
  unfold syOk
  simp only [Bool.and_eq_true, decide_eq_true_eq]
  constructor
  · rintro ⟨⟨a, b⟩, c, d⟩
    exact ⟨a, b, c, d⟩
  · rintro ⟨a, b, c, d⟩
    exact ⟨⟨a, b⟩, c, d⟩
theorem wOk_len {t : Str} (h : wOk t = true) : t.length ≤ 12 := of_decide_eq_true (Bool.and_eq_true_iff.mp h).1
theorem stepM_b {m : Str} (h : m ∈ MK) : 1 ≤ stepM m ∧ stepM m ≤ 4 := by
  unfold stepM
  split
  · omega
  · split
    · omega
    · split <;> omega
theorem rk_pos {y : Sy} (h : 0 ≤ y.l) (m : y.m ∈ MK) : 0 < rk y := by
  have := stepM_b m
  unfold rk
  omega
/-- a saying, or None -/
def IsY (H : Hp) (v : V) : Option Sy → Prop
  | none => v = .non
  | some y => ∃ t, v = .ref t ∧ SyAt H t y
theorem IsY.kp {H H' : Hp} {v : V} {o : Option Sy} (h : IsY H v o) (k : Kp [] H H') : IsY H' v o := by
  cases o with
  | none => exact h
  | some y =>
    obtain ⟨t, e, h⟩ := h
    exact ⟨t, e, k.g0 h⟩
/-- the list l holds these sayings -/
structure SyL (H : Hp) (l : Addr) (ps : List (Addr × Sy)) : Prop where
  at_ : H l = some (.lst (ps.map fun p => V.ref p.1))
  ob : ∀ p, p ∈ ps → SyAt H p.1 p.2
theorem SyL.k0 {H H' : Hp} {l : Addr} {ps : List (Addr × Sy)} (B : SyL H l ps) (k : Kp [] H H') : SyL H' l ps := ⟨k.g0 B.at_, fun p hp => k.g0 (B.ob p hp)⟩
theorem _root_.RD.TD.findY {H : Hp} {d : Addr} {xs : List (Addr × Sy)} (B : RowT H d xs) (k : Int) : IsY H (((valV (kvT Sy.s xs) (.inl k))).getD .non) ((fdT Sy.s xs k).map (·.2)) := by
  rw [kvT_val]
  cases e : fdT Sy.s xs k with
  | none => rfl
  | some p => exact ⟨p.1, rfl, B.find e⟩
theorem takeT_pos {xs : List (Addr × Sy)} {p : Addr × Sy} (h : rkO ((fdT Sy.s xs p.2.s).map (·.2)) < rk p.2) : takeT xs p = ptT Sy.s xs p := if_pos h
theorem takeT_neg {xs : List (Addr × Sy)} {p : Addr × Sy} (h : ¬ rkO ((fdT Sy.s xs p.2.s).map (·.2)) < rk p.2) : takeT xs p = xs := if_neg h
theorem takeT_mem {xs : List (Addr × Sy)} {p q : Addr × Sy} (h : q ∈ takeT xs p) : q = p ∨ q ∈ xs := by
  unfold takeT at h
  split at h
  · exact ptT_mem h
  · exact .inr h
theorem takeT_len (xs : List (Addr × Sy)) (p : Addr × Sy) : (takeT xs p).length ≤ xs.length + 1 := by
  unfold takeT
  split
  · exact ptT_len _ _ _
  · omega
theorem foldT_mem {q : Addr × Sy} : ∀ {ps xs : List (Addr × Sy)}, q ∈ ps.foldl takeT xs → q ∈ ps ∨ q ∈ xs
  | [], _, h => .inr h
  | p :: r, xs, h => by
    rcases foldT_mem (ps := r) (xs := takeT xs p) h with h | h
    · exact .inl (List.mem_cons_of_mem _ h)
    · rcases takeT_mem h with rfl | h
      · exact .inl (List.mem_cons_self ..)
      · exact .inr h
theorem foldT_len : ∀ (ps xs : List (Addr × Sy)), (ps.foldl takeT xs).length ≤ xs.length + ps.length
  | [], xs => by simp
  | p :: r, xs => by
    have h1 := foldT_len r (takeT xs p)
    have h2 := takeT_len xs p
    simp only [List.foldl_cons, List.length_cons]
    omega
theorem takeT_new {xs : List (Addr × Sy)} {p : Addr × Sy} (h : ∀ q, q ∈ xs → q.2.s ≠ p.2.s) (hp : 0 < rk p.2) : takeT xs p = xs ++ [p] := by
  have e : fdT Sy.s xs p.2.s = none := List.find?_eq_none.mpr fun q hq z => h q hq (of_decide_eq_true z)
  unfold takeT
  rw [e, if_pos (show rkO (Option.map (·.2) (none : Option (Addr × Sy))) < rk p.2 from hp)]
  unfold ptT
  rw [if_neg (fun z => by
    obtain ⟨q, hq, e⟩ := List.any_eq_true.mp z
    exact h q hq (of_decide_eq_true e))]
theorem foldT_new : ∀ (ps xs : List (Addr × Sy)), ((xs ++ ps).map fun p => p.2.s).Nodup → (∀ p, p ∈ ps → 0 < rk p.2) → ps.foldl takeT xs = xs ++ ps
  | [], xs, _, _ => by simp
  | p :: r, xs, h, hr => by
    have e : xs ++ p :: r = (xs ++ [p]) ++ r := by simp
    have h2 : ∀ q, q ∈ xs → q.2.s ≠ p.2.s := fun q hq z => by
      rw [List.map_append] at h
      have := (List.nodup_append.mp h).2.2 q.2.s (List.mem_map_of_mem hq) p.2.s (by simp)
      exact this z
    show r.foldl takeT (takeT xs p) = _
    rw [takeT_new h2 (hr p (List.mem_cons_self ..)), e]
    rw [e] at h
    exact foldT_new r (xs ++ [p]) h fun q hq => hr q (List.mem_cons_of_mem _ hq)
/-! the marks -/
theorem step_kd {P : Program} {w : World} {K : PySem.W.Frag} {mg : Str → Option Value} {base : Heap} (T : Cx K mg) (B : Tb P w K mg base) {m : Str} (h : m ∈ MK) : KDct K w (ga K "MARK_STEPS") m (.int (stepM m)) := by
  obtain ⟨es, n, D⟩ := td_MARK_STEPS B
  have e := (ba (ba T.ex).1).1
  unfold MK at h
  simp only [List.mem_cons, List.not_mem_nil, or_false] at h
  rcases h with rfl | rfl | rfl | rfl
  · exact kdct_of D e (d := .int 1) (by simp)
  · exact kdct_of D e (d := .int 2) (by simp)
  · exact kdct_of D e (d := .int 3) (by simp)
  · exact kdct_of D e (d := .int 4) (by simp)
theorem tup_MARKS {K : PySem.W.Frag} {mg : Str → Option Value} (T : Cx K mg) (H : Hp) : SqT K H (ga K "MARKS") (MK.map V.str) := tupB_ok (vs := [.str "alive", .str "suspect", .str "dead", .str "left"]) (ba (ba T.ex).1).2 H
/-! sayings as data -/
def dSy (y : Sy) : PyData := .tuple [.int y.s, .int y.l, .str y.m, .str y.w]
theorem dSy_eqv (a b : Sy) : PyData.eqv (dSy a) (dSy b) = decide (a = b) := by
  obtain ⟨a1, a2, a3, a4⟩ := a
  obtain ⟨b1, b2, b3, b4⟩ := b
  unfold dSy
  simp only [PyData.eqv, PyData.eqvAll, Bool.and_true, Sy.mk.injEq]
  by_cases h1 : a1 = b1 <;> by_cases h2 : a2 = b2 <;> by_cases h3 : a3 = b3 <;> by_cases h4 : a4 = b4 <;> simp [h1, h2, h3, h4]
theorem dSys_eqv : ∀ ps qs : List Sy, PyData.eqvAll (ps.map dSy) (qs.map dSy) = decide (ps = qs)
  | [], [] => by simp [PyData.eqvAll]
  | [], q :: qs => by simp [PyData.eqvAll]
  | p :: ps, [] => by simp [PyData.eqvAll]
  | p :: ps, q :: qs => by
    simp only [List.map_cons, PyData.eqvAll, dSy_eqv, dSys_eqv ps qs, List.cons.injEq]
    by_cases h1 : p = q <;> by_cases h2 : ps = qs <;> simp [h1, h2]
def Sy.T (y : Sy) : Prop := PyData.strOk y.m = true ∧ PyData.strOk y.w = true
theorem Sy.T.of {r : Int} {y : Sy} (h : syOk r y = true) : y.T := by
  obtain ⟨-, -, hm, hw⟩ := syOk_iff.mp h
  constructor
  · unfold MK at hm
    simp only [List.mem_cons, List.not_mem_nil, or_false] at hm
    rcases hm with e | e | e | e <;> rw [e] <;> decide +kernel
  · have h2 := (Bool.and_eq_true_iff.mp hw).2
    unfold PyData.strOk
    rw [← Array.all_toList, List.all_eq_true]
    intro c hc
    have h3 := of_decide_eq_true (List.all_eq_true.mp h2 c hc)
    have h4 : ∀ c, c ∈ SIGNS.cps.toList → decide (c < 0x110000) = true := by decide +kernel
    exact h4 c h3
theorem dSys_lay : ∀ ps : List Sy, (∀ p, p ∈ ps → p.T) → PyData.canLayAll0 (ps.map dSy) = true
  | [], _ => by simp [PyData.canLayAll0]
  | p :: r, h => by
    have h1 := h p (List.mem_cons_self ..)
    have h2 := dSys_lay r fun q hq => h q (List.mem_cons_of_mem _ hq)
    simp [PyData.canLayAll0, h2, dSy, PyData.canLay0, h1.1, h1.2]
theorem dSys_depth : ∀ ps : List Sy, PyData.depthAll (ps.map dSy) ≤ 2
  | [] => by simp [PyData.depthAll]
  | p :: r => by
    have := dSys_depth r
    simp only [List.map_cons, PyData.depthAll, dSy, PyData.depth]
    omega
theorem dSy_shaped {y : Sy} (h : y.T) : SeqAt.shaped (dSy y) = true := Bool.and_eq_true_iff.mpr ⟨by simp [dSy, PyData.canLay0, PyData.canLayAll0, h.1, h.2], decide_eq_true (by simp [dSy, PyData.depth, PyData.depthAll])⟩
theorem dSyL_shaped {ps : List Sy} (h : ∀ p, p ∈ ps → p.T) : SeqAt.shaped (.list (ps.map dSy)) = true := Bool.and_eq_true_iff.mpr ⟨by simp only [PyData.canLay0, dSys_lay ps h], decide_eq_true (by
  have := dSys_depth ps
  simp only [PyData.depth]
  omega)⟩
theorem dp_sy {K : PySem.W.Frag} {H : Hp} {t : Addr} {y : Sy} (h : SyAt H t y) : Dp K H (.ref t) (dSy y) := .tup (SqT.of h) (.cons (.int _) (.cons (.int _) (.cons (.str _) (.cons (.str _) .nil))))
theorem dp_sys {K : PySem.W.Frag} {H : Hp} : ∀ {ps : List (Addr × Sy)}, (∀ p, p ∈ ps → SyAt H p.1 p.2) → DpAll K H (ps.map fun p => V.ref p.1) ((ps.map (·.2)).map dSy)
  | [], _ => .nil
  | p :: r, h => .cons (dp_sy (h p (List.mem_cons_self ..))) (dp_sys fun q hq => h q (List.mem_cons_of_mem _ hq))
theorem rd_neSy {K : PySem.W.Frag} {H : Hp} {Q : VK} {a b : Addr} {x y : Sy} (h1 : SyAt H a x) (h2 : SyAt H b y) (t1 : x.T) (t2 : y.T) (q : Q (.bl (!decide (x = y))) H) : rNeD K (.ref a) (.ref b) H Q :=
  ⟨dSy x, dSy y, dp_sy h1, dp_sy h2, dSy_shaped t1, dSy_shaped t2, by
    rw [dSy_eqv]
    exact q⟩
theorem mem_snd {ps : List (Addr × Sy)} (h : ∀ p, p ∈ ps → p.2.T) : ∀ y, y ∈ ps.map (·.2) → y.T := fun y hy => by
  obtain ⟨p, hp, rfl⟩ := List.mem_map.mp hy
  exact h p hp
theorem rd_eqSyL {K : PySem.W.Frag} {H : Hp} {Q : VK} {a b : Addr} {ps qs : List (Addr × Sy)} (h1 : SyL H a ps) (h2 : SyL H b qs) (t1 : ∀ p, p ∈ ps → p.2.T) (t2 : ∀ p, p ∈ qs → p.2.T) (q : Q (.bl (decide (ps.map (·.2) = qs.map (·.2)))) H) : rEqD K (.ref a) (.ref b) H Q :=
  ⟨.list ((ps.map (·.2)).map dSy), .list ((qs.map (·.2)).map dSy), .lst (SqL.of h1.at_) (dp_sys h1.ob), .lst (SqL.of h2.at_) (dp_sys h2.ob), dSyL_shaped (mem_snd t1), dSyL_shaped (mem_snd t2), by
    simp only [PyData.eqv]
    rw [dSys_eqv]
    exact q⟩
theorem st_new {K : PySem.W.Frag} {H : Hp} {l d : Addr} {o : HO} {xs : List V} (nd : H d = none) (h : SqT K H l xs) : SqT K (upd H d o) l xs := by
  rcases h with h | h
  · rcases h with h | ⟨q, h⟩
    · exact .inl (.inl (hu_ne (ne_of_none h nd) h))
    · exact .inl (.inr ⟨q, hu_ne (ne_of_none h nd) h⟩)
  · exact .inr h
theorem st_ins {K : PySem.W.Frag} {H : Hp} {l b C dx : Addr} {fs : List (Str × V)} {o : HO} {xs : List V} (hb : H b = some (.ins C dx fs)) (h : SqT K H l xs) : SqT K (upd H b o) l xs := by
  rcases h with h | h
  · rcases h with h | ⟨q, h⟩
    · exact .inl (.inl (hu_ne (ne_of h hb (by intro z; cases z)) h))
    · exact .inl (.inr ⟨q, hu_ne (ne_of h hb (by intro z; cases z)) h⟩)
  · exact .inr h
/-- a list of sayings, or the empty tuple -/
def LsT (K : PySem.W.Frag) (H : Hp) (l : Addr) (ps : List (Addr × Sy)) : Prop := SyL H l ps ∨ (ps = [] ∧ SqT K H l [])
/-- a book -/
structure BookAt (K : PySem.W.Frag) (H : Hp) (b s d : Addr) (xs : List (Addr × Sy)) : Prop where
  ob : ∃ dx, H b = some (.ins (ga K "Book") dx [(("_setting" : Str), .ref s), (("_rows" : Str), .ref d)])
  ro : RowT H d xs
theorem BookAt.k0 {K : PySem.W.Frag} {H H' : Hp} {b s d : Addr} {xs : List (Addr × Sy)} (B : BookAt K H b s d xs) (k : Kp [] H H') : BookAt K H' b s d xs := by
  obtain ⟨⟨dx, h⟩, r⟩ := B
  exact ⟨⟨dx, k.g0 h⟩, r.k0 k⟩
def rowsL (xs : List (Addr × Sy)) : List (Addr × Sy) := (srt ((xs.map (·.2)).map Sy.s)).filterMap fun k => fdT Sy.s xs k
theorem fdT_key {α : Type} {key : α → Int} {xs : List (Addr × α)} {k : Int} (h : k ∈ (xs.map (·.2)).map key) : ∃ p, fdT key xs k = some p := by
  cases e : fdT key xs k with
  | some p => exact ⟨p, rfl⟩
  | none =>
    obtain ⟨y, hy, rfl⟩ := List.mem_map.mp h
    obtain ⟨p, hp, rfl⟩ := List.mem_map.mp hy
    exact absurd (decide_eq_true rfl) (List.find?_eq_none.mp e p hp)
theorem rowsL_take {xs : List (Addr × Sy)} {os : List Int} (h : ∀ k, k ∈ os → k ∈ (xs.map (·.2)).map Sy.s) {f : Int → Addr × Sy} (hf : ∀ k, k ∈ os → fdT Sy.s xs k = some (f k)) : os.filterMap (fun k => fdT Sy.s xs k) = os.map f := by
  induction os with
  | nil => rfl
  | cons k r ih => rw [List.filterMap_cons_some (hf k (List.mem_cons_self ..)), List.map_cons, ih (fun z hz => h z (List.mem_cons_of_mem _ hz)) fun z hz => hf z (List.mem_cons_of_mem _ hz)]

structure Ck where
  s : Int
  l : Int
  a : Int
def Ck.tup (c : Ck) : List V := [.int c.l, .int c.a]
abbrev ClkT (H : Hp) (d : Addr) (xs : List (Addr × Ck)) : Prop := TD Ck.s Ck.tup H d xs
structure DouAt (K : PySem.W.Frag) (H : Hp) (p s d : Addr) (cs : List (Addr × Ck)) : Prop where
  ob : ∃ dx, H p = some (.ins (ga K "Doubts") dx [(("_setting" : Str), .ref s), (("_clocks" : Str), .ref d)])
  cl : ClkT H d cs
theorem DouAt.k0 {K : PySem.W.Frag} {H H' : Hp} {p s d : Addr} {cs : List (Addr × Ck)} (B : DouAt K H p s d cs) (k : Kp [] H H') : DouAt K H' p s d cs := by
  obtain ⟨⟨dx, h⟩, c⟩ := B
  exact ⟨⟨dx, k.g0 h⟩, c.k0 k⟩
theorem DouAt.wr {K : PySem.W.Frag} {H H' : Hp} {p s d : Addr} {cs cs' : List (Addr × Ck)} (B : DouAt K H p s d cs) (k : Kp [d] H H') (h : ClkT H' d cs') : DouAt K H' p s d cs' := by
  obtain ⟨⟨dx, hp⟩, c⟩ := B
  exact ⟨⟨dx, k.g1 (ne_of hp c.at_ (by intro z; cases z)) hp⟩, h⟩
def dbt (cs : List Ck) (k l a : Int) : List Ck := match fdS Ck.s cs k with
  | some c => if c.l = l then cs else ptS Ck.s cs ⟨k, l, a⟩
  | none => ptS Ck.s cs ⟨k, l, a⟩
def dueF (rows : List Sy) (cs : List Ck) (wait now k : Int) : Option Sy := match fdS Ck.s cs k, fdS Sy.s rows k with
  | some c, some y => if y.l = c.l ∧ y.m = ("suspect" : Str) ∧ wait ≤ now - c.a then some ⟨k, c.l, "dead", y.w⟩ else none
  | _, _ => none
def dueL (rows : List Sy) (cs : List Ck) (wait now : Int) : List Sy := (srt (cs.map Ck.s)).filterMap (dueF rows cs wait now)
theorem fm_take {os : List Int} {i : Nat} (hi : i < os.length) (f : Int → Option Sy) : (os.take (i + 1)).filterMap f = (os.take i).filterMap f ++ (f os[i]).toList := by
  rw [List.take_succ_eq_append_getElem hi, List.filterMap_append]
  cases e : f os[i] <;> simp [e]
theorem SyL.snoc {H : Hp} {F t : Addr} {ps : List (Addr × Sy)} {y : Sy} (B : SyL H F ps) (h : SyAt H t y) : SyL (upd H F (.lst ((ps.map fun p => V.ref p.1) ++ [.ref t]))) F (ps ++ [(t, y)]) := by
  refine ⟨by rw [upd_same, List.map_append]; rfl, fun p hp => ?_⟩
  have o : ∀ q z, SyAt H q z → SyAt (upd H F (.lst ((ps.map fun p => V.ref p.1) ++ [.ref t]))) q z := fun q z e => hu_ne (ne_of e B.at_ (by intro z; cases z)) e
  rcases List.mem_append.mp hp with m | m
  · exact o _ _ (B.ob p m)
  · rw [List.mem_singleton.mp m]
    exact o _ _ h
theorem SyL.nil {H : Hp} {F : Addr} (h : H F = some (.lst [])) : SyL H F [] := ⟨h, fun p hp => by cases hp⟩

theorem mk_in {i : Int} (h0 : 0 ≤ i) (h1 : i < 4) : ∃ m, atI (MK.map V.str) i = some (.str m) ∧ m ∈ MK ∧ stepM m = i + 1 := by
  have : i = 0 ∨ i = 1 ∨ i = 2 ∨ i = 3 := by omega
  rcases this with rfl | rfl | rfl | rfl
  · exact ⟨"alive", rfl, by decide +kernel, by decide +kernel⟩
  · exact ⟨"suspect", rfl, by decide +kernel, by decide +kernel⟩
  · exact ⟨"dead", rfl, by decide +kernel, by decide +kernel⟩
  · exact ⟨"left", rfl, by decide +kernel, by decide +kernel⟩
theorem mk_at {m : Str} (h : m ∈ MK) : ∃ j : Nat, MK[j]? = some m ∧ stepM m = j + 1 ∧ ∀ k z, k < j → MK[k]? = some z → z ≠ m := by
  unfold MK at h
  simp only [List.mem_cons, List.not_mem_nil, or_false] at h
  have g : ∀ (j : Nat) (m : Str), (List.range j).all (fun k => MK[k]? != some m) = true → ∀ k z, k < j → MK[k]? = some z → z ≠ m := fun j m hg k z hk hz e => by
    have := List.all_eq_true.mp hg k (List.mem_range.mpr hk)
    rw [hz, e] at this
    simp at this
  rcases h with rfl | rfl | rfl | rfl
  · exact ⟨0, rfl, by decide +kernel, g _ _ (by decide +kernel)⟩
  · exact ⟨1, rfl, by decide +kernel, g _ _ (by decide +kernel)⟩
  · exact ⟨2, rfl, by decide +kernel, g _ _ (by decide +kernel)⟩
  · exact ⟨3, rfl, by decide +kernel, g _ _ (by decide +kernel)⟩
abbrev sideV (w b : Int) (pl lr lc : Addr) : List (Key × V) := [(.inr "wait", .int w), (.inr "base", .int b), (.inr "pool", .ref pl), (.inr "rows", .ref lr), (.inr "clocks", .ref lc)]
section
variable {w b : Int} {pl lr lc : Addr}
theorem sv_wait : valV (sideV w b pl lr lc) (.inr "wait") = some (.int w) := rfl
theorem sv_base : valV (sideV w b pl lr lc) (.inr "base") = some (.int b) := rfl
theorem sv_pool : valV (sideV w b pl lr lc) (.inr "pool") = some (.ref pl) := rfl
theorem sv_rows : valV (sideV w b pl lr lc) (.inr "rows") = some (.ref lr) := rfl
theorem sv_clocks : valV (sideV w b pl lr lc) (.inr "clocks") = some (.ref lc) := rfl
end
theorem kvT_ne {α : Type} {key : α → Int} {xs : List (Addr × α)} {z : Str} {v : V} {r : List (Key × V)} : kvT key xs ≠ (.inr z, v) :: r := by
  intro e
  cases xs with
  | nil => cases e
  | cons p q =>
    injection e with e1 _
    injection e1 with e2 _
    cases e2
theorem ne_ints {x : Addr} {r : List V} : ∀ ps : List Int, (ps.map V.int) ≠ V.ref x :: r
  | [], e => by cases e
  | p :: q, e => by
    injection e with e1 _
    cases e1
theorem wOk_of {cs : List Nat} (h : cs.length ≤ 12) (hc : ∀ c, c ∈ cs → c ∈ SIGNS.cps.toList) : wOk ⟨cs.toArray⟩ = true := by
  unfold wOk
  rw [decide_eq_true (by simpa [Str.length] using h), Bool.true_and, List.all_eq_true]
  intro c hcm
  exact decide_eq_true (hc c (by simpa using hcm))
theorem signs_at {i : Int} (h0 : 0 ≤ i) (h1 : i < 36) : ∃ c, atI SIGNS.cps.toList i = some c ∧ c ∈ SIGNS.cps.toList := by
  obtain ⟨j, rfl⟩ := Int.eq_ofNat_of_zero_le h0
  have hj : j < SIGNS.cps.toList.length := by
    have : SIGNS.cps.toList.length = 36 := by decide +kernel
    omega
  exact ⟨SIGNS.cps.toList[j], atI_nat (List.getElem?_eq_getElem hj), List.getElem_mem hj⟩
theorem Box.ofD {H H' : Hp} {p c : Addr} {ps : List Addr} (B : Box H p c) (k : Kp ps H H') (h : ∀ q, q ∈ ps → ∃ kvs, H q = some (.dK kvs)) : Box H' p c := by
  obtain ⟨⟨ns, a, b, d, h1, h2, h3, h4⟩, ne⟩ := B
  have g : ∀ {x : Addr} {l : List V}, H x = some (.lst l) → x ∉ ps := fun e m => by
    obtain ⟨kvs, z⟩ := h _ m
    rw [e] at z
    cases z
  exact ⟨⟨ns, a, b, d, k _ _ h1 (g h1), k _ _ h2 (g h2), h3, h4⟩, ne⟩
theorem Box.tup {H : Hp} {p c q : Addr} {vs : List V} (B : Box H p c) (h : H q = some (.tup vs)) : q ≠ p := by
  obtain ⟨xs, e, _⟩ := B.at
  exact ne_of h e (by intro z; cases z)
theorem Box.dk {H : Hp} {p c q : Addr} {vs : List (Key × V)} (B : Box H p c) (h : H q = some (.dK vs)) : q ≠ p := by
  obtain ⟨xs, e, _⟩ := B.at
  exact ne_of h e (by intro z; cases z)
theorem Box.ofL {H : Hp} {p c D : Addr} {o : HO} {xs : List V} (B : Box H p c) (h : H D = some (.lst xs)) (n1 : p ≠ D) (n2 : c ≠ D) : Box (upd H D o) p c := by
  obtain ⟨⟨ns, a, b, d, h1, h2, h3, h4⟩, ne⟩ := B
  exact ⟨⟨ns, a, b, d, hu_ne n1 h1, hu_ne n2 h2, h3, h4⟩, ne⟩
theorem _root_.RD.TD.pp {α : Type} {key : α → Int} {tup : α → List V} {H H' : Hp} {d p c : Addr} {xs : List (Addr × α)} (B : TD key tup H d xs) (X : Box H p c) (k : Kp [p] H H') : TD key tup H' d xs :=
  B.kp k (by simpa using X.dk B.at_) fun q hq vs e => by
    rw [List.mem_singleton.mp hq] at e
    exact X.tup e rfl

theorem MOST_eq : MOST = 999999999999999999999999999999999999999999999999999999999999 := by decide +kernel
theorem made_kp {H H1 : Hp} {x dx C : Addr} (nx : H x = none) (ndx : H dx = none) (ne : dx ≠ x) (k : Kp [x] (upd (upd H dx (.own x)) x (.ins C dx [])) H1) : Kp [] H H1 :=
  ((Kp.new ndx).nw (hn_ne (Ne.symm ne) nx)).via1 k nx
theorem fdT_self {α : Type} {key : α → Int} : ∀ {xs : List (Addr × α)}, (xs.map fun p => key p.2).Nodup → ∀ {p}, p ∈ xs → fdT key xs (key p.2) = some p
  | [], _, p, h => by cases h
  | q :: r, nd, p, h => by
    have nd2 := List.nodup_cons.mp nd
    unfold fdT
    rcases List.mem_cons.mp h with rfl | h
    · rw [List.find?_cons, decide_eq_true rfl]
    · have ne : key q.2 ≠ key p.2 := fun e => nd2.1 (by
      show key q.2 ∈ r.map fun p => key p.2
      rw [e]
      exact List.mem_map_of_mem (f := fun p : Addr × α => key p.2) h)
      rw [List.find?_cons, decide_eq_false ne]
      exact fdT_self nd2.2 h
structure Ad where
  t : Addr
  d : Addr
  b : Addr
  sd : Addr
  si : Addr
  pl : Addr
  rd : Addr
  lr : Addr
  cd : Addr
  lc : Addr
def Ad.ds (a : Ad) : List Addr := [a.lr, a.rd, a.lc, a.cd, a.si]
def Dj (H : Hp) (ps : List Addr) : Prop := ∀ q, q ∈ ps → (∃ kvs, H q = some (.dK kvs)) ∨ ∃ x r, H q = some (.lst (V.ref x :: r))
theorem Dj.no {H : Hp} {ps : List Addr} {q : Addr} {o : HO} (D : Dj H ps) (h : H q = some o) (n1 : ∀ kvs, o ≠ .dK kvs) (n2 : ∀ x r, o ≠ .lst (V.ref x :: r)) : q ∉ ps := fun m => by
  rcases D q m with ⟨kvs, e⟩ | ⟨x, r, e⟩
  · rw [h] at e
    exact n1 kvs (Option.some.inj e)
  · rw [h] at e
    exact n2 x r (Option.some.inj e)
theorem Dj.noT {H : Hp} {ps : List Addr} (D : Dj H ps) : NoT H ps := fun q hq vs e => D.no e (fun _ z => by cases z) (fun _ _ z => by cases z) hq
theorem Box.dj {H : Hp} {p c : Addr} (B : Box H p c) : Dj H [p] := fun q hq => by
  obtain ⟨⟨ns, a, b, d, h1, h2, h3, h4⟩, ne⟩ := B
  rw [List.mem_singleton.mp hq]
  exact .inr ⟨_, _, h1⟩
structure One (K : PySem.W.Frag) (H : Hp) (a : Ad) (st : Stg) (base : Int) (pool : List Int) (xs : List (Addr × Sy)) (c1 c2 : List (Addr × Ck)) (n m : Nat) : Prop where
  tp : H a.t = some (.tup [.ref a.d, .ref a.b, .ref a.si])
  dou : DouAt K H a.d a.sd a.cd c1
  bok : BookAt K H a.b a.sd a.rd xs
  set : SetAt K H a.sd st
  sid : H a.si = some (.dK (sideV st.grace base a.pl a.lr a.lc))
  lrw : RowT H a.lr xs
  lcl : ClkT H a.lc c2
  eq : c1.map (·.2) = c2.map (·.2)
  pol : H a.pl = some (.lst (pool.map V.int))
  pne : pool ≠ [] ∧ pool.length ≤ 6
  prg : ∀ x, x ∈ pool → 0 ≤ x ∧ x < st.ring
  ok : ∀ p, p ∈ xs → syOk st.ring p.2 = true ∧ p.2.l ≤ base + 3 + 2 * n
  bas : 0 ≤ base ∧ base ≤ 1000000000000000000000000000000000000000000000000000000000
  xl : xs.length ≤ 256 + n
  cl : c1.length ≤ m
  nd : a.ds.Nodup
section
variable {K : PySem.W.Frag} {H H' : Hp} {a : Ad} {st : Stg} {base : Int} {pool : List Int} {xs xs' : List (Addr × Sy)} {c1 c2 c1' c2' : List (Addr × Ck)} {n m n' m' : Nat} {ps : List Addr} {p c : Addr}
theorem One.kp (O : One K H a st base pool xs c1 c2 n m) (k : Kp ps H H') (D : Dj H ps) (h : ∀ q, q ∈ a.ds → q ∉ ps) : One K H' a st base pool xs c1 c2 n m := by
  obtain ⟨dx, hd⟩ := O.dou.ob
  obtain ⟨dy, hb⟩ := O.bok.ob
  obtain ⟨dz, hs⟩ := O.set.ex
  have i : ∀ {q C dx fs}, H q = some (.ins C dx fs) → q ∉ ps := fun e => D.no e (fun _ z => by cases z) (fun _ _ z => by cases z)
  exact ⟨k _ _ O.tp (D.noT.n O.tp), ⟨⟨dx, k _ _ hd (i hd)⟩, O.dou.cl.kp k (h _ (by simp [Ad.ds])) D.noT⟩, ⟨⟨dy, k _ _ hb (i hb)⟩, O.bok.ro.kp k (h _ (by simp [Ad.ds])) D.noT⟩, ⟨⟨dz, k _ _ hs (i hs)⟩, O.set.ok⟩,
    k _ _ O.sid (h _ (by simp [Ad.ds])), O.lrw.kp k (h _ (by simp [Ad.ds])) D.noT, O.lcl.kp k (h _ (by simp [Ad.ds])) D.noT, O.eq, k _ _ O.pol (D.no O.pol (fun _ z => by cases z) (fun x r z => by
      injection z with z
      exact ne_ints _ z)), O.pne, O.prg, O.ok, O.bas, O.xl, O.cl, O.nd⟩
theorem One.isD (O : One K H a st base pool xs c1 c2 n m) : ∀ q, q ∈ a.ds → ∃ kvs, H q = some (.dK kvs) := by
  intro q hq
  simp only [Ad.ds, List.mem_cons, List.not_mem_nil, or_false] at hq
  rcases hq with rfl | rfl | rfl | rfl | rfl
  · exact ⟨_, O.lrw.at_⟩
  · exact ⟨_, O.bok.ro.at_⟩
  · exact ⟨_, O.lcl.at_⟩
  · exact ⟨_, O.dou.cl.at_⟩
  · exact ⟨_, O.sid⟩
theorem One.box (O : One K H a st base pool xs c1 c2 n m) (B : Box H p c) (k : Kp [p] H H') : One K H' a st base pool xs c1 c2 n m := O.kp k B.dj fun q hq z => by
  obtain ⟨kvs, e⟩ := O.isD q hq
  exact B.dk e (List.mem_singleton.mp z)
theorem One.k0 (O : One K H a st base pool xs c1 c2 n m) (k : Kp [] H H') : One K H' a st base pool xs c1 c2 n m := O.kp k (fun q hq => by cases hq) (fun q _ hq => by cases hq)
theorem One.setC (O : One K H a st base pool xs c1 c2 n m) (k : Kp [a.lc, a.cd] H H') (h1 : ClkT H' a.cd c1') (h2 : ClkT H' a.lc c2') (e : c1'.map (·.2) = c2'.map (·.2)) (l : c1'.length ≤ m') : One K H' a st base pool xs c1' c2' n m' := by
  obtain ⟨dx, hd⟩ := O.dou.ob
  obtain ⟨dy, hb⟩ := O.bok.ob
  obtain ⟨dz, hs⟩ := O.set.ex
  have nd := O.nd
  simp only [Ad.ds, List.nodup_cons, List.mem_cons, List.not_mem_nil, or_false, not_or, List.nodup_nil, and_true] at nd
  have D : Dj H [a.lc, a.cd] := fun q hq => .inl (O.isD q (by simp [Ad.ds] at hq ⊢; rcases hq with h | h <;> simp [h]))
  have i : ∀ {q C dx fs}, H q = some (.ins C dx fs) → q ∉ [a.lc, a.cd] := fun e => D.no e (fun _ z => by cases z) (fun _ _ z => by cases z)
  exact ⟨k _ _ O.tp (D.noT.n O.tp), ⟨⟨dx, k _ _ hd (i hd)⟩, h1⟩, ⟨⟨dy, k _ _ hb (i hb)⟩, O.bok.ro.kp k (by simp; exact ⟨nd.2.1.1, nd.2.1.2.1⟩) D.noT⟩, ⟨⟨dz, k _ _ hs (i hs)⟩, O.set.ok⟩,
    k _ _ O.sid (by simp; exact ⟨Ne.symm nd.2.2.1.2, Ne.symm nd.2.2.2.1⟩), O.lrw.kp k (by simp; exact ⟨nd.1.2.1, nd.1.2.2.1⟩) D.noT, h2, e, k _ _ O.pol (D.no O.pol (fun _ z => by cases z) (fun x r z => by
      injection z with z
      exact ne_ints _ z)), O.pne, O.prg, O.ok, O.bas, O.xl, l, O.nd⟩
theorem One.setR (O : One K H a st base pool xs c1 c2 n m) (k : Kp [a.lr, a.rd] H H') (h1 : RowT H' a.rd xs') (h2 : RowT H' a.lr xs') (ok : ∀ p, p ∈ xs' → syOk st.ring p.2 = true ∧ p.2.l ≤ base + 3 + 2 * n') (l : xs'.length ≤ 256 + n') : One K H' a st base pool xs' c1 c2 n' m := by
  obtain ⟨dx, hd⟩ := O.dou.ob
  obtain ⟨dy, hb⟩ := O.bok.ob
  obtain ⟨dz, hs⟩ := O.set.ex
  have nd := O.nd
  simp only [Ad.ds, List.nodup_cons, List.mem_cons, List.not_mem_nil, or_false, not_or, List.nodup_nil, and_true] at nd
  have D : Dj H [a.lr, a.rd] := fun q hq => .inl (O.isD q (by simp [Ad.ds] at hq ⊢; rcases hq with h | h <;> simp [h]))
  have i : ∀ {q C dx fs}, H q = some (.ins C dx fs) → q ∉ [a.lr, a.rd] := fun e => D.no e (fun _ z => by cases z) (fun _ _ z => by cases z)
  exact ⟨k _ _ O.tp (D.noT.n O.tp), ⟨⟨dx, k _ _ hd (i hd)⟩, O.dou.cl.kp k (by simp; exact ⟨Ne.symm nd.1.2.2.1, Ne.symm nd.2.1.2.1⟩) D.noT⟩, ⟨⟨dy, k _ _ hb (i hb)⟩, h1⟩, ⟨⟨dz, k _ _ hs (i hs)⟩, O.set.ok⟩,
    k _ _ O.sid (by simp; exact ⟨Ne.symm nd.1.2.2.2, Ne.symm nd.2.1.2.2⟩), h2, O.lcl.kp k (by simp; exact ⟨Ne.symm nd.1.2.1, Ne.symm nd.2.1.1⟩) D.noT, O.eq, k _ _ O.pol (D.no O.pol (fun _ z => by cases z) (fun x r z => by
      injection z with z
      exact ne_ints _ z)), O.pne, O.prg, ok, O.bas, l, O.cl, O.nd⟩
theorem One.up (O : One K H a st base pool xs c1 c2 n m) (hn : n ≤ n') (hm : m ≤ m') : One K H a st base pool xs c1 c2 n' m' :=
  ⟨O.tp, O.dou, O.bok, O.set, O.sid, O.lrw, O.lcl, O.eq, O.pol, O.pne, O.prg, fun p hp => ⟨(O.ok p hp).1, by have := (O.ok p hp).2; omega⟩, O.bas, by have := O.xl; omega, by have := O.cl; omega, O.nd⟩
end
theorem dueL_T {rows : List Sy} {cs : List Ck} {w now : Int} (h : ∀ y, y ∈ rows → y.T) : ∀ z, z ∈ dueL rows cs w now → z.T := fun z hz => by
  unfold dueL at hz
  obtain ⟨k, hk, e⟩ := List.mem_filterMap.mp hz
  unfold dueF at e
  split at e
  · rename_i c y e1 e2
    split at e
    · cases e
      exact ⟨show PyData.strOk ("dead" : Str) = true by decide +kernel, (h y (List.mem_of_find?_eq_some e2)).2⟩
    · cases e
  · cases e
structure Mw (K : PySem.W.Frag) (H : Hp) (p c t sd pl : Addr) (st : Stg) (pool : List Int) : Prop where
  bx : Box H p c
  se : SetAt K H sd st
  tp : H t = some (.tup [.ref sd, .int st.grace])
  po : H pl = some (.lst (pool.map V.int))
section
variable {K : PySem.W.Frag} {H H' : Hp} {p c t sd pl d : Addr} {st : Stg} {pool : List Int} {kvs : List (Key × V)} {o : HO}
theorem Mw.pp (W : Mw K H p c t sd pl st pool) (B : Box H' p c) (k : Kp [p] H H') : Mw K H' p c t sd pl st pool := by
  obtain ⟨⟨ns, a, b, d, h1, h2, h3, h4⟩, ne⟩ := id W.bx
  exact ⟨B, W.se.k1 k (W.se.nelst h1), k.g1 (ne_of W.tp h1 (by intro z; cases z)) W.tp, k.g1 (ne_of W.po h1 (by
    intro z
    injection z with z
    exact ne_ints _ z)) W.po⟩
theorem Mw.k0 (W : Mw K H p c t sd pl st pool) (k : Kp [] H H') : Mw K H' p c t sd pl st pool := ⟨W.bx.k0 k, W.se.k0 k, k.g0 W.tp, k.g0 W.po⟩
theorem Mw.dk (W : Mw K H p c t sd pl st pool) (h : H d = some (.dK kvs)) : Mw K (upd H d o) p c t sd pl st pool := by
  have k : Kp [d] H (upd H d o) := Kp.refl.wr (by simp)
  exact ⟨W.bx.ofD k (fun q hq => by rw [List.mem_singleton.mp hq]; exact ⟨_, h⟩), W.se.k1 k (W.se.nedK h), k.g1 (ne_of W.tp h (by intro z; cases z)) W.tp, k.g1 (ne_of W.po h (by intro z; cases z)) W.po⟩
end

theorem dbt_none {cs : List Ck} {k l a : Int} (h : fdS Ck.s cs k = none) : dbt cs k l a = ptS Ck.s cs ⟨k, l, a⟩ := by
  unfold dbt
  rw [h]
theorem dbt_eq {cs : List Ck} {k l a : Int} {c : Ck} (h : fdS Ck.s cs k = some c) (e : c.l = l) : dbt cs k l a = cs := by
  unfold dbt
  rw [h]
  exact if_pos e
theorem dbt_ne {cs : List Ck} {k l a : Int} {c : Ck} (h : fdS Ck.s cs k = some c) (e : c.l ≠ l) : dbt cs k l a = ptS Ck.s cs ⟨k, l, a⟩ := by
  unfold dbt
  rw [h]
  exact if_neg e
theorem DouAt.kp {K : PySem.W.Frag} {H H' : Hp} {p s d : Addr} {cs : List (Addr × Ck)} {ps : List Addr} (B : DouAt K H p s d cs) (k : Kp ps H H') (n : d ∉ ps) (D : Dj H ps) : DouAt K H' p s d cs := by
  obtain ⟨⟨dx, h⟩, c⟩ := B
  exact ⟨⟨dx, k _ _ h (D.no h (fun _ z => by cases z) (fun _ _ z => by cases z))⟩, c.kp k n D.noT⟩
theorem BookAt.kp {K : PySem.W.Frag} {H H' : Hp} {b s d : Addr} {xs : List (Addr × Sy)} {ps : List Addr} (B : BookAt K H b s d xs) (k : Kp ps H H') (n : d ∉ ps) (D : Dj H ps) : BookAt K H' b s d xs := by
  obtain ⟨⟨dx, h⟩, c⟩ := B
  exact ⟨⟨dx, k _ _ h (D.no h (fun _ z => by cases z) (fun _ _ z => by cases z))⟩, c.kp k n D.noT⟩
theorem Dj.d1 {H : Hp} {d : Addr} {kvs : List (Key × V)} (h : H d = some (.dK kvs)) : Dj H [d] := fun q hq => by
  rw [List.mem_singleton.mp hq]
  exact .inl ⟨_, h⟩
theorem non_non : decide (V.non = V.non) = true := decide_eq_true rfl

def Ad.ms (a : Ad) (p : Addr) : List Addr := [p, a.lr, a.rd, a.lc, a.cd]
structure Pr2 (K : PySem.W.Frag) (H : Hp) (p c L : Addr) (ts : List V) (a b : Ad) (n m : Nat) : Prop where
  bx : Box H p c
  o1 : ∃ st base pool xs c1 c2, One K H a st base pool xs c1 c2 n m
  o2 : ∃ st base pool xs c1 c2, One K H b st base pool xs c1 c2 n m
  dj : ∀ q, q ∈ a.ds → q ∉ b.ds
  lt : H L = some (.lst ts)
  lp : L ≠ p
section
variable {K : PySem.W.Frag} {H H' : Hp} {p c L : Addr} {ts : List V} {a b : Ad} {n m n' m' : Nat}
theorem Pr2.symm (P : Pr2 K H p c L ts a b n m) : Pr2 K H p c L ts b a n m := ⟨P.bx, P.o2, P.o1, fun q h1 h2 => P.dj q h2 h1, P.lt, P.lp⟩
theorem Pr2.box (P : Pr2 K H p c L ts a b n m) (B : Box H' p c) (k : Kp [p] H H') : Pr2 K H' p c L ts a b n m := by
  obtain ⟨s1, b1, l1, x1, y1, z1, O1⟩ := P.o1
  obtain ⟨s2, b2, l2, x2, y2, z2, O2⟩ := P.o2
  exact ⟨B, ⟨s1, b1, l1, x1, y1, z1, O1.box P.bx k⟩, ⟨s2, b2, l2, x2, y2, z2, O2.box P.bx k⟩, P.dj, k.g1 P.lp P.lt, P.lp⟩
theorem Pr2.k0 (P : Pr2 K H p c L ts a b n m) (k : Kp [] H H') : Pr2 K H' p c L ts a b n m := P.box (P.bx.k0 k) k.of0
theorem Pr2.step (P : Pr2 K H p c L ts a b n m) (B : Box H' p c) (k : Kp (a.ms p) H H') {st base pool xs c1 c2} (O : One K H' a st base pool xs c1 c2 n' m') (hn : n ≤ n') (hm : m ≤ m') : Pr2 K H' p c L ts a b n' m' := by
  obtain ⟨s1, b1, l1, x1, y1, z1, O1⟩ := P.o1
  obtain ⟨s2, b2, l2, x2, y2, z2, O2⟩ := P.o2
  have D : Dj H (a.ms p) := fun q hq => by
    simp only [Ad.ms, List.mem_cons, List.not_mem_nil, or_false] at hq
    rcases hq with rfl | h
    · exact P.bx.dj _ (List.mem_singleton.mpr rfl)
    · exact .inl (O1.isD q (by
        simp only [Ad.ds, List.mem_cons, List.not_mem_nil, or_false]
        rcases h with h | h | h | h <;> simp [h]))
  have sub : ∀ q, q ∈ a.ms p → q = p ∨ q ∈ a.ds := fun q hq => by
    simp only [Ad.ms, List.mem_cons, List.not_mem_nil, or_false] at hq
    simp only [Ad.ds, List.mem_cons, List.not_mem_nil, or_false]
    rcases hq with h | h | h | h | h <;> simp [h]
  refine ⟨B, ⟨st, base, pool, xs, c1, c2, O⟩, ⟨s2, b2, l2, x2, y2, z2, (O2.kp k D fun q hq z => ?_).up hn hm⟩, P.dj, k _ _ P.lt fun z => ?_, P.lp⟩
  · rcases sub q z with rfl | z
    · obtain ⟨kvs, e⟩ := O2.isD _ hq
      exact P.bx.dk e rfl
    · exact P.dj q z hq
  · rcases sub L z with z | z
    · exact P.lp z
    · obtain ⟨kvs, e⟩ := O1.isD _ z
      rw [P.lt] at e
      cases e
end

local macro_rules | `(tactic| wtm_at "look") => `(tactic| fail "no rule")
local macro_rules | `(tactic| wtm_at "ne") => `(tactic| first
  | with_reducible assumption
  | ((with_reducible refine' Ne.symm ?h); (case h => with_reducible assumption))
  | ((with_reducible refine' ne_fresh ?n); (case n => with_reducible assumption))
  | ((with_reducible refine' Ne.symm (ne_fresh ?n)); (case n => with_reducible assumption))
  | ((refine' ne_of_none ?h ?n); (case n => with_reducible assumption); (case h => wtm_at "hp"))
  | ((refine' Ne.symm (ne_of_none ?h ?n)); (case n => with_reducible assumption); (case h => wtm_at "hp"))
  | fail "no rule")
local macro_rules | `(tactic| wtm_at "hp") => `(tactic| first
  | with_reducible assumption
  | with_reducible exact upd_same
  | ((with_reducible refine' upd_is ?e); (case e => exact rfl))
  | ((with_reducible refine' hu_ne ?n ?e); (case n => wtm_at "ne"); (case e => wtm_at "hp"))
  | ((with_reducible refine' Kp.g0 ?k ?e); (case k => with_reducible assumption); (case e => wtm_at "hp"))
  | ((with_reducible refine' Kp.g1 ?k ?n ?e); (case k => with_reducible assumption); (case n => wtm_at "ne"); (case e => wtm_at "hp"))
  | ((with_reducible refine' Kp.g2 ?k ?n ?m ?e); (case k => with_reducible assumption); (case n => wtm_at "ne"); (case m => wtm_at "ne"); (case e => wtm_at "hp"))
  | ((with_reducible refine' Kp.g3 ?k ?n ?m ?l ?e); (case k => with_reducible assumption); (case n => wtm_at "ne"); (case m => wtm_at "ne"); (case l => wtm_at "ne"); (case e => wtm_at "hp"))
  | fail "no rule")
local macro_rules | `(tactic| wtm_at "sq") => `(tactic| first
  | with_reducible assumption
  | wtm_at "sqx"
  | ((refine' SqL.of ?e); (case e => wtm_at "hp"))
  | ((refine' SqT.of ?e); (case e => wtm_at "hp"))
  | fail "no rule")
local macro_rules | `(tactic| wtm_at "at") => `(tactic| first
  | exact rfl
  | assumption
  | ((refine' atI_ints ?a ?b); (case a => omega); (case b => omega))
  | fail "no rule")
local macro_rules | `(tactic| wtm_at "cc") => `(tactic| first
  | with_reducible assumption
  | omega
  | exact rfl
  | decide
  | ((refine' ⟨?a, ?b⟩); (case a => omega); (case b => omega))
  | ((refine' Or.inr ⟨?a, ?b⟩); (case a => omega); (case b => omega))
  | ((refine' Or.inl ⟨?a, ?b⟩); (case a => omega); (case b => omega))
  | ((refine' ⟨?a, ?b, ?c⟩); (case a => first | omega | decide | fail "num"); (case b => first | omega | decide | fail "num"); (case c => first | omega | decide | fail "num"))
  | fail "no rule")
local macro_rules | `(tactic| wtm_at "sz") => `(tactic| first
  | assumption
  | ((refine' szlt ?h); (case h => (simp; omega)))
  | ((refine' szlt ?h); (case h => omega))
  | ((refine' szlt ?h); (case h => exact Nat.le_of_ble_eq_true rfl))
  | ((refine' sz1000 ?h); (case h => (simp; done)))
  | ((refine' sz1000 ?h); (case h => omega))
  | fail "no rule")
local macro_rules | `(tactic| wtm_at "dg") => `(tactic| first
  | ((refine' dg_is ?a ?b); (case a => wtm_at "hp"); (case b => wtm_at "hp"))
  | ((refine' dg_i ?a); (case a => wtm_at "hp"))
  | ((refine' dg_s ?a); (case a => wtm_at "hp"))
  | fail "no rule")
local macro_rules | `(tactic| wtm_at "dgv") => `(tactic| first
  | ((refine' dg_sv ?a ?b); (case a => wtm_at "hp"); (case b => first | assumption | wtm_at "look" | exact rfl | fail "look"))
  | ((refine' dg_iv ?a ?b); (case a => wtm_at "hp"); (case b => first | assumption | wtm_at "look" | exact rfl | fail "look"))
  | fail "no rule")
local macro_rules | `(tactic| wtm_at "dp") => `(tactic| first
  | ((refine' dp_is ?a ?b ?c); (case a => wtm_at "hp"); (case b => wtm_at "hp"); (case c => wtm_at "sz"))
  | ((refine' dp_i ?a ?c); (case a => wtm_at "hp"); (case c => wtm_at "sz"))
  | ((refine' dp_s ?a ?c); (case a => wtm_at "hp"); (case c => wtm_at "sz"))
  | fail "no rule")
local macro_rules | `(tactic| wtm_at "rd1") => `(tactic| first
  | with_reducible refine' rd_seq ?_
  | with_reducible refine' rd_asg ?_
  | ((with_reducible refine' rd_var ?e ?_); (case e => exact rfl))
  | with_reducible refine' rd_c ?_
  | with_reducible refine' rd_op ?_
  | with_reducible refine' rd_gname ?_
  | with_reducible refine' rd_CB ?_
  | with_reducible refine' rd_cons ?_
  | with_reducible refine' rd_nil ?_
  | with_reducible refine' rd_ret ?_
  | with_reducible refine' rd_drop ?_
  | with_reducible refine' rd_ifS ?_
  | with_reducible refine' rd_test ?_
  | with_reducible refine' rd_exb ?_
  | with_reducible refine' rd_call ?_
  | with_reducible refine' rd_I0 ?_
  | ((with_reducible refine' rd_I ?c ?_); (case c => wtm_at "cc"))
  | ((with_reducible refine' rd_ixL ?h ?a ?_); (case h => wtm_at "sq"); (case a => wtm_at "at"))
  | ((with_reducible refine' rd_ixT ?h ?a ?_); (case h => wtm_at "sq"); (case a => wtm_at "at"))
  | with_reducible refine' rd_int1 ?_
  | with_reducible refine' rd_abs ?_
  | ((with_reducible refine' rd_lenI ?h ?_); (case h => wtm_at "sq"))
  | ((with_reducible refine' rd_lenL ?h ?_); (case h => wtm_at "sq"))
  | ((with_reducible refine' rd_lenT ?h ?_); (case h => wtm_at "sq"))
  | with_reducible refine' rd_eqI ?_
  | with_reducible refine' rd_neI ?_
  | with_reducible refine' rd_eqS ?_
  | with_reducible refine' rd_neS ?_
  | with_reducible refine' rd_eqB ?_
  | with_reducible refine' rd_neB ?_
  | with_reducible refine' rd_and ?_
  | with_reducible refine' rd_or ?_
  | with_reducible refine' rd_not ?_
  | with_reducible refine' rd_tB ?_
  | with_reducible refine' rd_gsub ?_
  | ((with_reducible refine' rd_setL ?h ?j ?_); (case h => wtm_at "hp"); (case j => exact rfl))
  | with_reducible refine' rd_next ?_
  | with_reducible refine' rd_un ?_
  | with_reducible refine' rd_U ?_
  | with_reducible refine' rd_tup ?_
  | with_reducible refine' rd_lst ?_
  | with_reducible refine' rd_bm ?_
  | with_reducible refine' rd_bm0 ?_
  | with_reducible refine' rd_meth ?_
  | with_reducible refine' rd_make ?_
  | with_reducible refine' rd_iTup ?_
  | ((with_reducible refine' rd_iTupX ?h ?_); (case h => wtm_at "sq"))
  | with_reducible refine' rd_for ?_
  | with_reducible refine' rd_iList ?_
  | ((with_reducible refine' rd_iListX ?h ?_); (case h => wtm_at "sq"))
  | with_reducible refine' rd_iRng1 ?_
  | ((with_reducible refine' rd_iRng1X ?h1 ?h2 ?_); (case h1 => wtm_at "cc"); (case h2 => wtm_at "cc"))
  | ((with_reducible refine' rd_iRng2X ?h1 ?_); (case h1 => ((refine' ⟨?a, ?b, ?c, ?d⟩); (case a => omega); (case b => omega); (case c => omega); (case d => omega))))
  | with_reducible refine' rd_iRng2 ?_
  | with_reducible refine' rd_lc ?_
  | with_reducible refine' rd_yes ?_
  | with_reducible refine' rd_andV ?_
  | with_reducible refine' rd_orV ?_
  | with_reducible refine' rd_notV ?_
  | with_reducible refine' rd_ifE ?_
  | with_reducible refine' rd_isN ?_
  | with_reducible refine' rd_notN ?_
  | with_reducible refine' rd_min2 ?_
  | with_reducible refine' rd_max2 ?_
  | with_reducible refine' rd_retN ?_
  | with_reducible refine' rd_brk ?_
  | with_reducible refine' rd_cont ?_
  | with_reducible refine' rd_tfld ?_
  | ((with_reducible refine' rd_fldX ?h ?c ?n ?l ?_); (case h => wtm_at "hp"); (case c => wtm_at "cls"); (case n => wtm_at "noat"); (case l => exact rfl))
  | with_reducible refine' rd_sfld ?_
  | ((with_reducible refine' rd_sfldX ?h ?c ?n ?l ?_); (case h => wtm_at "hp"); (case c => wtm_at "cls"); (case n => wtm_at "noat"); (case l => first | decide | exact Nat.le_of_ble_eq_true rfl | fail "len"))
  | with_reducible refine' rd_tcon ?_
  | ((with_reducible refine' rd_conX ?h ?c ?n ?l ?_); (case h => wtm_at "hp"); (case c => wtm_at "cls"); (case n => wtm_at "con"); (case l => exact rfl))
  | ((with_reducible refine' rd_methX ?h ?l ?_); (case h => wtm_at "hp"); (case l => exact rfl))
  | with_reducible refine' rd_isi_ii ?_
  | with_reducible refine' rd_isi_ib ?_
  | with_reducible refine' rd_isi_bb ?_
  | with_reducible refine' rd_isi_bi ?_
  | with_reducible refine' rd_isi_ss ?_
  | ((with_reducible refine' rd_isi_ll ?h ?_); (case h => wtm_at "hp"))
  | ((with_reducible refine' rd_isi_tt ?h ?_); (case h => wtm_at "hp"))
  | with_reducible refine' iteT ?_
  | with_reducible refine' iteF ?_
  | with_reducible refine' ite_nt ?_
  | with_reducible refine' ite_nf ?_
  | with_reducible refine' ite_in ?_
  | with_reducible refine' ite_rn ?_
  | with_reducible refine' ite_sn ?_
  | with_reducible refine' ite_bn ?_
  | with_reducible refine' ite_nn ?_
  | with_reducible refine' ite_xin ?_
  | with_reducible refine' ite_xrn ?_
  | with_reducible refine' ite_xnn ?_
  | with_reducible refine' rd_dget2 ?_
  | ((with_reducible refine' rd_isdX ?h ?_); (case h => first | ((refine' isD_T ?e); (case e => wtm_at "hp")) | ((refine' isD_K ?e); (case e => wtm_at "hp"))))
  | ((with_reducible refine' rd_dgX ?h ?_); (case h => wtm_at "dg"))
  | with_reducible refine' rd_sdput ?_
  | ((with_reducible refine' rd_dpX ?h ?_); (case h => wtm_at "dp"))
  | ((with_reducible refine' ty_l ?h ?_); (case h => wtm_at "sq"))
  | ((with_reducible refine' ty_d ?h ?_); (case h => wtm_at "hp"))
  | ((with_reducible refine' ty_dK ?h ?_); (case h => wtm_at "hp"))
  | ((with_reducible refine' rd_append ?h ?l ?_); (case h => wtm_at "hp"); (case l => wtm_at "sz"))
  | with_reducible refine' rd_lstRg ?_
  | with_reducible refine' rd_rg1 ?_
  | with_reducible refine' rd_rg2 ?_
  | with_reducible refine' rd_inX ?_
  | with_reducible refine' rd_inX2 ?_
  | ((with_reducible refine' rd_listL ?h ?_); (case h => wtm_at "sq"))
  | ((with_reducible refine' rd_gtup ?h ?l ?_); (case h => wtm_at "sq"); (case l => exact rfl))
  | with_reducible refine' rd_gcons ?_
  | with_reducible refine' rd_gnil ?_
  | with_reducible refine' rd_din ?_
  | with_reducible refine' rd_dnotin ?_
  | with_reducible refine' rd_dget ?_
  | with_reducible refine' rd_dget1 ?_
  | ((with_reducible refine' rd_dinX ?h ?_); (case h => wtm_at "dg"))
  | ((with_reducible refine' rd_dgetX ?h ?_); (case h => wtm_at "dgv"))
  | with_reducible refine' rd_pnil ?_
  | with_reducible refine' rd_pcons ?_
  | with_reducible refine' rd_sl ?_
  | with_reducible refine' rd_part ?_
  | with_reducible refine' rd_nopart ?_
  | ((with_reducible refine' rd_slL ?h ?_); (case h => wtm_at "sq"))
  | ((with_reducible refine' rd_clear ?h ?_); (case h => wtm_at "hp"))
  | ((with_reducible refine' rd_aug ?e ?_); (case e => exact rfl))
  | with_reducible refine' rd_ipI ?_
  | ((with_reducible refine' rd_inI ?h ?_); (case h => wtm_at "sq"))
  | ((with_reducible refine' rd_notInI ?h ?_); (case h => wtm_at "sq"))
  | ((with_reducible refine' rd_lenD ?h ?_); (case h => wtm_at "hp"))
  | with_reducible refine' rd_iEnum ?_
  | ((with_reducible refine' rd_iEnumX ?h ?_); (case h => wtm_at "sq"))
  | ((with_reducible refine' rd_eqLI ?h1 ?h2 ?_); (case h1 => wtm_at "sq"); (case h2 => wtm_at "sq"))
  | ((with_reducible refine' rd_neLI ?h1 ?h2 ?_); (case h1 => wtm_at "sq"); (case h2 => wtm_at "sq"))
  | fail "no rule")
local macro_rules | `(tactic| wtm_at "rd") => `(tactic| repeat wtm_at "rd1")
local macro_rules | `(tactic| wtm_at "hn") => `(tactic| first
  | with_reducible assumption
  | ((with_reducible refine' hn_ne ?n ?e); (case n => wtm_at "ne"); (case e => wtm_at "hn"))
  | ((refine' Kp.back ?k ?e ?n); (case k => with_reducible assumption); (case e => with_reducible assumption); (case n => first | with_reducible assumption | (simp; done) | fail "mem"))
  | fail "no rule")
local macro_rules | `(tactic| wtm_at "kp") => `(tactic| first
  | exact Kp.refl
  | with_reducible assumption
  | ((with_reducible refine' Kp.of0 ?k); (case k => with_reducible assumption))
  | ((with_reducible refine' Kp.wr ?a ?h); (case h => (simp; done)); (case a => wtm_at "kp"))
  | ((with_reducible refine' Kp.nw ?a ?h); (case h => wtm_at "hn"); (case a => wtm_at "kp"))
  | ((with_reducible refine' Kp.mine ?a ?h); (case h => wtm_at "hn"); (case a => wtm_at "kp"))
  | ((with_reducible refine' Kp.via1 ?a ?b ?n); (case b => with_reducible assumption); (case n => wtm_at "hn"); (case a => wtm_at "kp"))
  | ((with_reducible refine' Kp.trans ?a ?b); (case b => first | with_reducible assumption | ((with_reducible refine' Kp.of0 ?k); (case k => with_reducible assumption)) | fail "kp"); (case a => wtm_at "kp"))
  | fail "no rule")
local macro_rules | `(tactic| wtm_at "rd1") => `(tactic| first
  | with_reducible refine' rd_prop ?_
  | ((with_reducible refine' rd_propX ?h ?_); (case h => wtm_at "hp"))
  | with_reducible refine' rd_revL ?_
  | ((with_reducible refine' rd_revLX ?h ?_); (case h => wtm_at "sq"))
  | with_reducible refine' rd_makeK ?_
  | with_reducible refine' rd_sortKey ?_
  | with_reducible refine' rd_sfldaug ?_
  | ((with_reducible refine' rd_sfldaugX ?h ?c ?n ?l ?_); (case h => wtm_at "hp"); (case c => wtm_at "cls"); (case n => wtm_at "noat"); (case l => exact rfl))
  | ((with_reducible refine' rd_insX ?h ?l ?_); (case h => wtm_at "hp"); (case l => first | decide | exact Nat.le_of_ble_eq_true rfl | fail "len"))
  | with_reducible refine' rd_addI ?_
  | with_reducible refine' rd_subI ?_
  | with_reducible refine' rd_disp ?_
  | with_reducible refine' rd_dc ?_
  | ((with_reducible refine' rd_dictD ?h ?_); (case h => wtm_at "hp"))
  | with_reducible refine' rd_minKey ?_
  | fail "no rule")
local macro_rules | `(tactic| wtm_at "hp") => `(tactic| first
  | ((with_reducible refine' Kt.g0 ?k ?n ?e); (case k => with_reducible assumption); (case n => (intro _ z; cases z)); (case e => wtm_at "hp"))
  | ((with_reducible refine' Kt.g1 ?k ?n ?m ?e); (case k => with_reducible assumption); (case n => (intro _ z; cases z)); (case m => wtm_at "ne"); (case e => wtm_at "hp"))
  | fail "no rule")
local macro_rules | `(tactic| wtm_at "cc") => `(tactic| first
  | ((refine' wide60 ?a ?b); (case a => omega); (case b => omega))
  | fail "no rule")
local macro_rules | `(tactic| wtm_at "kt") => `(tactic| first
  | with_reducible assumption
  | ((with_reducible refine' Kt.of0 ?k); (case k => with_reducible assumption))
  | ((with_reducible refine' Kt.wr ?a ?h ?e ?w); (case h => (simp; done)); (case e => wtm_at "hp"); (case w => exact trivial); (case a => wtm_at "kt"))
  | ((with_reducible refine' Kt.nw ?a ?e); (case e => wtm_at "hn"); (case a => wtm_at "kt"))
  | fail "no rule")
local macro_rules | `(tactic| wtm_at "dgv") => `(tactic| first
  | ((refine' dg_sl ?a ?b); (case a => wtm_at "hp"); (case b => exact rfl))
  | fail "no rule")
local macro_rules | `(tactic| wtm_at "dg") => `(tactic| first
  | ((refine' dg_ii ?a ?b); (case a => wtm_at "hp"); (case b => wtm_at "hp"))
  | fail "no rule")
local macro_rules | `(tactic| wtm_at "dp") => `(tactic| first
  | ((refine' dp_ii ?a ?b ?c); (case a => wtm_at "hp"); (case b => wtm_at "hp"); (case c => wtm_at "sz"))
  | fail "no rule")
local macro_rules | `(tactic| wtm_at "errS") => `(tactic| fail "no rule")
local macro_rules | `(tactic| wtm_at "errN") => `(tactic| fail "no rule")
local macro_rules | `(tactic| wtm_at "rd1") => `(tactic| first
  | with_reducible refine' rd_raiseE ?_
  | with_reducible refine' rd_raiseX ?_
  | with_reducible refine' rd_calS ?_
  | with_reducible refine' rd_metS ?_
  | with_reducible refine' rd_xe ?_
  | ((with_reducible refine' rd_xeX ?s ?n ?h ?l ?_); (case s => wtm_at "errS"); (case n => wtm_at "errN"); (case h => wtm_at "hp"); (case l => exact rfl))
  | ((with_reducible refine' rd_isXv ?s ?h ?_); (case s => wtm_at "errS"); (case h => wtm_at "hp"))
  | ((with_reducible refine' rd_isXt ?s ?m ?h ?e ?_); (case s => wtm_at "errS"); (case m => decide); (case h => wtm_at "hp"); (case e => decide))
  | ((with_reducible refine' rd_isXf ?s ?m ?h ?e ?_); (case s => wtm_at "errS"); (case m => decide); (case h => wtm_at "hp"); (case e => decide))
  | fail "no rule")
local macro_rules | `(tactic| wtm_at "kd") => `(tactic| fail "no rule")
local macro_rules | `(tactic| wtm_at "rd1") => `(tactic| first
  | ((with_reducible refine' rd_lenStr ?h ?_); (case h => first | assumption | ((refine' sz1000 ?h); (case h => first | omega | exact Nat.le_of_ble_eq_true rfl | fail "len")) | fail "len"))
  | with_reducible refine' rd_inSign ?_
  | with_reducible refine' rd_iStr ?_
  | with_reducible refine' rd_iStrX ?_
  | with_reducible refine' rd_chain ?_
  | with_reducible refine' rd_iRng3 ?_
  | with_reducible refine' rd_iSeq ?_
  | ((with_reducible refine' rd_iSeqL ?h ?_); (case h => wtm_at "sq"))
  | with_reducible refine' rd_m1 ?_
  | with_reducible refine' rd_m1X ?_
  | with_reducible refine' rd_int1b ?_
  | with_reducible refine' rd_dpop2 ?_
  | ((with_reducible refine' rd_dpopI ?h ?_); (case h => wtm_at "hp"))
  | ((with_reducible refine' rd_ixKD ?h ?_); (case h => wtm_at "kd"))
  | ((with_reducible refine' rd_inTS ?h ?_); (case h => wtm_at "sq"))
  | fail "no rule")

local macro_rules | `(tactic| wtm_at "sqx") => `(tactic| exact tup_MARKS (by assumption) _)
local macro_rules | `(tactic| wtm_at "kd") => `(tactic| exact step_kd (by assumption) (by assumption) (by assumption))
local macro_rules | `(tactic| wtm_at "con") => `(tactic| first | exact con_MOST_BITS (by assumption) | exact con_MOST_PATIENCE (by assumption) | exact con_MOST_ROOM (by assumption) | exact con_MOST_GRACE (by assumption) | exact con_MOST_HELPERS (by assumption))

local macro_rules | `(tactic| wtm_at "look") => `(tactic| first | with_reducible exact sv_wait | with_reducible exact sv_base | with_reducible exact sv_pool | with_reducible exact sv_rows | with_reducible exact sv_clocks | fail "no rule")
local macro_rules | `(tactic| wtm_at "cls") => `(tactic| first | exact cl_Book (by assumption) | exact cl_Doubts (by assumption) | exact cl_Setting (by assumption))
local macro_rules | `(tactic| wtm_at "noat") => `(tactic| first | exact na_Book__setting (by assumption) | exact na_Book__rows (by assumption) | exact na_Doubts__setting (by assumption) | exact na_Doubts__clocks (by assumption) | exact na_Setting_bits (by assumption) | exact na_Setting_patience (by assumption) | exact na_Setting_room (by assumption) | exact na_Setting_grace (by assumption) | exact na_Setting_helpers (by assumption))
local macro_rules | `(tactic| wtm_at "errS") => `(tactic| first | exact (er_InvalidSetting (by assumption)).2 | exact (er_InvalidSaying (by assumption)).2)
local macro_rules | `(tactic| wtm_at "errN") => `(tactic| first | exact (er_InvalidSetting (by assumption)).1.noN | exact (er_InvalidSaying (by assumption)).1.noN)
section
variable {P : Program} {w : World} {K : PySem.W.Frag} {mg : Str → Option Value} {base : Heap}
def sp_l_box (K : PySem.W.Frag) : Sp := fun vs H Q E => ∃ (a : Addr) (ns : List Int), vs = [.ref a] ∧ (SqL K H a (ns.map V.int)) ∧ (ns.length ≤ 63) ∧ (∀ p c H1, Box H1 p c → Kp [] H H1 → H p = none → H c = none → Q (.ref p) H1)
theorem us_l_box {K : PySem.W.Frag} {H : Hp} {Q : VK} {E : XK} {a : Addr} {ns : List Int} (hS : SqL K H a (ns.map V.int)) (hl : ns.length ≤ 63) (kk : ∀ p c H1, Box H1 p c → Kp [] H H1 → H p = none → H c = none → Q (.ref p) H1) : sp_l_box K [.ref a] H Q E := ⟨_, _, rfl, hS, hl, kk⟩
theorem f_l_box (T : Cx K mg) (B : Tb P w K mg base) : ∃ fd, FunD K "_law_box" "_law_box" (defArgs s_l_box) (defBody s_l_box) (defScope s_l_box) (d_l_box.dvs K) (d_l_box.kws K) (fAd K d_l_box.at_) fd ∧ FnOk P w K mg base CX0 1 (fAd K d_l_box.at_) fd p_l_box (sp_l_box K) := by
  obtain ⟨fd, F⟩ := T.says.def_ 0 (d := d_l_box) rfl
  refine ⟨fd, F, fnD F sc_l_box (fun vs H Q E h => by
    obtain ⟨_, _, rfl, _⟩ := h
    rfl) fun cdv A outer s H vs Q E hr h => ?_⟩
  have hu := hu_of hr
  obtain ⟨a, ns, rfl, hS, hl, kk⟩ := h
  refine ⟨_, (pss_cons (ps_setLc (i := 1) (own := [("_law_cell", 2)]) (g := (gName 2)) (tt := tYes) rfl sc_l_box.nd rfl rfl (sw_true rfl rfl rfl (by decide +kernel)) (pi_list (pv 0)) (blkOk_by (own := [("_law_cell", 2)]) (N := n_l_box) (sc := defScope s_l_box) (by decide +kernel)) (fun _ _ _ _ _ => (pg_name (i := 2) sc_l_box.nd rfl (by first | exact Or.inl rfl | exact Or.inr rfl))) (fun _ _ _ _ _ => pts_nil) (fun _ _ _ _ _ => (pe_callTy call_int1' (by rfl) (fr_int T) (by decide +kernel) (pa_cons (pv 2) pa_nil)))) (pss_cons (ps_if (pt_cmpR op_eq (pe_callB call_lenS (by rfl) (fr_len T) (by decide +kernel) (pa_cons (pv 1) pa_nil)) pe_int (nomark _)) (pss_one (ps_set (i := 1) sc_l_box.nd rfl (by first | exact Or.inl rfl | exact Or.inr rfl) (pe_lst (pa_cons pe_int pa_nil)))) pss_nil) (pss_one (ps_ret (pe_lst (pa_cons (pv 1) (pa_cons pe_int (pa_cons pe_int (pa_cons pe_int pa_nil))))))))), ?_⟩
  rw [show L2.start n_l_box [.ref a] = [some (.ref a), none, none] from rfl]
  try dsimp only [cxOf, Cx.nox, Cx.wish, List.map]

  wtm_at "rd"
  intro D hD
  refine lcL_ints ns (fun i H' => H' D = some (.lst ((ns.take i).map V.int)) ∧ Kp [] H H') ⟨upd_same, Kp.new hD⟩ (fun i H' _ p => sl_kp p.2 (by simp) hS) (fun i hi H' p => ?_) (fun H' p => ?_)
  · obtain ⟨p1, p2⟩ := p
    wtm_at "rd"
    refine ⟨rfl, ?_⟩
    wtm_at "rd"
    refine ⟨_, p1, szlt (by simp; omega), ?_, Kp.mine p2 hD⟩
    rw [upd_same, take_map_succ hi]
  · obtain ⟨p1, p2⟩ := p
    rw [List.take_length] at p1
    wtm_at "rd"
    refine ite_d (fun h => ?_) (fun h => ?_)
    · wtm_at "rd"
      refine ⟨sz1000 (by simp), fun c nc => ?_⟩
      wtm_at "rd"
      refine ⟨sz1000 (by simp), fun p np => ?_⟩
      refine kk p c _ ⟨⟨[0], 0, 0, 0, upd_same, by wtm_at "hp", by simp, by simp⟩, by wtm_at "ne"⟩ ((p2.nw nc).nw np) ?_ ?_
      · exact Kp.back (p2.nw nc) np (by simp)
      · exact Kp.back p2 nc (by simp)
    · wtm_at "rd"
      refine ⟨sz1000 (by simp), fun p np => ?_⟩
      refine kk p D _ ⟨⟨ns, 0, 0, 0, upd_same, by wtm_at "hp", ?_, hl⟩, by wtm_at "ne"⟩ (p2.nw np) ?_ hD
      · intro e
        subst e
        exact h rfl
      · exact Kp.back p2 np (by simp)
theorem c_l_box (T : Cx K mg) (B : Tb P w K mg base) : CalX P w K mg base CX0 1 "_law_box" (sp_l_box K) [] := by
  obtain ⟨fd, F, ok⟩ := f_l_box (P := P) (w := w) (base := base) T B
  exact ⟨_, fd, p_l_box, [], ok, gl_l_box T, F.kp, FunD.bindsN F fun _ _ _ _ _ _ us hl => match us, hl with | [_], _ => rfl, .nil⟩
end
section
variable {P : Program} {w : World} {K : PySem.W.Frag} {mg : Str → Option Value} {base : Heap}
def sp_l_draw (K : PySem.W.Frag) : Sp := fun vs H Q E => ∃ (p c : Addr) (top : Int), vs = [.ref p, .int top] ∧ (Box H p c) ∧ (0 < top) ∧ (top < 1073741824) ∧ (∀ n H1, 0 ≤ n → n < top → Box H1 p c → Kp [p] H H1 → Q (.int n) H1)
theorem us_l_draw {K : PySem.W.Frag} {H : Hp} {Q : VK} {E : XK} {p c : Addr} {top : Int} (hB : Box H p c) (ht0 : 0 < top) (ht1 : top < 1073741824) (kk : ∀ n H1, 0 ≤ n → n < top → Box H1 p c → Kp [p] H H1 → Q (.int n) H1) : sp_l_draw K [.ref p, .int top] H Q E := ⟨_, _, _, rfl, hB, ht0, ht1, kk⟩
theorem f_l_draw (T : Cx K mg) (B : Tb P w K mg base) : ∃ fd, FunD K "_law_draw" "_law_draw" (defArgs s_l_draw) (defBody s_l_draw) (defScope s_l_draw) (d_l_draw.dvs K) (d_l_draw.kws K) (fAd K d_l_draw.at_) fd ∧ FnOk P w K mg base CX0 1 (fAd K d_l_draw.at_) fd p_l_draw (sp_l_draw K) := by
  obtain ⟨fd, F⟩ := T.says.def_ 1 (d := d_l_draw) rfl
  refine ⟨fd, F, fnD F sc_l_draw (fun vs H Q E h => by
    obtain ⟨_, _, _, rfl, _⟩ := h
    rfl) fun cdv A outer s H vs Q E hr h => ?_⟩
  have hu := hu_of hr
  obtain ⟨p, c, top, rfl, hB, ht0, ht1, kk⟩ := h
  refine ⟨_, (pss_cons (ps_asg (pe_op op_add (pe_callTy call_int1' (by rfl) (fr_int T) (by decide +kernel) (pa_cons (pe_ix ix_list (pv 0) pe_int (fun _ _ => rfl)) pa_nil)) pe_int) (pg_sub (pv 0) pe_int set_list)) (pss_cons (ps_if (pt_cmpR op_gt (pe_ix ix_list (pv 0) pe_int (fun _ _ => rfl)) pe_int (nomark _)) (pss_cons (ps_set (i := 2) sc_l_draw.nd rfl (by first | exact Or.inl rfl | exact Or.inr rfl) (pe_op op_mod (pe_callTy call_int1' (by rfl) (fr_int T) (by decide +kernel) (pa_cons (pe_ix ix_list (pv 0) pe_int (fun _ _ => rfl)) pa_nil)) (pv 1))) (pss_cons (ps_asg (pe_op op_fdiv (pe_callTy call_int1' (by rfl) (fr_int T) (by decide +kernel) (pa_cons (pe_ix ix_list (pv 0) pe_int (fun _ _ => rfl)) pa_nil)) (pv 1)) (pg_sub (pv 0) pe_int set_list)) (pss_one (ps_ret (pv 2))))) pss_nil) (pss_cons (ps_set (i := 3) sc_l_draw.nd rfl (by first | exact Or.inl rfl | exact Or.inr rfl) (pe_ix ix_list (pv 0) pe_int (fun _ _ => rfl))) (pss_cons (ps_set (i := 4) sc_l_draw.nd rfl (by first | exact Or.inl rfl | exact Or.inr rfl) (pe_callTy call_int1' (by rfl) (fr_int T) (by decide +kernel) (pa_cons (pe_ix ix_list (pv 0) pe_int (fun _ _ => rfl)) pa_nil))) (pss_cons (ps_asg (pe_op op_add (pv 4) pe_int) (pg_sub (pv 0) pe_int set_list)) (pss_cons (ps_set (i := 5) sc_l_draw.nd rfl (by first | exact Or.inl rfl | exact Or.inr rfl) (pe_callTy call_int1' (by rfl) (fr_int T) (by decide +kernel) (pa_cons (pe_ix ix_list (pv 3) (pe_op op_mod (pv 4) (pe_callB call_lenS (by rfl) (fr_len T) (by decide +kernel) (pa_cons (pv 3) pa_nil))) (fun _ _ => rfl)) pa_nil))) (pss_cons (ps_if (PW.pt (pw_and (pt_cmpR op_lt (pv 4) (pe_callB call_lenS (by rfl) (fr_len T) (by decide +kernel) (pa_cons (pv 3) pa_nil)) (nomark _)) (pw_and1 (pt_cmpR op_ge (pe_callB call_abs' (by rfl) (fr_abs T) (by decide +kernel) (pa_cons (pv 5) pa_nil)) (pe_op op_pow pe_int pe_int) (nomark _))))) (pss_cons (ps_asg (pe_op op_fdiv (pe_callB call_abs' (by rfl) (fr_abs T) (by decide +kernel) (pa_cons (pv 5) pa_nil)) (pv 1)) (pg_sub (pv 0) pe_int set_list)) (pss_one (ps_ret (pe_op op_mod (pe_callTy call_int1' (by rfl) (fr_int T) (by decide +kernel) (pa_cons (pe_callB call_abs' (by rfl) (fr_abs T) (by decide +kernel) (pa_cons (pv 5) pa_nil)) pa_nil)) (pv 1))))) pss_nil) (pss_cons (ps_set (i := 6) sc_l_draw.nd rfl (by first | exact Or.inl rfl | exact Or.inr rfl) (pe_op op_mod (pe_callTy call_int1' (by rfl) (fr_int T) (by decide +kernel) (pa_cons (pe_op op_add (pe_op op_add (pe_op op_mul (pv 5) pe_int) (pe_op op_mul (pe_ix ix_list (pv 0) pe_int (fun _ _ => rfl)) pe_int)) pe_int) pa_nil)) pe_int)) (pss_cons (ps_set (i := 6) sc_l_draw.nd rfl (by first | exact Or.inl rfl | exact Or.inr rfl) (pe_op op_mod (pe_callTy call_int1' (by rfl) (fr_int T) (by decide +kernel) (pa_cons (pe_op op_add (pe_op op_mul (pv 6) (pv 6)) (pe_op op_mul (pe_ix ix_list (pv 0) pe_int (fun _ _ => rfl)) pe_int)) pa_nil)) pe_int)) (pss_cons (ps_set (i := 6) sc_l_draw.nd rfl (by first | exact Or.inl rfl | exact Or.inr rfl) (pe_op op_mod (pe_callTy call_int1' (by rfl) (fr_int T) (by decide +kernel) (pa_cons (pe_op op_add (pe_op op_mul (pv 6) (pv 6)) (pe_op op_fdiv (pv 6) pe_int)) pa_nil)) pe_int)) (pss_one (ps_ret (pe_op op_mod (pe_callTy call_int1' (by rfl) (fr_int T) (by decide +kernel) (pa_cons (pe_op op_fdiv (pv 6) pe_int) pa_nil)) (pv 1)))))))))))))), ?_⟩
  rw [show L2.start n_l_draw [.ref p, .int top] = [some (.ref p), some (.int top), none, none, none, none, none] from rfl]
  try dsimp only [cxOf, Cx.nox, Cx.wish, List.map]

  obtain ⟨⟨ns, a, b, d, h1, h2, h3, h4⟩, ne⟩ := hB
  have hl : 0 < ns.length := List.length_pos_iff.mpr h3
  have m1 := Int.emod_nonneg a (show (ns.length : Int) ≠ 0 by omega)
  have m2 := Int.emod_lt_of_pos a (show (0 : Int) < ns.length by omega)
  wtm_at "rd"
  refine ite_d (fun h => ?_) (fun h => ?_)
  · wtm_at "rd"
    exact kk _ _ (Int.emod_nonneg _ (by omega)) (Int.emod_lt_of_pos _ ht0) ⟨⟨ns, a, _, _, upd_same, by wtm_at "hp", h3, h4⟩, ne⟩ ((Kp.refl.wr (by simp)).wr (by simp))
  · wtm_at "rd"
    refine ite_d (fun h5 => ?_) (fun h5 => ?_)
    · wtm_at "rd"
      refine ite_d (fun h6 => ?_) (fun h6 => ?_)
      · wtm_at "rd"
        exact kk _ _ (Int.emod_nonneg _ (by omega)) (Int.emod_lt_of_pos _ ht0) ⟨⟨ns, _, _, _, upd_same, by wtm_at "hp", h3, h4⟩, ne⟩ (((Kp.refl.wr (by simp)).wr (by simp)).wr (by simp))
      · wtm_at "rd"
        exact kk _ _ (Int.emod_nonneg _ (by omega)) (Int.emod_lt_of_pos _ ht0) ⟨⟨ns, _, _, _, upd_same, by wtm_at "hp", h3, h4⟩, ne⟩ ((Kp.refl.wr (by simp)).wr (by simp))
    · wtm_at "rd"
      exact kk _ _ (Int.emod_nonneg _ (by omega)) (Int.emod_lt_of_pos _ ht0) ⟨⟨ns, _, _, _, upd_same, by wtm_at "hp", h3, h4⟩, ne⟩ ((Kp.refl.wr (by simp)).wr (by simp))
theorem c_l_draw (T : Cx K mg) (B : Tb P w K mg base) : CalX P w K mg base CX0 1 "_law_draw" (sp_l_draw K) [] := by
  obtain ⟨fd, F, ok⟩ := f_l_draw (P := P) (w := w) (base := base) T B
  exact ⟨_, fd, p_l_draw, [], ok, gl_l_draw T, F.kp, FunD.bindsN F fun _ _ _ _ _ _ us hl => match us, hl with | [_, _], _ => rfl, .nil⟩
end
section
variable {P : Program} {w : World} {K : PySem.W.Frag} {mg : Str → Option Value} {base : Heap}
def sp_l_bits (K : PySem.W.Frag) : Sp := fun vs H Q E => ∃ (p c : Addr), vs = [.ref p] ∧ (Box H p c) ∧ (∀ n H1, 1 ≤ n → n ≤ 8 → Box H1 p c → Kp [p] H H1 → Q (.int n) H1)
theorem us_l_bits {K : PySem.W.Frag} {H : Hp} {Q : VK} {E : XK} {p c : Addr} (hB : Box H p c) (kk : ∀ n H1, 1 ≤ n → n ≤ 8 → Box H1 p c → Kp [p] H H1 → Q (.int n) H1) : sp_l_bits K [.ref p] H Q E := ⟨_, _, rfl, hB, kk⟩
theorem f_l_bits (T : Cx K mg) (B : Tb P w K mg base) : ∃ fd, FunD K "_law_bits" "_law_bits" (defArgs s_l_bits) (defBody s_l_bits) (defScope s_l_bits) (d_l_bits.dvs K) (d_l_bits.kws K) (fAd K d_l_bits.at_) fd ∧ FnOk P w K mg base CX0 2 (fAd K d_l_bits.at_) fd p_l_bits (sp_l_bits K) := by
  have c_l_draw := c_l_draw (P := P) (w := w) (base := base) T B
  obtain ⟨fd, F⟩ := T.says.def_ 2 (d := d_l_bits) rfl
  refine ⟨fd, F, fnD F sc_l_bits (fun vs H Q E h => by
    obtain ⟨_, _, rfl, _⟩ := h
    rfl) fun cdv A outer s H vs Q E hr h => ?_⟩
  have hu := hu_of hr
  obtain ⟨p, c, rfl, hB, kk⟩ := h
  refine ⟨_, (pss_cons (ps_set (i := 1) sc_l_bits.nd rfl (by first | exact Or.inl rfl | exact Or.inr rfl) (pe_cal c_l_draw hr (by decide) (by rfl) pass0 (pa_cons (pv 0) (pa_cons pe_int pa_nil)))) (pss_cons (ps_if (pt_cmpR op_lt (pv 1) pe_int (nomark _)) (pss_one (ps_ret pe_int)) pss_nil) (pss_cons (ps_if (pt_cmpR op_lt (pv 1) pe_int (nomark _)) (pss_one (ps_ret pe_int)) pss_nil) (pss_one (ps_ret (pe_op op_add pe_int (pe_cal c_l_draw hr (by decide) (by rfl) pass0 (pa_cons (pv 0) (pa_cons pe_int pa_nil))))))))), ?_⟩
  rw [show L2.start n_l_bits [.ref p] = [some (.ref p), none] from rfl]
  try dsimp only [cxOf, Cx.nox, Cx.wish, List.map]

  wtm_at "rd"
  refine us_l_draw hB (by decide) (by decide) fun n H1 n0 n1 B1 k1 => ?_
  wtm_at "rd"
  refine ite_d (fun h => ?_) (fun h => ?_)
  · wtm_at "rd"
    exact kk _ _ (by decide) (by decide) B1 k1
  · wtm_at "rd"
    refine ite_d (fun h => ?_) (fun h => ?_)
    · wtm_at "rd"
      exact kk _ _ (by decide) (by decide) B1 k1
    · wtm_at "rd"
      refine us_l_draw B1 (by decide) (by decide) fun n2 H2 n20 n21 B2 k2 => ?_
      wtm_at "rd"
      exact kk _ _ (by omega) (by omega) B2 (k1.trans k2)
theorem c_l_bits (T : Cx K mg) (B : Tb P w K mg base) : CalX P w K mg base CX0 2 "_law_bits" (sp_l_bits K) [] := by
  obtain ⟨fd, F, ok⟩ := f_l_bits (P := P) (w := w) (base := base) T B
  exact ⟨_, fd, p_l_bits, [], ok, gl_l_bits T, F.kp, FunD.bindsN F fun _ _ _ _ _ _ us hl => match us, hl with | [_], _ => rfl, .nil⟩
end
section
variable {P : Program} {w : World} {K : PySem.W.Frag} {mg : Str → Option Value} {base : Heap}
def sp_whole (K : PySem.W.Frag) : Sp := fun vs H Q E => ∃ (v lo hi : Int), vs = [.int v, .int lo, .int hi] ∧ (Q (.bl (decide (lo ≤ v) && decide (v ≤ hi))) H)
theorem us_whole {K : PySem.W.Frag} {H : Hp} {Q : VK} {E : XK} {v lo hi : Int}  (kk : Q (.bl (decide (lo ≤ v) && decide (v ≤ hi))) H) : sp_whole K [.int v, .int lo, .int hi] H Q E := ⟨_, _, _, rfl, kk⟩
theorem f_whole (T : Cx K mg) (B : Tb P w K mg base) : ∃ fd, FunD K "whole" "whole" (defArgs s_whole) (defBody s_whole) (defScope s_whole) (d_whole.dvs K) (d_whole.kws K) (fAd K d_whole.at_) fd ∧ FnOk P w K mg base CX0 1 (fAd K d_whole.at_) fd p_whole (sp_whole K) := by
  obtain ⟨fd, F⟩ := T.says.def_ 3 (d := d_whole) rfl
  refine ⟨fd, F, fnD F sc_whole (fun vs H Q E h => by
    obtain ⟨_, _, _, rfl, _⟩ := h
    rfl) fun cdv A outer s H vs Q E hr h => ?_⟩
  have hu := hu_of hr
  obtain ⟨v, lo, hi, rfl, kk⟩ := h
  refine ⟨_, (pss_cons (ps_if (PW.pt (pw_or (pt_not (pt_val (pe_callB call_isi (by rfl) (fr_isinstance T) (by decide +kernel) (pa_cons (pv 0) (pa_cons (pe_bltn (v := .ty "int") (by rfl) (fr_int T) (by decide +kernel) rfl) pa_nil))))) (pw_or1 (pt_val (pe_callB call_isi (by rfl) (fr_isinstance T) (by decide +kernel) (pa_cons (pv 0) (pa_cons (pe_bltn (v := .ty "bool") (by rfl) (fr_bool T) (by decide +kernel) rfl) pa_nil))))))) (pss_one (ps_ret pe_bl)) pss_nil) (pss_one (ps_ret (pe_and (pe_cmpR op_le (pv 1) (pv 0) (nomark _)) (pe_one (pe_or (pe_cmp (pc_isN (pv 2))) (pe_one (pe_cmpR op_le (pv 0) (pv 2) (nomark _))))))))), ?_⟩
  rw [show L2.start n_whole [.int v, .int lo, .int hi] = [some (.int v), some (.int lo), some (.int hi)] from rfl]
  try dsimp only [cxOf, Cx.nox, Cx.wish, List.map]

  wtm_at "rd"
  refine ite_d (fun h => ?_) (fun h => ?_)
  · wtm_at "rd"
    rw [decide_eq_true h, Bool.true_and] at kk
    exact kk
  · rw [decide_eq_false h, Bool.false_and] at kk
    exact kk
theorem c_whole (T : Cx K mg) (B : Tb P w K mg base) : CalX P w K mg base CX0 1 "whole" (sp_whole K) [] := by
  obtain ⟨fd, F, ok⟩ := f_whole (P := P) (w := w) (base := base) T B
  exact ⟨_, fd, p_whole, [], ok, gl_whole T, F.kp, FunD.bindsN F fun _ _ _ _ _ _ us hl => match us, hl with | [_, _, _], _ => rfl, .nil⟩
end
section
variable {P : Program} {w : World} {K : PySem.W.Frag} {mg : Str → Option Value} {base : Heap}
def sp_Setting_init (K : PySem.W.Frag) : Sp := fun vs H Q E => ∃ (p dx : Addr) (s : Stg), vs = [.ref p, .int s.bits, .int s.pat, .int s.room, .int s.grace, .int s.hel] ∧ (H p = some (.ins (ga K "Setting") dx [])) ∧ (s.Ok) ∧ (∀ H1, SetAt K H1 p s → Kp [p] H H1 → Q .non H1)
theorem us_Setting_init {K : PySem.W.Frag} {H : Hp} {Q : VK} {E : XK} {p dx : Addr} {s : Stg} (hp : H p = some (.ins (ga K "Setting") dx [])) (ok : s.Ok) (kk : ∀ H1, SetAt K H1 p s → Kp [p] H H1 → Q .non H1) : sp_Setting_init K [.ref p, .int s.bits, .int s.pat, .int s.room, .int s.grace, .int s.hel] H Q E := ⟨_, _, _, rfl, hp, ok, kk⟩
theorem f_Setting_init (T : Cx K mg) (B : Tb P w K mg base) : ∃ fd, FunD K "__init__" "Setting.__init__" (defArgs s_Setting_init) (defBody s_Setting_init) (defScope s_Setting_init) (d_Setting_init.dvs K) (d_Setting_init.kws K) (fAd K d_Setting_init.at_) fd ∧ FnOk P w K mg base CX0 2 (fAd K d_Setting_init.at_) fd p_Setting_init (sp_Setting_init K) := by
  have c_whole := c_whole (P := P) (w := w) (base := base) T B
  obtain ⟨fd, F⟩ := T.says.def_ 4 (d := d_Setting_init) rfl
  refine ⟨fd, F, fnD F sc_Setting_init (fun vs H Q E h => by
    obtain ⟨_, _, _, rfl, _⟩ := h
    rfl) fun cdv A outer s H vs Q E hr h => ?_⟩
  have hu := hu_of hr
  obtain ⟨p, dx, s, rfl, hp, ok, kk⟩ := h
  refine ⟨_, (pss_cons (ps_if (pt_not (pt_val (pe_cal c_whole hr (by decide) (by rfl) pass0 (pa_cons (pv 1) (pa_cons pe_int (pa_cons (pe_con (pv 0) rfl) pa_nil)))))) (pss_one ps_never) pss_nil) (pss_cons (ps_if (pt_not (pt_val (pe_cal c_whole hr (by decide) (by rfl) pass0 (pa_cons (pv 2) (pa_cons pe_int (pa_cons (pe_con (pv 0) rfl) pa_nil)))))) (pss_one ps_never) pss_nil) (pss_cons (ps_if (pt_not (pt_val (pe_cal c_whole hr (by decide) (by rfl) pass0 (pa_cons (pv 3) (pa_cons pe_int (pa_cons (pe_con (pv 0) rfl) pa_nil)))))) (pss_one ps_never) pss_nil) (pss_cons (ps_if (pt_not (pt_val (pe_cal c_whole hr (by decide) (by rfl) pass0 (pa_cons (pv 4) (pa_cons pe_int (pa_cons (pe_con (pv 0) rfl) pa_nil)))))) (pss_one ps_never) pss_nil) (pss_cons (ps_if (pt_not (pt_val (pe_cal c_whole hr (by decide) (by rfl) pass0 (pa_cons (pv 5) (pa_cons pe_int (pa_cons (pe_con (pv 0) rfl) pa_nil)))))) (pss_one ps_never) pss_nil) (pss_cons (ps_fld (pv 0) (pv 1) rfl) (pss_cons (ps_fld (pv 0) (pv 2) rfl) (pss_cons (ps_fld (pv 0) (pv 3) rfl) (pss_cons (ps_fld (pv 0) (pv 4) rfl) (pss_one (ps_fld (pv 0) (pv 5) rfl))))))))))), ?_⟩
  rw [show L2.start n_Setting_init [.ref p, .int s.bits, .int s.pat, .int s.room, .int s.grace, .int s.hel] = [some (.ref p), some (.int s.bits), some (.int s.pat), some (.int s.room), some (.int s.grace), some (.int s.hel)] from rfl]
  try dsimp only [cxOf, Cx.nox, Cx.wish, List.map]

  obtain ⟨b0, b1, p0, p1, r0, r1, g0, g1, h0, h1⟩ := id ok
  wtm_at "rd"
  refine us_whole ?_
  wtm_at "rd"
  refine ite_f (by simp; omega) ?_
  wtm_at "rd"
  refine us_whole ?_
  wtm_at "rd"
  refine ite_f (by simp; omega) ?_
  wtm_at "rd"
  refine us_whole ?_
  wtm_at "rd"
  refine ite_f (by simp; omega) ?_
  wtm_at "rd"
  refine us_whole ?_
  wtm_at "rd"
  refine ite_f (by simp; omega) ?_
  wtm_at "rd"
  refine us_whole ?_
  wtm_at "rd"
  refine ite_f (by simp; omega) ?_
  wtm_at "rd"
  exact kk _ ⟨⟨dx, upd_same⟩, ok⟩ (by wtm_at "kp")
theorem c_Setting_init (T : Cx K mg) (B : Tb P w K mg base) : MakX P w K mg base CX0 2 "Setting" (ga K "Setting") (sp_Setting_init K) [.int 6, .int 1] := by
  obtain ⟨fd, F, ok⟩ := f_Setting_init (P := P) (w := w) (base := base) T B
  obtain ⟨ds, hv, hb⟩ := FunD.binds0 (ps := p_Setting_init) F 4 (fun e => by cases e) rfl fun _ _ _ _ _ _ us ks hu hk => match us, ks, hu, hk with | [_, _, _, _], [_, _], _, _ => ⟨_, _, _, _, _, _, rfl, rfl, ⟨_, _, _, _, _, _, rfl, rfl, rfl⟩⟩
  exact ⟨_, fd, p_Setting_init, ds, mk_Setting T, ok, gl_Setting T, hb, hv⟩
def kg_Setting_init_grace {α : Type} : List α → List α → List α → List α := fun us mz zs => us ++ (zs[0]?).toList ++ (mz[0]?).toList
theorem kr_Setting_init_grace {vs mz zs : List V} {us mv ws : List Value} (r1 : Vals vs us) (r2 : Vals mz mv) (r3 : Vals zs ws) : Vals (kg_Setting_init_grace vs mz zs) (kg_Setting_init_grace us mv ws) := (Vals.append (Vals.append r1 (vals_at 0 r3)) (vals_at 0 r2))
theorem c_Setting_init_grace (T : Cx K mg) (B : Tb P w K mg base) : MakKX P w K mg base CX0 2 "Setting" (ga K "Setting") (sp_Setting_init K) 3 ["grace"] (fun vs zs => kg_Setting_init_grace vs [V.int 1] zs) := by
  obtain ⟨fd, F, ok⟩ := f_Setting_init (P := P) (w := w) (base := base) T B
  obtain ⟨mv, hb⟩ := FunD.kbinds0 (ps := p_Setting_init) F 4 ["grace"] [("helpers", V.int 1)] kg_Setting_init_grace (fun e => by cases e) (fun q hq => show q ∈ ([("grace", V.int 6), ("helpers", V.int 1)] : List (Str × V)) by simp only [List.mem_cons, List.not_mem_nil, or_false] at hq; rcases hq with rfl <;> simp) kr_Setting_init_grace fun _ _ _ _ _ _ us mv ws hu hm hw => match us, mv, ws, hu, hm, hw with | [_, _, _, _], [_], [_], _, _, _ => ⟨_, _, _, _, _, _, rfl, rfl, rfl⟩
  exact ⟨_, fd, p_Setting_init, _, mk_Setting T, ok, gl_Setting T, hb⟩
end
section
variable {P : Program} {w : World} {K : PySem.W.Frag} {mg : Str → Option Value} {base : Heap}
def sp_Setting_seats (K : PySem.W.Frag) : Sp := fun vs H Q E => ∃ (p : Addr) (s : Stg), vs = [.ref p] ∧ (SetAt K H p s) ∧ (Q (.int s.ring) H)
theorem us_Setting_seats {K : PySem.W.Frag} {H : Hp} {Q : VK} {E : XK} {p : Addr} {s : Stg} (hS : SetAt K H p s) (kk : Q (.int s.ring) H) : sp_Setting_seats K [.ref p] H Q E := ⟨_, _, rfl, hS, kk⟩
theorem f_Setting_seats (T : Cx K mg) (B : Tb P w K mg base) : ∃ fd, FunD K "seats" "Setting.seats" (defArgs s_Setting_seats) (defBody s_Setting_seats) (defScope s_Setting_seats) [] [] (prG K "Setting" "seats") fd ∧ FnOk P w K mg base CX0 1 (prG K "Setting" "seats") fd p_Setting_seats (sp_Setting_seats K) := by
  obtain ⟨hP, fd, F⟩ := B.g g_Setting_seats (.head _)
  refine ⟨fd, F, fnD F sc_Setting_seats (fun vs H Q E h => by
    obtain ⟨_, _, rfl, _⟩ := h
    rfl) fun cdv A outer s H vs Q E hr h => ?_⟩
  have hu := hu_of hr
  obtain ⟨p, s, rfl, hS, kk⟩ := h
  refine ⟨_, (pss_one (ps_ret (pe_op op_shl pe_int (pe_fld (pv 0) rfl)))), ?_⟩
  rw [show L2.start n_Setting_seats [.ref p] = [some (.ref p)] from rfl]
  try dsimp only [cxOf, Cx.nox, Cx.wish, List.map]

  obtain ⟨⟨dx, hp⟩, ok⟩ := hS
  have b0 := ok.b0
  have b1 := ok.b1
  wtm_at "rd"
  show Q (.int (1 * 2 ^ s.bits.toNat)) H
  rw [Int.one_mul, ← Stg.ring_eq]
  exact kk
theorem c_Setting_seats (T : Cx K mg) (B : Tb P w K mg base) : PrpX P w K mg base CX0 1 (ga K "Setting") "seats" (sp_Setting_seats K) := by
  obtain ⟨fd, F, ok⟩ := f_Setting_seats (P := P) (w := w) (base := base) T B
  obtain ⟨hP, -⟩ := B.g g_Setting_seats (.head _)
  exact ⟨_, _, fd, p_Setting_seats, cl_Setting T, hP, ok, FunD.bindsN F fun _ _ _ _ _ _ us hl => match us, hl with | [_], _ => rfl⟩
end
section
variable {P : Program} {w : World} {K : PySem.W.Frag} {mg : Str → Option Value} {base : Heap}
def sp_is_worth (K : PySem.W.Frag) : Sp := fun vs H Q E => ∃ (wt : Str), vs = [.str wt] ∧ (wt.length ≤ 1000000) ∧ (∀ H1, Kp [] H H1 → Q (.bl (wOk wt)) H1)
theorem us_is_worth {K : PySem.W.Frag} {H : Hp} {Q : VK} {E : XK} {wt : Str} (hl : wt.length ≤ 1000000) (kk : ∀ H1, Kp [] H H1 → Q (.bl (wOk wt)) H1) : sp_is_worth K [.str wt] H Q E := ⟨_, rfl, hl, kk⟩
theorem f_is_worth (T : Cx K mg) (B : Tb P w K mg base) : ∃ fd, FunD K "is_worth" "is_worth" (defArgs s_is_worth) (defBody s_is_worth) (defScope s_is_worth) (d_is_worth.dvs K) (d_is_worth.kws K) (fAd K d_is_worth.at_) fd ∧ FnOk P w K mg base CX0 1 (fAd K d_is_worth.at_) fd p_is_worth (sp_is_worth K) := by
  obtain ⟨fd, F⟩ := T.says.def_ 5 (d := d_is_worth) rfl
  refine ⟨fd, F, fnD F sc_is_worth (fun vs H Q E h => by
    obtain ⟨_, rfl, _⟩ := h
    rfl) fun cdv A outer s H vs Q E hr h => ?_⟩
  have hu := hu_of hr
  obtain ⟨wt, rfl, hl, kk⟩ := h
  refine ⟨_, (pss_cons (ps_if (PW.pt (pw_or (pt_not (pt_val (pe_callB call_isi (by rfl) (fr_isinstance T) (by decide +kernel) (pa_cons (pv 0) (pa_cons (pe_bltn (v := .ty "str") (by rfl) (fr_str T) (by decide +kernel) rfl) pa_nil))))) (pw_or1 (pt_cmpR op_gt (pe_callB call_lenStr (by rfl) (fr_len T) (by decide +kernel) (pa_cons (pv 0) pa_nil)) (pe_globC (by rfl) (gl_WORTH_LENGTH T)) (nomark _))))) (pss_one (ps_ret pe_bl)) pss_nil) (pss_one (ps_ret (pe_callB (cr_all rfl) (by rfl) (fr_all T) (by decide +kernel) (pa_cons (pe_lc (own := [("sign", 1)]) (g := (gName 1)) (tt := tYes) rfl sc_is_worth.nd (pi_str (pv 0)) (blkOk_by (own := [("sign", 1)]) (N := n_is_worth) (sc := defScope s_is_worth) (by decide +kernel)) (fun _ _ _ _ _ => (pg_name (i := 1) sc_is_worth.nd rfl (by first | exact Or.inl rfl | exact Or.inr rfl))) (fun _ _ _ _ _ => pts_nil) (fun _ _ _ _ _ => (pe_cmpR op_inSign (pv 1) (pe_globC (by rfl) (gl_WORTH_SIGNS T)) rfl))) pa_nil))))), ?_⟩
  rw [show L2.start n_is_worth [.str wt] = [some (.str wt), none] from rfl]
  try dsimp only [cxOf, Cx.nox, Cx.wish, List.map]

  wtm_at "rd"
  refine ite_d (fun h => ?_) (fun h => ?_)
  · wtm_at "rd"
    have e : wOk wt = false := by
      unfold wOk
      rw [decide_eq_false (by omega), Bool.false_and]
    rw [e] at kk
    exact kk _ Kp.refl
  · wtm_at "rd"
    intro D nD
    have hz : wt.cps.size < 1000000 := by
      have : wt.cps.size = wt.length := rfl
      omega
    refine lcF_str (fun c => V.bl (decide (c ∈ SIGNS.cps.toList))) nD hz (fun i c hc H1 E N k1 hE => ?_) (fun H1 k1 hD1 => ?_)
    · wtm_at "rd"
      refine ⟨rfl, ?_⟩
      wtm_at "rd"
      exact hE _ Kp.refl
    · wtm_at "rd"
      refine rd_all (bs := wt.cps.toList.map fun c => decide (c ∈ SIGNS.cps.toList)) (by rw [List.map_map]; exact hD1) ?_
      have e : wOk wt = (wt.cps.toList.map fun c => decide (c ∈ SIGNS.cps.toList)).all id := by
        unfold wOk
        rw [decide_eq_true (by omega), Bool.true_and, List.all_map]
        rfl
      rw [← e]
      exact kk _ k1
theorem c_is_worth (T : Cx K mg) (B : Tb P w K mg base) : CalX P w K mg base CX0 1 "is_worth" (sp_is_worth K) [] := by
  obtain ⟨fd, F, ok⟩ := f_is_worth (P := P) (w := w) (base := base) T B
  exact ⟨_, fd, p_is_worth, [], ok, gl_is_worth T, F.kp, FunD.bindsN F fun _ _ _ _ _ _ us hl => match us, hl with | [_], _ => rfl, .nil⟩
end
section
variable {P : Program} {w : World} {K : PySem.W.Frag} {mg : Str → Option Value} {base : Heap}
def sp_life_ok (K : PySem.W.Frag) : Sp := fun vs H Q E => ∃ (v : Int), vs = [.int v] ∧ (Q (.bl (decide (0 ≤ v) && decide (v ≤ MOST))) H)
theorem us_life_ok {K : PySem.W.Frag} {H : Hp} {Q : VK} {E : XK} {v : Int}  (kk : Q (.bl (decide (0 ≤ v) && decide (v ≤ MOST))) H) : sp_life_ok K [.int v] H Q E := ⟨_, rfl, kk⟩
theorem f_life_ok (T : Cx K mg) (B : Tb P w K mg base) : ∃ fd, FunD K "life_ok" "life_ok" (defArgs s_life_ok) (defBody s_life_ok) (defScope s_life_ok) (d_life_ok.dvs K) (d_life_ok.kws K) (fAd K d_life_ok.at_) fd ∧ FnOk P w K mg base CX0 2 (fAd K d_life_ok.at_) fd p_life_ok (sp_life_ok K) := by
  have c_whole := c_whole (P := P) (w := w) (base := base) T B
  obtain ⟨fd, F⟩ := T.says.def_ 6 (d := d_life_ok) rfl
  refine ⟨fd, F, fnD F sc_life_ok (fun vs H Q E h => by
    obtain ⟨_, rfl, _⟩ := h
    rfl) fun cdv A outer s H vs Q E hr h => ?_⟩
  have hu := hu_of hr
  obtain ⟨v, rfl, kk⟩ := h
  refine ⟨_, (pss_one (ps_ret (pe_cal c_whole hr (by decide) (by rfl) pass0 (pa_cons (pv 0) (pa_cons pe_int (pa_cons (pe_globC (by rfl) (gl_MOST_LIFE T)) pa_nil)))))), ?_⟩
  rw [show L2.start n_life_ok [.int v] = [some (.int v)] from rfl]
  try dsimp only [cxOf, Cx.nox, Cx.wish, List.map]

  wtm_at "rd"
  refine us_whole ?_
  exact kk
theorem c_life_ok (T : Cx K mg) (B : Tb P w K mg base) : CalX P w K mg base CX0 2 "life_ok" (sp_life_ok K) [] := by
  obtain ⟨fd, F, ok⟩ := f_life_ok (P := P) (w := w) (base := base) T B
  exact ⟨_, fd, p_life_ok, [], ok, gl_life_ok T, F.kp, FunD.bindsN F fun _ _ _ _ _ _ us hl => match us, hl with | [_], _ => rfl, .nil⟩
end
section
variable {P : Program} {w : World} {K : PySem.W.Frag} {mg : Str → Option Value} {base : Heap}
def sp_is_saying (K : PySem.W.Frag) : Sp := fun vs H Q E => ∃ (s t : Addr) (st : Stg) (y : Sy), vs = [.ref s, .ref t] ∧ (SetAt K H s st) ∧ (SyAt H t y) ∧ (y.w.length ≤ 1000000) ∧ (∀ H1, Kp [] H H1 → Q (.bl (syOk st.ring y)) H1)
theorem us_is_saying {K : PySem.W.Frag} {H : Hp} {Q : VK} {E : XK} {s t : Addr} {st : Stg} {y : Sy} (hS : SetAt K H s st) (ht : SyAt H t y) (hl : y.w.length ≤ 1000000) (kk : ∀ H1, Kp [] H H1 → Q (.bl (syOk st.ring y)) H1) : sp_is_saying K [.ref s, .ref t] H Q E := ⟨_, _, _, _, rfl, hS, ht, hl, kk⟩
theorem f_is_saying (T : Cx K mg) (B : Tb P w K mg base) : ∃ fd, FunD K "is_saying" "is_saying" (defArgs s_is_saying) (defBody s_is_saying) (defScope s_is_saying) (d_is_saying.dvs K) (d_is_saying.kws K) (fAd K d_is_saying.at_) fd ∧ FnOk P w K mg base CX0 4 (fAd K d_is_saying.at_) fd p_is_saying (sp_is_saying K) := by
  have c_Setting_seats := c_Setting_seats (P := P) (w := w) (base := base) T B
  have c_whole := c_whole (P := P) (w := w) (base := base) T B
  have c_life_ok := c_life_ok (P := P) (w := w) (base := base) T B
  have c_is_worth := c_is_worth (P := P) (w := w) (base := base) T B
  obtain ⟨fd, F⟩ := T.says.def_ 7 (d := d_is_saying) rfl
  refine ⟨fd, F, fnD F sc_is_saying (fun vs H Q E h => by
    obtain ⟨_, _, _, _, rfl, _⟩ := h
    rfl) fun cdv A outer s H vs Q E hr h => ?_⟩
  have hu := hu_of hr
  obtain ⟨s, t, st, y, rfl, hS, ht, hl, kk⟩ := h
  refine ⟨_, (pss_cons (ps_if (PW.pt (pw_or (pt_not (pt_val (pe_callB call_isi (by rfl) (fr_isinstance T) (by decide +kernel) (pa_cons (pv 1) (pa_cons (pe_bltn (v := .ty "tuple") (by rfl) (fr_tuple T) (by decide +kernel) rfl) pa_nil))))) (pw_or1 (pt_cmpR op_ne (pe_callB call_lenS (by rfl) (fr_len T) (by decide +kernel) (pa_cons (pv 1) pa_nil)) pe_int (nomark _))))) (pss_one (ps_ret pe_bl)) pss_nil) (pss_cons (ps_asg (pv 1) (pg_tup rfl (pgs_cons (pg_name (i := 2) sc_is_saying.nd rfl (by first | exact Or.inl rfl | exact Or.inr rfl)) (pgs_cons (pg_name (i := 3) sc_is_saying.nd rfl (by first | exact Or.inl rfl | exact Or.inr rfl)) (pgs_cons (pg_name (i := 4) sc_is_saying.nd rfl (by first | exact Or.inl rfl | exact Or.inr rfl)) (pgs_cons (pg_name (i := 5) sc_is_saying.nd rfl (by first | exact Or.inl rfl | exact Or.inr rfl)) pgs_nil)))))) (pss_cons (ps_if (PW.pt (pw_or (pt_not (pt_val (pe_cal c_whole hr (by decide) (by rfl) pass0 (pa_cons (pv 2) (pa_cons pe_int (pa_cons (pe_op op_sub (pe_prpX c_Setting_seats hr (by decide) pass0 (pv 0)) pe_int) pa_nil)))))) (pw_or1 (pt_not (pt_val (pe_cal c_life_ok hr (by decide) (by rfl) pass0 (pa_cons (pv 3) pa_nil))))))) (pss_one (ps_ret pe_bl)) pss_nil) (pss_one (ps_ret (pe_and (pe_callB call_isi (by rfl) (fr_isinstance T) (by decide +kernel) (pa_cons (pv 4) (pa_cons (pe_bltn (v := .ty "str") (by rfl) (fr_str T) (by decide +kernel) rfl) pa_nil))) (pe_and (pe_cmpR op_in_seq (pv 4) (pe_glob (v := .ref (ga K "MARKS")) (by rfl) (gl_MARKS T) rfl) rfl) (pe_one (pe_cal c_is_worth hr (by decide) (by rfl) pass0 (pa_cons (pv 5) pa_nil)))))))))), ?_⟩
  rw [show L2.start n_is_saying [.ref s, .ref t] = [some (.ref s), some (.ref t), none, none, none, none] from rfl]
  try dsimp only [cxOf, Cx.nox, Cx.wish, List.map]

  unfold SyAt Sy.tup at ht
  obtain ⟨⟨dx, hs⟩, ok⟩ := id hS
  wtm_at "rd"
  refine ite_n (fun h => absurd rfl h) (fun _ => ?_)
  wtm_at "rd"
  refine us_Setting_seats hS ?_
  wtm_at "rd"
  refine us_whole ?_
  unfold syOk at kk
  cases e1 : (decide (0 ≤ y.s) && decide (y.s ≤ st.ring - 1)) with
  | false =>
    rw [e1, Bool.false_and, Bool.false_and] at kk
    wtm_at "rd"
    exact kk _ Kp.refl
  | true =>
    rw [e1, Bool.true_and] at kk
    wtm_at "rd"
    refine us_life_ok ?_
    cases e2 : (decide (0 ≤ y.l) && decide (y.l ≤ MOST)) with
    | false =>
      rw [e2, Bool.false_and] at kk
      wtm_at "rd"
      exact kk _ Kp.refl
    | true =>
      rw [e2, Bool.true_and] at kk
      wtm_at "rd"
      refine ite_d (fun h => ?_) (fun h => ?_)
      · rw [decide_eq_true h, Bool.true_and] at kk
        wtm_at "rd"
        exact us_is_worth hl kk
      · rw [decide_eq_false h, Bool.false_and] at kk
        exact kk _ Kp.refl
theorem c_is_saying (T : Cx K mg) (B : Tb P w K mg base) : CalX P w K mg base CX0 4 "is_saying" (sp_is_saying K) [] := by
  obtain ⟨fd, F, ok⟩ := f_is_saying (P := P) (w := w) (base := base) T B
  exact ⟨_, fd, p_is_saying, [], ok, gl_is_saying T, F.kp, FunD.bindsN F fun _ _ _ _ _ _ us hl => match us, hl with | [_, _], _ => rfl, .nil⟩
end
section
variable {P : Program} {w : World} {K : PySem.W.Frag} {mg : Str → Option Value} {base : Heap}
def sp_check_saying (K : PySem.W.Frag) : Sp := fun vs H Q E => ∃ (s t : Addr) (st : Stg) (y : Sy), vs = [.ref s, .ref t] ∧ (SetAt K H s st) ∧ (SyAt H t y) ∧ (syOk st.ring y = true) ∧ (∀ H1, Kp [] H H1 → Q (.ref t) H1)
theorem us_check_saying {K : PySem.W.Frag} {H : Hp} {Q : VK} {E : XK} {s t : Addr} {st : Stg} {y : Sy} (hS : SetAt K H s st) (ht : SyAt H t y) (hy : syOk st.ring y = true) (kk : ∀ H1, Kp [] H H1 → Q (.ref t) H1) : sp_check_saying K [.ref s, .ref t] H Q E := ⟨_, _, _, _, rfl, hS, ht, hy, kk⟩
theorem f_check_saying (T : Cx K mg) (B : Tb P w K mg base) : ∃ fd, FunD K "check_saying" "check_saying" (defArgs s_check_saying) (defBody s_check_saying) (defScope s_check_saying) (d_check_saying.dvs K) (d_check_saying.kws K) (fAd K d_check_saying.at_) fd ∧ FnOk P w K mg base CX0 5 (fAd K d_check_saying.at_) fd p_check_saying (sp_check_saying K) := by
  have c_is_saying := c_is_saying (P := P) (w := w) (base := base) T B
  obtain ⟨fd, F⟩ := T.says.def_ 8 (d := d_check_saying) rfl
  refine ⟨fd, F, fnD F sc_check_saying (fun vs H Q E h => by
    obtain ⟨_, _, _, _, rfl, _⟩ := h
    rfl) fun cdv A outer s H vs Q E hr h => ?_⟩
  have hu := hu_of hr
  obtain ⟨s, t, st, y, rfl, hS, ht, hy, kk⟩ := h
  refine ⟨_, (pss_cons (ps_if (pt_not (pt_val (pe_cal c_is_saying hr (by decide) (by rfl) pass0 (pa_cons (pv 0) (pa_cons (pv 1) pa_nil))))) (pss_one ps_never) pss_nil) (pss_one (ps_ret (pv 1)))), ?_⟩
  rw [show L2.start n_check_saying [.ref s, .ref t] = [some (.ref s), some (.ref t)] from rfl]
  try dsimp only [cxOf, Cx.nox, Cx.wish, List.map]

  wtm_at "rd"
  refine us_is_saying hS ht (by
    have := wOk_len (syOk_iff.mp hy).2.2.2
    omega) fun H1 k1 => ?_
  rw [hy]
  wtm_at "rd"
  exact kk _ k1
theorem c_check_saying (T : Cx K mg) (B : Tb P w K mg base) : CalX P w K mg base CX0 5 "check_saying" (sp_check_saying K) [] := by
  obtain ⟨fd, F, ok⟩ := f_check_saying (P := P) (w := w) (base := base) T B
  exact ⟨_, fd, p_check_saying, [], ok, gl_check_saying T, F.kp, FunD.bindsN F fun _ _ _ _ _ _ us hl => match us, hl with | [_, _], _ => rfl, .nil⟩
end
section
variable {P : Program} {w : World} {K : PySem.W.Frag} {mg : Str → Option Value} {base : Heap}
def sp_rank (K : PySem.W.Frag) : Sp := fun vs H Q E => ∃ (v : V) (o : Option Sy), vs = [v] ∧ (IsY H v o) ∧ (∀ y, o = some y → y.m ∈ MK) ∧ (Q (.int (rkO o)) H)
theorem us_rank {K : PySem.W.Frag} {H : Hp} {Q : VK} {E : XK} {v : V} {o : Option Sy} (hv : IsY H v o) (hm : ∀ y, o = some y → y.m ∈ MK) (kk : Q (.int (rkO o)) H) : sp_rank K [v] H Q E := ⟨_, _, rfl, hv, hm, kk⟩
theorem f_rank (T : Cx K mg) (B : Tb P w K mg base) : ∃ fd, FunD K "rank" "rank" (defArgs s_rank) (defBody s_rank) (defScope s_rank) (d_rank.dvs K) (d_rank.kws K) (fAd K d_rank.at_) fd ∧ FnOk P w K mg base CX0 1 (fAd K d_rank.at_) fd p_rank (sp_rank K) := by
  obtain ⟨fd, F⟩ := T.says.def_ 9 (d := d_rank) rfl
  refine ⟨fd, F, fnD F sc_rank (fun vs H Q E h => by
    obtain ⟨_, _, rfl, _⟩ := h
    rfl) fun cdv A outer s H vs Q E hr h => ?_⟩
  have hu := hu_of hr
  obtain ⟨v, o, rfl, hv, hm, kk⟩ := h
  refine ⟨_, (pss_cons (ps_if (pt_cmp (pc_isN (pv 0))) (pss_one (ps_ret pe_int)) pss_nil) (pss_one (ps_ret (pe_op op_add (pe_op op_mul pe_int (pe_ix ix_tup (pv 0) pe_int (fun _ _ => rfl))) (pe_ix ix_kdict (pe_glob (v := .ref (ga K "MARK_STEPS")) (by rfl) (gl_MARK_STEPS T) rfl) (pe_ix ix_tup (pv 0) pe_int (fun _ _ => rfl)) (fun _ _ => rfl)))))), ?_⟩
  rw [show L2.start n_rank [v] = [some (v)] from rfl]
  try dsimp only [cxOf, Cx.nox, Cx.wish, List.map]

  cases o with
  | none =>
    obtain rfl : v = .non := hv
    wtm_at "rd"
    exact kk
  | some y =>
    obtain ⟨t, rfl, ht⟩ := hv
    unfold SyAt Sy.tup at ht
    have hm1 := hm y rfl
    wtm_at "rd"
    exact kk
theorem c_rank (T : Cx K mg) (B : Tb P w K mg base) : CalX P w K mg base CX0 1 "rank" (sp_rank K) [] := by
  obtain ⟨fd, F, ok⟩ := f_rank (P := P) (w := w) (base := base) T B
  exact ⟨_, fd, p_rank, [], ok, gl_rank T, F.kp, FunD.bindsN F fun _ _ _ _ _ _ us hl => match us, hl with | [_], _ => rfl, .nil⟩
end
section
variable {P : Program} {w : World} {K : PySem.W.Frag} {mg : Str → Option Value} {base : Heap}
def sp__is_later (K : PySem.W.Frag) : Sp := fun vs H Q E => ∃ (d t : Addr) (xs : List (Addr × Sy)) (y : Sy), vs = [.ref d, .ref t] ∧ (RowT H d xs) ∧ (∀ p, p ∈ xs → p.2.m ∈ MK) ∧ (SyAt H t y) ∧ (y.m ∈ MK) ∧ (Q (.bl (decide (rkO ((fdT Sy.s xs y.s).map (·.2)) < rk y))) H)
theorem us__is_later {K : PySem.W.Frag} {H : Hp} {Q : VK} {E : XK} {d t : Addr} {xs : List (Addr × Sy)} {y : Sy} (hd : RowT H d xs) (hx : ∀ p, p ∈ xs → p.2.m ∈ MK) (ht : SyAt H t y) (hm : y.m ∈ MK) (kk : Q (.bl (decide (rkO ((fdT Sy.s xs y.s).map (·.2)) < rk y))) H) : sp__is_later K [.ref d, .ref t] H Q E := ⟨_, _, _, _, rfl, hd, hx, ht, hm, kk⟩
theorem f__is_later (T : Cx K mg) (B : Tb P w K mg base) : ∃ fd, FunD K "_is_later" "_is_later" (defArgs s__is_later) (defBody s__is_later) (defScope s__is_later) (d__is_later.dvs K) (d__is_later.kws K) (fAd K d__is_later.at_) fd ∧ FnOk P w K mg base CX0 2 (fAd K d__is_later.at_) fd p__is_later (sp__is_later K) := by
  have c_rank := c_rank (P := P) (w := w) (base := base) T B
  obtain ⟨fd, F⟩ := T.says.def_ 10 (d := d__is_later) rfl
  refine ⟨fd, F, fnD F sc__is_later (fun vs H Q E h => by
    obtain ⟨_, _, _, _, rfl, _⟩ := h
    rfl) fun cdv A outer s H vs Q E hr h => ?_⟩
  have hu := hu_of hr
  obtain ⟨d, t, xs, y, rfl, hd, hx, ht, hm, kk⟩ := h
  refine ⟨_, (pss_one (ps_ret (pe_cmpR op_gt (pe_cal c_rank hr (by decide) (by rfl) pass0 (pa_cons (pv 1) pa_nil)) (pe_cal c_rank hr (by decide) (by rfl) pass0 (pa_cons (pe_dget1 hu (pv 0) (pe_ix ix_tup (pv 1) pe_int (fun _ _ => rfl)) ⟨rfl, rfl, rfl, rfl⟩) pa_nil)) (nomark _)))), ?_⟩
  rw [show L2.start n__is_later [.ref d, .ref t] = [some (.ref d), some (.ref t)] from rfl]
  try dsimp only [cxOf, Cx.nox, Cx.wish, List.map]

  have hd1 := hd.at_
  have ht1 := ht
  unfold SyAt Sy.tup at ht1
  wtm_at "rd"
  refine us_rank (o := some y) ⟨t, rfl, ht⟩ (fun z e => by
    cases e
    exact hm) ?_
  wtm_at "rd"
  refine us_rank (hd.findY y.s) (fun z e => ?_) ?_
  · obtain ⟨p, hp, rfl⟩ := Option.map_eq_some_iff.mp e
    exact hx p (fdT_some hp).1
  wtm_at "rd"
  exact kk
theorem c__is_later (T : Cx K mg) (B : Tb P w K mg base) : CalX P w K mg base CX0 2 "_is_later" (sp__is_later K) [] := by
  obtain ⟨fd, F, ok⟩ := f__is_later (P := P) (w := w) (base := base) T B
  exact ⟨_, fd, p__is_later, [], ok, gl__is_later T, F.kp, FunD.bindsN F fun _ _ _ _ _ _ us hl => match us, hl with | [_, _], _ => rfl, .nil⟩
end
section
variable {P : Program} {w : World} {K : PySem.W.Frag} {mg : Str → Option Value} {base : Heap}
def sp__latest_rows (K : PySem.W.Frag) : Sp := fun vs H Q E => ∃ (s l : Addr) (st : Stg) (ps : List (Addr × Sy)), vs = [.ref s, .ref l] ∧ (SetAt K H s st) ∧ (LsT K H l ps) ∧ (∀ p, p ∈ ps → syOk st.ring p.2 = true) ∧ (ps.length < 100000) ∧ (∀ d H1, RowT H1 d (ps.foldl takeT []) → Kp [] H H1 → H d = none → Q (.ref d) H1)
theorem us__latest_rows {K : PySem.W.Frag} {H : Hp} {Q : VK} {E : XK} {s l : Addr} {st : Stg} {ps : List (Addr × Sy)} (hS : SetAt K H s st) (hl : LsT K H l ps) (hy : ∀ p, p ∈ ps → syOk st.ring p.2 = true) (hn : ps.length < 100000) (kk : ∀ d H1, RowT H1 d (ps.foldl takeT []) → Kp [] H H1 → H d = none → Q (.ref d) H1) : sp__latest_rows K [.ref s, .ref l] H Q E := ⟨_, _, _, _, rfl, hS, hl, hy, hn, kk⟩
theorem f__latest_rows (T : Cx K mg) (B : Tb P w K mg base) : ∃ fd, FunD K "_latest_rows" "_latest_rows" (defArgs s__latest_rows) (defBody s__latest_rows) (defScope s__latest_rows) (d__latest_rows.dvs K) (d__latest_rows.kws K) (fAd K d__latest_rows.at_) fd ∧ FnOk P w K mg base CX0 6 (fAd K d__latest_rows.at_) fd p__latest_rows (sp__latest_rows K) := by
  have c_check_saying := c_check_saying (P := P) (w := w) (base := base) T B
  have c__is_later := c__is_later (P := P) (w := w) (base := base) T B
  obtain ⟨fd, F⟩ := T.says.def_ 11 (d := d__latest_rows) rfl
  refine ⟨fd, F, fnD F sc__latest_rows (fun vs H Q E h => by
    obtain ⟨_, _, _, _, rfl, _⟩ := h
    rfl) fun cdv A outer s H vs Q E hr h => ?_⟩
  have hu := hu_of hr
  obtain ⟨s, l, st, ps, rfl, hS, hl, hy, hn, kk⟩ := h
  refine ⟨_, (pss_cons (ps_set (i := 2) sc__latest_rows.nd rfl (by first | exact Or.inl rfl | exact Or.inr rfl) pe_dnewK) (pss_cons (ps_for PassesOwn.never rfl (pi_seq (pv 1)) (pg_name (i := 3) sc__latest_rows.nd rfl (by first | exact Or.inl rfl | exact Or.inr rfl)) (pss_cons (ps_expr (pe_cal c_check_saying hr (by decide) (by rfl) pass0 (pa_cons (pv 0) (pa_cons (pv 3) pa_nil)))) (pss_one (ps_if (pt_val (pe_cal c__is_later hr (by decide) (by rfl) pass0 (pa_cons (pv 2) (pa_cons (pv 3) pa_nil)))) (pss_one (ps_dput hu (pv 2) (pe_ix ix_tup (pv 3) pe_int (fun _ _ => rfl)) (pv 3) rfl)) pss_nil)))) (pss_one (ps_ret (pv 2))))), ?_⟩
  rw [show L2.start n__latest_rows [.ref s, .ref l] = [some (.ref s), some (.ref l), none, none] from rfl]
  try dsimp only [cxOf, Cx.nox, Cx.wish, List.map]

  wtm_at "rd"
  intro d nd
  rcases hl with hl | ⟨rfl, hl⟩
  rotate_left
  · wtm_at "rd"
    refine rd_iSeqT (st_new nd hl) ?_
    refine forT_by (K := K) [] (fun i σ H1 => (∃ v, σ = [some (.ref s), some (.ref l), some (.ref d), v]) ∧ H1 = upd H d (.dK [])) ⟨⟨_, rfl⟩, rfl⟩ (fun i σ H1 _ q => by rw [q.2]; exact st_new nd hl) (fun i x σ H1 hx => by simp at hx) ?_
    rintro σ H1 ⟨⟨v, rfl⟩, rfl⟩
    wtm_at "rd"
    exact kk d _ ⟨upd_same, fun p hp => by cases hp⟩ (Kp.new nd) nd
  have hl1 := hl.at_
  wtm_at "rd"
  refine forL_by (K := K) (ps.map fun p => V.ref p.1) (fun i σ H1 => (∃ v, σ = [some (.ref s), some (.ref l), some (.ref d), v]) ∧ RowT H1 d ((ps.take i).foldl takeT []) ∧ Kp [] H H1) ⟨⟨_, rfl⟩, ⟨upd_same, fun p hp => by cases hp⟩, Kp.new nd⟩ (fun i σ H1 _ q => SqL.of (q.2.2.g0 hl1)) ?_ ?_
  · rintro i x σ H1 hx ⟨⟨v, rfl⟩, q1, k1⟩
    rw [List.getElem?_map] at hx
    obtain ⟨p, hp, rfl⟩ := Option.map_eq_some_iff.mp hx
    obtain ⟨hi, ep⟩ := List.getElem?_eq_some_iff.mp hp
    have pm := List.mem_of_getElem? hp
    have ok := hy p pm
    wtm_at "rd"
    refine us_check_saying (hS.k0 k1) (k1.g0 (hl.ob p pm)) ok fun H2 k2 => ?_
    have k12 := k1.trans k2
    have q2 := q1.k0 k2
    have ht := k12.g0 (hl.ob p pm)
    wtm_at "rd"
    refine us__is_later q2 (fun z hz => ?_) ht (syOk_iff.mp ok).2.2.1 ?_
    · rcases foldT_mem hz with h | h
      · exact (syOk_iff.mp (hy z (List.mem_of_mem_take h))).2.2.1
      · cases h
    have eT : (ps.take (i + 1)).foldl takeT [] = takeT ((ps.take i).foldl takeT []) p := by
      rw [List.take_succ_eq_append_getElem hi, ep, List.foldl_append]
      rfl
    rw [eT]
    have hd2 := q2.at_
    have ht2 := ht
    unfold SyAt Sy.tup at ht2
    have len : (kvT Sy.s ((ps.take i).foldl takeT [])).length < sizeLine := szlt (by
      rw [kvT_len]
      have h1 := foldT_len (ps.take i) []
      rw [List.length_take] at h1
      simp only [List.length_nil] at h1
      omega)
    wtm_at "rd"
    refine ite_d (fun h => ?_) (fun h => ?_)
    · wtm_at "rd"
      refine ⟨⟨_, rfl⟩, ?_, k12.mine nd⟩
      have e := kvT_put Sy.s ((ps.take i).foldl takeT []) p
      rw [e, takeT_pos h]
      exact q2.put ht
    · refine ⟨⟨_, rfl⟩, ?_, k12⟩
      rw [takeT_neg h]
      exact q2
  · rintro σ H1 ⟨⟨v, rfl⟩, q1, k1⟩
    rw [List.length_map, List.take_length] at q1
    wtm_at "rd"
    exact kk d H1 q1 k1 nd
theorem c__latest_rows (T : Cx K mg) (B : Tb P w K mg base) : CalX P w K mg base CX0 6 "_latest_rows" (sp__latest_rows K) [] := by
  obtain ⟨fd, F, ok⟩ := f__latest_rows (P := P) (w := w) (base := base) T B
  exact ⟨_, fd, p__latest_rows, [], ok, gl__latest_rows T, F.kp, FunD.bindsN F fun _ _ _ _ _ _ us hl => match us, hl with | [_, _], _ => rfl, .nil⟩
end
section
variable {P : Program} {w : World} {K : PySem.W.Frag} {mg : Str → Option Value} {base : Heap}
def sp_Book_init (K : PySem.W.Frag) : Sp := fun vs H Q E => ∃ (b dx s l : Addr) (st : Stg) (ps : List (Addr × Sy)), vs = [.ref b, .ref s, .ref l] ∧ (H b = some (.ins (ga K "Book") dx [])) ∧ (SetAt K H s st) ∧ (LsT K H l ps) ∧ (∀ p, p ∈ ps → syOk st.ring p.2 = true) ∧ (ps.length < 100000) ∧ (∀ d H1, BookAt K H1 b s d (ps.foldl takeT []) → Kp [b] H H1 → H d = none → Q .non H1)
theorem us_Book_init {K : PySem.W.Frag} {H : Hp} {Q : VK} {E : XK} {b dx s l : Addr} {st : Stg} {ps : List (Addr × Sy)} (hb : H b = some (.ins (ga K "Book") dx [])) (hS : SetAt K H s st) (hl : LsT K H l ps) (hy : ∀ p, p ∈ ps → syOk st.ring p.2 = true) (hn : ps.length < 100000) (kk : ∀ d H1, BookAt K H1 b s d (ps.foldl takeT []) → Kp [b] H H1 → H d = none → Q .non H1) : sp_Book_init K [.ref b, .ref s, .ref l] H Q E := ⟨_, _, _, _, _, _, rfl, hb, hS, hl, hy, hn, kk⟩
theorem f_Book_init (T : Cx K mg) (B : Tb P w K mg base) : ∃ fd, FunD K "__init__" "Book.__init__" (defArgs s_Book_init) (defBody s_Book_init) (defScope s_Book_init) (d_Book_init.dvs K) (d_Book_init.kws K) (fAd K d_Book_init.at_) fd ∧ FnOk P w K mg base CX0 7 (fAd K d_Book_init.at_) fd p_Book_init (sp_Book_init K) := by
  have c__latest_rows := c__latest_rows (P := P) (w := w) (base := base) T B
  obtain ⟨fd, F⟩ := T.says.def_ 12 (d := d_Book_init) rfl
  refine ⟨fd, F, fnD F sc_Book_init (fun vs H Q E h => by
    obtain ⟨_, _, _, _, _, _, rfl, _⟩ := h
    rfl) fun cdv A outer s H vs Q E hr h => ?_⟩
  have hu := hu_of hr
  obtain ⟨b, dx, s, l, st, ps, rfl, hb, hS, hl, hy, hn, kk⟩ := h
  refine ⟨_, (pss_cons (ps_fld (pv 0) (pv 1) rfl) (pss_one (ps_fld (pv 0) (pe_cal c__latest_rows hr (by decide) (by rfl) pass0 (pa_cons (pv 1) (pa_cons (pv 2) pa_nil))) rfl))), ?_⟩
  rw [show L2.start n_Book_init [.ref b, .ref s, .ref l] = [some (.ref b), some (.ref s), some (.ref l)] from rfl]
  try dsimp only [cxOf, Cx.nox, Cx.wish, List.map]

  wtm_at "rd"
  have k0 : Kp [b] H (upd H b (.ins (ga K "Book") dx (putF "_setting" (.ref s) []))) := Kp.refl.wr (by simp)
  have hl2 : LsT K (upd H b (.ins (ga K "Book") dx (putF "_setting" (.ref s) []))) l ps := by
    rcases hl with hl | ⟨e, hl⟩
    · exact .inl ⟨k0.g1 (ne_of hl.at_ hb (by intro z; cases z)) hl.at_, fun p hp => k0.g1 (ne_of (hl.ob p hp) hb (by intro z; cases z)) (hl.ob p hp)⟩
    · exact .inr ⟨e, st_ins hb hl⟩
  refine us__latest_rows (hS.k1 k0 (hS.neins' hb)) hl2 hy hn fun d H1 r1 k1 nd => ?_
  have hb1 : H1 b = some (.ins (ga K "Book") dx (putF "_setting" (.ref s) [])) := k1.g0 upd_same
  wtm_at "rd"
  refine kk d _ ⟨⟨dx, upd_same⟩, ?_⟩ ((k0.trans k1.of0).wr (by simp)) (k0.back nd ?_)
  · exact ⟨hu_ne (ne_of r1.at_ hb1 (by intro z; cases z)) r1.at_, fun p hp => hu_ne (ne_of (r1.ob p hp) hb1 (by intro z; cases z)) (r1.ob p hp)⟩
  · intro z
    rw [List.mem_singleton.mp z, upd_same] at nd
    cases nd
theorem c_Book_init (T : Cx K mg) (B : Tb P w K mg base) : MakX P w K mg base CX0 7 "Book" (ga K "Book") (sp_Book_init K) [] := by
  obtain ⟨fd, F, ok⟩ := f_Book_init (P := P) (w := w) (base := base) T B
  obtain ⟨ds, hv, hb⟩ := FunD.binds1 (ps := p_Book_init) F 3 1 (fun e => by cases e) rfl fun _ _ _ _ _ _ _ us its hu hi => match us, its, hu, hi with | [_, _, _], [_], _, _ => ⟨_, rfl, rfl⟩
  exact ⟨_, fd, p_Book_init, ds, mk_Book T, ok, gl_Book T, hb, hv⟩
end
section
variable {P : Program} {w : World} {K : PySem.W.Frag} {mg : Str → Option Value} {base : Heap}
def sp_Book_take (K : PySem.W.Frag) : Sp := fun vs H Q E => ∃ (b s d t : Addr) (st : Stg) (xs : List (Addr × Sy)) (y : Sy), vs = [.ref b, .ref t] ∧ (BookAt K H b s d xs) ∧ (SetAt K H s st) ∧ (∀ p, p ∈ xs → p.2.m ∈ MK) ∧ (SyAt H t y) ∧ (syOk st.ring y = true) ∧ (xs.length < 100000) ∧ (∀ H1, RowT H1 d (takeT xs (t, y)) → Kp [d] H H1 → Q (.bl (decide (rkO ((fdT Sy.s xs y.s).map (·.2)) < rk y))) H1)
theorem us_Book_take {K : PySem.W.Frag} {H : Hp} {Q : VK} {E : XK} {b s d t : Addr} {st : Stg} {xs : List (Addr × Sy)} {y : Sy} (hB : BookAt K H b s d xs) (hS : SetAt K H s st) (hx : ∀ p, p ∈ xs → p.2.m ∈ MK) (ht : SyAt H t y) (hy : syOk st.ring y = true) (hn : xs.length < 100000) (kk : ∀ H1, RowT H1 d (takeT xs (t, y)) → Kp [d] H H1 → Q (.bl (decide (rkO ((fdT Sy.s xs y.s).map (·.2)) < rk y))) H1) : sp_Book_take K [.ref b, .ref t] H Q E := ⟨_, _, _, _, _, _, _, rfl, hB, hS, hx, ht, hy, hn, kk⟩
theorem f_Book_take (T : Cx K mg) (B : Tb P w K mg base) : ∃ fd, FunD K "take" "Book.take" (defArgs s_Book_take) (defBody s_Book_take) (defScope s_Book_take) (d_Book_take.dvs K) (d_Book_take.kws K) (fAd K d_Book_take.at_) fd ∧ FnOk P w K mg base CX0 6 (fAd K d_Book_take.at_) fd p_Book_take (sp_Book_take K) := by
  have c_check_saying := c_check_saying (P := P) (w := w) (base := base) T B
  have c__is_later := c__is_later (P := P) (w := w) (base := base) T B
  obtain ⟨fd, F⟩ := T.says.def_ 13 (d := d_Book_take) rfl
  refine ⟨fd, F, fnD F sc_Book_take (fun vs H Q E h => by
    obtain ⟨_, _, _, _, _, _, _, rfl, _⟩ := h
    rfl) fun cdv A outer s H vs Q E hr h => ?_⟩
  have hu := hu_of hr
  obtain ⟨b, s, d, t, st, xs, y, rfl, hB, hS, hx, ht, hy, hn, kk⟩ := h
  refine ⟨_, (pss_cons (ps_expr (pe_cal c_check_saying hr (by decide) (by rfl) pass0 (pa_cons (pe_fld (pv 0) rfl) (pa_cons (pv 1) pa_nil)))) (pss_cons (ps_if (pt_not (pt_val (pe_cal c__is_later hr (by decide) (by rfl) pass0 (pa_cons (pe_fld (pv 0) rfl) (pa_cons (pv 1) pa_nil))))) (pss_one (ps_ret pe_bl)) pss_nil) (pss_cons (ps_dput hu (pe_fld (pv 0) rfl) (pe_ix ix_tup (pv 1) pe_int (fun _ _ => rfl)) (pv 1) rfl) (pss_one (ps_ret pe_bl))))), ?_⟩
  rw [show L2.start n_Book_take [.ref b, .ref t] = [some (.ref b), some (.ref t)] from rfl]
  try dsimp only [cxOf, Cx.nox, Cx.wish, List.map]

  obtain ⟨⟨dx, hb⟩, hr⟩ := id hB
  wtm_at "rd"
  refine us_check_saying hS ht hy fun H1 k1 => ?_
  have hb1 := k1.g0 hb
  have hr1 := hr.k0 k1
  have ht1 := k1.g0 ht
  wtm_at "rd"
  refine us__is_later hr1 hx ht1 (syOk_iff.mp hy).2.2.1 ?_
  have hd1 := hr1.at_
  have ht2 := ht1
  unfold Sy.tup at ht2
  have len : (kvT Sy.s xs).length < sizeLine := szlt (by
    rw [kvT_len]
    omega)
  wtm_at "rd"
  refine ite_n (fun h => ?_) (fun h => ?_)
  · wtm_at "rd"
    rw [decide_eq_false h] at kk
    refine kk _ ?_ k1.of0
    rw [takeT_neg h]
    exact hr1
  · wtm_at "rd"
    rw [decide_eq_true h] at kk
    refine kk _ ?_ (k1.of0.wr (by simp))
    have e := kvT_put Sy.s xs (t, y)
    rw [e, takeT_pos h]
    exact hr1.put ht1
theorem c_Book_take (T : Cx K mg) (B : Tb P w K mg base) : MetX P w K mg base CX0 6 (ga K "Book") "take" (sp_Book_take K) [] := by
  obtain ⟨fd, F, ok⟩ := f_Book_take (P := P) (w := w) (base := base) T B
  exact ⟨_, fd, p_Book_take, [], cl_Book T, mt_Book_take T, ok, FunD.bindsN F fun _ _ _ _ _ _ us hl => match us, hl with | [_, _], _ => rfl, .nil⟩
end
section
variable {P : Program} {w : World} {K : PySem.W.Frag} {mg : Str → Option Value} {base : Heap}
def sp_Book_of (K : PySem.W.Frag) : Sp := fun vs H Q E => ∃ (b s d : Addr) (xs : List (Addr × Sy)) (k : Int), vs = [.ref b, .int k] ∧ (BookAt K H b s d xs) ∧ (∀ v, IsY H v ((fdT Sy.s xs k).map (·.2)) → Q v H)
theorem us_Book_of {K : PySem.W.Frag} {H : Hp} {Q : VK} {E : XK} {b s d : Addr} {xs : List (Addr × Sy)} {k : Int} (hB : BookAt K H b s d xs) (kk : ∀ v, IsY H v ((fdT Sy.s xs k).map (·.2)) → Q v H) : sp_Book_of K [.ref b, .int k] H Q E := ⟨_, _, _, _, _, rfl, hB, kk⟩
theorem f_Book_of (T : Cx K mg) (B : Tb P w K mg base) : ∃ fd, FunD K "of" "Book.of" (defArgs s_Book_of) (defBody s_Book_of) (defScope s_Book_of) (d_Book_of.dvs K) (d_Book_of.kws K) (fAd K d_Book_of.at_) fd ∧ FnOk P w K mg base CX0 1 (fAd K d_Book_of.at_) fd p_Book_of (sp_Book_of K) := by
  obtain ⟨fd, F⟩ := T.says.def_ 14 (d := d_Book_of) rfl
  refine ⟨fd, F, fnD F sc_Book_of (fun vs H Q E h => by
    obtain ⟨_, _, _, _, _, rfl, _⟩ := h
    rfl) fun cdv A outer s H vs Q E hr h => ?_⟩
  have hu := hu_of hr
  obtain ⟨b, s, d, xs, k, rfl, hB, kk⟩ := h
  refine ⟨_, (pss_one (ps_ret (pe_dget1 hu (pe_fld (pv 0) rfl) (pv 1) ⟨rfl, rfl, rfl, rfl⟩))), ?_⟩
  rw [show L2.start n_Book_of [.ref b, .int k] = [some (.ref b), some (.int k)] from rfl]
  try dsimp only [cxOf, Cx.nox, Cx.wish, List.map]

  obtain ⟨⟨dx, hb⟩, hr⟩ := id hB
  have hd := hr.at_
  wtm_at "rd"
  exact kk _ (hr.findY k)
theorem c_Book_of (T : Cx K mg) (B : Tb P w K mg base) : MetX P w K mg base CX0 1 (ga K "Book") "of" (sp_Book_of K) [] := by
  obtain ⟨fd, F, ok⟩ := f_Book_of (P := P) (w := w) (base := base) T B
  exact ⟨_, fd, p_Book_of, [], cl_Book T, mt_Book_of T, ok, FunD.bindsN F fun _ _ _ _ _ _ us hl => match us, hl with | [_, _], _ => rfl, .nil⟩
end
section
variable {P : Program} {w : World} {K : PySem.W.Frag} {mg : Str → Option Value} {base : Heap}
def sp_Book_held (K : PySem.W.Frag) : Sp := fun vs H Q E => ∃ (b s d : Addr) (xs : List (Addr × Sy)), vs = [.ref b] ∧ (BookAt K H b s d xs) ∧ (∀ r H1, H1 r = some (.lst ((srt ((xs.map (·.2)).map Sy.s)).map V.int)) → Kp [] H H1 → H r = none → Q (.ref r) H1)
theorem us_Book_held {K : PySem.W.Frag} {H : Hp} {Q : VK} {E : XK} {b s d : Addr} {xs : List (Addr × Sy)} (hB : BookAt K H b s d xs) (kk : ∀ r H1, H1 r = some (.lst ((srt ((xs.map (·.2)).map Sy.s)).map V.int)) → Kp [] H H1 → H r = none → Q (.ref r) H1) : sp_Book_held K [.ref b] H Q E := ⟨_, _, _, _, rfl, hB, kk⟩
theorem f_Book_held (T : Cx K mg) (B : Tb P w K mg base) : ∃ fd, FunD K "held" "Book.held" (defArgs s_Book_held) (defBody s_Book_held) (defScope s_Book_held) (d_Book_held.dvs K) (d_Book_held.kws K) (fAd K d_Book_held.at_) fd ∧ FnOk P w K mg base CX0 1 (fAd K d_Book_held.at_) fd p_Book_held (sp_Book_held K) := by
  obtain ⟨fd, F⟩ := T.says.def_ 15 (d := d_Book_held) rfl
  refine ⟨fd, F, fnD F sc_Book_held (fun vs H Q E h => by
    obtain ⟨_, _, _, _, rfl, _⟩ := h
    rfl) fun cdv A outer s H vs Q E hr h => ?_⟩
  have hu := hu_of hr
  obtain ⟨b, s, d, xs, rfl, hB, kk⟩ := h
  refine ⟨_, (pss_one (ps_ret (pe_callB cr_sortedI (by rfl) (fr_sorted T) (by decide +kernel) (pa_cons (pe_callTy (call_listD rfl) (by rfl) (fr_list T) (by decide +kernel) (pa_cons (pe_fld (pv 0) rfl) pa_nil)) pa_nil)))), ?_⟩
  rw [show L2.start n_Book_held [.ref b] = [some (.ref b)] from rfl]
  try dsimp only [cxOf, Cx.nox, Cx.wish, List.map]

  obtain ⟨⟨dx, hb⟩, hr⟩ := id hB
  have hd := hr.at_
  wtm_at "rd"
  refine ⟨d, _, rfl, .inl hd, fun l nl => ?_⟩
  wtm_at "rd"
  refine rd_sortedI (ns := (xs.map (·.2)).map Sy.s) (by rw [kvT_keys]; exact upd_same) fun os r o1 o2 nr => ?_
  rw [srt_is o1 o2]
  exact kk r _ upd_same ((Kp.new nl).nw nr) ((Kp.new (ps := []) nl).back nr (by simp))
theorem c_Book_held (T : Cx K mg) (B : Tb P w K mg base) : MetX P w K mg base CX0 1 (ga K "Book") "held" (sp_Book_held K) [] := by
  obtain ⟨fd, F, ok⟩ := f_Book_held (P := P) (w := w) (base := base) T B
  exact ⟨_, fd, p_Book_held, [], cl_Book T, mt_Book_held T, ok, FunD.bindsN F fun _ _ _ _ _ _ us hl => match us, hl with | [_], _ => rfl, .nil⟩
end
section
variable {P : Program} {w : World} {K : PySem.W.Frag} {mg : Str → Option Value} {base : Heap}
def sp_Book_rows (K : PySem.W.Frag) : Sp := fun vs H Q E => ∃ (b s d : Addr) (xs : List (Addr × Sy)), vs = [.ref b] ∧ (BookAt K H b s d xs) ∧ (xs.length < 100000) ∧ (∀ r H1, SyL H1 r (rowsL xs) → Kp [] H H1 → H r = none → Q (.ref r) H1)
theorem us_Book_rows {K : PySem.W.Frag} {H : Hp} {Q : VK} {E : XK} {b s d : Addr} {xs : List (Addr × Sy)} (hB : BookAt K H b s d xs) (hn : xs.length < 100000) (kk : ∀ r H1, SyL H1 r (rowsL xs) → Kp [] H H1 → H r = none → Q (.ref r) H1) : sp_Book_rows K [.ref b] H Q E := ⟨_, _, _, _, rfl, hB, hn, kk⟩
theorem f_Book_rows (T : Cx K mg) (B : Tb P w K mg base) : ∃ fd, FunD K "rows" "Book.rows" (defArgs s_Book_rows) (defBody s_Book_rows) (defScope s_Book_rows) (d_Book_rows.dvs K) (d_Book_rows.kws K) (fAd K d_Book_rows.at_) fd ∧ FnOk P w K mg base CX0 2 (fAd K d_Book_rows.at_) fd p_Book_rows (sp_Book_rows K) := by
  have c_Book_held := c_Book_held (P := P) (w := w) (base := base) T B
  obtain ⟨fd, F⟩ := T.says.def_ 16 (d := d_Book_rows) rfl
  refine ⟨fd, F, fnD F sc_Book_rows (fun vs H Q E h => by
    obtain ⟨_, _, _, _, rfl, _⟩ := h
    rfl) fun cdv A outer s H vs Q E hr h => ?_⟩
  have hu := hu_of hr
  obtain ⟨b, s, d, xs, rfl, hB, hn, kk⟩ := h
  refine ⟨_, (pss_one (ps_ret (pe_lc (own := [("seat", 1)]) (g := (gName 1)) (tt := tYes) rfl sc_Book_rows.nd (pi_list (pe_met0 c_Book_held hr (by decide) pass0 (pv 0))) (blkOk_by (own := [("seat", 1)]) (N := n_Book_rows) (sc := defScope s_Book_rows) (by decide +kernel)) (fun _ _ _ _ _ => (pg_name (i := 1) sc_Book_rows.nd rfl (by first | exact Or.inl rfl | exact Or.inr rfl))) (fun _ _ _ _ _ => pts_nil) (fun _ _ _ _ _ => (pe_dget hu (pe_fldK (K := K) rfl (pv 0) rfl) (pv 1) (fun _ _ => rfl)))))), ?_⟩
  rw [show L2.start n_Book_rows [.ref b] = [some (.ref b), none] from rfl]
  try dsimp only [cxOf, Cx.nox, Cx.wish, List.map]

  obtain ⟨⟨dx, hb⟩, hr⟩ := id hB
  have hd := hr.at_
  wtm_at "rd"
  refine us_Book_held hB fun l H1 hl k1 nl => ?_
  wtm_at "rd"
  intro D nD
  have hf : ∀ k, k ∈ srt ((xs.map (·.2)).map Sy.s) → fdT Sy.s xs k = some ((fdT Sy.s xs k).getD (b, ⟨0, 0, "", ""⟩)) := fun k hk => by
    obtain ⟨p, hp⟩ := fdT_key ((srt_perm _).mem_iff.mp hk)
    rw [hp]
    rfl
  have hle : (srt ((xs.map (·.2)).map Sy.s)).length = xs.length := by
    rw [(srt_perm _).length_eq, List.length_map, List.length_map]
  refine lcF_ints (srt ((xs.map (·.2)).map Sy.s)) (fun _ => true) (fun k => V.ref ((fdT Sy.s xs k).getD (b, ⟨0, 0, "", ""⟩)).1) (SqL.of hl) nD (by omega) (fun i h H2 E N k2 hE hN => ?_) (fun H2 k2 hD2 => ?_)
  · have hb2 := k2.g0 (k1.g0 hb)
    have hd2 := k2.g0 (k1.g0 hd)
    wtm_at "rd"
    refine ⟨rfl, ?_⟩
    wtm_at "rd"
    refine rd_dgetX (dg_iv (by wtm_at "hp") (by rw [kvT_val, hf _ (List.getElem_mem h)]; rfl)) ?_
    exact hE _ Kp.refl rfl
  · refine kk D _ ⟨?_, fun p hp => ?_⟩ (k1.trans k2) (k1.back nD (by simp))
    · rw [hD2]
      unfold rowsL
      rw [rowsL_take (fun k hk => (srt_perm _).mem_iff.mp hk) hf, List.filter_eq_self.mpr (fun _ _ => rfl)]
      simp only [List.map_map]
      rfl
    · unfold rowsL at hp
      obtain ⟨k, hk, e⟩ := List.mem_filterMap.mp hp
      exact k2.g0 (k1.g0 (hr.find e))
theorem c_Book_rows (T : Cx K mg) (B : Tb P w K mg base) : MetX P w K mg base CX0 2 (ga K "Book") "rows" (sp_Book_rows K) [] := by
  obtain ⟨fd, F, ok⟩ := f_Book_rows (P := P) (w := w) (base := base) T B
  exact ⟨_, fd, p_Book_rows, [], cl_Book T, mt_Book_rows T, ok, FunD.bindsN F fun _ _ _ _ _ _ us hl => match us, hl with | [_], _ => rfl, .nil⟩
end
section
variable {P : Program} {w : World} {K : PySem.W.Frag} {mg : Str → Option Value} {base : Heap}
def sp_Doubts_init (K : PySem.W.Frag) : Sp := fun vs H Q E => ∃ (p dx s : Addr), vs = [.ref p, .ref s] ∧ (H p = some (.ins (ga K "Doubts") dx [])) ∧ (∀ d H1, DouAt K H1 p s d [] → Kp [p] H H1 → H d = none → Q .non H1)
theorem us_Doubts_init {K : PySem.W.Frag} {H : Hp} {Q : VK} {E : XK} {p dx s : Addr} (hp : H p = some (.ins (ga K "Doubts") dx [])) (kk : ∀ d H1, DouAt K H1 p s d [] → Kp [p] H H1 → H d = none → Q .non H1) : sp_Doubts_init K [.ref p, .ref s] H Q E := ⟨_, _, _, rfl, hp, kk⟩
theorem f_Doubts_init (T : Cx K mg) (B : Tb P w K mg base) : ∃ fd, FunD K "__init__" "Doubts.__init__" (defArgs s_Doubts_init) (defBody s_Doubts_init) (defScope s_Doubts_init) (d_Doubts_init.dvs K) (d_Doubts_init.kws K) (fAd K d_Doubts_init.at_) fd ∧ FnOk P w K mg base CX0 1 (fAd K d_Doubts_init.at_) fd p_Doubts_init (sp_Doubts_init K) := by
  obtain ⟨fd, F⟩ := T.says.def_ 17 (d := d_Doubts_init) rfl
  refine ⟨fd, F, fnD F sc_Doubts_init (fun vs H Q E h => by
    obtain ⟨_, _, _, rfl, _⟩ := h
    rfl) fun cdv A outer s H vs Q E hr h => ?_⟩
  have hu := hu_of hr
  obtain ⟨p, dx, s, rfl, hp, kk⟩ := h
  refine ⟨_, (pss_cons (ps_fld (pv 0) (pv 1) rfl) (pss_one (ps_fld (pv 0) pe_dnewK rfl))), ?_⟩
  rw [show L2.start n_Doubts_init [.ref p, .ref s] = [some (.ref p), some (.ref s)] from rfl]
  try dsimp only [cxOf, Cx.nox, Cx.wish, List.map]

  wtm_at "rd"
  intro d nd
  have nd0 : H d = none := (Kp.refl.wr (ps := [p]) (by simp)).back nd (by
    intro z
    rw [List.mem_singleton.mp z, upd_same] at nd
    cases nd)
  have hpd : p ≠ d := ne_fresh nd
  have h1 : upd (upd H p (.ins (ga K "Doubts") dx (putF "_setting" (.ref s) []))) d (.dK []) p = some (.ins (ga K "Doubts") dx (putF "_setting" (.ref s) [])) := hu_ne hpd upd_same
  wtm_at "rd"
  refine kk d _ ⟨⟨dx, upd_same⟩, ⟨hu_ne (Ne.symm hpd) upd_same, fun q hq => by cases hq⟩⟩ (((Kp.refl.wr (by simp)).nw nd).wr (by simp)) nd0
theorem c_Doubts_init (T : Cx K mg) (B : Tb P w K mg base) : MakX P w K mg base CX0 1 "Doubts" (ga K "Doubts") (sp_Doubts_init K) [] := by
  obtain ⟨fd, F, ok⟩ := f_Doubts_init (P := P) (w := w) (base := base) T B
  exact ⟨_, fd, p_Doubts_init, [], mk_Doubts T, ok, gl_Doubts T, FunD.bindsN F fun _ _ _ _ _ _ us hl => match us, hl with | [_, _], _ => rfl, .nil⟩
end
section
variable {P : Program} {w : World} {K : PySem.W.Frag} {mg : Str → Option Value} {base : Heap}
def sp_Doubts_doubt (K : PySem.W.Frag) : Sp := fun vs H Q E => ∃ (p s d : Addr) (cs : List (Addr × Ck)) (k l a : Int), vs = [.ref p, .int k, .int l, .int a] ∧ (DouAt K H p s d cs) ∧ (cs.length < 100000) ∧ (∀ H1 cs1, cs1.map (·.2) = dbt (cs.map (·.2)) k l a → DouAt K H1 p s d cs1 → cs1.length ≤ cs.length + 1 → Kp [d] H H1 → Q .non H1)
theorem us_Doubts_doubt {K : PySem.W.Frag} {H : Hp} {Q : VK} {E : XK} {p s d : Addr} {cs : List (Addr × Ck)} {k l a : Int} (hB : DouAt K H p s d cs) (hn : cs.length < 100000) (kk : ∀ H1 cs1, cs1.map (·.2) = dbt (cs.map (·.2)) k l a → DouAt K H1 p s d cs1 → cs1.length ≤ cs.length + 1 → Kp [d] H H1 → Q .non H1) : sp_Doubts_doubt K [.ref p, .int k, .int l, .int a] H Q E := ⟨_, _, _, _, _, _, _, rfl, hB, hn, kk⟩
theorem f_Doubts_doubt (T : Cx K mg) (B : Tb P w K mg base) : ∃ fd, FunD K "doubt" "Doubts.doubt" (defArgs s_Doubts_doubt) (defBody s_Doubts_doubt) (defScope s_Doubts_doubt) (d_Doubts_doubt.dvs K) (d_Doubts_doubt.kws K) (fAd K d_Doubts_doubt.at_) fd ∧ FnOk P w K mg base CX0 1 (fAd K d_Doubts_doubt.at_) fd p_Doubts_doubt (sp_Doubts_doubt K) := by
  obtain ⟨fd, F⟩ := T.says.def_ 18 (d := d_Doubts_doubt) rfl
  refine ⟨fd, F, fnD F sc_Doubts_doubt (fun vs H Q E h => by
    obtain ⟨_, _, _, _, _, _, _, rfl, _⟩ := h
    rfl) fun cdv A outer s H vs Q E hr h => ?_⟩
  have hu := hu_of hr
  obtain ⟨p, s, d, cs, k, l, a, rfl, hB, hn, kk⟩ := h
  refine ⟨_, (pss_cons (ps_if (PW.pt (pw_and (pt_cmp (pc_din hu (pv 1) (pe_fld (pv 0) rfl))) (pw_and1 (pt_cmpR op_eq (pe_ix ix_tup (pe_dget hu (pe_fld (pv 0) rfl) (pv 1) (fun _ _ => rfl)) pe_int (fun _ _ => rfl)) (pv 2) (nomark _))))) (pss_one ps_retN) pss_nil) (pss_one (ps_dput hu (pe_fld (pv 0) rfl) (pv 1) (pe_tup (pa_cons (pv 2) (pa_cons (pv 3) pa_nil))) rfl))), ?_⟩
  rw [show L2.start n_Doubts_doubt [.ref p, .int k, .int l, .int a] = [some (.ref p), some (.int k), some (.int l), some (.int a)] from rfl]
  try dsimp only [cxOf, Cx.nox, Cx.wish, List.map]

  obtain ⟨⟨dx, hp⟩, hc⟩ := id hB
  have hd := hc.at_
  have hv := kvT_val Ck.s k cs
  have len : (kvT Ck.s cs).length < sizeLine := szlt (by
    rw [kvT_len]
    omega)
  cases e : fdT Ck.s cs k with
  | none =>
    rw [e] at hv
    have hv1 : valV (kvT Ck.s cs) (.inl k) = none := hv
    wtm_at "rd"
    rw [hv1]
    refine ite_f rfl ?_
    wtm_at "rd"
    refine ⟨sz1000 (by simp), fun t nt => ?_⟩
    have k1 : Kp [] H (upd H t (.tup [.int l, .int a])) := Kp.new nt
    have e2 : putK (kvT Ck.s cs) (.inl k) (.ref t) = kvT Ck.s (ptT Ck.s cs (t, ⟨k, l, a⟩)) := kvT_put Ck.s cs (t, ⟨k, l, a⟩)
    wtm_at "rd"
    rw [e2]
    have hc1 := (hc.k0 k1).put (p := (t, (⟨k, l, a⟩ : Ck))) upd_same
    have k2 : Kp [d] H (upd (upd H t (.tup [.int l, .int a])) d (.dK (kvT Ck.s (ptT Ck.s cs (t, ⟨k, l, a⟩))))) := k1.of0.wr (by simp)
    refine kk _ _ ?_ (hB.wr k2 hc1) (ptT_len _ _ _) k2
    rw [ptT_snd]
    unfold dbt
    rw [← fdT_snd, e]
    rfl
  | some q =>
    rw [e] at hv
    have hv1 : valV (kvT Ck.s cs) (.inl k) = some (.ref q.1) := hv
    have hq := hc.find e
    unfold Ck.tup at hq
    wtm_at "rd"
    rw [hv1]
    refine ite_t rfl ?_
    wtm_at "rd"
    refine ite_d (fun h => ?_) (fun h => ?_)
    · wtm_at "rd"
      refine kk _ cs ?_ hB (by omega) Kp.refl
      unfold dbt
      rw [← fdT_snd, e]
      exact (if_pos h).symm
    wtm_at "rd"
    refine ⟨sz1000 (by simp), fun t nt => ?_⟩
    have k1 : Kp [] H (upd H t (.tup [.int l, .int a])) := Kp.new nt
    have e2 : putK (kvT Ck.s cs) (.inl k) (.ref t) = kvT Ck.s (ptT Ck.s cs (t, ⟨k, l, a⟩)) := kvT_put Ck.s cs (t, ⟨k, l, a⟩)
    wtm_at "rd"
    rw [e2]
    have hc1 := (hc.k0 k1).put (p := (t, (⟨k, l, a⟩ : Ck))) upd_same
    have k2 : Kp [d] H (upd (upd H t (.tup [.int l, .int a])) d (.dK (kvT Ck.s (ptT Ck.s cs (t, ⟨k, l, a⟩))))) := k1.of0.wr (by simp)
    refine kk _ _ ?_ (hB.wr k2 hc1) (ptT_len _ _ _) k2
    rw [ptT_snd]
    unfold dbt
    rw [← fdT_snd, e]
    exact (if_neg h).symm
theorem c_Doubts_doubt (T : Cx K mg) (B : Tb P w K mg base) : MetX P w K mg base CX0 1 (ga K "Doubts") "doubt" (sp_Doubts_doubt K) [] := by
  obtain ⟨fd, F, ok⟩ := f_Doubts_doubt (P := P) (w := w) (base := base) T B
  exact ⟨_, fd, p_Doubts_doubt, [], cl_Doubts T, mt_Doubts_doubt T, ok, FunD.bindsN F fun _ _ _ _ _ _ us hl => match us, hl with | [_, _, _, _], _ => rfl, .nil⟩
end
section
variable {P : Program} {w : World} {K : PySem.W.Frag} {mg : Str → Option Value} {base : Heap}
def sp_Doubts_lift (K : PySem.W.Frag) : Sp := fun vs H Q E => ∃ (p s d : Addr) (cs : List (Addr × Ck)) (k : Int), vs = [.ref p, .int k] ∧ (DouAt K H p s d cs) ∧ (∀ H1, DouAt K H1 p s d (dpT Ck.s cs k) → Kp [d] H H1 → Q .non H1)
theorem us_Doubts_lift {K : PySem.W.Frag} {H : Hp} {Q : VK} {E : XK} {p s d : Addr} {cs : List (Addr × Ck)} {k : Int} (hB : DouAt K H p s d cs) (kk : ∀ H1, DouAt K H1 p s d (dpT Ck.s cs k) → Kp [d] H H1 → Q .non H1) : sp_Doubts_lift K [.ref p, .int k] H Q E := ⟨_, _, _, _, _, rfl, hB, kk⟩
theorem f_Doubts_lift (T : Cx K mg) (B : Tb P w K mg base) : ∃ fd, FunD K "lift" "Doubts.lift" (defArgs s_Doubts_lift) (defBody s_Doubts_lift) (defScope s_Doubts_lift) (d_Doubts_lift.dvs K) (d_Doubts_lift.kws K) (fAd K d_Doubts_lift.at_) fd ∧ FnOk P w K mg base CX0 1 (fAd K d_Doubts_lift.at_) fd p_Doubts_lift (sp_Doubts_lift K) := by
  obtain ⟨fd, F⟩ := T.says.def_ 19 (d := d_Doubts_lift) rfl
  refine ⟨fd, F, fnD F sc_Doubts_lift (fun vs H Q E h => by
    obtain ⟨_, _, _, _, _, rfl, _⟩ := h
    rfl) fun cdv A outer s H vs Q E hr h => ?_⟩
  have hu := hu_of hr
  obtain ⟨p, s, d, cs, k, rfl, hB, kk⟩ := h
  refine ⟨_, (pss_one (ps_expr (pe_dpop2 (pe_fld (pv 0) rfl) (pv 1) pe_non ⟨rfl, rfl, rfl, rfl⟩))), ?_⟩
  rw [show L2.start n_Doubts_lift [.ref p, .int k] = [some (.ref p), some (.int k)] from rfl]
  try dsimp only [cxOf, Cx.nox, Cx.wish, List.map]

  obtain ⟨⟨dx, hp⟩, hc⟩ := id hB
  have hd := hc.at_
  have hv := kvT_val Ck.s k cs
  wtm_at "rd"
  refine ⟨fun v h => ?_, fun h => ?_⟩
  · wtm_at "rd"
    rw [kvT_drop]
    have k2 : Kp [d] H (upd H d (.dK (kvT Ck.s (dpT Ck.s cs k)))) := Kp.refl.wr (by simp)
    exact kk _ (hB.wr k2 hc.drop) k2
  · wtm_at "rd"
    have e : fdT Ck.s cs k = none := by
      rw [h] at hv
      exact Option.map_eq_none_iff.mp hv.symm
    rw [dpT_none e] at kk
    exact kk _ hB Kp.refl
theorem c_Doubts_lift (T : Cx K mg) (B : Tb P w K mg base) : MetX P w K mg base CX0 1 (ga K "Doubts") "lift" (sp_Doubts_lift K) [] := by
  obtain ⟨fd, F, ok⟩ := f_Doubts_lift (P := P) (w := w) (base := base) T B
  exact ⟨_, fd, p_Doubts_lift, [], cl_Doubts T, mt_Doubts_lift T, ok, FunD.bindsN F fun _ _ _ _ _ _ us hl => match us, hl with | [_, _], _ => rfl, .nil⟩
end
section
variable {P : Program} {w : World} {K : PySem.W.Frag} {mg : Str → Option Value} {base : Heap}
def sp_Doubts_since (K : PySem.W.Frag) : Sp := fun vs H Q E => ∃ (p s d : Addr) (cs : List (Addr × Ck)) (k : Int), vs = [.ref p, .int k] ∧ (DouAt K H p s d cs) ∧ ((∀ c, fdS Ck.s (cs.map (·.2)) k = some c → Q (.int c.a) H) ∧ (fdS Ck.s (cs.map (·.2)) k = none → Q .non H))
theorem us_Doubts_since {K : PySem.W.Frag} {H : Hp} {Q : VK} {E : XK} {p s d : Addr} {cs : List (Addr × Ck)} {k : Int} (hB : DouAt K H p s d cs) (kk : (∀ c, fdS Ck.s (cs.map (·.2)) k = some c → Q (.int c.a) H) ∧ (fdS Ck.s (cs.map (·.2)) k = none → Q .non H)) : sp_Doubts_since K [.ref p, .int k] H Q E := ⟨_, _, _, _, _, rfl, hB, kk⟩
theorem f_Doubts_since (T : Cx K mg) (B : Tb P w K mg base) : ∃ fd, FunD K "since" "Doubts.since" (defArgs s_Doubts_since) (defBody s_Doubts_since) (defScope s_Doubts_since) (d_Doubts_since.dvs K) (d_Doubts_since.kws K) (fAd K d_Doubts_since.at_) fd ∧ FnOk P w K mg base CX0 1 (fAd K d_Doubts_since.at_) fd p_Doubts_since (sp_Doubts_since K) := by
  obtain ⟨fd, F⟩ := T.says.def_ 20 (d := d_Doubts_since) rfl
  refine ⟨fd, F, fnD F sc_Doubts_since (fun vs H Q E h => by
    obtain ⟨_, _, _, _, _, rfl, _⟩ := h
    rfl) fun cdv A outer s H vs Q E hr h => ?_⟩
  have hu := hu_of hr
  obtain ⟨p, s, d, cs, k, rfl, hB, kk⟩ := h
  refine ⟨_, (pss_cons (ps_if (pt_cmp (pc_din hu (pv 1) (pe_fld (pv 0) rfl))) (pss_one (ps_ret (pe_ix ix_tup (pe_dget hu (pe_fld (pv 0) rfl) (pv 1) (fun _ _ => rfl)) pe_int (fun _ _ => rfl)))) pss_nil) (pss_one (ps_ret pe_non))), ?_⟩
  rw [show L2.start n_Doubts_since [.ref p, .int k] = [some (.ref p), some (.int k)] from rfl]
  try dsimp only [cxOf, Cx.nox, Cx.wish, List.map]

  obtain ⟨⟨dx, hp⟩, hc⟩ := id hB
  have hd := hc.at_
  have hv := kvT_val Ck.s k cs
  have hs := fdT_snd Ck.s k cs
  cases e : fdT Ck.s cs k with
  | none =>
    rw [e] at hv hs
    have hv1 : valV (kvT Ck.s cs) (.inl k) = none := hv
    wtm_at "rd"
    rw [hv1]
    refine ite_f rfl ?_
    wtm_at "rd"
    exact kk.2 hs.symm
  | some q =>
    rw [e] at hv hs
    have hv1 : valV (kvT Ck.s cs) (.inl k) = some (.ref q.1) := hv
    have hq := hc.find e
    unfold Ck.tup at hq
    wtm_at "rd"
    rw [hv1]
    refine ite_t rfl ?_
    wtm_at "rd"
    exact kk.1 _ hs.symm
theorem c_Doubts_since (T : Cx K mg) (B : Tb P w K mg base) : MetX P w K mg base CX0 1 (ga K "Doubts") "since" (sp_Doubts_since K) [] := by
  obtain ⟨fd, F, ok⟩ := f_Doubts_since (P := P) (w := w) (base := base) T B
  exact ⟨_, fd, p_Doubts_since, [], cl_Doubts T, mt_Doubts_since T, ok, FunD.bindsN F fun _ _ _ _ _ _ us hl => match us, hl with | [_, _], _ => rfl, .nil⟩
end
section
variable {P : Program} {w : World} {K : PySem.W.Frag} {mg : Str → Option Value} {base : Heap}
def sp_Doubts_due (K : PySem.W.Frag) : Sp := fun vs H Q E => ∃ (p b s s2 d rd : Addr) (st : Stg) (cs : List (Addr × Ck)) (xs : List (Addr × Sy)) (now : Int), vs = [.ref p, .ref b, .int now] ∧ (DouAt K H p s d cs) ∧ (BookAt K H b s2 rd xs) ∧ (SetAt K H s st) ∧ (cs.length < 100000) ∧ (∀ r ps H1, SyL H1 r ps → ps.map (·.2) = dueL (xs.map (·.2)) (cs.map (·.2)) st.grace now → Kp [] H H1 → H r = none → Q (.ref r) H1)
theorem us_Doubts_due {K : PySem.W.Frag} {H : Hp} {Q : VK} {E : XK} {p b s s2 d rd : Addr} {st : Stg} {cs : List (Addr × Ck)} {xs : List (Addr × Sy)} {now : Int} (hB : DouAt K H p s d cs) (hK : BookAt K H b s2 rd xs) (hS : SetAt K H s st) (hn : cs.length < 100000) (kk : ∀ r ps H1, SyL H1 r ps → ps.map (·.2) = dueL (xs.map (·.2)) (cs.map (·.2)) st.grace now → Kp [] H H1 → H r = none → Q (.ref r) H1) : sp_Doubts_due K [.ref p, .ref b, .int now] H Q E := ⟨_, _, _, _, _, _, _, _, _, _, rfl, hB, hK, hS, hn, kk⟩
theorem f_Doubts_due (T : Cx K mg) (B : Tb P w K mg base) : ∃ fd, FunD K "due" "Doubts.due" (defArgs s_Doubts_due) (defBody s_Doubts_due) (defScope s_Doubts_due) (d_Doubts_due.dvs K) (d_Doubts_due.kws K) (fAd K d_Doubts_due.at_) fd ∧ FnOk P w K mg base CX0 3 (fAd K d_Doubts_due.at_) fd p_Doubts_due (sp_Doubts_due K) := by
  have c_Book_of := c_Book_of (P := P) (w := w) (base := base) T B
  obtain ⟨fd, F⟩ := T.says.def_ 21 (d := d_Doubts_due) rfl
  refine ⟨fd, F, fnD F sc_Doubts_due (fun vs H Q E h => by
    obtain ⟨_, _, _, _, _, _, _, _, _, _, rfl, _⟩ := h
    rfl) fun cdv A outer s H vs Q E hr h => ?_⟩
  have hu := hu_of hr
  obtain ⟨p, b, s, s2, d, rd, st, cs, xs, now, rfl, hB, hK, hS, hn, kk⟩ := h
  refine ⟨_, (pss_cons (ps_set (i := 3) sc_Doubts_due.nd rfl (by first | exact Or.inl rfl | exact Or.inr rfl) (pe_lst pa_nil)) (pss_cons (ps_for PassesOwn.never rfl (pi_list (pe_callB cr_sortedI (by rfl) (fr_sorted T) (by decide +kernel) (pa_cons (pe_callTy (call_listD rfl) (by rfl) (fr_list T) (by decide +kernel) (pa_cons (pe_fld (pv 0) rfl) pa_nil)) pa_nil))) (pg_name (i := 4) sc_Doubts_due.nd rfl (by first | exact Or.inl rfl | exact Or.inr rfl)) (pss_cons (ps_asg (pe_dget hu (pe_fld (pv 0) rfl) (pv 4) (fun _ _ => rfl)) (pg_tup rfl (pgs_cons (pg_name (i := 5) sc_Doubts_due.nd rfl (by first | exact Or.inl rfl | exact Or.inr rfl)) (pgs_cons (pg_name (i := 6) sc_Doubts_due.nd rfl (by first | exact Or.inl rfl | exact Or.inr rfl)) pgs_nil)))) (pss_cons (ps_set (i := 7) sc_Doubts_due.nd rfl (by first | exact Or.inl rfl | exact Or.inr rfl) (pe_met c_Book_of hr (by decide) pass0 (pv 1) (pa_cons (pv 4) pa_nil))) (pss_cons (ps_if (PW.pt (pw_or (pt_cmp (pc_isN (pv 7))) (pw_or (pt_cmpR op_ne (pe_ix ix_tup (pv 7) pe_int (fun _ _ => rfl)) (pv 5) (nomark _)) (pw_or1 (pt_cmpR op_ne (pe_ix ix_tup (pv 7) pe_int (fun _ _ => rfl)) pe_str (nomark _)))))) (pss_one ps_continue) pss_nil) (pss_one (ps_if (pt_cmpR op_ge (pe_op op_sub (pv 2) (pv 6)) (pe_fld (pe_fld (pv 0) rfl) rfl) (nomark _)) (pss_one (ps_expr (pe_bm PySem.F.plainAttrs_list PySem.F.slot_list_append PySem.F.type_list_append mt_append (pv 3) (pa_cons (pe_tup (pa_cons (pv 4) (pa_cons (pv 5) (pa_cons pe_str (pa_cons (pe_ix ix_tup (pv 7) pe_int (fun _ _ => rfl)) pa_nil))))) pa_nil)))) pss_nil)))))) (pss_one (ps_ret (pv 3))))), ?_⟩
  rw [show L2.start n_Doubts_due [.ref p, .ref b, .int now] = [some (.ref p), some (.ref b), some (.int now), none, none, none, none, none] from rfl]
  try dsimp only [cxOf, Cx.nox, Cx.wish, List.map]

  obtain ⟨⟨dx, hp⟩, hc⟩ := id hB
  obtain ⟨⟨dxs, hs⟩, ok⟩ := id hS
  obtain ⟨dxb, hb⟩ := hK.ob
  have hd := hc.at_
  wtm_at "rd"
  refine ⟨sz1000 (by simp), fun F nF => ?_⟩
  have k1 : Kp [] H (upd H F (.lst [])) := Kp.new nF
  wtm_at "rd"
  refine ⟨d, _, rfl, .inl (k1.g0 hd), fun l nl => ?_⟩
  wtm_at "rd"
  refine rd_sortedI (ns := (cs.map (·.2)).map Ck.s) (by rw [kvT_keys]; exact upd_same) fun os r o1 o2 nr => ?_
  have eo := srt_is o1 o2
  have hFr : F ≠ r := ne_of_none (show upd (upd H F (.lst [])) l (.lst ((kvT Ck.s cs).map fun kv => kV kv.1)) F = some (.lst []) by wtm_at "hp") nr
  have hos : ∀ k, k ∈ os → k ∈ (cs.map (·.2)).map Ck.s := fun k hk => o1.mem_iff.mp hk
  have k2 := (k1.nw (o := .lst ((kvT Ck.s cs).map fun kv => kV kv.1)) nl).nw (o := .lst (os.map V.int)) nr
  have hF0 : upd (upd (upd H F (.lst [])) l (.lst ((kvT Ck.s cs).map fun kv => kV kv.1))) r (.lst (os.map V.int)) F = some (.lst []) := by wtm_at "hp"
  have hr0 : upd (upd (upd H F (.lst [])) l (.lst ((kvT Ck.s cs).map fun kv => kV kv.1))) r (.lst (os.map V.int)) r = some (.lst (os.map V.int)) := upd_same
  generalize upd (upd (upd H F (.lst [])) l (.lst ((kvT Ck.s cs).map fun kv => kV kv.1))) r (.lst (os.map V.int)) = H0 at k2 hF0 hr0
  have hol : os.length = cs.length := by rw [o1.length_eq, List.length_map, List.length_map]
  wtm_at "rd"
  refine forL_ints (K := K) os (fun i σ H1 => (∃ v4 v5 v6 v7, σ = [some (.ref p), some (.ref b), some (.int now), some (.ref F), v4, v5, v6, v7]) ∧ (∃ ps, SyL H1 F ps ∧ ps.length ≤ i ∧ ps.map (·.2) = (os.take i).filterMap (dueF (xs.map (·.2)) (cs.map (·.2)) st.grace now)) ∧ Kp [] H H1 ∧ H1 r = some (.lst (os.map V.int))) ⟨⟨_, _, _, _, rfl⟩, ⟨[], SyL.nil hF0, Nat.zero_le _, rfl⟩, k2, hr0⟩ (fun i σ H1 _ q => SqL.of q.2.2.2) ?_ ?_
  · rintro i hi σ H1 ⟨⟨v4, v5, v6, v7, rfl⟩, ⟨ps, q1, q2, q3⟩, k3, hr1⟩
    obtain ⟨c, ec⟩ := fdT_key (hos _ (List.getElem_mem hi))
    have hv1 : valV (kvT Ck.s cs) (.inl os[i]) = some (.ref c.1) := by
      rw [kvT_val, ec]
      rfl
    have hc1 := k3.g0 (hc.find ec)
    unfold Ck.tup at hc1
    have hp1 := k3.g0 hp
    have hb1 := k3.g0 hb
    have hd1 := k3.g0 hd
    have hs1 := k3.g0 hs
    have hF1 := q1.at_
    have len : (ps.map fun p => V.ref p.1).length < sizeLine := szlt (by
      rw [List.length_map]
      omega)
    have efd : fdS Ck.s (cs.map (·.2)) os[i] = some c.2 := by
      rw [← fdT_snd, ec]
      rfl
    have skip : dueF (xs.map (·.2)) (cs.map (·.2)) st.grace now os[i] = none → (os.take (i + 1)).filterMap (dueF (xs.map (·.2)) (cs.map (·.2)) st.grace now) = (os.take i).filterMap (dueF (xs.map (·.2)) (cs.map (·.2)) st.grace now) := fun e => by
      rw [fm_take hi, e]
      exact List.append_nil _
    wtm_at "rd"
    refine us_Book_of (hK.k0 k3) fun v hv => ?_
    have efy := fdT_snd Sy.s os[i] xs
    cases ey : fdT Sy.s xs os[i] with
    | none =>
      rw [ey] at hv efy
      obtain rfl : v = .non := hv
      wtm_at "rd"
      refine ⟨⟨_, _, _, _, rfl⟩, ⟨ps, q1, by omega, ?_⟩, k3, hr1⟩
      rw [q3, skip]
      unfold dueF
      rw [efd, ← efy]
      rfl
    | some y =>
      rw [ey] at hv efy
      obtain ⟨t, rfl, ht⟩ := hv
      have efy' : fdS Sy.s (xs.map (·.2)) os[i] = some y.2 := efy.symm
      have eD : dueF (xs.map (·.2)) (cs.map (·.2)) st.grace now os[i] = if y.2.l = c.2.l ∧ y.2.m = ("suspect" : Str) ∧ st.grace ≤ now - c.2.a then some ⟨os[i], c.2.l, "dead", y.2.w⟩ else none := by
        unfold dueF
        rw [efd, efy']
      have ht1 : H1 t = some (.tup [.int y.2.s, .int y.2.l, .str y.2.m, .str y.2.w]) := ht
      have skipD : ¬ (y.2.l = c.2.l ∧ y.2.m = ("suspect" : Str) ∧ st.grace ≤ now - c.2.a) → (os.take (i + 1)).filterMap (dueF (xs.map (·.2)) (cs.map (·.2)) st.grace now) = (os.take i).filterMap (dueF (xs.map (·.2)) (cs.map (·.2)) st.grace now) := fun z => skip (by rw [eD, if_neg z])
      wtm_at "rd"
      refine ite_n (fun h => ?_) (fun h4 => ?_)
      · wtm_at "rd"
        exact ⟨⟨_, _, _, _, rfl⟩, ⟨ps, q1, by omega, by rw [q3, skipD fun z => h z.1]⟩, k3, hr1⟩
      wtm_at "rd"
      refine ite_n (fun h => ?_) (fun h5 => ?_)
      · wtm_at "rd"
        exact ⟨⟨_, _, _, _, rfl⟩, ⟨ps, q1, by omega, by rw [q3, skipD fun z => h z.2.1]⟩, k3, hr1⟩
      wtm_at "rd"
      refine ite_d (fun h6 => ?_) (fun h => ?_)
      · wtm_at "rd"
        refine ⟨sz1000 (by simp), fun u nu => ?_⟩
        have q4 := q1.k0 (Kp.new (o := .tup [.int os[i], .int c.2.l, .str "dead", .str y.2.w]) nu)
        have hF2 := q4.at_
        wtm_at "rd"
        refine ⟨⟨_, _, _, _, rfl⟩, ⟨ps ++ [(u, ⟨os[i], c.2.l, "dead", y.2.w⟩)], q4.snoc upd_same, ?_, ?_⟩, (k3.nw nu).mine nF, ?_⟩
        · rw [List.length_append]
          exact Nat.succ_le_succ q2
        · rw [List.map_append, q3, fm_take hi, eD, if_pos ⟨h4, h5, h6⟩]
          rfl
        · have z1 : upd H1 u (.tup [.int os[i], .int c.2.l, .str "dead", .str y.2.w]) r = some (.lst (os.map V.int)) := hu_ne (ne_of_none hr1 nu) hr1
          exact hu_ne (Ne.symm hFr) z1
      · wtm_at "rd"
        exact ⟨⟨_, _, _, _, rfl⟩, ⟨ps, q1, by omega, by rw [q3, skipD fun z => h z.2.2]⟩, k3, hr1⟩
  · rintro σ H1 ⟨⟨v4, v5, v6, v7, rfl⟩, ⟨ps, q1, q2, q3⟩, k3, hr1⟩
    wtm_at "rd"
    rw [List.take_length, eo] at q3
    exact kk F ps H1 q1 q3 k3 nF
theorem c_Doubts_due (T : Cx K mg) (B : Tb P w K mg base) : MetX P w K mg base CX0 3 (ga K "Doubts") "due" (sp_Doubts_due K) [] := by
  obtain ⟨fd, F, ok⟩ := f_Doubts_due (P := P) (w := w) (base := base) T B
  exact ⟨_, fd, p_Doubts_due, [], cl_Doubts T, mt_Doubts_due T, ok, FunD.bindsN F fun _ _ _ _ _ _ us hl => match us, hl with | [_, _, _], _ => rfl, .nil⟩
end
section
variable {P : Program} {w : World} {K : PySem.W.Frag} {mg : Str → Option Value} {base : Heap}
def sp_l_marks (K : PySem.W.Frag) : Sp := fun vs H Q E => vs = [] ∧ (∀ r H1, H1 r = some (.lst (MK.map V.str)) → Kp [] H H1 → H r = none → Q (.ref r) H1)
theorem us_l_marks {K : PySem.W.Frag} {H : Hp} {Q : VK} {E : XK}   (kk : ∀ r H1, H1 r = some (.lst (MK.map V.str)) → Kp [] H H1 → H r = none → Q (.ref r) H1) : sp_l_marks K [] H Q E := ⟨rfl, kk⟩
theorem f_l_marks (T : Cx K mg) (B : Tb P w K mg base) : ∃ fd, FunD K "_law_marks" "_law_marks" (defArgs s_l_marks) (defBody s_l_marks) (defScope s_l_marks) (d_l_marks.dvs K) (d_l_marks.kws K) (fAd K d_l_marks.at_) fd ∧ FnOk P w K mg base CX0 1 (fAd K d_l_marks.at_) fd p_l_marks (sp_l_marks K) := by
  obtain ⟨fd, F⟩ := T.says.def_ 22 (d := d_l_marks) rfl
  refine ⟨fd, F, fnD F sc_l_marks (fun vs H Q E h => by
    obtain ⟨rfl, _⟩ := h
    rfl) fun cdv A outer s H vs Q E hr h => ?_⟩
  have hu := hu_of hr
  obtain ⟨rfl, kk⟩ := h
  refine ⟨_, (pss_one (ps_ret (pe_lst (pa_cons pe_str (pa_cons pe_str (pa_cons pe_str (pa_cons pe_str pa_nil))))))), ?_⟩
  rw [show L2.start n_l_marks [] = [] from rfl]
  try dsimp only [cxOf, Cx.nox, Cx.wish, List.map]

  wtm_at "rd"
  refine ⟨sz1000 (by simp), fun r nr => ?_⟩
  exact kk r _ upd_same (Kp.new nr) nr
theorem c_l_marks (T : Cx K mg) (B : Tb P w K mg base) : CalX P w K mg base CX0 1 "_law_marks" (sp_l_marks K) [] := by
  obtain ⟨fd, F, ok⟩ := f_l_marks (P := P) (w := w) (base := base) T B
  exact ⟨_, fd, p_l_marks, [], ok, gl_l_marks T, F.kp, FunD.bindsN F fun _ _ _ _ _ _ us hl => match us, hl with | [], _ => rfl, .nil⟩
end
section
variable {P : Program} {w : World} {K : PySem.W.Frag} {mg : Str → Option Value} {base : Heap}
def sp_l_mark (K : PySem.W.Frag) : Sp := fun vs H Q E => ∃ (p c : Addr), vs = [.ref p] ∧ (Box H p c) ∧ (∀ n H1, 0 ≤ n → n < 4 → Box H1 p c → Kp [p] H H1 → Q (.int n) H1)
theorem us_l_mark {K : PySem.W.Frag} {H : Hp} {Q : VK} {E : XK} {p c : Addr} (hB : Box H p c) (kk : ∀ n H1, 0 ≤ n → n < 4 → Box H1 p c → Kp [p] H H1 → Q (.int n) H1) : sp_l_mark K [.ref p] H Q E := ⟨_, _, rfl, hB, kk⟩
theorem f_l_mark (T : Cx K mg) (B : Tb P w K mg base) : ∃ fd, FunD K "_law_mark" "_law_mark" (defArgs s_l_mark) (defBody s_l_mark) (defScope s_l_mark) (d_l_mark.dvs K) (d_l_mark.kws K) (fAd K d_l_mark.at_) fd ∧ FnOk P w K mg base CX0 2 (fAd K d_l_mark.at_) fd p_l_mark (sp_l_mark K) := by
  have c_l_draw := c_l_draw (P := P) (w := w) (base := base) T B
  obtain ⟨fd, F⟩ := T.says.def_ 23 (d := d_l_mark) rfl
  refine ⟨fd, F, fnD F sc_l_mark (fun vs H Q E h => by
    obtain ⟨_, _, rfl, _⟩ := h
    rfl) fun cdv A outer s H vs Q E hr h => ?_⟩
  have hu := hu_of hr
  obtain ⟨p, c, rfl, hB, kk⟩ := h
  refine ⟨_, (pss_cons (ps_set (i := 1) sc_l_mark.nd rfl (by first | exact Or.inl rfl | exact Or.inr rfl) (pe_cal c_l_draw hr (by decide) (by rfl) pass0 (pa_cons (pv 0) (pa_cons pe_int pa_nil)))) (pss_cons (ps_if (pt_cmpR op_lt (pv 1) pe_int (nomark _)) (pss_one (ps_ret pe_int)) pss_nil) (pss_one (ps_ret (pe_ix ix_list (pe_lst (pa_cons pe_int (pa_cons pe_int (pa_cons pe_int pa_nil)))) (pe_op op_sub (pv 1) pe_int) (fun _ _ => rfl)))))), ?_⟩
  rw [show L2.start n_l_mark [.ref p] = [some (.ref p), none] from rfl]
  try dsimp only [cxOf, Cx.nox, Cx.wish, List.map]

  wtm_at "rd"
  refine us_l_draw hB (by decide) (by decide) fun n H1 n0 n1 B1 k1 => ?_
  wtm_at "rd"
  refine ite_d (fun h => ?_) (fun h => ?_)
  · wtm_at "rd"
    exact kk _ _ (by decide) (by decide) B1 k1
  · wtm_at "rd"
    refine ⟨sz1000 (by simp), fun r nr => ?_⟩
    wtm_at "rd"
    have k2 : Kp [p] H (upd H1 r (.lst [.int 0, .int 2, .int 3])) := k1.nw nr
    have : n = 3 ∨ n = 4 ∨ n = 5 := by omega
    rcases this with rfl | rfl | rfl
    · refine rd_ixL (SqL.of upd_same) (by rfl) ?_
      exact kk _ _ (by decide) (by decide) (B1.new nr) k2
    · refine rd_ixL (SqL.of upd_same) (by rfl) ?_
      exact kk _ _ (by decide) (by decide) (B1.new nr) k2
    · refine rd_ixL (SqL.of upd_same) (by rfl) ?_
      exact kk _ _ (by decide) (by decide) (B1.new nr) k2
theorem c_l_mark (T : Cx K mg) (B : Tb P w K mg base) : CalX P w K mg base CX0 2 "_law_mark" (sp_l_mark K) [] := by
  obtain ⟨fd, F, ok⟩ := f_l_mark (P := P) (w := w) (base := base) T B
  exact ⟨_, fd, p_l_mark, [], ok, gl_l_mark T, F.kp, FunD.bindsN F fun _ _ _ _ _ _ us hl => match us, hl with | [_], _ => rfl, .nil⟩
end
section
variable {P : Program} {w : World} {K : PySem.W.Frag} {mg : Str → Option Value} {base : Heap}
def sp_l_worth (K : PySem.W.Frag) : Sp := fun vs H Q E => ∃ (p c : Addr), vs = [.ref p] ∧ (Box H p c) ∧ (∀ t H1, wOk t = true → Box H1 p c → Kp [p] H H1 → Q (.str t) H1)
theorem us_l_worth {K : PySem.W.Frag} {H : Hp} {Q : VK} {E : XK} {p c : Addr} (hB : Box H p c) (kk : ∀ t H1, wOk t = true → Box H1 p c → Kp [p] H H1 → Q (.str t) H1) : sp_l_worth K [.ref p] H Q E := ⟨_, _, rfl, hB, kk⟩
theorem f_l_worth (T : Cx K mg) (B : Tb P w K mg base) : ∃ fd, FunD K "_law_worth" "_law_worth" (defArgs s_l_worth) (defBody s_l_worth) (defScope s_l_worth) (d_l_worth.dvs K) (d_l_worth.kws K) (fAd K d_l_worth.at_) fd ∧ FnOk P w K mg base CX0 2 (fAd K d_l_worth.at_) fd p_l_worth (sp_l_worth K) := by
  have c_l_draw := c_l_draw (P := P) (w := w) (base := base) T B
  obtain ⟨fd, F⟩ := T.says.def_ 24 (d := d_l_worth) rfl
  refine ⟨fd, F, fnD F sc_l_worth (fun vs H Q E h => by
    obtain ⟨_, _, rfl, _⟩ := h
    rfl) fun cdv A outer s H vs Q E hr h => ?_⟩
  have hu := hu_of hr
  obtain ⟨p, c, rfl, hB, kk⟩ := h
  refine ⟨_, (pss_cons (ps_set (i := 1) sc_l_worth.nd rfl (by first | exact Or.inl rfl | exact Or.inr rfl) pe_str) (pss_cons (ps_set (i := 2) sc_l_worth.nd rfl (by first | exact Or.inl rfl | exact Or.inr rfl) (pe_cal c_l_draw hr (by decide) (by rfl) pass0 (pa_cons (pv 0) (pa_cons pe_int pa_nil)))) (C8.pss_cut (ps_if (pt_cmpR op_eq (pe_cal c_l_draw hr (by decide) (by rfl) pass0 (pa_cons (pv 0) (pa_cons pe_int pa_nil))) pe_int (nomark _)) (pss_one (ps_set (i := 2) sc_l_worth.nd rfl (by first | exact Or.inl rfl | exact Or.inr rfl) (pe_cal c_l_draw hr (by decide) (by rfl) pass0 (pa_cons (pv 0) (pa_cons pe_int pa_nil))))) pss_nil) (pss_one (ps_ret (pe_join' pe_str (pe_lc (own := [("_law_k", 3)]) (g := (gName 3)) (tt := tYes) rfl sc_l_worth.nd (pi_range1 (by rfl) (fr_range T) (pa_cons (pv 2) pa_nil)) (blkOk_by (own := [("_law_k", 3)]) (N := n_l_worth) (sc := defScope s_l_worth) (by decide +kernel)) (fun _ _ _ _ _ => (pg_name (i := 3) sc_l_worth.nd rfl (by first | exact Or.inl rfl | exact Or.inr rfl))) (fun _ _ _ _ _ => pts_nil) (fun _ _ _ _ _ => (pe_ix ix_str (pv 1) (pe_cal c_l_draw hr (by decide) (by rfl) pass0 (pa_cons (pv 0) (pa_cons pe_int pa_nil))) (fun _ _ => rfl)))))))))), ?_⟩
  rw [show L2.start n_l_worth [.ref p] = [some (.ref p), none, none, none] from rfl]
  try dsimp only [cxOf, Cx.nox, Cx.wish, List.map]

  wtm_at "rd"
  refine us_l_draw hB (by decide) (by decide) fun n H1 n0 n1 B1 k1 => ?_
  wtm_at "rd"
  refine rd_cut (fun σ H2 => ∃ (v : Option V) (m : Int), σ = [some (.ref p), some (.str SIGNS), some (.int m), v] ∧ 0 ≤ m ∧ m ≤ 12 ∧ Box H2 p c ∧ Kp [p] H H2) ?_ ?_
  · wtm_at "rd"
    refine us_l_draw B1 (by decide) (by decide) fun n2 H2 n20 n21 B2 k2 => ?_
    wtm_at "rd"
    refine ite_d (fun h => ?_) (fun h => ?_)
    · wtm_at "rd"
      refine us_l_draw B2 (by decide) (by decide) fun n3 H3 n30 n31 B3 k3 => ?_
      wtm_at "rd"
      exact ⟨_, n3, rfl, n30, by omega, B3, (k1.trans k2).trans k3⟩
    · wtm_at "rd"
      exact ⟨_, n, rfl, n0, by omega, B2, k1.trans k2⟩
  · rintro σ H2 ⟨v, m, rfl, m0, m1, B2, k2⟩
    wtm_at "rd"
    intro D nD
    refine lcR_by (fun i H3 => (∃ cs : List Nat, cs.length = i ∧ (∀ c, c ∈ cs → c ∈ SIGNS.cps.toList) ∧ H3 D = some (.lst ((cs.map fun c => (⟨#[c]⟩ : Str)).map V.str))) ∧ Box H3 p c ∧ Kp [p] H H3) ⟨⟨[], rfl, (fun c hc => by cases hc), upd_same⟩, B2.new nD, k2.nw nD⟩ (fun i H3 hi q => ?_) (fun H3 q => ?_)
    · obtain ⟨⟨cs, c1, c2, hD3⟩, B3, k3⟩ := q
      wtm_at "rd"
      refine ⟨rfl, ?_⟩
      wtm_at "rd"
      refine us_l_draw B3 (by decide) (by decide) fun n4 H4 n40 n41 B4 k4 => ?_
      obtain ⟨c', ec, mc⟩ := signs_at n40 n41
      wtm_at "rd"
      refine rd_ixS (sz1000 (show SIGNS.length ≤ 1000000 by decide +kernel)) ec ?_
      have hD4 := k4.g1 (Ne.symm (B2.ne1 nD)) hD3
      refine ⟨_, hD4, szlt (by simp; omega), ⟨cs ++ [c'], by simp [c1], fun z hz => ?_, ?_⟩, ?_, ?_⟩
      · rcases List.mem_append.mp hz with h | h
        · exact c2 z h
        · rw [List.mem_singleton.mp h]
          exact mc
      · rw [upd_same, List.map_append, List.map_append]
        rfl
      · exact B4.ofL hD4 (B2.ne1 nD) (B2.ne2 nD)
      · exact (k3.trans k4).mine (k2.back nD fun z => B2.ne1 nD (List.mem_singleton.mp z).symm)
    · obtain ⟨⟨cs, c1, c2, hD3⟩, B3, k3⟩ := q
      wtm_at "rd"
      refine rd_join (ys := cs.map fun c => (⟨#[c]⟩ : Str)) hD3 ?_ ?_
      · have e : (cs.map fun c => (⟨#[c]⟩ : Str)).map (·.length) = cs.map fun _ => 1 := by
          rw [List.map_map]
          rfl
        rw [e, List.length_map, show (("" : Str)).length = 0 from rfl, Nat.mul_zero, Nat.add_zero, List.map_const', List.sum_replicate_nat]
        omega
      · rw [show ("" : Str) = (⟨#[]⟩ : Str) from rfl, join1]
        exact kk _ _ (wOk_of (by omega) c2) B3 k3
theorem c_l_worth (T : Cx K mg) (B : Tb P w K mg base) : CalX P w K mg base CX0 2 "_law_worth" (sp_l_worth K) [] := by
  obtain ⟨fd, F, ok⟩ := f_l_worth (P := P) (w := w) (base := base) T B
  exact ⟨_, fd, p_l_worth, [], ok, gl_l_worth T, F.kp, FunD.bindsN F fun _ _ _ _ _ _ us hl => match us, hl with | [_], _ => rfl, .nil⟩
end
section
variable {P : Program} {w : World} {K : PySem.W.Frag} {mg : Str → Option Value} {base : Heap}
def sp_l_setting (K : PySem.W.Frag) : Sp := fun vs H Q E => ∃ (p c : Addr) (bits : Int), vs = [.ref p, .int bits] ∧ (Box H p c) ∧ (1 ≤ bits) ∧ (bits ≤ 8) ∧ (∀ t sd (st : Stg) H1, H1 t = some (.tup [.ref sd, .int st.grace]) → SetAt K H1 sd st → st.bits = bits → Box H1 p c → Kp [p] H H1 → Q (.ref t) H1)
theorem us_l_setting {K : PySem.W.Frag} {H : Hp} {Q : VK} {E : XK} {p c : Addr} {bits : Int} (hB : Box H p c) (b0 : 1 ≤ bits) (b1 : bits ≤ 8) (kk : ∀ t sd (st : Stg) H1, H1 t = some (.tup [.ref sd, .int st.grace]) → SetAt K H1 sd st → st.bits = bits → Box H1 p c → Kp [p] H H1 → Q (.ref t) H1) : sp_l_setting K [.ref p, .int bits] H Q E := ⟨_, _, _, rfl, hB, b0, b1, kk⟩
theorem f_l_setting (T : Cx K mg) (B : Tb P w K mg base) : ∃ fd, FunD K "_law_setting" "_law_setting" (defArgs s_l_setting) (defBody s_l_setting) (defScope s_l_setting) (d_l_setting.dvs K) (d_l_setting.kws K) (fAd K d_l_setting.at_) fd ∧ FnOk P w K mg base CX0 4 (fAd K d_l_setting.at_) fd p_l_setting (sp_l_setting K) := by
  have c_l_draw := c_l_draw (P := P) (w := w) (base := base) T B
  have c_Setting_init := c_Setting_init (P := P) (w := w) (base := base) T B
  have c_Setting_init_grace := c_Setting_init_grace (P := P) (w := w) (base := base) T B
  obtain ⟨fd, F⟩ := T.says.def_ 25 (d := d_l_setting) rfl
  refine ⟨fd, F, fnD F sc_l_setting (fun vs H Q E h => by
    obtain ⟨_, _, _, rfl, _⟩ := h
    rfl) fun cdv A outer s H vs Q E hr h => ?_⟩
  have hu := hu_of hr
  obtain ⟨p, c, bits, rfl, hB, b0, b1, kk⟩ := h
  refine ⟨_, (pss_cons (ps_set (i := 2) sc_l_setting.nd rfl (by first | exact Or.inl rfl | exact Or.inr rfl) (pe_cal c_l_draw hr (by decide) (by rfl) pass0 (pa_cons (pv 0) (pa_cons pe_int pa_nil)))) (pss_cons (ps_set (i := 3) sc_l_setting.nd rfl (by first | exact Or.inl rfl | exact Or.inr rfl) (pe_op op_add pe_int (pe_cal c_l_draw hr (by decide) (by rfl) pass0 (pa_cons (pv 0) (pa_cons pe_int pa_nil))))) (pss_cons (ps_if (pt_cmpR op_eq (pv 2) pe_int (nomark _)) (pss_one (ps_ret (pe_tup (pa_cons (pe_mak c_Setting_init hr (by decide) (by rfl) pass0 (pa_cons (pv 1) (pa_cons (pe_op op_add pe_int (pe_cal c_l_draw hr (by decide) (by rfl) pass0 (pa_cons (pv 0) (pa_cons pe_int pa_nil)))) (pa_cons (pv 3) pa_nil)))) (pa_cons pe_int pa_nil))))) pss_nil) (pss_cons (ps_set (i := 4) sc_l_setting.nd rfl (by first | exact Or.inl rfl | exact Or.inr rfl) (pe_op op_add pe_int (pe_cal c_l_draw hr (by decide) (by rfl) pass0 (pa_cons (pv 0) (pa_cons pe_int pa_nil))))) (C8.pss_cut (ps_if (pt_cmpR op_eq (pv 2) pe_int (nomark _)) (pss_one (ps_set (i := 4) sc_l_setting.nd rfl (by first | exact Or.inl rfl | exact Or.inr rfl) (pe_op op_add pe_int (pe_cal c_l_draw hr (by decide) (by rfl) pass0 (pa_cons (pv 0) (pa_cons pe_int pa_nil)))))) pss_nil) (pss_one (ps_ret (pe_tup (pa_cons (pe_makKX c_Setting_init_grace hr (by decide) (by rfl) pass0 (pa_cons (pv 1) (pa_cons (pe_op op_add pe_int (pe_cal c_l_draw hr (by decide) (by rfl) pass0 (pa_cons (pv 0) (pa_cons pe_int pa_nil)))) (pa_cons (pv 3) pa_nil))) (pk_cons (pv 4) pk_nil)) (pa_cons (pv 4) pa_nil)))))))))), ?_⟩
  rw [show L2.start n_l_setting [.ref p, .int bits] = [some (.ref p), some (.int bits), none, none, none] from rfl]
  try dsimp only [cxOf, Cx.nox, Cx.wish, List.map]

  wtm_at "rd"
  refine us_l_draw hB (by decide) (by decide) fun way H1 w0 w1 B1 k1 => ?_
  wtm_at "rd"
  refine us_l_draw B1 (by decide) (by decide) fun room H2 r0 r1 B2 k2 => ?_
  wtm_at "rd"
  refine ite_d (fun h => ?_) (fun h => ?_)
  · wtm_at "rd"
    refine us_l_draw B2 (by decide) (by decide) fun pt H3 p0 p1 B3 k3 => ?_
    wtm_at "rd"
    intro x dx nx ndx ne
    refine us_Setting_init (s := ⟨bits, 1 + pt, 1 + room, 6, 1⟩) upd_same ⟨b0, b1, by show 1 ≤ 1 + pt; omega, by show 1 + pt ≤ 6; omega, by show 1 ≤ 1 + room; omega, by show 1 + room ≤ 64; omega, by show (1 : Int) ≤ 6; omega, by show (6 : Int) ≤ 200; omega, by show (0 : Int) ≤ 1; decide, by show (1 : Int) ≤ 3; decide⟩ fun H4 S4 k4 => ⟨rfl, ?_⟩
    have k34 := made_kp nx ndx ne k4
    wtm_at "rd"
    refine ⟨sz1000 (by simp), fun t nt => ?_⟩
    exact kk t x _ _ upd_same (S4.k0 (Kp.new nt)) rfl ((B3.k0 k34).new nt) ((((k1.trans k2).trans k3).trans k34.of0).nw nt)
  · wtm_at "rd"
    refine us_l_draw B2 (by decide) (by decide) fun wt H3 p0 p1 B3 k3 => ?_
    wtm_at "rd"
    refine rd_cut (fun σ H4 => ∃ m : Int, σ = [some (.ref p), some (.int bits), some (.int way), some (.int (1 + room)), some (.int m)] ∧ 1 ≤ m ∧ m ≤ 200 ∧ Box H4 p c ∧ Kp [p] H H4) ?_ ?_
    · wtm_at "rd"
      refine ite_d (fun h => ?_) (fun h => ?_)
      · wtm_at "rd"
        refine us_l_draw B3 (by decide) (by decide) fun wt2 H4 q0 q1 B4 k4 => ?_
        wtm_at "rd"
        exact ⟨_, rfl, by omega, by omega, B4, ((k1.trans k2).trans k3).trans k4⟩
      · wtm_at "rd"
        exact ⟨_, rfl, by omega, by omega, B3, (k1.trans k2).trans k3⟩
    · rintro σ H4 ⟨m, rfl, m0, m1, B4, k4⟩
      wtm_at "rd"
      refine us_l_draw B4 (by decide) (by decide) fun pt H5 q0 q1 B5 k5 => ?_
      wtm_at "rd"
      refine ⟨rfl, rfl, fun x dx nx ndx ne => ?_⟩
      refine us_Setting_init (s := ⟨bits, 1 + pt, 1 + room, m, 1⟩) upd_same ⟨b0, b1, by show 1 ≤ 1 + pt; omega, by show 1 + pt ≤ 6; omega, by show 1 ≤ 1 + room; omega, by show 1 + room ≤ 64; omega, by show (1 : Int) ≤ m; omega, by show (m : Int) ≤ 200; omega, by show (0 : Int) ≤ 1; decide, by show (1 : Int) ≤ 3; decide⟩ fun H6 S6 k6 => ⟨rfl, ?_⟩
      have k56 := made_kp nx ndx ne k6
      wtm_at "rd"
      refine ⟨sz1000 (by simp), fun t nt => ?_⟩
      exact kk t x _ _ upd_same (S6.k0 (Kp.new nt)) rfl ((B5.k0 k56).new nt) (((k4.trans k5).trans k56.of0).nw nt)
theorem c_l_setting (T : Cx K mg) (B : Tb P w K mg base) : CalX P w K mg base CX0 4 "_law_setting" (sp_l_setting K) [] := by
  obtain ⟨fd, F, ok⟩ := f_l_setting (P := P) (w := w) (base := base) T B
  exact ⟨_, fd, p_l_setting, [], ok, gl_l_setting T, F.kp, FunD.bindsN F fun _ _ _ _ _ _ us hl => match us, hl with | [_, _], _ => rfl, .nil⟩
end
section
variable {P : Program} {w : World} {K : PySem.W.Frag} {mg : Str → Option Value} {base : Heap}
def sp_l_next_saying (K : PySem.W.Frag) : Sp := fun vs H Q E => ∃ (p c : Addr) (a : Ad) (st : Stg) (base : Int) (pool : List Int) (xs : List (Addr × Sy)) (c1 c2 : List (Addr × Ck)) (n m : Nat) (spot : Int), vs = [.ref p, .ref a.si, .int spot] ∧ (Box H p c) ∧ (One K H a st base pool xs c1 c2 n m) ∧ (0 ≤ spot ∧ spot < st.ring) ∧ (n ≤ 100) ∧ (∀ t y H1, SyAt H1 t y → y.s = spot → syOk st.ring y = true → y.l ≤ base + 3 + 2 * n + 2 → rkO ((fdT Sy.s xs spot).map (·.2)) < rk y → Box H1 p c → Kp [p] H H1 → Q (.ref t) H1)
theorem us_l_next_saying {K : PySem.W.Frag} {H : Hp} {Q : VK} {E : XK} {p c : Addr} {a : Ad} {st : Stg} {base : Int} {pool : List Int} {xs : List (Addr × Sy)} {c1 c2 : List (Addr × Ck)} {n m : Nat} {spot : Int} (hB : Box H p c) (O : One K H a st base pool xs c1 c2 n m) (s0 : 0 ≤ spot ∧ spot < st.ring) (hn : n ≤ 100) (kk : ∀ t y H1, SyAt H1 t y → y.s = spot → syOk st.ring y = true → y.l ≤ base + 3 + 2 * n + 2 → rkO ((fdT Sy.s xs spot).map (·.2)) < rk y → Box H1 p c → Kp [p] H H1 → Q (.ref t) H1) : sp_l_next_saying K [.ref p, .ref a.si, .int spot] H Q E := ⟨_, _, _, _, _, _, _, _, _, _, _, _, rfl, hB, O, s0, hn, kk⟩
theorem f_l_next_saying (T : Cx K mg) (B : Tb P w K mg base) : ∃ fd, FunD K "_law_next_saying" "_law_next_saying" (defArgs s_l_next_saying) (defBody s_l_next_saying) (defScope s_l_next_saying) (d_l_next_saying.dvs K) (d_l_next_saying.kws K) (fAd K d_l_next_saying.at_) fd ∧ FnOk P w K mg base CX0 3 (fAd K d_l_next_saying.at_) fd p_l_next_saying (sp_l_next_saying K) := by
  have c_l_mark := c_l_mark (P := P) (w := w) (base := base) T B
  have c_l_draw := c_l_draw (P := P) (w := w) (base := base) T B
  have c_l_marks := c_l_marks (P := P) (w := w) (base := base) T B
  have c_l_worth := c_l_worth (P := P) (w := w) (base := base) T B
  obtain ⟨fd, F⟩ := T.says.def_ 26 (d := d_l_next_saying) rfl
  refine ⟨fd, F, fnD F sc_l_next_saying (fun vs H Q E h => by
    obtain ⟨_, _, _, _, _, _, _, _, _, _, _, _, rfl, _⟩ := h
    rfl) fun cdv A outer s H vs Q E hr h => ?_⟩
  have hu := hu_of hr
  obtain ⟨p, c, a, st, base, pool, xs, c1, c2, n, m, spot, rfl, hB, O, s0, hn, kk⟩ := h
  refine ⟨_, (pss_cons (ps_set (i := 3) sc_l_next_saying.nd rfl (by first | exact Or.inl rfl | exact Or.inr rfl) (pe_dget hu (pv 1) pe_str (fun _ _ => rfl))) (pss_cons (ps_set (i := 4) sc_l_next_saying.nd rfl (by first | exact Or.inl rfl | exact Or.inr rfl) (pe_cal c_l_mark hr (by decide) (by rfl) pass0 (pa_cons (pv 0) pa_nil))) (pss_cons (ps_set (i := 5) sc_l_next_saying.nd rfl (by first | exact Or.inl rfl | exact Or.inr rfl) (pe_cmpR op_eq (pe_cal c_l_draw hr (by decide) (by rfl) pass0 (pa_cons (pv 0) (pa_cons pe_int pa_nil))) pe_int (nomark _))) (pss_cons (ps_if (pt_cmp (pc_dnotin hu (pv 2) (pv 3))) (pss_one (ps_ret (pe_tup (pa_cons (pv 2) (pa_cons (pe_op op_add (pe_dget hu (pv 1) pe_str (fun _ _ => rfl)) (pe_cal c_l_draw hr (by decide) (by rfl) pass0 (pa_cons (pv 0) (pa_cons pe_int pa_nil)))) (pa_cons (pe_ix ix_list (pe_cal0 c_l_marks hr (by decide) (by rfl) pass0) (pv 4) (fun _ _ => rfl)) (pa_cons (pe_cal c_l_worth hr (by decide) (by rfl) pass0 (pa_cons (pv 0) pa_nil)) pa_nil))))))) pss_nil) (pss_cons (ps_set (i := 6) sc_l_next_saying.nd rfl (by first | exact Or.inl rfl | exact Or.inr rfl) (pe_dget hu (pv 3) (pv 2) (fun _ _ => rfl))) (pss_cons (ps_if (PW.pt (pw_and (pt_val (pv 5)) (pw_and1 (pt_cmpR op_gt (pv 4) (pe_bm PySem.F.plainAttrs_list PySem.F.slot_list_index PySem.F.type_list_index mt_index (pe_cal0 c_l_marks hr (by decide) (by rfl) pass0) (pa_cons (pe_ix ix_tup (pv 6) pe_int (fun _ _ => rfl)) pa_nil)) (nomark _))))) (pss_one (ps_ret (pe_tup (pa_cons (pv 2) (pa_cons (pe_ix ix_tup (pv 6) pe_int (fun _ _ => rfl)) (pa_cons (pe_ix ix_list (pe_cal0 c_l_marks hr (by decide) (by rfl) pass0) (pv 4) (fun _ _ => rfl)) (pa_cons (pe_ix ix_tup (pv 6) pe_int (fun _ _ => rfl)) pa_nil))))))) pss_nil) (pss_one (ps_ret (pe_tup (pa_cons (pv 2) (pa_cons (pe_op op_add (pe_op op_add (pe_ix ix_tup (pv 6) pe_int (fun _ _ => rfl)) pe_int) (pe_cal c_l_draw hr (by decide) (by rfl) pass0 (pa_cons (pv 0) (pa_cons pe_int pa_nil)))) (pa_cons (pe_ix ix_list (pe_cal0 c_l_marks hr (by decide) (by rfl) pass0) (pv 4) (fun _ _ => rfl)) (pa_cons (pe_cal c_l_worth hr (by decide) (by rfl) pass0 (pa_cons (pv 0) pa_nil)) pa_nil))))))))))))), ?_⟩
  rw [show L2.start n_l_next_saying [.ref p, .ref a.si, .int spot] = [some (.ref p), some (.ref a.si), some (.int spot), none, none, none, none] from rfl]
  try dsimp only [cxOf, Cx.nox, Cx.wish, List.map]

  have hM := MOST_eq
  have hb := O.bas
  have hsi := O.sid
  have hlr := O.lrw.at_
  have nsi := hB.dk hsi
  have nlr := hB.dk hlr
  have hv := kvT_val Sy.s spot xs
  wtm_at "rd"
  refine us_l_mark hB fun mh H1 m0 m1 B1 k1 => ?_
  wtm_at "rd"
  refine us_l_draw B1 (by decide) (by decide) fun sm H2 q0 q1 B2 k2 => ?_
  have k12 := k1.trans k2
  have hsi2 := k12.g1 nsi hsi
  have hlr2 := k12.g1 nlr hlr
  obtain ⟨mw, em, mm, ms⟩ := mk_in m0 m1
  have hst := stepM_b mm
  cases e : fdT Sy.s xs spot with
  | none =>
    rw [e] at hv kk
    have hv1 : valV (kvT Sy.s xs) (.inl spot) = none := hv
    wtm_at "rd"
    rw [hv1]
    refine ite_t rfl ?_
    wtm_at "rd"
    refine us_l_draw B2 (by decide) (by decide) fun lf H3 l0 l1 B3 k3 => ?_
    wtm_at "rd"
    refine us_l_marks fun r H4 hr k4 nr => ?_
    wtm_at "rd"
    refine us_l_worth (B3.k0 k4) fun wt H5 ow B5 k5 => ?_
    wtm_at "rd"
    refine ⟨sz1000 (by simp), fun t nt => ?_⟩
    refine kk t ⟨spot, base + lf, mw, wt⟩ _ upd_same rfl (syOk_iff.mpr ⟨⟨s0.1, by show spot ≤ st.ring - 1; omega⟩, ⟨by show 0 ≤ base + lf; omega, by show base + lf ≤ MOST; rw [hM]; omega⟩, mm, ow⟩) (by show base + lf ≤ _; omega) ?_ (B5.new nt) ((((k12.trans k3).trans k4.of0).trans k5).nw nt)
    exact rk_pos (y := ⟨spot, base + lf, mw, wt⟩) (by show 0 ≤ base + lf; omega) mm
  | some q =>
    rw [e] at hv kk
    have hv1 : valV (kvT Sy.s xs) (.inl spot) = some (.ref q.1) := hv
    have ok := O.ok q (fdT_some e).1
    obtain ⟨o1, o2, o3, o4⟩ := syOk_iff.mp ok.1
    have ol := ok.2
    have hq : H q.1 = some (.tup [.int q.2.s, .int q.2.l, .str q.2.m, .str q.2.w]) := O.lrw.find e
    have nq := hB.tup hq
    have hq2 := k12.g1 nq hq
    have k12' : Kp [p] H H2 := k12
    have hr0 : rkO (Option.map (·.2) (some q)) = 4 * q.2.l + stepM q.2.m := rfl
    have hst2 := stepM_b o3
    have hlate : ∀ H3, Box H3 p c → Kp [p] H H3 → H3 q.1 = some (.tup [.int q.2.s, .int q.2.l, .str q.2.m, .str q.2.w]) := fun H3 _ k => k.g1 nq hq
    wtm_at "rd"
    rw [hv1]
    refine ite_f rfl ?_
    wtm_at "rd"
    have late : ∀ (H3 : Hp) (Q2 : V → Hp → Prop), True := fun _ _ => trivial
    refine ite_d (fun h1 => ?_) (fun h1 => ?_)
    · wtm_at "rd"
      refine us_l_marks fun r H3 hr k3 nr => ?_
      obtain ⟨j, ej, sj, nj⟩ := mk_at o3
      have hq3 := k3.g0 hq2
      wtm_at "rd"
      refine rd_indexS (SqL.of hr) ej nj ?_
      wtm_at "rd"
      refine ite_d (fun h2 => ?_) (fun h2 => ?_)
      · wtm_at "rd"
        refine us_l_marks fun r2 H4 hr2 k4 nr2 => ?_
        have hq4 := k4.g0 hq3
        wtm_at "rd"
        refine ⟨sz1000 (by simp), fun t nt => ?_⟩
        refine kk t ⟨spot, q.2.l, mw, q.2.w⟩ _ upd_same rfl (syOk_iff.mpr ⟨⟨s0.1, by show spot ≤ st.ring - 1; omega⟩, o2, mm, o4⟩) (by show q.2.l ≤ _; omega) ?_ (((B2.k0 k3).k0 k4).new nt) (((k12.trans k3.of0).trans k4.of0).nw nt)
        show _ < 4 * q.2.l + stepM mw
        rw [hr0, ms, sj]
        omega
      · wtm_at "rd"
        refine us_l_draw (B2.k0 k3) (by decide) (by decide) fun lf H5 l0 l1 B5 k5 => ?_
        wtm_at "rd"
        refine us_l_marks fun r5 H6 hr5 k6 nr5 => ?_
        wtm_at "rd"
        refine us_l_worth (B5.k0 k6) fun wt H7 ow B7 k7 => ?_
        wtm_at "rd"
        refine ⟨sz1000 (by simp), fun t nt => ?_⟩
        refine kk t ⟨spot, q.2.l + 1 + lf, mw, wt⟩ _ upd_same rfl (syOk_iff.mpr ⟨⟨s0.1, by show spot ≤ st.ring - 1; omega⟩, ⟨by show 0 ≤ q.2.l + 1 + lf; omega, by show q.2.l + 1 + lf ≤ MOST; rw [hM]; omega⟩, mm, ow⟩) (by show q.2.l + 1 + lf ≤ _; omega) ?_ (B7.new nt) (((((k12.trans k3.of0).trans k5).trans k6.of0).trans k7).nw nt)
        show _ < 4 * (q.2.l + 1 + lf) + stepM mw
        rw [hr0]
        omega
    · wtm_at "rd"
      refine us_l_draw B2 (by decide) (by decide) fun lf H5 l0 l1 B5 k5 => ?_
      wtm_at "rd"
      refine us_l_marks fun r5 H6 hr5 k6 nr5 => ?_
      wtm_at "rd"
      refine us_l_worth (B5.k0 k6) fun wt H7 ow B7 k7 => ?_
      wtm_at "rd"
      refine ⟨sz1000 (by simp), fun t nt => ?_⟩
      refine kk t ⟨spot, q.2.l + 1 + lf, mw, wt⟩ _ upd_same rfl (syOk_iff.mpr ⟨⟨s0.1, by show spot ≤ st.ring - 1; omega⟩, ⟨by show 0 ≤ q.2.l + 1 + lf; omega, by show q.2.l + 1 + lf ≤ MOST; rw [hM]; omega⟩, mm, ow⟩) (by show q.2.l + 1 + lf ≤ _; omega) ?_ (B7.new nt) ((((k12.trans k5).trans k6.of0).trans k7).nw nt)
      show _ < 4 * (q.2.l + 1 + lf) + stepM mw
      rw [hr0]
      omega
theorem c_l_next_saying (T : Cx K mg) (B : Tb P w K mg base) : CalX P w K mg base CX0 3 "_law_next_saying" (sp_l_next_saying K) [] := by
  obtain ⟨fd, F, ok⟩ := f_l_next_saying (P := P) (w := w) (base := base) T B
  exact ⟨_, fd, p_l_next_saying, [], ok, gl_l_next_saying T, F.kp, FunD.bindsN F fun _ _ _ _ _ _ us hl => match us, hl with | [_, _, _], _ => rfl, .nil⟩
end
section
variable {P : Program} {w : World} {K : PySem.W.Frag} {mg : Str → Option Value} {base : Heap}
def sp_l_doubted_life (K : PySem.W.Frag) : Sp := fun vs H Q E => ∃ (p c : Addr) (a : Ad) (st : Stg) (base : Int) (pool : List Int) (xs : List (Addr × Sy)) (c1 c2 : List (Addr × Ck)) (n m : Nat) (spot : Int), vs = [.ref p, .ref a.si, .int spot] ∧ (Box H p c) ∧ (One K H a st base pool xs c1 c2 n m) ∧ (∀ n H1, Box H1 p c → Kp [p] H H1 → Q (.int n) H1)
theorem us_l_doubted_life {K : PySem.W.Frag} {H : Hp} {Q : VK} {E : XK} {p c : Addr} {a : Ad} {st : Stg} {base : Int} {pool : List Int} {xs : List (Addr × Sy)} {c1 c2 : List (Addr × Ck)} {n m : Nat} {spot : Int} (hB : Box H p c) (O : One K H a st base pool xs c1 c2 n m) (kk : ∀ n H1, Box H1 p c → Kp [p] H H1 → Q (.int n) H1) : sp_l_doubted_life K [.ref p, .ref a.si, .int spot] H Q E := ⟨_, _, _, _, _, _, _, _, _, _, _, _, rfl, hB, O, kk⟩
theorem f_l_doubted_life (T : Cx K mg) (B : Tb P w K mg base) : ∃ fd, FunD K "_law_doubted_life" "_law_doubted_life" (defArgs s_l_doubted_life) (defBody s_l_doubted_life) (defScope s_l_doubted_life) (d_l_doubted_life.dvs K) (d_l_doubted_life.kws K) (fAd K d_l_doubted_life.at_) fd ∧ FnOk P w K mg base CX0 2 (fAd K d_l_doubted_life.at_) fd p_l_doubted_life (sp_l_doubted_life K) := by
  have c_l_draw := c_l_draw (P := P) (w := w) (base := base) T B
  obtain ⟨fd, F⟩ := T.says.def_ 27 (d := d_l_doubted_life) rfl
  refine ⟨fd, F, fnD F sc_l_doubted_life (fun vs H Q E h => by
    obtain ⟨_, _, _, _, _, _, _, _, _, _, _, _, rfl, _⟩ := h
    rfl) fun cdv A outer s H vs Q E hr h => ?_⟩
  have hu := hu_of hr
  obtain ⟨p, c, a, st, base, pool, xs, c1, c2, n, m, spot, rfl, hB, O, kk⟩ := h
  refine ⟨_, (pss_cons (ps_set (i := 3) sc_l_doubted_life.nd rfl (by first | exact Or.inl rfl | exact Or.inr rfl) (pe_cal c_l_draw hr (by decide) (by rfl) pass0 (pa_cons (pv 0) (pa_cons pe_int pa_nil)))) (pss_cons (ps_set (i := 4) sc_l_doubted_life.nd rfl (by first | exact Or.inl rfl | exact Or.inr rfl) (pe_dget hu (pv 1) pe_str (fun _ _ => rfl))) (pss_cons (ps_if (PW.pt (pw_or (pt_cmpR op_eq (pv 3) pe_int (nomark _)) (pw_or1 (pt_cmp (pc_dnotin hu (pv 2) (pv 4)))))) (pss_one (ps_ret (pe_op op_add (pe_dget hu (pv 1) pe_str (fun _ _ => rfl)) (pe_cal c_l_draw hr (by decide) (by rfl) pass0 (pa_cons (pv 0) (pa_cons pe_int pa_nil)))))) pss_nil) (pss_cons (ps_if (pt_cmpR op_eq (pv 3) pe_int (nomark _)) (pss_one (ps_ret (pe_op op_add (pe_ix ix_tup (pe_dget hu (pv 4) (pv 2) (fun _ _ => rfl)) pe_int (fun _ _ => rfl)) pe_int))) pss_nil) (pss_cons (ps_if (pt_cmpR op_eq (pv 3) pe_int (nomark _)) (pss_one (ps_ret (pe_callB (call_max2' rfl) (by rfl) (fr_max T) (by decide +kernel) (pa_cons pe_int (pa_cons (pe_op op_sub (pe_ix ix_tup (pe_dget hu (pv 4) (pv 2) (fun _ _ => rfl)) pe_int (fun _ _ => rfl)) pe_int) pa_nil))))) pss_nil) (pss_one (ps_ret (pe_ix ix_tup (pe_dget hu (pv 4) (pv 2) (fun _ _ => rfl)) pe_int (fun _ _ => rfl))))))))), ?_⟩
  rw [show L2.start n_l_doubted_life [.ref p, .ref a.si, .int spot] = [some (.ref p), some (.ref a.si), some (.int spot), none, none] from rfl]
  try dsimp only [cxOf, Cx.nox, Cx.wish, List.map]

  have hsi := O.sid
  have hlr := O.lrw.at_
  have nsi := hB.dk hsi
  have nlr := hB.dk hlr
  have hv := kvT_val Sy.s spot xs
  wtm_at "rd"
  refine us_l_draw hB (by decide) (by decide) fun way H1 w0 w1 B1 k1 => ?_
  have hsi1 := k1.g1 nsi hsi
  have hlr1 := k1.g1 nlr hlr
  wtm_at "rd"
  refine ite_d (fun h => ?_) (fun h => ?_)
  · wtm_at "rd"
    refine us_l_draw B1 (by decide) (by decide) fun lf H2 l0 l1 B2 k2 => ?_
    wtm_at "rd"
    exact kk _ _ B2 (k1.trans k2)
  cases e : fdT Sy.s xs spot with
  | none =>
    rw [e] at hv
    have hv1 : valV (kvT Sy.s xs) (.inl spot) = none := hv
    wtm_at "rd"
    rw [hv1]
    refine ite_t rfl ?_
    wtm_at "rd"
    refine us_l_draw B1 (by decide) (by decide) fun lf H2 l0 l1 B2 k2 => ?_
    wtm_at "rd"
    exact kk _ _ B2 (k1.trans k2)
  | some q =>
    rw [e] at hv
    have hv1 : valV (kvT Sy.s xs) (.inl spot) = some (.ref q.1) := hv
    have hq : H q.1 = some (.tup [.int q.2.s, .int q.2.l, .str q.2.m, .str q.2.w]) := O.lrw.find e
    have hq1 := k1.g1 (hB.tup hq) hq
    wtm_at "rd"
    rw [hv1]
    refine ite_f rfl ?_
    wtm_at "rd"
    refine ite_d (fun h => ?_) (fun h => ?_)
    · wtm_at "rd"
      exact kk _ _ B1 k1
    wtm_at "rd"
    refine ite_d (fun h => ?_) (fun h => ?_)
    · wtm_at "rd"
      exact kk _ _ B1 k1
    wtm_at "rd"
    exact kk _ _ B1 k1
theorem c_l_doubted_life (T : Cx K mg) (B : Tb P w K mg base) : CalX P w K mg base CX0 2 "_law_doubted_life" (sp_l_doubted_life K) [] := by
  obtain ⟨fd, F, ok⟩ := f_l_doubted_life (P := P) (w := w) (base := base) T B
  exact ⟨_, fd, p_l_doubted_life, [], ok, gl_l_doubted_life T, F.kp, FunD.bindsN F fun _ _ _ _ _ _ us hl => match us, hl with | [_, _, _], _ => rfl, .nil⟩
end
section
variable {P : Program} {w : World} {K : PySem.W.Frag} {mg : Str → Option Value} {base : Heap}
def sp_l_doubt (K : PySem.W.Frag) : Sp := fun vs H Q E => ∃ (p c : Addr) (a : Ad) (st : Stg) (base : Int) (pool : List Int) (xs : List (Addr × Sy)) (c1 c2 : List (Addr × Ck)) (n m : Nat) (spot now : Int), vs = [.ref p, .ref a.d, .ref a.si, .int spot, .int now] ∧ (Box H p c) ∧ (One K H a st base pool xs c1 c2 n m) ∧ (m ≤ 10000) ∧ (∀ H1 cs1 cs2, One K H1 a st base pool xs cs1 cs2 n (m + 1) → Box H1 p c → Kp [p, a.lc, a.cd] H H1 → Q (.bl true) H1)
theorem us_l_doubt {K : PySem.W.Frag} {H : Hp} {Q : VK} {E : XK} {p c : Addr} {a : Ad} {st : Stg} {base : Int} {pool : List Int} {xs : List (Addr × Sy)} {c1 c2 : List (Addr × Ck)} {n m : Nat} {spot now : Int} (hB : Box H p c) (O : One K H a st base pool xs c1 c2 n m) (hm : m ≤ 10000) (kk : ∀ H1 cs1 cs2, One K H1 a st base pool xs cs1 cs2 n (m + 1) → Box H1 p c → Kp [p, a.lc, a.cd] H H1 → Q (.bl true) H1) : sp_l_doubt K [.ref p, .ref a.d, .ref a.si, .int spot, .int now] H Q E := ⟨_, _, _, _, _, _, _, _, _, _, _, _, _, rfl, hB, O, hm, kk⟩
theorem f_l_doubt (T : Cx K mg) (B : Tb P w K mg base) : ∃ fd, FunD K "_law_doubt" "_law_doubt" (defArgs s_l_doubt) (defBody s_l_doubt) (defScope s_l_doubt) (d_l_doubt.dvs K) (d_l_doubt.kws K) (fAd K d_l_doubt.at_) fd ∧ FnOk P w K mg base CX0 3 (fAd K d_l_doubt.at_) fd p_l_doubt (sp_l_doubt K) := by
  have c_l_doubted_life := c_l_doubted_life (P := P) (w := w) (base := base) T B
  have c_Doubts_doubt := c_Doubts_doubt (P := P) (w := w) (base := base) T B
  obtain ⟨fd, F⟩ := T.says.def_ 28 (d := d_l_doubt) rfl
  refine ⟨fd, F, fnD F sc_l_doubt (fun vs H Q E h => by
    obtain ⟨_, _, _, _, _, _, _, _, _, _, _, _, _, rfl, _⟩ := h
    rfl) fun cdv A outer s H vs Q E hr h => ?_⟩
  have hu := hu_of hr
  obtain ⟨p, c, a, st, base, pool, xs, c1, c2, n, m, spot, now, rfl, hB, O, hm, kk⟩ := h
  refine ⟨_, (pss_cons (ps_set (i := 5) sc_l_doubt.nd rfl (by first | exact Or.inl rfl | exact Or.inr rfl) (pe_cal c_l_doubted_life hr (by decide) (by rfl) pass0 (pa_cons (pv 0) (pa_cons (pv 2) (pa_cons (pv 3) pa_nil))))) (pss_cons (ps_set (i := 6) sc_l_doubt.nd rfl (by first | exact Or.inl rfl | exact Or.inr rfl) (pe_dget hu (pv 2) pe_str (fun _ _ => rfl))) (pss_cons (ps_if (PW.pt (pw_or (pt_cmp (pc_dnotin hu (pv 3) (pv 6))) (pw_or1 (pt_cmpR op_ne (pe_ix ix_tup (pe_dget hu (pv 6) (pv 3) (fun _ _ => rfl)) pe_int (fun _ _ => rfl)) (pv 5) (nomark _))))) (pss_one (ps_dput hu (pv 6) (pv 3) (pe_tup (pa_cons (pv 5) (pa_cons (pv 4) pa_nil))) rfl)) pss_nil) (pss_one (ps_ret (pe_cmp (pc_isN (pe_met c_Doubts_doubt hr (by decide) pass0 (pv 1) (pa_cons (pv 3) (pa_cons (pv 5) (pa_cons (pv 4) pa_nil))))))))))), ?_⟩
  rw [show L2.start n_l_doubt [.ref p, .ref a.d, .ref a.si, .int spot, .int now] = [some (.ref p), some (.ref a.d), some (.ref a.si), some (.int spot), some (.int now), none, none] from rfl]
  try dsimp only [cxOf, Cx.nox, Cx.wish, List.map]

  have nd := O.nd
  simp only [Ad.ds, List.nodup_cons, List.mem_cons, List.not_mem_nil, or_false, not_or, List.nodup_nil, and_true] at nd
  have nlcd : a.lc ≠ a.cd := nd.2.2.1.1
  have hv := kvT_val Ck.s spot c2
  have hs := fdT_snd Ck.s spot c2
  have len : (kvT Ck.s c2).length < sizeLine := szlt (by
    rw [kvT_len]
    have h1 := O.cl
    have h2 := congrArg List.length O.eq
    rw [List.length_map, List.length_map] at h2
    omega)
  wtm_at "rd"
  refine us_l_doubted_life hB O fun num H1 B1 k1 => ?_
  have O1 := O.box hB k1
  have hsi := O1.sid
  have hlc := O1.lcl.at_
  cases e : fdT Ck.s c2 spot with
  | none =>
    rw [e] at hv hs
    have hv1 : valV (kvT Ck.s c2) (.inl spot) = none := hv
    wtm_at "rd"
    rw [hv1]
    refine ite_t rfl ?_
    wtm_at "rd"
    refine ⟨sz1000 (by simp), fun t nt => ?_⟩
    have k2 : Kp [] H1 (upd H1 t (.tup [.int num, .int now])) := Kp.new nt
    have O2 := O1.k0 k2
    have hlc2 := O2.lcl.at_
    have hsi2 := O2.sid
    obtain ⟨dx2, hd2⟩ := O2.dou.ob
    have e2 : putK (kvT Ck.s c2) (.inl spot) (.ref t) = kvT Ck.s (ptT Ck.s c2 (t, ⟨spot, num, now⟩)) := kvT_put Ck.s c2 (t, ⟨spot, num, now⟩)
    wtm_at "rd"
    rw [e2]
    have T3 := O2.lcl.put (p := (t, (⟨spot, num, now⟩ : Ck))) upd_same
    have k3 : Kp [a.lc] (upd H1 t (.tup [.int num, .int now])) (upd (upd H1 t (.tup [.int num, .int now])) a.lc (.dK (kvT Ck.s (ptT Ck.s c2 (t, ⟨spot, num, now⟩))))) := Kp.refl.wr (by simp)
    have D3 := O2.dou.kp k3 (by simpa using Ne.symm nlcd) (Dj.d1 hlc2)
    have B3 : Box (upd (upd H1 t (.tup [.int num, .int now])) a.lc (.dK (kvT Ck.s (ptT Ck.s c2 (t, ⟨spot, num, now⟩))))) p c := (B1.k0 k2).ofD k3 fun q hq => by
      rw [List.mem_singleton.mp hq]
      exact ⟨_, hlc2⟩
    have hd3 : (upd (upd H1 t (.tup [.int num, .int now])) a.lc (.dK (kvT Ck.s (ptT Ck.s c2 (t, ⟨spot, num, now⟩))))) a.d = some (.ins (ga K "Doubts") dx2 [(("_setting" : Str), .ref a.sd), (("_clocks" : Str), .ref a.cd)]) := hu_ne (ne_of hd2 hlc2 (by intro z; cases z)) hd2
    generalize upd (upd H1 t (.tup [.int num, .int now])) a.lc (.dK (kvT Ck.s (ptT Ck.s c2 (t, ⟨spot, num, now⟩)))) = H3 at k3 T3 D3 B3 hd3
    wtm_at "rd"
    refine us_Doubts_doubt D3 (by have := O.cl; omega) fun H4 cs4 e4 D4 l4 k4 => ?_
    wtm_at "rd"
    rw [non_non]
    have T4 := T3.kp k4 (by simpa using nlcd) (Dj.d1 D3.cl.at_).noT
    have k14 : Kp [a.lc, a.cd] H1 H4 := ((k2.of0.trans (k3.mono (by simp))).trans (k4.mono (by simp)))
    refine kk _ _ _ (O1.setC k14 D4.cl T4 ?_ (by have := O.cl; omega)) (B3.ofD k4 fun q hq => by
      rw [List.mem_singleton.mp hq]
      exact ⟨_, D3.cl.at_⟩) ((k1.mono (by simp)).trans (k14.mono (by simp)))
    rw [e4, ptT_snd, O.eq]
    exact dbt_none hs.symm
  | some q =>
    rw [e] at hv hs
    have hv1 : valV (kvT Ck.s c2) (.inl spot) = some (.ref q.1) := hv
    have hq := O1.lcl.find e
    unfold Ck.tup at hq
    wtm_at "rd"
    rw [hv1]
    refine ite_f rfl ?_
    wtm_at "rd"
    refine ite_n (fun h => ?_) (fun h => ?_)
    · wtm_at "rd"
      refine ⟨sz1000 (by simp), fun t nt => ?_⟩
      have k2 : Kp [] H1 (upd H1 t (.tup [.int num, .int now])) := Kp.new nt
      have O2 := O1.k0 k2
      have hlc2 := O2.lcl.at_
      have hsi2 := O2.sid
      obtain ⟨dx2, hd2⟩ := O2.dou.ob
      have e2 : putK (kvT Ck.s c2) (.inl spot) (.ref t) = kvT Ck.s (ptT Ck.s c2 (t, ⟨spot, num, now⟩)) := kvT_put Ck.s c2 (t, ⟨spot, num, now⟩)
      wtm_at "rd"
      rw [e2]
      have T3 := O2.lcl.put (p := (t, (⟨spot, num, now⟩ : Ck))) upd_same
      have k3 : Kp [a.lc] (upd H1 t (.tup [.int num, .int now])) (upd (upd H1 t (.tup [.int num, .int now])) a.lc (.dK (kvT Ck.s (ptT Ck.s c2 (t, ⟨spot, num, now⟩))))) := Kp.refl.wr (by simp)
      have D3 := O2.dou.kp k3 (by simpa using Ne.symm nlcd) (Dj.d1 hlc2)
      have B3 : Box (upd (upd H1 t (.tup [.int num, .int now])) a.lc (.dK (kvT Ck.s (ptT Ck.s c2 (t, ⟨spot, num, now⟩))))) p c := (B1.k0 k2).ofD k3 fun q hq => by
        rw [List.mem_singleton.mp hq]
        exact ⟨_, hlc2⟩
      have hd3 : (upd (upd H1 t (.tup [.int num, .int now])) a.lc (.dK (kvT Ck.s (ptT Ck.s c2 (t, ⟨spot, num, now⟩))))) a.d = some (.ins (ga K "Doubts") dx2 [(("_setting" : Str), .ref a.sd), (("_clocks" : Str), .ref a.cd)]) := hu_ne (ne_of hd2 hlc2 (by intro z; cases z)) hd2
      generalize upd (upd H1 t (.tup [.int num, .int now])) a.lc (.dK (kvT Ck.s (ptT Ck.s c2 (t, ⟨spot, num, now⟩)))) = H3 at k3 T3 D3 B3 hd3
      wtm_at "rd"
      refine us_Doubts_doubt D3 (by have := O.cl; omega) fun H4 cs4 e4 D4 l4 k4 => ?_
      wtm_at "rd"
      rw [non_non]
      have T4 := T3.kp k4 (by simpa using nlcd) (Dj.d1 D3.cl.at_).noT
      have k14 : Kp [a.lc, a.cd] H1 H4 := ((k2.of0.trans (k3.mono (by simp))).trans (k4.mono (by simp)))
      refine kk _ _ _ (O1.setC k14 D4.cl T4 ?_ (by have := O.cl; omega)) (B3.ofD k4 fun q hq => by
        rw [List.mem_singleton.mp hq]
        exact ⟨_, D3.cl.at_⟩) ((k1.mono (by simp)).trans (k14.mono (by simp)))
      rw [e4, ptT_snd, O.eq]
      exact dbt_ne hs.symm h
    · obtain ⟨dx2, hd2⟩ := O1.dou.ob
      wtm_at "rd"
      refine us_Doubts_doubt O1.dou (by have := O.cl; omega) fun H4 cs4 e4 D4 l4 k4 => ?_
      wtm_at "rd"
      rw [non_non]
      have T4 := O1.lcl.kp k4 (by simpa using nlcd) (Dj.d1 O1.dou.cl.at_).noT
      have k14 : Kp [a.lc, a.cd] H1 H4 := k4.mono (by simp)
      refine kk _ _ _ (O1.setC k14 D4.cl T4 ?_ (by have := O.cl; omega)) (B1.ofD k4 fun q hq => by
        rw [List.mem_singleton.mp hq]
        exact ⟨_, O1.dou.cl.at_⟩) ((k1.mono (by simp)).trans (k14.mono (by simp)))
      rw [e4, O.eq]
      exact dbt_eq hs.symm h
theorem c_l_doubt (T : Cx K mg) (B : Tb P w K mg base) : CalX P w K mg base CX0 3 "_law_doubt" (sp_l_doubt K) [] := by
  obtain ⟨fd, F, ok⟩ := f_l_doubt (P := P) (w := w) (base := base) T B
  exact ⟨_, fd, p_l_doubt, [], ok, gl_l_doubt T, F.kp, FunD.bindsN F fun _ _ _ _ _ _ us hl => match us, hl with | [_, _, _, _, _], _ => rfl, .nil⟩
end
section
variable {P : Program} {w : World} {K : PySem.W.Frag} {mg : Str → Option Value} {base : Heap}
def sp_l_moment (K : PySem.W.Frag) : Sp := fun vs H Q E => ∃ (p c : Addr) (a : Ad) (st : Stg) (base : Int) (pool : List Int) (xs : List (Addr × Sy)) (c1 c2 : List (Addr × Ck)) (n m : Nat) (now : Int), vs = [.ref p, .ref a.si, .int now] ∧ (Box H p c) ∧ (One K H a st base pool xs c1 c2 n m) ∧ (m ≤ 10000) ∧ (∀ n H1, Box H1 p c → Kp [p] H H1 → Q (.int n) H1)
theorem us_l_moment {K : PySem.W.Frag} {H : Hp} {Q : VK} {E : XK} {p c : Addr} {a : Ad} {st : Stg} {base : Int} {pool : List Int} {xs : List (Addr × Sy)} {c1 c2 : List (Addr × Ck)} {n m : Nat} {now : Int} (hB : Box H p c) (O : One K H a st base pool xs c1 c2 n m) (hm : m ≤ 10000) (kk : ∀ n H1, Box H1 p c → Kp [p] H H1 → Q (.int n) H1) : sp_l_moment K [.ref p, .ref a.si, .int now] H Q E := ⟨_, _, _, _, _, _, _, _, _, _, _, _, rfl, hB, O, hm, kk⟩
theorem f_l_moment (T : Cx K mg) (B : Tb P w K mg base) : ∃ fd, FunD K "_law_moment" "_law_moment" (defArgs s_l_moment) (defBody s_l_moment) (defScope s_l_moment) (d_l_moment.dvs K) (d_l_moment.kws K) (fAd K d_l_moment.at_) fd ∧ FnOk P w K mg base CX0 2 (fAd K d_l_moment.at_) fd p_l_moment (sp_l_moment K) := by
  have c_l_draw := c_l_draw (P := P) (w := w) (base := base) T B
  obtain ⟨fd, F⟩ := T.says.def_ 29 (d := d_l_moment) rfl
  refine ⟨fd, F, fnD F sc_l_moment (fun vs H Q E h => by
    obtain ⟨_, _, _, _, _, _, _, _, _, _, _, _, rfl, _⟩ := h
    rfl) fun cdv A outer s H vs Q E hr h => ?_⟩
  have hu := hu_of hr
  obtain ⟨p, c, a, st, base, pool, xs, c1, c2, n, m, now, rfl, hB, O, hm, kk⟩ := h
  refine ⟨_, (pss_cons (ps_set (i := 3) sc_l_moment.nd rfl (by first | exact Or.inl rfl | exact Or.inr rfl) (pe_dget hu (pv 1) pe_str (fun _ _ => rfl))) (pss_cons (ps_set (i := 4) sc_l_moment.nd rfl (by first | exact Or.inl rfl | exact Or.inr rfl) (pe_cal c_l_draw hr (by decide) (by rfl) pass0 (pa_cons (pv 0) (pa_cons pe_int pa_nil)))) (pss_cons (ps_if (PW.pt (pw_or (pt_cmpR op_eq (pv 4) pe_int (nomark _)) (pw_or1 (pt_cmpR op_eq (pe_callB call_lenD' (by rfl) (fr_len T) (by decide +kernel) (pa_cons (pv 3) pa_nil)) pe_int (nomark _))))) (pss_one (ps_ret (pv 2))) pss_nil) (pss_cons (ps_set (i := 5) sc_l_moment.nd rfl (by first | exact Or.inl rfl | exact Or.inr rfl) (pe_callB cr_sortedI (by rfl) (fr_sorted T) (by decide +kernel) (pa_cons (pe_callTy (call_listD rfl) (by rfl) (fr_list T) (by decide +kernel) (pa_cons (pv 3) pa_nil)) pa_nil))) (pss_cons (ps_set (i := 6) sc_l_moment.nd rfl (by first | exact Or.inl rfl | exact Or.inr rfl) (pe_ix ix_list (pv 5) (pe_cal c_l_draw hr (by decide) (by rfl) pass0 (pa_cons (pv 0) (pa_cons (pe_callB call_lenS (by rfl) (fr_len T) (by decide +kernel) (pa_cons (pv 5) pa_nil)) pa_nil))) (fun _ _ => rfl))) (pss_one (ps_ret (pe_op op_sub (pe_op op_add (pe_op op_add (pe_ix ix_tup (pe_dget hu (pv 3) (pv 6) (fun _ _ => rfl)) pe_int (fun _ _ => rfl)) (pe_dget hu (pv 1) pe_str (fun _ _ => rfl))) (pv 4)) pe_int)))))))), ?_⟩
  rw [show L2.start n_l_moment [.ref p, .ref a.si, .int now] = [some (.ref p), some (.ref a.si), some (.int now), none, none, none, none] from rfl]
  try dsimp only [cxOf, Cx.nox, Cx.wish, List.map]

  have hsi := O.sid
  have hlen : c2.length ≤ 10000 := by
    have h1 := O.cl
    have h2 := congrArg List.length O.eq
    rw [List.length_map, List.length_map] at h2
    omega
  wtm_at "rd"
  refine us_l_draw hB (by decide) (by decide) fun way H1 w0 w1 B1 k1 => ?_
  have O1 := O.box hB k1
  have hsi1 := O1.sid
  have hlc1 := O1.lcl.at_
  wtm_at "rd"
  refine ite_d (fun h => ?_) (fun h => ?_)
  · wtm_at "rd"
    exact kk _ _ B1 k1
  wtm_at "rd"
  refine ite_d (fun h => ?_) (fun h => ?_)
  · wtm_at "rd"
    exact kk _ _ B1 k1
  rw [kvT_len] at h
  wtm_at "rd"
  refine ⟨a.lc, _, rfl, .inl hlc1, fun l nl => ?_⟩
  wtm_at "rd"
  refine rd_sortedI (ns := (c2.map (·.2)).map Ck.s) (by rw [kvT_keys]; exact upd_same) fun os r o1 o2 nr => ?_
  have hol : os.length = c2.length := by rw [o1.length_eq, List.length_map, List.length_map]
  have k2 : Kp [] H1 (upd (upd H1 l (.lst ((kvT Ck.s c2).map fun kv => kV kv.1))) r (.lst (os.map V.int))) := (Kp.new nl).nw nr
  have hr2 : upd (upd H1 l (.lst ((kvT Ck.s c2).map fun kv => kV kv.1))) r (.lst (os.map V.int)) r = some (.lst (os.map V.int)) := upd_same
  generalize upd (upd H1 l (.lst ((kvT Ck.s c2).map fun kv => kV kv.1))) r (.lst (os.map V.int)) = H2 at k2 hr2
  wtm_at "rd"
  refine us_l_draw (B1.k0 k2) (by omega) (by omega) fun j H3 j0 j1 B3 k3 => ?_
  have O3 := (O1.k0 k2).box (B1.k0 k2) k3
  have hsi3 := O3.sid
  have hlc3 := O3.lcl.at_
  have nrp : r ≠ p := Ne.symm ((B1.new nl).ne1 nr)
  have hr3 := k3.g1 nrp hr2
  have hm : os.getD j.toNat 0 ∈ (c2.map (·.2)).map Ck.s := by
    refine o1.mem_iff.mp ?_
    have hj : j.toNat < os.length := by omega
    have ej : os.getD j.toNat 0 = os[j.toNat] := by simp [List.getD, hj]
    rw [ej]
    exact List.getElem_mem _
  obtain ⟨q, eq⟩ := fdT_key hm
  have hv2 : valV (kvT Ck.s c2) (.inl (os.getD j.toNat 0)) = some (.ref q.1) := by
    rw [kvT_val, eq]
    rfl
  have hq := O3.lcl.find eq
  unfold Ck.tup at hq
  wtm_at "rd"
  exact kk _ _ B3 ((k1.trans k2.of0).trans k3)
theorem c_l_moment (T : Cx K mg) (B : Tb P w K mg base) : CalX P w K mg base CX0 2 "_law_moment" (sp_l_moment K) [] := by
  obtain ⟨fd, F, ok⟩ := f_l_moment (P := P) (w := w) (base := base) T B
  exact ⟨_, fd, p_l_moment, [], ok, gl_l_moment T, F.kp, FunD.bindsN F fun _ _ _ _ _ _ us hl => match us, hl with | [_, _, _], _ => rfl, .nil⟩
end
section
variable {P : Program} {w : World} {K : PySem.W.Frag} {mg : Str → Option Value} {base : Heap}
def sp_l_due (K : PySem.W.Frag) : Sp := fun vs H Q E => ∃ (a : Ad) (st : Stg) (base : Int) (pool : List Int) (xs : List (Addr × Sy)) (c1 c2 : List (Addr × Ck)) (n m : Nat) (now : Int), vs = [.ref a.si, .int now] ∧ (One K H a st base pool xs c1 c2 n m) ∧ (m ≤ 10000) ∧ (∀ r ps H1, SyL H1 r ps → ps.map (·.2) = dueL (xs.map (·.2)) (c2.map (·.2)) st.grace now → ps.length ≤ 10000 → Kp [] H H1 → H r = none → Q (.ref r) H1)
theorem us_l_due {K : PySem.W.Frag} {H : Hp} {Q : VK} {E : XK} {a : Ad} {st : Stg} {base : Int} {pool : List Int} {xs : List (Addr × Sy)} {c1 c2 : List (Addr × Ck)} {n m : Nat} {now : Int} (O : One K H a st base pool xs c1 c2 n m) (hm : m ≤ 10000) (kk : ∀ r ps H1, SyL H1 r ps → ps.map (·.2) = dueL (xs.map (·.2)) (c2.map (·.2)) st.grace now → ps.length ≤ 10000 → Kp [] H H1 → H r = none → Q (.ref r) H1) : sp_l_due K [.ref a.si, .int now] H Q E := ⟨_, _, _, _, _, _, _, _, _, _, rfl, O, hm, kk⟩
theorem f_l_due (T : Cx K mg) (B : Tb P w K mg base) : ∃ fd, FunD K "_law_due" "_law_due" (defArgs s_l_due) (defBody s_l_due) (defScope s_l_due) (d_l_due.dvs K) (d_l_due.kws K) (fAd K d_l_due.at_) fd ∧ FnOk P w K mg base CX0 1 (fAd K d_l_due.at_) fd p_l_due (sp_l_due K) := by
  obtain ⟨fd, F⟩ := T.says.def_ 30 (d := d_l_due) rfl
  refine ⟨fd, F, fnD F sc_l_due (fun vs H Q E h => by
    obtain ⟨_, _, _, _, _, _, _, _, _, _, rfl, _⟩ := h
    rfl) fun cdv A outer s H vs Q E hr h => ?_⟩
  have hu := hu_of hr
  obtain ⟨a, st, base, pool, xs, c1, c2, n, m, now, rfl, O, hm, kk⟩ := h
  refine ⟨_, (pss_cons (ps_set (i := 2) sc_l_due.nd rfl (by first | exact Or.inl rfl | exact Or.inr rfl) (pe_dget hu (pv 0) pe_str (fun _ _ => rfl))) (pss_cons (ps_set (i := 3) sc_l_due.nd rfl (by first | exact Or.inl rfl | exact Or.inr rfl) (pe_dget hu (pv 0) pe_str (fun _ _ => rfl))) (pss_cons (ps_set (i := 4) sc_l_due.nd rfl (by first | exact Or.inl rfl | exact Or.inr rfl) (pe_lst pa_nil)) (pss_cons (ps_for PassesOwn.never rfl (pi_list (pe_callB cr_sortedI (by rfl) (fr_sorted T) (by decide +kernel) (pa_cons (pe_callTy (call_listD rfl) (by rfl) (fr_list T) (by decide +kernel) (pa_cons (pv 3) pa_nil)) pa_nil))) (pg_name (i := 5) sc_l_due.nd rfl (by first | exact Or.inl rfl | exact Or.inr rfl)) (pss_one (ps_if (PW.pt (pw_and (pt_cmp (pc_din hu (pv 5) (pv 2))) (pw_and (pt_cmpR op_eq (pe_ix ix_tup (pe_dget hu (pv 2) (pv 5) (fun _ _ => rfl)) pe_int (fun _ _ => rfl)) (pe_ix ix_tup (pe_dget hu (pv 3) (pv 5) (fun _ _ => rfl)) pe_int (fun _ _ => rfl)) (nomark _)) (pw_and1 (pt_cmpR op_eq (pe_ix ix_tup (pe_dget hu (pv 2) (pv 5) (fun _ _ => rfl)) pe_int (fun _ _ => rfl)) pe_str (nomark _)))))) (pss_one (ps_if (pt_cmpR op_ge (pe_op op_sub (pv 1) (pe_ix ix_tup (pe_dget hu (pv 3) (pv 5) (fun _ _ => rfl)) pe_int (fun _ _ => rfl))) (pe_dget hu (pv 0) pe_str (fun _ _ => rfl)) (nomark _)) (pss_one (ps_expr (pe_bm PySem.F.plainAttrs_list PySem.F.slot_list_append PySem.F.type_list_append mt_append (pv 4) (pa_cons (pe_tup (pa_cons (pv 5) (pa_cons (pe_ix ix_tup (pe_dget hu (pv 2) (pv 5) (fun _ _ => rfl)) pe_int (fun _ _ => rfl)) (pa_cons pe_str (pa_cons (pe_ix ix_tup (pe_dget hu (pv 2) (pv 5) (fun _ _ => rfl)) pe_int (fun _ _ => rfl)) pa_nil))))) pa_nil)))) pss_nil)) pss_nil))) (pss_one (ps_ret (pv 4))))))), ?_⟩
  rw [show L2.start n_l_due [.ref a.si, .int now] = [some (.ref a.si), some (.int now), none, none, none, none] from rfl]
  try dsimp only [cxOf, Cx.nox, Cx.wish, List.map]

  have hsi := O.sid
  have hlr := O.lrw.at_
  have hlc := O.lcl.at_
  have hlen : c2.length ≤ 10000 := by
    have h1 := O.cl
    have h2 := congrArg List.length O.eq
    rw [List.length_map, List.length_map] at h2
    omega
  wtm_at "rd"
  refine ⟨sz1000 (by simp), fun F nF => ?_⟩
  have k1 : Kp [] H (upd H F (.lst [])) := Kp.new nF
  wtm_at "rd"
  refine ⟨a.lc, _, rfl, .inl (k1.g0 hlc), fun l nl => ?_⟩
  wtm_at "rd"
  refine rd_sortedI (ns := (c2.map (·.2)).map Ck.s) (by rw [kvT_keys]; exact upd_same) fun os r o1 o2 nr => ?_
  have eo := srt_is o1 o2
  have hFr : F ≠ r := ne_of_none (show upd (upd H F (.lst [])) l (.lst ((kvT Ck.s c2).map fun kv => kV kv.1)) F = some (.lst []) by wtm_at "hp") nr
  have hos : ∀ k, k ∈ os → k ∈ (c2.map (·.2)).map Ck.s := fun k hk => o1.mem_iff.mp hk
  have k2 := (k1.nw (o := .lst ((kvT Ck.s c2).map fun kv => kV kv.1)) nl).nw (o := .lst (os.map V.int)) nr
  have hF0 : upd (upd (upd H F (.lst [])) l (.lst ((kvT Ck.s c2).map fun kv => kV kv.1))) r (.lst (os.map V.int)) F = some (.lst []) := by wtm_at "hp"
  have hr0 : upd (upd (upd H F (.lst [])) l (.lst ((kvT Ck.s c2).map fun kv => kV kv.1))) r (.lst (os.map V.int)) r = some (.lst (os.map V.int)) := upd_same
  generalize upd (upd (upd H F (.lst [])) l (.lst ((kvT Ck.s c2).map fun kv => kV kv.1))) r (.lst (os.map V.int)) = H0 at k2 hF0 hr0
  have hol : os.length = c2.length := by rw [o1.length_eq, List.length_map, List.length_map]
  wtm_at "rd"
  refine forL_ints (K := K) os (fun i σ H1 => (∃ v5, σ = [some (.ref a.si), some (.int now), some (.ref a.lr), some (.ref a.lc), some (.ref F), v5]) ∧ (∃ ps, SyL H1 F ps ∧ ps.length ≤ i ∧ ps.map (·.2) = (os.take i).filterMap (dueF (xs.map (·.2)) (c2.map (·.2)) st.grace now)) ∧ Kp [] H H1 ∧ H1 r = some (.lst (os.map V.int))) ⟨⟨_, rfl⟩, ⟨[], SyL.nil hF0, Nat.zero_le _, rfl⟩, k2, hr0⟩ (fun i σ H1 _ q => SqL.of q.2.2.2) ?_ ?_
  · rintro i hi σ H1 ⟨⟨v5, rfl⟩, ⟨ps, q1, q2, q3⟩, k3, hr1⟩
    obtain ⟨c, ec⟩ := fdT_key (hos _ (List.getElem_mem hi))
    have hv1 : valV (kvT Ck.s c2) (.inl os[i]) = some (.ref c.1) := by
      rw [kvT_val, ec]
      rfl
    have hc1 := k3.g0 (O.lcl.find ec)
    unfold Ck.tup at hc1
    have hsi1 := k3.g0 hsi
    have hlr1 := k3.g0 hlr
    have hlc1 := k3.g0 hlc
    have hF1 := q1.at_
    have len : (ps.map fun p => V.ref p.1).length < sizeLine := szlt (by
      rw [List.length_map]
      omega)
    have efd : fdS Ck.s (c2.map (·.2)) os[i] = some c.2 := by
      rw [← fdT_snd, ec]
      rfl
    have skip : dueF (xs.map (·.2)) (c2.map (·.2)) st.grace now os[i] = none → (os.take (i + 1)).filterMap (dueF (xs.map (·.2)) (c2.map (·.2)) st.grace now) = (os.take i).filterMap (dueF (xs.map (·.2)) (c2.map (·.2)) st.grace now) := fun e => by
      rw [fm_take hi, e]
      exact List.append_nil _
    have efy := fdT_snd Sy.s os[i] xs
    have hvy := kvT_val Sy.s os[i] xs
    cases ey : fdT Sy.s xs os[i] with
    | none =>
      rw [ey] at hvy efy
      have hv2 : valV (kvT Sy.s xs) (.inl os[i]) = none := hvy
      wtm_at "rd"
      rw [hv2]
      refine ite_f rfl ?_
      wtm_at "rd"
      refine ⟨⟨_, rfl⟩, ⟨ps, q1, by omega, ?_⟩, k3, hr1⟩
      rw [q3, skip]
      unfold dueF
      rw [efd, ← efy]
      rfl
    | some y =>
      rw [ey] at hvy efy
      have hv2 : valV (kvT Sy.s xs) (.inl os[i]) = some (.ref y.1) := hvy
      have ht1 : H1 y.1 = some (.tup [.int y.2.s, .int y.2.l, .str y.2.m, .str y.2.w]) := k3.g0 (O.lrw.find ey)
      have efy' : fdS Sy.s (xs.map (·.2)) os[i] = some y.2 := efy.symm
      have eD : dueF (xs.map (·.2)) (c2.map (·.2)) st.grace now os[i] = if y.2.l = c.2.l ∧ y.2.m = ("suspect" : Str) ∧ st.grace ≤ now - c.2.a then some ⟨os[i], c.2.l, "dead", y.2.w⟩ else none := by
        unfold dueF
        rw [efd, efy']
      have skipD : ¬ (y.2.l = c.2.l ∧ y.2.m = ("suspect" : Str) ∧ st.grace ≤ now - c.2.a) → (os.take (i + 1)).filterMap (dueF (xs.map (·.2)) (c2.map (·.2)) st.grace now) = (os.take i).filterMap (dueF (xs.map (·.2)) (c2.map (·.2)) st.grace now) := fun z => skip (by rw [eD, if_neg z])
      wtm_at "rd"
      rw [hv2]
      refine ite_t rfl ?_
      wtm_at "rd"
      refine ite_d (fun h4 => ?_) (fun h => ?_)
      rotate_left
      · wtm_at "rd"
        exact ⟨⟨_, rfl⟩, ⟨ps, q1, by omega, by rw [q3, skipD fun z => h z.1]⟩, k3, hr1⟩
      wtm_at "rd"
      refine ite_d (fun h5 => ?_) (fun h => ?_)
      rotate_left
      · wtm_at "rd"
        exact ⟨⟨_, rfl⟩, ⟨ps, q1, by omega, by rw [q3, skipD fun z => h z.2.1]⟩, k3, hr1⟩
      wtm_at "rd"
      refine ite_d (fun h6 => ?_) (fun h => ?_)
      · wtm_at "rd"
        refine ⟨sz1000 (by simp), fun u nu => ?_⟩
        have q4 := q1.k0 (Kp.new (o := .tup [.int os[i], .int y.2.l, .str "dead", .str y.2.w]) nu)
        have hF2 := q4.at_
        wtm_at "rd"
        refine ⟨⟨_, rfl⟩, ⟨ps ++ [(u, ⟨os[i], y.2.l, "dead", y.2.w⟩)], q4.snoc upd_same, ?_, ?_⟩, (k3.nw nu).mine nF, ?_⟩
        · rw [List.length_append]
          exact Nat.succ_le_succ q2
        · rw [List.map_append, q3, fm_take hi, eD, if_pos ⟨h4, h5, h6⟩, ← h4]
          rfl
        · have z1 : upd H1 u (.tup [.int os[i], .int y.2.l, .str "dead", .str y.2.w]) r = some (.lst (os.map V.int)) := hu_ne (ne_of_none hr1 nu) hr1
          exact hu_ne (Ne.symm hFr) z1
      · wtm_at "rd"
        exact ⟨⟨_, rfl⟩, ⟨ps, q1, by omega, by rw [q3, skipD fun z => h z.2.2]⟩, k3, hr1⟩
  · rintro σ H1 ⟨⟨v5, rfl⟩, ⟨ps, q1, q2, q3⟩, k3, hr1⟩
    wtm_at "rd"
    rw [List.take_length, eo] at q3
    exact kk F ps H1 q1 q3 (by omega) k3 nF
theorem c_l_due (T : Cx K mg) (B : Tb P w K mg base) : CalX P w K mg base CX0 1 "_law_due" (sp_l_due K) [] := by
  obtain ⟨fd, F, ok⟩ := f_l_due (P := P) (w := w) (base := base) T B
  exact ⟨_, fd, p_l_due, [], ok, gl_l_due T, F.kp, FunD.bindsN F fun _ _ _ _ _ _ us hl => match us, hl with | [_, _], _ => rfl, .nil⟩
end
section
variable {P : Program} {w : World} {K : PySem.W.Frag} {mg : Str → Option Value} {base : Heap}
def sp_l_is_whole (K : PySem.W.Frag) : Sp := fun vs H Q E => ∃ (v : Int), vs = [.int v] ∧ (Q (.bl true) H)
theorem us_l_is_whole {K : PySem.W.Frag} {H : Hp} {Q : VK} {E : XK} {v : Int}  (kk : Q (.bl true) H) : sp_l_is_whole K [.int v] H Q E := ⟨_, rfl, kk⟩
theorem f_l_is_whole (T : Cx K mg) (B : Tb P w K mg base) : ∃ fd, FunD K "_law_is_whole" "_law_is_whole" (defArgs s_l_is_whole) (defBody s_l_is_whole) (defScope s_l_is_whole) (d_l_is_whole.dvs K) (d_l_is_whole.kws K) (fAd K d_l_is_whole.at_) fd ∧ FnOk P w K mg base CX0 1 (fAd K d_l_is_whole.at_) fd p_l_is_whole (sp_l_is_whole K) := by
  obtain ⟨fd, F⟩ := T.says.def_ 31 (d := d_l_is_whole) rfl
  refine ⟨fd, F, fnD F sc_l_is_whole (fun vs H Q E h => by
    obtain ⟨_, rfl, _⟩ := h
    rfl) fun cdv A outer s H vs Q E hr h => ?_⟩
  have hu := hu_of hr
  obtain ⟨v, rfl, kk⟩ := h
  refine ⟨_, (pss_one (ps_ret (pe_and (pe_callB call_isi (by rfl) (fr_isinstance T) (by decide +kernel) (pa_cons (pv 0) (pa_cons (pe_bltn (v := .ty "int") (by rfl) (fr_int T) (by decide +kernel) rfl) pa_nil))) (pe_one (pe_not (pe_callB call_isi (by rfl) (fr_isinstance T) (by decide +kernel) (pa_cons (pv 0) (pa_cons (pe_bltn (v := .ty "bool") (by rfl) (fr_bool T) (by decide +kernel) rfl) pa_nil)))))))), ?_⟩
  rw [show L2.start n_l_is_whole [.int v] = [some (.int v)] from rfl]
  try dsimp only [cxOf, Cx.nox, Cx.wish, List.map]

  wtm_at "rd"
  exact kk
theorem c_l_is_whole (T : Cx K mg) (B : Tb P w K mg base) : CalX P w K mg base CX0 1 "_law_is_whole" (sp_l_is_whole K) [] := by
  obtain ⟨fd, F, ok⟩ := f_l_is_whole (P := P) (w := w) (base := base) T B
  exact ⟨_, fd, p_l_is_whole, [], ok, gl_l_is_whole T, F.kp, FunD.bindsN F fun _ _ _ _ _ _ us hl => match us, hl with | [_], _ => rfl, .nil⟩
end
section
variable {P : Program} {w : World} {K : PySem.W.Frag} {mg : Str → Option Value} {base : Heap}
def sp_l_sayings_are (K : PySem.W.Frag) : Sp := fun vs H Q E => ∃ (r1 r2 : Addr) (ps qs : List (Addr × Sy)), vs = [.ref r1, .ref r2] ∧ (SyL H r1 ps) ∧ (SyL H r2 qs) ∧ (ps.map (·.2) = qs.map (·.2)) ∧ (∀ y, y ∈ qs.map (·.2) → y.T) ∧ (qs.length ≤ 10000) ∧ (Q (.bl true) H)
theorem us_l_sayings_are {K : PySem.W.Frag} {H : Hp} {Q : VK} {E : XK} {r1 r2 : Addr} {ps qs : List (Addr × Sy)} (h1 : SyL H r1 ps) (h2 : SyL H r2 qs) (he : ps.map (·.2) = qs.map (·.2)) (hT : ∀ y, y ∈ qs.map (·.2) → y.T) (hn : qs.length ≤ 10000) (kk : Q (.bl true) H) : sp_l_sayings_are K [.ref r1, .ref r2] H Q E := ⟨_, _, _, _, rfl, h1, h2, he, hT, hn, kk⟩
theorem f_l_sayings_are (T : Cx K mg) (B : Tb P w K mg base) : ∃ fd, FunD K "_law_sayings_are" "_law_sayings_are" (defArgs s_l_sayings_are) (defBody s_l_sayings_are) (defScope s_l_sayings_are) (d_l_sayings_are.dvs K) (d_l_sayings_are.kws K) (fAd K d_l_sayings_are.at_) fd ∧ FnOk P w K mg base CX0 2 (fAd K d_l_sayings_are.at_) fd p_l_sayings_are (sp_l_sayings_are K) := by
  have c_l_is_whole := c_l_is_whole (P := P) (w := w) (base := base) T B
  obtain ⟨fd, F⟩ := T.says.def_ 32 (d := d_l_sayings_are) rfl
  refine ⟨fd, F, fnD F sc_l_sayings_are (fun vs H Q E h => by
    obtain ⟨_, _, _, _, rfl, _⟩ := h
    rfl) fun cdv A outer s H vs Q E hr h => ?_⟩
  have hu := hu_of hr
  obtain ⟨r1, r2, ps, qs, rfl, h1, h2, he, hT, hn, kk⟩ := h
  refine ⟨_, (pss_cons (ps_if (PW.pt (pw_or (pt_not (pt_val (pe_callB call_isi (by rfl) (fr_isinstance T) (by decide +kernel) (pa_cons (pv 0) (pa_cons (pe_bltn (v := .ty "list") (by rfl) (fr_list T) (by decide +kernel) rfl) pa_nil))))) (pw_or1 (pt_cmpR op_ne (pe_callB call_lenS (by rfl) (fr_len T) (by decide +kernel) (pa_cons (pv 0) pa_nil)) (pe_callB call_lenS (by rfl) (fr_len T) (by decide +kernel) (pa_cons (pv 1) pa_nil)) (nomark _))))) (pss_one (ps_ret pe_bl)) pss_nil) (pss_cons (ps_for PassesOwn.never rfl (pi_range1 (by rfl) (fr_range T) (pa_cons (pe_callB call_lenS (by rfl) (fr_len T) (by decide +kernel) (pa_cons (pv 1) pa_nil)) pa_nil)) (pg_name (i := 2) sc_l_sayings_are.nd rfl (by first | exact Or.inl rfl | exact Or.inr rfl)) (pss_cons (ps_set (i := 3) sc_l_sayings_are.nd rfl (by first | exact Or.inl rfl | exact Or.inr rfl) (pe_ix ix_list (pv 0) (pv 2) (fun _ _ => rfl))) (pss_cons (ps_if (PW.pt (pw_or (pt_not (pt_val (pe_callB call_isi (by rfl) (fr_isinstance T) (by decide +kernel) (pa_cons (pv 3) (pa_cons (pe_bltn (v := .ty "tuple") (by rfl) (fr_tuple T) (by decide +kernel) rfl) pa_nil))))) (pw_or1 (pt_cmpR op_ne (pe_callB call_lenS (by rfl) (fr_len T) (by decide +kernel) (pa_cons (pv 3) pa_nil)) pe_int (nomark _))))) (pss_one (ps_ret pe_bl)) pss_nil) (pss_cons (ps_if (PW.pt (pw_or (pt_not (pt_val (pe_cal c_l_is_whole hr (by decide) (by rfl) pass0 (pa_cons (pe_ix ix_tup (pv 3) pe_int (fun _ _ => rfl)) pa_nil)))) (pw_or1 (pt_not (pt_val (pe_cal c_l_is_whole hr (by decide) (by rfl) pass0 (pa_cons (pe_ix ix_tup (pv 3) pe_int (fun _ _ => rfl)) pa_nil))))))) (pss_one (ps_ret pe_bl)) pss_nil) (pss_one (ps_if (PW.pt (pw_or (pt_not (pt_val (pe_callB call_isi (by rfl) (fr_isinstance T) (by decide +kernel) (pa_cons (pe_ix ix_tup (pv 3) pe_int (fun _ _ => rfl)) (pa_cons (pe_bltn (v := .ty "str") (by rfl) (fr_str T) (by decide +kernel) rfl) pa_nil))))) (pw_or (pt_not (pt_val (pe_callB call_isi (by rfl) (fr_isinstance T) (by decide +kernel) (pa_cons (pe_ix ix_tup (pv 3) pe_int (fun _ _ => rfl)) (pa_cons (pe_bltn (v := .ty "str") (by rfl) (fr_str T) (by decide +kernel) rfl) pa_nil))))) (pw_or1 (pt_cmpR (op_neD hr.units) (pv 3) (pe_ix ix_list (pv 1) (pv 2) (fun _ _ => rfl)) (nomark _)))))) (pss_one (ps_ret pe_bl)) pss_nil)))))) (pss_one (ps_ret pe_bl)))), ?_⟩
  rw [show L2.start n_l_sayings_are [.ref r1, .ref r2] = [some (.ref r1), some (.ref r2), none, none] from rfl]
  try dsimp only [cxOf, Cx.nox, Cx.wish, List.map]

  have hl : ps.length = qs.length := by
    have := congrArg List.length he
    rwa [List.length_map, List.length_map] at this
  have g1 := h1.at_
  have g2 := h2.at_
  wtm_at "rd"
  refine ite_n (fun h => absurd (by rw [List.length_map, List.length_map, hl]) h) (fun _ => ?_)
  wtm_at "rd"
  refine rd_iRng1X (by omega) (by rw [List.length_map]; omega) ?_
  wtm_at "rd"
  refine forR_by (fun i σ H1 => (∃ v2 v3, σ = [some (.ref r1), some (.ref r2), v2, v3]) ∧ H1 = H) ⟨⟨_, _, rfl⟩, rfl⟩ ?_ ?_
  · rintro i σ H1 hi ⟨⟨v2, v3, rfl⟩, rfl⟩
    rw [List.length_map] at hi
    have hi2 : i < qs.length := by omega
    have hi1 : i < ps.length := by omega
    have ea : atI (ps.map fun p => V.ref p.1) (0 + (i : Int)) = some (.ref ps[i].1) := by
      rw [Int.zero_add]
      exact atI_nat (by rw [List.getElem?_map, List.getElem?_eq_getElem hi1]; rfl)
    have eb : atI (qs.map fun p => V.ref p.1) (0 + (i : Int)) = some (.ref qs[i].1) := by
      rw [Int.zero_add]
      exact atI_nat (by rw [List.getElem?_map, List.getElem?_eq_getElem hi2]; rfl)
    have e2 : ps[i].2 = qs[i].2 := by
      have := congrArg (fun l => l[i]?) he
      simp only [List.getElem?_map, List.getElem?_eq_getElem hi1, List.getElem?_eq_getElem hi2, Option.map_some] at this
      exact Option.some.inj this
    have s1 := h1.ob ps[i] (List.getElem_mem hi1)
    have s2 := h2.ob qs[i] (List.getElem_mem hi2)
    have s1' : H1 ps[i].1 = some (.tup [.int ps[i].2.s, .int ps[i].2.l, .str ps[i].2.m, .str ps[i].2.w]) := s1
    have t2 : qs[i].2.T := hT _ (List.mem_map_of_mem (List.getElem_mem hi2))
    wtm_at "rd"
    refine ite_n (fun h => absurd rfl h) (fun _ => ?_)
    wtm_at "rd"
    refine us_l_is_whole ?_
    wtm_at "rd"
    refine us_l_is_whole ?_
    wtm_at "rd"
    refine rd_neSy s1 s2 (e2 ▸ t2) t2 ?_
    rw [decide_eq_true e2]
    wtm_at "rd"
    exact ⟨⟨_, _, rfl⟩, rfl⟩
  · rintro σ H1 ⟨⟨v2, v3, rfl⟩, rfl⟩
    wtm_at "rd"
    exact kk
theorem c_l_sayings_are (T : Cx K mg) (B : Tb P w K mg base) : CalX P w K mg base CX0 2 "_law_sayings_are" (sp_l_sayings_are K) [] := by
  obtain ⟨fd, F, ok⟩ := f_l_sayings_are (P := P) (w := w) (base := base) T B
  exact ⟨_, fd, p_l_sayings_are, [], ok, gl_l_sayings_are T, F.kp, FunD.bindsN F fun _ _ _ _ _ _ us hl => match us, hl with | [_, _], _ => rfl, .nil⟩
end
section
variable {P : Program} {w : World} {K : PySem.W.Frag} {mg : Str → Option Value} {base : Heap}
def sp_l_since_holds (K : PySem.W.Frag) : Sp := fun vs H Q E => ∃ (a : Ad) (st : Stg) (base : Int) (pool : List Int) (xs : List (Addr × Sy)) (c1 c2 : List (Addr × Ck)) (n m : Nat) (l : Addr) (ks : List Int), vs = [.ref a.d, .ref a.si, .ref l] ∧ (One K H a st base pool xs c1 c2 n m) ∧ (H l = some (.lst (ks.map V.int))) ∧ (Q (.bl true) H)
theorem us_l_since_holds {K : PySem.W.Frag} {H : Hp} {Q : VK} {E : XK} {a : Ad} {st : Stg} {base : Int} {pool : List Int} {xs : List (Addr × Sy)} {c1 c2 : List (Addr × Ck)} {n m : Nat} {l : Addr} {ks : List Int} (O : One K H a st base pool xs c1 c2 n m) (hl : H l = some (.lst (ks.map V.int))) (kk : Q (.bl true) H) : sp_l_since_holds K [.ref a.d, .ref a.si, .ref l] H Q E := ⟨_, _, _, _, _, _, _, _, _, _, _, rfl, O, hl, kk⟩
theorem f_l_since_holds (T : Cx K mg) (B : Tb P w K mg base) : ∃ fd, FunD K "_law_since_holds" "_law_since_holds" (defArgs s_l_since_holds) (defBody s_l_since_holds) (defScope s_l_since_holds) (d_l_since_holds.dvs K) (d_l_since_holds.kws K) (fAd K d_l_since_holds.at_) fd ∧ FnOk P w K mg base CX0 2 (fAd K d_l_since_holds.at_) fd p_l_since_holds (sp_l_since_holds K) := by
  have c_l_is_whole := c_l_is_whole (P := P) (w := w) (base := base) T B
  have c_Doubts_since := c_Doubts_since (P := P) (w := w) (base := base) T B
  obtain ⟨fd, F⟩ := T.says.def_ 33 (d := d_l_since_holds) rfl
  refine ⟨fd, F, fnD F sc_l_since_holds (fun vs H Q E h => by
    obtain ⟨_, _, _, _, _, _, _, _, _, _, _, rfl, _⟩ := h
    rfl) fun cdv A outer s H vs Q E hr h => ?_⟩
  have hu := hu_of hr
  obtain ⟨a, st, base, pool, xs, c1, c2, n, m, l, ks, rfl, O, hl, kk⟩ := h
  refine ⟨_, (pss_cons (ps_set (i := 3) sc_l_since_holds.nd rfl (by first | exact Or.inl rfl | exact Or.inr rfl) (pe_dget hu (pv 1) pe_str (fun _ _ => rfl))) (pss_cons (ps_for PassesOwn.never rfl (pi_list (pv 2)) (pg_name (i := 4) sc_l_since_holds.nd rfl (by first | exact Or.inl rfl | exact Or.inr rfl)) (pss_cons (ps_set (i := 5) sc_l_since_holds.nd rfl (by first | exact Or.inl rfl | exact Or.inr rfl) (pe_met c_Doubts_since hr (by decide) pass0 (pv 0) (pa_cons (pv 4) pa_nil))) (pss_one (ps_if (pt_cmp (pc_dnotin hu (pv 4) (pv 3))) (pss_one (ps_if (pt_cmp (pc_notN (pv 5))) (pss_one (ps_ret pe_bl)) pss_nil)) (pss_one (ps_if (PW.pt (pw_or (pt_not (pt_val (pe_cal c_l_is_whole hr (by decide) (by rfl) pass0 (pa_cons (pv 5) pa_nil)))) (pw_or1 (pt_cmpR op_ne (pv 5) (pe_ix ix_tup (pe_dget hu (pv 3) (pv 4) (fun _ _ => rfl)) pe_int (fun _ _ => rfl)) (nomark _))))) (pss_one (ps_ret pe_bl)) pss_nil)))))) (pss_one (ps_ret pe_bl)))), ?_⟩
  rw [show L2.start n_l_since_holds [.ref a.d, .ref a.si, .ref l] = [some (.ref a.d), some (.ref a.si), some (.ref l), none, none, none] from rfl]
  try dsimp only [cxOf, Cx.nox, Cx.wish, List.map]

  have hsi := O.sid
  have hlc := O.lcl.at_
  obtain ⟨dx, hd⟩ := O.dou.ob
  wtm_at "rd"
  refine forL_ints (K := K) ks (fun i σ H1 => (∃ v4 v5, σ = [some (.ref a.d), some (.ref a.si), some (.ref l), some (.ref a.lc), v4, v5]) ∧ H1 = H) ⟨⟨_, _, rfl⟩, rfl⟩ (fun i σ H1 _ q => by rw [q.2]; exact SqL.of hl) ?_ ?_
  · rintro i hi σ H1 ⟨⟨v4, v5, rfl⟩, rfl⟩
    have hv := kvT_val Ck.s ks[i] c2
    have hs := fdT_snd Ck.s ks[i] c2
    wtm_at "rd"
    refine us_Doubts_since O.dou ⟨fun c hc => ?_, fun hn => ?_⟩
    · rw [O.eq] at hc
      cases e : fdT Ck.s c2 ks[i] with
      | none =>
        rw [e, hc] at hs
        cases hs
      | some q =>
        rw [e] at hv hs
        have hv1 : valV (kvT Ck.s c2) (.inl ks[i]) = some (.ref q.1) := hv
        have hq := O.lcl.find e
        unfold Ck.tup at hq
        obtain rfl : q.2 = c := Option.some.inj (hs.trans hc)
        wtm_at "rd"
        rw [hv1]
        refine ite_f rfl ?_
        wtm_at "rd"
        refine us_l_is_whole ?_
        wtm_at "rd"
        refine ite_n (fun h => absurd rfl h) (fun _ => ?_)
        wtm_at "rd"
        exact ⟨⟨_, _, rfl⟩, rfl⟩
    · rw [O.eq] at hn
      cases e : fdT Ck.s c2 ks[i] with
      | some q =>
        rw [e, hn] at hs
        cases hs
      | none =>
        rw [e] at hv
        have hv1 : valV (kvT Ck.s c2) (.inl ks[i]) = none := hv
        wtm_at "rd"
        rw [hv1]
        refine ite_t rfl ?_
        wtm_at "rd"
        exact ⟨⟨_, _, rfl⟩, rfl⟩
  · rintro σ H1 ⟨⟨v4, v5, rfl⟩, rfl⟩
    wtm_at "rd"
    exact kk
theorem c_l_since_holds (T : Cx K mg) (B : Tb P w K mg base) : CalX P w K mg base CX0 2 "_law_since_holds" (sp_l_since_holds K) [] := by
  obtain ⟨fd, F, ok⟩ := f_l_since_holds (P := P) (w := w) (base := base) T B
  exact ⟨_, fd, p_l_since_holds, [], ok, gl_l_since_holds T, F.kp, FunD.bindsN F fun _ _ _ _ _ _ us hl => match us, hl with | [_, _, _], _ => rfl, .nil⟩
end
section
variable {P : Program} {w : World} {K : PySem.W.Frag} {mg : Str → Option Value} {base : Heap}
def sp_l_due_holds (K : PySem.W.Frag) : Sp := fun vs H Q E => ∃ (a : Ad) (st : Stg) (base : Int) (pool : List Int) (xs : List (Addr × Sy)) (c1 c2 : List (Addr × Ck)) (n m : Nat) (now : Int), vs = [.ref a.d, .ref a.b, .ref a.si, .int now] ∧ (One K H a st base pool xs c1 c2 n m) ∧ (m ≤ 10000) ∧ (n ≤ 1000) ∧ (∀ H1, Kp [] H H1 → Q (.bl true) H1)
theorem us_l_due_holds {K : PySem.W.Frag} {H : Hp} {Q : VK} {E : XK} {a : Ad} {st : Stg} {base : Int} {pool : List Int} {xs : List (Addr × Sy)} {c1 c2 : List (Addr × Ck)} {n m : Nat} {now : Int} (O : One K H a st base pool xs c1 c2 n m) (hm : m ≤ 10000) (hn : n ≤ 1000) (kk : ∀ H1, Kp [] H H1 → Q (.bl true) H1) : sp_l_due_holds K [.ref a.d, .ref a.b, .ref a.si, .int now] H Q E := ⟨_, _, _, _, _, _, _, _, _, _, rfl, O, hm, hn, kk⟩
theorem f_l_due_holds (T : Cx K mg) (B : Tb P w K mg base) : ∃ fd, FunD K "_law_due_holds" "_law_due_holds" (defArgs s_l_due_holds) (defBody s_l_due_holds) (defScope s_l_due_holds) (d_l_due_holds.dvs K) (d_l_due_holds.kws K) (fAd K d_l_due_holds.at_) fd ∧ FnOk P w K mg base CX0 4 (fAd K d_l_due_holds.at_) fd p_l_due_holds (sp_l_due_holds K) := by
  have c_l_due := c_l_due (P := P) (w := w) (base := base) T B
  have c_Doubts_due := c_Doubts_due (P := P) (w := w) (base := base) T B
  have c_l_sayings_are := c_l_sayings_are (P := P) (w := w) (base := base) T B
  have c_Book_rows := c_Book_rows (P := P) (w := w) (base := base) T B
  obtain ⟨fd, F⟩ := T.says.def_ 34 (d := d_l_due_holds) rfl
  refine ⟨fd, F, fnD F sc_l_due_holds (fun vs H Q E h => by
    obtain ⟨_, _, _, _, _, _, _, _, _, _, rfl, _⟩ := h
    rfl) fun cdv A outer s H vs Q E hr h => ?_⟩
  have hu := hu_of hr
  obtain ⟨a, st, base, pool, xs, c1, c2, n, m, now, rfl, O, hm, hn, kk⟩ := h
  refine ⟨_, (pss_cons (ps_set (i := 4) sc_l_due_holds.nd rfl (by first | exact Or.inl rfl | exact Or.inr rfl) (pe_cal c_l_due hr (by decide) (by rfl) pass0 (pa_cons (pv 2) (pa_cons (pv 3) pa_nil)))) (pss_cons (ps_set (i := 5) sc_l_due_holds.nd rfl (by first | exact Or.inl rfl | exact Or.inr rfl) (pe_dget hu (pv 2) pe_str (fun _ _ => rfl))) (pss_cons (ps_setLc (i := 6) (own := [("_law_spot", 8)]) (g := (gName 8)) (tt := tYes) rfl sc_l_due_holds.nd rfl rfl (sw_true rfl rfl rfl (by decide +kernel)) (pi_list (pe_callB cr_sortedI (by rfl) (fr_sorted T) (by decide +kernel) (pa_cons (pe_callTy (call_listD rfl) (by rfl) (fr_list T) (by decide +kernel) (pa_cons (pv 5) pa_nil)) pa_nil))) (blkOk_by (own := [("_law_spot", 8)]) (N := n_l_due_holds) (sc := defScope s_l_due_holds) (by decide +kernel)) (fun _ _ _ _ _ => (pg_name (i := 8) sc_l_due_holds.nd rfl (by first | exact Or.inl rfl | exact Or.inr rfl))) (fun _ _ _ _ _ => pts_nil) (fun _ _ _ _ _ => (pe_dget hu (pv 5) (pv 8) (fun _ _ => rfl)))) (pss_cons (ps_set (i := 7) sc_l_due_holds.nd rfl (by first | exact Or.inl rfl | exact Or.inr rfl) (pe_met c_Doubts_due hr (by decide) pass0 (pv 0) (pa_cons (pv 1) (pa_cons (pv 3) pa_nil)))) (pss_cons (ps_if (pt_not (pt_val (pe_cal c_l_sayings_are hr (by decide) (by rfl) pass0 (pa_cons (pv 7) (pa_cons (pv 4) pa_nil))))) (pss_one (ps_ret pe_bl)) pss_nil) (pss_cons (ps_expr (pe_bm PySem.F.plainAttrs_list PySem.F.slot_list_append PySem.F.type_list_append mt_append (pv 7) (pa_cons (pe_tup (pa_cons pe_int (pa_cons pe_int (pa_cons pe_str (pa_cons pe_str pa_nil))))) pa_nil))) (pss_cons (ps_if (pt_not (pt_val (pe_cal c_l_sayings_are hr (by decide) (by rfl) pass0 (pa_cons (pe_met c_Doubts_due hr (by decide) pass0 (pv 0) (pa_cons (pv 1) (pa_cons (pv 3) pa_nil))) (pa_cons (pv 4) pa_nil))))) (pss_one (ps_ret pe_bl)) pss_nil) (pss_one (ps_ret (pe_cmpR (op_eqD hr.units) (pe_met0 c_Book_rows hr (by decide) pass0 (pv 1)) (pv 6) (nomark _))))))))))), ?_⟩
  rw [show L2.start n_l_due_holds [.ref a.d, .ref a.b, .ref a.si, .int now] = [some (.ref a.d), some (.ref a.b), some (.ref a.si), some (.int now), none, none, none, none, none] from rfl]
  try dsimp only [cxOf, Cx.nox, Cx.wish, List.map]

  have hxl := O.xl
  have hcl := O.cl
  have hT : ∀ y, y ∈ dueL (xs.map (·.2)) (c2.map (·.2)) st.grace now → y.T := dueL_T fun y hy => by
    obtain ⟨p, hp, rfl⟩ := List.mem_map.mp hy
    exact Sy.T.of (O.ok p hp).1
  have hxT : ∀ p, p ∈ rowsL xs → p.2.T := fun p hp => by
    unfold rowsL at hp
    obtain ⟨k, hk, e⟩ := List.mem_filterMap.mp hp
    exact Sy.T.of (O.ok p (fdT_some e).1).1
  wtm_at "rd"
  refine us_l_due O hm fun w ws H1 W ew lw k1 nw => ?_
  have O1 := O.k0 k1
  have hsi := O1.sid
  have hlr := O1.lrw.at_
  wtm_at "rd"
  refine ⟨a.lr, _, rfl, .inl hlr, fun l nl => ?_⟩
  wtm_at "rd"
  refine rd_sortedI (ns := (xs.map (·.2)).map Sy.s) (by rw [kvT_keys]; exact upd_same) fun os r o1 o2 nr => ?_
  have eo := srt_is o1 o2
  have k2 : Kp [] H1 (upd (upd H1 l (.lst ((kvT Sy.s xs).map fun kv => kV kv.1))) r (.lst (os.map V.int))) := (Kp.new nl).nw nr
  have hr2 : upd (upd H1 l (.lst ((kvT Sy.s xs).map fun kv => kV kv.1))) r (.lst (os.map V.int)) r = some (.lst (os.map V.int)) := upd_same
  generalize upd (upd H1 l (.lst ((kvT Sy.s xs).map fun kv => kV kv.1))) r (.lst (os.map V.int)) = H2 at k2 hr2
  have O2 := O1.k0 k2
  have hlr2 := O2.lrw.at_
  have hol : os.length = xs.length := by rw [o1.length_eq, List.length_map, List.length_map]
  have hf : ∀ k, k ∈ os → fdT Sy.s xs k = some ((fdT Sy.s xs k).getD (a.t, ⟨0, 0, "", ""⟩)) := fun k hk => by
    obtain ⟨p, hp⟩ := fdT_key (o1.mem_iff.mp hk)
    rw [hp]
    rfl
  wtm_at "rd"
  intro D nD
  refine lcF_ints os (fun _ => true) (fun k => V.ref ((fdT Sy.s xs k).getD (a.t, ⟨0, 0, "", ""⟩)).1) (SqL.of hr2) nD (by omega) (fun i h H3 E N k3 hE hN => ?_) (fun H3 k3 hD3 => ?_)
  · have hlr3 := k3.g0 hlr2
    wtm_at "rd"
    refine ⟨rfl, ?_⟩
    wtm_at "rd"
    refine rd_dgetX (dg_iv (by wtm_at "hp") (by rw [kvT_val, hf _ (List.getElem_mem h)]; rfl)) ?_
    exact hE _ Kp.refl rfl
  have SD : SyL H3 D (rowsL xs) := by
    refine ⟨?_, fun p hp => ?_⟩
    · rw [hD3]
      unfold rowsL
      rw [← eo, rowsL_take (fun k hk => o1.mem_iff.mp hk) hf, List.filter_eq_self.mpr (fun _ _ => rfl)]
      simp only [List.map_map]
      rfl
    · unfold rowsL at hp
      obtain ⟨k, hk, e⟩ := List.mem_filterMap.mp hp
      exact k3.g0 (O2.lrw.find e)
  have O3 := O2.k0 k3
  have k13 := (k1.trans k2).trans k3
  have W3 := (W.k0 k2).k0 k3
  obtain ⟨dx3, hd3⟩ := O3.dou.ob
  wtm_at "rd"
  refine us_Doubts_due O3.dou O3.bok O3.set (by omega) fun r4 ps4 H4 S4 e4 k4 n4 => ?_
  rw [O.eq] at e4
  wtm_at "rd"
  refine us_l_sayings_are S4 (W3.k0 k4) (e4.trans ew.symm) (by rw [ew]; exact hT) (by omega) ?_
  have hr4 := S4.at_
  have l4 : (ps4.map fun p => V.ref p.1).length < sizeLine := szlt (by
    have := congrArg List.length (e4.trans ew.symm)
    rw [List.length_map, List.length_map] at this
    rw [List.length_map]
    omega)
  wtm_at "rd"
  refine ⟨sz1000 (by simp), fun t nt => ?_⟩
  have hr5 : upd H4 t (.tup [.int 0, .int 0, .str "dead", .str ""]) r4 = some (.lst (ps4.map fun p => V.ref p.1)) := hu_ne (ne_of_none hr4 nt) hr4
  wtm_at "rd"
  have k5 : Kp [] H3 (upd (upd H4 t (.tup [.int 0, .int 0, .str "dead", .str ""])) r4 (.lst ((ps4.map fun p => V.ref p.1) ++ [.ref t]))) := (k4.nw nt).mine n4
  generalize upd (upd H4 t (.tup [.int 0, .int 0, .str "dead", .str ""])) r4 (.lst ((ps4.map fun p => V.ref p.1) ++ [.ref t])) = H5 at k5
  have O5 := O3.k0 k5
  obtain ⟨dx5, hd5⟩ := O5.dou.ob
  wtm_at "rd"
  refine us_Doubts_due O5.dou O5.bok O5.set (by omega) fun r6 ps6 H6 S6 e6 k6 n6 => ?_
  rw [O.eq] at e6
  wtm_at "rd"
  refine us_l_sayings_are S6 ((W3.k0 k5).k0 k6) (e6.trans ew.symm) (by rw [ew]; exact hT) (by omega) ?_
  have O6 := O5.k0 k6
  obtain ⟨dx6, hb6⟩ := O6.bok.ob
  wtm_at "rd"
  refine us_Book_rows O6.bok (by omega) fun r7 H7 S7 k7 n7 => ?_
  wtm_at "rd"
  refine rd_eqSyL S7 (((SD.k0 k5).k0 k6).k0 k7) hxT hxT ?_
  rw [decide_eq_true rfl]
  exact kk _ (((k13.trans k5).trans k6).trans k7)
theorem c_l_due_holds (T : Cx K mg) (B : Tb P w K mg base) : CalX P w K mg base CX0 4 "_law_due_holds" (sp_l_due_holds K) [] := by
  obtain ⟨fd, F, ok⟩ := f_l_due_holds (P := P) (w := w) (base := base) T B
  exact ⟨_, fd, p_l_due_holds, [], ok, gl_l_due_holds T, F.kp, FunD.bindsN F fun _ _ _ _ _ _ us hl => match us, hl with | [_, _, _, _], _ => rfl, .nil⟩
end
section
variable {P : Program} {w : World} {K : PySem.W.Frag} {mg : Str → Option Value} {base : Heap}
def sp_l_row_holds (K : PySem.W.Frag) : Sp := fun vs H Q E => ∃ (p c : Addr) (a : Ad) (st : Stg) (base : Int) (pool : List Int) (xs : List (Addr × Sy)) (c1 c2 : List (Addr × Ck)) (n m : Nat) (now : Int), vs = [.ref p, .ref a.t, .int now] ∧ (Box H p c) ∧ (One K H a st base pool xs c1 c2 n m) ∧ (m ≤ 1000) ∧ (n ≤ 60) ∧ (∀ H1 ys cs1 cs2, One K H1 a st base pool ys cs1 cs2 (n + 1) (m + 6) → Box H1 p c → Kp (a.ms p) H H1 → Q (.bl true) H1)
theorem us_l_row_holds {K : PySem.W.Frag} {H : Hp} {Q : VK} {E : XK} {p c : Addr} {a : Ad} {st : Stg} {base : Int} {pool : List Int} {xs : List (Addr × Sy)} {c1 c2 : List (Addr × Ck)} {n m : Nat} {now : Int} (hB : Box H p c) (O : One K H a st base pool xs c1 c2 n m) (hm : m ≤ 1000) (hn : n ≤ 60) (kk : ∀ H1 ys cs1 cs2, One K H1 a st base pool ys cs1 cs2 (n + 1) (m + 6) → Box H1 p c → Kp (a.ms p) H H1 → Q (.bl true) H1) : sp_l_row_holds K [.ref p, .ref a.t, .int now] H Q E := ⟨_, _, _, _, _, _, _, _, _, _, _, _, rfl, hB, O, hm, hn, kk⟩
theorem f_l_row_holds (T : Cx K mg) (B : Tb P w K mg base) : ∃ fd, FunD K "_law_row_holds" "_law_row_holds" (defArgs s_l_row_holds) (defBody s_l_row_holds) (defScope s_l_row_holds) (d_l_row_holds.dvs K) (d_l_row_holds.kws K) (fAd K d_l_row_holds.at_) fd ∧ FnOk P w K mg base CX0 7 (fAd K d_l_row_holds.at_) fd p_l_row_holds (sp_l_row_holds K) := by
  have c_l_draw := c_l_draw (P := P) (w := w) (base := base) T B
  have c_l_doubt := c_l_doubt (P := P) (w := w) (base := base) T B
  have c_Doubts_lift := c_Doubts_lift (P := P) (w := w) (base := base) T B
  have c_l_next_saying := c_l_next_saying (P := P) (w := w) (base := base) T B
  have c_Book_take := c_Book_take (P := P) (w := w) (base := base) T B
  have c_l_since_holds := c_l_since_holds (P := P) (w := w) (base := base) T B
  obtain ⟨fd, F⟩ := T.says.def_ 35 (d := d_l_row_holds) rfl
  refine ⟨fd, F, fnD F sc_l_row_holds (fun vs H Q E h => by
    obtain ⟨_, _, _, _, _, _, _, _, _, _, _, _, rfl, _⟩ := h
    rfl) fun cdv A outer s H vs Q E hr h => ?_⟩
  have hu := hu_of hr
  obtain ⟨p, c, a, st, base, pool, xs, c1, c2, n, m, now, rfl, hB, O, hm, hn, kk⟩ := h
  refine ⟨_, (pss_cons (ps_set (i := 3) sc_l_row_holds.nd rfl (by first | exact Or.inl rfl | exact Or.inr rfl) (pe_ix ix_tup (pv 1) pe_int (fun _ _ => rfl))) (pss_cons (ps_set (i := 4) sc_l_row_holds.nd rfl (by first | exact Or.inl rfl | exact Or.inr rfl) (pe_ix ix_tup (pv 1) pe_int (fun _ _ => rfl))) (pss_cons (ps_set (i := 5) sc_l_row_holds.nd rfl (by first | exact Or.inl rfl | exact Or.inr rfl) (pe_ix ix_tup (pv 1) pe_int (fun _ _ => rfl))) (pss_cons (ps_set (i := 6) sc_l_row_holds.nd rfl (by first | exact Or.inl rfl | exact Or.inr rfl) (pe_dget hu (pv 5) pe_str (fun _ _ => rfl))) (pss_cons (ps_set (i := 7) sc_l_row_holds.nd rfl (by first | exact Or.inl rfl | exact Or.inr rfl) (pe_ix ix_list (pv 6) (pe_cal c_l_draw hr (by decide) (by rfl) pass0 (pa_cons (pv 0) (pa_cons (pe_callB call_lenS (by rfl) (fr_len T) (by decide +kernel) (pa_cons (pv 6) pa_nil)) pa_nil))) (fun _ _ => rfl))) (pss_cons (ps_set (i := 8) sc_l_row_holds.nd rfl (by first | exact Or.inl rfl | exact Or.inr rfl) (pe_cal c_l_draw hr (by decide) (by rfl) pass0 (pa_cons (pv 0) (pa_cons pe_int pa_nil)))) (C8.pss_cut (ps_if (pt_cmpR op_eq (pv 8) pe_int (nomark _)) (pss_one (ps_for PassesOwn.never rfl (pi_list (pv 6)) (pg_name (i := 9) sc_l_row_holds.nd rfl (by first | exact Or.inl rfl | exact Or.inr rfl)) (pss_one (ps_if (pt_not (pt_val (pe_cal c_l_doubt hr (by decide) (by rfl) pass0 (pa_cons (pv 0) (pa_cons (pv 3) (pa_cons (pv 5) (pa_cons (pv 9) (pa_cons (pv 2) pa_nil)))))))) (pss_one (ps_ret pe_bl)) pss_nil)))) (pss_one (ps_if (pt_cmpR op_lt (pv 8) pe_int (nomark _)) (pss_one (ps_if (pt_not (pt_val (pe_cal c_l_doubt hr (by decide) (by rfl) pass0 (pa_cons (pv 0) (pa_cons (pv 3) (pa_cons (pv 5) (pa_cons (pv 7) (pa_cons (pv 2) pa_nil)))))))) (pss_one (ps_ret pe_bl)) pss_nil)) (pss_one (ps_if (pt_cmpR op_eq (pv 8) pe_int (nomark _)) (pss_cons (ps_set (i := 10) sc_l_row_holds.nd rfl (by first | exact Or.inl rfl | exact Or.inr rfl) (pe_dget hu (pv 5) pe_str (fun _ _ => rfl))) (pss_cons (ps_expr (pe_dpop2 (pv 10) (pv 7) pe_non ⟨rfl, rfl, rfl, rfl⟩)) (pss_one (ps_if (pt_cmp (pc_notN (pe_met c_Doubts_lift hr (by decide) pass0 (pv 3) (pa_cons (pv 7) pa_nil)))) (pss_one (ps_ret pe_bl)) pss_nil)))) (pss_one (ps_if (pt_cmpR op_lt (pv 8) pe_int (nomark _)) (pss_cons (ps_set (i := 11) sc_l_row_holds.nd rfl (by first | exact Or.inl rfl | exact Or.inr rfl) (pe_cal c_l_next_saying hr (by decide) (by rfl) pass0 (pa_cons (pv 0) (pa_cons (pv 5) (pa_cons (pv 7) pa_nil))))) (pss_cons (ps_set (i := 12) sc_l_row_holds.nd rfl (by first | exact Or.inl rfl | exact Or.inr rfl) (pe_dget hu (pv 5) pe_str (fun _ _ => rfl))) (pss_cons (ps_dput hu (pv 12) (pv 7) (pv 11) rfl) (pss_one (ps_expr (pe_met c_Book_take hr (by decide) pass0 (pv 4) (pa_cons (pv 11) pa_nil))))))) pss_nil))))))) (pss_cons (ps_if (pt_cmpR op_eq (pe_cal c_l_draw hr (by decide) (by rfl) pass0 (pa_cons (pv 0) (pa_cons pe_int pa_nil))) pe_int (nomark _)) (pss_one (ps_ret (pe_cal c_l_since_holds hr (by decide) (by rfl) pass0 (pa_cons (pv 3) (pa_cons (pv 5) (pa_cons (pe_lst (pa_cons (pv 7) pa_nil)) pa_nil)))))) pss_nil) (pss_one (ps_ret pe_bl)))))))))), ?_⟩
  rw [show L2.start n_l_row_holds [.ref p, .ref a.t, .int now] = [some (.ref p), some (.ref a.t), some (.int now), none, none, none, none, none, none, none, none, none, none] from rfl]
  try dsimp only [cxOf, Cx.nox, Cx.wish, List.map]

  have hxl := O.xl
  have hcl := O.cl
  have htp := O.tp
  have hsi := O.sid
  have hpl := O.pol
  obtain ⟨pne, pln⟩ := O.pne
  have pl0 : 0 < pool.length := List.length_pos_iff.mpr pne
  have nd := O.nd
  simp only [Ad.ds, List.nodup_cons, List.mem_cons, List.not_mem_nil, or_false, not_or, List.nodup_nil, and_true] at nd
  wtm_at "rd"
  refine us_l_draw hB (by omega) (by omega) fun j H1 j0 j1 B1 k1 => ?_
  have O1 := O.box hB k1
  have hpl1 := O1.pol
  wtm_at "rd"
  have hsp : 0 ≤ pool.getD j.toNat 0 ∧ pool.getD j.toNat 0 < st.ring := by
    have hj : j.toNat < pool.length := by omega
    have ej : pool.getD j.toNat 0 = pool[j.toNat] := by simp [List.getD, hj]
    rw [ej]
    exact O.prg _ (List.getElem_mem _)
  generalize pool.getD j.toNat 0 = spot at hsp
  refine us_l_draw B1 (by decide) (by decide) fun way H2 w0 w1 B2 k2 => ?_
  have O2 := O1.box B1 k2
  have hsi2 := O2.sid
  have hpl2 := O2.pol
  have k12 : Kp (a.ms p) H H2 := (k1.trans k2).mono (by simp [Ad.ms])
  obtain ⟨dxd, hd2⟩ := O2.dou.ob
  obtain ⟨dxb, hb2⟩ := O2.bok.ob
  wtm_at "rd"
  refine rd_cut (fun σ H3 => (∃ v9 v10 v11 v12, σ = [some (.ref p), some (.ref a.t), some (.int now), some (.ref a.d), some (.ref a.b), some (.ref a.si), some (.ref a.pl), some (.int spot), some (.int way), v9, v10, v11, v12]) ∧ ∃ ys cs1 cs2, One K H3 a st base pool ys cs1 cs2 (n + 1) (m + 6) ∧ Box H3 p c ∧ Kp (a.ms p) H H3) ?_ ?_
  · wtm_at "rd"
    refine ite_d (fun h => ?_) (fun h => ?_)
    · wtm_at "rd"
      refine forL_ints (K := K) pool (fun i σ H3 => (∃ v9 v10 v11 v12, σ = [some (.ref p), some (.ref a.t), some (.int now), some (.ref a.d), some (.ref a.b), some (.ref a.si), some (.ref a.pl), some (.int spot), some (.int way), v9, v10, v11, v12]) ∧ ∃ cs1 cs2, One K H3 a st base pool xs cs1 cs2 n (m + i) ∧ Box H3 p c ∧ Kp (a.ms p) H H3) ⟨⟨_, _, _, _, rfl⟩, _, _, O2, B2, k12⟩ (fun i σ H3 _ q => by
        obtain ⟨-, _, _, O3, -⟩ := q
        exact SqL.of O3.pol) ?_ ?_
      · rintro i hi σ H3 ⟨⟨v9, v10, v11, v12, rfl⟩, cs1, cs2, O3, B3, k3⟩
        wtm_at "rd"
        refine us_l_doubt B3 O3 (by omega) fun H4 d1 d2 O4 B4 k4 => ?_
        wtm_at "rd"
        exact ⟨⟨_, _, _, _, rfl⟩, d1, d2, O4, B4, k3.trans (k4.mono (by simp [Ad.ms]))⟩
      · rintro σ H3 ⟨⟨v9, v10, v11, v12, rfl⟩, cs1, cs2, O3, B3, k3⟩
        exact ⟨⟨_, _, _, _, rfl⟩, xs, cs1, cs2, O3.up (by omega) (by omega), B3, k3⟩
    wtm_at "rd"
    refine ite_d (fun h => ?_) (fun h => ?_)
    · wtm_at "rd"
      refine us_l_doubt B2 O2 (by omega) fun H4 d1 d2 O4 B4 k4 => ?_
      wtm_at "rd"
      exact ⟨⟨_, _, _, _, rfl⟩, xs, d1, d2, O4.up (by omega) (by omega), B4, k12.trans (k4.mono (by simp [Ad.ms]))⟩
    wtm_at "rd"
    refine ite_d (fun h => ?_) (fun h => ?_)
    · have hlc := O2.lcl.at_
      wtm_at "rd"
      have k3 : Kp [a.lc] H2 (upd H2 a.lc (.dK (kvT Ck.s (dpT Ck.s c2 spot)))) := Kp.refl.wr (by simp)
      have T3 : ClkT (upd H2 a.lc (.dK (kvT Ck.s (dpT Ck.s c2 spot)))) a.lc (dpT Ck.s c2 spot) := O2.lcl.drop
      have go : ∀ (H3 : Hp), Kp [a.lc] H2 H3 → ClkT H3 a.lc (dpT Ck.s c2 spot) → ∃ dx, H3 a.d = some (.ins (ga K "Doubts") dx [(("_setting" : Str), .ref a.sd), (("_clocks" : Str), .ref a.cd)]) := fun H3 k3 T3 => ⟨dxd, k3.g1 (ne_of hd2 hlc (by intro z; cases z)) hd2⟩
      have fin : ∀ (H3 H4 : Hp), Kp [a.lc] H2 H3 → ClkT H3 a.lc (dpT Ck.s c2 spot) → DouAt K H3 a.d a.sd a.cd c1 → DouAt K H4 a.d a.sd a.cd (dpT Ck.s c1 spot) → Kp [a.cd] H3 H4 → ∃ ys cs1 cs2, One K H4 a st base pool ys cs1 cs2 (n + 1) (m + 6) ∧ Box H4 p c ∧ Kp (a.ms p) H H4 := fun H3 H4 k3 T3 D3 D4 k4 => by
        have T4 := T3.kp k4 (by simpa using nd.2.2.1.1) (Dj.d1 D3.cl.at_).noT
        have k24 : Kp [a.lc, a.cd] H2 H4 := (k3.mono (by simp)).trans (k4.mono (by simp))
        refine ⟨xs, _, _, (O2.setC k24 D4.cl T4 ?_ (Nat.le_trans (dpT_len _ _ _) hcl)).up (by omega) (by omega), B2.ofD k24 (fun q hq => O2.isD q (by
          simp only [Ad.ds, List.mem_cons, List.not_mem_nil, or_false] at hq ⊢
          rcases hq with h | h <;> simp [h])), k12.trans (k24.mono (by simp [Ad.ms]))⟩
        rw [dpT_snd, dpT_snd, O.eq]
      refine ⟨fun v hv => ?_, fun hv => ?_⟩
      · rw [kvT_drop]
        have D3 := O2.dou.kp k3 (by simpa using Ne.symm nd.2.2.1.1) (Dj.d1 hlc)
        have hd3 := hu_ne (o := .dK (kvT Ck.s (dpT Ck.s c2 spot))) (ne_of hd2 hlc (by intro z; cases z)) hd2
        wtm_at "rd"
        refine us_Doubts_lift D3 fun H4 D4 k4 => ?_
        wtm_at "rd"
        exact ⟨⟨_, _, _, _, rfl⟩, fin _ H4 k3 T3 D3 D4 k4⟩
      · have e : fdT Ck.s c2 spot = none := by
          have hv2 := kvT_val Ck.s spot c2
          rw [hv] at hv2
          exact Option.map_eq_none_iff.mp hv2.symm
        have T2 := O2.lcl
        rw [← dpT_none e] at T2
        wtm_at "rd"
        refine us_Doubts_lift O2.dou fun H4 D4 k4 => ?_
        wtm_at "rd"
        exact ⟨⟨_, _, _, _, rfl⟩, fin H2 H4 Kp.refl T2 O2.dou D4 k4⟩
    wtm_at "rd"
    refine ite_d (fun h => ?_) (fun h => ?_)
    · wtm_at "rd"
      refine us_l_next_saying B2 O2 hsp (by omega) fun t y H3 hy ys ok yl late B3 k3 => ?_
      have O3 := O2.box B2 k3
      have hsi3 := O3.sid
      have hlr3 := O3.lrw.at_
      have len : (kvT Sy.s xs).length < sizeLine := szlt (by
        rw [kvT_len]
        omega)
      have e2 : putK (kvT Sy.s xs) (.inl spot) (.ref t) = kvT Sy.s (ptT Sy.s xs (t, y)) := by
        rw [← ys]
        exact kvT_put Sy.s xs (t, y)
      obtain ⟨dxb3, hb3⟩ := O3.bok.ob
      wtm_at "rd"
      rw [e2]
      have T4 := O3.lrw.put (p := (t, y)) hy
      have k4 : Kp [a.lr] H3 (upd H3 a.lr (.dK (kvT Sy.s (ptT Sy.s xs (t, y))))) := Kp.refl.wr (by simp)
      have hb4 := hu_ne (o := .dK (kvT Sy.s (ptT Sy.s xs (t, y)))) (ne_of hb3 hlr3 (by intro z; cases z)) hb3
      have hy4 := hu_ne (o := .dK (kvT Sy.s (ptT Sy.s xs (t, y)))) (ne_of hy hlr3 (by intro z; cases z)) hy
      have K4 := O3.bok.kp k4 (by simpa using Ne.symm nd.1.1) (Dj.d1 hlr3)
      have S4 := O3.set.k1 k4 (O3.set.nedK hlr3)
      wtm_at "rd"
      refine us_Book_take K4 S4 (fun q hq => (syOk_iff.mp (O.ok q hq).1).2.2.1) hy4 ok (by omega) fun H5 T5 k5 => ?_
      wtm_at "rd"
      have ept : takeT xs (t, y) = ptT Sy.s xs (t, y) := takeT_pos (by
        show rkO ((fdT Sy.s xs y.s).map (·.2)) < rk y
        rw [ys]
        exact late)
      rw [ept] at T5
      have T5' := T4.kp k5 (by simpa using nd.1.1) (Dj.d1 K4.ro.at_).noT
      have k35 : Kp [a.lr, a.rd] H3 H5 := (k4.mono (by simp)).trans (k5.mono (by simp))
      refine ⟨⟨_, _, _, _, rfl⟩, _, _, _, (O3.setR (n' := n + 1) k35 T5 T5' (fun q hq => ?_) ?_).up (by omega) (by omega), B3.ofD k35 (fun q hq => O3.isD q (by
          simp only [Ad.ds, List.mem_cons, List.not_mem_nil, or_false] at hq ⊢
          rcases hq with h | h <;> simp [h])), (k12.trans (k3.mono (by simp [Ad.ms]))).trans (k35.mono (by simp [Ad.ms]))⟩
      · rcases ptT_mem hq with rfl | hq
        · exact ⟨ok, by show y.l ≤ _; omega⟩
        · have := O.ok q hq
          exact ⟨this.1, by have := this.2; omega⟩
      · have := ptT_len Sy.s xs (t, y)
        omega
    · wtm_at "rd"
      exact ⟨⟨_, _, _, _, rfl⟩, xs, c1, c2, O2.up (by omega) (by omega), B2, k12⟩
  · rintro σ H3 ⟨⟨v9, v10, v11, v12, rfl⟩, ys, cs1, cs2, O3, B3, k3⟩
    wtm_at "rd"
    refine us_l_draw B3 (by decide) (by decide) fun d H4 d0 d1 B4 k4 => ?_
    have O4 := O3.box B3 k4
    wtm_at "rd"
    refine ite_d (fun h => ?_) (fun h => ?_)
    · wtm_at "rd"
      refine ⟨sz1000 (by simp), fun l nl => ?_⟩
      have k5 : Kp [] H4 (upd H4 l (.lst [.int spot])) := Kp.new nl
      wtm_at "rd"
      refine us_l_since_holds (ks := [spot]) (O4.k0 k5) upd_same ?_
      exact kk _ _ _ _ (O4.k0 k5) (B4.k0 k5) ((k3.trans (k4.mono (by simp [Ad.ms]))).trans k5.of0)
    · wtm_at "rd"
      exact kk _ _ _ _ O4 B4 (k3.trans (k4.mono (by simp [Ad.ms])))
theorem c_l_row_holds (T : Cx K mg) (B : Tb P w K mg base) : CalX P w K mg base CX0 7 "_law_row_holds" (sp_l_row_holds K) [] := by
  obtain ⟨fd, F, ok⟩ := f_l_row_holds (P := P) (w := w) (base := base) T B
  exact ⟨_, fd, p_l_row_holds, [], ok, gl_l_row_holds T, F.kp, FunD.bindsN F fun _ _ _ _ _ _ us hl => match us, hl with | [_, _, _], _ => rfl, .nil⟩
end
section
variable {P : Program} {w : World} {K : PySem.W.Frag} {mg : Str → Option Value} {base : Heap}
def sp_l_made (K : PySem.W.Frag) : Sp := fun vs H Q E => ∃ (p c : Addr), vs = [.ref p] ∧ (Box H p c) ∧ (∀ (a : Ad) (st : Stg) (base : Int) (pool : List Int) (xs : List (Addr × Sy)) H1, One K H1 a st base pool xs [] [] 0 0 → Box H1 p c → Kp [p] H H1 → (∀ q, q ∈ a.ds → H q = none) → Q (.ref a.t) H1)
theorem us_l_made {K : PySem.W.Frag} {H : Hp} {Q : VK} {E : XK} {p c : Addr} (hB : Box H p c) (kk : ∀ (a : Ad) (st : Stg) (base : Int) (pool : List Int) (xs : List (Addr × Sy)) H1, One K H1 a st base pool xs [] [] 0 0 → Box H1 p c → Kp [p] H H1 → (∀ q, q ∈ a.ds → H q = none) → Q (.ref a.t) H1) : sp_l_made K [.ref p] H Q E := ⟨_, _, rfl, hB, kk⟩
theorem f_l_made (T : Cx K mg) (B : Tb P w K mg base) : ∃ fd, FunD K "_law_made" "_law_made" (defArgs s_l_made) (defBody s_l_made) (defScope s_l_made) (d_l_made.dvs K) (d_l_made.kws K) (fAd K d_l_made.at_) fd ∧ FnOk P w K mg base CX0 9 (fAd K d_l_made.at_) fd p_l_made (sp_l_made K) := by
  have c_l_bits := c_l_bits (P := P) (w := w) (base := base) T B
  have c_l_setting := c_l_setting (P := P) (w := w) (base := base) T B
  have c_l_draw := c_l_draw (P := P) (w := w) (base := base) T B
  have c_l_marks := c_l_marks (P := P) (w := w) (base := base) T B
  have c_l_mark := c_l_mark (P := P) (w := w) (base := base) T B
  have c_l_worth := c_l_worth (P := P) (w := w) (base := base) T B
  have c_Doubts_init := c_Doubts_init (P := P) (w := w) (base := base) T B
  have c_Book_init := c_Book_init (P := P) (w := w) (base := base) T B
  obtain ⟨fd, F⟩ := T.says.def_ 36 (d := d_l_made) rfl
  refine ⟨fd, F, fnD F sc_l_made (fun vs H Q E h => by
    obtain ⟨_, _, rfl, _⟩ := h
    rfl) fun cdv A outer s H vs Q E hr h => ?_⟩
  have hu := hu_of hr
  obtain ⟨p, c, rfl, hB, kk⟩ := h
  refine ⟨_, (pss_cons (ps_set (i := 1) sc_l_made.nd rfl (by first | exact Or.inl rfl | exact Or.inr rfl) (pe_cal c_l_bits hr (by decide) (by rfl) pass0 (pa_cons (pv 0) pa_nil))) (pss_cons (ps_set (i := 2) sc_l_made.nd rfl (by first | exact Or.inl rfl | exact Or.inr rfl) (pe_op op_shl pe_int (pv 1))) (pss_cons (ps_set (i := 3) sc_l_made.nd rfl (by first | exact Or.inl rfl | exact Or.inr rfl) (pe_cal c_l_setting hr (by decide) (by rfl) pass0 (pa_cons (pv 0) (pa_cons (pv 1) pa_nil)))) (pss_cons (ps_set (i := 4) sc_l_made.nd rfl (by first | exact Or.inl rfl | exact Or.inr rfl) pe_int) (C8.pss_cut (ps_if (pt_cmpR op_eq (pe_cal c_l_draw hr (by decide) (by rfl) pass0 (pa_cons (pv 0) (pa_cons pe_int pa_nil))) pe_int (nomark _)) (pss_one (ps_set (i := 4) sc_l_made.nd rfl (by first | exact Or.inl rfl | exact Or.inr rfl) (pe_op op_pow pe_int pe_int))) pss_nil) (pss_cons (ps_setLc (i := 5) (own := [("_law_k", 10)]) (g := (gName 10)) (tt := tYes) rfl sc_l_made.nd rfl rfl (sw_true rfl rfl rfl (by decide +kernel)) (pi_range1 (by rfl) (fr_range T) (pa_cons (pe_op op_add pe_int (pe_cal c_l_draw hr (by decide) (by rfl) pass0 (pa_cons (pv 0) (pa_cons pe_int pa_nil)))) pa_nil)) (blkOk_by (own := [("_law_k", 10)]) (N := n_l_made) (sc := defScope s_l_made) (by decide +kernel)) (fun _ _ _ _ _ => (pg_name (i := 10) sc_l_made.nd rfl (by first | exact Or.inl rfl | exact Or.inr rfl))) (fun _ _ _ _ _ => pts_nil) (fun _ _ _ _ _ => (pe_cal c_l_draw hr (by decide) (by rfl) pass0 (pa_cons (pv 0) (pa_cons (pv 2) pa_nil))))) (pss_cons (ps_set (i := 6) sc_l_made.nd rfl (by first | exact Or.inl rfl | exact Or.inr rfl) pe_dnewK) (pss_cons (ps_for PassesOwn.never rfl (pi_range1 (by rfl) (fr_range T) (pa_cons (pv 2) pa_nil)) (pg_name (i := 7) sc_l_made.nd rfl (by first | exact Or.inl rfl | exact Or.inr rfl)) (pss_one (ps_if (PW.pt (pw_and (PW.pt (pw_or (pt_cmpR op_le (pv 2) pe_int (nomark _)) (pw_or1 (pt_cmpR op_in_seq (pv 7) (pv 5) rfl)))) (pw_and1 (pt_cmpR op_gt (pe_cal c_l_draw hr (by decide) (by rfl) pass0 (pa_cons (pv 0) (pa_cons pe_int pa_nil))) pe_int (nomark _))))) (pss_cons (ps_set (i := 8) sc_l_made.nd rfl (by first | exact Or.inl rfl | exact Or.inr rfl) (pe_ix ix_list (pe_cal0 c_l_marks hr (by decide) (by rfl) pass0) (pe_cal c_l_mark hr (by decide) (by rfl) pass0 (pa_cons (pv 0) pa_nil)) (fun _ _ => rfl))) (pss_one (ps_dput hu (pv 6) (pv 7) (pe_tup (pa_cons (pv 7) (pa_cons (pe_op op_add (pv 4) (pe_cal c_l_draw hr (by decide) (by rfl) pass0 (pa_cons (pv 0) (pa_cons pe_int pa_nil)))) (pa_cons (pv 8) (pa_cons (pe_cal c_l_worth hr (by decide) (by rfl) pass0 (pa_cons (pv 0) pa_nil)) pa_nil))))) rfl))) pss_nil))) (pss_cons (ps_set (i := 9) sc_l_made.nd rfl (by first | exact Or.inl rfl | exact Or.inr rfl) (pe_disp (pps_cons pe_str (pe_ix ix_tup (pv 3) pe_int (fun _ _ => rfl)) (pps_cons pe_str (pv 4) (pps_cons pe_str (pv 5) (pps_cons pe_str (pv 6) (pps_cons pe_str pe_dnewK pps_nil))))) (by rfl) (by rfl) (fun z => by cases z) (by decide))) (pss_one (ps_ret (pe_tup (pa_cons (pe_mak c_Doubts_init hr (by decide) (by rfl) pass0 (pa_cons (pe_ix ix_tup (pv 3) pe_int (fun _ _ => rfl)) pa_nil)) (pa_cons (pe_mak c_Book_init hr (by decide) (by rfl) pass0 (pa_cons (pe_ix ix_tup (pv 3) pe_int (fun _ _ => rfl)) (pa_cons (pe_lc (own := [("_law_spot", 7)]) (g := (gName 7)) (tt := tYes) rfl sc_l_made.nd (pi_list (pe_callB cr_sortedI (by rfl) (fr_sorted T) (by decide +kernel) (pa_cons (pe_callTy (call_listD rfl) (by rfl) (fr_list T) (by decide +kernel) (pa_cons (pv 6) pa_nil)) pa_nil))) (blkOk_by (own := [("_law_spot", 7)]) (N := n_l_made) (sc := defScope s_l_made) (by decide +kernel)) (fun _ _ _ _ _ => (pg_name (i := 7) sc_l_made.nd rfl (by first | exact Or.inl rfl | exact Or.inr rfl))) (fun _ _ _ _ _ => pts_nil) (fun _ _ _ _ _ => (pe_dget hu (pv 6) (pv 7) (fun _ _ => rfl)))) pa_nil))) (pa_cons (pv 9) pa_nil))))))))))))))), ?_⟩
  rw [show L2.start n_l_made [.ref p] = [some (.ref p), none, none, none, none, none, none, none, none, none, none] from rfl]
  try dsimp only [cxOf, Cx.nox, Cx.wish, List.map]

  have hM := MOST_eq
  have frN : ∀ {q : Addr} {H1 : Hp}, Kp [p] H H1 → Box H1 p c → H1 q = none → H q = none := fun k B h => k.back h fun z => B.ne1 h (List.mem_singleton.mp z).symm
  wtm_at "rd"
  refine us_l_bits hB fun bits H1 b0 b1 B1 k1 => ?_
  wtm_at "rd"
  refine us_l_setting B1 b0 b1 fun t sd st H2 ht S2 eb B2 k2 => ?_
  have er : (1 : Int) * 2 ^ bits.toNat = st.ring := by rw [Int.one_mul, Stg.ring_eq, eb]
  have rp := S2.ok.r2
  have rm := S2.ok.r256
  wtm_at "rd"
  have e1 : ∀ x : Int, x = 1 * 2 ^ bits.toNat → x = st.ring := fun x h => h.trans er
  refine rd_cut (fun σ H3 => ∃ base : Int, σ = [some (.ref p), some (.int bits), some (.int st.ring), some (.ref t), some (.int base), none, none, none, none, none, none] ∧ 0 ≤ base ∧ base ≤ 1000000000000000000000000000000000000000000000000000000000 ∧ Box H3 p c ∧ SetAt K H3 sd st ∧ H3 t = some (.tup [.ref sd, .int st.grace]) ∧ Kp [p] H H3) ?_ ?_
  · wtm_at "rd"
    refine us_l_draw B2 (by decide) (by decide) fun d H3 d0 d1 B3 k3 => ?_
    have S3 : SetAt K H3 sd st := S2.k1 k3 (by
      obtain ⟨xs, e, _⟩ := B2.at
      exact S2.nelst e)
    have ht3 := k3.g1 (B2.tup ht) ht
    wtm_at "rd"
    refine ite_d (fun h => ?_) (fun h => ?_)
    · wtm_at "rd"
      exact ⟨_, by rw [← er]; rfl, by decide +kernel, by decide +kernel, B3, S3, ht3, (k1.trans k2).trans k3⟩
    · wtm_at "rd"
      exact ⟨_, by rw [← er]; rfl, by decide, by decide +kernel, B3, S3, ht3, (k1.trans k2).trans k3⟩
  rintro σ H3 ⟨base, rfl, g0, g1, B3, S3, ht3, k3⟩
  wtm_at "rd"
  refine us_l_draw B3 (by decide) (by decide) fun np H4 p0 p1 B4 k4 => ?_
  have S4 : SetAt K H4 sd st := S3.k1 k4 (by
    obtain ⟨xs, e, _⟩ := B3.at
    exact S3.nelst e)
  have ht4 := k4.g1 (B3.tup ht3) ht3
  wtm_at "rd"
  intro pl npl
  refine lcR_by (fun i H5 => (∃ pool : List Int, pool.length = i ∧ (∀ x, x ∈ pool → 0 ≤ x ∧ x < st.ring) ∧ Mw K H5 p c t sd pl st pool) ∧ Kp [p] H H5) ⟨⟨[], rfl, (fun x hx => by cases hx), ⟨B4.new npl, S4.k0 (Kp.new npl), hu_ne (ne_of_none ht4 npl) ht4, upd_same⟩⟩, (k3.trans k4).nw npl⟩ (fun i H5 hi q => ?_) (fun H5 q => ?_)
  · obtain ⟨⟨pool, q1, q2, W5⟩, k5⟩ := q
    wtm_at "rd"
    refine ⟨rfl, ?_⟩
    wtm_at "rd"
    refine us_l_draw W5.bx (by omega) (by omega) fun x H6 x0 x1 B6 k6 => ?_
    have W6 := W5.pp B6 k6
    have npl0 : H pl = none := frN (k3.trans k4) B4 npl
    wtm_at "rd"
    have kw : Kp [pl] H6 (upd H6 pl (.lst (pool.map V.int ++ [.int x]))) := Kp.refl.wr (by simp)
    refine ⟨_, W6.po, szlt (by simp; omega), ⟨pool ++ [x], by simp [q1], fun z hz => ?_, ⟨W6.bx.ofL W6.po (B4.ne1 npl) (B4.ne2 npl), W6.se.k1 kw (W6.se.nelst W6.po), kw.g1 (ne_of W6.tp W6.po (by intro z; cases z)) W6.tp, ?_⟩⟩, (k5.trans k6).mine npl0⟩
    · rcases List.mem_append.mp hz with h | h
      · exact q2 z h
      · rw [List.mem_singleton.mp h]
        exact ⟨x0, x1⟩
    · rw [upd_same, List.map_append]
      rfl
  obtain ⟨⟨pool, q1, hprg, W5⟩, k5⟩ := q
  have hpool : pool ≠ [] ∧ pool.length ≤ 6 := ⟨fun e => by rw [e] at q1; simp at q1; omega, by omega⟩
  wtm_at "rd"
  intro lr nlr5
  have nlr := frN k5 W5.bx nlr5
  have W6 := W5.k0 (Kp.new (o := .dK []) nlr5)
  wtm_at "rd"
  refine forR_by (fun i σ H' => (∃ v7 v8 v10, σ = [some (.ref p), some (.int bits), some (.int st.ring), some (.ref t), some (.int base), some (.ref pl), some (.ref lr), v7, v8, none, v10]) ∧ ∃ ys : List (Addr × Sy), RowT H' lr ys ∧ ys.length ≤ i ∧ (ys.map fun q => q.2.s).Pairwise (· < ·) ∧ (∀ q, q ∈ ys → q.2.s < (i : Int) ∧ syOk st.ring q.2 = true ∧ q.2.l ≤ base + 3) ∧ Mw K H' p c t sd pl st pool ∧ Kp [p] H H') ⟨⟨_, _, _, rfl⟩, [], ⟨upd_same, fun q hq => by cases hq⟩, Nat.zero_le _, .nil, (fun q hq => by cases hq), W6, k5.nw nlr5⟩ ?_ ?_
  · rintro i σ H3 hi ⟨⟨v7, v8, v10, rfl⟩, ys, q1, q2, q3, q4, W3, k3⟩
    have hpl3 := W3.po
    have hir : (i : Int) < st.ring := by omega
    wtm_at "rd"
    refine ite_d (fun hc => ?_) (fun hc => ?_)
    · wtm_at "rd"
      refine us_l_draw W3.bx (by decide) (by decide) fun go H4 g0 g1 B4 k4 => ?_
      have W4 := W3.pp B4 k4
      wtm_at "rd"
      refine ite_d (fun hg => ?_) (fun hg => ?_)
      rotate_left
      · exact ⟨⟨_, _, _, rfl⟩, ys, q1.pp W3.bx k4, by omega, q3, fun q hq => ⟨by have := (q4 q hq).1; omega, (q4 q hq).2⟩, W4, k3.trans k4⟩
      wtm_at "rd"
      refine us_l_marks fun r5 H5 hr5 k5 nr5 => ?_
      wtm_at "rd"
      refine us_l_mark (W4.bx.k0 k5) fun mi H6 m0 m1 B6 k6 => ?_
      have W5 := W4.k0 k5
      have W6 := W5.pp B6 k6
      obtain ⟨mw, em, mm, ms⟩ := mk_in m0 m1
      have hr6 := k6.g1 (Ne.symm (W4.bx.ne1 nr5)) hr5
      wtm_at "rd"
      refine us_l_draw B6 (by decide) (by decide) fun lf H7 l0 l1 B7 k7 => ?_
      have W7 := W6.pp B7 k7
      wtm_at "rd"
      refine us_l_worth B7 fun wt H8 ow B8 k8 => ?_
      have W8 := W7.pp B8 k8
      wtm_at "rd"
      refine ⟨sz1000 (by simp), fun u nu => ?_⟩
      have q9 : RowT (upd H8 u (.tup [.int (0 + (i : Int)), .int (base + lf), .str mw, .str wt])) lr ys := ((((q1.pp W3.bx k4).k0 k5).pp W5.bx k6).pp B6 k7 |>.pp B7 k8).k0 (Kp.new nu)
      have hlr9 := q9.at_
      have len : (kvT Sy.s ys).length < sizeLine := szlt (by
        rw [kvT_len]
        omega)
      have e2 : putK (kvT Sy.s ys) (.inl (0 + (i : Int))) (.ref u) = kvT Sy.s (ptT Sy.s ys (u, ⟨0 + (i : Int), base + lf, mw, wt⟩)) := kvT_put Sy.s ys (u, ⟨0 + (i : Int), base + lf, mw, wt⟩)
      wtm_at "rd"
      rw [e2]
      have T9 := q9.put (p := (u, (⟨0 + (i : Int), base + lf, mw, wt⟩ : Sy))) upd_same
      have W9 := (W8.k0 (Kp.new (o := .tup [.int (0 + (i : Int)), .int (base + lf), .str mw, .str wt]) nu)).dk (o := .dK (kvT Sy.s (ptT Sy.s ys (u, ⟨0 + (i : Int), base + lf, mw, wt⟩)))) hlr9
      have k9 : Kp [p] H (upd (upd H8 u (.tup [.int (0 + (i : Int)), .int (base + lf), .str mw, .str wt])) lr (.dK (kvT Sy.s (ptT Sy.s ys (u, ⟨0 + (i : Int), base + lf, mw, wt⟩))))) := ((((((k3.trans k4).trans k5.of0).trans k6).trans k7).trans k8).nw nu).mine nlr
      have enew : ptT Sy.s ys (u, ⟨0 + (i : Int), base + lf, mw, wt⟩) = ys ++ [(u, ⟨0 + (i : Int), base + lf, mw, wt⟩)] := by
        unfold ptT
        rw [if_neg]
        intro z
        obtain ⟨q, hq, e⟩ := List.any_eq_true.mp z
        have e := of_decide_eq_true e
        have := (q4 q hq).1
        have e : q.2.s = 0 + (i : Int) := e
        omega
      rw [enew] at T9 W9 k9 ⊢
      refine ⟨⟨_, _, _, rfl⟩, _, T9, by rw [List.length_append]; exact Nat.succ_le_succ q2, ?_, fun q hq => ?_, W9, k9⟩
      · rw [List.map_append]
        refine List.pairwise_append.mpr ⟨q3, by simp, fun x hx y hy => ?_⟩
        obtain ⟨q, hq, rfl⟩ := List.mem_map.mp hx
        simp only [List.map_cons, List.map_nil, List.mem_singleton] at hy
        rw [hy]
        have := (q4 q hq).1
        omega
      · rcases List.mem_append.mp hq with hq | hq
        · have := q4 q hq
          exact ⟨by have := this.1; omega, this.2⟩
        · rw [List.mem_singleton.mp hq]
          exact ⟨by show 0 + (i : Int) < ((i + 1 : Nat) : Int); omega, syOk_iff.mpr ⟨⟨by show 0 ≤ 0 + (i : Int); omega, by show 0 + (i : Int) ≤ st.ring - 1; omega⟩, ⟨by show 0 ≤ base + lf; omega, by show base + lf ≤ MOST; rw [hM]; omega⟩, mm, ow⟩, by show base + lf ≤ _; omega⟩
    · wtm_at "rd"
      refine ite_d (fun hc2 => ?_) (fun hc2 => ?_)
      · wtm_at "rd"
        refine us_l_draw W3.bx (by decide) (by decide) fun go H4 g0 g1 B4 k4 => ?_
        have W4 := W3.pp B4 k4
        wtm_at "rd"
        refine ite_d (fun hg => ?_) (fun hg => ?_)
        rotate_left
        · exact ⟨⟨_, _, _, rfl⟩, ys, q1.pp W3.bx k4, by omega, q3, fun q hq => ⟨by have := (q4 q hq).1; omega, (q4 q hq).2⟩, W4, k3.trans k4⟩
        wtm_at "rd"
        refine us_l_marks fun r5 H5 hr5 k5 nr5 => ?_
        wtm_at "rd"
        refine us_l_mark (W4.bx.k0 k5) fun mi H6 m0 m1 B6 k6 => ?_
        have W5 := W4.k0 k5
        have W6 := W5.pp B6 k6
        obtain ⟨mw, em, mm, ms⟩ := mk_in m0 m1
        have hr6 := k6.g1 (Ne.symm (W4.bx.ne1 nr5)) hr5
        wtm_at "rd"
        refine us_l_draw B6 (by decide) (by decide) fun lf H7 l0 l1 B7 k7 => ?_
        have W7 := W6.pp B7 k7
        wtm_at "rd"
        refine us_l_worth B7 fun wt H8 ow B8 k8 => ?_
        have W8 := W7.pp B8 k8
        wtm_at "rd"
        refine ⟨sz1000 (by simp), fun u nu => ?_⟩
        have q9 : RowT (upd H8 u (.tup [.int (0 + (i : Int)), .int (base + lf), .str mw, .str wt])) lr ys := ((((q1.pp W3.bx k4).k0 k5).pp W5.bx k6).pp B6 k7 |>.pp B7 k8).k0 (Kp.new nu)
        have hlr9 := q9.at_
        have len : (kvT Sy.s ys).length < sizeLine := szlt (by
          rw [kvT_len]
          omega)
        have e2 : putK (kvT Sy.s ys) (.inl (0 + (i : Int))) (.ref u) = kvT Sy.s (ptT Sy.s ys (u, ⟨0 + (i : Int), base + lf, mw, wt⟩)) := kvT_put Sy.s ys (u, ⟨0 + (i : Int), base + lf, mw, wt⟩)
        wtm_at "rd"
        rw [e2]
        have T9 := q9.put (p := (u, (⟨0 + (i : Int), base + lf, mw, wt⟩ : Sy))) upd_same
        have W9 := (W8.k0 (Kp.new (o := .tup [.int (0 + (i : Int)), .int (base + lf), .str mw, .str wt]) nu)).dk (o := .dK (kvT Sy.s (ptT Sy.s ys (u, ⟨0 + (i : Int), base + lf, mw, wt⟩)))) hlr9
        have k9 : Kp [p] H (upd (upd H8 u (.tup [.int (0 + (i : Int)), .int (base + lf), .str mw, .str wt])) lr (.dK (kvT Sy.s (ptT Sy.s ys (u, ⟨0 + (i : Int), base + lf, mw, wt⟩))))) := ((((((k3.trans k4).trans k5.of0).trans k6).trans k7).trans k8).nw nu).mine nlr
        have enew : ptT Sy.s ys (u, ⟨0 + (i : Int), base + lf, mw, wt⟩) = ys ++ [(u, ⟨0 + (i : Int), base + lf, mw, wt⟩)] := by
          unfold ptT
          rw [if_neg]
          intro z
          obtain ⟨q, hq, e⟩ := List.any_eq_true.mp z
          have e := of_decide_eq_true e
          have := (q4 q hq).1
          have e : q.2.s = 0 + (i : Int) := e
          omega
        rw [enew] at T9 W9 k9 ⊢
        refine ⟨⟨_, _, _, rfl⟩, _, T9, by rw [List.length_append]; exact Nat.succ_le_succ q2, ?_, fun q hq => ?_, W9, k9⟩
        · rw [List.map_append]
          refine List.pairwise_append.mpr ⟨q3, by simp, fun x hx y hy => ?_⟩
          obtain ⟨q, hq, rfl⟩ := List.mem_map.mp hx
          simp only [List.map_cons, List.map_nil, List.mem_singleton] at hy
          rw [hy]
          have := (q4 q hq).1
          omega
        · rcases List.mem_append.mp hq with hq | hq
          · have := q4 q hq
            exact ⟨by have := this.1; omega, this.2⟩
          · rw [List.mem_singleton.mp hq]
            exact ⟨by show 0 + (i : Int) < ((i + 1 : Nat) : Int); omega, syOk_iff.mpr ⟨⟨by show 0 ≤ 0 + (i : Int); omega, by show 0 + (i : Int) ≤ st.ring - 1; omega⟩, ⟨by show 0 ≤ base + lf; omega, by show base + lf ≤ MOST; rw [hM]; omega⟩, mm, ow⟩, by show base + lf ≤ _; omega⟩
      · wtm_at "rd"
        exact ⟨⟨_, _, _, rfl⟩, ys, q1, by omega, q3, fun q hq => ⟨by have := (q4 q hq).1; omega, (q4 q hq).2⟩, W3, k3⟩
  rintro σ H6 ⟨⟨v7, v8, v10, rfl⟩, xs, q1, q2, q3, q4, W6, k6⟩
  have htp6 := W6.tp
  wtm_at "rd"
  intro si nsi
  have nsi0 := frN k6 W6.bx nsi
  have ntsi : t ≠ si := ne_of_none htp6 nsi
  wtm_at "rd"
  intro lc nlc
  have nlc0 := frN (k6.nw nsi) (W6.bx.new nsi) nlc
  have hlrs : lr ≠ si := ne_of_none q1.at_ nsi
  have hlrc : lr ≠ lc := ne_of_none (hu_ne hlrs q1.at_) nlc
  have hsil : si ≠ lc := ne_fresh nlc
  wtm_at "rd"
  refine ⟨hu_ne hsil upd_same, sideV st.grace base pl lr lc, rfl, Nat.le_of_ble_eq_true rfl, ?_⟩
  have e0 : mergeK [] (sideV st.grace base pl lr lc) = sideV st.grace base pl lr lc := rfl
  rw [e0]
  have k67 : Kp [] H6 (upd (upd (upd H6 si (.dK [])) lc (.dK [])) si (.dK (sideV st.grace base pl lr lc))) := ((Kp.new nsi).nw nlc).mine nsi
  have hsi7 : upd (upd (upd H6 si (.dK [])) lc (.dK [])) si (.dK (sideV st.grace base pl lr lc)) si = some (.dK (sideV st.grace base pl lr lc)) := upd_same
  have hlc7 : upd (upd (upd H6 si (.dK [])) lc (.dK [])) si (.dK (sideV st.grace base pl lr lc)) lc = some (.dK []) := hu_ne (Ne.symm hsil) upd_same
  generalize upd (upd (upd H6 si (.dK [])) lc (.dK [])) si (.dK (sideV st.grace base pl lr lc)) = H7 at k67 hsi7 hlc7
  have W7 := W6.k0 k67
  have T7 := q1.k0 k67
  have htp7 := W7.tp
  have k7 : Kp [p] H H7 := k6.trans k67.of0
  wtm_at "rd"
  intro x dx nx ndx ne
  refine us_Doubts_init upd_same fun cd H8 D8 k8 ncd => ⟨rfl, ?_⟩
  have k78 := made_kp nx ndx ne k8
  have ncd7 : H7 cd = none := ((Kp.new (ps := []) ndx).nw (hn_ne (Ne.symm ne) nx)).back ncd (by simp)
  have W8 := W7.k0 k78
  have T8 := T7.k0 k78
  have htp8 := W8.tp
  have hlr8 := T8.at_
  have k8' : Kp [p] H H8 := k7.trans k78.of0
  wtm_at "rd"
  refine ⟨lr, _, rfl, .inl hlr8, fun l nl => ?_⟩
  wtm_at "rd"
  refine rd_sortedI (ns := (xs.map (·.2)).map Sy.s) (by rw [kvT_keys]; exact upd_same) fun os r o1 o2 nr => ?_
  have ek : (xs.map (·.2)).map Sy.s = xs.map fun q => q.2.s := by
    rw [List.map_map]
    rfl
  have eo : os = xs.map fun q => q.2.s := by
    rw [ek] at o1
    exact sort_uniq o1 o2 (q3.imp fun h => Int.le_of_lt h)
  subst eo
  have k9 : Kp [] H8 (upd (upd H8 l (.lst ((kvT Sy.s xs).map fun kv => kV kv.1))) r (.lst ((xs.map fun q => q.2.s).map V.int))) := (Kp.new nl).nw nr
  have hr9 : upd (upd H8 l (.lst ((kvT Sy.s xs).map fun kv => kV kv.1))) r (.lst ((xs.map fun q => q.2.s).map V.int)) r = some (.lst ((xs.map fun q => q.2.s).map V.int)) := upd_same
  generalize upd (upd H8 l (.lst ((kvT Sy.s xs).map fun kv => kV kv.1))) r (.lst ((xs.map fun q => q.2.s).map V.int)) = H9 at k9 hr9
  have T9 := T8.k0 k9
  have hlr9 := T9.at_
  have ndk : (xs.map fun q => q.2.s).Nodup := q3.imp fun h => Int.ne_of_lt h
  have hlx : xs.length ≤ 256 := by omega
  wtm_at "rd"
  intro D nD
  refine lcF_ints (xs.map fun q => q.2.s) (fun _ => true) (fun k => V.ref ((fdT Sy.s xs k).getD (t, ⟨0, 0, "", ""⟩)).1) (SqL.of hr9) nD (by rw [List.length_map]; omega) (fun i h H10 E N k10 hE hN => ?_) (fun H10 k10 hD10 => ?_)
  · have hlr10 := k10.g0 hlr9
    have hm : (xs.map fun q => q.2.s)[i] ∈ (xs.map (·.2)).map Sy.s := by
      rw [ek]
      exact List.getElem_mem h
    obtain ⟨q, eq⟩ := fdT_key hm
    wtm_at "rd"
    refine ⟨rfl, ?_⟩
    wtm_at "rd"
    refine rd_dgetX (dg_iv (by wtm_at "hp") (by rw [kvT_val, eq]; rfl)) ?_
    have := hE _ Kp.refl rfl
    rw [eq] at this
    exact this
  have SD : SyL H10 D xs := by
    refine ⟨?_, fun q hq => k10.g0 (T9.ob q hq)⟩
    rw [hD10, List.filter_eq_self.mpr (fun _ _ => rfl), List.map_map]
    refine congrArg (fun l => some (HO.lst l)) (List.map_congr_left fun q hq => ?_)
    show V.ref ((fdT Sy.s xs q.2.s).getD (t, ⟨0, 0, "", ""⟩)).1 = V.ref q.1
    rw [fdT_self ndk hq]
    rfl
  have k8to10 := k9.trans k10
  have W10 := W8.k0 k8to10
  have T10 := T8.k0 k8to10
  have D10 := D8.k0 k8to10
  wtm_at "rd"
  intro y dy ny ndy ne2
  have kk11 : Kp [] H10 (upd (upd H10 dy (.own y)) y (.ins (ga K "Book") dy [])) := (Kp.new ndy).nw (hn_ne (Ne.symm ne2) ny)
  refine us_Book_init upd_same (W10.se.k0 kk11) (.inl (SD.k0 kk11)) (fun q hq => (q4 q hq).2.1) (by omega) fun rd H11 B11 k11 nrd => ⟨rfl, ?_⟩
  have k1011 := made_kp ny ndy ne2 k11
  have nrd10 : H10 rd = none := kk11.back nrd (by simp)
  have ef : xs.foldl takeT [] = xs := by
    rw [foldT_new xs [] (by simpa using ndk) fun q hq => by
      have := syOk_iff.mp (q4 q hq).2.1
      exact rk_pos this.2.1.1 this.2.2.1]
    rfl
  rw [ef] at B11
  have W11 := W10.k0 k1011
  have T11 := T10.k0 k1011
  have D11 := D10.k0 k1011
  have hsi11 := k1011.g0 (k8to10.g0 (k78.g0 hsi7))
  have hlc11 := k1011.g0 (k8to10.g0 (k78.g0 hlc7))
  wtm_at "rd"
  refine ⟨sz1000 (by simp), fun u nu => ?_⟩
  have ku : Kp [] H11 (upd H11 u (.tup [.ref x, .ref y, .ref si])) := Kp.new nu
  have ncd0 : H cd = none := frN k7 W7.bx ncd7
  have nrd0 : H rd = none := frN (k8'.trans k8to10.of0) W10.bx nrd10
  have hcd8 := D8.cl.at_
  have n1 : lr ≠ cd := ne_of_none T7.at_ ncd7
  have n2 : lc ≠ cd := ne_of_none hlc7 ncd7
  have n3 : si ≠ cd := ne_of_none hsi7 ncd7
  have n4 : lr ≠ rd := ne_of_none T10.at_ nrd10
  have n5 : lc ≠ rd := ne_of_none (k8to10.g0 (k78.g0 hlc7)) nrd10
  have n6 : si ≠ rd := ne_of_none (k8to10.g0 (k78.g0 hsi7)) nrd10
  have n7 : cd ≠ rd := ne_of_none D10.cl.at_ nrd10
  refine kk ⟨u, x, y, sd, si, pl, rd, lr, cd, lc⟩ st base pool xs _ ⟨upd_same, D11.k0 ku, B11.k0 ku, W11.se.k0 ku, ku.g0 hsi11, T11.k0 ku, ⟨ku.g0 hlc11, fun q hq => by cases hq⟩, rfl, ku.g0 W11.po, hpool, hprg, fun q hq => ⟨(q4 q hq).2.1, by have := (q4 q hq).2.2; omega⟩, ⟨g0, g1⟩, by omega, Nat.le_refl _, ?_⟩ (W11.bx.new nu) (((k8'.trans k8to10.of0).trans k1011.of0).nw nu) (fun q hq => ?_)
  · simp only [Ad.ds, List.nodup_cons, List.mem_cons, List.not_mem_nil, or_false, not_or, List.nodup_nil, and_true, not_false_eq_true]
    exact ⟨⟨n4, hlrc, n1, hlrs⟩, ⟨Ne.symm n5, Ne.symm n7, Ne.symm n6⟩, ⟨n2, Ne.symm hsil⟩, Ne.symm n3⟩
  · simp only [Ad.ds, List.mem_cons, List.not_mem_nil, or_false] at hq
    rcases hq with rfl | rfl | rfl | rfl | rfl
    · exact nlr
    · exact nrd0
    · exact nlc0
    · exact ncd0
    · exact nsi0
theorem c_l_made (T : Cx K mg) (B : Tb P w K mg base) : CalX P w K mg base CX0 9 "_law_made" (sp_l_made K) [] := by
  obtain ⟨fd, F, ok⟩ := f_l_made (P := P) (w := w) (base := base) T B
  exact ⟨_, fd, p_l_made, [], ok, gl_l_made T, F.kp, FunD.bindsN F fun _ _ _ _ _ _ us hl => match us, hl with | [_], _ => rfl, .nil⟩
end
section
variable {P : Program} {w : World} {K : PySem.W.Frag} {mg : Str → Option Value} {base : Heap}

theorem Pr2.pick {K : PySem.W.Frag} {H : Hp} {p c L : Addr} {a b : Ad} {n m : Nat} {i : Int} (h0 : 0 ≤ i) (h1 : i < 2) (P : Pr2 K H p c L [.ref a.t, .ref b.t] a b n m) :
    ∃ x y : Ad, atI [V.ref a.t, V.ref b.t] i = some (.ref x.t) ∧ Pr2 K H p c L [.ref a.t, .ref b.t] x y n m ∧ ∀ H' n' m', Pr2 K H' p c L [.ref a.t, .ref b.t] x y n' m' → Pr2 K H' p c L [.ref a.t, .ref b.t] a b n' m' := by
  have : i = 0 ∨ i = 1 := by omega
  rcases this with rfl | rfl
  · exact ⟨a, b, rfl, P, fun _ _ _ h => h⟩
  · exact ⟨b, a, rfl, P.symm, fun _ _ _ h => h.symm⟩

def sp_law (K : PySem.W.Frag) : Sp := fun vs H Q E => ∃ (s : Addr) (ns : List Int), vs = [.ref s] ∧ (SqL K H s (ns.map V.int)) ∧ (ns.length ≤ 63) ∧ (LamX.Tabs (TT K) H) ∧ (∀ H1, Q (.bl true) H1)
theorem us_law {K : PySem.W.Frag} {H : Hp} {Q : VK} {E : XK} {s : Addr} {ns : List Int} (hS : SqL K H s (ns.map V.int)) (hl : ns.length ≤ 63) (hT : LamX.Tabs (TT K) H) (kk : ∀ H1, Q (.bl true) H1) : sp_law K [.ref s] H Q E := ⟨_, _, rfl, hS, hl, hT, kk⟩
theorem f_law (T : Cx K mg) (B : Tb P w K mg base) : ∃ fd, FunD K "law" "law" (defArgs s_law) (defBody s_law) (defScope s_law) (d_law.dvs K) (d_law.kws K) (fAd K d_law.at_) fd ∧ FnOk P w K mg base CX0 10 (fAd K d_law.at_) fd p_law (sp_law K) := by
  have c_l_box := c_l_box (P := P) (w := w) (base := base) T B
  have c_l_draw := c_l_draw (P := P) (w := w) (base := base) T B
  have c_l_made := c_l_made (P := P) (w := w) (base := base) T B
  have c_l_row_holds := c_l_row_holds (P := P) (w := w) (base := base) T B
  have c_l_moment := c_l_moment (P := P) (w := w) (base := base) T B
  have c_l_due_holds := c_l_due_holds (P := P) (w := w) (base := base) T B
  have c_l_since_holds := c_l_since_holds (P := P) (w := w) (base := base) T B
  obtain ⟨fd, F⟩ := T.says.def_ 37 (d := d_law) rfl
  refine ⟨fd, F, fnD F sc_law (fun vs H Q E h => by
    obtain ⟨_, _, rfl, _⟩ := h
    rfl) fun cdv A outer s H vs Q E hr h => ?_⟩
  have hu := hu_of hr
  obtain ⟨s, ns, rfl, hS, hl, hT, kk⟩ := h
  refine ⟨_, (pss_cons (ps_set (i := 1) sc_law.nd rfl (by first | exact Or.inl rfl | exact Or.inr rfl) (pe_cal c_l_box hr (by decide) (by rfl) pass0 (pa_cons (pv 0) pa_nil))) (pss_cons (ps_set (i := 2) sc_law.nd rfl (by first | exact Or.inl rfl | exact Or.inr rfl) (pe_op op_add pe_int (pe_cal c_l_draw hr (by decide) (by rfl) pass0 (pa_cons (pv 1) (pa_cons pe_int pa_nil))))) (pss_cons (ps_set (i := 3) sc_law.nd rfl (by first | exact Or.inl rfl | exact Or.inr rfl) (pe_op op_mul (pe_op op_pow pe_int pe_int) (pe_callTy call_int1' (by rfl) (fr_int T) (by decide +kernel) (pa_cons (pe_cmpR op_eq (pe_cal c_l_draw hr (by decide) (by rfl) pass0 (pa_cons (pv 1) (pa_cons pe_int pa_nil))) pe_int (nomark _)) pa_nil)))) (pss_cons (ps_set (i := 4) sc_law.nd rfl (by first | exact Or.inl rfl | exact Or.inr rfl) (pe_lst (pa_cons (pe_cal c_l_made hr (by decide) (by rfl) pass0 (pa_cons (pv 1) pa_nil)) (pa_cons (pe_cal c_l_made hr (by decide) (by rfl) pass0 (pa_cons (pv 1) pa_nil)) pa_nil)))) (pss_cons (ps_for PassesOwn.never rfl (pi_range1 (by rfl) (fr_range T) (pa_cons (pv 2) pa_nil)) (pg_name (i := 5) sc_law.nd rfl (by first | exact Or.inl rfl | exact Or.inr rfl)) (pss_cons (ps_set (i := 6) sc_law.nd rfl (by first | exact Or.inl rfl | exact Or.inr rfl) (pe_cal c_l_draw hr (by decide) (by rfl) pass0 (pa_cons (pv 1) (pa_cons pe_int pa_nil)))) (pss_cons (ps_if (pt_not (pt_val (pe_cal c_l_row_holds hr (by decide) (by rfl) pass0 (pa_cons (pv 1) (pa_cons (pe_ix ix_list (pv 4) (pv 6) (fun _ _ => rfl)) (pa_cons (pv 3) pa_nil)))))) (pss_one (ps_ret pe_bl)) pss_nil) (C8.pss_cut (ps_if (pt_cmpR op_eq (pe_cal c_l_draw hr (by decide) (by rfl) pass0 (pa_cons (pv 1) (pa_cons pe_int pa_nil))) pe_int (nomark _)) (pss_cons (ps_set (i := 7) sc_law.nd rfl (by first | exact Or.inl rfl | exact Or.inr rfl) (pe_cal c_l_moment hr (by decide) (by rfl) pass0 (pa_cons (pv 1) (pa_cons (pe_ix ix_tup (pe_ix ix_list (pv 4) (pv 6) (fun _ _ => rfl)) pe_int (fun _ _ => rfl)) (pa_cons (pv 3) pa_nil))))) (pss_cons (ps_if (pt_not (pt_val (pe_cal c_l_due_holds hr (by decide) (by rfl) pass0 (pa_cons (pe_ix ix_tup (pe_ix ix_list (pv 4) (pv 6) (fun _ _ => rfl)) pe_int (fun _ _ => rfl)) (pa_cons (pe_ix ix_tup (pe_ix ix_list (pv 4) (pv 6) (fun _ _ => rfl)) pe_int (fun _ _ => rfl)) (pa_cons (pe_ix ix_tup (pe_ix ix_list (pv 4) (pv 6) (fun _ _ => rfl)) pe_int (fun _ _ => rfl)) (pa_cons (pv 7) pa_nil))))))) (pss_one (ps_ret pe_bl)) pss_nil) (pss_one (ps_if (pt_cmpR op_eq (pe_cal c_l_draw hr (by decide) (by rfl) pass0 (pa_cons (pv 1) (pa_cons pe_int pa_nil))) pe_int (nomark _)) (pss_one (ps_set (i := 3) sc_law.nd rfl (by first | exact Or.inl rfl | exact Or.inr rfl) (pe_callB (call_max2' rfl) (by rfl) (fr_max T) (by decide +kernel) (pa_cons (pv 3) (pa_cons (pv 7) pa_nil))))) pss_nil)))) pss_nil) (pss_cons (ps_set (i := 3) sc_law.nd rfl (by first | exact Or.inl rfl | exact Or.inr rfl) (pe_op op_add (pv 3) (pe_cal c_l_draw hr (by decide) (by rfl) pass0 (pa_cons (pv 1) (pa_cons pe_int pa_nil))))) (pss_one (ps_if (pt_cmpR op_eq (pe_cal c_l_draw hr (by decide) (by rfl) pass0 (pa_cons (pv 1) (pa_cons pe_int pa_nil))) pe_int (nomark _)) (pss_one (ps_set (i := 3) sc_law.nd rfl (by first | exact Or.inl rfl | exact Or.inr rfl) (pe_op op_add (pv 3) (pe_cal c_l_draw hr (by decide) (by rfl) pass0 (pa_cons (pv 1) (pa_cons pe_int pa_nil)))))) pss_nil))))))) (pss_cons (ps_for PassesOwn.never rfl (pi_list (pv 4)) (pg_name (i := 8) sc_law.nd rfl (by first | exact Or.inl rfl | exact Or.inr rfl)) (pss_cons (ps_set (i := 9) sc_law.nd rfl (by first | exact Or.inl rfl | exact Or.inr rfl) (pe_op op_cat (pe_dget hu (pe_ix ix_tup (pv 8) pe_int (fun _ _ => rfl)) pe_str (fun _ _ => rfl)) (pe_callB cr_sortedI (by rfl) (fr_sorted T) (by decide +kernel) (pa_cons (pe_callTy (call_listD rfl) (by rfl) (fr_list T) (by decide +kernel) (pa_cons (pe_dget hu (pe_ix ix_tup (pv 8) pe_int (fun _ _ => rfl)) pe_str (fun _ _ => rfl)) pa_nil)) pa_nil)))) (pss_cons (ps_if (pt_not (pt_val (pe_cal c_l_since_holds hr (by decide) (by rfl) pass0 (pa_cons (pe_ix ix_tup (pv 8) pe_int (fun _ _ => rfl)) (pa_cons (pe_ix ix_tup (pv 8) pe_int (fun _ _ => rfl)) (pa_cons (pv 9) pa_nil)))))) (pss_one (ps_ret pe_bl)) pss_nil) (pss_one (ps_if (pt_not (pt_val (pe_cal c_l_due_holds hr (by decide) (by rfl) pass0 (pa_cons (pe_ix ix_tup (pv 8) pe_int (fun _ _ => rfl)) (pa_cons (pe_ix ix_tup (pv 8) pe_int (fun _ _ => rfl)) (pa_cons (pe_ix ix_tup (pv 8) pe_int (fun _ _ => rfl)) (pa_cons (pv 3) pa_nil))))))) (pss_one (ps_ret pe_bl)) pss_nil))))) (pss_one (ps_ret pe_bl)))))))), ?_⟩
  rw [show L2.start n_law [.ref s] = [some (.ref s), none, none, none, none, none, none, none, none, none] from rfl]
  try dsimp only [cxOf, Cx.nox, Cx.wish, List.map]

  wtm_at "rd"
  refine us_l_box hS hl fun p c H1 B1 k1 np nc => ?_
  wtm_at "rd"
  refine us_l_draw B1 (by decide) (by decide) fun mn H2 m0 m1 B2 k2 => ?_
  wtm_at "rd"
  refine us_l_draw B2 (by decide) (by decide) fun big H3 b0 b1 B3 k3 => ?_
  wtm_at "rd"
  refine us_l_made B3 fun a st1 base1 pool1 xs1 H4 O4 B4 k4 n4 => ?_
  wtm_at "rd"
  refine us_l_made B4 fun b st2 base2 pool2 xs2 H5 O5 B5 k5 n5 => ?_
  have O4' := O4.box B4 k5
  wtm_at "rd"
  refine ⟨sz1000 (by simp), fun L nL => ?_⟩
  have kL : Kp [] H5 (upd H5 L (.lst [.ref a.t, .ref b.t])) := Kp.new nL
  have P0 : Pr2 K (upd H5 L (.lst [.ref a.t, .ref b.t])) p c L [.ref a.t, .ref b.t] a b 0 0 := ⟨B5.new nL, ⟨_, _, _, _, _, _, O4'.k0 kL⟩, ⟨_, _, _, _, _, _, O5.k0 kL⟩, (fun q h1 h2 => by
    obtain ⟨kvs, e⟩ := O4.isD q h1
    have := n5 q h2
    rw [e] at this
    cases this), upd_same, Ne.symm (B5.ne1 nL)⟩
  generalize upd H5 L (.lst [.ref a.t, .ref b.t]) = H6 at P0
  have atk : ∀ (x : Ad) (H : Hp), (∃ st base pool xs c1 c2, One K H x st base pool xs c1 c2 0 0) → True := fun _ _ _ => trivial
  wtm_at "rd"
  refine forR_by (fun i σ H' => (∃ (now : Int) (v5 v6 v7 v8 v9 : Option V), σ = [some (.ref s), some (.ref p), some (.int (10 + mn)), some (.int now), some (.ref L), v5, v6, v7, v8, v9]) ∧ Pr2 K H' p c L [.ref a.t, .ref b.t] a b i (6 * i)) ⟨⟨_, _, _, _, _, _, rfl⟩, P0⟩ ?_ ?_
  · rintro i σ H7 hi ⟨⟨now, v5, v6, v7, v8, v9, rfl⟩, P7⟩
    wtm_at "rd"
    refine us_l_draw P7.bx (by decide) (by decide) fun wh H8 w0 w1 B8 k8 => ?_
    have P8 := P7.box B8 k8
    obtain ⟨x, y, ea, P8', back⟩ := P8.pick w0 w1
    obtain ⟨st, base, pool, xs, c1, c2, O8⟩ := P8'.o1
    have hL8 := P8'.lt
    wtm_at "rd"
    refine us_l_row_holds B8 O8 (by omega) (by omega) fun H9 ys d1 d2 O9 B9 k9 => ?_
    have P9 := P8'.step B9 k9 O9 (by omega) (by omega)
    have hL9 := P9.lt
    have htp9 := O9.tp
    wtm_at "rd"
    refine rd_cut (fun σ H' => (∃ (now : Int) (v5 v6 v7 v8 v9 : Option V), σ = [some (.ref s), some (.ref p), some (.int (10 + mn)), some (.int now), some (.ref L), v5, v6, v7, v8, v9]) ∧ Pr2 K H' p c L [.ref a.t, .ref b.t] a b (i + 1) (6 * (i + 1))) ?_ ?_
    · wtm_at "rd"
      refine us_l_draw B9 (by decide) (by decide) fun du H10 d0 d1 B10 k10 => ?_
      have P10 := P9.box B10 k10
      have O10 := O9.box B9 k10
      have hL10 := P10.lt
      have htp10 := O10.tp
      wtm_at "rd"
      refine ite_d (fun h => ?_) (fun h => ?_)
      · wtm_at "rd"
        refine us_l_moment B10 O10 (by omega) fun asked H11 B11 k11 => ?_
        have P11 := P10.box B11 k11
        have O11 := O10.box B10 k11
        have hL11 := P11.lt
        have htp11 := O11.tp
        wtm_at "rd"
        refine us_l_due_holds O11 (by omega) (by omega) fun H12 k12 => ?_
        have P12 := P11.k0 k12
        wtm_at "rd"
        refine us_l_draw P12.bx (by decide) (by decide) fun mx H13 x0 x1 B13 k13 => ?_
        have P13 := P12.box B13 k13
        wtm_at "rd"
        refine ite_d (fun h => ?_) (fun h => ?_)
        · wtm_at "rd"
          exact ⟨⟨_, _, _, _, _, _, rfl⟩, back _ _ _ P13⟩
        · wtm_at "rd"
          exact ⟨⟨_, _, _, _, _, _, rfl⟩, back _ _ _ P13⟩
      · wtm_at "rd"
        exact ⟨⟨_, _, _, _, _, _, rfl⟩, back _ _ _ P10⟩
    · rintro σ H10 ⟨⟨now, v5, v6, v7, v8, v9, rfl⟩, P10⟩
      wtm_at "rd"
      refine us_l_draw P10.bx (by decide) (by decide) fun z1 H11 z10 z11 B11 k11 => ?_
      have P11 := P10.box B11 k11
      wtm_at "rd"
      refine us_l_draw B11 (by decide) (by decide) fun z2 H12 z20 z21 B12 k12 => ?_
      have P12 := P11.box B12 k12
      wtm_at "rd"
      refine ite_d (fun h => ?_) (fun h => ?_)
      · wtm_at "rd"
        refine us_l_draw B12 (by decide) (by decide) fun z3 H13 z30 z31 B13 k13 => ?_
        have P13 := P12.box B13 k13
        wtm_at "rd"
        exact ⟨⟨_, _, _, _, _, _, rfl⟩, P13⟩
      · wtm_at "rd"
        exact ⟨⟨_, _, _, _, _, _, rfl⟩, P12⟩
  · rintro σ H7 ⟨⟨now, v5, v6, v7, v8, v9, rfl⟩, P7⟩
    have hn : (10 + mn).toNat ≤ 50 := by omega
    have P7' : Pr2 K H7 p c L [.ref a.t, .ref b.t] a b 50 300 := by
      obtain ⟨s1, b1, l1, x1, y1, z1, O1⟩ := P7.o1
      obtain ⟨s2, b2, l2, x2, y2, z2, O2⟩ := P7.o2
      exact ⟨P7.bx, ⟨_, _, _, _, _, _, O1.up hn (by omega)⟩, ⟨_, _, _, _, _, _, O2.up hn (by omega)⟩, P7.dj, P7.lt, P7.lp⟩
    have hL7 := P7'.lt
    wtm_at "rd"
    refine forL_by (K := K) [V.ref a.t, V.ref b.t] (fun i σ H' => (∃ (v5 v6 v7 v8 v9 : Option V), σ = [some (.ref s), some (.ref p), some (.int (10 + mn)), some (.int now), some (.ref L), v5, v6, v7, v8, v9]) ∧ Pr2 K H' p c L [.ref a.t, .ref b.t] a b 50 300) ⟨⟨_, _, _, _, _, rfl⟩, P7'⟩ (fun i σ H' _ q => SqL.of q.2.lt) ?_ ?_
    · rintro i v σ H8 hv ⟨⟨v5, v6, v7, v8, v9, rfl⟩, P8⟩
      have hi : i < 2 := (List.getElem?_eq_some_iff.mp hv).1
      obtain ⟨x, y, ea, P8', back⟩ := P8.pick (i := (i : Int)) (by omega) (by omega)
      have ev : v = .ref x.t := by
        have : i = 0 ∨ i = 1 := by omega
        rcases this with rfl | rfl
        · exact Option.some.inj (hv.symm.trans ea)
        · exact Option.some.inj (hv.symm.trans ea)
      subst ev
      obtain ⟨st, base, pool, xs, c1, c2, O8⟩ := P8'.o1
      have htp8 := O8.tp
      have hsi8 := O8.sid
      have hpl8 := O8.pol
      have hlr8 := O8.lrw.at_
      have hxl := O8.xl
      have hpn := O8.pne.2
      wtm_at "rd"
      refine ⟨x.lr, _, rfl, .inl hlr8, fun l nl => ?_⟩
      wtm_at "rd"
      refine rd_sortedI (ns := (xs.map (·.2)).map Sy.s) (by rw [kvT_keys]; exact upd_same) fun os r o1 o2 nr => ?_
      have hol : os.length = xs.length := by rw [o1.length_eq, List.length_map, List.length_map]
      have k9 : Kp [] H8 (upd (upd H8 l (.lst ((kvT Sy.s xs).map fun kv => kV kv.1))) r (.lst (os.map V.int))) := (Kp.new nl).nw nr
      have hr9 : upd (upd H8 l (.lst ((kvT Sy.s xs).map fun kv => kV kv.1))) r (.lst (os.map V.int)) r = some (.lst (os.map V.int)) := upd_same
      generalize upd (upd H8 l (.lst ((kvT Sy.s xs).map fun kv => kV kv.1))) r (.lst (os.map V.int)) = H9 at k9 hr9
      refine rd_cat (k9.g0 hpl8) hr9 (sz1000 (by rw [List.length_map, List.length_map]; omega)) fun q nq => ?_
      rw [← List.map_append]
      have k10 : Kp [] H8 (upd H9 q (.lst ((pool ++ os).map V.int))) := k9.nw nq
      have hq10 : upd H9 q (.lst ((pool ++ os).map V.int)) q = some (.lst ((pool ++ os).map V.int)) := upd_same
      generalize upd H9 q (.lst ((pool ++ os).map V.int)) = H10 at k10 hq10
      have O10 := O8.k0 k10
      have htp10 := O10.tp
      wtm_at "rd"
      refine us_l_since_holds O10 hq10 ?_
      wtm_at "rd"
      refine us_l_due_holds O10 (by omega) (by omega) fun H11 k11 => ?_
      wtm_at "rd"
      exact ⟨⟨_, _, _, _, _, rfl⟩, (back _ _ _ P8').k0 (k10.trans k11)⟩
    · rintro σ H8 ⟨⟨v5, v6, v7, v8, v9, rfl⟩, P8⟩
      wtm_at "rd"
      exact kk _
end

abbrev hk : PySem.W.Hook := hookQ PySem.Challenge.pw_livingroll_k27_doubts_due 6 fa fn gs es ys tabs tf ex
def ob (s : PySem.W.SharedT) : AlQ := obsQ PySem.Challenge.pw_livingroll_k27_doubts_due 6 fa fn gs es ys tabs tf ex (HandSHeadRun.getT s)
theorem ob_eq (s : PySem.W.SharedT) : ob s = hk.obs s.abs := obsQ_eq (HandSHeadRun.getT_eq s)
def names : List Str := (["_wall", "GroupError", "InvalidSetting", "InvalidSaying", "whole", "Setting", "Doubts", "MARKS", "MARK_STEPS", "MOST_LIFE", "WORTH_LENGTH", "WORTH_SIGNS", "EMPTY_WORTH", "is_worth", "life_ok", "is_saying", "check_saying", "rank", "format_saying", "_is_later", "_latest_rows", "Book", "_law_box", "_law_draw", "_law_bits", "_law_marks", "_law_mark", "_law_worth", "_law_setting", "_law_made"] : List Str) ++ (["_law_next_saying", "_law_doubted_life", "_law_doubt", "_law_moment", "_law_due", "_law_is_whole", "_law_sayings_are", "_law_due_holds", "_law_since_holds", "_law_row_holds"] : List Str)
theorem run_t (w : World) (f : String → Bool) : HandSHeadRun.RunEq R (PySem.W.view R.prog [46]) hk ob 6000 names ⟨w.draws, { w.params with followText := fun s => bif s == "special-get-raises" then true else f s }⟩ := by
  intro os
  kernel_rfl
theorem run_f (w : World) (f : String → Bool) : HandSHeadRun.RunEq R (PySem.W.view R.prog [46]) hk ob 6000 names ⟨w.draws, { w.params with followText := fun s => bif s == "special-get-raises" then false else f s }⟩ := by
  intro os
  kernel_rfl
theorem run_b (b : Bool) (w : World) (f : String → Bool) : HandSHeadRun.RunEq R (PySem.W.view R.prog [46]) hk ob 6000 names ⟨w.draws, { w.params with followText := fun s => bif s == "special-get-raises" then b else f s }⟩ := by
  cases b
  · exact run_f w f
  · exact run_t w f
theorem run (w : World) : HandSHeadRun.RunEq R (PySem.W.view R.prog [46]) hk ob 6000 names w := by
  have e : w = ⟨w.draws, { w.params with followText := fun s => bif s == "special-get-raises" then w.params.followText "special-get-raises" else w.params.followText s }⟩ := by
    obtain ⟨d, p⟩ := w
    have h : (fun s => bif s == "special-get-raises" then p.followText "special-get-raises" else p.followText s) = p.followText := by
      funext s
      by_cases q : s = "special-get-raises"
      · rw [q]
        rfl
      · rw [show (s == "special-get-raises") = false from beq_eq_false_iff_ne.mpr q]
        rfl
    show (⟨d, p⟩ : World) = ⟨d, { p with followText := fun s => bif s == "special-get-raises" then p.followText "special-get-raises" else p.followText s }⟩
    rw [h]
  rw [e]
  exact run_b _ _ _
theorem law_all {P : Program} {w : World} {K : PySem.W.Frag} {mg : Str → Option Value} (T : Cx K mg) :
    ∃ fd : FuncData, (∀ (s : Shared) (v : Value), BindsTo s fd ⟨[v], []⟩ [("_law_script", v)]) ∧ ∀ base : Heap, Tb P w K mg base → FnOk P w K mg base CX0 10 (ga K "law") fd ["_law_script"] (sp_law K) := by
  obtain ⟨fd, F⟩ := T.says.def_ 37 (d := d_law) rfl
  have b := FunD.bindsA (ps := ["_law_script"]) F fun _ _ _ _ _ _ us hl => match us, hl with | [_], _ => rfl
  refine ⟨fd, fun s v => b s [v] rfl, fun base B => ?_⟩
  obtain ⟨fd2, F2, ok⟩ := f_law (P := P) (w := w) (base := base) T B
  have e : fd2 = fd := by
    obtain ⟨oc, od, dV, kV, doc, pm, an, cdv, ct, osl, e1, l1, -⟩ := F.ex
    obtain ⟨oc2, od2, dV2, kV2, doc2, pm2, an2, cdv2, ct2, osl2, e2, l2, -⟩ := F2.ex
    rw [l1] at l2
    injection l2 with l3
    injection l3 with _ _ l4 _
    injection l4 with l5
    exact l5.symm
  subst e
  exact ok

end My

open PySem PySem.W PySem.Calls PyProof.Rows
set_option maxRecDepth 100000 in
set_option maxHeartbeats 0 in
theorem PySem.Challenge.cw_livingroll_k27_doubts_due_holds : PySem.Challenge.rw_livingroll_k27_doubts_due.Holds := by
  w_on; o_law
  refine HandSHeadRun.head_any (r := OpenLaw.row PySem.Challenge.rw_livingroll_k27_doubts_due) (q := view (OpenLaw.row PySem.Challenge.rw_livingroll_k27_doubts_due).prog [46]) (H := My.hk) (ob := My.ob) (M := 6000) (loose := My.names) (d := HandSHeadRun.topDef (OpenLaw.row PySem.Challenge.rw_livingroll_k27_doubts_due).prog 46) (kwd := []) My.ob_eq
    (by kernel_rfl) (fun s => by kernel_rfl) My.run (by kernel_rfl) (by kernel_rfl) (by kernel_rfl) (by rfl) (by first | assumption | decide +kernel) (by decide +kernel) ⟨rfl, rfl, rfl, rfl, rfl, by decide +kernel⟩ ?hw ?hc
  case hw => w_witness2
  case hc =>
    refine LamX.walk_ofTsE (l := PySem.Challenge.rw_livingroll_k27_doubts_due) (n := 63) (k := 10) (x := "_law_script") (CX := fun _ => L2.CX0) rfl (by decide) (by kernel_rfl) ⟨rfl, by decide, by decide⟩ ?F (fun _ _ _ _ _ z => z)
    intro w mg fa h Y G hmg0
    obtain ⟨K, KX, c⟩ := Y
    have hmg : mg ("law" : PySem.Str) = some (.ref fa) := by
      have e : (HandSHeadRun.topDef (OpenLaw.row PySem.Challenge.rw_livingroll_k27_doubts_due).prog 46).name = ("law" : PySem.Str) := by kernel_rfl
      rw [← e]
      exact hmg0
    have T : My.Cx K mg := ⟨c.x.t.d, c.x.more, h, KX, G⟩
    have e := hmg.symm.trans (My.gl_law T)
    cases e
    obtain ⟨fd, hb, hF⟩ := My.law_all (P := PySem.Challenge.pw_livingroll_k27_doubts_due) (w := w) T
    refine ⟨K, KX, fd, My.tf.map (He.cT K), My.sp_law K, fun p hp => ?_, fun p hp => ?_, fun p hp => ?_, hb, fun H a ns hl _ hH hS => ⟨a, ns, rfl, hS, hl, RD.tabs_nil (tf := My.tf) (K := K) rfl hH, fun _ => rfl⟩, fun base _ _ B => hF base ⟨B, fun d hd => c.get hd, fun d hd => c.err KX G hd (My.efs d hd), fun t ht => c.tabd ht⟩⟩
    · obtain ⟨q, hq, rfl⟩ := List.mem_map.mp hp
      exact c.x.empty q hq
    · obtain ⟨q, hq, rfl⟩ := List.mem_map.mp hp
      exact c.x.out q hq
    · obtain ⟨q, hq, rfl⟩ := List.mem_map.mp hp
      exact PySem.W.codeHd_of_K KX (c.x.hd q hq)
