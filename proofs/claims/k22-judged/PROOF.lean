import PyProof.Rows.All
import Wide.All
import OpenK.AllK
import Wide.FinOn
import KE.KStateDown
import Lean
import HandS.ForMost
import HandS.Flow
import HandS.IsInst
import HandS.DictTup
import HandS.Codes
import HandS.Defaults
import HandS.Head0
import HandS.Head1
import HandS.Head2
import HandS.HeadEnd
import HandS.HeadHook1
import HandS.HeadHook2
import HandS.HeadHook3
import HandS.Conv
import HandS.Property
import KE.SortKeyHeap
import KE.KMinKey
import HandS.Lambda
import HandS.Sort
import HandS.HeadHook4
import HandS.HeadWalk
import HandS.Property
import HandS.Style
import HandS.MakeKwOnly
import HandS.Wide
import HandS.More
import HandS.DictComp
import HandS.DeepEq
import KE.KExcSuper
import HandS.ExcOwn
import HandS.CallSlots
import HandS.ExcIs
import HandS.ExcField
import HandS.HeadWalk
import HandS.WordsExc
import KE.DataFind
import HandS.Deep
import PySem.Challenge.RW_livingroll_k22_whole_plans_judged
set_option Elab.async false
set_option linter.all false
set_option maxRecDepth 100000
set_option maxHeartbeats 4000000
/-! own layer: the head by facts, one lemma for each reading, a step tactic -/
namespace RD
open PySem PySem.Spec PyProof.Rows L2 He

/-! ### frames: what stays -/
def Kp (ps : List Addr) (H H' : Hp) : Prop := ∀ b o, H b = some o → b ∉ ps → H' b = some o
theorem Kp.refl {ps : List Addr} {H : Hp} : Kp ps H H := fun _ _ h _ => h
theorem Kp.trans {ps : List Addr} {H H1 H2 : Hp} (a : Kp ps H H1) (b : Kp ps H1 H2) : Kp ps H H2 := fun c o h n => b c o (a c o h n) n
theorem Kp.mono {ps qs : List Addr} {H H' : Hp} (a : Kp ps H H') (h : ∀ p, p ∈ ps → p ∈ qs) : Kp qs H H' := fun c o e n => a c o e fun m => n (h c m)
theorem Kp.of0 {qs : List Addr} {H H' : Hp} (a : Kp [] H H') : Kp qs H H' := fun c o e _ => a c o e (by simp)
theorem Kp.new {ps : List Addr} {H : Hp} {p : Addr} {o : HO} (h : H p = none) : Kp ps H (upd H p o) := fun b u e _ => by
  rw [upd_ne (ne_of_none e h)]
  exact e
theorem Kp.wr {ps : List Addr} {H H' : Hp} {p : Addr} {o : HO} (a : Kp ps H H') (h : p ∈ ps) : Kp ps H (upd H' p o) := fun b u e n => by
  have hb : b ≠ p := by
    intro z
    subst z
    exact n h
  rw [upd_ne hb]
  exact a b u e n
theorem Kp.nw {ps : List Addr} {H H' : Hp} {p : Addr} {o : HO} (a : Kp ps H H') (h : H' p = none) : Kp ps H (upd H' p o) := a.trans (Kp.new h)
/-- an object made behind H is written -/
theorem Kp.mine {ps : List Addr} {H H' : Hp} {p : Addr} {o : HO} (a : Kp ps H H') (h : H p = none) : Kp ps H (upd H' p o) := fun b u e n => by
  rw [upd_ne (ne_of_none e h)]
  exact a b u e n
theorem Kp.g0 {H H' : Hp} {b : Addr} {o : HO} (a : Kp [] H H') (e : H b = some o) : H' b = some o := a b o e (by simp)
theorem Kp.g1 {p : Addr} {H H' : Hp} {b : Addr} {o : HO} (a : Kp [p] H H') (n : b ≠ p) (e : H b = some o) : H' b = some o := a b o e (by simp [n])
theorem Kp.g2 {p q : Addr} {H H' : Hp} {b : Addr} {o : HO} (a : Kp [p, q] H H') (n : b ≠ p) (m : b ≠ q) (e : H b = some o) : H' b = some o := a b o e (by simp [n, m])
theorem Kp.g3 {p q r : Addr} {H H' : Hp} {b : Addr} {o : HO} (a : Kp [p, q, r] H H') (n : b ≠ p) (m : b ≠ q) (l : b ≠ r) (e : H b = some o) : H' b = some o := a b o e (by simp [n, m, l])
theorem Kp.back {ps : List Addr} {H H' : Hp} (a : Kp ps H H') {l : Addr} (h : H' l = none) (n : l ∉ ps) : H l = none := by
  cases q : H l with
  | none => rfl
  | some o =>
    rw [a l o q n] at h
    cases h
theorem Kp.via {ps qs : List Addr} {H H' H2 : Hp} (a : Kp ps H H') (b : Kp qs H' H2) (n : ∀ q, q ∈ qs → q ∈ ps ∨ H q = none) : Kp ps H H2 := fun c o e m => b c o (a c o e m) fun z => by
  rcases n c z with z | z
  · exact m z
  · rw [z] at e
    cases e
theorem Kp.via1 {ps : List Addr} {p : Addr} {H H' H2 : Hp} (a : Kp ps H H') (b : Kp [p] H' H2) (n : H p = none) : Kp ps H H2 := a.via b fun q hq => by
  rw [List.mem_singleton.mp hq]
  exact .inr n
theorem rd_kp {ps : List Addr} {H H' : Hp} {b : Addr} {u : HO} (a : Kp ps H H') (n : b ∉ ps) (h : Rd H b u) : Rd H' b u := by
  rcases h with h | ⟨o, h⟩
  · exact .inl (a _ _ h n)
  · exact .inr ⟨o, a _ _ h n⟩
theorem sl_kp {K : PySem.W.Frag} {ps : List Addr} {H H' : Hp} {b : Addr} {xs : List V} (a : Kp ps H H') (n : b ∉ ps) (h : SqL K H b xs) : SqL K H' b xs := by
  rcases h with h | h
  · exact .inl (rd_kp a n h)
  · exact .inr h
theorem st_kp {K : PySem.W.Frag} {ps : List Addr} {H H' : Hp} {b : Addr} {xs : List V} (a : Kp ps H H') (n : b ∉ ps) (h : SqT K H b xs) : SqT K H' b xs := by
  rcases h with h | h
  · exact .inl (rd_kp a n h)
  · exact .inr h
theorem sl_upd {K : PySem.W.Frag} {H : Hp} {b p : Addr} {o : HO} {xs : List V} (n : b ≠ p) (h : SqL K H b xs) : SqL K (upd H p o) b xs :=
  sl_kp (ps := [p]) (fun c u e m => by rw [upd_ne (by simpa using m)]; exact e) (by simpa using n) h
theorem st_upd {K : PySem.W.Frag} {H : Hp} {b p : Addr} {o : HO} {xs : List V} (n : b ≠ p) (h : SqT K H b xs) : SqT K (upd H p o) b xs :=
  st_kp (ps := [p]) (fun c u e m => by rw [upd_ne (by simpa using m)]; exact e) (by simpa using n) h
theorem hu_ne {H : Hp} {a b : Addr} {o u : HO} (n : b ≠ a) (e : H b = some u) : upd H a o b = some u := by
  rw [upd_ne n]
  exact e
theorem upd_is {H : Hp} {a : Addr} {o o' : HO} (e : o = o') : upd H a o a = some o' := by
  rw [e]
  exact upd_same
theorem ne_fresh {H : Hp} {a b : Addr} {o : HO} (h : upd H a o b = none) : a ≠ b := ne_of_none upd_same h
theorem hn_ne {H : Hp} {a b : Addr} {o : HO} (n : b ≠ a) (e : H b = none) : upd H a o b = none := by
  rw [upd_ne n]
  exact e

/-! ### readings, one lemma each -/
section
variable {K : PySem.W.Frag} {σ : L2.St} {H : Hp} {nx bk ct : L2.St → Hp → Prop} {rt : VK} {t u : TS} {te ta tb tc : TE} {tt tu : TT} {ar : TA} {Q : VK} {QB : Bool → Hp → Prop} {QA : List V → Hp → Prop} {v x y : V} {i j : Int}
abbrev En (nx : L2.St → Hp → Prop) (rt : VK) (bk ct : L2.St → Hp → Prop) : Ends := ⟨nx, rt, bk, ct⟩
theorem rd_seq (h : t ⟨u ⟨nx, rt, bk, ct⟩, rt, bk, ct⟩ σ H) : tSeq t u ⟨nx, rt, bk, ct⟩ σ H := h
theorem rd_next (h : nx σ H) : tNext ⟨nx, rt, bk, ct⟩ σ H := h
theorem rd_brk (h : bk σ H) : tBreak ⟨nx, rt, bk, ct⟩ σ H := h
theorem rd_cont (h : ct σ H) : tCont ⟨nx, rt, bk, ct⟩ σ H := h
theorem rd_asg {g : TG} (h : te σ H fun x H1 => g x σ H1 nx) : tAsg te g ⟨nx, rt, bk, ct⟩ σ H := h
theorem rd_ret (h : te σ H rt) : tRet te ⟨nx, rt, bk, ct⟩ σ H := h
theorem rd_retN (h : rt .non H) : tRetN ⟨nx, rt, bk, ct⟩ σ H := h
theorem rd_drop (h : te σ H fun _ H1 => nx σ H1) : tDrop te ⟨nx, rt, bk, ct⟩ σ H := h
theorem rd_ifS {D : Ends} (h : tt σ H fun b H1 => if b = true then t D σ H1 else u D σ H1) : tIfS tt t u D σ H := h
theorem rd_cut (M : L2.St → Hp → Prop) (h : t ⟨M, rt, bk, ct⟩ σ H) (k : ∀ σ' H', M σ' H' → u ⟨nx, rt, bk, ct⟩ σ' H') : C8.tCut t u ⟨nx, rt, bk, ct⟩ σ H := ⟨M, h, k⟩
theorem rd_gname {n : Nat} {Q : L2.St → Hp → Prop} (h : Q (σ.set n (some v)) H) : gName n v σ H Q := h
theorem rd_gsub {to ti : TE} {s : TSet} {Q : L2.St → Hp → Prop} (h : to σ H fun o H1 => ti σ H1 fun i H2 => s o i v H2 fun H3 => Q σ H3) : gSub to ti s v σ H Q := h
theorem rd_gtup {n : Nat} {g : TGs} {a : Addr} {xs : List V} {Q : L2.St → Hp → Prop} (h : SqT K H a xs) (e : xs.length = n) (q : g xs σ H Q) : gTup K n g (.ref a) σ H Q := ⟨a, xs, rfl, h, e, q⟩
theorem rd_gcons {g : TG} {gs : TGs} {r : List V} {Q : L2.St → Hp → Prop} (q : g v σ H fun σ' H' => gs r σ' H' Q) : gCons g gs (v :: r) σ H Q := ⟨v, r, rfl, q⟩
theorem rd_gnil {Q : L2.St → Hp → Prop} (q : Q σ H) : gNil [] σ H Q := ⟨rfl, q⟩
theorem rd_setL {p : Addr} {xs : List V} {k : Int} {j : Nat} {Q : Hp → Prop} (hp : H p = some (.lst xs)) (hj : ixN xs.length k = some j) (q : Q (upd H p (.lst (xs.set j v)))) : rSetL (.ref p) (.int k) v H Q := ⟨p, xs, k, j, rfl, rfl, hp, hj, q⟩
theorem rd_var {n : Nat} (e : σ[n]? = some (some v)) (h : Q v H) : tVar n σ H Q := ⟨v, e, h⟩
theorem rd_c (h : Q v H) : tC v σ H Q := h
theorem rd_op {r : R2} (h : ta σ H fun x H1 => tb σ H1 fun y H2 => r x y H2 Q) : tOp r ta tb σ H Q := h
theorem rd_un {r : V → Hp → VK → Prop} (h : ta σ H fun x H1 => r x H1 Q) : tUn r ta σ H Q := h
theorem rd_I0 {g : Int → Int → V} (h : Q (g i j) H) : rI0 g (.int i) (.int j) H Q := ⟨i, j, rfl, rfl, h⟩
theorem rd_I {C : Int → Int → Prop} {g : Int → Int → V} (c : C i j) (h : Q (g i j) H) : rI C g (.int i) (.int j) H Q := ⟨i, j, rfl, rfl, c, h⟩
theorem rd_U {g : Int → V} (h : Q (g i) H) : rU g (.int i) H Q := ⟨i, rfl, h⟩
theorem rd_eqI (h : Q (.bl (decide (i = j))) H) : rEq (.int i) (.int j) H Q := ⟨rfl, by
  rw [show decide (V.int i = V.int j) = decide (i = j) from decide_eq_decide.mpr ⟨fun e => V.int.inj e, fun e => congrArg V.int e⟩]
  exact h⟩
theorem rd_neI (h : Q (.bl (!decide (i = j))) H) : rNe (.int i) (.int j) H Q := ⟨rfl, by
  rw [show decide (V.int i = V.int j) = decide (i = j) from decide_eq_decide.mpr ⟨fun e => V.int.inj e, fun e => congrArg V.int e⟩]
  exact h⟩
theorem rd_eqS {a b : Str} (h : Q (.bl (decide (a = b))) H) : rEq (.str a) (.str b) H Q := ⟨rfl, by
  rw [show decide (V.str a = V.str b) = decide (a = b) from decide_eq_decide.mpr ⟨fun e => V.str.inj e, fun e => congrArg V.str e⟩]
  exact h⟩
theorem rd_neS {a b : Str} (h : Q (.bl (!decide (a = b))) H) : rNe (.str a) (.str b) H Q := ⟨rfl, by
  rw [show decide (V.str a = V.str b) = decide (a = b) from decide_eq_decide.mpr ⟨fun e => V.str.inj e, fun e => congrArg V.str e⟩]
  exact h⟩
theorem rd_eqB {a b : Bool} (h : Q (.bl (decide (a = b))) H) : rEq (.bl a) (.bl b) H Q := ⟨rfl, by
  rw [show decide (V.bl a = V.bl b) = decide (a = b) from decide_eq_decide.mpr ⟨fun e => V.bl.inj e, fun e => congrArg V.bl e⟩]
  exact h⟩
theorem rd_neB {a b : Bool} (h : Q (.bl (!decide (a = b))) H) : rNe (.bl a) (.bl b) H Q := ⟨rfl, by
  rw [show decide (V.bl a = V.bl b) = decide (a = b) from decide_eq_decide.mpr ⟨fun e => V.bl.inj e, fun e => congrArg V.bl e⟩]
  exact h⟩
theorem rd_eq (s : scal x y = true) (h : Q (.bl (decide (x = y))) H) : rEq x y H Q := ⟨s, h⟩
theorem rd_ne (s : scal x y = true) (h : Q (.bl (!decide (x = y))) H) : rNe x y H Q := ⟨s, h⟩
theorem rd_test (h : te σ H fun x H1 => ∃ k, x = .bl k ∧ QB k H1) : tTest te σ H QB := h
theorem rd_tB (h : te σ H fun x H1 => ∃ k, x = .bl k ∧ QB k H1) : tB te σ H QB := h
theorem rd_exb {b : Bool} {P : Bool → Prop} (h : P b) : ∃ k, V.bl b = V.bl k ∧ P k := ⟨b, rfl, h⟩
theorem rd_and (h : tt σ H fun c H1 => if c = true then tu σ H1 QB else QB false H1) : tAnd tt tu σ H QB := h
theorem rd_or (h : tt σ H fun c H1 => if c = true then QB true H1 else tu σ H1 QB) : tOr tt tu σ H QB := h
theorem rd_not (h : tt σ H fun c H1 => QB (!c) H1) : tNot tt σ H QB := h
theorem rd_andV (h : ta σ H fun x H1 => ∃ c, x = .bl c ∧ if c = true then tb σ H1 Q else Q (.bl false) H1) : tAndV ta tb σ H Q := h
theorem rd_orV (h : ta σ H fun x H1 => ∃ c, x = .bl c ∧ if c = true then Q (.bl true) H1 else tb σ H1 Q) : tOrV ta tb σ H Q := h
theorem rd_notV (h : ta σ H fun x H1 => ∃ c, x = .bl c ∧ Q (.bl (!c)) H1) : tNotV ta σ H Q := h
theorem rd_ifE (h : tt σ H fun c H1 => if c = true then ta σ H1 Q else tb σ H1 Q) : tIf tt ta tb σ H Q := h
theorem rd_isN (h : ta σ H fun x H1 => Q (.bl (decide (x = .non))) H1) : tIsN ta σ H Q := h
theorem rd_notN (h : ta σ H fun x H1 => Q (.bl (!decide (x = .non))) H1) : tNotN ta σ H Q := h
theorem rd_tru {b : Bool} {P : Bool → Prop} (e : TruV K x H b) (h : P b) : ∃ k, TruV K x H k ∧ P k := ⟨b, e, h⟩
theorem rd_CB {r : List V → Hp → VK → Prop} (h : ar σ H fun vs H1 => r vs H1 Q) : tCB r ar σ H Q := h
theorem rd_nil (h : QA [] H) : tNil σ H QA := h
theorem rd_cons {tr : TA} (h : ta σ H fun x H1 => tr σ H1 fun xs H2 => QA (x :: xs) H2) : tCons ta tr σ H QA := h
theorem rd_call {sp : Sp} {E : XK} (h : ar σ H fun vs H1 => sp vs H1 Q E) : tCall sp [] E ar σ H Q := by
  unfold tCall
  have e : (fun vs H1 => sp (vs ++ []) H1 Q E) = fun vs H1 => sp vs H1 Q E := by
    funext vs H1
    rw [List.append_nil]
  rw [e]
  exact h
theorem rd_make {C : Addr} {sp : Sp} {dvs : List V} {E : XK} (h : ar σ H fun vs H1 => ∀ x dx, H1 x = none → H1 dx = none → dx ≠ x → sp (.ref x :: (vs ++ dvs)) (upd (upd H1 dx (.own x)) x (.ins C dx [])) (fun v H2 => v = .non ∧ Q (.ref x) H2) E) : tMake C sp dvs E ar σ H Q := h
theorem rd_callD {sp : Sp} {dvs : List V} {E : XK} (h : ar σ H fun vs H1 => sp (vs ++ dvs) H1 Q E) : tCall sp dvs E ar σ H Q := h
theorem rd_tup (h : ar σ H fun xs H1 => xs.length ≤ sizeLine ∧ ∀ p, H1 p = none → Q (.ref p) (upd H1 p (.tup xs))) : tTup ar σ H Q := h
theorem rd_lst (h : ar σ H fun xs H1 => xs.length ≤ sizeLine ∧ ∀ p, H1 p = none → Q (.ref p) (upd H1 p (.lst xs))) : tLst ar σ H Q := h
theorem rd_ixL {p : Addr} {xs : List V} (h : SqL K H p xs) (a : atI xs i = some v) (q : Q v H) : rIxL K (.ref p) (.int i) H Q := ⟨p, xs, i, v, rfl, rfl, h, a, q⟩
theorem rd_ixT {p : Addr} {xs : List V} (h : SqT K H p xs) (a : atI xs i = some v) (q : Q v H) : rIxT K (.ref p) (.int i) H Q := ⟨p, xs, i, v, rfl, rfl, h, a, q⟩
theorem rd_fld {f : Str} {a C dx : Addr} {fs : List (Str × V)} {P : V → Hp → Prop} (h : H a = some (.ins C dx fs)) (c : Cls K C) (n : NoAttr K C f) (l : fs.lookup f = some v) (q : Q v H) :
    ∃ a' C' dx' fs' v', V.ref a = V.ref a' ∧ H a' = some (.ins C' dx' fs') ∧ Cls K C' ∧ NoAttr K C' f ∧ fs'.lookup f = some v' ∧ Q v' H := ⟨a, C, dx, fs, v, rfl, h, c, n, l, q⟩
theorem rd_meth {C : Addr} {m : Str} {sp : Sp} {E : XK} (h : ta σ H fun x H1 => ∃ a dx fs, x = .ref a ∧ H1 a = some (.ins C dx fs) ∧ fs.lookup m = none ∧ ar σ H1 fun vs H2 => sp (x :: vs) H2 Q E) : tMeth C m sp [] E ta ar σ H Q := by
  unfold tMeth
  have e : (fun (x : V) (H1 : Hp) => ∃ a dx fs, x = V.ref a ∧ H1 a = some (.ins C dx fs) ∧ fs.lookup m = none ∧ ar σ H1 fun vs H2 => sp (x :: (vs ++ [])) H2 Q E) =
      fun (x : V) (H1 : Hp) => ∃ a dx fs, x = V.ref a ∧ H1 a = some (.ins C dx fs) ∧ fs.lookup m = none ∧ ar σ H1 fun vs H2 => sp (x :: vs) H2 Q E := by
    funext x H1
    simp only [List.append_nil]
  rw [e]
  exact h
theorem rd_methX {C a dx : Addr} {m : Str} {fs : List (Str × V)} {R : Prop} (h : H a = some (.ins C dx fs)) (l : fs.lookup m = none) (q : R) : ∃ a' dx' fs', V.ref a = V.ref a' ∧ H a' = some (.ins C dx' fs') ∧ fs'.lookup m = none ∧ R := ⟨a, dx, fs, rfl, h, l, q⟩
theorem rd_bm {T : String} {r : V → List V → Hp → VK → Prop} (h : ta σ H fun x H1 => tyV K T x H1 ∧ ar σ H1 fun xs H2 => r x xs H2 Q) : tBM K T r ta ar σ H Q := h
theorem rd_bm0 {T : String} {r : V → List V → Hp → VK → Prop} (h : ta σ H fun x H1 => tyV K T x H1 ∧ r x [] H1 Q) : tBM0 K T r ta σ H Q := h
theorem ty_l {p : Addr} {xs : List V} {B : Prop} (h : SqL K H p xs) (q : B) : tyV K "list" (.ref p) H ∧ B := ⟨.inl ⟨rfl, xs, h⟩, q⟩
theorem rd_append {p : Addr} {xs : List V} (h : H p = some (.lst xs)) (l : xs.length < sizeLine) (q : Q .non (upd H p (.lst (xs ++ [v])))) : rAppend (.ref p) [v] H Q := ⟨p, xs, v, rfl, rfl, h, l, q⟩
/-! #### built-ins under names -/
def rInt1 : List V → Hp → VK → Prop := fun xs H Q => (∃ i, xs = [.int i] ∧ Q (.int i) H) ∨ ∃ k, xs = [.bl k] ∧ Q (.int (if k then 1 else 0)) H
theorem call_int1' {X : Cx} : CallR X (.type "int") rInt1 := call_int1
theorem rd_int1 (h : Q (.int i) H) : rInt1 [.int i] H Q := .inl ⟨i, rfl, h⟩
def rAbs : List V → Hp → VK → Prop := fun xs H Q => ∃ i, xs = [.int i] ∧ Q (.int (if i < 0 then -i else i)) H
theorem call_abs' {X : Cx} : CallR X (.builtin "abs") rAbs := call_abs
theorem rd_abs (h : Q (.int (i.natAbs : Int)) H) : rAbs [.int i] H Q := ⟨i, rfl, by
  rw [show (if i < 0 then -i else i) = (i.natAbs : Int) from by split <;> omega]
  exact h⟩
def rLenS (K : PySem.W.Frag) : List V → Hp → VK → Prop := fun xs H Q => ∃ p ys, xs = [.ref p] ∧ (SqL K H p ys ∨ SqT K H p ys) ∧ Q (.int ys.length) H
theorem call_lenS {X : Cx} : CallR X (.builtin "len") (rLenS X.K) := call_len_seq
theorem rd_lenL {p : Addr} {ys : List V} (h : SqL K H p ys) (q : Q (.int ys.length) H) : rLenS K [.ref p] H Q := ⟨p, ys, rfl, .inl h, q⟩
theorem rd_lenI {p : Addr} {ns : List Int} (h : SqL K H p (ns.map V.int)) (q : Q (.int ns.length) H) : rLenS K [.ref p] H Q := ⟨p, ns.map V.int, rfl, .inl h, by
  rw [List.length_map]
  exact q⟩
theorem rd_lenT {p : Addr} {ys : List V} (h : SqT K H p ys) (q : Q (.int ys.length) H) : rLenS K [.ref p] H Q := ⟨p, ys, rfl, .inr h, q⟩
def rMin2 : List V → Hp → VK → Prop := fun xs H Q => ∃ i j, xs = [.int i, .int j] ∧ Q (.int (if j < i then j else i)) H
theorem call_min2' {X : Cx} (hc : X.calm = true) : CallR X (.builtin "min") rMin2 := call_min2 hc
theorem rd_min2 (h : Q (.int (min i j)) H) : rMin2 [.int i, .int j] H Q := ⟨i, j, rfl, by
  rw [show (if j < i then j else i) = min i j from by split <;> omega]
  exact h⟩
def rMax2 : List V → Hp → VK → Prop := fun xs H Q => ∃ i j, xs = [.int i, .int j] ∧ Q (.int (if j > i then j else i)) H
theorem call_max2' {X : Cx} (hc : X.calm = true) : CallR X (.builtin "max") rMax2 := call_max2 hc
theorem rd_max2 (h : Q (.int (max i j)) H) : rMax2 [.int i, .int j] H Q := ⟨i, j, rfl, by
  rw [show (if j > i then j else i) = max i j from by split <;> omega]
  exact h⟩
def rListOf (K : PySem.W.Frag) : List V → Hp → VK → Prop := fun xs H Q => ∃ p ys, xs = [.ref p] ∧ (SqL K H p ys ∨ SqT K H p ys) ∧ ∀ l, H l = none → Q (.ref l) (upd H l (.lst ys))
theorem call_listOf {X : Cx} : CallR X (.type "list") (rListOf X.K) := call_list_of
theorem rd_listL {p : Addr} {ys : List V} (h : SqL K H p ys) (q : ∀ l, H l = none → Q (.ref l) (upd H l (.lst ys))) : rListOf K [.ref p] H Q := ⟨p, ys, rfl, .inl h, q⟩
/-- isinstance against one built-in class -/
theorem rd_isi {t : String} {c : String} {b : Bool} (ty : TyX K H x (.type t)) (e : kitB t c = some b) (h : Q (.bl b) H) : rIsi K [x, .ty c] H Q := ⟨x, .ty c, .type t, .type c, b, rfl, .ty c, ty, kit_ty e, h⟩

/-! ### loops -/
/-- what a for over the walk J asks -/
def ForG (J : It) (g : TG) (t : TS) (D : Ends) (σ : L2.St) (H : Hp) : Prop :=
  ∃ W : Nat → Nat → L2.St → Hp → Prop, (∃ m, W 0 m σ H) ∧ ∀ i m σ H, W i m σ H →
      (J.stop i H ∧ D.nx σ H) ∨ (J.go i H ∧ ∃ N : L2.St → Hp → Prop, (∀ σ' H', N σ' H' → ∃ m', m' < m ∧ W (i + 1) m' σ' H') ∧ ∀ x H', J.yld i H x H' → g x σ H' fun σ2 H2 => t { D with nx := N, ct := N, bk := D.nx } σ2 H2)
theorem rd_for {wi : TI} {g : TG} {D : Ends} (h : wi σ H fun J H1 => ForG J g t D σ H1) : tFor wi g t D σ H := h
theorem rd_iList {R : It → Hp → Prop} (h : te σ H fun x H1 => ∃ a, x = V.ref a ∧ (∃ xs, SqL K H1 a xs) ∧ R (Itl K a) H1) : iList K te σ H R := h
theorem rd_iTup {R : It → Hp → Prop} (h : te σ H fun x H1 => ∃ a, x = V.ref a ∧ (∃ xs, SqT K H1 a xs) ∧ R (Itt K a) H1) : iTup K te σ H R := h
theorem rd_iListX {p : Addr} {xs : List V} {R : Addr → Prop} (h : SqL K H p xs) (q : R p) : ∃ a, V.ref p = V.ref a ∧ (∃ xs, SqL K H a xs) ∧ R a := ⟨p, rfl, ⟨xs, h⟩, q⟩
theorem rd_iTupX {p : Addr} {xs : List V} {R : Addr → Prop} (h : SqT K H p xs) (q : R p) : ∃ a, V.ref p = V.ref a ∧ (∃ xs, SqT K H a xs) ∧ R a := ⟨p, rfl, ⟨xs, h⟩, q⟩
theorem rd_iRng1 {R : It → Hp → Prop} (h : ar σ H fun vs H1 => ∃ j : Int, vs = [.int j] ∧ -(2 ^ 62) ≤ j ∧ j < 2 ^ 62 ∧ R (Itr 0 j.toNat) H1) : iRng1 ar σ H R := h
theorem rd_iRng1X {R : Int → Prop} (h1 : -(2 ^ 62) ≤ j) (h2 : j < 2 ^ 62) (q : R j) : ∃ k : Int, [V.int j] = [V.int k] ∧ -(2 ^ 62) ≤ k ∧ k < 2 ^ 62 ∧ R k := ⟨j, rfl, h1, h2, q⟩
theorem rd_iRng2 {R : It → Hp → Prop} (h : ar σ H fun vs H1 => ∃ i j : Int, vs = [.int i, .int j] ∧ (-(2 ^ 62) ≤ i ∧ i < 2 ^ 62 ∧ -(2 ^ 62) ≤ j ∧ j < 2 ^ 62) ∧ R (Itr i (j - i).toNat) H1) : iRng2 ar σ H R := h
theorem rd_iRng2X {R : Int → Int → Prop} (h1 : -(2 ^ 62) ≤ i ∧ i < 2 ^ 62 ∧ -(2 ^ 62) ≤ j ∧ j < 2 ^ 62) (q : R i j) : ∃ k l : Int, [V.int i, V.int j] = [V.int k, V.int l] ∧ (-(2 ^ 62) ≤ k ∧ k < 2 ^ 62 ∧ -(2 ^ 62) ≤ l ∧ l < 2 ^ 62) ∧ R k l := ⟨i, j, rfl, h1, q⟩
/-- over a list that stays -/
theorem forL_by {a : Addr} {g : TG} (xs : List V) (Pv : Nat → L2.St → Hp → Prop) (h0 : Pv 0 σ H) (hl : ∀ i σ H, i ≤ xs.length → Pv i σ H → SqL K H a xs)
    (hs : ∀ i x σ H, xs[i]? = some x → Pv i σ H → g x σ H fun σ2 H2 => t ⟨Pv (i + 1), rt, nx, Pv (i + 1)⟩ σ2 H2) (hd : ∀ σ H, Pv xs.length σ H → nx σ H) : ForG (Itl K a) g t ⟨nx, rt, bk, ct⟩ σ H := for_list (K := K) Pv h0 hl hs hd
theorem forT_by {a : Addr} {g : TG} (xs : List V) (Pv : Nat → L2.St → Hp → Prop) (h0 : Pv 0 σ H) (hl : ∀ i σ H, i ≤ xs.length → Pv i σ H → SqT K H a xs)
    (hs : ∀ i x σ H, xs[i]? = some x → Pv i σ H → g x σ H fun σ2 H2 => t ⟨Pv (i + 1), rt, nx, Pv (i + 1)⟩ σ2 H2) (hd : ∀ σ H, Pv xs.length σ H → nx σ H) : ForG (Itt K a) g t ⟨nx, rt, bk, ct⟩ σ H := for_tup (K := K) Pv h0 hl hs hd
theorem forR_by {lo : Int} {n : Nat} {g : TG} (Pv : Nat → L2.St → Hp → Prop) (h0 : Pv 0 σ H)
    (hs : ∀ (i : Nat) σ H, i < n → Pv i σ H → g (.int (lo + i)) σ H fun σ2 H2 => t ⟨Pv (i + 1), rt, nx, Pv (i + 1)⟩ σ2 H2) (hd : ∀ σ H, Pv n σ H → nx σ H) : ForG (Itr lo n) g t ⟨nx, rt, bk, ct⟩ σ H := for_range Pv h0 hs hd
/-- the items one by one -/
theorem forL_ints {a : Addr} {g : TG} (ns : List Int) (Pv : Nat → L2.St → Hp → Prop) (h0 : Pv 0 σ H) (hl : ∀ i σ H, i ≤ ns.length → Pv i σ H → SqL K H a (ns.map V.int))
    (hs : ∀ (i : Nat) (h : i < ns.length) σ H, Pv i σ H → g (.int ns[i]) σ H fun σ2 H2 => t ⟨Pv (i + 1), rt, nx, Pv (i + 1)⟩ σ2 H2) (hd : ∀ σ H, Pv ns.length σ H → nx σ H) : ForG (Itl K a) g t ⟨nx, rt, bk, ct⟩ σ H :=
  forL_by (ns.map V.int) Pv h0 (fun i σ H hi p => hl i σ H (by simpa using hi) p) (fun i x σ H e p => by
    rw [List.getElem?_map] at e
    obtain ⟨z, hz, rfl⟩ := Option.map_eq_some_iff.mp e
    obtain ⟨h, rfl⟩ := List.getElem?_eq_some_iff.mp hz
    exact hs i h σ H p) (fun σ H p => hd σ H (by simpa using p))
theorem rd_while (Pv : L2.St → Hp → Prop) (μ : L2.St → Hp → Nat) (h0 : Pv σ H)
    (hs : ∀ σ H, Pv σ H → tt σ H fun b H1 => if b = true then t ⟨fun σ' H' => Pv σ' H' ∧ μ σ' H' < μ σ H, rt, nx, fun σ' H' => Pv σ' H' ∧ μ σ' H' < μ σ H⟩ σ H1 else nx σ H1)
    (mono : ∀ σ H Q Q', (∀ b H1, Q b H1 → Q' b H1) → tt σ H Q → tt σ H Q') : tWhile tt t ⟨nx, rt, bk, ct⟩ σ H := while_by Pv μ h0 hs mono
/-- a list comprehension -/
def LcG (J : It) (g : TG) (tt : TT) (te : TE) (vs : List Nat) (σ : L2.St) (D : Addr) (Qd : Hp → Prop) (H1 : Hp) : Prop :=
  ∃ W : Nat → Nat → Hp → Prop, (∃ m, W 0 m (upd H1 D (.lst []))) ∧ ∀ i m H, W i m H →
      (J.stop i H ∧ Qd H) ∨ (J.go i H ∧ ∃ Nx : Hp → Prop, (∀ H', Nx H' → ∃ m', m' < m ∧ W (i + 1) m' H') ∧ ∀ x H', J.yld i H x H' → g x (wipe σ vs) H' fun σ2 H2 => wipe σ2 vs = wipe σ vs ∧ tt σ2 H2 fun b H3 =>
        if b = true then te σ2 H3 fun y H4 => ∃ acc, H4 D = some (.lst acc) ∧ acc.length < sizeLine ∧ Nx (upd H4 D (.lst (acc ++ [y]))) else Nx H3)
theorem rd_lc {wi : TI} {g : TG} {vs : List Nat} (h : wi σ H fun J H1 => ∀ D, H1 D = none → LcG J g tt te vs σ D (fun H => Q (.ref D) H) H1) : tLc wi g tt te vs σ H Q := h
theorem lcL_by {a D : Addr} {g : TG} {vs : List Nat} {Qd : Hp → Prop} (xs : List V) (Pv : Nat → Hp → Prop) (h0 : Pv 0 (upd H D (.lst []))) (hl : ∀ i H, i ≤ xs.length → Pv i H → SqL K H a xs)
    (hs : ∀ i x H, xs[i]? = some x → Pv i H → g x (wipe σ vs) H fun σ2 H2 => wipe σ2 vs = wipe σ vs ∧ tt σ2 H2 fun b H3 =>
      if b = true then te σ2 H3 fun y H4 => ∃ acc, H4 D = some (.lst acc) ∧ acc.length < sizeLine ∧ Pv (i + 1) (upd H4 D (.lst (acc ++ [y]))) else Pv (i + 1) H3) (hd : ∀ H, Pv xs.length H → Qd H) : LcG (Itl K a) g tt te vs σ D Qd H := lc_list (K := K) Pv h0 hl hs hd
theorem lcR_by {lo : Int} {n : Nat} {D : Addr} {g : TG} {vs : List Nat} {Qd : Hp → Prop} (Pv : Nat → Hp → Prop) (h0 : Pv 0 (upd H D (.lst [])))
    (hs : ∀ (i : Nat) H, i < n → Pv i H → g (.int (lo + i)) (wipe σ vs) H fun σ2 H2 => wipe σ2 vs = wipe σ vs ∧ tt σ2 H2 fun b H3 =>
      if b = true then te σ2 H3 fun y H4 => ∃ acc, H4 D = some (.lst acc) ∧ acc.length < sizeLine ∧ Pv (i + 1) (upd H4 D (.lst (acc ++ [y]))) else Pv (i + 1) H3) (hd : ∀ H, Pv n H → Qd H) : LcG (Itr lo n) g tt te vs σ D Qd H := lc_range Pv h0 hs hd
theorem lcL_ints {a D : Addr} {g : TG} {vs : List Nat} {Qd : Hp → Prop} (ns : List Int) (Pv : Nat → Hp → Prop) (h0 : Pv 0 (upd H D (.lst []))) (hl : ∀ i H, i ≤ ns.length → Pv i H → SqL K H a (ns.map V.int))
    (hs : ∀ (i : Nat) (h : i < ns.length) H, Pv i H → g (.int ns[i]) (wipe σ vs) H fun σ2 H2 => wipe σ2 vs = wipe σ vs ∧ tt σ2 H2 fun b H3 =>
      if b = true then te σ2 H3 fun y H4 => ∃ acc, H4 D = some (.lst acc) ∧ acc.length < sizeLine ∧ Pv (i + 1) (upd H4 D (.lst (acc ++ [y]))) else Pv (i + 1) H3) (hd : ∀ H, Pv ns.length H → Qd H) : LcG (Itl K a) g tt te vs σ D Qd H :=
  lcL_by (ns.map V.int) Pv h0 (fun i H hi p => hl i H (by simpa using hi) p) (fun i x H e p => by
    rw [List.getElem?_map] at e
    obtain ⟨z, hz, rfl⟩ := Option.map_eq_some_iff.mp e
    obtain ⟨h, rfl⟩ := List.getElem?_eq_some_iff.mp hz
    exact hs i h H p) (fun H p => hd H (by simpa using p))
theorem rd_yes {QB : Bool → Hp → Prop} (h : QB true H) : tYes σ H QB := h
end

/-! ### callables in one piece -/
section
variable {P : Program} {w : World} {K : PySem.W.Frag} {mg : Str → Option Value} {base : Heap} {CX : CXT} {X : Cx} {k j : Nat} {C : Addr} {x m : Str} {sp : Sp} {dvs : List V} {E : XK} {p pos apos : Pos} {e o : Expr} {es : List Expr} {ta : TE} {t : TA}
structure CalX (P : Program) (w : World) (K : PySem.W.Frag) (mg : Str → Option Value) (base : Heap) (CX : CXT) (k : Nat) (x : Str) (sp : Sp) (dvs : List V) : Prop where
  ex : ∃ (f : Addr) (fd : FuncData) (ps : List Str) (ds : List Value), FnOk P w K mg base CX k f fd ps sp ∧ mg x = some (.ref f) ∧ PySem.W.keepIn K (.ref f) = true ∧ Binds K fd ps ds ∧ Vals dvs ds
structure MetX (P : Program) (w : World) (K : PySem.W.Frag) (mg : Str → Option Value) (base : Heap) (CX : CXT) (k : Nat) (C : Addr) (m : Str) (sp : Sp) (dvs : List V) : Prop where
  ex : ∃ (f : Addr) (fd : FuncData) (ps : List Str) (ds : List Value), Cls K C ∧ Meth K C m f ∧ FnOk P w K mg base CX k f fd ps sp ∧ Binds K fd ps ds ∧ Vals dvs ds
structure MakX (P : Program) (w : World) (K : PySem.W.Frag) (mg : Str → Option Value) (base : Heap) (CX : CXT) (k : Nat) (x : Str) (C : Addr) (sp : Sp) (dvs : List V) : Prop where
  ex : ∃ (f : Addr) (fd : FuncData) (ps : List Str) (ds : List Value), Mk K C f ∧ FnOk P w K mg base CX k f fd ps sp ∧ mg x = some (.ref C) ∧ Binds K fd ps ds ∧ Vals dvs ds
theorem pe_cal (c : CalX X.prog X.w X.K X.mg X.base CX k x sp dvs) (hr : Room j X.A) (hk : k ≤ j) (hg : Gl X x) (hx : Passes CX X E) (ha : PA X (e :: es) t)
    (hdb : (x == ("__debug__" : Str)) = false := by decide) (he : starEach (e :: es) X.env = (false, eval e X.env) :: starEach es X.env := by rfl) (hpl : (backTo pos (starEach es X.env)).any (·.1) = false := by rfl) :
    PE X (.Call (.Name x p) (e :: es) [] pos) (tCall sp dvs E t) := by
  obtain ⟨f, fd, ps, ds, F, hm, kp, b, d⟩ := c.ex
  exact pe_call F (hr.mono hk) hg hm kp b d hx ha hdb he hpl
theorem pe_mak (c : MakX X.prog X.w X.K X.mg X.base CX k x C sp dvs) (hr : Room j X.A) (hk : k + 1 ≤ j) (hg : Gl X x) (hx : Passes CX X E) (ha : PA X (e :: es) t)
    (hdb : (x == ("__debug__" : Str)) = false := by decide) (he : starEach (e :: es) X.env = (false, eval e X.env) :: starEach es X.env := by rfl) (hpl : (backTo pos (starEach es X.env)).any (·.1) = false := by rfl) :
    PE X (.Call (.Name x p) (e :: es) [] pos) (tMake C sp dvs E t) := by
  obtain ⟨f, fd, ps, ds, M, F, hm, b, d⟩ := c.ex
  exact pe_make M F (hr.mono hk) hg hm b d hx ha hdb he hpl
theorem pe_met {pl : Sem Bool} (c : MetX X.prog X.w X.K X.mg X.base CX k C m sp dvs) (hr : Room j X.A) (hk : k ≤ j) (hx : Passes CX X E) (he : PE X o ta) (ha : PA X (e :: es) t)
    (hst : starEach (e :: es) X.env = (false, eval e X.env) :: starEach es X.env := by rfl) (hpl : (backTo pos (starEach es X.env)).any (·.1) = false := by rfl)
    (ht : eval (.Call (.Attribute o m apos) (e :: es) [] pos) X.env = (do
      let ov ← eval o X.env
      standAt apos.atName
      let (f, first) ← holding [ov] (getMethod ov m pl)
      callWith pos f first (backTo pos (starEach (e :: es) X.env)) (backToKw pos (keywordEach [] X.env))) := by rfl) :
    PE X (.Call (.Attribute o m apos) (e :: es) [] pos) (tMeth C m sp dvs E ta t) := by
  obtain ⟨f, fd, ps, ds, cl, me, F, b, d⟩ := c.ex
  exact pe_meth he cl me F (hr.mono hk) b d hx ha hst hpl ht
end

/-! ### a def's promise by its body -/
section
variable {P : Program} {w : World} {K : PySem.W.Frag} {mg : Str → Option Value} {base : Heap} {CX : CXT} {x qual : Str} {params : Arguments} {body : List Stmt} {scope : Scope} {dvs : List V} {kws : List (Str × V)} {f : Addr} {fd : FuncData}
theorem fnD {N ps : List Str} {k : Nat} {sp : Sp} (F : FunD K x qual params body scope dvs kws f fd) (S : FnScope N ps scope) (len : ∀ vs H Q E, sp vs H Q E → vs.length = ps.length)
    (hbody : ∀ (cdv : Value) (A : Around) (outer : List Env) (s : Shared) (H : Hp) (vs : List V) (Q : VK) (E : XK), Room k (A.deeper (envOfC qual scope s.heap.objs.size f cdv)) → sp vs H Q E →
      ∃ t, PSs (cxOf CX0 P w K mg base N qual scope f cdv A outer s H E).nox body t ∧ t ⟨fun _ H' => Q .non H', Q, fun _ _ => False, fun _ _ => False⟩ (start N vs) H) : FnOk P w K mg base CX0 (k + 1) f fd ps sp :=
  F.ok S len fun cdv A outer s H vs Q E hr h => let ⟨t, h1, h2⟩ := hbody cdv A outer s H vs Q E hr h; ⟨t, h1.nox, h2⟩
end

/-! ### the head: facts of a top, one Bool more -/
abbrev AlM : Type := AlD × Bool
def obsM (n : Nat) (fa : List Fa) (fn : List DefD) (ex : PySem.W.Frag → Bool) (g : Addr → Option Obj) : AlM := (obsD fa fn (frG g (asD g n)), ex (frG g (asD g n)))
def hookM (n : Nat) (fa : List Fa) (fn : List DefD) (ex : PySem.W.Frag → Bool) : PySem.W.Hook where
  α := AlM
  obs := fun s => obsM n fa fn ex s.heap.get?
  val := fun _ => (valD fn, true)
  says := fun _ h => ∃ K : PySem.W.Frag, K.In h ∧ SaysD fa fn K ∧ ex K = true
  of := fun _ _ e => ⟨_, frG_in, congrArg (fun z : AlM => z.1) e, congrArg (fun z : AlM => z.2) e⟩
  keeps := fun _ _ _ ⟨K, hK, c, d⟩ k => ⟨K, PySem.W.Frag.In.keeps hK k, c, d⟩
theorem obsM_eq {n : Nat} {fa : List Fa} {fn : List DefD} {ex : PySem.W.Frag → Bool} {g : Addr → Option Obj} {s : Shared} (h : ∀ a, g a = s.heap.get? a) : obsM n fa fn ex g = (hookM n fa fn ex).obs s := by
  have e : g = s.heap.get? := funext h
  rw [e] <;> rfl
/-- what the defs lean on -/
structure Ctx (fa : List Fa) (fn : List DefD) (ex : PySem.W.Frag → Bool) (K : PySem.W.Frag) (mg : Str → Option Value) : Prop where
  says : SaysD fa fn K
  ex : ex K = true
  at_ : ∃ h, K.In h ∧ h.Ns mainGlobals mg
section
variable {fa : List Fa} {fn : List DefD} {ex : PySem.W.Frag → Bool} {K : PySem.W.Frag} {mg : Str → Option Value}
theorem Ctx.glo (T : Ctx fa fn ex K mg) (i : Nat) {x : Str} (h : fa[i]? = some (.glo x) := by rfl) : mg x = some (.ref (ga K x)) := let ⟨_, X, G⟩ := T.at_; glo_ok X G (T.says.fact i h)
theorem Ctx.fre (T : Ctx fa fn ex K mg) (i : Nat) {x : Str} (h : fa[i]? = some (.free x) := by rfl) : mg x = none := let ⟨_, X, G⟩ := T.at_; free_ok X G (T.says.fact i h)
theorem Ctx.cls (T : Ctx fa fn ex K mg) (i : Nat) {x : Str} (h : fa[i]? = some (.cls x) := by rfl) : Cls K (ga K x) := cls_ok (T.says.fact i h)
theorem Ctx.noat (T : Ctx fa fn ex K mg) (i : Nat) {x f : Str} (h : fa[i]? = some (.noat x f) := by rfl) : NoAttr K (ga K x) f := noat_ok (T.says.fact i h)
theorem Ctx.meth (T : Ctx fa fn ex K mg) (i : Nat) {x m : Str} (h : fa[i]? = some (.meth x m) := by rfl) : Meth K (ga K x) m (ma K (ga K x) m) := meth_ok (T.says.fact i h)
theorem Ctx.mkr (T : Ctx fa fn ex K mg) (i : Nat) {x : Str} (h : fa[i]? = some (.mkr x) := by rfl) : Mk K (ga K x) (ma K (ga K x) "__init__") := mkr_ok (T.says.fact i h)
theorem Ctx.int (T : Ctx fa fn ex K mg) (i : Nat) {x : Str} {z : Int} (h : fa[i]? = some (.int x z) := by rfl) : ∃ t, mg x = some (.int z t) := let ⟨_, X, G⟩ := T.at_; int_ok X G (T.says.fact i h)
theorem Ctx.str (T : Ctx fa fn ex K mg) (i : Nat) {x z : Str} (h : fa[i]? = some (.str x z) := by rfl) : ∃ t, mg x = some (.str z t) := let ⟨_, X, G⟩ := T.at_; str_ok X G (T.says.fact i h)
end
theorem pe_globC {X : Cx} {x : Str} {v : V} {pos : Pos} (hg : Gl X x) (h : ∃ u, X.mg x = some u ∧ RelV v u) (hd : (x == ("__debug__" : Str)) = false := by decide) : PE X (.Name x pos) (tC v) := let ⟨_, hm, r⟩ := h; pe_glob hg hm r hd

/-! ### small facts -/
theorem ite_d {p A B : Prop} [Decidable p] (h1 : p → A) (h2 : ¬ p → B) : if decide p = true then A else B := by
  by_cases h : p
  · rw [decide_eq_true h, if_pos rfl]
    exact h1 h
  · rw [decide_eq_false h, if_neg Bool.false_ne_true]
    exact h2 h
theorem ite_n {p A B : Prop} [Decidable p] (h1 : ¬ p → A) (h2 : p → B) : if (!decide p) = true then A else B := by
  by_cases h : p
  · rw [decide_eq_true h]
    exact iteF (h2 h)
  · rw [decide_eq_false h]
    exact iteT (h1 h)
theorem ite_b {b : Bool} {A B : Prop} (h1 : b = true → A) (h2 : b = false → B) : if b = true then A else B := by
  cases b
  · exact iteF (h2 rfl)
  · exact iteT (h1 rfl)
theorem ite_t {b : Bool} {A B : Prop} (e : b = true) (h : A) : if b = true then A else B := by
  subst e
  exact iteT h
theorem ite_f {b : Bool} {A B : Prop} (e : b = false) (h : B) : if b = true then A else B := by
  subst e
  exact iteF h
theorem atI_ints {ns : List Int} {i : Int} (h0 : 0 ≤ i) (h1 : i < ns.length) : atI (ns.map V.int) i = some (.int (ns.getD i.toNat 0)) := by
  obtain ⟨j, rfl⟩ := Int.eq_ofNat_of_zero_le h0
  refine atI_nat ?_
  have hj : j < ns.length := by omega
  rw [List.getElem?_map, List.getElem?_eq_getElem hj]
  simp [hj]
theorem take_map_succ {ns : List Int} {i : Nat} (h : i < ns.length) : (ns.take i).map V.int ++ [V.int ns[i]] = (ns.take (i + 1)).map V.int := by
  rw [List.take_succ_eq_append_getElem h, List.map_append]
  rfl
theorem sz1000 {n : Nat} (h : n ≤ 1000000) : n ≤ sizeLine := Nat.le_trans h (by decide)
theorem szlt {n : Nat} (h : n < 1000000) : n < sizeLine := Nat.lt_of_lt_of_le h (by decide)

/-! ### more readings -/
section
variable {K : PySem.W.Frag} {σ : L2.St} {H : Hp} {nx bk ct : L2.St → Hp → Prop} {rt : VK} {te ta tb tc : TE} {ar : TA} {Q : VK} {QB : Bool → Hp → Prop} {v x y z : V} {i j : Int}
theorem rd_sfld {f : Str} (h : tb σ H fun y H1 => ta σ H1 fun x H2 => ∃ a C dx fs, x = V.ref a ∧ H2 a = some (.ins C dx fs) ∧ Cls K C ∧ NoAttr K C f ∧ fs.length < 1000 ∧ nx σ (upd H2 a (.ins C dx (putF f y fs)))) : sFld K ta tb f ⟨nx, rt, bk, ct⟩ σ H := h
theorem rd_sfldX {f : Str} {a C dx : Addr} {fs : List (Str × V)} {R : Addr → Addr → Addr → List (Str × V) → Prop} (h : H a = some (.ins C dx fs)) (c : Cls K C) (n : NoAttr K C f) (l : fs.length < 1000) (q : R a C dx fs) :
    ∃ a' C' dx' fs', V.ref a = V.ref a' ∧ H a' = some (.ins C' dx' fs') ∧ Cls K C' ∧ NoAttr K C' f ∧ fs'.length < 1000 ∧ R a' C' dx' fs' := ⟨a, C, dx, fs, rfl, h, c, n, l, q⟩
theorem rd_tfld {f : Str} (h : ta σ H fun x H1 => ∃ a C dx fs v, x = V.ref a ∧ H1 a = some (.ins C dx fs) ∧ Cls K C ∧ NoAttr K C f ∧ fs.lookup f = some v ∧ Q v H1) : tFld K ta f σ H Q := h
theorem rd_fldX {f : Str} {a C dx : Addr} {fs : List (Str × V)} {R : V → Prop} (h : H a = some (.ins C dx fs)) (c : Cls K C) (n : NoAttr K C f) (l : fs.lookup f = some v) (q : R v) :
    ∃ a' C' dx' fs' v', V.ref a = V.ref a' ∧ H a' = some (.ins C' dx' fs') ∧ Cls K C' ∧ NoAttr K C' f ∧ fs'.lookup f = some v' ∧ R v' := ⟨a, C, dx, fs, v, rfl, h, c, n, l, q⟩
theorem rd_tcon {f : Str} (h : ta σ H fun x H1 => ∃ a C dx fs v u, x = V.ref a ∧ H1 a = some (.ins C dx fs) ∧ Cls K C ∧ Con K C f v u ∧ fs.lookup f = none ∧ Q v H1) : tCon K ta f σ H Q := h
theorem rd_conX {f : Str} {a C dx : Addr} {fs : List (Str × V)} {R : V → Prop} (h : H a = some (.ins C dx fs)) (c : Cls K C) (n : ∃ u, Con K C f v u) (l : fs.lookup f = none) (q : R v) :
    ∃ a' C' dx' fs' v' u, V.ref a = V.ref a' ∧ H a' = some (.ins C' dx' fs') ∧ Cls K C' ∧ Con K C' f v' u ∧ fs'.lookup f = none ∧ R v' := let ⟨u, n⟩ := n; ⟨a, C, dx, fs, v, u, rfl, h, c, n, l, q⟩
/-! isinstance -/
theorem rd_isi_ii (h : Q (.bl true) H) : rIsi K [.int i, .ty "int"] H Q := rd_isi (.base (.int i)) (by decide +kernel) h
theorem rd_isi_ib (h : Q (.bl false) H) : rIsi K [.int i, .ty "bool"] H Q := rd_isi (.base (.int i)) (by decide +kernel) h
theorem rd_isi_bb {b : Bool} (h : Q (.bl true) H) : rIsi K [.bl b, .ty "bool"] H Q := rd_isi (.base (.bl b)) (by decide +kernel) h
theorem rd_isi_bi {b : Bool} (h : Q (.bl true) H) : rIsi K [.bl b, .ty "int"] H Q := rd_isi (.base (.bl b)) (by decide +kernel) h
theorem rd_isi_ss {b : Str} (h : Q (.bl true) H) : rIsi K [.str b, .ty "str"] H Q := rd_isi (.base (.str b)) (by decide +kernel) h
theorem rd_isi_ll {a : Addr} {xs : List V} (e : H a = some (.lst xs)) (h : Q (.bl true) H) : rIsi K [.ref a, .ty "list"] H Q := rd_isi (.base (.lst e)) (by decide +kernel) h
theorem rd_isi_tt {a : Addr} {xs : List V} (e : H a = some (.tup xs)) (h : Q (.bl true) H) : rIsi K [.ref a, .ty "tuple"] H Q := rd_isi (.base (.tup e)) (by decide +kernel) h
/-! known tests -/
section
variable {A B : Prop}
theorem ite_nt (h : B) : if (!true) = true then A else B := iteF h
theorem ite_nf (h : A) : if (!false) = true then A else B := iteT h
theorem ite_in (h : B) : if decide (V.int i = V.non) = true then A else B := iteF h
theorem ite_rn {a : Addr} (h : B) : if decide (V.ref a = V.non) = true then A else B := iteF h
theorem ite_sn {a : Str} (h : B) : if decide (V.str a = V.non) = true then A else B := iteF h
theorem ite_bn {a : Bool} (h : B) : if decide (V.bl a = V.non) = true then A else B := by
  cases a <;> exact iteF h
theorem ite_nn (h : A) : if decide (V.non = V.non) = true then A else B := iteT h
theorem ite_xin (h : A) : if (!decide (V.int i = V.non)) = true then A else B := iteT h
theorem ite_xrn {a : Addr} (h : A) : if (!decide (V.ref a = V.non)) = true then A else B := iteT h
theorem ite_xnn (h : B) : if (!decide (V.non = V.non)) = true then A else B := iteF h
end
/-! dicts with tuple keys -/
theorem rd_dnewT (h : ∀ p, H p = none → Q (.ref p) (upd H p (.dT []))) : tDNewT σ H Q := h
theorem rd_dnewK (h : ∀ p, H p = none → Q (.ref p) (upd H p (.dK []))) : tDNewK σ H Q := h
theorem rd_dget2 (h : ta σ H fun x H1 => ∃ a, x = V.ref a ∧ IsD H1 a ∧ tb σ H1 fun y H2 => tc σ H2 fun z H3 => ∃ o, DGet H3 a y o ∧ Q (o.getD z) H3) : tDGet2 ta tb tc σ H Q := h
theorem rd_isdX {a : Addr} {R : Addr → Prop} (d : IsD H a) (q : R a) : ∃ a', V.ref a = V.ref a' ∧ IsD H a' ∧ R a' := ⟨a, rfl, d, q⟩
theorem isD_T {a : Addr} {kvs : List (List Key × V)} (e : H a = some (.dT kvs)) : IsD H a := .inr ⟨kvs, .inl e⟩
theorem isD_K {a : Addr} {kvs : List (Key × V)} (e : H a = some (.dK kvs)) : IsD H a := .inl ⟨kvs, .inl e⟩
theorem rd_dgX {a : Addr} {o : Option V} {R : Option V → Prop} (d : DGet H a y o) (q : R o) : ∃ o', DGet H a y o' ∧ R o' := ⟨o, d, q⟩
theorem dg_is {a b : Addr} {kvs : List (List Key × V)} {s : Int} {z : Str} (e : H a = some (.dT kvs)) (eb : H b = some (.tup [.int s, .str z])) : DGet H a (.ref b) (valV kvs [.inl s, .inr z]) := DGet.t (k := [.inl s, .inr z]) e eb
theorem rd_sdput (h : tc σ H fun v H1 => ta σ H1 fun x H2 => tb σ H2 fun y H3 => ∃ a H4, x = V.ref a ∧ DPut H3 a y v H4 ∧ nx σ H4) : sDPut ta tb tc ⟨nx, rt, bk, ct⟩ σ H := h
theorem rd_dpX {a : Addr} {H' : Hp} {R : Hp → Prop} (d : DPut H a y v H') (q : R H') : ∃ a' H4, V.ref a = V.ref a' ∧ DPut H a' y v H4 ∧ R H4 := ⟨a, H', rfl, d, q⟩
theorem dp_is {a b : Addr} {kvs : List (List Key × V)} {s : Int} {z : Str} (e : H a = some (.dT kvs)) (eb : H b = some (.tup [.int s, .str z])) (l : kvs.length < sizeLine) : DPut H a (.ref b) v (upd H a (.dT (putK kvs [.inl s, .inr z] v))) := DPut.t (k := [.inl s, .inr z]) e eb l
theorem ty_d {a : Addr} {kvs : List (List Key × V)} {B : Prop} (h : H a = some (.dT kvs)) (q : B) : tyV K "dict" (.ref a) H ∧ B := ⟨.inr (.inr (.inl ⟨rfl, .inr ⟨kvs, h⟩⟩)), q⟩
theorem ty_dK {a : Addr} {kvs : List (Key × V)} {B : Prop} (h : H a = some (.dK kvs)) (q : B) : tyV K "dict" (.ref a) H ∧ B := ⟨.inr (.inr (.inl ⟨rfl, .inl ⟨kvs, h⟩⟩)), q⟩
theorem rd_popT {a b : Addr} {kvs : List (List Key × V)} {s : Int} {t : Str} (e : H a = some (.dT kvs)) (eb : H b = some (.tup [.int s, .str t])) (q1 : ∀ v, valV kvs [.inl s, .inr t] = some v → Q v (upd H a (.dT (dropK kvs [.inl s, .inr t])))) (q2 : valV kvs [.inl s, .inr t] = none → Q x H) :
    DX.rPopT (.ref a) [.ref b, x] H Q := ⟨a, kvs, [.inl s, .inr t], b, x, rfl, rfl, e, eb, q1, q2⟩
theorem valV_drop {κ : Type} [DecidableEq κ] (k j : κ) : ∀ kvs : List (κ × V), valV (dropK kvs k) j = if j = k then none else valV kvs j
  | [] => by
    by_cases h : j = k
    · rw [if_pos h]
      rfl
    · rw [if_neg h]
      rfl
  | p :: r => by
    have ih := valV_drop k j r
    by_cases e : p.1 = k
    · rw [dropK_pos e, ih]
      by_cases h : j = k
      · rw [if_pos h, if_pos h]
      · rw [if_neg h, if_neg h, valV_neg (fun z => h (z.symm.trans e))]
    · rw [dropK_neg e]
      by_cases h : p.1 = j
      · rw [valV_pos h, if_neg (fun z => e (h.trans z)), valV_pos h]
      · rw [valV_neg h, ih, valV_neg h]
theorem putK_le {κ : Type} [DecidableEq κ] (kvs : List (κ × V)) (k : κ) (v : V) : (putK kvs k v).length ≤ kvs.length + 1 := by
  unfold putK
  split
  · rw [List.length_map]
    omega
  · rw [List.length_append]
    exact Nat.le_refl _
theorem rd_cat {a b : Addr} {xs ys : List V} (h1 : H a = some (.lst xs)) (h2 : H b = some (.lst ys)) (l : xs.length + ys.length ≤ sizeLine) (q : ∀ p, H p = none → Q (.ref p) (upd H p (.lst (xs ++ ys)))) : rCat (.ref a) (.ref b) H Q := ⟨a, b, xs, ys, rfl, rfl, h1, h2, l, q⟩
/-! list(range(..)) -/
theorem rd_lstRg {t : L2.St → Hp → (Int → Int → Hp → Prop) → Prop} (h : t σ H fun a b H1 => RgOk a b ∧ ∀ q, H1 q = none → Q (.ref q) (upd H1 q (.lst (rgV a b)))) : tLstRg t σ H Q := h
theorem rd_rg1 {R : Int → Int → Hp → Prop} (h : ta σ H fun x H1 => ∃ n, x = V.int n ∧ R 0 n H1) : tRg1 ta σ H R := h
theorem rd_rg2 {R : Int → Int → Hp → Prop} (h : ta σ H fun x H1 => tb σ H1 fun y H2 => ∃ i j, x = V.int i ∧ y = V.int j ∧ R i j H2) : tRg2 ta tb σ H R := h
theorem rd_inX {R : Int → Prop} (h : R i) : ∃ n, V.int i = V.int n ∧ R n := ⟨i, rfl, h⟩
theorem rd_inX2 {R : Int → Int → Prop} (h : R i j) : ∃ n m, V.int i = V.int n ∧ V.int j = V.int m ∧ R n m := ⟨i, j, rfl, rfl, h⟩
theorem rgV_0 (n : Int) : rgV 0 n = ((List.range n.toNat).map fun (i : Nat) => (i : Int)).map V.int := by
  unfold rgV
  rw [List.map_map, Int.sub_zero]
  congr 1
  funext i
  show V.int (0 + (i : Int)) = V.int (i : Int)
  rw [Int.zero_add]
end

/-! ### dicts with int and text keys, slices, more -/
section
variable {K : PySem.W.Frag} {σ : L2.St} {H : Hp} {nx bk ct : L2.St → Hp → Prop} {rt : VK} {t : TS} {te ta tb tc : TE} {tt : TT} {ar : TA} {Q : VK} {QB : Bool → Hp → Prop} {v x y z : V} {i j : Int}
theorem rd_din (h : ta σ H fun y H1 => tb σ H1 fun x H2 => ∃ a o, x = V.ref a ∧ DGet H2 a y o ∧ Q (.bl o.isSome) H2) : tDIn ta tb σ H Q := h
theorem rd_dnotin (h : ta σ H fun y H1 => tb σ H1 fun x H2 => ∃ a o, x = V.ref a ∧ DGet H2 a y o ∧ Q (.bl (!o.isSome)) H2) : tDNotIn ta tb σ H Q := h
theorem rd_dget (h : ta σ H fun x H1 => tb σ H1 fun y H2 => ∃ a v, x = V.ref a ∧ DGet H2 a y (some v) ∧ Q v H2) : tDGet ta tb σ H Q := h
theorem rd_dget1 (h : ta σ H fun x H1 => ∃ a, x = V.ref a ∧ IsD H1 a ∧ tb σ H1 fun y H2 => ∃ o, DGet H2 a y o ∧ Q (o.getD .non) H2) : tDGet1 ta tb σ H Q := h
theorem rd_dinX {a : Addr} {o : Option V} {R : Option V → Prop} (d : DGet H a y o) (q : R o) : ∃ a' o', V.ref a = V.ref a' ∧ DGet H a' y o' ∧ R o' := ⟨a, o, rfl, d, q⟩
theorem rd_dgetX {a : Addr} {R : V → Prop} (d : DGet H a y (some v)) (q : R v) : ∃ a' v', V.ref a = V.ref a' ∧ DGet H a' y (some v') ∧ R v' := ⟨a, v, rfl, d, q⟩
theorem dg_i {a : Addr} {kvs : List (Key × V)} (e : H a = some (.dK kvs)) : DGet H a (.int i) (valV kvs (.inl i)) := DGet.k (k := .inl i) e
theorem dg_s {a : Addr} {kvs : List (Key × V)} {s : Str} (e : H a = some (.dK kvs)) : DGet H a (.str s) (valV kvs (.inr s)) := DGet.k (k := .inr s) e
theorem dg_iv {a : Addr} {kvs : List (Key × V)} (e : H a = some (.dK kvs)) (l : valV kvs (.inl i) = some v) : DGet H a (.int i) (some v) := l ▸ dg_i e
theorem dg_sv {a : Addr} {kvs : List (Key × V)} {s : Str} (e : H a = some (.dK kvs)) (l : valV kvs (.inr s) = some v) : DGet H a (.str s) (some v) := l ▸ dg_s e
theorem dp_i {a : Addr} {kvs : List (Key × V)} (e : H a = some (.dK kvs)) (l : kvs.length < sizeLine) : DPut H a (.int i) v (upd H a (.dK (putK kvs (.inl i) v))) := DPut.k (k := .inl i) e l
theorem dp_s {a : Addr} {kvs : List (Key × V)} {s : Str} (e : H a = some (.dK kvs)) (l : kvs.length < sizeLine) : DPut H a (.str s) v (upd H a (.dK (putK kvs (.inr s) v))) := DPut.k (k := .inr s) e l
theorem rd_disp {trs : List (TE × TE)} (h : ∀ p, H p = none → tPairs trs σ (upd H p (.dK [])) fun ps H2 => H2 p = some (.dK []) ∧ ∃ kvs : List (Key × V), ps = kvs.map (fun kv => (kV kv.1, kv.2)) ∧ kvs.length ≤ 15 ∧ Q (.ref p) (upd H2 p (.dK (mergeK [] kvs)))) : tDisp trs σ H Q := h
theorem rd_pnil {R : List (V × V) → Hp → Prop} (h : R [] H) : tPairs [] σ H R := h
theorem rd_pcons {trs : List (TE × TE)} {R : List (V × V) → Hp → Prop} (h : ta σ H fun x H1 => tb σ H1 fun y H2 => tPairs trs σ H2 fun ps H3 => R ((x, y) :: ps) H3) : tPairs ((ta, tb) :: trs) σ H R := h
theorem rd_sl {r : V → Option Int → Option Int → Hp → VK → Prop} {tl th : TO} (h : te σ H fun x H1 => tl σ H1 fun l H2 => th σ H2 fun u H3 => r x l u H3 Q) : tSl r te tl th σ H Q := h
theorem rd_part {R : Option Int → Hp → Prop} (h : te σ H fun x H1 => ∃ i, x = V.int i ∧ R (some i) H1) : tPart te σ H R := h
theorem rd_nopart {R : Option Int → Hp → Prop} (h : R none H) : tNoPart σ H R := h
theorem rd_slL {a : Addr} {xs : List V} {lo hi : Option Int} (h : SqL K H a xs) (q : ∀ p, H p = none → Q (.ref p) (upd H p (.lst (cutV xs lo hi)))) : rSlL K (.ref a) lo hi H Q := ⟨a, xs, rfl, h, q⟩
theorem cut_to {xs : List V} {k : Nat} : cutV xs none (some (k : Int)) = xs.take k := by
  unfold cutV
  rw [HT.sIx_none, HT.sIx_nat, List.drop_zero, Nat.sub_zero, List.take_eq_take_iff]
  omega
theorem cut_from {xs : List V} {k : Nat} : cutV xs (some (k : Int)) none = xs.drop k := by
  unfold cutV
  rw [HT.sIx_none, HT.sIx_nat]
  by_cases h : k ≤ xs.length
  · rw [Nat.min_eq_left h, List.take_of_length_le (by rw [List.length_drop]; exact Nat.le_refl _)]
  · rw [Nat.min_eq_right (by omega), Nat.sub_self, List.take_zero, List.drop_of_length_le (by omega)]
theorem cut_all {xs : List V} : cutV xs none none = xs := by
  unfold cutV
  rw [HT.sIx_none, HT.sIx_none, List.drop_zero, Nat.sub_zero, List.take_length]
theorem rd_popAt {a : Addr} {xs : List V} {k : Nat} (h : H a = some (.lst xs)) (b1 : -(2 ^ 63) ≤ i) (b2 : i < 2 ^ 63) (s : seqIndex? i xs.length = some k) (g : xs[k]? = some v) (q : Q v (upd H a (.lst (xs.eraseIdx k)))) : rPopAt (.ref a) [.int i] H Q := ⟨a, xs, i, k, v, rfl, rfl, h, b1, b2, s, g, q⟩
theorem rd_clear {a : Addr} {xs : List V} (h : H a = some (.lst xs)) (q : Q .non (upd H a (.lst []))) : rClear (.ref a) [] H Q := ⟨a, xs, rfl, rfl, h, q⟩
theorem rd_aug {n : Nat} {ti : TIp} (e : σ[n]? = some (some x)) (h : te σ H fun y H1 => ti x y H1 fun z H2 => nx (σ.set n (some z)) H2) : tAug n te ti ⟨nx, rt, bk, ct⟩ σ H := ⟨x, e, h⟩
theorem rd_ipI {f : Int → Int → Int} (h : Q (.int (f i j)) H) : ipI f (.int i) (.int j) H Q := ⟨i, j, rfl, rfl, h⟩
theorem rd_whileM (W : Nat → L2.St → Hp → Prop) (m : Nat) (h0 : W m σ H)
    (hs : ∀ m σ H, W m σ H → tt σ H fun b H1 => if b = true then ∃ N : L2.St → Hp → Prop, (∀ σ' H', N σ' H' → ∃ m', m' < m ∧ W m' σ' H') ∧ t ⟨N, rt, nx, N⟩ σ H1 else nx σ H1) : tWhile tt t ⟨nx, rt, bk, ct⟩ σ H := ⟨W, ⟨m, h0⟩, hs⟩
theorem inV_ints (a : Int) : ∀ ns : List Int, inV (.int a) (ns.map V.int) = decide (a ∈ ns)
  | [] => rfl
  | b :: r => by
    have ih := inV_ints a r
    unfold inV at ih ⊢
    rw [List.map_cons, List.any_cons, ih]
    show ((b == a) || decide (a ∈ r)) = decide (a ∈ b :: r)
    by_cases h : b = a
    · subst h
      simp
    · have h2 : (b == a) = false := beq_eq_false_iff_ne.mpr h
      rw [h2, Bool.false_or]
      simp [List.mem_cons, Ne.symm h]
theorem flat_ints : ∀ ns : List Int, (ns.map V.int).all flatV = true
  | [] => rfl
  | _ :: r => by
    rw [List.map_cons, List.all_cons, flat_ints r]
    rfl
theorem rd_inI {p : Addr} {ns : List Int} (h : SqL K H p (ns.map V.int)) (q : Q (.bl (decide (i ∈ ns))) H) : rIn K false (.int i) (.ref p) H Q := ⟨p, ns.map V.int, rfl, .inl h, rfl, flat_ints ns, by
  rw [inV_ints]
  exact q⟩
theorem rd_notInI {p : Addr} {ns : List Int} (h : SqL K H p (ns.map V.int)) (q : Q (.bl (!decide (i ∈ ns))) H) : rIn K true (.int i) (.ref p) H Q := ⟨p, ns.map V.int, rfl, .inl h, rfl, flat_ints ns, by
  rw [inV_ints]
  exact q⟩
def rLenD : List V → Hp → VK → Prop := fun xs H Q => ∃ a kvs, xs = [V.ref a] ∧ H a = some (.dK kvs) ∧ Q (.int kvs.length) H
theorem call_lenD' {X : Cx} : CallR X (.builtin "len") rLenD := call_lenD
theorem rd_lenD {a : Addr} {kvs : List (Key × V)} (h : H a = some (.dK kvs)) (q : Q (.int kvs.length) H) : rLenD [.ref a] H Q := ⟨a, kvs, rfl, h, q⟩
/-! enumerate -/
theorem rd_iEnum {R : It → Hp → Prop} (h : ar σ H fun vs H1 => ∃ a xs, vs = [V.ref a] ∧ SqL K H1 a xs ∧ R (Ite K a) H1) : iEnum K ar σ H R := h
theorem rd_iEnumX {p : Addr} {xs : List V} {R : Addr → Prop} (h : SqL K H p xs) (q : R p) : ∃ a xs, [V.ref p] = [V.ref a] ∧ SqL K H a xs ∧ R a := ⟨p, xs, rfl, h, q⟩
theorem forE_by {a : Addr} {g : TG} (xs : List V) (Pv : Nat → L2.St → Hp → Prop) (h0 : Pv 0 σ H) (hl : ∀ i σ H, i ≤ xs.length → Pv i σ H → SqL K H a xs)
    (hs : ∀ i x σ H T, xs[i]? = some x → Pv i σ H → H T = none → g (.ref T) σ (upd H T (.tup [.int (i : Nat), x])) fun σ2 H2 => t ⟨Pv (i + 1), rt, nx, Pv (i + 1)⟩ σ2 H2) (hd : ∀ σ H, Pv xs.length σ H → nx σ H) : ForG (Ite K a) g t ⟨nx, rt, bk, ct⟩ σ H := by
  refine ⟨fun i m σ H => m = xs.length - i ∧ i ≤ xs.length ∧ Pv i σ H, ⟨xs.length, by simp, Nat.zero_le _, h0⟩, ?_⟩
  rintro i m σ H ⟨rfl, hi, p⟩
  have q := hl i σ H hi p
  by_cases hlt : i < xs.length
  · refine .inr ⟨⟨xs, xs[i], q, by simp [hlt]⟩, Pv (i + 1), fun σ' H' p' => ⟨xs.length - (i + 1), by omega, rfl, hlt, p'⟩, fun x H' y => ?_⟩
    obtain ⟨T, z, rfl, nT, rfl, hz⟩ := y
    exact hs i z σ H T (hz xs q) p nT
  · have e : i = xs.length := by omega
    subst e
    exact .inl ⟨⟨xs, q, Nat.le_refl _⟩, hd σ H p⟩
/-! == of equal data, of int lists -/
theorem dp_ints : ∀ ns : List Int, DpAll K H (ns.map V.int) (ns.map PyData.int)
  | [] => .nil
  | x :: r => .cons (.int x) (dp_ints r)
theorem lay_ints : ∀ ns : List Int, PyData.canLayAll0 (ns.map PyData.int) = true
  | [] => by simp only [List.map_nil, PyData.canLayAll0]
  | x :: r => by simp only [List.map_cons, PyData.canLayAll0, PyData.canLay0, lay_ints r, Bool.and_self]
theorem depth_ints : ∀ ns : List Int, PyData.depthAll (ns.map PyData.int) ≤ 1
  | [] => by simp [PyData.depthAll]
  | x :: r => by
    have := depth_ints r
    simp only [List.map_cons, PyData.depthAll, PyData.depth]
    omega
theorem shaped_ints (ns : List Int) : SeqAt.shaped (.list (ns.map PyData.int)) = true :=
  Bool.and_eq_true_iff.mpr ⟨by simp only [PyData.canLay0, lay_ints], decide_eq_true (by
    have h := depth_ints ns
    simp only [PyData.depth]
    omega)⟩
theorem eqv_ints : ∀ ns ms : List Int, PyData.eqvAll (ns.map PyData.int) (ms.map PyData.int) = decide (ns = ms)
  | [], [] => by simp [PyData.eqvAll]
  | [], y :: m => by simp [PyData.eqvAll]
  | x :: r, [] => by simp [PyData.eqvAll]
  | x :: r, y :: m => by
    have ih := eqv_ints r m
    simp only [List.map_cons, PyData.eqvAll, PyData.eqv, ih]
    by_cases h : x = y
    · subst h
      simp
    · simp [h]
theorem rd_eqLI {p q : Addr} {ns ms : List Int} (h1 : SqL K H p (ns.map V.int)) (h2 : SqL K H q (ms.map V.int)) (k : Q (.bl (decide (ns = ms))) H) : rEqD K (.ref p) (.ref q) H Q :=
  ⟨.list (ns.map PyData.int), .list (ms.map PyData.int), .lst h1 (dp_ints ns), .lst h2 (dp_ints ms), shaped_ints ns, shaped_ints ms, by
    simp only [PyData.eqv, eqv_ints]
    exact k⟩
theorem rd_neLI {p q : Addr} {ns ms : List Int} (h1 : SqL K H p (ns.map V.int)) (h2 : SqL K H q (ms.map V.int)) (k : Q (.bl (!decide (ns = ms))) H) : rNeD K (.ref p) (.ref q) H Q :=
  ⟨.list (ns.map PyData.int), .list (ms.map PyData.int), .lst h1 (dp_ints ns), .lst h2 (dp_ints ms), shaped_ints ns, shaped_ints ms, by
    simp only [PyData.eqv, eqv_ints]
    exact k⟩
end

/-! ### the same rules with the written part named (within comprehensions) -/
section
variable {X : L2.Cx} {K : PySem.W.Frag}
theorem call_listOfK (h : X.K = K) : CallR X (.type "list") (rListOf K) := h ▸ call_listOf
theorem call_lenSK (h : X.K = K) : CallR X (.builtin "len") (rLenS K) := h ▸ call_lenS
theorem ix_listK (h : X.K = K) : IxR X (rIxL K) := h ▸ ix_list
theorem ix_tupK (h : X.K = K) : IxR X (rIxT K) := h ▸ ix_tup
theorem op_in_seqK (h : X.K = K) : OpR X (compareOp .In) (rIn K false) := h ▸ op_in_seq
theorem op_notIn_seqK (h : X.K = K) : OpR X (compareOp .NotIn) (rIn K true) := h ▸ op_notIn_seq
theorem call_isiK2 (h : X.K = K) : CallR X (.builtin "isinstance") (rIsi K) := h ▸ call_isi
theorem pe_fldK {e : Expr} {f : Str} {pos : Pos} {ta : TE} (h : X.K = K) (he : PE X e ta) (hb : attributeBase e f X.env (eval e X.env) = eval e X.env) : PE X (.Attribute e f pos) (tFld K ta f) := h ▸ pe_fld he hb
end
end RD

/-! own layer: sorted(xs, key=f) where f's calls keep the invariant (behind RD) -/
namespace RD
open PySem PySem.Spec PyProof.Rows L2 PySem.W
section
variable {X : Cx} {pins pf : List (Addr × Obj)} {σ : L2.St} {H : Hp} {s : Shared}
/-- what a key's call does -/
def KeyTurn (X : Cx) (A : Around) (σ : L2.St) (H : Hp) (pf : List (Addr × Obj)) (f : Value) (xs : List V) (key : V → Int) : Prop :=
  ∀ (pl : List (Addr × Obj)) (s1 : Shared) (H1 : Hp) (v : V) (u : Value), Inv X (pf ++ pl) σ H1 s1 → Kp [] H H1 → v ∈ xs → RelV v u →
    wpAny (model X.prog X.w) A (call f [u]) (fun z s2 => ∃ H2 t, Inv X (pf ++ pl) σ H2 s2 ∧ Kp [] H1 H2 ∧ z = .int (key v) t) (fun _ _ => False) s1
/-- what stands of an address of ours, whatever runs -/
def Own (X : Cx) (pn : List (Addr × Obj)) (b : Addr) : Prop :=
  b ≠ X.env.locals ∧ b ∉ X.fs ∧ (b ∈ X.ex ∨ X.s_0.heap.objs.size ≤ b) ∧ (∀ x c, X.env.cells.lookup x = some c → c ≠ b) ∧ ∀ p ∈ X.pn ++ pn, p.1 ≠ b
theorem Own.fresh {b : Addr} (I : Inv X pins σ H s) (hb : s.heap.objs.size ≤ b) : Own X pins b := by
  have q := I.fpOk (H' := H) hb (I.hok.fresh hb)
  exact ⟨q.2.1, q.2.2.1, q.2.2.2.1, q.2.2.2.2.1, q.2.2.2.2.2⟩
theorem Own.less {pn pm : List (Addr × Obj)} {b : Addr} (o : Own X pn b) (h : ∀ p, p ∈ pm → p ∈ pn) : Own X pm b :=
  ⟨o.1, o.2.1, o.2.2.1, o.2.2.2.1, fun p hp => o.2.2.2.2 p ((List.mem_append.mp hp).elim (fun z => List.mem_append_left _ z) fun z => List.mem_append_right _ (h p z))⟩
theorem inv_pin {b : Addr} {o : Obj} {pn : List (Addr × Obj)} (I : Inv X (pf ++ pn) σ H s) (w : Own X (pf ++ pn) b) (hn : H b = none) (e : s.heap.get? b = some o) (hc : ∀ v, o.data ≠ .cell v) : Inv X (pf ++ ((b, o) :: pn)) σ H s :=
  I.pins_of fun p hp => by
    rcases List.mem_append.mp hp with z | z
    · exact I.pin p (List.mem_append_right _ (List.mem_append_left _ z))
    · rcases List.mem_cons.mp z with z | z
      · rw [z]
        exact ⟨e, hn, w.1, w.2.1, hc⟩
      · exact I.pin p (List.mem_append_right _ (List.mem_append_right _ z))
theorem inv_unpin {q : Addr × Obj} {pn : List (Addr × Obj)} (I : Inv X (pf ++ (q :: pn)) σ H s) : Inv X (pf ++ pn) σ H s :=
  I.pins_of fun p hp => by
    rcases List.mem_append.mp hp with z | z
    · exact I.pin p (List.mem_append_right _ (List.mem_append_left _ z))
    · exact I.pin p (List.mem_append_right _ (List.mem_append_right _ (List.mem_cons_of_mem _ z)))
theorem inv_head {q : Addr × Obj} {pn : List (Addr × Obj)} (I : Inv X (pf ++ (q :: pn)) σ H s) : s.heap.get? q.1 = some q.2 ∧ H q.1 = none :=
  have z := I.pin q (List.mem_append_right _ (List.mem_append_right _ (.head _)))
  ⟨z.1, z.2.1⟩
/-- the object at b turns -/
theorem inv_turn {b : Addr} {pn : List (Addr × Obj)} {h' : Heap} {t' : Nat} (I : Inv X pn σ H s) (w : Own X pn b) (hn : H b = none) (k : ∀ c o, c ≠ b → s.heap.get? c = some o → h'.get? c = some o) : Inv X pn σ H { s with heap := h', toks := t' } :=
  I.turned k hn w.1 w.2.2.1 w.2.2.2.1 w.2.2.2.2
theorem ints_snoc {vs : List Value} {ns : List Int} {n : Int} {t : Tok} (h : IntsAre vs ns) : IntsAre (vs ++ [.int n t]) (ns ++ [n]) := by
  induction h with
  | nil => exact .cons n t .nil
  | cons m u _ ih => exact .cons m u ih
theorem each_ints {h : Heap} {vs : List Value} {ns : List Int} (e : IntsAre vs ns) : EachIs (fun v d => ∃ as, Reads h v d as) vs (ns.map PyData.int) := by
  induction e with
  | nil => exact .nil
  | cons n t _ ih => exact .cons ⟨[], .int n t⟩ ih
theorem each_vals {xs : List V} {us : List Value} (r : Vals xs us) : EachIs (fun u v => RelV v u) us xs := by
  induction r with
  | nil => exact .nil
  | cons a _ ih => exact .cons a ih
theorem vals_each {xs : List V} {us : List Value} (r : EachIs (fun u v => RelV v u) us xs) : Vals xs us := by
  induction r with
  | nil => exact .nil
  | cons a _ ih => exact .cons a ih
/-- a heap without the object at b -/
def gone (h : Heap) (b : Addr) : Heap := h.update b fun _ => { cls := .none, data := .freed }
theorem gone_at {h : Heap} {b : Addr} {o : Obj} (e : h.get? b = some o) : (gone h b).get? b = none := by
  cases q : (gone h b).get? b with
  | none => rfl
  | some u =>
    exfalso
    obtain ⟨e1, _⟩ := Heap.get?_some_iff.mp e
    obtain ⟨e2, e3⟩ := Heap.get?_some_iff.mp q
    have e4 : (gone h b).objs[b]? = some { cls := .none, data := .freed } := by
      unfold gone
      rw [Heap.objs_update_self, e1]
      rfl
    rw [e4] at e2
    cases e2
    cases e3
theorem gone_ne {h : Heap} {b c : Addr} (n : c ≠ b) : (gone h b).get? c = h.get? c := (Heap.SameBut.update h b _).2 c n
theorem key_end {A : Around} {key : V → Int} {xs : List V} {vs : List Value} {a kS : Addr} {kA : Array Value} {e e1 : Nat} {P : PySem.Fin → Shared → Prop} {E : Value → Shared → Prop} (I : Inv X (pf ++ ((kS, seqObj "list" kA e) :: (a, seqObj "list" #[] e1) :: pins)) σ H s)
    (wk : Own X (pf ++ ((a, seqObj "list" #[] e1) :: pins)) kS) (wa : Own X (pf ++ pins) a) (r : Vals xs vs) (hZ : vs.length ≤ sizeLine) (hu : A.units < cLine) (hk : IntsAre kA.toList (xs.map key))
    (h : ∀ s' out c, Inv X (pf ++ pins) σ H s' → s'.heap.get? a = some (seqObj "list" (List.toArray out) c) → Vals (xs.mergeSort fun p q => decide (key p ≤ key q)) out → P (.done (.ret .none)) s') :
    wpAny (model X.prog X.w) A (ksk_end a false vs.toArray e1 (.ref kS) kA) P E s := by
  have nk := inv_head I
  have na := inv_head (inv_unpin I)
  have hka : kS ≠ a := Ne.symm (wk.2.2.2.2 (a, seqObj "list" #[] e1) (List.mem_append_right _ (List.mem_append_right _ (.head _))))
  have hl : kA.size = vs.length := by
    have h1 := hk.length
    rw [Array.length_toList, List.length_map] at h1
    rw [h1]
    exact r.length
  have hE := each_ints (h := s.heap) hk
  have hkz : (xs.map key).map PyData.int = xs.map (fun v => PyData.int (key v)) := by rw [List.map_map]; rfl
  have hal : AllAlike (xs.map fun v => PyData.int (key v)) := AllAlike.of fun _ _ => by simp [alike]
  have hsk : Sortable (xs.map fun v => PyData.int (key v)) := Sortable.others fun _ => ⟨(fun z => by cases z), (fun _ z => by cases z)⟩
  rw [hkz] at hE
  refine keyH_end (κ := dataKind s.heap (xs.map fun v => PyData.int (key v))) (h₁ := gone s.heap kS) (fun b o hb q => ?_) (gone_at nk.1) nk.1 na.1 hka (SortsAt.data hE hal hsk fun d hd => ?_) hl hZ fun h' tk c kp hc => ?_
  · by_cases hbk : b = kS
    · rw [hbk, gone_at nk.1] at q
      cases q
    · rw [gone_ne hbk] at q
      exact q
  · obtain ⟨v, _, e⟩ := List.mem_map.mp hd
    rw [← e]
    simpa [PyData.depth] using hu
  · have I1 : Inv X (pf ++ ((a, seqObj "list" #[] e1) :: pins)) σ H { s with heap := gone s.heap kS, toks := s.toks } := inv_turn (inv_unpin I) wk nk.2 fun b o hb q => by
      rw [gone_ne hb]
      exact q
    have I2 : Inv X (pf ++ pins) σ H { s with heap := h', toks := tk } := inv_turn (s := { s with heap := gone s.heap kS, toks := s.toks }) (inv_unpin I1) wa na.2 fun b o hb q => kp b o hb q
    have ko : KeyedOut false (xs.map fun v => PyData.int (key v)) vs (sortVals (dataKind s.heap (xs.map fun v => PyData.int (key v))) false kA.toList vs) := ⟨s.heap, kA.toList, hal, rfl, hE⟩
    have eo := keyedOut_each (fun v => PyData.int (key v)) ko (each_vals r)
    rw [dataLe_int key] at eo
    exact h _ _ c I2 hc (vals_each eo)
/-- the keys' loop -/
theorem key_rest {A : Around} {f : Value} {key : V → Int} {xs : List V} {vs : List Value} {a kS : Addr} {e1 : Nat} {P : PySem.Fin → Shared → Prop} {E : Value → Shared → Prop} (T : KeyTurn X A σ H pf f xs key)
    (I : Inv X (pf ++ ((kS, seqObj "list" #[] 0) :: (a, seqObj "list" #[] e1) :: pins)) σ H s) (wk : Own X (pf ++ ((a, seqObj "list" #[] e1) :: pins)) kS) (wa : Own X (pf ++ pins) a) (r : Vals xs vs) (hZ : vs.length ≤ sizeLine) (hu : A.units < cLine)
    (h : ∀ H' s' out c, Inv X (pf ++ pins) σ H' s' → Kp [] H H' → H' a = none → s'.heap.get? a = some (seqObj "list" (List.toArray out) c) → Vals (xs.mergeSort fun p q => decide (key p ≤ key q)) out → P (.done (.ret .none)) s') :
    wpAny (model X.prog X.w) A (ksk_rest a f false vs.toArray e1 (.ref kS)) P E s := by
  unfold ksk_rest
  refine wpAny_bind (wpAny_rule ?_)
  rw [List.forIn_toArray]
  refine wpAny_bind (ksk_fold (fun i s' => ∃ H1 kA e, Inv X (pf ++ ((kS, seqObj "list" kA e) :: (a, seqObj "list" #[] e1) :: pins)) σ H1 s' ∧ Kp [] H H1 ∧ IntsAre kA.toList ((xs.take i).map key)) vs 0 s ⟨H, #[], 0, I, Kp.refl, .nil⟩ ?step ?done)
  case step =>
    rintro j u s' hx ⟨H1, kA, e, I1, k1, hk⟩
    rw [Nat.zero_add] at hk ⊢
    obtain ⟨hj, _⟩ := List.getElem?_eq_some_iff.mp hx
    obtain ⟨v, hv⟩ : ∃ v, xs[j]? = some v := ⟨_, List.getElem?_eq_getElem (by rw [r.length]; exact hj)⟩
    obtain ⟨u', hu', rv⟩ := Vals.get r hv
    rw [hx] at hu'
    cases hu'
    have hz : kA.size ≤ vs.length := by
      have h1 := hk.length
      rw [Array.length_toList, List.length_map, List.length_take] at h1
      omega
    refine wpAny_bind (wpAny_attempt (wpAny_mono (T _ s' H1 v u I1 k1 (List.mem_of_getElem? hv) rv) (fun z s2 he => ?_) fun _ _ hF => hF.elim))
    obtain ⟨H2, t, I2, k2, rfl⟩ := he
    have nk := inv_head I2
    obtain ⟨c2, hc2⟩ : ∃ c2, (s2.heap.update kS (Obj.mapSeq (·.push (.int (key v) t)))).get? kS = some (seqObj "list" (kA.push (.int (key v) t)) c2) := ⟨_, get?_update_seq nk.1 (·.push (.int (key v) t))⟩
    refine wpAny_bind (listUpdate_at nk.1 rfl ?_ (Nat.le_trans hz hZ) (Nat.le_trans (Nat.le_of_eq (Array.size_push ..)) (Nat.succ_le_succ (Nat.le_trans hz hZ))))
    have I3 : Inv X (pf ++ ((a, seqObj "list" #[] e1) :: pins)) σ H2 { s2 with heap := s2.heap.update kS (Obj.mapSeq (·.push (.int (key v) t))), toks := s2.toks } :=
      inv_turn (inv_unpin I2) wk nk.2 fun b o hb q => ((Heap.SameBut.update s2.heap kS _).2 b hb).trans q
    refine wpAny_pure ⟨rfl, H2, kA.push (.int (key v) t), c2, inv_pin I3 wk nk.2 hc2 (fun _ z => by cases z), k1.trans k2, ?_⟩
    rw [Array.toList_push, List.take_add_one, hv, List.map_append]
    exact ints_snoc hk
  case done =>
    rintro s' ⟨H1, kA, e, I1, k1, hk⟩
    rw [Nat.zero_add, ← r.length, List.take_length] at hk
    refine wpAny_bind (listItems_at (inv_head I1).1 rfl ?_)
    exact key_end (key := key) I1 wk wa r hZ hu hk fun s2 out c I2 hc ho => h H1 s2 out c I2 k1 (inv_head (inv_unpin I1)).2 hc ho
/-- xs.sort(key=f) of a list that nobody knows -/
theorem key_tree {A : Around} {f : Value} {key : V → Int} {xs : List V} {vs : List Value} {a : Addr} {n : Nat} {P : PySem.Fin → Shared → Prop} {E : Value → Shared → Prop} (T : KeyTurn X A σ H pf f xs key)
    (I : Inv X (pf ++ pins) σ H s) (wa : Own X (pf ++ pins) a) (na : H a = none) (ho : s.heap.get? a = some (seqObj "list" vs.toArray n)) (r : Vals xs vs) (hZ : vs.length ≤ sizeLine) (hu : A.units < cLine)
    (h : ∀ H' s' out c, Inv X (pf ++ pins) σ H' s' → Kp [] H H' → H' a = none → s'.heap.get? a = some (seqObj "list" (List.toArray out) c) → Vals (xs.mergeSort fun p q => decide (key p ≤ key q)) out → P (.done (.ret .none)) s') :
    wpAny (model X.prog X.w) A (ksk_tree a f false) P E s := by
  obtain ⟨e1, ho1⟩ : ∃ e1, (s.heap.update a (Obj.mapSeq fun _ => (#[] : Array Value))).get? a = some (seqObj "list" #[] e1) := ⟨_, get?_update_seq ho fun _ => #[]⟩
  have I1 : Inv X (pf ++ pins) σ H { s with heap := s.heap.update a (Obj.mapSeq fun _ => (#[] : Array Value)), toks := s.toks } := inv_turn I wa na fun b o hb q => ((Heap.SameBut.update s.heap a _).2 b hb).trans q
  have I2 := inv_pin I1 wa na ho1 (fun _ z => by cases z)
  have I3 : Inv X (pf ++ ((a, seqObj "list" #[] e1) :: pins)) σ H { s with heap := (s.heap.update a (Obj.mapSeq fun _ => (#[] : Array Value))).push (seqObj "tuple" vs.toArray 0), toks := s.toks } := I2.kept fun b o q => Heap.get?_push_of_some _ q
  have wk := Own.fresh I3 (Nat.le_refl _)
  have nk := I3.hok.fresh (Nat.le_refl _)
  have I4 : Inv X (pf ++ ((a, seqObj "list" #[] e1) :: pins)) σ H { s with heap := ((s.heap.update a (Obj.mapSeq fun _ => (#[] : Array Value))).push (seqObj "tuple" vs.toArray 0)).push (seqObj "list" #[] 0), toks := s.toks } := I3.kept fun b o q => Heap.get?_push_of_some _ q
  unfold ksk_tree
  refine wpAny_bind (listItems_at ho rfl ?_)
  refine wpAny_bind (listUpdate_at ho rfl ?_ (by rw [List.size_toArray]; exact hZ) (Nat.zero_le _))
  refine wpAny_bind (seqEpoch_at ho1 rfl ?_)
  refine wpAny_bind (wpAny_newTuple ?_ (by show vs.length ≤ _; exact hZ))
  refine wpAny_bind (wpAny_newList ?_ (Nat.zero_le _))
  refine wpAny_holding ?_
  exact key_rest T (inv_pin I4 wk nk (Heap.get?_push_size _ rfl) (fun _ z => by cases z)) wk wa r hZ hu h
/-- an object of ours becomes known -/
theorem inv_track {a : Addr} {o : HO} {pn : List (Addr × Obj)} (I : Inv X pn σ H s) (w : Own X pn a) (hn : H a = none) (ok : ObjOk X.prog X.w (upd H a o) s.heap a o) : Inv X pn σ (upd H a o) s := by
  have ne : ∀ b u, H b = some u → b ≠ a := fun b u e z => by
    rw [z, hn] at e
    cases e
  have up : ∀ b u, H b = some u → upd H a o b = some u := fun b u e => by rw [upd_ne (ne b u e)]; exact e
  exact I.step (h' := s.heap) (g' := s.gens) (d' := s.drawn) (t' := s.toks) (ch := [a]) (fun b hb => by
      rw [List.mem_singleton.mp hb]
      exact ⟨w.2.2.1, w.1, w.2.2.2.1, w.2.2.2.2⟩)
    (fun b u _ _ _ e _ => e) (fun b u _ _ _ e _ => ⟨u.slots, e⟩) (fun b u hb _ n => by
      rw [upd_ne (fun z => hb (List.mem_singleton.mpr z))]
      exact n)
    (fun b u _ e => ⟨u, e⟩) (fun b xs e => up b _ e) (fun b u v e => up b _ e) (fun b ps e => ⟨#[], by rw [up b _ e]; simp⟩) (fun m hm => hm)
    (fun b u e => by
      by_cases hb : b = a
      · rw [hb, upd_same] at e
        cases e
        rw [hb]
        exact ok
      · rw [upd_ne hb] at e
        exact (I.hok b u e).stay (fun c v _ q => q) (fun c q => up c _ q) fun c xs q => up c _ q) I.bare
/-- sorted(xs, key=f) -/
theorem sorted_key {f : Addr} {key : V → Int} {xs : List V} {l : Addr} {Q : VK} (T : KeyTurn X X.A.in1.in1 σ H pf (.ref f) xs key) (I : Inv X (pf ++ pins) σ H s) (hs : SqL X.K H l xs) (hu : X.A.units + 2 < cLine)
    (h : ∀ H' p, Kp [] H H' → H' p = none → Q (.ref p) (upd H' p (.lst (xs.mergeSort fun a b => decide (key a ≤ key b))))) :
    wpAny (model X.prog X.w) X.A (call (.builtin "sorted") [.ref l] [(Str.ofString "key", .ref f)]) (EP X (pf ++ pins) σ Q) X.xe s := by
  obtain ⟨its, rv, hl, hz⟩ := I.list hs
  have wa := Own.fresh I (b := s.heap.objs.size + 1) (Nat.le_succ _)
  have na : H (s.heap.objs.size + 1) = none := I.hok.fresh (Nat.le_succ _)
  refine sorted_of_sort hl.isList (by rw [← rv.length]; exact hz) (ksk_s1 _ _) (fun _ => ksk_l1 _ _) fun E' => ?_
  rw [ksk_t1]
  have I1 : Inv X (pf ++ pins) σ H { s with heap := copyHeap s.heap its, toks := s.toks } := I.kept fun b o q => copyHeap_old q
  refine key_tree (s := { s with heap := copyHeap s.heap its }) T I1 wa na (copyHeap_at s.heap its) rv (by rw [← rv.length]; exact hz) hu fun H' s' out c I2 k2 n2 hc ro => ⟨rfl, ?_⟩
  have hlen : (xs.mergeSort fun a b => decide (key a ≤ key b)).length ≤ sizeLine := by
    rw [List.length_mergeSort]
    exact hz
  exact ⟨.ref _, _, inv_track (o := .lst (xs.mergeSort fun a b => decide (key a ≤ key b))) I2 wa n2 ⟨hlen, out, c, ro, hc⟩, rfl, h H' _ k2 n2⟩
end
/-! ### a lambda with one parameter -/
structure Lam1 (sc scope : Scope) (p : Str) : Prop where
  kind : scope.kind = .function
  co : scope.isCoroutine = false
  gen : scope.isGenerator = false
  own : ∀ y ∈ scope.names, y.2 ≠ .cell
  par : scope.names.lookup p = some .local
  loc : ∀ {y}, y ≠ p → scope.names.lookup y ≠ some .local
  free : ∀ y ∈ scope.names, y.2 = .free → sc.names.lookup y.1 = some .cell ∨ sc.names.lookup y.1 = some .free
def lam1B (sc scope : Scope) (p : Str) : Bool :=
  decide (scope.kind = .function) && !scope.isCoroutine && !scope.isGenerator && decide (scope.names.lookup p = some .local) && scope.names.all fun y => !decide (y.2 = .cell) && (!decide (y.2 = .local) || decide (y.1 = p)) && (!decide (y.2 = .free) || decide (sc.names.lookup y.1 = some .cell) || decide (sc.names.lookup y.1 = some .free))
theorem lam1_by {sc scope : Scope} {p : Str} (h : lam1B sc scope p = true) : Lam1 sc scope p := by
  unfold lam1B at h
  simp only [Bool.and_eq_true, Bool.or_eq_true, Bool.not_eq_true', decide_eq_true_eq, decide_eq_false_iff_not, List.all_eq_true] at h
  obtain ⟨⟨⟨⟨h1, h2⟩, h3⟩, h5⟩, h4⟩ := h
  refine ⟨h1, h2, h3, fun y hy => (h4 y hy).1.1, h5, fun {y} n e => ?_, fun y hy e => ?_⟩
  · rcases (h4 _ (PySem.mem_of_lookup e)).1.2 with z | z
    · exact z rfl
    · exact n z
  rcases (h4 y hy).2 with (z | z) | z
  · exact absurd e z
  · exact .inl z
  · exact .inr z
theorem Lam1.has {X : Cx} {scope : Scope} {p : Str} (L : Lam1 X.env.scope scope p) (ok : X.Ok) : ∀ y ∈ scope.names, y.2 = .free → ∃ c, X.env.cells.lookup y.1 = some c := fun y hy e => by
  rcases L.free y hy e with k | k
  · exact ok.has _ (.inl k)
  · exact ok.has _ (.inr k)
/-- the context of the lambda's body -/
def lam1Cx (X : Cx) (A : Around) (s : Shared) (H : Hp) (N : List Str) (scope : Scope) (f c' : Addr) : Cx where
  prog := X.prog
  w := X.w
  K := X.K
  mg := X.mg
  base := X.base
  A := A.deeper (LamX.lamEnv X scope s.heap.objs.size f c')
  N := N
  s_0 := s
  H_0 := H
  env := LamX.lamEnv X scope s.heap.objs.size f c'
  outer := X.stack
  stack := LamX.lamEnv X scope s.heap.objs.size f c' :: X.stack
  ex := []
  fn := fun _ => false
  calm := true
  pn := []
  xe := fun _ _ => False
section
variable {X : Cx} {pins : List (Addr × Obj)} {σ σ' : L2.St} {H : Hp} {s : Shared}
/-- each name of the body that has a value: the parameter, or a name of the maker -/
def Caps (X : Cx) (σ : L2.St) (N : List Str) (σ' : L2.St) (p : Str) (v : V) : Prop :=
  σ'.length = N.length ∧ ∀ (i : Nat) (y : Str) (x : V), N[i]? = some y → σ'[i]? = some (some x) → (y = p ∧ x = v) ∨ (y ≠ p ∧ ∃ j : Nat, X.N[j]? = some y ∧ σ[j]? = some (some x))
theorem lam1_start {A : Around} {N : List Str} {scope : Scope} {p : Str} {v : V} {u : Value} {f c' : Addr} {h₁ : Heap} {tk : Nat} (I : Inv X pins σ H s) (L : Lam1 X.env.scope scope p) (hfr : A.frames = some X.stack) (hd : A.handled = none) (C : Caps X σ N σ' p v) (r : RelV v u)
    (hns : h₁.Ns s.heap.objs.size fun y => [(p, u)].reverse.lookup y) (kp : ∀ b o, s.heap.get? b = some o → h₁.get? b = some o) :
    Inv (lam1Cx X A s H N scope f c') [] σ' H { s with heap := h₁, toks := tk } := by
  have e0 := I.env0
  have hfree := L.has I.ok
  have cm : ∀ {y c}, (cloFrom X.env.cells scope.names []).lookup y = some c → X.env.cells.lookup y = some c := fun {y c} e => by
    rcases cloFrom_mem (PySem.mem_of_lookup e) with hm | ⟨h1, h2⟩
    · cases hm
    · obtain ⟨c1, hc⟩ := hfree _ h1 rfl
      have hc : X.env.cells.lookup y = some c1 := hc
      have e2 : c = c1 := by rw [h2, hc] <;> rfl
      rw [e2]
      exact hc
  have look : ∀ {y}, scope.names.lookup y = some .free → ∃ c, (cloFrom X.env.cells scope.names []).lookup y = some c := fun {y} hl =>
    mem_lookup (cloFrom_has (cells := X.env.cells) (acc := []) (PySem.mem_of_lookup hl))
  have cellK : ∀ {c : Addr} {z : Option Value}, s.heap.IsCell c z → h₁.IsCell c z := fun {c z} ⟨o, ho, hd⟩ => ⟨o, kp _ _ ho, hd⟩
  have noA : ∀ b : Addr, b ∉ (lam1Cx X A s H N scope f c').ex := fun b z => by cases z
  constructor
  case ok =>
    constructor
    case mod => exact e0.mod
    case kind => exact L.kind
    case glob => exact rfl
    case blt => exact rfl
    case above => exact Nat.le_refl _
    case inj => exact fun y z c e1 e2 => I.ok.inj y z c (cm e1) (cm e2)
    case has =>
      intro y hy
      have hy : scope.names.lookup y = some .cell ∨ scope.names.lookup y = some .free := hy
      rcases hy with hy | hy
      · exact absurd rfl (L.own _ (PySem.mem_of_lookup hy))
      · exact look hy
    case cab =>
      intro y c z _
      have z : false = true := z
      cases z
    case hd => exact fun _ => hd
    case frames => exact Around.frames_deeper hfr
    case stk => exact .inr ⟨rfl, rfl⟩
    case exf => exact fun b z => absurd z (noA b)
    case bs => exact e0.bs
    case bsz => exact e0.bsz
    case noex => exact fun b _ _ => noA b
    case exfs => exact fun b z => absurd z (noA b)
    case funs => exact e0.funs
    case frf => exact e0.frf
  case os => exact rfl
  case bare => exact e0.bare
  case base => exact Un.kept kp
  case loc =>
    refine ⟨_, hns, fun i y x e1 e2 e3 => ?_⟩
    rcases C.2 i y x e1 e2 with ⟨ey, ex⟩ | ⟨ny, j, j1, j2⟩
    · rw [ey, ex]
      exact ⟨u, r, .inl ⟨L.par, by simp⟩⟩
    · have e3 : Vis scope y := e3
      rcases e3 with k | k | k
      · exact absurd k (L.loc ny)
      · exact absurd rfl (L.own _ (PySem.mem_of_lookup k))
      · obtain ⟨m, hn, hl⟩ := I.loc
        have hvis : Vis X.env.scope y := (L.free _ (PySem.mem_of_lookup k) rfl).elim (fun k => .inr (.inl k)) (fun k => .inr (.inr k))
        obtain ⟨w', r', q⟩ := hl j y x j1 j2 hvis
        obtain ⟨c2, h2⟩ := look k
        refine ⟨w', r', .inr ⟨.inr k, c2, h2, ?_⟩⟩
        have c1 := cm h2
        rcases q with ⟨k', _⟩ | ⟨_, c3, e', z⟩
        · have k' : X.env.scope.names.lookup y = some .local := k'
          rcases L.free _ (PySem.mem_of_lookup k) rfl with k2 | k2 <;> rw [show X.env.scope.names.lookup y = _ from k2] at k' <;> cases k'
        · rw [c1] at e'
          cases e'
          exact cellK z
  case cell =>
    intro y c e
    obtain ⟨w', z⟩ := I.cell y c (cm e)
    exact ⟨w', cellK z⟩
  case free => exact e0.hok.fresh (Nat.le_refl _)
  case freeC => exact fun y c e => I.freeC y c (cm e)
  case pin => exact fun q hq => absurd (show q ∈ ([] : List (Addr × Obj)) ++ [] from hq) (by simp)
  case hok => exact e0.hok.kept kp
  case len => exact C.1
/-- the lambda as a key -/
theorem lam1_turn {A : Around} {k : Nat} {N : List Str} {scope : Scope} {p : Str} {f c' : Addr} {params : Arguments} {body : Expr} {pm ctv : Value} {xs : List V} {key : V → Int} {τ : V → L2.St} (L : Lam1 X.env.scope scope p) (hc : H c' = some (LamX.CodeO c' (X.env.qual ++ "<lambda>")))
    (hA : A.frames = some X.stack) (hr : Room (k + 1) A) (hbind : ∀ u, bindArgs (PySem.W.kla_fn "<lambda>" (X.env.qual ++ "<lambda>") params body scope (cloFrom X.env.cells scope.names []) pm (.ref c') ctv) ⟨[u], []⟩ = pure [(p, u)])
    (hC : ∀ v, v ∈ xs → Caps X σ N (τ v) p v)
    (hbody : ∀ (s : Shared) (H1 : Hp) (v : V), v ∈ xs → Kp [] H H1 → Room k (A.deeper (LamX.lamEnv X scope s.heap.objs.size f c')) → ∃ tb, PE (lam1Cx X A s H1 N scope f c') body tb ∧ tb (τ v) H1 fun x H2 => x = .int (key v) ∧ Kp [] H1 H2) :
    KeyTurn X A σ H [(f, PySem.W.kla_obj "<lambda>" (X.env.qual ++ "<lambda>") params body scope (cloFrom X.env.cells scope.names []) pm c' ctv)] (.ref f) xs key := by
  intro pl s1 H1 v u I1 k1 hv r
  have hf := (I1.pin _ (List.mem_append_right _ (List.mem_append_left _ (.head _)))).1
  obtain ⟨⟨oc, vs, t, hoc, hdc, hvc⟩, _, _⟩ := I1.hok c' _ (k1.g0 hc)
  have rc : codeAny (model X.prog X.w) A (.call (.ref f) ⟨[u], []⟩) (fun r s' => ∃ z, r = .ok (.ret z) ∧ CE X.stack X.prog X.w H1 s1 (fun x H2 => x = .int (key v) ∧ Kp [] H1 H2) z s') s1 := by
    refine PySem.W.kla_callFunE hr.depth hf rfl L.co L.gen rfl ⟨c', oc, vs, t, rfl, hoc, hdc, hvc⟩ ?_
    rw [hbind]
    refine wpAny_pure (wpAny_newFunctionEnv (fun y hy => L.own y hy) (fun y hy => ?_) (fun h₁ hns hsb => ⟨I1.nolimit.fresh _ hsb, ?_⟩) L.kind)
    · rw [List.mem_singleton.mp hy]
      exact L.par
    show codeAny _ _ (.expr body (LamX.lamEnv X scope s1.heap.objs.size f c')) _ _
    have kp : ∀ b o, s1.heap.get? b = some o → h₁.get? b = some o := fun b o e => hsb.extBut b o (Nat.ne_of_lt (Heap.lt_size e)) (Heap.get?_push_of_some _ e)
    have J : Inv (lam1Cx X A s1 H1 N scope f c') [] (τ v) H1 { s1 with heap := h₁, toks := s1.toks + [(p, u)].length } := lam1_start I1 L hA hr.hd (hC v hv) r hns kp
    obtain ⟨tb, hp, ht⟩ := hbody s1 H1 v hv k1 (hr.deeper _)
    refine PySem.W.kla_codeExpr (wpAny_mono (hp.run [] _ _ _ _ J ht) (fun z s' hq => ?_) fun e s' hq => (show False from hq).elim)
    obtain ⟨w', H', J', rv, q⟩ := hq
    exact ⟨z, rfl, w', H', J'.os, J'.bare, J'.base, J'.hok, rv, q⟩
  refine wpAny_call (codeAny_mono rc fun r s' hq => ?_)
  obtain ⟨z, rfl, ce⟩ := hq
  obtain ⟨x, H2, I2, rx, ex, k2⟩ := I1.after ce
  rw [ex] at rx
  obtain ⟨t', e⟩ := rx
  exact ⟨H2, t', I2, k2, e⟩
/-- a made function is pinned -/
theorem fn_pin {f : Addr} {o : Obj} {fd : FuncData} (I : Inv X pins σ H s) (hf : s.heap.get? f = some o) (hd : o.data = .func fd) (hn : H f = none) (hfr : f ∉ frs X.stack) : Inv X ([(f, o)] ++ pins) σ H s :=
  I.pins_of fun p hp => by
    rcases List.mem_append.mp hp with z | z
    · rw [List.mem_singleton.mp z]
      refine ⟨hf, hn, fun e => ?_, fun e => ?_, fun v e => ?_⟩
      · obtain ⟨m, ⟨ol, es, ep, ho, hdl, _⟩, _⟩ := I.loc
        have e : f = X.env.locals := e
        rw [← e, hf] at ho
        cases ho
        rw [hd] at hdl
        cases hdl
      · rcases I.ok.stk with k | ⟨k, _⟩
        · exact hfr (by rw [k]; exact e)
        · refine hfr ?_
          rw [k]
          unfold frs
          rw [List.filterMap_cons]
          have e : f ∈ frs X.outer := e
          unfold frs at e
          split
          · exact e
          · exact List.mem_cons_of_mem _ e
      · have e : o.data = .cell v := e
        rw [hd] at e
        cases e
    · exact I.pin p (List.mem_append_right _ z)
theorem ep_less {q : Addr × Obj} {Q : VK} {u : Value} {s' : Shared} (h : EP X ([q] ++ pins) σ Q u s') : EP X pins σ Q u s' := by
  obtain ⟨v, H', I, r, h⟩ := h
  exact ⟨v, H', I.pins_of fun p hp => I.pin p (List.mem_append_right _ (List.mem_append_right _ hp)), r, h⟩
/-- the names of the body, told by the maker's -/
def CapsN (N0 : List Str) (σ : L2.St) (N : List Str) (σ' : L2.St) (p : Str) (v : V) : Prop :=
  σ'.length = N.length ∧ ∀ (i : Nat) (y : Str) (x : V), N[i]? = some y → σ'[i]? = some (some x) → (y = p ∧ x = v) ∨ (y ≠ p ∧ ∃ j : Nat, N0[j]? = some y ∧ σ[j]? = some (some x))
theorem sq_ext {K : PySem.W.Frag} {H H' : Hp} {l : Addr} {xs : List V} (e : LamX.ExtN H H') (h : SqL K H l xs) : SqL K H' l xs := by
  rcases h with (h | ⟨o, h⟩) | h
  · exact .inl (.inl (e _ _ h fun ps z => by cases z))
  · exact .inl (.inr ⟨o, e _ _ h fun ps z => by cases z⟩)
  · exact .inr h
/-- sorted(e, key=lambda p: body) -/
def tSortKey (K : PySem.W.Frag) (T : List (Addr × Str)) (N0 N : List Str) (p : Str) (t : TA) (tb : TE) : TE := fun σ H Q => t σ H fun vs H1 => ∃ (l : Addr) (xs : List V) (key : V → Int) (τ : V → L2.St), vs = [.ref l] ∧ SqL K H1 l xs ∧ LamX.Tabs T H1 ∧
  (∀ v, v ∈ xs → CapsN N0 σ N (τ v) p v) ∧ ∀ H2, LamX.ExtN H1 H2 → LamX.Tabs T H2 → (∀ (H3 : Hp) (v : V), v ∈ xs → Kp [] H2 H3 → tb (τ v) H3 fun x H4 => x = .int (key v) ∧ Kp [] H3 H4) ∧
    ∀ (H3 : Hp) (q : Addr), Kp [] H2 H3 → H3 q = none → Q (.ref q) (upd H3 q (.lst (xs.mergeSort fun a b => decide (key a ≤ key b))))
theorem pe_sortKey {T : List (Addr × Str)} {N : List Str} {k : Nat} {c P : Addr} {scope : Scope} {p : Str} {params : Arguments} {e body : Expr} {t : TA} {tb : TE} {p1 kpos lpos pos : Pos} (hg : Gl X "sorted") (hm : X.mg "sorted" = none) (ha : PA X [e] t)
    (TB : LamX.TabB X.base X.mg c P) (hcode : X.env.code = .ref c) (hmT : (P, X.env.qual ++ "<lambda>") ∈ T) (huT : ∀ p ∈ T, p.1 = P → p.2 = X.env.qual ++ "<lambda>") (hr : Room (k + 3) X.A) (L : Lam1 X.env.scope scope p) (hdef : defaultsOf params X.env = ([], []))
    (hbind : ∀ (q : Str) (cl : List (Str × Addr)) (pm cv ctv u : Value), bindArgs (PySem.W.kla_fn "<lambda>" q params body scope cl pm cv ctv) ⟨[u], []⟩ = pure [(p, u)])
    (hbody : ∀ (s : Shared) (H : Hp) (f c' : Addr), Room k (X.A.in1.in1.deeper (LamX.lamEnv X scope s.heap.objs.size f c')) → PE (lam1Cx X X.A.in1.in1 s H N scope f c') body tb)
    (he : backTo pos (starEach [e] X.env) = (false, eval e X.env) :: backTo pos (starEach [] X.env) := by rfl) (hpl : (backTo pos (starEach [e] X.env)).any (·.1) = false := by rfl) :
    PE X (.Call (.Name "sorted" p1) [e] [⟨some "key", .Lambda params body scope lpos, kpos⟩] pos) (tSortKey X.K T X.N N p t tb) := by
  refine ⟨fun pins s σ H Q I h => ?_⟩
  refine wpAny_Call_Name_kw (ld_blt I hg hm (show bootBuiltins "sorted" = some (.builtin "sorted") by rfl) ?_ (by decide) (by decide))
  refine PyProof.Rows.callWith_kw (thn (ha.run pos pins s σ H _ I h) fun us s1 ⟨vs, H1, I1, r1, q1⟩ => ?_) he hpl rfl rfl
  obtain ⟨l, xs, key, τ, rfl, hs, hT, hC, q⟩ := q1
  obtain rfl := Vals.ref1 r1
  show wpAny _ _ (evalAll ((do let v ← eval (.Lambda params body scope lpos) X.env; standAt pos; pure v) :: [])) _ _ s1
  refine wpAny_evalAll_cons (wpAny_bind (LamX.lam_make2 I1 TB hcode hmT huT hT hdef (L.has I1.ok) fun f c' pm ctv H2 s2 I2 eN T2 hf hfn hfr hco => wpAny_bind (wpAny_standAt (wpAny_pure (wpAny_evalAll_nil ?_)))))
  obtain ⟨hb, hq⟩ := q H2 eN T2
  show wpAny _ _ (call (.builtin "sorted") [.ref l] [(Str.ofString "key", .ref f)]) _ _ s2
  refine wpAny_mono (sorted_key (lam1_turn L hco I2.ok.frames hr.in1.in1 (fun u => hbind _ _ _ _ _ u) hC fun s H3 v hv k3 hr3 => ⟨tb, hbody s H3 f c' hr3, hb H3 v hv k3⟩) (fn_pin I2 hf rfl hfn hfr) (sq_ext eN hs) (by have := hr.units; omega) hq) (fun u s' h => ep_less h) fun _ _ h => h
end
end RD
namespace RD
open PySem PySem.Spec PyProof.Rows L2 PySem.W
section
variable {X : Cx} {pins pf : List (Addr × Obj)} {σ : L2.St} {H : Hp} {s : Shared}
theorem Own.cons {pn : List (Addr × Obj)} {q : Addr × Obj} {b : Addr} (w : Own X (pf ++ pn) b) (n : q.1 ≠ b) : Own X (pf ++ (q :: pn)) b :=
  ⟨w.1, w.2.1, w.2.2.1, w.2.2.2.1, fun p hp => by
    rcases List.mem_append.mp hp with z | z
    · exact w.2.2.2.2 p (List.mem_append_left _ z)
    · rcases List.mem_append.mp z with z | z
      · exact w.2.2.2.2 p (List.mem_append_right _ (List.mem_append_left _ z))
      · rcases List.mem_cons.mp z with z | z
        · rw [z]
          exact n
        · exact w.2.2.2.2 p (List.mem_append_right _ (List.mem_append_right _ z))⟩
/-- the first of the least -/
def Least (xs : List V) (key : V → Int) (i : Nat) (b : V) : Prop := xs[i]? = some b ∧ ∀ (j : Nat) (z : V), xs[j]? = some z → key b ≤ key z ∧ (j < i → key b < key z)
theorem min_loop {A : Around} {f : Addr} {key : V → Int} {xs : List V} {l Ia S : Addr} {kw : List (Str × Value)} {R : Result → Shared → Prop} (hh : A.handled = none) (T : KeyTurn X A.in1 σ H pf (.ref f) xs key) (hs : SqL X.K H l xs) (hlI : l ≠ Ia) (hSI : S ≠ Ia)
    (wS : Own X (pf ++ pins) S) (wI : Own X (pf ++ pins) Ia)
    (hR : ∀ H2 s2 i b vb, Inv X (pf ++ pins) σ H2 s2 → Kp [] H H2 → Least xs key i b → RelV b vb → R (.ok (.ret vb)) s2) :
    ∀ (r j i : Nat) (s1 : Shared) (H1 : Hp) (b : V) (vb : Value) (tb : Tok) (c : Nat) (oI : Obj), xs.length - (j + 1) = r → j + 1 ≤ xs.length → Inv X (pf ++ ((S, seqObj "list" #[vb, .int (key b) tb] c) :: (Ia, oI) :: pins)) σ H1 s1 → Kp [] H H1 → s1.heap.IsListIter Ia l (j + 1) →
      xs[i]? = some b → RelV b vb → i ≤ j → (∀ (j' : Nat) (z : V), j' ≤ j → xs[j']? = some z → key b ≤ key z ∧ (j' < i → key b < key z)) →
      codeAny (model X.prog X.w) A (.builtin "min.loop" ⟨[.ref Ia, .ref f, .ref S], kw⟩) R s1 := by
  have hname : (toString "min" ++ toString ".loop" : String) = "min.loop" := by decide
  intro r
  induction r with
  | zero =>
    intro j i s1 H1 b vb tb c oI hr hj I1 k1 hit hb rb hij hbest
    have hin : j + 1 = xs.length := by omega
    have nS := inv_head I1
    have nI := inv_head (inv_unpin I1)
    obtain ⟨its, rv, hl, hz⟩ := I1.list (sl_kp k1 (by simp) hs)
    have W := Walks.list (prog := X.prog) (w := X.w) (A := A.in1) hh Ia l hlI its.toArray
    have hsz : its.toArray.size = xs.length := by rw [List.size_toArray, rv.length]
    refine codeAny_builtin (id := "min.loop") PySem.F.entry_min_loop ?_
    rw [Around.under_plainId PySem.F.plain_min_loop _]
    show wpAny (model X.prog X.w) A.in1 (seqItems? (.ref S) >>= _) _ _ _
    refine wpAny_bind (wpAny_seqItems (s := s1) nS.1 rfl ?_)
    show wpAny (model X.prog X.w) A.in1 (tryCatch (pyNext (.ref Ia)) _ >>= _) _ _ _
    refine wpAny_bind (wpAny_tryCatch (W.done s1 _ _ ⟨by rw [hsz, ← hin]; exact hit, hl.isList⟩ fun h' tk' hk' => ?_))
    have hS' := hk' S _ (by simpa using hSI) nS.1
    have I2 : Inv X (pf ++ ((S, seqObj "list" #[vb, .int (key b) tb] c) :: pins)) σ H1 { s1 with heap := h', toks := tk' } :=
      inv_pin (inv_turn (inv_unpin (inv_unpin I1)) wI nI.2 fun a o ha q => hk' a o (by simpa using ha) q) wS nS.2 hS' (fun _ z => by cases z)
    have I3 : Inv X (pf ++ pins) σ H1 { s1 with heap := h'.update S (Obj.mapSeq fun _ => (#[] : Array Value)), toks := tk' } :=
      inv_turn (s := { s1 with heap := h', toks := tk' }) (inv_unpin I2) wS nS.2 fun a o ha q => ((Heap.SameBut.update h' S _).2 a ha).trans q
    show wpAny (model X.prog X.w) A.in1 (updateSeq S (fun _ => #[]) >>= _) _ _ _
    refine wpAny_bind (wpAny_updateSeq hS' rfl (wpAny_bind (wpAny_letGo (wpAny_pure ?_))))
    exact hR H1 _ i b vb I3 k1 ⟨hb, fun j' z hz' => hbest j' z (by have := (List.getElem?_eq_some_iff.mp hz').1; omega) hz'⟩ rb
  | succ r ih =>
    intro j i s1 H1 b vb tb c oI hr hj I1 k1 hit hb rb hij hbest
    have hlt : j + 1 < xs.length := by omega
    have nS := inv_head I1
    have nI := inv_head (inv_unpin I1)
    obtain ⟨its, rv, hl, hz⟩ := I1.list (sl_kp k1 (by simp) hs)
    have W := Walks.list (prog := X.prog) (w := X.w) (A := A.in1) hh Ia l hlI its.toArray
    have hsz : its.toArray.size = xs.length := by rw [List.size_toArray, rv.length]
    refine codeAny_builtin (id := "min.loop") PySem.F.entry_min_loop ?_
    rw [Around.under_plainId PySem.F.plain_min_loop _]
    show wpAny (model X.prog X.w) A.in1 (seqItems? (.ref S) >>= _) _ _ _
    refine wpAny_bind (wpAny_seqItems (s := s1) nS.1 rfl ?_)
    show wpAny (model X.prog X.w) A.in1 (tryCatch (pyNext (.ref Ia)) _ >>= _) _ _ _
    refine wpAny_bind (wpAny_tryCatch (W.item (j + 1) s1 _ _ (by rw [hsz]; exact hlt) ⟨hit, hl.isList⟩ fun u h' tk' hP hst' hk' => ?_))
    have hu : its[j + 1]? = some u := by simpa using hP
    obtain ⟨x, hx⟩ : ∃ x, xs[j + 1]? = some x := ⟨_, List.getElem?_eq_getElem hlt⟩
    obtain ⟨u', hu', rx⟩ := Vals.get rv hx
    rw [hu] at hu'
    cases hu'
    obtain ⟨oI', hoI', hoc, hod⟩ := id hst'.1
    have hS' := hk' S _ (by simpa using hSI) nS.1
    have I2 : Inv X (pf ++ ((S, seqObj "list" #[vb, .int (key b) tb] c) :: (Ia, oI') :: pins)) σ H1 { s1 with heap := h', toks := tk' } :=
      inv_pin (inv_pin (inv_turn (inv_unpin (inv_unpin I1)) wI nI.2 fun a o ha q => hk' a o (by simpa using ha) q) wI nI.2 hoI' (fun v z => by rw [hod] at z; cases z)) (wS.cons hSI.symm) nS.2 hS' (fun _ z => by cases z)
    show wpAny (model X.prog X.w) A.in1 (tryCatch (holding [u] (call (.ref f) [u])) _ >>= _) _ _ _
    refine wpAny_bind (wpAny_tryCatch (wpAny_holding (wpAny_mono (T _ _ H1 x u I2 k1 (List.mem_of_getElem? hx) rx) (fun z s2 he => ?_) fun _ _ hF => hF.elim)))
    obtain ⟨H2, t2, I3, k2, rfl⟩ := he
    have nS2 := inv_head I3
    have nI2 := inv_head (inv_unpin I3)
    have hit2 : s2.heap.IsListIter Ia l (j + 1 + 1) := ⟨oI', nI2.1, hoc, hod⟩
    show wpAny (model X.prog X.w) A.in1 (tryCatch (holding [u, .int (key x) t2] (richCompare .Lt (.int (key x) t2) (.int (key b) tb) >>= _)) _ >>= _) _ _ _
    refine wpAny_bind (wpAny_tryCatch (wpAny_holding (wpAny_bind (CmpOf.ints_lt (prog := X.prog) (w := X.w) (A := A.in1) (P := fun i v => ∃ t, v = .int (if i = 0 then key x else key b) t) (fun i => if i = 0 then key x else key b) (fun i v h => h) 0 1 _ _ _ _ _ ⟨t2, rfl⟩ ⟨tb, rfl⟩ ?_))))
    refine wpAny_bind (wpAny_holding (wpAny_truthy_bool ?_))
    refine wpAny_bind (wpAny_letGo (wpAny_pure ?_))
    have hxb : ∀ (j' : Nat) (z : V), j' ≤ j + 1 → xs[j']? = some z → j' ≤ j ∨ z = x := fun j' z h1 h2 => by
      by_cases e : j' = j + 1
      · rw [e, hx] at h2
        exact .inr (Option.some.inj h2).symm
      · exact .inl (by omega)
    by_cases hbt : key x < key b
    · obtain ⟨c2, hc2⟩ : ∃ c2, (s2.heap.update S (Obj.mapSeq fun _ => #[u, .int (key x) t2])).get? S = some (seqObj "list" #[u, .int (key x) t2] c2) := ⟨_, get?_update_seq nS2.1 fun _ => #[u, .int (key x) t2]⟩
      have I4 : Inv X (pf ++ ((Ia, oI') :: pins)) σ H2 { s2 with heap := s2.heap.update S (Obj.mapSeq fun _ => #[u, .int (key x) t2]), toks := s2.toks } :=
        inv_turn (inv_unpin I3) (wS.cons hSI.symm) nS2.2 fun a o ha q => ((Heap.SameBut.update s2.heap S _).2 a ha).trans q
      simp only [if_true, if_neg (Nat.succ_ne_zero 0), hbt, decide_true]
      refine wpAny_bind (wpAny_updateSeq nS2.1 rfl (wpAny_bind (wpAny_letGo ?_)))
      rw [hname]
      refine wpAny_pure ⟨plainId_quiet PySem.F.plain_min_loop _, ih (j + 1) (j + 1) _ H2 x u t2 c2 oI' (by omega) hlt (inv_pin I4 (wS.cons hSI.symm) nS2.2 hc2 (fun _ z => by cases z)) (k1.trans k2) ?_ hx rx (Nat.le_refl _) fun j' z hj' hz' => ?_⟩
      · exact ⟨oI', ((Heap.SameBut.update s2.heap S _).2 Ia hSI.symm).trans nI2.1, hoc, hod⟩
      · rcases hxb j' z hj' hz' with e | e
        · have h1 := (hbest j' z e hz').1
          exact ⟨by omega, fun _ => by omega⟩
        · rw [e]
          refine ⟨Int.le_refl _, fun hlt' => ?_⟩
          have h1 := hbest j' z (by omega) hz'
          rw [e] at h1
          omega
    · simp only [if_true, if_neg (Nat.succ_ne_zero 0), hbt, decide_false, Bool.false_eq_true, if_false]
      refine wpAny_bind (wpAny_letGo ?_)
      rw [hname]
      refine wpAny_pure ⟨plainId_quiet PySem.F.plain_min_loop _, ih (j + 1) i _ H2 b vb tb c oI' (by omega) hlt I3 (k1.trans k2) hit2 hb rb (by omega) fun j' z hj' hz' => ?_⟩
      rcases hxb j' z hj' hz' with e | e
      · exact hbest j' z e hz'
      · rw [e]
        refine ⟨by omega, fun hlt' => ?_⟩
        have h1 := hbest j' z (by omega) hz'
        rw [e] at h1
        exact h1.2 hlt'
theorem min_args (a v u : Value) : argsOk "min" ⟨[a], [(Str.ofString "key", v), (Str.ofString "default", u)]⟩ := by unfold argsOk; kernel_rfl
/-- min(xs, key=f, default=None) -/
theorem min_key {f : Addr} {key : V → Int} {xs : List V} {l : Addr} {Q : VK} (hh : X.A.handled = none) (T : KeyTurn X X.A.in1 σ H pf (.ref f) xs key) (I : Inv X (pf ++ pins) σ H s) (hs : SqL X.K H l xs) (h1 : xs = [] → Q .non H)
    (h2 : ∀ H' i b, Kp [] H H' → Least xs key i b → Q b H') :
    wpAny (model X.prog X.w) X.A (call (.builtin "min") [.ref l] [(Str.ofString "key", .ref f), (Str.ofString "default", .none)]) (EP X (pf ++ pins) σ Q) X.xe s := by
  have hname : (toString "min" ++ toString ".loop" : String) = "min.loop" := by decide
  obtain ⟨its, rv, hl, hz⟩ := I.list hs
  have hll : l < s.heap.objs.size := by
    obtain ⟨ol, hol, _⟩ := hl.isList
    exact Heap.lt_size hol
  refine kmk_tree PySem.F.kind_min PySem.F.plain_min PySem.F.entry_min (min_args _ _ _) ?_
  show wpAny (model X.prog X.w) X.A.in1 (Builtin.Builtins.bindParams "min" ["key", "default"] 0 ⟨[], [(Str.ofString "key", .ref f), (Str.ofString "default", .none)]⟩ >>= _) _ _ s
  refine wpAny_bind (wpAny_of_eq (show Builtin.Builtins.bindParams "min" ["key", "default"] 0 ⟨[], [(Str.ofString "key", .ref f), (Str.ofString "default", .none)]⟩ = pure [some (.ref f), some .none] from rfl) ?_)
  refine wpAny_bind (wpAny_pure (wpAny_bind (wpAny_pyIter_list hl.isList ?_)))
  refine wpAny_bind (wpAny_newList (items := []) ?_ (Nat.zero_le _))
  rw [hname]
  have hS : (s.heap.push { cls := .type "list_iterator", data := .fields #[.ref l, .int 0 0] }).objs.size = s.heap.objs.size + 1 := size_push' ..
  have wI := Own.fresh I (Nat.le_refl _)
  have nI : H s.heap.objs.size = none := I.hok.fresh (Nat.le_refl _)
  have wS : Own X (pf ++ pins) (s.heap.push { cls := .type "list_iterator", data := .fields #[.ref l, .int 0 0] }).objs.size := Own.fresh I (by rw [hS]; exact Nat.le_succ _)
  have nS : H (s.heap.push { cls := .type "list_iterator", data := .fields #[.ref l, .int 0 0] }).objs.size = none := I.hok.fresh (by rw [hS]; exact Nat.le_succ _)
  have hSI : (s.heap.push { cls := .type "list_iterator", data := .fields #[.ref l, .int 0 0] }).objs.size ≠ s.heap.objs.size := by
    rw [hS]
    exact Nat.succ_ne_self _
  have I1 : Inv X (pf ++ pins) σ H { s with heap := (s.heap.push { cls := .type "list_iterator", data := .fields #[.ref l, .int 0 0] }).push (seqObj "list" #[] 0), toks := s.toks } :=
    I.kept fun b o q => Heap.get?_push_of_some _ (Heap.get?_push_of_some _ q)
  have gI : ((s.heap.push { cls := .type "list_iterator", data := .fields #[.ref l, .int 0 0] }).push (seqObj "list" #[] 0)).get? s.heap.objs.size = some { cls := .type "list_iterator", data := .fields #[.ref l, .int 0 0] } := Heap.get?_push_of_some _ (Heap.get?_push_size _ rfl)
  have gS : ((s.heap.push { cls := .type "list_iterator", data := .fields #[.ref l, .int 0 0] }).push (seqObj "list" #[] 0)).get? (s.heap.push { cls := .type "list_iterator", data := .fields #[.ref l, .int 0 0] }).objs.size = some (seqObj "list" #[] 0) := Heap.get?_push_size _ rfl
  refine wpAny_pure ⟨plainId_quiet PySem.F.plain_min_loop _, ?_⟩
  show codeAny _ _ (.builtin "min.loop" ⟨[.ref s.heap.objs.size, .ref f, .ref _], [("default", .none)]⟩) _ { s with heap := (s.heap.push { cls := .type "list_iterator", data := .fields #[.ref l, .int 0 0] }).push (seqObj "list" #[] 0), toks := s.toks }
  generalize (s.heap.push { cls := .type "list_iterator", data := .fields #[.ref l, .int 0 0] }).push (seqObj "list" #[] 0) = h0 at I1 gI gS ⊢
  generalize (s.heap.push { cls := .type "list_iterator", data := .fields #[.ref l, .int 0 0] }).objs.size = S at *
  obtain ⟨its, rv, hl, hz⟩ := I1.list hs
  have W := Walks.list (prog := X.prog) (w := X.w) (A := X.A.in1) hh s.heap.objs.size l (Nat.ne_of_lt hll) its.toArray
  have hsz : its.toArray.size = xs.length := by rw [List.size_toArray, rv.length]
  refine codeAny_builtin (id := "min.loop") PySem.F.entry_min_loop ?_
  rw [Around.under_plainId PySem.F.plain_min_loop _]
  show wpAny (model X.prog X.w) X.A.in1 (seqItems? (.ref S) >>= _) _ _ _
  refine wpAny_bind (wpAny_seqItems gS rfl ?_)
  show wpAny (model X.prog X.w) X.A.in1 (tryCatch (pyNext (.ref s.heap.objs.size)) _ >>= _) _ _ _
  cases xs with
  | nil =>
    refine wpAny_bind (wpAny_tryCatch (W.done { s with heap := h0, toks := s.toks } _ _ ⟨by rw [hsz]; exact ⟨_, gI, rfl, rfl⟩, hl.isList⟩ fun h' tk' hk' => ?_))
    refine wpAny_bind (wpAny_rule (wpAny_pure ?_))
    exact ⟨.non, H, inv_turn (s := { s with heap := h0, toks := s.toks }) I1 wI nI fun a o ha q => hk' a o (by simpa using ha) q, rfl, h1 rfl⟩
  | cons x xs =>
    refine wpAny_bind (wpAny_tryCatch (W.item 0 { s with heap := h0, toks := s.toks } _ _ (by rw [hsz]; exact Nat.succ_pos _) ⟨⟨_, gI, rfl, rfl⟩, hl.isList⟩ fun u h' tk' hP hst' hk' => ?_))
    have hu : its[0]? = some u := by simpa using hP
    have hx : (x :: xs)[0]? = some x := rfl
    obtain ⟨u', hu', rx⟩ := Vals.get rv hx
    rw [hu] at hu'
    cases hu'
    obtain ⟨oI', hoI', hoc, hod⟩ := id hst'.1
    have hS' := hk' S _ (by simpa using hSI) gS
    have I2 : Inv X (pf ++ ((S, seqObj "list" #[] 0) :: (s.heap.objs.size, oI') :: pins)) σ H { s with heap := h', toks := tk' } :=
      inv_pin (inv_pin (inv_turn (s := { s with heap := h0, toks := s.toks }) I1 wI nI fun a o ha q => hk' a o (by simpa using ha) q) wI nI hoI' (fun v z => by rw [hod] at z; cases z)) (wS.cons hSI.symm) nS hS' (fun _ z => by cases z)
    show wpAny (model X.prog X.w) X.A.in1 (tryCatch (holding [u] (call (.ref f) [u])) _ >>= _) _ _ _
    refine wpAny_bind (wpAny_tryCatch (wpAny_holding (wpAny_mono (T _ _ H x u I2 Kp.refl (.head _) rx) (fun z s2 he => ?_) fun _ _ hF => hF.elim)))
    obtain ⟨H2, t2, I3, k2, rfl⟩ := he
    have nS2 := inv_head I3
    have nI2 := inv_head (inv_unpin I3)
    obtain ⟨c2, hc2⟩ : ∃ c2, (s2.heap.update S (Obj.mapSeq fun _ => #[u, .int (key x) t2])).get? S = some (seqObj "list" #[u, .int (key x) t2] c2) := ⟨_, get?_update_seq nS2.1 fun _ => #[u, .int (key x) t2]⟩
    have I4 : Inv X (pf ++ ((s.heap.objs.size, oI') :: pins)) σ H2 { s2 with heap := s2.heap.update S (Obj.mapSeq fun _ => #[u, .int (key x) t2]), toks := s2.toks } :=
      inv_turn (inv_unpin I3) (wS.cons hSI.symm) nS2.2 fun a o ha q => ((Heap.SameBut.update s2.heap S _).2 a ha).trans q
    show wpAny (model X.prog X.w) X.A.in1 (updateSeq S (fun _ => #[u, .int (key x) t2]) >>= _) _ _ _
    refine wpAny_bind (wpAny_updateSeq nS2.1 rfl ?_)
    rw [hname]
    refine wpAny_pure ⟨plainId_quiet PySem.F.plain_min_loop _, min_loop (xs := x :: xs) hh T hs (Nat.ne_of_lt hll) hSI wS wI (fun H3 s3 i b vb I5 k3 hb rb => ⟨b, H3, I5, rb, h2 H3 i b k3 hb⟩) _ 0 0 _ H2 x u t2 c2 oI' rfl (Nat.succ_pos _) (inv_pin I4 (wS.cons hSI.symm) nS2.2 hc2 (fun _ z => by cases z)) k2
      ⟨oI', ((Heap.SameBut.update s2.heap S _).2 _ hSI.symm).trans nI2.1, hoc, hod⟩ hx rx (Nat.le_refl _) fun j' z hj' hz' => ?_⟩
    have e : j' = 0 := by omega
    rw [e] at hz'
    cases hz'
    exact ⟨Int.le_refl _, fun q => by omega⟩
/-- min(e, key=lambda p: body, default=None) -/
def tMinKey (K : PySem.W.Frag) (T : List (Addr × Str)) (N0 N : List Str) (p : Str) (t : TA) (tb : TE) : TE := fun σ H Q => t σ H fun vs H1 => ∃ (l : Addr) (xs : List V) (key : V → Int) (τ : V → L2.St), vs = [.ref l] ∧ SqL K H1 l xs ∧ LamX.Tabs T H1 ∧
  (∀ v, v ∈ xs → CapsN N0 σ N (τ v) p v) ∧ ∀ H2, LamX.ExtN H1 H2 → LamX.Tabs T H2 → (∀ (H3 : Hp) (v : V), v ∈ xs → Kp [] H2 H3 → tb (τ v) H3 fun x H4 => x = .int (key v) ∧ Kp [] H3 H4) ∧
    (xs = [] → Q .non H2) ∧ ∀ (H3 : Hp) (i : Nat) (b : V), Kp [] H2 H3 → Least xs key i b → Q b H3
theorem pe_minKey {T : List (Addr × Str)} {N : List Str} {k : Nat} {c P : Addr} {scope : Scope} {p : Str} {params : Arguments} {e body : Expr} {t : TA} {tb : TE} {p1 kpos lpos dpos npos pos : Pos} {jn : Nat} (hg : Gl X "min") (hm : X.mg "min" = none) (ha : PA X [e] t)
    (TB : LamX.TabB X.base X.mg c P) (hcode : X.env.code = .ref c) (hmT : (P, X.env.qual ++ "<lambda>") ∈ T) (huT : ∀ p ∈ T, p.1 = P → p.2 = X.env.qual ++ "<lambda>") (hr : Room (k + 3) X.A) (L : Lam1 X.env.scope scope p) (hdef : defaultsOf params X.env = ([], []))
    (hbind : ∀ (q : Str) (cl : List (Str × Addr)) (pm cv ctv u : Value), bindArgs (PySem.W.kla_fn "<lambda>" q params body scope cl pm cv ctv) ⟨[u], []⟩ = pure [(p, u)])
    (hbody : ∀ (s : Shared) (H : Hp) (f c' : Addr), Room k (X.A.in1.deeper (LamX.lamEnv X scope s.heap.objs.size f c')) → PE (lam1Cx X X.A.in1 s H N scope f c') body tb)
    (he : backTo pos (starEach [e] X.env) = (false, eval e X.env) :: backTo pos (starEach [] X.env) := by rfl) (hpl : (backTo pos (starEach [e] X.env)).any (·.1) = false := by rfl) :
    PE X (.Call (.Name "min" p1) [e] [⟨some "key", .Lambda params body scope lpos, kpos⟩, ⟨some "default", .Constant .none jn npos, dpos⟩] pos) (tMinKey X.K T X.N N p t tb) := by
  refine ⟨fun pins s σ H Q I h => ?_⟩
  refine wpAny_Call_Name_kw (ld_blt I hg hm (show bootBuiltins "min" = some (.builtin "min") by rfl) ?_ (by decide) (by decide))
  refine PyProof.Rows.callWith_kw (thn (ha.run pos pins s σ H _ I h) fun us s1 ⟨vs, H1, I1, r1, q1⟩ => ?_) he hpl rfl rfl
  obtain ⟨l, xs, key, τ, rfl, hs, hT, hC, q⟩ := q1
  obtain rfl := Vals.ref1 r1
  show wpAny _ _ (evalAll [(do let v ← eval (.Lambda params body scope lpos) X.env; standAt pos; pure v), (do let v ← eval (.Constant .none jn npos) X.env; standAt pos; pure v)]) _ _ s1
  refine wpAny_evalAll_cons (wpAny_bind (LamX.lam_make2 I1 TB hcode hmT huT hT hdef (L.has I1.ok) fun f c' pm ctv H2 s2 I2 eN T2 hf hfn hfr hco => wpAny_bind (wpAny_standAt (wpAny_pure ?_))))
  obtain ⟨hb, hq0, hq⟩ := q H2 eN T2
  have I3 := fn_pin I2 hf rfl hfn hfr
  refine wpAny_evalAll_cons (wpAny_bind (thn ((pe_non (X := X)).run _ s2 σ H2 (fun (x : V) (H3 : Hp) => x = V.non ∧ H3 = H2) I3 ⟨rfl, rfl⟩) fun u s3 ⟨v, H3, I4, rv, ev, eH⟩ => wpAny_bind (wpAny_standAt (wpAny_pure (wpAny_evalAll_nil ?_)))))
  rw [ev] at rv
  rw [eH] at I4
  obtain rfl : u = Value.none := rv
  show wpAny _ _ (call (.builtin "min") [.ref l] [(Str.ofString "key", .ref f), (Str.ofString "default", .none)]) _ _ s3
  refine wpAny_mono (min_key hr.hd (lam1_turn L hco I2.ok.frames hr.in1 (fun u => hbind _ _ _ _ _ u) hC fun s H3 v hv k3 hr3 => ⟨tb, hbody s H3 f c' (hr3.mono (Nat.le_succ _)), hb H3 v hv k3⟩) I4 (sq_ext eN hs) hq0 hq) (fun u s' h => ep_less h) fun _ _ h => h
end
end RD
/-! ### the head of a law whose defs make lambdas -/
namespace RD
open PySem PySem.Spec PyProof.Rows L2 He
section
variable {P : Program} {w : World} {K : PySem.W.Frag} {mg : Str → Option Value} {base : Heap} {CX : CXT} {x qual : Str} {params : Arguments} {body : List Stmt} {scope : Scope} {dvs : List V} {kws : List (Str × V)} {fd : FuncData}
/-- a def whose code object is told -/
theorem fnDc {at_ : Str × Option Str} {N ps : List Str} {k : Nat} {sp : Sp} (F : FunD K x qual params body scope dvs kws (fAd K at_) fd) (S : FnScope N ps scope) (len : ∀ vs H Q E, sp vs H Q E → vs.length = ps.length)
    (hbody : ∀ (A : Around) (outer : List Env) (s : Shared) (H : Hp) (vs : List V) (Q : VK) (E : XK), Room k (A.deeper (envOfC qual scope s.heap.objs.size (fAd K at_) (.ref (codeOf K at_)))) → sp vs H Q E →
      ∃ t, PSs (cxOf CX0 P w K mg base N qual scope (fAd K at_) (.ref (codeOf K at_)) A outer s H E).nox body t ∧ t ⟨fun _ H' => Q .non H', Q, fun _ _ => False, fun _ _ => False⟩ (start N vs) H) : FnOk P w K mg base CX0 (k + 1) (fAd K at_) fd ps sp := by
  obtain ⟨oc, od, dV, kV, doc, pm, an, cdv, ct, osl, e0, lk, hcd, _, _⟩ := F.ex
  obtain ⟨c, hc⟩ := codeIn_ref hcd
  have e : cdv = .ref (codeOf K at_) := by
    rw [hc]
    refine congrArg Value.ref (codeOf_eq lk ?_).symm
    rw [e0]
    exact hc
  subst e0
  subst e
  exact fn_of lk hcd S len fun A outer s H vs Q E hr hsp => let ⟨t, h1, h2⟩ := hbody A outer s H vs Q E hr hsp; ⟨t, h1.nox, h2⟩
end
/-- the tables at the law's entry -/
theorem tabs_nil {tf : List He.Defn} {K : PySem.W.Frag} {T : List (Addr × Str)} {H : Hp} (e : T.map (·.1) = tf.map fun p => (He.cT K p).2) (h : ∀ p ∈ tf.map (He.cT K), H p.2 = some (.tbl #[])) : LamX.Tabs T H := fun p hp => by
  have hm : p.1 ∈ tf.map fun p => (He.cT K p).2 := e ▸ List.mem_map_of_mem hp
  obtain ⟨q, hq, e2⟩ := List.mem_map.mp hm
  refine LamX.TabS.nil ?_
  rw [← e2]
  exact h _ (List.mem_map_of_mem hq)
end RD
/-! ### frames where tables of lambdas may grow -/
namespace RD
open PySem PySem.Spec PyProof.Rows L2 He
def NoTbl (o : HO) : Prop := ∀ t, o ≠ .tbl t
def Kt (T : List (Addr × Str)) (ps : List Addr) (H H' : Hp) : Prop := (∀ b o, H b = some o → NoTbl o → b ∉ ps → H' b = some o) ∧ LamX.Tabs T H'
section
variable {T : List (Addr × Str)} {ps : List Addr} {H H' H'' : Hp} {p q b : Addr} {o : HO}
theorem Kt.refl (h : LamX.Tabs T H) : Kt T ps H H := ⟨fun _ _ e _ _ => e, h⟩
theorem Kt.trans (a : Kt T ps H H') (b : Kt T ps H' H'') : Kt T ps H H'' := ⟨fun c o e n m => b.1 c o (a.1 c o e n m) n m, b.2⟩
theorem Kt.g0 (a : Kt T [] H H') (n : NoTbl o) (e : H b = some o) : H' b = some o := a.1 b o e n (by simp)
theorem Kt.g1 (a : Kt T [p] H H') (n : NoTbl o) (m : b ≠ p) (e : H b = some o) : H' b = some o := a.1 b o e n (by simp [m])
theorem Kt.of0 (a : Kt T [] H H') : Kt T ps H H' := ⟨fun c o e n _ => a.1 c o e n (by simp), a.2⟩
/-- q is none of the things that stand (tables left out) -/
def Frn (H : Hp) (q : Addr) : Prop := ∀ b o, H b = some o → NoTbl o → b ≠ q
theorem Kt.frn (a : Kt T [] H H') {l : Addr} (h : H' l = none) : Frn H l := fun b o e n z => by
  rw [z] at e
  rw [a.g0 n e] at h
  cases h
theorem Frn.kt {l : Addr} (h : Frn H' l) (a : Kt T [] H H') : Frn H l := fun b o e n => h b o (a.g0 n e) n
theorem Frn.kp {l : Addr} (h : Frn H' l) (a : Kp [] H H') : Frn H l := fun b o e n => h b o (a.g0 e) n
theorem Frn.of {l : Addr} (h : H l = none) : Frn H l := fun b o e _ => ne_of_none e h
theorem Kt.ext (a : LamX.ExtN H H') (t : LamX.Tabs T H') : Kt T ps H H' := ⟨fun b o e n _ => a b o e n, t⟩
/-- what a table and its code objects are not -/
def Plain : HO → Prop
  | .tbl _ => False
  | .ext _ => False
  | _ => True
theorem Plain.noTbl (h : Plain o) : NoTbl o := by
  intro t z
  rw [z] at h
  exact h
theorem tabs_kp (h : LamX.Tabs T H) (k : Kp ps H H') (n : ∀ p, p ∈ ps → ∃ o, H p = some o ∧ Plain o) : LamX.Tabs T H' := fun p hp => by
  obtain ⟨tb, h1, h2, h3⟩ := h p hp
  have ne : ∀ b o, H b = some o → ¬ Plain o → b ∉ ps := fun b o e m z => by
    obtain ⟨o', e', w⟩ := n b z
    rw [e] at e'
    cases e'
    exact m w
  refine ⟨tb, k _ _ h1 (ne _ _ h1 (fun z => z)), h2, fun pos cv e => ?_⟩
  obtain ⟨c, e1, e2⟩ := h3 pos cv e
  exact ⟨c, e1, k _ _ e2 (ne _ _ e2 (fun z => z))⟩
theorem Kt.kp (h : LamX.Tabs T H) (k : Kp ps H H') (n : ∀ p, p ∈ ps → ∃ o, H p = some o ∧ Plain o) : Kt T ps H H' := ⟨fun c o e _ m => k c o e m, tabs_kp h k n⟩
theorem Kt.kp0 (h : LamX.Tabs T H) (k : Kp [] H H') : Kt T ps H H' := ⟨fun c o e _ _ => k c o e (by simp), tabs_kp h k (fun _ z => by cases z)⟩
theorem Kt.kp1 (h : LamX.Tabs T H) (k : Kp [p] H H') (e : H p = some o) (w : Plain o) : Kt T [p] H H' := Kt.kp h k fun q hq => by
  rw [List.mem_singleton.mp hq]
  exact ⟨o, e, w⟩
theorem Kt.new (h : LamX.Tabs T H) (e : H p = none) : Kt T ps H (upd H p o) := Kt.kp0 h (Kp.new e)
theorem Kt.wr {u : HO} (a : Kt T ps H H') (h : p ∈ ps) (e : H' p = some u) (w : Plain u) : Kt T ps H (upd H' p o) :=
  ⟨fun c v ev n m => by
    have hc : c ≠ p := fun z => m (z ▸ h)
    rw [upd_ne hc]
    exact a.1 c v ev n m, tabs_kp a.2 (Kp.refl.wr (ps := [p]) (by simp)) fun q hq => by
    rw [List.mem_singleton.mp hq]
    exact ⟨u, e, w⟩⟩
theorem Kt.nw (a : Kt T ps H H') (e : H' p = none) : Kt T ps H (upd H' p o) := a.trans (Kt.new a.2 e)
end
/-! ### a class made with keywords -/
theorem vals_at {xs : List V} {us : List Value} (i : Nat) (h : Vals xs us) : Vals (xs[i]?).toList (us[i]?).toList := by
  cases e : xs[i]? with
  | none => rw [h.none_of e]; exact .nil
  | some x =>
    obtain ⟨u, e2, r⟩ := h.get e
    rw [e2]
    exact .cons r .nil
structure MakKX (P : Program) (w : World) (K : PySem.W.Frag) (mg : Str → Option Value) (base : Heap) (CX : CXT) (k : Nat) (x : Str) (C : Addr) (sp : Sp) (n : Nat) (ks : List Str) (gV : List V → List V → List V) : Prop where
  ex : ∃ (f : Addr) (fd : FuncData) (ps : List Str) (g : List Value → List Value → List Value), Mk K C f ∧ FnOk P w K mg base CX k f fd ps sp ∧ mg x = some (.ref C) ∧ KBn K fd ps (n + 1) ks g gV
theorem pe_makKX {X : Cx} {CX : CXT} {k j n : Nat} {C : Addr} {x : Str} {sp : Sp} {E : XK} {ks : List Str} {gV : List V → List V → List V} {p pos : Pos} {e : Expr} {es : List Expr} {kws : List Keyword} {t tk : TA} (c : MakKX X.prog X.w X.K X.mg X.base CX k x C sp n ks gV) (hr : Room j X.A) (hk : k + 1 ≤ j) (hg : Gl X x) (hx : Passes CX X E) (ha : PA X (e :: es) t) (hkw : PK X kws tk)
    (hall : (backToKw pos (keywordEach kws X.env)).all (·.1.isSome) = true := by rfl) (hks : (backToKw pos (keywordEach kws X.env)).filterMap (·.1) = ks := by rfl) (hdb : (x == ("__debug__" : Str)) = false := by decide)
    (he : starEach (e :: es) X.env = (false, eval e X.env) :: starEach es X.env := by rfl) (hpl : ((backTo pos (starEach (e :: es) X.env)).any (·.1) || (backToKw pos (keywordEach kws X.env)).any (·.1.isNone)) = false := by rfl) :
    PE X (.Call (.Name x p) (e :: es) kws pos) (tMakeK C n ks.length sp gV E t tk) := by
  obtain ⟨f, fd, ps, g, M, F, hm, hb⟩ := c.ex
  exact pe_makeK M F (hr.mono hk) hg hm hb hx ha hkw hall hks hdb he hpl
theorem rd_makeK {σ : L2.St} {H : Hp} {Q : VK} {C : Addr} {n m : Nat} {sp : Sp} {gV : List V → List V → List V} {E : XK} {t tk : TA} (h : t σ H fun vs H1 => tk σ H1 fun zs H2 => vs.length = n ∧ zs.length = m ∧ ∀ x dx, H2 x = none → H2 dx = none → dx ≠ x →
    sp (gV (.ref x :: vs) zs) (upd (upd H2 dx (.own x)) x (.ins C dx [])) (fun v H3 => v = .non ∧ Q (.ref x) H3) E) : tMakeK C n m sp gV E t tk σ H Q := h
/-! ### more readings -/
section
variable {K : PySem.W.Frag} {σ : L2.St} {H : Hp} {Q : VK} {ta : TE}
theorem rd_prop {C : Addr} {sp : Sp} {E : XK} (h : ta σ H fun x H1 => ∃ a dx fs, x = V.ref a ∧ H1 a = some (.ins C dx fs) ∧ sp [.ref a] H1 Q E) : tProp C sp [] E ta σ H Q := h
theorem rd_propX {C a dx : Addr} {fs : List (Str × V)} {R : Addr → Prop} (h : H a = some (.ins C dx fs)) (q : R a) : ∃ a' dx' fs', V.ref a = V.ref a' ∧ H a' = some (.ins C dx' fs') ∧ R a' := ⟨a, dx, fs, rfl, h, q⟩
theorem rd_revL {te : TE} (h : te σ H fun x H1 => ∃ a xs, x = V.ref a ∧ SqL K H1 a xs ∧ ∀ p, H1 p = none → Q (.ref p) (upd H1 p (.lst xs.reverse))) : tRevL K te σ H Q := h
theorem rd_revLX {a : Addr} {xs : List V} {R : List V → Prop} (h : SqL K H a xs) (q : R xs) : ∃ a' ys, V.ref a = V.ref a' ∧ SqL K H a' ys ∧ R ys := ⟨a, xs, rfl, h, q⟩
end
end RD
namespace RD
open PySem PySem.Spec PyProof.Rows L2 He
/-! ### comprehensions that only look -/
theorem filter_take {α : Type} {p : α → Bool} {ns : List α} {i : Nat} (h : i < ns.length) : (ns.take (i + 1)).filter p = (ns.take i).filter p ++ (if p ns[i] = true then [ns[i]] else []) := by
  rw [List.take_succ_eq_append_getElem h, List.filter_append]
  congr 1
  cases e : p ns[i] <;> simp [e]
section
variable {K : PySem.W.Frag} {σ : L2.St} {H : Hp} {te : TE} {tt : TT}
theorem lcF_ints {a D : Addr} {g : TG} {vs : List Nat} {Qd : Hp → Prop} (ns : List Int) (p : Int → Bool) (f : Int → V) (hS : SqL K H a (ns.map V.int)) (hD : H D = none) (hl : ns.length < 1000000)
    (hs : ∀ (i : Nat) (h : i < ns.length) H1 (E : VK) (N : Hp → Prop), Kp [] H H1 → (∀ H4, Kp [] H1 H4 → p ns[i] = true → E (f ns[i]) H4) → (∀ H3, Kp [] H1 H3 → p ns[i] = false → N H3) → g (.int ns[i]) (wipe σ vs) H1 fun σ2 H2 => wipe σ2 vs = wipe σ vs ∧ tt σ2 H2 fun b H3 => if b = true then te σ2 H3 E else N H3)
    (hd : ∀ H', Kp [] H H' → H' D = some (.lst ((ns.filter p).map f)) → Qd H') : LcG (Itl K a) g tt te vs σ D Qd H := by
  refine lcL_ints ns (fun i H' => H' D = some (.lst (((ns.take i).filter p).map f)) ∧ Kp [] H H') ⟨upd_same, Kp.new hD⟩ (fun i H' _ q => sl_kp q.2 (by simp) hS) (fun i hi H' q => ?_) (fun H' q => ?_)
  · refine hs i hi H' _ _ q.2 (fun H4 k4 hp => ?_) (fun H3 k3 hp => ?_)
    · have fl : (((ns.take i).filter p).map f).length < sizeLine := szlt (by
        rw [List.length_map]
        have h1 := List.length_filter_le p (ns.take i)
        rw [List.length_take] at h1
        omega)
      refine ⟨_, k4.g0 q.1, fl, ?_, Kp.mine (q.2.trans k4) hD⟩
      rw [upd_same, filter_take hi, if_pos hp, List.map_append]
      rfl
    · refine ⟨?_, q.2.trans k3⟩
      rw [filter_take hi, if_neg (by rw [hp]; exact Bool.false_ne_true), List.append_nil]
      exact k3.g0 q.1
  · rw [List.take_length] at q
    exact hd H' q.2 q.1
theorem lcF_range {lo : Int} {n : Nat} {D : Addr} {g : TG} {vs : List Nat} {Qd : Hp → Prop} (p : Nat → Bool) (f : Nat → V) (hD : H D = none) (hl : n < 1000000)
    (hs : ∀ (i : Nat) (h : i < n) H1 (E : VK) (N : Hp → Prop), Kp [] H H1 → (∀ H4, Kp [] H1 H4 → p i = true → E (f i) H4) → (∀ H3, Kp [] H1 H3 → p i = false → N H3) → g (.int (lo + i)) (wipe σ vs) H1 fun σ2 H2 => wipe σ2 vs = wipe σ vs ∧ tt σ2 H2 fun b H3 => if b = true then te σ2 H3 E else N H3)
    (hd : ∀ H', Kp [] H H' → H' D = some (.lst (((List.range n).filter p).map f)) → Qd H') : LcG (Itr lo n) g tt te vs σ D Qd H := by
  refine lcR_by (fun i H' => H' D = some (.lst (((List.range i).filter p).map f)) ∧ Kp [] H H') ⟨upd_same, Kp.new hD⟩ (fun i H' hi q => ?_) (fun H' q => hd H' q.2 q.1)
  have er : (List.range (i + 1)).filter p = (List.range i).filter p ++ (if p i = true then [i] else []) := by
    rw [List.range_succ, List.filter_append]
    congr 1
    cases e : p i <;> simp [e]
  refine hs i hi H' _ _ q.2 (fun H4 k4 hp => ?_) (fun H3 k3 hp => ?_)
  · have fl : (((List.range i).filter p).map f).length < sizeLine := szlt (by
      rw [List.length_map]
      have h1 := List.length_filter_le p (List.range i)
      rw [List.length_range] at h1
      omega)
    refine ⟨_, k4.g0 q.1, fl, ?_, Kp.mine (q.2.trans k4) hD⟩
    rw [upd_same, er, if_pos hp, List.map_append]
    rfl
  · refine ⟨?_, q.2.trans k3⟩
    rw [er, if_neg (by rw [hp]; exact Bool.false_ne_true), List.append_nil]
    exact k3.g0 q.1
end
def keyV (f : Int → Int) : V → Int
  | .int i => f i
  | _ => 0
theorem sort_keyV (f : Int → Int) (ns : List Int) : ((ns.map V.int).mergeSort fun a b => decide (keyV f a ≤ keyV f b)) = (ns.mergeSort fun a b => decide (f a ≤ f b)).map V.int :=
  (List.map_mergeSort (f := V.int) (r := fun a b => decide (f a ≤ f b)) (s := fun a b => decide (keyV f a ≤ keyV f b)) fun _ _ _ _ => rfl).symm
end RD
namespace RD
open PySem PySem.Spec PyProof.Rows L2 He
section
variable {K : PySem.W.Frag} {σ : L2.St} {H : Hp} {T : List (Addr × Str)} {N0 N : List Str} {p : Str} {t : TA} {tb : TE} {Q : VK}
theorem rd_sortKey (h : t σ H fun vs H1 => ∃ (l : Addr) (xs : List V) (key : V → Int) (τ : V → L2.St), vs = [.ref l] ∧ SqL K H1 l xs ∧ LamX.Tabs T H1 ∧
  (∀ v, v ∈ xs → CapsN N0 σ N (τ v) p v) ∧ ∀ H2, LamX.ExtN H1 H2 → LamX.Tabs T H2 → (∀ (H3 : Hp) (v : V), v ∈ xs → Kp [] H2 H3 → tb (τ v) H3 fun x H4 => x = .int (key v) ∧ Kp [] H3 H4) ∧
    ∀ (H3 : Hp) (q : Addr), Kp [] H2 H3 → H3 q = none → Q (.ref q) (upd H3 q (.lst (xs.mergeSort fun a b => decide (key a ≤ key b))))) : tSortKey K T N0 N p t tb σ H Q := h
theorem rd_minKey (h : t σ H fun vs H1 => ∃ (l : Addr) (xs : List V) (key : V → Int) (τ : V → L2.St), vs = [.ref l] ∧ SqL K H1 l xs ∧ LamX.Tabs T H1 ∧
  (∀ v, v ∈ xs → CapsN N0 σ N (τ v) p v) ∧ ∀ H2, LamX.ExtN H1 H2 → LamX.Tabs T H2 → (∀ (H3 : Hp) (v : V), v ∈ xs → Kp [] H2 H3 → tb (τ v) H3 fun x H4 => x = .int (key v) ∧ Kp [] H3 H4) ∧
    (xs = [] → Q .non H2) ∧ ∀ (H3 : Hp) (i : Nat) (b : V), Kp [] H2 H3 → Least xs key i b → Q b H3) : tMinKey K T N0 N p t tb σ H Q := h
/-- of a list of ints, at the key f -/
theorem rd_sortI {D : Addr} (f : Int → Int) (ns : List Int) (τ : Int → L2.St) (hS : SqL K H D (ns.map V.int)) (hT : LamX.Tabs T H) (hC : ∀ n, CapsN N0 σ N (τ n) p (.int n))
    (hb : ∀ (H3 : Hp) (n : Int) (Q' : VK), n ∈ ns → Kt T [] H H3 → Q' (.int (f n)) H3 → tb (τ n) H3 Q')
    (hq : ∀ (H3 : Hp) (q : Addr), Kt T [] H H3 → H3 q = none → Q (.ref q) (upd H3 q (.lst ((ns.mergeSort fun a b => decide (f a ≤ f b)).map V.int)))) :
    ∃ (l : Addr) (xs : List V) (key : V → Int) (τ : V → L2.St), [V.ref D] = [.ref l] ∧ SqL K H l xs ∧ LamX.Tabs T H ∧
      (∀ v, v ∈ xs → CapsN N0 σ N (τ v) p v) ∧ ∀ H2, LamX.ExtN H H2 → LamX.Tabs T H2 → (∀ (H3 : Hp) (v : V), v ∈ xs → Kp [] H2 H3 → tb (τ v) H3 fun x H4 => x = .int (key v) ∧ Kp [] H3 H4) ∧
        ∀ (H3 : Hp) (q : Addr), Kp [] H2 H3 → H3 q = none → Q (.ref q) (upd H3 q (.lst (xs.mergeSort fun a b => decide (key a ≤ key b)))) := by
  refine ⟨D, _, keyV f, fun v => match v with | .int n => τ n | _ => [], rfl, hS, hT, fun v hv => ?_, fun H2 e2 t2 => ⟨fun H3 v hv k3 => ?_, fun H3 q k3 nq => ?_⟩⟩
  · obtain ⟨n, _, rfl⟩ := List.mem_map.mp hv
    exact hC n
  · obtain ⟨n, hn, rfl⟩ := List.mem_map.mp hv
    exact hb H3 n _ hn ((Kt.ext e2 t2).trans (Kt.kp0 t2 k3)) ⟨rfl, Kp.refl⟩
  · rw [sort_keyV]
    exact hq H3 q ((Kt.ext e2 t2).trans (Kt.kp0 t2 k3)) nq
theorem rd_minI {D : Addr} (f : Int → Int) (ns : List Int) (τ : Int → L2.St) (hS : SqL K H D (ns.map V.int)) (hT : LamX.Tabs T H) (hC : ∀ n, CapsN N0 σ N (τ n) p (.int n))
    (hb : ∀ (H3 : Hp) (n : Int) (Q' : VK), n ∈ ns → Kt T [] H H3 → Q' (.int (f n)) H3 → tb (τ n) H3 Q')
    (h0 : ∀ (H3 : Hp), ns = [] → Kt T [] H H3 → Q .non H3)
    (h1 : ∀ (H3 : Hp) (i : Nat) (b : Int), Kt T [] H H3 → ns[i]? = some b → (∀ (j : Nat) (z : Int), ns[j]? = some z → f b ≤ f z ∧ (j < i → f b < f z)) → Q (.int b) H3) :
    ∃ (l : Addr) (xs : List V) (key : V → Int) (τ : V → L2.St), [V.ref D] = [.ref l] ∧ SqL K H l xs ∧ LamX.Tabs T H ∧
      (∀ v, v ∈ xs → CapsN N0 σ N (τ v) p v) ∧ ∀ H2, LamX.ExtN H H2 → LamX.Tabs T H2 → (∀ (H3 : Hp) (v : V), v ∈ xs → Kp [] H2 H3 → tb (τ v) H3 fun x H4 => x = .int (key v) ∧ Kp [] H3 H4) ∧
        (xs = [] → Q .non H2) ∧ ∀ (H3 : Hp) (i : Nat) (b : V), Kp [] H2 H3 → Least xs key i b → Q b H3 := by
  refine ⟨D, _, keyV f, fun v => match v with | .int n => τ n | _ => [], rfl, hS, hT, fun v hv => ?_, fun H2 e2 t2 => ⟨fun H3 v hv k3 => ?_, fun e => ?_, fun H3 i b k3 hl => ?_⟩⟩
  · obtain ⟨n, _, rfl⟩ := List.mem_map.mp hv
    exact hC n
  · obtain ⟨n, hn, rfl⟩ := List.mem_map.mp hv
    exact hb H3 n _ hn ((Kt.ext e2 t2).trans (Kt.kp0 t2 k3)) ⟨rfl, Kp.refl⟩
  · exact h0 H2 (List.map_eq_nil_iff.mp e) (Kt.ext e2 t2)
  · obtain ⟨e1, e3⟩ := hl
    rw [List.getElem?_map] at e1
    obtain ⟨n, hn, rfl⟩ := Option.map_eq_some_iff.mp e1
    refine h1 H3 i n ((Kt.ext e2 t2).trans (Kt.kp0 t2 k3)) hn fun j z hz => ?_
    exact e3 j (.int z) (by rw [List.getElem?_map, hz]; rfl)
end
end RD
namespace RD
open PySem PySem.Spec PyProof.Rows L2 He
/-! ### wide divisors, fields that are added to, least of a list -/
theorem wide60 {i j : Int} (h0 : 0 < j) (h1 : j < 1152921504606846976) : CDivW i j := wide_div (b := 60) h0 (by omega) (by decide) (by decide)
theorem ixN_at {n : Nat} {i : Int} (h0 : 0 ≤ i) (h1 : i < n) : ixN n i = some i.toNat := by
  unfold ixN
  rw [if_pos h0, if_pos h1]
section
variable {K : PySem.W.Frag} {σ : L2.St} {H : Hp} {nx bk ct : L2.St → Hp → Prop} {rt : VK} {ta tv : TE} {Q : VK} {v : V} {i j : Int}
theorem rd_sfldaug {rd : V → V → Hp → VK → Prop} {f : Str} (h : ta σ H fun x H1 => ∃ a C dx fs v, x = .ref a ∧ H1 a = some (.ins C dx fs) ∧ Cls K C ∧ NoAttr K C f ∧ fs.lookup f = some v ∧
  tv σ H1 fun y H2 => rd v y H2 fun z H3 => ∃ dx' fs', H3 a = some (.ins C dx' fs') ∧ fs'.length < 1000 ∧ nx σ (upd H3 a (.ins C dx' (putF f z fs')))) : sFldAug K ta tv rd f ⟨nx, rt, bk, ct⟩ σ H := h
theorem rd_sfldaugX {f : Str} {a C dx : Addr} {fs : List (Str × V)} {R : Addr → Addr → V → Prop} (h : H a = some (.ins C dx fs)) (c : Cls K C) (n : NoAttr K C f) (l : fs.lookup f = some v) (q : R a C v) :
    ∃ a' C' dx' fs' v', V.ref a = V.ref a' ∧ H a' = some (.ins C' dx' fs') ∧ Cls K C' ∧ NoAttr K C' f ∧ fs'.lookup f = some v' ∧ R a' C' v' := ⟨a, C, dx, fs, v, rfl, h, c, n, l, q⟩
theorem rd_insX {a C dx : Addr} {fs : List (Str × V)} {R : Addr → List (Str × V) → Prop} (h : H a = some (.ins C dx fs)) (l : fs.length < 1000) (q : R dx fs) : ∃ dx' fs', H a = some (.ins C dx' fs') ∧ fs'.length < 1000 ∧ R dx' fs' := ⟨dx, fs, h, l, q⟩
theorem rd_addI (h : Q (.int (i + j)) H) : rAdd (.int i) (.int j) H Q := ⟨i, j, rfl, rfl, h⟩
theorem rd_subI (h : Q (.int (i - j)) H) : rSub (.int i) (.int j) H Q := ⟨i, j, rfl, rfl, h⟩
theorem rd_minL {a : Addr} {ns : List Int} (h : SqL K H a (ns.map V.int)) (l : 0 < ns.length) (q : ∀ m, m ∈ ns → (∀ y, y ∈ ns → m ≤ y) → Q (.int m) H) : rMin K [.ref a] H Q := ⟨a, ns, rfl, h, l, q⟩
end
/-- an optional int -/
abbrev ov : Option Int → V
  | none => .non
  | some i => .int i
theorem ov_non {o : Option Int} : decide (ov o = V.non) = o.isNone := by
  cases o with
  | none => rfl
  | some i => exact decide_eq_false (by intro z; cases z)
/-- the first on the way from a place on -/
def FirstOf (r place : Int) (xs : List Int) : Option Int → Prop
  | none => xs = []
  | some b => b ∈ xs ∧ ∀ z, z ∈ xs → (b - place) % r ≤ (z - place) % r
end RD
namespace RD
open PySem PySem.Spec PyProof.Rows L2 He
/-! ### look-ups whose value comes out plain -/
def lookV {κ : Type} [DecidableEq κ] : List (κ × V) → κ → Option V
  | [], _ => none
  | (a, v) :: r, k => if a = k then some v else lookV r k
theorem lookV_eq {κ : Type} [DecidableEq κ] (k : κ) : ∀ kvs : List (κ × V), valV kvs k = lookV kvs k
  | [] => rfl
  | (a, v) :: r => by
    unfold lookV
    by_cases h : a = k
    · rw [if_pos h]
      exact valV_pos h
    · rw [if_neg h, valV_neg h]
      exact lookV_eq k r
theorem dg_sl {H : Hp} {a : Addr} {v : V} {kvs : List (Key × V)} {s : Str} (e : H a = some (.dK kvs)) (l : lookV kvs (.inr s) = some v) : DGet H a (.str s) (some v) := dg_sv e ((lookV_eq _ _).trans l)
theorem Kt.mine {T : List (Addr × Str)} {ps : List Addr} {H H' : Hp} {p : Addr} {o u : HO} (a : Kt T ps H H') (f : Frn H p) (e : H' p = some u) (w : Plain u) : Kt T ps H (upd H' p o) :=
  ⟨fun c v ev n m => by
    rw [upd_ne (f c v ev n)]
    exact a.1 c v ev n m, tabs_kp a.2 (Kp.refl.wr (ps := [p]) (by simp)) fun q hq => by
    rw [List.mem_singleton.mp hq]
    exact ⟨u, e, w⟩⟩
theorem Kt.mono {T : List (Addr × Str)} {ps qs : List Addr} {H H' : Hp} (a : Kt T ps H H') (h : ∀ p, p ∈ ps → p ∈ qs) : Kt T qs H H' := ⟨fun c o e n m => a.1 c o e n fun z => m (h c z), a.2⟩
theorem Kt.kpP {T : List (Addr × Str)} {ps qs : List Addr} {H H' H2 : Hp} (a : Kt T ps H H') (k : Kp qs H' H2) (n : ∀ p, p ∈ qs → p ∈ ps ∧ ∃ o, H' p = some o ∧ Plain o) : Kt T ps H H2 := a.trans ((Kt.kp a.2 k fun p hp => (n p hp).2).mono fun p hp => (n p hp).1)
end RD
namespace RD
open PySem PySem.Spec PyProof.Rows L2 He
theorem rd_sumL {K : PySem.W.Frag} {H : Hp} {Q : VK} {a : Addr} {ns : List Int} (h : SqL K H a (ns.map V.int)) (q : Q (.int ns.sum) H) : rSum K [.ref a] H Q := ⟨a, ns, rfl, h, q⟩
end RD
namespace RD
open PySem PySem.Spec PyProof.Rows L2 He
/-! ### defs called with keywords, dicts of ints, dict comprehensions -/
structure CalKX (P : Program) (w : World) (K : PySem.W.Frag) (mg : Str → Option Value) (base : Heap) (CX : CXT) (k : Nat) (x : Str) (sp : Sp) (n : Nat) (ks : List Str) (gV : List V → List V → List V) : Prop where
  ex : ∃ (f : Addr) (fd : FuncData) (ps : List Str) (g : List Value → List Value → List Value), FnOk P w K mg base CX k f fd ps sp ∧ mg x = some (.ref f) ∧ PySem.W.keepIn K (.ref f) = true ∧ KBn K fd ps n ks g gV
theorem pe_calKX {X : Cx} {CX : CXT} {k j n : Nat} {x : Str} {sp : Sp} {E : XK} {ks : List Str} {gV : List V → List V → List V} {p pos : Pos} {e : Expr} {es : List Expr} {kws : List Keyword} {t tk : TA} (c : CalKX X.prog X.w X.K X.mg X.base CX k x sp n ks gV) (hr : Room j X.A) (hk : k ≤ j) (hg : Gl X x) (hx : Passes CX X E) (ha : PA X (e :: es) t) (hkw : PK X kws tk)
    (hall : (backToKw pos (keywordEach kws X.env)).all (·.1.isSome) = true := by rfl) (hks : (backToKw pos (keywordEach kws X.env)).filterMap (·.1) = ks := by rfl) (hdb : (x == ("__debug__" : Str)) = false := by decide)
    (he : starEach (e :: es) X.env = (false, eval e X.env) :: starEach es X.env := by rfl) (hpl : ((backTo pos (starEach (e :: es) X.env)).any (·.1) || (backToKw pos (keywordEach kws X.env)).any (·.1.isNone)) = false := by rfl) :
    PE X (.Call (.Name x p) (e :: es) kws pos) (tCallN n ks.length sp gV E t tk) := by
  obtain ⟨f, fd, ps, g, F, hm, kp, hb⟩ := c.ex
  exact pe_callN F (hr.mono hk) hg hm kp hb hx ha hkw hall hks hdb he hpl
/-- a dict with int keys, by the keys and a function -/
def dmap (xs : List Int) (f : Int → V) : List (Key × V) := xs.map fun x => (Sum.inl x, f x)
def fset {α : Type} (f : Int → α) (a : Int) (v : α) : Int → α := fun x => if x = a then v else f x
theorem dmap_val {f : Int → V} (a : Int) : ∀ xs : List Int, valV (dmap xs f) (.inl a) = if a ∈ xs then some (f a) else none
  | [] => rfl
  | x :: r => by
    have ih := dmap_val (f := f) a r
    unfold dmap at ih ⊢
    rw [List.map_cons]
    by_cases h : x = a
    · subst h
      rw [valV_pos rfl, if_pos (.head _)]
    · rw [valV_neg (fun e => h (Sum.inl.inj e)), ih]
      by_cases h2 : a ∈ r
      · rw [if_pos h2, if_pos (List.mem_cons_of_mem _ h2)]
      · rw [if_neg h2, if_neg (by simp [h2, Ne.symm h])]
theorem dmap_in {f : Int → V} {a : Int} {xs : List Int} (h : a ∈ xs) : valV (dmap xs f) (.inl a) = some (f a) := by rw [dmap_val, if_pos h]
theorem dmap_out {f : Int → V} {a : Int} {xs : List Int} (h : a ∉ xs) : valV (dmap xs f) (.inl a) = none := by rw [dmap_val, if_neg h]
theorem dmap_congr {f g : Int → V} {xs : List Int} (h : ∀ x, x ∈ xs → f x = g x) : dmap xs f = dmap xs g := List.map_congr_left fun x hx => by rw [h x hx]
theorem dmap_new {f : Int → V} {a : Int} {v : V} {xs : List Int} (h : a ∉ xs) : putK (dmap xs f) (.inl a) v = dmap (xs ++ [a]) (fset f a v) := by
  rw [putK_new _ (dmap_out h)]
  unfold dmap
  rw [List.map_append]
  congr 1
  · refine List.map_congr_left fun x hx => ?_
    unfold fset
    rw [if_neg (show ¬ x = a from fun e => h (e ▸ hx))]
  · unfold fset
    simp
theorem dmap_old {f : Int → V} {a : Int} {v : V} {xs : List Int} (h : a ∈ xs) : putK (dmap xs f) (.inl a) v = dmap xs (fset f a v) := by
  unfold putK dmap
  have e : ((xs.map fun x => ((Sum.inl x : Key), f x)).any fun p => decide (p.1 = Sum.inl a)) = true := by
    rw [List.any_eq_true]
    exact ⟨_, List.mem_map_of_mem h, decide_eq_true rfl⟩
  rw [if_pos (by simpa using e), List.map_map]
  refine List.map_congr_left fun x _ => ?_
  unfold fset
  by_cases hx : x = a
  · subst hx
    simp
  · simp [hx]
theorem dmap_len {f : Int → V} {xs : List Int} : (dmap xs f).length = xs.length := List.length_map _
theorem pickI {d : Int} (ns : List Int) (h0 : 0 ≤ d) (h1 : d < ns.length) : ∃ n, n ∈ ns ∧ atI (ns.map V.int) d = some (.int n) := by
  have h : d.toNat < ns.length := by omega
  refine ⟨ns[d.toNat], List.getElem_mem h, ?_⟩
  rw [atI_ints h0 h1, List.getD_eq_getElem?_getD, List.getElem?_eq_getElem h]
  rfl
end RD
namespace RD
open PySem PySem.Spec PyProof.Rows L2 He
section
variable {K : PySem.W.Frag} {σ : L2.St} {H : Hp} {tt : TT} {tk tv : TE} {Q : VK}
/-- what a dict comprehension over J asks -/
def DcG (J : It) (g : TG) (tt : TT) (tk tv : TE) (vs : List Nat) (σ : L2.St) (D : Addr) (Qd : Hp → Prop) (H1 : Hp) : Prop :=
  ∃ W : Nat → Nat → Hp → Prop, (∃ m, W 0 m (upd H1 D (.dK []))) ∧ ∀ i m H, W i m H →
  (J.stop i H ∧ Qd H) ∨ (J.go i H ∧ ∃ Nx : Hp → Prop, (∀ H', Nx H' → ∃ m', m' < m ∧ W (i + 1) m' H') ∧ ∀ x H', J.yld i H x H' → g x (wipe σ vs) H' fun σ2 H2 => wipe σ2 vs = wipe σ vs ∧ tt σ2 H2 fun b H3 =>
    if b = true then tk σ2 H3 fun y H4 => tv σ2 H4 fun z H5 => ∃ kvs k, y = kV k ∧ H5 D = some (.dK kvs) ∧ kvs.length < sizeLine ∧ Nx (upd H5 D (.dK (putK kvs k z))) else Nx H3)
theorem rd_dc {wi : TI} {g : TG} {vs : List Nat} (h : wi σ H fun J H1 => ∀ D, H1 D = none → DcG J g tt tk tv vs σ D (fun H => Q (.ref D) H) H1) : tDc wi g tt tk tv vs σ H Q := h
theorem dcL_ints {a D : Addr} {g : TG} {vs : List Nat} {Qd : Hp → Prop} (ns : List Int) (Pv : Nat → Hp → Prop) (h0 : Pv 0 (upd H D (.dK []))) (hl : ∀ i H, i ≤ ns.length → Pv i H → SqL K H a (ns.map V.int))
    (hs : ∀ (i : Nat) (h : i < ns.length) H, Pv i H → g (.int ns[i]) (wipe σ vs) H fun σ2 H2 => wipe σ2 vs = wipe σ vs ∧ tt σ2 H2 fun b H3 =>
      if b = true then tk σ2 H3 fun y H4 => tv σ2 H4 fun z H5 => ∃ kvs k, y = kV k ∧ H5 D = some (.dK kvs) ∧ kvs.length < sizeLine ∧ Pv (i + 1) (upd H5 D (.dK (putK kvs k z))) else Pv (i + 1) H3) (hd : ∀ H, Pv ns.length H → Qd H) : DcG (Itl K a) g tt tk tv vs σ D Qd H := by
  refine ⟨fun i m H => m = ns.length - i ∧ i ≤ ns.length ∧ Pv i H, ⟨ns.length, by simp, Nat.zero_le _, h0⟩, ?_⟩
  rintro i m H ⟨rfl, hi, p⟩
  have q := hl i H hi p
  by_cases hlt : i < ns.length
  · have e : (ns.map V.int)[i]? = some (.int ns[i]) := by
      rw [List.getElem?_map, List.getElem?_eq_getElem hlt]
      rfl
    refine .inr ⟨⟨_, _, q, e⟩, Pv (i + 1), fun H' p' => ⟨ns.length - (i + 1), by omega, rfl, hlt, p'⟩, fun x H' y => ?_⟩
    obtain ⟨rfl, hz⟩ := y
    have ex := hz _ q
    rw [e] at ex
    cases ex
    exact hs i hlt _ p
  · have e : i = ns.length := by omega
    subst e
    exact .inl ⟨⟨_, q, by rw [List.length_map]; exact Nat.le_refl _⟩, hd H p⟩
theorem rd_dictD {a : Addr} {kvs : List (Key × V)} (h : H a = some (.dK kvs)) (q : ∀ p, H p = none → Q (.ref p) (upd H p (.dK kvs))) : (∃ (a' : Addr) (kvs' : List (Key × V)), [V.ref a] = [.ref a'] ∧ Rd H a' (.dK kvs') ∧ ∀ p, H p = none → Q (.ref p) (upd H p (.dK kvs'))) := ⟨a, kvs, rfl, .inl h, q⟩
theorem dg_ii {a b : Addr} {kvs : List (List Key × V)} {s z : Int} (e : H a = some (.dT kvs)) (eb : H b = some (.tup [.int s, .int z])) : DGet H a (.ref b) (valV kvs [.inl s, .inl z]) := DGet.t (k := [.inl s, .inl z]) e eb
theorem dp_ii {a b : Addr} {kvs : List (List Key × V)} {s z : Int} {v : V} (e : H a = some (.dT kvs)) (eb : H b = some (.tup [.int s, .int z])) (l : kvs.length < sizeLine) : DPut H a (.ref b) v (upd H a (.dT (putK kvs [.inl s, .inl z] v))) := DPut.t (k := [.inl s, .inl z]) e eb l
end
/-- a table of numbers by two ints -/
structure Tab2 (H : Hp) (d : Addr) (g : Int → Int → Int) (m : Nat) : Prop where
  ex : ∃ kvs : List (List Key × V), H d = some (.dT kvs) ∧ kvs.length ≤ m ∧ ∀ s z, (valV kvs [.inl s, .inl z]).getD (.int 0) = .int (g s z)
theorem Tab2.kp {H H' : Hp} {d : Addr} {f : Int → Int → Int} {m : Nat} {ps : List Addr} (B : Tab2 H d f m) (k : Kp ps H H') (n : d ∉ ps) : Tab2 H' d f m := by
  obtain ⟨kvs, h1, h2, h3⟩ := B.ex
  exact ⟨kvs, k _ _ h1 n, h2, h3⟩
theorem Tab2.mono {H : Hp} {d : Addr} {f : Int → Int → Int} {m m' : Nat} (B : Tab2 H d f m) (h : m ≤ m') : Tab2 H d f m' := by
  obtain ⟨kvs, h1, h2, h3⟩ := B.ex
  exact ⟨kvs, h1, Nat.le_trans h2 h, h3⟩
theorem key2_iff {s a z b : Int} : ([Sum.inl a, Sum.inl b] : List Key) = [Sum.inl s, Sum.inl z] ↔ a = s ∧ b = z := by
  constructor
  · intro e
    injection e with e1 e2
    injection e2 with e3 _
    exact ⟨Sum.inl.inj e1, Sum.inl.inj e3⟩
  · rintro ⟨rfl, rfl⟩
    rfl
theorem tab2_put {kvs : List (List Key × V)} {f : Int → Int → Int} {s z v : Int} (h : ∀ s z, (valV kvs [.inl s, .inl z]).getD (.int 0) = .int (f s z)) :
    ∀ a b, (valV (putK kvs [.inl s, .inl z] (.int v)) [.inl a, .inl b]).getD (.int 0) = .int (if a = s ∧ b = z then v else f a b) := by
  intro a b
  rw [valV_put]
  by_cases e : a = s ∧ b = z
  · rw [if_pos e, if_pos (key2_iff.mpr e)]
    rfl
  · rw [if_neg e, if_neg (fun q => e (key2_iff.mp q))]
    exact h a b
end RD

/-! own layer: getters of properties in the head -/
namespace RD
open PySem PySem.Spec PyProof.Rows L2 He
/-- the property object of the class's name, its getter -/
def prA (K : PySem.W.Frag) (c f : Str) : Addr := ma K (ga K c) f
def prG (K : PySem.W.Frag) (c f : Str) : Addr := match PySem.W.recIn K (prA K c f) "property" with
  | some (.ref g :: _) => g
  | _ => 0
def propB (K : PySem.W.Frag) (c f : Str) : Bool :=
  eqO (PySem.W.findIn K (.ref (ga K c)) f) (some (some (.ref (prA K c f)))) && (eqO (PySem.W.specialIn K (.ref (prA K c f)) "__get__") (some (some (.builtin "property.__get__"))) && (decide (PySem.W.takesIn K (.ref (prA K c f)) = some true) && (match PySem.W.recIn K (prA K c f) "property" with
    | some (.ref g :: _) => decide (g = prG K c f)
    | _ => false)))
theorem propB_ok {K : PySem.W.Frag} {c f : Str} (h : propB K c f = true) : PropOf K (ga K c) f (prA K c f) (prG K c f) := by
  obtain ⟨h1, h2⟩ := ba h
  obtain ⟨h3, h4⟩ := ba h2
  obtain ⟨h5, h6⟩ := ba h4
  refine ⟨eqO_ok h1, eqO_ok h3, of_decide_eq_true h5, ?_⟩
  cases e : PySem.W.recIn K (prA K c f) "property" with
  | none =>
    rw [e] at h6
    cases h6
  | some l =>
    rw [e] at h6
    cases l with
    | nil => cases h6
    | cons v r =>
      cases v with
      | ref g =>
        have h7 : g = prG K c f := of_decide_eq_true h6
        exact ⟨r, by rw [h7]⟩
      | _ => cases h6
/-- a property's getter: its class and name, and the def -/
structure GetD where
  cls : Str
  fld : Str
  name : Str
  qual : Str
  params : Arguments
  body : List Stmt
  scope : Scope
def GetD.seen (K : PySem.W.Frag) (d : GetD) : FnW := match K.lookup (prG K d.cls d.fld) with
  | some ⟨_, _, .func fd, _⟩ => some (fd.name, fd.qualname, fd.params, fd.body, fd.scope, fd.globals, fd.closure, fd.builtins)
  | _ => none
def GetD.val (d : GetD) : FnW := some (d.name, d.qual, d.params, .stmts d.body, d.scope, mainGlobals, [], builtinsNs)
def GetD.ok (K : PySem.W.Frag) (d : GetD) : Bool := propB K d.cls d.fld && (PySem.W.keepIn K (.ref (prG K d.cls d.fld)) && (match K.lookup (prG K d.cls d.fld) with
  | some ⟨_, _, .func fd, _⟩ => PySem.W.codeIn K fd.code d.qual && (dflB K fd.defaults [] && kwdB K fd.kwdefaults [])
  | _ => false))
theorem GetD.funD {K : PySem.W.Frag} {d : GetD} (e : d.seen K = d.val) (c : d.ok K = true) : PropOf K (ga K d.cls) d.fld (prA K d.cls d.fld) (prG K d.cls d.fld) ∧ ∃ fd, FunD K d.name d.qual d.params d.body d.scope [] [] (prG K d.cls d.fld) fd := by
  obtain ⟨c0, c1⟩ := ba c
  obtain ⟨kp, c2⟩ := ba c1
  refine ⟨propB_ok c0, ?_⟩
  unfold GetD.seen at e
  cases q : K.lookup (prG K d.cls d.fld) with
  | none =>
    rw [q] at c2
    cases c2
  | some o =>
    obtain ⟨oc, od, dt, osl⟩ := o
    rw [q] at c2 e
    cases dt with
    | func fd =>
      obtain ⟨n1, n2, n3, n4, n5, n6, n7, n8, n9, n10, n11, n12, n13, n14, n15⟩ := fd
      have e2 : (some (n1, n2, n3, n4, n5, n6, n7, n15) : FnW) = some (d.name, d.qual, d.params, .stmts d.body, d.scope, mainGlobals, [], builtinsNs) := e
      injection e2 with e2
      simp only [Prod.mk.injEq] at e2
      obtain ⟨a1, a2, a3, a4, a5, a6, a7, a8⟩ := e2
      subst a1 a2 a3 a4 a5 a6 a7 a8
      have c3 : (PySem.W.codeIn K n13 d.qual && (dflB K n8 [] && kwdB K n9 [])) = true := c2
      obtain ⟨k1, k2⟩ := ba c3
      obtain ⟨k3, k4⟩ := ba k2
      exact ⟨_, ⟨oc, od, n8, n9, n10, n11, n12, n13, n14, osl, rfl, q, k1, dflB_ok k3, kwdB_ok k4⟩, kp⟩
    | _ => cases c2
/-- the head of a law with properties and tables -/
abbrev AlP : Type := AlX × (Bool × List FnW)
def obsP (n : Nat) (fa : List Fa) (fn : List DefD) (gs : List GetD) (tf : List Defn) (ex : PySem.W.Frag → Bool) (g : Addr → Option Obj) : AlP := (obsX n fa fn [] tf ex g, (gs.all (GetD.ok (frT g (asD g n))), gs.map (GetD.seen (frT g (asD g n)))))
structure SaysP (fa : List Fa) (fn : List DefD) (gs : List GetD) (tf : List Defn) (ex : PySem.W.Frag → Bool) (w : World) (h : Heap) (K : PySem.W.Frag) : Prop where
  x : SaysX fa fn [] tf ex w h K
  ok : gs.all (GetD.ok K) = true
  seen : gs.map (GetD.seen K) = gs.map GetD.val
def hookP (n : Nat) (fa : List Fa) (fn : List DefD) (gs : List GetD) (tf : List Defn) (ex : PySem.W.Frag → Bool) : PySem.W.Hook where
  α := AlP
  obs := fun s => obsP n fa fn gs tf ex s.heap.get?
  val := fun w => (valX fn [] w, (true, gs.map GetD.val))
  says := fun w h => ∃ K : PySem.W.Frag, K.In h ∧ SaysP fa fn gs tf ex w h K
  of := fun _ _ e => ⟨_, frT_in, saysX_of (congrArg (fun z : AlP => z.1) e), congrArg (fun z : AlP => z.2.1) e, congrArg (fun z : AlP => z.2.2) e⟩
  keeps := fun _ _ _ ⟨K, hK, c⟩ k => ⟨K, PySem.W.Frag.In.keeps hK k, ⟨⟨c.x.t, c.x.more, c.x.hd, c.x.out, fun p hp => k _ _ (c.x.empty p hp)⟩, c.ok, c.seen⟩⟩
theorem obsP_eq {n : Nat} {fa : List Fa} {fn : List DefD} {gs : List GetD} {tf : List Defn} {ex : PySem.W.Frag → Bool} {g : Addr → Option Obj} {s : Shared} (h : ∀ a, g a = s.heap.get? a) : obsP n fa fn gs tf ex g = (hookP n fa fn gs tf ex).obs s := by
  have e : g = s.heap.get? := funext h
  rw [e] <;> rfl
theorem SaysP.get {fa : List Fa} {fn : List DefD} {gs : List GetD} {tf : List Defn} {ex : PySem.W.Frag → Bool} {w : World} {h : Heap} {K : PySem.W.Frag} (c : SaysP fa fn gs tf ex w h K) {d : GetD} (hd : d ∈ gs) :
    PropOf K (ga K d.cls) d.fld (prA K d.cls d.fld) (prG K d.cls d.fld) ∧ ∃ fd, FunD K d.name d.qual d.params d.body d.scope [] [] (prG K d.cls d.fld) fd := by
  obtain ⟨i, hi, e⟩ := List.mem_iff_getElem.mp hd
  have e1 := congrArg (fun l : List FnW => l[i]?) c.seen
  have e2 : gs[i]? = some d := by rw [List.getElem?_eq_getElem hi, e]
  simp only [List.getElem?_map, e2, Option.map_some, Option.some.injEq] at e1
  exact GetD.funD e1 (List.all_eq_true.mp c.ok d hd)
/-- a property in one piece -/
structure PrpX (P : Program) (w : World) (K : PySem.W.Frag) (mg : Str → Option Value) (base : Heap) (CX : CXT) (k : Nat) (C : Addr) (f : Str) (sp : Sp) : Prop where
  ex : ∃ (p g : Addr) (fd : FuncData) (ps : List Str), Cls K C ∧ PropOf K C f p g ∧ FnOk P w K mg base CX k g fd ps sp ∧ Binds K fd ps []
theorem pe_prpX {X : Cx} {CX : CXT} {k j : Nat} {C : Addr} {f : Str} {sp : Sp} {E : XK} {e : Expr} {pos : Pos} {ta : TE} (c : PrpX X.prog X.w X.K X.mg X.base CX k C f sp) (hr : Room j X.A) (hk : k + 1 ≤ j) (hx : Passes CX X.nox E) (he : PE X e ta)
    (hab : attributeBase e f X.env (eval e X.env) = eval e X.env := by rfl) : PE X (.Attribute e f pos) (tProp C sp [] E ta) := by
  obtain ⟨p, g, fd, ps, cl, hp, F, b⟩ := c.ex
  exact pe_prop he cl hp F (hr.mono hk) b .nil hx hab
end RD

/-! own layer: own exceptions over an own base over ValueError, whose __init__ says super().__init__(text) and sets one field (or none) -/
namespace PySem
namespace ErrX
open PySem.W PySem.Calls PyProof.Rows PySem.HandSPX
/-! ### the text of __init__ -/
def eA1 (f : Str) (p1 p2 : Pos) : Arguments := { posonlyargs := [], args := [{ arg := "self", annotation := none, pos := p1 }, { arg := f, annotation := none, pos := p2 }], vararg := none, kwonlyargs := [], kw_defaults := [], kwarg := none, defaults := [] }
def eSup (txt : Str) (r1 r2 r3 r4 r5 r6 : Pos) : Stmt := .Expr (.Call (.Attribute (.Call (.Name "super" r1) [] [] r2) "__init__" r3) [.Constant (.str txt) 0 r4] [] r5) r6
def eB1 (f txt : Str) (r1 r2 r3 r4 r5 r6 q1 q2 q3 q4 : Pos) : List Stmt := [eSup txt r1 r2 r3 r4 r5 r6, .Assign [.Attribute (.Name "self" q1) f q2] (.Name f q3) q4]
def eS1 (f : Str) : Scope := { kind := .function, names := [(PySem.Str.ofString "self", .local), (f, .local), (PySem.Str.ofString "__class__", .free), (PySem.Str.ofString "super", .globalImplicit)], isGenerator := false, isCoroutine := false, more := [] }
/-- what the written part says of the class x, at C, its field f -/
structure ErrT (P : Program) (K : Frag) (mg : Str → Option Value) (x f : Str) (C : Addr) : Prop where
  gC : mg x = some (.ref C)
  gS : mg "super" = none
  top : (P.main.scope.names.lookup ("super" : Str)).isSome = false
  f1 : (f == ("self" : Str)) = false
  f2 : (("self" : Str) == f) = false
  f3 : (("super" : Str) == f) = false
  f4 : (("__class__" : Str) == f) = false
  f5 : (f == ("__debug__" : Str)) = false
  cls : ∃ nm q N bs bm sn sub ab col dd k0 k1 k2 k3 k5, K.lookup C = some (excClassObj nm q C N bs bm true sn sub ab col dd k0 k1 k2 k3 k5 "ValueError.__new__") ∧ refsVE bm = true
  sa : findIn K (.ref C) "__setattr__" = some (some (.builtin "object.__setattr__"))
  noN : findIn K (.ref C) f = some none
  kC : keepIn K (.ref C) = true
  exC : subIn K (.ref C) (.type "BaseException") = some true
  tyC : typeIn K (.ref C) = some (.type "type")
  slf : mroIn K C (.ref C) = some true
  veC : subIn K (.ref C) (.type "ValueError") = some true
  sup : ks_superIn K C C "__init__" = some (some (.builtin "ValueError.__init__"))
  st : nsIn K cStatics "thirdparty.any" = some none
  fn : ∃ (fI cc cda : Addr) (oc : Value) (od : Option Addr) (doc pm : Value) (an : Option Addr) (ct : Value) (osl : Array (Option Value)) (qual txt : Str) (p1 p2 r1 r2 r3 r4 r5 r6 q1 q2 q3 q4 : Pos),
    findIn K (.ref C) "__init__" = some (some (.ref fI)) ∧ typeIn K (.ref fI) = some (.type "function") ∧ (r3.endLine == r5.line) = true ∧
    K.lookup fI = some ⟨oc, od, .func (ksFn "__init__" qual (eA1 f p1 p2) (eB1 f txt r1 r2 r3 r4 r5 r6 q1 q2 q3 q4) (eS1 f) .none .none doc pm an (.ref cda) ct cc), osl⟩ ∧ codeIn K (.ref cda) qual = true ∧
    (∃ ccl cdd vs ccs file tf, K.lookup cda = some ⟨ccl, cdd, .fields vs, ccs⟩ ∧ vs[2]? = some (.str file tf) ∧ ((P.main.file : Str) == file) = true) ∧ ∃ cl cld csl, K.lookup cc = some ⟨cl, cld, .cell (some (.ref C)), csl⟩
theorem one_size (v : Value) : [v].length ≤ sizeLine := by
  rw [sizeLine_eq]
  exact (by decide : 1 ≤ 16777216)
/-- what __init__ leaves of a fresh exception at x -/
structure InitEnd (h h' : Heap) (x C dx : Addr) (f : Str) (v : Value) : Prop where
  keep : ∀ b o, b ≠ x → h.get? b = some o → h'.get? b = some o
  obj : ∃ t1 : Addr, h'.get? x = some { cls := .ref C, dict := some dx, data := .fields #[.ref t1, .none, .none, .none, .bool false, .none] }
  dbig : h.objs.size ≤ dx
  dne : dx ≠ x
  ns : h'.Ns1 dx (fun y => if y = f then some v else none)
/-- a made exception -/
structure OwnMade (h h' : Heap) (e C d : Addr) (f : Str) (v : Value) : Prop where
  keep : ∀ b o, h.get? b = some o → h'.get? b = some o
  new : h.objs.size ≤ e
  obj : ∃ oe vs, h'.get? e = some oe ∧ oe.cls = .ref C ∧ oe.dict = some d ∧ oe.data = .fields vs ∧ vs[1]? = some .none
  dbig : h.objs.size ≤ d
  dne : d ≠ e
  ns : h'.Ns1 d (fun y => if y = f then some v else none)
section
variable {prog : Program} {w : World} {A : Around} {E : Value → Shared → Prop} {R : Result → Shared → Prop} {s : Shared} {K : Frag} {mg : Str → Option Value} {x f : Str} {C : Addr}
theorem sup_eval {o : Expr} {m txt : Str} {r3 r4 r5 : Pos} {env : Env} (hl : (r3.endLine == r5.line) = true) : eval (.Call (.Attribute o m r3) [.Constant (.str txt) 0 r4] [] r5) env = (do
      let ov ← attributeBase o m env (eval o env)
      standAt r3.atName
      let (f, first) ← holding [ov] (getMethod ov m (L2.plainOf o env))
      callWith r5 f first (backTo r5 (starEach [.Constant (.str txt) 0 r4] env)) []) := by
  show (do
      let ov ← attributeBase o m env (eval o env)
      standAt r3.atName
      methodCall o m r3 r5 env ov 1 (backTo r5 (starEach [.Constant (.str txt) 0 r4] env)) []) = _
  have e : ∀ ov, methodCall o m r3 r5 env ov 1 (backTo r5 (starEach [.Constant (.str txt) 0 r4] env)) [] = _ := fun ov => L2.mcall_line (n := 1) (by rfl) hl
  simp only [e]
/-- super().__init__(text) -/
theorem sup_init {name : Str} {scope : Scope} {body : List Stmt} {fI cc cda L e t0 : Addr} {txt : Str} {r1 r2 r3 r4 r5 r6 : Pos} {fd : FuncData} {of : Obj} {p1 : Pos} {as : List Arg} {Q : Flow → Shared → Prop} {h : Heap} {g : Array GenState} {d : Drawn} {t : Nat} {os : OsState} {m : Str → Option Value} {vs : Array Value} {file : Str} {tf : Tok} {occ : Obj}
    (hks : scope.names.lookup ("super" : Str) = some .globalImplicit) (hkc : scope.names.lookup ("__class__" : Str) = some .free) (hka : scope.names.lookup ("self" : Str) = some .local) (hk : scope.kind = .function) (hin : interactive (ksEnv name scope L fI (.ref cda) cc) = false) (hl : (r3.endLine == r5.line) = true)
    (gS : mg "super" = none) (top : (prog.main.scope.names.lookup ("super" : Str)).isSome = false) (slf : mroIn K C (.ref C) = some true) (veC : subIn K (.ref C) (.type "ValueError") = some true)
    (sup : ks_superIn K C C "__init__" = some (some (.builtin "ValueError.__init__"))) (st : nsIn K cStatics "thirdparty.any" = some none)
    (hcls : ∃ nm q N bs bm sn sub ab col dd k0 k1 k2 k3 k5, K.lookup C = some (excClassObj nm q C N bs bm true sn sub ab col dd k0 k1 k2 k3 k5 "ValueError.__new__") ∧ refsVE bm = true)
    (X : K.In h) (hg : h.Ns mainGlobals mg) (hb : ∃ mb, h.Ns builtinsNs mb ∧ mb "super" = bootBuiltins "super")
    (hf : h.get? fI = some of) (hfd : of.data = .func fd) (hp : fd.params = { posonlyargs := [], args := { arg := "self", annotation := none, pos := p1 } :: as, vararg := none, kwonlyargs := [], kw_defaults := [], kwarg := none, defaults := [] })
    (hcc : h.get? cda = some occ) (hoc : occ.data = .fields vs) (hvs : vs[2]? = some (.str file tf)) (hfile : ((prog.main.file : Str) == file) = true) (hcell : h.IsCell cc (some (.ref C)))
    (hns : h.Ns L m) (hm : m "self" = some (.ref e)) (he : h.get? e = some (excO C t0)) (heL : e ≠ L)
    (hq : ∀ h' tk t1, (∀ b o, b ≠ e → h.get? b = some o → h'.get? b = some o) → h'.get? e = some (excO C t1) → Q .next ⟨h', g, d, tk, os⟩) :
    _root_.PySem.wpAt (model prog w) A (.func body (ksEnv name scope L fI (.ref cda) cc)) (exec (eSup txt r1 r2 r3 r4 r5 r6) (ksEnv name scope L fI (.ref cda) cc)) Q E ⟨h, g, d, t, os⟩ := by
  obtain ⟨nm, q, N, bs, bm, sn, sub, ab, col, dd, k0, k1, k2, k3, k5, hC, hbm⟩ := hcls
  have hcl : clsIn K C = some { name := nm, bases := bs, mro := .ref C :: bm, ns := N, qualname := q, hasDict := true, slotNames := sn, subclasses := sub, abstract := ab, collection := col, hasDel := false } := by unfold clsIn; rw [hC] <;> rfl
  obtain ⟨mb, hbn, hbs⟩ := hb
  have hCo : h.get? C = some (excClassObj nm q C N bs bm true sn sub ab col dd k0 k1 k2 k3 k5 "ValueError.__new__") := X _ _ hC
  have hne : e ≠ C := fun z => by
    rw [z, hCo] at he
    cases he
  unfold eSup
  refine ks_wpAt_Expr_any (ks_wpAt_MethodCall ?_ (sup_eval hl)) hin
  refine ks_wpAt_super_base (env := ksEnv name scope L fI (.ref cda) cc) (ar := { arg := "self", annotation := none, pos := p1 }) hks hkc (by decide) rfl hf hfd (by rw [hp] <;> rfl) rfl hcc hoc hvs hfile top ?_
  refine ks_loadName_global hk hks (loadGlobal_builtin (env := ksEnv name scope L fI (.ref cda) cc) hg gS hbn (hbs.trans (by rfl)) ⟨rfl, ?_⟩)
  refine wpAny_loadName_free hk hkc rfl hcell ?_
  refine wpAny_loadName_local hk hka hns hm ?_
  refine ks_wpAny_isType_cls hCo rfl ⟨rfl, ?_⟩
  refine ks_wpAny_call_super hCo rfl he rfl (fun c z => by cases z) (looks_mroIn X slf) (fun h1 e1 k => ?_)
  have X1 : K.In h1 := X.keeps k
  have he1 := k _ _ he
  have I1 : InstAt h1 e (excO C t0) C none := ⟨he1, rfl, rfl, trivial⟩
  have hI : Looks (model prog w) h1 (isInstance (.ref e) (.type "ValueError")) true := I1.type.andThen (looks_subIn X1 veC)
  have hal : alongIn K "__init__" ((((Value.ref C :: bm).dropWhile (· != .ref C)).drop 1)) = some (some (.builtin "ValueError.__init__")) := by
    have z := sup
    unfold ks_superIn at z
    rw [hcl] at z
    exact z
  refine kxs_getMethod kxs_ValueError (l₀ := Value.ref C :: bm) e1 (looks_opaque X1 st) (fun A Q E s k q => wpAny_bind ((looks_clsIn X1 hcl) A _ E s k (wpAny_pure q))) rfl X1 hal hI hne (by decide) ?_
  have k2 : ∀ b o, h1.get? b = some o → (h1.push (kxs_mw "ValueError.__init__" e)).get? b = some o := fun b o z => Heap.get?_push_of_some _ z
  have hu : (h1.push (kxs_mw "ValueError.__init__" e)).get? h1.objs.size = some (kxs_mw "ValueError.__init__" e) := Heap.get?_push_at rfl rfl
  refine kxs_callWith (i := "ValueError.__init__") (x := e) (by rfl) (Calls.evalArgs_plain (Calls.spliced_cons (Calls.Constant_str (k := 0) (pos := r4) ?_)))
  refine Calls.spliced_nil ⟨hu, ?_⟩
  show wpAny _ _ (call (.ref h1.objs.size) [.str txt _]) _ _ _
  have he2 := k2 _ _ he1
  have hC2 := k2 _ _ (k _ _ hCo)
  refine wpAny_call (codeAny_of_tree ?_)
  show wpAny _ _ (callAny (.ref h1.objs.size) ⟨[.str txt _], []⟩) _ _ _
  simp only [callAny]
  refine wpAny_bind (wpAny_load hu ?_)
  simp only [kxs_mw, show (Value.type "method-wrapper" == Value.type "method" || Value.type "method-wrapper" == Value.type "builtin_function_or_method" || Value.type "method-wrapper" == Value.type "method-wrapper") = true by decide, if_true]
  refine KFB.if_so (by decide) ?_
  refine wpAny_bind (check_bound_init F.excBase_ValueError.toExcCallFacts hC2 he2 rfl ?_)
  refine wpAny_bind (wpAny_pure (wpAny_pure ?_))
  refine ⟨plainId_quiet F.excBase_ValueError.init.plain _, codeAny_builtin F.excBase_ValueError.initEntry ?_⟩
  refine exc_init_tree (cls := .ref C) (t0 := t0) (dv := none) (c2 := .none) (c3 := .none) (b4 := .bool false) he2 (one_size _) fun h3 k3 e3 _ => ?_
  exact hq h3 _ _ (fun b o hbe z => k3 b o hbe (k2 _ _ (k _ _ z))) e3
theorem ldK {name : Str} {scope : Scope} {L a cc : Addr} {cd : Value} {M : Model} {m : Str → Option Value} {y : Str} {pos : Pos} {v : Value} {Q : Value → Shared → Prop} (hn : s.heap.Ns L m) (hv : m y = some v) (h : Q v s)
    (hk : scope.kind = .function) (hl : scope.names.lookup y = some .local) (hd : (y == ("__debug__" : Str)) = false) :
    wpAny M A (eval (.Name y pos) (ksEnv name scope L a cd cc)) Q E s := wpAny_Name (wpAny_loadName_local (env := ksEnv name scope L a cd cc) hk hl hn hv h) hd
theorem err_init (T : ErrT prog K mg x f C) {fI e t0 : Addr} {v : Value} (hi : findIn K (.ref C) "__init__" = some (some (.ref fI))) (X : K.In s.heap) (hg : s.heap.Ns mainGlobals mg) (hb : ∃ mb, s.heap.Ns builtinsNs mb ∧ mb "super" = bootBuiltins "super") (hlim : s.heap.NoLimit) (hx : s.heap.get? e = some (excO C t0)) (nx : K.lookup e = none)
    (hroom : A.depth < recursionLimit) (hq : ∀ h' tk dx, InitEnd s.heap h' e C dx f v → R (.ok (.ret .none)) { s with heap := h', toks := tk }) :
    codeAny (model prog w) A (.call (.ref fI) ⟨[.ref e, v], []⟩) R s := by
  obtain ⟨fI', cc, cda, oc, od, doc, pm, an, ct, osl, qual, txt, p1, p2, r1, r2, r3, r4, r5, r6, q1, q2, q3, q4, hi', tI, hl, ho, hcd, ⟨ccl, cdd, vs, ccs, file, tf, hcda, hvs, hfile⟩, cl, cld, csl, hcell⟩ := T.fn
  rw [hi] at hi'
  cases hi'
  obtain ⟨nm, q, N, bs, bm, sn, sub, ab, col, dd, k0, k1, k2, k3, k5, hC, hbm⟩ := id T.cls
  have hcl : clsIn K C = some { name := nm, bases := bs, mro := .ref C :: bm, ns := N, qualname := q, hasDict := true, slotNames := sn, subclasses := sub, abstract := ab, collection := col, hasDel := false } := by unfold clsIn; rw [hC] <;> rfl
  obtain ⟨b1, b2, b3, b4, b5⟩ := (⟨T.f1, T.f2, T.f3, T.f4, T.f5⟩ : (f == ("self" : Str)) = false ∧ (("self" : Str) == f) = false ∧ (("super" : Str) == f) = false ∧ (("__class__" : Str) == f) = false ∧ (f == ("__debug__" : Str)) = false)
  have lf : (eS1 f).names.lookup f = some .local := by
    show List.lookup f [(PySem.Str.ofString "self", NameKind.local), (f, .local), _, _] = _
    simp [List.lookup, b1]
  have ls : (eS1 f).names.lookup ("super" : Str) = some .globalImplicit := by
    show List.lookup ("super" : Str) [(("self" : Str), NameKind.local), (f, .local), (("__class__" : Str), .free), (("super" : Str), .globalImplicit)] = _
    have e1 : (("super" : Str) == ("self" : Str)) = false := by decide
    have e2 : (("super" : Str) == ("__class__" : Str)) = false := by decide
    simp [List.lookup, b3, e1, e2]
  have lc : (eS1 f).names.lookup ("__class__" : Str) = some .free := by
    show List.lookup ("__class__" : Str) [(("self" : Str), NameKind.local), (f, .local), (("__class__" : Str), .free), (("super" : Str), .globalImplicit)] = _
    have e1 : (("__class__" : Str) == ("self" : Str)) = false := by decide
    simp [List.lookup, b4, e1]
  have lse : (eS1 f).names.lookup ("self" : Str) = some .local := rfl
  have bd : bindArgs (ksFn "__init__" qual (eA1 f p1 p2) (eB1 f txt r1 r2 r3 r4 r5 r6 q1 q2 q3 q4) (eS1 f) .none .none doc pm an (.ref cda) ct cc) ⟨[.ref e, v], []⟩ = pure [(("self" : Str), .ref e), (f, v)] := by
    have z1 : (List.lookup ("self" : Str) [(("self" : Str), Value.ref e), (f, v)]).isNone = false := by simp [List.lookup]
    have z2 : (List.lookup f [(("self" : Str), Value.ref e), (f, v)]).isNone = false := by simp [List.lookup, b1]
    unfold bindArgs
    simp [eA1, seqItems?, z1, z2, List.lookup, b1]
    rfl
  refine ks_codeAny_call_defAt (fd := ksFn "__init__" qual (eA1 f p1 p2) (eB1 f txt r1 r2 r3 r4 r5 r6 q1 q2 q3 q4) (eS1 f) .none .none doc pm an (.ref cda) ct cc) (body := eB1 f txt r1 r2 r3 r4 r5 r6 q1 q2 q3 q4) (binds := [(("self" : Str), .ref e), (f, v)]) hroom (X _ _ ho) rfl hlim (codeRec_of X hcd) rfl (BindsTo.of_eq bd)
    (fun y hy => ?_) (fun y hy => ?_) (fun h₁ hns hk₁ => ?_) rfl rfl rfl
  · have hy : y ∈ [(("self" : Str), NameKind.local), (f, .local), (("__class__" : Str), .free), (("super" : Str), .globalImplicit)] := hy
    simp only [List.mem_cons, List.not_mem_nil, or_false] at hy
    rcases hy with rfl | rfl | rfl | rfl <;> (intro z; cases z)
  · simp only [List.mem_cons, List.not_mem_nil, or_false] at hy
    rcases hy with rfl | rfl
    · exact lse
    · exact lf
  have X₁ : K.In h₁ := X.keeps hk₁
  have ms : ([(("self" : Str), Value.ref e), (f, v)] : List (Str × Value)).reverse.lookup ("self" : Str) = some (.ref e) := by
    show List.lookup ("self" : Str) [(f, v), (("self" : Str), Value.ref e)] = _
    simp [List.lookup, b2]
  have mf : ([(("self" : Str), Value.ref e), (f, v)] : List (Str × Value)).reverse.lookup f = some v := by
    show List.lookup f [(f, v), (("self" : Str), Value.ref e)] = _
    simp [List.lookup]
  have hxL : e ≠ s.heap.objs.size := Nat.ne_of_lt (Heap.lt_size hx)
  obtain ⟨mb, hb1, hb2⟩ := hb
  refine ks_wpAt_execs_cons (sup_init (K := K) (mg := mg) (C := C) (fd := ksFn "__init__" qual (eA1 f p1 p2) (eB1 f txt r1 r2 r3 r4 r5 r6 q1 q2 q3 q4) (eS1 f) .none .none doc pm an (.ref cda) ct cc) ls lc lse rfl rfl hl T.gS T.top T.slf T.veC T.sup T.st T.cls X₁ (hg.keeps hk₁) ⟨mb, hb1.keeps hk₁, hb2⟩ (hk₁ _ _ (X _ _ ho)) rfl rfl (hk₁ _ _ (X _ _ hcda)) rfl hvs hfile ⟨_, hk₁ _ _ (X _ _ hcell), rfl⟩ hns ms (hk₁ _ _ hx) hxL fun h2 tk2 t1 kp2 he2 => ?_)
  have hns2 : h2.Ns s.heap.objs.size fun y => ([(("self" : Str), Value.ref e), (f, v)] : List (Str × Value)).reverse.lookup y := by
    obtain ⟨oL, es, ep, hL, r⟩ := hns
    exact ⟨oL, es, ep, kp2 _ _ (Ne.symm hxL) hL, r⟩
  have X2 : K.In h2 := fun a o z => kp2 a o (fun y => by rw [y, nx] at z; cases z) (X₁ _ _ z)
  show _root_.PySem.wpAt _ _ _ (execs _ _) _ _ _
  refine wpAt_of_wpAny (wpAny_execs_cons (plainObj_wpAny_Assign_Attribute ?_))
  refine ldK (v := v) hns2 mf (ldK (v := .ref e) hns2 ms ?_ rfl lse (by decide)) rfl lf b5
  refine set_plain X2 (ox := excO C t1) (od := none) ⟨he2, rfl, rfl, trivial⟩ T.sa ?_
  refine exc_osa X2 he2 hcl (show refsVE (.ref C :: bm) = true from hbm) rfl T.noN (fun h₃ tk₃ dx k₃ dn dne hx₃ hn₃ => ?_)
  show wpAny _ _ (execs _ _) _ _ _
  have z : s.heap.objs.size < h₁.objs.size := hns.lt
  have z2 : s.heap.objs.size < h2.objs.size := hns2.lt
  exact wpAny_execs_nil (hq h₃ tk₃ dx ⟨fun b o hb y => k₃ b o hb (kp2 b o hb (hk₁ b o y)), ⟨t1, hx₃⟩, Nat.le_of_lt (Nat.lt_of_lt_of_le z2 dn), dne, hn₃⟩)
theorem err_made (T : ErrT prog K mg x f C) {v : Value} (X : K.In s.heap) (hg : s.heap.Ns mainGlobals mg) (hb : ∃ mb, s.heap.Ns builtinsNs mb ∧ mb "super" = bootBuiltins "super") (hlim : s.heap.NoLimit) (hroom : A.depth + 1 < recursionLimit)
    (hq : ∀ h' tk e d, OwnMade s.heap h' e C d f v → R (.ok (.ret (.ref e))) { s with heap := h', toks := tk }) :
    codeAny (model prog w) A (.call (.ref C) ⟨[v], []⟩) R s := by
  obtain ⟨nm, q, N, bs, bm, sn, sub, ab, col, dd, k0, k1, k2, k3, k5, hC, hbm⟩ := T.cls
  obtain ⟨fI, cc, cda, oc, od, doc, pm, an, ct, osl, qual, txt, p1, p2, r1, r2, r3, r4, r5, r6, q1, q2, q3, q4, hi, tI, -⟩ := T.fn
  obtain ⟨hp, g, dr, tk, os⟩ := s
  have k : ∀ b o, hp.get? b = some o → ((hp.push (kdv_tup [v])).push (excO C hp.objs.size)).get? b = some o := fun b o e => Heap.get?_push_of_some _ (Heap.get?_push_of_some _ e)
  have hget : ((hp.push (kdv_tup [v])).push (excO C hp.objs.size)).get? (hp.objs.size + 1) = some (excO C hp.objs.size) := by heap_get
  have hnx : K.lookup (hp.objs.size + 1) = none := by
    cases e : K.lookup (hp.objs.size + 1) with
    | none => rfl
    | some o =>
      have z : hp.get? (hp.objs.size + 1) = some o := X _ _ e
      exact absurd (Nat.lt_of_succ_lt (Heap.lt_size z)) (Nat.lt_irrefl _)
  obtain ⟨mb, hb1, hb2⟩ := hb
  refine call_own F.excBase_ValueError (fun X => refsVE_contains X bm hbm) (X _ _ hC) (looks_findIn X hi) (fun self => bind_fn X self tI) (one_size v) ?_
  refine err_init (s := ⟨(hp.push (kdv_tup [v])).push (excO C hp.objs.size), g, dr, tk, os⟩) T hi (X.keeps k) (hg.keeps k) ⟨mb, hb1.keeps k, hb2⟩ (hlim.keeps k) hget hnx ?_ fun h' tk' dx ⟨k', ⟨t1, hx⟩, dn, dne, hns⟩ => ?_
  · show A.depth + 1 < recursionLimit
    exact hroom
  · have old : ∀ b o, hp.get? b = some o → h'.get? b = some o := fun b o e => k' b o (Nat.ne_of_lt (Nat.lt_succ_of_lt (Heap.lt_size e))) (k b o e)
    have z : hp.objs.size + 1 + 1 ≤ dx := by
      first
        | (simpa only [Heap.size_push] using dn)
        | exact dn
        | (have q := dn; rw [Heap.size_push, Heap.size_push] at q; exact q)
    exact ⟨rfl, hq h' tk' (hp.objs.size + 1) dx ⟨old, Nat.le_succ _, ⟨_, _, hx, rfl, rfl, rfl, rfl⟩, Nat.le_trans (Nat.le_trans (Nat.le_succ _) (Nat.le_succ _)) z, dne, hns⟩⟩
end
end ErrX
end PySem

namespace RD
open PySem PySem.Spec PyProof.Rows L2 He
theorem relO_one {f : Str} {v : V} {v' : Value} (r : RelV v v') (g : Str) : RelO (List.lookup g [(f, v)]) (if g = f then some v' else none) := by
  by_cases hw : g = f
  · subst hw
    rw [if_pos rfl]
    have q : List.lookup g [(g, v)] = some v := by simp [List.lookup]
    rw [q]
    exact r
  · rw [if_neg hw]
    have qw : (g == f) = false := by simpa using hw
    have q2 : List.lookup g [(f, v)] = none := by simp [List.lookup, qw]
    rw [q2]
    trivial
section
variable {X : Cx} {C : Addr} {x f : Str}
/-- x(e) -/
def tMkE (C : Addr) (f : Str) (ta : TA) : L2.St → Hp → XK → Prop := fun σ H Q => ta σ H fun vs H1 => ∃ v, vs = [v] ∧ ∀ d, H1 d = none → Q (.ref C) (some d) (upd H1 d (.xd [(f, v)]))
theorem pmk_err {a : Expr} {ta : TA} {p pos : Pos} {k : Nat} (T : PySem.ErrX.ErrT X.prog X.K X.mg x f C) (hr : Room k X.A) (ha : PA X [a] ta) (hg : Gl X x) (hdb : (x == ("__debug__" : Str)) = false := by decide)
    (he : starEach (a :: []) X.env = (false, eval a X.env) :: starEach [] X.env := by rfl) (hpl : (backTo pos (starEach [] X.env)).any (·.1) = false := by rfl) :
    PMk X (.Call (.Name x p) [a] [] pos) (tMkE C f ta) := by
  intro pins s σ H Q I h
  refine wpAny_Call_Name_kw (ld_glob I hg T.gC ?_ hdb)
  refine PySem.W.callWith_K (h₀ := X.base) I.ok.mod.kin T.kC (thn (ha.run pos pins s σ H _ I h) fun us s1 hh => ?_) he hpl
  obtain ⟨vs, H1, I1, r1, v, ev, q1⟩ := hh
  subst ev
  refine ⟨I1.kIn, ?_⟩
  cases r1 with
  | cons rv rn =>
    rename_i v' us'
    cases rn
    show wpAny _ _ (call (.ref C) [v']) _ _ _
    have hlim := I1.nolimit
    have hg1 := I1.mod.glob.keeps I1.bk
    obtain ⟨mb, hb1, hb2⟩ := I1.mod.blt
    have hb1 := hb1.keeps I1.bk
    have hb2 := hb2 "super" (by decide)
    obtain ⟨hp, g, dr, tk, os⟩ := s1
    refine wpAny_call (PySem.ErrX.err_made T I1.kIn hg1 ⟨mb, hb1, hb2⟩ hlim (by have := hr.dp; omega) fun h' tk' e d M => ?_)
    show MkP X pins σ Q (.ref e) ⟨h', g, dr, tk', os⟩
    obtain ⟨oe, fv, hoe, hc, hd, hdat, h1⟩ := M.obj
    have hns := M.ns
    obtain ⟨G', g1, g2⟩ := restrict h' fun b => decide (b ≠ e)
    have gk : ∀ b, b ≠ e → G'.get? b = h'.get? b := fun b hb => g1 b (decide_eq_true hb)
    have ge : G'.get? e = none := g2 e (by simp)
    have old : ∀ b o, hp.get? b = some o → G'.get? b = some o := fun b o q => (gk b (Nat.ne_of_lt (Nat.lt_of_lt_of_le (Heap.lt_size q) M.new))).trans (M.keep b o q)
    have ob : ObjOk X.prog X.w (upd H1 d (.xd [(f, v)])) G' d (.xd [(f, v)]) :=
      ⟨_, hns.at (fun o q => (gk d M.dne).trans q), fun g => relO_one rv g⟩
    have J : Inv X pins σ (upd H1 d (.xd [(f, v)])) ⟨G', g, dr, tk', os⟩ := I1.laid (t' := tk') old M.dbig ob
    refine ⟨e, oe, fv, ⟨G', g, dr, tk', os⟩, _, .ref C, some d, rfl, J, fun b o q => ?_, ge, hoe, ⟨hc, hd⟩, hdat, h1, ?_, rfl, I1.bare, raises_own T.exC T.tyC, q1 d (I1.hok.fresh M.dbig)⟩
    · by_cases hb : b = e
      · have q' : G'.get? b = some o := q
        rw [hb, ge] at q'; cases q'
      · exact (gk b hb).symm.trans q
    · rw [upd_ne (Ne.symm M.dne)]
      exact I1.hok.fresh M.new
/-- raise x(e) -/
def tRaiseE (C : Addr) (f : Str) (W : WX) (ta : TA) : TS := fun _ σ H => tMkE C f ta σ H fun cls d H' => W cls d σ H'
theorem ps_raiseE {a : Expr} {ta : TA} {W : WX} {p pos pos2 : Pos} {k : Nat} (hc : X.calm = true) (T : PySem.ErrX.ErrT X.prog X.K X.mg x f C) (hr : Room k X.A) (tk : Takes X W) (ha : PA X [a] ta) (hg : Gl X x) (hdb : (x == ("__debug__" : Str)) = false := by decide)
    (he : starEach (a :: []) X.env = (false, eval a X.env) :: starEach [] X.env := by rfl) (hpl : (backTo pos (starEach [] X.env)).any (·.1) = false := by rfl) :
    PS X (.Raise (some (.Call (.Name x p) [a] [] pos)) none pos2) (tRaiseE C f W ta) := ps_raise hc tk (pmk_err T hr ha hg hdb he hpl)
end
end RD

namespace PySem
namespace ErrX
open PySem.W PySem.Calls PyProof.Rows PySem.Spec
section
variable {prog : Program} {w : World} {A : Around} {E : Value → Shared → Prop} {s : Shared} {K : Frag} {x D : Addr} {ox : Obj} {od : Option Obj}
theorem findObj_dataO {C : Addr} {name : Str} {a g : Value} (hc : (clsIn K C).isSome = true) (ha : findIn K (.ref C) name = some (some a)) (hg : specialIn K a "__get__" = some (some g)) (ht : takesIn K a = some true) : findObj K C od name = some (.bind g a) := by
  obtain ⟨cd, hc⟩ := Option.isSome_iff_exists.mp hc
  unfold findObj
  rw [hc, Option.bind_some, ha, Option.bind_some]
  simp [hg, ht]
/-- the class asked of an exception that may have a dict -/
theorem cls_of_exc {Q : Option Value → Shared → Prop} (T : L2.ExcC K D) (X : K.In s.heap) (I : InstAt s.heap x ox D od) (h : Q (some (.ref D)) { s with toks := s.toks + 1 }) : wpAny (model prog w) A (getAttr? (.ref x) "__class__") Q E s := by
  have hf : findObj K D od "__class__" = some (.bind (.builtin "getset_descriptor.__get__") (.builtin "object.__class__")) := findObj_dataO (by obtain ⟨cd, hc, _⟩ := any_some T.hd; rw [hc]; rfl) T.ha T.hn T.ht
  obtain ⟨hp, g, d, t, os⟩ := s
  have L0 := I.type (M := model prog w)
  have L1 := looks_findIn (M := model prog w) X T.hg
  have L2 := looks_findIn (M := model prog w) X T.hk
  have L3 := looks_find (M := model prog w) X I hf
  have sub : Looks (model prog w) hp (isInstance (.ref x) (.type "BaseException")) true := L0.andThen (looks_subIn X T.hs)
  have hx0 : (false && onTheHeap (Value.builtin "BaseException.__getattribute__")) = false := rfl
  have hx2 : (Value.builtin "BaseException.__getattribute__" == Value.builtin "object.__getattribute__") = false := by decide +kernel
  have hx1 : (onTheHeap (Value.ref D) && Value.builtin "BaseException.__getattribute__" == Value.builtin "object.__getattribute__") = false := by rw [hx2]; rfl
  unfold getAttr? getAttrBy? getAttrBy
  refine wpAny_bind (wpAny_mkText (wpAny_bind (wpAny_attempt (wpAny_holding (wpAny_bind (L0.at (wpAny_bind (L1.at ?_))))))))
  show wpAny _ _ (if (onTheHeap (Value.ref D) && Value.builtin "BaseException.__getattribute__" == Value.builtin "object.__getattribute__") = true then _ else _) _ _ _
  rw [hx1, if_neg Bool.false_ne_true]
  unfold getAttrByItsOwn hookBefore
  refine wpAny_bind ?_
  rw [if_pos (show onTheHeap (Value.ref D) = true from rfl)]
  refine L2.at ?_
  refine wpAny_bind (wpAny_attempt (wpAny_holding ?_))
  unfold callGetattribute
  rw [hx0, if_neg Bool.false_ne_true]
  unfold boundAndCalled
  rw [PySem.F.excAttr_ValueError.ga.bind (.ref x)]
  refine wpAny_bind (wpAny_pure ?_)
  show wpAny _ _ (call (.builtin "BaseException.__getattribute__") [.ref x, .str "__class__" t]) _ _ _
  refine wpAny_call (codeAny_call_builtin PySem.F.excAttr_ValueError.ga.plain PySem.F.entry_bexc_ga ?_)
  refine @check_slot (model prog w) _ _ ⟨hp, g, d, t + 1, os⟩ "BaseException.__getattribute__" "BaseException" "__getattribute__" (.ref x) [.str "__class__" t] [] _ (by decide +kernel) (by decide +kernel) sub (PySem.F.args_bexc_ga (.ref x) (.str "__class__" t)) ?_
  unfold Builtin.«object.__getattribute__»
  refine wpAny_bind (wpAny_of_eq (a := ((Value.ref x : Value), [Value.str "__class__" t])) (by first | rfl | (simp only [slotArgs]; rfl)) ?_)
  refine wpAny_bind (wpAny_pure (wpAny_bind (L0.at (wpAny_bind (L3.at ?_)))))
  show wpAny _ _ (holding [Value.builtin "object.__class__"] (call (.builtin "getset_descriptor.__get__") [.builtin "object.__class__", .ref x, .ref D]) >>= ret) _ _ _
  refine wpAny_bind (wpAny_holding (wpAny_call (class_get (s := ⟨hp, g, d, t + 1, os⟩) (ox := ox) (od := od) X I T.hm ?_)))
  refine wpAny_pure ?_
  show wpAny _ _ (handedOut (.ref D)) _ _ _
  rw [handedOut_of (v := .ref D) rfl]
  first
    | exact wpAny_pure (wpAny_pure h)
    | exact wpAny_pure h
    | exact wpAny_pure (wpAny_bind (wpAny_pure (wpAny_pure h)))
theorem kitx_err (T : L2.ExcC K D) : KitX K (.ref x) (.ref D) (fun h => InstAt h x ox D od) where
  ty := fun _ _ _ I => I.type
  it := fun _ _ X _ => by
    obtain ⟨cdD, hcD, _⟩ := any_some T.hd
    unfold clsIn at hcD
    split at hcD
    · rename_i c' d' cd' sl' ho
      intro A' Q' E' s' k q
      unfold isType loadHead
      exact wpAny_bind (wpAny_loadPart (k _ _ (X _ _ ho)) (wpAny_pure q))
    · cases hcD
  ne := fun h tp dd its n sl X htp => by
    obtain ⟨cdD, hcD, _⟩ := any_some T.hd
    refine Bool.eq_false_iff.mpr fun q => ?_
    have e : D = tp := Value.ref.inj (beq_iff_eq.mp q)
    subst e
    unfold clsIn at hcD
    split at hcD
    · rename_i c' d' cd' sl' ho
      have z := (X _ _ ho).symm.trans htp
      cases z
    · cases hcD
  ca := fun X I k => cls_of_exc T X I k
end
end ErrX
end PySem
namespace RD
open PySem PySem.Spec PyProof.Rows L2 He
section
variable {X : Cx}
/-- isinstance(e, c), e the exception that the suite holds; its dict known -/
def rIsX (K : PySem.W.Frag) (a : Addr) (cls : Value) (d : Option Addr) : List V → Hp → VK → Prop := fun xs H Q => ∃ (D : Addr) (c : V) (cv : Value) (b : Bool), cls = .ref D ∧ ExcC K D ∧ xs = [.ref a, c] ∧ (d = none ∨ ∃ (dd : Addr) (fs : List (Str × V)), d = some dd ∧ H dd = some (.xd fs)) ∧ (∀ u, RelV c u → u = cv) ∧ PySem.W.kitOne K (.ref D) cv = some b ∧ Q (.bl b) H
theorem call_isX {a : Addr} {cls : Value} {oe : Obj} {d : Option Addr} {pn : List (Addr × Obj)} (hz : Zc cls d oe) (hf : ∃ vs, oe.data = .fields vs) : CallR (X.suite a ((a, oe) :: pn)) (.builtin "isinstance") (rIsX X.K a cls d) := by
  intro pins s σ H xs us Q I r h
  obtain ⟨D, c, cv, b, rfl, C, rfl, hd, hcv, e, q⟩ := h
  cases r with
  | cons rx rr =>
    cases rr with
    | cons rt rr =>
      cases rr
      cases rx
      have ec := hcv _ rt
      subst ec
      obtain ⟨hget, _⟩ := I.pin (a, oe) (List.mem_append.mpr (.inl List.mem_cons_self))
      obtain ⟨vs, hv⟩ := hf
      obtain ⟨od, J⟩ : ∃ od, PySem.W.InstAt s.heap a oe D od := by
        obtain ⟨oc, odd, oda, osl⟩ := oe
        obtain ⟨h1, h2⟩ := hz
        dsimp only at h1 h2 hv
        subst h1 h2 hv
        rcases hd with hd | ⟨dd, fs, hd, hx⟩
        · subst hd
          exact ⟨none, hget, rfl, rfl, trivial⟩
        · subst hd
          have hx : ObjOk X.prog X.w H s.heap dd (.xd fs) := I.hok dd _ hx
          obtain ⟨mA, hns, hr⟩ := hx
          obtain ⟨o, ho, _⟩ := lookIn_ns hns
          exact ⟨some o, hget, rfl, rfl, ho⟩
      exact PySem.W.kia_one (PySem.ErrX.kitx_err C) I.kIn J e (fun z => nomatch z) fun tk => ⟨.bl b, H, I.kept (t' := tk) fun _ _ z => z, rfl, q⟩
/-- e.f, e the exception that the suite holds -/
def tXe (K : PySem.W.Frag) (a : Addr) (cls : Value) (d : Option Addr) (f : Str) (te : TE) : TE := fun σ H Q => te σ H fun x H1 => ∃ (C dd : Addr) (fs : List (Str × V)) (v : V), x = .ref a ∧ cls = .ref C ∧ XfC K C ∧ PySem.W.findIn K (.ref C) f = some none ∧ d = some dd ∧ H1 dd = some (.xd fs) ∧ fs.lookup f = some v ∧ Q v H1
theorem pe_xe {a : Addr} {oe : Obj} {cls : Value} {d : Option Addr} {pn : List (Addr × Obj)} {e : Expr} {te : TE} {pos : Pos} {n : Str} (hz : Zc cls d oe) (hf : ∃ vs, oe.data = .fields vs) (he : PE (X.suite a ((a, oe) :: pn)) e te) (hb : attributeBase e n X.env (eval e X.env) = eval e X.env := by rfl) :
    PE (X.suite a ((a, oe) :: pn)) (.Attribute e n pos) (tXe X.K a cls d n te) := by
  refine ⟨fun pins s σ H Q I h => ?_⟩
  refine attr_of hb (thn (he.run pins s σ H _ I h) fun u s1 hh => ?_)
  obtain ⟨x, H1, I1, rx, C, dd, fs, v, ex, ec, T, hno, ed, ea, l, q⟩ := hh
  subst ex
  obtain rfl : u = Value.ref a := rx
  subst ec
  subst ed
  obtain ⟨ha, _⟩ := I1.pin (a, oe) (List.mem_append_left _ List.mem_cons_self)
  obtain ⟨vs, hd⟩ := hf
  have hx : ObjOk X.prog X.w H1 s1.heap dd (.xd fs) := I1.hok dd _ ea
  obtain ⟨mA, hns, hr⟩ := hx
  obtain ⟨od, ho, hl⟩ := lookIn_ns hns
  obtain ⟨u, hu, ru⟩ := RelO.some_of (v := v) (o := mA n) (by rw [← l]; exact hr n)
  have J : PySem.W.InstAt s1.heap a oe C (some od) := ⟨ha, hz.1, by unfold PySem.W.notCls; rw [hd] <;> rfl, by rw [hz.2]; exact ho⟩
  exact PySem.HandSPX.exc_get I1.kIn J T.ga T.gg T.exC (PySem.W.findObj_own T.hdC hno rfl (by rw [hl, hu])) (handed_of ru) ⟨v, H1, I1.tok _, ru, q⟩
end
/-! ### calls whose errors are wished for at the slots -/
section
variable {X : Cx} {CX : CXT} {k j : Nat} {C : Addr} {x m : Str} {sp : Sp} {dvs : List V} {E : L2.St → XK} {p pos apos : Pos} {e o : Expr} {es : List Expr} {ta : TE} {t : TA}
theorem pe_calS (c : CalX X.prog X.w X.K X.mg X.base CX k x sp dvs) (hr : Room j X.A) (hk : k ≤ j) (hg : Gl X x) (hx : ∀ σ, PassesAt CX X σ (E σ)) (ha : PA X (e :: es) t)
    (hdb : (x == ("__debug__" : Str)) = false := by decide) (he : starEach (e :: es) X.env = (false, eval e X.env) :: starEach es X.env := by rfl) (hpl : (backTo pos (starEach es X.env)).any (·.1) = false := by rfl) :
    PE X (.Call (.Name x p) (e :: es) [] pos) (tCallSD sp dvs E t) := by
  obtain ⟨f, fd, ps, ds, F, hm, kp, b, d⟩ := c.ex
  exact pe_callSD F (hr.mono hk) hg hm kp b d hx ha hdb he hpl
def tMetS (C : Addr) (m : Str) (sp : Sp) (dvs : List V) (E : L2.St → XK) (ta : TE) (t : TA) : TE := fun σ H Q => ta σ H fun x H1 => ∃ a dx fs, x = .ref a ∧ H1 a = some (.ins C dx fs) ∧ fs.lookup m = none ∧ t σ H1 fun vs H2 => sp (x :: (vs ++ dvs)) H2 Q (E σ)
theorem pe_metS {pl : Sem Bool} (c : MetX X.prog X.w X.K X.mg X.base CX k C m sp dvs) (hr : Room j X.A) (hk : k ≤ j) (hx : ∀ σ, PassesAt CX X σ (E σ)) (he : PE X o ta) (ha : PA X (e :: es) t)
    (hst : starEach (e :: es) X.env = (false, eval e X.env) :: starEach es X.env := by rfl) (hpl : (backTo pos (starEach es X.env)).any (·.1) = false := by rfl)
    (ht : eval (.Call (.Attribute o m apos) (e :: es) [] pos) X.env = (do
      let ov ← eval o X.env
      standAt apos.atName
      let (f, first) ← holding [ov] (getMethod ov m pl)
      callWith pos f first (backTo pos (starEach (e :: es) X.env)) (backToKw pos (keywordEach [] X.env))) := by rfl) :
    PE X (.Call (.Attribute o m apos) (e :: es) [] pos) (tMetS C m sp dvs E ta t) := by
  obtain ⟨f, fd, ps, ds, cl, me, F, b, d⟩ := c.ex
  refine ⟨fun pins s σ H Q I h => ?_⟩
  refine PySem.W.methodCall_KW (pl := pl) (thn (he.run pins s σ H _ I h) fun u s1 ⟨x, H1, I1, rx, a, dx, fs, ex, ea, l, q⟩ => ?_) ht
  subst ex
  obtain rfl : u = Value.ref a := rx
  refine getmeth_ok I1 ea cl me l ?_
  refine PySem.W.callWith_K (first := [.ref a]) (h₀ := X.base) I.ok.mod.kin me.kp (thn (ha.run pos pins s1 σ H1 _ I1 q) fun us s2 ⟨vs, H2, I2, r, q2⟩ => ⟨I2.kIn, ?_⟩) hst hpl
  exact run_fnSD (us := .ref a :: us) (vs := .ref a :: vs) F (hr.mono hk) b d (hx σ) I2 (.cons rfl r) q2
theorem pe_metS0 {pl : Sem Bool} (c : MetX X.prog X.w X.K X.mg X.base CX k C m sp dvs) (hr : Room j X.A) (hk : k ≤ j) (hx : ∀ σ, PassesAt CX X σ (E σ)) (he : PE X o ta)
    (ht : eval (.Call (.Attribute o m apos) [] [] pos) X.env = (do
      let ov ← eval o X.env
      standAt apos.atName
      let (f, first) ← holding [ov] (getMethod ov m pl)
      callWith pos f first (backTo pos (starEach [] X.env)) (backToKw pos (keywordEach [] X.env))) := by rfl) :
    PE X (.Call (.Attribute o m apos) [] [] pos) (tMetS C m sp dvs E ta tNil) := by
  obtain ⟨f, fd, ps, ds, cl, me, F, b, d⟩ := c.ex
  refine ⟨fun pins s σ H Q I h => ?_⟩
  refine PySem.W.methodCall_KW (pl := pl) (thn (he.run pins s σ H _ I h) fun u s1 ⟨x, H1, I1, rx, a, dx, fs, ex, ea, l, q⟩ => ?_) ht
  subst ex
  obtain rfl : u = Value.ref a := rx
  refine getmeth_ok I1 ea cl me l ?_
  exact PySem.W.callWith_K0 (first := [.ref a]) I1.kIn me.kp (run_fnSD (us := [.ref a]) (vs := [.ref a]) F (hr.mono hk) b d (hx σ) I1 (.cons rfl .nil) q)
end
/-- a def that may raise: its promise by its body -/
theorem fnDX {P : Program} {w : World} {K : PySem.W.Frag} {mg : Str → Option Value} {base : Heap} {x qual : Str} {params : Arguments} {body : List Stmt} {scope : Scope} {dvs : List V} {kws : List (Str × V)} {f : Addr} {fd : FuncData} {N ps : List Str} {k : Nat} {sp : Sp} (F : FunD K x qual params body scope dvs kws f fd) (S : FnScope N ps scope) (len : ∀ vs H Q E, sp vs H Q E → vs.length = ps.length)
    (hbody : ∀ (cdv : Value) (A : Around) (outer : List Env) (s : Shared) (H : Hp) (vs : List V) (Q : VK) (E : XK), Room k (A.deeper (envOfC qual scope s.heap.objs.size f cdv)) → sp vs H Q E →
      ∃ t, PSs (cxOf (L2.CX P w) P w K mg base N qual scope f cdv A outer s H E) body t ∧ t ⟨fun _ H' => Q .non H', Q, fun _ _ => False, fun _ _ => False⟩ (start N vs) H) : FnOk P w K mg base (L2.CX P w) (k + 1) f fd ps sp :=
  F.ok S len fun cdv A outer s H vs Q E hr h => let ⟨t, h1, h2⟩ := hbody cdv A outer s H vs Q E hr h; ⟨t, h1, h2⟩
/-- what isinstance and except ask of the class -/
structure ErrS (K : PySem.W.Frag) (ys : List Str) (x : Str) : Prop where
  xc : ExcC K (ga K x)
  xf : XfC K (ga K x)
  kit : ∀ y, y ∈ ys → PySem.W.kitOne K (.ref (ga K x)) (.ref (ga K y)) = some (decide (y = x) || decide (y = "GroupError"))
  exm : ∀ y, y ∈ ys → PySem.W.exmOne K (.ref (ga K x)) (.ref (ga K y)) = some (decide (y = x) || decide (y = "GroupError"))
  kve : PySem.W.kitOne K (.ref (ga K x)) (.type "ValueError") = some true
  glo : ∀ y, y ∈ ys → PySem.W.nsIn K mainGlobals y = some (some (.ref (ga K y)))
/-! ### readings -/
section
variable {K : PySem.W.Frag} {σ : L2.St} {H : Hp} {nx bk ct : L2.St → Hp → Prop} {rt : VK} {t : TS} {te ta : TE} {ar : TA} {Q : VK} {v x : V} {W : WX} {C : Addr} {f : Str} {D : Ends}
theorem rd_raiseE (h : ar σ H fun vs H1 => ∃ v, vs = [v] ∧ ∀ d, H1 d = none → W (.ref C) (some d) σ (upd H1 d (.xd [(f, v)]))) : tRaiseE C f W ar D σ H := h
theorem rd_raiseX {P : V → Addr → Prop} (q : ∀ d, H d = none → P v d) : ∃ v', [v] = [v'] ∧ ∀ d, H d = none → P v' d := ⟨v, rfl, q⟩
theorem rd_calS {sp : Sp} {E : L2.St → XK} (h : ar σ H fun vs H1 => sp vs H1 Q (E σ)) : tCallSD sp [] E ar σ H Q := by
  unfold tCallSD
  have e : (fun vs H1 => sp (vs ++ []) H1 Q (E σ)) = fun vs H1 => sp vs H1 Q (E σ) := by
    funext vs H1
    rw [List.append_nil]
  rw [e]
  exact h
theorem rd_metS {m : Str} {sp : Sp} {E : L2.St → XK} (h : ta σ H fun x H1 => ∃ a dx fs, x = .ref a ∧ H1 a = some (.ins C dx fs) ∧ fs.lookup m = none ∧ ar σ H1 fun vs H2 => sp (x :: vs) H2 Q (E σ)) : tMetS C m sp [] E ta ar σ H Q := by
  unfold tMetS
  have e : (fun (x : V) (H1 : Hp) => ∃ a dx fs, x = V.ref a ∧ H1 a = some (.ins C dx fs) ∧ fs.lookup m = none ∧ ar σ H1 fun vs H2 => sp (x :: (vs ++ [])) H2 Q (E σ)) =
      fun (x : V) (H1 : Hp) => ∃ a dx fs, x = V.ref a ∧ H1 a = some (.ins C dx fs) ∧ fs.lookup m = none ∧ ar σ H1 fun vs H2 => sp (x :: vs) H2 Q (E σ) := by
    funext x H1
    simp only [List.append_nil]
  rw [e]
  exact h
/-- what flies is of the class x; the clause names y -/
theorem rd_wAs {ys : List Str} {y : Str} {i : Nat} {ts : Addr → Value → Option Addr → TS} {Wout : WX} {d : Option Addr} {x : Str} {b : Bool} (S : ErrS K ys x) (hy : y ∈ ys) (e : (decide (y = x) || decide (y = "GroupError")) = b)
    (q1 : b = true → ∀ a, H a = none → ts a (.ref (ga K x)) d ⟨fun σ' H' => nx (σ'.set i none) H', rt, fun σ' H' => bk (σ'.set i none) H', fun σ' H' => ct (σ'.set i none) H'⟩ (σ.set i (some (.ref a))) H) (q2 : b = false → Wout (.ref (ga K x)) d σ H) :
    wAs K (.ref (ga K y)) i ts Wout ⟨nx, rt, bk, ct⟩ (.ref (ga K x)) d σ H := ⟨b, e ▸ S.exm y hy, q1, q2⟩
theorem rd_isX {ys : List Str} {x y : Str} {a dd : Addr} {fs : List (Str × V)} {b : Bool} (S : ErrS K ys x) (hy : y ∈ ys) (hd : H dd = some (.xd fs)) (e : (decide (y = x) || decide (y = "GroupError")) = b) (q : Q (.bl b) H) : rIsX K a (.ref (ga K x)) (some dd) [.ref a, .ref (ga K y)] H Q :=
  ⟨ga K x, .ref (ga K y), .ref (ga K y), b, rfl, S.xc, rfl, .inr ⟨dd, fs, rfl, hd⟩, fun u r => r, e ▸ S.kit y hy, q⟩
theorem rd_isXt {ys : List Str} {x y : Str} {a dd : Addr} {fs : List (Str × V)} (S : ErrS K ys x) (hy : y ∈ ys) (hd : H dd = some (.xd fs)) (e : (decide (y = x) || decide (y = "GroupError")) = true) (q : Q (.bl true) H) : rIsX K a (.ref (ga K x)) (some dd) [.ref a, .ref (ga K y)] H Q := rd_isX S hy hd e q
theorem rd_isXf {ys : List Str} {x y : Str} {a dd : Addr} {fs : List (Str × V)} (S : ErrS K ys x) (hy : y ∈ ys) (hd : H dd = some (.xd fs)) (e : (decide (y = x) || decide (y = "GroupError")) = false) (q : Q (.bl false) H) : rIsX K a (.ref (ga K x)) (some dd) [.ref a, .ref (ga K y)] H Q := rd_isX S hy hd e q
theorem rd_isXv {ys : List Str} {x : Str} {a dd : Addr} {fs : List (Str × V)} (S : ErrS K ys x) (hd : H dd = some (.xd fs)) (q : Q (.bl true) H) : rIsX K a (.ref (ga K x)) (some dd) [.ref a, .ty "ValueError"] H Q :=
  ⟨ga K x, .ty "ValueError", .type "ValueError", true, rfl, S.xc, rfl, .inr ⟨dd, fs, rfl, hd⟩, fun u r => r, S.kve, q⟩
theorem rd_xe {x f : Str} {a : Addr} {d : Option Addr} (h : te σ H fun z H1 => ∃ (C dd : Addr) (fs : List (Str × V)) (v : V), z = .ref a ∧ (.ref (ga K x) : Value) = .ref C ∧ XfC K C ∧ PySem.W.findIn K (.ref C) f = some none ∧ d = some dd ∧ H1 dd = some (.xd fs) ∧ fs.lookup f = some v ∧ Q v H1) : tXe K a (.ref (ga K x)) d f te σ H Q := h
theorem rd_xeX {ys : List Str} {x f : Str} {a dd : Addr} {fs : List (Str × V)} {R : V → Prop} (S : ErrS K ys x) (n : PySem.W.findIn K (.ref (ga K x)) f = some none) (hd : H dd = some (.xd fs)) (l : fs.lookup f = some v) (q : R v) :
    ∃ (C dd' : Addr) (fs : List (Str × V)) (v : V), V.ref a = .ref a ∧ (.ref (ga K x) : Value) = .ref C ∧ XfC K C ∧ PySem.W.findIn K (.ref C) f = some none ∧ some dd = some dd' ∧ H dd' = some (.xd fs) ∧ fs.lookup f = some v ∧ R v := ⟨ga K x, dd, fs, v, rfl, rfl, S.xf, n, rfl, hd, l, q⟩
end
end RD

/-! ### the head: error classes, tables with text keys -/
namespace RD
open PySem PySem.Spec PyProof.Rows L2 He
open PySem.W (findIn nsIn subIn typeIn keepIn mroIn kitOne exmOne codeIn clsIn ks_superIn)
structure ErrD where
  name : Str
  fld : Str
  txt : Str
  qual : Str
  params : Arguments
  body : List Stmt
  scope : Scope
abbrev FnE : Type := Option (Str × Str × Arguments × FuncBody × Scope × Addr × List Str × Addr)
def ErrD.seen (K : PySem.W.Frag) (d : ErrD) : FnE := match K.lookup (ma K (ga K d.name) "__init__") with
  | some ⟨_, _, .func fd, _⟩ => some (fd.name, fd.qualname, fd.params, fd.body, fd.scope, fd.globals, fd.closure.map (·.1), fd.builtins)
  | _ => none
def ErrD.val (d : ErrD) : FnE := some ("__init__", d.qual, d.params, .stmts d.body, d.scope, mainGlobals, ["__class__"], builtinsNs)
def excClsB (K : PySem.W.Frag) (C : Addr) : Bool := match K.lookup C with
  | some ⟨.type c, _, .cls cd, sl⟩ => decide (c = "type") && (match cd.mro, sl.toList with
    | .ref C' :: bm, [_, _, _, _, some (.builtin n), _] => decide (C' = C) && (decide (n = "ValueError.__new__") && (!cd.hasDel && (cd.hasDict && PySem.HandSPX.refsVE bm)))
    | _, _ => false)
  | _ => false
theorem excClsB_ok {K : PySem.W.Frag} {C : Addr} (h : excClsB K C = true) : ∃ nm q N bs bm sn sub ab col dd k0 k1 k2 k3 k5, K.lookup C = some (excClassObj nm q C N bs bm true sn sub ab col dd k0 k1 k2 k3 k5 "ValueError.__new__") ∧ PySem.HandSPX.refsVE bm = true := by
  unfold excClsB at h
  split at h
  · rename_i c dd cd sl ho
    obtain ⟨h0, h⟩ := ba h
    split at h
    · rename_i C' bm k0 k1 k2 k3 n k5 hm hs
      obtain ⟨h1, h⟩ := ba h
      obtain ⟨h2, h⟩ := ba h
      obtain ⟨h3, h⟩ := ba h
      obtain ⟨h4, h5⟩ := ba h
      have h3' : cd.hasDel = false := by simpa using h3
      clear h3
      obtain ⟨nm, bs, mro, ns, qn, hd, sn, sub, ab, col, del⟩ := cd
      have e0 := of_decide_eq_true h0
      have e1 := of_decide_eq_true h1
      have e2 := of_decide_eq_true h2
      dsimp only at hm h3' h4
      subst hm h3' h4 e0 e1 e2
      have hsl : sl = #[k0, k1, k2, k3, some (.builtin "ValueError.__new__"), k5] := by
        obtain ⟨l⟩ := sl
        simp only at hs
        rw [hs]
      subst hsl
      exact ⟨nm, qn, ns, bs, bm, sn, sub, ab, col, dd, k0, k1, k2, k3, k5, ho, h5⟩
    · cases h
  · cases h
def isNon : Value → Bool
  | .none => true
  | _ => false
theorem isNon_ok {v : Value} (h : isNon v = true) : v = .none := by
  cases v <;> first | rfl | cases h
def fileB (P : Program) (K : PySem.W.Frag) (cd : Value) : Bool := match cd with
  | .ref c => (match K.lookup c with
    | some ⟨_, _, .fields vs, _⟩ => (match (vs[2]? : Option Value) with
      | some (Value.str file _) => (P.main.file == file)
      | _ => false)
    | _ => false)
  | _ => false
theorem fileB_ok {P : Program} {K : PySem.W.Frag} {cd : Value} (h : fileB P K cd = true) : ∃ cda, cd = .ref cda ∧ ∃ ccl cdd vs ccs file tf, K.lookup cda = some ⟨ccl, cdd, .fields vs, ccs⟩ ∧ vs[2]? = some (.str file tf) ∧ ((P.main.file : Str) == file) = true := by
  unfold fileB at h
  split at h
  · rename_i c
    split at h
    · rename_i ccl cdd vs ccs ho
      split at h
      · rename_i file tf hv
        exact ⟨c, rfl, ccl, cdd, vs, ccs, file, tf, ho, hv, h⟩
      · cases h
    · cases h
  · cases h
def cellB (K : PySem.W.Frag) (cl : List (Str × Addr)) (C : Addr) : Bool := match cl with
  | [(_, c)] => (match K.lookup c with
    | some ⟨_, _, .cell (some (.ref D)), _⟩ => decide (D = C)
    | _ => false)
  | _ => false
theorem cellB_ok {K : PySem.W.Frag} {cl : List (Str × Addr)} {C : Addr} (h : cellB K cl C = true) : ∃ x c, cl = [(x, c)] ∧ ∃ k d s, K.lookup c = some ⟨k, d, .cell (some (.ref C)), s⟩ := by
  unfold cellB at h
  split at h
  · rename_i x c
    split at h
    · rename_i k d D s ho
      have e := of_decide_eq_true h
      subst e
      exact ⟨x, c, rfl, k, d, s, ho⟩
    · cases h
  · cases h
def errSB (K : PySem.W.Frag) (ys : List Str) (x : Str) : Bool :=
  xfB K (ga K x) && (eqO (findIn K (.ref (ga K x)) "__class__") (some (some (.builtin "object.__class__"))) && (eqO (PySem.W.specialIn K (.builtin "object.__class__") "__get__") (some (some (.builtin "getset_descriptor.__get__"))) && (decide (PySem.W.takesIn K (.builtin "object.__class__") = some true) && (decide (mroIn K (ga K x) (.type "object") = some true) &&
    (decide (kitOne K (.ref (ga K x)) (.type "ValueError") = some true) && ys.all fun y => decide (kitOne K (.ref (ga K x)) (.ref (ga K y)) = some (decide (y = x) || decide (y = "GroupError"))) && (decide (exmOne K (.ref (ga K x)) (.ref (ga K y)) = some (decide (y = x) || decide (y = "GroupError"))) && eqO (nsIn K mainGlobals y) (some (some (.ref (ga K y))))))))))
theorem errSB_ok {K : PySem.W.Frag} {ys : List Str} {x : Str} (h : errSB K ys x = true) : ErrS K ys x := by
  obtain ⟨h1, h⟩ := ba h
  obtain ⟨h2, h⟩ := ba h
  obtain ⟨h3, h⟩ := ba h
  obtain ⟨h4, h⟩ := ba h
  obtain ⟨h5, h⟩ := ba h
  obtain ⟨h6, h⟩ := ba h
  have X := xfB_ok h1
  have k := fun y hy => ba (List.all_eq_true.mp h y hy)
  exact ⟨⟨X.ga, X.gg, X.exC, X.hdC, eqO_ok h2, eqO_ok h3, of_decide_eq_true h4, of_decide_eq_true h5⟩, X, fun y hy => of_decide_eq_true (k y hy).1, fun y hy => of_decide_eq_true (ba (k y hy).2).1, of_decide_eq_true h6, fun y hy => eqO_ok (ba (k y hy).2).2⟩
def ErrD.ok (P : Program) (K : PySem.W.Frag) (ys : List Str) (d : ErrD) : Bool :=
  errSB K ys d.name && (eqO (nsIn K mainGlobals d.name) (some (some (.ref (ga K d.name)))) && (eqO (nsIn K mainGlobals "super") (some none) && (!(P.main.scope.names.lookup ("super" : Str)).isSome && (excClsB K (ga K d.name) && (eqO (findIn K (.ref (ga K d.name)) "__setattr__") (some (some (.builtin "object.__setattr__"))) &&
  (eqO (findIn K (.ref (ga K d.name)) d.fld) (some none) && (keepIn K (.ref (ga K d.name)) && (decide (typeIn K (.ref (ga K d.name)) = some (.type "type")) && (decide (mroIn K (ga K d.name) (.ref (ga K d.name)) = some true) && (decide (subIn K (.ref (ga K d.name)) (.type "ValueError") = some true) &&
  (eqO (ks_superIn K (ga K d.name) (ga K d.name) "__init__") (some (some (.builtin "ValueError.__init__"))) && (eqO (nsIn K cStatics "thirdparty.any") (some none) && (eqO (findIn K (.ref (ga K d.name)) "__init__") (some (some (.ref (ma K (ga K d.name) "__init__")))) && (decide (typeIn K (.ref (ma K (ga K d.name) "__init__")) = some (.type "function")) &&
  (match K.lookup (ma K (ga K d.name) "__init__") with
    | some ⟨_, _, .func fd, _⟩ => isNon fd.defaults && (isNon fd.kwdefaults && (codeIn K fd.code d.qual && (fileB P K fd.code && cellB K fd.closure (ga K d.name))))
    | _ => false)))))))))))))))
/-- the text of __init__ is of the known form -/
structure ErrF (d : ErrD) : Prop where
  f1 : (d.fld == ("self" : Str)) = false
  f2 : (("self" : Str) == d.fld) = false
  f3 : (("super" : Str) == d.fld) = false
  f4 : (("__class__" : Str) == d.fld) = false
  f5 : (d.fld == ("__debug__" : Str)) = false
  form : ∃ p1 p2 r1 r2 r3 r4 r5 r6 q1 q2 q3 q4, d.params = ErrX.eA1 d.fld p1 p2 ∧ d.body = ErrX.eB1 d.fld d.txt r1 r2 r3 r4 r5 r6 q1 q2 q3 q4 ∧ d.scope = ErrX.eS1 d.fld ∧ (r3.endLine == r5.line) = true
theorem ErrD.errT {P : Program} {K : PySem.W.Frag} {mg : Str → Option Value} {ys : List Str} {d : ErrD} {h : Heap} (X : K.In h) (G : h.Ns mainGlobals mg) (F : ErrF d) (e : d.seen K = d.val) (c : d.ok P K ys = true) : ErrX.ErrT P K mg d.name d.fld (ga K d.name) ∧ ErrS K ys d.name := by
  obtain ⟨h0, c⟩ := ba c
  obtain ⟨h1, c⟩ := ba c
  obtain ⟨h2, c⟩ := ba c
  obtain ⟨h3, c⟩ := ba c
  obtain ⟨h4, c⟩ := ba c
  obtain ⟨h5, c⟩ := ba c
  obtain ⟨h6, c⟩ := ba c
  obtain ⟨h7, c⟩ := ba c
  obtain ⟨h8, c⟩ := ba c
  obtain ⟨h9, c⟩ := ba c
  obtain ⟨h10, c⟩ := ba c
  obtain ⟨h11, c⟩ := ba c
  obtain ⟨h12, c⟩ := ba c
  obtain ⟨h13, c⟩ := ba c
  obtain ⟨h14, c⟩ := ba c
  have S := errSB_ok h0
  refine ⟨⟨PySem.W.mg_of X G (eqO_ok h1), PySem.W.mg_none_of X G (eqO_ok h2), by simpa using h3, F.f1, F.f2, F.f3, F.f4, F.f5, excClsB_ok h4, eqO_ok h5, eqO_ok h6, h7, S.xf.exC, of_decide_eq_true h8, of_decide_eq_true h9, of_decide_eq_true h10, eqO_ok h11, eqO_ok h12, ?_⟩, S⟩
  obtain ⟨p1, p2, r1, r2, r3, r4, r5, r6, q1, q2, q3, q4, g1, g2, g3, g4⟩ := F.form
  unfold ErrD.seen at e
  cases q : K.lookup (ma K (ga K d.name) "__init__") with
  | none =>
    rw [q] at c
    cases c
  | some o =>
    obtain ⟨oc, od, dt, osl⟩ := o
    rw [q] at c e
    cases dt with
    | func fd =>
      obtain ⟨n1, n2, n3, n4, n5, n6, n7, n8, n9, n10, n11, n12, n13, n14, n15⟩ := fd
      have e2 : (some (n1, n2, n3, n4, n5, n6, n7.map (·.1), n15) : FnE) = ErrD.val d := e
      unfold ErrD.val at e2
      injection e2 with e2
      simp only [Prod.mk.injEq] at e2
      obtain ⟨a1, a2, a3, a4, a5, a6, a7, a8⟩ := e2
      have c3 : (isNon n8 && (isNon n9 && (codeIn K n13 d.qual && (fileB P K n13 && cellB K n7 (ga K d.name))))) = true := c
      obtain ⟨k1, c3⟩ := ba c3
      obtain ⟨k2, c3⟩ := ba c3
      obtain ⟨k3, c3⟩ := ba c3
      obtain ⟨k4, k5⟩ := ba c3
      obtain ⟨cda, z1, z2⟩ := fileB_ok k4
      obtain ⟨y, cc, z3, z4⟩ := cellB_ok k5
      have z5 := isNon_ok k1
      have z6 := isNon_ok k2
      subst z3
      have z7 : y = "__class__" := by
        have z : ([y] : List Str) = ([("__class__" : Str)] : List Str) := a7
        injection z
      subst z7
      subst a1 a2 a3 a4 a5 a6 a8 z5 z6 z1
      rw [g1, g2, g3] at q
      exact ⟨_, cc, cda, oc, od, _, _, _, _, osl, _, _, p1, p2, r1, r2, r3, r4, r5, r6, q1, q2, q3, q4, eqO_ok h13, of_decide_eq_true h14, g4, q, k3, z2, z4⟩
    | _ => cases c
/-- the head with all of it -/
def asQ (g : Addr → Option Obj) (n : Nat) : List Addr := cStatics :: asD g n
abbrev AlQ : Type := AlX × (Bool × (List FnW × List FnE))
def obsQ (P : Program) (n : Nat) (fa : List Fa) (fn : List DefD) (gs : List GetD) (es : List ErrD) (ys : List Str) (ts : List Tab) (tf : List Defn) (ex : PySem.W.Frag → Bool) (g : Addr → Option Obj) : AlQ :=
  ((obsT fa fn ts (frT g (asQ g n)), ex (frT g (asQ g n)) && tabsB g tf (frT g (asQ g n))), (gs.all (GetD.ok (frT g (asQ g n))) && es.all (ErrD.ok P (frT g (asQ g n)) ys), (gs.map (GetD.seen (frT g (asQ g n))), es.map (ErrD.seen (frT g (asQ g n))))))
structure SaysQ (P : Program) (fa : List Fa) (fn : List DefD) (gs : List GetD) (es : List ErrD) (ys : List Str) (ts : List Tab) (tf : List Defn) (ex : PySem.W.Frag → Bool) (w : World) (h : Heap) (K : PySem.W.Frag) : Prop where
  x : SaysX fa fn ts tf ex w h K
  ok : gs.all (GetD.ok K) = true
  seen : gs.map (GetD.seen K) = gs.map GetD.val
  eok : es.all (ErrD.ok P K ys) = true
  eseen : es.map (ErrD.seen K) = es.map ErrD.val
theorem saysXQ {fa : List Fa} {fn : List DefD} {ts : List Tab} {tf : List Defn} {ex : PySem.W.Frag → Bool} {w : World} {h : Heap} {as : List Addr} (e1 : obsT fa fn ts (frT h.get? as) = valT fn ts w) (e2 : (ex (frT h.get? as) && tabsB h.get? tf (frT h.get? as)) = true) : SaysX fa fn ts tf ex w h (frT h.get? as) := by
  obtain ⟨h1, h2⟩ := ba e2
  have key : ∀ p ∈ tf, PySem.W.codeHdIn (frT h.get? as) (cT (frT h.get? as) p).1 (cT (frT h.get? as) p).2 = true ∧ ∃ o, h.get? (cT (frT h.get? as) p).2 = some o ∧ emptyTab o = true := fun p hp => by
    obtain ⟨h3, h4⟩ := ba (List.all_eq_true.mp h2 p hp)
    refine ⟨h3, ?_⟩
    cases q : h.get? (cT (frT h.get? as) p).2 with
    | none =>
      rw [q] at h4
      cases h4
    | some o =>
      rw [q] at h4
      exact ⟨o, rfl, h4⟩
  exact ⟨e1, h1, fun p hp => (key p hp).1, fun p hp => by
    obtain ⟨_, o, q, z⟩ := key p hp
    exact frT_none q z, fun p hp => by
    obtain ⟨_, o, q, z⟩ := key p hp
    rw [q, emptyTab_eq z]⟩
theorem saysQ_of {P : Program} {n : Nat} {fa : List Fa} {fn : List DefD} {gs : List GetD} {es : List ErrD} {ys : List Str} {ts : List Tab} {tf : List Defn} {ex : PySem.W.Frag → Bool} {w : World} {h : Heap} (e : obsQ P n fa fn gs es ys ts tf ex h.get? = (valX fn ts w, (true, (gs.map GetD.val, es.map ErrD.val)))) : SaysQ P fa fn gs es ys ts tf ex w h (frT h.get? (asQ h.get? n)) := by
  have e1 : obsT fa fn ts (frT h.get? (asQ h.get? n)) = valT fn ts w := congrArg (fun z : AlQ => z.1.1) e
  have e2 : (ex (frT h.get? (asQ h.get? n)) && tabsB h.get? tf (frT h.get? (asQ h.get? n))) = true := congrArg (fun z : AlQ => z.1.2) e
  have e3 : (gs.all (GetD.ok (frT h.get? (asQ h.get? n))) && es.all (ErrD.ok P (frT h.get? (asQ h.get? n)) ys)) = true := congrArg (fun z : AlQ => z.2.1) e
  obtain ⟨e4, e5⟩ := ba e3
  exact ⟨saysXQ e1 e2, e4, congrArg (fun z : AlQ => z.2.2.1) e, e5, congrArg (fun z : AlQ => z.2.2.2) e⟩
def hookQ (P : Program) (n : Nat) (fa : List Fa) (fn : List DefD) (gs : List GetD) (es : List ErrD) (ys : List Str) (ts : List Tab) (tf : List Defn) (ex : PySem.W.Frag → Bool) : PySem.W.Hook where
  α := AlQ
  obs := fun s => obsQ P n fa fn gs es ys ts tf ex s.heap.get?
  val := fun w => (valX fn ts w, (true, (gs.map GetD.val, es.map ErrD.val)))
  says := fun w h => ∃ K : PySem.W.Frag, K.In h ∧ SaysQ P fa fn gs es ys ts tf ex w h K
  of := fun _ _ e => ⟨_, frT_in, saysQ_of e⟩
  keeps := fun _ _ _ ⟨K, hK, c⟩ k => ⟨K, PySem.W.Frag.In.keeps hK k, ⟨⟨c.x.t, c.x.more, c.x.hd, c.x.out, fun p hp => k _ _ (c.x.empty p hp)⟩, c.ok, c.seen, c.eok, c.eseen⟩⟩
theorem obsQ_eq {P : Program} {n : Nat} {fa : List Fa} {fn : List DefD} {gs : List GetD} {es : List ErrD} {ys : List Str} {ts : List Tab} {tf : List Defn} {ex : PySem.W.Frag → Bool} {g : Addr → Option Obj} {s : Shared} (h : ∀ a, g a = s.heap.get? a) : obsQ P n fa fn gs es ys ts tf ex g = (hookQ P n fa fn gs es ys ts tf ex).obs s := by
  have e : g = s.heap.get? := funext h
  rw [e] <;> rfl
section
variable {P : Program} {fa : List Fa} {fn : List DefD} {gs : List GetD} {es : List ErrD} {ys : List Str} {ts : List Tab} {tf : List Defn} {ex : PySem.W.Frag → Bool} {w : World} {h : Heap} {K : PySem.W.Frag}
theorem SaysQ.get (c : SaysQ P fa fn gs es ys ts tf ex w h K) {d : GetD} (hd : d ∈ gs) :
    PropOf K (ga K d.cls) d.fld (prA K d.cls d.fld) (prG K d.cls d.fld) ∧ ∃ fd, FunD K d.name d.qual d.params d.body d.scope [] [] (prG K d.cls d.fld) fd := by
  obtain ⟨i, hi, e⟩ := List.mem_iff_getElem.mp hd
  have e1 := congrArg (fun l : List FnW => l[i]?) c.seen
  have e2 : gs[i]? = some d := by rw [List.getElem?_eq_getElem hi, e]
  simp only [List.getElem?_map, e2, Option.map_some, Option.some.injEq] at e1
  exact GetD.funD e1 (List.all_eq_true.mp c.ok d hd)
theorem SaysQ.err {mg : Str → Option Value} (c : SaysQ P fa fn gs es ys ts tf ex w h K) (X : K.In h) (G : h.Ns mainGlobals mg) {d : ErrD} (hd : d ∈ es) (F : ErrF d) : ErrX.ErrT P K mg d.name d.fld (ga K d.name) ∧ ErrS K ys d.name := by
  obtain ⟨i, hi, e⟩ := List.mem_iff_getElem.mp hd
  have e1 := congrArg (fun l : List FnE => l[i]?) c.eseen
  have e2 : es[i]? = some d := by rw [List.getElem?_eq_getElem hi, e]
  simp only [List.getElem?_map, e2, Option.map_some, Option.some.injEq] at e1
  exact ErrD.errT X G F e1 (List.all_eq_true.mp c.eok d hd)
theorem SaysQ.tabd (c : SaysQ P fa fn gs es ys ts tf ex w h K) {t : Tab} (ht : t ∈ ts) : ∃ es n, KDict K w (t.1 K) es n := by
  obtain ⟨i, hi, e⟩ := List.mem_iff_getElem.mp ht
  exact c.x.t.tab i (by rw [List.getElem?_eq_getElem hi, e])
end
end RD

/-! own layer: further rules (behind EXC) -/
namespace RD
open PySem PySem.Spec PyProof.Rows L2 He
section
variable {X : Cx}
/-- l.remove(x) of a list of data: the first item that is == x goes -/
def rRemD (K : PySem.W.Frag) : V → List V → Hp → VK → Prop := fun x vs H Q => ∃ (l : Addr) (xs : List V) (y : V) (d : PyData) (ds : List PyData) (j : Nat), x = .ref l ∧ vs = [y] ∧ H l = some (.lst xs) ∧ DpAll K H xs ds ∧ Dp K H y d ∧
  PyData.plainAll ds = true ∧ d.plain = true ∧ d.depth ≤ 60 ∧ PySem.SeqAt.dataPlace ds d = some j ∧ Q .non (upd H l (.lst (xs.eraseIdx j)))
theorem mt_remD (hu : X.A.units + 65 < cLine) : MtM X "list.remove" (rRemD X.K) := by
  intro pins s σ H x xs v us Q I rx rxs h
  obtain ⟨l, vs, y, d, ds, j, rfl, rfl, hH, hda, hy, pl, pd, dep, hp, q⟩ := h
  cases rx
  obtain ⟨u, rfl, ru⟩ := rxs.one
  obtain ⟨z, its, n, r, hl, e⟩ := I.lstM hH
  obtain ⟨bs, r1⟩ := Dp.reads I d y u hy ru
  obtain ⟨as, h4⟩ := Dp.readsAll I ds _ its hda r
  have hn : its.length = ds.length := SeqAt.ReadsAll.length ds its as h4
  refine PySem.SeqAt.remove_list_data (vs := its.toArray) ⟨_, e, rfl, n, rfl⟩ (show ReadsAll s.heap its.toArray.toList ds as from h4) r1 pl pd (by omega) hp (by rw [List.size_toArray]; omega) ?_
  have rr := r.eraseIdx j
  refine ⟨.non, _, I.lset (its' := its.eraseIdx j) (t' := s.toks) hH e ?_ rr ?_, rfl, q⟩
  · show its.toArray.eraseIdxIfInBounds j = (its.eraseIdx j).toArray
    rw [List.eraseIdxIfInBounds_toArray]
  · have z2 : (vs.eraseIdx j).length ≤ vs.length := List.length_eraseIdx_le vs j
    omega
end
end RD
theorem _root_.L2.Room.units65 {k : Nat} {A : PySem.Around} (r : L2.Room k A) : A.units + 65 < PySem.cLine := by
  have := r.un
  omega

namespace My
open PySem PySem.Spec PyProof.Rows L2 He RD
open PySem PySem.Spec PyProof.Rows L2 He RD
def top (i : Nat) : Stmt := PySem.Challenge.pw_livingroll_k22_whole_plans_judged.main.body.getD i (.Pass ⟨0, 0, 0, 0⟩)
abbrev R : PySem.W.OpenRow := PySem.W.OpenLaw.row PySem.Challenge.rw_livingroll_k22_whole_plans_judged
abbrev s_l_purse : Stmt := (top 10)
abbrev n_l_purse : List Str := ["_law_script", "_law_cells", "_law_seed", "_law_cell"]
abbrev p_l_purse : List Str := ["_law_script"]
theorem sc_l_purse : FnScope n_l_purse p_l_purse (defScope s_l_purse) := ⟨rfl, rfl, rfl, by decide +kernel, rfl, by decide +kernel, by decide +kernel⟩
def d_l_purse : DefD := ⟨("_law_purse", none), "_law_purse", "_law_purse", defArgs s_l_purse, defBody s_l_purse, defScope s_l_purse, [], []⟩
abbrev s_l_mixed : Stmt := (top 11)
abbrev n_l_mixed : List Str := ["_law_seed", "_law_place", "_law_first", "_law_second"]
abbrev p_l_mixed : List Str := ["_law_seed", "_law_place"]
theorem sc_l_mixed : FnScope n_l_mixed p_l_mixed (defScope s_l_mixed) := ⟨rfl, rfl, rfl, by decide +kernel, rfl, by decide +kernel, by decide +kernel⟩
def d_l_mixed : DefD := ⟨("_law_mixed", none), "_law_mixed", "_law_mixed", defArgs s_l_mixed, defBody s_l_mixed, defScope s_l_mixed, [], []⟩
abbrev s_l_draw : Stmt := (top 12)
abbrev n_l_draw : List Str := ["_law_purse_here", "_law_many", "_law_cell", "_law_digit"]
abbrev p_l_draw : List Str := ["_law_purse_here", "_law_many"]
theorem sc_l_draw : FnScope n_l_draw p_l_draw (defScope s_l_draw) := ⟨rfl, rfl, rfl, by decide +kernel, rfl, by decide +kernel, by decide +kernel⟩
def d_l_draw : DefD := ⟨("_law_draw", none), "_law_draw", "_law_draw", defArgs s_l_draw, defBody s_l_draw, defScope s_l_draw, [], []⟩
abbrev s_l_seats : Stmt := (top 13)
abbrev n_l_seats : List Str := ["_law_purse_here", "_law_ring", "_law_many", "_law_pool", "_law_found", "_law_k"]
abbrev p_l_seats : List Str := ["_law_purse_here", "_law_ring", "_law_many"]
theorem sc_l_seats : FnScope n_l_seats p_l_seats (defScope s_l_seats) := ⟨rfl, rfl, rfl, by decide +kernel, rfl, by decide +kernel, by decide +kernel⟩
def d_l_seats : DefD := ⟨("_law_seats", none), "_law_seats", "_law_seats", defArgs s_l_seats, defBody s_l_seats, defScope s_l_seats, [], []⟩
abbrev s_l_number : Stmt := (top 14)
abbrev n_l_number : List Str := ["_law_found", "_law_wanted"]
abbrev p_l_number : List Str := ["_law_found", "_law_wanted"]
theorem sc_l_number : FnScope n_l_number p_l_number (defScope s_l_number) := ⟨rfl, rfl, rfl, by decide +kernel, rfl, by decide +kernel, by decide +kernel⟩
def d_l_number : DefD := ⟨("_law_number", none), "_law_number", "_law_number", defArgs s_l_number, defBody s_l_number, defScope s_l_number, [], []⟩
abbrev s_l_least : Stmt := (top 15)
abbrev n_l_least : List Str := ["_law_count", "_law_rounds", "_law_reached", "_law_k"]
abbrev p_l_least : List Str := ["_law_count"]
theorem sc_l_least : FnScope n_l_least p_l_least (defScope s_l_least) := ⟨rfl, rfl, rfl, by decide +kernel, rfl, by decide +kernel, by decide +kernel⟩
def d_l_least : DefD := ⟨("_law_least", none), "_law_least", "_law_least", defArgs s_l_least, defBody s_l_least, defScope s_l_least, [], []⟩
abbrev s_reached_by : Stmt := (top 7)
abbrev n_reached_by : List Str := ["seats", "known", "calls", "callers", "reached", "caller", "called"]
abbrev p_reached_by : List Str := ["seats", "known", "calls"]
theorem sc_reached_by : FnScope n_reached_by p_reached_by (defScope s_reached_by) := ⟨rfl, rfl, rfl, by decide +kernel, rfl, by decide +kernel, by decide +kernel⟩
def d_reached_by : DefD := ⟨("reached_by", none), "reached_by", "reached_by", defArgs s_reached_by, defBody s_reached_by, defScope s_reached_by, [], []⟩
abbrev s_judge_plan : Stmt := (top 8)
abbrev n_judge_plan : List Str := ["seats", "origin", "plan", "known", "letters", "index", "calls", "reached", "seat"]
abbrev p_judge_plan : List Str := ["seats", "origin", "plan"]
theorem sc_judge_plan : FnScope n_judge_plan p_judge_plan (defScope s_judge_plan) := ⟨rfl, rfl, rfl, by decide +kernel, rfl, by decide +kernel, by decide +kernel⟩
def d_judge_plan : DefD := ⟨("judge_plan", none), "judge_plan", "judge_plan", defArgs s_judge_plan, defBody s_judge_plan, defScope s_judge_plan, [], []⟩
abbrev s_l_judged : Stmt := (top 16)
abbrev n_l_judged : List Str := ["_law_seats_here", "_law_origin", "_law_paper", "_law_knows", "_law_pairs", "_law_index", "_law_callers", "_law_newly", "_law_caller", "_law_called", "_law_seat"]
abbrev p_l_judged : List Str := ["_law_seats_here", "_law_origin", "_law_paper"]
theorem sc_l_judged : FnScope n_l_judged p_l_judged (defScope s_l_judged) := ⟨rfl, rfl, rfl, by decide +kernel, rfl, by decide +kernel, by decide +kernel⟩
def d_l_judged : DefD := ⟨("_law_judged", none), "_law_judged", "_law_judged", defArgs s_l_judged, defBody s_l_judged, defScope s_l_judged, [], []⟩
abbrev s_l_tree : Stmt := (top 17)
abbrev n_l_tree : List Str := ["_law_purse_here", "_law_seats_here", "_law_origin", "_law_knows", "_law_paper", "_law_index", "_law_rest", "_law_line", "_law_caller", "_law_seat", "_law_pair"]
abbrev p_l_tree : List Str := ["_law_purse_here", "_law_seats_here", "_law_origin"]
theorem sc_l_tree : FnScope n_l_tree p_l_tree (defScope s_l_tree) := ⟨rfl, rfl, rfl, by decide +kernel, rfl, by decide +kernel, by decide +kernel⟩
def d_l_tree : DefD := ⟨("_law_tree", none), "_law_tree", "_law_tree", defArgs s_l_tree, defBody s_l_tree, defScope s_l_tree, [], []⟩
abbrev s_l_calls : Stmt := (top 18)
abbrev n_l_calls : List Str := ["_law_purse_here", "_law_seats_here", "_law_origin", "_law_style", "_law_knows", "_law_paper", "_law_index", "_law_line", "_law_caller", "_law_others", "_law_pair", "_law_seat"]
abbrev p_l_calls : List Str := ["_law_purse_here", "_law_seats_here", "_law_origin", "_law_style"]
theorem sc_l_calls : FnScope n_l_calls p_l_calls (defScope s_l_calls) := ⟨rfl, rfl, rfl, by decide +kernel, rfl, by decide +kernel, by decide +kernel⟩
def d_l_calls : DefD := ⟨("_law_calls", none), "_law_calls", "_law_calls", defArgs s_l_calls, defBody s_l_calls, defScope s_l_calls, [], []⟩
abbrev s_l_bent : Stmt := (top 19)
abbrev n_l_bent : List Str := ["_law_purse_here", "_law_seats_here", "_law_paper", "_law_found", "_law_way", "_law_at", "_law_line", "_law_place", "_law_one", "_law_other", "_law_spare", "_law_stranger", "_law_pair", "_law_seat"]
abbrev p_l_bent : List Str := ["_law_purse_here", "_law_seats_here", "_law_paper"]
theorem sc_l_bent : FnScope n_l_bent p_l_bent (defScope s_l_bent) := ⟨rfl, rfl, rfl, by decide +kernel, rfl, by decide +kernel, by decide +kernel⟩
def d_l_bent : DefD := ⟨("_law_bent", none), "_law_bent", "_law_bent", defArgs s_l_bent, defBody s_l_bent, defScope s_l_bent, [], []⟩
abbrev s_l_back : Stmt := (top 20)
abbrev n_l_back : List Str := ["_law_seats_here", "_law_origin", "_law_paper", "_law_back_here", "e", "_law_right", "_law_wrong"]
abbrev p_l_back : List Str := ["_law_seats_here", "_law_origin", "_law_paper"]
theorem sc_l_back : FnScope n_l_back p_l_back (defScope s_l_back) := ⟨rfl, rfl, rfl, by decide +kernel, rfl, by decide +kernel, by decide +kernel⟩
def d_l_back : DefD := ⟨("_law_back", none), "_law_back", "_law_back", defArgs s_l_back, defBody s_l_back, defScope s_l_back, [], []⟩
abbrev s_l_asked : Stmt := (top 21)
abbrev n_l_asked : List Str := ["_law_seats_here", "_law_origin", "_law_paper", "_law_held", "_law_handed", "_law_found", "_law_wanted", "_law_rounds", "_law_pairs", "_law_line"]
abbrev p_l_asked : List Str := ["_law_seats_here", "_law_origin", "_law_paper"]
theorem sc_l_asked : FnScope n_l_asked p_l_asked (defScope s_l_asked) := ⟨rfl, rfl, rfl, by decide +kernel, rfl, by decide +kernel, by decide +kernel⟩
def d_l_asked : DefD := ⟨("_law_asked", none), "_law_asked", "_law_asked", defArgs s_l_asked, defBody s_l_asked, defScope s_l_asked, [], []⟩
abbrev s_law : Stmt := (top 22)
abbrev n_law : List Str := ["_law_script", "_law_purse_here", "_law_seats_here", "_law_origin", "_law_style", "_law_paper", "_law_bent_here", "_law_k", "_law_chosen"]
abbrev p_law : List Str := ["_law_script"]
theorem sc_law : FnScope n_law p_law (defScope s_law) := ⟨rfl, rfl, rfl, by decide +kernel, rfl, by decide +kernel, by decide +kernel⟩
def d_law : DefD := ⟨("law", none), "law", "law", defArgs s_law, defBody s_law, defScope s_law, [], []⟩
def fn : List DefD := [d_l_purse, d_l_mixed, d_l_draw, d_l_seats, d_l_number, d_l_least, d_reached_by, d_judge_plan, d_l_judged, d_l_tree, d_l_calls, d_l_bent, d_l_back, d_l_asked, d_law]
def fa : List Fa := [.free "ValueError", .free "bool", .free "enumerate", .free "int", .free "isinstance", .free "len", .free "list", .free "range", .free "tuple", .glo "_law_purse", .glo "_law_mixed", .glo "_law_draw", .glo "_law_seats", .glo "_law_number", .glo "_law_least", .glo "reached_by", .glo "judge_plan", .glo "_law_judged", .glo "_law_tree", .glo "_law_calls", .glo "_law_bent", .glo "_law_back", .glo "_law_asked", .glo "law", .glo "GroupError", .glo "InvalidSetting", .glo "InvalidPlan", .glo "DeedRefused", .glo "TooMuch"]
def ex (K : PySem.W.Frag) : Bool := true
def ed_InvalidSetting : ErrD := ⟨"InvalidSetting", "field", "an invalid setting", "InvalidSetting.__init__", defArgs (inClass (top 2) 0), defBody (inClass (top 2) 0), defScope (inClass (top 2) 0)⟩
theorem ef_InvalidSetting : ErrF ed_InvalidSetting := ⟨by decide, by decide, by decide, by decide, by decide, ⟨_, _, _, _, _, _, _, _, _, _, _, _, rfl, rfl, rfl, rfl⟩⟩
def ed_InvalidPlan : ErrD := ⟨"InvalidPlan", "index", "an invalid call plan", "InvalidPlan.__init__", defArgs (inClass (top 3) 0), defBody (inClass (top 3) 0), defScope (inClass (top 3) 0)⟩
theorem ef_InvalidPlan : ErrF ed_InvalidPlan := ⟨by decide, by decide, by decide, by decide, by decide, ⟨_, _, _, _, _, _, _, _, _, _, _, _, rfl, rfl, rfl, rfl⟩⟩
def ed_DeedRefused : ErrD := ⟨"DeedRefused", "deed", "a refused deed", "DeedRefused.__init__", defArgs (inClass (top 4) 0), defBody (inClass (top 4) 0), defScope (inClass (top 4) 0)⟩
theorem ef_DeedRefused : ErrF ed_DeedRefused := ⟨by decide, by decide, by decide, by decide, by decide, ⟨_, _, _, _, _, _, _, _, _, _, _, _, rfl, rfl, rfl, rfl⟩⟩
def ed_TooMuch : ErrD := ⟨"TooMuch", "limit", "more than the limit allows", "TooMuch.__init__", defArgs (inClass (top 5) 0), defBody (inClass (top 5) 0), defScope (inClass (top 5) 0)⟩
theorem ef_TooMuch : ErrF ed_TooMuch := ⟨by decide, by decide, by decide, by decide, by decide, ⟨_, _, _, _, _, _, _, _, _, _, _, _, rfl, rfl, rfl, rfl⟩⟩
def es : List ErrD := [ed_InvalidSetting, ed_InvalidPlan, ed_DeedRefused, ed_TooMuch]
theorem efs : ∀ d, d ∈ es → ErrF d := fun d hd => by
  simp only [es, List.mem_cons, List.not_mem_nil, or_false] at hd
  rcases hd with rfl | rfl | rfl | rfl
  · exact ef_InvalidSetting
  · exact ef_InvalidPlan
  · exact ef_DeedRefused
  · exact ef_TooMuch
def ys : List Str := ["GroupError", "InvalidSetting", "InvalidPlan", "DeedRefused", "TooMuch"]
def tabs : List Tab := []
def gs : List GetD := []
def tf : List He.Defn := []
abbrev TT (K : PySem.W.Frag) : List (Addr × Str) := []
structure Tb (P : Program) (w : World) (K : PySem.W.Frag) (mg : Str → Option Value) (base : Heap) : Prop where
  t : ∀ p, p ∈ tf.map (He.cT K) → LamX.TabB base mg p.1 p.2
  g : ∀ d, d ∈ gs → PropOf K (ga K d.cls) d.fld (prA K d.cls d.fld) (prG K d.cls d.fld) ∧ ∃ fd, FunD K d.name d.qual d.params d.body d.scope [] [] (prG K d.cls d.fld) fd
  e : ∀ d, d ∈ es → ErrX.ErrT P K mg d.name d.fld (ga K d.name) ∧ ErrS K ys d.name
  d : ∀ t, t ∈ tabs → ∃ es n, KDict K w (t.1 K) es n
theorem er_InvalidSetting {P : Program} {w : World} {K : PySem.W.Frag} {mg : Str → Option Value} {base : Heap} (B : Tb P w K mg base) : ErrX.ErrT P K mg "InvalidSetting" "field" (ga K "InvalidSetting") ∧ ErrS K ys "InvalidSetting" := B.e ed_InvalidSetting (.head _)
theorem er_InvalidPlan {P : Program} {w : World} {K : PySem.W.Frag} {mg : Str → Option Value} {base : Heap} (B : Tb P w K mg base) : ErrX.ErrT P K mg "InvalidPlan" "index" (ga K "InvalidPlan") ∧ ErrS K ys "InvalidPlan" := B.e ed_InvalidPlan (.tail _ (.head _))
theorem er_DeedRefused {P : Program} {w : World} {K : PySem.W.Frag} {mg : Str → Option Value} {base : Heap} (B : Tb P w K mg base) : ErrX.ErrT P K mg "DeedRefused" "deed" (ga K "DeedRefused") ∧ ErrS K ys "DeedRefused" := B.e ed_DeedRefused (.tail _ (.tail _ (.head _)))
theorem er_TooMuch {P : Program} {w : World} {K : PySem.W.Frag} {mg : Str → Option Value} {base : Heap} (B : Tb P w K mg base) : ErrX.ErrT P K mg "TooMuch" "limit" (ga K "TooMuch") ∧ ErrS K ys "TooMuch" := B.e ed_TooMuch (.tail _ (.tail _ (.tail _ (.head _))))
abbrev Cx (K : PySem.W.Frag) (mg : Str → Option Value) : Prop := RD.Ctx fa fn ex K mg
section
variable {K : PySem.W.Frag} {mg : Str → Option Value}
theorem fr_ValueError (T : Cx K mg) : mg "ValueError" = none := T.fre 0
theorem fr_bool (T : Cx K mg) : mg "bool" = none := T.fre 1
theorem fr_enumerate (T : Cx K mg) : mg "enumerate" = none := T.fre 2
theorem fr_int (T : Cx K mg) : mg "int" = none := T.fre 3
theorem fr_isinstance (T : Cx K mg) : mg "isinstance" = none := T.fre 4
theorem fr_len (T : Cx K mg) : mg "len" = none := T.fre 5
theorem fr_list (T : Cx K mg) : mg "list" = none := T.fre 6
theorem fr_range (T : Cx K mg) : mg "range" = none := T.fre 7
theorem fr_tuple (T : Cx K mg) : mg "tuple" = none := T.fre 8
theorem gl_l_purse (T : Cx K mg) : mg "_law_purse" = some (.ref (ga K "_law_purse")) := T.glo 9
theorem gl_l_mixed (T : Cx K mg) : mg "_law_mixed" = some (.ref (ga K "_law_mixed")) := T.glo 10
theorem gl_l_draw (T : Cx K mg) : mg "_law_draw" = some (.ref (ga K "_law_draw")) := T.glo 11
theorem gl_l_seats (T : Cx K mg) : mg "_law_seats" = some (.ref (ga K "_law_seats")) := T.glo 12
theorem gl_l_number (T : Cx K mg) : mg "_law_number" = some (.ref (ga K "_law_number")) := T.glo 13
theorem gl_l_least (T : Cx K mg) : mg "_law_least" = some (.ref (ga K "_law_least")) := T.glo 14
theorem gl_reached_by (T : Cx K mg) : mg "reached_by" = some (.ref (ga K "reached_by")) := T.glo 15
theorem gl_judge_plan (T : Cx K mg) : mg "judge_plan" = some (.ref (ga K "judge_plan")) := T.glo 16
theorem gl_l_judged (T : Cx K mg) : mg "_law_judged" = some (.ref (ga K "_law_judged")) := T.glo 17
theorem gl_l_tree (T : Cx K mg) : mg "_law_tree" = some (.ref (ga K "_law_tree")) := T.glo 18
theorem gl_l_calls (T : Cx K mg) : mg "_law_calls" = some (.ref (ga K "_law_calls")) := T.glo 19
theorem gl_l_bent (T : Cx K mg) : mg "_law_bent" = some (.ref (ga K "_law_bent")) := T.glo 20
theorem gl_l_back (T : Cx K mg) : mg "_law_back" = some (.ref (ga K "_law_back")) := T.glo 21
theorem gl_l_asked (T : Cx K mg) : mg "_law_asked" = some (.ref (ga K "_law_asked")) := T.glo 22
theorem gl_law (T : Cx K mg) : mg "law" = some (.ref (ga K "law")) := T.glo 23
theorem gl_GroupError (T : Cx K mg) : mg "GroupError" = some (.ref (ga K "GroupError")) := T.glo 24
theorem gl_InvalidSetting (T : Cx K mg) : mg "InvalidSetting" = some (.ref (ga K "InvalidSetting")) := T.glo 25
theorem gl_InvalidPlan (T : Cx K mg) : mg "InvalidPlan" = some (.ref (ga K "InvalidPlan")) := T.glo 26
theorem gl_DeedRefused (T : Cx K mg) : mg "DeedRefused" = some (.ref (ga K "DeedRefused")) := T.glo 27
theorem gl_TooMuch (T : Cx K mg) : mg "TooMuch" = some (.ref (ga K "TooMuch")) := T.glo 28
end
abbrev purse (c : Addr) (at_ rest left mixed seed count : Int) : List (Key × V) := [(.inr "cells", .ref c), (.inr "at", .int at_), (.inr "rest", .int rest), (.inr "left", .int left), (.inr "mixed", .int mixed), (.inr "seed", .int seed), (.inr "count", .int count)]
theorem merge_purse (c : Addr) (a b d e f g : Int) : mergeK [] (purse c a b d e f g) = purse c a b d e f g := rfl
theorem put_count (c : Addr) (a b d e f g h : Int) : putK (purse c a b d e f g) (.inr "count") (.int h) = purse c a b d e f h := rfl
/-- the purse of draws: at p a dict, at c its cells -/
structure Purse (H : Hp) (p c : Addr) : Prop where
  ex : ∃ (ns : List Int) (at_ rest left mixed seed count : Int), H p = some (.dK (purse c at_ rest left mixed seed count)) ∧ H c = some (.lst (ns.map V.int)) ∧ 0 ≤ at_ ∧ ns.length ≤ 63
theorem Purse.kp {H H' : Hp} {p c : Addr} {ps : List Addr} (B : Purse H p c) (k : Kp ps H H') (n1 : p ∉ ps) (n2 : c ∉ ps) : Purse H' p c := by
  obtain ⟨ns, a, b, d, e, f, g, h1, h2, h3, h4⟩ := B
  exact ⟨ns, a, b, d, e, f, g, k _ _ h1 n1, k _ _ h2 n2, h3, h4⟩
theorem Purse.k0 {H H' : Hp} {p c : Addr} (B : Purse H p c) (k : Kp [] H H') : Purse H' p c := B.kp k (by simp) (by simp)
theorem Purse.off {H : Hp} {p c x : Addr} {xs : List V} (B : Purse H p c) (h : H x = some (.lst xs)) : x ≠ p := by
  obtain ⟨ns, a, b, d, e, f, g, h1, -⟩ := B
  exact ne_of h h1 (by intro z; cases z)
theorem Purse.offT {H : Hp} {p c x : Addr} {xs : List V} (B : Purse H p c) (h : H x = some (.tup xs)) : x ≠ p := by
  obtain ⟨ns, a, b, d, e, f, g, h1, -⟩ := B
  exact ne_of h h1 (by intro z; cases z)
/-! ### the least number of rounds -/
def Lr (r n : Nat) : Prop := n ≤ 2 ^ r ∧ (r = 0 ∨ 2 ^ (r - 1) < n)
theorem Lr.uniq {r s n : Nat} (a : Lr r n) (b : Lr s n) : r = s := by
  have key : ∀ {r s : Nat}, Lr r n → Lr s n → ¬ r < s := by
    intro r s a b h
    rcases b.2 with e | e
    · omega
    · have := Nat.pow_le_pow_right (show 0 < 2 by decide) (show r ≤ s - 1 by omega)
      have := a.1
      omega
  have h1 := key a b
  have h2 := key b a
  omega
theorem pow2_succ (r : Nat) : ((2 ^ r : Nat) : Int) * 2 = ((2 ^ (r + 1) : Nat) : Int) := by
  rw [Nat.pow_succ]
  omega
/-! ### dicts that hold a list of ints as keys -/
def kd (l : List Int) : List (Key × V) := l.map fun a => (Sum.inl a, V.bl true)
theorem kd_val (a : Int) : ∀ l : List Int, (valV (kd l) (.inl a)).isSome = decide (a ∈ l)
  | [] => rfl
  | b :: r => by
    have ih := kd_val a r
    unfold kd at ih ⊢
    rw [List.map_cons]
    by_cases h : b = a
    · subst h
      rw [valV_pos rfl]
      simp
    · rw [valV_neg (fun e => h (Sum.inl.inj e)), ih]
      simp [List.mem_cons, Ne.symm h]
theorem kd_none {a : Int} {l : List Int} (h : a ∉ l) : valV (kd l) (.inl a) = none := by
  have := kd_val a l
  rw [decide_eq_false h] at this
  cases e : valV (kd l) (.inl a) with
  | none => rfl
  | some v =>
    rw [e] at this
    cases this
theorem kd_put {a : Int} {l : List Int} (h : a ∉ l) : putK (kd l) (.inl a) (.bl true) = kd (l ++ [a]) := by
  rw [putK_new _ (kd_none h)]
  unfold kd
  rw [List.map_append]
  rfl
theorem kd_len (l : List Int) : (kd l).length = l.length := List.length_map _
/-! ### plans in the heap -/
def Pr (H : Hp) (t : Addr) (p : Int × Int) : Prop := H t = some (.tup [.int p.1, .int p.2])
def Line (H : Hp) (l : Addr) (ps : List (Int × Int)) : Prop := ∃ ts : List Addr, H l = some (.lst (ts.map V.ref)) ∧ Paired (Pr H) ts ps
def Lines (H : Hp) (ls : List Addr) (L : List (List (Int × Int))) : Prop := Paired (Line H) ls L
theorem paired_imp {α β : Type} {R S : α → β → Prop} (h : ∀ a b, R a b → S a b) : ∀ {xs : List α} {ys : List β}, Paired R xs ys → Paired S xs ys
  | _, _, .nil => .nil
  | _, _, .cons a r => .cons (h _ _ a) (paired_imp h r)
theorem paired_snoc {α β : Type} {R : α → β → Prop} {a : α} {b : β} (h : R a b) : ∀ {xs : List α} {ys : List β}, Paired R xs ys → Paired R (xs ++ [a]) (ys ++ [b])
  | _, _, .nil => .cons h .nil
  | _, _, .cons q r => .cons q (paired_snoc h r)
theorem paired_get {α β : Type} {R : α → β → Prop} : ∀ {xs : List α} {ys : List β}, Paired R xs ys → ∀ {i : Nat} {x : α}, xs[i]? = some x → ∃ y, ys[i]? = some y ∧ R x y
  | _, _, .nil, i, x, e => by simp at e
  | _, _, .cons q r, 0, x, e => by
    simp at e
    subst e
    exact ⟨_, rfl, q⟩
  | _, _, .cons q r, i + 1, x, e => by
    obtain ⟨y, h1, h2⟩ := paired_get r (i := i) (x := x) (by simpa using e)
    exact ⟨y, by simpa using h1, h2⟩
theorem paired_len {α β : Type} {R : α → β → Prop} {xs : List α} {ys : List β} (h : Paired R xs ys) : xs.length = ys.length := Paired.length h
theorem Line.kp {H H' : Hp} {l : Addr} {ps : List (Int × Int)} (h : Line H l ps) (k : Kp [] H H') : Line H' l ps := by
  obtain ⟨ts, h1, h2⟩ := h
  exact ⟨ts, k.g0 h1, paired_imp (fun _ _ e => k.g0 e) h2⟩
theorem Lines.kp {H H' : Hp} {ls : List Addr} {L : List (List (Int × Int))} (h : Lines H ls L) (k : Kp [] H H') : Lines H' ls L := paired_imp (fun _ _ e => Line.kp e k) h
theorem Line.upd {H : Hp} {l F : Addr} {o : HO} {xs : List V} {ps : List (Int × Int)} (h : Line H l ps) (hF : H F = some (.lst xs)) (n : l ≠ F) : Line (L2.upd H F o) l ps := by
  obtain ⟨ts, h1, h2⟩ := h
  exact ⟨ts, hu_ne n h1, paired_imp (fun _ _ e => hu_ne (ne_of e hF (by intro z; cases z)) e) h2⟩
theorem Lines.upd {H : Hp} {F : Addr} {o : HO} {xs : List V} (hF : H F = some (.lst xs)) : ∀ {ls : List Addr} {L : List (List (Int × Int))}, Lines H ls L → F ∉ ls → Lines (L2.upd H F o) ls L
  | _, _, .nil, _ => .nil
  | _, _, .cons a r, n => .cons (Line.upd a hF (fun z => n (by simp [z]))) (Lines.upd hF r (fun z => n (by simp [z])))
theorem erase_perm : ∀ {us : List Int} {k : Nat} (h : k < us.length), (us[k] :: us.eraseIdx k).Perm us
  | x :: r, 0, _ => List.Perm.refl _
  | x :: r, k + 1, h => by
    have ih := erase_perm (us := r) (k := k) (by simpa using h)
    exact (List.Perm.swap x _ _).trans (ih.cons x)
theorem seqIx {i : Int} {n : Nat} (h0 : 0 ≤ i) (h1 : i < n) : seqIndex? i n = some i.toNat := by
  obtain ⟨j, rfl⟩ := Int.eq_ofNat_of_zero_le h0
  have e : ixN n (j : Int) = some j := by
    unfold ixN
    rw [if_pos (by omega), if_pos (by omega)]
    simp
  exact (ixN_seq e).1
theorem erase_map : ∀ {pl : List Int} {k : Nat}, (pl.map V.int).eraseIdx k = (pl.eraseIdx k).map V.int
  | [], _ => rfl
  | _ :: _, 0 => rfl
  | x :: r, k + 1 => by
    show V.int x :: (r.map V.int).eraseIdx k = V.int x :: (r.eraseIdx k).map V.int
    rw [erase_map]

theorem Purse.k1 {H H' : Hp} {p c q : Addr} (B : Purse H p c) (k : Kp [q] H H') (n1 : p ≠ q) (n2 : c ≠ q) : Purse H' p c := B.kp k (by simp [n1]) (by simp [n2])
theorem Purse.new {H : Hp} {p c q : Addr} {o : HO} (B : Purse H p c) (k : H q = none) : Purse (upd H q o) p c := B.k0 (Kp.new k)
theorem Purse.ne1 {H : Hp} {p c q : Addr} (B : Purse H p c) (k : H q = none) : p ≠ q := by
  obtain ⟨ns, a, b, d, e, f, g, h1, -⟩ := B
  exact ne_of_none h1 k
theorem Purse.ne2 {H : Hp} {p c q : Addr} (B : Purse H p c) (k : H q = none) : c ≠ q := by
  obtain ⟨ns, a, b, d, e, f, g, h1, h2, -⟩ := B
  exact ne_of_none h2 k
theorem Purse.at {H : Hp} {p c : Addr} (B : Purse H p c) : ∃ kvs, H p = some (.dK ((.inr "cells", .ref c) :: kvs)) := by
  obtain ⟨ns, a, b, d, e, f, g, h1, -⟩ := B
  exact ⟨_, h1⟩
theorem Purse.fr {H H' : Hp} {p c q : Addr} (B : Purse H' p c) (k : Kp [p] H H') (n : H' q = none) : H q = none := k.back n (by simpa using Ne.symm (B.ne1 n))
/-! plans judged -/
abbrev Pln := List (List (Int × Int))
def okPair (xs kn cs : List Int) (p : Int × Int) : Bool := decide (p.1 ∈ kn) && (!decide (p.1 ∈ cs) && (!decide (p.1 = p.2) && (decide (p.1 ∈ xs) && decide (p.2 ∈ xs))))
def okFrom (xs kn : List Int) : List Int → List (Int × Int) → Bool
  | _, [] => true
  | cs, p :: r => okPair xs kn cs p && okFrom xs kn (cs ++ [p.1]) r
def ins (l : List Int) (a : Int) : List Int := if a ∈ l then l else l ++ [a]
def insL (l r : List Int) : List Int := r.foldl ins l
def allIn (xs kn : List Int) : Bool := xs.all fun x => decide (x ∈ kn)
def jud (xs : List Int) : List Int → Nat → Pln → Option Nat
  | kn, i, [] => if allIn xs kn = true then none else some i
  | kn, i, L :: r => if okFrom xs kn [] L = true then jud xs (insL kn (L.map (·.2))) (i + 1) r else some i
theorem okPair_iff {xs kn cs : List Int} {p : Int × Int} : okPair xs kn cs p = true ↔ p.1 ∈ kn ∧ p.1 ∉ cs ∧ p.1 ≠ p.2 ∧ p.1 ∈ xs ∧ p.2 ∈ xs := by
  unfold okPair
  simp only [Bool.and_eq_true, Bool.not_eq_true', decide_eq_true_eq, decide_eq_false_iff_not]
theorem okFrom_step {xs kn : List Int} {L : List (Int × Int)} {j : Nat} {p : Int × Int} (h : L[j]? = some p) : okFrom xs kn ((L.take j).map (·.1)) (L.drop j) = (okPair xs kn ((L.take j).map (·.1)) p && okFrom xs kn ((L.take (j + 1)).map (·.1)) (L.drop (j + 1))) := by
  obtain ⟨hj, e⟩ := List.getElem?_eq_some_iff.mp h
  rw [List.drop_eq_getElem_cons hj, e, List.take_succ_eq_append_getElem hj, e, List.map_append]
  rfl
theorem mem_ins {l : List Int} {a b : Int} : b ∈ ins l a ↔ b ∈ l ∨ b = a := by
  unfold ins
  split
  · rename_i h
    exact ⟨fun z => .inl z, fun z => z.elim id fun e => e ▸ h⟩
  · simp
theorem ins_nodup {l : List Int} {a : Int} (h : l.Nodup) : (ins l a).Nodup := by
  unfold ins
  split
  · exact h
  · rename_i n
    rw [List.nodup_append]
    refine ⟨h, by simp, fun x hx y hy e => ?_⟩
    rw [List.mem_singleton] at hy
    subst hy e
    exact n hx
theorem ins_len {l : List Int} {a : Int} : (ins l a).length ≤ l.length + 1 := by
  unfold ins
  split
  · omega
  · simp
theorem mem_insL {b : Int} : ∀ {r l : List Int}, b ∈ insL l r ↔ b ∈ l ∨ b ∈ r
  | [], l => by simp [insL]
  | a :: r, l => by
    have ih := mem_insL (b := b) (r := r) (l := ins l a)
    show b ∈ insL (ins l a) r ↔ _
    rw [ih, mem_ins, List.mem_cons, or_assoc]
theorem insL_nodup : ∀ {r l : List Int}, l.Nodup → (insL l r).Nodup
  | [], _, h => h
  | a :: r, l, h => insL_nodup (r := r) (ins_nodup h)
theorem insL_len : ∀ {r l : List Int}, (insL l r).length ≤ l.length + r.length
  | [], l => by simp [insL]
  | a :: r, l => by
    have ih := insL_len (r := r) (l := ins l a)
    have := ins_len (l := l) (a := a)
    show (insL (ins l a) r).length ≤ _
    rw [List.length_cons]
    omega
theorem insL_take {l r : List Int} {j : Nat} {a : Int} (h : r[j]? = some a) : insL l (r.take (j + 1)) = ins (insL l (r.take j)) a := by
  obtain ⟨hj, e⟩ := List.getElem?_eq_some_iff.mp h
  rw [List.take_succ_eq_append_getElem hj, e]
  unfold insL
  rw [List.foldl_append]
  rfl
theorem okFrom_all {xs kn : List Int} : ∀ {L : List (Int × Int)} {cs : List Int}, okFrom xs kn cs L = true → (∀ p, p ∈ L → p.1 ∈ kn ∧ p.1 ∉ cs ∧ p.2 ∈ xs) ∧ (L.map (·.1)).Nodup
  | [], cs, _ => ⟨fun p h => (List.not_mem_nil h).elim, List.Pairwise.nil⟩
  | p :: r, cs, h => by
    obtain ⟨h1, h2⟩ := Bool.and_eq_true_iff.mp (show (okPair xs kn cs p && okFrom xs kn (cs ++ [p.1]) r) = true from h)
    obtain ⟨a1, a2, _, _, a5⟩ := okPair_iff.mp h1
    obtain ⟨b1, b2⟩ := okFrom_all h2
    refine ⟨fun q hq => ?_, List.nodup_cons.mpr ⟨fun m => ?_, b2⟩⟩
    · rcases List.mem_cons.mp hq with rfl | hq
      · exact ⟨a1, a2, a5⟩
      · obtain ⟨c1, c2, c3⟩ := b1 q hq
        exact ⟨c1, fun z => c2 (List.mem_append_left _ z), c3⟩
    · obtain ⟨q, hq, e⟩ := List.mem_map.mp m
      exact (b1 q hq).2.1 (by rw [e]; simp)
theorem okFrom_len {xs kn : List Int} {L : List (Int × Int)} (h : okFrom xs kn [] L = true) : L.length ≤ kn.length := by
  obtain ⟨h1, h2⟩ := okFrom_all h
  have := List.Nodup.length_le_of_subset h2 (fun a ha => by
    obtain ⟨p, hp, rfl⟩ := List.mem_map.mp ha
    exact (h1 p hp).1 : (L.map (·.1)) ⊆ kn)
  rwa [List.length_map] at this
def pairsN (Ls : Pln) : Nat := (Ls.map List.length).sum
theorem jud_none {xs : List Int} (hx : xs.Nodup) : ∀ {Ls : Pln} {kn : List Int} {i : Nat}, jud xs kn i Ls = none → xs.length ≤ kn.length * 2 ^ Ls.length ∧ xs.length ≤ kn.length + pairsN Ls
  | [], kn, i, h => by
    unfold jud at h
    split at h
    · rename_i ha
      have := List.Nodup.length_le_of_subset hx (fun x m => of_decide_eq_true (List.all_eq_true.mp ha x m) : xs ⊆ kn)
      simp only [List.length_nil, Nat.pow_zero, pairsN, List.map_nil, List.sum_nil]
      omega
    · cases h
  | L :: r, kn, i, h => by
    unfold jud at h
    split at h
    · rename_i ho
      obtain ⟨h1, h2⟩ := jud_none hx h
      have l1 := okFrom_len ho
      have l2 := insL_len (r := L.map (·.2)) (l := kn)
      rw [List.length_map] at l2
      refine ⟨?_, ?_⟩
      · have l3 : (insL kn (L.map (·.2))).length ≤ kn.length * 2 := by omega
        have := Nat.mul_le_mul_right (2 ^ r.length) l3
        rw [List.length_cons, Nat.pow_succ, Nat.mul_comm (2 ^ r.length) 2, ← Nat.mul_assoc]
        omega
      · simp only [pairsN, List.map_cons, List.sum_cons] at h2 ⊢
        omega
    · cases h
theorem jud_le {xs : List Int} : ∀ {Ls : Pln} {kn : List Int} {i k : Nat}, jud xs kn i Ls = some k → i ≤ k ∧ k ≤ i + Ls.length
  | [], kn, i, k, h => by
    unfold jud at h
    split at h
    · cases h
    · injection h with h
      simp only [List.length_nil]
      omega
  | L :: r, kn, i, k, h => by
    unfold jud at h
    split at h
    · have := jud_le h
      rw [List.length_cons]
      omega
    · injection h with h
      rw [List.length_cons]
      omega
/-- the law's own look: as many as there are -/
theorem allIn_len {xs kn : List Int} (hx : xs.Nodup) (hk : kn.Nodup) (hs : ∀ a, a ∈ kn → a ∈ xs) : (kn.length < xs.length) ↔ allIn xs kn = false := by
  constructor
  · intro h
    cases e : allIn xs kn with
    | false => rfl
    | true =>
      have := List.Nodup.length_le_of_subset hx (fun x m => of_decide_eq_true (List.all_eq_true.mp e x m) : xs ⊆ kn)
      omega
  · intro h
    unfold allIn at h
    rw [List.all_eq_false] at h
    obtain ⟨x, hm, hn⟩ := h
    have hn : x ∉ kn := by simpa using hn
    have := List.Nodup.length_le_of_subset (l₁ := x :: kn) (l₂ := xs) (List.nodup_cons.mpr ⟨hn, hk⟩) (fun y hy => by
      rcases List.mem_cons.mp hy with rfl | hy
      · exact hm
      · exact hs y hy)
    rw [List.length_cons] at this
    omega
theorem sub_insL {xs kn : List Int} {L : List (Int × Int)} (ho : okFrom xs kn [] L = true) (hs : ∀ a, a ∈ kn → a ∈ xs) : ∀ a, a ∈ insL kn (L.map (·.2)) → a ∈ xs := fun a ha => by
  rcases mem_insL.mp ha with h | h
  · exact hs a h
  · obtain ⟨p, hp, rfl⟩ := List.mem_map.mp h
    exact ((okFrom_all ho).1 p hp).2.2
theorem jud_nilF {xs kn : List Int} {i j : Nat} (hj : j < xs.length) (h : xs[j] ∉ kn) : jud xs kn i [] = some i := by
  unfold jud
  refine if_neg fun z => h ?_
  unfold allIn at z
  exact of_decide_eq_true (List.all_eq_true.mp z xs[j] (List.getElem_mem hj))
theorem jud_nilT {xs kn : List Int} {i : Nat} (h : ∀ x, x ∈ xs → x ∈ kn) : jud xs kn i [] = none := by
  unfold jud
  refine if_pos ?_
  unfold allIn
  exact List.all_eq_true.mpr fun x hx => decide_eq_true (h x hx)
theorem filt_add (f : Int → Bool) : ∀ l : List Int, (l.filter f).length + (l.filter fun x => !f x).length = l.length
  | [] => rfl
  | x :: r => by
    have ih := filt_add f r
    cases h : f x with
    | true =>
      rw [List.filter_cons_of_pos h, List.filter_cons_of_neg (by simp [h]), List.length_cons, List.length_cons]
      omega
    | false =>
      rw [List.filter_cons_of_neg (by simp [h]), List.filter_cons_of_pos (by simp [h]), List.length_cons, List.length_cons]
      omega

theorem kd_ins (l : List Int) (a : Int) : putK (kd l) (.inl a) (.bl true) = kd (ins l a) := by
  by_cases h : a ∈ l
  · rw [show ins l a = l from if_pos h]
    unfold putK
    have e : (valV (kd l) (.inl a)).isSome = true := by
      rw [kd_val]
      exact decide_eq_true h
    have e2 : (kd l).any (fun kv => decide (kv.1 = (.inl a : Key))) = true := by
      rw [List.any_eq_true]
      exact ⟨(.inl a, .bl true), List.mem_map.mpr ⟨a, h, rfl⟩, decide_eq_true rfl⟩
    rw [if_pos e2]
    have : ∀ kv, kv ∈ kd l → (if kv.1 = (.inl a : Key) then (kv.1, V.bl true) else kv) = kv := fun kv hk => by
      obtain ⟨b, hb, rfl⟩ := List.mem_map.mp hk
      by_cases z : (.inl b : Key) = .inl a
      · rw [if_pos z]
      · rw [if_neg z]
    exact (List.map_congr_left this).trans (List.map_id _)
  · rw [show ins l a = l ++ [a] from if_neg h]
    exact kd_put h
def Sm (a b : Nat) (Ls : Pln) : Prop := Ls.length ≤ a ∧ ∀ L, L ∈ Ls → L.length ≤ b
def judV (xs : List Int) (o : Int) (Ls : Pln) : List V := match jud xs [o] 0 Ls with
  | none => [.bl true, .int Ls.length, .int (pairsN Ls)]
  | some i => [.bl false, .int i]
theorem pairsN_succ {Ls : Pln} {i : Nat} {L : List (Int × Int)} (h : Ls[i]? = some L) : pairsN (Ls.take (i + 1)) = pairsN (Ls.take i) + L.length := by
  obtain ⟨hi, e⟩ := List.getElem?_eq_some_iff.mp h
  unfold pairsN
  rw [List.take_succ_eq_append_getElem hi, e, List.map_append, List.sum_append]
  simp
theorem jud_step {xs kn : List Int} {Ls : Pln} {i : Nat} {L : List (Int × Int)} (h : Ls[i]? = some L) : jud xs kn i (Ls.drop i) = if okFrom xs kn [] L = true then jud xs (insL kn (L.map (·.2))) (i + 1) (Ls.drop (i + 1)) else some i := by
  obtain ⟨hi, e⟩ := List.getElem?_eq_some_iff.mp h
  rw [List.drop_eq_getElem_cons hi, e]
  rfl
theorem Line.pp {H H' : Hp} {p c l : Addr} {ps : List (Int × Int)} (h : Line H l ps) (B : Purse H p c) (k : Kp [p] H H') : Line H' l ps := by
  obtain ⟨ts, h1, h2⟩ := h
  exact ⟨ts, k.g1 (B.off h1) h1, paired_imp (fun t p e => k.g1 (B.offT e) e) h2⟩
theorem Lines.pp {H H' : Hp} {p c : Addr} {ls : List Addr} {Ls : Pln} (h : Lines H ls Ls) (B : Purse H p c) (k : Kp [p] H H') : Lines H' ls Ls := paired_imp (fun _ _ e => Line.pp e B k) h
theorem erA_map : ∀ (ts : List Addr) (j : Nat), (ts.map V.ref).eraseIdx j = (ts.eraseIdx j).map V.ref
  | [], _ => rfl
  | _ :: _, 0 => rfl
  | n :: r, j + 1 => by
    show V.ref n :: (r.map V.ref).eraseIdx j = V.ref n :: (r.eraseIdx j).map V.ref
    rw [erA_map r j]
theorem Purse.wr {H0 H : Hp} {p c q : Addr} {o : HO} (B0 : Purse H0 p c) (n : H0 q = none) (B : Purse H p c) : Purse (upd H q o) p c := by
  obtain ⟨ns, a, b, d, e, f, g, h1, h2, h3, h4⟩ := B
  exact ⟨ns, a, b, d, e, f, g, hu_ne (B0.ne1 n) h1, hu_ne (B0.ne2 n) h2, h3, h4⟩
theorem Purse.frN {H H1 : Hp} {p c q : Addr} (B : Purse H1 p c) (k : Kp [p] H H1) (n : H1 q = none) : H q = none := k.back n (by
  intro z
  rw [List.mem_singleton.mp z] at n
  obtain ⟨kvs, e⟩ := B.at
  rw [n] at e
  cases e)
/-- pairs whose called seats are of the list -/
def In2 (xs : List Int) (ps : List (Int × Int)) : Prop := ∀ q, q ∈ ps → q.2 ∈ xs
/-- a line's list is changed -/
structure Ln (H : Hp) (w : Addr) (ts : List Addr) (ps : List (Int × Int)) : Prop where
  at_ : H w = some (.lst (ts.map V.ref))
  pr : Paired (Pr H) ts ps
theorem Ln.line {H : Hp} {w : Addr} {ts : List Addr} {ps : List (Int × Int)} (h : Ln H w ts ps) : Line H w ps := ⟨ts, h.at_, h.pr⟩
theorem Ln.k0 {H H' : Hp} {w : Addr} {ts : List Addr} {ps : List (Int × Int)} (h : Ln H w ts ps) (k : Kp [] H H') : Ln H' w ts ps := ⟨k.g0 h.at_, paired_imp (fun _ _ z => k.g0 z) h.pr⟩
theorem Ln.pp {H H' : Hp} {p c w : Addr} {ts : List Addr} {ps : List (Int × Int)} (h : Ln H w ts ps) (B : Purse H p c) (k : Kp [p] H H') : Ln H' w ts ps := ⟨k.g1 (B.off h.at_) h.at_, paired_imp (fun _ _ z => k.g1 (B.offT z) z) h.pr⟩
theorem Ln.len {H : Hp} {w : Addr} {ts : List Addr} {ps : List (Int × Int)} (h : Ln H w ts ps) : (ts.map V.ref).length = ps.length := by
  rw [List.length_map, paired_len h.pr]
theorem Ln.off {H : Hp} {w D : Addr} {o : HO} {xs : List V} {ts : List Addr} {ps : List (Int × Int)} (h : Ln H w ts ps) (hD : H D = some (.lst xs)) (n : w ≠ D) : Ln (upd H D o) w ts ps := ⟨hu_ne n h.at_, paired_imp (fun _ _ z => hu_ne (ne_of z hD (by intro z; cases z)) z) h.pr⟩
theorem Ln.put {H : Hp} {w : Addr} {ts ts' : List Addr} {ps ps' : List (Int × Int)} (h : Ln H w ts ps) (r : Paired (Pr H) ts' ps') : Ln (upd H w (.lst (ts'.map V.ref))) w ts' ps' := ⟨upd_same, paired_imp (fun _ _ z => hu_ne (ne_of z h.at_ (by intro z; cases z)) z) r⟩
theorem Lines.notin {H : Hp} {q : Addr} (n : H q = none) : ∀ {ls : List Addr} {Ls : Pln}, Lines H ls Ls → q ∉ ls
  | _, _, .nil => by simp
  | l :: r, _, .cons a b => fun m => by
    rcases List.mem_cons.mp m with rfl | m
    · obtain ⟨ts, h1, -⟩ := a
      rw [n] at h1
      cases h1
    · exact Lines.notin n b m
theorem Lines.lst {H : Hp} {l : Addr} : ∀ {ls : List Addr} {Ls : Pln}, Lines H ls Ls → l ∈ ls → ∃ xs, H l = some (.lst xs)
  | _, _, .nil, m => by cases m
  | l' :: r, _, .cons a b, m => by
    rcases List.mem_cons.mp m with rfl | m
    · obtain ⟨ts, h1, -⟩ := a
      exact ⟨_, h1⟩
    · exact Lines.lst b m
theorem Lines.setL {H : Hp} {o : HO} {l : Addr} {xs : List V} {L' : List (Int × Int)} (hF : H l = some (.lst xs)) (hl : Line (L2.upd H l o) l L') : ∀ {ls : List Addr} {Ls : Pln} {k : Nat}, Lines H ls Ls → ls.Nodup → ls[k]? = some l → Lines (L2.upd H l o) ls (Ls.set k L')
  | _, _, _, .nil, _, e => by simp at e
  | a :: r, _, 0, .cons x y, nd, e => by
    simp at e
    subst e
    exact .cons hl (Lines.upd hF y (List.nodup_cons.mp nd).1)
  | a :: r, _, k + 1, .cons x y, nd, e => by
    have e2 : r[k]? = some l := by simpa using e
    have ne : a ≠ l := fun z => (List.nodup_cons.mp nd).1 (z ▸ List.mem_of_getElem? e2)
    exact .cons (Line.upd x hF ne) (Lines.setL hF hl y (List.nodup_cons.mp nd).2 e2)
theorem paired_app {α β : Type} {R : α → β → Prop} : ∀ {xs xs' : List α} {ys ys' : List β}, Paired R xs ys → Paired R xs' ys' → Paired R (xs ++ xs') (ys ++ ys')
  | _, _, _, _, .nil, h => h
  | _, _, _, _, .cons a r, h => .cons a (paired_app r h)
theorem paired_take {α β : Type} {R : α → β → Prop} : ∀ {xs : List α} {ys : List β} (k : Nat), Paired R xs ys → Paired R (xs.take k) (ys.take k)
  | _, _, 0, _ => by simpa using Paired.nil
  | _, _, k + 1, .nil => .nil
  | _, _, k + 1, .cons a r => .cons a (paired_take k r)
theorem paired_drop {α β : Type} {R : α → β → Prop} : ∀ {xs : List α} {ys : List β} (k : Nat), Paired R xs ys → Paired R (xs.drop k) (ys.drop k)
  | _, _, 0, h => h
  | _, _, k + 1, .nil => .nil
  | _, _, k + 1, .cons a r => paired_drop k r
theorem paired_erase {α β : Type} {R : α → β → Prop} : ∀ {xs : List α} {ys : List β} (k : Nat), Paired R xs ys → Paired R (xs.eraseIdx k) (ys.eraseIdx k)
  | _, _, _, .nil => .nil
  | _, _, 0, .cons a r => r
  | _, _, k + 1, .cons a r => .cons a (paired_erase k r)
theorem paired_ins {α β : Type} {R : α → β → Prop} {xs : List α} {ys : List β} {a : α} {b : β} (k : Nat) (h : Paired R xs ys) (r : R a b) : Paired R (xs.take k ++ [a] ++ xs.drop k) (ys.take k ++ [b] ++ ys.drop k) := paired_app (paired_app (paired_take k h) (.cons r .nil)) (paired_drop k h)
theorem paired_rev {α β : Type} {R : α → β → Prop} : ∀ {xs : List α} {ys : List β}, Paired R xs ys → Paired R xs.reverse ys.reverse
  | _, _, .nil => .nil
  | _, _, .cons a r => by
    rw [List.reverse_cons, List.reverse_cons]
    exact paired_snoc a (paired_rev r)
theorem ins_map {α : Type} (f : α → V) (ts : List α) (k : Nat) (t : α) : (ts.map f).take k ++ [f t] ++ (ts.map f).drop k = (ts.take k ++ [t] ++ ts.drop k).map f := by
  simp [List.map_take, List.map_drop]
theorem ins_len2 {α : Type} (ts : List α) (k : Nat) (t : α) : (ts.take k ++ [t] ++ ts.drop k).length = ts.length + 1 := by
  simp only [List.length_append, List.length_take, List.length_drop, List.length_singleton]
  omega
theorem Sm.set {a b k : Nat} {Ls : Pln} {L' : List (Int × Int)} (h : Sm a b Ls) (hl : L'.length ≤ b + 1) : Sm a (b + 1) (Ls.set k L') := by
  refine ⟨by rw [List.length_set]; exact h.1, fun L hL => ?_⟩
  rcases List.mem_or_eq_of_mem_set hL with m | rfl
  · have := h.2 L m
    omega
  · exact hl
theorem Sm.mono {a b a' b' : Nat} {Ls : Pln} (h : Sm a b Ls) (h1 : a ≤ a') (h2 : b ≤ b') : Sm a' b' Ls := ⟨Nat.le_trans h.1 h1, fun L hL => Nat.le_trans (h.2 L hL) h2⟩
theorem Sm.snoc {a b : Nat} {Ls : Pln} {L : List (Int × Int)} (h : Sm a b Ls) (hl : L.length ≤ b) : Sm (a + 1) b (Ls ++ [L]) := by
  refine ⟨by rw [List.length_append]; exact Nat.succ_le_succ h.1, fun M hM => ?_⟩
  rcases List.mem_append.mp hM with m | m
  · exact h.2 M m
  · rw [List.mem_singleton.mp m]
    exact hl
/-! #### pairs as data -/
def dP (p : Int × Int) : PyData := .tuple [.int p.1, .int p.2]
def dL (ps : List (Int × Int)) : PyData := .list (ps.map dP)
theorem dP_eqv (p q : Int × Int) : PyData.eqv (dP p) (dP q) = decide (p = q) := by
  obtain ⟨a, b⟩ := p
  obtain ⟨c, d⟩ := q
  unfold dP
  simp only [PyData.eqv, PyData.eqvAll, Bool.and_true, Prod.mk.injEq]
  by_cases h1 : a = c <;> by_cases h2 : b = d <;> simp [h1, h2]
theorem dPs_eqv : ∀ ps qs : List (Int × Int), PyData.eqvAll (ps.map dP) (qs.map dP) = decide (ps = qs)
  | [], [] => by simp [PyData.eqvAll]
  | [], q :: qs => by simp [PyData.eqvAll]
  | p :: ps, [] => by simp [PyData.eqvAll]
  | p :: ps, q :: qs => by
    simp only [List.map_cons, PyData.eqvAll, dP_eqv, dPs_eqv ps qs, List.cons.injEq]
    by_cases h1 : p = q <;> by_cases h2 : ps = qs <;> simp [h1, h2]
theorem dLs_eqv : ∀ ps qs : Pln, PyData.eqvAll (ps.map dL) (qs.map dL) = decide (ps = qs)
  | [], [] => by simp [PyData.eqvAll]
  | [], q :: qs => by simp [PyData.eqvAll]
  | p :: ps, [] => by simp [PyData.eqvAll]
  | p :: ps, q :: qs => by
    have e : PyData.eqv (dL p) (dL q) = decide (p = q) := by
      unfold dL
      simp only [PyData.eqv]
      exact dPs_eqv p q
    simp only [List.map_cons, PyData.eqvAll, e, dLs_eqv ps qs, List.cons.injEq]
    by_cases h1 : p = q <;> by_cases h2 : ps = qs <;> simp [h1, h2]
theorem dPs_lay : ∀ ps : List (Int × Int), PyData.canLayAll0 (ps.map dP) = true
  | [] => by simp [PyData.canLayAll0]
  | p :: r => by simp [PyData.canLayAll0, dPs_lay r, dP, PyData.canLay0]
theorem dPs_depth : ∀ ps : List (Int × Int), PyData.depthAll (ps.map dP) ≤ 2
  | [] => by simp [PyData.depthAll]
  | p :: r => by
    have := dPs_depth r
    simp only [List.map_cons, PyData.depthAll, dP, PyData.depth]
    omega
theorem dPs_plain : ∀ ps : List (Int × Int), PyData.plainAll (ps.map dP) = true
  | [] => by simp [PyData.plainAll]
  | p :: r => by simp [PyData.plainAll, dPs_plain r, dP, PyData.plain]
theorem dL_shaped (ps : List (Int × Int)) : SeqAt.shaped (dL ps) = true := Bool.and_eq_true_iff.mpr ⟨by unfold dL; simp only [PyData.canLay0, dPs_lay], decide_eq_true (by
  have := dPs_depth ps
  unfold dL
  simp only [PyData.depth]
  omega)⟩
theorem dLs_lay : ∀ Ls : Pln, PyData.canLayAll0 (Ls.map dL) = true
  | [] => by simp [PyData.canLayAll0]
  | p :: r => by simp [PyData.canLayAll0, dLs_lay r, dL, PyData.canLay0, dPs_lay]
theorem dLs_depth : ∀ Ls : Pln, PyData.depthAll (Ls.map dL) ≤ 3
  | [] => by simp [PyData.depthAll]
  | p :: r => by
    have := dLs_depth r
    have := dPs_depth p
    simp only [List.map_cons, PyData.depthAll, dL, PyData.depth]
    omega
theorem dLs_shaped (Ls : Pln) : SeqAt.shaped (.list (Ls.map dL)) = true := Bool.and_eq_true_iff.mpr ⟨by simp only [PyData.canLay0, dLs_lay], decide_eq_true (by
  have := dLs_depth Ls
  simp only [PyData.depth]
  omega)⟩
theorem dp_pairs {K : PySem.W.Frag} {H : Hp} : ∀ {ts : List Addr} {ps : List (Int × Int)}, Paired (Pr H) ts ps → DpAll K H (ts.map V.ref) (ps.map dP)
  | _, _, .nil => .nil
  | _, _, .cons a r => .cons (.tup (SqT.of a) (.cons (.int _) (.cons (.int _) .nil))) (dp_pairs r)
theorem dp_line {K : PySem.W.Frag} {H : Hp} {l : Addr} {ps : List (Int × Int)} (h : Line H l ps) : Dp K H (.ref l) (dL ps) := by
  obtain ⟨ts, h1, h2⟩ := h
  exact .lst (SqL.of h1) (dp_pairs h2)
theorem dp_lines {K : PySem.W.Frag} {H : Hp} : ∀ {ls : List Addr} {Ls : Pln}, Lines H ls Ls → DpAll K H (ls.map V.ref) (Ls.map dL)
  | _, _, .nil => .nil
  | _, _, .cons a r => .cons (dp_line a) (dp_lines r)
theorem rd_eqLine {K : PySem.W.Frag} {H : Hp} {Q : VK} {l e : Addr} {ps : List (Int × Int)} (h : Line H l ps) (he : H e = some (.lst [])) (q : Q (.bl (decide (ps = []))) H) : rEqD K (.ref l) (.ref e) H Q :=
  ⟨dL ps, dL [], dp_line h, .lst (SqL.of he) .nil, dL_shaped ps, dL_shaped [], by
    unfold dL
    simp only [PyData.eqv]
    have := dPs_eqv ps []
    rw [this]
    exact q⟩
theorem rd_eqLines {K : PySem.W.Frag} {H : Hp} {Q : VK} {F e : Addr} {ls : List Addr} {Ls : Pln} (hF : H F = some (.lst (ls.map V.ref))) (h : Lines H ls Ls) (he : H e = some (.lst [])) (q : Q (.bl (decide (Ls = []))) H) : rEqD K (.ref F) (.ref e) H Q :=
  ⟨.list (Ls.map dL), .list [], .lst (SqL.of hF) (dp_lines h), .lst (SqL.of he) .nil, dLs_shaped Ls, by rfl, by
    simp only [PyData.eqv]
    have := dLs_eqv Ls []
    rw [List.map_nil] at this
    rw [this]
    exact q⟩
theorem rd_neLines {K : PySem.W.Frag} {H : Hp} {Q : VK} {F G : Addr} {ls ms : List Addr} {Ls : Pln} (hF : H F = some (.lst (ls.map V.ref))) (h : Lines H ls Ls) (hG : H G = some (.lst (ms.map V.ref))) (h2 : Lines H ms Ls) (q : Q (.bl false) H) : rNeD K (.ref F) (.ref G) H Q :=
  ⟨.list (Ls.map dL), .list (Ls.map dL), .lst (SqL.of hF) (dp_lines h), .lst (SqL.of hG) (dp_lines h2), dLs_shaped Ls, dLs_shaped Ls, by
    simp only [PyData.eqv]
    have := dLs_eqv Ls Ls
    rw [this, decide_eq_true rfl]
    exact q⟩
theorem place_of {ps : List (Int × Int)} {p : Int × Int} (h : p ∈ ps) : ∃ j, PySem.SeqAt.dataPlace (ps.map dP) (dP p) = some j := by
  unfold PySem.SeqAt.dataPlace
  cases e : (ps.map dP).findIdx? (fun y => PyData.eqv y (dP p)) with
  | some j => exact ⟨j, rfl⟩
  | none =>
    have := List.findIdx?_eq_none_iff.mp e (dP p) (List.mem_map_of_mem h)
    rw [dP_eqv, decide_eq_true rfl] at this
    cases this

local macro_rules | `(tactic| wtm_at "look") => `(tactic| fail "no rule")
local macro_rules | `(tactic| wtm_at "ne") => `(tactic| first
  | with_reducible assumption
  | ((with_reducible refine' Ne.symm ?h); (case h => with_reducible assumption))
  | ((with_reducible refine' ne_fresh ?n); (case n => with_reducible assumption))
  | ((with_reducible refine' Ne.symm (ne_fresh ?n)); (case n => with_reducible assumption))
  | ((refine' ne_of_none ?h ?n); (case n => with_reducible assumption); (case h => wtm_at "hp"))
  | ((refine' Ne.symm (ne_of_none ?h ?n)); (case n => with_reducible assumption); (case h => wtm_at "hp"))
  | fail "no rule")
local macro_rules | `(tactic| wtm_at "hp") => `(tactic| first
  | with_reducible assumption
  | with_reducible exact upd_same
  | ((with_reducible refine' upd_is ?e); (case e => exact rfl))
  | ((with_reducible refine' hu_ne ?n ?e); (case n => wtm_at "ne"); (case e => wtm_at "hp"))
  | ((with_reducible refine' Kp.g0 ?k ?e); (case k => with_reducible assumption); (case e => wtm_at "hp"))
  | ((with_reducible refine' Kp.g1 ?k ?n ?e); (case k => with_reducible assumption); (case n => wtm_at "ne"); (case e => wtm_at "hp"))
  | ((with_reducible refine' Kp.g2 ?k ?n ?m ?e); (case k => with_reducible assumption); (case n => wtm_at "ne"); (case m => wtm_at "ne"); (case e => wtm_at "hp"))
  | ((with_reducible refine' Kp.g3 ?k ?n ?m ?l ?e); (case k => with_reducible assumption); (case n => wtm_at "ne"); (case m => wtm_at "ne"); (case l => wtm_at "ne"); (case e => wtm_at "hp"))
  | fail "no rule")
local macro_rules | `(tactic| wtm_at "sq") => `(tactic| first
  | with_reducible assumption
  | wtm_at "sqx"
  | ((refine' SqL.of ?e); (case e => wtm_at "hp"))
  | ((refine' SqT.of ?e); (case e => wtm_at "hp"))
  | fail "no rule")
local macro_rules | `(tactic| wtm_at "at") => `(tactic| first
  | exact rfl
  | assumption
  | ((refine' atI_ints ?a ?b); (case a => omega); (case b => omega))
  | fail "no rule")
local macro_rules | `(tactic| wtm_at "cc") => `(tactic| first
  | with_reducible assumption
  | omega
  | exact rfl
  | decide
  | ((refine' ⟨?a, ?b⟩); (case a => omega); (case b => omega))
  | ((refine' Or.inr ⟨?a, ?b⟩); (case a => omega); (case b => omega))
  | ((refine' Or.inl ⟨?a, ?b⟩); (case a => omega); (case b => omega))
  | ((refine' ⟨?a, ?b, ?c⟩); (case a => first | omega | decide | fail "num"); (case b => first | omega | decide | fail "num"); (case c => first | omega | decide | fail "num"))
  | fail "no rule")
local macro_rules | `(tactic| wtm_at "sz") => `(tactic| first
  | assumption
  | ((refine' szlt ?h); (case h => (simp; omega)))
  | ((refine' szlt ?h); (case h => omega))
  | ((refine' szlt ?h); (case h => exact Nat.le_of_ble_eq_true rfl))
  | ((refine' sz1000 ?h); (case h => (simp; done)))
  | ((refine' sz1000 ?h); (case h => omega))
  | fail "no rule")
local macro_rules | `(tactic| wtm_at "dg") => `(tactic| first
  | ((refine' dg_is ?a ?b); (case a => wtm_at "hp"); (case b => wtm_at "hp"))
  | ((refine' dg_i ?a); (case a => wtm_at "hp"))
  | ((refine' dg_s ?a); (case a => wtm_at "hp"))
  | fail "no rule")
local macro_rules | `(tactic| wtm_at "dgv") => `(tactic| first
  | ((refine' dg_sv ?a ?b); (case a => wtm_at "hp"); (case b => first | assumption | wtm_at "look" | exact rfl | fail "look"))
  | ((refine' dg_iv ?a ?b); (case a => wtm_at "hp"); (case b => first | assumption | wtm_at "look" | exact rfl | fail "look"))
  | fail "no rule")
local macro_rules | `(tactic| wtm_at "dp") => `(tactic| first
  | ((refine' dp_is ?a ?b ?c); (case a => wtm_at "hp"); (case b => wtm_at "hp"); (case c => wtm_at "sz"))
  | ((refine' dp_i ?a ?c); (case a => wtm_at "hp"); (case c => wtm_at "sz"))
  | ((refine' dp_s ?a ?c); (case a => wtm_at "hp"); (case c => wtm_at "sz"))
  | fail "no rule")
local macro_rules | `(tactic| wtm_at "rd1") => `(tactic| first
  | with_reducible refine' rd_seq ?_
  | with_reducible refine' rd_asg ?_
  | ((with_reducible refine' rd_var ?e ?_); (case e => exact rfl))
  | with_reducible refine' rd_c ?_
  | with_reducible refine' rd_op ?_
  | with_reducible refine' rd_gname ?_
  | with_reducible refine' rd_CB ?_
  | with_reducible refine' rd_cons ?_
  | with_reducible refine' rd_nil ?_
  | with_reducible refine' rd_ret ?_
  | with_reducible refine' rd_drop ?_
  | with_reducible refine' rd_ifS ?_
  | with_reducible refine' rd_test ?_
  | with_reducible refine' rd_exb ?_
  | with_reducible refine' rd_call ?_
  | with_reducible refine' rd_I0 ?_
  | ((with_reducible refine' rd_I ?c ?_); (case c => wtm_at "cc"))
  | ((with_reducible refine' rd_ixL ?h ?a ?_); (case h => wtm_at "sq"); (case a => wtm_at "at"))
  | ((with_reducible refine' rd_ixT ?h ?a ?_); (case h => wtm_at "sq"); (case a => wtm_at "at"))
  | with_reducible refine' rd_int1 ?_
  | with_reducible refine' rd_abs ?_
  | ((with_reducible refine' rd_lenI ?h ?_); (case h => wtm_at "sq"))
  | ((with_reducible refine' rd_lenL ?h ?_); (case h => wtm_at "sq"))
  | ((with_reducible refine' rd_lenT ?h ?_); (case h => wtm_at "sq"))
  | with_reducible refine' rd_eqI ?_
  | with_reducible refine' rd_neI ?_
  | with_reducible refine' rd_eqS ?_
  | with_reducible refine' rd_neS ?_
  | with_reducible refine' rd_eqB ?_
  | with_reducible refine' rd_neB ?_
  | with_reducible refine' rd_and ?_
  | with_reducible refine' rd_or ?_
  | with_reducible refine' rd_not ?_
  | with_reducible refine' rd_tB ?_
  | with_reducible refine' rd_gsub ?_
  | ((with_reducible refine' rd_setL ?h ?j ?_); (case h => wtm_at "hp"); (case j => exact rfl))
  | with_reducible refine' rd_next ?_
  | with_reducible refine' rd_un ?_
  | with_reducible refine' rd_U ?_
  | with_reducible refine' rd_tup ?_
  | with_reducible refine' rd_lst ?_
  | with_reducible refine' rd_bm ?_
  | with_reducible refine' rd_bm0 ?_
  | with_reducible refine' rd_meth ?_
  | with_reducible refine' rd_make ?_
  | with_reducible refine' rd_iTup ?_
  | ((with_reducible refine' rd_iTupX ?h ?_); (case h => wtm_at "sq"))
  | with_reducible refine' rd_for ?_
  | with_reducible refine' rd_iList ?_
  | ((with_reducible refine' rd_iListX ?h ?_); (case h => wtm_at "sq"))
  | with_reducible refine' rd_iRng1 ?_
  | ((with_reducible refine' rd_iRng1X ?h1 ?h2 ?_); (case h1 => wtm_at "cc"); (case h2 => wtm_at "cc"))
  | ((with_reducible refine' rd_iRng2X ?h1 ?_); (case h1 => ((refine' ⟨?a, ?b, ?c, ?d⟩); (case a => omega); (case b => omega); (case c => omega); (case d => omega))))
  | with_reducible refine' rd_iRng2 ?_
  | with_reducible refine' rd_lc ?_
  | with_reducible refine' rd_yes ?_
  | with_reducible refine' rd_andV ?_
  | with_reducible refine' rd_orV ?_
  | with_reducible refine' rd_notV ?_
  | with_reducible refine' rd_ifE ?_
  | with_reducible refine' rd_isN ?_
  | with_reducible refine' rd_notN ?_
  | with_reducible refine' rd_min2 ?_
  | with_reducible refine' rd_max2 ?_
  | with_reducible refine' rd_retN ?_
  | with_reducible refine' rd_brk ?_
  | with_reducible refine' rd_cont ?_
  | with_reducible refine' rd_tfld ?_
  | ((with_reducible refine' rd_fldX ?h ?c ?n ?l ?_); (case h => wtm_at "hp"); (case c => wtm_at "cls"); (case n => wtm_at "noat"); (case l => exact rfl))
  | with_reducible refine' rd_sfld ?_
  | ((with_reducible refine' rd_sfldX ?h ?c ?n ?l ?_); (case h => wtm_at "hp"); (case c => wtm_at "cls"); (case n => wtm_at "noat"); (case l => first | decide | exact Nat.le_of_ble_eq_true rfl | fail "len"))
  | with_reducible refine' rd_tcon ?_
  | ((with_reducible refine' rd_conX ?h ?c ?n ?l ?_); (case h => wtm_at "hp"); (case c => wtm_at "cls"); (case n => wtm_at "con"); (case l => exact rfl))
  | ((with_reducible refine' rd_methX ?h ?l ?_); (case h => wtm_at "hp"); (case l => exact rfl))
  | with_reducible refine' rd_isi_ii ?_
  | with_reducible refine' rd_isi_ib ?_
  | with_reducible refine' rd_isi_bb ?_
  | with_reducible refine' rd_isi_bi ?_
  | with_reducible refine' rd_isi_ss ?_
  | ((with_reducible refine' rd_isi_ll ?h ?_); (case h => wtm_at "hp"))
  | ((with_reducible refine' rd_isi_tt ?h ?_); (case h => wtm_at "hp"))
  | with_reducible refine' iteT ?_
  | with_reducible refine' iteF ?_
  | with_reducible refine' ite_nt ?_
  | with_reducible refine' ite_nf ?_
  | with_reducible refine' ite_in ?_
  | with_reducible refine' ite_rn ?_
  | with_reducible refine' ite_sn ?_
  | with_reducible refine' ite_bn ?_
  | with_reducible refine' ite_nn ?_
  | with_reducible refine' ite_xin ?_
  | with_reducible refine' ite_xrn ?_
  | with_reducible refine' ite_xnn ?_
  | with_reducible refine' rd_dget2 ?_
  | ((with_reducible refine' rd_isdX ?h ?_); (case h => first | ((refine' isD_T ?e); (case e => wtm_at "hp")) | ((refine' isD_K ?e); (case e => wtm_at "hp"))))
  | ((with_reducible refine' rd_dgX ?h ?_); (case h => wtm_at "dg"))
  | with_reducible refine' rd_sdput ?_
  | ((with_reducible refine' rd_dpX ?h ?_); (case h => wtm_at "dp"))
  | ((with_reducible refine' ty_l ?h ?_); (case h => wtm_at "sq"))
  | ((with_reducible refine' ty_d ?h ?_); (case h => wtm_at "hp"))
  | ((with_reducible refine' ty_dK ?h ?_); (case h => wtm_at "hp"))
  | ((with_reducible refine' rd_append ?h ?l ?_); (case h => wtm_at "hp"); (case l => wtm_at "sz"))
  | with_reducible refine' rd_lstRg ?_
  | with_reducible refine' rd_rg1 ?_
  | with_reducible refine' rd_rg2 ?_
  | with_reducible refine' rd_inX ?_
  | with_reducible refine' rd_inX2 ?_
  | ((with_reducible refine' rd_listL ?h ?_); (case h => wtm_at "sq"))
  | ((with_reducible refine' rd_gtup ?h ?l ?_); (case h => wtm_at "sq"); (case l => exact rfl))
  | with_reducible refine' rd_gcons ?_
  | with_reducible refine' rd_gnil ?_
  | with_reducible refine' rd_din ?_
  | with_reducible refine' rd_dnotin ?_
  | with_reducible refine' rd_dget ?_
  | with_reducible refine' rd_dget1 ?_
  | ((with_reducible refine' rd_dinX ?h ?_); (case h => wtm_at "dg"))
  | ((with_reducible refine' rd_dgetX ?h ?_); (case h => wtm_at "dgv"))
  | with_reducible refine' rd_pnil ?_
  | with_reducible refine' rd_pcons ?_
  | with_reducible refine' rd_sl ?_
  | with_reducible refine' rd_part ?_
  | with_reducible refine' rd_nopart ?_
  | ((with_reducible refine' rd_slL ?h ?_); (case h => wtm_at "sq"))
  | ((with_reducible refine' rd_clear ?h ?_); (case h => wtm_at "hp"))
  | ((with_reducible refine' rd_aug ?e ?_); (case e => exact rfl))
  | with_reducible refine' rd_ipI ?_
  | ((with_reducible refine' rd_inI ?h ?_); (case h => wtm_at "sq"))
  | ((with_reducible refine' rd_notInI ?h ?_); (case h => wtm_at "sq"))
  | ((with_reducible refine' rd_lenD ?h ?_); (case h => wtm_at "hp"))
  | with_reducible refine' rd_iEnum ?_
  | ((with_reducible refine' rd_iEnumX ?h ?_); (case h => wtm_at "sq"))
  | ((with_reducible refine' rd_eqLI ?h1 ?h2 ?_); (case h1 => wtm_at "sq"); (case h2 => wtm_at "sq"))
  | ((with_reducible refine' rd_neLI ?h1 ?h2 ?_); (case h1 => wtm_at "sq"); (case h2 => wtm_at "sq"))
  | fail "no rule")
local macro_rules | `(tactic| wtm_at "rd") => `(tactic| repeat wtm_at "rd1")
local macro_rules | `(tactic| wtm_at "hn") => `(tactic| first
  | with_reducible assumption
  | ((with_reducible refine' hn_ne ?n ?e); (case n => wtm_at "ne"); (case e => wtm_at "hn"))
  | ((refine' Kp.back ?k ?e ?n); (case k => with_reducible assumption); (case e => with_reducible assumption); (case n => first | with_reducible assumption | (simp; done) | fail "mem"))
  | fail "no rule")
local macro_rules | `(tactic| wtm_at "kp") => `(tactic| first
  | exact Kp.refl
  | with_reducible assumption
  | ((with_reducible refine' Kp.of0 ?k); (case k => with_reducible assumption))
  | ((with_reducible refine' Kp.wr ?a ?h); (case h => (simp; done)); (case a => wtm_at "kp"))
  | ((with_reducible refine' Kp.nw ?a ?h); (case h => wtm_at "hn"); (case a => wtm_at "kp"))
  | ((with_reducible refine' Kp.mine ?a ?h); (case h => wtm_at "hn"); (case a => wtm_at "kp"))
  | ((with_reducible refine' Kp.via1 ?a ?b ?n); (case b => with_reducible assumption); (case n => wtm_at "hn"); (case a => wtm_at "kp"))
  | ((with_reducible refine' Kp.trans ?a ?b); (case b => first | with_reducible assumption | ((with_reducible refine' Kp.of0 ?k); (case k => with_reducible assumption)) | fail "kp"); (case a => wtm_at "kp"))
  | fail "no rule")
local macro_rules | `(tactic| wtm_at "rd1") => `(tactic| first
  | with_reducible refine' rd_prop ?_
  | ((with_reducible refine' rd_propX ?h ?_); (case h => wtm_at "hp"))
  | with_reducible refine' rd_revL ?_
  | ((with_reducible refine' rd_revLX ?h ?_); (case h => wtm_at "sq"))
  | with_reducible refine' rd_makeK ?_
  | with_reducible refine' rd_sortKey ?_
  | with_reducible refine' rd_sfldaug ?_
  | ((with_reducible refine' rd_sfldaugX ?h ?c ?n ?l ?_); (case h => wtm_at "hp"); (case c => wtm_at "cls"); (case n => wtm_at "noat"); (case l => exact rfl))
  | ((with_reducible refine' rd_insX ?h ?l ?_); (case h => wtm_at "hp"); (case l => first | decide | exact Nat.le_of_ble_eq_true rfl | fail "len"))
  | with_reducible refine' rd_addI ?_
  | with_reducible refine' rd_subI ?_
  | with_reducible refine' rd_disp ?_
  | with_reducible refine' rd_dc ?_
  | ((with_reducible refine' rd_dictD ?h ?_); (case h => wtm_at "hp"))
  | with_reducible refine' rd_minKey ?_
  | fail "no rule")
local macro_rules | `(tactic| wtm_at "hp") => `(tactic| first
  | ((with_reducible refine' Kt.g0 ?k ?n ?e); (case k => with_reducible assumption); (case n => (intro _ z; cases z)); (case e => wtm_at "hp"))
  | ((with_reducible refine' Kt.g1 ?k ?n ?m ?e); (case k => with_reducible assumption); (case n => (intro _ z; cases z)); (case m => wtm_at "ne"); (case e => wtm_at "hp"))
  | fail "no rule")
local macro_rules | `(tactic| wtm_at "cc") => `(tactic| first
  | ((refine' wide60 ?a ?b); (case a => omega); (case b => omega))
  | fail "no rule")
local macro_rules | `(tactic| wtm_at "kt") => `(tactic| first
  | with_reducible assumption
  | ((with_reducible refine' Kt.of0 ?k); (case k => with_reducible assumption))
  | ((with_reducible refine' Kt.wr ?a ?h ?e ?w); (case h => (simp; done)); (case e => wtm_at "hp"); (case w => exact trivial); (case a => wtm_at "kt"))
  | ((with_reducible refine' Kt.nw ?a ?e); (case e => wtm_at "hn"); (case a => wtm_at "kt"))
  | fail "no rule")
local macro_rules | `(tactic| wtm_at "dgv") => `(tactic| first
  | ((refine' dg_sl ?a ?b); (case a => wtm_at "hp"); (case b => exact rfl))
  | fail "no rule")
local macro_rules | `(tactic| wtm_at "dg") => `(tactic| first
  | ((refine' dg_ii ?a ?b); (case a => wtm_at "hp"); (case b => wtm_at "hp"))
  | fail "no rule")
local macro_rules | `(tactic| wtm_at "dp") => `(tactic| first
  | ((refine' dp_ii ?a ?b ?c); (case a => wtm_at "hp"); (case b => wtm_at "hp"); (case c => wtm_at "sz"))
  | fail "no rule")
local macro_rules | `(tactic| wtm_at "errS") => `(tactic| fail "no rule")
local macro_rules | `(tactic| wtm_at "errN") => `(tactic| fail "no rule")
local macro_rules | `(tactic| wtm_at "rd1") => `(tactic| first
  | with_reducible refine' rd_raiseE ?_
  | with_reducible refine' rd_raiseX ?_
  | with_reducible refine' rd_calS ?_
  | with_reducible refine' rd_metS ?_
  | with_reducible refine' rd_xe ?_
  | ((with_reducible refine' rd_xeX ?s ?n ?h ?l ?_); (case s => wtm_at "errS"); (case n => wtm_at "errN"); (case h => wtm_at "hp"); (case l => exact rfl))
  | ((with_reducible refine' rd_isXv ?s ?h ?_); (case s => wtm_at "errS"); (case h => wtm_at "hp"))
  | ((with_reducible refine' rd_isXt ?s ?m ?h ?e ?_); (case s => wtm_at "errS"); (case m => decide); (case h => wtm_at "hp"); (case e => decide))
  | ((with_reducible refine' rd_isXf ?s ?m ?h ?e ?_); (case s => wtm_at "errS"); (case m => decide); (case h => wtm_at "hp"); (case e => decide))
  | fail "no rule")
local macro_rules | `(tactic| wtm_at "errS") => `(tactic| first | exact (er_InvalidSetting (by assumption)).2 | exact (er_InvalidPlan (by assumption)).2 | exact (er_DeedRefused (by assumption)).2 | exact (er_TooMuch (by assumption)).2)
local macro_rules | `(tactic| wtm_at "errN") => `(tactic| first | exact (er_InvalidSetting (by assumption)).1.noN | exact (er_InvalidPlan (by assumption)).1.noN | exact (er_DeedRefused (by assumption)).1.noN | exact (er_TooMuch (by assumption)).1.noN)
section
variable {P : Program} {w : World} {K : PySem.W.Frag} {mg : Str → Option Value} {base : Heap}
def sp_l_purse (K : PySem.W.Frag) : Sp := fun vs H Q E => ∃ (a : Addr) (ns : List Int), vs = [.ref a] ∧ (SqL K H a (ns.map V.int)) ∧ (ns.length ≤ 63) ∧ (∀ p c H1, Purse H1 p c → Kp [] H H1 → H p = none → H c = none → Q (.ref p) H1)
theorem us_l_purse {K : PySem.W.Frag} {H : Hp} {Q : VK} {E : XK} {a : Addr} {ns : List Int} (hS : SqL K H a (ns.map V.int)) (hl : ns.length ≤ 63) (kk : ∀ p c H1, Purse H1 p c → Kp [] H H1 → H p = none → H c = none → Q (.ref p) H1) : sp_l_purse K [.ref a] H Q E := ⟨_, _, rfl, hS, hl, kk⟩
theorem f_l_purse (T : Cx K mg) (B : Tb P w K mg base) : ∃ fd, FunD K "_law_purse" "_law_purse" (defArgs s_l_purse) (defBody s_l_purse) (defScope s_l_purse) (d_l_purse.dvs K) (d_l_purse.kws K) (fAd K d_l_purse.at_) fd ∧ FnOk P w K mg base CX0 1 (fAd K d_l_purse.at_) fd p_l_purse (sp_l_purse K) := by
  obtain ⟨fd, F⟩ := T.says.def_ 0 (d := d_l_purse) rfl
  refine ⟨fd, F, fnD F sc_l_purse (fun vs H Q E h => by
    obtain ⟨_, _, rfl, _⟩ := h
    rfl) fun cdv A outer s H vs Q E hr h => ?_⟩
  have hu := hu_of hr
  obtain ⟨a, ns, rfl, hS, hl, kk⟩ := h
  refine ⟨_, (pss_cons (ps_set (i := 1) sc_l_purse.nd rfl (by first | exact Or.inl rfl | exact Or.inr rfl) (pe_slice sl_list (pv 0) po_none (po_some pe_int))) (pss_cons (ps_set (i := 2) sc_l_purse.nd rfl (by first | exact Or.inl rfl | exact Or.inr rfl) pe_int) (pss_cons (ps_for PassesOwn.never rfl (pi_list (pv 1)) (pg_name (i := 3) sc_l_purse.nd rfl (by first | exact Or.inl rfl | exact Or.inr rfl)) (pss_one (ps_set (i := 2) sc_l_purse.nd rfl (by first | exact Or.inl rfl | exact Or.inr rfl) (pe_op op_mod (pe_callTy call_int1' (by rfl) (fr_int T) (by decide +kernel) (pa_cons (pe_op op_add (pe_op op_add (pe_op op_mul (pv 2) pe_int) (pe_op op_mod (pe_callTy call_int1' (by rfl) (fr_int T) (by decide +kernel) (pa_cons (pv 3) pa_nil)) pe_int)) pe_int) pa_nil)) pe_int)))) (pss_one (ps_ret (pe_disp (pps_cons pe_str (pv 1) (pps_cons pe_str pe_int (pps_cons pe_str pe_int (pps_cons pe_str pe_int (pps_cons pe_str pe_int (pps_cons pe_str (pv 2) (pps_cons pe_str pe_int pps_nil))))))) (by rfl) (by rfl) (fun z => by cases z) (by decide))))))), ?_⟩
  rw [show L2.start n_l_purse [.ref a] = [some (.ref a), none, none, none] from rfl]
  try dsimp only [cxOf, Cx.nox, Cx.wish, List.map]

  wtm_at "rd"
  intro c nc
  have e : cutV (ns.map V.int) none (some 63) = ns.map V.int := by
    rw [show (63 : Int) = ((63 : Nat) : Int) from rfl, cut_to, List.take_of_length_le (by rw [List.length_map]; exact hl)]
  rw [e]
  wtm_at "rd"
  refine forL_ints ns (fun i σ H1 => (∃ s v3, σ = [some (.ref a), some (.ref c), some (.int s), v3]) ∧ H1 = upd H c (.lst (ns.map V.int))) ⟨⟨_, _, rfl⟩, rfl⟩ (fun i σ H1 _ q => ?_) ?_ ?_
  · rw [q.2]
    exact SqL.of upd_same
  · rintro i hi σ H1 ⟨⟨s, v3, rfl⟩, rfl⟩
    wtm_at "rd"
    exact ⟨⟨_, _, rfl⟩, rfl⟩
  · rintro σ H1 ⟨⟨s, v3, rfl⟩, rfl⟩
    wtm_at "rd"
    refine rd_disp fun p np => ?_
    wtm_at "rd"
    refine ⟨upd_same, purse c 0 0 0 0 s 0, rfl, Nat.le_of_ble_eq_true rfl, ?_⟩
    rw [merge_purse]
    have np' : H p = none := Kp.back (Kp.new (ps := []) nc) np (by simp)
    have ncp : c ≠ p := ne_of_none upd_same np
    have u1 : upd (upd (upd H c (.lst (ns.map V.int))) p (.dK [])) p (.dK (purse c 0 0 0 0 s 0)) p = some (.dK (purse c 0 0 0 0 s 0)) := upd_same
    have u2 : upd (upd (upd H c (.lst (ns.map V.int))) p (.dK [])) p (.dK (purse c 0 0 0 0 s 0)) c = some (.lst (ns.map V.int)) := hu_ne ncp (hu_ne ncp upd_same)
    have u3 : Kp [] H (upd (upd (upd H c (.lst (ns.map V.int))) p (.dK [])) p (.dK (purse c 0 0 0 0 s 0))) := ((Kp.new nc).nw np).mine np'
    exact kk p c _ ⟨ns, 0, 0, 0, 0, s, 0, u1, u2, by decide, hl⟩ u3 np' nc
theorem c_l_purse (T : Cx K mg) (B : Tb P w K mg base) : CalX P w K mg base CX0 1 "_law_purse" (sp_l_purse K) [] := by
  obtain ⟨fd, F, ok⟩ := f_l_purse (P := P) (w := w) (base := base) T B
  exact ⟨_, fd, p_l_purse, [], ok, gl_l_purse T, F.kp, FunD.bindsN F fun _ _ _ _ _ _ us hl => match us, hl with | [_], _ => rfl, .nil⟩
end
section
variable {P : Program} {w : World} {K : PySem.W.Frag} {mg : Str → Option Value} {base : Heap}
def sp_l_mixed (K : PySem.W.Frag) : Sp := fun vs H Q E => ∃ (s pl : Int), vs = [.int s, .int pl] ∧ (∀ n, 0 ≤ n → Q (.int n) H)
theorem us_l_mixed {K : PySem.W.Frag} {H : Hp} {Q : VK} {E : XK} {s pl : Int}  (kk : ∀ n, 0 ≤ n → Q (.int n) H) : sp_l_mixed K [.int s, .int pl] H Q E := ⟨_, _, rfl, kk⟩
theorem f_l_mixed (T : Cx K mg) (B : Tb P w K mg base) : ∃ fd, FunD K "_law_mixed" "_law_mixed" (defArgs s_l_mixed) (defBody s_l_mixed) (defScope s_l_mixed) (d_l_mixed.dvs K) (d_l_mixed.kws K) (fAd K d_l_mixed.at_) fd ∧ FnOk P w K mg base CX0 1 (fAd K d_l_mixed.at_) fd p_l_mixed (sp_l_mixed K) := by
  obtain ⟨fd, F⟩ := T.says.def_ 1 (d := d_l_mixed) rfl
  refine ⟨fd, F, fnD F sc_l_mixed (fun vs H Q E h => by
    obtain ⟨_, _, rfl, _⟩ := h
    rfl) fun cdv A outer s H vs Q E hr h => ?_⟩
  have hu := hu_of hr
  obtain ⟨s, pl, rfl, kk⟩ := h
  refine ⟨_, (pss_cons (ps_set (i := 2) sc_l_mixed.nd rfl (by first | exact Or.inl rfl | exact Or.inr rfl) (pe_op op_mod (pe_callTy call_int1' (by rfl) (fr_int T) (by decide +kernel) (pa_cons (pe_op op_add (pe_op op_add (pe_op op_mul (pv 0) pe_int) (pe_op op_mul (pv 1) pe_int)) pe_int) pa_nil)) pe_int)) (pss_cons (ps_set (i := 3) sc_l_mixed.nd rfl (by first | exact Or.inl rfl | exact Or.inr rfl) (pe_op op_mod (pe_callTy call_int1' (by rfl) (fr_int T) (by decide +kernel) (pa_cons (pe_op op_add (pe_op op_add (pe_op op_mul (pv 2) (pe_op op_add (pe_op op_fdiv (pv 2) pe_int) pe_int)) (pe_op op_mul (pv 1) pe_int)) (pv 0)) pa_nil)) pe_int)) (pss_one (ps_ret (pe_op op_fdiv (pv 3) pe_int))))), ?_⟩
  rw [show L2.start n_l_mixed [.int s, .int pl] = [some (.int s), some (.int pl), none, none] from rfl]
  try dsimp only [cxOf, Cx.nox, Cx.wish, List.map]

  wtm_at "rd"
  exact kk _ (by omega)
theorem c_l_mixed (T : Cx K mg) (B : Tb P w K mg base) : CalX P w K mg base CX0 1 "_law_mixed" (sp_l_mixed K) [] := by
  obtain ⟨fd, F, ok⟩ := f_l_mixed (P := P) (w := w) (base := base) T B
  exact ⟨_, fd, p_l_mixed, [], ok, gl_l_mixed T, F.kp, FunD.bindsN F fun _ _ _ _ _ _ us hl => match us, hl with | [_, _], _ => rfl, .nil⟩
end
section
variable {P : Program} {w : World} {K : PySem.W.Frag} {mg : Str → Option Value} {base : Heap}
def sp_l_draw (K : PySem.W.Frag) : Sp := fun vs H Q E => ∃ (p c : Addr) (many : Int), vs = [.ref p, .int many] ∧ (Purse H p c) ∧ (0 < many) ∧ (many < 1073741824) ∧ (∀ n H1, 0 ≤ n → n < many → Purse H1 p c → Kp [p] H H1 → Q (.int n) H1)
theorem us_l_draw {K : PySem.W.Frag} {H : Hp} {Q : VK} {E : XK} {p c : Addr} {many : Int} (hB : Purse H p c) (m0 : 0 < many) (m1 : many < 1073741824) (kk : ∀ n H1, 0 ≤ n → n < many → Purse H1 p c → Kp [p] H H1 → Q (.int n) H1) : sp_l_draw K [.ref p, .int many] H Q E := ⟨_, _, _, rfl, hB, m0, m1, kk⟩
theorem f_l_draw (T : Cx K mg) (B : Tb P w K mg base) : ∃ fd, FunD K "_law_draw" "_law_draw" (defArgs s_l_draw) (defBody s_l_draw) (defScope s_l_draw) (d_l_draw.dvs K) (d_l_draw.kws K) (fAd K d_l_draw.at_) fd ∧ FnOk P w K mg base CX0 2 (fAd K d_l_draw.at_) fd p_l_draw (sp_l_draw K) := by
  have c_l_mixed := c_l_mixed (P := P) (w := w) (base := base) T B
  obtain ⟨fd, F⟩ := T.says.def_ 2 (d := d_l_draw) rfl
  refine ⟨fd, F, fnD F sc_l_draw (fun vs H Q E h => by
    obtain ⟨_, _, _, rfl, _⟩ := h
    rfl) fun cdv A outer s H vs Q E hr h => ?_⟩
  have hu := hu_of hr
  obtain ⟨p, c, many, rfl, hB, m0, m1, kk⟩ := h
  refine ⟨_, (pss_cons (ps_dput hu (pv 0) pe_str (pe_op op_add (pe_dget hu (pv 0) pe_str (fun _ _ => rfl)) pe_int) rfl) (C8.pss_cut (ps_if (PW.pt (pw_and (pt_cmpR op_eq (pe_dget hu (pv 0) pe_str (fun _ _ => rfl)) pe_int (nomark _)) (pw_and (pt_cmpR op_eq (pe_dget hu (pv 0) pe_str (fun _ _ => rfl)) pe_int (nomark _)) (pw_and1 (pt_cmpR op_lt (pe_dget hu (pv 0) pe_str (fun _ _ => rfl)) (pe_callB call_lenS (by rfl) (fr_len T) (by decide +kernel) (pa_cons (pe_dget hu (pv 0) pe_str (fun _ _ => rfl)) pa_nil)) (nomark _)))))) (pss_cons (ps_set (i := 2) sc_l_draw.nd rfl (by first | exact Or.inl rfl | exact Or.inr rfl) (pe_ix ix_list (pe_dget hu (pv 0) pe_str (fun _ _ => rfl)) (pe_dget hu (pv 0) pe_str (fun _ _ => rfl)) (fun _ _ => rfl))) (pss_cons (ps_dput hu (pv 0) pe_str (pe_op op_add (pe_dget hu (pv 0) pe_str (fun _ _ => rfl)) pe_int) rfl) (pss_one (ps_if (pt_cmpR op_ge (pv 2) (pe_op op_pow pe_int pe_int) (nomark _)) (pss_one (ps_dput hu (pv 0) pe_str (pv 2) rfl)) (pss_cons (ps_dput hu (pv 0) pe_str (pe_op op_mod (pe_callTy call_int1' (by rfl) (fr_int T) (by decide +kernel) (pa_cons (pv 2) pa_nil)) pe_int) rfl) (pss_one (ps_dput hu (pv 0) pe_str pe_int rfl))))))) pss_nil) (pss_cons (ps_if (pt_cmpR op_gt (pe_dget hu (pv 0) pe_str (fun _ _ => rfl)) pe_int (nomark _)) (pss_cons (ps_set (i := 3) sc_l_draw.nd rfl (by first | exact Or.inl rfl | exact Or.inr rfl) (pe_op op_mod (pe_callTy call_int1' (by rfl) (fr_int T) (by decide +kernel) (pa_cons (pe_dget hu (pv 0) pe_str (fun _ _ => rfl)) pa_nil)) (pv 1))) (pss_cons (ps_dput hu (pv 0) pe_str (pe_op op_fdiv (pe_dget hu (pv 0) pe_str (fun _ _ => rfl)) (pv 1)) rfl) (pss_one (ps_ret (pv 3))))) pss_nil) (pss_cons (ps_if (pt_cmpR op_gt (pe_dget hu (pv 0) pe_str (fun _ _ => rfl)) pe_int (nomark _)) (pss_cons (ps_dput hu (pv 0) pe_str (pe_op op_sub (pe_dget hu (pv 0) pe_str (fun _ _ => rfl)) pe_int) rfl) (pss_one (ps_ret (pe_op op_mod (pe_callTy call_int1' (by rfl) (fr_int T) (by decide +kernel) (pa_cons (pe_cal c_l_mixed hr (by decide) (by rfl) pass0 (pa_cons (pe_dget hu (pv 0) pe_str (fun _ _ => rfl)) (pa_cons (pe_dget hu (pv 0) pe_str (fun _ _ => rfl)) pa_nil))) pa_nil)) (pv 1))))) pss_nil) (pss_cons (ps_if (pt_cmpR op_eq (pe_dget hu (pv 0) pe_str (fun _ _ => rfl)) pe_int (nomark _)) (pss_one (ps_ret pe_int)) pss_nil) (pss_one (ps_ret (pe_op op_mod (pe_callTy call_int1' (by rfl) (fr_int T) (by decide +kernel) (pa_cons (pe_cal c_l_mixed hr (by decide) (by rfl) pass0 (pa_cons (pe_dget hu (pv 0) pe_str (fun _ _ => rfl)) (pa_cons (pe_dget hu (pv 0) pe_str (fun _ _ => rfl)) pa_nil))) pa_nil)) (pv 1))))))))), ?_⟩
  rw [show L2.start n_l_draw [.ref p, .int many] = [some (.ref p), some (.int many), none, none] from rfl]
  try dsimp only [cxOf, Cx.nox, Cx.wish, List.map]

  obtain ⟨ns, a, b, d, e, f, g, h1, h2, h3, h4⟩ := hB
  have ncp : c ≠ p := ne_of h2 h1 (by intro z; cases z)
  wtm_at "rd"
  have h1' : upd H p (.dK (putK (purse c a b d e f g) (.inr "count") (.int (g + 1)))) p = some (.dK (purse c a b d e f (g + 1))) := upd_same
  have h2' : upd H p (.dK (putK (purse c a b d e f g) (.inr "count") (.int (g + 1)))) c = some (.lst (ns.map V.int)) := hu_ne ncp h2
  have k1 : Kp [p] H (upd H p (.dK (putK (purse c a b d e f g) (.inr "count") (.int (g + 1))))) := by wtm_at "kp"
  generalize upd H p (.dK (putK (purse c a b d e f g) (.inr "count") (.int (g + 1)))) = H1 at h1' h2' k1
  refine rd_cut (fun σ' H2 => (∃ v2 v3, σ' = [some (.ref p), some (.int many), v2, v3]) ∧ Purse H2 p c ∧ Kp [p] H H2) ?_ ?_
  · have done : ∃ v2 v3, ([some (.ref p), some (.int many), none, none] : List (Option V)) = [some (.ref p), some (.int many), v2, v3] := ⟨_, _, rfl⟩
    have stay : (∃ v2 v3, ([some (.ref p), some (.int many), none, none] : List (Option V)) = [some (.ref p), some (.int many), v2, v3]) ∧ Purse H1 p c ∧ Kp [p] H H1 := ⟨done, ⟨ns, a, b, d, e, f, g + 1, h1', h2', h3, h4⟩, k1⟩
    wtm_at "rd"
    refine ite_d (fun c1 => ?_) (fun c1 => ?_)
    · wtm_at "rd"
      refine ite_d (fun c2 => ?_) (fun c2 => ?_)
      · wtm_at "rd"
        refine ite_d (fun c3 => ?_) (fun c3 => ?_)
        · wtm_at "rd"
          refine ite_d (fun c4 => ?_) (fun c4 => ?_)
          · wtm_at "rd"
            exact ⟨⟨_, _, rfl⟩, ⟨ns, a + 1, _, d, e, f, g + 1, upd_same, by wtm_at "hp", by omega, h4⟩, by wtm_at "kp"⟩
          · wtm_at "rd"
            exact ⟨⟨_, _, rfl⟩, ⟨ns, a + 1, b, _, _, f, g + 1, upd_same, by wtm_at "hp", by omega, h4⟩, by wtm_at "kp"⟩
        · wtm_at "rd"
          exact stay
      · wtm_at "rd"
        exact stay
    · wtm_at "rd"
      exact stay
  · rintro σ' H2 ⟨⟨v2, v3, rfl⟩, ⟨ns, a, b, d, e, f, g, h1, h2, h3, h4⟩, k2⟩
    wtm_at "rd"
    refine ite_d (fun c1 => ?_) (fun c1 => ?_)
    · wtm_at "rd"
      exact kk _ _ (Int.emod_nonneg _ (by omega)) (Int.emod_lt_of_pos _ m0) ⟨ns, a, _, d, e, f, g, upd_same, by wtm_at "hp", h3, h4⟩ (by wtm_at "kp")
    · wtm_at "rd"
      refine ite_d (fun c2 => ?_) (fun c2 => ?_)
      · wtm_at "rd"
        refine us_l_mixed fun n n0 => ?_
        wtm_at "rd"
        exact kk _ _ (Int.emod_nonneg _ (by omega)) (Int.emod_lt_of_pos _ m0) ⟨ns, a, b, _, e, f, g, upd_same, by wtm_at "hp", h3, h4⟩ (by wtm_at "kp")
      · wtm_at "rd"
        refine ite_d (fun c3 => ?_) (fun c3 => ?_)
        · wtm_at "rd"
          exact kk _ _ (by decide) m0 ⟨ns, a, b, d, e, f, g, h1, h2, h3, h4⟩ k2
        · wtm_at "rd"
          refine us_l_mixed fun n n0 => ?_
          wtm_at "rd"
          exact kk _ _ (Int.emod_nonneg _ (by omega)) (Int.emod_lt_of_pos _ m0) ⟨ns, a, b, d, e, f, g, h1, h2, h3, h4⟩ k2
theorem c_l_draw (T : Cx K mg) (B : Tb P w K mg base) : CalX P w K mg base CX0 2 "_law_draw" (sp_l_draw K) [] := by
  obtain ⟨fd, F, ok⟩ := f_l_draw (P := P) (w := w) (base := base) T B
  exact ⟨_, fd, p_l_draw, [], ok, gl_l_draw T, F.kp, FunD.bindsN F fun _ _ _ _ _ _ us hl => match us, hl with | [_, _], _ => rfl, .nil⟩
end
section
variable {P : Program} {w : World} {K : PySem.W.Frag} {mg : Str → Option Value} {base : Heap}
def sp_l_seats (K : PySem.W.Frag) : Sp := fun vs H Q E => ∃ (p c : Addr) (ring many : Int), vs = [.ref p, .int ring, .int many] ∧ (Purse H p c) ∧ (1 ≤ many) ∧ (many ≤ ring) ∧ (ring ≤ 256) ∧ (∀ l (xs : List Int) H1, (∀ z, z ∈ xs → 0 ≤ z ∧ z < ring) → H1 l = some (.lst (xs.map V.int)) → xs.Nodup → (xs.length : Int) = many → Purse H1 p c → Kp [p] H H1 → H l = none → Q (.ref l) H1)
theorem us_l_seats {K : PySem.W.Frag} {H : Hp} {Q : VK} {E : XK} {p c : Addr} {ring many : Int} (hB : Purse H p c) (m0 : 1 ≤ many) (m1 : many ≤ ring) (m2 : ring ≤ 256) (kk : ∀ l (xs : List Int) H1, (∀ z, z ∈ xs → 0 ≤ z ∧ z < ring) → H1 l = some (.lst (xs.map V.int)) → xs.Nodup → (xs.length : Int) = many → Purse H1 p c → Kp [p] H H1 → H l = none → Q (.ref l) H1) : sp_l_seats K [.ref p, .int ring, .int many] H Q E := ⟨_, _, _, _, rfl, hB, m0, m1, m2, kk⟩
theorem f_l_seats (T : Cx K mg) (B : Tb P w K mg base) : ∃ fd, FunD K "_law_seats" "_law_seats" (defArgs s_l_seats) (defBody s_l_seats) (defScope s_l_seats) (d_l_seats.dvs K) (d_l_seats.kws K) (fAd K d_l_seats.at_) fd ∧ FnOk P w K mg base CX0 3 (fAd K d_l_seats.at_) fd p_l_seats (sp_l_seats K) := by
  have c_l_draw := c_l_draw (P := P) (w := w) (base := base) T B
  obtain ⟨fd, F⟩ := T.says.def_ 3 (d := d_l_seats) rfl
  refine ⟨fd, F, fnD F sc_l_seats (fun vs H Q E h => by
    obtain ⟨_, _, _, _, rfl, _⟩ := h
    rfl) fun cdv A outer s H vs Q E hr h => ?_⟩
  have hu := hu_of hr
  obtain ⟨p, c, ring, many, rfl, hB, m0, m1, m2, kk⟩ := h
  refine ⟨_, (pss_cons (ps_set (i := 3) sc_l_seats.nd rfl (by first | exact Or.inl rfl | exact Or.inr rfl) (pe_listRg rfl (by rfl) (fr_list T) (prg_1 (by rfl) (fr_range T) (pv 1)))) (pss_cons (ps_set (i := 4) sc_l_seats.nd rfl (by first | exact Or.inl rfl | exact Or.inr rfl) (pe_lst pa_nil)) (pss_cons (ps_for PassesOwn.never rfl (pi_range1 (by rfl) (fr_range T) (pa_cons (pv 2) pa_nil)) (pg_name (i := 5) sc_l_seats.nd rfl (by first | exact Or.inl rfl | exact Or.inr rfl)) (pss_one (ps_expr (pe_bm PySem.F.plainAttrs_list PySem.F.slot_list_append PySem.F.type_list_append mt_append (pv 4) (pa_cons (pe_bm PySem.F.plainAttrs_list PySem.F.slot_list_pop PySem.F.type_list_pop mt_popAt (pv 3) (pa_cons (pe_cal c_l_draw hr (by decide) (by rfl) pass0 (pa_cons (pv 0) (pa_cons (pe_callB call_lenS (by rfl) (fr_len T) (by decide +kernel) (pa_cons (pv 3) pa_nil)) pa_nil))) pa_nil)) pa_nil))))) (pss_one (ps_ret (pv 4)))))), ?_⟩
  rw [show L2.start n_l_seats [.ref p, .int ring, .int many] = [some (.ref p), some (.int ring), some (.int many), none, none, none] from rfl]
  try dsimp only [cxOf, Cx.nox, Cx.wish, List.map]

  wtm_at "rd"
  refine ⟨RgOk.of_le (by omega) (by omega) (by omega) (by omega), fun pl npl => ?_⟩
  rw [rgV_0]
  wtm_at "rd"
  refine ⟨sz1000 (by simp), fun fd nfd => ?_⟩
  wtm_at "rd"
  have nfd' : H fd = none := Kp.back (Kp.new (ps := []) npl) nfd (by simp)
  have npf : pl ≠ fd := by wtm_at "ne"
  have npp : pl ≠ p := by
    obtain ⟨ns, a, b, d, e, f, g, h1, -⟩ := hB
    exact Ne.symm (ne_of_none h1 npl)
  have nfp : fd ≠ p := by
    obtain ⟨ns, a, b, d, e, f, g, h1, -⟩ := hB
    exact Ne.symm (ne_of_none h1 nfd')
  have ncs : c ≠ pl ∧ c ≠ fd := by
    obtain ⟨ns, a, b, d, e, f, g, h1, h2, -⟩ := hB
    exact ⟨ne_of_none h2 npl, ne_of_none h2 nfd'⟩
  refine forR_by (fun i σ H1 => (∃ v5, σ = [some (.ref p), some (.int ring), some (.int many), some (.ref pl), some (.ref fd), v5]) ∧ ∃ us ws : List Int, H1 pl = some (.lst (us.map V.int)) ∧ H1 fd = some (.lst (ws.map V.int)) ∧ ws.length = i ∧
    (us.length : Int) + i = ring ∧ (ws ++ us).Perm ((List.range ring.toNat).map fun (i : Nat) => (i : Int)) ∧ Purse H1 p c ∧ Kp [p] H H1) ?_ ?_ ?_
  · refine ⟨⟨_, rfl⟩, _, [], by wtm_at "hp", upd_same, rfl, by simp; omega, by simp, hB.k0 ((Kp.new npl).nw nfd), ((Kp.new npl).nw nfd).of0⟩
  · rintro i σ H1 hi ⟨⟨v5, rfl⟩, us, ws, h1, h2, h3, h4, h5, h6, h7⟩
    wtm_at "rd"
    refine us_l_draw h6 (by omega) (by omega) fun n H2 n0 n1 B2 k2 => ?_
    have h1' := k2.g1 npp h1
    have h2' := k2.g1 nfp h2
    have hn : n.toNat < us.length := by omega
    wtm_at "rd"
    refine rd_popAt h1' (by omega) (by omega) (k := n.toNat) (v := .int us[n.toNat]) (by rw [List.length_map]; exact seqIx n0 n1) (by rw [List.getElem?_map, List.getElem?_eq_getElem hn]; rfl) ?_
    rw [erase_map]
    have hfd : upd H2 pl (.lst ((us.eraseIdx n.toNat).map V.int)) fd = some (.lst (ws.map V.int)) := hu_ne (Ne.symm npf) h2'
    wtm_at "rd"
    refine ⟨⟨_, rfl⟩, us.eraseIdx n.toNat, ws ++ [us[n.toNat]], hu_ne npf upd_same, by rw [upd_same, List.map_append]; rfl, by simp [h3], ?_, ?_, ?_, ?_⟩
    · rw [List.length_eraseIdx_of_lt hn]
      omega
    · refine List.Perm.trans ?_ h5
      rw [List.append_assoc]
      exact List.Perm.append_left ws (erase_perm hn)
    · have kx : Kp [pl, fd] H2 (upd (upd H2 pl (.lst ((us.eraseIdx n.toNat).map V.int))) fd (.lst (ws.map V.int ++ [V.int us[n.toNat]]))) := by wtm_at "kp"
      exact B2.kp kx (by simp [Ne.symm npp, Ne.symm nfp]) (by simp [ncs.1, ncs.2])
    · exact ((h7.trans k2).mine npl).mine nfd'
  · rintro σ H1 ⟨⟨v5, rfl⟩, us, ws, h1, h2, h3, h4, h5, h6, h7⟩
    wtm_at "rd"
    refine kk fd ws H1 (fun z hz => ?_) h2 ?_ (by omega) h6 h7 nfd'
    · obtain ⟨i, hi, rfl⟩ := List.mem_map.mp (h5.mem_iff.mp (List.mem_append_left us hz))
      rw [List.mem_range] at hi
      omega
    have hN : (ws ++ us).Nodup := (List.Perm.nodup_iff h5).mpr (by
      rw [List.Nodup, List.pairwise_map]
      exact List.Pairwise.imp (fun {a b} (h : a ≠ b) e => h (Int.ofNat.inj e)) List.nodup_range)
    exact (List.nodup_append.mp hN).1
theorem c_l_seats (T : Cx K mg) (B : Tb P w K mg base) : CalX P w K mg base CX0 3 "_law_seats" (sp_l_seats K) [] := by
  obtain ⟨fd, F, ok⟩ := f_l_seats (P := P) (w := w) (base := base) T B
  exact ⟨_, fd, p_l_seats, [], ok, gl_l_seats T, F.kp, FunD.bindsN F fun _ _ _ _ _ _ us hl => match us, hl with | [_, _, _], _ => rfl, .nil⟩
end
section
variable {P : Program} {w : World} {K : PySem.W.Frag} {mg : Str → Option Value} {base : Heap}
def sp_l_number (K : PySem.W.Frag) : Sp := fun vs H Q E => ∃ (a b : Int), vs = [.int a, .int b] ∧ (Q (.bl (decide (a = b))) H)
theorem us_l_number {K : PySem.W.Frag} {H : Hp} {Q : VK} {E : XK} {a b : Int}  (kk : Q (.bl (decide (a = b))) H) : sp_l_number K [.int a, .int b] H Q E := ⟨_, _, rfl, kk⟩
theorem f_l_number (T : Cx K mg) (B : Tb P w K mg base) : ∃ fd, FunD K "_law_number" "_law_number" (defArgs s_l_number) (defBody s_l_number) (defScope s_l_number) (d_l_number.dvs K) (d_l_number.kws K) (fAd K d_l_number.at_) fd ∧ FnOk P w K mg base CX0 1 (fAd K d_l_number.at_) fd p_l_number (sp_l_number K) := by
  obtain ⟨fd, F⟩ := T.says.def_ 4 (d := d_l_number) rfl
  refine ⟨fd, F, fnD F sc_l_number (fun vs H Q E h => by
    obtain ⟨_, _, rfl, _⟩ := h
    rfl) fun cdv A outer s H vs Q E hr h => ?_⟩
  have hu := hu_of hr
  obtain ⟨a, b, rfl, kk⟩ := h
  refine ⟨_, (pss_one (ps_ret (pe_and (pe_callB call_isi (by rfl) (fr_isinstance T) (by decide +kernel) (pa_cons (pv 0) (pa_cons (pe_bltn (v := .ty "int") (by rfl) (fr_int T) (by decide +kernel) rfl) pa_nil))) (pe_and (pe_not (pe_callB call_isi (by rfl) (fr_isinstance T) (by decide +kernel) (pa_cons (pv 0) (pa_cons (pe_bltn (v := .ty "bool") (by rfl) (fr_bool T) (by decide +kernel) rfl) pa_nil)))) (pe_one (pe_cmpR op_eq (pv 0) (pv 1) (nomark _))))))), ?_⟩
  rw [show L2.start n_l_number [.int a, .int b] = [some (.int a), some (.int b)] from rfl]
  try dsimp only [cxOf, Cx.nox, Cx.wish, List.map]

  wtm_at "rd"
  exact kk
theorem c_l_number (T : Cx K mg) (B : Tb P w K mg base) : CalX P w K mg base CX0 1 "_law_number" (sp_l_number K) [] := by
  obtain ⟨fd, F, ok⟩ := f_l_number (P := P) (w := w) (base := base) T B
  exact ⟨_, fd, p_l_number, [], ok, gl_l_number T, F.kp, FunD.bindsN F fun _ _ _ _ _ _ us hl => match us, hl with | [_, _], _ => rfl, .nil⟩
end
section
variable {P : Program} {w : World} {K : PySem.W.Frag} {mg : Str → Option Value} {base : Heap}
def sp_l_least (K : PySem.W.Frag) : Sp := fun vs H Q E => ∃ (n : Nat), vs = [.int n] ∧ (1 ≤ n) ∧ (n ≤ 2 ^ 62) ∧ (∀ r : Nat, Lr r n → Q (.int r) H)
theorem us_l_least {K : PySem.W.Frag} {H : Hp} {Q : VK} {E : XK} {n : Nat} (h1 : 1 ≤ n) (h2 : n ≤ 2 ^ 62) (kk : ∀ r : Nat, Lr r n → Q (.int r) H) : sp_l_least K [.int n] H Q E := ⟨_, rfl, h1, h2, kk⟩
theorem f_l_least (T : Cx K mg) (B : Tb P w K mg base) : ∃ fd, FunD K "_law_least" "_law_least" (defArgs s_l_least) (defBody s_l_least) (defScope s_l_least) (d_l_least.dvs K) (d_l_least.kws K) (fAd K d_l_least.at_) fd ∧ FnOk P w K mg base CX0 1 (fAd K d_l_least.at_) fd p_l_least (sp_l_least K) := by
  obtain ⟨fd, F⟩ := T.says.def_ 5 (d := d_l_least) rfl
  refine ⟨fd, F, fnD F sc_l_least (fun vs H Q E h => by
    obtain ⟨_, rfl, _⟩ := h
    rfl) fun cdv A outer s H vs Q E hr h => ?_⟩
  have hu := hu_of hr
  obtain ⟨n, rfl, h1, h2, kk⟩ := h
  refine ⟨_, (pss_cons (ps_set (i := 1) sc_l_least.nd rfl (by first | exact Or.inl rfl | exact Or.inr rfl) pe_int) (pss_cons (ps_set (i := 2) sc_l_least.nd rfl (by first | exact Or.inl rfl | exact Or.inr rfl) pe_int) (pss_cons (ps_for PassesOwn.never rfl (pi_range1 (by rfl) (fr_range T) (pa_cons pe_int pa_nil)) (pg_name (i := 3) sc_l_least.nd rfl (by first | exact Or.inl rfl | exact Or.inr rfl)) (pss_one (ps_if (pt_cmpR op_lt (pv 2) (pv 0) (nomark _)) (pss_cons (ps_set (i := 2) sc_l_least.nd rfl (by first | exact Or.inl rfl | exact Or.inr rfl) (pe_op op_mul (pv 2) pe_int)) (pss_one (ps_set (i := 1) sc_l_least.nd rfl (by first | exact Or.inl rfl | exact Or.inr rfl) (pe_op op_add (pv 1) pe_int)))) pss_nil))) (pss_one (ps_ret (pv 1)))))), ?_⟩
  rw [show L2.start n_l_least [.int n] = [some (.int n), none, none, none] from rfl]
  try dsimp only [cxOf, Cx.nox, Cx.wish, List.map]

  wtm_at "rd"
  refine forR_by (fun i σ H1 => H1 = H ∧ ∃ (r : Nat) (v3 : Option V), σ = [some (.int n), some (.int r), some (.int ((2 ^ r : Nat) : Int)), v3] ∧ r ≤ i ∧ (r = 0 ∨ 2 ^ (r - 1) < n) ∧ (r < i → n ≤ 2 ^ r)) ?_ ?_ ?_
  · exact ⟨rfl, 0, _, rfl, Nat.le_refl _, .inl rfl, fun h => by omega⟩
  · rintro i σ H1 hi ⟨rfl, r, v3, rfl, h3, h4, h5⟩
    wtm_at "rd"
    refine ite_d (fun c1 => ?_) (fun c1 => ?_)
    · wtm_at "rd"
      have c2 : 2 ^ r < n := by omega
      refine ⟨rfl, r + 1, some (.int (0 + (i : Int))), ?_, by omega, .inr (by simpa using c2), fun h => ?_⟩
      · rw [pow2_succ]
        rfl
      · have := h5 (by omega)
        omega
    · wtm_at "rd"
      have c2 : n ≤ 2 ^ r := by omega
      exact ⟨rfl, r, _, rfl, by omega, h4, fun _ => c2⟩
  · rintro σ H1 ⟨rfl, r, v3, rfl, h3, h4, h5⟩
    wtm_at "rd"
    refine kk r ⟨?_, h4⟩
    by_cases h : r < (64 : Int).toNat
    · exact h5 h
    · exfalso
      have hr : r = 64 := by
        have : (64 : Int).toNat = 64 := rfl
        omega
      subst hr
      rcases h4 with h4 | h4
      · omega
      · have : (2 : Nat) ^ 62 ≤ 2 ^ (64 - 1) := Nat.pow_le_pow_right (by decide) (by decide)
        omega
theorem c_l_least (T : Cx K mg) (B : Tb P w K mg base) : CalX P w K mg base CX0 1 "_law_least" (sp_l_least K) [] := by
  obtain ⟨fd, F, ok⟩ := f_l_least (P := P) (w := w) (base := base) T B
  exact ⟨_, fd, p_l_least, [], ok, gl_l_least T, F.kp, FunD.bindsN F fun _ _ _ _ _ _ us hl => match us, hl with | [_], _ => rfl, .nil⟩
end
section
variable {P : Program} {w : World} {K : PySem.W.Frag} {mg : Str → Option Value} {base : Heap}
def sp_reached_by (K : PySem.W.Frag) : Sp := fun vs H Q E => ∃ (s d l : Addr) (xs kn : List Int) (L : List (Int × Int)), vs = [.ref s, .ref d, .ref l] ∧ (H s = some (.lst (xs.map V.int))) ∧ (H d = some (.dK (kd kn))) ∧ (Line H l L) ∧ (L.length ≤ 100) ∧ ((okFrom xs kn [] L = true → ∀ r H1, H1 r = some (.lst ((L.map (·.2)).map V.int)) → Kp [] H H1 → H r = none → Q (.ref r) H1) ∧ (okFrom xs kn [] L = false → ∀ H1, Kp [] H H1 → Q .non H1))
theorem us_reached_by {K : PySem.W.Frag} {H : Hp} {Q : VK} {E : XK} {s d l : Addr} {xs kn : List Int} {L : List (Int × Int)} (hs : H s = some (.lst (xs.map V.int))) (hd : H d = some (.dK (kd kn))) (hL : Line H l L) (hz : L.length ≤ 100) (kk : (okFrom xs kn [] L = true → ∀ r H1, H1 r = some (.lst ((L.map (·.2)).map V.int)) → Kp [] H H1 → H r = none → Q (.ref r) H1) ∧ (okFrom xs kn [] L = false → ∀ H1, Kp [] H H1 → Q .non H1)) : sp_reached_by K [.ref s, .ref d, .ref l] H Q E := ⟨_, _, _, _, _, _, rfl, hs, hd, hL, hz, kk⟩
theorem f_reached_by (T : Cx K mg) (B : Tb P w K mg base) : ∃ fd, FunD K "reached_by" "reached_by" (defArgs s_reached_by) (defBody s_reached_by) (defScope s_reached_by) (d_reached_by.dvs K) (d_reached_by.kws K) (fAd K d_reached_by.at_) fd ∧ FnOk P w K mg base CX0 1 (fAd K d_reached_by.at_) fd p_reached_by (sp_reached_by K) := by
  obtain ⟨fd, F⟩ := T.says.def_ 6 (d := d_reached_by) rfl
  refine ⟨fd, F, fnD F sc_reached_by (fun vs H Q E h => by
    obtain ⟨_, _, _, _, _, _, rfl, _⟩ := h
    rfl) fun cdv A outer s H vs Q E hr h => ?_⟩
  have hu := hu_of hr
  obtain ⟨s, d, l, xs, kn, L, rfl, hs, hd, hL, hz, kk⟩ := h
  refine ⟨_, (pss_cons (ps_set (i := 3) sc_reached_by.nd rfl (by first | exact Or.inl rfl | exact Or.inr rfl) pe_dnewK) (pss_cons (ps_set (i := 4) sc_reached_by.nd rfl (by first | exact Or.inl rfl | exact Or.inr rfl) (pe_lst pa_nil)) (pss_cons (ps_for PassesOwn.never rfl (pi_list (pv 2)) (pg_tup rfl (pgs_cons (pg_name (i := 5) sc_reached_by.nd rfl (by first | exact Or.inl rfl | exact Or.inr rfl)) (pgs_cons (pg_name (i := 6) sc_reached_by.nd rfl (by first | exact Or.inl rfl | exact Or.inr rfl)) pgs_nil))) (pss_cons (ps_if (PW.pt (pw_or (pt_cmp (pc_dnotin hu (pv 5) (pv 1))) (pw_or1 (pt_cmp (pc_din hu (pv 5) (pv 3)))))) (pss_one (ps_ret pe_non)) pss_nil) (pss_cons (ps_if (PW.pt (pw_or (pt_cmpR op_eq (pv 5) (pv 6) (nomark _)) (pw_or (pt_cmpR op_notIn_seq (pv 5) (pv 0) rfl) (pw_or1 (pt_cmpR op_notIn_seq (pv 6) (pv 0) rfl))))) (pss_one (ps_ret pe_non)) pss_nil) (pss_cons (ps_dput hu (pv 3) (pv 5) pe_bl rfl) (pss_one (ps_expr (pe_bm PySem.F.plainAttrs_list PySem.F.slot_list_append PySem.F.type_list_append mt_append (pv 4) (pa_cons (pv 6) pa_nil)))))))) (pss_one (ps_ret (pv 4)))))), ?_⟩
  rw [show L2.start n_reached_by [.ref s, .ref d, .ref l] = [some (.ref s), some (.ref d), some (.ref l), none, none, none, none] from rfl]
  try dsimp only [cxOf, Cx.nox, Cx.wish, List.map]

  obtain ⟨ts, t1, t2⟩ := hL
  wtm_at "rd"
  intro cd ncd
  wtm_at "rd"
  refine ⟨sz1000 (by simp), fun r nr => ?_⟩
  have ncr : cd ≠ r := ne_fresh nr
  have nr0 : H r = none := Kp.back (Kp.new (ps := []) ncd) nr (by simp)
  have tl : (ts.map V.ref).length = L.length := by rw [List.length_map, paired_len t2]
  wtm_at "rd"
  refine forL_by (K := K) (ts.map V.ref) (fun i σ H1 => (∃ v5 v6, σ = [some (.ref s), some (.ref d), some (.ref l), some (.ref cd), some (.ref r), v5, v6]) ∧ H1 cd = some (.dK (kd ((L.take i).map (·.1)))) ∧ H1 r = some (.lst (((L.take i).map (·.2)).map V.int)) ∧ okFrom xs kn ((L.take i).map (·.1)) (L.drop i) = okFrom xs kn [] L ∧ Kp [] H H1) ⟨⟨_, _, rfl⟩, hu_ne ncr upd_same, upd_same, rfl, (Kp.new ncd).nw nr⟩ (fun i σ H1 _ q => SqL.of (q.2.2.2.2.g0 t1)) ?_ ?_
  · rintro i x σ H1 hx ⟨⟨v5, v6, rfl⟩, q1, q2, q3, k1⟩
    rw [List.getElem?_map] at hx
    obtain ⟨t, ht, rfl⟩ := Option.map_eq_some_iff.mp hx
    obtain ⟨p, hp, hP⟩ := paired_get t2 ht
    have hi := (List.getElem?_eq_some_iff.mp hp).1
    rw [okFrom_step hp] at q3
    have hP1 := k1.g0 hP
    have hs1 := k1.g0 hs
    have hd1 := k1.g0 hd
    have klen : (kd ((L.take i).map (·.1))).length ≤ 100 := by
      rw [kd_len, List.length_map, List.length_take]
      omega
    have bad : okPair xs kn ((L.take i).map (·.1)) p = false → Q .non H1 := fun e => kk.2 (by rw [← q3, e]; rfl) H1 k1
    have badn : ¬ (p.1 ∈ kn ∧ p.1 ∉ (L.take i).map (·.1) ∧ p.1 ≠ p.2 ∧ p.1 ∈ xs ∧ p.2 ∈ xs) → Q .non H1 := fun e => bad (by
      cases z : okPair xs kn ((L.take i).map (·.1)) p with
      | false => rfl
      | true => exact absurd (okPair_iff.mp z) e)
    unfold Pr at hP1
    wtm_at "rd"
    rw [kd_val]
    refine ite_n (fun h => ?_) (fun h1 => ?_)
    · wtm_at "rd"
      exact badn fun z => h z.1
    wtm_at "rd"
    rw [kd_val]
    refine ite_d (fun h => ?_) (fun h2 => ?_)
    · wtm_at "rd"
      exact badn fun z => z.2.1 h
    wtm_at "rd"
    refine ite_d (fun h => ?_) (fun h3 => ?_)
    · wtm_at "rd"
      exact badn fun z => z.2.2.1 h
    wtm_at "rd"
    refine ite_n (fun h => ?_) (fun h4 => ?_)
    · wtm_at "rd"
      exact badn fun z => h z.2.2.2.1
    wtm_at "rd"
    refine ite_n (fun h => ?_) (fun h5 => ?_)
    · wtm_at "rd"
      exact badn fun z => h z.2.2.2.2
    have q2' : upd H1 cd (.dK (putK (kd ((L.take i).map (·.1))) (.inl p.1) (.bl true))) r = some (.lst (((L.take i).map (·.2)).map V.int)) := hu_ne (Ne.symm ncr) q2
    have slen : (((L.take i).map (·.2)).map V.int).length < sizeLine := szlt (by simp; omega)
    wtm_at "rd"
    have eL : L.take (i + 1) = L.take i ++ [p] := by
      obtain ⟨h, e⟩ := List.getElem?_eq_some_iff.mp hp
      rw [List.take_succ_eq_append_getElem h, e]
    refine ⟨⟨_, _, rfl⟩, ?_, ?_, ?_, (k1.mine ncd).mine nr0⟩
    · rw [upd_ne ncr, upd_same, kd_put h2, eL, List.map_append]
      rfl
    · rw [upd_same, eL, List.map_append, List.map_append]
      rfl
    · rw [← q3, okPair_iff.mpr ⟨h1, h2, h3, h4, h5⟩, Bool.true_and]
  · rintro σ H1 ⟨⟨v5, v6, rfl⟩, q1, q2, q3, k1⟩
    rw [tl] at q2 q3
    rw [List.drop_length] at q3
    rw [List.take_length] at q2
    wtm_at "rd"
    exact kk.1 q3.symm r H1 q2 k1 nr0
theorem c_reached_by (T : Cx K mg) (B : Tb P w K mg base) : CalX P w K mg base CX0 1 "reached_by" (sp_reached_by K) [] := by
  obtain ⟨fd, F, ok⟩ := f_reached_by (P := P) (w := w) (base := base) T B
  exact ⟨_, fd, p_reached_by, [], ok, gl_reached_by T, F.kp, FunD.bindsN F fun _ _ _ _ _ _ us hl => match us, hl with | [_, _, _], _ => rfl, .nil⟩
end
section
variable {P : Program} {w : World} {K : PySem.W.Frag} {mg : Str → Option Value} {base : Heap}
def sp_judge_plan (K : PySem.W.Frag) : Sp := fun vs H Q E => ∃ (s F : Addr) (o : Int) (xs : List Int) (ls : List Addr) (Ls : Pln), vs = [.ref s, .int o, .ref F] ∧ (H s = some (.lst (xs.map V.int))) ∧ (H F = some (.lst (ls.map V.ref))) ∧ (Lines H ls Ls) ∧ (Sm 100 100 Ls) ∧ ((jud xs [o] 0 Ls = none → ∀ t H1, H1 t = some (.tup [.int Ls.length, .int (pairsN Ls)]) → Kp [] H H1 → H t = none → Q (.ref t) H1) ∧ (∀ i : Nat, jud xs [o] 0 Ls = some i → ∀ d H1, H1 d = some (.xd [(("index" : Str), .int i)]) → Kp [] H H1 → H d = none → E (.ref (ga K "InvalidPlan")) (some d) H1))
theorem us_judge_plan {K : PySem.W.Frag} {H : Hp} {Q : VK} {E : XK} {s F : Addr} {o : Int} {xs : List Int} {ls : List Addr} {Ls : Pln} (hs : H s = some (.lst (xs.map V.int))) (hF : H F = some (.lst (ls.map V.ref))) (hL : Lines H ls Ls) (hb : Sm 100 100 Ls) (kk : (jud xs [o] 0 Ls = none → ∀ t H1, H1 t = some (.tup [.int Ls.length, .int (pairsN Ls)]) → Kp [] H H1 → H t = none → Q (.ref t) H1) ∧ (∀ i : Nat, jud xs [o] 0 Ls = some i → ∀ d H1, H1 d = some (.xd [(("index" : Str), .int i)]) → Kp [] H H1 → H d = none → E (.ref (ga K "InvalidPlan")) (some d) H1)) : sp_judge_plan K [.ref s, .int o, .ref F] H Q E := ⟨_, _, _, _, _, _, rfl, hs, hF, hL, hb, kk⟩
theorem f_judge_plan (T : Cx K mg) (B : Tb P w K mg base) : ∃ fd, FunD K "judge_plan" "judge_plan" (defArgs s_judge_plan) (defBody s_judge_plan) (defScope s_judge_plan) (d_judge_plan.dvs K) (d_judge_plan.kws K) (fAd K d_judge_plan.at_) fd ∧ FnOk P w K mg base (L2.CX P w) 2 (fAd K d_judge_plan.at_) fd p_judge_plan (sp_judge_plan K) := by
  have c_reached_by := c_reached_by (P := P) (w := w) (base := base) T B
  obtain ⟨fd, F⟩ := T.says.def_ 7 (d := d_judge_plan) rfl
  refine ⟨fd, F, fnDX F sc_judge_plan (fun vs H Q E h => by
    obtain ⟨_, _, _, _, _, _, rfl, _⟩ := h
    rfl) fun cdv A outer s H vs Q E hr h => ?_⟩
  have hu := hu_of hr
  obtain ⟨s, F, o, xs, ls, Ls, rfl, hs, hF, hL, hb, kk⟩ := h
  refine ⟨_, (pss_cons (ps_set (i := 3) sc_judge_plan.nd rfl (by first | exact Or.inl rfl | exact Or.inr rfl) (pe_disp (pps_cons (pv 1) pe_bl pps_nil) (by rfl) (by rfl) (fun z => by cases z) (by decide))) (pss_cons (ps_set (i := 4) sc_judge_plan.nd rfl (by first | exact Or.inl rfl | exact Or.inr rfl) pe_int) (pss_cons (ps_for (passes_of rfl) rfl (pi_enum (by rfl) (fr_enumerate T) (pa_cons (pv 2) pa_nil)) (pg_tup rfl (pgs_cons (pg_name (i := 5) sc_judge_plan.nd rfl (by first | exact Or.inl rfl | exact Or.inr rfl)) (pgs_cons (pg_name (i := 6) sc_judge_plan.nd rfl (by first | exact Or.inl rfl | exact Or.inr rfl)) pgs_nil))) (pss_cons (ps_set (i := 7) sc_judge_plan.nd rfl (by first | exact Or.inl rfl | exact Or.inr rfl) (pe_cal c_reached_by hr (by decide) (by rfl) pass0 (pa_cons (pv 0) (pa_cons (pv 3) (pa_cons (pv 6) pa_nil))))) (pss_cons (ps_if (pt_cmp (pc_isN (pv 7))) (pss_one (ps_raiseE rfl (er_InvalidPlan B).1 hr (takes_of rfl rfl rfl rfl) (pa_cons (pv 5) pa_nil) (by rfl))) pss_nil) (pss_cons (ps_for (passes_of rfl) rfl (pi_list (pv 7)) (pg_name (i := 8) sc_judge_plan.nd rfl (by first | exact Or.inl rfl | exact Or.inr rfl)) (pss_one (ps_dput hu (pv 3) (pv 8) pe_bl rfl))) (pss_one (ps_set (i := 4) sc_judge_plan.nd rfl (by first | exact Or.inl rfl | exact Or.inr rfl) (pe_op op_add (pv 4) (pe_callB call_lenS (by rfl) (fr_len T) (by decide +kernel) (pa_cons (pv 7) pa_nil))))))))) (pss_cons (ps_for (passes_of rfl) rfl (pi_list (pv 0)) (pg_name (i := 8) sc_judge_plan.nd rfl (by first | exact Or.inl rfl | exact Or.inr rfl)) (pss_one (ps_if (pt_cmp (pc_dnotin hu (pv 8) (pv 3))) (pss_one (ps_raiseE rfl (er_InvalidPlan B).1 hr (takes_of rfl rfl rfl rfl) (pa_cons (pe_callB call_lenS (by rfl) (fr_len T) (by decide +kernel) (pa_cons (pv 2) pa_nil)) pa_nil) (by rfl))) pss_nil))) (pss_one (ps_ret (pe_tup (pa_cons (pe_callB call_lenS (by rfl) (fr_len T) (by decide +kernel) (pa_cons (pv 2) pa_nil)) (pa_cons (pv 4) pa_nil))))))))), ?_⟩
  rw [show L2.start n_judge_plan [.ref s, .int o, .ref F] = [some (.ref s), some (.int o), some (.ref F), none, none, none, none, none, none] from rfl]
  try dsimp only [cxOf, Cx.nox, Cx.wish, List.map]

  have hls : ls.length = Ls.length := paired_len hL
  wtm_at "rd"
  intro d nd
  wtm_at "rd"
  refine ⟨upd_same, [(.inl o, .bl true)], rfl, Nat.le_of_ble_eq_true rfl, ?_⟩
  have e0 : mergeK [] ([(.inl o, .bl true)] : List (Key × V)) = kd [o] := rfl
  rw [e0]
  have k0 : Kp [] H (upd (upd H d (.dK [])) d (.dK (kd [o]))) := (Kp.new nd).mine nd
  have hd0 : upd (upd H d (.dK [])) d (.dK (kd [o])) d = some (.dK (kd [o])) := upd_same
  generalize upd (upd H d (.dK [])) d (.dK (kd [o])) = H0 at k0 hd0
  have hF0 := k0.g0 hF
  wtm_at "rd"
  refine forE_by (K := K) (ls.map V.ref) (fun i σ H1 => (∃ v5 v6 v7 v8, σ = [some (.ref s), some (.int o), some (.ref F), some (.ref d), some (.int (pairsN (Ls.take i) : Nat)), v5, v6, v7, v8]) ∧ ∃ kn : List Int, H1 d = some (.dK (kd kn)) ∧ kn.length ≤ 1 + 100 * i ∧ jud xs kn i (Ls.drop i) = jud xs [o] 0 Ls ∧ Kp [] H H1) ?_ (fun i σ H1 _ q => by
    obtain ⟨-, kn, -, -, -, k1⟩ := q
    exact SqL.of (k1.g0 hF)) ?_ ?_
  · exact ⟨⟨_, _, _, _, rfl⟩, [o], hd0, by simp, rfl, k0⟩
  · rintro i x σ H1 T hx ⟨⟨v5, v6, v7, v8, rfl⟩, kn, hd1, hk, hj, k1⟩ nT
    rw [List.getElem?_map] at hx
    obtain ⟨l, hl, rfl⟩ := Option.map_eq_some_iff.mp hx
    obtain ⟨L, hLi, hl2⟩ := paired_get hL hl
    have hi := (List.getElem?_eq_some_iff.mp hLi).1
    have hLm : L.length ≤ 100 := hb.2 L (List.mem_of_getElem? hLi)
    have hi100 : i ≤ 100 := by
      have := hb.1
      omega
    rw [jud_step hLi] at hj
    have k2 : Kp [] H (upd H1 T (.tup [.int (i : Nat), .ref l])) := k1.nw nT
    have hd2 : upd H1 T (.tup [.int (i : Nat), .ref l]) d = some (.dK (kd kn)) := hu_ne (ne_of_none hd1 nT) hd1
    wtm_at "rd"
    refine us_reached_by (k2.g0 hs) hd2 (Line.kp hl2 k2) hLm ⟨fun ho r H3 hr3 k3 nr3 => ?_, fun ho H3 k3 => ?_⟩
    · rw [if_pos ho] at hj
      have hd3 := k3.g0 hd2
      have nrd : d ≠ r := ne_of hd3 hr3 (by intro z; cases z)
      wtm_at "rd"
      refine forL_ints (K := K) (L.map (·.2)) (fun j σ H4 => (∃ v8, σ = [some (.ref s), some (.int o), some (.ref F), some (.ref d), some (.int (pairsN (Ls.take i) : Nat)), some (.int (i : Nat)), some (.ref l), some (.ref r), v8]) ∧ H4 d = some (.dK (kd (insL kn ((L.map (·.2)).take j)))) ∧ H4 r = some (.lst ((L.map (·.2)).map V.int)) ∧ Kp [] H H4)
        ⟨⟨_, rfl⟩, hd3, hr3, k2.trans k3⟩ (fun j σ H4 _ q => SqL.of q.2.2.1) ?_ ?_
      · rintro j hjl σ H4 ⟨⟨v8, rfl⟩, hd4, hr4, k4⟩
        have klen : (kd (insL kn ((L.map (·.2)).take j))).length ≤ 100000 := by
          have := insL_len (r := (L.map (·.2)).take j) (l := kn)
          rw [kd_len]
          rw [List.length_take, List.length_map] at this
          omega
        wtm_at "rd"
        refine ⟨⟨_, rfl⟩, ?_, hu_ne (Ne.symm nrd) hr4, k4.mine nd⟩
        rw [upd_same, kd_ins, insL_take (List.getElem?_eq_getElem hjl)]
      · rintro σ H4 ⟨⟨v8, rfl⟩, hd4, hr4, k4⟩
        rw [List.take_length] at hd4
        wtm_at "rd"
        refine ⟨⟨some (.int (i : Nat)), some (.ref l), some (.ref r), v8, ?_⟩, insL kn (L.map (·.2)), hd4, ?_, hj, k4⟩
        · rw [pairsN_succ hLi, Int.natCast_add, List.length_map]
          rfl
        · have := insL_len (r := L.map (·.2)) (l := kn)
          rw [List.length_map] at this
          omega
    · rw [if_neg (by rw [ho]; exact Bool.false_ne_true)] at hj
      wtm_at "rd"
      intro D nD
      exact kk.2 i hj.symm D _ upd_same ((k2.trans k3).nw nD) ((k2.trans k3).back nD (by simp))
  · rintro σ H1 ⟨⟨v5, v6, v7, v8, rfl⟩, kn, hd1, hk, hj, k1⟩
    rw [List.length_map, hls] at hj
    rw [List.length_map, hls, List.take_length]
    rw [List.drop_length] at hj
    have hs1 := k1.g0 hs
    have hF1 := k1.g0 hF
    wtm_at "rd"
    refine forL_ints (K := K) xs (fun j σ H4 => (∃ v8, σ = [some (.ref s), some (.int o), some (.ref F), some (.ref d), some (.int (pairsN Ls : Nat)), v5, v6, v7, v8]) ∧ H4 = H1 ∧ ∀ x, x ∈ xs.take j → x ∈ kn) ⟨⟨_, rfl⟩, rfl, fun x h => by simp at h⟩ (fun j σ H4 _ q => by rw [q.2.1]; exact SqL.of hs1) ?_ ?_
    · rintro j hjl σ H4 ⟨⟨v8, rfl⟩, rfl, ha⟩
      wtm_at "rd"
      rw [kd_val]
      refine ite_n (fun h => ?_) (fun h => ?_)
      · have e : jud xs kn Ls.length [] = some Ls.length := jud_nilF hjl h
        rw [e] at hj
        wtm_at "rd"
        intro D nD
        refine kk.2 _ hj.symm D _ ?_ (k1.nw nD) (k1.back nD (by simp))
        rw [upd_same, List.length_map, hls]
      · wtm_at "rd"
        refine ⟨⟨_, rfl⟩, rfl, fun x hx => ?_⟩
        rw [List.take_succ_eq_append_getElem hjl] at hx
        rcases List.mem_append.mp hx with hx | hx
        · exact ha x hx
        · rw [List.mem_singleton.mp hx]
          exact h
    · rintro σ H4 ⟨⟨v8, rfl⟩, rfl, ha⟩
      rw [List.take_length] at ha
      have e : jud xs kn Ls.length [] = none := jud_nilT ha
      rw [e] at hj
      wtm_at "rd"
      refine ⟨sz1000 (by simp), fun t nt => ?_⟩
      refine kk.1 hj.symm t _ ?_ (k1.nw nt) (k1.back nt (by simp))
      rw [upd_same, List.length_map, hls]
theorem c_judge_plan (T : Cx K mg) (B : Tb P w K mg base) : CalX P w K mg base (L2.CX P w) 2 "judge_plan" (sp_judge_plan K) [] := by
  obtain ⟨fd, F, ok⟩ := f_judge_plan (P := P) (w := w) (base := base) T B
  exact ⟨_, fd, p_judge_plan, [], ok, gl_judge_plan T, F.kp, FunD.bindsN F fun _ _ _ _ _ _ us hl => match us, hl with | [_, _, _], _ => rfl, .nil⟩
end
section
variable {P : Program} {w : World} {K : PySem.W.Frag} {mg : Str → Option Value} {base : Heap}
def sp_l_judged (K : PySem.W.Frag) : Sp := fun vs H Q E => ∃ (s F : Addr) (o : Int) (xs : List Int) (ls : List Addr) (Ls : Pln), vs = [.ref s, .int o, .ref F] ∧ (H s = some (.lst (xs.map V.int))) ∧ (H F = some (.lst (ls.map V.ref))) ∧ (Lines H ls Ls) ∧ (Sm 100 100 Ls) ∧ (xs.Nodup) ∧ (o ∈ xs) ∧ (xs.length ≤ 100) ∧ (∀ t H1, H1 t = some (.tup (judV xs o Ls)) → Kp [] H H1 → H t = none → Q (.ref t) H1)
theorem us_l_judged {K : PySem.W.Frag} {H : Hp} {Q : VK} {E : XK} {s F : Addr} {o : Int} {xs : List Int} {ls : List Addr} {Ls : Pln} (hs : H s = some (.lst (xs.map V.int))) (hF : H F = some (.lst (ls.map V.ref))) (hL : Lines H ls Ls) (hb : Sm 100 100 Ls) (hN : xs.Nodup) (ho : o ∈ xs) (hx : xs.length ≤ 100) (kk : ∀ t H1, H1 t = some (.tup (judV xs o Ls)) → Kp [] H H1 → H t = none → Q (.ref t) H1) : sp_l_judged K [.ref s, .int o, .ref F] H Q E := ⟨_, _, _, _, _, _, rfl, hs, hF, hL, hb, hN, ho, hx, kk⟩
theorem f_l_judged (T : Cx K mg) (B : Tb P w K mg base) : ∃ fd, FunD K "_law_judged" "_law_judged" (defArgs s_l_judged) (defBody s_l_judged) (defScope s_l_judged) (d_l_judged.dvs K) (d_l_judged.kws K) (fAd K d_l_judged.at_) fd ∧ FnOk P w K mg base CX0 1 (fAd K d_l_judged.at_) fd p_l_judged (sp_l_judged K) := by
  obtain ⟨fd, F⟩ := T.says.def_ 8 (d := d_l_judged) rfl
  refine ⟨fd, F, fnD F sc_l_judged (fun vs H Q E h => by
    obtain ⟨_, _, _, _, _, _, rfl, _⟩ := h
    rfl) fun cdv A outer s H vs Q E hr h => ?_⟩
  have hu := hu_of hr
  obtain ⟨s, F, o, xs, ls, Ls, rfl, hs, hF, hL, hb, hN, ho, hx, kk⟩ := h
  refine ⟨_, (pss_cons (ps_set (i := 3) sc_l_judged.nd rfl (by first | exact Or.inl rfl | exact Or.inr rfl) pe_dnewK) (pss_cons (ps_dput hu (pv 3) (pv 1) pe_bl rfl) (pss_cons (ps_set (i := 4) sc_l_judged.nd rfl (by first | exact Or.inl rfl | exact Or.inr rfl) pe_int) (pss_cons (ps_for PassesOwn.never rfl (pi_range1 (by rfl) (fr_range T) (pa_cons (pe_callB call_lenS (by rfl) (fr_len T) (by decide +kernel) (pa_cons (pv 2) pa_nil)) pa_nil)) (pg_name (i := 5) sc_l_judged.nd rfl (by first | exact Or.inl rfl | exact Or.inr rfl)) (pss_cons (ps_set (i := 6) sc_l_judged.nd rfl (by first | exact Or.inl rfl | exact Or.inr rfl) pe_dnewK) (pss_cons (ps_set (i := 7) sc_l_judged.nd rfl (by first | exact Or.inl rfl | exact Or.inr rfl) (pe_lst pa_nil)) (pss_cons (ps_for PassesOwn.never rfl (pi_list (pe_ix ix_list (pv 2) (pv 5) (fun _ _ => rfl))) (pg_tup rfl (pgs_cons (pg_name (i := 8) sc_l_judged.nd rfl (by first | exact Or.inl rfl | exact Or.inr rfl)) (pgs_cons (pg_name (i := 9) sc_l_judged.nd rfl (by first | exact Or.inl rfl | exact Or.inr rfl)) pgs_nil))) (pss_cons (ps_if (PW.pt (pw_or (pt_cmp (pc_dnotin hu (pv 8) (pv 3))) (pw_or (pt_cmp (pc_din hu (pv 8) (pv 6))) (pw_or1 (pt_cmpR op_eq (pv 8) (pv 9) (nomark _)))))) (pss_one (ps_ret (pe_tup (pa_cons pe_bl (pa_cons (pv 5) pa_nil))))) pss_nil) (pss_cons (ps_if (PW.pt (pw_or (pt_cmpR op_notIn_seq (pv 8) (pv 0) rfl) (pw_or1 (pt_cmpR op_notIn_seq (pv 9) (pv 0) rfl)))) (pss_one (ps_ret (pe_tup (pa_cons pe_bl (pa_cons (pv 5) pa_nil))))) pss_nil) (pss_cons (ps_dput hu (pv 6) (pv 8) pe_bl rfl) (pss_cons (ps_expr (pe_bm PySem.F.plainAttrs_list PySem.F.slot_list_append PySem.F.type_list_append mt_append (pv 7) (pa_cons (pv 9) pa_nil))) (pss_one (ps_set (i := 4) sc_l_judged.nd rfl (by first | exact Or.inl rfl | exact Or.inr rfl) (pe_op op_add (pv 4) pe_int)))))))) (pss_one (ps_for PassesOwn.never rfl (pi_list (pv 7)) (pg_name (i := 10) sc_l_judged.nd rfl (by first | exact Or.inl rfl | exact Or.inr rfl)) (pss_one (ps_dput hu (pv 3) (pv 10) pe_bl rfl)))))))) (pss_cons (ps_if (pt_cmpR op_lt (pe_callB call_lenD' (by rfl) (fr_len T) (by decide +kernel) (pa_cons (pv 3) pa_nil)) (pe_callB call_lenS (by rfl) (fr_len T) (by decide +kernel) (pa_cons (pv 0) pa_nil)) (nomark _)) (pss_one (ps_ret (pe_tup (pa_cons pe_bl (pa_cons (pe_callB call_lenS (by rfl) (fr_len T) (by decide +kernel) (pa_cons (pv 2) pa_nil)) pa_nil))))) pss_nil) (pss_one (ps_ret (pe_tup (pa_cons pe_bl (pa_cons (pe_callB call_lenS (by rfl) (fr_len T) (by decide +kernel) (pa_cons (pv 2) pa_nil)) (pa_cons (pv 4) pa_nil))))))))))), ?_⟩
  rw [show L2.start n_l_judged [.ref s, .int o, .ref F] = [some (.ref s), some (.int o), some (.ref F), none, none, none, none, none, none, none, none] from rfl]
  try dsimp only [cxOf, Cx.nox, Cx.wish, List.map]

  have hls : ls.length = Ls.length := paired_len hL
  wtm_at "rd"
  intro d nd
  wtm_at "rd"
  rw [show putK [] (.inl o) (.bl true) = kd [o] from rfl]
  have k0 : Kp [] H (upd (upd H d (.dK [])) d (.dK (kd [o]))) := (Kp.new nd).mine nd
  have hd0 : upd (upd H d (.dK [])) d (.dK (kd [o])) d = some (.dK (kd [o])) := upd_same
  generalize upd (upd H d (.dK [])) d (.dK (kd [o])) = H0 at k0 hd0
  have hF0 := k0.g0 hF
  wtm_at "rd"
  have eR : ((((ls.map V.ref).length : Nat) : Int)).toNat = Ls.length := by
    rw [List.length_map, hls]
    rfl
  have eB : (((ls.map V.ref).length : Nat) : Int) < 2 ^ 62 := by
    have := hb.1
    rw [List.length_map, hls]
    omega
  refine rd_iRng1X (by omega) eB ?_
  rw [eR]
  have fin : ∀ (i : Nat) (t : Addr) (H1 : Hp), Kp [] H H1 → jud xs [o] 0 Ls = some i → H1 t = none → Q (.ref t) (upd H1 t (.tup [.bl false, .int (i : Nat)])) := fun i t H1 k1 e nt => by
    refine kk t _ ?_ (k1.nw nt) (k1.back nt (by simp))
    rw [upd_same]
    unfold judV
    rw [e]
  refine forR_by (fun i σ H1 => (∃ v5 v6 v7 v8 v9 v10, σ = [some (.ref s), some (.int o), some (.ref F), some (.ref d), some (.int (pairsN (Ls.take i) : Nat)), v5, v6, v7, v8, v9, v10]) ∧ ∃ kn : List Int, H1 d = some (.dK (kd kn)) ∧ kn.Nodup ∧ (∀ a, a ∈ kn → a ∈ xs) ∧ jud xs kn i (Ls.drop i) = jud xs [o] 0 Ls ∧ Kp [] H H1) ?_ ?_ ?_
  · exact ⟨⟨_, _, _, _, _, _, rfl⟩, [o], hd0, by simp, by simpa using ho, rfl, k0⟩
  · rintro i σ H1 hi ⟨⟨v5, v6, v7, v8, v9, v10, rfl⟩, kn, hd1, hkN, hks, hj, k1⟩
    have hil : i < ls.length := by omega
    have hat : atI (ls.map V.ref) (0 + (i : Int)) = some (.ref ls[i]) := by
      rw [Int.zero_add]
      exact atI_nat (by rw [List.getElem?_map, List.getElem?_eq_getElem hil]; rfl)
    obtain ⟨L, hLi, hl2⟩ := paired_get hL (List.getElem?_eq_getElem hil)
    have hLm : L.length ≤ 100 := hb.2 L (List.mem_of_getElem? hLi)
    have hkl : kn.length ≤ 100 := by
      have := List.Nodup.length_le_of_subset hkN (fun a h => hks a h : kn ⊆ xs)
      omega
    rw [jud_step hLi] at hj
    have hF1 := k1.g0 hF
    wtm_at "rd"
    intro cd ncd
    wtm_at "rd"
    refine ⟨sz1000 (by simp), fun r nr => ?_⟩
    have ncr : cd ≠ r := ne_fresh nr
    have nr1 : H1 r = none := Kp.back (Kp.new (ps := []) ncd) nr (by simp)
    have k2 : Kp [] H (upd (upd H1 cd (.dK [])) r (.lst [])) := (k1.nw ncd).nw nr
    have hd2 : upd (upd H1 cd (.dK [])) r (.lst []) d = some (.dK (kd kn)) := ((Kp.new (ps := []) ncd).nw nr).g0 hd1
    have hF2 := k2.g0 hF
    obtain ⟨ts, t1, t2⟩ := hl2
    have t1' := k2.g0 t1
    have tl : (ts.map V.ref).length = L.length := by rw [List.length_map, paired_len t2]
    have ndcd : d ≠ cd := ne_of_none hd1 ncd
    wtm_at "rd"
    refine forL_by (K := K) (ts.map V.ref) (fun j σ H3 => (∃ v8 v9 v10, σ = [some (.ref s), some (.int o), some (.ref F), some (.ref d), some (.int ((pairsN (Ls.take i) : Nat) + (j : Nat))), some (.int (0 + i)), some (.ref cd), some (.ref r), v8, v9, v10]) ∧ H3 d = some (.dK (kd kn)) ∧ H3 cd = some (.dK (kd ((L.take j).map (·.1)))) ∧ H3 r = some (.lst (((L.take j).map (·.2)).map V.int)) ∧ okFrom xs kn ((L.take j).map (·.1)) (L.drop j) = okFrom xs kn [] L ∧ Kp [] H1 H3)
      ⟨⟨v8, v9, v10, by simp⟩, hd2, hu_ne ncr upd_same, upd_same, rfl, (Kp.new ncd).nw nr⟩ (fun j σ H3 _ q => SqL.of ((k1.trans q.2.2.2.2.2).g0 t1)) ?_ ?_
    · rintro j x σ H3 hx ⟨⟨v8, v9, v10, rfl⟩, q0, q1, q2, q3, k3⟩
      rw [List.getElem?_map] at hx
      obtain ⟨t, ht, rfl⟩ := Option.map_eq_some_iff.mp hx
      obtain ⟨p, hp, hP⟩ := paired_get t2 ht
      have hjl := (List.getElem?_eq_some_iff.mp hp).1
      rw [okFrom_step hp] at q3
      have hP1 := (k1.trans k3).g0 hP
      have hs1 := (k1.trans k3).g0 hs
      have klen : (kd ((L.take j).map (·.1))).length ≤ 100 := by
        rw [kd_len, List.length_map, List.length_take]
        omega
      have bad : ¬ (p.1 ∈ kn ∧ p.1 ∉ (L.take j).map (·.1) ∧ p.1 ≠ p.2 ∧ p.1 ∈ xs ∧ p.2 ∈ xs) → jud xs [o] 0 Ls = some i := fun e => by
        have z : okPair xs kn ((L.take j).map (·.1)) p = false := by
          cases z : okPair xs kn ((L.take j).map (·.1)) p with
          | false => rfl
          | true => exact absurd (okPair_iff.mp z) e
        rw [z, Bool.false_and] at q3
        rw [← hj, ← q3]
        exact if_neg Bool.false_ne_true
      unfold Pr at hP1
      wtm_at "rd"
      rw [kd_val]
      refine ite_n (fun h => ?_) (fun h1 => ?_)
      · wtm_at "rd"
        refine ⟨sz1000 (by simp), fun T nT => ?_⟩
        rw [Int.zero_add]
        exact fin i T H3 (k1.trans k3) (bad fun z => h z.1) nT
      wtm_at "rd"
      rw [kd_val]
      refine ite_d (fun h => ?_) (fun h2 => ?_)
      · wtm_at "rd"
        refine ⟨sz1000 (by simp), fun T nT => ?_⟩
        rw [Int.zero_add]
        exact fin i T H3 (k1.trans k3) (bad fun z => z.2.1 h) nT
      wtm_at "rd"
      refine ite_d (fun h => ?_) (fun h3 => ?_)
      · wtm_at "rd"
        refine ⟨sz1000 (by simp), fun T nT => ?_⟩
        rw [Int.zero_add]
        exact fin i T H3 (k1.trans k3) (bad fun z => z.2.2.1 h) nT
      wtm_at "rd"
      refine ite_n (fun h => ?_) (fun h4 => ?_)
      · wtm_at "rd"
        refine ⟨sz1000 (by simp), fun T nT => ?_⟩
        rw [Int.zero_add]
        exact fin i T H3 (k1.trans k3) (bad fun z => h z.2.2.2.1) nT
      wtm_at "rd"
      refine ite_n (fun h => ?_) (fun h5 => ?_)
      · wtm_at "rd"
        refine ⟨sz1000 (by simp), fun T nT => ?_⟩
        rw [Int.zero_add]
        exact fin i T H3 (k1.trans k3) (bad fun z => h z.2.2.2.2) nT
      have q2' : upd H3 cd (.dK (putK (kd ((L.take j).map (·.1))) (.inl p.1) (.bl true))) r = some (.lst (((L.take j).map (·.2)).map V.int)) := hu_ne (Ne.symm ncr) q2
      have slen : (((L.take j).map (·.2)).map V.int).length < sizeLine := szlt (by simp; omega)
      wtm_at "rd"
      have eL : L.take (j + 1) = L.take j ++ [p] := by
        obtain ⟨h, e⟩ := List.getElem?_eq_some_iff.mp hp
        rw [List.take_succ_eq_append_getElem h, e]
      have drr : d ≠ r := ne_of q0 q2 (by intro z; cases z)
      refine ⟨⟨some (.int p.1), some (.int p.2), v10, ?_⟩, hu_ne drr (hu_ne ndcd q0), ?_, ?_, ?_, (k3.mine ncd).mine nr1⟩
      · rw [show ((pairsN (Ls.take i) : Nat) : Int) + ((j + 1 : Nat) : Int) = (pairsN (Ls.take i) : Nat) + (j : Nat) + 1 by omega]
        rfl
      · rw [upd_ne ncr, upd_same, kd_put h2, eL, List.map_append]
        rfl
      · rw [upd_same, eL, List.map_append, List.map_append]
        rfl
      · rw [← q3, okPair_iff.mpr ⟨h1, h2, h3, h4, h5⟩, Bool.true_and]
    · rintro σ H3 ⟨⟨v8, v9, v10, rfl⟩, q0, q1, q2, q3, k3⟩
      rw [tl] at q2 q3
      rw [tl]
      rw [List.drop_length] at q3
      rw [List.take_length] at q2
      have ok : okFrom xs kn [] L = true := q3.symm
      rw [if_pos ok] at hj
      have drr : d ≠ r := ne_of q0 q2 (by intro z; cases z)
      wtm_at "rd"
      refine forL_ints (K := K) (L.map (·.2)) (fun j σ H4 => (∃ v10, σ = [some (.ref s), some (.int o), some (.ref F), some (.ref d), some (.int ((pairsN (Ls.take i) : Nat) + (L.length : Nat))), some (.int (0 + i)), some (.ref cd), some (.ref r), v8, v9, v10]) ∧ H4 d = some (.dK (kd (insL kn ((L.map (·.2)).take j)))) ∧ H4 r = some (.lst ((L.map (·.2)).map V.int)) ∧ Kp [] H H4)
        ⟨⟨_, rfl⟩, q0, q2, k1.trans k3⟩ (fun j σ H4 _ q => SqL.of q.2.2.1) ?_ ?_
      · rintro j hjl σ H4 ⟨⟨v10, rfl⟩, hd4, hr4, k4⟩
        have klen : (kd (insL kn ((L.map (·.2)).take j))).length ≤ 100000 := by
          have := insL_len (r := (L.map (·.2)).take j) (l := kn)
          rw [kd_len]
          rw [List.length_take, List.length_map] at this
          omega
        wtm_at "rd"
        refine ⟨⟨_, rfl⟩, ?_, hu_ne (Ne.symm drr) hr4, k4.mine nd⟩
        rw [upd_same, kd_ins, insL_take (List.getElem?_eq_getElem hjl)]
      · rintro σ H4 ⟨⟨v10, rfl⟩, hd4, hr4, k4⟩
        rw [List.take_length] at hd4
        wtm_at "rd"
        refine ⟨⟨some (.int (0 + i)), some (.ref cd), some (.ref r), v8, v9, v10, ?_⟩, insL kn (L.map (·.2)), hd4, insL_nodup hkN, sub_insL ok hks, hj, k4⟩
        rw [pairsN_succ hLi, Int.natCast_add]
  · rintro σ H1 ⟨⟨v5, v6, v7, v8, v9, v10, rfl⟩, kn, hd1, hkN, hks, hj, k1⟩
    rw [List.drop_length] at hj
    rw [List.take_length]
    have hs1 := k1.g0 hs
    have hF1 := k1.g0 hF
    wtm_at "rd"
    rw [kd_len]
    refine ite_d (fun h => ?_) (fun h => ?_)
    · have e : jud xs kn Ls.length [] = some Ls.length := by
        unfold jud
        rw [if_neg]
        rw [(allIn_len hN hkN hks).mp (by omega)]
        exact Bool.false_ne_true
      rw [e] at hj
      wtm_at "rd"
      refine ⟨sz1000 (by simp), fun T nT => ?_⟩
      rw [List.length_map, hls]
      exact fin _ T H1 k1 hj.symm nT
    · have e : jud xs kn Ls.length [] = none := by
        unfold jud
        rw [if_pos]
        cases z : allIn xs kn with
        | true => rfl
        | false =>
          have := (allIn_len hN hkN hks).mpr z
          omega
      rw [e] at hj
      wtm_at "rd"
      refine ⟨sz1000 (by simp), fun T nT => ?_⟩
      refine kk T _ ?_ (k1.nw nT) (k1.back nT (by simp))
      rw [upd_same]
      unfold judV
      rw [← hj, List.length_map, hls]
theorem c_l_judged (T : Cx K mg) (B : Tb P w K mg base) : CalX P w K mg base CX0 1 "_law_judged" (sp_l_judged K) [] := by
  obtain ⟨fd, F, ok⟩ := f_l_judged (P := P) (w := w) (base := base) T B
  exact ⟨_, fd, p_l_judged, [], ok, gl_l_judged T, F.kp, FunD.bindsN F fun _ _ _ _ _ _ us hl => match us, hl with | [_, _, _], _ => rfl, .nil⟩
end
section
variable {P : Program} {w : World} {K : PySem.W.Frag} {mg : Str → Option Value} {base : Heap}
def sp_l_tree (K : PySem.W.Frag) : Sp := fun vs H Q E => ∃ (p c l : Addr) (xs : List Int) (o : Int), vs = [.ref p, .ref l, .int o] ∧ (Purse H p c) ∧ (H l = some (.lst (xs.map V.int))) ∧ (xs.length ≤ 12) ∧ (∀ F ls Ls H1, H1 F = some (.lst (ls.map V.ref)) → Lines H1 ls Ls → Sm 16 12 Ls → Purse H1 p c → Kp [p] H H1 → Q (.ref F) H1)
theorem us_l_tree {K : PySem.W.Frag} {H : Hp} {Q : VK} {E : XK} {p c l : Addr} {xs : List Int} {o : Int} (hB : Purse H p c) (hl : H l = some (.lst (xs.map V.int))) (hx : xs.length ≤ 12) (kk : ∀ F ls Ls H1, H1 F = some (.lst (ls.map V.ref)) → Lines H1 ls Ls → Sm 16 12 Ls → Purse H1 p c → Kp [p] H H1 → Q (.ref F) H1) : sp_l_tree K [.ref p, .ref l, .int o] H Q E := ⟨_, _, _, _, _, rfl, hB, hl, hx, kk⟩
theorem f_l_tree (T : Cx K mg) (B : Tb P w K mg base) : ∃ fd, FunD K "_law_tree" "_law_tree" (defArgs s_l_tree) (defBody s_l_tree) (defScope s_l_tree) (d_l_tree.dvs K) (d_l_tree.kws K) (fAd K d_l_tree.at_) fd ∧ FnOk P w K mg base CX0 3 (fAd K d_l_tree.at_) fd p_l_tree (sp_l_tree K) := by
  have c_l_draw := c_l_draw (P := P) (w := w) (base := base) T B
  obtain ⟨fd, F⟩ := T.says.def_ 9 (d := d_l_tree) rfl
  refine ⟨fd, F, fnD F sc_l_tree (fun vs H Q E h => by
    obtain ⟨_, _, _, _, _, rfl, _⟩ := h
    rfl) fun cdv A outer s H vs Q E hr h => ?_⟩
  have hu := hu_of hr
  obtain ⟨p, c, l, xs, o, rfl, hB, hl, hx, kk⟩ := h
  refine ⟨_, (pss_cons (ps_set (i := 3) sc_l_tree.nd rfl (by first | exact Or.inl rfl | exact Or.inr rfl) (pe_lst (pa_cons (pv 2) pa_nil))) (pss_cons (ps_set (i := 4) sc_l_tree.nd rfl (by first | exact Or.inl rfl | exact Or.inr rfl) (pe_lst pa_nil)) (pss_cons (ps_for PassesOwn.never rfl (pi_range1 (by rfl) (fr_range T) (pa_cons pe_int pa_nil)) (pg_name (i := 5) sc_l_tree.nd rfl (by first | exact Or.inl rfl | exact Or.inr rfl)) (pss_cons (ps_setLc (i := 6) (own := [("_law_seat", 9)]) (g := (gName 9)) rfl sc_l_tree.nd rfl rfl (sw_true rfl rfl rfl (by decide +kernel)) (pi_list (pv 1)) (blkOk_by (own := [("_law_seat", 9)]) (N := n_l_tree) (sc := defScope s_l_tree) (by decide +kernel)) (fun _ _ _ _ _ => (pg_name (i := 9) sc_l_tree.nd rfl (by first | exact Or.inl rfl | exact Or.inr rfl))) (fun _ _ _ _ _ => (pts_one (pt_cmpR (op_notIn_seqK (K := K) rfl) (pv 9) (pv 3) rfl))) (fun _ _ _ _ _ => (pv 9))) (pss_cons (ps_if (pt_cmpR (op_eqD hr.units) (pv 6) (pe_lst pa_nil) (nomark _)) (pss_one ps_break) pss_nil) (pss_cons (ps_set (i := 7) sc_l_tree.nd rfl (by first | exact Or.inl rfl | exact Or.inr rfl) (pe_lst pa_nil)) (pss_cons (ps_for PassesOwn.never rfl (pi_list (pv 3)) (pg_name (i := 8) sc_l_tree.nd rfl (by first | exact Or.inl rfl | exact Or.inr rfl)) (pss_one (ps_if (pt_cmpR (op_neD hr.units) (pv 6) (pe_lst pa_nil) (nomark _)) (pss_one (ps_expr (pe_bm PySem.F.plainAttrs_list PySem.F.slot_list_append PySem.F.type_list_append mt_append (pv 7) (pa_cons (pe_tup (pa_cons (pv 8) (pa_cons (pe_bm PySem.F.plainAttrs_list PySem.F.slot_list_pop PySem.F.type_list_pop mt_popAt (pv 6) (pa_cons (pe_cal c_l_draw hr (by decide) (by rfl) pass0 (pa_cons (pv 0) (pa_cons (pe_callB call_lenS (by rfl) (fr_len T) (by decide +kernel) (pa_cons (pv 6) pa_nil)) pa_nil))) pa_nil)) pa_nil))) pa_nil)))) pss_nil))) (pss_cons (ps_expr (pe_bm PySem.F.plainAttrs_list PySem.F.slot_list_append PySem.F.type_list_append mt_append (pv 4) (pa_cons (pv 7) pa_nil))) (pss_one (ps_set (i := 3) sc_l_tree.nd rfl (by first | exact Or.inl rfl | exact Or.inr rfl) (pe_op op_cat (pv 3) (pe_lc (own := [("_law_pair", 10)]) (g := (gName 10)) (tt := tYes) rfl sc_l_tree.nd (pi_list (pv 7)) (blkOk_by (own := [("_law_pair", 10)]) (N := n_l_tree) (sc := defScope s_l_tree) (by decide +kernel)) (fun _ _ _ _ _ => (pg_name (i := 10) sc_l_tree.nd rfl (by first | exact Or.inl rfl | exact Or.inr rfl))) (fun _ _ _ _ _ => pts_nil) (fun _ _ _ _ _ => (pe_ix (ix_tupK (K := K) rfl) (pv 10) pe_int (fun _ _ => rfl))))))))))))) (pss_one (ps_ret (pv 4)))))), ?_⟩
  rw [show L2.start n_l_tree [.ref p, .ref l, .int o] = [some (.ref p), some (.ref l), some (.int o), none, none, none, none, none, none, none, none] from rfl]
  try dsimp only [cxOf, Cx.nox, Cx.wish, List.map]

  wtm_at "rd"
  refine ⟨sz1000 (by simp), fun kA nkA => ?_⟩
  wtm_at "rd"
  refine ⟨sz1000 (by simp), fun F nF => ?_⟩
  have nF0 : H F = none := Kp.back (Kp.new (ps := []) nkA) nF (by simp)
  have nkF : kA ≠ F := ne_fresh nF
  have k0 : Kp [] H (upd (upd H kA (.lst [.int o])) F (.lst [])) := (Kp.new nkA).nw nF
  have hk0 : upd (upd H kA (.lst [.int o])) F (.lst []) kA = some (.lst (([o] : List Int).map V.int)) := hu_ne nkF upd_same
  have hF0 : upd (upd H kA (.lst [.int o])) F (.lst []) F = some (.lst (([] : List Addr).map V.ref)) := upd_same
  generalize upd (upd H kA (.lst [.int o])) F (.lst []) = H0 at k0 hk0 hF0
  wtm_at "rd"
  refine forR_by (fun i σ H1 => (∃ kA v5 v6 v7 v8 v9 v10, σ = [some (.ref p), some (.ref l), some (.int o), some (.ref kA), some (.ref F), v5, v6, v7, v8, v9, v10] ∧ ∃ ks : List Int, H1 kA = some (.lst (ks.map V.int)) ∧ ks.length ≤ 1 + 12 * i ∧ kA ≠ F) ∧ (∃ ls Ls, H1 F = some (.lst (ls.map V.ref)) ∧ Lines H1 ls Ls ∧ Sm i 12 Ls ∧ F ∉ ls) ∧ Purse H1 p c ∧ Kp [p] H H1) ?_ ?_ ?_
  · exact ⟨⟨kA, _, _, _, _, _, _, rfl, [o], hk0, by simp, nkF⟩, ⟨[], [], hF0, .nil, ⟨by simp, by simp⟩, by simp⟩, hB.k0 k0, k0.of0⟩
  · rintro i σ H1 hi ⟨⟨kA, v5, v6, v7, v8, v9, v10, rfl, ks, hks, hkl, nkF⟩, ⟨ls, Ls, hF1, hL1, hS1, nFl⟩, B1, k1⟩
    have hi4 : i < 4 := hi
    have hl1 := k1.g1 (hB.off hl) hl
    wtm_at "rd"
    intro D hD
    have hsz : ∀ (j : Nat), ((xs.take j).filter (fun x => !decide (x ∈ ks))).length ≤ 12 := fun j => by
      have h1 := List.length_filter_le (fun x => !decide (x ∈ ks)) (xs.take j)
      rw [List.length_take] at h1
      omega
    have nDk := ne_of_none hks hD
    refine lcL_ints xs (fun j H2 => H2 D = some (.lst (((xs.take j).filter (fun x => !decide (x ∈ ks))).map V.int)) ∧ Kp [] H1 H2) ⟨upd_same, Kp.new hD⟩ (fun j H2 _ q => SqL.of (q.2.g0 hl1)) ?_ ?_
    · rintro j hj H2 ⟨q1, q2⟩
      have hks2 := q2.g0 hks
      wtm_at "rd"
      refine ⟨rfl, ?_⟩
      wtm_at "rd"
      rw [List.take_succ_eq_append_getElem hj, List.filter_append]
      refine ite_n (fun h => ?_) (fun h => ?_)
      · wtm_at "rd"
        refine ⟨_, q1, szlt (by have := hsz j; rw [List.length_map]; omega), ?_, q2.mine hD⟩
        rw [upd_same, List.filter_cons_of_pos (by simpa using h), List.filter_nil, List.map_append]
        rfl
      · rw [List.filter_cons_of_neg (by simpa using h), List.filter_nil, List.append_nil]
        exact ⟨q1, q2⟩
    rintro H2 ⟨q1, q2⟩
    rw [List.take_length] at q1
    have hu12 := hsz xs.length
    rw [List.take_length] at hu12
    generalize xs.filter (fun x => !decide (x ∈ ks)) = us at q1 hu12
    have hF2 := q2.g0 hF1
    have hL2 := Lines.kp hL1 q2
    have B2 := B1.k0 q2
    have hks2 := q2.g0 hks
    have k2 : Kp [p] H H2 := k1.trans q2.of0
    have nDF : D ≠ F := Ne.symm (ne_of_none hF1 hD)
    have nDl : D ∉ ls := Lines.notin hD hL1
    have nD0 : H D = none := k1.back hD (by
      intro z
      rw [List.mem_singleton.mp z] at hD
      obtain ⟨kvs, e⟩ := B1.at
      rw [hD] at e
      cases e)
    wtm_at "rd"
    refine ⟨sz1000 (by simp), fun e ne => ?_⟩
    have q1' : upd H2 e (.lst []) D = some (.lst (us.map V.int)) := hu_ne (ne_of_none q1 ne) q1
    wtm_at "rd"
    refine rd_eqLI (ns := us) (ms := []) (SqL.of q1') (SqL.of upd_same) ?_
    wtm_at "rd"
    refine ite_d (fun hz => ?_) (fun hz => ?_)
    · wtm_at "rd"
      exact kk F ls Ls _ (hu_ne (ne_of_none hF2 ne) hF2) (Lines.kp hL2 (Kp.new ne)) (hS1.mono (by omega) (by omega)) (B2.new ne) (k2.nw ne)
    · wtm_at "rd"
      refine ⟨sz1000 (by simp), fun w nw => ?_⟩
      have k3 : Kp [p] H (upd (upd H2 e (.lst [])) w (.lst [])) := (k2.nw ne).nw nw
      have B3 := (B2.new (o := .lst []) ne).new (o := .lst []) nw
      have kk3 : Kp [] H2 (upd (upd H2 e (.lst [])) w (.lst [])) := (Kp.new ne).nw nw
      have hF3 := kk3.g0 hF2
      have hL3 := Lines.kp hL2 kk3
      have hks3 := kk3.g0 hks2
      have q13 := kk3.g0 q1
      have hw3 : upd (upd H2 e (.lst [])) w (.lst []) w = some (.lst (([] : List Addr).map V.ref)) := upd_same
      have nwD : w ≠ D := Ne.symm (ne_of_none q1' nw)
      have nw2 : H2 w = none := (Kp.new (ps := []) ne).back nw (by simp)
      have nwF : w ≠ F := Ne.symm (ne_of_none hF2 nw2)
      have nwk : w ≠ kA := Ne.symm (ne_of_none hks2 nw2)
      have nwl : w ∉ ls := Lines.notin nw2 hL2
      have nw0 : H w = none := k2.back nw2 (by
        intro z
        rw [List.mem_singleton.mp z] at nw2
        obtain ⟨kvs, e⟩ := B2.at
        rw [nw2] at e
        cases e)
      generalize upd (upd H2 e (.lst [])) w (.lst []) = H3 at k3 B3 hF3 hL3 hks3 q13 hw3
      have hl3 := k3.g1 (hB.off hl) hl
      wtm_at "rd"
      refine forL_ints (K := K) ks (fun j σ H4 => (∃ v8 v9 v10, σ = [some (.ref p), some (.ref l), some (.int o), some (.ref kA), some (.ref F), some (.int (0 + i)), some (.ref D), some (.ref w), v8, v9, v10]) ∧ H4 kA = some (.lst (ks.map V.int)) ∧ (H4 F = some (.lst (ls.map V.ref)) ∧ Lines H4 ls Ls) ∧ (∃ us ts ps, H4 D = some (.lst (us.map V.int)) ∧ H4 w = some (.lst (ts.map V.ref)) ∧ Paired (Pr H4) ts ps ∧ us.length + ps.length ≤ 12) ∧ Purse H4 p c ∧ Kp [p] H H4)
        ⟨⟨_, _, _, rfl⟩, hks3, ⟨hF3, hL3⟩, ⟨us, [], [], q13, hw3, .nil, by simpa using hu12⟩, B3, k3⟩ (fun j σ H4 _ q => SqL.of q.2.1) ?_ ?_
      · rintro j hj σ H4 ⟨⟨v8, v9, v10, rfl⟩, hk4, ⟨hF4, hL4⟩, ⟨us, ts, ps, hu4, hw4, hp4, hl4⟩, B4, k4⟩
        wtm_at "rd"
        refine ⟨sz1000 (by simp), fun e ne => ?_⟩
        have kn : Kp [] H4 (upd H4 e (.lst [])) := Kp.new ne
        have hu5 := kn.g0 hu4
        have hk5 := kn.g0 hk4
        have hF5 := kn.g0 hF4
        have hw5 := kn.g0 hw4
        have hL5 := Lines.kp hL4 kn
        have hp5 : Paired (Pr (upd H4 e (.lst []))) ts ps := paired_imp (fun _ _ z => kn.g0 z) hp4
        have B5 := B4.k0 kn
        have k5 : Kp [p] H (upd H4 e (.lst [])) := k4.nw ne
        have he5 : upd H4 e (.lst []) e = some (.lst []) := upd_same
        generalize upd H4 e (.lst []) = H5 at *
        refine rd_neLI (ns := us) (ms := []) (SqL.of hu5) (SqL.of he5) ?_
        wtm_at "rd"
        refine ite_n (fun hz => ?_) (fun hz => ?_)
        · have hul : 1 ≤ us.length := by
            cases us with
            | nil => exact absurd rfl hz
            | cons a r => simp
          wtm_at "rd"
          refine us_l_draw B5 (by omega) (by omega) fun n H6 n0 n1 B6 k6 => ?_
          have hn : n.toNat < us.length := by omega
          have hu6 := k6.g1 (B5.off hu5) hu5
          have hk6 := k6.g1 (B5.off hk5) hk5
          have hF6 := k6.g1 (B5.off hF5) hF5
          have hw6 := k6.g1 (B5.off hw5) hw5
          have hL6 := Lines.pp hL5 B5 k6
          have hp6 : Paired (Pr H6) ts ps := paired_imp (fun _ _ z => k6.g1 (B5.offT z) z) hp5
          have k6' : Kp [p] H H6 := k5.trans k6
          wtm_at "rd"
          refine rd_popAt hu6 (by omega) (by omega) (k := n.toNat) (v := .int us[n.toNat]) (by rw [List.length_map]; exact seqIx n0 n1) (by rw [List.getElem?_map, List.getElem?_eq_getElem hn]; rfl) ?_
          rw [erase_map]
          wtm_at "rd"
          refine ⟨sz1000 (by simp), fun t nt => ?_⟩
          have nDp := B6.off hu6
          have nwp := B6.off hw6
          have k7 : Kp [p] H (upd H6 D (.lst ((us.eraseIdx n.toNat).map V.int))) := k6'.mine nD0
          have hw7 : upd H6 D (.lst ((us.eraseIdx n.toNat).map V.int)) w = some (.lst (ts.map V.ref)) := hu_ne nwD hw6
          have hF7 : upd H6 D (.lst ((us.eraseIdx n.toNat).map V.int)) F = some (.lst (ls.map V.ref)) := hu_ne (Ne.symm nDF) hF6
          have hk7 : upd H6 D (.lst ((us.eraseIdx n.toNat).map V.int)) kA = some (.lst (ks.map V.int)) := hu_ne nDk hk6
          have hL7 := Lines.upd (o := .lst ((us.eraseIdx n.toNat).map V.int)) hu6 hL6 nDl
          have hp7 : Paired (Pr (upd H6 D (.lst ((us.eraseIdx n.toNat).map V.int)))) ts ps := paired_imp (fun _ _ z => hu_ne (ne_of z hu6 (by intro z; cases z)) z) hp6
          have B7 : Purse (upd H6 D (.lst ((us.eraseIdx n.toNat).map V.int))) p c := by
            obtain ⟨ns, a, b, d, e, f, g, h1, h2, h3, h4⟩ := B6
            have ncD : c ≠ D := by
              intro z
              obtain ⟨ns0, a0, b0, d0, e0, f0, g0, h10, h20, -⟩ := hB
              rw [z, nD0] at h20
              cases h20
            exact ⟨ns, a, b, d, e, f, g, hu_ne (Ne.symm nDp) h1, hu_ne ncD h2, h3, h4⟩
          have hu7 : upd H6 D (.lst ((us.eraseIdx n.toNat).map V.int)) D = some (.lst ((us.eraseIdx n.toNat).map V.int)) := upd_same
          generalize upd H6 D (.lst ((us.eraseIdx n.toNat).map V.int)) = H7 at *
          have k8 : Kp [] H7 (upd H7 t (.tup [.int ks[j], .int us[n.toNat]])) := Kp.new nt
          have hw8 := k8.g0 hw7
          have slen : (ts.map V.ref).length < sizeLine := szlt (by have := paired_len hp7; rw [List.length_map]; omega)
          wtm_at "rd"
          have hL8 := Lines.kp hL7 k8
          have B8 := B7.k0 k8
          have hp8 : Paired (Pr (upd H7 t (.tup [.int ks[j], .int us[n.toNat]]))) ts ps := paired_imp (fun _ _ z => k8.g0 z) hp7
          have ht8 : upd H7 t (.tup [.int ks[j], .int us[n.toNat]]) t = some (.tup [.int ks[j], .int us[n.toNat]]) := upd_same
          have hF8 := k8.g0 hF7
          have hk8 := k8.g0 hk7
          have hu8 := k8.g0 hu7
          have k78 : Kp [p] H (upd H7 t (.tup [.int ks[j], .int us[n.toNat]])) := k7.nw nt
          generalize upd H7 t (.tup [.int ks[j], .int us[n.toNat]]) = H8 at *
          refine ⟨⟨_, _, _, rfl⟩, hu_ne (Ne.symm nwk) hk8, ⟨hu_ne (Ne.symm nwF) hF8, Lines.upd hw8 hL8 nwl⟩, ⟨us.eraseIdx n.toNat, ts ++ [t], ps ++ [(ks[j], us[n.toNat])], hu_ne (Ne.symm nwD) hu8, ?_, ?_, ?_⟩, ?_, k78.mine nw0⟩
          · rw [upd_same, List.map_append]
            rfl
          · exact paired_snoc (R := Pr _) (a := t) (b := (ks[j], us[n.toNat])) (hu_ne (ne_of ht8 hw8 (by intro z; cases z)) ht8) (paired_imp (fun _ _ z => hu_ne (ne_of z hw8 (by intro z; cases z)) z) hp8)
          · rw [List.length_eraseIdx_of_lt hn, List.length_append, List.length_singleton]
            omega
          · obtain ⟨ns, a, b, d, e, f, g, h1, h2, h3, h4⟩ := B8
            have ncw : c ≠ w := by
              intro z
              obtain ⟨ns0, a0, b0, d0, e0, f0, g0, h10, h20, -⟩ := hB
              rw [z, nw0] at h20
              cases h20
            exact ⟨ns, a, b, d, e, f, g, hu_ne (Ne.symm nwp) h1, hu_ne ncw h2, h3, h4⟩
        · wtm_at "rd"
          exact ⟨⟨_, _, _, rfl⟩, hk5, ⟨hF5, hL5⟩, ⟨us, ts, ps, hu5, hw5, hp5, hl4⟩, B5, k5⟩
      · rintro σ H4 ⟨⟨v8, v9, v10, rfl⟩, hk4, ⟨hF4, hL4⟩, ⟨us, ts, ps, hu4, hw4, hp4, hl4⟩, B4, k4⟩
        have slen : (ls.map V.ref).length < sizeLine := szlt (by have := paired_len hL4; have := hS1.1; rw [List.length_map]; omega)
        wtm_at "rd"
        have nFp := B4.off hF4
        have nF1 : c ≠ F := by
          intro z
          obtain ⟨ns0, a0, b0, d0, e0, f0, g0, h10, h20, -⟩ := hB
          rw [z, nF0] at h20
          cases h20
        have k5 : Kp [p] H (upd H4 F (.lst (ls.map V.ref ++ [V.ref w]))) := k4.mine nF0
        have B5 : Purse (upd H4 F (.lst (ls.map V.ref ++ [V.ref w]))) p c := by
          obtain ⟨ns, a, b, d, e, f, g, h1, h2, h3, h4⟩ := B4
          exact ⟨ns, a, b, d, e, f, g, hu_ne (Ne.symm nFp) h1, hu_ne nF1 h2, h3, h4⟩
        have hF5 : upd H4 F (.lst (ls.map V.ref ++ [V.ref w])) F = some (.lst ((ls ++ [w]).map V.ref)) := by
          rw [upd_same, List.map_append]
          rfl
        have hp5 : Paired (Pr (upd H4 F (.lst (ls.map V.ref ++ [V.ref w])))) ts ps := paired_imp (fun _ _ z => hu_ne (ne_of z hF4 (by intro z; cases z)) z) hp4
        have hw5 : upd H4 F (.lst (ls.map V.ref ++ [V.ref w])) w = some (.lst (ts.map V.ref)) := hu_ne nwF hw4
        have hL5 : Lines (upd H4 F (.lst (ls.map V.ref ++ [V.ref w]))) (ls ++ [w]) (Ls ++ [ps]) := paired_snoc ⟨ts, hw5, hp5⟩ (Lines.upd hF4 hL4 nFl)
        have hk5 : upd H4 F (.lst (ls.map V.ref ++ [V.ref w])) kA = some (.lst (ks.map V.int)) := hu_ne nkF hk4
        have hS5 : Sm (i + 1) 12 (Ls ++ [ps]) := hS1.snoc (by omega)
        have nFl5 : F ∉ ls ++ [w] := by simp [nFl, Ne.symm nwF]
        generalize upd H4 F (.lst (ls.map V.ref ++ [V.ref w])) = H5 at *
        intro G hG
        have kG : Kp [] H5 (upd H5 G (.lst [])) := Kp.new hG
        have hpl := paired_len hp5
        refine lcL_by (K := K) (ts.map V.ref) (fun j H6 => H6 G = some (.lst (((ps.take j).map (·.2)).map V.int)) ∧ Kp [] H5 H6) ⟨upd_same, kG⟩ (fun j H6 _ q => SqL.of (q.2.g0 hw5)) ?_ ?_
        · rintro j x H6 hx ⟨g1, g2⟩
          rw [List.getElem?_map] at hx
          obtain ⟨t, ht, rfl⟩ := Option.map_eq_some_iff.mp hx
          obtain ⟨pr, hp, hP⟩ := paired_get hp5 ht
          have hP6 := g2.g0 hP
          unfold Pr at hP6
          wtm_at "rd"
          refine ⟨rfl, ?_⟩
          wtm_at "rd"
          refine ⟨_, g1, szlt (by simp; omega), ?_, g2.mine hG⟩
          obtain ⟨h, e⟩ := List.getElem?_eq_some_iff.mp hp
          rw [upd_same, List.take_succ_eq_append_getElem h, e, List.map_append, List.map_append]
          rfl
        rintro H6 ⟨g1, g2⟩
        rw [List.length_map, hpl, List.take_length] at g1
        have hk6 := g2.g0 hk5
        refine rd_cat hk6 g1 (sz1000 (by simp; omega)) fun M nM => ?_
        have k6 : Kp [p] H (upd H6 M (.lst (ks.map V.int ++ (ps.map (·.2)).map V.int))) := (k5.trans g2.of0).nw nM
        have g3 : Kp [] H5 (upd H6 M (.lst (ks.map V.int ++ (ps.map (·.2)).map V.int))) := g2.nw nM
        wtm_at "rd"
        refine ⟨⟨M, _, _, _, _, _, _, rfl, ks ++ ps.map (·.2), ?_, ?_, ?_⟩, ⟨ls ++ [w], Ls ++ [ps], g3.g0 hF5, Lines.kp hL5 g3, hS5, nFl5⟩, B5.k0 g3, k6⟩
        · rw [upd_same, List.map_append]
        · rw [List.length_append, List.length_map]
          omega
        · exact Ne.symm (ne_of_none (g2.g0 hF5) nM)
  · rintro σ H1 ⟨⟨kA, v5, v6, v7, v8, v9, v10, rfl, ks, hks, hkl, nkF⟩, ⟨ls, Ls, hF1, hL1, hS1, nFl⟩, B1, k1⟩
    wtm_at "rd"
    exact kk F ls Ls H1 hF1 hL1 (hS1.mono (by decide) (by decide)) B1 k1
theorem c_l_tree (T : Cx K mg) (B : Tb P w K mg base) : CalX P w K mg base CX0 3 "_law_tree" (sp_l_tree K) [] := by
  obtain ⟨fd, F, ok⟩ := f_l_tree (P := P) (w := w) (base := base) T B
  exact ⟨_, fd, p_l_tree, [], ok, gl_l_tree T, F.kp, FunD.bindsN F fun _ _ _ _ _ _ us hl => match us, hl with | [_, _, _], _ => rfl, .nil⟩
end
section
variable {P : Program} {w : World} {K : PySem.W.Frag} {mg : Str → Option Value} {base : Heap}
def sp_l_calls (K : PySem.W.Frag) : Sp := fun vs H Q E => ∃ (p c l : Addr) (xs : List Int) (o st : Int), vs = [.ref p, .ref l, .int o, .int st] ∧ (Purse H p c) ∧ (H l = some (.lst (xs.map V.int))) ∧ (xs.length ≤ 12) ∧ (o ∈ xs) ∧ (∀ F ls Ls H1, H1 F = some (.lst (ls.map V.ref)) → Lines H1 ls Ls → Sm 16 12 Ls → Purse H1 p c → Kp [p] H H1 → Q (.ref F) H1)
theorem us_l_calls {K : PySem.W.Frag} {H : Hp} {Q : VK} {E : XK} {p c l : Addr} {xs : List Int} {o st : Int} (hB : Purse H p c) (hl : H l = some (.lst (xs.map V.int))) (hx : xs.length ≤ 12) (ho : o ∈ xs) (kk : ∀ F ls Ls H1, H1 F = some (.lst (ls.map V.ref)) → Lines H1 ls Ls → Sm 16 12 Ls → Purse H1 p c → Kp [p] H H1 → Q (.ref F) H1) : sp_l_calls K [.ref p, .ref l, .int o, .int st] H Q E := ⟨_, _, _, _, _, _, rfl, hB, hl, hx, ho, kk⟩
theorem f_l_calls (T : Cx K mg) (B : Tb P w K mg base) : ∃ fd, FunD K "_law_calls" "_law_calls" (defArgs s_l_calls) (defBody s_l_calls) (defScope s_l_calls) (d_l_calls.dvs K) (d_l_calls.kws K) (fAd K d_l_calls.at_) fd ∧ FnOk P w K mg base CX0 3 (fAd K d_l_calls.at_) fd p_l_calls (sp_l_calls K) := by
  have c_l_draw := c_l_draw (P := P) (w := w) (base := base) T B
  obtain ⟨fd, F⟩ := T.says.def_ 10 (d := d_l_calls) rfl
  refine ⟨fd, F, fnD F sc_l_calls (fun vs H Q E h => by
    obtain ⟨_, _, _, _, _, _, rfl, _⟩ := h
    rfl) fun cdv A outer s H vs Q E hr h => ?_⟩
  have hu := hu_of hr
  obtain ⟨p, c, l, xs, o, st, rfl, hB, hl, hx, ho, kk⟩ := h
  refine ⟨_, (pss_cons (ps_set (i := 4) sc_l_calls.nd rfl (by first | exact Or.inl rfl | exact Or.inr rfl) (pe_lst (pa_cons (pv 2) pa_nil))) (pss_cons (ps_set (i := 5) sc_l_calls.nd rfl (by first | exact Or.inl rfl | exact Or.inr rfl) (pe_lst pa_nil)) (pss_cons (ps_for PassesOwn.never rfl (pi_range1 (by rfl) (fr_range T) (pa_cons (pe_cal c_l_draw hr (by decide) (by rfl) pass0 (pa_cons (pv 0) (pa_cons pe_int pa_nil))) pa_nil)) (pg_name (i := 6) sc_l_calls.nd rfl (by first | exact Or.inl rfl | exact Or.inr rfl)) (pss_cons (ps_set (i := 7) sc_l_calls.nd rfl (by first | exact Or.inl rfl | exact Or.inr rfl) (pe_lst pa_nil)) (pss_cons (ps_for PassesOwn.never rfl (pi_list (pv 4)) (pg_name (i := 8) sc_l_calls.nd rfl (by first | exact Or.inl rfl | exact Or.inr rfl)) (pss_cons (ps_setLc (i := 9) (own := [("_law_seat", 11)]) (g := (gName 11)) rfl sc_l_calls.nd rfl rfl (sw_true rfl rfl rfl (by decide +kernel)) (pi_list (pv 1)) (blkOk_by (own := [("_law_seat", 11)]) (N := n_l_calls) (sc := defScope s_l_calls) (by decide +kernel)) (fun _ _ _ _ _ => (pg_name (i := 11) sc_l_calls.nd rfl (by first | exact Or.inl rfl | exact Or.inr rfl))) (fun _ _ _ _ _ => (pts_one (pt_cmpR op_ne (pv 11) (pv 8) (nomark _)))) (fun _ _ _ _ _ => (pv 11))) (pss_one (ps_if (PW.pt (pw_and (pt_cmpR (op_neD hr.units) (pv 9) (pe_lst pa_nil) (nomark _)) (pw_and1 (pt_cmpR op_gt (pe_cal c_l_draw hr (by decide) (by rfl) pass0 (pa_cons (pv 0) (pa_cons pe_int pa_nil))) pe_int (nomark _))))) (pss_one (ps_expr (pe_bm PySem.F.plainAttrs_list PySem.F.slot_list_append PySem.F.type_list_append mt_append (pv 7) (pa_cons (pe_tup (pa_cons (pv 8) (pa_cons (pe_ix ix_list (pv 9) (pe_cal c_l_draw hr (by decide) (by rfl) pass0 (pa_cons (pv 0) (pa_cons (pe_callB call_lenS (by rfl) (fr_len T) (by decide +kernel) (pa_cons (pv 9) pa_nil)) pa_nil))) (fun _ _ => rfl)) pa_nil))) pa_nil)))) pss_nil)))) (C8.pss_cut (ps_if (pt_cmpR op_eq (pe_cal c_l_draw hr (by decide) (by rfl) pass0 (pa_cons (pv 0) (pa_cons pe_int pa_nil))) pe_int (nomark _)) (pss_one (ps_set (i := 7) sc_l_calls.nd rfl (by first | exact Or.inl rfl | exact Or.inr rfl) (pe_revL (pv 7)))) pss_nil) (pss_cons (ps_expr (pe_bm PySem.F.plainAttrs_list PySem.F.slot_list_append PySem.F.type_list_append mt_append (pv 5) (pa_cons (pv 7) pa_nil))) (pss_one (ps_for PassesOwn.never rfl (pi_list (pv 7)) (pg_name (i := 10) sc_l_calls.nd rfl (by first | exact Or.inl rfl | exact Or.inr rfl)) (pss_one (ps_if (pt_cmpR op_notIn_seq (pe_ix ix_tup (pv 10) pe_int (fun _ _ => rfl)) (pv 4) rfl) (pss_one (ps_set (i := 4) sc_l_calls.nd rfl (by first | exact Or.inl rfl | exact Or.inr rfl) (pe_op op_cat (pv 4) (pe_lst (pa_cons (pe_ix ix_tup (pv 10) pe_int (fun _ _ => rfl)) pa_nil))))) pss_nil))))))))) (pss_cons (ps_if (pt_cmpR op_eq (pv 3) pe_int (nomark _)) (pss_one (ps_ret (pv 5))) pss_nil) (pss_cons (ps_for PassesOwn.never rfl (pi_list (pv 1)) (pg_name (i := 11) sc_l_calls.nd rfl (by first | exact Or.inl rfl | exact Or.inr rfl)) (pss_one (ps_if (pt_cmpR op_notIn_seq (pv 11) (pv 4) rfl) (pss_cons (ps_expr (pe_bm PySem.F.plainAttrs_list PySem.F.slot_list_append PySem.F.type_list_append mt_append (pv 5) (pa_cons (pe_lst (pa_cons (pe_tup (pa_cons (pe_ix ix_list (pv 4) (pe_cal c_l_draw hr (by decide) (by rfl) pass0 (pa_cons (pv 0) (pa_cons (pe_callB call_lenS (by rfl) (fr_len T) (by decide +kernel) (pa_cons (pv 4) pa_nil)) pa_nil))) (fun _ _ => rfl)) (pa_cons (pv 11) pa_nil))) pa_nil)) pa_nil))) (pss_one (ps_set (i := 4) sc_l_calls.nd rfl (by first | exact Or.inl rfl | exact Or.inr rfl) (pe_op op_cat (pv 4) (pe_lst (pa_cons (pv 11) pa_nil)))))) pss_nil))) (pss_one (ps_ret (pv 5)))))))), ?_⟩
  rw [show L2.start n_l_calls [.ref p, .ref l, .int o, .int st] = [some (.ref p), some (.ref l), some (.int o), some (.int st), none, none, none, none, none, none, none, none] from rfl]
  try dsimp only [cxOf, Cx.nox, Cx.wish, List.map]

  wtm_at "rd"
  refine ⟨sz1000 (by simp), fun kA nkA => ?_⟩
  wtm_at "rd"
  refine ⟨sz1000 (by simp), fun F nF => ?_⟩
  have nF0 : H F = none := Kp.back (Kp.new (ps := []) nkA) nF (by simp)
  have nkF : kA ≠ F := ne_fresh nF
  have k0 : Kp [] H (upd (upd H kA (.lst [.int o])) F (.lst [])) := (Kp.new nkA).nw nF
  have hk0 : upd (upd H kA (.lst [.int o])) F (.lst []) kA = some (.lst (([o] : List Int).map V.int)) := hu_ne nkF upd_same
  have hF0 : upd (upd H kA (.lst [.int o])) F (.lst []) F = some (.lst (([] : List Addr).map V.ref)) := upd_same
  generalize upd (upd H kA (.lst [.int o])) F (.lst []) = H0 at k0 hk0 hF0
  have B0 := hB.k0 k0
  wtm_at "rd"
  refine us_l_draw B0 (by decide) (by decide) fun m H0' m0 m1 B0' k0' => ?_
  have hk0' := k0'.g1 (B0.off hk0) hk0
  have hF0' := k0'.g1 (B0.off hF0) hF0
  have k00 : Kp [p] H H0' := k0.of0.trans k0'
  wtm_at "rd"
  refine forR_by (fun i σ H1 => (∃ kA v6 v7 v8 v9 v10 v11, σ = [some (.ref p), some (.ref l), some (.int o), some (.int st), some (.ref kA), some (.ref F), v6, v7, v8, v9, v10, v11] ∧ ∃ ks : List Int, H1 kA = some (.lst (ks.map V.int)) ∧ ks.Nodup ∧ (∀ a, a ∈ ks → a ∈ xs) ∧ 1 ≤ ks.length ∧ kA ≠ F) ∧ (∃ ls Ls, H1 F = some (.lst (ls.map V.ref)) ∧ Lines H1 ls Ls ∧ Sm i 12 Ls ∧ F ∉ ls) ∧ Purse H1 p c ∧ Kp [p] H H1) ?_ ?_ ?_
  · exact ⟨⟨kA, _, _, _, _, _, _, rfl, [o], hk0', by simp, by simpa using ho, by simp, nkF⟩, ⟨[], [], hF0', .nil, ⟨by simp, by simp⟩, by simp⟩, B0', k00⟩
  · rintro i σ H1 hi ⟨⟨kA, v6, v7, v8, v9, v10, v11, rfl, ks, hks, hkN, hkx, hk1, nkF⟩, ⟨ls, Ls, hF1, hL1, hS1, nFl⟩, B1, k1⟩
    have hi4 : i < 4 := by omega
    have hkl : ks.length ≤ 12 := by
      have := List.Nodup.length_le_of_subset hkN (fun a h => hkx a h : ks ⊆ xs)
      omega
    wtm_at "rd"
    refine ⟨sz1000 (by simp), fun w nw => ?_⟩
    have kw : Kp [] H1 (upd H1 w (.lst [])) := Kp.new nw
    have nwF : w ≠ F := Ne.symm (ne_of_none hF1 nw)
    have nwk : w ≠ kA := Ne.symm (ne_of_none hks nw)
    have nwl : w ∉ ls := Lines.notin nw hL1
    have nw0 : H w = none := B1.frN k1 nw
    have hk2 := kw.g0 hks
    have hF2 := kw.g0 hF1
    have hL2 := Lines.kp hL1 kw
    have B2 := B1.k0 kw
    have k2 : Kp [p] H (upd H1 w (.lst [])) := k1.nw nw
    have hw2 : upd H1 w (.lst []) w = some (.lst (([] : List Addr).map V.ref)) := upd_same
    generalize upd H1 w (.lst []) = H2 at *
    wtm_at "rd"
    refine forL_ints (K := K) ks (fun j σ H4 => (∃ v8 v9 v10 v11, σ = [some (.ref p), some (.ref l), some (.int o), some (.int st), some (.ref kA), some (.ref F), some (.int (0 + i)), some (.ref w), v8, v9, v10, v11]) ∧ H4 kA = some (.lst (ks.map V.int)) ∧ (H4 F = some (.lst (ls.map V.ref)) ∧ Lines H4 ls Ls) ∧ (∃ ts ps, H4 w = some (.lst (ts.map V.ref)) ∧ Paired (Pr H4) ts ps ∧ ps.length ≤ j ∧ In2 xs ps) ∧ Purse H4 p c ∧ Kp [p] H H4)
      ⟨⟨_, _, _, _, rfl⟩, hk2, ⟨hF2, hL2⟩, ⟨[], [], hw2, .nil, by simp, fun q h => by cases h⟩, B2, k2⟩ (fun j σ H4 _ q => SqL.of q.2.1) ?_ ?_
    · rintro j hj σ H4 ⟨⟨v8, v9, v10, v11, rfl⟩, hk4, ⟨hF4, hL4⟩, ⟨ts, ps, hw4, hp4, hl4, hin⟩, B4, k4⟩
      have hl5 := k4.g1 (hB.off hl) hl
      wtm_at "rd"
      intro D hD
      have hsz : ∀ (q : Nat), ((xs.take q).filter (fun x => !decide (x = ks[j]))).length ≤ 12 := fun q => by
        have h1 := List.length_filter_le (fun x => !decide (x = ks[j])) (xs.take q)
        rw [List.length_take] at h1
        omega
      refine lcL_ints xs (fun q H5 => H5 D = some (.lst (((xs.take q).filter (fun x => !decide (x = ks[j]))).map V.int)) ∧ Kp [] H4 H5) ⟨upd_same, Kp.new hD⟩ (fun q H5 _ z => SqL.of (z.2.g0 hl5)) ?_ ?_
      · rintro q hq H5 ⟨q1, q2⟩
        wtm_at "rd"
        refine ⟨rfl, ?_⟩
        wtm_at "rd"
        rw [List.take_succ_eq_append_getElem hq, List.filter_append]
        refine ite_n (fun h => ?_) (fun h => ?_)
        · wtm_at "rd"
          refine ⟨_, q1, szlt (by have := hsz q; rw [List.length_map]; omega), ?_, q2.mine hD⟩
          rw [upd_same, List.filter_cons_of_pos (by simpa using h), List.filter_nil, List.map_append]
          rfl
        · rw [List.filter_cons_of_neg (by simpa using h), List.filter_nil, List.append_nil]
          exact ⟨q1, q2⟩
      rintro H5 ⟨q1, q2⟩
      rw [List.take_length] at q1
      have hu12 := hsz xs.length
      rw [List.take_length] at hu12
      have hux : ∀ z, z ∈ xs.filter (fun x => !decide (x = ks[j])) → z ∈ xs := fun z h => (List.mem_filter.mp h).1
      generalize xs.filter (fun x => !decide (x = ks[j])) = us at q1 hu12 hux
      have hk5 := q2.g0 hk4
      have hF5 := q2.g0 hF4
      have hw5 := q2.g0 hw4
      have hL5 := Lines.kp hL4 q2
      have hp5 : Paired (Pr H5) ts ps := paired_imp (fun _ _ z => q2.g0 z) hp4
      have B5 := B4.k0 q2
      have k5 : Kp [p] H H5 := k4.trans q2.of0
      wtm_at "rd"
      refine ⟨sz1000 (by simp), fun e ne => ?_⟩
      have kn : Kp [] H5 (upd H5 e (.lst [])) := Kp.new ne
      have q16 := kn.g0 q1
      have hk6 := kn.g0 hk5
      have hF6 := kn.g0 hF5
      have hw6 := kn.g0 hw5
      have hL6 := Lines.kp hL5 kn
      have hp6 : Paired (Pr (upd H5 e (.lst []))) ts ps := paired_imp (fun _ _ z => kn.g0 z) hp5
      have B6 := B5.k0 kn
      have k6 : Kp [p] H (upd H5 e (.lst [])) := k5.nw ne
      have he6 : upd H5 e (.lst []) e = some (.lst []) := upd_same
      generalize upd H5 e (.lst []) = H6 at *
      refine rd_neLI (ns := us) (ms := []) (SqL.of q16) (SqL.of he6) ?_
      wtm_at "rd"
      refine ite_n (fun hz => ?_) (fun hz => ?_)
      · have hul : 1 ≤ us.length := by
          cases us with
          | nil => exact absurd rfl hz
          | cons a r => simp
        wtm_at "rd"
        refine us_l_draw B6 (by decide) (by decide) fun n H7 n0 n1 B7 k7 => ?_
        have q17 := k7.g1 (B6.off q16) q16
        have hk7 := k7.g1 (B6.off hk6) hk6
        have hF7 := k7.g1 (B6.off hF6) hF6
        have hw7 := k7.g1 (B6.off hw6) hw6
        have hL7 := Lines.pp hL6 B6 k7
        have hp7 : Paired (Pr H7) ts ps := paired_imp (fun _ _ z => k7.g1 (B6.offT z) z) hp6
        have k7' : Kp [p] H H7 := k6.trans k7
        wtm_at "rd"
        refine ite_d (fun hz2 => ?_) (fun hz2 => ?_)
        · wtm_at "rd"
          refine us_l_draw B7 (by omega) (by omega) fun n2 H8 n20 n21 B8 k8 => ?_
          have hn : n2.toNat < us.length := by omega
          have q18 := k8.g1 (B7.off q17) q17
          have hk8 := k8.g1 (B7.off hk7) hk7
          have hF8 := k8.g1 (B7.off hF7) hF7
          have hw8 := k8.g1 (B7.off hw7) hw7
          have hL8 := Lines.pp hL7 B7 k8
          have hp8 : Paired (Pr H8) ts ps := paired_imp (fun _ _ z => k8.g1 (B7.offT z) z) hp7
          have k8' : Kp [p] H H8 := k7'.trans k8
          have hat : atI (us.map V.int) n2 = some (.int us[n2.toNat]) := by
            rw [atI_ints n20 (by omega), List.getD_eq_getElem?_getD, List.getElem?_eq_getElem hn]
            rfl
          wtm_at "rd"
          refine ⟨sz1000 (by simp), fun t nt => ?_⟩
          have k9 : Kp [] H8 (upd H8 t (.tup [.int ks[j], .int us[n2.toNat]])) := Kp.new nt
          have hw9 := k9.g0 hw8
          have slen : (ts.map V.ref).length < sizeLine := szlt (by have := paired_len hp8; rw [List.length_map]; omega)
          wtm_at "rd"
          have hL9 := Lines.kp hL8 k9
          have B9 := B8.k0 k9
          have hp9 : Paired (Pr (upd H8 t (.tup [.int ks[j], .int us[n2.toNat]]))) ts ps := paired_imp (fun _ _ z => k9.g0 z) hp8
          have ht9 : upd H8 t (.tup [.int ks[j], .int us[n2.toNat]]) t = some (.tup [.int ks[j], .int us[n2.toNat]]) := upd_same
          have hF9 := k9.g0 hF8
          have hk9 := k9.g0 hk8
          have k9' : Kp [p] H (upd H8 t (.tup [.int ks[j], .int us[n2.toNat]])) := k8'.nw nt
          generalize upd H8 t (.tup [.int ks[j], .int us[n2.toNat]]) = H9 at *
          refine ⟨⟨_, _, _, _, rfl⟩, hu_ne (Ne.symm nwk) hk9, ⟨hu_ne (Ne.symm nwF) hF9, Lines.upd hw9 hL9 nwl⟩, ⟨ts ++ [t], ps ++ [(ks[j], us[n2.toNat])], ?_, ?_, ?_, ?_⟩, hB.wr nw0 B9, k9'.mine nw0⟩
          · rw [upd_same, List.map_append]
            rfl
          · exact paired_snoc (R := Pr _) (a := t) (b := (ks[j], us[n2.toNat])) (hu_ne (ne_of ht9 hw9 (by intro z; cases z)) ht9) (paired_imp (fun _ _ z => hu_ne (ne_of z hw9 (by intro z; cases z)) z) hp9)
          · rw [List.length_append, List.length_singleton]
            omega
          · intro q hq
            rcases List.mem_append.mp hq with hq | hq
            · exact hin q hq
            · rw [List.mem_singleton.mp hq]
              exact hux _ (List.getElem_mem hn)
        · wtm_at "rd"
          exact ⟨⟨_, _, _, _, rfl⟩, hk7, ⟨hF7, hL7⟩, ⟨ts, ps, hw7, hp7, by omega, hin⟩, B7, k7'⟩
      · wtm_at "rd"
        exact ⟨⟨_, _, _, _, rfl⟩, hk6, ⟨hF6, hL6⟩, ⟨ts, ps, hw6, hp6, by omega, hin⟩, B6, k6⟩
    · rintro σ H4 ⟨⟨v8, v9, v10, v11, rfl⟩, hk4, ⟨hF4, hL4⟩, ⟨ts, ps, hw4, hp4, hl4, hin⟩, B4, k4⟩
      wtm_at "rd"
      refine rd_cut (fun σ H5 => (∃ w, σ = [some (.ref p), some (.ref l), some (.int o), some (.int st), some (.ref kA), some (.ref F), some (.int (0 + i)), some (.ref w), v8, v9, v10, v11] ∧ w ≠ F ∧ ∃ ts ps, H5 w = some (.lst (ts.map V.ref)) ∧ Paired (Pr H5) ts ps ∧ ps.length ≤ 12 ∧ In2 xs ps) ∧ H5 kA = some (.lst (ks.map V.int)) ∧ (H5 F = some (.lst (ls.map V.ref)) ∧ Lines H5 ls Ls) ∧ Purse H5 p c ∧ Kp [p] H H5) ?_ ?_
      · wtm_at "rd"
        refine us_l_draw B4 (by decide) (by decide) fun n H5 n0 n1 B5 k5 => ?_
        have hk5 := k5.g1 (B4.off hk4) hk4
        have hF5 := k5.g1 (B4.off hF4) hF4
        have hw5 := k5.g1 (B4.off hw4) hw4
        have hL5 := Lines.pp hL4 B4 k5
        have hp5 : Paired (Pr H5) ts ps := paired_imp (fun _ _ z => k5.g1 (B4.offT z) z) hp4
        have k5' : Kp [p] H H5 := k4.trans k5
        wtm_at "rd"
        refine ite_d (fun hz => ?_) (fun hz => ?_)
        · wtm_at "rd"
          intro r nr
          wtm_at "rd"
          have kr : Kp [] H5 (upd H5 r (.lst (ts.map V.ref).reverse)) := Kp.new nr
          refine ⟨⟨r, rfl, Ne.symm (ne_of_none hF5 nr), ts.reverse, ps.reverse, ?_, paired_imp (fun _ _ z => kr.g0 z) (paired_rev hp5), by rw [List.length_reverse]; omega, fun q hq => hin q (List.mem_reverse.mp hq)⟩, kr.g0 hk5, ⟨kr.g0 hF5, Lines.kp hL5 kr⟩, B5.k0 kr, k5'.nw nr⟩
          rw [upd_same, List.map_reverse]
        · wtm_at "rd"
          exact ⟨⟨w, rfl, nwF, ts, ps, hw5, hp5, by omega, hin⟩, hk5, ⟨hF5, hL5⟩, B5, k5'⟩
      · rintro σ H5 ⟨⟨w, rfl, nwF, ts, ps, hw5, hp5, hl5, hin⟩, hk5, ⟨hF5, hL5⟩, B5, k5⟩
        have slen : (ls.map V.ref).length < sizeLine := szlt (by have := paired_len hL5; have := hS1.1; rw [List.length_map]; omega)
        wtm_at "rd"
        have k6 : Kp [p] H (upd H5 F (.lst (ls.map V.ref ++ [V.ref w]))) := k5.mine nF0
        have B6 : Purse (upd H5 F (.lst (ls.map V.ref ++ [V.ref w]))) p c := hB.wr nF0 B5
        have hF6 : upd H5 F (.lst (ls.map V.ref ++ [V.ref w])) F = some (.lst ((ls ++ [w]).map V.ref)) := by
          rw [upd_same, List.map_append]
          rfl
        have hp6 : Paired (Pr (upd H5 F (.lst (ls.map V.ref ++ [V.ref w])))) ts ps := paired_imp (fun _ _ z => hu_ne (ne_of z hF5 (by intro z; cases z)) z) hp5
        have hw6 : upd H5 F (.lst (ls.map V.ref ++ [V.ref w])) w = some (.lst (ts.map V.ref)) := hu_ne nwF hw5
        have hL6 : Lines (upd H5 F (.lst (ls.map V.ref ++ [V.ref w]))) (ls ++ [w]) (Ls ++ [ps]) := paired_snoc ⟨ts, hw6, hp6⟩ (Lines.upd hF5 hL5 nFl)
        have hk6 : upd H5 F (.lst (ls.map V.ref ++ [V.ref w])) kA = some (.lst (ks.map V.int)) := hu_ne nkF hk5
        have hS6 : Sm (i + 1) 12 (Ls ++ [ps]) := hS1.snoc hl5
        have nFl6 : F ∉ ls ++ [w] := by simp [nFl, Ne.symm nwF]
        generalize upd H5 F (.lst (ls.map V.ref ++ [V.ref w])) = H6 at *
        refine forL_by (K := K) (ts.map V.ref) (fun j σ H7 => (∃ kA v10, σ = [some (.ref p), some (.ref l), some (.int o), some (.int st), some (.ref kA), some (.ref F), some (.int (0 + i)), some (.ref w), v8, v9, v10, v11] ∧ ∃ ks : List Int, H7 kA = some (.lst (ks.map V.int)) ∧ ks.Nodup ∧ (∀ a, a ∈ ks → a ∈ xs) ∧ 1 ≤ ks.length ∧ kA ≠ F) ∧ Kp [] H6 H7)
          ⟨⟨kA, _, rfl, ks, hk6, hkN, hkx, hk1, nkF⟩, Kp.refl⟩ (fun j σ H7 _ q => SqL.of (q.2.g0 hw6)) ?_ ?_
        · rintro j x σ H7 hx ⟨⟨kA, v10, rfl, ks, hk7, hkN, hkx, hk1, nkF⟩, k67⟩
          rw [List.getElem?_map] at hx
          obtain ⟨t, ht, rfl⟩ := Option.map_eq_some_iff.mp hx
          obtain ⟨pr, hp, hP⟩ := paired_get hp6 ht
          have hP7 := k67.g0 hP
          have hin2 := hin pr (List.mem_of_getElem? hp)
          have hkl : ks.length ≤ 12 := by
            have := List.Nodup.length_le_of_subset hkN (fun a h => hkx a h : ks ⊆ xs)
            omega
          unfold Pr at hP7
          wtm_at "rd"
          refine ite_n (fun hz => ?_) (fun hz => ?_)
          · wtm_at "rd"
            refine ⟨sz1000 (by simp), fun e ne => ?_⟩
            have ke : Kp [] H7 (upd H7 e (.lst [.int pr.2])) := Kp.new ne
            refine rd_cat (ke.g0 hk7) upd_same (sz1000 (by simp; omega)) fun M nM => ?_
            wtm_at "rd"
            refine ⟨⟨M, _, rfl, ks ++ [pr.2], ?_, ?_, ?_, by simp, ?_⟩, (k67.nw ne).nw nM⟩
            · rw [upd_same, List.map_append]
              rfl
            · rw [List.nodup_append]
              exact ⟨hkN, by simp, fun a ha b hb e => by
                rw [List.mem_singleton] at hb
                subst hb e
                exact hz ha⟩
            · intro a ha
              rcases List.mem_append.mp ha with ha | ha
              · exact hkx a ha
              · rw [List.mem_singleton.mp ha]
                exact hin2
            · exact Ne.symm (ne_of_none (ke.g0 (k67.g0 hF6)) nM)
          · wtm_at "rd"
            exact ⟨⟨kA, _, rfl, ks, hk7, hkN, hkx, hk1, nkF⟩, k67⟩
        · rintro σ H7 ⟨⟨kA, v10, rfl, ks, hk7, hkN, hkx, hk1, nkF⟩, k67⟩
          exact ⟨⟨kA, _, _, _, _, _, _, rfl, ks, hk7, hkN, hkx, hk1, nkF⟩, ⟨ls ++ [w], Ls ++ [ps], k67.g0 hF6, Lines.kp hL6 k67, hS6, nFl6⟩, B6.k0 k67, k6.trans k67.of0⟩
  · rintro σ H1 ⟨⟨kA, v6, v7, v8, v9, v10, v11, rfl, ks, hks, hkN, hkx, hk1, nkF⟩, ⟨ls, Ls, hF1, hL1, hS1, nFl⟩, B1, k1⟩
    have hS4 : Sm 4 12 Ls := hS1.mono (by omega) (by decide)
    wtm_at "rd"
    refine ite_d (fun hz => ?_) (fun hz => ?_)
    · wtm_at "rd"
      exact kk F ls Ls H1 hF1 hL1 (hS4.mono (by decide) (by decide)) B1 k1
    have hl1 := k1.g1 (hB.off hl) hl
    wtm_at "rd"
    refine forL_ints (K := K) xs (fun j σ H2 => (∃ kA v11, σ = [some (.ref p), some (.ref l), some (.int o), some (.int st), some (.ref kA), some (.ref F), v6, v7, v8, v9, v10, v11] ∧ ∃ ks : List Int, H2 kA = some (.lst (ks.map V.int)) ∧ ks.Nodup ∧ (∀ a, a ∈ ks → a ∈ xs) ∧ 1 ≤ ks.length ∧ kA ≠ F) ∧ (∃ ls Ls, H2 F = some (.lst (ls.map V.ref)) ∧ Lines H2 ls Ls ∧ Sm (4 + j) 12 Ls ∧ F ∉ ls) ∧ Purse H2 p c ∧ Kp [p] H H2)
      ⟨⟨kA, _, rfl, ks, hks, hkN, hkx, hk1, nkF⟩, ⟨ls, Ls, hF1, hL1, hS4, nFl⟩, B1, k1⟩ (fun j σ H2 _ q => SqL.of (q.2.2.2.g1 (hB.off hl) hl)) ?_ ?_
    · rintro j hj σ H2 ⟨⟨kA, v11, rfl, ks, hks, hkN, hkx, hk1, nkF⟩, ⟨ls, Ls, hF2, hL2, hS2, nFl⟩, B2, k2⟩
      have hkl : ks.length ≤ 12 := by
        have := List.Nodup.length_le_of_subset hkN (fun a h => hkx a h : ks ⊆ xs)
        omega
      wtm_at "rd"
      refine ite_n (fun hz => ?_) (fun hz => ?_)
      · wtm_at "rd"
        refine us_l_draw B2 (by omega) (by omega) fun n H3 n0 n1 B3 k3 => ?_
        have hk3 := k3.g1 (B2.off hks) hks
        have hF3 := k3.g1 (B2.off hF2) hF2
        have hL3 := Lines.pp hL2 B2 k3
        have k3' : Kp [p] H H3 := k2.trans k3
        have hn : n.toNat < ks.length := by omega
        have hat : atI (ks.map V.int) n = some (.int ks[n.toNat]) := by
          rw [atI_ints n0 (by omega), List.getD_eq_getElem?_getD, List.getElem?_eq_getElem hn]
          rfl
        wtm_at "rd"
        refine ⟨sz1000 (by simp), fun t nt => ?_⟩
        wtm_at "rd"
        refine ⟨sz1000 (by simp), fun w nw => ?_⟩
        have kw : Kp [] H3 (upd (upd H3 t (.tup [.int ks[n.toNat], .int xs[j]])) w (.lst [.ref t])) := (Kp.new nt).nw nw
        have ntw : t ≠ w := ne_fresh nw
        have nw3 : H3 w = none := (Kp.new (ps := []) nt).back nw (by simp)
        have hF4 := kw.g0 hF3
        have hk4 := kw.g0 hk3
        have hL4 := Lines.kp hL3 kw
        have B4 := B3.k0 kw
        have hw4 : Line (upd (upd H3 t (.tup [.int ks[n.toNat], .int xs[j]])) w (.lst [.ref t])) w [(ks[n.toNat], xs[j])] := ⟨[t], upd_same, .cons (hu_ne ntw upd_same) .nil⟩
        have k4 : Kp [p] H (upd (upd H3 t (.tup [.int ks[n.toNat], .int xs[j]])) w (.lst [.ref t])) := k3'.trans kw.of0
        have nwF : w ≠ F := Ne.symm (ne_of_none hF3 nw3)
        generalize upd (upd H3 t (.tup [.int ks[n.toNat], .int xs[j]])) w (.lst [.ref t]) = H4 at *
        have slen : (ls.map V.ref).length < sizeLine := szlt (by have := paired_len hL4; have := hS2.1; rw [List.length_map]; omega)
        wtm_at "rd"
        have hk5 : upd H4 F (.lst (ls.map V.ref ++ [V.ref w])) kA = some (.lst (ks.map V.int)) := hu_ne nkF hk4
        refine ⟨sz1000 (by simp), fun e ne => ?_⟩
        have ke : Kp [] (upd H4 F (.lst (ls.map V.ref ++ [V.ref w]))) (upd (upd H4 F (.lst (ls.map V.ref ++ [V.ref w]))) e (.lst [.int xs[j]])) := Kp.new ne
        refine rd_cat (ke.g0 hk5) upd_same (sz1000 (by simp; omega)) fun M nM => ?_
        wtm_at "rd"
        have hF5 : upd H4 F (.lst (ls.map V.ref ++ [V.ref w])) F = some (.lst ((ls ++ [w]).map V.ref)) := by
          rw [upd_same, List.map_append]
          rfl
        have hL5 : Lines (upd H4 F (.lst (ls.map V.ref ++ [V.ref w]))) (ls ++ [w]) (Ls ++ [[(ks[n.toNat], xs[j])]]) := paired_snoc (Line.upd hw4 hF4 nwF) (Lines.upd hF4 hL4 nFl)
        have kM := ke.nw (o := .lst (ks.map V.int ++ [.int xs[j]])) nM
        refine ⟨⟨M, _, rfl, ks ++ [xs[j]], ?_, ?_, ?_, by simp, ?_⟩, ⟨ls ++ [w], Ls ++ [[(ks[n.toNat], xs[j])]], kM.g0 hF5, Lines.kp hL5 kM, ?_, by simp [nFl, Ne.symm nwF]⟩, (hB.wr nF0 B4).k0 kM, (k4.mine nF0).trans kM.of0⟩
        · rw [upd_same, List.map_append]
          rfl
        · rw [List.nodup_append]
          exact ⟨hkN, by simp, fun a ha b hb e => by
            rw [List.mem_singleton] at hb
            subst hb e
            exact hz ha⟩
        · intro a ha
          rcases List.mem_append.mp ha with ha | ha
          · exact hkx a ha
          · rw [List.mem_singleton.mp ha]
            exact List.getElem_mem hj
        · exact Ne.symm (ne_of_none (ke.g0 hF5) nM)
        · exact hS2.snoc (by simp)
      · wtm_at "rd"
        exact ⟨⟨kA, _, rfl, ks, hks, hkN, hkx, hk1, nkF⟩, ⟨ls, Ls, hF2, hL2, hS2.mono (by omega) (by decide), nFl⟩, B2, k2⟩
    · rintro σ H2 ⟨⟨kA, v11, rfl, ks, hks, hkN, hkx, hk1, nkF⟩, ⟨ls, Ls, hF2, hL2, hS2, nFl⟩, B2, k2⟩
      wtm_at "rd"
      exact kk F ls Ls H2 hF2 hL2 (hS2.mono (by omega) (by decide)) B2 k2
theorem c_l_calls (T : Cx K mg) (B : Tb P w K mg base) : CalX P w K mg base CX0 3 "_law_calls" (sp_l_calls K) [] := by
  obtain ⟨fd, F, ok⟩ := f_l_calls (P := P) (w := w) (base := base) T B
  exact ⟨_, fd, p_l_calls, [], ok, gl_l_calls T, F.kp, FunD.bindsN F fun _ _ _ _ _ _ us hl => match us, hl with | [_, _, _, _], _ => rfl, .nil⟩
end
section
variable {P : Program} {w : World} {K : PySem.W.Frag} {mg : Str → Option Value} {base : Heap}
def sp_l_bent (K : PySem.W.Frag) : Sp := fun vs H Q E => ∃ (p c l F : Addr) (xs : List Int) (ls : List Addr) (Ls : Pln) (a b : Nat), vs = [.ref p, .ref l, .ref F] ∧ (Purse H p c) ∧ (H l = some (.lst (xs.map V.int))) ∧ (1 ≤ xs.length ∧ xs.length ≤ 12) ∧ (H F = some (.lst (ls.map V.ref))) ∧ (Lines H ls Ls) ∧ (Sm a b Ls) ∧ (a ≤ 50 ∧ b ≤ 50) ∧ (∀ G ms Ms H1, H1 G = some (.lst (ms.map V.ref)) → Lines H1 ms Ms → Sm (a + 3) (b + 3) Ms → Purse H1 p c → Kp [p] H H1 → Q (.ref G) H1)
theorem us_l_bent {K : PySem.W.Frag} {H : Hp} {Q : VK} {E : XK} {p c l F : Addr} {xs : List Int} {ls : List Addr} {Ls : Pln} {a b : Nat} (hB : Purse H p c) (hl : H l = some (.lst (xs.map V.int))) (hx : 1 ≤ xs.length ∧ xs.length ≤ 12) (hF : H F = some (.lst (ls.map V.ref))) (hL : Lines H ls Ls) (hS : Sm a b Ls) (ha : a ≤ 50 ∧ b ≤ 50) (kk : ∀ G ms Ms H1, H1 G = some (.lst (ms.map V.ref)) → Lines H1 ms Ms → Sm (a + 3) (b + 3) Ms → Purse H1 p c → Kp [p] H H1 → Q (.ref G) H1) : sp_l_bent K [.ref p, .ref l, .ref F] H Q E := ⟨_, _, _, _, _, _, _, _, _, rfl, hB, hl, hx, hF, hL, hS, ha, kk⟩
theorem f_l_bent (T : Cx K mg) (B : Tb P w K mg base) : ∃ fd, FunD K "_law_bent" "_law_bent" (defArgs s_l_bent) (defBody s_l_bent) (defScope s_l_bent) (d_l_bent.dvs K) (d_l_bent.kws K) (fAd K d_l_bent.at_) fd ∧ FnOk P w K mg base CX0 3 (fAd K d_l_bent.at_) fd p_l_bent (sp_l_bent K) := by
  have c_l_draw := c_l_draw (P := P) (w := w) (base := base) T B
  obtain ⟨fd, F⟩ := T.says.def_ 11 (d := d_l_bent) rfl
  refine ⟨fd, F, fnD F sc_l_bent (fun vs H Q E h => by
    obtain ⟨_, _, _, _, _, _, _, _, _, rfl, _⟩ := h
    rfl) fun cdv A outer s H vs Q E hr h => ?_⟩
  have hu := hu_of hr
  obtain ⟨p, c, l, F, xs, ls, Ls, a, b, rfl, hB, hl, hx, hF, hL, hS, ha, kk⟩ := h
  refine ⟨_, (pss_cons (ps_setLc (i := 3) (own := [("_law_line", 6)]) (g := (gName 6)) (tt := tYes) rfl sc_l_bent.nd rfl rfl (sw_true rfl rfl rfl (by decide +kernel)) (pi_list (pv 2)) (blkOk_by (own := [("_law_line", 6)]) (N := n_l_bent) (sc := defScope s_l_bent) (by decide +kernel)) (fun _ _ _ _ _ => (pg_name (i := 6) sc_l_bent.nd rfl (by first | exact Or.inl rfl | exact Or.inr rfl))) (fun _ _ _ _ _ => pts_nil) (fun _ _ _ _ _ => (pe_callTy (call_listOfK (K := K) rfl) (by rfl) (fr_list T) (by decide +kernel) (pa_cons (pv 6) pa_nil)))) (pss_cons (ps_set (i := 4) sc_l_bent.nd rfl (by first | exact Or.inl rfl | exact Or.inr rfl) (pe_cal c_l_draw hr (by decide) (by rfl) pass0 (pa_cons (pv 0) (pa_cons pe_int pa_nil)))) (C8.pss_cut (ps_if (pt_cmpR (op_eqD hr.units) (pv 3) (pe_lst pa_nil) (nomark _)) (pss_one (ps_expr (pe_bm PySem.F.plainAttrs_list PySem.F.slot_list_append PySem.F.type_list_append mt_append (pv 3) (pa_cons (pe_lst pa_nil) pa_nil)))) pss_nil) (pss_cons (ps_set (i := 5) sc_l_bent.nd rfl (by first | exact Or.inl rfl | exact Or.inr rfl) (pe_cal c_l_draw hr (by decide) (by rfl) pass0 (pa_cons (pv 0) (pa_cons (pe_callB call_lenS (by rfl) (fr_len T) (by decide +kernel) (pa_cons (pv 3) pa_nil)) pa_nil)))) (pss_cons (ps_set (i := 6) sc_l_bent.nd rfl (by first | exact Or.inl rfl | exact Or.inr rfl) (pe_ix ix_list (pv 3) (pv 5) (fun _ _ => rfl))) (pss_cons (ps_set (i := 7) sc_l_bent.nd rfl (by first | exact Or.inl rfl | exact Or.inr rfl) (pe_cal c_l_draw hr (by decide) (by rfl) pass0 (pa_cons (pv 0) (pa_cons (pe_op op_add (pe_callB call_lenS (by rfl) (fr_len T) (by decide +kernel) (pa_cons (pv 6) pa_nil)) pe_int) pa_nil)))) (pss_cons (ps_set (i := 8) sc_l_bent.nd rfl (by first | exact Or.inl rfl | exact Or.inr rfl) (pe_ix ix_list (pv 1) (pe_cal c_l_draw hr (by decide) (by rfl) pass0 (pa_cons (pv 0) (pa_cons (pe_callB call_lenS (by rfl) (fr_len T) (by decide +kernel) (pa_cons (pv 1) pa_nil)) pa_nil))) (fun _ _ => rfl))) (pss_cons (ps_set (i := 9) sc_l_bent.nd rfl (by first | exact Or.inl rfl | exact Or.inr rfl) (pe_ix ix_list (pv 1) (pe_cal c_l_draw hr (by decide) (by rfl) pass0 (pa_cons (pv 0) (pa_cons (pe_callB call_lenS (by rfl) (fr_len T) (by decide +kernel) (pa_cons (pv 1) pa_nil)) pa_nil))) (fun _ _ => rfl))) (pss_cons (ps_setLc (i := 10) (own := [("_law_seat", 13)]) (g := (gName 13)) rfl sc_l_bent.nd rfl rfl (sw_true rfl rfl rfl (by decide +kernel)) (pi_range1 (by rfl) (fr_range T) (pa_cons pe_int pa_nil)) (blkOk_by (own := [("_law_seat", 13)]) (N := n_l_bent) (sc := defScope s_l_bent) (by decide +kernel)) (fun _ _ _ _ _ => (pg_name (i := 13) sc_l_bent.nd rfl (by first | exact Or.inl rfl | exact Or.inr rfl))) (fun _ _ _ _ _ => (pts_one (pt_cmpR (op_notIn_seqK (K := K) rfl) (pv 13) (pv 1) rfl))) (fun _ _ _ _ _ => (pv 13))) (pss_cons (ps_set (i := 11) sc_l_bent.nd rfl (by first | exact Or.inl rfl | exact Or.inr rfl) (pe_ix ix_list (pv 10) (pe_cal c_l_draw hr (by decide) (by rfl) pass0 (pa_cons (pv 0) (pa_cons (pe_callB call_lenS (by rfl) (fr_len T) (by decide +kernel) (pa_cons (pv 10) pa_nil)) pa_nil))) (fun _ _ => rfl))) (C8.pss_cut (ps_if (pt_cmpR op_lt (pv 4) pe_int (nomark _)) (pss_one (ps_expr (pe_bm PySem.F.plainAttrs_list PySem.F.slot_list_insert PySem.F.type_list_insert mt_insert (pv 6) (pa_cons (pv 7) (pa_cons (pe_ix ix_list (pe_lst (pa_cons (pe_tup (pa_cons (pv 8) (pa_cons (pv 9) pa_nil))) (pa_cons (pe_tup (pa_cons (pv 8) (pa_cons (pv 8) pa_nil))) (pa_cons (pe_tup (pa_cons (pv 11) (pa_cons (pv 8) pa_nil))) (pa_cons (pe_tup (pa_cons (pv 8) (pa_cons (pv 11) pa_nil))) pa_nil))))) (pv 4) (fun _ _ => rfl)) pa_nil))))) pss_nil) (C8.pss_cut (ps_if (pt_cmpR op_eq (pv 4) pe_int (nomark _)) (pss_one (ps_expr (pe_bm PySem.F.plainAttrs_list PySem.F.slot_list_insert PySem.F.type_list_insert mt_insert (pv 3) (pa_cons (pv 5) (pa_cons (pe_lst pa_nil) pa_nil))))) pss_nil) (C8.pss_cut (ps_if (pt_cmpR op_eq (pv 4) pe_int (nomark _)) (pss_one (ps_expr (pe_bm PySem.F.plainAttrs_list PySem.F.slot_list_pop PySem.F.type_list_pop mt_popAt (pv 3) (pa_cons (pv 5) pa_nil)))) pss_nil) (pss_cons (ps_if (PW.pt (pw_or (pt_cmpR (op_eqD hr.units) (pv 6) (pe_lst pa_nil) (nomark _)) (pw_or (pt_cmpR op_lt (pv 4) pe_int (nomark _)) (pw_or1 (pt_cmpR op_gt (pv 4) pe_int (nomark _)))))) (pss_one (ps_ret (pv 3))) pss_nil) (pss_cons (ps_set (i := 12) sc_l_bent.nd rfl (by first | exact Or.inl rfl | exact Or.inr rfl) (pe_ix ix_list (pv 6) (pe_cal c_l_draw hr (by decide) (by rfl) pass0 (pa_cons (pv 0) (pa_cons (pe_callB call_lenS (by rfl) (fr_len T) (by decide +kernel) (pa_cons (pv 6) pa_nil)) pa_nil))) (fun _ _ => rfl))) (C8.pss_cut (ps_if (pt_cmpR op_eq (pv 4) pe_int (nomark _)) (pss_one (ps_expr (pe_bm PySem.F.plainAttrs_list PySem.F.slot_list_insert PySem.F.type_list_insert mt_insert (pv 6) (pa_cons (pv 7) (pa_cons (pe_tup (pa_cons (pe_ix ix_tup (pv 12) pe_int (fun _ _ => rfl)) (pa_cons (pv 9) pa_nil))) pa_nil))))) pss_nil) (C8.pss_cut (ps_if (pt_cmpR op_eq (pv 4) pe_int (nomark _)) (pss_one (ps_expr (pe_bm PySem.F.plainAttrs_list PySem.F.slot_list_insert PySem.F.type_list_insert mt_insert (pv 6) (pa_cons (pv 7) (pa_cons (pe_tup (pa_cons (pe_ix ix_tup (pv 12) pe_int (fun _ _ => rfl)) (pa_cons (pv 9) pa_nil))) pa_nil))))) pss_nil) (pss_cons (ps_if (pt_cmpR op_eq (pv 4) pe_int (nomark _)) (pss_one (ps_expr (pe_bm PySem.F.plainAttrs_list PySem.F.slot_list_remove PySem.F.type_list_remove (mt_remD hr.units65) (pv 6) (pa_cons (pv 12) pa_nil)))) pss_nil) (pss_one (ps_ret (pv 3))))))))))))))))))))), ?_⟩
  rw [show L2.start n_l_bent [.ref p, .ref l, .ref F] = [some (.ref p), some (.ref l), some (.ref F), none, none, none, none, none, none, none, none, none, none, none] from rfl]
  try dsimp only [cxOf, Cx.nox, Cx.wish, List.map]

  have hls : ls.length = Ls.length := paired_len hL
  obtain ⟨hx1, hx2⟩ := hx
  wtm_at "rd"
  intro D hD
  refine lcL_by (K := K) (ls.map V.ref) (fun j H2 => ∃ ms : List Addr, H2 D = some (.lst (ms.map V.ref)) ∧ Lines H2 ms (Ls.take j) ∧ ms.Nodup ∧ (∀ m, m ∈ ms → H m = none) ∧ D ∉ ms ∧ Kp [] H H2) ⟨[], upd_same, Paired.nil, by simp, by simp, by simp, Kp.new hD⟩ (fun j H2 _ q => by
    obtain ⟨ms, -, -, -, -, -, k⟩ := q
    exact SqL.of (k.g0 hF)) ?_ ?_
  · rintro j x H2 hx ⟨ms, h1, h2, h3, h4, h5, k2⟩
    rw [List.getElem?_map] at hx
    obtain ⟨w, hw, rfl⟩ := Option.map_eq_some_iff.mp hx
    obtain ⟨L, hLj, ts, t1, t2⟩ := paired_get hL hw
    have hj := (List.getElem?_eq_some_iff.mp hLj).1
    have t1' := k2.g0 t1
    have hml : ms.length = j := by
      rw [paired_len h2, List.length_take]
      omega
    wtm_at "rd"
    refine ⟨rfl, ?_⟩
    wtm_at "rd"
    intro m nm
    have km : Kp [] H2 (upd H2 m (.lst (ts.map V.ref))) := Kp.new nm
    have hD3 := km.g0 h1
    have nDm : D ≠ m := ne_of_none h1 nm
    have nmm : m ∉ ms := Lines.notin nm h2
    have hL3 := Lines.kp h2 km
    have hm3 : Line (upd H2 m (.lst (ts.map V.ref))) m L := ⟨ts, upd_same, paired_imp (fun _ _ z => km.g0 (k2.g0 z)) t2⟩
    have k3 : Kp [] H (upd H2 m (.lst (ts.map V.ref))) := k2.nw nm
    have nm0 : H m = none := k2.back nm (by simp)
    generalize upd H2 m (.lst (ts.map V.ref)) = H3 at *
    refine ⟨_, hD3, szlt (by have := hS.1; rw [List.length_map]; omega), ms ++ [m], by rw [upd_same, List.map_append]; rfl, ?_, ?_, ?_, by simp [h5, nDm], k3.mine hD⟩
    · obtain ⟨h, e⟩ := List.getElem?_eq_some_iff.mp hLj
      rw [List.take_succ_eq_append_getElem h, e]
      exact paired_snoc (R := Line _) (Line.upd hm3 hD3 (Ne.symm nDm)) (Lines.upd hD3 hL3 h5)
    · rw [List.nodup_append]
      exact ⟨h3, by simp, fun y hy z hz e => by
        rw [List.mem_singleton] at hz
        subst hz e
        exact nmm hy⟩
    · intro y hy
      rcases List.mem_append.mp hy with hy | hy
      · exact h4 y hy
      · rw [List.mem_singleton.mp hy]
        exact nm0
  rintro H2 ⟨ms, h1, h2, h3, h4, h5, k2⟩
  rw [List.length_map, hls, List.take_length] at h2
  have B2 := hB.k0 k2
  wtm_at "rd"
  refine us_l_draw B2 (by decide) (by decide) fun way H3 w0 w1 B3 k3 => ?_
  have h1 := k3.g1 (B2.off h1) h1
  have h2 := Lines.pp h2 B2 k3
  have k3' : Kp [p] H H3 := k2.of0.trans k3
  wtm_at "rd"
  refine rd_cut (fun σ H4 => σ = [some (.ref p), some (.ref l), some (.ref F), some (.ref D), some (.int way), none, none, none, none, none, none, none, none, none] ∧ ∃ (ms : List Addr) (Ms : Pln), H4 D = some (.lst (ms.map V.ref)) ∧ Lines H4 ms Ms ∧ Sm (a + 1) b Ms ∧ 1 ≤ ms.length ∧ ms.Nodup ∧ (∀ m, m ∈ ms → H m = none) ∧ D ∉ ms ∧ Purse H4 p c ∧ Kp [p] H H4) ?_ ?_
  · wtm_at "rd"
    refine ⟨sz1000 (by simp), fun e ne => ?_⟩
    have kn : Kp [] H3 (upd H3 e (.lst [])) := Kp.new ne
    refine rd_eqLines (kn.g0 h1) (Lines.kp h2 kn) upd_same ?_
    wtm_at "rd"
    refine ite_d (fun hz => ?_) (fun hz => ?_)
    · subst hz
      have hm0 : ms = [] := by
        have := paired_len h2
        exact List.length_eq_zero_iff.mp this
      subst hm0
      have h1' := kn.g0 h1
      wtm_at "rd"
      refine ⟨sz1000 (by simp), fun q nq => ?_⟩
      have h1'' : upd (upd H3 e (.lst [])) q (.lst []) D = some (.lst (([] : List Addr).map V.ref)) := hu_ne (ne_of_none h1' nq) h1'
      have nDq : D ≠ q := ne_of_none h1' nq
      have kq : Kp [] H3 (upd (upd H3 e (.lst [])) q (.lst [])) := kn.nw nq
      wtm_at "rd"
      refine ⟨rfl, [q], [[]], by rw [upd_same]; rfl, .cons ⟨[], hu_ne (Ne.symm nDq) upd_same, .nil⟩ .nil, ⟨by simp, by simp⟩, by simp, by simp, fun m hm => ?_, by simp [nDq], hB.wr hD (B3.k0 kq), (k3'.trans kq.of0).mine hD⟩
      rw [List.mem_singleton.mp hm]
      exact (B3.k0 kn).frN (k3'.trans kn.of0) nq
    · wtm_at "rd"
      refine ⟨rfl, ms, Ls, kn.g0 h1, Lines.kp h2 kn, hS.mono (by omega) (Nat.le_refl _), ?_, h3, h4, h5, B3.k0 kn, k3'.nw ne⟩
      rw [paired_len h2]
      cases Ls with
      | nil => exact absurd rfl hz
      | cons x r => simp
  rintro σ H4 ⟨rfl, ms, Ms, h1, h2, hSm, hm1, h3, h4, h5, B4, k4⟩
  have hml := paired_len h2
  have hmle : ms.length ≤ 51 := by
    have := hSm.1
    omega
  wtm_at "rd"
  refine us_l_draw B4 (by rw [List.length_map]; omega) (by rw [List.length_map]; omega) fun k H5 k0 k1 B5 k5 => ?_
  rw [List.length_map] at k1
  have hk : k.toNat < ms.length := by omega
  have h1 := k5.g1 (B4.off h1) h1
  have h2 := Lines.pp h2 B4 k5
  have k5' : Kp [p] H H5 := k4.trans k5
  have hat : atI (ms.map V.ref) k = some (.ref ms[k.toNat]) := by
    obtain ⟨q, rfl⟩ := Int.eq_ofNat_of_zero_le k0
    exact atI_nat (by rw [List.getElem?_map, List.getElem?_eq_getElem (by omega)]; rfl)
  have hwm : ms[k.toNat]? = some ms[k.toNat] := List.getElem?_eq_getElem hk
  have hwin : ms[k.toNat] ∈ ms := List.getElem_mem hk
  generalize ms[k.toNat] = w at hat hwm hwin
  obtain ⟨ps, hps, ts, hw1, hw2⟩ := paired_get h2 hwm
  have hLn : Ln H5 w ts ps := ⟨hw1, hw2⟩
  have hpsl : ps.length ≤ b := hSm.2 ps (List.mem_of_getElem? hps)
  have nDw : D ≠ w := fun z => h5 (z ▸ hwin)
  have nw0 := h4 w hwin
  have hlen := hLn.len
  wtm_at "rd"
  refine us_l_draw B5 (by omega) (by omega) fun place H6 pl0 pl1 B6 k6 => ?_
  have plb : place ≤ 60 := by omega
  have h1 := k6.g1 (B5.off h1) h1
  have h2 := Lines.pp h2 B5 k6
  have hLn := hLn.pp B5 k6
  have k6' : Kp [p] H H6 := k5'.trans k6
  have hl6 := k6'.g1 (hB.off hl) hl
  wtm_at "rd"
  refine us_l_draw B6 (by omega) (by omega) fun n1 H7 n10 n11 B7 k7 => ?_
  have h1 := k7.g1 (B6.off h1) h1
  have h2 := Lines.pp h2 B6 k7
  have hLn := hLn.pp B6 k7
  have k7' : Kp [p] H H7 := k6'.trans k7
  have hl7 := k7'.g1 (hB.off hl) hl
  wtm_at "rd"
  refine us_l_draw B7 (by omega) (by omega) fun n2 H8 n20 n21 B8 k8 => ?_
  have h1 := k8.g1 (B7.off h1) h1
  have h2 := Lines.pp h2 B7 k8
  have hLn := hLn.pp B7 k8
  have k8' : Kp [p] H H8 := k7'.trans k8
  have hl8 := k8'.g1 (hB.off hl) hl
  generalize xs.getD n1.toNat 0 = one
  wtm_at "rd"
  generalize xs.getD n2.toNat 0 = other
  intro S nS
  have hcnt : ∀ (i : Nat), ((((List.range i).map fun (n : Nat) => (n : Int)).filter (fun x => !decide (x ∈ xs))).length ≤ i) ∧ i ≤ (((List.range i).map fun (n : Nat) => (n : Int)).filter (fun x => !decide (x ∈ xs))).length + 12 := fun i => by
    have e1 := filt_add (fun x => decide (x ∈ xs)) ((List.range i).map fun (n : Nat) => (n : Int))
    rw [List.length_map, List.length_range] at e1
    have e2 : (((List.range i).map fun (n : Nat) => (n : Int)).filter (fun x => decide (x ∈ xs))).Nodup := List.Pairwise.filter _ (List.pairwise_map.mpr (List.Pairwise.imp (fun {a b} (h : a ≠ b) e => h (Int.ofNat.inj e)) List.nodup_range))
    have e3 := List.Nodup.length_le_of_subset e2 (fun x h => by simpa using (List.mem_filter.mp h).2 : _ ⊆ xs)
    omega
  refine lcR_by (fun i H9 => H9 S = some (.lst ((((List.range i).map fun (n : Nat) => (n : Int)).filter (fun x => !decide (x ∈ xs))).map V.int)) ∧ Kp [] H8 H9) ⟨upd_same, Kp.new nS⟩ ?_ ?_
  · rintro i H9 hi ⟨q1, q2⟩
    have hl9 := q2.g0 hl8
    have hi2 : i < 256 := hi
    rw [Int.zero_add]
    wtm_at "rd"
    refine ⟨rfl, ?_⟩
    wtm_at "rd"
    rw [List.range_succ, List.map_append, List.map_cons, List.map_nil, List.filter_append]
    refine ite_n (fun h => ?_) (fun h => ?_)
    · wtm_at "rd"
      refine ⟨_, q1, szlt (by have := (hcnt i).1; rw [List.length_map]; omega), ?_, q2.mine nS⟩
      rw [upd_same, List.filter_cons_of_pos (by simpa using h), List.filter_nil, List.map_append]
      rfl
    · rw [List.filter_cons_of_neg (by simpa using h), List.filter_nil, List.append_nil]
      exact ⟨q1, q2⟩
  rintro H9 ⟨q1, q2⟩
  obtain ⟨u1, u2⟩ := hcnt (256 : Int).toNat
  generalize ((List.range (256 : Int).toNat).map fun (n : Nat) => (n : Int)).filter (fun x => !decide (x ∈ xs)) = us at q1 u1 u2
  have e256 : (256 : Int).toNat = 256 := rfl
  have h1 := q2.g0 h1
  have h2 := Lines.kp h2 q2
  have hLn := hLn.k0 q2
  have B9 := B8.k0 q2
  have k9' : Kp [p] H H9 := k8'.trans q2.of0
  wtm_at "rd"
  refine us_l_draw B9 (by omega) (by omega) fun n3 H10 n30 n31 B10 k10 => ?_
  have q1 := k10.g1 (B9.off q1) q1
  have h1 := k10.g1 (B9.off h1) h1
  have h2 := Lines.pp h2 B9 k10
  have hLn := hLn.pp B9 k10
  have k10' : Kp [p] H H10 := k9'.trans k10
  wtm_at "rd"
  generalize us.getD n3.toNat 0 = strg
  -- the state of a line that is changed
  refine rd_cut (fun σ H11 => σ = [some (.ref p), some (.ref l), some (.ref F), some (.ref D), some (.int way), some (.int k), some (.ref w), some (.int place), some (.int one), some (.int other), some (.ref S), some (.int strg), none, none] ∧ ∃ (Ms : Pln) (ts : List Addr) (ps : List (Int × Int)), H11 D = some (.lst (ms.map V.ref)) ∧ Lines H11 ms Ms ∧ Sm (a + 1) (b + 1) Ms ∧ Ln H11 w ts ps ∧ Ms[k.toNat]? = some ps ∧ ps.length ≤ b + 1 ∧ Purse H11 p c ∧ Kp [p] H H11) ?_ ?_
  · wtm_at "rd"
    refine ite_d (fun hz => ?_) (fun hz => ?_)
    · have hla := hLn.at_
      wtm_at "rd"
      refine ⟨sz1000 (by simp), fun t1 nt1 => ?_⟩
      wtm_at "rd"
      refine ⟨sz1000 (by simp), fun t2 nt2 => ?_⟩
      wtm_at "rd"
      refine ⟨sz1000 (by simp), fun t3 nt3 => ?_⟩
      wtm_at "rd"
      refine ⟨sz1000 (by simp), fun t4 nt4 => ?_⟩
      wtm_at "rd"
      refine ⟨sz1000 (by simp), fun q nq => ?_⟩
      have kq : Kp [] H10 (upd (upd (upd (upd (upd H10 t1 (.tup [.int one, .int other])) t2 (.tup [.int one, .int one])) t3 (.tup [.int strg, .int one])) t4 (.tup [.int one, .int strg])) q (.lst [.ref t1, .ref t2, .ref t3, .ref t4])) := ((((Kp.new nt1).nw nt2).nw nt3).nw nt4).nw nq
      have c12 : t1 ≠ t2 := ne_fresh nt2
      have c23 : t2 ≠ t3 := ne_fresh nt3
      have c34 : t3 ≠ t4 := ne_fresh nt4
      have c4q : t4 ≠ q := ne_fresh nq
      have g1 : (upd (upd (upd (upd (upd H10 t1 (.tup [.int one, .int other])) t2 (.tup [.int one, .int one])) t3 (.tup [.int strg, .int one])) t4 (.tup [.int one, .int strg])) q (.lst [.ref t1, .ref t2, .ref t3, .ref t4])) t1 = some (.tup [.int one, .int other]) := ((((Kp.new (ps := []) nt2).nw nt3).nw nt4).nw nq).g0 upd_same
      have g2 : (upd (upd (upd (upd (upd H10 t1 (.tup [.int one, .int other])) t2 (.tup [.int one, .int one])) t3 (.tup [.int strg, .int one])) t4 (.tup [.int one, .int strg])) q (.lst [.ref t1, .ref t2, .ref t3, .ref t4])) t2 = some (.tup [.int one, .int one]) := (((Kp.new (ps := []) nt3).nw nt4).nw nq).g0 upd_same
      have g3 : (upd (upd (upd (upd (upd H10 t1 (.tup [.int one, .int other])) t2 (.tup [.int one, .int one])) t3 (.tup [.int strg, .int one])) t4 (.tup [.int one, .int strg])) q (.lst [.ref t1, .ref t2, .ref t3, .ref t4])) t3 = some (.tup [.int strg, .int one]) := ((Kp.new (ps := []) nt4).nw nq).g0 upd_same
      have g4 : (upd (upd (upd (upd (upd H10 t1 (.tup [.int one, .int other])) t2 (.tup [.int one, .int one])) t3 (.tup [.int strg, .int one])) t4 (.tup [.int one, .int strg])) q (.lst [.ref t1, .ref t2, .ref t3, .ref t4])) t4 = some (.tup [.int one, .int strg]) := hu_ne c4q upd_same
      have gq : (upd (upd (upd (upd (upd H10 t1 (.tup [.int one, .int other])) t2 (.tup [.int one, .int one])) t3 (.tup [.int strg, .int one])) t4 (.tup [.int one, .int strg])) q (.lst [.ref t1, .ref t2, .ref t3, .ref t4])) q = some (.lst [.ref t1, .ref t2, .ref t3, .ref t4]) := upd_same
      generalize (upd (upd (upd (upd (upd H10 t1 (.tup [.int one, .int other])) t2 (.tup [.int one, .int one])) t3 (.tup [.int strg, .int one])) t4 (.tup [.int one, .int strg])) q (.lst [.ref t1, .ref t2, .ref t3, .ref t4])) = H11 at *
      obtain ⟨t, pr, ht, hP⟩ : ∃ (t : Addr) (pr : Int × Int), atI [V.ref t1, .ref t2, .ref t3, .ref t4] way = some (.ref t) ∧ Pr H11 t pr := by
        have : way = 0 ∨ way = 1 ∨ way = 2 ∨ way = 3 := by omega
        rcases this with rfl | rfl | rfl | rfl
        · exact ⟨t1, (one, other), rfl, g1⟩
        · exact ⟨t2, (one, one), rfl, g2⟩
        · exact ⟨t3, (strg, one), rfl, g3⟩
        · exact ⟨t4, (one, strg), rfl, g4⟩
      have h1 := kq.g0 h1
      have h2 := Lines.kp h2 kq
      have hLn := hLn.k0 kq
      have B11 := B10.k0 kq
      have k11' : Kp [p] H H11 := k10'.trans kq.of0
      wtm_at "rd"
      refine ⟨w, ts.map V.ref, place, .ref t, rfl, rfl, hLn.at_, szlt (by omega), pl0, by omega, ?_⟩
      rw [ins_map]
      have hput := hLn.put (paired_ins place.toNat hLn.pr hP)
      wtm_at "rd"
      exact ⟨rfl, Ms.set k.toNat _, _, _, hu_ne nDw h1, Lines.setL hLn.at_ hput.line h2 h3 hwm, (hSm.set (by rw [ins_len2]; omega)), hput, by rw [List.getElem?_set_self (by rw [← hml]; exact hk)], by rw [ins_len2]; omega, hB.wr nw0 B11, k11'.mine nw0⟩
    · wtm_at "rd"
      exact ⟨rfl, Ms, ts, ps, h1, h2, hSm.mono (Nat.le_refl _) (by omega), hLn, hps, by omega, B10, k10'⟩
  clear hps hpsl hlen hLn hSm h1 h2
  rintro σ H11 ⟨rfl, Ms, ts, ps, h1, h2, hSm, hLn, hps, hpsl, B11, k11⟩
  have hml := paired_len h2
  wtm_at "rd"
  refine rd_cut (fun σ H12 => σ = [some (.ref p), some (.ref l), some (.ref F), some (.ref D), some (.int way), some (.int k), some (.ref w), some (.int place), some (.int one), some (.int other), some (.ref S), some (.int strg), none, none] ∧ ∃ (ms' : List Addr) (Ms : Pln), H12 D = some (.lst (ms'.map V.ref)) ∧ Lines H12 ms' Ms ∧ Sm (a + 2) (b + 1) Ms ∧ k.toNat < ms'.length ∧ Ln H12 w ts ps ∧ (way ≤ 6 → ms' = ms ∧ Ms[k.toNat]? = some ps) ∧ Purse H12 p c ∧ Kp [p] H H12) ?_ ?_
  · wtm_at "rd"
    refine ite_d (fun hz => ?_) (fun hz => ?_)
    · wtm_at "rd"
      refine ⟨sz1000 (by simp), fun q nq => ?_⟩
      have kq : Kp [] H11 (upd H11 q (.lst [])) := Kp.new nq
      have h1 := kq.g0 h1
      have h2 := Lines.kp h2 kq
      have hLn := hLn.k0 kq
      have nDq : D ≠ q := ne_of h1 (show upd H11 q (.lst []) q = _ from upd_same) (fun z => by
        injection z with z
        cases ms with
        | nil => simp at hm1
        | cons x r => cases z)
      wtm_at "rd"
      refine ⟨D, ms.map V.ref, k, .ref q, rfl, rfl, h1, szlt (by rw [List.length_map]; omega), k0, by omega, ?_⟩
      rw [ins_map]
      wtm_at "rd"
      refine ⟨rfl, ms.take k.toNat ++ [q] ++ ms.drop k.toNat, Ms.take k.toNat ++ [[]] ++ Ms.drop k.toNat, upd_same, ?_, ⟨by rw [ins_len2]; exact Nat.succ_le_succ hSm.1, fun L hL => ?_⟩, by rw [ins_len2]; omega, hLn.off h1 (Ne.symm nDw), fun h => absurd h (by omega), hB.wr hD (B11.k0 kq), (k11.nw nq).mine hD⟩
      · exact paired_ins (R := Line _) k.toNat (Lines.upd h1 h2 h5) (Line.upd (ps := []) ⟨[], upd_same, .nil⟩ h1 (Ne.symm nDq))
      · rcases List.mem_append.mp hL with m | m
        · rcases List.mem_append.mp m with m | m
          · exact hSm.2 L (List.mem_of_mem_take m)
          · rw [List.mem_singleton.mp m]
            simp
        · exact hSm.2 L (List.mem_of_mem_drop m)
    · wtm_at "rd"
      exact ⟨rfl, ms, Ms, h1, h2, hSm.mono (by omega) (Nat.le_refl _), hk, hLn, fun _ => ⟨rfl, hps⟩, B11, k11⟩
  clear hps hLn hSm h1 h2 hml
  rintro σ H12 ⟨rfl, ms', Ms, h1, h2, hSm, hk', hLn, hw6, B12, k12⟩
  have hml' := paired_len h2
  have hms' := hSm.1
  wtm_at "rd"
  refine rd_cut (fun σ H13 => σ = [some (.ref p), some (.ref l), some (.ref F), some (.ref D), some (.int way), some (.int k), some (.ref w), some (.int place), some (.int one), some (.int other), some (.ref S), some (.int strg), none, none] ∧ ∃ (ms' : List Addr) (Ms : Pln), H13 D = some (.lst (ms'.map V.ref)) ∧ Lines H13 ms' Ms ∧ Sm (a + 2) (b + 1) Ms ∧ Ln H13 w ts ps ∧ (way ≤ 6 → ms' = ms ∧ Ms[k.toNat]? = some ps) ∧ Purse H13 p c ∧ Kp [p] H H13) ?_ ?_
  · wtm_at "rd"
    refine ite_d (fun hz => ?_) (fun hz => ?_)
    · wtm_at "rd"
      refine rd_popAt h1 (by omega) (by omega) (k := k.toNat) (v := .ref ms'[k.toNat]) (by rw [List.length_map]; exact seqIx k0 (by omega)) (by rw [List.getElem?_map, List.getElem?_eq_getElem hk']; rfl) ?_
      wtm_at "rd"
      refine ⟨rfl, ms'.eraseIdx k.toNat, Ms.eraseIdx k.toNat, ?_, ?_, ⟨?_, fun L hL => hSm.2 L (List.mem_of_mem_eraseIdx hL)⟩, hLn.off h1 (Ne.symm nDw), fun h => absurd h (by omega), hB.wr hD B12, k12.mine hD⟩
      · rw [upd_same, erA_map]
      · have nDm : D ∉ ms' := fun m => by
          have := Lines.lst h2 m
          obtain ⟨q, hq, e⟩ := List.mem_iff_getElem.mp m
          obtain ⟨L, hL, tq, x1, x2⟩ := paired_get h2 (List.getElem?_eq_getElem hq)
          rw [e, h1] at x1
          injection x1 with x1
          injection x1 with x1
          obtain ⟨t0, r0, et⟩ : ∃ t0 r0, ms' = t0 :: r0 := by
            cases ms' with
            | nil => simp at hk'
            | cons a r => exact ⟨a, r, rfl⟩
          cases tq with
          | nil =>
            rw [et] at x1
            cases x1
          | cons a r =>
            cases x2 with
            | cons pa pr =>
              rw [et] at x1
              injection x1 with y1 y2
              injection y1 with y1
              obtain ⟨L0, hL0, tq0, z1, z2⟩ := paired_get h2 (i := 0) (x := t0) (by rw [et]; rfl)
              unfold Pr at pa
              rw [← y1, z1] at pa
              cases pa
        exact paired_erase k.toNat (Lines.upd h1 h2 nDm)
      · have := hSm.1
        have := List.length_eraseIdx_le Ms k.toNat
        omega
    · wtm_at "rd"
      exact ⟨rfl, ms', Ms, h1, h2, hSm, hLn, hw6, B12, k12⟩
  clear hw6 hk' hLn hSm h1 h2 hml' hms'
  rintro σ H13 ⟨rfl, ms', Ms, h1, h2, hSm, hLn, hw6, B13, k13⟩
  wtm_at "rd"
  refine ⟨sz1000 (by simp), fun e ne => ?_⟩
  have ke : Kp [] H13 (upd H13 e (.lst [])) := Kp.new ne
  have h1 := ke.g0 h1
  have h2 := Lines.kp h2 ke
  have hLn := hLn.k0 ke
  have B14 := B13.k0 ke
  have k14 : Kp [p] H (upd H13 e (.lst [])) := k13.nw ne
  have he : upd H13 e (.lst []) e = some (.lst []) := upd_same
  generalize upd H13 e (.lst []) = H14 at *
  refine rd_eqLine hLn.line he ?_
  wtm_at "rd"
  refine ite_d (fun hz => ?_) (fun hz => ?_)
  · wtm_at "rd"
    exact kk D ms' Ms _ h1 h2 (hSm.mono (by omega) (by omega)) B14 k14
  wtm_at "rd"
  refine ite_d (fun hz2 => ?_) (fun hz2 => ?_)
  · wtm_at "rd"
    exact kk D ms' Ms _ h1 h2 (hSm.mono (by omega) (by omega)) B14 k14
  wtm_at "rd"
  refine ite_d (fun hz3 => ?_) (fun hz3 => ?_)
  · wtm_at "rd"
    exact kk D ms' Ms _ h1 h2 (hSm.mono (by omega) (by omega)) B14 k14
  have g1 := h1
  have g2 := h2
  clear h1 h2
  obtain ⟨rfl, hps⟩ := hw6 (by omega)
  have hl1 : 1 ≤ ps.length := by
    cases ps with
    | nil => exact absurd rfl hz
    | cons x r => simp
  have hlen := hLn.len
  have hla := hLn.at_
  wtm_at "rd"
  refine us_l_draw B14 (by omega) (by omega) fun n H15 n0 nn B15 k15 => ?_
  have h1 := k15.g1 (B14.off g1) g1
  have h2 := Lines.pp g2 B14 k15
  have hLn := hLn.pp B14 k15
  have k15' : Kp [p] H H15 := k14.trans k15
  have hn : n.toNat < ts.length := by
    rw [List.length_map] at nn
    omega
  have hat2 : atI (ts.map V.ref) n = some (.ref ts[n.toNat]) := by
    obtain ⟨q, rfl⟩ := Int.eq_ofNat_of_zero_le n0
    exact atI_nat (by rw [List.getElem?_map, List.getElem?_eq_getElem (by omega)]; rfl)
  obtain ⟨pr, hpr, hPr⟩ := paired_get hLn.pr (List.getElem?_eq_getElem hn)
  have hprm := List.mem_of_getElem? hpr
  generalize ts[n.toNat] = t0 at hat2 hPr
  have hat3 := hLn.at_
  wtm_at "rd"
  clear hn hpr hat2
  refine rd_cut (fun σ H16 => σ = [some (.ref p), some (.ref l), some (.ref F), some (.ref D), some (.int way), some (.int k), some (.ref w), some (.int place), some (.int one), some (.int other), some (.ref S), some (.int strg), some (.ref t0), none] ∧ ∃ (Ms : Pln) (ts : List Addr) (ps : List (Int × Int)), H16 D = some (.lst (ms'.map V.ref)) ∧ Lines H16 ms' Ms ∧ Sm (a + 2) (b + 2) Ms ∧ Ln H16 w ts ps ∧ Ms[k.toNat]? = some ps ∧ ps.length ≤ b + 2 ∧ pr ∈ ps ∧ Pr H16 t0 pr ∧ Purse H16 p c ∧ Kp [p] H H16) ?_ ?_
  · wtm_at "rd"
    refine ite_d (fun hy => ?_) (fun hy => ?_)
    · have hla := hLn.at_
      have hPr' := hPr
      unfold Pr at hPr'
      wtm_at "rd"
      refine ⟨sz1000 (by simp), fun t nt => ?_⟩
      have kt : Kp [] H15 (upd H15 t (.tup [.int pr.1, .int other])) := Kp.new nt
      have h1 := kt.g0 h1
      have h2 := Lines.kp h2 kt
      have hLn := hLn.k0 kt
      have hPr := kt.g0 hPr
      wtm_at "rd"
      refine ⟨w, ts.map V.ref, place, .ref t, rfl, rfl, hLn.at_, szlt (by omega), pl0, by omega, ?_⟩
      rw [ins_map]
      have hput := hLn.put (ts' := ts.take place.toNat ++ [t] ++ ts.drop place.toNat) (ps' := ps.take place.toNat ++ [(pr.1, other)] ++ ps.drop place.toNat) (paired_ins place.toNat hLn.pr upd_same)
      have hml := paired_len h2
      wtm_at "rd"
      refine ⟨rfl, Ms.set k.toNat (ps.take place.toNat ++ [(pr.1, other)] ++ ps.drop place.toNat), ts.take place.toNat ++ [t] ++ ts.drop place.toNat, ps.take place.toNat ++ [(pr.1, other)] ++ ps.drop place.toNat, hu_ne nDw h1, Lines.setL hLn.at_ hput.line h2 h3 hwm, (hSm.set (by rw [ins_len2]; omega)), hput, by rw [List.getElem?_set_self (by rw [← hml]; exact hk)], by rw [ins_len2]; omega, ?_, hu_ne (ne_of hPr hLn.at_ (by intro z; cases z)) hPr, hB.wr nw0 (B15.k0 kt), (k15'.nw nt).mine nw0⟩
      rw [List.append_assoc]
      have := List.take_append_drop place.toNat ps
      rw [← this] at hprm
      rcases List.mem_append.mp hprm with m | m
      · exact List.mem_append_left _ m
      · exact List.mem_append_right _ (List.mem_append_right _ m)
    · wtm_at "rd"
      exact ⟨rfl, Ms, ts, ps, h1, h2, hSm.mono (Nat.le_refl _) (by omega), hLn, hps, by omega, hprm, hPr, B15, k15'⟩
  clear hps hpsl hlen hLn hSm h1 h2 hprm hPr hat3 hl1 hz
  rintro σ H16 ⟨rfl, Ms, ts, ps, h1, h2, hSm, hLn, hps, hpsl, hprm, hPr, B16, k16⟩
  have hlen := hLn.len
  wtm_at "rd"
  refine rd_cut (fun σ H17 => σ = [some (.ref p), some (.ref l), some (.ref F), some (.ref D), some (.int way), some (.int k), some (.ref w), some (.int place), some (.int one), some (.int other), some (.ref S), some (.int strg), some (.ref t0), none] ∧ ∃ (Ms : Pln) (ts : List Addr) (ps : List (Int × Int)), H17 D = some (.lst (ms'.map V.ref)) ∧ Lines H17 ms' Ms ∧ Sm (a + 2) (b + 3) Ms ∧ Ln H17 w ts ps ∧ Ms[k.toNat]? = some ps ∧ ps.length ≤ b + 3 ∧ pr ∈ ps ∧ Pr H17 t0 pr ∧ Purse H17 p c ∧ Kp [p] H H17) ?_ ?_
  · wtm_at "rd"
    refine ite_d (fun hy => ?_) (fun hy => ?_)
    · have hla := hLn.at_
      have hPr' := hPr
      unfold Pr at hPr'
      wtm_at "rd"
      refine ⟨sz1000 (by simp), fun t nt => ?_⟩
      have kt : Kp [] H16 (upd H16 t (.tup [.int pr.2, .int other])) := Kp.new nt
      have h1 := kt.g0 h1
      have h2 := Lines.kp h2 kt
      have hLn := hLn.k0 kt
      have hPr := kt.g0 hPr
      wtm_at "rd"
      refine ⟨w, ts.map V.ref, place, .ref t, rfl, rfl, hLn.at_, szlt (by omega), pl0, by omega, ?_⟩
      rw [ins_map]
      have hput := hLn.put (ts' := ts.take place.toNat ++ [t] ++ ts.drop place.toNat) (ps' := ps.take place.toNat ++ [(pr.2, other)] ++ ps.drop place.toNat) (paired_ins place.toNat hLn.pr upd_same)
      have hml := paired_len h2
      wtm_at "rd"
      refine ⟨rfl, Ms.set k.toNat (ps.take place.toNat ++ [(pr.2, other)] ++ ps.drop place.toNat), ts.take place.toNat ++ [t] ++ ts.drop place.toNat, ps.take place.toNat ++ [(pr.2, other)] ++ ps.drop place.toNat, hu_ne nDw h1, Lines.setL hLn.at_ hput.line h2 h3 hwm, (hSm.set (by rw [ins_len2]; omega)), hput, by rw [List.getElem?_set_self (by rw [← hml]; exact hk)], by rw [ins_len2]; omega, ?_, hu_ne (ne_of hPr hLn.at_ (by intro z; cases z)) hPr, hB.wr nw0 (B16.k0 kt), (k16.nw nt).mine nw0⟩
      rw [List.append_assoc]
      have := List.take_append_drop place.toNat ps
      rw [← this] at hprm
      rcases List.mem_append.mp hprm with m | m
      · exact List.mem_append_left _ m
      · exact List.mem_append_right _ (List.mem_append_right _ m)
    · wtm_at "rd"
      exact ⟨rfl, Ms, ts, ps, h1, h2, hSm.mono (Nat.le_refl _) (by omega), hLn, hps, by omega, hprm, hPr, B16, k16⟩
  clear hps hpsl hlen hLn hSm h1 h2 hprm hPr
  rintro σ H17 ⟨rfl, Ms, ts, ps, h1, h2, hSm, hLn, hps, hpsl, hprm, hPr, B17, k17⟩
  wtm_at "rd"
  refine ite_d (fun hy => ?_) (fun hy => ?_)
  · have hla := hLn.at_
    wtm_at "rd"
    obtain ⟨j, hj⟩ := place_of hprm
    refine ⟨w, ts.map V.ref, .ref t0, dP pr, ps.map dP, j, rfl, rfl, hLn.at_, dp_pairs hLn.pr, .tup (SqT.of hPr) (.cons (.int _) (.cons (.int _) .nil)), dPs_plain ps, by simp [dP, PyData.plain, PyData.plainAll], by simp [dP, PyData.depth, PyData.depthAll], hj, ?_⟩
    rw [erA_map]
    have hput := hLn.put (paired_erase j hLn.pr)
    wtm_at "rd"
    have hle := List.length_eraseIdx_le ps j
    have hS9 : Sm (a + 3) (b + 3) (Ms.set k.toNat (ps.eraseIdx j)) := by
      refine ⟨by rw [List.length_set]; have := hSm.1; omega, fun L hL => ?_⟩
      rcases List.mem_or_eq_of_mem_set hL with m | rfl
      · exact hSm.2 L m
      · omega
    exact kk D ms' (Ms.set k.toNat (ps.eraseIdx j)) _ (hu_ne nDw h1) (Lines.setL hLn.at_ hput.line h2 h3 hwm) hS9 (hB.wr nw0 B17) (k17.mine nw0)
  · wtm_at "rd"
    exact kk D ms' Ms _ h1 h2 (hSm.mono (by omega) (by omega)) B17 k17
theorem c_l_bent (T : Cx K mg) (B : Tb P w K mg base) : CalX P w K mg base CX0 3 "_law_bent" (sp_l_bent K) [] := by
  obtain ⟨fd, F, ok⟩ := f_l_bent (P := P) (w := w) (base := base) T B
  exact ⟨_, fd, p_l_bent, [], ok, gl_l_bent T, F.kp, FunD.bindsN F fun _ _ _ _ _ _ us hl => match us, hl with | [_, _, _], _ => rfl, .nil⟩
end
section
variable {P : Program} {w : World} {K : PySem.W.Frag} {mg : Str → Option Value} {base : Heap}
def sp_l_back (K : PySem.W.Frag) : Sp := fun vs H Q E => ∃ (s F : Addr) (o : Int) (xs : List Int) (ls : List Addr) (Ls : Pln), vs = [.ref s, .int o, .ref F] ∧ (H s = some (.lst (xs.map V.int))) ∧ (H F = some (.lst (ls.map V.ref))) ∧ (Lines H ls Ls) ∧ (Sm 100 100 Ls) ∧ (∀ t H1, ((jud xs [o] 0 Ls = none → ∃ t2, H1 t = some (.tup [.bl false, .ref t2]) ∧ H1 t2 = some (.tup [.int Ls.length, .int (pairsN Ls)])) ∧ (∀ i : Nat, jud xs [o] 0 Ls = some i → H1 t = some (.tup [.bl true, .int i, .bl true]))) → Kp [] H H1 → Q (.ref t) H1)
theorem us_l_back {K : PySem.W.Frag} {H : Hp} {Q : VK} {E : XK} {s F : Addr} {o : Int} {xs : List Int} {ls : List Addr} {Ls : Pln} (hs : H s = some (.lst (xs.map V.int))) (hF : H F = some (.lst (ls.map V.ref))) (hL : Lines H ls Ls) (hb : Sm 100 100 Ls) (kk : ∀ t H1, ((jud xs [o] 0 Ls = none → ∃ t2, H1 t = some (.tup [.bl false, .ref t2]) ∧ H1 t2 = some (.tup [.int Ls.length, .int (pairsN Ls)])) ∧ (∀ i : Nat, jud xs [o] 0 Ls = some i → H1 t = some (.tup [.bl true, .int i, .bl true]))) → Kp [] H H1 → Q (.ref t) H1) : sp_l_back K [.ref s, .int o, .ref F] H Q E := ⟨_, _, _, _, _, _, rfl, hs, hF, hL, hb, kk⟩
theorem f_l_back (T : Cx K mg) (B : Tb P w K mg base) : ∃ fd, FunD K "_law_back" "_law_back" (defArgs s_l_back) (defBody s_l_back) (defScope s_l_back) (d_l_back.dvs K) (d_l_back.kws K) (fAd K d_l_back.at_) fd ∧ FnOk P w K mg base CX0 3 (fAd K d_l_back.at_) fd p_l_back (sp_l_back K) := by
  have c_judge_plan := c_judge_plan (P := P) (w := w) (base := base) T B
  obtain ⟨fd, F⟩ := T.says.def_ 12 (d := d_l_back) rfl
  refine ⟨fd, F, fnD F sc_l_back (fun vs H Q E h => by
    obtain ⟨_, _, _, _, _, _, rfl, _⟩ := h
    rfl) fun cdv A outer s H vs Q E hr h => ?_⟩
  have hu := hu_of hr
  obtain ⟨s, F, o, xs, ls, Ls, rfl, hs, hF, hL, hb, kk⟩ := h
  refine ⟨_, (pss_cons (ps_try_as (i := 4) rfl rfl sc_l_back.nd rfl rfl ⟨by rfl, by decide, .inl (gl_InvalidPlan T)⟩ takes0 (fun W pn xe tk po => (pss_one (ps_set (i := 3) sc_l_back.nd rfl (by first | exact Or.inl rfl | exact Or.inr rfl) (pe_calS c_judge_plan hr (by decide) (by rfl) (fun σ => passAt tk σ) (pa_cons (pv 0) (pa_cons (pv 1) (pa_cons (pv 2) pa_nil))))))) (fun xa xo xc xd xn hz hf => (pss_cons (ps_set (i := 5) sc_l_back.nd rfl (by first | exact Or.inl rfl | exact Or.inr rfl) (pe_and (pe_callB (call_isX hz hf) (by rfl) (fr_isinstance T) (by decide +kernel) (pa_cons (pv 4) (pa_cons (pe_glob (v := .ref (ga K "GroupError")) (by rfl) (gl_GroupError T) rfl) pa_nil))) (pe_one (pe_callB (call_isX hz hf) (by rfl) (fr_isinstance T) (by decide +kernel) (pa_cons (pv 4) (pa_cons (pe_bltn (v := .ty "ValueError") (by rfl) (fr_ValueError T) (by decide +kernel) rfl) pa_nil)))))) (pss_cons (ps_set (i := 6) sc_l_back.nd rfl (by first | exact Or.inl rfl | exact Or.inr rfl) (pe_or (pe_callB (call_isX hz hf) (by rfl) (fr_isinstance T) (by decide +kernel) (pa_cons (pv 4) (pa_cons (pe_glob (v := .ref (ga K "InvalidSetting")) (by rfl) (gl_InvalidSetting T) rfl) pa_nil))) (pe_or (pe_callB (call_isX hz hf) (by rfl) (fr_isinstance T) (by decide +kernel) (pa_cons (pv 4) (pa_cons (pe_glob (v := .ref (ga K "DeedRefused")) (by rfl) (gl_DeedRefused T) rfl) pa_nil))) (pe_one (pe_callB (call_isX hz hf) (by rfl) (fr_isinstance T) (by decide +kernel) (pa_cons (pv 4) (pa_cons (pe_glob (v := .ref (ga K "TooMuch")) (by rfl) (gl_TooMuch T) rfl) pa_nil))))))) (pss_one (ps_ret (pe_tup (pa_cons pe_bl (pa_cons (pe_xe hz hf (pv 4)) (pa_cons (pe_and (pv 5) (pe_one (pe_not (pv 6)))) pa_nil)))))))))) (pss_one (ps_ret (pe_tup (pa_cons pe_bl (pa_cons (pv 3) pa_nil)))))), ?_⟩
  rw [show L2.start n_l_back [.ref s, .int o, .ref F] = [some (.ref s), some (.int o), some (.ref F), none, none, none, none] from rfl]
  try dsimp only [cxOf, Cx.nox, Cx.wish, List.map]

  wtm_at "rd"
  refine us_judge_plan hs hF hL hb ⟨fun hj t2 H1 h2 k1 n2 => ?_, fun i hj d H1 hd k1 nd => ?_⟩
  · wtm_at "rd"
    refine ⟨sz1000 (by simp), fun t nt => ?_⟩
    refine kk t _ ⟨fun _ => ⟨t2, upd_same, hu_ne (ne_of_none h2 nt) h2⟩, fun i z => ?_⟩ (k1.nw nt)
    rw [hj] at z
    cases z
  · refine rd_wAs (b := true) (er_InvalidPlan B).2 (by decide) (by decide) (fun _ a na => ?_) (fun z => nomatch z)
    wtm_at "rd"
    refine ⟨sz1000 (by simp), fun t nt => ?_⟩
    refine kk t _ ⟨fun z => ?_, fun j z => ?_⟩ (k1.nw nt)
    · rw [hj] at z
      cases z
    · rw [hj] at z
      cases z
      exact upd_same
theorem c_l_back (T : Cx K mg) (B : Tb P w K mg base) : CalX P w K mg base CX0 3 "_law_back" (sp_l_back K) [] := by
  obtain ⟨fd, F, ok⟩ := f_l_back (P := P) (w := w) (base := base) T B
  exact ⟨_, fd, p_l_back, [], ok, gl_l_back T, F.kp, FunD.bindsN F fun _ _ _ _ _ _ us hl => match us, hl with | [_, _, _], _ => rfl, .nil⟩
end
section
variable {P : Program} {w : World} {K : PySem.W.Frag} {mg : Str → Option Value} {base : Heap}
def sp_l_asked (K : PySem.W.Frag) : Sp := fun vs H Q E => ∃ (s F : Addr) (o : Int) (xs : List Int) (ls : List Addr) (Ls : Pln), vs = [.ref s, .int o, .ref F] ∧ (H s = some (.lst (xs.map V.int))) ∧ (H F = some (.lst (ls.map V.ref))) ∧ (Lines H ls Ls) ∧ (Sm 100 100 Ls) ∧ (xs.Nodup) ∧ (o ∈ xs) ∧ (1 ≤ xs.length ∧ xs.length ≤ 12) ∧ (∀ H1, Kp [] H H1 → Q (.bl true) H1)
theorem us_l_asked {K : PySem.W.Frag} {H : Hp} {Q : VK} {E : XK} {s F : Addr} {o : Int} {xs : List Int} {ls : List Addr} {Ls : Pln} (hs : H s = some (.lst (xs.map V.int))) (hF : H F = some (.lst (ls.map V.ref))) (hL : Lines H ls Ls) (hb : Sm 100 100 Ls) (hN : xs.Nodup) (ho : o ∈ xs) (hx : 1 ≤ xs.length ∧ xs.length ≤ 12) (kk : ∀ H1, Kp [] H H1 → Q (.bl true) H1) : sp_l_asked K [.ref s, .int o, .ref F] H Q E := ⟨_, _, _, _, _, _, rfl, hs, hF, hL, hb, hN, ho, hx, kk⟩
theorem f_l_asked (T : Cx K mg) (B : Tb P w K mg base) : ∃ fd, FunD K "_law_asked" "_law_asked" (defArgs s_l_asked) (defBody s_l_asked) (defScope s_l_asked) (d_l_asked.dvs K) (d_l_asked.kws K) (fAd K d_l_asked.at_) fd ∧ FnOk P w K mg base CX0 4 (fAd K d_l_asked.at_) fd p_l_asked (sp_l_asked K) := by
  have c_l_back := c_l_back (P := P) (w := w) (base := base) T B
  have c_l_judged := c_l_judged (P := P) (w := w) (base := base) T B
  have c_l_number := c_l_number (P := P) (w := w) (base := base) T B
  have c_l_least := c_l_least (P := P) (w := w) (base := base) T B
  obtain ⟨fd, F⟩ := T.says.def_ 13 (d := d_l_asked) rfl
  refine ⟨fd, F, fnD F sc_l_asked (fun vs H Q E h => by
    obtain ⟨_, _, _, _, _, _, rfl, _⟩ := h
    rfl) fun cdv A outer s H vs Q E hr h => ?_⟩
  have hu := hu_of hr
  obtain ⟨s, F, o, xs, ls, Ls, rfl, hs, hF, hL, hb, hN, ho, hx, kk⟩ := h
  refine ⟨_, (pss_cons (ps_set (i := 3) sc_l_asked.nd rfl (by first | exact Or.inl rfl | exact Or.inr rfl) (pe_callTy call_listOf (by rfl) (fr_list T) (by decide +kernel) (pa_cons (pv 0) pa_nil))) (pss_cons (ps_setLc (i := 4) (own := [("_law_line", 9)]) (g := (gName 9)) (tt := tYes) rfl sc_l_asked.nd rfl rfl (sw_true rfl rfl rfl (by decide +kernel)) (pi_list (pv 2)) (blkOk_by (own := [("_law_line", 9)]) (N := n_l_asked) (sc := defScope s_l_asked) (by decide +kernel)) (fun _ _ _ _ _ => (pg_name (i := 9) sc_l_asked.nd rfl (by first | exact Or.inl rfl | exact Or.inr rfl))) (fun _ _ _ _ _ => pts_nil) (fun _ _ _ _ _ => (pe_callTy (call_listOfK (K := K) rfl) (by rfl) (fr_list T) (by decide +kernel) (pa_cons (pv 9) pa_nil)))) (pss_cons (ps_set (i := 5) sc_l_asked.nd rfl (by first | exact Or.inl rfl | exact Or.inr rfl) (pe_cal c_l_back hr (by decide) (by rfl) pass0 (pa_cons (pv 3) (pa_cons (pv 1) (pa_cons (pv 4) pa_nil))))) (pss_cons (ps_if (PW.pt (pw_or (pt_cmpR (op_neD hr.units) (pv 3) (pv 0) (nomark _)) (pw_or1 (pt_cmpR (op_neD hr.units) (pv 4) (pv 2) (nomark _))))) (pss_one (ps_ret pe_bl)) pss_nil) (pss_cons (ps_set (i := 6) sc_l_asked.nd rfl (by first | exact Or.inl rfl | exact Or.inr rfl) (pe_cal c_l_judged hr (by decide) (by rfl) pass0 (pa_cons (pv 0) (pa_cons (pv 1) (pa_cons (pv 2) pa_nil))))) (pss_cons (ps_if (pt_not (pt_val (pe_ix ix_tup (pv 6) pe_int (fun _ _ => rfl)))) (pss_one (ps_ret (pe_and (pe_ix ix_tup (pv 5) pe_int (fun _ _ => rfl)) (pe_and (pe_ix ix_tup (pv 5) pe_int (fun _ _ => rfl)) (pe_one (pe_cal c_l_number hr (by decide) (by rfl) pass0 (pa_cons (pe_ix ix_tup (pv 5) pe_int (fun _ _ => rfl)) (pa_cons (pe_ix ix_tup (pv 6) pe_int (fun _ _ => rfl)) pa_nil)))))))) pss_nil) (pss_cons (ps_if (PW.pt (pw_or (pt_val (pe_ix ix_tup (pv 5) pe_int (fun _ _ => rfl))) (pw_or (pt_not (pt_val (pe_callB call_isi (by rfl) (fr_isinstance T) (by decide +kernel) (pa_cons (pe_ix ix_tup (pv 5) pe_int (fun _ _ => rfl)) (pa_cons (pe_bltn (v := .ty "tuple") (by rfl) (fr_tuple T) (by decide +kernel) rfl) pa_nil))))) (pw_or1 (pt_cmpR op_ne (pe_callB call_lenS (by rfl) (fr_len T) (by decide +kernel) (pa_cons (pe_ix ix_tup (pv 5) pe_int (fun _ _ => rfl)) pa_nil)) pe_int (nomark _)))))) (pss_one (ps_ret pe_bl)) pss_nil) (pss_cons (ps_set (i := 7) sc_l_asked.nd rfl (by first | exact Or.inl rfl | exact Or.inr rfl) (pe_ix ix_tup (pe_ix ix_tup (pv 5) pe_int (fun _ _ => rfl)) pe_int (fun _ _ => rfl))) (pss_cons (ps_set (i := 8) sc_l_asked.nd rfl (by first | exact Or.inl rfl | exact Or.inr rfl) (pe_ix ix_tup (pe_ix ix_tup (pv 5) pe_int (fun _ _ => rfl)) pe_int (fun _ _ => rfl))) (pss_cons (ps_if (PW.pt (pw_or (pt_not (pt_val (pe_cal c_l_number hr (by decide) (by rfl) pass0 (pa_cons (pv 7) (pa_cons (pe_ix ix_tup (pv 6) pe_int (fun _ _ => rfl)) pa_nil))))) (pw_or1 (pt_not (pt_val (pe_cal c_l_number hr (by decide) (by rfl) pass0 (pa_cons (pv 8) (pa_cons (pe_ix ix_tup (pv 6) pe_int (fun _ _ => rfl)) pa_nil)))))))) (pss_one (ps_ret pe_bl)) pss_nil) (pss_one (ps_ret (pe_and (pe_cmpR op_ge (pv 7) (pe_cal c_l_least hr (by decide) (by rfl) pass0 (pa_cons (pe_callB call_lenS (by rfl) (fr_len T) (by decide +kernel) (pa_cons (pv 0) pa_nil)) pa_nil)) (nomark _)) (pe_one (pe_cmpR op_ge (pv 8) (pe_op op_sub (pe_callB call_lenS (by rfl) (fr_len T) (by decide +kernel) (pa_cons (pv 0) pa_nil)) pe_int) (nomark _)))))))))))))))), ?_⟩
  rw [show L2.start n_l_asked [.ref s, .int o, .ref F] = [some (.ref s), some (.int o), some (.ref F), none, none, none, none, none, none, none] from rfl]
  try dsimp only [cxOf, Cx.nox, Cx.wish, List.map]

  have hls : ls.length = Ls.length := paired_len hL
  wtm_at "rd"
  intro hd nhd
  have k1 : Kp [] H (upd H hd (.lst (xs.map V.int))) := Kp.new nhd
  have hs1 := k1.g0 hs
  have hF1 := k1.g0 hF
  have hL1 := Lines.kp hL k1
  have hh1 : upd H hd (.lst (xs.map V.int)) hd = some (.lst (xs.map V.int)) := upd_same
  generalize upd H hd (.lst (xs.map V.int)) = H1 at *
  wtm_at "rd"
  intro D hD
  refine lcL_by (K := K) (ls.map V.ref) (fun j H2 => ∃ ms : List Addr, H2 D = some (.lst (ms.map V.ref)) ∧ Lines H2 ms (Ls.take j) ∧ D ∉ ms ∧ Kp [] H1 H2) ⟨[], upd_same, Paired.nil, by simp, Kp.new hD⟩ (fun j H2 _ q => by
    obtain ⟨ms, -, -, -, k⟩ := q
    exact SqL.of (k.g0 hF1)) ?_ ?_
  · rintro j x H2 hx ⟨ms, h1, h2, h5, k2⟩
    rw [List.getElem?_map] at hx
    obtain ⟨w, hw, rfl⟩ := Option.map_eq_some_iff.mp hx
    obtain ⟨L, hLj, ts, t1, t2⟩ := paired_get hL1 hw
    have hj := (List.getElem?_eq_some_iff.mp hLj).1
    have t1' := k2.g0 t1
    have hml : ms.length = j := by
      rw [paired_len h2, List.length_take]
      omega
    wtm_at "rd"
    refine ⟨rfl, ?_⟩
    wtm_at "rd"
    intro m nm
    have km : Kp [] H2 (upd H2 m (.lst (ts.map V.ref))) := Kp.new nm
    have hD3 := km.g0 h1
    have nDm : D ≠ m := ne_of_none h1 nm
    have hL3 := Lines.kp h2 km
    have hm3 : Line (upd H2 m (.lst (ts.map V.ref))) m L := ⟨ts, upd_same, paired_imp (fun _ _ z => km.g0 (k2.g0 z)) t2⟩
    have k3 : Kp [] H1 (upd H2 m (.lst (ts.map V.ref))) := k2.nw nm
    generalize upd H2 m (.lst (ts.map V.ref)) = H3 at *
    refine ⟨_, hD3, szlt (by have := hb.1; rw [List.length_map]; omega), ms ++ [m], by rw [upd_same, List.map_append]; rfl, ?_, by simp [h5, nDm], k3.mine hD⟩
    obtain ⟨h, e⟩ := List.getElem?_eq_some_iff.mp hLj
    rw [List.take_succ_eq_append_getElem h, e]
    exact paired_snoc (R := Line _) (Line.upd hm3 hD3 (Ne.symm nDm)) (Lines.upd hD3 hL3 h5)
  rintro H2 ⟨ms, h1, h2, -, k2⟩
  rw [List.length_map, hls, List.take_length] at h2
  have hh2 := k2.g0 hh1
  wtm_at "rd"
  refine us_l_back hh2 h1 h2 hb fun t H3 ht k3 => ?_
  have hh3 := k3.g0 hh2
  have hs3 := k3.g0 (k2.g0 hs1)
  have hF3 := k3.g0 (k2.g0 hF1)
  have hL3 := Lines.kp (Lines.kp hL1 k2) k3
  have h13 := k3.g0 h1
  have h23 := Lines.kp h2 k3
  wtm_at "rd"
  refine ite_n (fun h => absurd rfl h) (fun _ => ?_)
  wtm_at "rd"
  refine rd_neLines h13 h23 hF3 hL3 ?_
  wtm_at "rd"
  refine us_l_judged hs3 hF3 hL3 hb hN ho (by omega) fun t4 H4 ht4 k4 nt4 => ?_
  have k04 : Kp [] H H4 := (k1.trans k2).trans (k3.trans k4)
  have hs4 := k4.g0 hs3
  unfold judV at ht4
  cases e : jud xs [o] 0 Ls with
  | some i =>
    rw [e] at ht4
    have ht' := k4.g0 (ht.2 i e)
    wtm_at "rd"
    refine us_l_number ?_
    rw [decide_eq_true rfl]
    exact kk H4 k04
  | none =>
    rw [e] at ht4
    obtain ⟨t2, g1, g2⟩ := ht.1 e
    have g1 := k4.g0 g1
    have g2 := k4.g0 g2
    obtain ⟨m1, m2⟩ := jud_none hN e
    rw [List.length_singleton, Nat.one_mul] at m1
    rw [List.length_singleton] at m2
    wtm_at "rd"
    refine ite_n (fun h => absurd rfl h) (fun _ => ?_)
    wtm_at "rd"
    refine us_l_number ?_
    wtm_at "rd"
    refine ite_n (fun h => absurd rfl h) (fun _ => ?_)
    wtm_at "rd"
    refine us_l_number ?_
    wtm_at "rd"
    refine ite_n (fun h => absurd rfl h) (fun _ => ?_)
    wtm_at "rd"
    refine us_l_least (n := xs.length) hx.1 (by have : (12 : Nat) ≤ 2 ^ 62 := by decide
                                                omega) fun r hr => ?_
    have hle : r ≤ Ls.length := by
      rcases hr.2 with z | z
      · omega
      · have : 2 ^ (r - 1) < 2 ^ Ls.length := by omega
        have := (Nat.pow_lt_pow_iff_right (by decide : 1 < 2)).mp this
        omega
    wtm_at "rd"
    refine ite_d (fun _ => ?_) (fun h => absurd (by omega) h)
    wtm_at "rd"
    rw [decide_eq_true (by omega)]
    exact kk H4 k04
theorem c_l_asked (T : Cx K mg) (B : Tb P w K mg base) : CalX P w K mg base CX0 4 "_law_asked" (sp_l_asked K) [] := by
  obtain ⟨fd, F, ok⟩ := f_l_asked (P := P) (w := w) (base := base) T B
  exact ⟨_, fd, p_l_asked, [], ok, gl_l_asked T, F.kp, FunD.bindsN F fun _ _ _ _ _ _ us hl => match us, hl with | [_, _, _], _ => rfl, .nil⟩
end
section
variable {P : Program} {w : World} {K : PySem.W.Frag} {mg : Str → Option Value} {base : Heap}
def sp_law (K : PySem.W.Frag) : Sp := fun vs H Q E => ∃ (a : Addr) (ns : List Int), vs = [.ref a] ∧ (SqL K H a (ns.map V.int)) ∧ (ns.length ≤ 63) ∧ (LamX.Tabs (TT K) H) ∧ (∀ H1, Q (.bl true) H1)
theorem us_law {K : PySem.W.Frag} {H : Hp} {Q : VK} {E : XK} {a : Addr} {ns : List Int} (hS : SqL K H a (ns.map V.int)) (hl : ns.length ≤ 63) (hT : LamX.Tabs (TT K) H) (kk : ∀ H1, Q (.bl true) H1) : sp_law K [.ref a] H Q E := ⟨_, _, rfl, hS, hl, hT, kk⟩
theorem f_law (T : Cx K mg) (B : Tb P w K mg base) : ∃ fd, FunD K "law" "law" (defArgs s_law) (defBody s_law) (defScope s_law) (d_law.dvs K) (d_law.kws K) (fAd K d_law.at_) fd ∧ FnOk P w K mg base CX0 5 (fAd K d_law.at_) fd p_law (sp_law K) := by
  have c_l_purse := c_l_purse (P := P) (w := w) (base := base) T B
  have c_l_draw := c_l_draw (P := P) (w := w) (base := base) T B
  have c_l_seats := c_l_seats (P := P) (w := w) (base := base) T B
  have c_l_tree := c_l_tree (P := P) (w := w) (base := base) T B
  have c_l_calls := c_l_calls (P := P) (w := w) (base := base) T B
  have c_l_bent := c_l_bent (P := P) (w := w) (base := base) T B
  have c_l_asked := c_l_asked (P := P) (w := w) (base := base) T B
  obtain ⟨fd, F⟩ := T.says.def_ 14 (d := d_law) rfl
  refine ⟨fd, F, fnD F sc_law (fun vs H Q E h => by
    obtain ⟨_, _, rfl, _⟩ := h
    rfl) fun cdv A outer s H vs Q E hr h => ?_⟩
  have hu := hu_of hr
  obtain ⟨a, ns, rfl, hS, hl, hT, kk⟩ := h
  refine ⟨_, (pss_cons (ps_set (i := 1) sc_law.nd rfl (by first | exact Or.inl rfl | exact Or.inr rfl) (pe_cal c_l_purse hr (by decide) (by rfl) pass0 (pa_cons (pv 0) pa_nil))) (pss_cons (ps_set (i := 2) sc_law.nd rfl (by first | exact Or.inl rfl | exact Or.inr rfl) (pe_cal c_l_seats hr (by decide) (by rfl) pass0 (pa_cons (pv 1) (pa_cons pe_int (pa_cons (pe_ix ix_list (pe_lst (pa_cons pe_int (pa_cons pe_int (pa_cons pe_int (pa_cons pe_int (pa_cons pe_int (pa_cons pe_int (pa_cons pe_int (pa_cons pe_int pa_nil))))))))) (pe_cal c_l_draw hr (by decide) (by rfl) pass0 (pa_cons (pv 1) (pa_cons pe_int pa_nil))) (fun _ _ => rfl)) pa_nil))))) (pss_cons (ps_set (i := 3) sc_law.nd rfl (by first | exact Or.inl rfl | exact Or.inr rfl) (pe_ix ix_list (pv 2) (pe_cal c_l_draw hr (by decide) (by rfl) pass0 (pa_cons (pv 1) (pa_cons (pe_callB call_lenS (by rfl) (fr_len T) (by decide +kernel) (pa_cons (pv 2) pa_nil)) pa_nil))) (fun _ _ => rfl))) (pss_cons (ps_set (i := 4) sc_law.nd rfl (by first | exact Or.inl rfl | exact Or.inr rfl) (pe_cal c_l_draw hr (by decide) (by rfl) pass0 (pa_cons (pv 1) (pa_cons pe_int pa_nil)))) (C8.pss_cut (ps_if (pt_cmpR op_eq (pv 4) pe_int (nomark _)) (pss_one (ps_set (i := 5) sc_law.nd rfl (by first | exact Or.inl rfl | exact Or.inr rfl) (pe_cal c_l_tree hr (by decide) (by rfl) pass0 (pa_cons (pv 1) (pa_cons (pv 2) (pa_cons (pv 3) pa_nil)))))) (pss_one (ps_set (i := 5) sc_law.nd rfl (by first | exact Or.inl rfl | exact Or.inr rfl) (pe_cal c_l_calls hr (by decide) (by rfl) pass0 (pa_cons (pv 1) (pa_cons (pv 2) (pa_cons (pv 3) (pa_cons (pv 4) pa_nil)))))))) (pss_cons (ps_set (i := 6) sc_law.nd rfl (by first | exact Or.inl rfl | exact Or.inr rfl) (pv 5)) (pss_cons (ps_for PassesOwn.never rfl (pi_range1 (by rfl) (fr_range T) (pa_cons (pe_op op_add pe_int (pe_cal c_l_draw hr (by decide) (by rfl) pass0 (pa_cons (pv 1) (pa_cons pe_int pa_nil)))) pa_nil)) (pg_name (i := 7) sc_law.nd rfl (by first | exact Or.inl rfl | exact Or.inr rfl)) (pss_one (ps_set (i := 6) sc_law.nd rfl (by first | exact Or.inl rfl | exact Or.inr rfl) (pe_cal c_l_bent hr (by decide) (by rfl) pass0 (pa_cons (pv 1) (pa_cons (pv 2) (pa_cons (pv 6) pa_nil))))))) (pss_cons (ps_for PassesOwn.never rfl (pi_list (pe_lst (pa_cons (pv 5) (pa_cons (pv 6) (pa_cons (pv 5) pa_nil))))) (pg_name (i := 8) sc_law.nd rfl (by first | exact Or.inl rfl | exact Or.inr rfl)) (pss_one (ps_if (pt_not (pt_val (pe_cal c_l_asked hr (by decide) (by rfl) pass0 (pa_cons (pv 2) (pa_cons (pv 3) (pa_cons (pv 8) pa_nil)))))) (pss_one (ps_ret pe_bl)) pss_nil))) (pss_one (ps_ret pe_bl)))))))))), ?_⟩
  rw [show L2.start n_law [.ref a] = [some (.ref a), none, none, none, none, none, none, none, none] from rfl]
  try dsimp only [cxOf, Cx.nox, Cx.wish, List.map]

  clear hT
  wtm_at "rd"
  refine us_l_purse hS hl fun p c H1 B1 k1 np nc => ?_
  wtm_at "rd"
  refine ⟨sz1000 (by simp), fun q nq => ?_⟩
  have B2 := B1.k0 (Kp.new (o := .lst [.int 4, .int 3, .int 5, .int 6, .int 2, .int 8, .int 1, .int 12]) nq)
  have hq2 : upd H1 q (.lst [.int 4, .int 3, .int 5, .int 6, .int 2, .int 8, .int 1, .int 12]) q = some (.lst [.int 4, .int 3, .int 5, .int 6, .int 2, .int 8, .int 1, .int 12]) := upd_same
  generalize upd H1 q (.lst [.int 4, .int 3, .int 5, .int 6, .int 2, .int 8, .int 1, .int 12]) = H2 at *
  wtm_at "rd"
  refine us_l_draw B2 (by decide) (by decide) fun i H3 i0 i1 B3 k3 => ?_
  have hq3 := k3.g1 (B2.off hq2) hq2
  obtain ⟨m, hm, m0, m8⟩ : ∃ m : Int, atI [V.int 4, .int 3, .int 5, .int 6, .int 2, .int 8, .int 1, .int 12] i = some (.int m) ∧ 1 ≤ m ∧ m ≤ 12 := by
    have : i = 0 ∨ i = 1 ∨ i = 2 ∨ i = 3 ∨ i = 4 ∨ i = 5 ∨ i = 6 ∨ i = 7 := by omega
    rcases this with rfl | rfl | rfl | rfl | rfl | rfl | rfl | rfl <;> exact ⟨_, rfl, by decide, by decide⟩
  wtm_at "rd"
  refine us_l_seats B3 m0 (by omega) (by decide) fun l xs H4 hxr hl4 hN hlen B4 k4 nl => ?_
  have hx : 1 ≤ xs.length ∧ xs.length ≤ 12 := by omega
  wtm_at "rd"
  refine us_l_draw B4 (by omega) (by omega) fun n H5 n0 n1 B5 k5 => ?_
  have hl5 := k5.g1 (B4.off hl4) hl4
  have hn : n.toNat < xs.length := by omega
  have hat : atI (xs.map V.int) n = some (.int xs[n.toNat]) := by
    rw [atI_ints n0 (by omega), List.getD_eq_getElem?_getD, List.getElem?_eq_getElem hn]
    rfl
  have ho := List.getElem_mem hn
  generalize xs[n.toNat] = o at hat ho
  wtm_at "rd"
  refine us_l_draw B5 (by decide) (by decide) fun st H6 s0 s1 B6 k6 => ?_
  have hl6 := k6.g1 (B5.off hl5) hl5
  wtm_at "rd"
  refine rd_cut (fun σ H7 => ∃ (F : Addr) (ls : List Addr) (Ls : Pln), σ = [some (.ref a), some (.ref p), some (.ref l), some (.int o), some (.int st), some (.ref F), none, none, none] ∧ H7 F = some (.lst (ls.map V.ref)) ∧ Lines H7 ls Ls ∧ Sm 16 12 Ls ∧ Purse H7 p c ∧ Kp [p] H6 H7) ?_ ?_
  · wtm_at "rd"
    refine ite_d (fun hz => ?_) (fun hz => ?_)
    · wtm_at "rd"
      refine us_l_tree B6 hl6 hx.2 fun F ls Ls H7 hF hL hS7 B7 k7 => ?_
      wtm_at "rd"
      exact ⟨F, ls, Ls, rfl, hF, hL, hS7, B7, k7⟩
    · wtm_at "rd"
      refine us_l_calls B6 hl6 hx.2 ho fun F ls Ls H7 hF hL hS7 B7 k7 => ?_
      wtm_at "rd"
      exact ⟨F, ls, Ls, rfl, hF, hL, hS7, B7, k7⟩
  rintro σ H7 ⟨F, ls, Ls, rfl, hF, hL, hS7, B7, k7⟩
  have hl7 := k7.g1 (B6.off hl6) hl6
  wtm_at "rd"
  refine us_l_draw B7 (by decide) (by decide) fun m3 H8 m30 m31 B8 k8 => ?_
  have hF8 := k8.g1 (B7.off hF) hF
  have hL8 := Lines.pp hL B7 k8
  have hl8 := k8.g1 (B7.off hl7) hl7
  wtm_at "rd"
  refine forR_by (fun i σ H9 => (∃ (G : Addr) (v7 : Option V), σ = [some (.ref a), some (.ref p), some (.ref l), some (.int o), some (.int st), some (.ref F), some (.ref G), v7, none] ∧ ∃ (ms : List Addr) (Ms : Pln), H9 G = some (.lst (ms.map V.ref)) ∧ Lines H9 ms Ms ∧ Sm (16 + 3 * i) (12 + 3 * i) Ms) ∧ Purse H9 p c ∧ Kp [p] H8 H9) ?_ ?_ ?_
  · exact ⟨⟨F, _, rfl, ls, Ls, hF8, hL8, hS7⟩, B8, Kp.refl⟩
  · rintro i σ H9 hi ⟨⟨G, v7, rfl, ms, Ms, hG, hM, hSM⟩, B9, k9⟩
    have hi3 : i < 3 := by omega
    have hl9 := k9.g1 (B8.off hl8) hl8
    wtm_at "rd"
    refine us_l_bent B9 hl9 hx hG hM hSM (by omega) fun G2 ms2 Ms2 H10 hG2 hM2 hS2 B10 k10 => ?_
    wtm_at "rd"
    exact ⟨⟨G2, _, rfl, ms2, Ms2, hG2, hM2, hS2⟩, B10, k9.trans k10⟩
  · rintro σ H9 ⟨⟨G, v7, rfl, ms, Ms, hG, hM, hSM⟩, B9, k9⟩
    have hl9 := k9.g1 (B8.off hl8) hl8
    have hF9 := k9.g1 (B8.off hF8) hF8
    have hL9 := Lines.pp hL8 B8 k9
    have hSF : Sm 100 100 Ls := hS7.mono (by decide) (by decide)
    have hSG : Sm 100 100 Ms := hSM.mono (by omega) (by omega)
    wtm_at "rd"
    refine ⟨sz1000 (by simp), fun u nu => ?_⟩
    have ku : Kp [] H9 (upd H9 u (.lst [.ref F, .ref G, .ref F])) := Kp.new nu
    have hl10 := ku.g0 hl9
    have hF10 := ku.g0 hF9
    have hG10 := ku.g0 hG
    have hL10 := Lines.kp hL9 ku
    have hM10 := Lines.kp hM ku
    have hu10 : upd H9 u (.lst [.ref F, .ref G, .ref F]) u = some (.lst [.ref F, .ref G, .ref F]) := upd_same
    generalize upd H9 u (.lst [.ref F, .ref G, .ref F]) = H10 at *
    wtm_at "rd"
    refine forL_by (K := K) [.ref F, .ref G, .ref F] (fun j σ H11 => (∃ v8, σ = [some (.ref a), some (.ref p), some (.ref l), some (.int o), some (.int st), some (.ref F), some (.ref G), v7, v8]) ∧ Kp [] H10 H11) ⟨⟨_, rfl⟩, Kp.refl⟩ (fun j σ H11 _ q => SqL.of (q.2.g0 hu10)) ?_ ?_
    · rintro j x σ H11 hx2 ⟨⟨v8, rfl⟩, k11⟩
      have hl11 := k11.g0 hl10
      have pick : x = .ref F ∨ x = .ref G := by
        have := List.mem_of_getElem? hx2
        simp only [List.mem_cons, List.not_mem_nil, or_false] at this
        rcases this with h | h | h
        · exact .inl h
        · exact .inr h
        · exact .inl h
      rcases pick with rfl | rfl
      · wtm_at "rd"
        refine us_l_asked hl11 (k11.g0 hF10) (Lines.kp hL10 k11) hSF hN ho hx fun H12 k12 => ?_
        wtm_at "rd"
        exact ⟨⟨_, rfl⟩, k11.trans k12⟩
      · wtm_at "rd"
        refine us_l_asked hl11 (k11.g0 hG10) (Lines.kp hM10 k11) hSG hN ho hx fun H12 k12 => ?_
        wtm_at "rd"
        exact ⟨⟨_, rfl⟩, k11.trans k12⟩
    · rintro σ H11 ⟨⟨v8, rfl⟩, k11⟩
      wtm_at "rd"
      exact kk _
end

abbrev hk : PySem.W.Hook := hookQ PySem.Challenge.pw_livingroll_k22_whole_plans_judged 6 fa fn gs es ys tabs tf ex
def ob (s : PySem.W.SharedT) : AlQ := obsQ PySem.Challenge.pw_livingroll_k22_whole_plans_judged 6 fa fn gs es ys tabs tf ex (HandSHeadRun.getT s)
theorem ob_eq (s : PySem.W.SharedT) : ob s = hk.obs s.abs := obsQ_eq (HandSHeadRun.getT_eq s)
def names : List Str := (["GroupError", "InvalidSetting", "InvalidPlan", "DeedRefused", "TooMuch", "reached_by", "judge_plan", "_law_purse", "_law_mixed", "_law_draw", "_law_seats", "_law_number", "_law_least", "_law_judged", "_law_tree", "_law_calls", "_law_bent", "_law_back", "_law_asked"] : List Str)
theorem run (w : World) : HandSHeadRun.RunEq R (PySem.W.view R.prog [22]) hk ob 6000 names w := by
  intro os
  kernel_rfl
theorem law_all {P : Program} {w : World} {K : PySem.W.Frag} {mg : Str → Option Value} (T : Cx K mg) :
    ∃ fd : FuncData, (∀ (s : Shared) (v : Value), BindsTo s fd ⟨[v], []⟩ [("_law_script", v)]) ∧ ∀ base : Heap, Tb P w K mg base → FnOk P w K mg base CX0 5 (ga K "law") fd ["_law_script"] (sp_law K) := by
  obtain ⟨fd, F⟩ := T.says.def_ 14 (d := d_law) rfl
  have b := FunD.bindsA (ps := ["_law_script"]) F fun _ _ _ _ _ _ us hl => match us, hl with | [_], _ => rfl
  refine ⟨fd, fun s v => b s [v] rfl, fun base B => ?_⟩
  obtain ⟨fd2, F2, ok⟩ := f_law (P := P) (w := w) (base := base) T B
  have e : fd2 = fd := by
    obtain ⟨oc, od, dV, kV, doc, pm, an, cdv, ct, osl, e1, l1, -⟩ := F.ex
    obtain ⟨oc2, od2, dV2, kV2, doc2, pm2, an2, cdv2, ct2, osl2, e2, l2, -⟩ := F2.ex
    rw [l1] at l2
    injection l2 with l3
    injection l3 with _ _ l4 _
    injection l4 with l5
    exact l5.symm
  subst e
  exact ok

end My

open PySem PySem.W PySem.Calls PyProof.Rows
set_option maxRecDepth 100000 in
set_option maxHeartbeats 0 in
theorem PySem.Challenge.cw_livingroll_k22_whole_plans_judged_holds : PySem.Challenge.rw_livingroll_k22_whole_plans_judged.Holds := by
  w_on; o_law
  refine HandSHeadRun.head_any (r := OpenLaw.row PySem.Challenge.rw_livingroll_k22_whole_plans_judged) (q := view (OpenLaw.row PySem.Challenge.rw_livingroll_k22_whole_plans_judged).prog [22]) (H := My.hk) (ob := My.ob) (M := 6000) (loose := My.names) (d := HandSHeadRun.topDef (OpenLaw.row PySem.Challenge.rw_livingroll_k22_whole_plans_judged).prog 22) (kwd := []) My.ob_eq
    (by kernel_rfl) (fun s => by kernel_rfl) My.run (by kernel_rfl) (by kernel_rfl) (by kernel_rfl) (by rfl) (by first | assumption | decide +kernel) (by decide +kernel) ⟨rfl, rfl, rfl, rfl, rfl, by decide +kernel⟩ ?hw ?hc
  case hw => w_witness2
  case hc =>
    refine LamX.walk_ofTsE (l := PySem.Challenge.rw_livingroll_k22_whole_plans_judged) (n := 63) (k := 5) (x := "_law_script") (CX := fun _ => L2.CX0) rfl (by decide) (by kernel_rfl) ⟨rfl, by decide, by decide⟩ ?F (fun _ _ _ _ _ z => z)
    intro w mg fa h Y G hmg0
    obtain ⟨K, KX, c⟩ := Y
    have hmg : mg ("law" : PySem.Str) = some (.ref fa) := by
      have e : (HandSHeadRun.topDef (OpenLaw.row PySem.Challenge.rw_livingroll_k22_whole_plans_judged).prog 22).name = ("law" : PySem.Str) := by kernel_rfl
      rw [← e]
      exact hmg0
    have T : My.Cx K mg := ⟨c.x.t.d, c.x.more, h, KX, G⟩
    have e := hmg.symm.trans (My.gl_law T)
    cases e
    obtain ⟨fd, hb, hF⟩ := My.law_all (P := PySem.Challenge.pw_livingroll_k22_whole_plans_judged) (w := w) T
    refine ⟨K, KX, fd, My.tf.map (He.cT K), My.sp_law K, fun p hp => ?_, fun p hp => ?_, fun p hp => ?_, hb, fun H a ns hl _ hH hS => ⟨a, ns, rfl, hS, hl, RD.tabs_nil (tf := My.tf) (K := K) rfl hH, fun _ => rfl⟩, fun base _ _ B => hF base ⟨B, fun d hd => c.get hd, fun d hd => c.err KX G hd (My.efs d hd), fun t ht => c.tabd ht⟩⟩
    · obtain ⟨q, hq, rfl⟩ := List.mem_map.mp hp
      exact c.x.empty q hq
    · obtain ⟨q, hq, rfl⟩ := List.mem_map.mp hp
      exact c.x.out q hq
    · obtain ⟨q, hq, rfl⟩ := List.mem_map.mp hp
      exact PySem.W.codeHd_of_K KX (c.x.hd q hq)
