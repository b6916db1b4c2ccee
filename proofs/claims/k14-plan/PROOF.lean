import PyProof.Rows.All
import Wide.All
import OpenK.AllK
import Wide.FinOn
import KE.KStateDown
import Lean
import HandS.ForMost
import HandS.Flow
import HandS.IsInst
import HandS.DictTup
import HandS.Codes
import HandS.Defaults
import HandS.Head0
import HandS.Head1
import HandS.Head2
import HandS.HeadEnd
import HandS.HeadHook1
import HandS.HeadHook2
import HandS.HeadHook3
import HandS.Conv
import HandS.Property
import KE.SortKeyHeap
import KE.KMinKey
import HandS.Lambda
import HandS.Sort
import HandS.HeadHook4
import HandS.HeadWalk
import HandS.Property
import HandS.Style
import HandS.MakeKwOnly
import HandS.Wide
import HandS.More
import HandS.DictComp
import HandS.DeepEq
import HandS.GenList
import HandS.Flow
import PyProof.LongRange
import HandS.SortInts
import PySem.Challenge.RW_livingroll_k14_targets_and_plan_rounds
set_option Elab.async false
set_option linter.all false
set_option maxRecDepth 100000
set_option maxHeartbeats 4000000
/-! own layer: the head by facts, one lemma for each reading, a step tactic -/
namespace RD
open PySem PySem.Spec PyProof.Rows L2 He

/-! ### frames: what stays -/
def Kp (ps : List Addr) (H H' : Hp) : Prop := ∀ b o, H b = some o → b ∉ ps → H' b = some o
theorem Kp.refl {ps : List Addr} {H : Hp} : Kp ps H H := fun _ _ h _ => h
theorem Kp.trans {ps : List Addr} {H H1 H2 : Hp} (a : Kp ps H H1) (b : Kp ps H1 H2) : Kp ps H H2 := fun c o h n => b c o (a c o h n) n
theorem Kp.mono {ps qs : List Addr} {H H' : Hp} (a : Kp ps H H') (h : ∀ p, p ∈ ps → p ∈ qs) : Kp qs H H' := fun c o e n => a c o e fun m => n (h c m)
theorem Kp.of0 {qs : List Addr} {H H' : Hp} (a : Kp [] H H') : Kp qs H H' := fun c o e _ => a c o e (by simp)
theorem Kp.new {ps : List Addr} {H : Hp} {p : Addr} {o : HO} (h : H p = none) : Kp ps H (upd H p o) := fun b u e _ => by
  rw [upd_ne (ne_of_none e h)]
  exact e
theorem Kp.wr {ps : List Addr} {H H' : Hp} {p : Addr} {o : HO} (a : Kp ps H H') (h : p ∈ ps) : Kp ps H (upd H' p o) := fun b u e n => by
  have hb : b ≠ p := by
    intro z
    subst z
    exact n h
  rw [upd_ne hb]
  exact a b u e n
theorem Kp.nw {ps : List Addr} {H H' : Hp} {p : Addr} {o : HO} (a : Kp ps H H') (h : H' p = none) : Kp ps H (upd H' p o) := a.trans (Kp.new h)
/-- an object made behind H is written -/
theorem Kp.mine {ps : List Addr} {H H' : Hp} {p : Addr} {o : HO} (a : Kp ps H H') (h : H p = none) : Kp ps H (upd H' p o) := fun b u e n => by
  rw [upd_ne (ne_of_none e h)]
  exact a b u e n
theorem Kp.g0 {H H' : Hp} {b : Addr} {o : HO} (a : Kp [] H H') (e : H b = some o) : H' b = some o := a b o e (by simp)
theorem Kp.g1 {p : Addr} {H H' : Hp} {b : Addr} {o : HO} (a : Kp [p] H H') (n : b ≠ p) (e : H b = some o) : H' b = some o := a b o e (by simp [n])
theorem Kp.g2 {p q : Addr} {H H' : Hp} {b : Addr} {o : HO} (a : Kp [p, q] H H') (n : b ≠ p) (m : b ≠ q) (e : H b = some o) : H' b = some o := a b o e (by simp [n, m])
theorem Kp.g3 {p q r : Addr} {H H' : Hp} {b : Addr} {o : HO} (a : Kp [p, q, r] H H') (n : b ≠ p) (m : b ≠ q) (l : b ≠ r) (e : H b = some o) : H' b = some o := a b o e (by simp [n, m, l])
theorem Kp.back {ps : List Addr} {H H' : Hp} (a : Kp ps H H') {l : Addr} (h : H' l = none) (n : l ∉ ps) : H l = none := by
  cases q : H l with
  | none => rfl
  | some o =>
    rw [a l o q n] at h
    cases h
theorem Kp.via {ps qs : List Addr} {H H' H2 : Hp} (a : Kp ps H H') (b : Kp qs H' H2) (n : ∀ q, q ∈ qs → q ∈ ps ∨ H q = none) : Kp ps H H2 := fun c o e m => b c o (a c o e m) fun z => by
  rcases n c z with z | z
  · exact m z
  · rw [z] at e
    cases e
theorem Kp.via1 {ps : List Addr} {p : Addr} {H H' H2 : Hp} (a : Kp ps H H') (b : Kp [p] H' H2) (n : H p = none) : Kp ps H H2 := a.via b fun q hq => by
  rw [List.mem_singleton.mp hq]
  exact .inr n
theorem rd_kp {ps : List Addr} {H H' : Hp} {b : Addr} {u : HO} (a : Kp ps H H') (n : b ∉ ps) (h : Rd H b u) : Rd H' b u := by
  rcases h with h | ⟨o, h⟩
  · exact .inl (a _ _ h n)
  · exact .inr ⟨o, a _ _ h n⟩
theorem sl_kp {K : PySem.W.Frag} {ps : List Addr} {H H' : Hp} {b : Addr} {xs : List V} (a : Kp ps H H') (n : b ∉ ps) (h : SqL K H b xs) : SqL K H' b xs := by
  rcases h with h | h
  · exact .inl (rd_kp a n h)
  · exact .inr h
theorem st_kp {K : PySem.W.Frag} {ps : List Addr} {H H' : Hp} {b : Addr} {xs : List V} (a : Kp ps H H') (n : b ∉ ps) (h : SqT K H b xs) : SqT K H' b xs := by
  rcases h with h | h
  · exact .inl (rd_kp a n h)
  · exact .inr h
theorem sl_upd {K : PySem.W.Frag} {H : Hp} {b p : Addr} {o : HO} {xs : List V} (n : b ≠ p) (h : SqL K H b xs) : SqL K (upd H p o) b xs :=
  sl_kp (ps := [p]) (fun c u e m => by rw [upd_ne (by simpa using m)]; exact e) (by simpa using n) h
theorem st_upd {K : PySem.W.Frag} {H : Hp} {b p : Addr} {o : HO} {xs : List V} (n : b ≠ p) (h : SqT K H b xs) : SqT K (upd H p o) b xs :=
  st_kp (ps := [p]) (fun c u e m => by rw [upd_ne (by simpa using m)]; exact e) (by simpa using n) h
theorem hu_ne {H : Hp} {a b : Addr} {o u : HO} (n : b ≠ a) (e : H b = some u) : upd H a o b = some u := by
  rw [upd_ne n]
  exact e
theorem upd_is {H : Hp} {a : Addr} {o o' : HO} (e : o = o') : upd H a o a = some o' := by
  rw [e]
  exact upd_same
theorem ne_fresh {H : Hp} {a b : Addr} {o : HO} (h : upd H a o b = none) : a ≠ b := ne_of_none upd_same h
theorem hn_ne {H : Hp} {a b : Addr} {o : HO} (n : b ≠ a) (e : H b = none) : upd H a o b = none := by
  rw [upd_ne n]
  exact e

/-! ### readings, one lemma each -/
section
variable {K : PySem.W.Frag} {σ : L2.St} {H : Hp} {nx bk ct : L2.St → Hp → Prop} {rt : VK} {t u : TS} {te ta tb tc : TE} {tt tu : TT} {ar : TA} {Q : VK} {QB : Bool → Hp → Prop} {QA : List V → Hp → Prop} {v x y : V} {i j : Int}
abbrev En (nx : L2.St → Hp → Prop) (rt : VK) (bk ct : L2.St → Hp → Prop) : Ends := ⟨nx, rt, bk, ct⟩
theorem rd_seq (h : t ⟨u ⟨nx, rt, bk, ct⟩, rt, bk, ct⟩ σ H) : tSeq t u ⟨nx, rt, bk, ct⟩ σ H := h
theorem rd_next (h : nx σ H) : tNext ⟨nx, rt, bk, ct⟩ σ H := h
theorem rd_brk (h : bk σ H) : tBreak ⟨nx, rt, bk, ct⟩ σ H := h
theorem rd_cont (h : ct σ H) : tCont ⟨nx, rt, bk, ct⟩ σ H := h
theorem rd_asg {g : TG} (h : te σ H fun x H1 => g x σ H1 nx) : tAsg te g ⟨nx, rt, bk, ct⟩ σ H := h
theorem rd_ret (h : te σ H rt) : tRet te ⟨nx, rt, bk, ct⟩ σ H := h
theorem rd_retN (h : rt .non H) : tRetN ⟨nx, rt, bk, ct⟩ σ H := h
theorem rd_drop (h : te σ H fun _ H1 => nx σ H1) : tDrop te ⟨nx, rt, bk, ct⟩ σ H := h
theorem rd_ifS {D : Ends} (h : tt σ H fun b H1 => if b = true then t D σ H1 else u D σ H1) : tIfS tt t u D σ H := h
theorem rd_cut (M : L2.St → Hp → Prop) (h : t ⟨M, rt, bk, ct⟩ σ H) (k : ∀ σ' H', M σ' H' → u ⟨nx, rt, bk, ct⟩ σ' H') : C8.tCut t u ⟨nx, rt, bk, ct⟩ σ H := ⟨M, h, k⟩
theorem rd_gname {n : Nat} {Q : L2.St → Hp → Prop} (h : Q (σ.set n (some v)) H) : gName n v σ H Q := h
theorem rd_gsub {to ti : TE} {s : TSet} {Q : L2.St → Hp → Prop} (h : to σ H fun o H1 => ti σ H1 fun i H2 => s o i v H2 fun H3 => Q σ H3) : gSub to ti s v σ H Q := h
theorem rd_gtup {n : Nat} {g : TGs} {a : Addr} {xs : List V} {Q : L2.St → Hp → Prop} (h : SqT K H a xs) (e : xs.length = n) (q : g xs σ H Q) : gTup K n g (.ref a) σ H Q := ⟨a, xs, rfl, h, e, q⟩
theorem rd_gcons {g : TG} {gs : TGs} {r : List V} {Q : L2.St → Hp → Prop} (q : g v σ H fun σ' H' => gs r σ' H' Q) : gCons g gs (v :: r) σ H Q := ⟨v, r, rfl, q⟩
theorem rd_gnil {Q : L2.St → Hp → Prop} (q : Q σ H) : gNil [] σ H Q := ⟨rfl, q⟩
theorem rd_setL {p : Addr} {xs : List V} {k : Int} {j : Nat} {Q : Hp → Prop} (hp : H p = some (.lst xs)) (hj : ixN xs.length k = some j) (q : Q (upd H p (.lst (xs.set j v)))) : rSetL (.ref p) (.int k) v H Q := ⟨p, xs, k, j, rfl, rfl, hp, hj, q⟩
theorem rd_var {n : Nat} (e : σ[n]? = some (some v)) (h : Q v H) : tVar n σ H Q := ⟨v, e, h⟩
theorem rd_c (h : Q v H) : tC v σ H Q := h
theorem rd_op {r : R2} (h : ta σ H fun x H1 => tb σ H1 fun y H2 => r x y H2 Q) : tOp r ta tb σ H Q := h
theorem rd_un {r : V → Hp → VK → Prop} (h : ta σ H fun x H1 => r x H1 Q) : tUn r ta σ H Q := h
theorem rd_I0 {g : Int → Int → V} (h : Q (g i j) H) : rI0 g (.int i) (.int j) H Q := ⟨i, j, rfl, rfl, h⟩
theorem rd_I {C : Int → Int → Prop} {g : Int → Int → V} (c : C i j) (h : Q (g i j) H) : rI C g (.int i) (.int j) H Q := ⟨i, j, rfl, rfl, c, h⟩
theorem rd_U {g : Int → V} (h : Q (g i) H) : rU g (.int i) H Q := ⟨i, rfl, h⟩
theorem rd_eqI (h : Q (.bl (decide (i = j))) H) : rEq (.int i) (.int j) H Q := ⟨rfl, by
  rw [show decide (V.int i = V.int j) = decide (i = j) from decide_eq_decide.mpr ⟨fun e => V.int.inj e, fun e => congrArg V.int e⟩]
  exact h⟩
theorem rd_neI (h : Q (.bl (!decide (i = j))) H) : rNe (.int i) (.int j) H Q := ⟨rfl, by
  rw [show decide (V.int i = V.int j) = decide (i = j) from decide_eq_decide.mpr ⟨fun e => V.int.inj e, fun e => congrArg V.int e⟩]
  exact h⟩
theorem rd_eqS {a b : Str} (h : Q (.bl (decide (a = b))) H) : rEq (.str a) (.str b) H Q := ⟨rfl, by
  rw [show decide (V.str a = V.str b) = decide (a = b) from decide_eq_decide.mpr ⟨fun e => V.str.inj e, fun e => congrArg V.str e⟩]
  exact h⟩
theorem rd_neS {a b : Str} (h : Q (.bl (!decide (a = b))) H) : rNe (.str a) (.str b) H Q := ⟨rfl, by
  rw [show decide (V.str a = V.str b) = decide (a = b) from decide_eq_decide.mpr ⟨fun e => V.str.inj e, fun e => congrArg V.str e⟩]
  exact h⟩
theorem rd_eqB {a b : Bool} (h : Q (.bl (decide (a = b))) H) : rEq (.bl a) (.bl b) H Q := ⟨rfl, by
  rw [show decide (V.bl a = V.bl b) = decide (a = b) from decide_eq_decide.mpr ⟨fun e => V.bl.inj e, fun e => congrArg V.bl e⟩]
  exact h⟩
theorem rd_neB {a b : Bool} (h : Q (.bl (!decide (a = b))) H) : rNe (.bl a) (.bl b) H Q := ⟨rfl, by
  rw [show decide (V.bl a = V.bl b) = decide (a = b) from decide_eq_decide.mpr ⟨fun e => V.bl.inj e, fun e => congrArg V.bl e⟩]
  exact h⟩
theorem rd_eq (s : scal x y = true) (h : Q (.bl (decide (x = y))) H) : rEq x y H Q := ⟨s, h⟩
theorem rd_ne (s : scal x y = true) (h : Q (.bl (!decide (x = y))) H) : rNe x y H Q := ⟨s, h⟩
theorem rd_test (h : te σ H fun x H1 => ∃ k, x = .bl k ∧ QB k H1) : tTest te σ H QB := h
theorem rd_tB (h : te σ H fun x H1 => ∃ k, x = .bl k ∧ QB k H1) : tB te σ H QB := h
theorem rd_exb {b : Bool} {P : Bool → Prop} (h : P b) : ∃ k, V.bl b = V.bl k ∧ P k := ⟨b, rfl, h⟩
theorem rd_and (h : tt σ H fun c H1 => if c = true then tu σ H1 QB else QB false H1) : tAnd tt tu σ H QB := h
theorem rd_or (h : tt σ H fun c H1 => if c = true then QB true H1 else tu σ H1 QB) : tOr tt tu σ H QB := h
theorem rd_not (h : tt σ H fun c H1 => QB (!c) H1) : tNot tt σ H QB := h
theorem rd_andV (h : ta σ H fun x H1 => ∃ c, x = .bl c ∧ if c = true then tb σ H1 Q else Q (.bl false) H1) : tAndV ta tb σ H Q := h
theorem rd_orV (h : ta σ H fun x H1 => ∃ c, x = .bl c ∧ if c = true then Q (.bl true) H1 else tb σ H1 Q) : tOrV ta tb σ H Q := h
theorem rd_notV (h : ta σ H fun x H1 => ∃ c, x = .bl c ∧ Q (.bl (!c)) H1) : tNotV ta σ H Q := h
theorem rd_ifE (h : tt σ H fun c H1 => if c = true then ta σ H1 Q else tb σ H1 Q) : tIf tt ta tb σ H Q := h
theorem rd_isN (h : ta σ H fun x H1 => Q (.bl (decide (x = .non))) H1) : tIsN ta σ H Q := h
theorem rd_notN (h : ta σ H fun x H1 => Q (.bl (!decide (x = .non))) H1) : tNotN ta σ H Q := h
theorem rd_tru {b : Bool} {P : Bool → Prop} (e : TruV K x H b) (h : P b) : ∃ k, TruV K x H k ∧ P k := ⟨b, e, h⟩
theorem rd_CB {r : List V → Hp → VK → Prop} (h : ar σ H fun vs H1 => r vs H1 Q) : tCB r ar σ H Q := h
theorem rd_nil (h : QA [] H) : tNil σ H QA := h
theorem rd_cons {tr : TA} (h : ta σ H fun x H1 => tr σ H1 fun xs H2 => QA (x :: xs) H2) : tCons ta tr σ H QA := h
theorem rd_call {sp : Sp} {E : XK} (h : ar σ H fun vs H1 => sp vs H1 Q E) : tCall sp [] E ar σ H Q := by
  unfold tCall
  have e : (fun vs H1 => sp (vs ++ []) H1 Q E) = fun vs H1 => sp vs H1 Q E := by
    funext vs H1
    rw [List.append_nil]
  rw [e]
  exact h
theorem rd_make {C : Addr} {sp : Sp} {dvs : List V} {E : XK} (h : ar σ H fun vs H1 => ∀ x dx, H1 x = none → H1 dx = none → dx ≠ x → sp (.ref x :: (vs ++ dvs)) (upd (upd H1 dx (.own x)) x (.ins C dx [])) (fun v H2 => v = .non ∧ Q (.ref x) H2) E) : tMake C sp dvs E ar σ H Q := h
theorem rd_callD {sp : Sp} {dvs : List V} {E : XK} (h : ar σ H fun vs H1 => sp (vs ++ dvs) H1 Q E) : tCall sp dvs E ar σ H Q := h
theorem rd_tup (h : ar σ H fun xs H1 => xs.length ≤ sizeLine ∧ ∀ p, H1 p = none → Q (.ref p) (upd H1 p (.tup xs))) : tTup ar σ H Q := h
theorem rd_lst (h : ar σ H fun xs H1 => xs.length ≤ sizeLine ∧ ∀ p, H1 p = none → Q (.ref p) (upd H1 p (.lst xs))) : tLst ar σ H Q := h
theorem rd_ixL {p : Addr} {xs : List V} (h : SqL K H p xs) (a : atI xs i = some v) (q : Q v H) : rIxL K (.ref p) (.int i) H Q := ⟨p, xs, i, v, rfl, rfl, h, a, q⟩
theorem rd_ixT {p : Addr} {xs : List V} (h : SqT K H p xs) (a : atI xs i = some v) (q : Q v H) : rIxT K (.ref p) (.int i) H Q := ⟨p, xs, i, v, rfl, rfl, h, a, q⟩
theorem rd_fld {f : Str} {a C dx : Addr} {fs : List (Str × V)} {P : V → Hp → Prop} (h : H a = some (.ins C dx fs)) (c : Cls K C) (n : NoAttr K C f) (l : fs.lookup f = some v) (q : Q v H) :
    ∃ a' C' dx' fs' v', V.ref a = V.ref a' ∧ H a' = some (.ins C' dx' fs') ∧ Cls K C' ∧ NoAttr K C' f ∧ fs'.lookup f = some v' ∧ Q v' H := ⟨a, C, dx, fs, v, rfl, h, c, n, l, q⟩
theorem rd_meth {C : Addr} {m : Str} {sp : Sp} {E : XK} (h : ta σ H fun x H1 => ∃ a dx fs, x = .ref a ∧ H1 a = some (.ins C dx fs) ∧ fs.lookup m = none ∧ ar σ H1 fun vs H2 => sp (x :: vs) H2 Q E) : tMeth C m sp [] E ta ar σ H Q := by
  unfold tMeth
  have e : (fun (x : V) (H1 : Hp) => ∃ a dx fs, x = V.ref a ∧ H1 a = some (.ins C dx fs) ∧ fs.lookup m = none ∧ ar σ H1 fun vs H2 => sp (x :: (vs ++ [])) H2 Q E) =
      fun (x : V) (H1 : Hp) => ∃ a dx fs, x = V.ref a ∧ H1 a = some (.ins C dx fs) ∧ fs.lookup m = none ∧ ar σ H1 fun vs H2 => sp (x :: vs) H2 Q E := by
    funext x H1
    simp only [List.append_nil]
  rw [e]
  exact h
theorem rd_methX {C a dx : Addr} {m : Str} {fs : List (Str × V)} {R : Prop} (h : H a = some (.ins C dx fs)) (l : fs.lookup m = none) (q : R) : ∃ a' dx' fs', V.ref a = V.ref a' ∧ H a' = some (.ins C dx' fs') ∧ fs'.lookup m = none ∧ R := ⟨a, dx, fs, rfl, h, l, q⟩
theorem rd_bm {T : String} {r : V → List V → Hp → VK → Prop} (h : ta σ H fun x H1 => tyV K T x H1 ∧ ar σ H1 fun xs H2 => r x xs H2 Q) : tBM K T r ta ar σ H Q := h
theorem rd_bm0 {T : String} {r : V → List V → Hp → VK → Prop} (h : ta σ H fun x H1 => tyV K T x H1 ∧ r x [] H1 Q) : tBM0 K T r ta σ H Q := h
theorem ty_l {p : Addr} {xs : List V} {B : Prop} (h : SqL K H p xs) (q : B) : tyV K "list" (.ref p) H ∧ B := ⟨.inl ⟨rfl, xs, h⟩, q⟩
theorem rd_append {p : Addr} {xs : List V} (h : H p = some (.lst xs)) (l : xs.length < sizeLine) (q : Q .non (upd H p (.lst (xs ++ [v])))) : rAppend (.ref p) [v] H Q := ⟨p, xs, v, rfl, rfl, h, l, q⟩
/-! #### built-ins under names -/
def rInt1 : List V → Hp → VK → Prop := fun xs H Q => (∃ i, xs = [.int i] ∧ Q (.int i) H) ∨ ∃ k, xs = [.bl k] ∧ Q (.int (if k then 1 else 0)) H
theorem call_int1' {X : Cx} : CallR X (.type "int") rInt1 := call_int1
theorem rd_int1 (h : Q (.int i) H) : rInt1 [.int i] H Q := .inl ⟨i, rfl, h⟩
def rAbs : List V → Hp → VK → Prop := fun xs H Q => ∃ i, xs = [.int i] ∧ Q (.int (if i < 0 then -i else i)) H
theorem call_abs' {X : Cx} : CallR X (.builtin "abs") rAbs := call_abs
theorem rd_abs (h : Q (.int (i.natAbs : Int)) H) : rAbs [.int i] H Q := ⟨i, rfl, by
  rw [show (if i < 0 then -i else i) = (i.natAbs : Int) from by split <;> omega]
  exact h⟩
def rLenS (K : PySem.W.Frag) : List V → Hp → VK → Prop := fun xs H Q => ∃ p ys, xs = [.ref p] ∧ (SqL K H p ys ∨ SqT K H p ys) ∧ Q (.int ys.length) H
theorem call_lenS {X : Cx} : CallR X (.builtin "len") (rLenS X.K) := call_len_seq
theorem rd_lenL {p : Addr} {ys : List V} (h : SqL K H p ys) (q : Q (.int ys.length) H) : rLenS K [.ref p] H Q := ⟨p, ys, rfl, .inl h, q⟩
theorem rd_lenI {p : Addr} {ns : List Int} (h : SqL K H p (ns.map V.int)) (q : Q (.int ns.length) H) : rLenS K [.ref p] H Q := ⟨p, ns.map V.int, rfl, .inl h, by
  rw [List.length_map]
  exact q⟩
theorem rd_lenT {p : Addr} {ys : List V} (h : SqT K H p ys) (q : Q (.int ys.length) H) : rLenS K [.ref p] H Q := ⟨p, ys, rfl, .inr h, q⟩
def rMin2 : List V → Hp → VK → Prop := fun xs H Q => ∃ i j, xs = [.int i, .int j] ∧ Q (.int (if j < i then j else i)) H
theorem call_min2' {X : Cx} (hc : X.calm = true) : CallR X (.builtin "min") rMin2 := call_min2 hc
theorem rd_min2 (h : Q (.int (min i j)) H) : rMin2 [.int i, .int j] H Q := ⟨i, j, rfl, by
  rw [show (if j < i then j else i) = min i j from by split <;> omega]
  exact h⟩
def rMax2 : List V → Hp → VK → Prop := fun xs H Q => ∃ i j, xs = [.int i, .int j] ∧ Q (.int (if j > i then j else i)) H
theorem call_max2' {X : Cx} (hc : X.calm = true) : CallR X (.builtin "max") rMax2 := call_max2 hc
theorem rd_max2 (h : Q (.int (max i j)) H) : rMax2 [.int i, .int j] H Q := ⟨i, j, rfl, by
  rw [show (if j > i then j else i) = max i j from by split <;> omega]
  exact h⟩
def rListOf (K : PySem.W.Frag) : List V → Hp → VK → Prop := fun xs H Q => ∃ p ys, xs = [.ref p] ∧ (SqL K H p ys ∨ SqT K H p ys) ∧ ∀ l, H l = none → Q (.ref l) (upd H l (.lst ys))
theorem call_listOf {X : Cx} : CallR X (.type "list") (rListOf X.K) := call_list_of
theorem rd_listL {p : Addr} {ys : List V} (h : SqL K H p ys) (q : ∀ l, H l = none → Q (.ref l) (upd H l (.lst ys))) : rListOf K [.ref p] H Q := ⟨p, ys, rfl, .inl h, q⟩
/-- isinstance against one built-in class -/
theorem rd_isi {t : String} {c : String} {b : Bool} (ty : TyX K H x (.type t)) (e : kitB t c = some b) (h : Q (.bl b) H) : rIsi K [x, .ty c] H Q := ⟨x, .ty c, .type t, .type c, b, rfl, .ty c, ty, kit_ty e, h⟩

/-! ### loops -/
/-- what a for over the walk J asks -/
def ForG (J : It) (g : TG) (t : TS) (D : Ends) (σ : L2.St) (H : Hp) : Prop :=
  ∃ W : Nat → Nat → L2.St → Hp → Prop, (∃ m, W 0 m σ H) ∧ ∀ i m σ H, W i m σ H →
      (J.stop i H ∧ D.nx σ H) ∨ (J.go i H ∧ ∃ N : L2.St → Hp → Prop, (∀ σ' H', N σ' H' → ∃ m', m' < m ∧ W (i + 1) m' σ' H') ∧ ∀ x H', J.yld i H x H' → g x σ H' fun σ2 H2 => t { D with nx := N, ct := N, bk := D.nx } σ2 H2)
theorem rd_for {wi : TI} {g : TG} {D : Ends} (h : wi σ H fun J H1 => ForG J g t D σ H1) : tFor wi g t D σ H := h
theorem rd_iList {R : It → Hp → Prop} (h : te σ H fun x H1 => ∃ a, x = V.ref a ∧ (∃ xs, SqL K H1 a xs) ∧ R (Itl K a) H1) : iList K te σ H R := h
theorem rd_iTup {R : It → Hp → Prop} (h : te σ H fun x H1 => ∃ a, x = V.ref a ∧ (∃ xs, SqT K H1 a xs) ∧ R (Itt K a) H1) : iTup K te σ H R := h
theorem rd_iListX {p : Addr} {xs : List V} {R : Addr → Prop} (h : SqL K H p xs) (q : R p) : ∃ a, V.ref p = V.ref a ∧ (∃ xs, SqL K H a xs) ∧ R a := ⟨p, rfl, ⟨xs, h⟩, q⟩
theorem rd_iTupX {p : Addr} {xs : List V} {R : Addr → Prop} (h : SqT K H p xs) (q : R p) : ∃ a, V.ref p = V.ref a ∧ (∃ xs, SqT K H a xs) ∧ R a := ⟨p, rfl, ⟨xs, h⟩, q⟩
theorem rd_iRng1 {R : It → Hp → Prop} (h : ar σ H fun vs H1 => ∃ j : Int, vs = [.int j] ∧ -(2 ^ 62) ≤ j ∧ j < 2 ^ 62 ∧ R (Itr 0 j.toNat) H1) : iRng1 ar σ H R := h
theorem rd_iRng1X {R : Int → Prop} (h1 : -(2 ^ 62) ≤ j) (h2 : j < 2 ^ 62) (q : R j) : ∃ k : Int, [V.int j] = [V.int k] ∧ -(2 ^ 62) ≤ k ∧ k < 2 ^ 62 ∧ R k := ⟨j, rfl, h1, h2, q⟩
theorem rd_iRng2 {R : It → Hp → Prop} (h : ar σ H fun vs H1 => ∃ i j : Int, vs = [.int i, .int j] ∧ (-(2 ^ 62) ≤ i ∧ i < 2 ^ 62 ∧ -(2 ^ 62) ≤ j ∧ j < 2 ^ 62) ∧ R (Itr i (j - i).toNat) H1) : iRng2 ar σ H R := h
theorem rd_iRng2X {R : Int → Int → Prop} (h1 : -(2 ^ 62) ≤ i ∧ i < 2 ^ 62 ∧ -(2 ^ 62) ≤ j ∧ j < 2 ^ 62) (q : R i j) : ∃ k l : Int, [V.int i, V.int j] = [V.int k, V.int l] ∧ (-(2 ^ 62) ≤ k ∧ k < 2 ^ 62 ∧ -(2 ^ 62) ≤ l ∧ l < 2 ^ 62) ∧ R k l := ⟨i, j, rfl, h1, q⟩
/-- over a list that stays -/
theorem forL_by {a : Addr} {g : TG} (xs : List V) (Pv : Nat → L2.St → Hp → Prop) (h0 : Pv 0 σ H) (hl : ∀ i σ H, i ≤ xs.length → Pv i σ H → SqL K H a xs)
    (hs : ∀ i x σ H, xs[i]? = some x → Pv i σ H → g x σ H fun σ2 H2 => t ⟨Pv (i + 1), rt, nx, Pv (i + 1)⟩ σ2 H2) (hd : ∀ σ H, Pv xs.length σ H → nx σ H) : ForG (Itl K a) g t ⟨nx, rt, bk, ct⟩ σ H := for_list (K := K) Pv h0 hl hs hd
theorem forT_by {a : Addr} {g : TG} (xs : List V) (Pv : Nat → L2.St → Hp → Prop) (h0 : Pv 0 σ H) (hl : ∀ i σ H, i ≤ xs.length → Pv i σ H → SqT K H a xs)
    (hs : ∀ i x σ H, xs[i]? = some x → Pv i σ H → g x σ H fun σ2 H2 => t ⟨Pv (i + 1), rt, nx, Pv (i + 1)⟩ σ2 H2) (hd : ∀ σ H, Pv xs.length σ H → nx σ H) : ForG (Itt K a) g t ⟨nx, rt, bk, ct⟩ σ H := for_tup (K := K) Pv h0 hl hs hd
theorem forR_by {lo : Int} {n : Nat} {g : TG} (Pv : Nat → L2.St → Hp → Prop) (h0 : Pv 0 σ H)
    (hs : ∀ (i : Nat) σ H, i < n → Pv i σ H → g (.int (lo + i)) σ H fun σ2 H2 => t ⟨Pv (i + 1), rt, nx, Pv (i + 1)⟩ σ2 H2) (hd : ∀ σ H, Pv n σ H → nx σ H) : ForG (Itr lo n) g t ⟨nx, rt, bk, ct⟩ σ H := for_range Pv h0 hs hd
/-- the items one by one -/
theorem forL_ints {a : Addr} {g : TG} (ns : List Int) (Pv : Nat → L2.St → Hp → Prop) (h0 : Pv 0 σ H) (hl : ∀ i σ H, i ≤ ns.length → Pv i σ H → SqL K H a (ns.map V.int))
    (hs : ∀ (i : Nat) (h : i < ns.length) σ H, Pv i σ H → g (.int ns[i]) σ H fun σ2 H2 => t ⟨Pv (i + 1), rt, nx, Pv (i + 1)⟩ σ2 H2) (hd : ∀ σ H, Pv ns.length σ H → nx σ H) : ForG (Itl K a) g t ⟨nx, rt, bk, ct⟩ σ H :=
  forL_by (ns.map V.int) Pv h0 (fun i σ H hi p => hl i σ H (by simpa using hi) p) (fun i x σ H e p => by
    rw [List.getElem?_map] at e
    obtain ⟨z, hz, rfl⟩ := Option.map_eq_some_iff.mp e
    obtain ⟨h, rfl⟩ := List.getElem?_eq_some_iff.mp hz
    exact hs i h σ H p) (fun σ H p => hd σ H (by simpa using p))
theorem rd_while (Pv : L2.St → Hp → Prop) (μ : L2.St → Hp → Nat) (h0 : Pv σ H)
    (hs : ∀ σ H, Pv σ H → tt σ H fun b H1 => if b = true then t ⟨fun σ' H' => Pv σ' H' ∧ μ σ' H' < μ σ H, rt, nx, fun σ' H' => Pv σ' H' ∧ μ σ' H' < μ σ H⟩ σ H1 else nx σ H1)
    (mono : ∀ σ H Q Q', (∀ b H1, Q b H1 → Q' b H1) → tt σ H Q → tt σ H Q') : tWhile tt t ⟨nx, rt, bk, ct⟩ σ H := while_by Pv μ h0 hs mono
/-- a list comprehension -/
def LcG (J : It) (g : TG) (tt : TT) (te : TE) (vs : List Nat) (σ : L2.St) (D : Addr) (Qd : Hp → Prop) (H1 : Hp) : Prop :=
  ∃ W : Nat → Nat → Hp → Prop, (∃ m, W 0 m (upd H1 D (.lst []))) ∧ ∀ i m H, W i m H →
      (J.stop i H ∧ Qd H) ∨ (J.go i H ∧ ∃ Nx : Hp → Prop, (∀ H', Nx H' → ∃ m', m' < m ∧ W (i + 1) m' H') ∧ ∀ x H', J.yld i H x H' → g x (wipe σ vs) H' fun σ2 H2 => wipe σ2 vs = wipe σ vs ∧ tt σ2 H2 fun b H3 =>
        if b = true then te σ2 H3 fun y H4 => ∃ acc, H4 D = some (.lst acc) ∧ acc.length < sizeLine ∧ Nx (upd H4 D (.lst (acc ++ [y]))) else Nx H3)
theorem rd_lc {wi : TI} {g : TG} {vs : List Nat} (h : wi σ H fun J H1 => ∀ D, H1 D = none → LcG J g tt te vs σ D (fun H => Q (.ref D) H) H1) : tLc wi g tt te vs σ H Q := h
theorem lcL_by {a D : Addr} {g : TG} {vs : List Nat} {Qd : Hp → Prop} (xs : List V) (Pv : Nat → Hp → Prop) (h0 : Pv 0 (upd H D (.lst []))) (hl : ∀ i H, i ≤ xs.length → Pv i H → SqL K H a xs)
    (hs : ∀ i x H, xs[i]? = some x → Pv i H → g x (wipe σ vs) H fun σ2 H2 => wipe σ2 vs = wipe σ vs ∧ tt σ2 H2 fun b H3 =>
      if b = true then te σ2 H3 fun y H4 => ∃ acc, H4 D = some (.lst acc) ∧ acc.length < sizeLine ∧ Pv (i + 1) (upd H4 D (.lst (acc ++ [y]))) else Pv (i + 1) H3) (hd : ∀ H, Pv xs.length H → Qd H) : LcG (Itl K a) g tt te vs σ D Qd H := lc_list (K := K) Pv h0 hl hs hd
theorem lcR_by {lo : Int} {n : Nat} {D : Addr} {g : TG} {vs : List Nat} {Qd : Hp → Prop} (Pv : Nat → Hp → Prop) (h0 : Pv 0 (upd H D (.lst [])))
    (hs : ∀ (i : Nat) H, i < n → Pv i H → g (.int (lo + i)) (wipe σ vs) H fun σ2 H2 => wipe σ2 vs = wipe σ vs ∧ tt σ2 H2 fun b H3 =>
      if b = true then te σ2 H3 fun y H4 => ∃ acc, H4 D = some (.lst acc) ∧ acc.length < sizeLine ∧ Pv (i + 1) (upd H4 D (.lst (acc ++ [y]))) else Pv (i + 1) H3) (hd : ∀ H, Pv n H → Qd H) : LcG (Itr lo n) g tt te vs σ D Qd H := lc_range Pv h0 hs hd
theorem lcL_ints {a D : Addr} {g : TG} {vs : List Nat} {Qd : Hp → Prop} (ns : List Int) (Pv : Nat → Hp → Prop) (h0 : Pv 0 (upd H D (.lst []))) (hl : ∀ i H, i ≤ ns.length → Pv i H → SqL K H a (ns.map V.int))
    (hs : ∀ (i : Nat) (h : i < ns.length) H, Pv i H → g (.int ns[i]) (wipe σ vs) H fun σ2 H2 => wipe σ2 vs = wipe σ vs ∧ tt σ2 H2 fun b H3 =>
      if b = true then te σ2 H3 fun y H4 => ∃ acc, H4 D = some (.lst acc) ∧ acc.length < sizeLine ∧ Pv (i + 1) (upd H4 D (.lst (acc ++ [y]))) else Pv (i + 1) H3) (hd : ∀ H, Pv ns.length H → Qd H) : LcG (Itl K a) g tt te vs σ D Qd H :=
  lcL_by (ns.map V.int) Pv h0 (fun i H hi p => hl i H (by simpa using hi) p) (fun i x H e p => by
    rw [List.getElem?_map] at e
    obtain ⟨z, hz, rfl⟩ := Option.map_eq_some_iff.mp e
    obtain ⟨h, rfl⟩ := List.getElem?_eq_some_iff.mp hz
    exact hs i h H p) (fun H p => hd H (by simpa using p))
theorem rd_yes {QB : Bool → Hp → Prop} (h : QB true H) : tYes σ H QB := h
end

/-! ### callables in one piece -/
section
variable {P : Program} {w : World} {K : PySem.W.Frag} {mg : Str → Option Value} {base : Heap} {CX : CXT} {X : Cx} {k j : Nat} {C : Addr} {x m : Str} {sp : Sp} {dvs : List V} {E : XK} {p pos apos : Pos} {e o : Expr} {es : List Expr} {ta : TE} {t : TA}
structure CalX (P : Program) (w : World) (K : PySem.W.Frag) (mg : Str → Option Value) (base : Heap) (CX : CXT) (k : Nat) (x : Str) (sp : Sp) (dvs : List V) : Prop where
  ex : ∃ (f : Addr) (fd : FuncData) (ps : List Str) (ds : List Value), FnOk P w K mg base CX k f fd ps sp ∧ mg x = some (.ref f) ∧ PySem.W.keepIn K (.ref f) = true ∧ Binds K fd ps ds ∧ Vals dvs ds
structure MetX (P : Program) (w : World) (K : PySem.W.Frag) (mg : Str → Option Value) (base : Heap) (CX : CXT) (k : Nat) (C : Addr) (m : Str) (sp : Sp) (dvs : List V) : Prop where
  ex : ∃ (f : Addr) (fd : FuncData) (ps : List Str) (ds : List Value), Cls K C ∧ Meth K C m f ∧ FnOk P w K mg base CX k f fd ps sp ∧ Binds K fd ps ds ∧ Vals dvs ds
structure MakX (P : Program) (w : World) (K : PySem.W.Frag) (mg : Str → Option Value) (base : Heap) (CX : CXT) (k : Nat) (x : Str) (C : Addr) (sp : Sp) (dvs : List V) : Prop where
  ex : ∃ (f : Addr) (fd : FuncData) (ps : List Str) (ds : List Value), Mk K C f ∧ FnOk P w K mg base CX k f fd ps sp ∧ mg x = some (.ref C) ∧ Binds K fd ps ds ∧ Vals dvs ds
theorem pe_cal (c : CalX X.prog X.w X.K X.mg X.base CX k x sp dvs) (hr : Room j X.A) (hk : k ≤ j) (hg : Gl X x) (hx : Passes CX X E) (ha : PA X (e :: es) t)
    (hdb : (x == ("__debug__" : Str)) = false := by decide) (he : starEach (e :: es) X.env = (false, eval e X.env) :: starEach es X.env := by rfl) (hpl : (backTo pos (starEach es X.env)).any (·.1) = false := by rfl) :
    PE X (.Call (.Name x p) (e :: es) [] pos) (tCall sp dvs E t) := by
  obtain ⟨f, fd, ps, ds, F, hm, kp, b, d⟩ := c.ex
  exact pe_call F (hr.mono hk) hg hm kp b d hx ha hdb he hpl
theorem pe_mak (c : MakX X.prog X.w X.K X.mg X.base CX k x C sp dvs) (hr : Room j X.A) (hk : k + 1 ≤ j) (hg : Gl X x) (hx : Passes CX X E) (ha : PA X (e :: es) t)
    (hdb : (x == ("__debug__" : Str)) = false := by decide) (he : starEach (e :: es) X.env = (false, eval e X.env) :: starEach es X.env := by rfl) (hpl : (backTo pos (starEach es X.env)).any (·.1) = false := by rfl) :
    PE X (.Call (.Name x p) (e :: es) [] pos) (tMake C sp dvs E t) := by
  obtain ⟨f, fd, ps, ds, M, F, hm, b, d⟩ := c.ex
  exact pe_make M F (hr.mono hk) hg hm b d hx ha hdb he hpl
theorem pe_met {pl : Sem Bool} (c : MetX X.prog X.w X.K X.mg X.base CX k C m sp dvs) (hr : Room j X.A) (hk : k ≤ j) (hx : Passes CX X E) (he : PE X o ta) (ha : PA X (e :: es) t)
    (hst : starEach (e :: es) X.env = (false, eval e X.env) :: starEach es X.env := by rfl) (hpl : (backTo pos (starEach es X.env)).any (·.1) = false := by rfl)
    (ht : eval (.Call (.Attribute o m apos) (e :: es) [] pos) X.env = (do
      let ov ← eval o X.env
      standAt apos.atName
      let (f, first) ← holding [ov] (getMethod ov m pl)
      callWith pos f first (backTo pos (starEach (e :: es) X.env)) (backToKw pos (keywordEach [] X.env))) := by rfl) :
    PE X (.Call (.Attribute o m apos) (e :: es) [] pos) (tMeth C m sp dvs E ta t) := by
  obtain ⟨f, fd, ps, ds, cl, me, F, b, d⟩ := c.ex
  exact pe_meth he cl me F (hr.mono hk) b d hx ha hst hpl ht
end

/-! ### a def's promise by its body -/
section
variable {P : Program} {w : World} {K : PySem.W.Frag} {mg : Str → Option Value} {base : Heap} {CX : CXT} {x qual : Str} {params : Arguments} {body : List Stmt} {scope : Scope} {dvs : List V} {kws : List (Str × V)} {f : Addr} {fd : FuncData}
theorem fnD {N ps : List Str} {k : Nat} {sp : Sp} (F : FunD K x qual params body scope dvs kws f fd) (S : FnScope N ps scope) (len : ∀ vs H Q E, sp vs H Q E → vs.length = ps.length)
    (hbody : ∀ (cdv : Value) (A : Around) (outer : List Env) (s : Shared) (H : Hp) (vs : List V) (Q : VK) (E : XK), Room k (A.deeper (envOfC qual scope s.heap.objs.size f cdv)) → sp vs H Q E →
      ∃ t, PSs (cxOf CX0 P w K mg base N qual scope f cdv A outer s H E).nox body t ∧ t ⟨fun _ H' => Q .non H', Q, fun _ _ => False, fun _ _ => False⟩ (start N vs) H) : FnOk P w K mg base CX0 (k + 1) f fd ps sp :=
  F.ok S len fun cdv A outer s H vs Q E hr h => let ⟨t, h1, h2⟩ := hbody cdv A outer s H vs Q E hr h; ⟨t, h1.nox, h2⟩
end

/-! ### the head: facts of a top, one Bool more -/
abbrev AlM : Type := AlD × Bool
def obsM (n : Nat) (fa : List Fa) (fn : List DefD) (ex : PySem.W.Frag → Bool) (g : Addr → Option Obj) : AlM := (obsD fa fn (frG g (asD g n)), ex (frG g (asD g n)))
def hookM (n : Nat) (fa : List Fa) (fn : List DefD) (ex : PySem.W.Frag → Bool) : PySem.W.Hook where
  α := AlM
  obs := fun s => obsM n fa fn ex s.heap.get?
  val := fun _ => (valD fn, true)
  says := fun _ h => ∃ K : PySem.W.Frag, K.In h ∧ SaysD fa fn K ∧ ex K = true
  of := fun _ _ e => ⟨_, frG_in, congrArg (fun z : AlM => z.1) e, congrArg (fun z : AlM => z.2) e⟩
  keeps := fun _ _ _ ⟨K, hK, c, d⟩ k => ⟨K, PySem.W.Frag.In.keeps hK k, c, d⟩
theorem obsM_eq {n : Nat} {fa : List Fa} {fn : List DefD} {ex : PySem.W.Frag → Bool} {g : Addr → Option Obj} {s : Shared} (h : ∀ a, g a = s.heap.get? a) : obsM n fa fn ex g = (hookM n fa fn ex).obs s := by
  have e : g = s.heap.get? := funext h
  rw [e] <;> rfl
/-- what the defs lean on -/
structure Ctx (fa : List Fa) (fn : List DefD) (ex : PySem.W.Frag → Bool) (K : PySem.W.Frag) (mg : Str → Option Value) : Prop where
  says : SaysD fa fn K
  ex : ex K = true
  at_ : ∃ h, K.In h ∧ h.Ns mainGlobals mg
section
variable {fa : List Fa} {fn : List DefD} {ex : PySem.W.Frag → Bool} {K : PySem.W.Frag} {mg : Str → Option Value}
theorem Ctx.glo (T : Ctx fa fn ex K mg) (i : Nat) {x : Str} (h : fa[i]? = some (.glo x) := by rfl) : mg x = some (.ref (ga K x)) := let ⟨_, X, G⟩ := T.at_; glo_ok X G (T.says.fact i h)
theorem Ctx.fre (T : Ctx fa fn ex K mg) (i : Nat) {x : Str} (h : fa[i]? = some (.free x) := by rfl) : mg x = none := let ⟨_, X, G⟩ := T.at_; free_ok X G (T.says.fact i h)
theorem Ctx.cls (T : Ctx fa fn ex K mg) (i : Nat) {x : Str} (h : fa[i]? = some (.cls x) := by rfl) : Cls K (ga K x) := cls_ok (T.says.fact i h)
theorem Ctx.noat (T : Ctx fa fn ex K mg) (i : Nat) {x f : Str} (h : fa[i]? = some (.noat x f) := by rfl) : NoAttr K (ga K x) f := noat_ok (T.says.fact i h)
theorem Ctx.meth (T : Ctx fa fn ex K mg) (i : Nat) {x m : Str} (h : fa[i]? = some (.meth x m) := by rfl) : Meth K (ga K x) m (ma K (ga K x) m) := meth_ok (T.says.fact i h)
theorem Ctx.mkr (T : Ctx fa fn ex K mg) (i : Nat) {x : Str} (h : fa[i]? = some (.mkr x) := by rfl) : Mk K (ga K x) (ma K (ga K x) "__init__") := mkr_ok (T.says.fact i h)
theorem Ctx.int (T : Ctx fa fn ex K mg) (i : Nat) {x : Str} {z : Int} (h : fa[i]? = some (.int x z) := by rfl) : ∃ t, mg x = some (.int z t) := let ⟨_, X, G⟩ := T.at_; int_ok X G (T.says.fact i h)
theorem Ctx.str (T : Ctx fa fn ex K mg) (i : Nat) {x z : Str} (h : fa[i]? = some (.str x z) := by rfl) : ∃ t, mg x = some (.str z t) := let ⟨_, X, G⟩ := T.at_; str_ok X G (T.says.fact i h)
end
theorem pe_globC {X : Cx} {x : Str} {v : V} {pos : Pos} (hg : Gl X x) (h : ∃ u, X.mg x = some u ∧ RelV v u) (hd : (x == ("__debug__" : Str)) = false := by decide) : PE X (.Name x pos) (tC v) := let ⟨_, hm, r⟩ := h; pe_glob hg hm r hd

/-! ### small facts -/
theorem ite_d {p A B : Prop} [Decidable p] (h1 : p → A) (h2 : ¬ p → B) : if decide p = true then A else B := by
  by_cases h : p
  · rw [decide_eq_true h, if_pos rfl]
    exact h1 h
  · rw [decide_eq_false h, if_neg Bool.false_ne_true]
    exact h2 h
theorem ite_n {p A B : Prop} [Decidable p] (h1 : ¬ p → A) (h2 : p → B) : if (!decide p) = true then A else B := by
  by_cases h : p
  · rw [decide_eq_true h]
    exact iteF (h2 h)
  · rw [decide_eq_false h]
    exact iteT (h1 h)
theorem ite_b {b : Bool} {A B : Prop} (h1 : b = true → A) (h2 : b = false → B) : if b = true then A else B := by
  cases b
  · exact iteF (h2 rfl)
  · exact iteT (h1 rfl)
theorem ite_t {b : Bool} {A B : Prop} (e : b = true) (h : A) : if b = true then A else B := by
  subst e
  exact iteT h
theorem ite_f {b : Bool} {A B : Prop} (e : b = false) (h : B) : if b = true then A else B := by
  subst e
  exact iteF h
theorem atI_ints {ns : List Int} {i : Int} (h0 : 0 ≤ i) (h1 : i < ns.length) : atI (ns.map V.int) i = some (.int (ns.getD i.toNat 0)) := by
  obtain ⟨j, rfl⟩ := Int.eq_ofNat_of_zero_le h0
  refine atI_nat ?_
  have hj : j < ns.length := by omega
  rw [List.getElem?_map, List.getElem?_eq_getElem hj]
  simp [hj]
theorem take_map_succ {ns : List Int} {i : Nat} (h : i < ns.length) : (ns.take i).map V.int ++ [V.int ns[i]] = (ns.take (i + 1)).map V.int := by
  rw [List.take_succ_eq_append_getElem h, List.map_append]
  rfl
theorem sz1000 {n : Nat} (h : n ≤ 1000000) : n ≤ sizeLine := Nat.le_trans h (by decide)
theorem szlt {n : Nat} (h : n < 1000000) : n < sizeLine := Nat.lt_of_lt_of_le h (by decide)

/-! ### more readings -/
section
variable {K : PySem.W.Frag} {σ : L2.St} {H : Hp} {nx bk ct : L2.St → Hp → Prop} {rt : VK} {te ta tb tc : TE} {ar : TA} {Q : VK} {QB : Bool → Hp → Prop} {v x y z : V} {i j : Int}
theorem rd_sfld {f : Str} (h : tb σ H fun y H1 => ta σ H1 fun x H2 => ∃ a C dx fs, x = V.ref a ∧ H2 a = some (.ins C dx fs) ∧ Cls K C ∧ NoAttr K C f ∧ fs.length < 1000 ∧ nx σ (upd H2 a (.ins C dx (putF f y fs)))) : sFld K ta tb f ⟨nx, rt, bk, ct⟩ σ H := h
theorem rd_sfldX {f : Str} {a C dx : Addr} {fs : List (Str × V)} {R : Addr → Addr → Addr → List (Str × V) → Prop} (h : H a = some (.ins C dx fs)) (c : Cls K C) (n : NoAttr K C f) (l : fs.length < 1000) (q : R a C dx fs) :
    ∃ a' C' dx' fs', V.ref a = V.ref a' ∧ H a' = some (.ins C' dx' fs') ∧ Cls K C' ∧ NoAttr K C' f ∧ fs'.length < 1000 ∧ R a' C' dx' fs' := ⟨a, C, dx, fs, rfl, h, c, n, l, q⟩
theorem rd_tfld {f : Str} (h : ta σ H fun x H1 => ∃ a C dx fs v, x = V.ref a ∧ H1 a = some (.ins C dx fs) ∧ Cls K C ∧ NoAttr K C f ∧ fs.lookup f = some v ∧ Q v H1) : tFld K ta f σ H Q := h
theorem rd_fldX {f : Str} {a C dx : Addr} {fs : List (Str × V)} {R : V → Prop} (h : H a = some (.ins C dx fs)) (c : Cls K C) (n : NoAttr K C f) (l : fs.lookup f = some v) (q : R v) :
    ∃ a' C' dx' fs' v', V.ref a = V.ref a' ∧ H a' = some (.ins C' dx' fs') ∧ Cls K C' ∧ NoAttr K C' f ∧ fs'.lookup f = some v' ∧ R v' := ⟨a, C, dx, fs, v, rfl, h, c, n, l, q⟩
theorem rd_tcon {f : Str} (h : ta σ H fun x H1 => ∃ a C dx fs v u, x = V.ref a ∧ H1 a = some (.ins C dx fs) ∧ Cls K C ∧ Con K C f v u ∧ fs.lookup f = none ∧ Q v H1) : tCon K ta f σ H Q := h
theorem rd_conX {f : Str} {a C dx : Addr} {fs : List (Str × V)} {R : V → Prop} (h : H a = some (.ins C dx fs)) (c : Cls K C) (n : ∃ u, Con K C f v u) (l : fs.lookup f = none) (q : R v) :
    ∃ a' C' dx' fs' v' u, V.ref a = V.ref a' ∧ H a' = some (.ins C' dx' fs') ∧ Cls K C' ∧ Con K C' f v' u ∧ fs'.lookup f = none ∧ R v' := let ⟨u, n⟩ := n; ⟨a, C, dx, fs, v, u, rfl, h, c, n, l, q⟩
/-! isinstance -/
theorem rd_isi_ii (h : Q (.bl true) H) : rIsi K [.int i, .ty "int"] H Q := rd_isi (.base (.int i)) (by decide +kernel) h
theorem rd_isi_ib (h : Q (.bl false) H) : rIsi K [.int i, .ty "bool"] H Q := rd_isi (.base (.int i)) (by decide +kernel) h
theorem rd_isi_bb {b : Bool} (h : Q (.bl true) H) : rIsi K [.bl b, .ty "bool"] H Q := rd_isi (.base (.bl b)) (by decide +kernel) h
theorem rd_isi_bi {b : Bool} (h : Q (.bl true) H) : rIsi K [.bl b, .ty "int"] H Q := rd_isi (.base (.bl b)) (by decide +kernel) h
theorem rd_isi_ss {b : Str} (h : Q (.bl true) H) : rIsi K [.str b, .ty "str"] H Q := rd_isi (.base (.str b)) (by decide +kernel) h
theorem rd_isi_ll {a : Addr} {xs : List V} (e : H a = some (.lst xs)) (h : Q (.bl true) H) : rIsi K [.ref a, .ty "list"] H Q := rd_isi (.base (.lst e)) (by decide +kernel) h
theorem rd_isi_tt {a : Addr} {xs : List V} (e : H a = some (.tup xs)) (h : Q (.bl true) H) : rIsi K [.ref a, .ty "tuple"] H Q := rd_isi (.base (.tup e)) (by decide +kernel) h
/-! known tests -/
section
variable {A B : Prop}
theorem ite_nt (h : B) : if (!true) = true then A else B := iteF h
theorem ite_nf (h : A) : if (!false) = true then A else B := iteT h
theorem ite_in (h : B) : if decide (V.int i = V.non) = true then A else B := iteF h
theorem ite_rn {a : Addr} (h : B) : if decide (V.ref a = V.non) = true then A else B := iteF h
theorem ite_sn {a : Str} (h : B) : if decide (V.str a = V.non) = true then A else B := iteF h
theorem ite_bn {a : Bool} (h : B) : if decide (V.bl a = V.non) = true then A else B := by
  cases a <;> exact iteF h
theorem ite_nn (h : A) : if decide (V.non = V.non) = true then A else B := iteT h
theorem ite_xin (h : A) : if (!decide (V.int i = V.non)) = true then A else B := iteT h
theorem ite_xrn {a : Addr} (h : A) : if (!decide (V.ref a = V.non)) = true then A else B := iteT h
theorem ite_xnn (h : B) : if (!decide (V.non = V.non)) = true then A else B := iteF h
end
/-! dicts with tuple keys -/
theorem rd_dnewT (h : ∀ p, H p = none → Q (.ref p) (upd H p (.dT []))) : tDNewT σ H Q := h
theorem rd_dnewK (h : ∀ p, H p = none → Q (.ref p) (upd H p (.dK []))) : tDNewK σ H Q := h
theorem rd_dget2 (h : ta σ H fun x H1 => ∃ a, x = V.ref a ∧ IsD H1 a ∧ tb σ H1 fun y H2 => tc σ H2 fun z H3 => ∃ o, DGet H3 a y o ∧ Q (o.getD z) H3) : tDGet2 ta tb tc σ H Q := h
theorem rd_isdX {a : Addr} {R : Addr → Prop} (d : IsD H a) (q : R a) : ∃ a', V.ref a = V.ref a' ∧ IsD H a' ∧ R a' := ⟨a, rfl, d, q⟩
theorem isD_T {a : Addr} {kvs : List (List Key × V)} (e : H a = some (.dT kvs)) : IsD H a := .inr ⟨kvs, .inl e⟩
theorem isD_K {a : Addr} {kvs : List (Key × V)} (e : H a = some (.dK kvs)) : IsD H a := .inl ⟨kvs, .inl e⟩
theorem rd_dgX {a : Addr} {o : Option V} {R : Option V → Prop} (d : DGet H a y o) (q : R o) : ∃ o', DGet H a y o' ∧ R o' := ⟨o, d, q⟩
theorem dg_is {a b : Addr} {kvs : List (List Key × V)} {s : Int} {z : Str} (e : H a = some (.dT kvs)) (eb : H b = some (.tup [.int s, .str z])) : DGet H a (.ref b) (valV kvs [.inl s, .inr z]) := DGet.t (k := [.inl s, .inr z]) e eb
theorem rd_sdput (h : tc σ H fun v H1 => ta σ H1 fun x H2 => tb σ H2 fun y H3 => ∃ a H4, x = V.ref a ∧ DPut H3 a y v H4 ∧ nx σ H4) : sDPut ta tb tc ⟨nx, rt, bk, ct⟩ σ H := h
theorem rd_dpX {a : Addr} {H' : Hp} {R : Hp → Prop} (d : DPut H a y v H') (q : R H') : ∃ a' H4, V.ref a = V.ref a' ∧ DPut H a' y v H4 ∧ R H4 := ⟨a, H', rfl, d, q⟩
theorem dp_is {a b : Addr} {kvs : List (List Key × V)} {s : Int} {z : Str} (e : H a = some (.dT kvs)) (eb : H b = some (.tup [.int s, .str z])) (l : kvs.length < sizeLine) : DPut H a (.ref b) v (upd H a (.dT (putK kvs [.inl s, .inr z] v))) := DPut.t (k := [.inl s, .inr z]) e eb l
theorem ty_d {a : Addr} {kvs : List (List Key × V)} {B : Prop} (h : H a = some (.dT kvs)) (q : B) : tyV K "dict" (.ref a) H ∧ B := ⟨.inr (.inr (.inl ⟨rfl, .inr ⟨kvs, h⟩⟩)), q⟩
theorem ty_dK {a : Addr} {kvs : List (Key × V)} {B : Prop} (h : H a = some (.dK kvs)) (q : B) : tyV K "dict" (.ref a) H ∧ B := ⟨.inr (.inr (.inl ⟨rfl, .inl ⟨kvs, h⟩⟩)), q⟩
theorem rd_popT {a b : Addr} {kvs : List (List Key × V)} {s : Int} {t : Str} (e : H a = some (.dT kvs)) (eb : H b = some (.tup [.int s, .str t])) (q1 : ∀ v, valV kvs [.inl s, .inr t] = some v → Q v (upd H a (.dT (dropK kvs [.inl s, .inr t])))) (q2 : valV kvs [.inl s, .inr t] = none → Q x H) :
    DX.rPopT (.ref a) [.ref b, x] H Q := ⟨a, kvs, [.inl s, .inr t], b, x, rfl, rfl, e, eb, q1, q2⟩
theorem valV_drop {κ : Type} [DecidableEq κ] (k j : κ) : ∀ kvs : List (κ × V), valV (dropK kvs k) j = if j = k then none else valV kvs j
  | [] => by
    by_cases h : j = k
    · rw [if_pos h]
      rfl
    · rw [if_neg h]
      rfl
  | p :: r => by
    have ih := valV_drop k j r
    by_cases e : p.1 = k
    · rw [dropK_pos e, ih]
      by_cases h : j = k
      · rw [if_pos h, if_pos h]
      · rw [if_neg h, if_neg h, valV_neg (fun z => h (z.symm.trans e))]
    · rw [dropK_neg e]
      by_cases h : p.1 = j
      · rw [valV_pos h, if_neg (fun z => e (h.trans z)), valV_pos h]
      · rw [valV_neg h, ih, valV_neg h]
theorem putK_le {κ : Type} [DecidableEq κ] (kvs : List (κ × V)) (k : κ) (v : V) : (putK kvs k v).length ≤ kvs.length + 1 := by
  unfold putK
  split
  · rw [List.length_map]
    omega
  · rw [List.length_append]
    exact Nat.le_refl _
theorem rd_cat {a b : Addr} {xs ys : List V} (h1 : H a = some (.lst xs)) (h2 : H b = some (.lst ys)) (l : xs.length + ys.length ≤ sizeLine) (q : ∀ p, H p = none → Q (.ref p) (upd H p (.lst (xs ++ ys)))) : rCat (.ref a) (.ref b) H Q := ⟨a, b, xs, ys, rfl, rfl, h1, h2, l, q⟩
/-! list(range(..)) -/
theorem rd_lstRg {t : L2.St → Hp → (Int → Int → Hp → Prop) → Prop} (h : t σ H fun a b H1 => RgOk a b ∧ ∀ q, H1 q = none → Q (.ref q) (upd H1 q (.lst (rgV a b)))) : tLstRg t σ H Q := h
theorem rd_rg1 {R : Int → Int → Hp → Prop} (h : ta σ H fun x H1 => ∃ n, x = V.int n ∧ R 0 n H1) : tRg1 ta σ H R := h
theorem rd_rg2 {R : Int → Int → Hp → Prop} (h : ta σ H fun x H1 => tb σ H1 fun y H2 => ∃ i j, x = V.int i ∧ y = V.int j ∧ R i j H2) : tRg2 ta tb σ H R := h
theorem rd_inX {R : Int → Prop} (h : R i) : ∃ n, V.int i = V.int n ∧ R n := ⟨i, rfl, h⟩
theorem rd_inX2 {R : Int → Int → Prop} (h : R i j) : ∃ n m, V.int i = V.int n ∧ V.int j = V.int m ∧ R n m := ⟨i, j, rfl, rfl, h⟩
theorem rgV_0 (n : Int) : rgV 0 n = ((List.range n.toNat).map fun (i : Nat) => (i : Int)).map V.int := by
  unfold rgV
  rw [List.map_map, Int.sub_zero]
  congr 1
  funext i
  show V.int (0 + (i : Int)) = V.int (i : Int)
  rw [Int.zero_add]
end

/-! ### dicts with int and text keys, slices, more -/
section
variable {K : PySem.W.Frag} {σ : L2.St} {H : Hp} {nx bk ct : L2.St → Hp → Prop} {rt : VK} {t : TS} {te ta tb tc : TE} {tt : TT} {ar : TA} {Q : VK} {QB : Bool → Hp → Prop} {v x y z : V} {i j : Int}
theorem rd_din (h : ta σ H fun y H1 => tb σ H1 fun x H2 => ∃ a o, x = V.ref a ∧ DGet H2 a y o ∧ Q (.bl o.isSome) H2) : tDIn ta tb σ H Q := h
theorem rd_dnotin (h : ta σ H fun y H1 => tb σ H1 fun x H2 => ∃ a o, x = V.ref a ∧ DGet H2 a y o ∧ Q (.bl (!o.isSome)) H2) : tDNotIn ta tb σ H Q := h
theorem rd_dget (h : ta σ H fun x H1 => tb σ H1 fun y H2 => ∃ a v, x = V.ref a ∧ DGet H2 a y (some v) ∧ Q v H2) : tDGet ta tb σ H Q := h
theorem rd_dget1 (h : ta σ H fun x H1 => ∃ a, x = V.ref a ∧ IsD H1 a ∧ tb σ H1 fun y H2 => ∃ o, DGet H2 a y o ∧ Q (o.getD .non) H2) : tDGet1 ta tb σ H Q := h
theorem rd_dinX {a : Addr} {o : Option V} {R : Option V → Prop} (d : DGet H a y o) (q : R o) : ∃ a' o', V.ref a = V.ref a' ∧ DGet H a' y o' ∧ R o' := ⟨a, o, rfl, d, q⟩
theorem rd_dgetX {a : Addr} {R : V → Prop} (d : DGet H a y (some v)) (q : R v) : ∃ a' v', V.ref a = V.ref a' ∧ DGet H a' y (some v') ∧ R v' := ⟨a, v, rfl, d, q⟩
theorem dg_i {a : Addr} {kvs : List (Key × V)} (e : H a = some (.dK kvs)) : DGet H a (.int i) (valV kvs (.inl i)) := DGet.k (k := .inl i) e
theorem dg_s {a : Addr} {kvs : List (Key × V)} {s : Str} (e : H a = some (.dK kvs)) : DGet H a (.str s) (valV kvs (.inr s)) := DGet.k (k := .inr s) e
theorem dg_iv {a : Addr} {kvs : List (Key × V)} (e : H a = some (.dK kvs)) (l : valV kvs (.inl i) = some v) : DGet H a (.int i) (some v) := l ▸ dg_i e
theorem dg_sv {a : Addr} {kvs : List (Key × V)} {s : Str} (e : H a = some (.dK kvs)) (l : valV kvs (.inr s) = some v) : DGet H a (.str s) (some v) := l ▸ dg_s e
theorem dp_i {a : Addr} {kvs : List (Key × V)} (e : H a = some (.dK kvs)) (l : kvs.length < sizeLine) : DPut H a (.int i) v (upd H a (.dK (putK kvs (.inl i) v))) := DPut.k (k := .inl i) e l
theorem dp_s {a : Addr} {kvs : List (Key × V)} {s : Str} (e : H a = some (.dK kvs)) (l : kvs.length < sizeLine) : DPut H a (.str s) v (upd H a (.dK (putK kvs (.inr s) v))) := DPut.k (k := .inr s) e l
theorem rd_disp {trs : List (TE × TE)} (h : ∀ p, H p = none → tPairs trs σ (upd H p (.dK [])) fun ps H2 => H2 p = some (.dK []) ∧ ∃ kvs : List (Key × V), ps = kvs.map (fun kv => (kV kv.1, kv.2)) ∧ kvs.length ≤ 15 ∧ Q (.ref p) (upd H2 p (.dK (mergeK [] kvs)))) : tDisp trs σ H Q := h
theorem rd_pnil {R : List (V × V) → Hp → Prop} (h : R [] H) : tPairs [] σ H R := h
theorem rd_pcons {trs : List (TE × TE)} {R : List (V × V) → Hp → Prop} (h : ta σ H fun x H1 => tb σ H1 fun y H2 => tPairs trs σ H2 fun ps H3 => R ((x, y) :: ps) H3) : tPairs ((ta, tb) :: trs) σ H R := h
theorem rd_sl {r : V → Option Int → Option Int → Hp → VK → Prop} {tl th : TO} (h : te σ H fun x H1 => tl σ H1 fun l H2 => th σ H2 fun u H3 => r x l u H3 Q) : tSl r te tl th σ H Q := h
theorem rd_part {R : Option Int → Hp → Prop} (h : te σ H fun x H1 => ∃ i, x = V.int i ∧ R (some i) H1) : tPart te σ H R := h
theorem rd_nopart {R : Option Int → Hp → Prop} (h : R none H) : tNoPart σ H R := h
theorem rd_slL {a : Addr} {xs : List V} {lo hi : Option Int} (h : SqL K H a xs) (q : ∀ p, H p = none → Q (.ref p) (upd H p (.lst (cutV xs lo hi)))) : rSlL K (.ref a) lo hi H Q := ⟨a, xs, rfl, h, q⟩
theorem cut_to {xs : List V} {k : Nat} : cutV xs none (some (k : Int)) = xs.take k := by
  unfold cutV
  rw [HT.sIx_none, HT.sIx_nat, List.drop_zero, Nat.sub_zero, List.take_eq_take_iff]
  omega
theorem cut_from {xs : List V} {k : Nat} : cutV xs (some (k : Int)) none = xs.drop k := by
  unfold cutV
  rw [HT.sIx_none, HT.sIx_nat]
  by_cases h : k ≤ xs.length
  · rw [Nat.min_eq_left h, List.take_of_length_le (by rw [List.length_drop]; exact Nat.le_refl _)]
  · rw [Nat.min_eq_right (by omega), Nat.sub_self, List.take_zero, List.drop_of_length_le (by omega)]
theorem cut_all {xs : List V} : cutV xs none none = xs := by
  unfold cutV
  rw [HT.sIx_none, HT.sIx_none, List.drop_zero, Nat.sub_zero, List.take_length]
theorem rd_popAt {a : Addr} {xs : List V} {k : Nat} (h : H a = some (.lst xs)) (b1 : -(2 ^ 63) ≤ i) (b2 : i < 2 ^ 63) (s : seqIndex? i xs.length = some k) (g : xs[k]? = some v) (q : Q v (upd H a (.lst (xs.eraseIdx k)))) : rPopAt (.ref a) [.int i] H Q := ⟨a, xs, i, k, v, rfl, rfl, h, b1, b2, s, g, q⟩
theorem rd_clear {a : Addr} {xs : List V} (h : H a = some (.lst xs)) (q : Q .non (upd H a (.lst []))) : rClear (.ref a) [] H Q := ⟨a, xs, rfl, rfl, h, q⟩
theorem rd_aug {n : Nat} {ti : TIp} (e : σ[n]? = some (some x)) (h : te σ H fun y H1 => ti x y H1 fun z H2 => nx (σ.set n (some z)) H2) : tAug n te ti ⟨nx, rt, bk, ct⟩ σ H := ⟨x, e, h⟩
theorem rd_ipI {f : Int → Int → Int} (h : Q (.int (f i j)) H) : ipI f (.int i) (.int j) H Q := ⟨i, j, rfl, rfl, h⟩
theorem rd_whileM (W : Nat → L2.St → Hp → Prop) (m : Nat) (h0 : W m σ H)
    (hs : ∀ m σ H, W m σ H → tt σ H fun b H1 => if b = true then ∃ N : L2.St → Hp → Prop, (∀ σ' H', N σ' H' → ∃ m', m' < m ∧ W m' σ' H') ∧ t ⟨N, rt, nx, N⟩ σ H1 else nx σ H1) : tWhile tt t ⟨nx, rt, bk, ct⟩ σ H := ⟨W, ⟨m, h0⟩, hs⟩
theorem inV_ints (a : Int) : ∀ ns : List Int, inV (.int a) (ns.map V.int) = decide (a ∈ ns)
  | [] => rfl
  | b :: r => by
    have ih := inV_ints a r
    unfold inV at ih ⊢
    rw [List.map_cons, List.any_cons, ih]
    show ((b == a) || decide (a ∈ r)) = decide (a ∈ b :: r)
    by_cases h : b = a
    · subst h
      simp
    · have h2 : (b == a) = false := beq_eq_false_iff_ne.mpr h
      rw [h2, Bool.false_or]
      simp [List.mem_cons, Ne.symm h]
theorem flat_ints : ∀ ns : List Int, (ns.map V.int).all flatV = true
  | [] => rfl
  | _ :: r => by
    rw [List.map_cons, List.all_cons, flat_ints r]
    rfl
theorem rd_inI {p : Addr} {ns : List Int} (h : SqL K H p (ns.map V.int)) (q : Q (.bl (decide (i ∈ ns))) H) : rIn K false (.int i) (.ref p) H Q := ⟨p, ns.map V.int, rfl, .inl h, rfl, flat_ints ns, by
  rw [inV_ints]
  exact q⟩
theorem rd_notInI {p : Addr} {ns : List Int} (h : SqL K H p (ns.map V.int)) (q : Q (.bl (!decide (i ∈ ns))) H) : rIn K true (.int i) (.ref p) H Q := ⟨p, ns.map V.int, rfl, .inl h, rfl, flat_ints ns, by
  rw [inV_ints]
  exact q⟩
def rLenD : List V → Hp → VK → Prop := fun xs H Q => ∃ a kvs, xs = [V.ref a] ∧ H a = some (.dK kvs) ∧ Q (.int kvs.length) H
theorem call_lenD' {X : Cx} : CallR X (.builtin "len") rLenD := call_lenD
theorem rd_lenD {a : Addr} {kvs : List (Key × V)} (h : H a = some (.dK kvs)) (q : Q (.int kvs.length) H) : rLenD [.ref a] H Q := ⟨a, kvs, rfl, h, q⟩
/-! enumerate -/
theorem rd_iEnum {R : It → Hp → Prop} (h : ar σ H fun vs H1 => ∃ a xs, vs = [V.ref a] ∧ SqL K H1 a xs ∧ R (Ite K a) H1) : iEnum K ar σ H R := h
theorem rd_iEnumX {p : Addr} {xs : List V} {R : Addr → Prop} (h : SqL K H p xs) (q : R p) : ∃ a xs, [V.ref p] = [V.ref a] ∧ SqL K H a xs ∧ R a := ⟨p, xs, rfl, h, q⟩
theorem forE_by {a : Addr} {g : TG} (xs : List V) (Pv : Nat → L2.St → Hp → Prop) (h0 : Pv 0 σ H) (hl : ∀ i σ H, i ≤ xs.length → Pv i σ H → SqL K H a xs)
    (hs : ∀ i x σ H T, xs[i]? = some x → Pv i σ H → H T = none → g (.ref T) σ (upd H T (.tup [.int (i : Nat), x])) fun σ2 H2 => t ⟨Pv (i + 1), rt, nx, Pv (i + 1)⟩ σ2 H2) (hd : ∀ σ H, Pv xs.length σ H → nx σ H) : ForG (Ite K a) g t ⟨nx, rt, bk, ct⟩ σ H := by
  refine ⟨fun i m σ H => m = xs.length - i ∧ i ≤ xs.length ∧ Pv i σ H, ⟨xs.length, by simp, Nat.zero_le _, h0⟩, ?_⟩
  rintro i m σ H ⟨rfl, hi, p⟩
  have q := hl i σ H hi p
  by_cases hlt : i < xs.length
  · refine .inr ⟨⟨xs, xs[i], q, by simp [hlt]⟩, Pv (i + 1), fun σ' H' p' => ⟨xs.length - (i + 1), by omega, rfl, hlt, p'⟩, fun x H' y => ?_⟩
    obtain ⟨T, z, rfl, nT, rfl, hz⟩ := y
    exact hs i z σ H T (hz xs q) p nT
  · have e : i = xs.length := by omega
    subst e
    exact .inl ⟨⟨xs, q, Nat.le_refl _⟩, hd σ H p⟩
/-! == of equal data, of int lists -/
theorem dp_ints : ∀ ns : List Int, DpAll K H (ns.map V.int) (ns.map PyData.int)
  | [] => .nil
  | x :: r => .cons (.int x) (dp_ints r)
theorem lay_ints : ∀ ns : List Int, PyData.canLayAll0 (ns.map PyData.int) = true
  | [] => by simp only [List.map_nil, PyData.canLayAll0]
  | x :: r => by simp only [List.map_cons, PyData.canLayAll0, PyData.canLay0, lay_ints r, Bool.and_self]
theorem depth_ints : ∀ ns : List Int, PyData.depthAll (ns.map PyData.int) ≤ 1
  | [] => by simp [PyData.depthAll]
  | x :: r => by
    have := depth_ints r
    simp only [List.map_cons, PyData.depthAll, PyData.depth]
    omega
theorem shaped_ints (ns : List Int) : SeqAt.shaped (.list (ns.map PyData.int)) = true :=
  Bool.and_eq_true_iff.mpr ⟨by simp only [PyData.canLay0, lay_ints], decide_eq_true (by
    have h := depth_ints ns
    simp only [PyData.depth]
    omega)⟩
theorem eqv_ints : ∀ ns ms : List Int, PyData.eqvAll (ns.map PyData.int) (ms.map PyData.int) = decide (ns = ms)
  | [], [] => by simp [PyData.eqvAll]
  | [], y :: m => by simp [PyData.eqvAll]
  | x :: r, [] => by simp [PyData.eqvAll]
  | x :: r, y :: m => by
    have ih := eqv_ints r m
    simp only [List.map_cons, PyData.eqvAll, PyData.eqv, ih]
    by_cases h : x = y
    · subst h
      simp
    · simp [h]
theorem rd_eqLI {p q : Addr} {ns ms : List Int} (h1 : SqL K H p (ns.map V.int)) (h2 : SqL K H q (ms.map V.int)) (k : Q (.bl (decide (ns = ms))) H) : rEqD K (.ref p) (.ref q) H Q :=
  ⟨.list (ns.map PyData.int), .list (ms.map PyData.int), .lst h1 (dp_ints ns), .lst h2 (dp_ints ms), shaped_ints ns, shaped_ints ms, by
    simp only [PyData.eqv, eqv_ints]
    exact k⟩
theorem rd_neLI {p q : Addr} {ns ms : List Int} (h1 : SqL K H p (ns.map V.int)) (h2 : SqL K H q (ms.map V.int)) (k : Q (.bl (!decide (ns = ms))) H) : rNeD K (.ref p) (.ref q) H Q :=
  ⟨.list (ns.map PyData.int), .list (ms.map PyData.int), .lst h1 (dp_ints ns), .lst h2 (dp_ints ms), shaped_ints ns, shaped_ints ms, by
    simp only [PyData.eqv, eqv_ints]
    exact k⟩
end

/-! ### the same rules with the written part named (within comprehensions) -/
section
variable {X : L2.Cx} {K : PySem.W.Frag}
theorem call_listOfK (h : X.K = K) : CallR X (.type "list") (rListOf K) := h ▸ call_listOf
theorem call_lenSK (h : X.K = K) : CallR X (.builtin "len") (rLenS K) := h ▸ call_lenS
theorem ix_listK (h : X.K = K) : IxR X (rIxL K) := h ▸ ix_list
theorem ix_tupK (h : X.K = K) : IxR X (rIxT K) := h ▸ ix_tup
theorem op_in_seqK (h : X.K = K) : OpR X (compareOp .In) (rIn K false) := h ▸ op_in_seq
theorem op_notIn_seqK (h : X.K = K) : OpR X (compareOp .NotIn) (rIn K true) := h ▸ op_notIn_seq
theorem call_isiK2 (h : X.K = K) : CallR X (.builtin "isinstance") (rIsi K) := h ▸ call_isi
theorem pe_fldK {e : Expr} {f : Str} {pos : Pos} {ta : TE} (h : X.K = K) (he : PE X e ta) (hb : attributeBase e f X.env (eval e X.env) = eval e X.env) : PE X (.Attribute e f pos) (tFld K ta f) := h ▸ pe_fld he hb
end
end RD

/-! own layer: sorted(xs, key=f) where f's calls keep the invariant (behind RD) -/
namespace RD
open PySem PySem.Spec PyProof.Rows L2 PySem.W
section
variable {X : Cx} {pins pf : List (Addr × Obj)} {σ : L2.St} {H : Hp} {s : Shared}
/-- what a key's call does -/
def KeyTurn (X : Cx) (A : Around) (σ : L2.St) (H : Hp) (pf : List (Addr × Obj)) (f : Value) (xs : List V) (key : V → Int) : Prop :=
  ∀ (pl : List (Addr × Obj)) (s1 : Shared) (H1 : Hp) (v : V) (u : Value), Inv X (pf ++ pl) σ H1 s1 → Kp [] H H1 → v ∈ xs → RelV v u →
    wpAny (model X.prog X.w) A (call f [u]) (fun z s2 => ∃ H2 t, Inv X (pf ++ pl) σ H2 s2 ∧ Kp [] H1 H2 ∧ z = .int (key v) t) (fun _ _ => False) s1
/-- what stands of an address of ours, whatever runs -/
def Own (X : Cx) (pn : List (Addr × Obj)) (b : Addr) : Prop :=
  b ≠ X.env.locals ∧ b ∉ X.fs ∧ (b ∈ X.ex ∨ X.s_0.heap.objs.size ≤ b) ∧ (∀ x c, X.env.cells.lookup x = some c → c ≠ b) ∧ ∀ p ∈ X.pn ++ pn, p.1 ≠ b
theorem Own.fresh {b : Addr} (I : Inv X pins σ H s) (hb : s.heap.objs.size ≤ b) : Own X pins b := by
  have q := I.fpOk (H' := H) hb (I.hok.fresh hb)
  exact ⟨q.2.1, q.2.2.1, q.2.2.2.1, q.2.2.2.2.1, q.2.2.2.2.2⟩
theorem Own.less {pn pm : List (Addr × Obj)} {b : Addr} (o : Own X pn b) (h : ∀ p, p ∈ pm → p ∈ pn) : Own X pm b :=
  ⟨o.1, o.2.1, o.2.2.1, o.2.2.2.1, fun p hp => o.2.2.2.2 p ((List.mem_append.mp hp).elim (fun z => List.mem_append_left _ z) fun z => List.mem_append_right _ (h p z))⟩
theorem inv_pin {b : Addr} {o : Obj} {pn : List (Addr × Obj)} (I : Inv X (pf ++ pn) σ H s) (w : Own X (pf ++ pn) b) (hn : H b = none) (e : s.heap.get? b = some o) (hc : ∀ v, o.data ≠ .cell v) : Inv X (pf ++ ((b, o) :: pn)) σ H s :=
  I.pins_of fun p hp => by
    rcases List.mem_append.mp hp with z | z
    · exact I.pin p (List.mem_append_right _ (List.mem_append_left _ z))
    · rcases List.mem_cons.mp z with z | z
      · rw [z]
        exact ⟨e, hn, w.1, w.2.1, hc⟩
      · exact I.pin p (List.mem_append_right _ (List.mem_append_right _ z))
theorem inv_unpin {q : Addr × Obj} {pn : List (Addr × Obj)} (I : Inv X (pf ++ (q :: pn)) σ H s) : Inv X (pf ++ pn) σ H s :=
  I.pins_of fun p hp => by
    rcases List.mem_append.mp hp with z | z
    · exact I.pin p (List.mem_append_right _ (List.mem_append_left _ z))
    · exact I.pin p (List.mem_append_right _ (List.mem_append_right _ (List.mem_cons_of_mem _ z)))
theorem inv_head {q : Addr × Obj} {pn : List (Addr × Obj)} (I : Inv X (pf ++ (q :: pn)) σ H s) : s.heap.get? q.1 = some q.2 ∧ H q.1 = none :=
  have z := I.pin q (List.mem_append_right _ (List.mem_append_right _ (.head _)))
  ⟨z.1, z.2.1⟩
/-- the object at b turns -/
theorem inv_turn {b : Addr} {pn : List (Addr × Obj)} {h' : Heap} {t' : Nat} (I : Inv X pn σ H s) (w : Own X pn b) (hn : H b = none) (k : ∀ c o, c ≠ b → s.heap.get? c = some o → h'.get? c = some o) : Inv X pn σ H { s with heap := h', toks := t' } :=
  I.turned k hn w.1 w.2.2.1 w.2.2.2.1 w.2.2.2.2
theorem ints_snoc {vs : List Value} {ns : List Int} {n : Int} {t : Tok} (h : IntsAre vs ns) : IntsAre (vs ++ [.int n t]) (ns ++ [n]) := by
  induction h with
  | nil => exact .cons n t .nil
  | cons m u _ ih => exact .cons m u ih
theorem each_ints {h : Heap} {vs : List Value} {ns : List Int} (e : IntsAre vs ns) : EachIs (fun v d => ∃ as, Reads h v d as) vs (ns.map PyData.int) := by
  induction e with
  | nil => exact .nil
  | cons n t _ ih => exact .cons ⟨[], .int n t⟩ ih
theorem each_vals {xs : List V} {us : List Value} (r : Vals xs us) : EachIs (fun u v => RelV v u) us xs := by
  induction r with
  | nil => exact .nil
  | cons a _ ih => exact .cons a ih
theorem vals_each {xs : List V} {us : List Value} (r : EachIs (fun u v => RelV v u) us xs) : Vals xs us := by
  induction r with
  | nil => exact .nil
  | cons a _ ih => exact .cons a ih
/-- a heap without the object at b -/
def gone (h : Heap) (b : Addr) : Heap := h.update b fun _ => { cls := .none, data := .freed }
theorem gone_at {h : Heap} {b : Addr} {o : Obj} (e : h.get? b = some o) : (gone h b).get? b = none := by
  cases q : (gone h b).get? b with
  | none => rfl
  | some u =>
    exfalso
    obtain ⟨e1, _⟩ := Heap.get?_some_iff.mp e
    obtain ⟨e2, e3⟩ := Heap.get?_some_iff.mp q
    have e4 : (gone h b).objs[b]? = some { cls := .none, data := .freed } := by
      unfold gone
      rw [Heap.objs_update_self, e1]
      rfl
    rw [e4] at e2
    cases e2
    cases e3
theorem gone_ne {h : Heap} {b c : Addr} (n : c ≠ b) : (gone h b).get? c = h.get? c := (Heap.SameBut.update h b _).2 c n
theorem key_end {A : Around} {key : V → Int} {xs : List V} {vs : List Value} {a kS : Addr} {kA : Array Value} {e e1 : Nat} {P : PySem.Fin → Shared → Prop} {E : Value → Shared → Prop} (I : Inv X (pf ++ ((kS, seqObj "list" kA e) :: (a, seqObj "list" #[] e1) :: pins)) σ H s)
    (wk : Own X (pf ++ ((a, seqObj "list" #[] e1) :: pins)) kS) (wa : Own X (pf ++ pins) a) (r : Vals xs vs) (hZ : vs.length ≤ sizeLine) (hu : A.units < cLine) (hk : IntsAre kA.toList (xs.map key))
    (h : ∀ s' out c, Inv X (pf ++ pins) σ H s' → s'.heap.get? a = some (seqObj "list" (List.toArray out) c) → Vals (xs.mergeSort fun p q => decide (key p ≤ key q)) out → P (.done (.ret .none)) s') :
    wpAny (model X.prog X.w) A (ksk_end a false vs.toArray e1 (.ref kS) kA) P E s := by
  have nk := inv_head I
  have na := inv_head (inv_unpin I)
  have hka : kS ≠ a := Ne.symm (wk.2.2.2.2 (a, seqObj "list" #[] e1) (List.mem_append_right _ (List.mem_append_right _ (.head _))))
  have hl : kA.size = vs.length := by
    have h1 := hk.length
    rw [Array.length_toList, List.length_map] at h1
    rw [h1]
    exact r.length
  have hE := each_ints (h := s.heap) hk
  have hkz : (xs.map key).map PyData.int = xs.map (fun v => PyData.int (key v)) := by rw [List.map_map]; rfl
  have hal : AllAlike (xs.map fun v => PyData.int (key v)) := AllAlike.of fun _ _ => by simp [alike]
  have hsk : Sortable (xs.map fun v => PyData.int (key v)) := Sortable.others fun _ => ⟨(fun z => by cases z), (fun _ z => by cases z)⟩
  rw [hkz] at hE
  refine keyH_end (κ := dataKind s.heap (xs.map fun v => PyData.int (key v))) (h₁ := gone s.heap kS) (fun b o hb q => ?_) (gone_at nk.1) nk.1 na.1 hka (SortsAt.data hE hal hsk fun d hd => ?_) hl hZ fun h' tk c kp hc => ?_
  · by_cases hbk : b = kS
    · rw [hbk, gone_at nk.1] at q
      cases q
    · rw [gone_ne hbk] at q
      exact q
  · obtain ⟨v, _, e⟩ := List.mem_map.mp hd
    rw [← e]
    simpa [PyData.depth] using hu
  · have I1 : Inv X (pf ++ ((a, seqObj "list" #[] e1) :: pins)) σ H { s with heap := gone s.heap kS, toks := s.toks } := inv_turn (inv_unpin I) wk nk.2 fun b o hb q => by
      rw [gone_ne hb]
      exact q
    have I2 : Inv X (pf ++ pins) σ H { s with heap := h', toks := tk } := inv_turn (s := { s with heap := gone s.heap kS, toks := s.toks }) (inv_unpin I1) wa na.2 fun b o hb q => kp b o hb q
    have ko : KeyedOut false (xs.map fun v => PyData.int (key v)) vs (sortVals (dataKind s.heap (xs.map fun v => PyData.int (key v))) false kA.toList vs) := ⟨s.heap, kA.toList, hal, rfl, hE⟩
    have eo := keyedOut_each (fun v => PyData.int (key v)) ko (each_vals r)
    rw [dataLe_int key] at eo
    exact h _ _ c I2 hc (vals_each eo)
/-- the keys' loop -/
theorem key_rest {A : Around} {f : Value} {key : V → Int} {xs : List V} {vs : List Value} {a kS : Addr} {e1 : Nat} {P : PySem.Fin → Shared → Prop} {E : Value → Shared → Prop} (T : KeyTurn X A σ H pf f xs key)
    (I : Inv X (pf ++ ((kS, seqObj "list" #[] 0) :: (a, seqObj "list" #[] e1) :: pins)) σ H s) (wk : Own X (pf ++ ((a, seqObj "list" #[] e1) :: pins)) kS) (wa : Own X (pf ++ pins) a) (r : Vals xs vs) (hZ : vs.length ≤ sizeLine) (hu : A.units < cLine)
    (h : ∀ H' s' out c, Inv X (pf ++ pins) σ H' s' → Kp [] H H' → H' a = none → s'.heap.get? a = some (seqObj "list" (List.toArray out) c) → Vals (xs.mergeSort fun p q => decide (key p ≤ key q)) out → P (.done (.ret .none)) s') :
    wpAny (model X.prog X.w) A (ksk_rest a f false vs.toArray e1 (.ref kS)) P E s := by
  unfold ksk_rest
  refine wpAny_bind (wpAny_rule ?_)
  rw [List.forIn_toArray]
  refine wpAny_bind (ksk_fold (fun i s' => ∃ H1 kA e, Inv X (pf ++ ((kS, seqObj "list" kA e) :: (a, seqObj "list" #[] e1) :: pins)) σ H1 s' ∧ Kp [] H H1 ∧ IntsAre kA.toList ((xs.take i).map key)) vs 0 s ⟨H, #[], 0, I, Kp.refl, .nil⟩ ?step ?done)
  case step =>
    rintro j u s' hx ⟨H1, kA, e, I1, k1, hk⟩
    rw [Nat.zero_add] at hk ⊢
    obtain ⟨hj, _⟩ := List.getElem?_eq_some_iff.mp hx
    obtain ⟨v, hv⟩ : ∃ v, xs[j]? = some v := ⟨_, List.getElem?_eq_getElem (by rw [r.length]; exact hj)⟩
    obtain ⟨u', hu', rv⟩ := Vals.get r hv
    rw [hx] at hu'
    cases hu'
    have hz : kA.size ≤ vs.length := by
      have h1 := hk.length
      rw [Array.length_toList, List.length_map, List.length_take] at h1
      omega
    refine wpAny_bind (wpAny_attempt (wpAny_mono (T _ s' H1 v u I1 k1 (List.mem_of_getElem? hv) rv) (fun z s2 he => ?_) fun _ _ hF => hF.elim))
    obtain ⟨H2, t, I2, k2, rfl⟩ := he
    have nk := inv_head I2
    obtain ⟨c2, hc2⟩ : ∃ c2, (s2.heap.update kS (Obj.mapSeq (·.push (.int (key v) t)))).get? kS = some (seqObj "list" (kA.push (.int (key v) t)) c2) := ⟨_, get?_update_seq nk.1 (·.push (.int (key v) t))⟩
    refine wpAny_bind (listUpdate_at nk.1 rfl ?_ (Nat.le_trans hz hZ) (Nat.le_trans (Nat.le_of_eq (Array.size_push ..)) (Nat.succ_le_succ (Nat.le_trans hz hZ))))
    have I3 : Inv X (pf ++ ((a, seqObj "list" #[] e1) :: pins)) σ H2 { s2 with heap := s2.heap.update kS (Obj.mapSeq (·.push (.int (key v) t))), toks := s2.toks } :=
      inv_turn (inv_unpin I2) wk nk.2 fun b o hb q => ((Heap.SameBut.update s2.heap kS _).2 b hb).trans q
    refine wpAny_pure ⟨rfl, H2, kA.push (.int (key v) t), c2, inv_pin I3 wk nk.2 hc2 (fun _ z => by cases z), k1.trans k2, ?_⟩
    rw [Array.toList_push, List.take_add_one, hv, List.map_append]
    exact ints_snoc hk
  case done =>
    rintro s' ⟨H1, kA, e, I1, k1, hk⟩
    rw [Nat.zero_add, ← r.length, List.take_length] at hk
    refine wpAny_bind (listItems_at (inv_head I1).1 rfl ?_)
    exact key_end (key := key) I1 wk wa r hZ hu hk fun s2 out c I2 hc ho => h H1 s2 out c I2 k1 (inv_head (inv_unpin I1)).2 hc ho
/-- xs.sort(key=f) of a list that nobody knows -/
theorem key_tree {A : Around} {f : Value} {key : V → Int} {xs : List V} {vs : List Value} {a : Addr} {n : Nat} {P : PySem.Fin → Shared → Prop} {E : Value → Shared → Prop} (T : KeyTurn X A σ H pf f xs key)
    (I : Inv X (pf ++ pins) σ H s) (wa : Own X (pf ++ pins) a) (na : H a = none) (ho : s.heap.get? a = some (seqObj "list" vs.toArray n)) (r : Vals xs vs) (hZ : vs.length ≤ sizeLine) (hu : A.units < cLine)
    (h : ∀ H' s' out c, Inv X (pf ++ pins) σ H' s' → Kp [] H H' → H' a = none → s'.heap.get? a = some (seqObj "list" (List.toArray out) c) → Vals (xs.mergeSort fun p q => decide (key p ≤ key q)) out → P (.done (.ret .none)) s') :
    wpAny (model X.prog X.w) A (ksk_tree a f false) P E s := by
  obtain ⟨e1, ho1⟩ : ∃ e1, (s.heap.update a (Obj.mapSeq fun _ => (#[] : Array Value))).get? a = some (seqObj "list" #[] e1) := ⟨_, get?_update_seq ho fun _ => #[]⟩
  have I1 : Inv X (pf ++ pins) σ H { s with heap := s.heap.update a (Obj.mapSeq fun _ => (#[] : Array Value)), toks := s.toks } := inv_turn I wa na fun b o hb q => ((Heap.SameBut.update s.heap a _).2 b hb).trans q
  have I2 := inv_pin I1 wa na ho1 (fun _ z => by cases z)
  have I3 : Inv X (pf ++ ((a, seqObj "list" #[] e1) :: pins)) σ H { s with heap := (s.heap.update a (Obj.mapSeq fun _ => (#[] : Array Value))).push (seqObj "tuple" vs.toArray 0), toks := s.toks } := I2.kept fun b o q => Heap.get?_push_of_some _ q
  have wk := Own.fresh I3 (Nat.le_refl _)
  have nk := I3.hok.fresh (Nat.le_refl _)
  have I4 : Inv X (pf ++ ((a, seqObj "list" #[] e1) :: pins)) σ H { s with heap := ((s.heap.update a (Obj.mapSeq fun _ => (#[] : Array Value))).push (seqObj "tuple" vs.toArray 0)).push (seqObj "list" #[] 0), toks := s.toks } := I3.kept fun b o q => Heap.get?_push_of_some _ q
  unfold ksk_tree
  refine wpAny_bind (listItems_at ho rfl ?_)
  refine wpAny_bind (listUpdate_at ho rfl ?_ (by rw [List.size_toArray]; exact hZ) (Nat.zero_le _))
  refine wpAny_bind (seqEpoch_at ho1 rfl ?_)
  refine wpAny_bind (wpAny_newTuple ?_ (by show vs.length ≤ _; exact hZ))
  refine wpAny_bind (wpAny_newList ?_ (Nat.zero_le _))
  refine wpAny_holding ?_
  exact key_rest T (inv_pin I4 wk nk (Heap.get?_push_size _ rfl) (fun _ z => by cases z)) wk wa r hZ hu h
/-- an object of ours becomes known -/
theorem inv_track {a : Addr} {o : HO} {pn : List (Addr × Obj)} (I : Inv X pn σ H s) (w : Own X pn a) (hn : H a = none) (ok : ObjOk X.prog X.w (upd H a o) s.heap a o) : Inv X pn σ (upd H a o) s := by
  have ne : ∀ b u, H b = some u → b ≠ a := fun b u e z => by
    rw [z, hn] at e
    cases e
  have up : ∀ b u, H b = some u → upd H a o b = some u := fun b u e => by rw [upd_ne (ne b u e)]; exact e
  exact I.step (h' := s.heap) (g' := s.gens) (d' := s.drawn) (t' := s.toks) (ch := [a]) (fun b hb => by
      rw [List.mem_singleton.mp hb]
      exact ⟨w.2.2.1, w.1, w.2.2.2.1, w.2.2.2.2⟩)
    (fun b u _ _ _ e _ => e) (fun b u _ _ _ e _ => ⟨u.slots, e⟩) (fun b u hb _ n => by
      rw [upd_ne (fun z => hb (List.mem_singleton.mpr z))]
      exact n)
    (fun b u _ e => ⟨u, e⟩) (fun b xs e => up b _ e) (fun b u v e => up b _ e) (fun b ps e => ⟨#[], by rw [up b _ e]; simp⟩) (fun m hm => hm)
    (fun b u e => by
      by_cases hb : b = a
      · rw [hb, upd_same] at e
        cases e
        rw [hb]
        exact ok
      · rw [upd_ne hb] at e
        exact (I.hok b u e).stay (fun c v _ q => q) (fun c q => up c _ q) fun c xs q => up c _ q) I.bare
/-- sorted(xs, key=f) -/
theorem sorted_key {f : Addr} {key : V → Int} {xs : List V} {l : Addr} {Q : VK} (T : KeyTurn X X.A.in1.in1 σ H pf (.ref f) xs key) (I : Inv X (pf ++ pins) σ H s) (hs : SqL X.K H l xs) (hu : X.A.units + 2 < cLine)
    (h : ∀ H' p, Kp [] H H' → H' p = none → Q (.ref p) (upd H' p (.lst (xs.mergeSort fun a b => decide (key a ≤ key b))))) :
    wpAny (model X.prog X.w) X.A (call (.builtin "sorted") [.ref l] [(Str.ofString "key", .ref f)]) (EP X (pf ++ pins) σ Q) X.xe s := by
  obtain ⟨its, rv, hl, hz⟩ := I.list hs
  have wa := Own.fresh I (b := s.heap.objs.size + 1) (Nat.le_succ _)
  have na : H (s.heap.objs.size + 1) = none := I.hok.fresh (Nat.le_succ _)
  refine sorted_of_sort hl.isList (by rw [← rv.length]; exact hz) (ksk_s1 _ _) (fun _ => ksk_l1 _ _) fun E' => ?_
  rw [ksk_t1]
  have I1 : Inv X (pf ++ pins) σ H { s with heap := copyHeap s.heap its, toks := s.toks } := I.kept fun b o q => copyHeap_old q
  refine key_tree (s := { s with heap := copyHeap s.heap its }) T I1 wa na (copyHeap_at s.heap its) rv (by rw [← rv.length]; exact hz) hu fun H' s' out c I2 k2 n2 hc ro => ⟨rfl, ?_⟩
  have hlen : (xs.mergeSort fun a b => decide (key a ≤ key b)).length ≤ sizeLine := by
    rw [List.length_mergeSort]
    exact hz
  exact ⟨.ref _, _, inv_track (o := .lst (xs.mergeSort fun a b => decide (key a ≤ key b))) I2 wa n2 ⟨hlen, out, c, ro, hc⟩, rfl, h H' _ k2 n2⟩
end
/-! ### a lambda with one parameter -/
structure Lam1 (sc scope : Scope) (p : Str) : Prop where
  kind : scope.kind = .function
  co : scope.isCoroutine = false
  gen : scope.isGenerator = false
  own : ∀ y ∈ scope.names, y.2 ≠ .cell
  par : scope.names.lookup p = some .local
  loc : ∀ {y}, y ≠ p → scope.names.lookup y ≠ some .local
  free : ∀ y ∈ scope.names, y.2 = .free → sc.names.lookup y.1 = some .cell ∨ sc.names.lookup y.1 = some .free
def lam1B (sc scope : Scope) (p : Str) : Bool :=
  decide (scope.kind = .function) && !scope.isCoroutine && !scope.isGenerator && decide (scope.names.lookup p = some .local) && scope.names.all fun y => !decide (y.2 = .cell) && (!decide (y.2 = .local) || decide (y.1 = p)) && (!decide (y.2 = .free) || decide (sc.names.lookup y.1 = some .cell) || decide (sc.names.lookup y.1 = some .free))
theorem lam1_by {sc scope : Scope} {p : Str} (h : lam1B sc scope p = true) : Lam1 sc scope p := by
  unfold lam1B at h
  simp only [Bool.and_eq_true, Bool.or_eq_true, Bool.not_eq_true', decide_eq_true_eq, decide_eq_false_iff_not, List.all_eq_true] at h
  obtain ⟨⟨⟨⟨h1, h2⟩, h3⟩, h5⟩, h4⟩ := h
  refine ⟨h1, h2, h3, fun y hy => (h4 y hy).1.1, h5, fun {y} n e => ?_, fun y hy e => ?_⟩
  · rcases (h4 _ (PySem.mem_of_lookup e)).1.2 with z | z
    · exact z rfl
    · exact n z
  rcases (h4 y hy).2 with (z | z) | z
  · exact absurd e z
  · exact .inl z
  · exact .inr z
theorem Lam1.has {X : Cx} {scope : Scope} {p : Str} (L : Lam1 X.env.scope scope p) (ok : X.Ok) : ∀ y ∈ scope.names, y.2 = .free → ∃ c, X.env.cells.lookup y.1 = some c := fun y hy e => by
  rcases L.free y hy e with k | k
  · exact ok.has _ (.inl k)
  · exact ok.has _ (.inr k)
/-- the context of the lambda's body -/
def lam1Cx (X : Cx) (A : Around) (s : Shared) (H : Hp) (N : List Str) (scope : Scope) (f c' : Addr) : Cx where
  prog := X.prog
  w := X.w
  K := X.K
  mg := X.mg
  base := X.base
  A := A.deeper (LamX.lamEnv X scope s.heap.objs.size f c')
  N := N
  s_0 := s
  H_0 := H
  env := LamX.lamEnv X scope s.heap.objs.size f c'
  outer := X.stack
  stack := LamX.lamEnv X scope s.heap.objs.size f c' :: X.stack
  ex := []
  fn := fun _ => false
  calm := true
  pn := []
  xe := fun _ _ => False
section
variable {X : Cx} {pins : List (Addr × Obj)} {σ σ' : L2.St} {H : Hp} {s : Shared}
/-- each name of the body that has a value: the parameter, or a name of the maker -/
def Caps (X : Cx) (σ : L2.St) (N : List Str) (σ' : L2.St) (p : Str) (v : V) : Prop :=
  σ'.length = N.length ∧ ∀ (i : Nat) (y : Str) (x : V), N[i]? = some y → σ'[i]? = some (some x) → (y = p ∧ x = v) ∨ (y ≠ p ∧ ∃ j : Nat, X.N[j]? = some y ∧ σ[j]? = some (some x))
theorem lam1_start {A : Around} {N : List Str} {scope : Scope} {p : Str} {v : V} {u : Value} {f c' : Addr} {h₁ : Heap} {tk : Nat} (I : Inv X pins σ H s) (L : Lam1 X.env.scope scope p) (hfr : A.frames = some X.stack) (hd : A.handled = none) (C : Caps X σ N σ' p v) (r : RelV v u)
    (hns : h₁.Ns s.heap.objs.size fun y => [(p, u)].reverse.lookup y) (kp : ∀ b o, s.heap.get? b = some o → h₁.get? b = some o) :
    Inv (lam1Cx X A s H N scope f c') [] σ' H { s with heap := h₁, toks := tk } := by
  have e0 := I.env0
  have hfree := L.has I.ok
  have cm : ∀ {y c}, (cloFrom X.env.cells scope.names []).lookup y = some c → X.env.cells.lookup y = some c := fun {y c} e => by
    rcases cloFrom_mem (PySem.mem_of_lookup e) with hm | ⟨h1, h2⟩
    · cases hm
    · obtain ⟨c1, hc⟩ := hfree _ h1 rfl
      have hc : X.env.cells.lookup y = some c1 := hc
      have e2 : c = c1 := by rw [h2, hc] <;> rfl
      rw [e2]
      exact hc
  have look : ∀ {y}, scope.names.lookup y = some .free → ∃ c, (cloFrom X.env.cells scope.names []).lookup y = some c := fun {y} hl =>
    mem_lookup (cloFrom_has (cells := X.env.cells) (acc := []) (PySem.mem_of_lookup hl))
  have cellK : ∀ {c : Addr} {z : Option Value}, s.heap.IsCell c z → h₁.IsCell c z := fun {c z} ⟨o, ho, hd⟩ => ⟨o, kp _ _ ho, hd⟩
  have noA : ∀ b : Addr, b ∉ (lam1Cx X A s H N scope f c').ex := fun b z => by cases z
  constructor
  case ok =>
    constructor
    case mod => exact e0.mod
    case kind => exact L.kind
    case glob => exact rfl
    case blt => exact rfl
    case above => exact Nat.le_refl _
    case inj => exact fun y z c e1 e2 => I.ok.inj y z c (cm e1) (cm e2)
    case has =>
      intro y hy
      have hy : scope.names.lookup y = some .cell ∨ scope.names.lookup y = some .free := hy
      rcases hy with hy | hy
      · exact absurd rfl (L.own _ (PySem.mem_of_lookup hy))
      · exact look hy
    case cab =>
      intro y c z _
      have z : false = true := z
      cases z
    case hd => exact fun _ => hd
    case frames => exact Around.frames_deeper hfr
    case stk => exact .inr ⟨rfl, rfl⟩
    case exf => exact fun b z => absurd z (noA b)
    case bs => exact e0.bs
    case bsz => exact e0.bsz
    case noex => exact fun b _ _ => noA b
    case exfs => exact fun b z => absurd z (noA b)
    case funs => exact e0.funs
    case frf => exact e0.frf
  case os => exact rfl
  case bare => exact e0.bare
  case base => exact Un.kept kp
  case loc =>
    refine ⟨_, hns, fun i y x e1 e2 e3 => ?_⟩
    rcases C.2 i y x e1 e2 with ⟨ey, ex⟩ | ⟨ny, j, j1, j2⟩
    · rw [ey, ex]
      exact ⟨u, r, .inl ⟨L.par, by simp⟩⟩
    · have e3 : Vis scope y := e3
      rcases e3 with k | k | k
      · exact absurd k (L.loc ny)
      · exact absurd rfl (L.own _ (PySem.mem_of_lookup k))
      · obtain ⟨m, hn, hl⟩ := I.loc
        have hvis : Vis X.env.scope y := (L.free _ (PySem.mem_of_lookup k) rfl).elim (fun k => .inr (.inl k)) (fun k => .inr (.inr k))
        obtain ⟨w', r', q⟩ := hl j y x j1 j2 hvis
        obtain ⟨c2, h2⟩ := look k
        refine ⟨w', r', .inr ⟨.inr k, c2, h2, ?_⟩⟩
        have c1 := cm h2
        rcases q with ⟨k', _⟩ | ⟨_, c3, e', z⟩
        · have k' : X.env.scope.names.lookup y = some .local := k'
          rcases L.free _ (PySem.mem_of_lookup k) rfl with k2 | k2 <;> rw [show X.env.scope.names.lookup y = _ from k2] at k' <;> cases k'
        · rw [c1] at e'
          cases e'
          exact cellK z
  case cell =>
    intro y c e
    obtain ⟨w', z⟩ := I.cell y c (cm e)
    exact ⟨w', cellK z⟩
  case free => exact e0.hok.fresh (Nat.le_refl _)
  case freeC => exact fun y c e => I.freeC y c (cm e)
  case pin => exact fun q hq => absurd (show q ∈ ([] : List (Addr × Obj)) ++ [] from hq) (by simp)
  case hok => exact e0.hok.kept kp
  case len => exact C.1
/-- the lambda as a key -/
theorem lam1_turn {A : Around} {k : Nat} {N : List Str} {scope : Scope} {p : Str} {f c' : Addr} {params : Arguments} {body : Expr} {pm ctv : Value} {xs : List V} {key : V → Int} {τ : V → L2.St} (L : Lam1 X.env.scope scope p) (hc : H c' = some (LamX.CodeO c' (X.env.qual ++ "<lambda>")))
    (hA : A.frames = some X.stack) (hr : Room (k + 1) A) (hbind : ∀ u, bindArgs (PySem.W.kla_fn "<lambda>" (X.env.qual ++ "<lambda>") params body scope (cloFrom X.env.cells scope.names []) pm (.ref c') ctv) ⟨[u], []⟩ = pure [(p, u)])
    (hC : ∀ v, v ∈ xs → Caps X σ N (τ v) p v)
    (hbody : ∀ (s : Shared) (H1 : Hp) (v : V), v ∈ xs → Kp [] H H1 → Room k (A.deeper (LamX.lamEnv X scope s.heap.objs.size f c')) → ∃ tb, PE (lam1Cx X A s H1 N scope f c') body tb ∧ tb (τ v) H1 fun x H2 => x = .int (key v) ∧ Kp [] H1 H2) :
    KeyTurn X A σ H [(f, PySem.W.kla_obj "<lambda>" (X.env.qual ++ "<lambda>") params body scope (cloFrom X.env.cells scope.names []) pm c' ctv)] (.ref f) xs key := by
  intro pl s1 H1 v u I1 k1 hv r
  have hf := (I1.pin _ (List.mem_append_right _ (List.mem_append_left _ (.head _)))).1
  obtain ⟨⟨oc, vs, t, hoc, hdc, hvc⟩, _, _⟩ := I1.hok c' _ (k1.g0 hc)
  have rc : codeAny (model X.prog X.w) A (.call (.ref f) ⟨[u], []⟩) (fun r s' => ∃ z, r = .ok (.ret z) ∧ CE X.stack X.prog X.w H1 s1 (fun x H2 => x = .int (key v) ∧ Kp [] H1 H2) z s') s1 := by
    refine PySem.W.kla_callFunE hr.depth hf rfl L.co L.gen rfl ⟨c', oc, vs, t, rfl, hoc, hdc, hvc⟩ ?_
    rw [hbind]
    refine wpAny_pure (wpAny_newFunctionEnv (fun y hy => L.own y hy) (fun y hy => ?_) (fun h₁ hns hsb => ⟨I1.nolimit.fresh _ hsb, ?_⟩) L.kind)
    · rw [List.mem_singleton.mp hy]
      exact L.par
    show codeAny _ _ (.expr body (LamX.lamEnv X scope s1.heap.objs.size f c')) _ _
    have kp : ∀ b o, s1.heap.get? b = some o → h₁.get? b = some o := fun b o e => hsb.extBut b o (Nat.ne_of_lt (Heap.lt_size e)) (Heap.get?_push_of_some _ e)
    have J : Inv (lam1Cx X A s1 H1 N scope f c') [] (τ v) H1 { s1 with heap := h₁, toks := s1.toks + [(p, u)].length } := lam1_start I1 L hA hr.hd (hC v hv) r hns kp
    obtain ⟨tb, hp, ht⟩ := hbody s1 H1 v hv k1 (hr.deeper _)
    refine PySem.W.kla_codeExpr (wpAny_mono (hp.run [] _ _ _ _ J ht) (fun z s' hq => ?_) fun e s' hq => (show False from hq).elim)
    obtain ⟨w', H', J', rv, q⟩ := hq
    exact ⟨z, rfl, w', H', J'.os, J'.bare, J'.base, J'.hok, rv, q⟩
  refine wpAny_call (codeAny_mono rc fun r s' hq => ?_)
  obtain ⟨z, rfl, ce⟩ := hq
  obtain ⟨x, H2, I2, rx, ex, k2⟩ := I1.after ce
  rw [ex] at rx
  obtain ⟨t', e⟩ := rx
  exact ⟨H2, t', I2, k2, e⟩
/-- a made function is pinned -/
theorem fn_pin {f : Addr} {o : Obj} {fd : FuncData} (I : Inv X pins σ H s) (hf : s.heap.get? f = some o) (hd : o.data = .func fd) (hn : H f = none) (hfr : f ∉ frs X.stack) : Inv X ([(f, o)] ++ pins) σ H s :=
  I.pins_of fun p hp => by
    rcases List.mem_append.mp hp with z | z
    · rw [List.mem_singleton.mp z]
      refine ⟨hf, hn, fun e => ?_, fun e => ?_, fun v e => ?_⟩
      · obtain ⟨m, ⟨ol, es, ep, ho, hdl, _⟩, _⟩ := I.loc
        have e : f = X.env.locals := e
        rw [← e, hf] at ho
        cases ho
        rw [hd] at hdl
        cases hdl
      · rcases I.ok.stk with k | ⟨k, _⟩
        · exact hfr (by rw [k]; exact e)
        · refine hfr ?_
          rw [k]
          unfold frs
          rw [List.filterMap_cons]
          have e : f ∈ frs X.outer := e
          unfold frs at e
          split
          · exact e
          · exact List.mem_cons_of_mem _ e
      · have e : o.data = .cell v := e
        rw [hd] at e
        cases e
    · exact I.pin p (List.mem_append_right _ z)
theorem ep_less {q : Addr × Obj} {Q : VK} {u : Value} {s' : Shared} (h : EP X ([q] ++ pins) σ Q u s') : EP X pins σ Q u s' := by
  obtain ⟨v, H', I, r, h⟩ := h
  exact ⟨v, H', I.pins_of fun p hp => I.pin p (List.mem_append_right _ (List.mem_append_right _ hp)), r, h⟩
/-- the names of the body, told by the maker's -/
def CapsN (N0 : List Str) (σ : L2.St) (N : List Str) (σ' : L2.St) (p : Str) (v : V) : Prop :=
  σ'.length = N.length ∧ ∀ (i : Nat) (y : Str) (x : V), N[i]? = some y → σ'[i]? = some (some x) → (y = p ∧ x = v) ∨ (y ≠ p ∧ ∃ j : Nat, N0[j]? = some y ∧ σ[j]? = some (some x))
theorem sq_ext {K : PySem.W.Frag} {H H' : Hp} {l : Addr} {xs : List V} (e : LamX.ExtN H H') (h : SqL K H l xs) : SqL K H' l xs := by
  rcases h with (h | ⟨o, h⟩) | h
  · exact .inl (.inl (e _ _ h fun ps z => by cases z))
  · exact .inl (.inr ⟨o, e _ _ h fun ps z => by cases z⟩)
  · exact .inr h
/-- sorted(e, key=lambda p: body) -/
def tSortKey (K : PySem.W.Frag) (T : List (Addr × Str)) (N0 N : List Str) (p : Str) (t : TA) (tb : TE) : TE := fun σ H Q => t σ H fun vs H1 => ∃ (l : Addr) (xs : List V) (key : V → Int) (τ : V → L2.St), vs = [.ref l] ∧ SqL K H1 l xs ∧ LamX.Tabs T H1 ∧
  (∀ v, v ∈ xs → CapsN N0 σ N (τ v) p v) ∧ ∀ H2, LamX.ExtN H1 H2 → LamX.Tabs T H2 → (∀ (H3 : Hp) (v : V), v ∈ xs → Kp [] H2 H3 → tb (τ v) H3 fun x H4 => x = .int (key v) ∧ Kp [] H3 H4) ∧
    ∀ (H3 : Hp) (q : Addr), Kp [] H2 H3 → H3 q = none → Q (.ref q) (upd H3 q (.lst (xs.mergeSort fun a b => decide (key a ≤ key b))))
theorem pe_sortKey {T : List (Addr × Str)} {N : List Str} {k : Nat} {c P : Addr} {scope : Scope} {p : Str} {params : Arguments} {e body : Expr} {t : TA} {tb : TE} {p1 kpos lpos pos : Pos} (hg : Gl X "sorted") (hm : X.mg "sorted" = none) (ha : PA X [e] t)
    (TB : LamX.TabB X.base X.mg c P) (hcode : X.env.code = .ref c) (hmT : (P, X.env.qual ++ "<lambda>") ∈ T) (huT : ∀ p ∈ T, p.1 = P → p.2 = X.env.qual ++ "<lambda>") (hr : Room (k + 3) X.A) (L : Lam1 X.env.scope scope p) (hdef : defaultsOf params X.env = ([], []))
    (hbind : ∀ (q : Str) (cl : List (Str × Addr)) (pm cv ctv u : Value), bindArgs (PySem.W.kla_fn "<lambda>" q params body scope cl pm cv ctv) ⟨[u], []⟩ = pure [(p, u)])
    (hbody : ∀ (s : Shared) (H : Hp) (f c' : Addr), Room k (X.A.in1.in1.deeper (LamX.lamEnv X scope s.heap.objs.size f c')) → PE (lam1Cx X X.A.in1.in1 s H N scope f c') body tb)
    (he : backTo pos (starEach [e] X.env) = (false, eval e X.env) :: backTo pos (starEach [] X.env) := by rfl) (hpl : (backTo pos (starEach [e] X.env)).any (·.1) = false := by rfl) :
    PE X (.Call (.Name "sorted" p1) [e] [⟨some "key", .Lambda params body scope lpos, kpos⟩] pos) (tSortKey X.K T X.N N p t tb) := by
  refine ⟨fun pins s σ H Q I h => ?_⟩
  refine wpAny_Call_Name_kw (ld_blt I hg hm (show bootBuiltins "sorted" = some (.builtin "sorted") by rfl) ?_ (by decide) (by decide))
  refine PyProof.Rows.callWith_kw (thn (ha.run pos pins s σ H _ I h) fun us s1 ⟨vs, H1, I1, r1, q1⟩ => ?_) he hpl rfl rfl
  obtain ⟨l, xs, key, τ, rfl, hs, hT, hC, q⟩ := q1
  obtain rfl := Vals.ref1 r1
  show wpAny _ _ (evalAll ((do let v ← eval (.Lambda params body scope lpos) X.env; standAt pos; pure v) :: [])) _ _ s1
  refine wpAny_evalAll_cons (wpAny_bind (LamX.lam_make2 I1 TB hcode hmT huT hT hdef (L.has I1.ok) fun f c' pm ctv H2 s2 I2 eN T2 hf hfn hfr hco => wpAny_bind (wpAny_standAt (wpAny_pure (wpAny_evalAll_nil ?_)))))
  obtain ⟨hb, hq⟩ := q H2 eN T2
  show wpAny _ _ (call (.builtin "sorted") [.ref l] [(Str.ofString "key", .ref f)]) _ _ s2
  refine wpAny_mono (sorted_key (lam1_turn L hco I2.ok.frames hr.in1.in1 (fun u => hbind _ _ _ _ _ u) hC fun s H3 v hv k3 hr3 => ⟨tb, hbody s H3 f c' hr3, hb H3 v hv k3⟩) (fn_pin I2 hf rfl hfn hfr) (sq_ext eN hs) (by have := hr.units; omega) hq) (fun u s' h => ep_less h) fun _ _ h => h
end
end RD
namespace RD
open PySem PySem.Spec PyProof.Rows L2 PySem.W
section
variable {X : Cx} {pins pf : List (Addr × Obj)} {σ : L2.St} {H : Hp} {s : Shared}
theorem Own.cons {pn : List (Addr × Obj)} {q : Addr × Obj} {b : Addr} (w : Own X (pf ++ pn) b) (n : q.1 ≠ b) : Own X (pf ++ (q :: pn)) b :=
  ⟨w.1, w.2.1, w.2.2.1, w.2.2.2.1, fun p hp => by
    rcases List.mem_append.mp hp with z | z
    · exact w.2.2.2.2 p (List.mem_append_left _ z)
    · rcases List.mem_append.mp z with z | z
      · exact w.2.2.2.2 p (List.mem_append_right _ (List.mem_append_left _ z))
      · rcases List.mem_cons.mp z with z | z
        · rw [z]
          exact n
        · exact w.2.2.2.2 p (List.mem_append_right _ (List.mem_append_right _ z))⟩
/-- the first of the least -/
def Least (xs : List V) (key : V → Int) (i : Nat) (b : V) : Prop := xs[i]? = some b ∧ ∀ (j : Nat) (z : V), xs[j]? = some z → key b ≤ key z ∧ (j < i → key b < key z)
theorem min_loop {A : Around} {f : Addr} {key : V → Int} {xs : List V} {l Ia S : Addr} {kw : List (Str × Value)} {R : Result → Shared → Prop} (hh : A.handled = none) (T : KeyTurn X A.in1 σ H pf (.ref f) xs key) (hs : SqL X.K H l xs) (hlI : l ≠ Ia) (hSI : S ≠ Ia)
    (wS : Own X (pf ++ pins) S) (wI : Own X (pf ++ pins) Ia)
    (hR : ∀ H2 s2 i b vb, Inv X (pf ++ pins) σ H2 s2 → Kp [] H H2 → Least xs key i b → RelV b vb → R (.ok (.ret vb)) s2) :
    ∀ (r j i : Nat) (s1 : Shared) (H1 : Hp) (b : V) (vb : Value) (tb : Tok) (c : Nat) (oI : Obj), xs.length - (j + 1) = r → j + 1 ≤ xs.length → Inv X (pf ++ ((S, seqObj "list" #[vb, .int (key b) tb] c) :: (Ia, oI) :: pins)) σ H1 s1 → Kp [] H H1 → s1.heap.IsListIter Ia l (j + 1) →
      xs[i]? = some b → RelV b vb → i ≤ j → (∀ (j' : Nat) (z : V), j' ≤ j → xs[j']? = some z → key b ≤ key z ∧ (j' < i → key b < key z)) →
      codeAny (model X.prog X.w) A (.builtin "min.loop" ⟨[.ref Ia, .ref f, .ref S], kw⟩) R s1 := by
  have hname : (toString "min" ++ toString ".loop" : String) = "min.loop" := by decide
  intro r
  induction r with
  | zero =>
    intro j i s1 H1 b vb tb c oI hr hj I1 k1 hit hb rb hij hbest
    have hin : j + 1 = xs.length := by omega
    have nS := inv_head I1
    have nI := inv_head (inv_unpin I1)
    obtain ⟨its, rv, hl, hz⟩ := I1.list (sl_kp k1 (by simp) hs)
    have W := Walks.list (prog := X.prog) (w := X.w) (A := A.in1) hh Ia l hlI its.toArray
    have hsz : its.toArray.size = xs.length := by rw [List.size_toArray, rv.length]
    refine codeAny_builtin (id := "min.loop") PySem.F.entry_min_loop ?_
    rw [Around.under_plainId PySem.F.plain_min_loop _]
    show wpAny (model X.prog X.w) A.in1 (seqItems? (.ref S) >>= _) _ _ _
    refine wpAny_bind (wpAny_seqItems (s := s1) nS.1 rfl ?_)
    show wpAny (model X.prog X.w) A.in1 (tryCatch (pyNext (.ref Ia)) _ >>= _) _ _ _
    refine wpAny_bind (wpAny_tryCatch (W.done s1 _ _ ⟨by rw [hsz, ← hin]; exact hit, hl.isList⟩ fun h' tk' hk' => ?_))
    have hS' := hk' S _ (by simpa using hSI) nS.1
    have I2 : Inv X (pf ++ ((S, seqObj "list" #[vb, .int (key b) tb] c) :: pins)) σ H1 { s1 with heap := h', toks := tk' } :=
      inv_pin (inv_turn (inv_unpin (inv_unpin I1)) wI nI.2 fun a o ha q => hk' a o (by simpa using ha) q) wS nS.2 hS' (fun _ z => by cases z)
    have I3 : Inv X (pf ++ pins) σ H1 { s1 with heap := h'.update S (Obj.mapSeq fun _ => (#[] : Array Value)), toks := tk' } :=
      inv_turn (s := { s1 with heap := h', toks := tk' }) (inv_unpin I2) wS nS.2 fun a o ha q => ((Heap.SameBut.update h' S _).2 a ha).trans q
    show wpAny (model X.prog X.w) A.in1 (updateSeq S (fun _ => #[]) >>= _) _ _ _
    refine wpAny_bind (wpAny_updateSeq hS' rfl (wpAny_bind (wpAny_letGo (wpAny_pure ?_))))
    exact hR H1 _ i b vb I3 k1 ⟨hb, fun j' z hz' => hbest j' z (by have := (List.getElem?_eq_some_iff.mp hz').1; omega) hz'⟩ rb
  | succ r ih =>
    intro j i s1 H1 b vb tb c oI hr hj I1 k1 hit hb rb hij hbest
    have hlt : j + 1 < xs.length := by omega
    have nS := inv_head I1
    have nI := inv_head (inv_unpin I1)
    obtain ⟨its, rv, hl, hz⟩ := I1.list (sl_kp k1 (by simp) hs)
    have W := Walks.list (prog := X.prog) (w := X.w) (A := A.in1) hh Ia l hlI its.toArray
    have hsz : its.toArray.size = xs.length := by rw [List.size_toArray, rv.length]
    refine codeAny_builtin (id := "min.loop") PySem.F.entry_min_loop ?_
    rw [Around.under_plainId PySem.F.plain_min_loop _]
    show wpAny (model X.prog X.w) A.in1 (seqItems? (.ref S) >>= _) _ _ _
    refine wpAny_bind (wpAny_seqItems (s := s1) nS.1 rfl ?_)
    show wpAny (model X.prog X.w) A.in1 (tryCatch (pyNext (.ref Ia)) _ >>= _) _ _ _
    refine wpAny_bind (wpAny_tryCatch (W.item (j + 1) s1 _ _ (by rw [hsz]; exact hlt) ⟨hit, hl.isList⟩ fun u h' tk' hP hst' hk' => ?_))
    have hu : its[j + 1]? = some u := by simpa using hP
    obtain ⟨x, hx⟩ : ∃ x, xs[j + 1]? = some x := ⟨_, List.getElem?_eq_getElem hlt⟩
    obtain ⟨u', hu', rx⟩ := Vals.get rv hx
    rw [hu] at hu'
    cases hu'
    obtain ⟨oI', hoI', hoc, hod⟩ := id hst'.1
    have hS' := hk' S _ (by simpa using hSI) nS.1
    have I2 : Inv X (pf ++ ((S, seqObj "list" #[vb, .int (key b) tb] c) :: (Ia, oI') :: pins)) σ H1 { s1 with heap := h', toks := tk' } :=
      inv_pin (inv_pin (inv_turn (inv_unpin (inv_unpin I1)) wI nI.2 fun a o ha q => hk' a o (by simpa using ha) q) wI nI.2 hoI' (fun v z => by rw [hod] at z; cases z)) (wS.cons hSI.symm) nS.2 hS' (fun _ z => by cases z)
    show wpAny (model X.prog X.w) A.in1 (tryCatch (holding [u] (call (.ref f) [u])) _ >>= _) _ _ _
    refine wpAny_bind (wpAny_tryCatch (wpAny_holding (wpAny_mono (T _ _ H1 x u I2 k1 (List.mem_of_getElem? hx) rx) (fun z s2 he => ?_) fun _ _ hF => hF.elim)))
    obtain ⟨H2, t2, I3, k2, rfl⟩ := he
    have nS2 := inv_head I3
    have nI2 := inv_head (inv_unpin I3)
    have hit2 : s2.heap.IsListIter Ia l (j + 1 + 1) := ⟨oI', nI2.1, hoc, hod⟩
    show wpAny (model X.prog X.w) A.in1 (tryCatch (holding [u, .int (key x) t2] (richCompare .Lt (.int (key x) t2) (.int (key b) tb) >>= _)) _ >>= _) _ _ _
    refine wpAny_bind (wpAny_tryCatch (wpAny_holding (wpAny_bind (CmpOf.ints_lt (prog := X.prog) (w := X.w) (A := A.in1) (P := fun i v => ∃ t, v = .int (if i = 0 then key x else key b) t) (fun i => if i = 0 then key x else key b) (fun i v h => h) 0 1 _ _ _ _ _ ⟨t2, rfl⟩ ⟨tb, rfl⟩ ?_))))
    refine wpAny_bind (wpAny_holding (wpAny_truthy_bool ?_))
    refine wpAny_bind (wpAny_letGo (wpAny_pure ?_))
    have hxb : ∀ (j' : Nat) (z : V), j' ≤ j + 1 → xs[j']? = some z → j' ≤ j ∨ z = x := fun j' z h1 h2 => by
      by_cases e : j' = j + 1
      · rw [e, hx] at h2
        exact .inr (Option.some.inj h2).symm
      · exact .inl (by omega)
    by_cases hbt : key x < key b
    · obtain ⟨c2, hc2⟩ : ∃ c2, (s2.heap.update S (Obj.mapSeq fun _ => #[u, .int (key x) t2])).get? S = some (seqObj "list" #[u, .int (key x) t2] c2) := ⟨_, get?_update_seq nS2.1 fun _ => #[u, .int (key x) t2]⟩
      have I4 : Inv X (pf ++ ((Ia, oI') :: pins)) σ H2 { s2 with heap := s2.heap.update S (Obj.mapSeq fun _ => #[u, .int (key x) t2]), toks := s2.toks } :=
        inv_turn (inv_unpin I3) (wS.cons hSI.symm) nS2.2 fun a o ha q => ((Heap.SameBut.update s2.heap S _).2 a ha).trans q
      simp only [if_true, if_neg (Nat.succ_ne_zero 0), hbt, decide_true]
      refine wpAny_bind (wpAny_updateSeq nS2.1 rfl (wpAny_bind (wpAny_letGo ?_)))
      rw [hname]
      refine wpAny_pure ⟨plainId_quiet PySem.F.plain_min_loop _, ih (j + 1) (j + 1) _ H2 x u t2 c2 oI' (by omega) hlt (inv_pin I4 (wS.cons hSI.symm) nS2.2 hc2 (fun _ z => by cases z)) (k1.trans k2) ?_ hx rx (Nat.le_refl _) fun j' z hj' hz' => ?_⟩
      · exact ⟨oI', ((Heap.SameBut.update s2.heap S _).2 Ia hSI.symm).trans nI2.1, hoc, hod⟩
      · rcases hxb j' z hj' hz' with e | e
        · have h1 := (hbest j' z e hz').1
          exact ⟨by omega, fun _ => by omega⟩
        · rw [e]
          refine ⟨Int.le_refl _, fun hlt' => ?_⟩
          have h1 := hbest j' z (by omega) hz'
          rw [e] at h1
          omega
    · simp only [if_true, if_neg (Nat.succ_ne_zero 0), hbt, decide_false, Bool.false_eq_true, if_false]
      refine wpAny_bind (wpAny_letGo ?_)
      rw [hname]
      refine wpAny_pure ⟨plainId_quiet PySem.F.plain_min_loop _, ih (j + 1) i _ H2 b vb tb c oI' (by omega) hlt I3 (k1.trans k2) hit2 hb rb (by omega) fun j' z hj' hz' => ?_⟩
      rcases hxb j' z hj' hz' with e | e
      · exact hbest j' z e hz'
      · rw [e]
        refine ⟨by omega, fun hlt' => ?_⟩
        have h1 := hbest j' z (by omega) hz'
        rw [e] at h1
        exact h1.2 hlt'
theorem min_args (a v u : Value) : argsOk "min" ⟨[a], [(Str.ofString "key", v), (Str.ofString "default", u)]⟩ := by unfold argsOk; kernel_rfl
/-- min(xs, key=f, default=None) -/
theorem min_key {f : Addr} {key : V → Int} {xs : List V} {l : Addr} {Q : VK} (hh : X.A.handled = none) (T : KeyTurn X X.A.in1 σ H pf (.ref f) xs key) (I : Inv X (pf ++ pins) σ H s) (hs : SqL X.K H l xs) (h1 : xs = [] → Q .non H)
    (h2 : ∀ H' i b, Kp [] H H' → Least xs key i b → Q b H') :
    wpAny (model X.prog X.w) X.A (call (.builtin "min") [.ref l] [(Str.ofString "key", .ref f), (Str.ofString "default", .none)]) (EP X (pf ++ pins) σ Q) X.xe s := by
  have hname : (toString "min" ++ toString ".loop" : String) = "min.loop" := by decide
  obtain ⟨its, rv, hl, hz⟩ := I.list hs
  have hll : l < s.heap.objs.size := by
    obtain ⟨ol, hol, _⟩ := hl.isList
    exact Heap.lt_size hol
  refine kmk_tree PySem.F.kind_min PySem.F.plain_min PySem.F.entry_min (min_args _ _ _) ?_
  show wpAny (model X.prog X.w) X.A.in1 (Builtin.Builtins.bindParams "min" ["key", "default"] 0 ⟨[], [(Str.ofString "key", .ref f), (Str.ofString "default", .none)]⟩ >>= _) _ _ s
  refine wpAny_bind (wpAny_of_eq (show Builtin.Builtins.bindParams "min" ["key", "default"] 0 ⟨[], [(Str.ofString "key", .ref f), (Str.ofString "default", .none)]⟩ = pure [some (.ref f), some .none] from rfl) ?_)
  refine wpAny_bind (wpAny_pure (wpAny_bind (wpAny_pyIter_list hl.isList ?_)))
  refine wpAny_bind (wpAny_newList (items := []) ?_ (Nat.zero_le _))
  rw [hname]
  have hS : (s.heap.push { cls := .type "list_iterator", data := .fields #[.ref l, .int 0 0] }).objs.size = s.heap.objs.size + 1 := size_push' ..
  have wI := Own.fresh I (Nat.le_refl _)
  have nI : H s.heap.objs.size = none := I.hok.fresh (Nat.le_refl _)
  have wS : Own X (pf ++ pins) (s.heap.push { cls := .type "list_iterator", data := .fields #[.ref l, .int 0 0] }).objs.size := Own.fresh I (by rw [hS]; exact Nat.le_succ _)
  have nS : H (s.heap.push { cls := .type "list_iterator", data := .fields #[.ref l, .int 0 0] }).objs.size = none := I.hok.fresh (by rw [hS]; exact Nat.le_succ _)
  have hSI : (s.heap.push { cls := .type "list_iterator", data := .fields #[.ref l, .int 0 0] }).objs.size ≠ s.heap.objs.size := by
    rw [hS]
    exact Nat.succ_ne_self _
  have I1 : Inv X (pf ++ pins) σ H { s with heap := (s.heap.push { cls := .type "list_iterator", data := .fields #[.ref l, .int 0 0] }).push (seqObj "list" #[] 0), toks := s.toks } :=
    I.kept fun b o q => Heap.get?_push_of_some _ (Heap.get?_push_of_some _ q)
  have gI : ((s.heap.push { cls := .type "list_iterator", data := .fields #[.ref l, .int 0 0] }).push (seqObj "list" #[] 0)).get? s.heap.objs.size = some { cls := .type "list_iterator", data := .fields #[.ref l, .int 0 0] } := Heap.get?_push_of_some _ (Heap.get?_push_size _ rfl)
  have gS : ((s.heap.push { cls := .type "list_iterator", data := .fields #[.ref l, .int 0 0] }).push (seqObj "list" #[] 0)).get? (s.heap.push { cls := .type "list_iterator", data := .fields #[.ref l, .int 0 0] }).objs.size = some (seqObj "list" #[] 0) := Heap.get?_push_size _ rfl
  refine wpAny_pure ⟨plainId_quiet PySem.F.plain_min_loop _, ?_⟩
  show codeAny _ _ (.builtin "min.loop" ⟨[.ref s.heap.objs.size, .ref f, .ref _], [("default", .none)]⟩) _ { s with heap := (s.heap.push { cls := .type "list_iterator", data := .fields #[.ref l, .int 0 0] }).push (seqObj "list" #[] 0), toks := s.toks }
  generalize (s.heap.push { cls := .type "list_iterator", data := .fields #[.ref l, .int 0 0] }).push (seqObj "list" #[] 0) = h0 at I1 gI gS ⊢
  generalize (s.heap.push { cls := .type "list_iterator", data := .fields #[.ref l, .int 0 0] }).objs.size = S at *
  obtain ⟨its, rv, hl, hz⟩ := I1.list hs
  have W := Walks.list (prog := X.prog) (w := X.w) (A := X.A.in1) hh s.heap.objs.size l (Nat.ne_of_lt hll) its.toArray
  have hsz : its.toArray.size = xs.length := by rw [List.size_toArray, rv.length]
  refine codeAny_builtin (id := "min.loop") PySem.F.entry_min_loop ?_
  rw [Around.under_plainId PySem.F.plain_min_loop _]
  show wpAny (model X.prog X.w) X.A.in1 (seqItems? (.ref S) >>= _) _ _ _
  refine wpAny_bind (wpAny_seqItems gS rfl ?_)
  show wpAny (model X.prog X.w) X.A.in1 (tryCatch (pyNext (.ref s.heap.objs.size)) _ >>= _) _ _ _
  cases xs with
  | nil =>
    refine wpAny_bind (wpAny_tryCatch (W.done { s with heap := h0, toks := s.toks } _ _ ⟨by rw [hsz]; exact ⟨_, gI, rfl, rfl⟩, hl.isList⟩ fun h' tk' hk' => ?_))
    refine wpAny_bind (wpAny_rule (wpAny_pure ?_))
    exact ⟨.non, H, inv_turn (s := { s with heap := h0, toks := s.toks }) I1 wI nI fun a o ha q => hk' a o (by simpa using ha) q, rfl, h1 rfl⟩
  | cons x xs =>
    refine wpAny_bind (wpAny_tryCatch (W.item 0 { s with heap := h0, toks := s.toks } _ _ (by rw [hsz]; exact Nat.succ_pos _) ⟨⟨_, gI, rfl, rfl⟩, hl.isList⟩ fun u h' tk' hP hst' hk' => ?_))
    have hu : its[0]? = some u := by simpa using hP
    have hx : (x :: xs)[0]? = some x := rfl
    obtain ⟨u', hu', rx⟩ := Vals.get rv hx
    rw [hu] at hu'
    cases hu'
    obtain ⟨oI', hoI', hoc, hod⟩ := id hst'.1
    have hS' := hk' S _ (by simpa using hSI) gS
    have I2 : Inv X (pf ++ ((S, seqObj "list" #[] 0) :: (s.heap.objs.size, oI') :: pins)) σ H { s with heap := h', toks := tk' } :=
      inv_pin (inv_pin (inv_turn (s := { s with heap := h0, toks := s.toks }) I1 wI nI fun a o ha q => hk' a o (by simpa using ha) q) wI nI hoI' (fun v z => by rw [hod] at z; cases z)) (wS.cons hSI.symm) nS hS' (fun _ z => by cases z)
    show wpAny (model X.prog X.w) X.A.in1 (tryCatch (holding [u] (call (.ref f) [u])) _ >>= _) _ _ _
    refine wpAny_bind (wpAny_tryCatch (wpAny_holding (wpAny_mono (T _ _ H x u I2 Kp.refl (.head _) rx) (fun z s2 he => ?_) fun _ _ hF => hF.elim)))
    obtain ⟨H2, t2, I3, k2, rfl⟩ := he
    have nS2 := inv_head I3
    have nI2 := inv_head (inv_unpin I3)
    obtain ⟨c2, hc2⟩ : ∃ c2, (s2.heap.update S (Obj.mapSeq fun _ => #[u, .int (key x) t2])).get? S = some (seqObj "list" #[u, .int (key x) t2] c2) := ⟨_, get?_update_seq nS2.1 fun _ => #[u, .int (key x) t2]⟩
    have I4 : Inv X (pf ++ ((s.heap.objs.size, oI') :: pins)) σ H2 { s2 with heap := s2.heap.update S (Obj.mapSeq fun _ => #[u, .int (key x) t2]), toks := s2.toks } :=
      inv_turn (inv_unpin I3) (wS.cons hSI.symm) nS2.2 fun a o ha q => ((Heap.SameBut.update s2.heap S _).2 a ha).trans q
    show wpAny (model X.prog X.w) X.A.in1 (updateSeq S (fun _ => #[u, .int (key x) t2]) >>= _) _ _ _
    refine wpAny_bind (wpAny_updateSeq nS2.1 rfl ?_)
    rw [hname]
    refine wpAny_pure ⟨plainId_quiet PySem.F.plain_min_loop _, min_loop (xs := x :: xs) hh T hs (Nat.ne_of_lt hll) hSI wS wI (fun H3 s3 i b vb I5 k3 hb rb => ⟨b, H3, I5, rb, h2 H3 i b k3 hb⟩) _ 0 0 _ H2 x u t2 c2 oI' rfl (Nat.succ_pos _) (inv_pin I4 (wS.cons hSI.symm) nS2.2 hc2 (fun _ z => by cases z)) k2
      ⟨oI', ((Heap.SameBut.update s2.heap S _).2 _ hSI.symm).trans nI2.1, hoc, hod⟩ hx rx (Nat.le_refl _) fun j' z hj' hz' => ?_⟩
    have e : j' = 0 := by omega
    rw [e] at hz'
    cases hz'
    exact ⟨Int.le_refl _, fun q => by omega⟩
/-- min(e, key=lambda p: body, default=None) -/
def tMinKey (K : PySem.W.Frag) (T : List (Addr × Str)) (N0 N : List Str) (p : Str) (t : TA) (tb : TE) : TE := fun σ H Q => t σ H fun vs H1 => ∃ (l : Addr) (xs : List V) (key : V → Int) (τ : V → L2.St), vs = [.ref l] ∧ SqL K H1 l xs ∧ LamX.Tabs T H1 ∧
  (∀ v, v ∈ xs → CapsN N0 σ N (τ v) p v) ∧ ∀ H2, LamX.ExtN H1 H2 → LamX.Tabs T H2 → (∀ (H3 : Hp) (v : V), v ∈ xs → Kp [] H2 H3 → tb (τ v) H3 fun x H4 => x = .int (key v) ∧ Kp [] H3 H4) ∧
    (xs = [] → Q .non H2) ∧ ∀ (H3 : Hp) (i : Nat) (b : V), Kp [] H2 H3 → Least xs key i b → Q b H3
theorem pe_minKey {T : List (Addr × Str)} {N : List Str} {k : Nat} {c P : Addr} {scope : Scope} {p : Str} {params : Arguments} {e body : Expr} {t : TA} {tb : TE} {p1 kpos lpos dpos npos pos : Pos} {jn : Nat} (hg : Gl X "min") (hm : X.mg "min" = none) (ha : PA X [e] t)
    (TB : LamX.TabB X.base X.mg c P) (hcode : X.env.code = .ref c) (hmT : (P, X.env.qual ++ "<lambda>") ∈ T) (huT : ∀ p ∈ T, p.1 = P → p.2 = X.env.qual ++ "<lambda>") (hr : Room (k + 3) X.A) (L : Lam1 X.env.scope scope p) (hdef : defaultsOf params X.env = ([], []))
    (hbind : ∀ (q : Str) (cl : List (Str × Addr)) (pm cv ctv u : Value), bindArgs (PySem.W.kla_fn "<lambda>" q params body scope cl pm cv ctv) ⟨[u], []⟩ = pure [(p, u)])
    (hbody : ∀ (s : Shared) (H : Hp) (f c' : Addr), Room k (X.A.in1.deeper (LamX.lamEnv X scope s.heap.objs.size f c')) → PE (lam1Cx X X.A.in1 s H N scope f c') body tb)
    (he : backTo pos (starEach [e] X.env) = (false, eval e X.env) :: backTo pos (starEach [] X.env) := by rfl) (hpl : (backTo pos (starEach [e] X.env)).any (·.1) = false := by rfl) :
    PE X (.Call (.Name "min" p1) [e] [⟨some "key", .Lambda params body scope lpos, kpos⟩, ⟨some "default", .Constant .none jn npos, dpos⟩] pos) (tMinKey X.K T X.N N p t tb) := by
  refine ⟨fun pins s σ H Q I h => ?_⟩
  refine wpAny_Call_Name_kw (ld_blt I hg hm (show bootBuiltins "min" = some (.builtin "min") by rfl) ?_ (by decide) (by decide))
  refine PyProof.Rows.callWith_kw (thn (ha.run pos pins s σ H _ I h) fun us s1 ⟨vs, H1, I1, r1, q1⟩ => ?_) he hpl rfl rfl
  obtain ⟨l, xs, key, τ, rfl, hs, hT, hC, q⟩ := q1
  obtain rfl := Vals.ref1 r1
  show wpAny _ _ (evalAll [(do let v ← eval (.Lambda params body scope lpos) X.env; standAt pos; pure v), (do let v ← eval (.Constant .none jn npos) X.env; standAt pos; pure v)]) _ _ s1
  refine wpAny_evalAll_cons (wpAny_bind (LamX.lam_make2 I1 TB hcode hmT huT hT hdef (L.has I1.ok) fun f c' pm ctv H2 s2 I2 eN T2 hf hfn hfr hco => wpAny_bind (wpAny_standAt (wpAny_pure ?_))))
  obtain ⟨hb, hq0, hq⟩ := q H2 eN T2
  have I3 := fn_pin I2 hf rfl hfn hfr
  refine wpAny_evalAll_cons (wpAny_bind (thn ((pe_non (X := X)).run _ s2 σ H2 (fun (x : V) (H3 : Hp) => x = V.non ∧ H3 = H2) I3 ⟨rfl, rfl⟩) fun u s3 ⟨v, H3, I4, rv, ev, eH⟩ => wpAny_bind (wpAny_standAt (wpAny_pure (wpAny_evalAll_nil ?_)))))
  rw [ev] at rv
  rw [eH] at I4
  obtain rfl : u = Value.none := rv
  show wpAny _ _ (call (.builtin "min") [.ref l] [(Str.ofString "key", .ref f), (Str.ofString "default", .none)]) _ _ s3
  refine wpAny_mono (min_key hr.hd (lam1_turn L hco I2.ok.frames hr.in1 (fun u => hbind _ _ _ _ _ u) hC fun s H3 v hv k3 hr3 => ⟨tb, hbody s H3 f c' (hr3.mono (Nat.le_succ _)), hb H3 v hv k3⟩) I4 (sq_ext eN hs) hq0 hq) (fun u s' h => ep_less h) fun _ _ h => h
end
end RD
/-! ### the head of a law whose defs make lambdas -/
namespace RD
open PySem PySem.Spec PyProof.Rows L2 He
section
variable {P : Program} {w : World} {K : PySem.W.Frag} {mg : Str → Option Value} {base : Heap} {CX : CXT} {x qual : Str} {params : Arguments} {body : List Stmt} {scope : Scope} {dvs : List V} {kws : List (Str × V)} {fd : FuncData}
/-- a def whose code object is told -/
theorem fnDc {at_ : Str × Option Str} {N ps : List Str} {k : Nat} {sp : Sp} (F : FunD K x qual params body scope dvs kws (fAd K at_) fd) (S : FnScope N ps scope) (len : ∀ vs H Q E, sp vs H Q E → vs.length = ps.length)
    (hbody : ∀ (A : Around) (outer : List Env) (s : Shared) (H : Hp) (vs : List V) (Q : VK) (E : XK), Room k (A.deeper (envOfC qual scope s.heap.objs.size (fAd K at_) (.ref (codeOf K at_)))) → sp vs H Q E →
      ∃ t, PSs (cxOf CX0 P w K mg base N qual scope (fAd K at_) (.ref (codeOf K at_)) A outer s H E).nox body t ∧ t ⟨fun _ H' => Q .non H', Q, fun _ _ => False, fun _ _ => False⟩ (start N vs) H) : FnOk P w K mg base CX0 (k + 1) (fAd K at_) fd ps sp := by
  obtain ⟨oc, od, dV, kV, doc, pm, an, cdv, ct, osl, e0, lk, hcd, _, _⟩ := F.ex
  obtain ⟨c, hc⟩ := codeIn_ref hcd
  have e : cdv = .ref (codeOf K at_) := by
    rw [hc]
    refine congrArg Value.ref (codeOf_eq lk ?_).symm
    rw [e0]
    exact hc
  subst e0
  subst e
  exact fn_of lk hcd S len fun A outer s H vs Q E hr hsp => let ⟨t, h1, h2⟩ := hbody A outer s H vs Q E hr hsp; ⟨t, h1.nox, h2⟩
end
/-- the tables at the law's entry -/
theorem tabs_nil {tf : List He.Defn} {K : PySem.W.Frag} {T : List (Addr × Str)} {H : Hp} (e : T.map (·.1) = tf.map fun p => (He.cT K p).2) (h : ∀ p ∈ tf.map (He.cT K), H p.2 = some (.tbl #[])) : LamX.Tabs T H := fun p hp => by
  have hm : p.1 ∈ tf.map fun p => (He.cT K p).2 := e ▸ List.mem_map_of_mem hp
  obtain ⟨q, hq, e2⟩ := List.mem_map.mp hm
  refine LamX.TabS.nil ?_
  rw [← e2]
  exact h _ (List.mem_map_of_mem hq)
end RD
/-! ### frames where tables of lambdas may grow -/
namespace RD
open PySem PySem.Spec PyProof.Rows L2 He
def NoTbl (o : HO) : Prop := ∀ t, o ≠ .tbl t
def Kt (T : List (Addr × Str)) (ps : List Addr) (H H' : Hp) : Prop := (∀ b o, H b = some o → NoTbl o → b ∉ ps → H' b = some o) ∧ LamX.Tabs T H'
section
variable {T : List (Addr × Str)} {ps : List Addr} {H H' H'' : Hp} {p q b : Addr} {o : HO}
theorem Kt.refl (h : LamX.Tabs T H) : Kt T ps H H := ⟨fun _ _ e _ _ => e, h⟩
theorem Kt.trans (a : Kt T ps H H') (b : Kt T ps H' H'') : Kt T ps H H'' := ⟨fun c o e n m => b.1 c o (a.1 c o e n m) n m, b.2⟩
theorem Kt.g0 (a : Kt T [] H H') (n : NoTbl o) (e : H b = some o) : H' b = some o := a.1 b o e n (by simp)
theorem Kt.g1 (a : Kt T [p] H H') (n : NoTbl o) (m : b ≠ p) (e : H b = some o) : H' b = some o := a.1 b o e n (by simp [m])
theorem Kt.of0 (a : Kt T [] H H') : Kt T ps H H' := ⟨fun c o e n _ => a.1 c o e n (by simp), a.2⟩
/-- q is none of the things that stand (tables left out) -/
def Frn (H : Hp) (q : Addr) : Prop := ∀ b o, H b = some o → NoTbl o → b ≠ q
theorem Kt.frn (a : Kt T [] H H') {l : Addr} (h : H' l = none) : Frn H l := fun b o e n z => by
  rw [z] at e
  rw [a.g0 n e] at h
  cases h
theorem Frn.kt {l : Addr} (h : Frn H' l) (a : Kt T [] H H') : Frn H l := fun b o e n => h b o (a.g0 n e) n
theorem Frn.kp {l : Addr} (h : Frn H' l) (a : Kp [] H H') : Frn H l := fun b o e n => h b o (a.g0 e) n
theorem Frn.of {l : Addr} (h : H l = none) : Frn H l := fun b o e _ => ne_of_none e h
theorem Kt.ext (a : LamX.ExtN H H') (t : LamX.Tabs T H') : Kt T ps H H' := ⟨fun b o e n _ => a b o e n, t⟩
/-- what a table and its code objects are not -/
def Plain : HO → Prop
  | .tbl _ => False
  | .ext _ => False
  | _ => True
theorem Plain.noTbl (h : Plain o) : NoTbl o := by
  intro t z
  rw [z] at h
  exact h
theorem tabs_kp (h : LamX.Tabs T H) (k : Kp ps H H') (n : ∀ p, p ∈ ps → ∃ o, H p = some o ∧ Plain o) : LamX.Tabs T H' := fun p hp => by
  obtain ⟨tb, h1, h2, h3⟩ := h p hp
  have ne : ∀ b o, H b = some o → ¬ Plain o → b ∉ ps := fun b o e m z => by
    obtain ⟨o', e', w⟩ := n b z
    rw [e] at e'
    cases e'
    exact m w
  refine ⟨tb, k _ _ h1 (ne _ _ h1 (fun z => z)), h2, fun pos cv e => ?_⟩
  obtain ⟨c, e1, e2⟩ := h3 pos cv e
  exact ⟨c, e1, k _ _ e2 (ne _ _ e2 (fun z => z))⟩
theorem Kt.kp (h : LamX.Tabs T H) (k : Kp ps H H') (n : ∀ p, p ∈ ps → ∃ o, H p = some o ∧ Plain o) : Kt T ps H H' := ⟨fun c o e _ m => k c o e m, tabs_kp h k n⟩
theorem Kt.kp0 (h : LamX.Tabs T H) (k : Kp [] H H') : Kt T ps H H' := ⟨fun c o e _ _ => k c o e (by simp), tabs_kp h k (fun _ z => by cases z)⟩
theorem Kt.kp1 (h : LamX.Tabs T H) (k : Kp [p] H H') (e : H p = some o) (w : Plain o) : Kt T [p] H H' := Kt.kp h k fun q hq => by
  rw [List.mem_singleton.mp hq]
  exact ⟨o, e, w⟩
theorem Kt.new (h : LamX.Tabs T H) (e : H p = none) : Kt T ps H (upd H p o) := Kt.kp0 h (Kp.new e)
theorem Kt.wr {u : HO} (a : Kt T ps H H') (h : p ∈ ps) (e : H' p = some u) (w : Plain u) : Kt T ps H (upd H' p o) :=
  ⟨fun c v ev n m => by
    have hc : c ≠ p := fun z => m (z ▸ h)
    rw [upd_ne hc]
    exact a.1 c v ev n m, tabs_kp a.2 (Kp.refl.wr (ps := [p]) (by simp)) fun q hq => by
    rw [List.mem_singleton.mp hq]
    exact ⟨u, e, w⟩⟩
theorem Kt.nw (a : Kt T ps H H') (e : H' p = none) : Kt T ps H (upd H' p o) := a.trans (Kt.new a.2 e)
end
/-! ### a class made with keywords -/
theorem vals_at {xs : List V} {us : List Value} (i : Nat) (h : Vals xs us) : Vals (xs[i]?).toList (us[i]?).toList := by
  cases e : xs[i]? with
  | none => rw [h.none_of e]; exact .nil
  | some x =>
    obtain ⟨u, e2, r⟩ := h.get e
    rw [e2]
    exact .cons r .nil
structure MakKX (P : Program) (w : World) (K : PySem.W.Frag) (mg : Str → Option Value) (base : Heap) (CX : CXT) (k : Nat) (x : Str) (C : Addr) (sp : Sp) (n : Nat) (ks : List Str) (gV : List V → List V → List V) : Prop where
  ex : ∃ (f : Addr) (fd : FuncData) (ps : List Str) (g : List Value → List Value → List Value), Mk K C f ∧ FnOk P w K mg base CX k f fd ps sp ∧ mg x = some (.ref C) ∧ KBn K fd ps (n + 1) ks g gV
theorem pe_makKX {X : Cx} {CX : CXT} {k j n : Nat} {C : Addr} {x : Str} {sp : Sp} {E : XK} {ks : List Str} {gV : List V → List V → List V} {p pos : Pos} {e : Expr} {es : List Expr} {kws : List Keyword} {t tk : TA} (c : MakKX X.prog X.w X.K X.mg X.base CX k x C sp n ks gV) (hr : Room j X.A) (hk : k + 1 ≤ j) (hg : Gl X x) (hx : Passes CX X E) (ha : PA X (e :: es) t) (hkw : PK X kws tk)
    (hall : (backToKw pos (keywordEach kws X.env)).all (·.1.isSome) = true := by rfl) (hks : (backToKw pos (keywordEach kws X.env)).filterMap (·.1) = ks := by rfl) (hdb : (x == ("__debug__" : Str)) = false := by decide)
    (he : starEach (e :: es) X.env = (false, eval e X.env) :: starEach es X.env := by rfl) (hpl : ((backTo pos (starEach (e :: es) X.env)).any (·.1) || (backToKw pos (keywordEach kws X.env)).any (·.1.isNone)) = false := by rfl) :
    PE X (.Call (.Name x p) (e :: es) kws pos) (tMakeK C n ks.length sp gV E t tk) := by
  obtain ⟨f, fd, ps, g, M, F, hm, hb⟩ := c.ex
  exact pe_makeK M F (hr.mono hk) hg hm hb hx ha hkw hall hks hdb he hpl
theorem rd_makeK {σ : L2.St} {H : Hp} {Q : VK} {C : Addr} {n m : Nat} {sp : Sp} {gV : List V → List V → List V} {E : XK} {t tk : TA} (h : t σ H fun vs H1 => tk σ H1 fun zs H2 => vs.length = n ∧ zs.length = m ∧ ∀ x dx, H2 x = none → H2 dx = none → dx ≠ x →
    sp (gV (.ref x :: vs) zs) (upd (upd H2 dx (.own x)) x (.ins C dx [])) (fun v H3 => v = .non ∧ Q (.ref x) H3) E) : tMakeK C n m sp gV E t tk σ H Q := h
/-! ### more readings -/
section
variable {K : PySem.W.Frag} {σ : L2.St} {H : Hp} {Q : VK} {ta : TE}
theorem rd_prop {C : Addr} {sp : Sp} {E : XK} (h : ta σ H fun x H1 => ∃ a dx fs, x = V.ref a ∧ H1 a = some (.ins C dx fs) ∧ sp [.ref a] H1 Q E) : tProp C sp [] E ta σ H Q := h
theorem rd_propX {C a dx : Addr} {fs : List (Str × V)} {R : Addr → Prop} (h : H a = some (.ins C dx fs)) (q : R a) : ∃ a' dx' fs', V.ref a = V.ref a' ∧ H a' = some (.ins C dx' fs') ∧ R a' := ⟨a, dx, fs, rfl, h, q⟩
theorem rd_revL {te : TE} (h : te σ H fun x H1 => ∃ a xs, x = V.ref a ∧ SqL K H1 a xs ∧ ∀ p, H1 p = none → Q (.ref p) (upd H1 p (.lst xs.reverse))) : tRevL K te σ H Q := h
theorem rd_revLX {a : Addr} {xs : List V} {R : List V → Prop} (h : SqL K H a xs) (q : R xs) : ∃ a' ys, V.ref a = V.ref a' ∧ SqL K H a' ys ∧ R ys := ⟨a, xs, rfl, h, q⟩
end
end RD
namespace RD
open PySem PySem.Spec PyProof.Rows L2 He
/-! ### comprehensions that only look -/
theorem filter_take {α : Type} {p : α → Bool} {ns : List α} {i : Nat} (h : i < ns.length) : (ns.take (i + 1)).filter p = (ns.take i).filter p ++ (if p ns[i] = true then [ns[i]] else []) := by
  rw [List.take_succ_eq_append_getElem h, List.filter_append]
  congr 1
  cases e : p ns[i] <;> simp [e]
section
variable {K : PySem.W.Frag} {σ : L2.St} {H : Hp} {te : TE} {tt : TT}
theorem lcF_ints {a D : Addr} {g : TG} {vs : List Nat} {Qd : Hp → Prop} (ns : List Int) (p : Int → Bool) (f : Int → V) (hS : SqL K H a (ns.map V.int)) (hD : H D = none) (hl : ns.length < 1000000)
    (hs : ∀ (i : Nat) (h : i < ns.length) H1 (E : VK) (N : Hp → Prop), Kp [] H H1 → (∀ H4, Kp [] H1 H4 → p ns[i] = true → E (f ns[i]) H4) → (∀ H3, Kp [] H1 H3 → p ns[i] = false → N H3) → g (.int ns[i]) (wipe σ vs) H1 fun σ2 H2 => wipe σ2 vs = wipe σ vs ∧ tt σ2 H2 fun b H3 => if b = true then te σ2 H3 E else N H3)
    (hd : ∀ H', Kp [] H H' → H' D = some (.lst ((ns.filter p).map f)) → Qd H') : LcG (Itl K a) g tt te vs σ D Qd H := by
  refine lcL_ints ns (fun i H' => H' D = some (.lst (((ns.take i).filter p).map f)) ∧ Kp [] H H') ⟨upd_same, Kp.new hD⟩ (fun i H' _ q => sl_kp q.2 (by simp) hS) (fun i hi H' q => ?_) (fun H' q => ?_)
  · refine hs i hi H' _ _ q.2 (fun H4 k4 hp => ?_) (fun H3 k3 hp => ?_)
    · have fl : (((ns.take i).filter p).map f).length < sizeLine := szlt (by
        rw [List.length_map]
        have h1 := List.length_filter_le p (ns.take i)
        rw [List.length_take] at h1
        omega)
      refine ⟨_, k4.g0 q.1, fl, ?_, Kp.mine (q.2.trans k4) hD⟩
      rw [upd_same, filter_take hi, if_pos hp, List.map_append]
      rfl
    · refine ⟨?_, q.2.trans k3⟩
      rw [filter_take hi, if_neg (by rw [hp]; exact Bool.false_ne_true), List.append_nil]
      exact k3.g0 q.1
  · rw [List.take_length] at q
    exact hd H' q.2 q.1
theorem lcF_range {lo : Int} {n : Nat} {D : Addr} {g : TG} {vs : List Nat} {Qd : Hp → Prop} (p : Nat → Bool) (f : Nat → V) (hD : H D = none) (hl : n < 1000000)
    (hs : ∀ (i : Nat) (h : i < n) H1 (E : VK) (N : Hp → Prop), Kp [] H H1 → (∀ H4, Kp [] H1 H4 → p i = true → E (f i) H4) → (∀ H3, Kp [] H1 H3 → p i = false → N H3) → g (.int (lo + i)) (wipe σ vs) H1 fun σ2 H2 => wipe σ2 vs = wipe σ vs ∧ tt σ2 H2 fun b H3 => if b = true then te σ2 H3 E else N H3)
    (hd : ∀ H', Kp [] H H' → H' D = some (.lst (((List.range n).filter p).map f)) → Qd H') : LcG (Itr lo n) g tt te vs σ D Qd H := by
  refine lcR_by (fun i H' => H' D = some (.lst (((List.range i).filter p).map f)) ∧ Kp [] H H') ⟨upd_same, Kp.new hD⟩ (fun i H' hi q => ?_) (fun H' q => hd H' q.2 q.1)
  have er : (List.range (i + 1)).filter p = (List.range i).filter p ++ (if p i = true then [i] else []) := by
    rw [List.range_succ, List.filter_append]
    congr 1
    cases e : p i <;> simp [e]
  refine hs i hi H' _ _ q.2 (fun H4 k4 hp => ?_) (fun H3 k3 hp => ?_)
  · have fl : (((List.range i).filter p).map f).length < sizeLine := szlt (by
      rw [List.length_map]
      have h1 := List.length_filter_le p (List.range i)
      rw [List.length_range] at h1
      omega)
    refine ⟨_, k4.g0 q.1, fl, ?_, Kp.mine (q.2.trans k4) hD⟩
    rw [upd_same, er, if_pos hp, List.map_append]
    rfl
  · refine ⟨?_, q.2.trans k3⟩
    rw [er, if_neg (by rw [hp]; exact Bool.false_ne_true), List.append_nil]
    exact k3.g0 q.1
end
def keyV (f : Int → Int) : V → Int
  | .int i => f i
  | _ => 0
theorem sort_keyV (f : Int → Int) (ns : List Int) : ((ns.map V.int).mergeSort fun a b => decide (keyV f a ≤ keyV f b)) = (ns.mergeSort fun a b => decide (f a ≤ f b)).map V.int :=
  (List.map_mergeSort (f := V.int) (r := fun a b => decide (f a ≤ f b)) (s := fun a b => decide (keyV f a ≤ keyV f b)) fun _ _ _ _ => rfl).symm
end RD
namespace RD
open PySem PySem.Spec PyProof.Rows L2 He
section
variable {K : PySem.W.Frag} {σ : L2.St} {H : Hp} {T : List (Addr × Str)} {N0 N : List Str} {p : Str} {t : TA} {tb : TE} {Q : VK}
theorem rd_sortKey (h : t σ H fun vs H1 => ∃ (l : Addr) (xs : List V) (key : V → Int) (τ : V → L2.St), vs = [.ref l] ∧ SqL K H1 l xs ∧ LamX.Tabs T H1 ∧
  (∀ v, v ∈ xs → CapsN N0 σ N (τ v) p v) ∧ ∀ H2, LamX.ExtN H1 H2 → LamX.Tabs T H2 → (∀ (H3 : Hp) (v : V), v ∈ xs → Kp [] H2 H3 → tb (τ v) H3 fun x H4 => x = .int (key v) ∧ Kp [] H3 H4) ∧
    ∀ (H3 : Hp) (q : Addr), Kp [] H2 H3 → H3 q = none → Q (.ref q) (upd H3 q (.lst (xs.mergeSort fun a b => decide (key a ≤ key b))))) : tSortKey K T N0 N p t tb σ H Q := h
theorem rd_minKey (h : t σ H fun vs H1 => ∃ (l : Addr) (xs : List V) (key : V → Int) (τ : V → L2.St), vs = [.ref l] ∧ SqL K H1 l xs ∧ LamX.Tabs T H1 ∧
  (∀ v, v ∈ xs → CapsN N0 σ N (τ v) p v) ∧ ∀ H2, LamX.ExtN H1 H2 → LamX.Tabs T H2 → (∀ (H3 : Hp) (v : V), v ∈ xs → Kp [] H2 H3 → tb (τ v) H3 fun x H4 => x = .int (key v) ∧ Kp [] H3 H4) ∧
    (xs = [] → Q .non H2) ∧ ∀ (H3 : Hp) (i : Nat) (b : V), Kp [] H2 H3 → Least xs key i b → Q b H3) : tMinKey K T N0 N p t tb σ H Q := h
/-- of a list of ints, at the key f -/
theorem rd_sortI {D : Addr} (f : Int → Int) (ns : List Int) (τ : Int → L2.St) (hS : SqL K H D (ns.map V.int)) (hT : LamX.Tabs T H) (hC : ∀ n, CapsN N0 σ N (τ n) p (.int n))
    (hb : ∀ (H3 : Hp) (n : Int) (Q' : VK), n ∈ ns → Kt T [] H H3 → Q' (.int (f n)) H3 → tb (τ n) H3 Q')
    (hq : ∀ (H3 : Hp) (q : Addr), Kt T [] H H3 → H3 q = none → Q (.ref q) (upd H3 q (.lst ((ns.mergeSort fun a b => decide (f a ≤ f b)).map V.int)))) :
    ∃ (l : Addr) (xs : List V) (key : V → Int) (τ : V → L2.St), [V.ref D] = [.ref l] ∧ SqL K H l xs ∧ LamX.Tabs T H ∧
      (∀ v, v ∈ xs → CapsN N0 σ N (τ v) p v) ∧ ∀ H2, LamX.ExtN H H2 → LamX.Tabs T H2 → (∀ (H3 : Hp) (v : V), v ∈ xs → Kp [] H2 H3 → tb (τ v) H3 fun x H4 => x = .int (key v) ∧ Kp [] H3 H4) ∧
        ∀ (H3 : Hp) (q : Addr), Kp [] H2 H3 → H3 q = none → Q (.ref q) (upd H3 q (.lst (xs.mergeSort fun a b => decide (key a ≤ key b)))) := by
  refine ⟨D, _, keyV f, fun v => match v with | .int n => τ n | _ => [], rfl, hS, hT, fun v hv => ?_, fun H2 e2 t2 => ⟨fun H3 v hv k3 => ?_, fun H3 q k3 nq => ?_⟩⟩
  · obtain ⟨n, _, rfl⟩ := List.mem_map.mp hv
    exact hC n
  · obtain ⟨n, hn, rfl⟩ := List.mem_map.mp hv
    exact hb H3 n _ hn ((Kt.ext e2 t2).trans (Kt.kp0 t2 k3)) ⟨rfl, Kp.refl⟩
  · rw [sort_keyV]
    exact hq H3 q ((Kt.ext e2 t2).trans (Kt.kp0 t2 k3)) nq
theorem rd_minI {D : Addr} (f : Int → Int) (ns : List Int) (τ : Int → L2.St) (hS : SqL K H D (ns.map V.int)) (hT : LamX.Tabs T H) (hC : ∀ n, CapsN N0 σ N (τ n) p (.int n))
    (hb : ∀ (H3 : Hp) (n : Int) (Q' : VK), n ∈ ns → Kt T [] H H3 → Q' (.int (f n)) H3 → tb (τ n) H3 Q')
    (h0 : ∀ (H3 : Hp), ns = [] → Kt T [] H H3 → Q .non H3)
    (h1 : ∀ (H3 : Hp) (i : Nat) (b : Int), Kt T [] H H3 → ns[i]? = some b → (∀ (j : Nat) (z : Int), ns[j]? = some z → f b ≤ f z ∧ (j < i → f b < f z)) → Q (.int b) H3) :
    ∃ (l : Addr) (xs : List V) (key : V → Int) (τ : V → L2.St), [V.ref D] = [.ref l] ∧ SqL K H l xs ∧ LamX.Tabs T H ∧
      (∀ v, v ∈ xs → CapsN N0 σ N (τ v) p v) ∧ ∀ H2, LamX.ExtN H H2 → LamX.Tabs T H2 → (∀ (H3 : Hp) (v : V), v ∈ xs → Kp [] H2 H3 → tb (τ v) H3 fun x H4 => x = .int (key v) ∧ Kp [] H3 H4) ∧
        (xs = [] → Q .non H2) ∧ ∀ (H3 : Hp) (i : Nat) (b : V), Kp [] H2 H3 → Least xs key i b → Q b H3 := by
  refine ⟨D, _, keyV f, fun v => match v with | .int n => τ n | _ => [], rfl, hS, hT, fun v hv => ?_, fun H2 e2 t2 => ⟨fun H3 v hv k3 => ?_, fun e => ?_, fun H3 i b k3 hl => ?_⟩⟩
  · obtain ⟨n, _, rfl⟩ := List.mem_map.mp hv
    exact hC n
  · obtain ⟨n, hn, rfl⟩ := List.mem_map.mp hv
    exact hb H3 n _ hn ((Kt.ext e2 t2).trans (Kt.kp0 t2 k3)) ⟨rfl, Kp.refl⟩
  · exact h0 H2 (List.map_eq_nil_iff.mp e) (Kt.ext e2 t2)
  · obtain ⟨e1, e3⟩ := hl
    rw [List.getElem?_map] at e1
    obtain ⟨n, hn, rfl⟩ := Option.map_eq_some_iff.mp e1
    refine h1 H3 i n ((Kt.ext e2 t2).trans (Kt.kp0 t2 k3)) hn fun j z hz => ?_
    exact e3 j (.int z) (by rw [List.getElem?_map, hz]; rfl)
end
end RD
namespace RD
open PySem PySem.Spec PyProof.Rows L2 He
/-! ### wide divisors, fields that are added to, least of a list -/
theorem wide60 {i j : Int} (h0 : 0 < j) (h1 : j < 1152921504606846976) : CDivW i j := wide_div (b := 60) h0 (by omega) (by decide) (by decide)
theorem ixN_at {n : Nat} {i : Int} (h0 : 0 ≤ i) (h1 : i < n) : ixN n i = some i.toNat := by
  unfold ixN
  rw [if_pos h0, if_pos h1]
section
variable {K : PySem.W.Frag} {σ : L2.St} {H : Hp} {nx bk ct : L2.St → Hp → Prop} {rt : VK} {ta tv : TE} {Q : VK} {v : V} {i j : Int}
theorem rd_sfldaug {rd : V → V → Hp → VK → Prop} {f : Str} (h : ta σ H fun x H1 => ∃ a C dx fs v, x = .ref a ∧ H1 a = some (.ins C dx fs) ∧ Cls K C ∧ NoAttr K C f ∧ fs.lookup f = some v ∧
  tv σ H1 fun y H2 => rd v y H2 fun z H3 => ∃ dx' fs', H3 a = some (.ins C dx' fs') ∧ fs'.length < 1000 ∧ nx σ (upd H3 a (.ins C dx' (putF f z fs')))) : sFldAug K ta tv rd f ⟨nx, rt, bk, ct⟩ σ H := h
theorem rd_sfldaugX {f : Str} {a C dx : Addr} {fs : List (Str × V)} {R : Addr → Addr → V → Prop} (h : H a = some (.ins C dx fs)) (c : Cls K C) (n : NoAttr K C f) (l : fs.lookup f = some v) (q : R a C v) :
    ∃ a' C' dx' fs' v', V.ref a = V.ref a' ∧ H a' = some (.ins C' dx' fs') ∧ Cls K C' ∧ NoAttr K C' f ∧ fs'.lookup f = some v' ∧ R a' C' v' := ⟨a, C, dx, fs, v, rfl, h, c, n, l, q⟩
theorem rd_insX {a C dx : Addr} {fs : List (Str × V)} {R : Addr → List (Str × V) → Prop} (h : H a = some (.ins C dx fs)) (l : fs.length < 1000) (q : R dx fs) : ∃ dx' fs', H a = some (.ins C dx' fs') ∧ fs'.length < 1000 ∧ R dx' fs' := ⟨dx, fs, h, l, q⟩
theorem rd_addI (h : Q (.int (i + j)) H) : rAdd (.int i) (.int j) H Q := ⟨i, j, rfl, rfl, h⟩
theorem rd_subI (h : Q (.int (i - j)) H) : rSub (.int i) (.int j) H Q := ⟨i, j, rfl, rfl, h⟩
theorem rd_minL {a : Addr} {ns : List Int} (h : SqL K H a (ns.map V.int)) (l : 0 < ns.length) (q : ∀ m, m ∈ ns → (∀ y, y ∈ ns → m ≤ y) → Q (.int m) H) : rMin K [.ref a] H Q := ⟨a, ns, rfl, h, l, q⟩
end
/-- an optional int -/
abbrev ov : Option Int → V
  | none => .non
  | some i => .int i
theorem ov_non {o : Option Int} : decide (ov o = V.non) = o.isNone := by
  cases o with
  | none => rfl
  | some i => exact decide_eq_false (by intro z; cases z)
/-- the first on the way from a place on -/
def FirstOf (r place : Int) (xs : List Int) : Option Int → Prop
  | none => xs = []
  | some b => b ∈ xs ∧ ∀ z, z ∈ xs → (b - place) % r ≤ (z - place) % r
end RD
namespace RD
open PySem PySem.Spec PyProof.Rows L2 He
/-! ### look-ups whose value comes out plain -/
def lookV {κ : Type} [DecidableEq κ] : List (κ × V) → κ → Option V
  | [], _ => none
  | (a, v) :: r, k => if a = k then some v else lookV r k
theorem lookV_eq {κ : Type} [DecidableEq κ] (k : κ) : ∀ kvs : List (κ × V), valV kvs k = lookV kvs k
  | [] => rfl
  | (a, v) :: r => by
    unfold lookV
    by_cases h : a = k
    · rw [if_pos h]
      exact valV_pos h
    · rw [if_neg h, valV_neg h]
      exact lookV_eq k r
theorem dg_sl {H : Hp} {a : Addr} {v : V} {kvs : List (Key × V)} {s : Str} (e : H a = some (.dK kvs)) (l : lookV kvs (.inr s) = some v) : DGet H a (.str s) (some v) := dg_sv e ((lookV_eq _ _).trans l)
theorem Kt.mine {T : List (Addr × Str)} {ps : List Addr} {H H' : Hp} {p : Addr} {o u : HO} (a : Kt T ps H H') (f : Frn H p) (e : H' p = some u) (w : Plain u) : Kt T ps H (upd H' p o) :=
  ⟨fun c v ev n m => by
    rw [upd_ne (f c v ev n)]
    exact a.1 c v ev n m, tabs_kp a.2 (Kp.refl.wr (ps := [p]) (by simp)) fun q hq => by
    rw [List.mem_singleton.mp hq]
    exact ⟨u, e, w⟩⟩
theorem Kt.mono {T : List (Addr × Str)} {ps qs : List Addr} {H H' : Hp} (a : Kt T ps H H') (h : ∀ p, p ∈ ps → p ∈ qs) : Kt T qs H H' := ⟨fun c o e n m => a.1 c o e n fun z => m (h c z), a.2⟩
theorem Kt.kpP {T : List (Addr × Str)} {ps qs : List Addr} {H H' H2 : Hp} (a : Kt T ps H H') (k : Kp qs H' H2) (n : ∀ p, p ∈ qs → p ∈ ps ∧ ∃ o, H' p = some o ∧ Plain o) : Kt T ps H H2 := a.trans ((Kt.kp a.2 k fun p hp => (n p hp).2).mono fun p hp => (n p hp).1)
end RD
namespace RD
open PySem PySem.Spec PyProof.Rows L2 He
theorem rd_sumL {K : PySem.W.Frag} {H : Hp} {Q : VK} {a : Addr} {ns : List Int} (h : SqL K H a (ns.map V.int)) (q : Q (.int ns.sum) H) : rSum K [.ref a] H Q := ⟨a, ns, rfl, h, q⟩
end RD
namespace RD
open PySem PySem.Spec PyProof.Rows L2 He
/-! ### defs called with keywords, dicts of ints, dict comprehensions -/
structure CalKX (P : Program) (w : World) (K : PySem.W.Frag) (mg : Str → Option Value) (base : Heap) (CX : CXT) (k : Nat) (x : Str) (sp : Sp) (n : Nat) (ks : List Str) (gV : List V → List V → List V) : Prop where
  ex : ∃ (f : Addr) (fd : FuncData) (ps : List Str) (g : List Value → List Value → List Value), FnOk P w K mg base CX k f fd ps sp ∧ mg x = some (.ref f) ∧ PySem.W.keepIn K (.ref f) = true ∧ KBn K fd ps n ks g gV
theorem pe_calKX {X : Cx} {CX : CXT} {k j n : Nat} {x : Str} {sp : Sp} {E : XK} {ks : List Str} {gV : List V → List V → List V} {p pos : Pos} {e : Expr} {es : List Expr} {kws : List Keyword} {t tk : TA} (c : CalKX X.prog X.w X.K X.mg X.base CX k x sp n ks gV) (hr : Room j X.A) (hk : k ≤ j) (hg : Gl X x) (hx : Passes CX X E) (ha : PA X (e :: es) t) (hkw : PK X kws tk)
    (hall : (backToKw pos (keywordEach kws X.env)).all (·.1.isSome) = true := by rfl) (hks : (backToKw pos (keywordEach kws X.env)).filterMap (·.1) = ks := by rfl) (hdb : (x == ("__debug__" : Str)) = false := by decide)
    (he : starEach (e :: es) X.env = (false, eval e X.env) :: starEach es X.env := by rfl) (hpl : ((backTo pos (starEach (e :: es) X.env)).any (·.1) || (backToKw pos (keywordEach kws X.env)).any (·.1.isNone)) = false := by rfl) :
    PE X (.Call (.Name x p) (e :: es) kws pos) (tCallN n ks.length sp gV E t tk) := by
  obtain ⟨f, fd, ps, g, F, hm, kp, hb⟩ := c.ex
  exact pe_callN F (hr.mono hk) hg hm kp hb hx ha hkw hall hks hdb he hpl
/-- a dict with int keys, by the keys and a function -/
def dmap (xs : List Int) (f : Int → V) : List (Key × V) := xs.map fun x => (Sum.inl x, f x)
def fset {α : Type} (f : Int → α) (a : Int) (v : α) : Int → α := fun x => if x = a then v else f x
theorem dmap_val {f : Int → V} (a : Int) : ∀ xs : List Int, valV (dmap xs f) (.inl a) = if a ∈ xs then some (f a) else none
  | [] => rfl
  | x :: r => by
    have ih := dmap_val (f := f) a r
    unfold dmap at ih ⊢
    rw [List.map_cons]
    by_cases h : x = a
    · subst h
      rw [valV_pos rfl, if_pos (.head _)]
    · rw [valV_neg (fun e => h (Sum.inl.inj e)), ih]
      by_cases h2 : a ∈ r
      · rw [if_pos h2, if_pos (List.mem_cons_of_mem _ h2)]
      · rw [if_neg h2, if_neg (by simp [h2, Ne.symm h])]
theorem dmap_in {f : Int → V} {a : Int} {xs : List Int} (h : a ∈ xs) : valV (dmap xs f) (.inl a) = some (f a) := by rw [dmap_val, if_pos h]
theorem dmap_out {f : Int → V} {a : Int} {xs : List Int} (h : a ∉ xs) : valV (dmap xs f) (.inl a) = none := by rw [dmap_val, if_neg h]
theorem dmap_congr {f g : Int → V} {xs : List Int} (h : ∀ x, x ∈ xs → f x = g x) : dmap xs f = dmap xs g := List.map_congr_left fun x hx => by rw [h x hx]
theorem dmap_new {f : Int → V} {a : Int} {v : V} {xs : List Int} (h : a ∉ xs) : putK (dmap xs f) (.inl a) v = dmap (xs ++ [a]) (fset f a v) := by
  rw [putK_new _ (dmap_out h)]
  unfold dmap
  rw [List.map_append]
  congr 1
  · refine List.map_congr_left fun x hx => ?_
    unfold fset
    rw [if_neg (show ¬ x = a from fun e => h (e ▸ hx))]
  · unfold fset
    simp
theorem dmap_old {f : Int → V} {a : Int} {v : V} {xs : List Int} (h : a ∈ xs) : putK (dmap xs f) (.inl a) v = dmap xs (fset f a v) := by
  unfold putK dmap
  have e : ((xs.map fun x => ((Sum.inl x : Key), f x)).any fun p => decide (p.1 = Sum.inl a)) = true := by
    rw [List.any_eq_true]
    exact ⟨_, List.mem_map_of_mem h, decide_eq_true rfl⟩
  rw [if_pos (by simpa using e), List.map_map]
  refine List.map_congr_left fun x _ => ?_
  unfold fset
  by_cases hx : x = a
  · subst hx
    simp
  · simp [hx]
theorem dmap_len {f : Int → V} {xs : List Int} : (dmap xs f).length = xs.length := List.length_map _
theorem pickI {d : Int} (ns : List Int) (h0 : 0 ≤ d) (h1 : d < ns.length) : ∃ n, n ∈ ns ∧ atI (ns.map V.int) d = some (.int n) := by
  have h : d.toNat < ns.length := by omega
  refine ⟨ns[d.toNat], List.getElem_mem h, ?_⟩
  rw [atI_ints h0 h1, List.getD_eq_getElem?_getD, List.getElem?_eq_getElem h]
  rfl
end RD
namespace RD
open PySem PySem.Spec PyProof.Rows L2 He
section
variable {K : PySem.W.Frag} {σ : L2.St} {H : Hp} {tt : TT} {tk tv : TE} {Q : VK}
/-- what a dict comprehension over J asks -/
def DcG (J : It) (g : TG) (tt : TT) (tk tv : TE) (vs : List Nat) (σ : L2.St) (D : Addr) (Qd : Hp → Prop) (H1 : Hp) : Prop :=
  ∃ W : Nat → Nat → Hp → Prop, (∃ m, W 0 m (upd H1 D (.dK []))) ∧ ∀ i m H, W i m H →
  (J.stop i H ∧ Qd H) ∨ (J.go i H ∧ ∃ Nx : Hp → Prop, (∀ H', Nx H' → ∃ m', m' < m ∧ W (i + 1) m' H') ∧ ∀ x H', J.yld i H x H' → g x (wipe σ vs) H' fun σ2 H2 => wipe σ2 vs = wipe σ vs ∧ tt σ2 H2 fun b H3 =>
    if b = true then tk σ2 H3 fun y H4 => tv σ2 H4 fun z H5 => ∃ kvs k, y = kV k ∧ H5 D = some (.dK kvs) ∧ kvs.length < sizeLine ∧ Nx (upd H5 D (.dK (putK kvs k z))) else Nx H3)
theorem rd_dc {wi : TI} {g : TG} {vs : List Nat} (h : wi σ H fun J H1 => ∀ D, H1 D = none → DcG J g tt tk tv vs σ D (fun H => Q (.ref D) H) H1) : tDc wi g tt tk tv vs σ H Q := h
theorem dcL_ints {a D : Addr} {g : TG} {vs : List Nat} {Qd : Hp → Prop} (ns : List Int) (Pv : Nat → Hp → Prop) (h0 : Pv 0 (upd H D (.dK []))) (hl : ∀ i H, i ≤ ns.length → Pv i H → SqL K H a (ns.map V.int))
    (hs : ∀ (i : Nat) (h : i < ns.length) H, Pv i H → g (.int ns[i]) (wipe σ vs) H fun σ2 H2 => wipe σ2 vs = wipe σ vs ∧ tt σ2 H2 fun b H3 =>
      if b = true then tk σ2 H3 fun y H4 => tv σ2 H4 fun z H5 => ∃ kvs k, y = kV k ∧ H5 D = some (.dK kvs) ∧ kvs.length < sizeLine ∧ Pv (i + 1) (upd H5 D (.dK (putK kvs k z))) else Pv (i + 1) H3) (hd : ∀ H, Pv ns.length H → Qd H) : DcG (Itl K a) g tt tk tv vs σ D Qd H := by
  refine ⟨fun i m H => m = ns.length - i ∧ i ≤ ns.length ∧ Pv i H, ⟨ns.length, by simp, Nat.zero_le _, h0⟩, ?_⟩
  rintro i m H ⟨rfl, hi, p⟩
  have q := hl i H hi p
  by_cases hlt : i < ns.length
  · have e : (ns.map V.int)[i]? = some (.int ns[i]) := by
      rw [List.getElem?_map, List.getElem?_eq_getElem hlt]
      rfl
    refine .inr ⟨⟨_, _, q, e⟩, Pv (i + 1), fun H' p' => ⟨ns.length - (i + 1), by omega, rfl, hlt, p'⟩, fun x H' y => ?_⟩
    obtain ⟨rfl, hz⟩ := y
    have ex := hz _ q
    rw [e] at ex
    cases ex
    exact hs i hlt _ p
  · have e : i = ns.length := by omega
    subst e
    exact .inl ⟨⟨_, q, by rw [List.length_map]; exact Nat.le_refl _⟩, hd H p⟩
theorem rd_dictD {a : Addr} {kvs : List (Key × V)} (h : H a = some (.dK kvs)) (q : ∀ p, H p = none → Q (.ref p) (upd H p (.dK kvs))) : (∃ (a' : Addr) (kvs' : List (Key × V)), [V.ref a] = [.ref a'] ∧ Rd H a' (.dK kvs') ∧ ∀ p, H p = none → Q (.ref p) (upd H p (.dK kvs'))) := ⟨a, kvs, rfl, .inl h, q⟩
theorem dg_ii {a b : Addr} {kvs : List (List Key × V)} {s z : Int} (e : H a = some (.dT kvs)) (eb : H b = some (.tup [.int s, .int z])) : DGet H a (.ref b) (valV kvs [.inl s, .inl z]) := DGet.t (k := [.inl s, .inl z]) e eb
theorem dp_ii {a b : Addr} {kvs : List (List Key × V)} {s z : Int} {v : V} (e : H a = some (.dT kvs)) (eb : H b = some (.tup [.int s, .int z])) (l : kvs.length < sizeLine) : DPut H a (.ref b) v (upd H a (.dT (putK kvs [.inl s, .inl z] v))) := DPut.t (k := [.inl s, .inl z]) e eb l
end
/-- a table of numbers by two ints -/
structure Tab2 (H : Hp) (d : Addr) (g : Int → Int → Int) (m : Nat) : Prop where
  ex : ∃ kvs : List (List Key × V), H d = some (.dT kvs) ∧ kvs.length ≤ m ∧ ∀ s z, (valV kvs [.inl s, .inl z]).getD (.int 0) = .int (g s z)
theorem Tab2.kp {H H' : Hp} {d : Addr} {f : Int → Int → Int} {m : Nat} {ps : List Addr} (B : Tab2 H d f m) (k : Kp ps H H') (n : d ∉ ps) : Tab2 H' d f m := by
  obtain ⟨kvs, h1, h2, h3⟩ := B.ex
  exact ⟨kvs, k _ _ h1 n, h2, h3⟩
theorem Tab2.mono {H : Hp} {d : Addr} {f : Int → Int → Int} {m m' : Nat} (B : Tab2 H d f m) (h : m ≤ m') : Tab2 H d f m' := by
  obtain ⟨kvs, h1, h2, h3⟩ := B.ex
  exact ⟨kvs, h1, Nat.le_trans h2 h, h3⟩
theorem key2_iff {s a z b : Int} : ([Sum.inl a, Sum.inl b] : List Key) = [Sum.inl s, Sum.inl z] ↔ a = s ∧ b = z := by
  constructor
  · intro e
    injection e with e1 e2
    injection e2 with e3 _
    exact ⟨Sum.inl.inj e1, Sum.inl.inj e3⟩
  · rintro ⟨rfl, rfl⟩
    rfl
theorem tab2_put {kvs : List (List Key × V)} {f : Int → Int → Int} {s z v : Int} (h : ∀ s z, (valV kvs [.inl s, .inl z]).getD (.int 0) = .int (f s z)) :
    ∀ a b, (valV (putK kvs [.inl s, .inl z] (.int v)) [.inl a, .inl b]).getD (.int 0) = .int (if a = s ∧ b = z then v else f a b) := by
  intro a b
  rw [valV_put]
  by_cases e : a = s ∧ b = z
  · rw [if_pos e, if_pos (key2_iff.mpr e)]
    rfl
  · rw [if_neg e, if_neg (fun q => e (key2_iff.mp q))]
    exact h a b
end RD

/-! own layer: getters of properties in the head -/
namespace RD
open PySem PySem.Spec PyProof.Rows L2 He
/-- the property object of the class's name, its getter -/
def prA (K : PySem.W.Frag) (c f : Str) : Addr := ma K (ga K c) f
def prG (K : PySem.W.Frag) (c f : Str) : Addr := match PySem.W.recIn K (prA K c f) "property" with
  | some (.ref g :: _) => g
  | _ => 0
def propB (K : PySem.W.Frag) (c f : Str) : Bool :=
  eqO (PySem.W.findIn K (.ref (ga K c)) f) (some (some (.ref (prA K c f)))) && (eqO (PySem.W.specialIn K (.ref (prA K c f)) "__get__") (some (some (.builtin "property.__get__"))) && (decide (PySem.W.takesIn K (.ref (prA K c f)) = some true) && (match PySem.W.recIn K (prA K c f) "property" with
    | some (.ref g :: _) => decide (g = prG K c f)
    | _ => false)))
theorem propB_ok {K : PySem.W.Frag} {c f : Str} (h : propB K c f = true) : PropOf K (ga K c) f (prA K c f) (prG K c f) := by
  obtain ⟨h1, h2⟩ := ba h
  obtain ⟨h3, h4⟩ := ba h2
  obtain ⟨h5, h6⟩ := ba h4
  refine ⟨eqO_ok h1, eqO_ok h3, of_decide_eq_true h5, ?_⟩
  cases e : PySem.W.recIn K (prA K c f) "property" with
  | none =>
    rw [e] at h6
    cases h6
  | some l =>
    rw [e] at h6
    cases l with
    | nil => cases h6
    | cons v r =>
      cases v with
      | ref g =>
        have h7 : g = prG K c f := of_decide_eq_true h6
        exact ⟨r, by rw [h7]⟩
      | _ => cases h6
/-- a property's getter: its class and name, and the def -/
structure GetD where
  cls : Str
  fld : Str
  name : Str
  qual : Str
  params : Arguments
  body : List Stmt
  scope : Scope
def GetD.seen (K : PySem.W.Frag) (d : GetD) : FnW := match K.lookup (prG K d.cls d.fld) with
  | some ⟨_, _, .func fd, _⟩ => some (fd.name, fd.qualname, fd.params, fd.body, fd.scope, fd.globals, fd.closure, fd.builtins)
  | _ => none
def GetD.val (d : GetD) : FnW := some (d.name, d.qual, d.params, .stmts d.body, d.scope, mainGlobals, [], builtinsNs)
def GetD.ok (K : PySem.W.Frag) (d : GetD) : Bool := propB K d.cls d.fld && (PySem.W.keepIn K (.ref (prG K d.cls d.fld)) && (match K.lookup (prG K d.cls d.fld) with
  | some ⟨_, _, .func fd, _⟩ => PySem.W.codeIn K fd.code d.qual && (dflB K fd.defaults [] && kwdB K fd.kwdefaults [])
  | _ => false))
theorem GetD.funD {K : PySem.W.Frag} {d : GetD} (e : d.seen K = d.val) (c : d.ok K = true) : PropOf K (ga K d.cls) d.fld (prA K d.cls d.fld) (prG K d.cls d.fld) ∧ ∃ fd, FunD K d.name d.qual d.params d.body d.scope [] [] (prG K d.cls d.fld) fd := by
  obtain ⟨c0, c1⟩ := ba c
  obtain ⟨kp, c2⟩ := ba c1
  refine ⟨propB_ok c0, ?_⟩
  unfold GetD.seen at e
  cases q : K.lookup (prG K d.cls d.fld) with
  | none =>
    rw [q] at c2
    cases c2
  | some o =>
    obtain ⟨oc, od, dt, osl⟩ := o
    rw [q] at c2 e
    cases dt with
    | func fd =>
      obtain ⟨n1, n2, n3, n4, n5, n6, n7, n8, n9, n10, n11, n12, n13, n14, n15⟩ := fd
      have e2 : (some (n1, n2, n3, n4, n5, n6, n7, n15) : FnW) = some (d.name, d.qual, d.params, .stmts d.body, d.scope, mainGlobals, [], builtinsNs) := e
      injection e2 with e2
      simp only [Prod.mk.injEq] at e2
      obtain ⟨a1, a2, a3, a4, a5, a6, a7, a8⟩ := e2
      subst a1 a2 a3 a4 a5 a6 a7 a8
      have c3 : (PySem.W.codeIn K n13 d.qual && (dflB K n8 [] && kwdB K n9 [])) = true := c2
      obtain ⟨k1, k2⟩ := ba c3
      obtain ⟨k3, k4⟩ := ba k2
      exact ⟨_, ⟨oc, od, n8, n9, n10, n11, n12, n13, n14, osl, rfl, q, k1, dflB_ok k3, kwdB_ok k4⟩, kp⟩
    | _ => cases c2
/-- the head of a law with properties and tables -/
abbrev AlP : Type := AlX × (Bool × List FnW)
def obsP (n : Nat) (fa : List Fa) (fn : List DefD) (gs : List GetD) (tf : List Defn) (ex : PySem.W.Frag → Bool) (g : Addr → Option Obj) : AlP := (obsX n fa fn [] tf ex g, (gs.all (GetD.ok (frT g (asD g n))), gs.map (GetD.seen (frT g (asD g n)))))
structure SaysP (fa : List Fa) (fn : List DefD) (gs : List GetD) (tf : List Defn) (ex : PySem.W.Frag → Bool) (w : World) (h : Heap) (K : PySem.W.Frag) : Prop where
  x : SaysX fa fn [] tf ex w h K
  ok : gs.all (GetD.ok K) = true
  seen : gs.map (GetD.seen K) = gs.map GetD.val
def hookP (n : Nat) (fa : List Fa) (fn : List DefD) (gs : List GetD) (tf : List Defn) (ex : PySem.W.Frag → Bool) : PySem.W.Hook where
  α := AlP
  obs := fun s => obsP n fa fn gs tf ex s.heap.get?
  val := fun w => (valX fn [] w, (true, gs.map GetD.val))
  says := fun w h => ∃ K : PySem.W.Frag, K.In h ∧ SaysP fa fn gs tf ex w h K
  of := fun _ _ e => ⟨_, frT_in, saysX_of (congrArg (fun z : AlP => z.1) e), congrArg (fun z : AlP => z.2.1) e, congrArg (fun z : AlP => z.2.2) e⟩
  keeps := fun _ _ _ ⟨K, hK, c⟩ k => ⟨K, PySem.W.Frag.In.keeps hK k, ⟨⟨c.x.t, c.x.more, c.x.hd, c.x.out, fun p hp => k _ _ (c.x.empty p hp)⟩, c.ok, c.seen⟩⟩
theorem obsP_eq {n : Nat} {fa : List Fa} {fn : List DefD} {gs : List GetD} {tf : List Defn} {ex : PySem.W.Frag → Bool} {g : Addr → Option Obj} {s : Shared} (h : ∀ a, g a = s.heap.get? a) : obsP n fa fn gs tf ex g = (hookP n fa fn gs tf ex).obs s := by
  have e : g = s.heap.get? := funext h
  rw [e] <;> rfl
theorem SaysP.get {fa : List Fa} {fn : List DefD} {gs : List GetD} {tf : List Defn} {ex : PySem.W.Frag → Bool} {w : World} {h : Heap} {K : PySem.W.Frag} (c : SaysP fa fn gs tf ex w h K) {d : GetD} (hd : d ∈ gs) :
    PropOf K (ga K d.cls) d.fld (prA K d.cls d.fld) (prG K d.cls d.fld) ∧ ∃ fd, FunD K d.name d.qual d.params d.body d.scope [] [] (prG K d.cls d.fld) fd := by
  obtain ⟨i, hi, e⟩ := List.mem_iff_getElem.mp hd
  have e1 := congrArg (fun l : List FnW => l[i]?) c.seen
  have e2 : gs[i]? = some d := by rw [List.getElem?_eq_getElem hi, e]
  simp only [List.getElem?_map, e2, Option.map_some, Option.some.injEq] at e1
  exact GetD.funD e1 (List.all_eq_true.mp c.ok d hd)
/-- a property in one piece -/
structure PrpX (P : Program) (w : World) (K : PySem.W.Frag) (mg : Str → Option Value) (base : Heap) (CX : CXT) (k : Nat) (C : Addr) (f : Str) (sp : Sp) : Prop where
  ex : ∃ (p g : Addr) (fd : FuncData) (ps : List Str), Cls K C ∧ PropOf K C f p g ∧ FnOk P w K mg base CX k g fd ps sp ∧ Binds K fd ps []
theorem pe_prpX {X : Cx} {CX : CXT} {k j : Nat} {C : Addr} {f : Str} {sp : Sp} {E : XK} {e : Expr} {pos : Pos} {ta : TE} (c : PrpX X.prog X.w X.K X.mg X.base CX k C f sp) (hr : Room j X.A) (hk : k + 1 ≤ j) (hx : Passes CX X.nox E) (he : PE X e ta)
    (hab : attributeBase e f X.env (eval e X.env) = eval e X.env := by rfl) : PE X (.Attribute e f pos) (tProp C sp [] E ta) := by
  obtain ⟨p, g, fd, ps, cl, hp, F, b⟩ := c.ex
  exact pe_prop he cl hp F (hr.mono hk) b .nil hx hab
end RD

namespace L2
open PySem PySem.Spec PyProof.Rows GenW

section
variable {M : Model} {A : Around} {R : GenEnd} {Y : Protocol} {n : Nat} {s₀ : Shared} {c : Code} {fs : List Frame} {s : Shared} {env : Env}
  {K : Flow → Sem PySem.Fin} {J : Value → Sem PySem.Fin} {gd : Bool → Bool} {lv : List Value → List Value}
theorem seg_For {tg iter : Expr} {body : List Stmt} {pos : Pos}
    (h : wpAny M (A.over c fs) (eval iter env) (fun x s₁ => wpAny M (A.over c fs) (pyIter x) (fun it s₂ => ∀ p, Seg M A R Y n s₀ (.forLoop tg it body [] env) (M.den (.forLoop tg it body [] env))
      (.ret (fun r => ((match r with | .ok f => (.pure f : Sem Flow) | .error e => .raise e).onRaise (cameBack env)).wrap K J gd lv) none (gd false) (lv []) c p [] :: fs) s₂) (fun x s' => Seg M A R Y n s₀ c (J x) fs s') s₁) (fun x s' => Seg M A R Y n s₀ c (J x) fs s') s)
    (hs : ∀ x, foldedSetIterable iter env x = pure x) :
    Seg M A R Y n s₀ c ((exec (.For tg iter body [] pos) env).wrap K J gd lv) fs s := by
  rw [exec_For]
  refine seg_bind_wrap (wpAny_standAt ?_)
  refine seg_bind_wrap (wpAny_mono h (fun x s₁ h₁ => ?_) fun _ _ h' => h')
  refine seg_bind_wrap (wpAny_of_eq (hs x) ?_)
  refine seg_bind_wrap (wpAny_standAt ?_)
  refine seg_bind_wrap (wpAny_holding (wpAny_mono h₁ (fun it s₂ h₂ => ?_) fun _ _ h' => h'))
  exact seg_call h₂
end
section
variable {prog : Program} {w : World} {A : Around} {R : GenEnd} {Y : Protocol} {n : Nat} {s₀ : Shared} {fs : List Frame} {s : Shared} {env : Env}
theorem seg_forLoop {tg : Expr} {it : Value} {body : List Stmt}
    (h : wpAny (model prog w) (A.over (.forLoop tg it body [] env) fs) (pyNext it) (fun r s₁ => match r with
      | none => Seg (model prog w) A R Y n s₀ (.forLoop tg it body [] env) (.pure (.again (.block [] env))) fs s₁
      | some v => wpAny (model prog w) (A.over (.forLoop tg it body [] env) fs) (letOwnedTupleGo tg it v) (fun _ s₂ => wpAny (model prog w) (A.over (.forLoop tg it body [] env) fs) (assign tg env v) (fun _ s₃ =>
          Seg (model prog w) A R Y n s₀ (.forLoop tg it body [] env) ((execs body env).wrap (fun f => match f with
            | .next | .cont => .pure (.again (.forLoop tg it body [] env))
            | .brk => .pure (.done .next)
            | .ret v => .pure (.done (.ret v))) (fun e => (do noteFrame e env; theTreesLotGoes e : Sem Unit).wrap (fun _ => .raise e) .raise id id) id id) fs s₃)
          (fun x s' => Seg (model prog w) A R Y n s₀ (.forLoop tg it body [] env) ((do noteFrame x env; theTreesLotGoes x : Sem Unit).wrap (fun _ => .raise x) .raise id id) fs s') s₂)
        (fun x s' => Seg (model prog w) A R Y n s₀ (.forLoop tg it body [] env) ((do noteFrame x env; theTreesLotGoes x : Sem Unit).wrap (fun _ => .raise x) .raise id id) fs s') s₁)
      (fun x s' => Seg (model prog w) A R Y n s₀ (.forLoop tg it body [] env) ((do noteFrame x env; theTreesLotGoes x : Sem Unit).wrap (fun _ => .raise x) .raise id id) fs s') s) :
    Seg (model prog w) A R Y n s₀ (.forLoop tg it body [] env) ((model prog w).den (.forLoop tg it body [] env)) fs s := by
  have ex : ∀ e : Value, ((do noteFrame e env; theTreesLotGoes e : Sem Unit) >>= fun _ => (Sem.raise e : Sem PySem.Fin)) = (do noteFrame e env; theTreesLotGoes e : Sem Unit).wrap (fun _ => .raise e) .raise id id := fun e => Sem.bind_eq_wrap _ _
  show Seg _ A R Y n s₀ _ ((forTurn tg it body [] env).onRaise (fun x => do noteFrame x env; theTreesLotGoes x)) fs s
  unfold forTurn
  rw [Sem.onRaise_eq_wrap]
  refine seg_bind_wrap (wpAny_standAt ?_)
  refine seg_bind_wrap (wpAny_onRaise (wpAny_mono h (fun r s₁ h₁ => ?_) fun x s' hx => wpAny_standAt ?_))
  · cases r with
    | none => exact h₁
    | some v =>
      refine seg_bind_wrap (wpAny_mono h₁ (fun _ s₂ h₂ => ?_) fun x s' hx => ?_)
      · refine seg_bind_wrap (wpAny_mono h₂ (fun _ s₃ h₃ => ?_) fun x s' hx => ?_)
        · rw [Sem.bind_eq_wrap', Sem.wrap_wrap]
          refine Eq.mp (congrArg (fun t => Seg _ A R Y n s₀ _ t fs s₃) (Sem.wrap_congr (execs body env) _ _ (fun f => ?_) (fun e => ?_)).symm) h₃
          · cases f <;> rfl
          · exact ex e
        · rw [← ex] at hx
          exact hx
      · rw [← ex] at hx
        exact hx
  · rw [← ex] at hx
    exact hx
end
/-- W: the invariant by the turn, a measure and what is out; N: what the body is to reach -/
def tGFor (wi : TI) (g : TG) (tb : TGn) : TGn := fun D ys σ H => wi σ H fun J H1 => ∃ W : Nat → Nat → List V → St → Hp → Prop, (∃ m, W 0 m ys σ H1) ∧ ∀ i m ys σ H, W i m ys σ H →
  (J.stop i H ∧ D.nx ys σ H) ∨ (J.go i H ∧ ∃ N : List V → St → Hp → Prop, (∀ ys' σ' H', N ys' σ' H' → ∃ m', m' < m ∧ W (i + 1) m' ys' σ' H') ∧ ∀ x H', J.yld i H x H' → g x σ H' fun σ2 H2 => tb { D with nx := N, ct := N, bk := D.nx } ys σ2 H2)
section
variable {X : Cx}
theorem gs_for {tg iter : Expr} {body : List Stmt} {wi : TI} {g : TG} {tb : TGn} {pos : Pos} (hp : PassesOwn (model X.prog X.w) X.A X.env X.xe) (hc : X.calm = true) (hi : PI X tg iter wi) (hg : PG X tg g) (hb : GSs X body tb)
    (hs : ∀ x, foldedSetIterable iter X.env x = pure x := by intro _; rfl) : GS X (.For tg iter body [] pos) (tGFor wi g tb) := by
  refine ⟨fun A S ip R n ys s₀ c fs K J gd lv s σ H D g0 hn k hI ht => ?_⟩
  obtain ⟨acc, cc, r, I⟩ := hI
  refine seg_For ?_ hs
  rw [g0.over]
  refine wpAny_mono (hi.run _ s σ H _ I ht) (fun v s1 h1 => wpAny_mono h1 (fun itv s2 h2 p => ?_) fun x s' hx => k.exc n s₀ x s' hx) fun x s' hx => k.exc n s₀ x s' hx
  obtain ⟨it, fp, tn, Jt, H2, e, I2, T, st2, f2, W, ⟨m0, w0⟩, turn⟩ := h2
  subst e
  have gl := fun (kk : Result → Sem PySem.Fin) => gc_loop (k := kk) (c' := .forLoop tg (.ref it) body [] X.env) (l := lv []) (kp := []) (p := p) g0 rfl rfl
  have fS : S ∉ fp := fun hS => (f2 S hS).2.2.2.2.2 (S, lstObj acc cc) (List.mem_append_right _ List.mem_cons_self) rfl
  have fip : ∀ b ∈ fp, ∀ q ∈ ip, q.1 ≠ b := fun b hb q hq => (f2 b hb).2.2.2.2.2 q (List.mem_append_right _ (List.mem_cons_of_mem _ hq))
  have stat : ∀ {H' : Hp} {acc' : Array Value} {c' : Nat}, (∀ b ∈ fp, H' b = none) → ∀ b ∈ fp, FpOk X ((S, lstObj acc' c') :: ip) H' b := fun hn b hb => by
    obtain ⟨q1, q2, q3, q4, q5, q6⟩ := f2 b hb
    refine ⟨hn b hb, q2, q3, q4, q5, fun q hq => ?_⟩
    rcases List.mem_append.mp hq with hq | hq
    · exact q6 q (List.mem_append_left _ hq)
    · rcases List.mem_cons.mp hq with rfl | hq
      · exact fun z => fS (by rw [show S = b from z]; exact hb)
      · exact q6 q (List.mem_append_right _ (List.mem_cons_of_mem _ hq))
  have loop : ∀ (m i n : Nat) (ys : List V) (s₀ s : Shared) (σ : St) (H : Hp), n + ys.length = sizeLine → W i m ys σ H → tn i s.heap → (∀ b ∈ fp, H b = none) → GI X S ip ys σ H s →
      Seg (model X.prog X.w) A R (GY X S) n s₀ (.forLoop tg (.ref it) body [] X.env) ((model X.prog X.w).den (.forLoop tg (.ref it) body [] X.env))
        (.ret (fun r => ((match r with | .ok f => (.pure f : Sem Flow) | .error e => .raise e).onRaise (cameBack X.env)).wrap K J gd lv) none (gd false) (lv []) c p [] :: fs) s := by
    intro m
    induction m using Nat.strongRecOn with
    | ind m ih =>
      intro i n ys s₀ s σ H hn w htn hfp hI
      have ee : ∀ (n : Nat) (s₀ : Shared) (x : Value) (s' : Shared), X.xe x s' → Seg (model X.prog X.w) A R (GY X S) n s₀ (.forLoop tg (.ref it) body [] X.env)
          ((do noteFrame x X.env; theTreesLotGoes x : Sem Unit).wrap (fun _ => .raise x) .raise id id)
          (.ret (fun r => ((match r with | .ok f => (.pure f : Sem Flow) | .error e => .raise e).onRaise (cameBack X.env)).wrap K J gd lv) none (gd false) (lv []) c p [] :: fs) s' := fun n s₀ x s' hx => by
        refine seg_wrap ?_
        rw [(gl _).over]
        refine wpAny_bind (wpAny_mono (hp x s' hx) (fun _ s'' hcb => wpAny_theTreesLotGoes ?_) fun y s'' hcb => ?_)
        · exact seg_leaf (.error x) (seg_cameBack g0 k hcb)
        · exact seg_leaf (.error y) (seg_cameBack g0 k hcb)
      refine seg_forLoop ?_
      rw [(gl _).over]
      obtain ⟨acc, cc, r, I⟩ := hI
      rcases turn i m ys σ H w with ⟨stop, qn⟩ | ⟨go, N, hN, step⟩
      · refine wpAny_mono (T.done X rfl rfl rfl hc i _ s σ H X.xe I (stat hfp) htn stop) (fun r' s4 h4 => ?_) fun x s' hx => ee n s₀ x s' hx
        obtain ⟨rfl, I4⟩ := h4
        refine seg_again rfl ?_
        exact seg_leaf (.ok .next) (k.ok n ys s₀ s4 .next hn ⟨σ, H, ⟨acc, cc, r, I4⟩, qn⟩)
      · refine wpAny_mono (T.item X rfl rfl rfl hc i _ s σ H X.xe I (stat hfp) htn go) (fun r' s4 h4 => ?_) fun x s' hx => ee n s₀ x s' hx
        obtain ⟨u, rfl, h4⟩ := h4
        refine wpAny_mono h4 (fun _ s5 h5 => ?_) fun x s' hx => ee n s₀ x s' hx
        obtain ⟨x, H5, I5, r5, y5, st5, fr5⟩ := h5
        have I5' := I5.pinned (stat fr5) (T.obj _ _ st5)
        refine wpAny_mono (hg.run _ s5 σ H5 x u _ I5' r5 (step x H5 y5)) (fun _ s6 h6 => ?_) fun x s' hx => ee n s₀ x s' hx
        obtain ⟨σ6, H6, I6, q6⟩ := h6
        have gl6 : GC X S (ip ++ pinsAt fp s5.heap) A (.forLoop tg (.ref it) body [] X.env) (.ret (fun r => ((match r with | .ok f => (.pure f : Sem Flow) | .error e => .raise e).onRaise (cameBack X.env)).wrap K J gd lv) none (gd false) (lv []) c p [] :: fs) id := by
          obtain ⟨a1, a2, a3, a4, a5, a6, a7⟩ := gl (fun r => ((match r with | .ok f => (.pure f : Sem Flow) | .error e => .raise e).onRaise (cameBack X.env)).wrap K J gd lv)
          refine ⟨a1, fun q hq => ?_, a3, a4, a5, a6, a7⟩
          rcases List.mem_append.mp hq with hq | hq
          · exact a2 q hq
          · exact fun z => fS (by rw [← z]; exact (of_pinsAt hq).1)
        have back : ∀ {ys' : List V} {σ7 : St} {H7 : Hp} {s7 : Shared}, GI X S (ip ++ pinsAt fp s5.heap) ys' σ7 H7 s7 → GI X S ip ys' σ7 H7 s7 := fun {ys' σ7 H7 s7} h => by
          obtain ⟨acc7, c7, r7, I7⟩ := h
          exact ⟨acc7, c7, r7, Inv.unpinned (pl := pinsAt fp s5.heap) I7⟩
        refine hb.run A S (ip ++ pinsAt fp s5.heap) R n ys s₀ _ _ _ _ id id s6 σ6 H6 { D with nx := N, ct := N, bk := D.nx } gl6 hn ⟨fun n' ys' s₀' s7 f hn' hs => ?_, fun n' s₀' x s7 hx => ee n' s₀' x s7 hx⟩ ⟨acc, cc, r, I6⟩ q6
        have again : ∀ {σ7 : St} {H7 : Hp}, GI X S (ip ++ pinsAt fp s5.heap) ys' σ7 H7 s7 → N ys' σ7 H7 → Seg (model X.prog X.w) A R (GY X S) n' s₀' (.forLoop tg (.ref it) body [] X.env) ((model X.prog X.w).den (.forLoop tg (.ref it) body [] X.env))
            (.ret (fun r => ((match r with | .ok f => (.pure f : Sem Flow) | .error e => .raise e).onRaise (cameBack X.env)).wrap K J gd lv) none (gd false) (lv []) c p [] :: fs) s7 := fun {σ7 H7} I7 n7 => by
          obtain ⟨m', hm, w7⟩ := hN ys' σ7 H7 n7
          have I8 := I7
          obtain ⟨acc7, c7, r7, I7⟩ := I7
          have pin7 := fun b hb o e => I7.pin (b, o) (List.mem_append_right _ (List.mem_cons_of_mem _ (List.mem_append_right _ (mem_pinsAt (fp := fp) (h := s5.heap) hb e))))
          refine ih m' hm (i + 1) n' ys' s₀' s7 σ7 H7 hn' w7 (T.keep _ _ _ st5 fun b hb o e => (pin7 b hb o e).1) (fun b hb => ?_) (back I8)
          obtain ⟨o, e, d⟩ := T.obj _ _ st5 b hb
          exact (pin7 b hb o e).2.1
        cases f with
        | next => obtain ⟨σ7, H7, I7, n7⟩ := hs; exact seg_again rfl (again I7 n7)
        | cont => obtain ⟨σ7, H7, I7, n7⟩ := hs; exact seg_again rfl (again I7 n7)
        | brk => obtain ⟨σ7, H7, I7, q7⟩ := hs; exact seg_leaf (.ok .next) (k.ok n' ys' s₀' s7 .next hn' ⟨σ7, H7, back I7, q7⟩)
        | ret v => obtain ⟨x7, σ7, H7, I7, r7, q7⟩ := hs; exact seg_leaf (.ok (.ret v)) (k.ok n' ys' s₀' s7 (.ret v) hn' ⟨x7, σ7, H7, back I7, r7, q7⟩)
  exact loop m0 0 n ys s₀ s2 σ H2 hn w0 st2 (fun b hb => (f2 b hb).1) ⟨acc, cc, r, I2⟩
end
end L2

/-! ### ranges of any size -/
namespace L2
open PySem PySem.Spec PyProof.Rows
theorem turn_long {P : Program} {w : World} {K : PySem.W.Frag} {tg : Expr} (it : Addr) (lo : Int) (n : Nat) : Turn P w K tg (Itr lo n) [it] it (fun i h => IsLongIter h it (lo + (i : Nat) * 1) ((n : Int) - (i : Nat)) 1) where
  mem := by simp
  obj := fun i h st b hb => by
    have e : b = it := by simpa using hb
    subst e
    exact ⟨_, st, fun v z => by
      have z' : Data.fields _ = Data.cell v := z
      cases z'⟩
  keep := fun i h h' st k => k it (by simp) _ st
  item := by
    intro X hP hw hK hc i pins s σ H E I hf st hg
    subst hP hw hK
    obtain ⟨f0, f1, f2, f3, f4, f5⟩ := hf it (by simp)
    have W := Walks.longrange (prog := X.prog) (w := X.w) (I.ok.hd hc) it lo 1 n
    refine W.item i s _ _ hg st fun v h' tk hv st' kk => ?_
    obtain ⟨t, rfl⟩ := hv
    have I1 : Inv X pins σ H { s with heap := h', toks := tk } := I.turned (fun b o hb e => kk b o (by simpa using hb) e) f0 f1 f3 f4 f5
    refine ⟨_, rfl, go_of (s := { s with heap := h', toks := tk }) (n := "longrange_iterator") st' rfl rfl (by decide) ⟨.int (lo + i), H, I1, ⟨t, ?_⟩, ⟨rfl, rfl⟩, st', fun b hb => (hf b hb).1⟩⟩
    rw [Int.mul_one]
  done := by
    intro X hP hw hK hc i pins s σ H E I hf st hg
    subst hP hw hK
    obtain ⟨f0, f1, f2, f3, f4, f5⟩ := hf it (by simp)
    exact wpAny_pyNext_long_end (I.ok.hd hc) st (by have : n ≤ i := hg; omega) fun h' eb => ⟨rfl, I.turned (t' := s.toks) (fun b o hb e => eb b o hb e) f0 f1 f3 f4 f5⟩
  self := fun _ _ _ _ _ st h => wpAny_pyIter_longiter st h
section
variable {X : Cx} {tg : Expr}
theorem range_itB {pins : List (Addr × Obj)} {σ : St} {H : Hp} {s : Shared} {R : It → Hp → Prop} {E : Value → Shared → Prop} {lo hi : Int} {t u v : Tok} {tk : Nat} (I : Inv X pins σ H s)
    (q : R (Itr lo (hi - lo).toNat) H) : wpAny (model X.prog X.w) X.A (pyIter (.ref s.heap.objs.size)) (PIE X pins σ tg R) E { s with heap := s.heap.push { cls := .type "range", data := .fields #[.int lo t, .int hi u, .int 1 v] }, toks := tk } := by
  have e1 : lo + ((0 : Nat) : Int) * 1 = lo := by simp
  have e2 : (((hi - lo).toNat : Nat) : Int) - ((0 : Nat) : Int) = Builtin.Range.rangeSize lo hi 1 := by rw [rangeSize_one]; split <;> omega
  have I1 : Inv X pins σ H { s with heap := s.heap.push { cls := .type "range", data := .fields #[.int lo t, .int hi u, .int 1 v] }, toks := tk } := I.kept fun b o e => Heap.get?_push_of_some _ e
  cases hs : Builtin.Range.small lo hi 1 with
  | true =>
    refine wpAny_pyIter_range (IsRange.new ..) hs ?_
    refine ⟨(s.heap.push { cls := .type "range", data := .fields #[.int lo t, .int hi u, .int 1 v] }).objs.size, [(s.heap.push { cls := .type "range", data := .fields #[.int lo t, .int hi u, .int 1 v] }).objs.size], _, _, H, rfl,
      I1.kept (t' := tk) fun b o e => Heap.get?_push_of_some _ e, turn_range _ lo (hi - lo).toNat, ?_, fun b hb => ?_, q⟩
    · show IsRangeIter _ _ (lo + ((0 : Nat) : Int) * 1) ((((hi - lo).toNat : Nat) : Int) - ((0 : Nat) : Int)) 1
      rw [e1, e2]
      exact Heap.get?_push_size _ rfl
    · have e : b = (s.heap.push { cls := .type "range", data := .fields #[.int lo t, .int hi u, .int 1 v] }).objs.size := by simpa using hb
      subst e
      exact I1.fpOk (Nat.le_refl _) (I1.hok.fresh (Nat.le_refl _))
  | false =>
    refine wpAny_pyIter_longrange (IsRange.new ..) hs ?_
    refine ⟨(s.heap.push { cls := .type "range", data := .fields #[.int lo t, .int hi u, .int 1 v] }).objs.size, [(s.heap.push { cls := .type "range", data := .fields #[.int lo t, .int hi u, .int 1 v] }).objs.size], _, _, H, rfl,
      I1.kept (t' := tk) fun b o e => Heap.get?_push_of_some _ e, turn_long _ lo (hi - lo).toNat, ?_, fun b hb => ?_, q⟩
    · show IsLongIter _ _ (lo + ((0 : Nat) : Int) * 1) ((((hi - lo).toNat : Nat) : Int) - ((0 : Nat) : Int)) 1
      rw [e1, e2]
      exact Heap.get?_push_size _ rfl
    · have e : b = (s.heap.push { cls := .type "range", data := .fields #[.int lo t, .int hi u, .int 1 v] }).objs.size := by simpa using hb
      subst e
      exact I1.fpOk (Nat.le_refl _) (I1.hok.fresh (Nat.le_refl _))
def iRng2B (ta : TA) : TI := fun σ H R => ta σ H fun vs H1 => ∃ i j : Int, vs = [.int i, .int j] ∧ R (Itr i (j - i).toNat) H1
theorem pi_range2B {a b : Expr} {ta : TA} {p pos : Pos} (hg : Gl X "range") (hm : X.mg "range" = none) (ha : PA X [a, b] ta) (hs : starEach [a, b] X.env = [(false, eval a X.env), (false, eval b X.env)] := by rfl) (hs2 : starEach [b] X.env = [(false, eval b X.env)] := by rfl) :
    PI X tg (.Call (.Name "range" p) [a, b] [] pos) (iRng2B ta) := by
  refine ⟨fun pins s σ H R I h => ?_⟩
  refine Call_ (ld_blt I hg hm boot_range (PyProof.Rows.callWith_type1 (thn (ha.run pos pins s σ H _ I h) fun us s1 ⟨vs, H1, I1, r1, q1⟩ => ?_) (by rw [hs, hs2]) (by rw [hs2]; rfl)))
  obtain ⟨i, j, e, q⟩ := q1
  subst e
  cases r1 with
  | cons r rr =>
    cases rr with
    | cons r' rr =>
      cases rr
      obtain ⟨t, rfl⟩ := r
      obtain ⟨t', rfl⟩ := r'
      exact call_range_2 (range_itB I1 q)
end
end L2

namespace RD
open PySem PySem.Spec PyProof.Rows L2 C8 GenW
section
variable {P : Program} {w : World} {K : PySem.W.Frag} {mg : Str → Option Value} {base : Heap} {x qual : Str} {scope : Scope} {params : Arguments} {body : List Stmt} {f : Addr} {fd : FuncData} {dvs : List V} {kws : List (Str × V)}
/-- a generator def's promise from its body -/
theorem fnGD {N ps : List Str} {k : Nat} {sp : SpG} (F : FunD K x qual params body scope dvs kws f fd) (S : GScope N ps scope) (len : ∀ vs H Q E, sp vs H Q E → vs.length = ps.length)
    (hbody : ∀ (cdv : Value) (A : Around) (outer : List Env) (s : Shared) (H : Hp) (vs : List V) (Q : List V → Hp → Prop) (E : XK) (pn : List (Addr × Obj)), Room k (A.deeper (envOfC qual scope s.heap.objs.size f cdv)) → sp vs H Q E →
      ∃ t, GSs (gcxOf P w K mg base N qual scope f cdv A outer s H E pn) body t ∧ t ⟨fun ys _ H' => Q ys H', fun ys v H' => v = .non ∧ Q ys H', fun _ _ _ => False, fun _ _ _ => False⟩ [] (start N vs) H) : GFn P w K mg base (k + 1) f fd ps sp := by
  obtain ⟨oc, od, dV, kV, doc, pm, an, cdv, ct, osl, rfl, lk, hcd, _, _⟩ := F.ex
  exact gfn_of lk hcd S len fun A outer s H vs Q E pn hr hsp => hbody cdv A outer s H vs Q E pn hr hsp
structure GalX (P : Program) (w : World) (K : PySem.W.Frag) (mg : Str → Option Value) (base : Heap) (k : Nat) (x : Str) (sp : SpG) (dvs : List V) : Prop where
  ex : ∃ (f : Addr) (fd : FuncData) (ps : List Str) (ds : List Value), GFn P w K mg base k f fd ps sp ∧ mg x = some (.ref f) ∧ PySem.W.keepIn K (.ref f) = true ∧ Binds K fd ps ds ∧ Vals dvs ds
end
theorem passG {P : Program} {w : World} {X : Cx} : Passes (CX P w) X C8.E0 := fun _ _ _ _ _ _ _ c => by
  obtain ⟨_, _, _, _, _, _, _, _, _, _, _, _, h⟩ := c
  exact h.elim
section
variable {X : Cx} {k j : Nat} {x : Str} {sp : SpG} {dvs : List V} {e : Expr} {es : List Expr} {t : TA} {p p2 pos pos2 : Pos}
theorem pe_listGal (c : GalX X.prog X.w X.K X.mg X.base k x sp dvs) (hr : Room j X.A) (hk : k + 3 ≤ j) (hg : Gl X x) (hgl : Gl X "list") (hml : X.mg "list" = none) (ha : PA X (e :: es) t)
    (hdb : (x == ("__debug__" : Str)) = false := by decide) (he : starEach (e :: es) X.env = (false, eval e X.env) :: starEach es X.env := by rfl) (hpl : (backTo pos2 (starEach es X.env)).any (·.1) = false := by rfl)
    (he2 : starEach [Expr.Call (.Name x p2) (e :: es) [] pos2] X.env = (false, eval (.Call (.Name x p2) (e :: es) [] pos2) X.env) :: starEach [] X.env := by rfl) :
    PE X (.Call (.Name "list" p) [.Call (.Name x p2) (e :: es) [] pos2] [] pos) (tListG (tCallG sp dvs C8.E0 t)) := by
  obtain ⟨f, fd, ps, ds, F, hm, kp, b, d⟩ := c.ex
  exact pe_listG (k := k) (pgen_call F (hr.mono (by omega)) hg hm kp b d ha hdb he hpl) passG (fun _ _ _ h => h.elim) (hr.mono hk) hgl hml (by decide +kernel) (by decide) (by decide) he2
end
section
variable {K : PySem.W.Frag} {σ : L2.St} {H : Hp} {nx : List V → L2.St → Hp → Prop} {rt : List V → VK} {bk ct : List V → L2.St → Hp → Prop} {ys : List V}
theorem rd_gthen {t u : TGn} (h : t ⟨fun ys' σ' H' => u ⟨nx, rt, bk, ct⟩ ys' σ' H', rt, bk, ct⟩ ys σ H) : tGThen t u ⟨nx, rt, bk, ct⟩ ys σ H := h
theorem rd_gplain {t : TS} (h : t ⟨fun σ H => nx ys σ H, fun v H => rt ys v H, fun σ H => bk ys σ H, fun σ H => ct ys σ H⟩ σ H) : tPlain t ⟨nx, rt, bk, ct⟩ ys σ H := h
theorem rd_gend (h : nx ys σ H) : tG0 ⟨nx, rt, bk, ct⟩ ys σ H := h
theorem rd_gyield {te : TE} (hl : ys.length < sizeLine) (h : te σ H fun x H1 => nx (ys ++ [x]) σ H1) : tGYield te ⟨nx, rt, bk, ct⟩ ys σ H := ⟨hl, h⟩
def GForG (J : It) (g : TG) (t : TGn) (D : GEnds) (ys : List V) (σ : L2.St) (H1 : Hp) : Prop := ∃ W : Nat → Nat → List V → L2.St → Hp → Prop, (∃ m, W 0 m ys σ H1) ∧ ∀ i m ys σ H, W i m ys σ H →
  (J.stop i H ∧ D.nx ys σ H) ∨ (J.go i H ∧ ∃ N : List V → L2.St → Hp → Prop, (∀ ys' σ' H', N ys' σ' H' → ∃ m', m' < m ∧ W (i + 1) m' ys' σ' H') ∧ ∀ x H', J.yld i H x H' → g x σ H' fun σ2 H2 => t { D with nx := N, ct := N, bk := D.nx } ys σ2 H2)
theorem rd_gfor {wi : TI} {g : TG} {t : TGn} {D : GEnds} (h : wi σ H fun J H1 => GForG J g t D ys σ H1) : tGFor wi g t D ys σ H := h
theorem gforR_by {lo : Int} {n : Nat} {g : TG} {t : TGn} (Pv : Nat → List V → L2.St → Hp → Prop) (h0 : Pv 0 ys σ H)
    (hs : ∀ (i : Nat) ys σ H, i < n → Pv i ys σ H → g (.int (lo + i)) σ H fun σ2 H2 => t ⟨Pv (i + 1), rt, nx, Pv (i + 1)⟩ ys σ2 H2) (hd : ∀ ys σ H, Pv n ys σ H → nx ys σ H) : GForG (Itr lo n) g t ⟨nx, rt, bk, ct⟩ ys σ H := by
  refine ⟨fun i m ys σ H => m = n - i ∧ i ≤ n ∧ Pv i ys σ H, ⟨n, by simp, Nat.zero_le _, h0⟩, ?_⟩
  rintro i m ys σ H ⟨rfl, hi, p⟩
  by_cases hlt : i < n
  · refine .inr ⟨hlt, Pv (i + 1), fun ys' σ' H' p' => ⟨n - (i + 1), by omega, rfl, hlt, p'⟩, fun x H' y => ?_⟩
    obtain ⟨e, y⟩ := y
    subst e
    subst y
    exact hs i ys σ _ hlt p
  · have e : i = n := by omega
    subst e
    exact .inl ⟨Nat.le_refl _, hd ys σ H p⟩
end
end RD

namespace RD
open PySem PySem.Spec PyProof.Rows L2 C8 GenW
section
variable {K : PySem.W.Frag} {σ : L2.St} {H : Hp} {Q : VK}
theorem rd_iRng2B {ar : TA} {R : It → Hp → Prop} (h : ar σ H fun vs H1 => ∃ i j : Int, vs = [.int i, .int j] ∧ R (Itr i (j - i).toNat) H1) : iRng2B ar σ H R := h
theorem rd_sortedI {a : Addr} {ns : List Int} (h : H a = some (.lst (ns.map V.int))) (q : ∀ (os : List Int) (p : Addr), os.Perm ns → os.Pairwise (· ≤ ·) → H p = none → Q (.ref p) (upd H p (.lst (os.map V.int)))) : rSortedI K [.ref a] H Q := ⟨a, ns, rfl, SqL.of h, q⟩
theorem rd_listG {tg : TGen} (h : tg σ H fun out H2 => ∀ p, H2 p = none → Q (.ref p) (upd H2 p (.lst out))) : tListG tg σ H Q := h
theorem rd_callG {sp : SpG} {dvs : List V} {E : XK} {t : TA} {c : List V → Hp → Prop} (h : t σ H fun vs H1 => sp (vs ++ dvs) H1 c E) : tCallG sp dvs E t σ H c := h
end
theorem sort_uniq {a b : List Int} (p : a.Perm b) (h1 : a.Pairwise (· ≤ ·)) (h2 : b.Pairwise (· ≤ ·)) : a = b := List.Perm.eq_of_pairwise (fun _ _ _ _ => Int.le_antisymm) h1 h2 p
end RD

namespace My
open PySem PySem.Spec PyProof.Rows L2 He RD
open PySem PySem.Spec PyProof.Rows L2 He RD
def top (i : Nat) : Stmt := PySem.Challenge.pw_livingroll_k14_targets_and_plan_rounds.main.body.getD i (.Pass ⟨0, 0, 0, 0⟩)
abbrev R : PySem.W.OpenRow := PySem.W.OpenLaw.row PySem.Challenge.rw_livingroll_k14_targets_and_plan_rounds
abbrev s_l_purse : Stmt := (top 19)
abbrev n_l_purse : List Str := ["_law_script", "_law_cells", "_law_seed", "_law_cell"]
abbrev p_l_purse : List Str := ["_law_script"]
theorem sc_l_purse : FnScope n_l_purse p_l_purse (defScope s_l_purse) := ⟨rfl, rfl, rfl, by decide +kernel, rfl, by decide +kernel, by decide +kernel⟩
def d_l_purse : DefD := ⟨("_law_purse", none), "_law_purse", "_law_purse", defArgs s_l_purse, defBody s_l_purse, defScope s_l_purse, [], []⟩
abbrev s_l_mixed : Stmt := (top 20)
abbrev n_l_mixed : List Str := ["_law_seed", "_law_place", "_law_first", "_law_second"]
abbrev p_l_mixed : List Str := ["_law_seed", "_law_place"]
theorem sc_l_mixed : FnScope n_l_mixed p_l_mixed (defScope s_l_mixed) := ⟨rfl, rfl, rfl, by decide +kernel, rfl, by decide +kernel, by decide +kernel⟩
def d_l_mixed : DefD := ⟨("_law_mixed", none), "_law_mixed", "_law_mixed", defArgs s_l_mixed, defBody s_l_mixed, defScope s_l_mixed, [], []⟩
abbrev s_l_draw : Stmt := (top 21)
abbrev n_l_draw : List Str := ["_law_purse_here", "_law_many", "_law_cell", "_law_digit"]
abbrev p_l_draw : List Str := ["_law_purse_here", "_law_many"]
theorem sc_l_draw : FnScope n_l_draw p_l_draw (defScope s_l_draw) := ⟨rfl, rfl, rfl, by decide +kernel, rfl, by decide +kernel, by decide +kernel⟩
def d_l_draw : DefD := ⟨("_law_draw", none), "_law_draw", "_law_draw", defArgs s_l_draw, defBody s_l_draw, defScope s_l_draw, [], []⟩
abbrev s_l_seats : Stmt := (top 23)
abbrev n_l_seats : List Str := ["_law_purse_here", "_law_ring", "_law_many", "_law_pool", "_law_found", "_law_k"]
abbrev p_l_seats : List Str := ["_law_purse_here", "_law_ring", "_law_many"]
theorem sc_l_seats : FnScope n_l_seats p_l_seats (defScope s_l_seats) := ⟨rfl, rfl, rfl, by decide +kernel, rfl, by decide +kernel, by decide +kernel⟩
def d_l_seats : DefD := ⟨("_law_seats", none), "_law_seats", "_law_seats", defArgs s_l_seats, defBody s_l_seats, defScope s_l_seats, [], []⟩
abbrev s_whole : Stmt := (top 5)
abbrev n_whole : List Str := ["value", "low", "high"]
abbrev p_whole : List Str := ["value", "low", "high"]
theorem sc_whole : FnScope n_whole p_whole (defScope s_whole) := ⟨rfl, rfl, rfl, by decide +kernel, rfl, by decide +kernel, by decide +kernel⟩
def d_whole : DefD := ⟨("whole", none), "whole", "whole", defArgs s_whole, defBody s_whole, defScope s_whole, [], []⟩
abbrev s_Setting_init : Stmt := (inClass (top 6) 5)
abbrev n_Setting_init : List Str := ["self", "bits", "patience", "room", "grace", "helpers"]
abbrev p_Setting_init : List Str := ["self", "bits", "patience", "room", "grace", "helpers"]
theorem sc_Setting_init : FnScope n_Setting_init p_Setting_init (defScope s_Setting_init) := ⟨rfl, rfl, rfl, by decide +kernel, rfl, by decide +kernel, by decide +kernel⟩
def d_Setting_init : DefD := ⟨("Setting", some "__init__"), "__init__", "Setting.__init__", defArgs s_Setting_init, defBody s_Setting_init, defScope s_Setting_init, [], [("grace", .int 6), ("helpers", .int 1)]⟩
abbrev s_Setting_seats : Stmt := (inClass (top 6) 7)
abbrev n_Setting_seats : List Str := ["self"]
abbrev p_Setting_seats : List Str := ["self"]
theorem sc_Setting_seats : FnScope n_Setting_seats p_Setting_seats (defScope s_Setting_seats) := ⟨rfl, rfl, rfl, by decide +kernel, rfl, by decide +kernel, by decide +kernel⟩
def g_Setting_seats : GetD := ⟨"Setting", "seats", "seats", "Setting.seats", defArgs s_Setting_seats, defBody s_Setting_seats, defScope s_Setting_seats⟩
abbrev s_distance : Stmt := (top 7)
abbrev n_distance : List Str := ["setting", "seat", "other"]
abbrev p_distance : List Str := ["setting", "seat", "other"]
theorem sc_distance : FnScope n_distance p_distance (defScope s_distance) := ⟨rfl, rfl, rfl, by decide +kernel, rfl, by decide +kernel, by decide +kernel⟩
def d_distance : DefD := ⟨("distance", none), "distance", "distance", defArgs s_distance, defBody s_distance, defScope s_distance, [], []⟩
abbrev s_block_of : Stmt := (top 9)
abbrev n_block_of : List Str := ["setting", "beat"]
abbrev p_block_of : List Str := ["setting", "beat"]
theorem sc_block_of : FnScope n_block_of p_block_of (defScope s_block_of) := ⟨rfl, rfl, rfl, by decide +kernel, rfl, by decide +kernel, by decide +kernel⟩
def d_block_of : DefD := ⟨("block_of", none), "block_of", "block_of", defArgs s_block_of, defBody s_block_of, defScope s_block_of, [], []⟩
abbrev s_nearest : Stmt := (top 12)
abbrev n_nearest : List Str := ["setting", "seat", "offset", "held", "found", "reach", "other", "way"]
abbrev p_nearest : List Str := ["setting", "seat", "offset", "held"]
theorem sc_nearest : FnScope n_nearest p_nearest (defScope s_nearest) := ⟨rfl, rfl, rfl, by decide +kernel, rfl, by decide +kernel, by decide +kernel⟩
def d_nearest : DefD := ⟨("nearest", none), "nearest", "nearest", defArgs s_nearest, defBody s_nearest, defScope s_nearest, [], []⟩
abbrev s_fingers : Stmt := (top 14)
abbrev n_fingers : List Str := ["setting", "seat", "held", "found", "offset", "_"]
abbrev p_fingers : List Str := ["setting", "seat", "held"]
theorem sc_fingers : FnScope n_fingers p_fingers (defScope s_fingers) := ⟨rfl, rfl, rfl, by decide +kernel, rfl, by decide +kernel, by decide +kernel⟩
def d_fingers : DefD := ⟨("fingers", none), "fingers", "fingers", defArgs s_fingers, defBody s_fingers, defScope s_fingers, [], []⟩
abbrev s_finger_table : Stmt := (top 15)
abbrev n_finger_table : List Str := ["setting", "held", "seat"]
abbrev p_finger_table : List Str := ["setting", "held"]
theorem sc_finger_table : FnScope n_finger_table p_finger_table (defScope s_finger_table) := ⟨rfl, rfl, rfl, by decide +kernel, rfl, by decide +kernel, by decide +kernel⟩
def d_finger_table : DefD := ⟨("finger_table", none), "finger_table", "finger_table", defArgs s_finger_table, defBody s_finger_table, defScope s_finger_table, [], []⟩
abbrev s_called_at : Stmt := (top 16)
abbrev n_called_at : List Str := ["setting", "table", "seat", "beat", "row"]
abbrev p_called_at : List Str := ["setting", "table", "seat", "beat"]
theorem sc_called_at : FnScope n_called_at p_called_at (defScope s_called_at) := ⟨rfl, rfl, rfl, by decide +kernel, rfl, by decide +kernel, by decide +kernel⟩
def d_called_at : DefD := ⟨("called_at", none), "called_at", "called_at", defArgs s_called_at, defBody s_called_at, defScope s_called_at, [], []⟩
abbrev s_l_setting : Stmt := (top 22)
abbrev n_l_setting : List Str := ["_law_purse_here", "_law_bits", "_law_patience", "_law_room", "_law_long"]
abbrev p_l_setting : List Str := ["_law_purse_here", "_law_bits", "_law_patience"]
theorem sc_l_setting : FnScope n_l_setting p_l_setting (defScope s_l_setting) := ⟨rfl, rfl, rfl, by decide +kernel, rfl, by decide +kernel, by decide +kernel⟩
def d_l_setting : DefD := ⟨("_law_setting", none), "_law_setting", "_law_setting", defArgs s_l_setting, defBody s_l_setting, defScope s_l_setting, [], []⟩
abbrev s_l_table : Stmt := (top 24)
abbrev n_l_table : List Str := ["_law_bits", "_law_held", "_law_callers", "_law_ring", "_law_there", "_law_seat", "_law_table_here", "_law_phase_here", "_law_line", "_law_way", "_law_place"]
abbrev p_l_table : List Str := ["_law_bits", "_law_held", "_law_callers"]
theorem sc_l_table : FnScope n_l_table p_l_table (defScope s_l_table) := ⟨rfl, rfl, rfl, by decide +kernel, rfl, by decide +kernel, by decide +kernel⟩
def d_l_table : DefD := ⟨("_law_table", none), "_law_table", "_law_table", defArgs s_l_table, defBody s_l_table, defScope s_l_table, [], []⟩
abbrev s_phase_of : Stmt := (top 10)
abbrev n_phase_of : List Str := ["setting", "beat"]
abbrev p_phase_of : List Str := ["setting", "beat"]
theorem sc_phase_of : FnScope n_phase_of p_phase_of (defScope s_phase_of) := ⟨rfl, rfl, rfl, by decide +kernel, rfl, by decide +kernel, by decide +kernel⟩
def d_phase_of : DefD := ⟨("phase_of", none), "phase_of", "phase_of", defArgs s_phase_of, defBody s_phase_of, defScope s_phase_of, [], []⟩
abbrev s_offset_of : Stmt := (top 11)
abbrev n_offset_of : List Str := ["setting", "beat"]
abbrev p_offset_of : List Str := ["setting", "beat"]
theorem sc_offset_of : FnScope n_offset_of p_offset_of (defScope s_offset_of) := ⟨rfl, rfl, rfl, by decide +kernel, rfl, by decide +kernel, by decide +kernel⟩
def d_offset_of : DefD := ⟨("offset_of", none), "offset_of", "offset_of", defArgs s_offset_of, defBody s_offset_of, defScope s_offset_of, [], []⟩
abbrev s_target : Stmt := (top 13)
abbrev n_target : List Str := ["setting", "seat", "beat", "held"]
abbrev p_target : List Str := ["setting", "seat", "beat", "held"]
theorem sc_target : FnScope n_target p_target (defScope s_target) := ⟨rfl, rfl, rfl, by decide +kernel, rfl, by decide +kernel, by decide +kernel⟩
def d_target : DefD := ⟨("target", none), "target", "target", defArgs s_target, defBody s_target, defScope s_target, [], []⟩
abbrev s_plan_rounds : Stmt := (top 17)
abbrev n_plan_rounds : List Str := ["setting", "held", "start", "count", "table", "ordered", "beat", "pairs", "seat", "called"]
abbrev p_plan_rounds : List Str := ["setting", "held", "start", "count"]
theorem sc_plan_rounds : GScope n_plan_rounds p_plan_rounds (defScope s_plan_rounds) := ⟨rfl, rfl, rfl, by decide +kernel, rfl, by decide +kernel, by decide +kernel⟩
def d_plan_rounds : DefD := ⟨("plan_rounds", none), "plan_rounds", "plan_rounds", defArgs s_plan_rounds, defBody s_plan_rounds, defScope s_plan_rounds, [], []⟩
abbrev s_l_beat : Stmt := (top 26)
abbrev n_l_beat : List Str := ["_law_purse_here", "_law_turn", "_law_beat_here", "_law_k"]
abbrev p_l_beat : List Str := ["_law_purse_here", "_law_turn"]
theorem sc_l_beat : FnScope n_l_beat p_l_beat (defScope s_l_beat) := ⟨rfl, rfl, rfl, by decide +kernel, rfl, by decide +kernel, by decide +kernel⟩
def d_l_beat : DefD := ⟨("_law_beat", none), "_law_beat", "_law_beat", defArgs s_l_beat, defBody s_l_beat, defScope s_l_beat, [], []⟩
abbrev s_l_phase : Stmt := (top 27)
abbrev n_l_phase : List Str := ["_law_bits", "_law_patience", "_law_beat_here", "_law_phase_here", "_law_k"]
abbrev p_l_phase : List Str := ["_law_bits", "_law_patience", "_law_beat_here"]
theorem sc_l_phase : FnScope n_l_phase p_l_phase (defScope s_l_phase) := ⟨rfl, rfl, rfl, by decide +kernel, rfl, by decide +kernel, by decide +kernel⟩
def d_l_phase : DefD := ⟨("_law_phase", none), "_law_phase", "_law_phase", defArgs s_l_phase, defBody s_l_phase, defScope s_l_phase, [], []⟩
abbrev s_l_same : Stmt := (top 28)
abbrev n_l_same : List Str := ["_law_found", "_law_wanted"]
abbrev p_l_same : List Str := ["_law_found", "_law_wanted"]
theorem sc_l_same : FnScope n_l_same p_l_same (defScope s_l_same) := ⟨rfl, rfl, rfl, by decide +kernel, rfl, by decide +kernel, by decide +kernel⟩
def d_l_same : DefD := ⟨("_law_same", none), "_law_same", "_law_same", defArgs s_l_same, defBody s_l_same, defScope s_l_same, [], []⟩
abbrev s_l_bent : Stmt := (top 25)
abbrev n_l_bent : List Str := ["_law_purse_here", "_law_ring", "_law_held", "_law_way", "_law_spare", "_law_at", "_law_seat"]
abbrev p_l_bent : List Str := ["_law_purse_here", "_law_ring", "_law_held"]
theorem sc_l_bent : FnScope n_l_bent p_l_bent (defScope s_l_bent) := ⟨rfl, rfl, rfl, by decide +kernel, rfl, by decide +kernel, by decide +kernel⟩
def d_l_bent : DefD := ⟨("_law_bent", none), "_law_bent", "_law_bent", defArgs s_l_bent, defBody s_l_bent, defScope s_l_bent, [], []⟩
abbrev s_l_pairs : Stmt := (top 30)
abbrev n_l_pairs : List Str := ["_law_found", "_law_wanted", "_law_k", "_law_pair"]
abbrev p_l_pairs : List Str := ["_law_found", "_law_wanted"]
theorem sc_l_pairs : FnScope n_l_pairs p_l_pairs (defScope s_l_pairs) := ⟨rfl, rfl, rfl, by decide +kernel, rfl, by decide +kernel, by decide +kernel⟩
def d_l_pairs : DefD := ⟨("_law_pairs", none), "_law_pairs", "_law_pairs", defArgs s_l_pairs, defBody s_l_pairs, defScope s_l_pairs, [], []⟩
abbrev s_l_calls : Stmt := (top 29)
abbrev n_l_calls : List Str := ["_law_setting_here", "_law_bits", "_law_patience", "_law_seat", "_law_beat_here", "_law_held", "_law_table_here", "_law_handed", "_law_k", "_law_phase_here", "_law_line", "_law_wanted", "_law_found", "_law_place"]
abbrev p_l_calls : List Str := ["_law_setting_here", "_law_bits", "_law_patience", "_law_seat", "_law_beat_here", "_law_held"]
theorem sc_l_calls : FnScope n_l_calls p_l_calls (defScope s_l_calls) := ⟨rfl, rfl, rfl, by decide +kernel, rfl, by decide +kernel, by decide +kernel⟩
def d_l_calls : DefD := ⟨("_law_calls", none), "_law_calls", "_law_calls", defArgs s_l_calls, defBody s_l_calls, defScope s_l_calls, [], []⟩
abbrev s_l_plan : Stmt := (top 31)
abbrev n_l_plan : List Str := ["_law_setting_here", "_law_bits", "_law_patience", "_law_held", "_law_start", "_law_many", "_law_table_here", "_law_handed", "_law_found", "_law_k", "_law_line", "_law_wanted", "_law_seat"]
abbrev p_l_plan : List Str := ["_law_setting_here", "_law_bits", "_law_patience", "_law_held", "_law_start", "_law_many"]
theorem sc_l_plan : FnScope n_l_plan p_l_plan (defScope s_l_plan) := ⟨rfl, rfl, rfl, by decide +kernel, rfl, by decide +kernel, by decide +kernel⟩
def d_l_plan : DefD := ⟨("_law_plan", none), "_law_plan", "_law_plan", defArgs s_l_plan, defBody s_l_plan, defScope s_l_plan, [], []⟩
abbrev s_law : Stmt := (top 32)
abbrev n_law : List Str := ["_law_script", "_law_purse_here", "_law_bits", "_law_patience", "_law_ring", "_law_setting_here", "_law_held", "_law_mate", "_law_seat", "_law_beat_here", "_law_start", "_law_many", "_law_chosen"]
abbrev p_law : List Str := ["_law_script"]
theorem sc_law : FnScope n_law p_law (defScope s_law) := ⟨rfl, rfl, rfl, by decide +kernel, rfl, by decide +kernel, by decide +kernel⟩
def d_law : DefD := ⟨("law", none), "law", "law", defArgs s_law, defBody s_law, defScope s_law, [], []⟩
def fn : List DefD := [d_l_purse, d_l_mixed, d_l_draw, d_l_seats, d_whole, d_Setting_init, d_distance, d_block_of, d_nearest, d_fingers, d_finger_table, d_called_at, d_l_setting, d_l_table, d_phase_of, d_offset_of, d_target, d_plan_rounds, d_l_beat, d_l_phase, d_l_same, d_l_bent, d_l_pairs, d_l_calls, d_l_plan, d_law]
def fa : List Fa := [.free "bool", .free "int", .free "isinstance", .free "len", .free "list", .free "min", .free "range", .free "sorted", .free "tuple", .glo "_law_purse", .glo "_law_mixed", .glo "_law_draw", .glo "_law_seats", .glo "whole", .glo "distance", .glo "block_of", .glo "nearest", .glo "fingers", .glo "finger_table", .glo "called_at", .glo "_law_setting", .glo "_law_table", .glo "phase_of", .glo "offset_of", .glo "target", .glo "plan_rounds", .glo "_law_beat", .glo "_law_phase", .glo "_law_same", .glo "_law_bent", .glo "_law_pairs", .glo "_law_calls", .glo "_law_plan", .glo "law", .glo "Setting", .cls "Setting", .mkr "Setting", .noat "Setting" "bits", .noat "Setting" "patience", .noat "Setting" "room", .noat "Setting" "grace", .noat "Setting" "helpers"]
def ex (K : PySem.W.Frag) : Bool := conB K "Setting" "MOST_BITS" (.int 8) && (conB K "Setting" "MOST_PATIENCE" (.int 6) && (conB K "Setting" "MOST_ROOM" (.int 64) && (conB K "Setting" "MOST_GRACE" (.int 200) && (conB K "Setting" "MOST_HELPERS" (.int 3)))))
def tf : List He.Defn := []
def gs : List GetD := [g_Setting_seats]
abbrev TT (K : PySem.W.Frag) : List (Addr × Str) := []
structure Tb (K : PySem.W.Frag) (mg : Str → Option Value) (base : Heap) : Prop where
  t : ∀ p, p ∈ tf.map (He.cT K) → LamX.TabB base mg p.1 p.2
  g : ∀ d, d ∈ gs → PropOf K (ga K d.cls) d.fld (prA K d.cls d.fld) (prG K d.cls d.fld) ∧ ∃ fd, FunD K d.name d.qual d.params d.body d.scope [] [] (prG K d.cls d.fld) fd
abbrev Cx (K : PySem.W.Frag) (mg : Str → Option Value) : Prop := RD.Ctx fa fn ex K mg
section
variable {K : PySem.W.Frag} {mg : Str → Option Value}
theorem fr_bool (T : Cx K mg) : mg "bool" = none := T.fre 0
theorem fr_int (T : Cx K mg) : mg "int" = none := T.fre 1
theorem fr_isinstance (T : Cx K mg) : mg "isinstance" = none := T.fre 2
theorem fr_len (T : Cx K mg) : mg "len" = none := T.fre 3
theorem fr_list (T : Cx K mg) : mg "list" = none := T.fre 4
theorem fr_min (T : Cx K mg) : mg "min" = none := T.fre 5
theorem fr_range (T : Cx K mg) : mg "range" = none := T.fre 6
theorem fr_sorted (T : Cx K mg) : mg "sorted" = none := T.fre 7
theorem fr_tuple (T : Cx K mg) : mg "tuple" = none := T.fre 8
theorem gl_l_purse (T : Cx K mg) : mg "_law_purse" = some (.ref (ga K "_law_purse")) := T.glo 9
theorem gl_l_mixed (T : Cx K mg) : mg "_law_mixed" = some (.ref (ga K "_law_mixed")) := T.glo 10
theorem gl_l_draw (T : Cx K mg) : mg "_law_draw" = some (.ref (ga K "_law_draw")) := T.glo 11
theorem gl_l_seats (T : Cx K mg) : mg "_law_seats" = some (.ref (ga K "_law_seats")) := T.glo 12
theorem gl_whole (T : Cx K mg) : mg "whole" = some (.ref (ga K "whole")) := T.glo 13
theorem gl_distance (T : Cx K mg) : mg "distance" = some (.ref (ga K "distance")) := T.glo 14
theorem gl_block_of (T : Cx K mg) : mg "block_of" = some (.ref (ga K "block_of")) := T.glo 15
theorem gl_nearest (T : Cx K mg) : mg "nearest" = some (.ref (ga K "nearest")) := T.glo 16
theorem gl_fingers (T : Cx K mg) : mg "fingers" = some (.ref (ga K "fingers")) := T.glo 17
theorem gl_finger_table (T : Cx K mg) : mg "finger_table" = some (.ref (ga K "finger_table")) := T.glo 18
theorem gl_called_at (T : Cx K mg) : mg "called_at" = some (.ref (ga K "called_at")) := T.glo 19
theorem gl_l_setting (T : Cx K mg) : mg "_law_setting" = some (.ref (ga K "_law_setting")) := T.glo 20
theorem gl_l_table (T : Cx K mg) : mg "_law_table" = some (.ref (ga K "_law_table")) := T.glo 21
theorem gl_phase_of (T : Cx K mg) : mg "phase_of" = some (.ref (ga K "phase_of")) := T.glo 22
theorem gl_offset_of (T : Cx K mg) : mg "offset_of" = some (.ref (ga K "offset_of")) := T.glo 23
theorem gl_target (T : Cx K mg) : mg "target" = some (.ref (ga K "target")) := T.glo 24
theorem gl_plan_rounds (T : Cx K mg) : mg "plan_rounds" = some (.ref (ga K "plan_rounds")) := T.glo 25
theorem gl_l_beat (T : Cx K mg) : mg "_law_beat" = some (.ref (ga K "_law_beat")) := T.glo 26
theorem gl_l_phase (T : Cx K mg) : mg "_law_phase" = some (.ref (ga K "_law_phase")) := T.glo 27
theorem gl_l_same (T : Cx K mg) : mg "_law_same" = some (.ref (ga K "_law_same")) := T.glo 28
theorem gl_l_bent (T : Cx K mg) : mg "_law_bent" = some (.ref (ga K "_law_bent")) := T.glo 29
theorem gl_l_pairs (T : Cx K mg) : mg "_law_pairs" = some (.ref (ga K "_law_pairs")) := T.glo 30
theorem gl_l_calls (T : Cx K mg) : mg "_law_calls" = some (.ref (ga K "_law_calls")) := T.glo 31
theorem gl_l_plan (T : Cx K mg) : mg "_law_plan" = some (.ref (ga K "_law_plan")) := T.glo 32
theorem gl_law (T : Cx K mg) : mg "law" = some (.ref (ga K "law")) := T.glo 33
theorem gl_Setting (T : Cx K mg) : mg "Setting" = some (.ref (ga K "Setting")) := T.glo 34
theorem cl_Setting (T : Cx K mg) : Cls K (ga K "Setting") := T.cls 35
theorem mk_Setting (T : Cx K mg) : Mk K (ga K "Setting") (ma K (ga K "Setting") "__init__") := T.mkr 36
theorem na_Setting_bits (T : Cx K mg) : NoAttr K (ga K "Setting") "bits" := T.noat 37
theorem na_Setting_patience (T : Cx K mg) : NoAttr K (ga K "Setting") "patience" := T.noat 38
theorem na_Setting_room (T : Cx K mg) : NoAttr K (ga K "Setting") "room" := T.noat 39
theorem na_Setting_grace (T : Cx K mg) : NoAttr K (ga K "Setting") "grace" := T.noat 40
theorem na_Setting_helpers (T : Cx K mg) : NoAttr K (ga K "Setting") "helpers" := T.noat 41
end
abbrev purse (c : Addr) (at_ rest left mixed seed count : Int) : List (Key × V) := [(.inr "cells", .ref c), (.inr "at", .int at_), (.inr "rest", .int rest), (.inr "left", .int left), (.inr "mixed", .int mixed), (.inr "seed", .int seed), (.inr "count", .int count)]
theorem merge_purse (c : Addr) (a b d e f g : Int) : mergeK [] (purse c a b d e f g) = purse c a b d e f g := rfl
theorem put_count (c : Addr) (a b d e f g h : Int) : putK (purse c a b d e f g) (.inr "count") (.int h) = purse c a b d e f h := rfl
/-- the purse of draws: at p a dict, at c its cells -/
structure Purse (H : Hp) (p c : Addr) : Prop where
  ex : ∃ (ns : List Int) (at_ rest left mixed seed count : Int), H p = some (.dK (purse c at_ rest left mixed seed count)) ∧ H c = some (.lst (ns.map V.int)) ∧ 0 ≤ at_ ∧ ns.length ≤ 63
theorem Purse.kp {H H' : Hp} {p c : Addr} {ps : List Addr} (B : Purse H p c) (k : Kp ps H H') (n1 : p ∉ ps) (n2 : c ∉ ps) : Purse H' p c := by
  obtain ⟨ns, a, b, d, e, f, g, h1, h2, h3, h4⟩ := B
  exact ⟨ns, a, b, d, e, f, g, k _ _ h1 n1, k _ _ h2 n2, h3, h4⟩
theorem Purse.k0 {H H' : Hp} {p c : Addr} (B : Purse H p c) (k : Kp [] H H') : Purse H' p c := B.kp k (by simp) (by simp)
theorem Purse.off {H : Hp} {p c x : Addr} {xs : List V} (B : Purse H p c) (h : H x = some (.lst xs)) : x ≠ p := by
  obtain ⟨ns, a, b, d, e, f, g, h1, -⟩ := B
  exact ne_of h h1 (by intro z; cases z)
theorem Purse.offT {H : Hp} {p c x : Addr} {xs : List V} (B : Purse H p c) (h : H x = some (.tup xs)) : x ≠ p := by
  obtain ⟨ns, a, b, d, e, f, g, h1, -⟩ := B
  exact ne_of h h1 (by intro z; cases z)
theorem erase_perm : ∀ {us : List Int} {k : Nat} (h : k < us.length), (us[k] :: us.eraseIdx k).Perm us
  | x :: r, 0, _ => List.Perm.refl _
  | x :: r, k + 1, h => by
    have ih := erase_perm (us := r) (k := k) (by simpa using h)
    exact (List.Perm.swap x _ _).trans (ih.cons x)
theorem seqIx {i : Int} {n : Nat} (h0 : 0 ≤ i) (h1 : i < n) : seqIndex? i n = some i.toNat := by
  obtain ⟨j, rfl⟩ := Int.eq_ofNat_of_zero_le h0
  have e : ixN n (j : Int) = some j := by
    unfold ixN
    rw [if_pos (by omega), if_pos (by omega)]
    simp
  exact (ixN_seq e).1
theorem erase_map : ∀ {pl : List Int} {k : Nat}, (pl.map V.int).eraseIdx k = (pl.eraseIdx k).map V.int
  | [], _ => rfl
  | _ :: _, 0 => rfl
  | x :: r, k + 1 => by
    show V.int x :: (r.map V.int).eraseIdx k = V.int x :: (r.eraseIdx k).map V.int
    rw [erase_map]

/-- the numbers of a setting -/
structure Stg where
  bits : Int
  pat : Int
  room : Int
  grace : Int
  hel : Int
structure Stg.Ok (s : Stg) : Prop where
  b0 : 1 ≤ s.bits
  b1 : s.bits ≤ 8
  p0 : 1 ≤ s.pat
  p1 : s.pat ≤ 6
  r0 : 1 ≤ s.room
  r1 : s.room ≤ 64
  g0 : 1 ≤ s.grace
  g1 : s.grace ≤ 200
  h0 : 0 ≤ s.hel
  h1 : s.hel ≤ 3
@[irreducible] def Stg.ring (s : Stg) : Int := 2 ^ s.bits.toNat
theorem Stg.ring_eq (s : Stg) : s.ring = 2 ^ s.bits.toNat := by
  unfold Stg.ring
  rfl
def Stg.fs (s : Stg) : List (Str × V) := [(("bits" : Str), .int s.bits), (("patience" : Str), .int s.pat), (("room" : Str), .int s.room), (("grace" : Str), .int s.grace), (("helpers" : Str), .int s.hel)]
theorem Stg.Ok.ring {s : Stg} (h : s.Ok) : s.ring = 2 ∨ s.ring = 4 ∨ s.ring = 8 ∨ s.ring = 16 ∨ s.ring = 32 ∨ s.ring = 64 ∨ s.ring = 128 ∨ s.ring = 256 := by
  have h0 := h.b0
  have h1 := h.b1
  have e : s.bits = 1 ∨ s.bits = 2 ∨ s.bits = 3 ∨ s.bits = 4 ∨ s.bits = 5 ∨ s.bits = 6 ∨ s.bits = 7 ∨ s.bits = 8 := by omega
  rw [Stg.ring_eq]
  rcases e with e | e | e | e | e | e | e | e <;> rw [e] <;> decide
theorem Stg.Ok.r2 {s : Stg} (h : s.Ok) : 2 ≤ s.ring := by
  have := h.ring
  omega
theorem Stg.Ok.r256 {s : Stg} (h : s.Ok) : s.ring ≤ 256 := by
  have := h.ring
  omega
/-- a setting stands at p -/
structure SetAt (K : PySem.W.Frag) (H : Hp) (p : Addr) (s : Stg) : Prop where
  ex : ∃ dx : Addr, H p = some (.ins (ga K "Setting") dx s.fs)
  ok : s.Ok
theorem SetAt.kp {K : PySem.W.Frag} {H H' : Hp} {p : Addr} {s : Stg} {ps : List Addr} (S : SetAt K H p s) (k : Kp ps H H') (n : p ∉ ps) : SetAt K H' p s := by
  obtain ⟨⟨dx, h⟩, ok⟩ := S
  exact ⟨⟨dx, k _ _ h n⟩, ok⟩
theorem SetAt.k0 {K : PySem.W.Frag} {H H' : Hp} {p : Addr} {s : Stg} (S : SetAt K H p s) (k : Kp [] H H') : SetAt K H' p s := S.kp k (by simp)
theorem SetAt.k1 {K : PySem.W.Frag} {H H' : Hp} {p q : Addr} {s : Stg} (S : SetAt K H p s) (k : Kp [q] H H') (n : p ≠ q) : SetAt K H' p s := S.kp k (by simp [n])
theorem SetAt.kt {K : PySem.W.Frag} {H H' : Hp} {p : Addr} {s : Stg} {TT : List (Addr × Str)} (S : SetAt K H p s) (k : Kt TT [] H H') : SetAt K H' p s := by
  obtain ⟨⟨dx, h⟩, ok⟩ := S
  exact ⟨⟨dx, k.g0 (by intro _ z; cases z) h⟩, ok⟩
theorem SetAt.nelst {K : PySem.W.Frag} {H : Hp} {p q : Addr} {s : Stg} {xs : List V} (S : SetAt K H p s) (h : H q = some (.lst xs)) : p ≠ q := by
  obtain ⟨⟨dx, e⟩, ok⟩ := S
  exact ne_of e h (by intro z; cases z)

theorem SetAt.neins {K : PySem.W.Frag} {H : Hp} {p q C dx : Addr} {s : Stg} {f : Str} {v : V} {fs : List (Str × V)} (S : SetAt K H p s) (h : H q = some (.ins C dx ((f, v) :: fs))) (n : f ≠ "bits") : p ≠ q := by
  obtain ⟨⟨dx, e⟩, ok⟩ := S
  refine ne_of e h fun z => ?_
  injection z with _ _ e1
  injection e1 with e2 _
  injection e2 with e3
  exact n e3.symm
theorem SetAt.neins' {K : PySem.W.Frag} {H : Hp} {p q C dx : Addr} {s : Stg} (S : SetAt K H p s) (h : H q = some (.ins C dx [])) : p ≠ q := by
  obtain ⟨⟨dx, e⟩, ok⟩ := S
  refine ne_of e h fun z => ?_
  injection z with _ _ e1
  cases e1
theorem SetAt.nedK {K : PySem.W.Frag} {H : Hp} {p q : Addr} {s : Stg} {xs : List (Key × V)} (S : SetAt K H p s) (h : H q = some (.dK xs)) : p ≠ q := by
  obtain ⟨⟨dx, e⟩, ok⟩ := S
  exact ne_of e h (by intro z; cases z)
theorem con_MOST_BITS {K : PySem.W.Frag} {mg : Str → Option Value} (T : Cx K mg) : ∃ u, Con K (ga K "Setting") "MOST_BITS" (.int 8) u := conB_ok (v := .int 8) (ba T.ex).1
theorem con_MOST_PATIENCE {K : PySem.W.Frag} {mg : Str → Option Value} (T : Cx K mg) : ∃ u, Con K (ga K "Setting") "MOST_PATIENCE" (.int 6) u := conB_ok (v := .int 6) (ba (ba T.ex).2).1
theorem con_MOST_ROOM {K : PySem.W.Frag} {mg : Str → Option Value} (T : Cx K mg) : ∃ u, Con K (ga K "Setting") "MOST_ROOM" (.int 64) u := conB_ok (v := .int 64) (ba (ba (ba T.ex).2).2).1
theorem con_MOST_GRACE {K : PySem.W.Frag} {mg : Str → Option Value} (T : Cx K mg) : ∃ u, Con K (ga K "Setting") "MOST_GRACE" (.int 200) u := conB_ok (v := .int 200) (ba (ba (ba (ba T.ex).2).2).2).1
theorem con_MOST_HELPERS {K : PySem.W.Frag} {mg : Str → Option Value} (T : Cx K mg) : ∃ u, Con K (ga K "Setting") "MOST_HELPERS" (.int 3) u := conB_ok (v := .int 3) (ba (ba (ba (ba T.ex).2).2).2).2

theorem Purse.k1 {H H' : Hp} {p c q : Addr} (B : Purse H p c) (k : Kp [q] H H') (n1 : p ≠ q) (n2 : c ≠ q) : Purse H' p c := B.kp k (by simp [n1]) (by simp [n2])
theorem Purse.new {H : Hp} {p c q : Addr} {o : HO} (B : Purse H p c) (k : H q = none) : Purse (upd H q o) p c := B.k0 (Kp.new k)
theorem Purse.ne1 {H : Hp} {p c q : Addr} (B : Purse H p c) (k : H q = none) : p ≠ q := by
  obtain ⟨ns, a, b, d, e, f, g, h1, -⟩ := B
  exact ne_of_none h1 k
theorem Purse.ne2 {H : Hp} {p c q : Addr} (B : Purse H p c) (k : H q = none) : c ≠ q := by
  obtain ⟨ns, a, b, d, e, f, g, h1, h2, -⟩ := B
  exact ne_of_none h2 k
theorem Purse.at {H : Hp} {p c : Addr} (B : Purse H p c) : ∃ kvs, H p = some (.dK ((.inr "cells", .ref c) :: kvs)) := by
  obtain ⟨ns, a, b, d, e, f, g, h1, -⟩ := B
  exact ⟨_, h1⟩
theorem Purse.fr {H H' : Hp} {p c q : Addr} (B : Purse H' p c) (k : Kp [p] H H') (n : H' q = none) : H q = none := k.back n (by simpa using Ne.symm (B.ne1 n))
theorem Purse.dm {H : Hp} {p c q : Addr} {xs : List Int} {f : Int → V} (B : Purse H p c) (h : H q = some (.dK (dmap xs f))) : q ≠ p := by
  obtain ⟨kvs, h1⟩ := B.at
  refine ne_of h h1 fun z => ?_
  injection z with z
  cases xs with
  | nil => cases z
  | cons x r =>
    injection z with z _
    injection z with z _
    cases z
theorem Purse.lst {H : Hp} {p c q : Addr} {xs : List V} (B : Purse H p c) (h : H q = some (.lst xs)) : q ≠ p := B.off h
theorem SetAt.purse {K : PySem.W.Frag} {H : Hp} {p c q : Addr} {s : Stg} (S : SetAt K H q s) (B : Purse H p c) : q ≠ p := by
  obtain ⟨kvs, h1⟩ := B.at
  exact S.nedK h1
def Ring (r : Int) : Prop := r = 2 ∨ r = 4 ∨ r = 8 ∨ r = 16 ∨ r = 32 ∨ r = 64 ∨ r = 128 ∨ r = 256
theorem Ring.pos {r : Int} (hr : Ring r) : 0 < r := by
  rcases hr with rfl | rfl | rfl | rfl | rfl | rfl | rfl | rfl <;> omega
theorem Ring.le {r : Int} (hr : Ring r) : r ≤ 256 := by
  rcases hr with rfl | rfl | rfl | rfl | rfl | rfl | rfl | rfl <;> omega
theorem key_inj {r a b c : Int} (hr : Ring r) (a0 : 0 ≤ a) (a1 : a < r) (b0 : 0 ≤ b) (b1 : b < r) (h : (a - c) % r = (b - c) % r) : a = b := by
  rcases hr with rfl | rfl | rfl | rfl | rfl | rfl | rfl | rfl <;> omega
theorem key_walk {r c i : Int} (hr : Ring r) (i0 : 0 ≤ i) (i1 : i < r) : ((c + i) % r - c) % r = i := by
  rcases hr with rfl | rfl | rfl | rfl | rfl | rfl | rfl | rfl <;> omega
theorem key_to {r a c : Int} (hr : Ring r) (a0 : 0 ≤ a) (a1 : a < r) : (c + (a - c) % r) % r = a := by
  rcases hr with rfl | rfl | rfl | rfl | rfl | rfl | rfl | rfl <;> omega
theorem ring_pow {b : Int} (h0 : 1 ≤ b) (h1 : b ≤ 8) : Ring (2 ^ b.toNat) := by
  have e : b = 1 ∨ b = 2 ∨ b = 3 ∨ b = 4 ∨ b = 5 ∨ b = 6 ∨ b = 7 ∨ b = 8 := by omega
  unfold Ring
  rcases e with e | e | e | e | e | e | e | e <;> rw [e] <;> decide
/-! ### the nearest seat at an offset or beyond -/
def nearS (r seat off : Int) (p : Option Int × Int) (x : Int) : Option Int × Int := if off ≤ (x - seat) % r ∧ (x - seat) % r < p.2 then (some x, (x - seat) % r) else p
def nearF (r seat off : Int) (xs : List Int) : Option Int × Int := xs.foldl (nearS r seat off) (none, r)
def nearO (r seat off : Int) (xs : List Int) : Option Int := (nearF r seat off xs).1
theorem nearF_take {r seat off : Int} {xs : List Int} {i : Nat} (h : i < xs.length) : nearF r seat off (xs.take (i + 1)) = nearS r seat off (nearF r seat off (xs.take i)) xs[i] := by
  unfold nearF
  rw [List.take_succ_eq_append_getElem h, List.foldl_append]
  rfl
def NearR (r seat off : Int) (xs : List Int) (p : Option Int × Int) : Prop :=
  (p.1 = none ∧ p.2 = r ∧ ∀ z, z ∈ xs → (z - seat) % r < off) ∨ ∃ b, p.1 = some b ∧ b ∈ xs ∧ p.2 = (b - seat) % r ∧ off ≤ p.2 ∧ ∀ z, z ∈ xs → off ≤ (z - seat) % r → p.2 ≤ (z - seat) % r
theorem near_step {r seat off x : Int} {xs : List Int} {p : Option Int × Int} (rp : 0 < r) (h : NearR r seat off xs p) : NearR r seat off (xs ++ [x]) (nearS r seat off p x) := by
  have x1 := Int.emod_lt_of_pos (x - seat) rp
  unfold nearS
  split
  · rename_i hc
    refine .inr ⟨x, rfl, by simp, rfl, hc.1, fun z hz h1 => ?_⟩
    rcases List.mem_append.mp hz with hz | hz
    · rcases h with ⟨_, _, h3⟩ | ⟨b, _, _, _, _, h5⟩
      · have := h3 z hz
        omega
      · have := h5 z hz h1
        show (x - seat) % r ≤ _
        omega
    · rw [List.mem_singleton.mp hz]
      exact Int.le_refl _
  · rename_i hc
    rcases h with ⟨h1, h2, h3⟩ | ⟨b, h1, h2, h3, h4, h5⟩
    · refine .inl ⟨h1, h2, fun z hz => ?_⟩
      rcases List.mem_append.mp hz with hz | hz
      · exact h3 z hz
      · rw [List.mem_singleton.mp hz]
        omega
    · refine .inr ⟨b, h1, List.mem_append_left _ h2, h3, h4, fun z hz hh => ?_⟩
      rcases List.mem_append.mp hz with hz | hz
      · exact h5 z hz hh
      · rw [List.mem_singleton.mp hz] at hh ⊢
        omega
theorem near_rel {r seat off : Int} (rp : 0 < r) (xs : List Int) : NearR r seat off xs (nearF r seat off xs) := by
  have key : ∀ i, i ≤ xs.length → NearR r seat off (xs.take i) (nearF r seat off (xs.take i)) := fun i => by
    induction i with
    | zero => exact fun _ => .inl ⟨rfl, rfl, fun z hz => by cases hz⟩
    | succ i ih =>
      intro hi
      have hlt : i < xs.length := hi
      rw [nearF_take hlt, List.take_succ_eq_append_getElem hlt]
      exact near_step rp (ih (by omega))
  have h := key xs.length (Nat.le_refl _)
  rw [List.take_length] at h
  exact h
theorem near_none {r seat off : Int} {xs : List Int} (hr : Ring r) (hx : ∀ z, z ∈ xs → 0 ≤ z ∧ z < r) (h : ∀ w : Int, off ≤ w → w < r → (seat + w) % r ∉ xs) : nearO r seat off xs = none := by
  have rp := hr.pos
  rcases near_rel (seat := seat) (off := off) rp xs with ⟨h1, _, _⟩ | ⟨b, h1, h2, h3, h4, _⟩
  · exact h1
  · exfalso
    have b1 := hx b h2
    have k1 := Int.emod_lt_of_pos (b - seat) rp
    have := h ((b - seat) % r) (by omega) k1
    rw [key_to hr b1.1 b1.2] at this
    exact this h2
theorem near_some {r seat off w : Int} {xs : List Int} (hr : Ring r) (hx : ∀ z, z ∈ xs → 0 ≤ z ∧ z < r) (o1 : 0 ≤ off) (w0 : off ≤ w) (w1 : w < r) (hw : (seat + w) % r ∈ xs) (h : ∀ u : Int, off ≤ u → u < w → (seat + u) % r ∉ xs) : nearO r seat off xs = some ((seat + w) % r) := by
  have rp := hr.pos
  have kw := key_walk (c := seat) hr (show 0 ≤ w by omega) w1
  rcases near_rel (seat := seat) (off := off) rp xs with ⟨_, _, h3⟩ | ⟨b, h1, h2, h3, h4, h5⟩
  · have := h3 _ hw
    omega
  · have b1 := hx b h2
    have k1 := Int.emod_lt_of_pos (b - seat) rp
    have := h5 _ hw (by omega)
    have e : (b - seat) % r = w := by
      by_cases hlt : (b - seat) % r < w
      · exfalso
        have h6 := h ((b - seat) % r) (by omega) hlt
        rw [key_to hr b1.1 b1.2] at h6
        exact h6 h2
      · omega
    unfold nearO
    rw [h1]
    congr 1
    rw [← e]
    exact (key_to hr b1.1 b1.2).symm
theorem near_mem {r seat off b : Int} {xs : List Int} (rp : 0 < r) (h : nearO r seat off xs = some b) : b ∈ xs := by
  rcases near_rel (seat := seat) (off := off) rp xs with ⟨h1, _, _⟩ | ⟨c, h1, h2, _⟩
  · unfold nearO at h
    rw [h1] at h
    cases h
  · unfold nearO at h
    rw [h1] at h
    cases h
    exact h2
/-- the block of a beat -/
theorem block_eq {bits pat beat : Int} (b0 : 1 ≤ bits) (b1 : bits ≤ 8) (p0 : 1 ≤ pat) (p1 : pat ≤ 6) : beat % (bits * pat) / pat = (beat / pat) % bits := by
  have hb : bits = 1 ∨ bits = 2 ∨ bits = 3 ∨ bits = 4 ∨ bits = 5 ∨ bits = 6 ∨ bits = 7 ∨ bits = 8 := by omega
  have hp : pat = 1 ∨ pat = 2 ∨ pat = 3 ∨ pat = 4 ∨ pat = 5 ∨ pat = 6 := by omega
  rcases hb with rfl | rfl | rfl | rfl | rfl | rfl | rfl | rfl <;> rcases hp with rfl | rfl | rfl | rfl | rfl | rfl <;> omega
/-- the seat that a seat calls in a beat -/
def callO (bits pat : Int) (xs : List Int) (seat beat : Int) : Option Int := nearO (2 ^ bits.toNat) seat (2 ^ (bits - 1 - (beat / pat) % bits).toNat) xs
/-! ### fairness -/
def set2 (g : Int → Int → Int) (a b v : Int) : Int → Int → Int := fun x y => if x = a ∧ y = b then v else g x y
def runV (g : Int → Int → Int) (row : List Int) (x c : Int) : Int := if x ∈ row then g x c + 1 else 0
def seatF (goal : Int → Option Int) (pat : Int) (row : List Int) : List Int → (Int → Int → Int) → Option (Int → Int → Int)
  | [], g => some g
  | x :: r, g => match goal x with
    | none => seatF goal pat row r g
    | some c => if pat ≤ runV g row x c then none else seatF goal pat row r (set2 g x c (runV g row x c))
def rowsF (goal : Nat → Int → Option Int) (pat : Int) (xs : List Int) : List (List Int) → Nat → (Int → Int → Int) → Bool
  | [], _, _ => true
  | row :: rs, i, g => match seatF (goal i) pat row xs g with
    | none => false
    | some g' => rowsF goal pat xs rs (i + 1) g'
def fairB (bits pat : Int) (xs : List Int) (start : Int) (dl : Int → Int) (rows : List (List Int)) : Bool := rowsF (fun i x => callO bits pat xs x (start + i + dl x)) pat xs rows 0 (fun _ _ => 0)

/-- the fingers of a seat -/
def fingL (s : Stg) (seat : Int) (xs : List Int) : List (Option Int) := (List.range s.bits.toNat).map fun k => nearO s.ring seat (2 ^ (s.bits.toNat - 1 - k)) xs
theorem ring_half {b i : Nat} (h : i < b) : (2 : Int) ^ (b - i) / 2 = 2 ^ (b - 1 - i) := by
  have e : b - i = (b - 1 - i) + 1 := by omega
  rw [e, Int.pow_succ]
  exact Int.mul_ediv_cancel _ (by decide)
/-- a finger table stands at d -/
def TabAt (H : Hp) (d : Addr) (s : Stg) (xs : List Int) : Prop := ∃ f : Int → Addr, H d = some (.dK (dmap xs fun x => .ref (f x))) ∧ ∀ x, x ∈ xs → H (f x) = some (.lst ((fingL s x xs).map ov))
theorem TabAt.k0 {H H' : Hp} {d : Addr} {s : Stg} {xs : List Int} (h : TabAt H d s xs) (k : Kp [] H H') : TabAt H' d s xs := by
  obtain ⟨f, h1, h2⟩ := h
  exact ⟨f, k.g0 h1, fun x hx => k.g0 (h2 x hx)⟩
theorem Stg.Ok.ringP {s : Stg} (h : s.Ok) : Ring s.ring := h.ring
theorem paired_imp {α β : Type} {R S : α → β → Prop} (h : ∀ a b, R a b → S a b) : ∀ {xs : List α} {ys : List β}, Paired R xs ys → Paired S xs ys
  | _, _, .nil => .nil
  | _, _, .cons a r => .cons (h _ _ a) (paired_imp h r)
theorem paired_snoc {α β : Type} {R : α → β → Prop} {a : α} {b : β} (h : R a b) : ∀ {xs : List α} {ys : List β}, Paired R xs ys → Paired R (xs ++ [a]) (ys ++ [b])
  | _, _, .nil => .cons h .nil
  | _, _, .cons q r => .cons q (paired_snoc h r)
theorem paired_get {α β : Type} {R : α → β → Prop} : ∀ {xs : List α} {ys : List β}, Paired R xs ys → ∀ {i : Nat} {x : α}, xs[i]? = some x → ∃ y, ys[i]? = some y ∧ R x y
  | _, _, .nil, i, x, e => by simp at e
  | _, _, .cons q r, 0, x, e => by
    simp at e
    subst e
    exact ⟨_, rfl, q⟩
  | _, _, .cons q r, i + 1, x, e => by
    obtain ⟨y, h1, h2⟩ := paired_get r (i := i) (x := x) (by simpa using e)
    exact ⟨y, by simpa using h1, h2⟩
theorem paired_len {α β : Type} {R : α → β → Prop} {xs : List α} {ys : List β} (h : Paired R xs ys) : xs.length = ys.length := Paired.length h
theorem turn_pos {bits pat : Int} (b : 1 ≤ bits ∧ bits ≤ 8) (p : 1 ≤ pat ∧ pat ≤ 6) : 1 ≤ bits * pat ∧ bits * pat ≤ 48 := by
  have hb : bits = 1 ∨ bits = 2 ∨ bits = 3 ∨ bits = 4 ∨ bits = 5 ∨ bits = 6 ∨ bits = 7 ∨ bits = 8 := by omega
  rcases hb with rfl | rfl | rfl | rfl | rfl | rfl | rfl | rfl <;> omega
theorem dmap_some {f : Int → V} {a : Int} {xs : List Int} : (valV (dmap xs f) (.inl a)).isSome = decide (a ∈ xs) := by
  rw [dmap_val]
  by_cases h : a ∈ xs
  · rw [if_pos h, decide_eq_true h]
    rfl
  · rw [if_neg h, decide_eq_false h]
    rfl
theorem nd_take {xs : List Int} (nd : xs.Nodup) {i : Nat} (hi : i < xs.length) : xs[i] ∉ xs.take i := fun m => by
  obtain ⟨j, hj, e⟩ := List.mem_take_iff_getElem.mp m
  have := (List.getElem_inj nd).mp e
  omega
theorem paired_mem {α β : Type} {R : α → β → Prop} : ∀ {xs : List α} {ys : List β}, Paired R xs ys → ∀ {x : α}, x ∈ xs → ∃ y, y ∈ ys ∧ R x y
  | _, _, .cons q r, x, e => by
    rcases List.mem_cons.mp e with rfl | e
    · exact ⟨_, List.mem_cons_self, q⟩
    · obtain ⟨y, h1, h2⟩ := paired_mem r e
      exact ⟨y, List.mem_cons_of_mem _ h1, h2⟩
theorem paired_memimp {α β : Type} {R S : α → β → Prop} : ∀ {xs : List α} {ys : List β}, (∀ a b, a ∈ xs → R a b → S a b) → Paired R xs ys → Paired S xs ys
  | _, _, _, .nil => .nil
  | _, _, h, .cons q r => .cons (h _ _ List.mem_cons_self q) (paired_memimp (fun a b m => h a b (List.mem_cons_of_mem _ m)) r)
theorem SetAt.kpp {K : PySem.W.Frag} {H H' : Hp} {S p c : Addr} {s : Stg} (S6 : SetAt K H S s) (B : Purse H p c) (k : Kp [p] H H') : SetAt K H' S s := by
  obtain ⟨⟨d, hS⟩, ok⟩ := S6
  obtain ⟨kvs, hp⟩ := B.at
  exact ⟨⟨d, k.g1 (ne_of hS hp (by intro z; cases z)) hS⟩, ok⟩

/-- the law's own table: for each phase a dict from each caller to whom it calls -/
def TabG (H : Hp) (tb : Addr) (bits : Int) (xs ys : List Int) : Prop := ∃ f : Nat → Addr, H tb = some (.lst ((List.range bits.toNat).map fun k => V.ref (f k))) ∧ ∀ k, k < bits.toNat → H (f k) = some (.dK (dmap ys fun x => ov (nearO (2 ^ bits.toNat) x (2 ^ k) xs)))
theorem TabG.k0 {H H' : Hp} {tb : Addr} {bits : Int} {xs ys : List Int} (h : TabG H tb bits xs ys) (k : Kp [] H H') : TabG H' tb bits xs ys := by
  obtain ⟨f, f1, f2⟩ := h
  exact ⟨f, k.g0 f1, fun i hi => k.g0 (f2 i hi)⟩
theorem TabG.at {H : Hp} {tb : Addr} {bits ph : Int} {xs ys : List Int} (h : TabG H tb bits xs ys) (p0 : 0 ≤ ph) (p1 : ph < bits) : ∃ (l : List V) (ln : Addr), H tb = some (.lst l) ∧ atI l ph = some (.ref ln) ∧ H ln = some (.dK (dmap ys fun x => ov (nearO (2 ^ bits.toNat) x (2 ^ ph.toNat) xs))) := by
  obtain ⟨f, f1, f2⟩ := h
  obtain ⟨j, rfl⟩ := Int.eq_ofNat_of_zero_le p0
  refine ⟨_, f j, f1, atI_nat ?_, f2 j (by omega)⟩
  rw [List.getElem?_map, List.getElem?_range (by omega)]
  rfl
theorem ph_yes {pat i : Int} (p0 : 1 ≤ pat) (p1 : pat ≤ 6) (h : (i + 1) % pat = 0) : (i + 1) / pat = i / pat + 1 := by
  have e : pat = 1 ∨ pat = 2 ∨ pat = 3 ∨ pat = 4 ∨ pat = 5 ∨ pat = 6 := by omega
  rcases e with rfl | rfl | rfl | rfl | rfl | rfl <;> omega
theorem ph_no {pat i : Int} (p0 : 1 ≤ pat) (p1 : pat ≤ 6) (h : ¬ (i + 1) % pat = 0) : (i + 1) / pat = i / pat := by
  have e : pat = 1 ∨ pat = 2 ∨ pat = 3 ∨ pat = 4 ∨ pat = 5 ∨ pat = 6 := by omega
  rcases e with rfl | rfl | rfl | rfl | rfl | rfl <;> omega
theorem seats_len {xs : List Int} {r : Int} (nd : xs.Nodup) (hx : ∀ z, z ∈ xs → 0 ≤ z ∧ z < r) : xs.length ≤ r.toNat := by
  have h := List.Nodup.length_le_of_subset (l₂ := (List.range r.toNat).map Int.ofNat) nd (fun z hz => by
    obtain ⟨h1, h2⟩ := hx z hz
    exact List.mem_map.mpr ⟨z.toNat, List.mem_range.mpr (by omega), by show ((z.toNat : Nat) : Int) = z; omega⟩)
  rw [List.length_map, List.length_range] at h
  exact h
theorem spare_pos {xs : List Int} {r : Int} (h : (xs.length : Int) < r) : 1 ≤ ((List.range r.toNat).filter fun i : Nat => !decide ((i : Int) ∈ xs)).length := by
  cases e : (List.range r.toNat).filter fun i : Nat => !decide ((i : Int) ∈ xs) with
  | cons a l => simp
  | nil =>
    exfalso
    have h1 : ∀ i, i < r.toNat → (i : Int) ∈ xs := fun i hi => by
      have := List.filter_eq_nil_iff.mp e i (List.mem_range.mpr hi)
      simpa using this
    have h2 := List.Nodup.length_le_of_subset (l₁ := (List.range r.toNat).map Int.ofNat) (l₂ := xs) (List.pairwise_map.mpr (List.Pairwise.imp (fun {a b} h z => h (by injection z)) List.nodup_range)) (fun z hz => by
      obtain ⟨i, hi, rfl⟩ := List.mem_map.mp hz
      exact h1 i (List.mem_range.mp hi))
    rw [List.length_map, List.length_range] at h2
    omega
def PrAt (H : Hp) (t : Addr) (q : Int × Int) : Prop := H t = some (.tup [.int q.1, .int q.2])
def RowP (H : Hp) (l : Addr) (row : List (Int × Int)) : Prop := ∃ ts : List Addr, H l = some (.lst (ts.map V.ref)) ∧ Paired (PrAt H) ts row
theorem RowP.k0 {H H' : Hp} {l : Addr} {row : List (Int × Int)} (h : RowP H l row) (k : Kp [] H H') : RowP H' l row := by
  obtain ⟨ts, h1, h2⟩ := h
  exact ⟨ts, k.g0 h1, paired_imp (R := PrAt H) (S := PrAt H') (fun _ _ e => k.g0 e) h2⟩
def planRow (bits pat : Int) (xs os : List Int) (beat : Int) : List (Int × Int) := os.filterMap fun x => (callO bits pat xs x beat).map fun c => (x, c)
theorem planRow_take {bits pat beat : Int} {xs os : List Int} {j : Nat} (h : j < os.length) : planRow bits pat xs (os.take (j + 1)) beat = planRow bits pat xs (os.take j) beat ++ (match callO bits pat xs os[j] beat with | none => [] | some c => [(os[j], c)]) := by
  unfold planRow
  rw [List.take_succ_eq_append_getElem h, List.filterMap_append]
  congr 1
  simp only [List.filterMap_cons, List.filterMap_nil]
  cases callO bits pat xs os[j] beat <;> rfl
theorem planRow_len {bits pat beat : Int} {xs os : List Int} : (planRow bits pat xs os beat).length ≤ os.length := List.length_filterMap_le _ _

local macro_rules | `(tactic| wtm_at "look") => `(tactic| fail "no rule")
local macro_rules | `(tactic| wtm_at "ne") => `(tactic| first
  | with_reducible assumption
  | ((with_reducible refine' Ne.symm ?h); (case h => with_reducible assumption))
  | ((with_reducible refine' ne_fresh ?n); (case n => with_reducible assumption))
  | ((with_reducible refine' Ne.symm (ne_fresh ?n)); (case n => with_reducible assumption))
  | ((refine' ne_of_none ?h ?n); (case n => with_reducible assumption); (case h => wtm_at "hp"))
  | ((refine' Ne.symm (ne_of_none ?h ?n)); (case n => with_reducible assumption); (case h => wtm_at "hp"))
  | fail "no rule")
local macro_rules | `(tactic| wtm_at "hp") => `(tactic| first
  | with_reducible assumption
  | with_reducible exact upd_same
  | ((with_reducible refine' upd_is ?e); (case e => exact rfl))
  | ((with_reducible refine' hu_ne ?n ?e); (case n => wtm_at "ne"); (case e => wtm_at "hp"))
  | ((with_reducible refine' Kp.g0 ?k ?e); (case k => with_reducible assumption); (case e => wtm_at "hp"))
  | ((with_reducible refine' Kp.g1 ?k ?n ?e); (case k => with_reducible assumption); (case n => wtm_at "ne"); (case e => wtm_at "hp"))
  | ((with_reducible refine' Kp.g2 ?k ?n ?m ?e); (case k => with_reducible assumption); (case n => wtm_at "ne"); (case m => wtm_at "ne"); (case e => wtm_at "hp"))
  | ((with_reducible refine' Kp.g3 ?k ?n ?m ?l ?e); (case k => with_reducible assumption); (case n => wtm_at "ne"); (case m => wtm_at "ne"); (case l => wtm_at "ne"); (case e => wtm_at "hp"))
  | fail "no rule")
local macro_rules | `(tactic| wtm_at "sq") => `(tactic| first
  | with_reducible assumption
  | wtm_at "sqx"
  | ((refine' SqL.of ?e); (case e => wtm_at "hp"))
  | ((refine' SqT.of ?e); (case e => wtm_at "hp"))
  | fail "no rule")
local macro_rules | `(tactic| wtm_at "at") => `(tactic| first
  | exact rfl
  | assumption
  | ((refine' atI_ints ?a ?b); (case a => omega); (case b => omega))
  | fail "no rule")
local macro_rules | `(tactic| wtm_at "cc") => `(tactic| first
  | with_reducible assumption
  | omega
  | exact rfl
  | decide
  | ((refine' ⟨?a, ?b⟩); (case a => omega); (case b => omega))
  | ((refine' Or.inr ⟨?a, ?b⟩); (case a => omega); (case b => omega))
  | ((refine' Or.inl ⟨?a, ?b⟩); (case a => omega); (case b => omega))
  | ((refine' ⟨?a, ?b, ?c⟩); (case a => first | omega | decide | fail "num"); (case b => first | omega | decide | fail "num"); (case c => first | omega | decide | fail "num"))
  | fail "no rule")
local macro_rules | `(tactic| wtm_at "sz") => `(tactic| first
  | assumption
  | ((refine' szlt ?h); (case h => (simp; omega)))
  | ((refine' szlt ?h); (case h => omega))
  | ((refine' szlt ?h); (case h => exact Nat.le_of_ble_eq_true rfl))
  | ((refine' sz1000 ?h); (case h => (simp; done)))
  | ((refine' sz1000 ?h); (case h => omega))
  | fail "no rule")
local macro_rules | `(tactic| wtm_at "dg") => `(tactic| first
  | ((refine' dg_is ?a ?b); (case a => wtm_at "hp"); (case b => wtm_at "hp"))
  | ((refine' dg_i ?a); (case a => wtm_at "hp"))
  | ((refine' dg_s ?a); (case a => wtm_at "hp"))
  | fail "no rule")
local macro_rules | `(tactic| wtm_at "dgv") => `(tactic| first
  | ((refine' dg_sv ?a ?b); (case a => wtm_at "hp"); (case b => first | assumption | wtm_at "look" | exact rfl | fail "look"))
  | ((refine' dg_iv ?a ?b); (case a => wtm_at "hp"); (case b => first | assumption | wtm_at "look" | exact rfl | fail "look"))
  | fail "no rule")
local macro_rules | `(tactic| wtm_at "dp") => `(tactic| first
  | ((refine' dp_is ?a ?b ?c); (case a => wtm_at "hp"); (case b => wtm_at "hp"); (case c => wtm_at "sz"))
  | ((refine' dp_i ?a ?c); (case a => wtm_at "hp"); (case c => wtm_at "sz"))
  | ((refine' dp_s ?a ?c); (case a => wtm_at "hp"); (case c => wtm_at "sz"))
  | fail "no rule")
local macro_rules | `(tactic| wtm_at "rd1") => `(tactic| first
  | with_reducible refine' rd_seq ?_
  | with_reducible refine' rd_asg ?_
  | ((with_reducible refine' rd_var ?e ?_); (case e => exact rfl))
  | with_reducible refine' rd_c ?_
  | with_reducible refine' rd_op ?_
  | with_reducible refine' rd_gname ?_
  | with_reducible refine' rd_CB ?_
  | with_reducible refine' rd_cons ?_
  | with_reducible refine' rd_nil ?_
  | with_reducible refine' rd_ret ?_
  | with_reducible refine' rd_drop ?_
  | with_reducible refine' rd_ifS ?_
  | with_reducible refine' rd_test ?_
  | with_reducible refine' rd_exb ?_
  | with_reducible refine' rd_call ?_
  | with_reducible refine' rd_I0 ?_
  | ((with_reducible refine' rd_I ?c ?_); (case c => wtm_at "cc"))
  | ((with_reducible refine' rd_ixL ?h ?a ?_); (case h => wtm_at "sq"); (case a => wtm_at "at"))
  | ((with_reducible refine' rd_ixT ?h ?a ?_); (case h => wtm_at "sq"); (case a => wtm_at "at"))
  | with_reducible refine' rd_int1 ?_
  | with_reducible refine' rd_abs ?_
  | ((with_reducible refine' rd_lenI ?h ?_); (case h => wtm_at "sq"))
  | ((with_reducible refine' rd_lenL ?h ?_); (case h => wtm_at "sq"))
  | ((with_reducible refine' rd_lenT ?h ?_); (case h => wtm_at "sq"))
  | with_reducible refine' rd_eqI ?_
  | with_reducible refine' rd_neI ?_
  | with_reducible refine' rd_eqS ?_
  | with_reducible refine' rd_neS ?_
  | with_reducible refine' rd_eqB ?_
  | with_reducible refine' rd_neB ?_
  | with_reducible refine' rd_and ?_
  | with_reducible refine' rd_or ?_
  | with_reducible refine' rd_not ?_
  | with_reducible refine' rd_tB ?_
  | with_reducible refine' rd_gsub ?_
  | ((with_reducible refine' rd_setL ?h ?j ?_); (case h => wtm_at "hp"); (case j => exact rfl))
  | with_reducible refine' rd_next ?_
  | with_reducible refine' rd_un ?_
  | with_reducible refine' rd_U ?_
  | with_reducible refine' rd_tup ?_
  | with_reducible refine' rd_lst ?_
  | with_reducible refine' rd_bm ?_
  | with_reducible refine' rd_bm0 ?_
  | with_reducible refine' rd_meth ?_
  | with_reducible refine' rd_make ?_
  | with_reducible refine' rd_iTup ?_
  | ((with_reducible refine' rd_iTupX ?h ?_); (case h => wtm_at "sq"))
  | with_reducible refine' rd_for ?_
  | with_reducible refine' rd_iList ?_
  | ((with_reducible refine' rd_iListX ?h ?_); (case h => wtm_at "sq"))
  | with_reducible refine' rd_iRng1 ?_
  | ((with_reducible refine' rd_iRng1X ?h1 ?h2 ?_); (case h1 => wtm_at "cc"); (case h2 => wtm_at "cc"))
  | ((with_reducible refine' rd_iRng2X ?h1 ?_); (case h1 => ((refine' ⟨?a, ?b, ?c, ?d⟩); (case a => omega); (case b => omega); (case c => omega); (case d => omega))))
  | with_reducible refine' rd_iRng2 ?_
  | with_reducible refine' rd_lc ?_
  | with_reducible refine' rd_yes ?_
  | with_reducible refine' rd_andV ?_
  | with_reducible refine' rd_orV ?_
  | with_reducible refine' rd_notV ?_
  | with_reducible refine' rd_ifE ?_
  | with_reducible refine' rd_isN ?_
  | with_reducible refine' rd_notN ?_
  | with_reducible refine' rd_min2 ?_
  | with_reducible refine' rd_max2 ?_
  | with_reducible refine' rd_retN ?_
  | with_reducible refine' rd_brk ?_
  | with_reducible refine' rd_cont ?_
  | with_reducible refine' rd_tfld ?_
  | ((with_reducible refine' rd_fldX ?h ?c ?n ?l ?_); (case h => wtm_at "hp"); (case c => wtm_at "cls"); (case n => wtm_at "noat"); (case l => exact rfl))
  | with_reducible refine' rd_sfld ?_
  | ((with_reducible refine' rd_sfldX ?h ?c ?n ?l ?_); (case h => wtm_at "hp"); (case c => wtm_at "cls"); (case n => wtm_at "noat"); (case l => first | decide | exact Nat.le_of_ble_eq_true rfl | fail "len"))
  | with_reducible refine' rd_tcon ?_
  | ((with_reducible refine' rd_conX ?h ?c ?n ?l ?_); (case h => wtm_at "hp"); (case c => wtm_at "cls"); (case n => wtm_at "con"); (case l => exact rfl))
  | ((with_reducible refine' rd_methX ?h ?l ?_); (case h => wtm_at "hp"); (case l => exact rfl))
  | with_reducible refine' rd_isi_ii ?_
  | with_reducible refine' rd_isi_ib ?_
  | with_reducible refine' rd_isi_bb ?_
  | with_reducible refine' rd_isi_bi ?_
  | with_reducible refine' rd_isi_ss ?_
  | ((with_reducible refine' rd_isi_ll ?h ?_); (case h => wtm_at "hp"))
  | ((with_reducible refine' rd_isi_tt ?h ?_); (case h => wtm_at "hp"))
  | with_reducible refine' iteT ?_
  | with_reducible refine' iteF ?_
  | with_reducible refine' ite_nt ?_
  | with_reducible refine' ite_nf ?_
  | with_reducible refine' ite_in ?_
  | with_reducible refine' ite_rn ?_
  | with_reducible refine' ite_sn ?_
  | with_reducible refine' ite_bn ?_
  | with_reducible refine' ite_nn ?_
  | with_reducible refine' ite_xin ?_
  | with_reducible refine' ite_xrn ?_
  | with_reducible refine' ite_xnn ?_
  | with_reducible refine' rd_dget2 ?_
  | ((with_reducible refine' rd_isdX ?h ?_); (case h => first | ((refine' isD_T ?e); (case e => wtm_at "hp")) | ((refine' isD_K ?e); (case e => wtm_at "hp"))))
  | ((with_reducible refine' rd_dgX ?h ?_); (case h => wtm_at "dg"))
  | with_reducible refine' rd_sdput ?_
  | ((with_reducible refine' rd_dpX ?h ?_); (case h => wtm_at "dp"))
  | ((with_reducible refine' ty_l ?h ?_); (case h => wtm_at "sq"))
  | ((with_reducible refine' ty_d ?h ?_); (case h => wtm_at "hp"))
  | ((with_reducible refine' ty_dK ?h ?_); (case h => wtm_at "hp"))
  | ((with_reducible refine' rd_append ?h ?l ?_); (case h => wtm_at "hp"); (case l => wtm_at "sz"))
  | with_reducible refine' rd_lstRg ?_
  | with_reducible refine' rd_rg1 ?_
  | with_reducible refine' rd_rg2 ?_
  | with_reducible refine' rd_inX ?_
  | with_reducible refine' rd_inX2 ?_
  | ((with_reducible refine' rd_listL ?h ?_); (case h => wtm_at "sq"))
  | ((with_reducible refine' rd_gtup ?h ?l ?_); (case h => wtm_at "sq"); (case l => exact rfl))
  | with_reducible refine' rd_gcons ?_
  | with_reducible refine' rd_gnil ?_
  | with_reducible refine' rd_din ?_
  | with_reducible refine' rd_dnotin ?_
  | with_reducible refine' rd_dget ?_
  | with_reducible refine' rd_dget1 ?_
  | ((with_reducible refine' rd_dinX ?h ?_); (case h => wtm_at "dg"))
  | ((with_reducible refine' rd_dgetX ?h ?_); (case h => wtm_at "dgv"))
  | with_reducible refine' rd_pnil ?_
  | with_reducible refine' rd_pcons ?_
  | with_reducible refine' rd_sl ?_
  | with_reducible refine' rd_part ?_
  | with_reducible refine' rd_nopart ?_
  | ((with_reducible refine' rd_slL ?h ?_); (case h => wtm_at "sq"))
  | ((with_reducible refine' rd_clear ?h ?_); (case h => wtm_at "hp"))
  | ((with_reducible refine' rd_aug ?e ?_); (case e => exact rfl))
  | with_reducible refine' rd_ipI ?_
  | ((with_reducible refine' rd_inI ?h ?_); (case h => wtm_at "sq"))
  | ((with_reducible refine' rd_notInI ?h ?_); (case h => wtm_at "sq"))
  | ((with_reducible refine' rd_lenD ?h ?_); (case h => wtm_at "hp"))
  | with_reducible refine' rd_iEnum ?_
  | ((with_reducible refine' rd_iEnumX ?h ?_); (case h => wtm_at "sq"))
  | ((with_reducible refine' rd_eqLI ?h1 ?h2 ?_); (case h1 => wtm_at "sq"); (case h2 => wtm_at "sq"))
  | ((with_reducible refine' rd_neLI ?h1 ?h2 ?_); (case h1 => wtm_at "sq"); (case h2 => wtm_at "sq"))
  | fail "no rule")
local macro_rules | `(tactic| wtm_at "rd") => `(tactic| repeat wtm_at "rd1")
local macro_rules | `(tactic| wtm_at "hn") => `(tactic| first
  | with_reducible assumption
  | ((with_reducible refine' hn_ne ?n ?e); (case n => wtm_at "ne"); (case e => wtm_at "hn"))
  | ((refine' Kp.back ?k ?e ?n); (case k => with_reducible assumption); (case e => with_reducible assumption); (case n => first | with_reducible assumption | (simp; done) | fail "mem"))
  | fail "no rule")
local macro_rules | `(tactic| wtm_at "kp") => `(tactic| first
  | exact Kp.refl
  | with_reducible assumption
  | ((with_reducible refine' Kp.of0 ?k); (case k => with_reducible assumption))
  | ((with_reducible refine' Kp.wr ?a ?h); (case h => (simp; done)); (case a => wtm_at "kp"))
  | ((with_reducible refine' Kp.nw ?a ?h); (case h => wtm_at "hn"); (case a => wtm_at "kp"))
  | ((with_reducible refine' Kp.mine ?a ?h); (case h => wtm_at "hn"); (case a => wtm_at "kp"))
  | ((with_reducible refine' Kp.via1 ?a ?b ?n); (case b => with_reducible assumption); (case n => wtm_at "hn"); (case a => wtm_at "kp"))
  | ((with_reducible refine' Kp.trans ?a ?b); (case b => first | with_reducible assumption | ((with_reducible refine' Kp.of0 ?k); (case k => with_reducible assumption)) | fail "kp"); (case a => wtm_at "kp"))
  | fail "no rule")
local macro_rules | `(tactic| wtm_at "rd1") => `(tactic| first
  | with_reducible refine' rd_prop ?_
  | ((with_reducible refine' rd_propX ?h ?_); (case h => wtm_at "hp"))
  | with_reducible refine' rd_revL ?_
  | ((with_reducible refine' rd_revLX ?h ?_); (case h => wtm_at "sq"))
  | with_reducible refine' rd_makeK ?_
  | with_reducible refine' rd_sortKey ?_
  | with_reducible refine' rd_sfldaug ?_
  | ((with_reducible refine' rd_sfldaugX ?h ?c ?n ?l ?_); (case h => wtm_at "hp"); (case c => wtm_at "cls"); (case n => wtm_at "noat"); (case l => exact rfl))
  | ((with_reducible refine' rd_insX ?h ?l ?_); (case h => wtm_at "hp"); (case l => first | decide | exact Nat.le_of_ble_eq_true rfl | fail "len"))
  | with_reducible refine' rd_addI ?_
  | with_reducible refine' rd_subI ?_
  | with_reducible refine' rd_disp ?_
  | with_reducible refine' rd_dc ?_
  | ((with_reducible refine' rd_dictD ?h ?_); (case h => wtm_at "hp"))
  | with_reducible refine' rd_minKey ?_
  | fail "no rule")
local macro_rules | `(tactic| wtm_at "hp") => `(tactic| first
  | ((with_reducible refine' Kt.g0 ?k ?n ?e); (case k => with_reducible assumption); (case n => (intro _ z; cases z)); (case e => wtm_at "hp"))
  | ((with_reducible refine' Kt.g1 ?k ?n ?m ?e); (case k => with_reducible assumption); (case n => (intro _ z; cases z)); (case m => wtm_at "ne"); (case e => wtm_at "hp"))
  | fail "no rule")
local macro_rules | `(tactic| wtm_at "cc") => `(tactic| first
  | ((refine' wide60 ?a ?b); (case a => omega); (case b => omega))
  | fail "no rule")
local macro_rules | `(tactic| wtm_at "kt") => `(tactic| first
  | with_reducible assumption
  | ((with_reducible refine' Kt.of0 ?k); (case k => with_reducible assumption))
  | ((with_reducible refine' Kt.wr ?a ?h ?e ?w); (case h => (simp; done)); (case e => wtm_at "hp"); (case w => exact trivial); (case a => wtm_at "kt"))
  | ((with_reducible refine' Kt.nw ?a ?e); (case e => wtm_at "hn"); (case a => wtm_at "kt"))
  | fail "no rule")
local macro_rules | `(tactic| wtm_at "dgv") => `(tactic| first
  | ((refine' dg_sl ?a ?b); (case a => wtm_at "hp"); (case b => exact rfl))
  | fail "no rule")
local macro_rules | `(tactic| wtm_at "dg") => `(tactic| first
  | ((refine' dg_ii ?a ?b); (case a => wtm_at "hp"); (case b => wtm_at "hp"))
  | fail "no rule")
local macro_rules | `(tactic| wtm_at "dp") => `(tactic| first
  | ((refine' dp_ii ?a ?b ?c); (case a => wtm_at "hp"); (case b => wtm_at "hp"); (case c => wtm_at "sz"))
  | fail "no rule")

local macro_rules | `(tactic| wtm_at "sqx") => `(tactic| fail "no rule")
local macro_rules | `(tactic| wtm_at "con") => `(tactic| first | exact con_MOST_BITS (by assumption) | exact con_MOST_PATIENCE (by assumption) | exact con_MOST_ROOM (by assumption) | exact con_MOST_GRACE (by assumption) | exact con_MOST_HELPERS (by assumption))
local macro_rules | `(tactic| wtm_at "cls") => `(tactic| first | exact cl_Setting (by assumption))
local macro_rules | `(tactic| wtm_at "noat") => `(tactic| first | exact na_Setting_bits (by assumption) | exact na_Setting_patience (by assumption) | exact na_Setting_room (by assumption) | exact na_Setting_grace (by assumption) | exact na_Setting_helpers (by assumption))
section
variable {P : Program} {w : World} {K : PySem.W.Frag} {mg : Str → Option Value} {base : Heap}
def sp_l_purse (K : PySem.W.Frag) : Sp := fun vs H Q E => ∃ (a : Addr) (ns : List Int), vs = [.ref a] ∧ (SqL K H a (ns.map V.int)) ∧ (ns.length ≤ 63) ∧ (∀ p c H1, Purse H1 p c → Kp [] H H1 → H p = none → H c = none → Q (.ref p) H1)
theorem us_l_purse {K : PySem.W.Frag} {H : Hp} {Q : VK} {E : XK} {a : Addr} {ns : List Int} (hS : SqL K H a (ns.map V.int)) (hl : ns.length ≤ 63) (kk : ∀ p c H1, Purse H1 p c → Kp [] H H1 → H p = none → H c = none → Q (.ref p) H1) : sp_l_purse K [.ref a] H Q E := ⟨_, _, rfl, hS, hl, kk⟩
theorem f_l_purse (T : Cx K mg) (B : Tb K mg base) : ∃ fd, FunD K "_law_purse" "_law_purse" (defArgs s_l_purse) (defBody s_l_purse) (defScope s_l_purse) (d_l_purse.dvs K) (d_l_purse.kws K) (fAd K d_l_purse.at_) fd ∧ FnOk P w K mg base CX0 1 (fAd K d_l_purse.at_) fd p_l_purse (sp_l_purse K) := by
  obtain ⟨fd, F⟩ := T.says.def_ 0 (d := d_l_purse) rfl
  refine ⟨fd, F, fnD F sc_l_purse (fun vs H Q E h => by
    obtain ⟨_, _, rfl, _⟩ := h
    rfl) fun cdv A outer s H vs Q E hr h => ?_⟩
  have hu := hu_of hr
  obtain ⟨a, ns, rfl, hS, hl, kk⟩ := h
  refine ⟨_, (pss_cons (ps_set (i := 1) sc_l_purse.nd rfl (by first | exact Or.inl rfl | exact Or.inr rfl) (pe_slice sl_list (pv 0) po_none (po_some pe_int))) (pss_cons (ps_set (i := 2) sc_l_purse.nd rfl (by first | exact Or.inl rfl | exact Or.inr rfl) pe_int) (pss_cons (ps_for PassesOwn.never rfl (pi_list (pv 1)) (pg_name (i := 3) sc_l_purse.nd rfl (by first | exact Or.inl rfl | exact Or.inr rfl)) (pss_one (ps_set (i := 2) sc_l_purse.nd rfl (by first | exact Or.inl rfl | exact Or.inr rfl) (pe_op op_mod (pe_callTy call_int1' (by rfl) (fr_int T) (by decide +kernel) (pa_cons (pe_op op_add (pe_op op_add (pe_op op_mul (pv 2) pe_int) (pe_op op_mod (pe_callTy call_int1' (by rfl) (fr_int T) (by decide +kernel) (pa_cons (pv 3) pa_nil)) pe_int)) pe_int) pa_nil)) pe_int)))) (pss_one (ps_ret (pe_disp (pps_cons pe_str (pv 1) (pps_cons pe_str pe_int (pps_cons pe_str pe_int (pps_cons pe_str pe_int (pps_cons pe_str pe_int (pps_cons pe_str (pv 2) (pps_cons pe_str pe_int pps_nil))))))) (by rfl) (by rfl) (fun z => by cases z) (by decide))))))), ?_⟩
  rw [show L2.start n_l_purse [.ref a] = [some (.ref a), none, none, none] from rfl]
  try dsimp only [cxOf, Cx.nox, Cx.wish, List.map]

  wtm_at "rd"
  intro c nc
  have e : cutV (ns.map V.int) none (some 63) = ns.map V.int := by
    rw [show (63 : Int) = ((63 : Nat) : Int) from rfl, cut_to, List.take_of_length_le (by rw [List.length_map]; exact hl)]
  rw [e]
  wtm_at "rd"
  refine forL_ints ns (fun i σ H1 => (∃ s v3, σ = [some (.ref a), some (.ref c), some (.int s), v3]) ∧ H1 = upd H c (.lst (ns.map V.int))) ⟨⟨_, _, rfl⟩, rfl⟩ (fun i σ H1 _ q => ?_) ?_ ?_
  · rw [q.2]
    exact SqL.of upd_same
  · rintro i hi σ H1 ⟨⟨s, v3, rfl⟩, rfl⟩
    wtm_at "rd"
    exact ⟨⟨_, _, rfl⟩, rfl⟩
  · rintro σ H1 ⟨⟨s, v3, rfl⟩, rfl⟩
    wtm_at "rd"
    refine rd_disp fun p np => ?_
    wtm_at "rd"
    refine ⟨upd_same, purse c 0 0 0 0 s 0, rfl, Nat.le_of_ble_eq_true rfl, ?_⟩
    rw [merge_purse]
    have np' : H p = none := Kp.back (Kp.new (ps := []) nc) np (by simp)
    have ncp : c ≠ p := ne_of_none upd_same np
    have u1 : upd (upd (upd H c (.lst (ns.map V.int))) p (.dK [])) p (.dK (purse c 0 0 0 0 s 0)) p = some (.dK (purse c 0 0 0 0 s 0)) := upd_same
    have u2 : upd (upd (upd H c (.lst (ns.map V.int))) p (.dK [])) p (.dK (purse c 0 0 0 0 s 0)) c = some (.lst (ns.map V.int)) := hu_ne ncp (hu_ne ncp upd_same)
    have u3 : Kp [] H (upd (upd (upd H c (.lst (ns.map V.int))) p (.dK [])) p (.dK (purse c 0 0 0 0 s 0))) := ((Kp.new nc).nw np).mine np'
    exact kk p c _ ⟨ns, 0, 0, 0, 0, s, 0, u1, u2, by decide, hl⟩ u3 np' nc
theorem c_l_purse (T : Cx K mg) (B : Tb K mg base) : CalX P w K mg base CX0 1 "_law_purse" (sp_l_purse K) [] := by
  obtain ⟨fd, F, ok⟩ := f_l_purse (P := P) (w := w) (base := base) T B
  exact ⟨_, fd, p_l_purse, [], ok, gl_l_purse T, F.kp, FunD.bindsN F fun _ _ _ _ _ _ us hl => match us, hl with | [_], _ => rfl, .nil⟩
end
section
variable {P : Program} {w : World} {K : PySem.W.Frag} {mg : Str → Option Value} {base : Heap}
def sp_l_mixed (K : PySem.W.Frag) : Sp := fun vs H Q E => ∃ (s pl : Int), vs = [.int s, .int pl] ∧ (∀ n, 0 ≤ n → Q (.int n) H)
theorem us_l_mixed {K : PySem.W.Frag} {H : Hp} {Q : VK} {E : XK} {s pl : Int}  (kk : ∀ n, 0 ≤ n → Q (.int n) H) : sp_l_mixed K [.int s, .int pl] H Q E := ⟨_, _, rfl, kk⟩
theorem f_l_mixed (T : Cx K mg) (B : Tb K mg base) : ∃ fd, FunD K "_law_mixed" "_law_mixed" (defArgs s_l_mixed) (defBody s_l_mixed) (defScope s_l_mixed) (d_l_mixed.dvs K) (d_l_mixed.kws K) (fAd K d_l_mixed.at_) fd ∧ FnOk P w K mg base CX0 1 (fAd K d_l_mixed.at_) fd p_l_mixed (sp_l_mixed K) := by
  obtain ⟨fd, F⟩ := T.says.def_ 1 (d := d_l_mixed) rfl
  refine ⟨fd, F, fnD F sc_l_mixed (fun vs H Q E h => by
    obtain ⟨_, _, rfl, _⟩ := h
    rfl) fun cdv A outer s H vs Q E hr h => ?_⟩
  have hu := hu_of hr
  obtain ⟨s, pl, rfl, kk⟩ := h
  refine ⟨_, (pss_cons (ps_set (i := 2) sc_l_mixed.nd rfl (by first | exact Or.inl rfl | exact Or.inr rfl) (pe_op op_mod (pe_callTy call_int1' (by rfl) (fr_int T) (by decide +kernel) (pa_cons (pe_op op_add (pe_op op_add (pe_op op_mul (pv 0) pe_int) (pe_op op_mul (pv 1) pe_int)) pe_int) pa_nil)) pe_int)) (pss_cons (ps_set (i := 3) sc_l_mixed.nd rfl (by first | exact Or.inl rfl | exact Or.inr rfl) (pe_op op_mod (pe_callTy call_int1' (by rfl) (fr_int T) (by decide +kernel) (pa_cons (pe_op op_add (pe_op op_add (pe_op op_mul (pv 2) (pe_op op_add (pe_op op_fdiv (pv 2) pe_int) pe_int)) (pe_op op_mul (pv 1) pe_int)) (pv 0)) pa_nil)) pe_int)) (pss_one (ps_ret (pe_op op_fdiv (pv 3) pe_int))))), ?_⟩
  rw [show L2.start n_l_mixed [.int s, .int pl] = [some (.int s), some (.int pl), none, none] from rfl]
  try dsimp only [cxOf, Cx.nox, Cx.wish, List.map]

  wtm_at "rd"
  exact kk _ (by omega)
theorem c_l_mixed (T : Cx K mg) (B : Tb K mg base) : CalX P w K mg base CX0 1 "_law_mixed" (sp_l_mixed K) [] := by
  obtain ⟨fd, F, ok⟩ := f_l_mixed (P := P) (w := w) (base := base) T B
  exact ⟨_, fd, p_l_mixed, [], ok, gl_l_mixed T, F.kp, FunD.bindsN F fun _ _ _ _ _ _ us hl => match us, hl with | [_, _], _ => rfl, .nil⟩
end
section
variable {P : Program} {w : World} {K : PySem.W.Frag} {mg : Str → Option Value} {base : Heap}
def sp_l_draw (K : PySem.W.Frag) : Sp := fun vs H Q E => ∃ (p c : Addr) (many : Int), vs = [.ref p, .int many] ∧ (Purse H p c) ∧ (0 < many) ∧ (many < 1073741824) ∧ (∀ n H1, 0 ≤ n → n < many → Purse H1 p c → Kp [p] H H1 → Q (.int n) H1)
theorem us_l_draw {K : PySem.W.Frag} {H : Hp} {Q : VK} {E : XK} {p c : Addr} {many : Int} (hB : Purse H p c) (m0 : 0 < many) (m1 : many < 1073741824) (kk : ∀ n H1, 0 ≤ n → n < many → Purse H1 p c → Kp [p] H H1 → Q (.int n) H1) : sp_l_draw K [.ref p, .int many] H Q E := ⟨_, _, _, rfl, hB, m0, m1, kk⟩
theorem f_l_draw (T : Cx K mg) (B : Tb K mg base) : ∃ fd, FunD K "_law_draw" "_law_draw" (defArgs s_l_draw) (defBody s_l_draw) (defScope s_l_draw) (d_l_draw.dvs K) (d_l_draw.kws K) (fAd K d_l_draw.at_) fd ∧ FnOk P w K mg base CX0 2 (fAd K d_l_draw.at_) fd p_l_draw (sp_l_draw K) := by
  have c_l_mixed := c_l_mixed (P := P) (w := w) (base := base) T B
  obtain ⟨fd, F⟩ := T.says.def_ 2 (d := d_l_draw) rfl
  refine ⟨fd, F, fnD F sc_l_draw (fun vs H Q E h => by
    obtain ⟨_, _, _, rfl, _⟩ := h
    rfl) fun cdv A outer s H vs Q E hr h => ?_⟩
  have hu := hu_of hr
  obtain ⟨p, c, many, rfl, hB, m0, m1, kk⟩ := h
  refine ⟨_, (pss_cons (ps_dput hu (pv 0) pe_str (pe_op op_add (pe_dget hu (pv 0) pe_str (fun _ _ => rfl)) pe_int) rfl) (C8.pss_cut (ps_if (PW.pt (pw_and (pt_cmpR op_eq (pe_dget hu (pv 0) pe_str (fun _ _ => rfl)) pe_int (nomark _)) (pw_and (pt_cmpR op_eq (pe_dget hu (pv 0) pe_str (fun _ _ => rfl)) pe_int (nomark _)) (pw_and1 (pt_cmpR op_lt (pe_dget hu (pv 0) pe_str (fun _ _ => rfl)) (pe_callB call_lenS (by rfl) (fr_len T) (by decide +kernel) (pa_cons (pe_dget hu (pv 0) pe_str (fun _ _ => rfl)) pa_nil)) (nomark _)))))) (pss_cons (ps_set (i := 2) sc_l_draw.nd rfl (by first | exact Or.inl rfl | exact Or.inr rfl) (pe_ix ix_list (pe_dget hu (pv 0) pe_str (fun _ _ => rfl)) (pe_dget hu (pv 0) pe_str (fun _ _ => rfl)) (fun _ _ => rfl))) (pss_cons (ps_dput hu (pv 0) pe_str (pe_op op_add (pe_dget hu (pv 0) pe_str (fun _ _ => rfl)) pe_int) rfl) (pss_one (ps_if (pt_cmpR op_ge (pv 2) (pe_op op_pow pe_int pe_int) (nomark _)) (pss_one (ps_dput hu (pv 0) pe_str (pv 2) rfl)) (pss_cons (ps_dput hu (pv 0) pe_str (pe_op op_mod (pe_callTy call_int1' (by rfl) (fr_int T) (by decide +kernel) (pa_cons (pv 2) pa_nil)) pe_int) rfl) (pss_one (ps_dput hu (pv 0) pe_str pe_int rfl))))))) pss_nil) (pss_cons (ps_if (pt_cmpR op_gt (pe_dget hu (pv 0) pe_str (fun _ _ => rfl)) pe_int (nomark _)) (pss_cons (ps_set (i := 3) sc_l_draw.nd rfl (by first | exact Or.inl rfl | exact Or.inr rfl) (pe_op op_mod (pe_callTy call_int1' (by rfl) (fr_int T) (by decide +kernel) (pa_cons (pe_dget hu (pv 0) pe_str (fun _ _ => rfl)) pa_nil)) (pv 1))) (pss_cons (ps_dput hu (pv 0) pe_str (pe_op op_fdiv (pe_dget hu (pv 0) pe_str (fun _ _ => rfl)) (pv 1)) rfl) (pss_one (ps_ret (pv 3))))) pss_nil) (pss_cons (ps_if (pt_cmpR op_gt (pe_dget hu (pv 0) pe_str (fun _ _ => rfl)) pe_int (nomark _)) (pss_cons (ps_dput hu (pv 0) pe_str (pe_op op_sub (pe_dget hu (pv 0) pe_str (fun _ _ => rfl)) pe_int) rfl) (pss_one (ps_ret (pe_op op_mod (pe_callTy call_int1' (by rfl) (fr_int T) (by decide +kernel) (pa_cons (pe_cal c_l_mixed hr (by decide) (by rfl) pass0 (pa_cons (pe_dget hu (pv 0) pe_str (fun _ _ => rfl)) (pa_cons (pe_dget hu (pv 0) pe_str (fun _ _ => rfl)) pa_nil))) pa_nil)) (pv 1))))) pss_nil) (pss_cons (ps_if (pt_cmpR op_eq (pe_dget hu (pv 0) pe_str (fun _ _ => rfl)) pe_int (nomark _)) (pss_one (ps_ret pe_int)) pss_nil) (pss_one (ps_ret (pe_op op_mod (pe_callTy call_int1' (by rfl) (fr_int T) (by decide +kernel) (pa_cons (pe_cal c_l_mixed hr (by decide) (by rfl) pass0 (pa_cons (pe_dget hu (pv 0) pe_str (fun _ _ => rfl)) (pa_cons (pe_dget hu (pv 0) pe_str (fun _ _ => rfl)) pa_nil))) pa_nil)) (pv 1))))))))), ?_⟩
  rw [show L2.start n_l_draw [.ref p, .int many] = [some (.ref p), some (.int many), none, none] from rfl]
  try dsimp only [cxOf, Cx.nox, Cx.wish, List.map]

  obtain ⟨ns, a, b, d, e, f, g, h1, h2, h3, h4⟩ := hB
  have ncp : c ≠ p := ne_of h2 h1 (by intro z; cases z)
  wtm_at "rd"
  have h1' : upd H p (.dK (putK (purse c a b d e f g) (.inr "count") (.int (g + 1)))) p = some (.dK (purse c a b d e f (g + 1))) := upd_same
  have h2' : upd H p (.dK (putK (purse c a b d e f g) (.inr "count") (.int (g + 1)))) c = some (.lst (ns.map V.int)) := hu_ne ncp h2
  have k1 : Kp [p] H (upd H p (.dK (putK (purse c a b d e f g) (.inr "count") (.int (g + 1))))) := by wtm_at "kp"
  generalize upd H p (.dK (putK (purse c a b d e f g) (.inr "count") (.int (g + 1)))) = H1 at h1' h2' k1
  refine rd_cut (fun σ' H2 => (∃ v2 v3, σ' = [some (.ref p), some (.int many), v2, v3]) ∧ Purse H2 p c ∧ Kp [p] H H2) ?_ ?_
  · have done : ∃ v2 v3, ([some (.ref p), some (.int many), none, none] : List (Option V)) = [some (.ref p), some (.int many), v2, v3] := ⟨_, _, rfl⟩
    have stay : (∃ v2 v3, ([some (.ref p), some (.int many), none, none] : List (Option V)) = [some (.ref p), some (.int many), v2, v3]) ∧ Purse H1 p c ∧ Kp [p] H H1 := ⟨done, ⟨ns, a, b, d, e, f, g + 1, h1', h2', h3, h4⟩, k1⟩
    wtm_at "rd"
    refine ite_d (fun c1 => ?_) (fun c1 => ?_)
    · wtm_at "rd"
      refine ite_d (fun c2 => ?_) (fun c2 => ?_)
      · wtm_at "rd"
        refine ite_d (fun c3 => ?_) (fun c3 => ?_)
        · wtm_at "rd"
          refine ite_d (fun c4 => ?_) (fun c4 => ?_)
          · wtm_at "rd"
            exact ⟨⟨_, _, rfl⟩, ⟨ns, a + 1, _, d, e, f, g + 1, upd_same, by wtm_at "hp", by omega, h4⟩, by wtm_at "kp"⟩
          · wtm_at "rd"
            exact ⟨⟨_, _, rfl⟩, ⟨ns, a + 1, b, _, _, f, g + 1, upd_same, by wtm_at "hp", by omega, h4⟩, by wtm_at "kp"⟩
        · wtm_at "rd"
          exact stay
      · wtm_at "rd"
        exact stay
    · wtm_at "rd"
      exact stay
  · rintro σ' H2 ⟨⟨v2, v3, rfl⟩, ⟨ns, a, b, d, e, f, g, h1, h2, h3, h4⟩, k2⟩
    wtm_at "rd"
    refine ite_d (fun c1 => ?_) (fun c1 => ?_)
    · wtm_at "rd"
      exact kk _ _ (Int.emod_nonneg _ (by omega)) (Int.emod_lt_of_pos _ m0) ⟨ns, a, _, d, e, f, g, upd_same, by wtm_at "hp", h3, h4⟩ (by wtm_at "kp")
    · wtm_at "rd"
      refine ite_d (fun c2 => ?_) (fun c2 => ?_)
      · wtm_at "rd"
        refine us_l_mixed fun n n0 => ?_
        wtm_at "rd"
        exact kk _ _ (Int.emod_nonneg _ (by omega)) (Int.emod_lt_of_pos _ m0) ⟨ns, a, b, _, e, f, g, upd_same, by wtm_at "hp", h3, h4⟩ (by wtm_at "kp")
      · wtm_at "rd"
        refine ite_d (fun c3 => ?_) (fun c3 => ?_)
        · wtm_at "rd"
          exact kk _ _ (by decide) m0 ⟨ns, a, b, d, e, f, g, h1, h2, h3, h4⟩ k2
        · wtm_at "rd"
          refine us_l_mixed fun n n0 => ?_
          wtm_at "rd"
          exact kk _ _ (Int.emod_nonneg _ (by omega)) (Int.emod_lt_of_pos _ m0) ⟨ns, a, b, d, e, f, g, h1, h2, h3, h4⟩ k2
theorem c_l_draw (T : Cx K mg) (B : Tb K mg base) : CalX P w K mg base CX0 2 "_law_draw" (sp_l_draw K) [] := by
  obtain ⟨fd, F, ok⟩ := f_l_draw (P := P) (w := w) (base := base) T B
  exact ⟨_, fd, p_l_draw, [], ok, gl_l_draw T, F.kp, FunD.bindsN F fun _ _ _ _ _ _ us hl => match us, hl with | [_, _], _ => rfl, .nil⟩
end
section
variable {P : Program} {w : World} {K : PySem.W.Frag} {mg : Str → Option Value} {base : Heap}
def sp_l_seats (K : PySem.W.Frag) : Sp := fun vs H Q E => ∃ (p c : Addr) (ring many : Int), vs = [.ref p, .int ring, .int many] ∧ (Purse H p c) ∧ (0 ≤ many) ∧ (many ≤ ring) ∧ (ring ≤ 256) ∧ (∀ l (xs : List Int) H1, (∀ z, z ∈ xs → 0 ≤ z ∧ z < ring) → H1 l = some (.lst (xs.map V.int)) → xs.Nodup → (xs.length : Int) = many → Purse H1 p c → Kp [p] H H1 → H l = none → Q (.ref l) H1)
theorem us_l_seats {K : PySem.W.Frag} {H : Hp} {Q : VK} {E : XK} {p c : Addr} {ring many : Int} (hB : Purse H p c) (m0 : 0 ≤ many) (m1 : many ≤ ring) (m2 : ring ≤ 256) (kk : ∀ l (xs : List Int) H1, (∀ z, z ∈ xs → 0 ≤ z ∧ z < ring) → H1 l = some (.lst (xs.map V.int)) → xs.Nodup → (xs.length : Int) = many → Purse H1 p c → Kp [p] H H1 → H l = none → Q (.ref l) H1) : sp_l_seats K [.ref p, .int ring, .int many] H Q E := ⟨_, _, _, _, rfl, hB, m0, m1, m2, kk⟩
theorem f_l_seats (T : Cx K mg) (B : Tb K mg base) : ∃ fd, FunD K "_law_seats" "_law_seats" (defArgs s_l_seats) (defBody s_l_seats) (defScope s_l_seats) (d_l_seats.dvs K) (d_l_seats.kws K) (fAd K d_l_seats.at_) fd ∧ FnOk P w K mg base CX0 3 (fAd K d_l_seats.at_) fd p_l_seats (sp_l_seats K) := by
  have c_l_draw := c_l_draw (P := P) (w := w) (base := base) T B
  obtain ⟨fd, F⟩ := T.says.def_ 3 (d := d_l_seats) rfl
  refine ⟨fd, F, fnD F sc_l_seats (fun vs H Q E h => by
    obtain ⟨_, _, _, _, rfl, _⟩ := h
    rfl) fun cdv A outer s H vs Q E hr h => ?_⟩
  have hu := hu_of hr
  obtain ⟨p, c, ring, many, rfl, hB, m0, m1, m2, kk⟩ := h
  refine ⟨_, (pss_cons (ps_set (i := 3) sc_l_seats.nd rfl (by first | exact Or.inl rfl | exact Or.inr rfl) (pe_listRg rfl (by rfl) (fr_list T) (prg_1 (by rfl) (fr_range T) (pv 1)))) (pss_cons (ps_set (i := 4) sc_l_seats.nd rfl (by first | exact Or.inl rfl | exact Or.inr rfl) (pe_lst pa_nil)) (pss_cons (ps_for PassesOwn.never rfl (pi_range1 (by rfl) (fr_range T) (pa_cons (pv 2) pa_nil)) (pg_name (i := 5) sc_l_seats.nd rfl (by first | exact Or.inl rfl | exact Or.inr rfl)) (pss_one (ps_expr (pe_bm PySem.F.plainAttrs_list PySem.F.slot_list_append PySem.F.type_list_append mt_append (pv 4) (pa_cons (pe_bm PySem.F.plainAttrs_list PySem.F.slot_list_pop PySem.F.type_list_pop mt_popAt (pv 3) (pa_cons (pe_cal c_l_draw hr (by decide) (by rfl) pass0 (pa_cons (pv 0) (pa_cons (pe_callB call_lenS (by rfl) (fr_len T) (by decide +kernel) (pa_cons (pv 3) pa_nil)) pa_nil))) pa_nil)) pa_nil))))) (pss_one (ps_ret (pv 4)))))), ?_⟩
  rw [show L2.start n_l_seats [.ref p, .int ring, .int many] = [some (.ref p), some (.int ring), some (.int many), none, none, none] from rfl]
  try dsimp only [cxOf, Cx.nox, Cx.wish, List.map]

  wtm_at "rd"
  refine ⟨RgOk.of_le (by omega) (by omega) (by omega) (by omega), fun pl npl => ?_⟩
  rw [rgV_0]
  wtm_at "rd"
  refine ⟨sz1000 (by simp), fun fd nfd => ?_⟩
  wtm_at "rd"
  have nfd' : H fd = none := Kp.back (Kp.new (ps := []) npl) nfd (by simp)
  have npf : pl ≠ fd := by wtm_at "ne"
  have npp : pl ≠ p := by
    obtain ⟨ns, a, b, d, e, f, g, h1, -⟩ := hB
    exact Ne.symm (ne_of_none h1 npl)
  have nfp : fd ≠ p := by
    obtain ⟨ns, a, b, d, e, f, g, h1, -⟩ := hB
    exact Ne.symm (ne_of_none h1 nfd')
  have ncs : c ≠ pl ∧ c ≠ fd := by
    obtain ⟨ns, a, b, d, e, f, g, h1, h2, -⟩ := hB
    exact ⟨ne_of_none h2 npl, ne_of_none h2 nfd'⟩
  refine forR_by (fun i σ H1 => (∃ v5, σ = [some (.ref p), some (.int ring), some (.int many), some (.ref pl), some (.ref fd), v5]) ∧ ∃ us ws : List Int, H1 pl = some (.lst (us.map V.int)) ∧ H1 fd = some (.lst (ws.map V.int)) ∧ ws.length = i ∧
    (us.length : Int) + i = ring ∧ (ws ++ us).Perm ((List.range ring.toNat).map fun (i : Nat) => (i : Int)) ∧ Purse H1 p c ∧ Kp [p] H H1) ?_ ?_ ?_
  · refine ⟨⟨_, rfl⟩, _, [], by wtm_at "hp", upd_same, rfl, by simp; omega, by simp, hB.k0 ((Kp.new npl).nw nfd), ((Kp.new npl).nw nfd).of0⟩
  · rintro i σ H1 hi ⟨⟨v5, rfl⟩, us, ws, h1, h2, h3, h4, h5, h6, h7⟩
    wtm_at "rd"
    refine us_l_draw h6 (by omega) (by omega) fun n H2 n0 n1 B2 k2 => ?_
    have h1' := k2.g1 npp h1
    have h2' := k2.g1 nfp h2
    have hn : n.toNat < us.length := by omega
    wtm_at "rd"
    refine rd_popAt h1' (by omega) (by omega) (k := n.toNat) (v := .int us[n.toNat]) (by rw [List.length_map]; exact seqIx n0 n1) (by rw [List.getElem?_map, List.getElem?_eq_getElem hn]; rfl) ?_
    rw [erase_map]
    have hfd : upd H2 pl (.lst ((us.eraseIdx n.toNat).map V.int)) fd = some (.lst (ws.map V.int)) := hu_ne (Ne.symm npf) h2'
    wtm_at "rd"
    refine ⟨⟨_, rfl⟩, us.eraseIdx n.toNat, ws ++ [us[n.toNat]], hu_ne npf upd_same, by rw [upd_same, List.map_append]; rfl, by simp [h3], ?_, ?_, ?_, ?_⟩
    · rw [List.length_eraseIdx_of_lt hn]
      omega
    · refine List.Perm.trans ?_ h5
      rw [List.append_assoc]
      exact List.Perm.append_left ws (erase_perm hn)
    · have kx : Kp [pl, fd] H2 (upd (upd H2 pl (.lst ((us.eraseIdx n.toNat).map V.int))) fd (.lst (ws.map V.int ++ [V.int us[n.toNat]]))) := by wtm_at "kp"
      exact B2.kp kx (by simp [Ne.symm npp, Ne.symm nfp]) (by simp [ncs.1, ncs.2])
    · exact ((h7.trans k2).mine npl).mine nfd'
  · rintro σ H1 ⟨⟨v5, rfl⟩, us, ws, h1, h2, h3, h4, h5, h6, h7⟩
    wtm_at "rd"
    refine kk fd ws H1 (fun z hz => ?_) h2 ?_ (by omega) h6 h7 nfd'
    · obtain ⟨i, hi, rfl⟩ := List.mem_map.mp (h5.mem_iff.mp (List.mem_append_left us hz))
      rw [List.mem_range] at hi
      omega
    have hN : (ws ++ us).Nodup := (List.Perm.nodup_iff h5).mpr (by
      rw [List.Nodup, List.pairwise_map]
      exact List.Pairwise.imp (fun {a b} (h : a ≠ b) e => h (Int.ofNat.inj e)) List.nodup_range)
    exact (List.nodup_append.mp hN).1
theorem c_l_seats (T : Cx K mg) (B : Tb K mg base) : CalX P w K mg base CX0 3 "_law_seats" (sp_l_seats K) [] := by
  obtain ⟨fd, F, ok⟩ := f_l_seats (P := P) (w := w) (base := base) T B
  exact ⟨_, fd, p_l_seats, [], ok, gl_l_seats T, F.kp, FunD.bindsN F fun _ _ _ _ _ _ us hl => match us, hl with | [_, _, _], _ => rfl, .nil⟩
end
section
variable {P : Program} {w : World} {K : PySem.W.Frag} {mg : Str → Option Value} {base : Heap}
def sp_whole (K : PySem.W.Frag) : Sp := fun vs H Q E => ∃ (v lo hi : Int), vs = [.int v, .int lo, .int hi] ∧ (Q (.bl (decide (lo ≤ v) && decide (v ≤ hi))) H)
theorem us_whole {K : PySem.W.Frag} {H : Hp} {Q : VK} {E : XK} {v lo hi : Int}  (kk : Q (.bl (decide (lo ≤ v) && decide (v ≤ hi))) H) : sp_whole K [.int v, .int lo, .int hi] H Q E := ⟨_, _, _, rfl, kk⟩
theorem f_whole (T : Cx K mg) (B : Tb K mg base) : ∃ fd, FunD K "whole" "whole" (defArgs s_whole) (defBody s_whole) (defScope s_whole) (d_whole.dvs K) (d_whole.kws K) (fAd K d_whole.at_) fd ∧ FnOk P w K mg base CX0 1 (fAd K d_whole.at_) fd p_whole (sp_whole K) := by
  obtain ⟨fd, F⟩ := T.says.def_ 4 (d := d_whole) rfl
  refine ⟨fd, F, fnD F sc_whole (fun vs H Q E h => by
    obtain ⟨_, _, _, rfl, _⟩ := h
    rfl) fun cdv A outer s H vs Q E hr h => ?_⟩
  have hu := hu_of hr
  obtain ⟨v, lo, hi, rfl, kk⟩ := h
  refine ⟨_, (pss_cons (ps_if (PW.pt (pw_or (pt_not (pt_val (pe_callB call_isi (by rfl) (fr_isinstance T) (by decide +kernel) (pa_cons (pv 0) (pa_cons (pe_bltn (v := .ty "int") (by rfl) (fr_int T) (by decide +kernel) rfl) pa_nil))))) (pw_or1 (pt_val (pe_callB call_isi (by rfl) (fr_isinstance T) (by decide +kernel) (pa_cons (pv 0) (pa_cons (pe_bltn (v := .ty "bool") (by rfl) (fr_bool T) (by decide +kernel) rfl) pa_nil))))))) (pss_one (ps_ret pe_bl)) pss_nil) (pss_one (ps_ret (pe_and (pe_cmpR op_le (pv 1) (pv 0) (nomark _)) (pe_one (pe_or (pe_cmp (pc_isN (pv 2))) (pe_one (pe_cmpR op_le (pv 0) (pv 2) (nomark _))))))))), ?_⟩
  rw [show L2.start n_whole [.int v, .int lo, .int hi] = [some (.int v), some (.int lo), some (.int hi)] from rfl]
  try dsimp only [cxOf, Cx.nox, Cx.wish, List.map]

  wtm_at "rd"
  refine ite_d (fun h => ?_) (fun h => ?_)
  · wtm_at "rd"
    rw [decide_eq_true h, Bool.true_and] at kk
    exact kk
  · rw [decide_eq_false h, Bool.false_and] at kk
    exact kk
theorem c_whole (T : Cx K mg) (B : Tb K mg base) : CalX P w K mg base CX0 1 "whole" (sp_whole K) [] := by
  obtain ⟨fd, F, ok⟩ := f_whole (P := P) (w := w) (base := base) T B
  exact ⟨_, fd, p_whole, [], ok, gl_whole T, F.kp, FunD.bindsN F fun _ _ _ _ _ _ us hl => match us, hl with | [_, _, _], _ => rfl, .nil⟩
end
section
variable {P : Program} {w : World} {K : PySem.W.Frag} {mg : Str → Option Value} {base : Heap}
def sp_Setting_init (K : PySem.W.Frag) : Sp := fun vs H Q E => ∃ (p dx : Addr) (s : Stg), vs = [.ref p, .int s.bits, .int s.pat, .int s.room, .int s.grace, .int s.hel] ∧ (H p = some (.ins (ga K "Setting") dx [])) ∧ (s.Ok) ∧ (∀ H1, SetAt K H1 p s → Kp [p] H H1 → Q .non H1)
theorem us_Setting_init {K : PySem.W.Frag} {H : Hp} {Q : VK} {E : XK} {p dx : Addr} {s : Stg} (hp : H p = some (.ins (ga K "Setting") dx [])) (ok : s.Ok) (kk : ∀ H1, SetAt K H1 p s → Kp [p] H H1 → Q .non H1) : sp_Setting_init K [.ref p, .int s.bits, .int s.pat, .int s.room, .int s.grace, .int s.hel] H Q E := ⟨_, _, _, rfl, hp, ok, kk⟩
theorem f_Setting_init (T : Cx K mg) (B : Tb K mg base) : ∃ fd, FunD K "__init__" "Setting.__init__" (defArgs s_Setting_init) (defBody s_Setting_init) (defScope s_Setting_init) (d_Setting_init.dvs K) (d_Setting_init.kws K) (fAd K d_Setting_init.at_) fd ∧ FnOk P w K mg base CX0 2 (fAd K d_Setting_init.at_) fd p_Setting_init (sp_Setting_init K) := by
  have c_whole := c_whole (P := P) (w := w) (base := base) T B
  obtain ⟨fd, F⟩ := T.says.def_ 5 (d := d_Setting_init) rfl
  refine ⟨fd, F, fnD F sc_Setting_init (fun vs H Q E h => by
    obtain ⟨_, _, _, rfl, _⟩ := h
    rfl) fun cdv A outer s H vs Q E hr h => ?_⟩
  have hu := hu_of hr
  obtain ⟨p, dx, s, rfl, hp, ok, kk⟩ := h
  refine ⟨_, (pss_cons (ps_if (pt_not (pt_val (pe_cal c_whole hr (by decide) (by rfl) pass0 (pa_cons (pv 1) (pa_cons pe_int (pa_cons (pe_con (pv 0) rfl) pa_nil)))))) (pss_one ps_never) pss_nil) (pss_cons (ps_if (pt_not (pt_val (pe_cal c_whole hr (by decide) (by rfl) pass0 (pa_cons (pv 2) (pa_cons pe_int (pa_cons (pe_con (pv 0) rfl) pa_nil)))))) (pss_one ps_never) pss_nil) (pss_cons (ps_if (pt_not (pt_val (pe_cal c_whole hr (by decide) (by rfl) pass0 (pa_cons (pv 3) (pa_cons pe_int (pa_cons (pe_con (pv 0) rfl) pa_nil)))))) (pss_one ps_never) pss_nil) (pss_cons (ps_if (pt_not (pt_val (pe_cal c_whole hr (by decide) (by rfl) pass0 (pa_cons (pv 4) (pa_cons pe_int (pa_cons (pe_con (pv 0) rfl) pa_nil)))))) (pss_one ps_never) pss_nil) (pss_cons (ps_if (pt_not (pt_val (pe_cal c_whole hr (by decide) (by rfl) pass0 (pa_cons (pv 5) (pa_cons pe_int (pa_cons (pe_con (pv 0) rfl) pa_nil)))))) (pss_one ps_never) pss_nil) (pss_cons (ps_fld (pv 0) (pv 1) rfl) (pss_cons (ps_fld (pv 0) (pv 2) rfl) (pss_cons (ps_fld (pv 0) (pv 3) rfl) (pss_cons (ps_fld (pv 0) (pv 4) rfl) (pss_one (ps_fld (pv 0) (pv 5) rfl))))))))))), ?_⟩
  rw [show L2.start n_Setting_init [.ref p, .int s.bits, .int s.pat, .int s.room, .int s.grace, .int s.hel] = [some (.ref p), some (.int s.bits), some (.int s.pat), some (.int s.room), some (.int s.grace), some (.int s.hel)] from rfl]
  try dsimp only [cxOf, Cx.nox, Cx.wish, List.map]

  obtain ⟨b0, b1, p0, p1, r0, r1, g0, g1, h0, h1⟩ := id ok
  wtm_at "rd"
  refine us_whole ?_
  wtm_at "rd"
  refine ite_f (by simp; omega) ?_
  wtm_at "rd"
  refine us_whole ?_
  wtm_at "rd"
  refine ite_f (by simp; omega) ?_
  wtm_at "rd"
  refine us_whole ?_
  wtm_at "rd"
  refine ite_f (by simp; omega) ?_
  wtm_at "rd"
  refine us_whole ?_
  wtm_at "rd"
  refine ite_f (by simp; omega) ?_
  wtm_at "rd"
  refine us_whole ?_
  wtm_at "rd"
  refine ite_f (by simp; omega) ?_
  wtm_at "rd"
  exact kk _ ⟨⟨dx, upd_same⟩, ok⟩ (by wtm_at "kp")
theorem c_Setting_init (T : Cx K mg) (B : Tb K mg base) : MakX P w K mg base CX0 2 "Setting" (ga K "Setting") (sp_Setting_init K) [.int 6, .int 1] := by
  obtain ⟨fd, F, ok⟩ := f_Setting_init (P := P) (w := w) (base := base) T B
  obtain ⟨ds, hv, hb⟩ := FunD.binds0 (ps := p_Setting_init) F 4 (fun e => by cases e) rfl fun _ _ _ _ _ _ us ks hu hk => match us, ks, hu, hk with | [_, _, _, _], [_, _], _, _ => ⟨_, _, _, _, _, _, rfl, rfl, ⟨_, _, _, _, _, _, rfl, rfl, rfl⟩⟩
  exact ⟨_, fd, p_Setting_init, ds, mk_Setting T, ok, gl_Setting T, hb, hv⟩
def kg_Setting_init_grace_helpers {α : Type} : List α → List α → List α → List α := fun us mz zs => us ++ (zs[0]?).toList ++ (zs[1]?).toList
theorem kr_Setting_init_grace_helpers {vs mz zs : List V} {us mv ws : List Value} (r1 : Vals vs us) (r2 : Vals mz mv) (r3 : Vals zs ws) : Vals (kg_Setting_init_grace_helpers vs mz zs) (kg_Setting_init_grace_helpers us mv ws) := (Vals.append (Vals.append r1 (vals_at 0 r3)) (vals_at 1 r3))
theorem c_Setting_init_grace_helpers (T : Cx K mg) (B : Tb K mg base) : MakKX P w K mg base CX0 2 "Setting" (ga K "Setting") (sp_Setting_init K) 3 ["grace", "helpers"] (fun vs zs => kg_Setting_init_grace_helpers vs [] zs) := by
  obtain ⟨fd, F, ok⟩ := f_Setting_init (P := P) (w := w) (base := base) T B
  obtain ⟨mv, hb⟩ := FunD.kbinds0 (ps := p_Setting_init) F 4 ["grace", "helpers"] [] kg_Setting_init_grace_helpers (fun e => by cases e) (fun q hq => nomatch hq) kr_Setting_init_grace_helpers fun _ _ _ _ _ _ us mv ws hu hm hw => match us, mv, ws, hu, hm, hw with | [_, _, _, _], [], [_, _], _, _, _ => rfl
  exact ⟨_, fd, p_Setting_init, _, mk_Setting T, ok, gl_Setting T, hb⟩
end
section
variable {P : Program} {w : World} {K : PySem.W.Frag} {mg : Str → Option Value} {base : Heap}
def sp_Setting_seats (K : PySem.W.Frag) : Sp := fun vs H Q E => ∃ (p : Addr) (s : Stg), vs = [.ref p] ∧ (SetAt K H p s) ∧ (Q (.int s.ring) H)
theorem us_Setting_seats {K : PySem.W.Frag} {H : Hp} {Q : VK} {E : XK} {p : Addr} {s : Stg} (hS : SetAt K H p s) (kk : Q (.int s.ring) H) : sp_Setting_seats K [.ref p] H Q E := ⟨_, _, rfl, hS, kk⟩
theorem f_Setting_seats (T : Cx K mg) (B : Tb K mg base) : ∃ fd, FunD K "seats" "Setting.seats" (defArgs s_Setting_seats) (defBody s_Setting_seats) (defScope s_Setting_seats) [] [] (prG K "Setting" "seats") fd ∧ FnOk P w K mg base CX0 1 (prG K "Setting" "seats") fd p_Setting_seats (sp_Setting_seats K) := by
  obtain ⟨hP, fd, F⟩ := B.g g_Setting_seats (.head _)
  refine ⟨fd, F, fnD F sc_Setting_seats (fun vs H Q E h => by
    obtain ⟨_, _, rfl, _⟩ := h
    rfl) fun cdv A outer s H vs Q E hr h => ?_⟩
  have hu := hu_of hr
  obtain ⟨p, s, rfl, hS, kk⟩ := h
  refine ⟨_, (pss_one (ps_ret (pe_op op_shl pe_int (pe_fld (pv 0) rfl)))), ?_⟩
  rw [show L2.start n_Setting_seats [.ref p] = [some (.ref p)] from rfl]
  try dsimp only [cxOf, Cx.nox, Cx.wish, List.map]

  obtain ⟨⟨dx, hp⟩, ok⟩ := hS
  have b0 := ok.b0
  have b1 := ok.b1
  wtm_at "rd"
  show Q (.int (1 * 2 ^ s.bits.toNat)) H
  rw [Int.one_mul, ← Stg.ring_eq]
  exact kk
theorem c_Setting_seats (T : Cx K mg) (B : Tb K mg base) : PrpX P w K mg base CX0 1 (ga K "Setting") "seats" (sp_Setting_seats K) := by
  obtain ⟨fd, F, ok⟩ := f_Setting_seats (P := P) (w := w) (base := base) T B
  obtain ⟨hP, -⟩ := B.g g_Setting_seats (.head _)
  exact ⟨_, _, fd, p_Setting_seats, cl_Setting T, hP, ok, FunD.bindsN F fun _ _ _ _ _ _ us hl => match us, hl with | [_], _ => rfl⟩
end
section
variable {P : Program} {w : World} {K : PySem.W.Frag} {mg : Str → Option Value} {base : Heap}
def sp_distance (K : PySem.W.Frag) : Sp := fun vs H Q E => ∃ (p : Addr) (s : Stg) (a b : Int), vs = [.ref p, .int a, .int b] ∧ (SetAt K H p s) ∧ (Q (.int ((b - a) % s.ring)) H)
theorem us_distance {K : PySem.W.Frag} {H : Hp} {Q : VK} {E : XK} {p : Addr} {s : Stg} {a b : Int} (hS : SetAt K H p s) (kk : Q (.int ((b - a) % s.ring)) H) : sp_distance K [.ref p, .int a, .int b] H Q E := ⟨_, _, _, _, rfl, hS, kk⟩
theorem f_distance (T : Cx K mg) (B : Tb K mg base) : ∃ fd, FunD K "distance" "distance" (defArgs s_distance) (defBody s_distance) (defScope s_distance) (d_distance.dvs K) (d_distance.kws K) (fAd K d_distance.at_) fd ∧ FnOk P w K mg base CX0 3 (fAd K d_distance.at_) fd p_distance (sp_distance K) := by
  have c_Setting_seats := c_Setting_seats (P := P) (w := w) (base := base) T B
  obtain ⟨fd, F⟩ := T.says.def_ 6 (d := d_distance) rfl
  refine ⟨fd, F, fnD F sc_distance (fun vs H Q E h => by
    obtain ⟨_, _, _, _, rfl, _⟩ := h
    rfl) fun cdv A outer s H vs Q E hr h => ?_⟩
  have hu := hu_of hr
  obtain ⟨p, s, a, b, rfl, hS, kk⟩ := h
  refine ⟨_, (pss_one (ps_ret (pe_op op_mod (pe_op op_sub (pv 2) (pv 1)) (pe_prpX c_Setting_seats hr (by decide) pass0 (pv 0))))), ?_⟩
  rw [show L2.start n_distance [.ref p, .int a, .int b] = [some (.ref p), some (.int a), some (.int b)] from rfl]
  try dsimp only [cxOf, Cx.nox, Cx.wish, List.map]

  obtain ⟨⟨dx, hp⟩, ok⟩ := id hS
  have r2 := ok.r2
  wtm_at "rd"
  refine us_Setting_seats hS ?_
  wtm_at "rd"
  exact kk
theorem c_distance (T : Cx K mg) (B : Tb K mg base) : CalX P w K mg base CX0 3 "distance" (sp_distance K) [] := by
  obtain ⟨fd, F, ok⟩ := f_distance (P := P) (w := w) (base := base) T B
  exact ⟨_, fd, p_distance, [], ok, gl_distance T, F.kp, FunD.bindsN F fun _ _ _ _ _ _ us hl => match us, hl with | [_, _, _], _ => rfl, .nil⟩
end
section
variable {P : Program} {w : World} {K : PySem.W.Frag} {mg : Str → Option Value} {base : Heap}
def sp_block_of (K : PySem.W.Frag) : Sp := fun vs H Q E => ∃ (S : Addr) (s : Stg) (beat : Int), vs = [.ref S, .int beat] ∧ (SetAt K H S s) ∧ (Q (.int ((beat / s.pat) % s.bits)) H)
theorem us_block_of {K : PySem.W.Frag} {H : Hp} {Q : VK} {E : XK} {S : Addr} {s : Stg} {beat : Int} (hS : SetAt K H S s) (kk : Q (.int ((beat / s.pat) % s.bits)) H) : sp_block_of K [.ref S, .int beat] H Q E := ⟨_, _, _, rfl, hS, kk⟩
theorem f_block_of (T : Cx K mg) (B : Tb K mg base) : ∃ fd, FunD K "block_of" "block_of" (defArgs s_block_of) (defBody s_block_of) (defScope s_block_of) (d_block_of.dvs K) (d_block_of.kws K) (fAd K d_block_of.at_) fd ∧ FnOk P w K mg base CX0 1 (fAd K d_block_of.at_) fd p_block_of (sp_block_of K) := by
  obtain ⟨fd, F⟩ := T.says.def_ 7 (d := d_block_of) rfl
  refine ⟨fd, F, fnD F sc_block_of (fun vs H Q E h => by
    obtain ⟨_, _, _, rfl, _⟩ := h
    rfl) fun cdv A outer s H vs Q E hr h => ?_⟩
  have hu := hu_of hr
  obtain ⟨S, s, beat, rfl, hS, kk⟩ := h
  refine ⟨_, (pss_one (ps_ret (pe_op op_mod (pe_op op_fdiv (pv 1) (pe_fld (pv 0) rfl)) (pe_fld (pv 0) rfl)))), ?_⟩
  rw [show L2.start n_block_of [.ref S, .int beat] = [some (.ref S), some (.int beat)] from rfl]
  try dsimp only [cxOf, Cx.nox, Cx.wish, List.map]

  obtain ⟨⟨dx, hp⟩, ok⟩ := id hS
  have p0 := ok.p0
  have p1 := ok.p1
  have b0 := ok.b0
  wtm_at "rd"
  exact kk
theorem c_block_of (T : Cx K mg) (B : Tb K mg base) : CalX P w K mg base CX0 1 "block_of" (sp_block_of K) [] := by
  obtain ⟨fd, F, ok⟩ := f_block_of (P := P) (w := w) (base := base) T B
  exact ⟨_, fd, p_block_of, [], ok, gl_block_of T, F.kp, FunD.bindsN F fun _ _ _ _ _ _ us hl => match us, hl with | [_, _], _ => rfl, .nil⟩
end
section
variable {P : Program} {w : World} {K : PySem.W.Frag} {mg : Str → Option Value} {base : Heap}
def sp_nearest (K : PySem.W.Frag) : Sp := fun vs H Q E => ∃ (S l : Addr) (s : Stg) (seat off : Int) (xs : List Int), vs = [.ref S, .int seat, .int off, .ref l] ∧ (SetAt K H S s) ∧ (H l = some (.lst (xs.map V.int))) ∧ (Q (ov (nearO s.ring seat off xs)) H)
theorem us_nearest {K : PySem.W.Frag} {H : Hp} {Q : VK} {E : XK} {S l : Addr} {s : Stg} {seat off : Int} {xs : List Int} (hS : SetAt K H S s) (hl : H l = some (.lst (xs.map V.int))) (kk : Q (ov (nearO s.ring seat off xs)) H) : sp_nearest K [.ref S, .int seat, .int off, .ref l] H Q E := ⟨_, _, _, _, _, _, rfl, hS, hl, kk⟩
theorem f_nearest (T : Cx K mg) (B : Tb K mg base) : ∃ fd, FunD K "nearest" "nearest" (defArgs s_nearest) (defBody s_nearest) (defScope s_nearest) (d_nearest.dvs K) (d_nearest.kws K) (fAd K d_nearest.at_) fd ∧ FnOk P w K mg base CX0 4 (fAd K d_nearest.at_) fd p_nearest (sp_nearest K) := by
  have c_Setting_seats := c_Setting_seats (P := P) (w := w) (base := base) T B
  have c_distance := c_distance (P := P) (w := w) (base := base) T B
  obtain ⟨fd, F⟩ := T.says.def_ 8 (d := d_nearest) rfl
  refine ⟨fd, F, fnD F sc_nearest (fun vs H Q E h => by
    obtain ⟨_, _, _, _, _, _, rfl, _⟩ := h
    rfl) fun cdv A outer s H vs Q E hr h => ?_⟩
  have hu := hu_of hr
  obtain ⟨S, l, s, seat, off, xs, rfl, hS, hl, kk⟩ := h
  refine ⟨_, (pss_cons (ps_set (i := 4) sc_nearest.nd rfl (by first | exact Or.inl rfl | exact Or.inr rfl) pe_non) (pss_cons (ps_set (i := 5) sc_nearest.nd rfl (by first | exact Or.inl rfl | exact Or.inr rfl) (pe_prpX c_Setting_seats hr (by decide) pass0 (pv 0))) (pss_cons (ps_for PassesOwn.never rfl (pi_list (pv 3)) (pg_name (i := 6) sc_nearest.nd rfl (by first | exact Or.inl rfl | exact Or.inr rfl)) (pss_cons (ps_set (i := 7) sc_nearest.nd rfl (by first | exact Or.inl rfl | exact Or.inr rfl) (pe_cal c_distance hr (by decide) (by rfl) pass0 (pa_cons (pv 0) (pa_cons (pv 1) (pa_cons (pv 6) pa_nil))))) (pss_one (ps_if (PW.pt (pw_and (pt_cmpR op_ge (pv 7) (pv 2) (nomark _)) (pw_and1 (pt_cmpR op_lt (pv 7) (pv 5) (nomark _))))) (pss_cons (ps_set (i := 4) sc_nearest.nd rfl (by first | exact Or.inl rfl | exact Or.inr rfl) (pv 6)) (pss_one (ps_set (i := 5) sc_nearest.nd rfl (by first | exact Or.inl rfl | exact Or.inr rfl) (pv 7)))) pss_nil)))) (pss_one (ps_ret (pv 4)))))), ?_⟩
  rw [show L2.start n_nearest [.ref S, .int seat, .int off, .ref l] = [some (.ref S), some (.int seat), some (.int off), some (.ref l), none, none, none, none] from rfl]
  try dsimp only [cxOf, Cx.nox, Cx.wish, List.map]

  obtain ⟨⟨dx, hp⟩, ok⟩ := id hS
  wtm_at "rd"
  refine us_Setting_seats hS ?_
  wtm_at "rd"
  refine forL_ints (K := K) xs (fun i σ H1 => (∃ v6 v7, σ = [some (.ref S), some (.int seat), some (.int off), some (.ref l), some (ov (nearF s.ring seat off (xs.take i)).1), some (.int (nearF s.ring seat off (xs.take i)).2), v6, v7]) ∧ H1 = H) ⟨⟨_, _, rfl⟩, rfl⟩ (fun i σ H1 _ q => by rw [q.2]; exact SqL.of hl) ?_ ?_
  · rintro i hi σ H1 ⟨⟨v6, v7, rfl⟩, rfl⟩
    have e := nearF_take (r := s.ring) (seat := seat) (off := off) hi
    rw [e]
    generalize nearF s.ring seat off (xs.take i) = p at *
    wtm_at "rd"
    refine us_distance hS ?_
    wtm_at "rd"
    refine ite_d (fun h1 => ?_) (fun h1 => ?_)
    · wtm_at "rd"
      refine ite_d (fun h2 => ?_) (fun h2 => ?_)
      · wtm_at "rd"
        rw [show nearS s.ring seat off p xs[i] = (some xs[i], (xs[i] - seat) % s.ring) from if_pos ⟨h1, h2⟩]
        exact ⟨⟨_, _, rfl⟩, rfl⟩
      · wtm_at "rd"
        rw [show nearS s.ring seat off p xs[i] = p from if_neg fun z => h2 z.2]
        exact ⟨⟨_, _, rfl⟩, rfl⟩
    · wtm_at "rd"
      rw [show nearS s.ring seat off p xs[i] = p from if_neg fun z => h1 z.1]
      exact ⟨⟨_, _, rfl⟩, rfl⟩
  · rintro σ H1 ⟨⟨v6, v7, rfl⟩, rfl⟩
    rw [List.take_length]
    wtm_at "rd"
    exact kk
theorem c_nearest (T : Cx K mg) (B : Tb K mg base) : CalX P w K mg base CX0 4 "nearest" (sp_nearest K) [] := by
  obtain ⟨fd, F, ok⟩ := f_nearest (P := P) (w := w) (base := base) T B
  exact ⟨_, fd, p_nearest, [], ok, gl_nearest T, F.kp, FunD.bindsN F fun _ _ _ _ _ _ us hl => match us, hl with | [_, _, _, _], _ => rfl, .nil⟩
end
section
variable {P : Program} {w : World} {K : PySem.W.Frag} {mg : Str → Option Value} {base : Heap}
def sp_fingers (K : PySem.W.Frag) : Sp := fun vs H Q E => ∃ (S l : Addr) (s : Stg) (seat : Int) (xs : List Int), vs = [.ref S, .int seat, .ref l] ∧ (SetAt K H S s) ∧ (H l = some (.lst (xs.map V.int))) ∧ (∀ q H1, H1 q = some (.lst ((fingL s seat xs).map ov)) → Kp [] H H1 → H q = none → Q (.ref q) H1)
theorem us_fingers {K : PySem.W.Frag} {H : Hp} {Q : VK} {E : XK} {S l : Addr} {s : Stg} {seat : Int} {xs : List Int} (hS : SetAt K H S s) (hl : H l = some (.lst (xs.map V.int))) (kk : ∀ q H1, H1 q = some (.lst ((fingL s seat xs).map ov)) → Kp [] H H1 → H q = none → Q (.ref q) H1) : sp_fingers K [.ref S, .int seat, .ref l] H Q E := ⟨_, _, _, _, _, rfl, hS, hl, kk⟩
theorem f_fingers (T : Cx K mg) (B : Tb K mg base) : ∃ fd, FunD K "fingers" "fingers" (defArgs s_fingers) (defBody s_fingers) (defScope s_fingers) (d_fingers.dvs K) (d_fingers.kws K) (fAd K d_fingers.at_) fd ∧ FnOk P w K mg base CX0 5 (fAd K d_fingers.at_) fd p_fingers (sp_fingers K) := by
  have c_Setting_seats := c_Setting_seats (P := P) (w := w) (base := base) T B
  have c_nearest := c_nearest (P := P) (w := w) (base := base) T B
  obtain ⟨fd, F⟩ := T.says.def_ 9 (d := d_fingers) rfl
  refine ⟨fd, F, fnD F sc_fingers (fun vs H Q E h => by
    obtain ⟨_, _, _, _, _, rfl, _⟩ := h
    rfl) fun cdv A outer s H vs Q E hr h => ?_⟩
  have hu := hu_of hr
  obtain ⟨S, l, s, seat, xs, rfl, hS, hl, kk⟩ := h
  refine ⟨_, (pss_cons (ps_set (i := 3) sc_fingers.nd rfl (by first | exact Or.inl rfl | exact Or.inr rfl) (pe_lst pa_nil)) (pss_cons (ps_set (i := 4) sc_fingers.nd rfl (by first | exact Or.inl rfl | exact Or.inr rfl) (pe_prpX c_Setting_seats hr (by decide) pass0 (pv 0))) (pss_cons (ps_for PassesOwn.never rfl (pi_range1 (by rfl) (fr_range T) (pa_cons (pe_fld (pv 0) rfl) pa_nil)) (pg_name (i := 5) sc_fingers.nd rfl (by first | exact Or.inl rfl | exact Or.inr rfl)) (pss_cons (ps_set (i := 4) sc_fingers.nd rfl (by first | exact Or.inl rfl | exact Or.inr rfl) (pe_op op_fdiv (pv 4) pe_int)) (pss_one (ps_expr (pe_bm PySem.F.plainAttrs_list PySem.F.slot_list_append PySem.F.type_list_append mt_append (pv 3) (pa_cons (pe_cal c_nearest hr (by decide) (by rfl) pass0 (pa_cons (pv 0) (pa_cons (pv 1) (pa_cons (pv 4) (pa_cons (pv 2) pa_nil))))) pa_nil)))))) (pss_one (ps_ret (pv 3)))))), ?_⟩
  rw [show L2.start n_fingers [.ref S, .int seat, .ref l] = [some (.ref S), some (.int seat), some (.ref l), none, none, none] from rfl]
  try dsimp only [cxOf, Cx.nox, Cx.wish, List.map]

  obtain ⟨⟨dx, hp⟩, ok⟩ := id hS
  have b0 := ok.b0
  have b1 := ok.b1
  wtm_at "rd"
  refine ⟨sz1000 (by simp), fun q nq => ?_⟩
  wtm_at "rd"
  refine us_Setting_seats (hS.k0 (Kp.new nq)) ?_
  wtm_at "rd"
  refine forR_by (fun i σ H1 => (∃ v5, σ = [some (.ref S), some (.int seat), some (.ref l), some (.ref q), some (.int (2 ^ (s.bits.toNat - i))), v5]) ∧ H1 q = some (.lst ((((List.range i).map fun k => nearO s.ring seat (2 ^ (s.bits.toNat - 1 - k)) xs)).map ov)) ∧ Kp [] H H1) ⟨⟨_, by rw [Stg.ring_eq]; rfl⟩, upd_same, Kp.new nq⟩ ?_ ?_
  · rintro i σ H1 hi ⟨⟨v5, rfl⟩, hq, k1⟩
    have sl : (((List.range i).map fun k => nearO s.ring seat (2 ^ (s.bits.toNat - 1 - k)) xs).map ov).length < sizeLine := szlt (by rw [List.length_map, List.length_map, List.length_range]; omega)
    wtm_at "rd"
    rw [ring_half hi]
    refine us_nearest (hS.k0 k1) (k1.g0 hl) ?_
    wtm_at "rd"
    refine ⟨⟨some (.int (0 + (i : Int))), ?_⟩, ?_, k1.mine nq⟩
    · rw [show s.bits.toNat - (i + 1) = s.bits.toNat - 1 - i by omega]
      rfl
    · rw [upd_same, List.range_succ, List.map_append, List.map_append]
      rfl
  · rintro σ H1 ⟨⟨v5, rfl⟩, hq, k1⟩
    wtm_at "rd"
    exact kk q H1 hq k1 nq
theorem c_fingers (T : Cx K mg) (B : Tb K mg base) : CalX P w K mg base CX0 5 "fingers" (sp_fingers K) [] := by
  obtain ⟨fd, F, ok⟩ := f_fingers (P := P) (w := w) (base := base) T B
  exact ⟨_, fd, p_fingers, [], ok, gl_fingers T, F.kp, FunD.bindsN F fun _ _ _ _ _ _ us hl => match us, hl with | [_, _, _], _ => rfl, .nil⟩
end
section
variable {P : Program} {w : World} {K : PySem.W.Frag} {mg : Str → Option Value} {base : Heap}
def sp_finger_table (K : PySem.W.Frag) : Sp := fun vs H Q E => ∃ (S l : Addr) (s : Stg) (xs : List Int), vs = [.ref S, .ref l] ∧ (SetAt K H S s) ∧ (H l = some (.lst (xs.map V.int))) ∧ (xs.Nodup) ∧ (xs.length ≤ 256) ∧ (∀ d H1, TabAt H1 d s xs → Kp [] H H1 → H d = none → Q (.ref d) H1)
theorem us_finger_table {K : PySem.W.Frag} {H : Hp} {Q : VK} {E : XK} {S l : Addr} {s : Stg} {xs : List Int} (hS : SetAt K H S s) (hl : H l = some (.lst (xs.map V.int))) (nd : xs.Nodup) (hn : xs.length ≤ 256) (kk : ∀ d H1, TabAt H1 d s xs → Kp [] H H1 → H d = none → Q (.ref d) H1) : sp_finger_table K [.ref S, .ref l] H Q E := ⟨_, _, _, _, rfl, hS, hl, nd, hn, kk⟩
theorem f_finger_table (T : Cx K mg) (B : Tb K mg base) : ∃ fd, FunD K "finger_table" "finger_table" (defArgs s_finger_table) (defBody s_finger_table) (defScope s_finger_table) (d_finger_table.dvs K) (d_finger_table.kws K) (fAd K d_finger_table.at_) fd ∧ FnOk P w K mg base CX0 6 (fAd K d_finger_table.at_) fd p_finger_table (sp_finger_table K) := by
  have c_fingers := c_fingers (P := P) (w := w) (base := base) T B
  obtain ⟨fd, F⟩ := T.says.def_ 10 (d := d_finger_table) rfl
  refine ⟨fd, F, fnD F sc_finger_table (fun vs H Q E h => by
    obtain ⟨_, _, _, _, rfl, _⟩ := h
    rfl) fun cdv A outer s H vs Q E hr h => ?_⟩
  have hu := hu_of hr
  obtain ⟨S, l, s, xs, rfl, hS, hl, nd, hn, kk⟩ := h
  refine ⟨_, (pss_one (ps_ret (pe_dc (own := [("seat", 2)]) (g := (gName 2)) (tt := tYes) rfl sc_finger_table.nd (pi_list (pv 1)) (blkOk_by (own := [("seat", 2)]) (N := n_finger_table) (sc := defScope s_finger_table) (by decide +kernel)) (fun _ _ _ _ _ => (pg_name (i := 2) sc_finger_table.nd rfl (by first | exact Or.inl rfl | exact Or.inr rfl))) (fun _ _ _ _ _ => pts_nil) (fun _ _ _ _ _ => (pv 2)) (fun _ _ _ _ _ => (pe_cal c_fingers hr (by decide) (by rfl) pass0 (pa_cons (pv 0) (pa_cons (pv 2) (pa_cons (pv 1) pa_nil)))))))), ?_⟩
  rw [show L2.start n_finger_table [.ref S, .ref l] = [some (.ref S), some (.ref l), none] from rfl]
  try dsimp only [cxOf, Cx.nox, Cx.wish, List.map]

  wtm_at "rd"
  intro D hD
  refine dcL_ints xs (fun i H1 => (∃ f : Int → Addr, H1 D = some (.dK (dmap (xs.take i) fun x => .ref (f x))) ∧ ∀ x, x ∈ xs.take i → H1 (f x) = some (.lst ((fingL s x xs).map ov))) ∧ Kp [] H H1) ⟨⟨fun _ => 0, upd_same, fun x hx => by cases hx⟩, Kp.new hD⟩ (fun i H1 _ q => SqL.of (q.2.g0 hl)) ?_ ?_
  · rintro i hi H1 ⟨⟨f, h1, h2⟩, k1⟩
    have ni : xs[i] ∉ xs.take i := fun m => by
      obtain ⟨j, hj, e⟩ := List.mem_take_iff_getElem.mp m
      have := (List.getElem_inj nd).mp e
      omega
    wtm_at "rd"
    refine ⟨rfl, ?_⟩
    wtm_at "rd"
    refine us_fingers (hS.k0 k1) (k1.g0 hl) fun q H2 hq k2 nq => ?_
    have h1' := k2.g0 h1
    refine ⟨_, .inl xs[i], rfl, h1', szlt (by rw [dmap_len, List.length_take]; omega), ⟨fset f xs[i] q, ?_, fun x hx => ?_⟩, (k1.trans k2).mine hD⟩
    · rw [upd_same, dmap_new ni, List.take_succ_eq_append_getElem hi]
      congr 2
      refine dmap_congr fun x _ => ?_
      unfold fset
      split <;> rfl
    · rw [List.take_succ_eq_append_getElem hi] at hx
      rcases List.mem_append.mp hx with hx | hx
      · have hne : x ≠ xs[i] := fun e => ni (e ▸ hx)
        have h3 := k2.g0 (h2 x hx)
        rw [show fset f xs[i] q x = f x from if_neg hne]
        exact hu_ne (ne_of h3 h1' (by intro z; cases z)) h3
      · rw [List.mem_singleton.mp hx, show fset f xs[i] q xs[i] = q from if_pos rfl]
        exact hu_ne (ne_of hq h1' (by intro z; cases z)) hq
  · rintro H1 ⟨⟨f, h1, h2⟩, k1⟩
    rw [List.take_length] at h1 h2
    exact kk D H1 ⟨f, h1, h2⟩ k1 hD
theorem c_finger_table (T : Cx K mg) (B : Tb K mg base) : CalX P w K mg base CX0 6 "finger_table" (sp_finger_table K) [] := by
  obtain ⟨fd, F, ok⟩ := f_finger_table (P := P) (w := w) (base := base) T B
  exact ⟨_, fd, p_finger_table, [], ok, gl_finger_table T, F.kp, FunD.bindsN F fun _ _ _ _ _ _ us hl => match us, hl with | [_, _], _ => rfl, .nil⟩
end
section
variable {P : Program} {w : World} {K : PySem.W.Frag} {mg : Str → Option Value} {base : Heap}
def sp_called_at (K : PySem.W.Frag) : Sp := fun vs H Q E => ∃ (S d : Addr) (s : Stg) (seat beat : Int) (xs : List Int), vs = [.ref S, .ref d, .int seat, .int beat] ∧ (SetAt K H S s) ∧ (TabAt H d s xs) ∧ (seat ∈ xs) ∧ (Q (ov (callO s.bits s.pat xs seat beat)) H)
theorem us_called_at {K : PySem.W.Frag} {H : Hp} {Q : VK} {E : XK} {S d : Addr} {s : Stg} {seat beat : Int} {xs : List Int} (hS : SetAt K H S s) (hd : TabAt H d s xs) (hx : seat ∈ xs) (kk : Q (ov (callO s.bits s.pat xs seat beat)) H) : sp_called_at K [.ref S, .ref d, .int seat, .int beat] H Q E := ⟨_, _, _, _, _, _, rfl, hS, hd, hx, kk⟩
theorem f_called_at (T : Cx K mg) (B : Tb K mg base) : ∃ fd, FunD K "called_at" "called_at" (defArgs s_called_at) (defBody s_called_at) (defScope s_called_at) (d_called_at.dvs K) (d_called_at.kws K) (fAd K d_called_at.at_) fd ∧ FnOk P w K mg base CX0 2 (fAd K d_called_at.at_) fd p_called_at (sp_called_at K) := by
  have c_block_of := c_block_of (P := P) (w := w) (base := base) T B
  obtain ⟨fd, F⟩ := T.says.def_ 11 (d := d_called_at) rfl
  refine ⟨fd, F, fnD F sc_called_at (fun vs H Q E h => by
    obtain ⟨_, _, _, _, _, _, rfl, _⟩ := h
    rfl) fun cdv A outer s H vs Q E hr h => ?_⟩
  have hu := hu_of hr
  obtain ⟨S, d, s, seat, beat, xs, rfl, hS, hd, hx, kk⟩ := h
  refine ⟨_, (pss_cons (ps_set (i := 4) sc_called_at.nd rfl (by first | exact Or.inl rfl | exact Or.inr rfl) (pe_dget hu (pv 1) (pv 2) (fun _ _ => rfl))) (pss_one (ps_ret (pe_ix ix_list (pv 4) (pe_cal c_block_of hr (by decide) (by rfl) pass0 (pa_cons (pv 0) (pa_cons (pv 3) pa_nil))) (fun _ _ => rfl))))), ?_⟩
  rw [show L2.start n_called_at [.ref S, .ref d, .int seat, .int beat] = [some (.ref S), some (.ref d), some (.int seat), some (.int beat), none] from rfl]
  try dsimp only [cxOf, Cx.nox, Cx.wish, List.map]

  obtain ⟨f, h1, h2⟩ := hd
  have ok := hS.ok
  have p0 := ok.p0
  have b0 := ok.b0
  have b1 := ok.b1
  have lk : valV (dmap xs fun x => V.ref (f x)) (.inl seat) = some (.ref (f seat)) := dmap_in hx
  have hr := h2 seat hx
  wtm_at "rd"
  refine us_block_of hS ?_
  have m0 := Int.emod_nonneg (beat / s.pat) (show s.bits ≠ 0 by omega)
  have m1 := Int.emod_lt_of_pos (beat / s.pat) (show 0 < s.bits by omega)
  have hat : atI ((fingL s seat xs).map ov) (beat / s.pat % s.bits) = some (ov (callO s.bits s.pat xs seat beat)) := by
    unfold callO
    rw [← Stg.ring_eq]
    generalize beat / s.pat % s.bits = k at *
    obtain ⟨j, rfl⟩ := Int.eq_ofNat_of_zero_le m0
    refine atI_nat ?_
    unfold fingL
    rw [List.getElem?_map, List.getElem?_map, List.getElem?_range (by omega)]
    simp only [Option.map_some]
    rw [show s.bits.toNat - 1 - j = (s.bits - 1 - (j : Int)).toNat by omega]
  wtm_at "rd"
  exact kk
theorem c_called_at (T : Cx K mg) (B : Tb K mg base) : CalX P w K mg base CX0 2 "called_at" (sp_called_at K) [] := by
  obtain ⟨fd, F, ok⟩ := f_called_at (P := P) (w := w) (base := base) T B
  exact ⟨_, fd, p_called_at, [], ok, gl_called_at T, F.kp, FunD.bindsN F fun _ _ _ _ _ _ us hl => match us, hl with | [_, _, _, _], _ => rfl, .nil⟩
end
section
variable {P : Program} {w : World} {K : PySem.W.Frag} {mg : Str → Option Value} {base : Heap}
def sp_l_setting (K : PySem.W.Frag) : Sp := fun vs H Q E => ∃ (p c : Addr) (bits pat : Int), vs = [.ref p, .int bits, .int pat] ∧ (Purse H p c) ∧ (1 ≤ bits ∧ bits ≤ 8) ∧ (1 ≤ pat ∧ pat ≤ 6) ∧ (∀ S s H1, SetAt K H1 S s → s.bits = bits → s.pat = pat → Purse H1 p c → Kp [p] H H1 → Q (.ref S) H1)
theorem us_l_setting {K : PySem.W.Frag} {H : Hp} {Q : VK} {E : XK} {p c : Addr} {bits pat : Int} (hB : Purse H p c) (b : 1 ≤ bits ∧ bits ≤ 8) (pp : 1 ≤ pat ∧ pat ≤ 6) (kk : ∀ S s H1, SetAt K H1 S s → s.bits = bits → s.pat = pat → Purse H1 p c → Kp [p] H H1 → Q (.ref S) H1) : sp_l_setting K [.ref p, .int bits, .int pat] H Q E := ⟨_, _, _, _, rfl, hB, b, pp, kk⟩
theorem f_l_setting (T : Cx K mg) (B : Tb K mg base) : ∃ fd, FunD K "_law_setting" "_law_setting" (defArgs s_l_setting) (defBody s_l_setting) (defScope s_l_setting) (d_l_setting.dvs K) (d_l_setting.kws K) (fAd K d_l_setting.at_) fd ∧ FnOk P w K mg base CX0 4 (fAd K d_l_setting.at_) fd p_l_setting (sp_l_setting K) := by
  have c_l_draw := c_l_draw (P := P) (w := w) (base := base) T B
  have c_Setting_init := c_Setting_init (P := P) (w := w) (base := base) T B
  have c_Setting_init_grace_helpers := c_Setting_init_grace_helpers (P := P) (w := w) (base := base) T B
  obtain ⟨fd, F⟩ := T.says.def_ 12 (d := d_l_setting) rfl
  refine ⟨fd, F, fnD F sc_l_setting (fun vs H Q E h => by
    obtain ⟨_, _, _, _, rfl, _⟩ := h
    rfl) fun cdv A outer s H vs Q E hr h => ?_⟩
  have hu := hu_of hr
  obtain ⟨p, c, bits, pat, rfl, hB, b, pp, kk⟩ := h
  refine ⟨_, (pss_cons (ps_set (i := 3) sc_l_setting.nd rfl (by first | exact Or.inl rfl | exact Or.inr rfl) (pe_op op_add pe_int (pe_cal c_l_draw hr (by decide) (by rfl) pass0 (pa_cons (pv 0) (pa_cons pe_int pa_nil))))) (pss_cons (ps_if (pt_cmpR op_eq (pe_cal c_l_draw hr (by decide) (by rfl) pass0 (pa_cons (pv 0) (pa_cons pe_int pa_nil))) pe_int (nomark _)) (pss_one (ps_ret (pe_mak c_Setting_init hr (by decide) (by rfl) pass0 (pa_cons (pv 1) (pa_cons (pv 2) (pa_cons (pv 3) pa_nil)))))) pss_nil) (pss_cons (ps_set (i := 4) sc_l_setting.nd rfl (by first | exact Or.inl rfl | exact Or.inr rfl) (pe_op op_add pe_int (pe_cal c_l_draw hr (by decide) (by rfl) pass0 (pa_cons (pv 0) (pa_cons pe_int pa_nil))))) (pss_one (ps_ret (pe_makKX c_Setting_init_grace_helpers hr (by decide) (by rfl) pass0 (pa_cons (pv 1) (pa_cons (pv 2) (pa_cons (pv 3) pa_nil))) (pk_cons (pv 4) (pk_cons (pe_cal c_l_draw hr (by decide) (by rfl) pass0 (pa_cons (pv 0) (pa_cons pe_int pa_nil))) pk_nil)))))))), ?_⟩
  rw [show L2.start n_l_setting [.ref p, .int bits, .int pat] = [some (.ref p), some (.int bits), some (.int pat), none, none] from rfl]
  try dsimp only [cxOf, Cx.nox, Cx.wish, List.map]

  wtm_at "rd"
  refine us_l_draw hB (by decide) (by decide) fun n1 H1 n10 n11 B1 k1 => ?_
  wtm_at "rd"
  refine us_l_draw B1 (by decide) (by decide) fun n2 H2 n20 n21 B2 k2 => ?_
  have k2 := k1.trans k2
  wtm_at "rd"
  refine ite_d (fun h => ?_) (fun h => ?_)
  · wtm_at "rd"
    intro x dx nx ndx ne
    have nx2 : upd H2 dx (.own x) x = none := hn_ne (Ne.symm ne) nx
    have B3 : Purse (upd (upd H2 dx (.own x)) x (.ins (ga K "Setting") dx [])) p c := (B2.new ndx).new nx2
    refine us_Setting_init (s := ⟨bits, pat, 1 + n1, 6, 1⟩) upd_same ⟨b.1, b.2, pp.1, pp.2, by show 1 ≤ 1 + n1; omega, by show 1 + n1 ≤ 64; omega, by show (1 : Int) ≤ 6; decide, by show (6 : Int) ≤ 200; decide, by show (0 : Int) ≤ 1; decide, by show (1 : Int) ≤ 3; decide⟩ fun H3 S3 k3 => ⟨rfl, ?_⟩
    exact kk x _ H3 S3 rfl rfl (B3.k1 k3 (B2.ne1 nx) (B2.ne2 nx)) (((k2.nw ndx).nw nx2).via1 k3 (B2.fr k2 nx))
  · wtm_at "rd"
    refine us_l_draw B2 (by decide) (by decide) fun n3 H3 n30 n31 B3 k3 => ?_
    have k3 := k2.trans k3
    wtm_at "rd"
    refine us_l_draw B3 (by decide) (by decide) fun n4 H4 n40 n41 B4 k4 => ?_
    have k4 := k3.trans k4
    wtm_at "rd"
    refine ⟨rfl, rfl, fun x dx nx ndx ne => ?_⟩
    have nx2 : upd H4 dx (.own x) x = none := hn_ne (Ne.symm ne) nx
    have B5 : Purse (upd (upd H4 dx (.own x)) x (.ins (ga K "Setting") dx [])) p c := (B4.new ndx).new nx2
    refine us_Setting_init (s := ⟨bits, pat, 1 + n1, 1 + n3, n4⟩) upd_same ⟨b.1, b.2, pp.1, pp.2, by show 1 ≤ 1 + n1; omega, by show 1 + n1 ≤ 64; omega, by show 1 ≤ 1 + n3; omega, by show 1 + n3 ≤ 200; omega, by show 0 ≤ n4; omega, by show n4 ≤ 3; omega⟩ fun H5 S5 k5 => ⟨rfl, ?_⟩
    exact kk x _ H5 S5 rfl rfl (B5.k1 k5 (B4.ne1 nx) (B4.ne2 nx)) (((k4.nw ndx).nw nx2).via1 k5 (B4.fr k4 nx))
theorem c_l_setting (T : Cx K mg) (B : Tb K mg base) : CalX P w K mg base CX0 4 "_law_setting" (sp_l_setting K) [] := by
  obtain ⟨fd, F, ok⟩ := f_l_setting (P := P) (w := w) (base := base) T B
  exact ⟨_, fd, p_l_setting, [], ok, gl_l_setting T, F.kp, FunD.bindsN F fun _ _ _ _ _ _ us hl => match us, hl with | [_, _, _], _ => rfl, .nil⟩
end
section
variable {P : Program} {w : World} {K : PySem.W.Frag} {mg : Str → Option Value} {base : Heap}
def sp_l_table (K : PySem.W.Frag) : Sp := fun vs H Q E => ∃ (l l2 : Addr) (bits : Int) (xs ys : List Int), vs = [.int bits, .ref l, .ref l2] ∧ (H l = some (.lst (xs.map V.int))) ∧ (H l2 = some (.lst (ys.map V.int))) ∧ (xs.Nodup) ∧ (ys.Nodup) ∧ (∀ z, z ∈ xs → 0 ≤ z ∧ z < 2 ^ bits.toNat) ∧ (xs.length ≤ 256) ∧ (ys.length ≤ 256) ∧ (1 ≤ bits ∧ bits ≤ 8) ∧ (∀ tb H1, TabG H1 tb bits xs ys → Kp [] H H1 → H tb = none → Q (.ref tb) H1)
theorem us_l_table {K : PySem.W.Frag} {H : Hp} {Q : VK} {E : XK} {l l2 : Addr} {bits : Int} {xs ys : List Int} (hl : H l = some (.lst (xs.map V.int))) (hl2 : H l2 = some (.lst (ys.map V.int))) (nd : xs.Nodup) (nd2 : ys.Nodup) (hx : ∀ z, z ∈ xs → 0 ≤ z ∧ z < 2 ^ bits.toNat) (hn : xs.length ≤ 256) (hn2 : ys.length ≤ 256) (b : 1 ≤ bits ∧ bits ≤ 8) (kk : ∀ tb H1, TabG H1 tb bits xs ys → Kp [] H H1 → H tb = none → Q (.ref tb) H1) : sp_l_table K [.int bits, .ref l, .ref l2] H Q E := ⟨_, _, _, _, _, rfl, hl, hl2, nd, nd2, hx, hn, hn2, b, kk⟩
theorem f_l_table (T : Cx K mg) (B : Tb K mg base) : ∃ fd, FunD K "_law_table" "_law_table" (defArgs s_l_table) (defBody s_l_table) (defScope s_l_table) (d_l_table.dvs K) (d_l_table.kws K) (fAd K d_l_table.at_) fd ∧ FnOk P w K mg base CX0 1 (fAd K d_l_table.at_) fd p_l_table (sp_l_table K) := by
  obtain ⟨fd, F⟩ := T.says.def_ 13 (d := d_l_table) rfl
  refine ⟨fd, F, fnD F sc_l_table (fun vs H Q E h => by
    obtain ⟨_, _, _, _, _, rfl, _⟩ := h
    rfl) fun cdv A outer s H vs Q E hr h => ?_⟩
  have hu := hu_of hr
  obtain ⟨l, l2, bits, xs, ys, rfl, hl, hl2, nd, nd2, hx, hn, hn2, b, kk⟩ := h
  refine ⟨_, (pss_cons (ps_set (i := 3) sc_l_table.nd rfl (by first | exact Or.inl rfl | exact Or.inr rfl) (pe_op op_shl pe_int (pv 0))) (pss_cons (ps_set (i := 4) sc_l_table.nd rfl (by first | exact Or.inl rfl | exact Or.inr rfl) pe_dnewK) (pss_cons (ps_for PassesOwn.never rfl (pi_list (pv 1)) (pg_name (i := 5) sc_l_table.nd rfl (by first | exact Or.inl rfl | exact Or.inr rfl)) (pss_one (ps_dput hu (pv 4) (pv 5) pe_bl rfl))) (pss_cons (ps_set (i := 6) sc_l_table.nd rfl (by first | exact Or.inl rfl | exact Or.inr rfl) (pe_lst pa_nil)) (pss_cons (ps_for PassesOwn.never rfl (pi_range1 (by rfl) (fr_range T) (pa_cons (pv 0) pa_nil)) (pg_name (i := 7) sc_l_table.nd rfl (by first | exact Or.inl rfl | exact Or.inr rfl)) (pss_cons (ps_set (i := 8) sc_l_table.nd rfl (by first | exact Or.inl rfl | exact Or.inr rfl) pe_dnewK) (pss_cons (ps_for PassesOwn.never rfl (pi_list (pv 2)) (pg_name (i := 5) sc_l_table.nd rfl (by first | exact Or.inl rfl | exact Or.inr rfl)) (pss_cons (ps_dput hu (pv 8) (pv 5) pe_non rfl) (pss_one (ps_for PassesOwn.never rfl (pi_range2 (by rfl) (fr_range T) (pa_cons (pe_op op_shl pe_int (pv 7)) (pa_cons (pv 3) pa_nil))) (pg_name (i := 9) sc_l_table.nd rfl (by first | exact Or.inl rfl | exact Or.inr rfl)) (pss_cons (ps_set (i := 10) sc_l_table.nd rfl (by first | exact Or.inl rfl | exact Or.inr rfl) (pe_op op_mod (pe_callTy call_int1' (by rfl) (fr_int T) (by decide +kernel) (pa_cons (pe_op op_add (pv 5) (pv 9)) pa_nil)) (pv 3))) (pss_one (ps_if (pt_cmp (pc_din hu (pv 10) (pv 4))) (pss_cons (ps_dput hu (pv 8) (pv 5) (pv 10) rfl) (pss_one ps_break)) pss_nil))))))) (pss_one (ps_expr (pe_bm PySem.F.plainAttrs_list PySem.F.slot_list_append PySem.F.type_list_append mt_append (pv 6) (pa_cons (pv 8) pa_nil))))))) (pss_one (ps_ret (pv 6)))))))), ?_⟩
  rw [show L2.start n_l_table [.int bits, .ref l, .ref l2] = [some (.int bits), some (.ref l), some (.ref l2), none, none, none, none, none, none, none, none] from rfl]
  try dsimp only [cxOf, Cx.nox, Cx.wish, List.map]

  have rg : Ring (2 ^ bits.toNat) := ring_pow b.1 b.2
  have rp := rg.pos
  have rl := rg.le
  wtm_at "rd"
  rw [Int.one_mul]
  intro th nth
  have k0 : Kp [] H (upd H th (.dK [])) := Kp.new nth
  have h0 : upd H th (.dK []) th = some (.dK (dmap (xs.take 0) fun _ => V.bl true)) := upd_same
  generalize upd H th (.dK []) = H0 at *
  have hl0 := k0.g0 hl
  wtm_at "rd"
  refine forL_ints (K := K) xs (fun i σ H1 => (∃ v5, σ = [some (.int bits), some (.ref l), some (.ref l2), some (.int (2 ^ bits.toNat)), some (.ref th), v5, none, none, none, none, none]) ∧ H1 th = some (.dK (dmap (xs.take i) fun _ => V.bl true)) ∧ Kp [] H H1) ⟨⟨_, rfl⟩, h0, k0⟩ (fun i σ H1 _ q => SqL.of (q.2.2.g0 hl)) ?_ ?_
  · rintro i hi σ H1 ⟨⟨v5, rfl⟩, h1, k1⟩
    have sk : (dmap (xs.take i) fun _ => V.bl true).length < sizeLine := szlt (by rw [dmap_len, List.length_take]; omega)
    wtm_at "rd"
    refine ⟨⟨_, rfl⟩, ?_, k1.mine nth⟩
    rw [upd_same, dmap_new (nd_take nd hi), List.take_succ_eq_append_getElem hi]
    congr 2
    refine dmap_congr fun x _ => ?_
    unfold fset
    split <;> rfl
  rintro σ H1 ⟨⟨v5, rfl⟩, h1, k1⟩
  rw [List.take_length] at h1
  clear h0 k0 hl0 H0
  wtm_at "rd"
  refine ⟨sz1000 (by simp), fun tb ntb => ?_⟩
  have ntb0 := k1.back ntb (by simp)
  have nth2 : th ≠ tb := ne_of_none h1 ntb
  have h2 : upd H1 tb (.lst []) th = _ := hu_ne nth2 h1
  have k2 := k1.nw (o := .lst []) ntb
  have t2 : upd H1 tb (.lst []) tb = some (.lst ((List.range 0).map fun k => V.ref ((fun _ => 0) k))) := upd_same
  generalize upd H1 tb (.lst []) = H2 at *
  wtm_at "rd"
  refine forR_by (fun k σ H3 => (∃ v5 v7 v8 v9 v10, σ = [some (.int bits), some (.ref l), some (.ref l2), some (.int (2 ^ bits.toNat)), some (.ref th), v5, some (.ref tb), v7, v8, v9, v10]) ∧ H3 th = some (.dK (dmap xs fun _ => V.bl true)) ∧
    (∃ f : Nat → Addr, H3 tb = some (.lst ((List.range k).map fun k => V.ref (f k))) ∧ ∀ j, j < k → H3 (f j) = some (.dK (dmap ys fun x => ov (nearO (2 ^ bits.toNat) x (2 ^ j) xs)))) ∧ Kp [] H H3) ⟨⟨_, _, _, _, _, rfl⟩, h2, ⟨_, t2, fun j hj => absurd hj (Nat.not_lt_zero _)⟩, k2⟩ ?_ ?_
  · clear t2 k2 h2 h1 k1 H2
    rintro k σ H3 hk ⟨⟨v5, v7, v8, v9, v10, rfl⟩, h3, ⟨f, t3, f3⟩, k3⟩
    wtm_at "rd"
    intro ln nln
    have nln0 := k3.back nln (by simp)
    have k4 : Kp [] H3 (upd H3 ln (.dK [])) := Kp.new nln
    have l4 : upd H3 ln (.dK []) ln = some (.dK (dmap (ys.take 0) fun x => ov (nearO (2 ^ bits.toNat) x (2 ^ k) xs))) := upd_same
    generalize upd H3 ln (.dK []) = H4 at *
    have hl4 := (k3.trans k4).g0 hl2
    wtm_at "rd"
    refine forL_ints (K := K) ys (fun j σ H5 => (∃ v5 v9 v10, σ = [some (.int bits), some (.ref l), some (.ref l2), some (.int (2 ^ bits.toNat)), some (.ref th), v5, some (.ref tb), some (.int (0 + (k : Int))), some (.ref ln), v9, v10]) ∧ H5 ln = some (.dK (dmap (ys.take j) fun x => ov (nearO (2 ^ bits.toNat) x (2 ^ k) xs))) ∧ Kp [] H3 H5) ⟨⟨_, _, _, rfl⟩, l4, k4⟩ (fun i σ H1 _ q => SqL.of ((k3.trans q.2.2).g0 hl2)) ?_ ?_
    · rintro j hj σ H5 ⟨⟨v5, v9, v10, rfl⟩, l5, k5⟩
      have sk : (dmap (ys.take j) fun x => ov (nearO (2 ^ bits.toNat) x (2 ^ k) xs)).length < sizeLine := szlt (by rw [dmap_len, List.length_take]; omega)
      have njt := nd_take nd2 hj
      have e5 : putK (dmap (ys.take j) fun x => ov (nearO (2 ^ bits.toNat) x (2 ^ k) xs)) (.inl ys[j]) .non = dmap (ys.take (j + 1)) (fset (fun x => ov (nearO (2 ^ bits.toNat) x (2 ^ k) xs)) ys[j] .non) := by
        rw [dmap_new njt, List.take_succ_eq_append_getElem hj]
      have fin : ∀ o, o = nearO (2 ^ bits.toNat) ys[j] (2 ^ k) xs → dmap (ys.take (j + 1)) (fset (fun x => ov (nearO (2 ^ bits.toNat) x (2 ^ k) xs)) ys[j] (ov o)) = dmap (ys.take (j + 1)) fun x => ov (nearO (2 ^ bits.toNat) x (2 ^ k) xs) := fun o ho => by
        subst ho
        refine dmap_congr fun x _ => ?_
        unfold fset
        split
        · rename_i e
          rw [e]
        · rfl
      wtm_at "rd"
      rw [e5]
      have l6 : upd H5 ln (.dK (dmap (ys.take (j + 1)) (fset (fun x => ov (nearO (2 ^ bits.toNat) x (2 ^ k) xs)) ys[j] .non))) ln = some (.dK (dmap (ys.take (j + 1)) (fset (fun x => ov (nearO (2 ^ bits.toNat) x (2 ^ k) xs)) ys[j] .non))) := upd_same
      have k6 := k5.mine (o := .dK (dmap (ys.take (j + 1)) (fset (fun x => ov (nearO (2 ^ bits.toNat) x (2 ^ k) xs)) ys[j] .non))) nln
      generalize upd H5 ln (.dK (dmap (ys.take (j + 1)) (fset (fun x => ov (nearO (2 ^ bits.toNat) x (2 ^ k) xs)) ys[j] .non))) = H6 at *
      have h6 := k6.g0 h3
      have zk : (0 + (k : Int)).toNat = k := by omega
      have kb : k < bits.toNat := hk
      have p2 : (2 : Int) ^ k ≤ 2 ^ bits.toNat := by exact_mod_cast Nat.pow_le_pow_right (by decide) (Nat.le_of_lt kb)
      have p1 : (1 : Int) ≤ 2 ^ k := by exact_mod_cast Nat.one_le_two_pow
      wtm_at "rd"
      rw [zk, Int.one_mul]
      refine ⟨_, _, rfl, ⟨by omega, by omega, by omega, by omega⟩, ?_⟩
      refine forR_by (fun w σ H7 => (∃ v9 v10, σ = [some (.int bits), some (.ref l), some (.ref l2), some (.int (2 ^ bits.toNat)), some (.ref th), some (.int ys[j]), some (.ref tb), some (.int (0 + (k : Int))), some (.ref ln), v9, v10]) ∧ H7 = H6 ∧ ∀ u : Int, 2 ^ k ≤ u → u < 2 ^ k + w → (ys[j] + u) % 2 ^ bits.toNat ∉ xs) ⟨⟨_, _, rfl⟩, rfl, fun u a b => by omega⟩ ?_ ?_
      · rintro w σ H7 hw ⟨⟨v9, v10, rfl⟩, rfl, hf⟩
        have sk2 : (dmap (ys.take (j + 1)) (fset (fun x => ov (nearO (2 ^ bits.toNat) x (2 ^ k) xs)) ys[j] .non)).length < sizeLine := szlt (by rw [dmap_len, List.length_take]; omega)
        wtm_at "rd"
        rw [dmap_some]
        refine ite_d (fun h => ?_) (fun h => ?_)
        · wtm_at "rd"
          refine ⟨⟨_, _, _, rfl⟩, ?_, k6.mine nln⟩
          rw [upd_same, dmap_old (by rw [List.take_succ_eq_append_getElem hj]; exact List.mem_append_right _ (List.mem_singleton.mpr rfl))]
          have e6 := fin (some ((ys[j] + (2 ^ k + (w : Int))) % 2 ^ bits.toNat)) (near_some rg hx (by omega) (by omega) (by omega) h hf).symm
          rw [← e6]
          congr 2
          refine dmap_congr fun x _ => ?_
          by_cases e : x = ys[j] <;> simp [fset, e, ov]
        · wtm_at "rd"
          refine ⟨⟨_, _, rfl⟩, rfl, fun u u0 u1 => ?_⟩
          by_cases e : u = 2 ^ k + w
          · rw [e]
            exact h
          · exact hf u u0 (by omega)
      · rintro σ H7 ⟨⟨v9, v10, rfl⟩, rfl, hf⟩
        have e6 := fin none (near_none rg hx fun w w0 w1 => hf w w0 (by omega)).symm
        exact ⟨⟨_, _, _, rfl⟩, by rw [← e6]; exact l6, k6⟩
    · rintro σ H5 ⟨⟨v5, v9, v10, rfl⟩, l5, k5⟩
      rw [List.take_length] at l5
      have t5 := k5.g0 t3
      have sl : ((List.range k).map fun k => V.ref (f k)).length < sizeLine := szlt (by rw [List.length_map, List.length_range]; omega)
      wtm_at "rd"
      have nlt : ln ≠ tb := ne_of l5 t5 (by intro z; cases z)
      refine ⟨⟨_, _, _, _, _, rfl⟩, hu_ne (ne_of (k5.g0 h3) t5 (by intro z; cases z)) (k5.g0 h3), ⟨fun i => if i = k then ln else f i, ?_, fun i hi => ?_⟩, (k3.trans k5).mine ntb0⟩
      · rw [upd_same, List.range_succ, List.map_append]
        congr 3
        · refine List.map_congr_left fun i hi => ?_
          rw [List.mem_range] at hi
          show V.ref (f i) = V.ref (if i = k then ln else f i)
          rw [if_neg (by omega)]
        · simp
      · show upd H5 tb _ (if i = k then ln else f i) = _
        by_cases e : i = k
        · rw [if_pos e, e]
          exact hu_ne nlt l5
        · rw [if_neg e]
          have h7 := k5.g0 (f3 i (by omega))
          exact hu_ne (ne_of h7 t5 (by intro z; cases z)) h7
  · rintro σ H3 ⟨⟨v5, v7, v8, v9, v10, rfl⟩, h3, ⟨f, t3, f3⟩, k3⟩
    wtm_at "rd"
    exact kk tb H3 ⟨f, t3, f3⟩ k3 ntb0
theorem c_l_table (T : Cx K mg) (B : Tb K mg base) : CalX P w K mg base CX0 1 "_law_table" (sp_l_table K) [] := by
  obtain ⟨fd, F, ok⟩ := f_l_table (P := P) (w := w) (base := base) T B
  exact ⟨_, fd, p_l_table, [], ok, gl_l_table T, F.kp, FunD.bindsN F fun _ _ _ _ _ _ us hl => match us, hl with | [_, _, _], _ => rfl, .nil⟩
end
section
variable {P : Program} {w : World} {K : PySem.W.Frag} {mg : Str → Option Value} {base : Heap}
def sp_phase_of (K : PySem.W.Frag) : Sp := fun vs H Q E => ∃ (S : Addr) (s : Stg) (beat : Int), vs = [.ref S, .int beat] ∧ (SetAt K H S s) ∧ (Q (.int (s.bits - 1 - (beat / s.pat) % s.bits)) H)
theorem us_phase_of {K : PySem.W.Frag} {H : Hp} {Q : VK} {E : XK} {S : Addr} {s : Stg} {beat : Int} (hS : SetAt K H S s) (kk : Q (.int (s.bits - 1 - (beat / s.pat) % s.bits)) H) : sp_phase_of K [.ref S, .int beat] H Q E := ⟨_, _, _, rfl, hS, kk⟩
theorem f_phase_of (T : Cx K mg) (B : Tb K mg base) : ∃ fd, FunD K "phase_of" "phase_of" (defArgs s_phase_of) (defBody s_phase_of) (defScope s_phase_of) (d_phase_of.dvs K) (d_phase_of.kws K) (fAd K d_phase_of.at_) fd ∧ FnOk P w K mg base CX0 2 (fAd K d_phase_of.at_) fd p_phase_of (sp_phase_of K) := by
  have c_block_of := c_block_of (P := P) (w := w) (base := base) T B
  obtain ⟨fd, F⟩ := T.says.def_ 14 (d := d_phase_of) rfl
  refine ⟨fd, F, fnD F sc_phase_of (fun vs H Q E h => by
    obtain ⟨_, _, _, rfl, _⟩ := h
    rfl) fun cdv A outer s H vs Q E hr h => ?_⟩
  have hu := hu_of hr
  obtain ⟨S, s, beat, rfl, hS, kk⟩ := h
  refine ⟨_, (pss_one (ps_ret (pe_op op_sub (pe_op op_sub (pe_fld (pv 0) rfl) pe_int) (pe_cal c_block_of hr (by decide) (by rfl) pass0 (pa_cons (pv 0) (pa_cons (pv 1) pa_nil)))))), ?_⟩
  rw [show L2.start n_phase_of [.ref S, .int beat] = [some (.ref S), some (.int beat)] from rfl]
  try dsimp only [cxOf, Cx.nox, Cx.wish, List.map]

  obtain ⟨⟨dx, hp⟩, ok⟩ := id hS
  wtm_at "rd"
  refine us_block_of hS ?_
  wtm_at "rd"
  exact kk
theorem c_phase_of (T : Cx K mg) (B : Tb K mg base) : CalX P w K mg base CX0 2 "phase_of" (sp_phase_of K) [] := by
  obtain ⟨fd, F, ok⟩ := f_phase_of (P := P) (w := w) (base := base) T B
  exact ⟨_, fd, p_phase_of, [], ok, gl_phase_of T, F.kp, FunD.bindsN F fun _ _ _ _ _ _ us hl => match us, hl with | [_, _], _ => rfl, .nil⟩
end
section
variable {P : Program} {w : World} {K : PySem.W.Frag} {mg : Str → Option Value} {base : Heap}
def sp_offset_of (K : PySem.W.Frag) : Sp := fun vs H Q E => ∃ (S : Addr) (s : Stg) (beat : Int), vs = [.ref S, .int beat] ∧ (SetAt K H S s) ∧ (Q (.int (2 ^ (s.bits - 1 - (beat / s.pat) % s.bits).toNat)) H)
theorem us_offset_of {K : PySem.W.Frag} {H : Hp} {Q : VK} {E : XK} {S : Addr} {s : Stg} {beat : Int} (hS : SetAt K H S s) (kk : Q (.int (2 ^ (s.bits - 1 - (beat / s.pat) % s.bits).toNat)) H) : sp_offset_of K [.ref S, .int beat] H Q E := ⟨_, _, _, rfl, hS, kk⟩
theorem f_offset_of (T : Cx K mg) (B : Tb K mg base) : ∃ fd, FunD K "offset_of" "offset_of" (defArgs s_offset_of) (defBody s_offset_of) (defScope s_offset_of) (d_offset_of.dvs K) (d_offset_of.kws K) (fAd K d_offset_of.at_) fd ∧ FnOk P w K mg base CX0 3 (fAd K d_offset_of.at_) fd p_offset_of (sp_offset_of K) := by
  have c_phase_of := c_phase_of (P := P) (w := w) (base := base) T B
  obtain ⟨fd, F⟩ := T.says.def_ 15 (d := d_offset_of) rfl
  refine ⟨fd, F, fnD F sc_offset_of (fun vs H Q E h => by
    obtain ⟨_, _, _, rfl, _⟩ := h
    rfl) fun cdv A outer s H vs Q E hr h => ?_⟩
  have hu := hu_of hr
  obtain ⟨S, s, beat, rfl, hS, kk⟩ := h
  refine ⟨_, (pss_one (ps_ret (pe_op op_shl pe_int (pe_cal c_phase_of hr (by decide) (by rfl) pass0 (pa_cons (pv 0) (pa_cons (pv 1) pa_nil)))))), ?_⟩
  rw [show L2.start n_offset_of [.ref S, .int beat] = [some (.ref S), some (.int beat)] from rfl]
  try dsimp only [cxOf, Cx.nox, Cx.wish, List.map]

  have ok := hS.ok
  have b0 := ok.b0
  have b1 := ok.b1
  have m0 := Int.emod_nonneg (beat / s.pat) (show s.bits ≠ 0 by omega)
  have m1 := Int.emod_lt_of_pos (beat / s.pat) (show 0 < s.bits by omega)
  wtm_at "rd"
  refine us_phase_of hS ?_
  wtm_at "rd"
  rw [Int.one_mul]
  exact kk
theorem c_offset_of (T : Cx K mg) (B : Tb K mg base) : CalX P w K mg base CX0 3 "offset_of" (sp_offset_of K) [] := by
  obtain ⟨fd, F, ok⟩ := f_offset_of (P := P) (w := w) (base := base) T B
  exact ⟨_, fd, p_offset_of, [], ok, gl_offset_of T, F.kp, FunD.bindsN F fun _ _ _ _ _ _ us hl => match us, hl with | [_, _], _ => rfl, .nil⟩
end
section
variable {P : Program} {w : World} {K : PySem.W.Frag} {mg : Str → Option Value} {base : Heap}
def sp_target (K : PySem.W.Frag) : Sp := fun vs H Q E => ∃ (S l : Addr) (s : Stg) (seat beat : Int) (xs : List Int), vs = [.ref S, .int seat, .int beat, .ref l] ∧ (SetAt K H S s) ∧ (H l = some (.lst (xs.map V.int))) ∧ (Q (ov (callO s.bits s.pat xs seat beat)) H)
theorem us_target {K : PySem.W.Frag} {H : Hp} {Q : VK} {E : XK} {S l : Addr} {s : Stg} {seat beat : Int} {xs : List Int} (hS : SetAt K H S s) (hl : H l = some (.lst (xs.map V.int))) (kk : Q (ov (callO s.bits s.pat xs seat beat)) H) : sp_target K [.ref S, .int seat, .int beat, .ref l] H Q E := ⟨_, _, _, _, _, _, rfl, hS, hl, kk⟩
theorem f_target (T : Cx K mg) (B : Tb K mg base) : ∃ fd, FunD K "target" "target" (defArgs s_target) (defBody s_target) (defScope s_target) (d_target.dvs K) (d_target.kws K) (fAd K d_target.at_) fd ∧ FnOk P w K mg base CX0 5 (fAd K d_target.at_) fd p_target (sp_target K) := by
  have c_offset_of := c_offset_of (P := P) (w := w) (base := base) T B
  have c_nearest := c_nearest (P := P) (w := w) (base := base) T B
  obtain ⟨fd, F⟩ := T.says.def_ 16 (d := d_target) rfl
  refine ⟨fd, F, fnD F sc_target (fun vs H Q E h => by
    obtain ⟨_, _, _, _, _, _, rfl, _⟩ := h
    rfl) fun cdv A outer s H vs Q E hr h => ?_⟩
  have hu := hu_of hr
  obtain ⟨S, l, s, seat, beat, xs, rfl, hS, hl, kk⟩ := h
  refine ⟨_, (pss_one (ps_ret (pe_cal c_nearest hr (by decide) (by rfl) pass0 (pa_cons (pv 0) (pa_cons (pv 1) (pa_cons (pe_cal c_offset_of hr (by decide) (by rfl) pass0 (pa_cons (pv 0) (pa_cons (pv 2) pa_nil))) (pa_cons (pv 3) pa_nil))))))), ?_⟩
  rw [show L2.start n_target [.ref S, .int seat, .int beat, .ref l] = [some (.ref S), some (.int seat), some (.int beat), some (.ref l)] from rfl]
  try dsimp only [cxOf, Cx.nox, Cx.wish, List.map]

  wtm_at "rd"
  refine us_offset_of hS ?_
  wtm_at "rd"
  refine us_nearest hS hl ?_
  unfold callO at kk
  rw [← Stg.ring_eq] at kk
  exact kk
theorem c_target (T : Cx K mg) (B : Tb K mg base) : CalX P w K mg base CX0 5 "target" (sp_target K) [] := by
  obtain ⟨fd, F, ok⟩ := f_target (P := P) (w := w) (base := base) T B
  exact ⟨_, fd, p_target, [], ok, gl_target T, F.kp, FunD.bindsN F fun _ _ _ _ _ _ us hl => match us, hl with | [_, _, _, _], _ => rfl, .nil⟩
end
section
variable {P : Program} {w : World} {K : PySem.W.Frag} {mg : Str → Option Value} {base : Heap}
def sp_plan_rounds (K : PySem.W.Frag) : SpG := fun vs H Q E => ∃ (S l : Addr) (s : Stg) (start count : Int) (xs : List Int), vs = [.ref S, .ref l, .int start, .int count] ∧ (SetAt K H S s) ∧ (H l = some (.lst (xs.map V.int))) ∧ (xs.Nodup) ∧ (xs.length ≤ 256) ∧ (0 ≤ count ∧ count ≤ 1000) ∧ (∀ (os : List Int) (f : List Addr) H1, os.Perm xs → os.Pairwise (· ≤ ·) → Paired (RowP H1) f ((List.range count.toNat).map fun k : Nat => planRow s.bits s.pat xs os (start + k)) → Kp [] H H1 → Q (f.map V.ref) H1)
theorem us_plan_rounds {K : PySem.W.Frag} {H : Hp} {Q : List V → Hp → Prop} {E : XK} {S l : Addr} {s : Stg} {start count : Int} {xs : List Int} (hS : SetAt K H S s) (hl : H l = some (.lst (xs.map V.int))) (nd : xs.Nodup) (hn : xs.length ≤ 256) (hc : 0 ≤ count ∧ count ≤ 1000) (kk : ∀ (os : List Int) (f : List Addr) H1, os.Perm xs → os.Pairwise (· ≤ ·) → Paired (RowP H1) f ((List.range count.toNat).map fun k : Nat => planRow s.bits s.pat xs os (start + k)) → Kp [] H H1 → Q (f.map V.ref) H1) : sp_plan_rounds K [.ref S, .ref l, .int start, .int count] H Q E := ⟨_, _, _, _, _, _, rfl, hS, hl, nd, hn, hc, kk⟩
theorem f_plan_rounds (T : Cx K mg) (B : Tb K mg base) : ∃ fd, FunD K "plan_rounds" "plan_rounds" (defArgs s_plan_rounds) (defBody s_plan_rounds) (defScope s_plan_rounds) (d_plan_rounds.dvs K) (d_plan_rounds.kws K) (fAd K d_plan_rounds.at_) fd ∧ GFn P w K mg base 7 (fAd K d_plan_rounds.at_) fd p_plan_rounds (sp_plan_rounds K) := by
  have c_finger_table := c_finger_table (P := P) (w := w) (base := base) T B
  have c_called_at := c_called_at (P := P) (w := w) (base := base) T B
  obtain ⟨fd, F⟩ := T.says.def_ 17 (d := d_plan_rounds) rfl
  refine ⟨fd, F, fnGD F sc_plan_rounds (fun vs H Q E h => by
    obtain ⟨_, _, _, _, _, _, rfl, _⟩ := h
    rfl) fun cdv A outer s H vs Q E pn hr h => ?_⟩
  have hu := hu_of hr
  obtain ⟨S, l, s, start, count, xs, rfl, hS, hl, nd, hn, hc, kk⟩ := h
  refine ⟨_, (gss_cons (gs_ps (ps_set (i := 4) sc_plan_rounds.nd rfl (by first | exact Or.inl rfl | exact Or.inr rfl) (pe_cal c_finger_table hr (by decide) (by rfl) pass0 (pa_cons (pv 0) (pa_cons (pv 1) pa_nil))))) (gss_cons (gs_ps (ps_set (i := 5) sc_plan_rounds.nd rfl (by first | exact Or.inl rfl | exact Or.inr rfl) (pe_callB cr_sortedI (by rfl) (fr_sorted T) (by decide +kernel) (pa_cons (pv 1) pa_nil)))) (gss_cons (gs_for owns_gcx rfl (pi_range2B (by rfl) (fr_range T) (pa_cons (pv 2) (pa_cons (pe_op op_add (pv 2) (pv 3)) pa_nil))) (pg_name (i := 6) sc_plan_rounds.nd rfl (by first | exact Or.inl rfl | exact Or.inr rfl)) (gss_cons (gs_ps (ps_set (i := 7) sc_plan_rounds.nd rfl (by first | exact Or.inl rfl | exact Or.inr rfl) (pe_lst pa_nil))) (gss_cons (gs_ps (ps_for owns_gcx rfl (pi_list (pv 5)) (pg_name (i := 8) sc_plan_rounds.nd rfl (by first | exact Or.inl rfl | exact Or.inr rfl)) (pss_cons (ps_set (i := 9) sc_plan_rounds.nd rfl (by first | exact Or.inl rfl | exact Or.inr rfl) (pe_cal c_called_at hr (by decide) (by rfl) pass0 (pa_cons (pv 0) (pa_cons (pv 4) (pa_cons (pv 8) (pa_cons (pv 6) pa_nil)))))) (pss_one (ps_if (pt_cmp (pc_notN (pv 9))) (pss_one (ps_expr (pe_bm PySem.F.plainAttrs_list PySem.F.slot_list_append PySem.F.type_list_append mt_append (pv 7) (pa_cons (pe_tup (pa_cons (pv 8) (pa_cons (pv 9) pa_nil))) pa_nil)))) pss_nil))))) (gss_cons (gs_yield (pv 7)) gss_nil)))) gss_nil))), ?_⟩
  rw [show L2.start n_plan_rounds [.ref S, .ref l, .int start, .int count] = [some (.ref S), some (.ref l), some (.int start), some (.int count), none, none, none, none, none, none] from rfl]
  try dsimp only [cxOf, Cx.nox, Cx.wish, List.map]

  refine rd_gthen (rd_gplain ?_)
  try dsimp only
  wtm_at "rd"
  refine us_finger_table hS hl nd hn fun tb H1 hT k1 nt => ?_
  have hl1 := k1.g0 hl
  have S1 := hS.k0 k1
  wtm_at "rd"
  try dsimp only
  refine rd_gthen (rd_gplain ?_)
  try dsimp only
  wtm_at "rd"
  refine rd_sortedI hl1 fun os so p1 p2 n1 => ?_
  have osm : ∀ {j : Nat} (h : j < os.length), os[j] ∈ xs := fun h => p1.mem_iff.mp (List.getElem_mem h)
  have osl : os.length ≤ 256 := by
    rw [p1.length_eq]
    exact hn
  have k2 := k1.nw (o := .lst (os.map V.int)) n1
  have hT2 := hT.k0 (Kp.new (o := .lst (os.map V.int)) n1)
  have S2 := S1.k0 (Kp.new (o := .lst (os.map V.int)) n1)
  have ho2 : upd H1 so (.lst (os.map V.int)) so = some (.lst (os.map V.int)) := upd_same
  generalize upd H1 so (.lst (os.map V.int)) = H2 at *
  clear hT hl1 S1 k1
  wtm_at "rd"
  try dsimp only
  refine rd_gthen ?_
  refine rd_gfor ?_
  refine rd_iRng2B ?_
  wtm_at "rd"
  refine ⟨_, _, rfl, ?_⟩
  rw [show start + count - start = count by omega]
  refine gforR_by (fun i ys σ H4 => (∃ v6 v7 v8 v9, σ = [some (.ref S), some (.ref l), some (.int start), some (.int count), some (.ref tb), some (.ref so), v6, v7, v8, v9]) ∧ (∃ f : List Addr, ys = f.map V.ref ∧ Paired (RowP H4) f ((List.range i).map fun k : Nat => planRow s.bits s.pat xs os (start + k))) ∧ Kp [] H2 H4) ⟨⟨_, _, _, _, rfl⟩, ⟨[], rfl, .nil⟩, Kp.refl⟩ ?_ ?_
  · rintro i ys σ H4 hi ⟨⟨v6, v7, v8, v9, rfl⟩, ⟨f, rfl, hf⟩, k4⟩
    have fl : f.length = i := by
      have := paired_len hf
      rw [List.length_map, List.length_range] at this
      exact this
    wtm_at "rd"
    refine rd_gthen (rd_gplain ?_)
    try dsimp only
    wtm_at "rd"
    refine ⟨sz1000 (by simp), fun q nq => ?_⟩
    have k5 : Kp [] H4 (upd H4 q (.lst [])) := Kp.new nq
    have q5 : upd H4 q (.lst []) q = some (.lst (([] : List Addr).map V.ref)) := upd_same
    generalize upd H4 q (.lst []) = H5 at *
    wtm_at "rd"
    try dsimp only
    refine rd_gthen (rd_gplain ?_)
    try dsimp only
    have ho5 := (k4.trans k5).g0 ho2
    wtm_at "rd"
    refine forL_ints (K := K) os (fun j σ H6 => (∃ v8 v9, σ = [some (.ref S), some (.ref l), some (.int start), some (.int count), some (.ref tb), some (.ref so), some (.int (start + (i : Int))), some (.ref q), v8, v9]) ∧ (∃ ts : List Addr, H6 q = some (.lst (ts.map V.ref)) ∧ Paired (PrAt H6) ts (planRow s.bits s.pat xs (os.take j) (start + i))) ∧ Kp [] H4 H6) ⟨⟨_, _, rfl⟩, ⟨[], q5, .nil⟩, k5⟩ (fun j σ H6 _ q => SqL.of ((k4.trans q.2.2).g0 ho2)) ?_ ?_
    · clear q5 k5 ho5 H5
      rintro j hj σ H6 ⟨⟨v8, v9, rfl⟩, ⟨ts, t1, t2⟩, k6⟩
      have k26 := k4.trans k6
      have tsl : ts.length ≤ 256 := by
        rw [paired_len t2]
        have h1 := planRow_len (bits := s.bits) (pat := s.pat) (beat := start + (i : Int)) (xs := xs) (os := os.take j)
        rw [List.length_take] at h1
        omega
      rw [planRow_take hj]
      wtm_at "rd"
      refine us_called_at (S2.k0 k26) (hT2.k0 k26) (osm hj) ?_
      wtm_at "rd"
      cases hc : callO s.bits s.pat xs os[j] (start + (i : Int)) with
      | none =>
        wtm_at "rd"
        exact ⟨⟨_, _, rfl⟩, ⟨ts, t1, by simpa using t2⟩, k6⟩
      | some c =>
        wtm_at "rd"
        refine ⟨sz1000 (by simp), fun t nt => ?_⟩
        have qt : q ≠ t := ne_of_none t1 nt
        have t17 : upd H6 t (.tup [.int os[j], .int c]) q = some (.lst (ts.map V.ref)) := hu_ne qt t1
        have sl : (ts.map V.ref).length < sizeLine := szlt (by rw [List.length_map]; omega)
        wtm_at "rd"
        refine ⟨⟨_, _, rfl⟩, ⟨ts ++ [t], by rw [upd_same, List.map_append]; rfl, ?_⟩, (k6.nw nt).mine nq⟩
        have q8 : PrAt (upd (upd H6 t (.tup [.int os[j], .int c])) q (.lst (ts.map V.ref ++ [.ref t]))) t (os[j], c) := hu_ne (Ne.symm qt) upd_same
        refine paired_snoc (R := PrAt (upd (upd H6 t (.tup [.int os[j], .int c])) q (.lst (ts.map V.ref ++ [.ref t])))) q8 (paired_imp (R := PrAt H6) (fun a b e => hu_ne (ne_of e t1 (by intro z; cases z)) (hu_ne (ne_of_none e nt) e)) t2)
    · rintro σ H6 ⟨⟨v8, v9, rfl⟩, ⟨ts, t1, t2⟩, k6⟩
      rw [List.take_length] at t2
      wtm_at "rd"
      try dsimp only
      refine rd_gthen (rd_gyield (by rw [List.length_map]; exact szlt (by omega)) ?_)
      wtm_at "rd"
      refine rd_gend ⟨⟨_, _, _, _, rfl⟩, ⟨f ++ [q], by rw [List.map_append]; rfl, ?_⟩, k4.trans k6⟩
      rw [List.range_succ, List.map_append]
      exact paired_snoc (R := RowP H6) ⟨ts, t1, t2⟩ (paired_imp (R := RowP H4) (S := RowP H6) (fun _ _ e => e.k0 k6) hf)
  · rintro ys σ H4 ⟨⟨v6, v7, v8, v9, rfl⟩, ⟨f, rfl, hf⟩, k4⟩
    refine rd_gend ?_
    exact kk os f H4 p1 p2 hf (k2.trans k4)
theorem c_plan_rounds (T : Cx K mg) (B : Tb K mg base) : GalX P w K mg base 7 "plan_rounds" (sp_plan_rounds K) [] := by
  obtain ⟨fd, F, ok⟩ := f_plan_rounds (P := P) (w := w) (base := base) T B
  exact ⟨_, fd, p_plan_rounds, [], ok, gl_plan_rounds T, F.kp, FunD.bindsN F fun _ _ _ _ _ _ us hl => match us, hl with | [_, _, _, _], _ => rfl, .nil⟩
end
section
variable {P : Program} {w : World} {K : PySem.W.Frag} {mg : Str → Option Value} {base : Heap}
def sp_l_beat (K : PySem.W.Frag) : Sp := fun vs H Q E => ∃ (p c : Addr) (turn : Int), vs = [.ref p, .int turn] ∧ (Purse H p c) ∧ (1 ≤ turn ∧ turn ≤ 48) ∧ (∀ n H1, Purse H1 p c → Kp [p] H H1 → Q (.int n) H1)
theorem us_l_beat {K : PySem.W.Frag} {H : Hp} {Q : VK} {E : XK} {p c : Addr} {turn : Int} (hB : Purse H p c) (t : 1 ≤ turn ∧ turn ≤ 48) (kk : ∀ n H1, Purse H1 p c → Kp [p] H H1 → Q (.int n) H1) : sp_l_beat K [.ref p, .int turn] H Q E := ⟨_, _, _, rfl, hB, t, kk⟩
theorem f_l_beat (T : Cx K mg) (B : Tb K mg base) : ∃ fd, FunD K "_law_beat" "_law_beat" (defArgs s_l_beat) (defBody s_l_beat) (defScope s_l_beat) (d_l_beat.dvs K) (d_l_beat.kws K) (fAd K d_l_beat.at_) fd ∧ FnOk P w K mg base CX0 3 (fAd K d_l_beat.at_) fd p_l_beat (sp_l_beat K) := by
  have c_l_draw := c_l_draw (P := P) (w := w) (base := base) T B
  obtain ⟨fd, F⟩ := T.says.def_ 18 (d := d_l_beat) rfl
  refine ⟨fd, F, fnD F sc_l_beat (fun vs H Q E h => by
    obtain ⟨_, _, _, rfl, _⟩ := h
    rfl) fun cdv A outer s H vs Q E hr h => ?_⟩
  have hu := hu_of hr
  obtain ⟨p, c, turn, rfl, hB, t, kk⟩ := h
  refine ⟨_, (pss_cons (ps_set (i := 2) sc_l_beat.nd rfl (by first | exact Or.inl rfl | exact Or.inr rfl) (pe_cal c_l_draw hr (by decide) (by rfl) pass0 (pa_cons (pv 0) (pa_cons (pe_op op_mul pe_int (pv 1)) pa_nil)))) (C8.pss_cut (ps_if (pt_cmpR op_eq (pe_cal c_l_draw hr (by decide) (by rfl) pass0 (pa_cons (pv 0) (pa_cons pe_int pa_nil))) pe_int (nomark _)) (pss_cons (ps_set (i := 2) sc_l_beat.nd rfl (by first | exact Or.inl rfl | exact Or.inr rfl) pe_int) (pss_one (ps_for PassesOwn.never rfl (pi_range1 (by rfl) (fr_range T) (pa_cons pe_int pa_nil)) (pg_name (i := 3) sc_l_beat.nd rfl (by first | exact Or.inl rfl | exact Or.inr rfl)) (pss_one (ps_set (i := 2) sc_l_beat.nd rfl (by first | exact Or.inl rfl | exact Or.inr rfl) (pe_op op_add (pe_op op_mul (pv 2) pe_int) (pe_cal c_l_draw hr (by decide) (by rfl) pass0 (pa_cons (pv 0) (pa_cons pe_int pa_nil))))))))) pss_nil) (pss_one (ps_ret (pv 2))))), ?_⟩
  rw [show L2.start n_l_beat [.ref p, .int turn] = [some (.ref p), some (.int turn), none, none] from rfl]
  try dsimp only [cxOf, Cx.nox, Cx.wish, List.map]

  wtm_at "rd"
  refine us_l_draw hB (by omega) (by omega) fun n1 H1 n10 n11 B1 k1 => ?_
  wtm_at "rd"
  refine rd_cut (fun σ H2 => (∃ n v3, σ = [some (.ref p), some (.int turn), some (.int n), v3]) ∧ Purse H2 p c ∧ Kp [p] H H2) ?_ ?_
  · wtm_at "rd"
    refine us_l_draw B1 (by decide) (by decide) fun n2 H2 n20 n21 B2 k2 => ?_
    wtm_at "rd"
    refine ite_d (fun h => ?_) (fun h => ?_)
    · wtm_at "rd"
      refine forR_by (fun i σ H2 => (∃ n v3, σ = [some (.ref p), some (.int turn), some (.int n), v3]) ∧ Purse H2 p c ∧ Kp [p] H H2) ⟨⟨_, _, rfl⟩, B2, k1.trans k2⟩ ?_ ?_
      · rintro i σ H3 hi ⟨⟨n, v3, rfl⟩, B3, k3⟩
        wtm_at "rd"
        refine us_l_draw B3 (by decide) (by decide) fun n4 H4 n40 n41 B4 k4 => ?_
        wtm_at "rd"
        exact ⟨⟨_, _, rfl⟩, B4, k3.trans k4⟩
      · rintro σ H3 q
        exact q
    · wtm_at "rd"
      exact ⟨⟨_, _, rfl⟩, B2, k1.trans k2⟩
  · rintro σ H2 ⟨⟨n, v3, rfl⟩, B2, k2⟩
    wtm_at "rd"
    exact kk _ _ B2 k2
theorem c_l_beat (T : Cx K mg) (B : Tb K mg base) : CalX P w K mg base CX0 3 "_law_beat" (sp_l_beat K) [] := by
  obtain ⟨fd, F, ok⟩ := f_l_beat (P := P) (w := w) (base := base) T B
  exact ⟨_, fd, p_l_beat, [], ok, gl_l_beat T, F.kp, FunD.bindsN F fun _ _ _ _ _ _ us hl => match us, hl with | [_, _], _ => rfl, .nil⟩
end
section
variable {P : Program} {w : World} {K : PySem.W.Frag} {mg : Str → Option Value} {base : Heap}
def sp_l_phase (K : PySem.W.Frag) : Sp := fun vs H Q E => ∃ (bits pat beat : Int), vs = [.int bits, .int pat, .int beat] ∧ (1 ≤ bits ∧ bits ≤ 8) ∧ (1 ≤ pat ∧ pat ≤ 6) ∧ (Q (.int (bits - 1 - (beat / pat) % bits)) H)
theorem us_l_phase {K : PySem.W.Frag} {H : Hp} {Q : VK} {E : XK} {bits pat beat : Int} (b : 1 ≤ bits ∧ bits ≤ 8) (pp : 1 ≤ pat ∧ pat ≤ 6) (kk : Q (.int (bits - 1 - (beat / pat) % bits)) H) : sp_l_phase K [.int bits, .int pat, .int beat] H Q E := ⟨_, _, _, rfl, b, pp, kk⟩
theorem f_l_phase (T : Cx K mg) (B : Tb K mg base) : ∃ fd, FunD K "_law_phase" "_law_phase" (defArgs s_l_phase) (defBody s_l_phase) (defScope s_l_phase) (d_l_phase.dvs K) (d_l_phase.kws K) (fAd K d_l_phase.at_) fd ∧ FnOk P w K mg base CX0 1 (fAd K d_l_phase.at_) fd p_l_phase (sp_l_phase K) := by
  obtain ⟨fd, F⟩ := T.says.def_ 19 (d := d_l_phase) rfl
  refine ⟨fd, F, fnD F sc_l_phase (fun vs H Q E h => by
    obtain ⟨_, _, _, rfl, _⟩ := h
    rfl) fun cdv A outer s H vs Q E hr h => ?_⟩
  have hu := hu_of hr
  obtain ⟨bits, pat, beat, rfl, b, pp, kk⟩ := h
  refine ⟨_, (pss_cons (ps_set (i := 3) sc_l_phase.nd rfl (by first | exact Or.inl rfl | exact Or.inr rfl) (pe_op op_sub (pv 0) pe_int)) (C8.pss_cut (ps_for PassesOwn.never rfl (pi_range1 (by rfl) (fr_range T) (pa_cons (pe_op op_mod (pe_callTy call_int1' (by rfl) (fr_int T) (by decide +kernel) (pa_cons (pv 2) pa_nil)) (pe_op op_mul (pv 0) (pv 1))) pa_nil)) (pg_name (i := 4) sc_l_phase.nd rfl (by first | exact Or.inl rfl | exact Or.inr rfl)) (pss_one (ps_if (pt_cmpR op_eq (pe_op op_mod (pe_op op_add (pv 4) pe_int) (pv 1)) pe_int (nomark _)) (pss_one (ps_set (i := 3) sc_l_phase.nd rfl (by first | exact Or.inl rfl | exact Or.inr rfl) (pe_op op_sub (pv 3) pe_int))) pss_nil))) (pss_one (ps_ret (pv 3))))), ?_⟩
  rw [show L2.start n_l_phase [.int bits, .int pat, .int beat] = [some (.int bits), some (.int pat), some (.int beat), none, none] from rfl]
  try dsimp only [cxOf, Cx.nox, Cx.wish, List.map]

  have tp := turn_pos b pp
  have tp0 : 0 < bits * pat := by omega
  have m0 := Int.emod_nonneg beat (show bits * pat ≠ 0 by omega)
  have m1 := Int.emod_lt_of_pos beat tp0
  have be := block_eq (beat := beat) b.1 b.2 pp.1 pp.2
  wtm_at "rd"
  refine rd_cut (fun σ H1 => (∃ v4, σ = [some (.int bits), some (.int pat), some (.int beat), some (.int (bits - 1 - (beat / pat) % bits)), v4]) ∧ H1 = H) ?_ ?_
  · wtm_at "rd"
    refine forR_by (fun i σ H1 => (∃ v4, σ = [some (.int bits), some (.int pat), some (.int beat), some (.int (bits - 1 - (i : Int) / pat)), v4]) ∧ H1 = H) ⟨⟨_, by simp; rfl⟩, rfl⟩ ?_ ?_
    · rintro i σ H1 hi ⟨⟨v4, rfl⟩, rfl⟩
      wtm_at "rd"
      refine ite_d (fun h => ?_) (fun h => ?_)
      · wtm_at "rd"
        refine ⟨⟨some (.int (0 + (i : Int))), ?_⟩, rfl⟩
        have := ph_yes (i := (i : Int)) pp.1 pp.2 (by simpa using h)
        rw [show (((i + 1 : Nat) : Int)) = (i : Int) + 1 by omega, this]
        rw [show bits - 1 - ((i : Int) / pat + 1) = bits - 1 - (i : Int) / pat - 1 by omega]
        rfl
      · wtm_at "rd"
        refine ⟨⟨some (.int (0 + (i : Int))), ?_⟩, rfl⟩
        have := ph_no (i := (i : Int)) pp.1 pp.2 (by simpa using h)
        rw [show (((i + 1 : Nat) : Int)) = (i : Int) + 1 by omega, this]
        rfl
    · rintro σ H1 ⟨⟨v4, rfl⟩, rfl⟩
      rw [show (((beat % (bits * pat)).toNat : Nat) : Int) = beat % (bits * pat) by omega, be]
      exact ⟨⟨_, rfl⟩, rfl⟩
  · rintro σ H1 ⟨⟨v4, rfl⟩, rfl⟩
    wtm_at "rd"
    exact kk
theorem c_l_phase (T : Cx K mg) (B : Tb K mg base) : CalX P w K mg base CX0 1 "_law_phase" (sp_l_phase K) [] := by
  obtain ⟨fd, F, ok⟩ := f_l_phase (P := P) (w := w) (base := base) T B
  exact ⟨_, fd, p_l_phase, [], ok, gl_l_phase T, F.kp, FunD.bindsN F fun _ _ _ _ _ _ us hl => match us, hl with | [_, _, _], _ => rfl, .nil⟩
end
section
variable {P : Program} {w : World} {K : PySem.W.Frag} {mg : Str → Option Value} {base : Heap}
def sp_l_same (K : PySem.W.Frag) : Sp := fun vs H Q E => ∃ (o : Option Int), vs = [ov o, ov o] ∧ (Q (.bl true) H)
theorem us_l_same {K : PySem.W.Frag} {H : Hp} {Q : VK} {E : XK} {o : Option Int}  (kk : Q (.bl true) H) : sp_l_same K [ov o, ov o] H Q E := ⟨_, rfl, kk⟩
theorem f_l_same (T : Cx K mg) (B : Tb K mg base) : ∃ fd, FunD K "_law_same" "_law_same" (defArgs s_l_same) (defBody s_l_same) (defScope s_l_same) (d_l_same.dvs K) (d_l_same.kws K) (fAd K d_l_same.at_) fd ∧ FnOk P w K mg base CX0 1 (fAd K d_l_same.at_) fd p_l_same (sp_l_same K) := by
  obtain ⟨fd, F⟩ := T.says.def_ 20 (d := d_l_same) rfl
  refine ⟨fd, F, fnD F sc_l_same (fun vs H Q E h => by
    obtain ⟨_, rfl, _⟩ := h
    rfl) fun cdv A outer s H vs Q E hr h => ?_⟩
  have hu := hu_of hr
  obtain ⟨o, rfl, kk⟩ := h
  refine ⟨_, (pss_cons (ps_if (pt_cmp (pc_isN (pv 1))) (pss_one (ps_ret (pe_cmp (pc_isN (pv 0))))) pss_nil) (pss_one (ps_ret (pe_and (pe_callB call_isi (by rfl) (fr_isinstance T) (by decide +kernel) (pa_cons (pv 0) (pa_cons (pe_bltn (v := .ty "int") (by rfl) (fr_int T) (by decide +kernel) rfl) pa_nil))) (pe_and (pe_not (pe_callB call_isi (by rfl) (fr_isinstance T) (by decide +kernel) (pa_cons (pv 0) (pa_cons (pe_bltn (v := .ty "bool") (by rfl) (fr_bool T) (by decide +kernel) rfl) pa_nil)))) (pe_one (pe_cmpR op_eq (pv 0) (pv 1) (nomark _)))))))), ?_⟩
  rw [show L2.start n_l_same [ov o, ov o] = [some (ov o), some (ov o)] from rfl]
  try dsimp only [cxOf, Cx.nox, Cx.wish, List.map]

  cases o with
  | none =>
    wtm_at "rd"
    exact kk
  | some x =>
    wtm_at "rd"
    rw [decide_eq_true rfl]
    exact kk
theorem c_l_same (T : Cx K mg) (B : Tb K mg base) : CalX P w K mg base CX0 1 "_law_same" (sp_l_same K) [] := by
  obtain ⟨fd, F, ok⟩ := f_l_same (P := P) (w := w) (base := base) T B
  exact ⟨_, fd, p_l_same, [], ok, gl_l_same T, F.kp, FunD.bindsN F fun _ _ _ _ _ _ us hl => match us, hl with | [_, _], _ => rfl, .nil⟩
end
section
variable {P : Program} {w : World} {K : PySem.W.Frag} {mg : Str → Option Value} {base : Heap}
def sp_l_bent (K : PySem.W.Frag) : Sp := fun vs H Q E => ∃ (p c l : Addr) (ring : Int) (xs : List Int), vs = [.ref p, .int ring, .ref l] ∧ (Purse H p c) ∧ (H l = some (.lst (xs.map V.int))) ∧ (xs.Nodup) ∧ (∀ z, z ∈ xs → 0 ≤ z ∧ z < ring) ∧ (1 ≤ ring ∧ ring ≤ 256) ∧ (∀ l2 (ys : List Int) H1, H1 l2 = some (.lst (ys.map V.int)) → ys.Nodup → (∀ z, z ∈ ys → 0 ≤ z ∧ z < ring) → Purse H1 p c → Kp [p] H H1 → Q (.ref l2) H1)
theorem us_l_bent {K : PySem.W.Frag} {H : Hp} {Q : VK} {E : XK} {p c l : Addr} {ring : Int} {xs : List Int} (hB : Purse H p c) (hl : H l = some (.lst (xs.map V.int))) (nd : xs.Nodup) (hx : ∀ z, z ∈ xs → 0 ≤ z ∧ z < ring) (hr1 : 1 ≤ ring ∧ ring ≤ 256) (kk : ∀ l2 (ys : List Int) H1, H1 l2 = some (.lst (ys.map V.int)) → ys.Nodup → (∀ z, z ∈ ys → 0 ≤ z ∧ z < ring) → Purse H1 p c → Kp [p] H H1 → Q (.ref l2) H1) : sp_l_bent K [.ref p, .int ring, .ref l] H Q E := ⟨_, _, _, _, _, rfl, hB, hl, nd, hx, hr1, kk⟩
theorem f_l_bent (T : Cx K mg) (B : Tb K mg base) : ∃ fd, FunD K "_law_bent" "_law_bent" (defArgs s_l_bent) (defBody s_l_bent) (defScope s_l_bent) (d_l_bent.dvs K) (d_l_bent.kws K) (fAd K d_l_bent.at_) fd ∧ FnOk P w K mg base CX0 3 (fAd K d_l_bent.at_) fd p_l_bent (sp_l_bent K) := by
  have c_l_draw := c_l_draw (P := P) (w := w) (base := base) T B
  obtain ⟨fd, F⟩ := T.says.def_ 21 (d := d_l_bent) rfl
  refine ⟨fd, F, fnD F sc_l_bent (fun vs H Q E h => by
    obtain ⟨_, _, _, _, _, rfl, _⟩ := h
    rfl) fun cdv A outer s H vs Q E hr h => ?_⟩
  have hu := hu_of hr
  obtain ⟨p, c, l, ring, xs, rfl, hB, hl, nd, hx, hr1, kk⟩ := h
  refine ⟨_, (pss_cons (ps_set (i := 3) sc_l_bent.nd rfl (by first | exact Or.inl rfl | exact Or.inr rfl) (pe_cal c_l_draw hr (by decide) (by rfl) pass0 (pa_cons (pv 0) (pa_cons pe_int pa_nil)))) (C8.pss_cut (ps_if (PW.pt (pw_and (pt_cmpR op_eq (pv 3) pe_int (nomark _)) (pw_and1 (pt_cmpR op_lt (pe_callB call_lenS (by rfl) (fr_len T) (by decide +kernel) (pa_cons (pv 2) pa_nil)) (pv 1) (nomark _))))) (pss_cons (ps_setLc (i := 4) (own := [("_law_seat", 6)]) (g := (gName 6)) rfl sc_l_bent.nd rfl rfl (sw_true rfl rfl rfl (by decide +kernel)) (pi_range1 (by rfl) (fr_range T) (pa_cons (pv 1) pa_nil)) (blkOk_by (own := [("_law_seat", 6)]) (N := n_l_bent) (sc := defScope s_l_bent) (by decide +kernel)) (fun _ _ _ _ _ => (pg_name (i := 6) sc_l_bent.nd rfl (by first | exact Or.inl rfl | exact Or.inr rfl))) (fun _ _ _ _ _ => (pts_one (pt_cmpR (op_notIn_seqK (K := K) rfl) (pv 6) (pv 2) rfl))) (fun _ _ _ _ _ => (pv 6))) (pss_one (ps_ret (pe_op op_cat (pe_lst (pa_cons (pe_ix ix_list (pv 4) (pe_cal c_l_draw hr (by decide) (by rfl) pass0 (pa_cons (pv 0) (pa_cons (pe_callB call_lenS (by rfl) (fr_len T) (by decide +kernel) (pa_cons (pv 4) pa_nil)) pa_nil))) (fun _ _ => rfl)) pa_nil)) (pv 2))))) pss_nil) (C8.pss_cut (ps_if (PW.pt (pw_and (pt_cmpR op_eq (pv 3) pe_int (nomark _)) (pw_and1 (pt_cmpR (op_neD hr.units) (pv 2) (pe_lst pa_nil) (nomark _))))) (pss_cons (ps_set (i := 5) sc_l_bent.nd rfl (by first | exact Or.inl rfl | exact Or.inr rfl) (pe_cal c_l_draw hr (by decide) (by rfl) pass0 (pa_cons (pv 0) (pa_cons (pe_callB call_lenS (by rfl) (fr_len T) (by decide +kernel) (pa_cons (pv 2) pa_nil)) pa_nil)))) (pss_one (ps_ret (pe_op op_cat (pe_slice sl_list (pv 2) po_none (po_some (pv 5))) (pe_slice sl_list (pv 2) (po_some (pe_op op_add (pv 5) pe_int)) po_none))))) pss_nil) (pss_one (ps_ret (pe_revL (pv 2))))))), ?_⟩
  rw [show L2.start n_l_bent [.ref p, .int ring, .ref l] = [some (.ref p), some (.int ring), some (.ref l), none, none, none, none] from rfl]
  try dsimp only [cxOf, Cx.nox, Cx.wish, List.map]

  have xl := seats_len nd hx
  wtm_at "rd"
  refine us_l_draw hB (by decide) (by decide) fun n1 H1 n10 n11 B1 k1 => ?_
  have hl1 := k1.g1 (hB.lst hl) hl
  wtm_at "rd"
  refine rd_cut (fun σ H2 => (∃ v4 v6, σ = [some (.ref p), some (.int ring), some (.ref l), some (.int n1), v4, none, v6]) ∧ H2 = H1) ?_ ?_
  · wtm_at "rd"
    refine ite_d (fun h => ?_) (fun h => ?_)
    · wtm_at "rd"
      refine ite_d (fun h2x => ?_) (fun h2x => ?_)
      · wtm_at "rd"
        intro D hD
        refine lcF_range (fun i => !decide ((i : Int) ∈ xs)) (fun i => V.int (i : Nat)) hD (by omega) (fun i hi H2 E N k2 yes no => ?_) (fun H2 k2 h2 => ?_)
        · have hl2 := k2.g0 hl1
          wtm_at "rd"
          refine ⟨rfl, ?_⟩
          wtm_at "rd"
          rw [Int.zero_add]
          refine ite_n (fun h => ?_) (fun h => ?_)
          · wtm_at "rd"
            exact yes _ Kp.refl (by simp [h])
          · exact no _ Kp.refl (by simp [h])
        · have spp := spare_pos (xs := xs) (r := ring) h2x
          have spm : ∀ i, i ∈ (List.range ring.toNat).filter (fun i : Nat => !decide ((i : Int) ∈ xs)) → i < ring.toNat ∧ (i : Int) ∉ xs := fun i hi => by
            simpa [List.mem_filter, List.mem_range] using hi
          have spl := List.length_filter_le (fun i : Nat => !decide ((i : Int) ∈ xs)) (List.range ring.toNat)
          rw [List.length_range] at spl
          generalize (List.range ring.toNat).filter (fun i : Nat => !decide ((i : Int) ∈ xs)) = SP at *
          have B2 := B1.k0 k2
          have hl2 := k2.g0 hl1
          wtm_at "rd"
          refine us_l_draw B2 (by rw [List.length_map]; omega) (by rw [List.length_map]; omega) fun n2 H3 n20 n21 B3 k3 => ?_
          rw [List.length_map] at n21
          obtain ⟨z, rfl⟩ := Int.eq_ofNat_of_zero_le n20
          have zl : z < SP.length := by omega
          have hat : atI (SP.map fun i => V.int (i : Nat)) (z : Int) = some (.int (SP[z] : Nat)) := atI_nat (by rw [List.getElem?_map, List.getElem?_eq_getElem zl]; rfl)
          have hD3 := k3.g1 (B2.lst h2) h2
          have hl3 := k3.g1 (B2.lst hl2) hl2
          obtain ⟨zm1, zm2⟩ := spm _ (List.getElem_mem zl)
          wtm_at "rd"
          refine ⟨sz1000 (by simp), fun t nt => ?_⟩
          have B4 := B3.new (o := .lst [.int (SP[z] : Nat)]) nt
          have k4 : Kp [p] H3 (upd H3 t (.lst [.int (SP[z] : Nat)])) := (Kp.new (ps := []) nt).of0
          have hl4 : upd H3 t (.lst [.int (SP[z] : Nat)]) l = some (.lst (xs.map V.int)) := hu_ne (ne_of_none hl3 nt) hl3
          have ht4 : upd H3 t (.lst [.int (SP[z] : Nat)]) t = some (.lst [.int (SP[z] : Nat)]) := upd_same
          generalize upd H3 t (.lst [.int (SP[z] : Nat)]) = H4 at *
          wtm_at "rd"
          refine rd_cat ht4 hl4 (by rw [List.length_map]; have := szlt (n := 1000) (by omega); simp; omega) fun q nq => ?_
          exact kk q ((SP[z] : Int) :: xs) _ upd_same (List.nodup_cons.mpr ⟨zm2, nd⟩) (fun w hw => by
            rcases List.mem_cons.mp hw with rfl | hw
            · omega
            · exact hx w hw) (B4.new nq) ((((k1.trans k2.of0).trans k3).trans k4).nw nq)
      · wtm_at "rd"
        exact ⟨⟨_, _, rfl⟩, rfl⟩
    · wtm_at "rd"
      exact ⟨⟨_, _, rfl⟩, rfl⟩
  rintro σ H2 ⟨⟨v4, v6, rfl⟩, rfl⟩
  refine rd_cut (fun σ H2 => (∃ v4 v5 v6, σ = [some (.ref p), some (.int ring), some (.ref l), some (.int n1), v4, v5, v6]) ∧ Purse H2 p c ∧ Kp [p] H H2) ?_ ?_
  · wtm_at "rd"
    refine ite_d (fun h => ?_) (fun h => ?_)
    · wtm_at "rd"
      refine ⟨sz1000 (by simp), fun e0 ne0 => ?_⟩
      have B3 := B1.new (o := .lst []) ne0
      have k3 : Kp [p] H (upd H2 e0 (.lst [])) := k1.nw ne0
      have hl3 : upd H2 e0 (.lst []) l = some (.lst (xs.map V.int)) := hu_ne (ne_of_none hl1 ne0) hl1
      have he3 : upd H2 e0 (.lst []) e0 = some (.lst (([] : List Int).map V.int)) := upd_same
      generalize upd H2 e0 (.lst []) = H3 at *
      refine rd_neLI (SqL.of hl3) (SqL.of he3) ?_
      wtm_at "rd"
      refine ite_n (fun hne => ?_) (fun hne => ?_)
      · have x1 : 1 ≤ xs.length := by
          cases xs with
          | nil => exact absurd rfl hne
          | cons a b => simp
        wtm_at "rd"
        refine us_l_draw B3 (by omega) (by omega) fun n4 H4 n40 n41 B4 k4 => ?_
        obtain ⟨z, rfl⟩ := Int.eq_ofNat_of_zero_le n40
        have hl4 := k4.g1 (B3.lst hl3) hl3
        have k4 := k3.trans k4
        wtm_at "rd"
        intro a na
        rw [cut_to]
        have B5 := B4.new (o := .lst ((xs.map V.int).take z)) na
        have k5 := k4.nw (o := .lst ((xs.map V.int).take z)) na
        have hl5 : upd H4 a (.lst ((xs.map V.int).take z)) l = some (.lst (xs.map V.int)) := hu_ne (ne_of_none hl4 na) hl4
        have ha5 : upd H4 a (.lst ((xs.map V.int).take z)) a = some (.lst ((xs.map V.int).take z)) := upd_same
        generalize upd H4 a (.lst ((xs.map V.int).take z)) = H5 at *
        wtm_at "rd"
        intro d nd2
        rw [show ((z : Nat) : Int) + 1 = ((z + 1 : Nat) : Int) by omega, cut_from]
        have B6 := B5.new (o := .lst ((xs.map V.int).drop (z + 1))) nd2
        have k6 := k5.nw (o := .lst ((xs.map V.int).drop (z + 1))) nd2
        have ha6 : upd H5 d (.lst ((xs.map V.int).drop (z + 1))) a = some (.lst ((xs.map V.int).take z)) := hu_ne (ne_of_none ha5 nd2) ha5
        have hd6 : upd H5 d (.lst ((xs.map V.int).drop (z + 1))) d = some (.lst ((xs.map V.int).drop (z + 1))) := upd_same
        generalize upd H5 d (.lst ((xs.map V.int).drop (z + 1))) = H6 at *
        wtm_at "rd"
        refine rd_cat ha6 hd6 (by rw [List.length_take, List.length_drop, List.length_map]; have := szlt (n := 1000) (by omega); omega) fun q nq => ?_
        exact kk q (xs.eraseIdx z) _ (by rw [upd_same, List.eraseIdx_eq_take_drop_succ, List.map_append, List.map_take, List.map_drop]) (List.Nodup.sublist (List.eraseIdx_sublist ..) nd) (fun w hw => hx w (List.mem_of_mem_eraseIdx hw)) (B6.new nq) (k6.nw nq)
      · wtm_at "rd"
        exact ⟨⟨_, _, _, rfl⟩, B3, k3⟩
    · wtm_at "rd"
      exact ⟨⟨_, _, _, rfl⟩, B1, k1⟩
  rintro σ H2 ⟨⟨v4, v5, v6, rfl⟩, B2, k2⟩
  have hl2 := k2.g1 (hB.lst hl) hl
  wtm_at "rd"
  intro q nq
  exact kk q xs.reverse _ (by rw [upd_same, List.map_reverse]) ((List.reverse_perm xs).nodup_iff.mpr nd) (fun w hw => hx w (List.mem_reverse.mp hw)) (B2.new nq) (k2.nw nq)
theorem c_l_bent (T : Cx K mg) (B : Tb K mg base) : CalX P w K mg base CX0 3 "_law_bent" (sp_l_bent K) [] := by
  obtain ⟨fd, F, ok⟩ := f_l_bent (P := P) (w := w) (base := base) T B
  exact ⟨_, fd, p_l_bent, [], ok, gl_l_bent T, F.kp, FunD.bindsN F fun _ _ _ _ _ _ us hl => match us, hl with | [_, _, _], _ => rfl, .nil⟩
end
section
variable {P : Program} {w : World} {K : PySem.W.Frag} {mg : Str → Option Value} {base : Heap}
def sp_l_pairs (K : PySem.W.Frag) : Sp := fun vs H Q E => ∃ (a b : Addr) (row : List (Int × Int)), vs = [.ref a, .ref b] ∧ (RowP H a row) ∧ (RowP H b row) ∧ (row.length ≤ 256) ∧ (Q (.bl true) H)
theorem us_l_pairs {K : PySem.W.Frag} {H : Hp} {Q : VK} {E : XK} {a b : Addr} {row : List (Int × Int)} (h1 : RowP H a row) (h2 : RowP H b row) (hw : row.length ≤ 256) (kk : Q (.bl true) H) : sp_l_pairs K [.ref a, .ref b] H Q E := ⟨_, _, _, rfl, h1, h2, hw, kk⟩
theorem f_l_pairs (T : Cx K mg) (B : Tb K mg base) : ∃ fd, FunD K "_law_pairs" "_law_pairs" (defArgs s_l_pairs) (defBody s_l_pairs) (defScope s_l_pairs) (d_l_pairs.dvs K) (d_l_pairs.kws K) (fAd K d_l_pairs.at_) fd ∧ FnOk P w K mg base CX0 2 (fAd K d_l_pairs.at_) fd p_l_pairs (sp_l_pairs K) := by
  have c_l_same := c_l_same (P := P) (w := w) (base := base) T B
  obtain ⟨fd, F⟩ := T.says.def_ 22 (d := d_l_pairs) rfl
  refine ⟨fd, F, fnD F sc_l_pairs (fun vs H Q E h => by
    obtain ⟨_, _, _, rfl, _⟩ := h
    rfl) fun cdv A outer s H vs Q E hr h => ?_⟩
  have hu := hu_of hr
  obtain ⟨a, b, row, rfl, h1, h2, hw, kk⟩ := h
  refine ⟨_, (pss_cons (ps_if (PW.pt (pw_or (pt_not (pt_val (pe_callB call_isi (by rfl) (fr_isinstance T) (by decide +kernel) (pa_cons (pv 0) (pa_cons (pe_bltn (v := .ty "list") (by rfl) (fr_list T) (by decide +kernel) rfl) pa_nil))))) (pw_or1 (pt_cmpR op_ne (pe_callB call_lenS (by rfl) (fr_len T) (by decide +kernel) (pa_cons (pv 0) pa_nil)) (pe_callB call_lenS (by rfl) (fr_len T) (by decide +kernel) (pa_cons (pv 1) pa_nil)) (nomark _))))) (pss_one (ps_ret pe_bl)) pss_nil) (pss_cons (ps_for PassesOwn.never rfl (pi_range1 (by rfl) (fr_range T) (pa_cons (pe_callB call_lenS (by rfl) (fr_len T) (by decide +kernel) (pa_cons (pv 1) pa_nil)) pa_nil)) (pg_name (i := 2) sc_l_pairs.nd rfl (by first | exact Or.inl rfl | exact Or.inr rfl)) (pss_cons (ps_set (i := 3) sc_l_pairs.nd rfl (by first | exact Or.inl rfl | exact Or.inr rfl) (pe_ix ix_list (pv 0) (pv 2) (fun _ _ => rfl))) (pss_cons (ps_if (PW.pt (pw_or (pt_not (pt_val (pe_callB call_isi (by rfl) (fr_isinstance T) (by decide +kernel) (pa_cons (pv 3) (pa_cons (pe_bltn (v := .ty "tuple") (by rfl) (fr_tuple T) (by decide +kernel) rfl) pa_nil))))) (pw_or1 (pt_cmpR op_ne (pe_callB call_lenS (by rfl) (fr_len T) (by decide +kernel) (pa_cons (pv 3) pa_nil)) pe_int (nomark _))))) (pss_one (ps_ret pe_bl)) pss_nil) (pss_one (ps_if (PW.pt (pw_or (pt_not (pt_val (pe_cal c_l_same hr (by decide) (by rfl) pass0 (pa_cons (pe_ix ix_tup (pv 3) pe_int (fun _ _ => rfl)) (pa_cons (pe_ix ix_tup (pe_ix ix_list (pv 1) (pv 2) (fun _ _ => rfl)) pe_int (fun _ _ => rfl)) pa_nil))))) (pw_or1 (pt_not (pt_val (pe_cal c_l_same hr (by decide) (by rfl) pass0 (pa_cons (pe_ix ix_tup (pv 3) pe_int (fun _ _ => rfl)) (pa_cons (pe_ix ix_tup (pe_ix ix_list (pv 1) (pv 2) (fun _ _ => rfl)) pe_int (fun _ _ => rfl)) pa_nil)))))))) (pss_one (ps_ret pe_bl)) pss_nil))))) (pss_one (ps_ret pe_bl)))), ?_⟩
  rw [show L2.start n_l_pairs [.ref a, .ref b] = [some (.ref a), some (.ref b), none, none] from rfl]
  try dsimp only [cxOf, Cx.nox, Cx.wish, List.map]

  obtain ⟨ts, a1, a2⟩ := h1
  obtain ⟨us, b1, b2⟩ := h2
  have tl := paired_len a2
  have ul := paired_len b2
  wtm_at "rd"
  refine ite_n (fun h => absurd (by rw [List.length_map, List.length_map, tl, ul]) h) (fun _ => ?_)
  wtm_at "rd"
  refine rd_iRng1X (by rw [List.length_map]; omega) (by rw [List.length_map]; omega) ?_
  refine forR_by (fun i σ H1 => (∃ v2 v3, σ = [some (.ref a), some (.ref b), v2, v3]) ∧ H1 = H) ⟨⟨_, _, rfl⟩, rfl⟩ ?_ ?_
  · rintro i σ H1 hi ⟨⟨v2, v3, rfl⟩, rfl⟩
    have hi2 : i < us.length := by
      have := hi
      rw [List.length_map] at this
      omega
    have hi1 : i < ts.length := by omega
    obtain ⟨q1, e1, r1⟩ := paired_get a2 (List.getElem?_eq_getElem hi1)
    obtain ⟨q2, e2, r2⟩ := paired_get b2 (List.getElem?_eq_getElem hi2)
    rw [e1] at e2
    cases e2
    have r1 : H1 ts[i] = some (.tup [.int q1.1, .int q1.2]) := r1
    have r2 : H1 us[i] = some (.tup [.int q1.1, .int q1.2]) := r2
    have at1 : atI (ts.map V.ref) (0 + (i : Int)) = some (.ref ts[i]) := by
      rw [Int.zero_add]
      exact atI_nat (by rw [List.getElem?_map, List.getElem?_eq_getElem hi1]; rfl)
    have at2 : atI (us.map V.ref) (0 + (i : Int)) = some (.ref us[i]) := by
      rw [Int.zero_add]
      exact atI_nat (by rw [List.getElem?_map, List.getElem?_eq_getElem hi2]; rfl)
    wtm_at "rd"
    refine ite_n (fun h => absurd rfl h) (fun _ => ?_)
    wtm_at "rd"
    refine us_l_same (o := some q1.1) ?_
    wtm_at "rd"
    refine us_l_same (o := some q1.2) ?_
    wtm_at "rd"
    exact ⟨⟨_, _, rfl⟩, rfl⟩
  · rintro σ H1 ⟨⟨v2, v3, rfl⟩, rfl⟩
    wtm_at "rd"
    exact kk
theorem c_l_pairs (T : Cx K mg) (B : Tb K mg base) : CalX P w K mg base CX0 2 "_law_pairs" (sp_l_pairs K) [] := by
  obtain ⟨fd, F, ok⟩ := f_l_pairs (P := P) (w := w) (base := base) T B
  exact ⟨_, fd, p_l_pairs, [], ok, gl_l_pairs T, F.kp, FunD.bindsN F fun _ _ _ _ _ _ us hl => match us, hl with | [_, _], _ => rfl, .nil⟩
end
section
variable {P : Program} {w : World} {K : PySem.W.Frag} {mg : Str → Option Value} {base : Heap}
def sp_l_calls (K : PySem.W.Frag) : Sp := fun vs H Q E => ∃ (S l : Addr) (s : Stg) (seat beat : Int) (xs : List Int), vs = [.ref S, .int s.bits, .int s.pat, .int seat, .int beat, .ref l] ∧ (SetAt K H S s) ∧ (H l = some (.lst (xs.map V.int))) ∧ (xs.Nodup) ∧ (∀ z, z ∈ xs → 0 ≤ z ∧ z < 2 ^ s.bits.toNat) ∧ (xs.length ≤ 256) ∧ (∀ H1, Kp [] H H1 → Q (.bl true) H1)
theorem us_l_calls {K : PySem.W.Frag} {H : Hp} {Q : VK} {E : XK} {S l : Addr} {s : Stg} {seat beat : Int} {xs : List Int} (hS : SetAt K H S s) (hl : H l = some (.lst (xs.map V.int))) (nd : xs.Nodup) (hx : ∀ z, z ∈ xs → 0 ≤ z ∧ z < 2 ^ s.bits.toNat) (hn : xs.length ≤ 256) (kk : ∀ H1, Kp [] H H1 → Q (.bl true) H1) : sp_l_calls K [.ref S, .int s.bits, .int s.pat, .int seat, .int beat, .ref l] H Q E := ⟨_, _, _, _, _, _, rfl, hS, hl, nd, hx, hn, kk⟩
theorem f_l_calls (T : Cx K mg) (B : Tb K mg base) : ∃ fd, FunD K "_law_calls" "_law_calls" (defArgs s_l_calls) (defBody s_l_calls) (defScope s_l_calls) (d_l_calls.dvs K) (d_l_calls.kws K) (fAd K d_l_calls.at_) fd ∧ FnOk P w K mg base CX0 6 (fAd K d_l_calls.at_) fd p_l_calls (sp_l_calls K) := by
  have c_l_table := c_l_table (P := P) (w := w) (base := base) T B
  have c_l_phase := c_l_phase (P := P) (w := w) (base := base) T B
  have c_l_same := c_l_same (P := P) (w := w) (base := base) T B
  have c_phase_of := c_phase_of (P := P) (w := w) (base := base) T B
  have c_target := c_target (P := P) (w := w) (base := base) T B
  have c_fingers := c_fingers (P := P) (w := w) (base := base) T B
  obtain ⟨fd, F⟩ := T.says.def_ 23 (d := d_l_calls) rfl
  refine ⟨fd, F, fnD F sc_l_calls (fun vs H Q E h => by
    obtain ⟨_, _, _, _, _, _, rfl, _⟩ := h
    rfl) fun cdv A outer s H vs Q E hr h => ?_⟩
  have hu := hu_of hr
  obtain ⟨S, l, s, seat, beat, xs, rfl, hS, hl, nd, hx, hn, kk⟩ := h
  refine ⟨_, (pss_cons (ps_set (i := 6) sc_l_calls.nd rfl (by first | exact Or.inl rfl | exact Or.inr rfl) (pe_cal c_l_table hr (by decide) (by rfl) pass0 (pa_cons (pv 1) (pa_cons (pv 5) (pa_cons (pe_lst (pa_cons (pv 3) pa_nil)) pa_nil))))) (pss_cons (ps_set (i := 7) sc_l_calls.nd rfl (by first | exact Or.inl rfl | exact Or.inr rfl) (pe_callTy call_listOf (by rfl) (fr_list T) (by decide +kernel) (pa_cons (pv 5) pa_nil))) (pss_cons (ps_for PassesOwn.never rfl (pi_range1 (by rfl) (fr_range T) (pa_cons pe_int pa_nil)) (pg_name (i := 8) sc_l_calls.nd rfl (by first | exact Or.inl rfl | exact Or.inr rfl)) (pss_cons (ps_set (i := 9) sc_l_calls.nd rfl (by first | exact Or.inl rfl | exact Or.inr rfl) (pe_cal c_l_phase hr (by decide) (by rfl) pass0 (pa_cons (pv 1) (pa_cons (pv 2) (pa_cons (pe_op op_add (pv 4) (pv 8)) pa_nil))))) (pss_cons (ps_if (pt_not (pt_val (pe_cal c_l_same hr (by decide) (by rfl) pass0 (pa_cons (pe_cal c_phase_of hr (by decide) (by rfl) pass0 (pa_cons (pv 0) (pa_cons (pe_op op_add (pv 4) (pv 8)) pa_nil))) (pa_cons (pv 9) pa_nil))))) (pss_one (ps_ret pe_bl)) pss_nil) (pss_cons (ps_set (i := 10) sc_l_calls.nd rfl (by first | exact Or.inl rfl | exact Or.inr rfl) (pe_ix ix_list (pv 6) (pv 9) (fun _ _ => rfl))) (pss_one (ps_if (pt_not (pt_val (pe_cal c_l_same hr (by decide) (by rfl) pass0 (pa_cons (pe_cal c_target hr (by decide) (by rfl) pass0 (pa_cons (pv 0) (pa_cons (pv 3) (pa_cons (pe_op op_add (pv 4) (pv 8)) (pa_cons (pv 7) pa_nil))))) (pa_cons (pe_dget hu (pv 10) (pv 3) (fun _ _ => rfl)) pa_nil))))) (pss_one (ps_ret pe_bl)) pss_nil)))))) (pss_cons (ps_set (i := 11) sc_l_calls.nd rfl (by first | exact Or.inl rfl | exact Or.inr rfl) (pe_lst pa_nil)) (pss_cons (ps_for PassesOwn.never rfl (pi_range1 (by rfl) (fr_range T) (pa_cons (pv 1) pa_nil)) (pg_name (i := 8) sc_l_calls.nd rfl (by first | exact Or.inl rfl | exact Or.inr rfl)) (pss_cons (ps_set (i := 10) sc_l_calls.nd rfl (by first | exact Or.inl rfl | exact Or.inr rfl) (pe_ix ix_list (pv 6) (pe_op op_sub (pe_op op_sub (pv 1) pe_int) (pv 8)) (fun _ _ => rfl))) (pss_one (ps_expr (pe_bm PySem.F.plainAttrs_list PySem.F.slot_list_append PySem.F.type_list_append mt_append (pv 11) (pa_cons (pe_dget hu (pv 10) (pv 3) (fun _ _ => rfl)) pa_nil)))))) (pss_cons (ps_for PassesOwn.never rfl (pi_range1 (by rfl) (fr_range T) (pa_cons pe_int pa_nil)) (pg_name (i := 8) sc_l_calls.nd rfl (by first | exact Or.inl rfl | exact Or.inr rfl)) (pss_cons (ps_set (i := 12) sc_l_calls.nd rfl (by first | exact Or.inl rfl | exact Or.inr rfl) (pe_cal c_fingers hr (by decide) (by rfl) pass0 (pa_cons (pv 0) (pa_cons (pv 3) (pa_cons (pv 7) pa_nil))))) (pss_cons (ps_if (PW.pt (pw_or (pt_not (pt_val (pe_callB call_isi (by rfl) (fr_isinstance T) (by decide +kernel) (pa_cons (pv 12) (pa_cons (pe_bltn (v := .ty "list") (by rfl) (fr_list T) (by decide +kernel) rfl) pa_nil))))) (pw_or1 (pt_cmpR op_ne (pe_callB call_lenS (by rfl) (fr_len T) (by decide +kernel) (pa_cons (pv 12) pa_nil)) (pv 1) (nomark _))))) (pss_one (ps_ret pe_bl)) pss_nil) (pss_cons (ps_for PassesOwn.never rfl (pi_range1 (by rfl) (fr_range T) (pa_cons (pv 1) pa_nil)) (pg_name (i := 13) sc_l_calls.nd rfl (by first | exact Or.inl rfl | exact Or.inr rfl)) (pss_one (ps_if (pt_not (pt_val (pe_cal c_l_same hr (by decide) (by rfl) pass0 (pa_cons (pe_ix ix_list (pv 12) (pv 13) (fun _ _ => rfl)) (pa_cons (pe_ix ix_list (pv 11) (pv 13) (fun _ _ => rfl)) pa_nil))))) (pss_one (ps_ret pe_bl)) pss_nil))) (pss_cons (ps_asg (pe_un un_neg pe_int) (pg_sub (pv 12) pe_int set_list)) (pss_one (ps_expr (pe_bm PySem.F.plainAttrs_list PySem.F.slot_list_append PySem.F.type_list_append mt_append (pv 12) (pa_cons (pv 3) pa_nil))))))))) (pss_one (ps_ret (pe_cmpR (op_eqD hr.units) (pv 7) (pv 5) (nomark _)))))))))), ?_⟩
  rw [show L2.start n_l_calls [.ref S, .int s.bits, .int s.pat, .int seat, .int beat, .ref l] = [some (.ref S), some (.int s.bits), some (.int s.pat), some (.int seat), some (.int beat), some (.ref l), none, none, none, none, none, none, none, none] from rfl]
  try dsimp only [cxOf, Cx.nox, Cx.wish, List.map]

  obtain ⟨-, ok⟩ := id hS
  have b : 1 ≤ s.bits ∧ s.bits ≤ 8 := ⟨ok.b0, ok.b1⟩
  have pp : 1 ≤ s.pat ∧ s.pat ≤ 6 := ⟨ok.p0, ok.p1⟩
  wtm_at "rd"
  refine ⟨sz1000 (by simp), fun l2 nl2 => ?_⟩
  have k1 : Kp [] H (upd H l2 (.lst [.int seat])) := Kp.new nl2
  have h2 : upd H l2 (.lst [.int seat]) l2 = some (.lst (([seat] : List Int).map V.int)) := upd_same
  generalize upd H l2 (.lst [.int seat]) = H1 at *
  wtm_at "rd"
  refine us_l_table (k1.g0 hl) h2 nd (by simp) hx hn (by simp) b fun tb H2 hT k2 nt => ?_
  have k2 := k1.trans k2
  have hl2 := k2.g0 hl
  wtm_at "rd"
  intro ha nha
  have k3 := k2.nw (o := .lst (xs.map V.int)) nha
  have hh3 : upd H2 ha (.lst (xs.map V.int)) ha = some (.lst (xs.map V.int)) := upd_same
  have hT3 := hT.k0 (Kp.new (o := .lst (xs.map V.int)) nha)
  generalize upd H2 ha (.lst (xs.map V.int)) = H3 at *
  have S3 := hS.k0 k3
  have hl3 := k3.g0 hl
  clear hT k1 k2 h2 hl2 nha
  wtm_at "rd"
  refine forR_by (fun i σ H4 => (∃ v8 v9 v10, σ = [some (.ref S), some (.int s.bits), some (.int s.pat), some (.int seat), some (.int beat), some (.ref l), some (.ref tb), some (.ref ha), v8, v9, v10, none, none, none]) ∧ Kp [] H3 H4) ⟨⟨_, _, _, rfl⟩, Kp.refl⟩ ?_ ?_
  · rintro i σ H4 hi ⟨⟨v8, v9, v10, rfl⟩, k4⟩
    have m0 := Int.emod_nonneg ((beat + (0 + (i : Int))) / s.pat) (show s.bits ≠ 0 by omega)
    have m1 := Int.emod_lt_of_pos ((beat + (0 + (i : Int))) / s.pat) (show 0 < s.bits by omega)
    obtain ⟨tl, ln, t1, t2, t3⟩ := (hT3.k0 k4).at (ph := s.bits - 1 - (beat + (0 + (i : Int))) / s.pat % s.bits) (by omega) (by omega)
    have lk : valV (dmap [seat] fun x => ov (nearO (2 ^ s.bits.toNat) x (2 ^ (s.bits - 1 - (beat + (0 + (i : Int))) / s.pat % s.bits).toNat) xs)) (.inl seat) = some (ov (callO s.bits s.pat xs seat (beat + (0 + (i : Int))))) := dmap_in (by simp)
    have hh4 := k4.g0 hh3
    wtm_at "rd"
    refine us_l_phase b pp ?_
    wtm_at "rd"
    refine us_phase_of (S3.k0 k4) ?_
    wtm_at "rd"
    refine us_l_same (o := some (s.bits - 1 - (beat + (0 + (i : Int))) / s.pat % s.bits)) ?_
    wtm_at "rd"
    refine us_target (S3.k0 k4) hh4 ?_
    wtm_at "rd"
    refine us_l_same ?_
    wtm_at "rd"
    exact ⟨⟨_, _, _, rfl⟩, k4⟩
  rintro σ H4 ⟨⟨v8, v9, v10, rfl⟩, k4⟩
  wtm_at "rd"
  refine ⟨sz1000 (by simp), fun wa nwa => ?_⟩
  have k5 : Kp [] H3 (upd H4 wa (.lst [])) := k4.nw nwa
  have w5 : upd H4 wa (.lst []) wa = some (.lst (((List.range 0).map fun k => nearO (2 ^ s.bits.toNat) seat (2 ^ (s.bits.toNat - 1 - k)) xs).map ov)) := upd_same
  have nwa3 := k4.back nwa (by simp)
  clear k4
  generalize upd H4 wa (.lst []) = H5 at *
  wtm_at "rd"
  refine forR_by (fun i σ H6 => (∃ v8 v9 v10, σ = [some (.ref S), some (.int s.bits), some (.int s.pat), some (.int seat), some (.int beat), some (.ref l), some (.ref tb), some (.ref ha), v8, v9, v10, some (.ref wa), none, none]) ∧ H6 wa = some (.lst (((List.range i).map fun k => nearO (2 ^ s.bits.toNat) seat (2 ^ (s.bits.toNat - 1 - k)) xs).map ov)) ∧ Kp [] H3 H6) ⟨⟨_, _, _, rfl⟩, w5, k5⟩ ?_ ?_
  · rintro i σ H6 hi ⟨⟨v8, v9, v10, rfl⟩, w6, k6⟩
    obtain ⟨tl, ln, t1, t2, t3⟩ := (hT3.k0 k6).at (ph := s.bits - 1 - (0 + (i : Int))) (by omega) (by omega)
    rw [show (s.bits - 1 - (0 + (i : Int))).toNat = s.bits.toNat - 1 - i by omega] at t3
    have lk : valV (dmap [seat] fun x => ov (nearO (2 ^ s.bits.toNat) x (2 ^ (s.bits.toNat - 1 - i)) xs)) (.inl seat) = some (ov (nearO (2 ^ s.bits.toNat) seat (2 ^ (s.bits.toNat - 1 - i)) xs)) := dmap_in (by simp)
    have sl : (((List.range i).map fun k => nearO (2 ^ s.bits.toNat) seat (2 ^ (s.bits.toNat - 1 - k)) xs).map ov).length < sizeLine := szlt (by rw [List.length_map, List.length_map, List.length_range]; omega)
    wtm_at "rd"
    refine ⟨⟨_, _, _, rfl⟩, ?_, k6.mine nwa3⟩
    rw [upd_same, List.range_succ, List.map_append, List.map_append]
    rfl
  clear w5 k5 H5
  rintro σ H6 ⟨⟨v8, v9, v10, rfl⟩, w6, k6⟩
  have e6 : ((List.range s.bits.toNat).map fun k => nearO (2 ^ s.bits.toNat) seat (2 ^ (s.bits.toNat - 1 - k)) xs) = fingL s seat xs := by
    unfold fingL
    rw [Stg.ring_eq]
  rw [e6] at w6
  have fl : (fingL s seat xs).length = s.bits.toNat := by
    unfold fingL
    rw [List.length_map, List.length_range]
  wtm_at "rd"
  refine forR_by (fun i σ H7 => (∃ v8 v9 v10 v12 v13, σ = [some (.ref S), some (.int s.bits), some (.int s.pat), some (.int seat), some (.int beat), some (.ref l), some (.ref tb), some (.ref ha), v8, v9, v10, some (.ref wa), v12, v13]) ∧ Kp [] H6 H7) ⟨⟨_, _, _, _, _, rfl⟩, Kp.refl⟩ ?_ ?_
  · rintro i σ H7 hi ⟨⟨v8, v9, v10, v12, v13, rfl⟩, k7⟩
    have k37 := k6.trans k7
    have w7 := k7.g0 w6
    wtm_at "rd"
    refine us_fingers (S3.k0 k37) (k37.g0 hh3) fun q H8 hq k8 nq => ?_
    have w8 := k8.g0 w7
    have nq6 := k7.back nq (by simp)
    wtm_at "rd"
    refine ite_n (fun h => absurd (by rw [List.length_map, fl]; omega) h) (fun _ => ?_)
    wtm_at "rd"
    refine forR_by (fun j σ H9 => (∃ v8 v9 v10 v13, σ = [some (.ref S), some (.int s.bits), some (.int s.pat), some (.int seat), some (.int beat), some (.ref l), some (.ref tb), some (.ref ha), v8, v9, v10, some (.ref wa), some (.ref q), v13]) ∧ H9 = H8) ⟨⟨_, _, _, _, rfl⟩, rfl⟩ ?_ ?_
    · rintro j σ H9 hj ⟨⟨v8, v9, v10, v13, rfl⟩, rfl⟩
      have hj2 : j < (fingL s seat xs).length := by omega
      have hat : atI ((fingL s seat xs).map ov) (0 + (j : Int)) = some (ov (fingL s seat xs)[j]) := by
        rw [Int.zero_add]
        exact atI_nat (by rw [List.getElem?_map, List.getElem?_eq_getElem hj2]; rfl)
      wtm_at "rd"
      refine us_l_same ?_
      wtm_at "rd"
      exact ⟨⟨_, _, _, _, rfl⟩, rfl⟩
    · rintro σ H9 ⟨⟨v8, v9, v10, v13, rfl⟩, rfl⟩
      wtm_at "rd"
      refine rd_setL (j := 0) hq (by
        unfold ixN
        rw [List.length_map, if_pos (by omega), if_pos (by omega)]
        rfl) ?_
      have q9 : upd H9 q (.lst (((fingL s seat xs).map ov).set 0 (.int (-1)))) q = some (.lst (((fingL s seat xs).map ov).set 0 (.int (-1)))) := upd_same
      have k9 : Kp [] H6 (upd H9 q (.lst (((fingL s seat xs).map ov).set 0 (.int (-1))))) := (k7.trans k8).mine nq6
      have sl : (((fingL s seat xs).map ov).set 0 (.int (-1))).length < sizeLine := szlt (by rw [List.length_set, List.length_map]; omega)
      generalize upd H9 q (.lst (((fingL s seat xs).map ov).set 0 (.int (-1)))) = H10 at *
      wtm_at "rd"
      exact ⟨⟨_, _, _, _, _, rfl⟩, k9.mine nq6⟩
  · rintro σ H7 ⟨⟨v8, v9, v10, v12, v13, rfl⟩, k7⟩
    have k37 := k6.trans k7
    have hh7 := k37.g0 hh3
    have hl7 := k37.g0 hl3
    wtm_at "rd"
    rw [decide_eq_true rfl]
    exact kk _ (k3.trans k37)
theorem c_l_calls (T : Cx K mg) (B : Tb K mg base) : CalX P w K mg base CX0 6 "_law_calls" (sp_l_calls K) [] := by
  obtain ⟨fd, F, ok⟩ := f_l_calls (P := P) (w := w) (base := base) T B
  exact ⟨_, fd, p_l_calls, [], ok, gl_l_calls T, F.kp, FunD.bindsN F fun _ _ _ _ _ _ us hl => match us, hl with | [_, _, _, _, _, _], _ => rfl, .nil⟩
end
section
variable {P : Program} {w : World} {K : PySem.W.Frag} {mg : Str → Option Value} {base : Heap}
def sp_l_plan (K : PySem.W.Frag) : Sp := fun vs H Q E => ∃ (S l : Addr) (s : Stg) (start many : Int) (xs : List Int), vs = [.ref S, .int s.bits, .int s.pat, .ref l, .int start, .int many] ∧ (SetAt K H S s) ∧ (H l = some (.lst (xs.map V.int))) ∧ (xs.Nodup) ∧ (∀ z, z ∈ xs → 0 ≤ z ∧ z < 2 ^ s.bits.toNat) ∧ (xs.length ≤ 256) ∧ (0 ≤ many ∧ many ≤ 100) ∧ (∀ H1, Kp [] H H1 → Q (.bl true) H1)
theorem us_l_plan {K : PySem.W.Frag} {H : Hp} {Q : VK} {E : XK} {S l : Addr} {s : Stg} {start many : Int} {xs : List Int} (hS : SetAt K H S s) (hl : H l = some (.lst (xs.map V.int))) (nd : xs.Nodup) (hx : ∀ z, z ∈ xs → 0 ≤ z ∧ z < 2 ^ s.bits.toNat) (hn : xs.length ≤ 256) (hm : 0 ≤ many ∧ many ≤ 100) (kk : ∀ H1, Kp [] H H1 → Q (.bl true) H1) : sp_l_plan K [.ref S, .int s.bits, .int s.pat, .ref l, .int start, .int many] H Q E := ⟨_, _, _, _, _, _, rfl, hS, hl, nd, hx, hn, hm, kk⟩
theorem f_l_plan (T : Cx K mg) (B : Tb K mg base) : ∃ fd, FunD K "_law_plan" "_law_plan" (defArgs s_l_plan) (defBody s_l_plan) (defScope s_l_plan) (d_l_plan.dvs K) (d_l_plan.kws K) (fAd K d_l_plan.at_) fd ∧ FnOk P w K mg base CX0 11 (fAd K d_l_plan.at_) fd p_l_plan (sp_l_plan K) := by
  have c_l_table := c_l_table (P := P) (w := w) (base := base) T B
  have c_l_phase := c_l_phase (P := P) (w := w) (base := base) T B
  have c_l_pairs := c_l_pairs (P := P) (w := w) (base := base) T B
  have c_plan_rounds := c_plan_rounds (P := P) (w := w) (base := base) T B
  obtain ⟨fd, F⟩ := T.says.def_ 24 (d := d_l_plan) rfl
  refine ⟨fd, F, fnD F sc_l_plan (fun vs H Q E h => by
    obtain ⟨_, _, _, _, _, _, rfl, _⟩ := h
    rfl) fun cdv A outer s H vs Q E hr h => ?_⟩
  have hu := hu_of hr
  obtain ⟨S, l, s, start, many, xs, rfl, hS, hl, nd, hx, hn, hm, kk⟩ := h
  refine ⟨_, (pss_cons (ps_set (i := 6) sc_l_plan.nd rfl (by first | exact Or.inl rfl | exact Or.inr rfl) (pe_cal c_l_table hr (by decide) (by rfl) pass0 (pa_cons (pv 1) (pa_cons (pv 3) (pa_cons (pv 3) pa_nil))))) (pss_cons (ps_set (i := 7) sc_l_plan.nd rfl (by first | exact Or.inl rfl | exact Or.inr rfl) (pe_callTy call_listOf (by rfl) (fr_list T) (by decide +kernel) (pa_cons (pv 3) pa_nil))) (pss_cons (ps_set (i := 8) sc_l_plan.nd rfl (by first | exact Or.inl rfl | exact Or.inr rfl) (pe_listGal c_plan_rounds hr (by decide) (by rfl) (by rfl) (fr_list T) (pa_cons (pv 0) (pa_cons (pv 7) (pa_cons (pv 4) (pa_cons (pv 5) pa_nil)))))) (pss_cons (ps_if (pt_cmpR op_ne (pe_callB call_lenS (by rfl) (fr_len T) (by decide +kernel) (pa_cons (pv 8) pa_nil)) (pv 5) (nomark _)) (pss_one (ps_ret pe_bl)) pss_nil) (pss_cons (ps_for PassesOwn.never rfl (pi_range1 (by rfl) (fr_range T) (pa_cons (pv 5) pa_nil)) (pg_name (i := 9) sc_l_plan.nd rfl (by first | exact Or.inl rfl | exact Or.inr rfl)) (pss_cons (ps_set (i := 10) sc_l_plan.nd rfl (by first | exact Or.inl rfl | exact Or.inr rfl) (pe_ix ix_list (pv 6) (pe_cal c_l_phase hr (by decide) (by rfl) pass0 (pa_cons (pv 1) (pa_cons (pv 2) (pa_cons (pe_op op_add (pv 4) (pv 9)) pa_nil)))) (fun _ _ => rfl))) (pss_cons (ps_setLc (i := 11) (own := [("_law_seat", 12)]) (g := (gName 12)) rfl sc_l_plan.nd rfl rfl (sw_true rfl rfl rfl (by decide +kernel)) (pi_list (pe_callB cr_sortedI (by rfl) (fr_sorted T) (by decide +kernel) (pa_cons (pv 3) pa_nil))) (blkOk_by (own := [("_law_seat", 12)]) (N := n_l_plan) (sc := defScope s_l_plan) (by decide +kernel)) (fun _ _ _ _ _ => (pg_name (i := 12) sc_l_plan.nd rfl (by first | exact Or.inl rfl | exact Or.inr rfl))) (fun _ _ _ _ _ => (pts_one (pt_cmp (pc_notN (pe_dget hu (pv 10) (pv 12) (fun _ _ => rfl)))))) (fun _ _ _ _ _ => (pe_tup (pa_cons (pv 12) (pa_cons (pe_dget hu (pv 10) (pv 12) (fun _ _ => rfl)) pa_nil))))) (pss_one (ps_if (pt_not (pt_val (pe_cal c_l_pairs hr (by decide) (by rfl) pass0 (pa_cons (pe_ix ix_list (pv 8) (pv 9) (fun _ _ => rfl)) (pa_cons (pv 11) pa_nil))))) (pss_one (ps_ret pe_bl)) pss_nil))))) (pss_one (ps_ret (pe_cmpR (op_eqD hr.units) (pv 7) (pv 3) (nomark _))))))))), ?_⟩
  rw [show L2.start n_l_plan [.ref S, .int s.bits, .int s.pat, .ref l, .int start, .int many] = [some (.ref S), some (.int s.bits), some (.int s.pat), some (.ref l), some (.int start), some (.int many), none, none, none, none, none, none, none] from rfl]
  try dsimp only [cxOf, Cx.nox, Cx.wish, List.map]

  obtain ⟨-, ok⟩ := id hS
  have b : 1 ≤ s.bits ∧ s.bits ≤ 8 := ⟨ok.b0, ok.b1⟩
  have pp : 1 ≤ s.pat ∧ s.pat ≤ 6 := ⟨ok.p0, ok.p1⟩
  wtm_at "rd"
  refine us_l_table hl hl nd nd hx hn hn b fun tb H2 hT k2 nt => ?_
  have hl2 := k2.g0 hl
  wtm_at "rd"
  intro ha nha
  have k3 := k2.nw (o := .lst (xs.map V.int)) nha
  have hh : upd H2 ha (.lst (xs.map V.int)) ha = some (.lst (xs.map V.int)) := upd_same
  have hT := hT.k0 (Kp.new (o := .lst (xs.map V.int)) nha)
  generalize upd H2 ha (.lst (xs.map V.int)) = H3 at *
  wtm_at "rd"
  refine rd_listG (rd_callG ?_)
  wtm_at "rd"
  refine us_plan_rounds (hS.k0 k3) hh nd hn (by omega) fun os f H4 p1 p2 hf k4 => ?_
  intro fo nfo
  have k5 := k4.nw (o := .lst (f.map V.ref)) nfo
  have hfo : upd H4 fo (.lst (f.map V.ref)) fo = some (.lst (f.map V.ref)) := upd_same
  have hf5 := paired_imp (R := RowP H4) (S := RowP (upd H4 fo (.lst (f.map V.ref)))) (fun _ _ e => e.k0 (Kp.new nfo)) hf
  have fl : f.length = many.toNat := by
    have := paired_len hf
    rw [List.length_map, List.length_range] at this
    exact this
  clear hf k4
  generalize upd H4 fo (.lst (f.map V.ref)) = H5 at *
  have k5 := k3.trans k5
  have hT5 := hT.k0 (show Kp [] H3 H5 by assumption)
  have hh5 := (show Kp [] H3 H5 by assumption).g0 hh
  have hl5 := k5.g0 hl
  have osm : ∀ {j : Nat} (h : j < os.length), os[j] ∈ xs := fun h => p1.mem_iff.mp (List.getElem_mem h)
  have osl : os.length ≤ 256 := by
    rw [p1.length_eq]
    exact hn
  wtm_at "rd"
  refine ite_n (fun h => absurd (by rw [List.length_map, fl]; omega) h) (fun _ => ?_)
  wtm_at "rd"
  refine forR_by (fun i σ H6 => (∃ v9 v10 v11 v12, σ = [some (.ref S), some (.int s.bits), some (.int s.pat), some (.ref l), some (.int start), some (.int many), some (.ref tb), some (.ref ha), some (.ref fo), v9, v10, v11, v12]) ∧ Kp [] H5 H6) ⟨⟨_, _, _, _, rfl⟩, Kp.refl⟩ ?_ ?_
  · rintro i σ H6 hi ⟨⟨v9, v10, v11, v12, rfl⟩, k6⟩
    have hi2 : i < f.length := by omega
    obtain ⟨row, hrow, hra⟩ := paired_get hf5 (List.getElem?_eq_getElem hi2)
    rw [List.getElem?_map, List.getElem?_range (by omega)] at hrow
    have hrow : planRow s.bits s.pat xs os (start + (i : Nat)) = row := by
      injection hrow
    subst hrow
    rw [show start + ((i : Nat) : Int) = start + (0 + (i : Int)) by omega] at hra
    generalize hbt : start + (0 + (i : Int)) = bt at *
    have m0 := Int.emod_nonneg (bt / s.pat) (show s.bits ≠ 0 by omega)
    have m1 := Int.emod_lt_of_pos (bt / s.pat) (show 0 < s.bits by omega)
    obtain ⟨tl, ln, t1, t2, t3⟩ := (hT5.k0 k6).at (ph := s.bits - 1 - bt / s.pat % s.bits) (by omega) (by omega)
    have hl6 := k6.g0 hl5
    have hfo6 := k6.g0 hfo
    have hat : atI (f.map V.ref) (0 + (i : Int)) = some (.ref f[i]) := by
      rw [Int.zero_add]
      exact atI_nat (by rw [List.getElem?_map, List.getElem?_eq_getElem hi2]; rfl)
    wtm_at "rd"
    rw [hbt]
    refine us_l_phase b pp ?_
    wtm_at "rd"
    refine rd_sortedI hl6 fun os2 so q1 q2 nso => ?_
    obtain rfl : os2 = os := sort_uniq (q1.trans p1.symm) q2 p2
    have k7 := k6.nw (o := .lst (os2.map V.int)) nso
    have t17 : upd H6 so (.lst (os2.map V.int)) tb = some (.lst tl) := hu_ne (ne_of_none t1 nso) t1
    have t37 := hu_ne (o := .lst (os2.map V.int)) (ne_of_none t3 nso) t3
    have ho7 : upd H6 so (.lst (os2.map V.int)) so = some (.lst (os2.map V.int)) := upd_same
    generalize upd H6 so (.lst (os2.map V.int)) = H7 at *
    wtm_at "rd"
    intro D hD
    refine lcL_ints (K := K) os2 (fun j H8 => (∃ ts : List Addr, H8 D = some (.lst (ts.map V.ref)) ∧ Paired (PrAt H8) ts (planRow s.bits s.pat xs (os2.take j) bt)) ∧ Kp [] H7 H8) ⟨⟨[], upd_same, .nil⟩, Kp.new hD⟩ (fun j H8 _ q => SqL.of (q.2.g0 ho7)) ?_ ?_
    · rintro j hj H8 ⟨⟨ts, u1, u2⟩, k8⟩
      have t38 := k8.g0 t37
      have lk : valV (dmap xs fun x => ov (nearO (2 ^ s.bits.toNat) x (2 ^ (s.bits - 1 - bt / s.pat % s.bits).toNat) xs)) (.inl os2[j]) = some (ov (callO s.bits s.pat xs os2[j] bt)) := dmap_in (osm hj)
      have tsl : ts.length ≤ 256 := by
        rw [paired_len u2]
        have h1 := planRow_len (bits := s.bits) (pat := s.pat) (beat := bt) (xs := xs) (os := os2.take j)
        rw [List.length_take] at h1
        omega
      wtm_at "rd"
      refine ⟨rfl, ?_⟩
      rw [planRow_take hj]
      cases hc : callO s.bits s.pat xs os2[j] bt with
      | none =>
        rw [hc] at lk
        wtm_at "rd"
        exact ⟨⟨ts, u1, by simpa using u2⟩, k8⟩
      | some c =>
        rw [hc] at lk
        wtm_at "rd"
        refine ⟨sz1000 (by simp), fun t nt => ?_⟩
        have Dt : D ≠ t := ne_of_none u1 nt
        refine ⟨ts.map V.ref, hu_ne Dt u1, szlt (by rw [List.length_map]; omega), ⟨ts ++ [t], by rw [upd_same, List.map_append]; rfl, ?_⟩, (k8.nw nt).mine hD⟩
        have q8 : PrAt (upd (upd H8 t (.tup [.int os2[j], .int c])) D (.lst (ts.map V.ref ++ [.ref t]))) t (os2[j], c) := hu_ne (Ne.symm Dt) upd_same
        refine paired_snoc (R := PrAt (upd (upd H8 t (.tup [.int os2[j], .int c])) D (.lst (ts.map V.ref ++ [.ref t])))) q8 (paired_imp (R := PrAt H8) (fun a b e => hu_ne (ne_of e u1 (by intro z; cases z)) (hu_ne (ne_of_none e nt) e)) u2)
    · rintro H8 ⟨⟨ts, u1, u2⟩, k8⟩
      rw [List.take_length] at u2
      have k58 := k7.trans k8
      have hfo8 := k58.g0 hfo
      wtm_at "rd"
      refine us_l_pairs (hra.k0 k58) ⟨ts, u1, u2⟩ (Nat.le_trans planRow_len osl) ?_
      wtm_at "rd"
      exact ⟨⟨_, _, _, _, rfl⟩, k58⟩
  · rintro σ H6 ⟨⟨v9, v10, v11, v12, rfl⟩, k6⟩
    have hh6 := k6.g0 hh5
    have hl6 := k6.g0 hl5
    wtm_at "rd"
    rw [decide_eq_true rfl]
    exact kk _ (k5.trans k6)
theorem c_l_plan (T : Cx K mg) (B : Tb K mg base) : CalX P w K mg base CX0 11 "_law_plan" (sp_l_plan K) [] := by
  obtain ⟨fd, F, ok⟩ := f_l_plan (P := P) (w := w) (base := base) T B
  exact ⟨_, fd, p_l_plan, [], ok, gl_l_plan T, F.kp, FunD.bindsN F fun _ _ _ _ _ _ us hl => match us, hl with | [_, _, _, _, _, _], _ => rfl, .nil⟩
end
section
variable {P : Program} {w : World} {K : PySem.W.Frag} {mg : Str → Option Value} {base : Heap}
def sp_law (K : PySem.W.Frag) : Sp := fun vs H Q E => ∃ (a : Addr) (ns : List Int), vs = [.ref a] ∧ (SqL K H a (ns.map V.int)) ∧ (ns.length ≤ 63) ∧ (LamX.Tabs (TT K) H) ∧ (∀ H1, Q (.bl true) H1)
theorem us_law {K : PySem.W.Frag} {H : Hp} {Q : VK} {E : XK} {a : Addr} {ns : List Int} (hS : SqL K H a (ns.map V.int)) (hl : ns.length ≤ 63) (hT : LamX.Tabs (TT K) H) (kk : ∀ H1, Q (.bl true) H1) : sp_law K [.ref a] H Q E := ⟨_, _, rfl, hS, hl, hT, kk⟩
theorem f_law (T : Cx K mg) (B : Tb K mg base) : ∃ fd, FunD K "law" "law" (defArgs s_law) (defBody s_law) (defScope s_law) (d_law.dvs K) (d_law.kws K) (fAd K d_law.at_) fd ∧ FnOk P w K mg base CX0 12 (fAd K d_law.at_) fd p_law (sp_law K) := by
  have c_l_purse := c_l_purse (P := P) (w := w) (base := base) T B
  have c_l_draw := c_l_draw (P := P) (w := w) (base := base) T B
  have c_l_setting := c_l_setting (P := P) (w := w) (base := base) T B
  have c_l_seats := c_l_seats (P := P) (w := w) (base := base) T B
  have c_l_bent := c_l_bent (P := P) (w := w) (base := base) T B
  have c_l_beat := c_l_beat (P := P) (w := w) (base := base) T B
  have c_l_calls := c_l_calls (P := P) (w := w) (base := base) T B
  have c_l_plan := c_l_plan (P := P) (w := w) (base := base) T B
  obtain ⟨fd, F⟩ := T.says.def_ 25 (d := d_law) rfl
  refine ⟨fd, F, fnD F sc_law (fun vs H Q E h => by
    obtain ⟨_, _, rfl, _⟩ := h
    rfl) fun cdv A outer s H vs Q E hr h => ?_⟩
  have hu := hu_of hr
  obtain ⟨a, ns, rfl, hS, hl, hT, kk⟩ := h
  refine ⟨_, (pss_cons (ps_set (i := 1) sc_law.nd rfl (by first | exact Or.inl rfl | exact Or.inr rfl) (pe_cal c_l_purse hr (by decide) (by rfl) pass0 (pa_cons (pv 0) pa_nil))) (pss_cons (ps_set (i := 2) sc_law.nd rfl (by first | exact Or.inl rfl | exact Or.inr rfl) (pe_ix ix_list (pe_lst (pa_cons pe_int (pa_cons pe_int (pa_cons pe_int (pa_cons pe_int (pa_cons pe_int (pa_cons pe_int (pa_cons pe_int (pa_cons pe_int (pa_cons pe_int (pa_cons pe_int (pa_cons pe_int (pa_cons pe_int pa_nil))))))))))))) (pe_cal c_l_draw hr (by decide) (by rfl) pass0 (pa_cons (pv 1) (pa_cons pe_int pa_nil))) (fun _ _ => rfl))) (pss_cons (ps_set (i := 3) sc_law.nd rfl (by first | exact Or.inl rfl | exact Or.inr rfl) (pe_ix ix_list (pe_lst (pa_cons pe_int (pa_cons pe_int (pa_cons pe_int (pa_cons pe_int (pa_cons pe_int (pa_cons pe_int (pa_cons pe_int (pa_cons pe_int (pa_cons pe_int (pa_cons pe_int pa_nil))))))))))) (pe_cal c_l_draw hr (by decide) (by rfl) pass0 (pa_cons (pv 1) (pa_cons pe_int pa_nil))) (fun _ _ => rfl))) (pss_cons (ps_set (i := 4) sc_law.nd rfl (by first | exact Or.inl rfl | exact Or.inr rfl) (pe_op op_shl pe_int (pv 2))) (pss_cons (ps_set (i := 5) sc_law.nd rfl (by first | exact Or.inl rfl | exact Or.inr rfl) (pe_cal c_l_setting hr (by decide) (by rfl) pass0 (pa_cons (pv 1) (pa_cons (pv 2) (pa_cons (pv 3) pa_nil))))) (pss_cons (ps_set (i := 6) sc_law.nd rfl (by first | exact Or.inl rfl | exact Or.inr rfl) (pe_cal c_l_seats hr (by decide) (by rfl) pass0 (pa_cons (pv 1) (pa_cons (pv 4) (pa_cons (pe_callB (call_min2' rfl) (by rfl) (fr_min T) (by decide +kernel) (pa_cons (pv 4) (pa_cons (pe_ix ix_list (pe_lst (pa_cons pe_int (pa_cons pe_int (pa_cons pe_int (pa_cons pe_int (pa_cons pe_int (pa_cons pe_int (pa_cons pe_int (pa_cons pe_int (pa_cons pe_int (pa_cons pe_int pa_nil))))))))))) (pe_cal c_l_draw hr (by decide) (by rfl) pass0 (pa_cons (pv 1) (pa_cons pe_int pa_nil))) (fun _ _ => rfl)) pa_nil))) pa_nil))))) (pss_cons (ps_set (i := 7) sc_law.nd rfl (by first | exact Or.inl rfl | exact Or.inr rfl) (pe_cal c_l_bent hr (by decide) (by rfl) pass0 (pa_cons (pv 1) (pa_cons (pv 4) (pa_cons (pv 6) pa_nil))))) (pss_cons (ps_set (i := 8) sc_law.nd rfl (by first | exact Or.inl rfl | exact Or.inr rfl) (pe_cal c_l_draw hr (by decide) (by rfl) pass0 (pa_cons (pv 1) (pa_cons (pv 4) pa_nil)))) (C8.pss_cut (ps_if (PW.pt (pw_and (pt_cmpR op_eq (pe_cal c_l_draw hr (by decide) (by rfl) pass0 (pa_cons (pv 1) (pa_cons pe_int pa_nil))) pe_int (nomark _)) (pw_and1 (pt_cmpR (op_neD hr.units) (pv 6) (pe_lst pa_nil) (nomark _))))) (pss_one (ps_set (i := 8) sc_law.nd rfl (by first | exact Or.inl rfl | exact Or.inr rfl) (pe_ix ix_list (pv 6) (pe_cal c_l_draw hr (by decide) (by rfl) pass0 (pa_cons (pv 1) (pa_cons (pe_callB call_lenS (by rfl) (fr_len T) (by decide +kernel) (pa_cons (pv 6) pa_nil)) pa_nil))) (fun _ _ => rfl)))) pss_nil) (pss_cons (ps_set (i := 9) sc_law.nd rfl (by first | exact Or.inl rfl | exact Or.inr rfl) (pe_cal c_l_beat hr (by decide) (by rfl) pass0 (pa_cons (pv 1) (pa_cons (pe_op op_mul (pv 2) (pv 3)) pa_nil)))) (pss_cons (ps_set (i := 10) sc_law.nd rfl (by first | exact Or.inl rfl | exact Or.inr rfl) (pe_cal c_l_beat hr (by decide) (by rfl) pass0 (pa_cons (pv 1) (pa_cons (pe_op op_mul (pv 2) (pv 3)) pa_nil)))) (pss_cons (ps_set (i := 11) sc_law.nd rfl (by first | exact Or.inl rfl | exact Or.inr rfl) (pe_ix ix_list (pe_lst (pa_cons pe_int (pa_cons pe_int (pa_cons pe_int (pa_cons pe_int (pa_cons pe_int (pa_cons pe_int (pa_cons (pe_op op_add (pe_op op_mul (pv 2) (pv 3)) pe_int) (pa_cons pe_int pa_nil))))))))) (pe_cal c_l_draw hr (by decide) (by rfl) pass0 (pa_cons (pv 1) (pa_cons pe_int pa_nil))) (fun _ _ => rfl))) (C8.pss_cut (ps_if (pt_cmpR op_gt (pe_callB call_lenS (by rfl) (fr_len T) (by decide +kernel) (pa_cons (pv 6) pa_nil)) pe_int (nomark _)) (pss_one (ps_set (i := 11) sc_law.nd rfl (by first | exact Or.inl rfl | exact Or.inr rfl) (pe_callB (call_min2' rfl) (by rfl) (fr_min T) (by decide +kernel) (pa_cons (pv 11) (pa_cons pe_int pa_nil))))) pss_nil) (pss_cons (ps_for PassesOwn.never rfl (pi_list (pe_lst (pa_cons (pv 6) (pa_cons (pv 7) (pa_cons (pv 6) pa_nil))))) (pg_name (i := 12) sc_law.nd rfl (by first | exact Or.inl rfl | exact Or.inr rfl)) (pss_cons (ps_if (pt_not (pt_val (pe_cal c_l_calls hr (by decide) (by rfl) pass0 (pa_cons (pv 5) (pa_cons (pv 2) (pa_cons (pv 3) (pa_cons (pv 8) (pa_cons (pv 9) (pa_cons (pv 12) pa_nil))))))))) (pss_one (ps_ret pe_bl)) pss_nil) (pss_one (ps_if (pt_not (pt_val (pe_cal c_l_plan hr (by decide) (by rfl) pass0 (pa_cons (pv 5) (pa_cons (pv 2) (pa_cons (pv 3) (pa_cons (pv 12) (pa_cons (pv 10) (pa_cons (pv 11) pa_nil))))))))) (pss_one (ps_ret pe_bl)) pss_nil)))) (pss_one (ps_ret pe_bl)))))))))))))))), ?_⟩
  rw [show L2.start n_law [.ref a] = [some (.ref a), none, none, none, none, none, none, none, none, none, none, none, none] from rfl]
  try dsimp only [cxOf, Cx.nox, Cx.wish, List.map]

  clear hT
  wtm_at "rd"
  refine us_l_purse hS hl fun p c H1 B1 k1 np nc => ?_
  clear hS k1
  wtm_at "rd"
  refine ⟨sz1000 (by simp), fun t1 nt1 => ?_⟩
  have e1 : upd H1 t1 (.lst [.int 2, .int 3, .int 2, .int 3, .int 1, .int 4, .int 3, .int 2, .int 5, .int 6, .int 7, .int 8]) t1 = some (.lst (([2, 3, 2, 3, 1, 4, 3, 2, 5, 6, 7, 8] : List Int).map V.int)) := upd_same
  have B2 := B1.new (o := .lst [.int 2, .int 3, .int 2, .int 3, .int 1, .int 4, .int 3, .int 2, .int 5, .int 6, .int 7, .int 8]) nt1
  generalize upd H1 t1 (.lst [.int 2, .int 3, .int 2, .int 3, .int 1, .int 4, .int 3, .int 2, .int 5, .int 6, .int 7, .int 8]) = H2 at *
  wtm_at "rd"
  refine us_l_draw B2 (by decide) (by decide) fun n3 H3 n30 n31 B3 k3 => ?_
  have e3 := k3.g1 (B2.lst e1) e1
  obtain ⟨bits, hb, at3⟩ := pickI [2, 3, 2, 3, 1, 4, 3, 2, 5, 6, 7, 8] n30 (by simpa using n31)
  have b : 1 ≤ bits ∧ bits ≤ 8 := by
    simp only [List.mem_cons, List.not_mem_nil, or_false] at hb
    omega
  wtm_at "rd"
  refine ⟨sz1000 (by simp), fun t4 nt4 => ?_⟩
  have e4 : upd H3 t4 (.lst [.int 1, .int 2, .int 1, .int 2, .int 3, .int 1, .int 2, .int 4, .int 5, .int 6]) t4 = some (.lst (([1, 2, 1, 2, 3, 1, 2, 4, 5, 6] : List Int).map V.int)) := upd_same
  have B4 := B3.new (o := .lst [.int 1, .int 2, .int 1, .int 2, .int 3, .int 1, .int 2, .int 4, .int 5, .int 6]) nt4
  generalize upd H3 t4 (.lst [.int 1, .int 2, .int 1, .int 2, .int 3, .int 1, .int 2, .int 4, .int 5, .int 6]) = H4 at *
  wtm_at "rd"
  refine us_l_draw B4 (by decide) (by decide) fun n5 H5 n50 n51 B5 k5 => ?_
  have e5 := k5.g1 (B4.lst e4) e4
  obtain ⟨pat, hp, at5⟩ := pickI [1, 2, 1, 2, 3, 1, 2, 4, 5, 6] n50 (by simpa using n51)
  have pp : 1 ≤ pat ∧ pat ≤ 6 := by
    simp only [List.mem_cons, List.not_mem_nil, or_false] at hp
    omega
  have tp := turn_pos b pp
  clear hb hp e1 e3 k3 k5 e4
  wtm_at "rd"
  refine us_l_setting B5 b pp fun S s H6 S6 sb sp B6 k6 => ?_
  subst sb sp
  have rg : Ring (2 ^ s.bits.toNat) := ring_pow b.1 b.2
  have rp := rg.pos
  have rl := rg.le
  wtm_at "rd"
  refine ⟨sz1000 (by simp), fun t7 nt7 => ?_⟩
  have e7 : upd H6 t7 (.lst [.int 3, .int 2, .int 4, .int 0, .int 5, .int 1, .int 6, .int 4, .int 7, .int 40]) t7 = some (.lst (([3, 2, 4, 0, 5, 1, 6, 4, 7, 40] : List Int).map V.int)) := upd_same
  have B7 := B6.new (o := .lst [.int 3, .int 2, .int 4, .int 0, .int 5, .int 1, .int 6, .int 4, .int 7, .int 40]) nt7
  have S7 := S6.k0 (Kp.new (o := .lst [.int 3, .int 2, .int 4, .int 0, .int 5, .int 1, .int 6, .int 4, .int 7, .int 40]) nt7)
  generalize upd H6 t7 (.lst [.int 3, .int 2, .int 4, .int 0, .int 5, .int 1, .int 6, .int 4, .int 7, .int 40]) = H7 at *
  wtm_at "rd"
  refine us_l_draw B7 (by decide) (by decide) fun n8 H8 n80 n81 B8 k8 => ?_
  have e8 := k8.g1 (B7.lst e7) e7
  have S8 := S7.kpp B7 k8
  obtain ⟨m9, hm9, at9⟩ := pickI [3, 2, 4, 0, 5, 1, 6, 4, 7, 40] n80 (by simpa using n81)
  have m9b : 0 ≤ m9 ∧ m9 ≤ 40 := by
    simp only [List.mem_cons, List.not_mem_nil, or_false] at hm9
    omega
  clear hm9 e7 S7 S6 k8 k6
  rw [Int.one_mul]
  wtm_at "rd"
  refine us_l_seats B8 (by omega) (by omega) (by omega) fun hl xs H9 hx hl9 nd hlen B9 k9 nhl => ?_
  have S9 := S8.kpp B8 k9
  clear k9 e8 S8
  have xl : xs.length ≤ 256 := by omega
  wtm_at "rd"
  refine us_l_bent B9 hl9 nd hx ⟨by omega, rl⟩ fun ml ys H10 ml10 nd2 hy B10 k10 => ?_
  have S10 := S9.kpp B9 k10
  have hl10 := k10.g1 (B9.lst hl9) hl9
  have yl := seats_len nd2 hy
  clear k10 S9 B9 hl9
  wtm_at "rd"
  refine us_l_draw B10 (by omega) (by omega) fun n11 H11 n110 n111 B11 k11 => ?_
  have S11 := S10.kpp B10 k11
  have hl11 := k11.g1 (B10.lst hl10) hl10
  have ml11 := k11.g1 (B10.lst ml10) ml10
  clear k11 S10 B10 hl10 ml10
  wtm_at "rd"
  refine rd_cut (fun σ H => (∃ v4 z, σ = [some (.ref a), some (.ref p), some (.int s.bits), some (.int s.pat), v4, some (.ref S), some (.ref hl), some (.ref ml), some (.int z), none, none, none, none]) ∧ Purse H p c ∧ SetAt K H S s ∧ H hl = some (.lst (xs.map V.int)) ∧ H ml = some (.lst (ys.map V.int))) ?_ ?_
  · wtm_at "rd"
    refine us_l_draw B11 (by decide) (by decide) fun n12 H12 n120 n121 B12 k12 => ?_
    have S12 := S11.kpp B11 k12
    have hl12 := k12.g1 (B11.lst hl11) hl11
    have ml12 := k12.g1 (B11.lst ml11) ml11
    wtm_at "rd"
    refine ite_d (fun h => ?_) (fun h => ?_)
    · wtm_at "rd"
      refine ⟨sz1000 (by simp), fun e0 ne0 => ?_⟩
      have B13 := B12.new (o := .lst []) ne0
      have k13 : Kp [] H12 (upd H12 e0 (.lst [])) := Kp.new ne0
      have S13 := S12.k0 k13
      have hl13 := k13.g0 hl12
      have ml13 := k13.g0 ml12
      have he3 : upd H12 e0 (.lst []) e0 = some (.lst (([] : List Int).map V.int)) := upd_same
      generalize upd H12 e0 (.lst []) = H13 at *
      refine rd_neLI (SqL.of hl13) (SqL.of he3) ?_
      wtm_at "rd"
      refine ite_n (fun hne => ?_) (fun hne => ?_)
      · have x1 : 1 ≤ xs.length := by
          cases xs with
          | nil => exact absurd rfl hne
          | cons a b => simp
        wtm_at "rd"
        refine us_l_draw B13 (by omega) (by omega) fun n14 H14 n140 n141 B14 k14 => ?_
        have S14 := S13.kpp B13 k14
        have hl14 := k14.g1 (B13.lst hl13) hl13
        have ml14 := k14.g1 (B13.lst ml13) ml13
        obtain ⟨z, rfl⟩ := Int.eq_ofNat_of_zero_le n140
        have zl : z < xs.length := by omega
        have hat : atI (xs.map V.int) (z : Int) = some (.int xs[z]) := atI_nat (by rw [List.getElem?_map, List.getElem?_eq_getElem zl]; rfl)
        wtm_at "rd"
        exact ⟨⟨_, _, rfl⟩, B14, S14, hl14, ml14⟩
      · wtm_at "rd"
        exact ⟨⟨_, _, rfl⟩, B13, S13, hl13, ml13⟩
    · wtm_at "rd"
      exact ⟨⟨_, _, rfl⟩, B12, S12, hl12, ml12⟩
  clear B11 S11 hl11 ml11
  rintro σ H12 ⟨⟨v4, z, rfl⟩, B12, S12, hl12, ml12⟩
  wtm_at "rd"
  refine us_l_beat B12 tp fun n13 H13 B13 k13 => ?_
  have S13 := S12.kpp B12 k13
  have hl13 := k13.g1 (B12.lst hl12) hl12
  have ml13 := k13.g1 (B12.lst ml12) ml12
  clear k13 S12 hl12 ml12 B12
  wtm_at "rd"
  refine us_l_beat B13 tp fun n14 H14 B14 k14 => ?_
  have S14 := S13.kpp B13 k14
  have hl14 := k14.g1 (B13.lst hl13) hl13
  have ml14 := k14.g1 (B13.lst ml13) ml13
  clear k14 S13 hl13 ml13 B13
  wtm_at "rd"
  refine ⟨sz1000 (by simp), fun t15 nt15 => ?_⟩
  have e15 : upd H14 t15 (.lst [.int 3, .int 0, .int 1, .int 2, .int 5, .int 8, .int (s.bits * s.pat + 1), .int 4]) t15 = some (.lst (([3, 0, 1, 2, 5, 8, s.bits * s.pat + 1, 4] : List Int).map V.int)) := upd_same
  have B15 := B14.new (o := .lst [.int 3, .int 0, .int 1, .int 2, .int 5, .int 8, .int (s.bits * s.pat + 1), .int 4]) nt15
  have k15 : Kp [] H14 _ := Kp.new (o := .lst [.int 3, .int 0, .int 1, .int 2, .int 5, .int 8, .int (s.bits * s.pat + 1), .int 4]) nt15
  have S15 := S14.k0 k15
  have hl15 := k15.g0 hl14
  have ml15 := k15.g0 ml14
  generalize upd H14 t15 (.lst [.int 3, .int 0, .int 1, .int 2, .int 5, .int 8, .int (s.bits * s.pat + 1), .int 4]) = H15 at *
  clear k15 S14 hl14 ml14 B14
  wtm_at "rd"
  refine us_l_draw B15 (by decide) (by decide) fun n16 H16 n160 n161 B16 k16 => ?_
  have e16 := k16.g1 (B15.lst e15) e15
  have S16 := S15.kpp B15 k16
  have hl16 := k16.g1 (B15.lst hl15) hl15
  have ml16 := k16.g1 (B15.lst ml15) ml15
  clear k16 S15 hl15 ml15 B15
  obtain ⟨m0, hm0, at0⟩ := pickI [3, 0, 1, 2, 5, 8, s.bits * s.pat + 1, 4] n160 (by simpa using n161)
  have m0b : 0 ≤ m0 ∧ m0 ≤ 100 := by
    simp only [List.mem_cons, List.not_mem_nil, or_false] at hm0
    omega
  clear hm0 e15
  wtm_at "rd"
  refine rd_cut (fun σ H => (∃ v4 m, σ = [some (.ref a), some (.ref p), some (.int s.bits), some (.int s.pat), v4, some (.ref S), some (.ref hl), some (.ref ml), some (.int z), some (.int n13), some (.int n14), some (.int m), none] ∧ 0 ≤ m ∧ m ≤ 100) ∧ H = H16) ?_ ?_
  · wtm_at "rd"
    refine ite_d (fun h => ?_) (fun h => ?_)
    · wtm_at "rd"
      exact ⟨⟨_, _, rfl, by omega, by omega⟩, rfl⟩
    · wtm_at "rd"
      exact ⟨⟨_, _, rfl, by omega, by omega⟩, rfl⟩
  clear v4
  rintro σ H17 ⟨⟨v4, m, rfl, m1, m2⟩, rfl⟩
  wtm_at "rd"
  refine ⟨sz1000 (by simp), fun t5 nt5 => ?_⟩
  have kc : Kp [] H17 (upd H17 t5 (.lst [.ref hl, .ref ml, .ref hl])) := Kp.new nt5
  have L12 : upd H17 t5 (.lst [.ref hl, .ref ml, .ref hl]) t5 = some (.lst [.ref hl, .ref ml, .ref hl]) := upd_same
  have S18 := S16.k0 kc
  have all : ∀ x, x ∈ [V.ref hl, .ref ml, .ref hl] → ∃ (l : Addr) (zs : List Int), x = .ref l ∧ upd H17 t5 (.lst [.ref hl, .ref ml, .ref hl]) l = some (.lst (zs.map V.int)) ∧ zs.Nodup ∧ (∀ w, w ∈ zs → 0 ≤ w ∧ w < 2 ^ s.bits.toNat) ∧ zs.length ≤ 256 := fun x hx2 => by
    simp only [List.mem_cons, List.not_mem_nil, or_false] at hx2
    rcases hx2 with rfl | rfl | rfl
    · exact ⟨_, _, rfl, kc.g0 hl16, nd, hx, xl⟩
    · exact ⟨_, _, rfl, kc.g0 ml16, nd2, hy, by omega⟩
    · exact ⟨_, _, rfl, kc.g0 hl16, nd, hx, xl⟩
  generalize upd H17 t5 (.lst [.ref hl, .ref ml, .ref hl]) = H18 at *
  wtm_at "rd"
  refine forL_by (K := K) [.ref hl, .ref ml, .ref hl] (fun i σ H => (∃ v12, σ = [some (.ref a), some (.ref p), some (.int s.bits), some (.int s.pat), v4, some (.ref S), some (.ref hl), some (.ref ml), some (.int z), some (.int n13), some (.int n14), some (.int m), v12]) ∧ Kp [] H18 H) ⟨⟨_, rfl⟩, Kp.refl⟩ (fun i σ H _ q => SqL.of (q.2.g0 L12)) ?_ ?_
  · rintro i x σ H hi ⟨⟨v12, rfl⟩, k19⟩
    obtain ⟨l, zs, rfl, hz, z1, z2, z3⟩ := all x (List.mem_of_getElem? hi)
    wtm_at "rd"
    refine us_l_calls (S18.k0 k19) (k19.g0 hz) z1 z2 z3 fun H20 k20 => ?_
    have k20 := k19.trans k20
    wtm_at "rd"
    refine us_l_plan (S18.k0 k20) (k20.g0 hz) z1 z2 z3 ⟨m1, m2⟩ fun H21 k21 => ?_
    wtm_at "rd"
    exact ⟨⟨_, rfl⟩, k20.trans k21⟩
  · rintro σ H ⟨⟨v12, rfl⟩, k19⟩
    wtm_at "rd"
    exact kk _
end

abbrev hk : PySem.W.Hook := hookP 6 fa fn gs tf ex
def ob (s : PySem.W.SharedT) : AlP := obsP 6 fa fn gs tf ex (HandSHeadRun.getT s)
theorem ob_eq (s : PySem.W.SharedT) : ob s = hk.obs s.abs := obsP_eq (HandSHeadRun.getT_eq s)
def names : List Str := (["_wall", "GroupError", "InvalidSetting", "whole", "Setting", "distance", "block_of", "phase_of", "offset_of", "nearest", "target", "fingers", "finger_table", "called_at", "plan_rounds", "_law_purse", "_law_mixed", "_law_draw", "_law_setting", "_law_seats", "_law_table", "_law_bent", "_law_beat", "_law_phase", "_law_same", "_law_calls", "_law_pairs", "_law_plan"] : List Str)
theorem run (w : World) : HandSHeadRun.RunEq R (PySem.W.view R.prog [32]) hk ob 6000 names w := by
  intro os
  kernel_rfl
theorem law_all {P : Program} {w : World} {K : PySem.W.Frag} {mg : Str → Option Value} (T : Cx K mg) :
    ∃ fd : FuncData, (∀ (s : Shared) (v : Value), BindsTo s fd ⟨[v], []⟩ [("_law_script", v)]) ∧ ∀ base : Heap, Tb K mg base → FnOk P w K mg base CX0 12 (ga K "law") fd ["_law_script"] (sp_law K) := by
  obtain ⟨fd, F⟩ := T.says.def_ 25 (d := d_law) rfl
  have b := FunD.bindsA (ps := ["_law_script"]) F fun _ _ _ _ _ _ us hl => match us, hl with | [_], _ => rfl
  refine ⟨fd, fun s v => b s [v] rfl, fun base B => ?_⟩
  obtain ⟨fd2, F2, ok⟩ := f_law (P := P) (w := w) (base := base) T B
  have e : fd2 = fd := by
    obtain ⟨oc, od, dV, kV, doc, pm, an, cdv, ct, osl, e1, l1, -⟩ := F.ex
    obtain ⟨oc2, od2, dV2, kV2, doc2, pm2, an2, cdv2, ct2, osl2, e2, l2, -⟩ := F2.ex
    rw [l1] at l2
    injection l2 with l3
    injection l3 with _ _ l4 _
    injection l4 with l5
    exact l5.symm
  subst e
  exact ok

end My

open PySem PySem.W PySem.Calls PyProof.Rows
set_option maxRecDepth 100000 in
set_option maxHeartbeats 0 in
theorem PySem.Challenge.cw_livingroll_k14_targets_and_plan_rounds_holds : PySem.Challenge.rw_livingroll_k14_targets_and_plan_rounds.Holds := by
  w_on; o_law
  refine HandSHeadRun.head_any (r := OpenLaw.row PySem.Challenge.rw_livingroll_k14_targets_and_plan_rounds) (q := view (OpenLaw.row PySem.Challenge.rw_livingroll_k14_targets_and_plan_rounds).prog [32]) (H := My.hk) (ob := My.ob) (M := 6000) (loose := My.names) (d := HandSHeadRun.topDef (OpenLaw.row PySem.Challenge.rw_livingroll_k14_targets_and_plan_rounds).prog 32) (kwd := []) My.ob_eq
    (by kernel_rfl) (fun s => by kernel_rfl) My.run (by kernel_rfl) (by kernel_rfl) (by kernel_rfl) (by rfl) (by first | assumption | decide +kernel) (by decide +kernel) ⟨rfl, rfl, rfl, rfl, rfl, by decide +kernel⟩ ?hw ?hc
  case hw => w_witness2
  case hc =>
    refine LamX.walk_ofTsE (l := PySem.Challenge.rw_livingroll_k14_targets_and_plan_rounds) (n := 63) (k := 12) (x := "_law_script") (CX := fun _ => L2.CX0) rfl (by decide) (by kernel_rfl) ⟨rfl, by decide, by decide⟩ ?F (fun _ _ _ _ _ z => z)
    intro w mg fa h Y G hmg0
    obtain ⟨K, KX, c⟩ := Y
    have hmg : mg ("law" : PySem.Str) = some (.ref fa) := by
      have e : (HandSHeadRun.topDef (OpenLaw.row PySem.Challenge.rw_livingroll_k14_targets_and_plan_rounds).prog 32).name = ("law" : PySem.Str) := by kernel_rfl
      rw [← e]
      exact hmg0
    have T : My.Cx K mg := ⟨c.x.t.d, c.x.more, h, KX, G⟩
    have e := hmg.symm.trans (My.gl_law T)
    cases e
    obtain ⟨fd, hb, hF⟩ := My.law_all (P := PySem.Challenge.pw_livingroll_k14_targets_and_plan_rounds) (w := w) T
    refine ⟨K, KX, fd, My.tf.map (He.cT K), My.sp_law K, fun p hp => ?_, fun p hp => ?_, fun p hp => ?_, hb, fun H a ns hl _ hH hS => ⟨a, ns, rfl, hS, hl, RD.tabs_nil (tf := My.tf) (K := K) rfl hH, fun _ => rfl⟩, fun base _ _ B => hF base ⟨B, fun d hd => c.get hd⟩⟩
    · obtain ⟨q, hq, rfl⟩ := List.mem_map.mp hp
      exact c.x.empty q hq
    · obtain ⟨q, hq, rfl⟩ := List.mem_map.mp hp
      exact c.x.out q hq
    · obtain ⟨q, hq, rfl⟩ := List.mem_map.mp hp
      exact PySem.W.codeHd_of_K KX (c.x.hd q hq)
