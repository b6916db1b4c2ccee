import PyProof.Rows.All
import Wide.All
import OpenK.AllK
import Wide.FinOn
import KE.KStateDown
import Lean
import HandS.ForMost
import HandS.Flow
import HandS.IsInst
import HandS.DictTup
import HandS.Codes
import HandS.Defaults
import HandS.Head0
import HandS.Head1
import HandS.Head2
import HandS.HeadEnd
import HandS.HeadHook1
import HandS.HeadHook2
import HandS.HeadHook3
import HandS.Conv
import HandS.Property
import KE.SortKeyHeap
import KE.KMinKey
import HandS.Lambda
import HandS.Sort
import HandS.HeadHook4
import HandS.HeadWalk
import HandS.Property
import HandS.Style
import HandS.MakeKwOnly
import HandS.Wide
import HandS.More
import HandS.DictComp
import HandS.DeepEq
import HandS.GenList
import HandS.Flow
import PyProof.LongRange
import HandS.SortInts
import HandS.SetFor
import HandS.Finally
import PySem.Challenge.RW_livingroll_k15_spread_steps
set_option Elab.async false
set_option linter.all false
set_option maxRecDepth 100000
set_option maxHeartbeats 4000000
/-! own layer: the head by facts, one lemma for each reading, a step tactic -/
namespace RD
open PySem PySem.Spec PyProof.Rows L2 He

/-! ### frames: what stays -/
def Kp (ps : List Addr) (H H' : Hp) : Prop := ∀ b o, H b = some o → b ∉ ps → H' b = some o
theorem Kp.refl {ps : List Addr} {H : Hp} : Kp ps H H := fun _ _ h _ => h
theorem Kp.trans {ps : List Addr} {H H1 H2 : Hp} (a : Kp ps H H1) (b : Kp ps H1 H2) : Kp ps H H2 := fun c o h n => b c o (a c o h n) n
theorem Kp.mono {ps qs : List Addr} {H H' : Hp} (a : Kp ps H H') (h : ∀ p, p ∈ ps → p ∈ qs) : Kp qs H H' := fun c o e n => a c o e fun m => n (h c m)
theorem Kp.of0 {qs : List Addr} {H H' : Hp} (a : Kp [] H H') : Kp qs H H' := fun c o e _ => a c o e (by simp)
theorem Kp.new {ps : List Addr} {H : Hp} {p : Addr} {o : HO} (h : H p = none) : Kp ps H (upd H p o) := fun b u e _ => by
  rw [upd_ne (ne_of_none e h)]
  exact e
theorem Kp.wr {ps : List Addr} {H H' : Hp} {p : Addr} {o : HO} (a : Kp ps H H') (h : p ∈ ps) : Kp ps H (upd H' p o) := fun b u e n => by
  have hb : b ≠ p := by
    intro z
    subst z
    exact n h
  rw [upd_ne hb]
  exact a b u e n
theorem Kp.nw {ps : List Addr} {H H' : Hp} {p : Addr} {o : HO} (a : Kp ps H H') (h : H' p = none) : Kp ps H (upd H' p o) := a.trans (Kp.new h)
/-- an object made behind H is written -/
theorem Kp.mine {ps : List Addr} {H H' : Hp} {p : Addr} {o : HO} (a : Kp ps H H') (h : H p = none) : Kp ps H (upd H' p o) := fun b u e n => by
  rw [upd_ne (ne_of_none e h)]
  exact a b u e n
theorem Kp.g0 {H H' : Hp} {b : Addr} {o : HO} (a : Kp [] H H') (e : H b = some o) : H' b = some o := a b o e (by simp)
theorem Kp.g1 {p : Addr} {H H' : Hp} {b : Addr} {o : HO} (a : Kp [p] H H') (n : b ≠ p) (e : H b = some o) : H' b = some o := a b o e (by simp [n])
theorem Kp.g2 {p q : Addr} {H H' : Hp} {b : Addr} {o : HO} (a : Kp [p, q] H H') (n : b ≠ p) (m : b ≠ q) (e : H b = some o) : H' b = some o := a b o e (by simp [n, m])
theorem Kp.g3 {p q r : Addr} {H H' : Hp} {b : Addr} {o : HO} (a : Kp [p, q, r] H H') (n : b ≠ p) (m : b ≠ q) (l : b ≠ r) (e : H b = some o) : H' b = some o := a b o e (by simp [n, m, l])
theorem Kp.back {ps : List Addr} {H H' : Hp} (a : Kp ps H H') {l : Addr} (h : H' l = none) (n : l ∉ ps) : H l = none := by
  cases q : H l with
  | none => rfl
  | some o =>
    rw [a l o q n] at h
    cases h
theorem Kp.via {ps qs : List Addr} {H H' H2 : Hp} (a : Kp ps H H') (b : Kp qs H' H2) (n : ∀ q, q ∈ qs → q ∈ ps ∨ H q = none) : Kp ps H H2 := fun c o e m => b c o (a c o e m) fun z => by
  rcases n c z with z | z
  · exact m z
  · rw [z] at e
    cases e
theorem Kp.via1 {ps : List Addr} {p : Addr} {H H' H2 : Hp} (a : Kp ps H H') (b : Kp [p] H' H2) (n : H p = none) : Kp ps H H2 := a.via b fun q hq => by
  rw [List.mem_singleton.mp hq]
  exact .inr n
theorem rd_kp {ps : List Addr} {H H' : Hp} {b : Addr} {u : HO} (a : Kp ps H H') (n : b ∉ ps) (h : Rd H b u) : Rd H' b u := by
  rcases h with h | ⟨o, h⟩
  · exact .inl (a _ _ h n)
  · exact .inr ⟨o, a _ _ h n⟩
theorem sl_kp {K : PySem.W.Frag} {ps : List Addr} {H H' : Hp} {b : Addr} {xs : List V} (a : Kp ps H H') (n : b ∉ ps) (h : SqL K H b xs) : SqL K H' b xs := by
  rcases h with h | h
  · exact .inl (rd_kp a n h)
  · exact .inr h
theorem st_kp {K : PySem.W.Frag} {ps : List Addr} {H H' : Hp} {b : Addr} {xs : List V} (a : Kp ps H H') (n : b ∉ ps) (h : SqT K H b xs) : SqT K H' b xs := by
  rcases h with h | h
  · exact .inl (rd_kp a n h)
  · exact .inr h
theorem sl_upd {K : PySem.W.Frag} {H : Hp} {b p : Addr} {o : HO} {xs : List V} (n : b ≠ p) (h : SqL K H b xs) : SqL K (upd H p o) b xs :=
  sl_kp (ps := [p]) (fun c u e m => by rw [upd_ne (by simpa using m)]; exact e) (by simpa using n) h
theorem st_upd {K : PySem.W.Frag} {H : Hp} {b p : Addr} {o : HO} {xs : List V} (n : b ≠ p) (h : SqT K H b xs) : SqT K (upd H p o) b xs :=
  st_kp (ps := [p]) (fun c u e m => by rw [upd_ne (by simpa using m)]; exact e) (by simpa using n) h
theorem hu_ne {H : Hp} {a b : Addr} {o u : HO} (n : b ≠ a) (e : H b = some u) : upd H a o b = some u := by
  rw [upd_ne n]
  exact e
theorem upd_is {H : Hp} {a : Addr} {o o' : HO} (e : o = o') : upd H a o a = some o' := by
  rw [e]
  exact upd_same
theorem ne_fresh {H : Hp} {a b : Addr} {o : HO} (h : upd H a o b = none) : a ≠ b := ne_of_none upd_same h
theorem hn_ne {H : Hp} {a b : Addr} {o : HO} (n : b ≠ a) (e : H b = none) : upd H a o b = none := by
  rw [upd_ne n]
  exact e

/-! ### readings, one lemma each -/
section
variable {K : PySem.W.Frag} {σ : L2.St} {H : Hp} {nx bk ct : L2.St → Hp → Prop} {rt : VK} {t u : TS} {te ta tb tc : TE} {tt tu : TT} {ar : TA} {Q : VK} {QB : Bool → Hp → Prop} {QA : List V → Hp → Prop} {v x y : V} {i j : Int}
abbrev En (nx : L2.St → Hp → Prop) (rt : VK) (bk ct : L2.St → Hp → Prop) : Ends := ⟨nx, rt, bk, ct⟩
theorem rd_seq (h : t ⟨u ⟨nx, rt, bk, ct⟩, rt, bk, ct⟩ σ H) : tSeq t u ⟨nx, rt, bk, ct⟩ σ H := h
theorem rd_next (h : nx σ H) : tNext ⟨nx, rt, bk, ct⟩ σ H := h
theorem rd_brk (h : bk σ H) : tBreak ⟨nx, rt, bk, ct⟩ σ H := h
theorem rd_cont (h : ct σ H) : tCont ⟨nx, rt, bk, ct⟩ σ H := h
theorem rd_asg {g : TG} (h : te σ H fun x H1 => g x σ H1 nx) : tAsg te g ⟨nx, rt, bk, ct⟩ σ H := h
theorem rd_ret (h : te σ H rt) : tRet te ⟨nx, rt, bk, ct⟩ σ H := h
theorem rd_retN (h : rt .non H) : tRetN ⟨nx, rt, bk, ct⟩ σ H := h
theorem rd_drop (h : te σ H fun _ H1 => nx σ H1) : tDrop te ⟨nx, rt, bk, ct⟩ σ H := h
theorem rd_ifS {D : Ends} (h : tt σ H fun b H1 => if b = true then t D σ H1 else u D σ H1) : tIfS tt t u D σ H := h
theorem rd_cut (M : L2.St → Hp → Prop) (h : t ⟨M, rt, bk, ct⟩ σ H) (k : ∀ σ' H', M σ' H' → u ⟨nx, rt, bk, ct⟩ σ' H') : C8.tCut t u ⟨nx, rt, bk, ct⟩ σ H := ⟨M, h, k⟩
theorem rd_gname {n : Nat} {Q : L2.St → Hp → Prop} (h : Q (σ.set n (some v)) H) : gName n v σ H Q := h
theorem rd_gsub {to ti : TE} {s : TSet} {Q : L2.St → Hp → Prop} (h : to σ H fun o H1 => ti σ H1 fun i H2 => s o i v H2 fun H3 => Q σ H3) : gSub to ti s v σ H Q := h
theorem rd_gtup {n : Nat} {g : TGs} {a : Addr} {xs : List V} {Q : L2.St → Hp → Prop} (h : SqT K H a xs) (e : xs.length = n) (q : g xs σ H Q) : gTup K n g (.ref a) σ H Q := ⟨a, xs, rfl, h, e, q⟩
theorem rd_gcons {g : TG} {gs : TGs} {r : List V} {Q : L2.St → Hp → Prop} (q : g v σ H fun σ' H' => gs r σ' H' Q) : gCons g gs (v :: r) σ H Q := ⟨v, r, rfl, q⟩
theorem rd_gnil {Q : L2.St → Hp → Prop} (q : Q σ H) : gNil [] σ H Q := ⟨rfl, q⟩
theorem rd_setL {p : Addr} {xs : List V} {k : Int} {j : Nat} {Q : Hp → Prop} (hp : H p = some (.lst xs)) (hj : ixN xs.length k = some j) (q : Q (upd H p (.lst (xs.set j v)))) : rSetL (.ref p) (.int k) v H Q := ⟨p, xs, k, j, rfl, rfl, hp, hj, q⟩
theorem rd_var {n : Nat} (e : σ[n]? = some (some v)) (h : Q v H) : tVar n σ H Q := ⟨v, e, h⟩
theorem rd_c (h : Q v H) : tC v σ H Q := h
theorem rd_op {r : R2} (h : ta σ H fun x H1 => tb σ H1 fun y H2 => r x y H2 Q) : tOp r ta tb σ H Q := h
theorem rd_un {r : V → Hp → VK → Prop} (h : ta σ H fun x H1 => r x H1 Q) : tUn r ta σ H Q := h
theorem rd_I0 {g : Int → Int → V} (h : Q (g i j) H) : rI0 g (.int i) (.int j) H Q := ⟨i, j, rfl, rfl, h⟩
theorem rd_I {C : Int → Int → Prop} {g : Int → Int → V} (c : C i j) (h : Q (g i j) H) : rI C g (.int i) (.int j) H Q := ⟨i, j, rfl, rfl, c, h⟩
theorem rd_U {g : Int → V} (h : Q (g i) H) : rU g (.int i) H Q := ⟨i, rfl, h⟩
theorem rd_eqI (h : Q (.bl (decide (i = j))) H) : rEq (.int i) (.int j) H Q := ⟨rfl, by
  rw [show decide (V.int i = V.int j) = decide (i = j) from decide_eq_decide.mpr ⟨fun e => V.int.inj e, fun e => congrArg V.int e⟩]
  exact h⟩
theorem rd_neI (h : Q (.bl (!decide (i = j))) H) : rNe (.int i) (.int j) H Q := ⟨rfl, by
  rw [show decide (V.int i = V.int j) = decide (i = j) from decide_eq_decide.mpr ⟨fun e => V.int.inj e, fun e => congrArg V.int e⟩]
  exact h⟩
theorem rd_eqS {a b : Str} (h : Q (.bl (decide (a = b))) H) : rEq (.str a) (.str b) H Q := ⟨rfl, by
  rw [show decide (V.str a = V.str b) = decide (a = b) from decide_eq_decide.mpr ⟨fun e => V.str.inj e, fun e => congrArg V.str e⟩]
  exact h⟩
theorem rd_neS {a b : Str} (h : Q (.bl (!decide (a = b))) H) : rNe (.str a) (.str b) H Q := ⟨rfl, by
  rw [show decide (V.str a = V.str b) = decide (a = b) from decide_eq_decide.mpr ⟨fun e => V.str.inj e, fun e => congrArg V.str e⟩]
  exact h⟩
theorem rd_eqB {a b : Bool} (h : Q (.bl (decide (a = b))) H) : rEq (.bl a) (.bl b) H Q := ⟨rfl, by
  rw [show decide (V.bl a = V.bl b) = decide (a = b) from decide_eq_decide.mpr ⟨fun e => V.bl.inj e, fun e => congrArg V.bl e⟩]
  exact h⟩
theorem rd_neB {a b : Bool} (h : Q (.bl (!decide (a = b))) H) : rNe (.bl a) (.bl b) H Q := ⟨rfl, by
  rw [show decide (V.bl a = V.bl b) = decide (a = b) from decide_eq_decide.mpr ⟨fun e => V.bl.inj e, fun e => congrArg V.bl e⟩]
  exact h⟩
theorem rd_eq (s : scal x y = true) (h : Q (.bl (decide (x = y))) H) : rEq x y H Q := ⟨s, h⟩
theorem rd_ne (s : scal x y = true) (h : Q (.bl (!decide (x = y))) H) : rNe x y H Q := ⟨s, h⟩
theorem rd_test (h : te σ H fun x H1 => ∃ k, x = .bl k ∧ QB k H1) : tTest te σ H QB := h
theorem rd_tB (h : te σ H fun x H1 => ∃ k, x = .bl k ∧ QB k H1) : tB te σ H QB := h
theorem rd_exb {b : Bool} {P : Bool → Prop} (h : P b) : ∃ k, V.bl b = V.bl k ∧ P k := ⟨b, rfl, h⟩
theorem rd_and (h : tt σ H fun c H1 => if c = true then tu σ H1 QB else QB false H1) : tAnd tt tu σ H QB := h
theorem rd_or (h : tt σ H fun c H1 => if c = true then QB true H1 else tu σ H1 QB) : tOr tt tu σ H QB := h
theorem rd_not (h : tt σ H fun c H1 => QB (!c) H1) : tNot tt σ H QB := h
theorem rd_andV (h : ta σ H fun x H1 => ∃ c, x = .bl c ∧ if c = true then tb σ H1 Q else Q (.bl false) H1) : tAndV ta tb σ H Q := h
theorem rd_orV (h : ta σ H fun x H1 => ∃ c, x = .bl c ∧ if c = true then Q (.bl true) H1 else tb σ H1 Q) : tOrV ta tb σ H Q := h
theorem rd_notV (h : ta σ H fun x H1 => ∃ c, x = .bl c ∧ Q (.bl (!c)) H1) : tNotV ta σ H Q := h
theorem rd_ifE (h : tt σ H fun c H1 => if c = true then ta σ H1 Q else tb σ H1 Q) : tIf tt ta tb σ H Q := h
theorem rd_isN (h : ta σ H fun x H1 => Q (.bl (decide (x = .non))) H1) : tIsN ta σ H Q := h
theorem rd_notN (h : ta σ H fun x H1 => Q (.bl (!decide (x = .non))) H1) : tNotN ta σ H Q := h
theorem rd_tru {b : Bool} {P : Bool → Prop} (e : TruV K x H b) (h : P b) : ∃ k, TruV K x H k ∧ P k := ⟨b, e, h⟩
theorem rd_CB {r : List V → Hp → VK → Prop} (h : ar σ H fun vs H1 => r vs H1 Q) : tCB r ar σ H Q := h
theorem rd_nil (h : QA [] H) : tNil σ H QA := h
theorem rd_cons {tr : TA} (h : ta σ H fun x H1 => tr σ H1 fun xs H2 => QA (x :: xs) H2) : tCons ta tr σ H QA := h
theorem rd_call {sp : Sp} {E : XK} (h : ar σ H fun vs H1 => sp vs H1 Q E) : tCall sp [] E ar σ H Q := by
  unfold tCall
  have e : (fun vs H1 => sp (vs ++ []) H1 Q E) = fun vs H1 => sp vs H1 Q E := by
    funext vs H1
    rw [List.append_nil]
  rw [e]
  exact h
theorem rd_make {C : Addr} {sp : Sp} {dvs : List V} {E : XK} (h : ar σ H fun vs H1 => ∀ x dx, H1 x = none → H1 dx = none → dx ≠ x → sp (.ref x :: (vs ++ dvs)) (upd (upd H1 dx (.own x)) x (.ins C dx [])) (fun v H2 => v = .non ∧ Q (.ref x) H2) E) : tMake C sp dvs E ar σ H Q := h
theorem rd_callD {sp : Sp} {dvs : List V} {E : XK} (h : ar σ H fun vs H1 => sp (vs ++ dvs) H1 Q E) : tCall sp dvs E ar σ H Q := h
theorem rd_tup (h : ar σ H fun xs H1 => xs.length ≤ sizeLine ∧ ∀ p, H1 p = none → Q (.ref p) (upd H1 p (.tup xs))) : tTup ar σ H Q := h
theorem rd_lst (h : ar σ H fun xs H1 => xs.length ≤ sizeLine ∧ ∀ p, H1 p = none → Q (.ref p) (upd H1 p (.lst xs))) : tLst ar σ H Q := h
theorem rd_ixL {p : Addr} {xs : List V} (h : SqL K H p xs) (a : atI xs i = some v) (q : Q v H) : rIxL K (.ref p) (.int i) H Q := ⟨p, xs, i, v, rfl, rfl, h, a, q⟩
theorem rd_ixT {p : Addr} {xs : List V} (h : SqT K H p xs) (a : atI xs i = some v) (q : Q v H) : rIxT K (.ref p) (.int i) H Q := ⟨p, xs, i, v, rfl, rfl, h, a, q⟩
theorem rd_fld {f : Str} {a C dx : Addr} {fs : List (Str × V)} {P : V → Hp → Prop} (h : H a = some (.ins C dx fs)) (c : Cls K C) (n : NoAttr K C f) (l : fs.lookup f = some v) (q : Q v H) :
    ∃ a' C' dx' fs' v', V.ref a = V.ref a' ∧ H a' = some (.ins C' dx' fs') ∧ Cls K C' ∧ NoAttr K C' f ∧ fs'.lookup f = some v' ∧ Q v' H := ⟨a, C, dx, fs, v, rfl, h, c, n, l, q⟩
theorem rd_meth {C : Addr} {m : Str} {sp : Sp} {E : XK} (h : ta σ H fun x H1 => ∃ a dx fs, x = .ref a ∧ H1 a = some (.ins C dx fs) ∧ fs.lookup m = none ∧ ar σ H1 fun vs H2 => sp (x :: vs) H2 Q E) : tMeth C m sp [] E ta ar σ H Q := by
  unfold tMeth
  have e : (fun (x : V) (H1 : Hp) => ∃ a dx fs, x = V.ref a ∧ H1 a = some (.ins C dx fs) ∧ fs.lookup m = none ∧ ar σ H1 fun vs H2 => sp (x :: (vs ++ [])) H2 Q E) =
      fun (x : V) (H1 : Hp) => ∃ a dx fs, x = V.ref a ∧ H1 a = some (.ins C dx fs) ∧ fs.lookup m = none ∧ ar σ H1 fun vs H2 => sp (x :: vs) H2 Q E := by
    funext x H1
    simp only [List.append_nil]
  rw [e]
  exact h
theorem rd_methX {C a dx : Addr} {m : Str} {fs : List (Str × V)} {R : Prop} (h : H a = some (.ins C dx fs)) (l : fs.lookup m = none) (q : R) : ∃ a' dx' fs', V.ref a = V.ref a' ∧ H a' = some (.ins C dx' fs') ∧ fs'.lookup m = none ∧ R := ⟨a, dx, fs, rfl, h, l, q⟩
theorem rd_bm {T : String} {r : V → List V → Hp → VK → Prop} (h : ta σ H fun x H1 => tyV K T x H1 ∧ ar σ H1 fun xs H2 => r x xs H2 Q) : tBM K T r ta ar σ H Q := h
theorem rd_bm0 {T : String} {r : V → List V → Hp → VK → Prop} (h : ta σ H fun x H1 => tyV K T x H1 ∧ r x [] H1 Q) : tBM0 K T r ta σ H Q := h
theorem ty_l {p : Addr} {xs : List V} {B : Prop} (h : SqL K H p xs) (q : B) : tyV K "list" (.ref p) H ∧ B := ⟨.inl ⟨rfl, xs, h⟩, q⟩
theorem rd_append {p : Addr} {xs : List V} (h : H p = some (.lst xs)) (l : xs.length < sizeLine) (q : Q .non (upd H p (.lst (xs ++ [v])))) : rAppend (.ref p) [v] H Q := ⟨p, xs, v, rfl, rfl, h, l, q⟩
/-! #### built-ins under names -/
def rInt1 : List V → Hp → VK → Prop := fun xs H Q => (∃ i, xs = [.int i] ∧ Q (.int i) H) ∨ ∃ k, xs = [.bl k] ∧ Q (.int (if k then 1 else 0)) H
theorem call_int1' {X : Cx} : CallR X (.type "int") rInt1 := call_int1
theorem rd_int1 (h : Q (.int i) H) : rInt1 [.int i] H Q := .inl ⟨i, rfl, h⟩
def rAbs : List V → Hp → VK → Prop := fun xs H Q => ∃ i, xs = [.int i] ∧ Q (.int (if i < 0 then -i else i)) H
theorem call_abs' {X : Cx} : CallR X (.builtin "abs") rAbs := call_abs
theorem rd_abs (h : Q (.int (i.natAbs : Int)) H) : rAbs [.int i] H Q := ⟨i, rfl, by
  rw [show (if i < 0 then -i else i) = (i.natAbs : Int) from by split <;> omega]
  exact h⟩
def rLenS (K : PySem.W.Frag) : List V → Hp → VK → Prop := fun xs H Q => ∃ p ys, xs = [.ref p] ∧ (SqL K H p ys ∨ SqT K H p ys) ∧ Q (.int ys.length) H
theorem call_lenS {X : Cx} : CallR X (.builtin "len") (rLenS X.K) := call_len_seq
theorem rd_lenL {p : Addr} {ys : List V} (h : SqL K H p ys) (q : Q (.int ys.length) H) : rLenS K [.ref p] H Q := ⟨p, ys, rfl, .inl h, q⟩
theorem rd_lenI {p : Addr} {ns : List Int} (h : SqL K H p (ns.map V.int)) (q : Q (.int ns.length) H) : rLenS K [.ref p] H Q := ⟨p, ns.map V.int, rfl, .inl h, by
  rw [List.length_map]
  exact q⟩
theorem rd_lenT {p : Addr} {ys : List V} (h : SqT K H p ys) (q : Q (.int ys.length) H) : rLenS K [.ref p] H Q := ⟨p, ys, rfl, .inr h, q⟩
def rMin2 : List V → Hp → VK → Prop := fun xs H Q => ∃ i j, xs = [.int i, .int j] ∧ Q (.int (if j < i then j else i)) H
theorem call_min2' {X : Cx} (hc : X.calm = true) : CallR X (.builtin "min") rMin2 := call_min2 hc
theorem rd_min2 (h : Q (.int (min i j)) H) : rMin2 [.int i, .int j] H Q := ⟨i, j, rfl, by
  rw [show (if j < i then j else i) = min i j from by split <;> omega]
  exact h⟩
def rMax2 : List V → Hp → VK → Prop := fun xs H Q => ∃ i j, xs = [.int i, .int j] ∧ Q (.int (if j > i then j else i)) H
theorem call_max2' {X : Cx} (hc : X.calm = true) : CallR X (.builtin "max") rMax2 := call_max2 hc
theorem rd_max2 (h : Q (.int (max i j)) H) : rMax2 [.int i, .int j] H Q := ⟨i, j, rfl, by
  rw [show (if j > i then j else i) = max i j from by split <;> omega]
  exact h⟩
def rListOf (K : PySem.W.Frag) : List V → Hp → VK → Prop := fun xs H Q => ∃ p ys, xs = [.ref p] ∧ (SqL K H p ys ∨ SqT K H p ys) ∧ ∀ l, H l = none → Q (.ref l) (upd H l (.lst ys))
theorem call_listOf {X : Cx} : CallR X (.type "list") (rListOf X.K) := call_list_of
theorem rd_listL {p : Addr} {ys : List V} (h : SqL K H p ys) (q : ∀ l, H l = none → Q (.ref l) (upd H l (.lst ys))) : rListOf K [.ref p] H Q := ⟨p, ys, rfl, .inl h, q⟩
/-- isinstance against one built-in class -/
theorem rd_isi {t : String} {c : String} {b : Bool} (ty : TyX K H x (.type t)) (e : kitB t c = some b) (h : Q (.bl b) H) : rIsi K [x, .ty c] H Q := ⟨x, .ty c, .type t, .type c, b, rfl, .ty c, ty, kit_ty e, h⟩

/-! ### loops -/
/-- what a for over the walk J asks -/
def ForG (J : It) (g : TG) (t : TS) (D : Ends) (σ : L2.St) (H : Hp) : Prop :=
  ∃ W : Nat → Nat → L2.St → Hp → Prop, (∃ m, W 0 m σ H) ∧ ∀ i m σ H, W i m σ H →
      (J.stop i H ∧ D.nx σ H) ∨ (J.go i H ∧ ∃ N : L2.St → Hp → Prop, (∀ σ' H', N σ' H' → ∃ m', m' < m ∧ W (i + 1) m' σ' H') ∧ ∀ x H', J.yld i H x H' → g x σ H' fun σ2 H2 => t { D with nx := N, ct := N, bk := D.nx } σ2 H2)
theorem rd_for {wi : TI} {g : TG} {D : Ends} (h : wi σ H fun J H1 => ForG J g t D σ H1) : tFor wi g t D σ H := h
theorem rd_iList {R : It → Hp → Prop} (h : te σ H fun x H1 => ∃ a, x = V.ref a ∧ (∃ xs, SqL K H1 a xs) ∧ R (Itl K a) H1) : iList K te σ H R := h
theorem rd_iTup {R : It → Hp → Prop} (h : te σ H fun x H1 => ∃ a, x = V.ref a ∧ (∃ xs, SqT K H1 a xs) ∧ R (Itt K a) H1) : iTup K te σ H R := h
theorem rd_iListX {p : Addr} {xs : List V} {R : Addr → Prop} (h : SqL K H p xs) (q : R p) : ∃ a, V.ref p = V.ref a ∧ (∃ xs, SqL K H a xs) ∧ R a := ⟨p, rfl, ⟨xs, h⟩, q⟩
theorem rd_iTupX {p : Addr} {xs : List V} {R : Addr → Prop} (h : SqT K H p xs) (q : R p) : ∃ a, V.ref p = V.ref a ∧ (∃ xs, SqT K H a xs) ∧ R a := ⟨p, rfl, ⟨xs, h⟩, q⟩
theorem rd_iRng1 {R : It → Hp → Prop} (h : ar σ H fun vs H1 => ∃ j : Int, vs = [.int j] ∧ -(2 ^ 62) ≤ j ∧ j < 2 ^ 62 ∧ R (Itr 0 j.toNat) H1) : iRng1 ar σ H R := h
theorem rd_iRng1X {R : Int → Prop} (h1 : -(2 ^ 62) ≤ j) (h2 : j < 2 ^ 62) (q : R j) : ∃ k : Int, [V.int j] = [V.int k] ∧ -(2 ^ 62) ≤ k ∧ k < 2 ^ 62 ∧ R k := ⟨j, rfl, h1, h2, q⟩
theorem rd_iRng2 {R : It → Hp → Prop} (h : ar σ H fun vs H1 => ∃ i j : Int, vs = [.int i, .int j] ∧ (-(2 ^ 62) ≤ i ∧ i < 2 ^ 62 ∧ -(2 ^ 62) ≤ j ∧ j < 2 ^ 62) ∧ R (Itr i (j - i).toNat) H1) : iRng2 ar σ H R := h
theorem rd_iRng2X {R : Int → Int → Prop} (h1 : -(2 ^ 62) ≤ i ∧ i < 2 ^ 62 ∧ -(2 ^ 62) ≤ j ∧ j < 2 ^ 62) (q : R i j) : ∃ k l : Int, [V.int i, V.int j] = [V.int k, V.int l] ∧ (-(2 ^ 62) ≤ k ∧ k < 2 ^ 62 ∧ -(2 ^ 62) ≤ l ∧ l < 2 ^ 62) ∧ R k l := ⟨i, j, rfl, h1, q⟩
/-- over a list that stays -/
theorem forL_by {a : Addr} {g : TG} (xs : List V) (Pv : Nat → L2.St → Hp → Prop) (h0 : Pv 0 σ H) (hl : ∀ i σ H, i ≤ xs.length → Pv i σ H → SqL K H a xs)
    (hs : ∀ i x σ H, xs[i]? = some x → Pv i σ H → g x σ H fun σ2 H2 => t ⟨Pv (i + 1), rt, nx, Pv (i + 1)⟩ σ2 H2) (hd : ∀ σ H, Pv xs.length σ H → nx σ H) : ForG (Itl K a) g t ⟨nx, rt, bk, ct⟩ σ H := for_list (K := K) Pv h0 hl hs hd
theorem forT_by {a : Addr} {g : TG} (xs : List V) (Pv : Nat → L2.St → Hp → Prop) (h0 : Pv 0 σ H) (hl : ∀ i σ H, i ≤ xs.length → Pv i σ H → SqT K H a xs)
    (hs : ∀ i x σ H, xs[i]? = some x → Pv i σ H → g x σ H fun σ2 H2 => t ⟨Pv (i + 1), rt, nx, Pv (i + 1)⟩ σ2 H2) (hd : ∀ σ H, Pv xs.length σ H → nx σ H) : ForG (Itt K a) g t ⟨nx, rt, bk, ct⟩ σ H := for_tup (K := K) Pv h0 hl hs hd
theorem forR_by {lo : Int} {n : Nat} {g : TG} (Pv : Nat → L2.St → Hp → Prop) (h0 : Pv 0 σ H)
    (hs : ∀ (i : Nat) σ H, i < n → Pv i σ H → g (.int (lo + i)) σ H fun σ2 H2 => t ⟨Pv (i + 1), rt, nx, Pv (i + 1)⟩ σ2 H2) (hd : ∀ σ H, Pv n σ H → nx σ H) : ForG (Itr lo n) g t ⟨nx, rt, bk, ct⟩ σ H := for_range Pv h0 hs hd
/-- the items one by one -/
theorem forL_ints {a : Addr} {g : TG} (ns : List Int) (Pv : Nat → L2.St → Hp → Prop) (h0 : Pv 0 σ H) (hl : ∀ i σ H, i ≤ ns.length → Pv i σ H → SqL K H a (ns.map V.int))
    (hs : ∀ (i : Nat) (h : i < ns.length) σ H, Pv i σ H → g (.int ns[i]) σ H fun σ2 H2 => t ⟨Pv (i + 1), rt, nx, Pv (i + 1)⟩ σ2 H2) (hd : ∀ σ H, Pv ns.length σ H → nx σ H) : ForG (Itl K a) g t ⟨nx, rt, bk, ct⟩ σ H :=
  forL_by (ns.map V.int) Pv h0 (fun i σ H hi p => hl i σ H (by simpa using hi) p) (fun i x σ H e p => by
    rw [List.getElem?_map] at e
    obtain ⟨z, hz, rfl⟩ := Option.map_eq_some_iff.mp e
    obtain ⟨h, rfl⟩ := List.getElem?_eq_some_iff.mp hz
    exact hs i h σ H p) (fun σ H p => hd σ H (by simpa using p))
theorem rd_while (Pv : L2.St → Hp → Prop) (μ : L2.St → Hp → Nat) (h0 : Pv σ H)
    (hs : ∀ σ H, Pv σ H → tt σ H fun b H1 => if b = true then t ⟨fun σ' H' => Pv σ' H' ∧ μ σ' H' < μ σ H, rt, nx, fun σ' H' => Pv σ' H' ∧ μ σ' H' < μ σ H⟩ σ H1 else nx σ H1)
    (mono : ∀ σ H Q Q', (∀ b H1, Q b H1 → Q' b H1) → tt σ H Q → tt σ H Q') : tWhile tt t ⟨nx, rt, bk, ct⟩ σ H := while_by Pv μ h0 hs mono
/-- a list comprehension -/
def LcG (J : It) (g : TG) (tt : TT) (te : TE) (vs : List Nat) (σ : L2.St) (D : Addr) (Qd : Hp → Prop) (H1 : Hp) : Prop :=
  ∃ W : Nat → Nat → Hp → Prop, (∃ m, W 0 m (upd H1 D (.lst []))) ∧ ∀ i m H, W i m H →
      (J.stop i H ∧ Qd H) ∨ (J.go i H ∧ ∃ Nx : Hp → Prop, (∀ H', Nx H' → ∃ m', m' < m ∧ W (i + 1) m' H') ∧ ∀ x H', J.yld i H x H' → g x (wipe σ vs) H' fun σ2 H2 => wipe σ2 vs = wipe σ vs ∧ tt σ2 H2 fun b H3 =>
        if b = true then te σ2 H3 fun y H4 => ∃ acc, H4 D = some (.lst acc) ∧ acc.length < sizeLine ∧ Nx (upd H4 D (.lst (acc ++ [y]))) else Nx H3)
theorem rd_lc {wi : TI} {g : TG} {vs : List Nat} (h : wi σ H fun J H1 => ∀ D, H1 D = none → LcG J g tt te vs σ D (fun H => Q (.ref D) H) H1) : tLc wi g tt te vs σ H Q := h
theorem lcL_by {a D : Addr} {g : TG} {vs : List Nat} {Qd : Hp → Prop} (xs : List V) (Pv : Nat → Hp → Prop) (h0 : Pv 0 (upd H D (.lst []))) (hl : ∀ i H, i ≤ xs.length → Pv i H → SqL K H a xs)
    (hs : ∀ i x H, xs[i]? = some x → Pv i H → g x (wipe σ vs) H fun σ2 H2 => wipe σ2 vs = wipe σ vs ∧ tt σ2 H2 fun b H3 =>
      if b = true then te σ2 H3 fun y H4 => ∃ acc, H4 D = some (.lst acc) ∧ acc.length < sizeLine ∧ Pv (i + 1) (upd H4 D (.lst (acc ++ [y]))) else Pv (i + 1) H3) (hd : ∀ H, Pv xs.length H → Qd H) : LcG (Itl K a) g tt te vs σ D Qd H := lc_list (K := K) Pv h0 hl hs hd
theorem lcR_by {lo : Int} {n : Nat} {D : Addr} {g : TG} {vs : List Nat} {Qd : Hp → Prop} (Pv : Nat → Hp → Prop) (h0 : Pv 0 (upd H D (.lst [])))
    (hs : ∀ (i : Nat) H, i < n → Pv i H → g (.int (lo + i)) (wipe σ vs) H fun σ2 H2 => wipe σ2 vs = wipe σ vs ∧ tt σ2 H2 fun b H3 =>
      if b = true then te σ2 H3 fun y H4 => ∃ acc, H4 D = some (.lst acc) ∧ acc.length < sizeLine ∧ Pv (i + 1) (upd H4 D (.lst (acc ++ [y]))) else Pv (i + 1) H3) (hd : ∀ H, Pv n H → Qd H) : LcG (Itr lo n) g tt te vs σ D Qd H := lc_range Pv h0 hs hd
theorem lcL_ints {a D : Addr} {g : TG} {vs : List Nat} {Qd : Hp → Prop} (ns : List Int) (Pv : Nat → Hp → Prop) (h0 : Pv 0 (upd H D (.lst []))) (hl : ∀ i H, i ≤ ns.length → Pv i H → SqL K H a (ns.map V.int))
    (hs : ∀ (i : Nat) (h : i < ns.length) H, Pv i H → g (.int ns[i]) (wipe σ vs) H fun σ2 H2 => wipe σ2 vs = wipe σ vs ∧ tt σ2 H2 fun b H3 =>
      if b = true then te σ2 H3 fun y H4 => ∃ acc, H4 D = some (.lst acc) ∧ acc.length < sizeLine ∧ Pv (i + 1) (upd H4 D (.lst (acc ++ [y]))) else Pv (i + 1) H3) (hd : ∀ H, Pv ns.length H → Qd H) : LcG (Itl K a) g tt te vs σ D Qd H :=
  lcL_by (ns.map V.int) Pv h0 (fun i H hi p => hl i H (by simpa using hi) p) (fun i x H e p => by
    rw [List.getElem?_map] at e
    obtain ⟨z, hz, rfl⟩ := Option.map_eq_some_iff.mp e
    obtain ⟨h, rfl⟩ := List.getElem?_eq_some_iff.mp hz
    exact hs i h H p) (fun H p => hd H (by simpa using p))
theorem rd_yes {QB : Bool → Hp → Prop} (h : QB true H) : tYes σ H QB := h
end

/-! ### callables in one piece -/
section
variable {P : Program} {w : World} {K : PySem.W.Frag} {mg : Str → Option Value} {base : Heap} {CX : CXT} {X : Cx} {k j : Nat} {C : Addr} {x m : Str} {sp : Sp} {dvs : List V} {E : XK} {p pos apos : Pos} {e o : Expr} {es : List Expr} {ta : TE} {t : TA}
structure CalX (P : Program) (w : World) (K : PySem.W.Frag) (mg : Str → Option Value) (base : Heap) (CX : CXT) (k : Nat) (x : Str) (sp : Sp) (dvs : List V) : Prop where
  ex : ∃ (f : Addr) (fd : FuncData) (ps : List Str) (ds : List Value), FnOk P w K mg base CX k f fd ps sp ∧ mg x = some (.ref f) ∧ PySem.W.keepIn K (.ref f) = true ∧ Binds K fd ps ds ∧ Vals dvs ds
structure MetX (P : Program) (w : World) (K : PySem.W.Frag) (mg : Str → Option Value) (base : Heap) (CX : CXT) (k : Nat) (C : Addr) (m : Str) (sp : Sp) (dvs : List V) : Prop where
  ex : ∃ (f : Addr) (fd : FuncData) (ps : List Str) (ds : List Value), Cls K C ∧ Meth K C m f ∧ FnOk P w K mg base CX k f fd ps sp ∧ Binds K fd ps ds ∧ Vals dvs ds
structure MakX (P : Program) (w : World) (K : PySem.W.Frag) (mg : Str → Option Value) (base : Heap) (CX : CXT) (k : Nat) (x : Str) (C : Addr) (sp : Sp) (dvs : List V) : Prop where
  ex : ∃ (f : Addr) (fd : FuncData) (ps : List Str) (ds : List Value), Mk K C f ∧ FnOk P w K mg base CX k f fd ps sp ∧ mg x = some (.ref C) ∧ Binds K fd ps ds ∧ Vals dvs ds
theorem pe_cal (c : CalX X.prog X.w X.K X.mg X.base CX k x sp dvs) (hr : Room j X.A) (hk : k ≤ j) (hg : Gl X x) (hx : Passes CX X E) (ha : PA X (e :: es) t)
    (hdb : (x == ("__debug__" : Str)) = false := by decide) (he : starEach (e :: es) X.env = (false, eval e X.env) :: starEach es X.env := by rfl) (hpl : (backTo pos (starEach es X.env)).any (·.1) = false := by rfl) :
    PE X (.Call (.Name x p) (e :: es) [] pos) (tCall sp dvs E t) := by
  obtain ⟨f, fd, ps, ds, F, hm, kp, b, d⟩ := c.ex
  exact pe_call F (hr.mono hk) hg hm kp b d hx ha hdb he hpl
theorem pe_mak (c : MakX X.prog X.w X.K X.mg X.base CX k x C sp dvs) (hr : Room j X.A) (hk : k + 1 ≤ j) (hg : Gl X x) (hx : Passes CX X E) (ha : PA X (e :: es) t)
    (hdb : (x == ("__debug__" : Str)) = false := by decide) (he : starEach (e :: es) X.env = (false, eval e X.env) :: starEach es X.env := by rfl) (hpl : (backTo pos (starEach es X.env)).any (·.1) = false := by rfl) :
    PE X (.Call (.Name x p) (e :: es) [] pos) (tMake C sp dvs E t) := by
  obtain ⟨f, fd, ps, ds, M, F, hm, b, d⟩ := c.ex
  exact pe_make M F (hr.mono hk) hg hm b d hx ha hdb he hpl
theorem pe_met {pl : Sem Bool} (c : MetX X.prog X.w X.K X.mg X.base CX k C m sp dvs) (hr : Room j X.A) (hk : k ≤ j) (hx : Passes CX X E) (he : PE X o ta) (ha : PA X (e :: es) t)
    (hst : starEach (e :: es) X.env = (false, eval e X.env) :: starEach es X.env := by rfl) (hpl : (backTo pos (starEach es X.env)).any (·.1) = false := by rfl)
    (ht : eval (.Call (.Attribute o m apos) (e :: es) [] pos) X.env = (do
      let ov ← eval o X.env
      standAt apos.atName
      let (f, first) ← holding [ov] (getMethod ov m pl)
      callWith pos f first (backTo pos (starEach (e :: es) X.env)) (backToKw pos (keywordEach [] X.env))) := by rfl) :
    PE X (.Call (.Attribute o m apos) (e :: es) [] pos) (tMeth C m sp dvs E ta t) := by
  obtain ⟨f, fd, ps, ds, cl, me, F, b, d⟩ := c.ex
  exact pe_meth he cl me F (hr.mono hk) b d hx ha hst hpl ht
end

/-! ### a def's promise by its body -/
section
variable {P : Program} {w : World} {K : PySem.W.Frag} {mg : Str → Option Value} {base : Heap} {CX : CXT} {x qual : Str} {params : Arguments} {body : List Stmt} {scope : Scope} {dvs : List V} {kws : List (Str × V)} {f : Addr} {fd : FuncData}
theorem fnD {N ps : List Str} {k : Nat} {sp : Sp} (F : FunD K x qual params body scope dvs kws f fd) (S : FnScope N ps scope) (len : ∀ vs H Q E, sp vs H Q E → vs.length = ps.length)
    (hbody : ∀ (cdv : Value) (A : Around) (outer : List Env) (s : Shared) (H : Hp) (vs : List V) (Q : VK) (E : XK), Room k (A.deeper (envOfC qual scope s.heap.objs.size f cdv)) → sp vs H Q E →
      ∃ t, PSs (cxOf CX0 P w K mg base N qual scope f cdv A outer s H E).nox body t ∧ t ⟨fun _ H' => Q .non H', Q, fun _ _ => False, fun _ _ => False⟩ (start N vs) H) : FnOk P w K mg base CX0 (k + 1) f fd ps sp :=
  F.ok S len fun cdv A outer s H vs Q E hr h => let ⟨t, h1, h2⟩ := hbody cdv A outer s H vs Q E hr h; ⟨t, h1.nox, h2⟩
end

/-! ### the head: facts of a top, one Bool more -/
abbrev AlM : Type := AlD × Bool
def obsM (n : Nat) (fa : List Fa) (fn : List DefD) (ex : PySem.W.Frag → Bool) (g : Addr → Option Obj) : AlM := (obsD fa fn (frG g (asD g n)), ex (frG g (asD g n)))
def hookM (n : Nat) (fa : List Fa) (fn : List DefD) (ex : PySem.W.Frag → Bool) : PySem.W.Hook where
  α := AlM
  obs := fun s => obsM n fa fn ex s.heap.get?
  val := fun _ => (valD fn, true)
  says := fun _ h => ∃ K : PySem.W.Frag, K.In h ∧ SaysD fa fn K ∧ ex K = true
  of := fun _ _ e => ⟨_, frG_in, congrArg (fun z : AlM => z.1) e, congrArg (fun z : AlM => z.2) e⟩
  keeps := fun _ _ _ ⟨K, hK, c, d⟩ k => ⟨K, PySem.W.Frag.In.keeps hK k, c, d⟩
theorem obsM_eq {n : Nat} {fa : List Fa} {fn : List DefD} {ex : PySem.W.Frag → Bool} {g : Addr → Option Obj} {s : Shared} (h : ∀ a, g a = s.heap.get? a) : obsM n fa fn ex g = (hookM n fa fn ex).obs s := by
  have e : g = s.heap.get? := funext h
  rw [e] <;> rfl
/-- what the defs lean on -/
structure Ctx (fa : List Fa) (fn : List DefD) (ex : PySem.W.Frag → Bool) (K : PySem.W.Frag) (mg : Str → Option Value) : Prop where
  says : SaysD fa fn K
  ex : ex K = true
  at_ : ∃ h, K.In h ∧ h.Ns mainGlobals mg
section
variable {fa : List Fa} {fn : List DefD} {ex : PySem.W.Frag → Bool} {K : PySem.W.Frag} {mg : Str → Option Value}
theorem Ctx.glo (T : Ctx fa fn ex K mg) (i : Nat) {x : Str} (h : fa[i]? = some (.glo x) := by rfl) : mg x = some (.ref (ga K x)) := let ⟨_, X, G⟩ := T.at_; glo_ok X G (T.says.fact i h)
theorem Ctx.fre (T : Ctx fa fn ex K mg) (i : Nat) {x : Str} (h : fa[i]? = some (.free x) := by rfl) : mg x = none := let ⟨_, X, G⟩ := T.at_; free_ok X G (T.says.fact i h)
theorem Ctx.cls (T : Ctx fa fn ex K mg) (i : Nat) {x : Str} (h : fa[i]? = some (.cls x) := by rfl) : Cls K (ga K x) := cls_ok (T.says.fact i h)
theorem Ctx.noat (T : Ctx fa fn ex K mg) (i : Nat) {x f : Str} (h : fa[i]? = some (.noat x f) := by rfl) : NoAttr K (ga K x) f := noat_ok (T.says.fact i h)
theorem Ctx.meth (T : Ctx fa fn ex K mg) (i : Nat) {x m : Str} (h : fa[i]? = some (.meth x m) := by rfl) : Meth K (ga K x) m (ma K (ga K x) m) := meth_ok (T.says.fact i h)
theorem Ctx.mkr (T : Ctx fa fn ex K mg) (i : Nat) {x : Str} (h : fa[i]? = some (.mkr x) := by rfl) : Mk K (ga K x) (ma K (ga K x) "__init__") := mkr_ok (T.says.fact i h)
theorem Ctx.int (T : Ctx fa fn ex K mg) (i : Nat) {x : Str} {z : Int} (h : fa[i]? = some (.int x z) := by rfl) : ∃ t, mg x = some (.int z t) := let ⟨_, X, G⟩ := T.at_; int_ok X G (T.says.fact i h)
theorem Ctx.str (T : Ctx fa fn ex K mg) (i : Nat) {x z : Str} (h : fa[i]? = some (.str x z) := by rfl) : ∃ t, mg x = some (.str z t) := let ⟨_, X, G⟩ := T.at_; str_ok X G (T.says.fact i h)
end
theorem pe_globC {X : Cx} {x : Str} {v : V} {pos : Pos} (hg : Gl X x) (h : ∃ u, X.mg x = some u ∧ RelV v u) (hd : (x == ("__debug__" : Str)) = false := by decide) : PE X (.Name x pos) (tC v) := let ⟨_, hm, r⟩ := h; pe_glob hg hm r hd

/-! ### small facts -/
theorem ite_d {p A B : Prop} [Decidable p] (h1 : p → A) (h2 : ¬ p → B) : if decide p = true then A else B := by
  by_cases h : p
  · rw [decide_eq_true h, if_pos rfl]
    exact h1 h
  · rw [decide_eq_false h, if_neg Bool.false_ne_true]
    exact h2 h
theorem ite_n {p A B : Prop} [Decidable p] (h1 : ¬ p → A) (h2 : p → B) : if (!decide p) = true then A else B := by
  by_cases h : p
  · rw [decide_eq_true h]
    exact iteF (h2 h)
  · rw [decide_eq_false h]
    exact iteT (h1 h)
theorem ite_b {b : Bool} {A B : Prop} (h1 : b = true → A) (h2 : b = false → B) : if b = true then A else B := by
  cases b
  · exact iteF (h2 rfl)
  · exact iteT (h1 rfl)
theorem ite_t {b : Bool} {A B : Prop} (e : b = true) (h : A) : if b = true then A else B := by
  subst e
  exact iteT h
theorem ite_f {b : Bool} {A B : Prop} (e : b = false) (h : B) : if b = true then A else B := by
  subst e
  exact iteF h
theorem atI_ints {ns : List Int} {i : Int} (h0 : 0 ≤ i) (h1 : i < ns.length) : atI (ns.map V.int) i = some (.int (ns.getD i.toNat 0)) := by
  obtain ⟨j, rfl⟩ := Int.eq_ofNat_of_zero_le h0
  refine atI_nat ?_
  have hj : j < ns.length := by omega
  rw [List.getElem?_map, List.getElem?_eq_getElem hj]
  simp [hj]
theorem take_map_succ {ns : List Int} {i : Nat} (h : i < ns.length) : (ns.take i).map V.int ++ [V.int ns[i]] = (ns.take (i + 1)).map V.int := by
  rw [List.take_succ_eq_append_getElem h, List.map_append]
  rfl
theorem sz1000 {n : Nat} (h : n ≤ 1000000) : n ≤ sizeLine := Nat.le_trans h (by decide)
theorem szlt {n : Nat} (h : n < 1000000) : n < sizeLine := Nat.lt_of_lt_of_le h (by decide)

/-! ### more readings -/
section
variable {K : PySem.W.Frag} {σ : L2.St} {H : Hp} {nx bk ct : L2.St → Hp → Prop} {rt : VK} {te ta tb tc : TE} {ar : TA} {Q : VK} {QB : Bool → Hp → Prop} {v x y z : V} {i j : Int}
theorem rd_sfld {f : Str} (h : tb σ H fun y H1 => ta σ H1 fun x H2 => ∃ a C dx fs, x = V.ref a ∧ H2 a = some (.ins C dx fs) ∧ Cls K C ∧ NoAttr K C f ∧ fs.length < 1000 ∧ nx σ (upd H2 a (.ins C dx (putF f y fs)))) : sFld K ta tb f ⟨nx, rt, bk, ct⟩ σ H := h
theorem rd_sfldX {f : Str} {a C dx : Addr} {fs : List (Str × V)} {R : Addr → Addr → Addr → List (Str × V) → Prop} (h : H a = some (.ins C dx fs)) (c : Cls K C) (n : NoAttr K C f) (l : fs.length < 1000) (q : R a C dx fs) :
    ∃ a' C' dx' fs', V.ref a = V.ref a' ∧ H a' = some (.ins C' dx' fs') ∧ Cls K C' ∧ NoAttr K C' f ∧ fs'.length < 1000 ∧ R a' C' dx' fs' := ⟨a, C, dx, fs, rfl, h, c, n, l, q⟩
theorem rd_tfld {f : Str} (h : ta σ H fun x H1 => ∃ a C dx fs v, x = V.ref a ∧ H1 a = some (.ins C dx fs) ∧ Cls K C ∧ NoAttr K C f ∧ fs.lookup f = some v ∧ Q v H1) : tFld K ta f σ H Q := h
theorem rd_fldX {f : Str} {a C dx : Addr} {fs : List (Str × V)} {R : V → Prop} (h : H a = some (.ins C dx fs)) (c : Cls K C) (n : NoAttr K C f) (l : fs.lookup f = some v) (q : R v) :
    ∃ a' C' dx' fs' v', V.ref a = V.ref a' ∧ H a' = some (.ins C' dx' fs') ∧ Cls K C' ∧ NoAttr K C' f ∧ fs'.lookup f = some v' ∧ R v' := ⟨a, C, dx, fs, v, rfl, h, c, n, l, q⟩
theorem rd_tcon {f : Str} (h : ta σ H fun x H1 => ∃ a C dx fs v u, x = V.ref a ∧ H1 a = some (.ins C dx fs) ∧ Cls K C ∧ Con K C f v u ∧ fs.lookup f = none ∧ Q v H1) : tCon K ta f σ H Q := h
theorem rd_conX {f : Str} {a C dx : Addr} {fs : List (Str × V)} {R : V → Prop} (h : H a = some (.ins C dx fs)) (c : Cls K C) (n : ∃ u, Con K C f v u) (l : fs.lookup f = none) (q : R v) :
    ∃ a' C' dx' fs' v' u, V.ref a = V.ref a' ∧ H a' = some (.ins C' dx' fs') ∧ Cls K C' ∧ Con K C' f v' u ∧ fs'.lookup f = none ∧ R v' := let ⟨u, n⟩ := n; ⟨a, C, dx, fs, v, u, rfl, h, c, n, l, q⟩
/-! isinstance -/
theorem rd_isi_ii (h : Q (.bl true) H) : rIsi K [.int i, .ty "int"] H Q := rd_isi (.base (.int i)) (by decide +kernel) h
theorem rd_isi_ib (h : Q (.bl false) H) : rIsi K [.int i, .ty "bool"] H Q := rd_isi (.base (.int i)) (by decide +kernel) h
theorem rd_isi_bb {b : Bool} (h : Q (.bl true) H) : rIsi K [.bl b, .ty "bool"] H Q := rd_isi (.base (.bl b)) (by decide +kernel) h
theorem rd_isi_bi {b : Bool} (h : Q (.bl true) H) : rIsi K [.bl b, .ty "int"] H Q := rd_isi (.base (.bl b)) (by decide +kernel) h
theorem rd_isi_ss {b : Str} (h : Q (.bl true) H) : rIsi K [.str b, .ty "str"] H Q := rd_isi (.base (.str b)) (by decide +kernel) h
theorem rd_isi_ll {a : Addr} {xs : List V} (e : H a = some (.lst xs)) (h : Q (.bl true) H) : rIsi K [.ref a, .ty "list"] H Q := rd_isi (.base (.lst e)) (by decide +kernel) h
theorem rd_isi_tt {a : Addr} {xs : List V} (e : H a = some (.tup xs)) (h : Q (.bl true) H) : rIsi K [.ref a, .ty "tuple"] H Q := rd_isi (.base (.tup e)) (by decide +kernel) h
/-! known tests -/
section
variable {A B : Prop}
theorem ite_nt (h : B) : if (!true) = true then A else B := iteF h
theorem ite_nf (h : A) : if (!false) = true then A else B := iteT h
theorem ite_in (h : B) : if decide (V.int i = V.non) = true then A else B := iteF h
theorem ite_rn {a : Addr} (h : B) : if decide (V.ref a = V.non) = true then A else B := iteF h
theorem ite_sn {a : Str} (h : B) : if decide (V.str a = V.non) = true then A else B := iteF h
theorem ite_bn {a : Bool} (h : B) : if decide (V.bl a = V.non) = true then A else B := by
  cases a <;> exact iteF h
theorem ite_nn (h : A) : if decide (V.non = V.non) = true then A else B := iteT h
theorem ite_xin (h : A) : if (!decide (V.int i = V.non)) = true then A else B := iteT h
theorem ite_xrn {a : Addr} (h : A) : if (!decide (V.ref a = V.non)) = true then A else B := iteT h
theorem ite_xnn (h : B) : if (!decide (V.non = V.non)) = true then A else B := iteF h
end
/-! dicts with tuple keys -/
theorem rd_dnewT (h : ∀ p, H p = none → Q (.ref p) (upd H p (.dT []))) : tDNewT σ H Q := h
theorem rd_dnewK (h : ∀ p, H p = none → Q (.ref p) (upd H p (.dK []))) : tDNewK σ H Q := h
theorem rd_dget2 (h : ta σ H fun x H1 => ∃ a, x = V.ref a ∧ IsD H1 a ∧ tb σ H1 fun y H2 => tc σ H2 fun z H3 => ∃ o, DGet H3 a y o ∧ Q (o.getD z) H3) : tDGet2 ta tb tc σ H Q := h
theorem rd_isdX {a : Addr} {R : Addr → Prop} (d : IsD H a) (q : R a) : ∃ a', V.ref a = V.ref a' ∧ IsD H a' ∧ R a' := ⟨a, rfl, d, q⟩
theorem isD_T {a : Addr} {kvs : List (List Key × V)} (e : H a = some (.dT kvs)) : IsD H a := .inr ⟨kvs, .inl e⟩
theorem isD_K {a : Addr} {kvs : List (Key × V)} (e : H a = some (.dK kvs)) : IsD H a := .inl ⟨kvs, .inl e⟩
theorem rd_dgX {a : Addr} {o : Option V} {R : Option V → Prop} (d : DGet H a y o) (q : R o) : ∃ o', DGet H a y o' ∧ R o' := ⟨o, d, q⟩
theorem dg_is {a b : Addr} {kvs : List (List Key × V)} {s : Int} {z : Str} (e : H a = some (.dT kvs)) (eb : H b = some (.tup [.int s, .str z])) : DGet H a (.ref b) (valV kvs [.inl s, .inr z]) := DGet.t (k := [.inl s, .inr z]) e eb
theorem rd_sdput (h : tc σ H fun v H1 => ta σ H1 fun x H2 => tb σ H2 fun y H3 => ∃ a H4, x = V.ref a ∧ DPut H3 a y v H4 ∧ nx σ H4) : sDPut ta tb tc ⟨nx, rt, bk, ct⟩ σ H := h
theorem rd_dpX {a : Addr} {H' : Hp} {R : Hp → Prop} (d : DPut H a y v H') (q : R H') : ∃ a' H4, V.ref a = V.ref a' ∧ DPut H a' y v H4 ∧ R H4 := ⟨a, H', rfl, d, q⟩
theorem dp_is {a b : Addr} {kvs : List (List Key × V)} {s : Int} {z : Str} (e : H a = some (.dT kvs)) (eb : H b = some (.tup [.int s, .str z])) (l : kvs.length < sizeLine) : DPut H a (.ref b) v (upd H a (.dT (putK kvs [.inl s, .inr z] v))) := DPut.t (k := [.inl s, .inr z]) e eb l
theorem ty_d {a : Addr} {kvs : List (List Key × V)} {B : Prop} (h : H a = some (.dT kvs)) (q : B) : tyV K "dict" (.ref a) H ∧ B := ⟨.inr (.inr (.inl ⟨rfl, .inr ⟨kvs, h⟩⟩)), q⟩
theorem ty_dK {a : Addr} {kvs : List (Key × V)} {B : Prop} (h : H a = some (.dK kvs)) (q : B) : tyV K "dict" (.ref a) H ∧ B := ⟨.inr (.inr (.inl ⟨rfl, .inl ⟨kvs, h⟩⟩)), q⟩
theorem rd_popT {a b : Addr} {kvs : List (List Key × V)} {s : Int} {t : Str} (e : H a = some (.dT kvs)) (eb : H b = some (.tup [.int s, .str t])) (q1 : ∀ v, valV kvs [.inl s, .inr t] = some v → Q v (upd H a (.dT (dropK kvs [.inl s, .inr t])))) (q2 : valV kvs [.inl s, .inr t] = none → Q x H) :
    DX.rPopT (.ref a) [.ref b, x] H Q := ⟨a, kvs, [.inl s, .inr t], b, x, rfl, rfl, e, eb, q1, q2⟩
theorem valV_drop {κ : Type} [DecidableEq κ] (k j : κ) : ∀ kvs : List (κ × V), valV (dropK kvs k) j = if j = k then none else valV kvs j
  | [] => by
    by_cases h : j = k
    · rw [if_pos h]
      rfl
    · rw [if_neg h]
      rfl
  | p :: r => by
    have ih := valV_drop k j r
    by_cases e : p.1 = k
    · rw [dropK_pos e, ih]
      by_cases h : j = k
      · rw [if_pos h, if_pos h]
      · rw [if_neg h, if_neg h, valV_neg (fun z => h (z.symm.trans e))]
    · rw [dropK_neg e]
      by_cases h : p.1 = j
      · rw [valV_pos h, if_neg (fun z => e (h.trans z)), valV_pos h]
      · rw [valV_neg h, ih, valV_neg h]
theorem putK_le {κ : Type} [DecidableEq κ] (kvs : List (κ × V)) (k : κ) (v : V) : (putK kvs k v).length ≤ kvs.length + 1 := by
  unfold putK
  split
  · rw [List.length_map]
    omega
  · rw [List.length_append]
    exact Nat.le_refl _
theorem rd_cat {a b : Addr} {xs ys : List V} (h1 : H a = some (.lst xs)) (h2 : H b = some (.lst ys)) (l : xs.length + ys.length ≤ sizeLine) (q : ∀ p, H p = none → Q (.ref p) (upd H p (.lst (xs ++ ys)))) : rCat (.ref a) (.ref b) H Q := ⟨a, b, xs, ys, rfl, rfl, h1, h2, l, q⟩
/-! list(range(..)) -/
theorem rd_lstRg {t : L2.St → Hp → (Int → Int → Hp → Prop) → Prop} (h : t σ H fun a b H1 => RgOk a b ∧ ∀ q, H1 q = none → Q (.ref q) (upd H1 q (.lst (rgV a b)))) : tLstRg t σ H Q := h
theorem rd_rg1 {R : Int → Int → Hp → Prop} (h : ta σ H fun x H1 => ∃ n, x = V.int n ∧ R 0 n H1) : tRg1 ta σ H R := h
theorem rd_rg2 {R : Int → Int → Hp → Prop} (h : ta σ H fun x H1 => tb σ H1 fun y H2 => ∃ i j, x = V.int i ∧ y = V.int j ∧ R i j H2) : tRg2 ta tb σ H R := h
theorem rd_inX {R : Int → Prop} (h : R i) : ∃ n, V.int i = V.int n ∧ R n := ⟨i, rfl, h⟩
theorem rd_inX2 {R : Int → Int → Prop} (h : R i j) : ∃ n m, V.int i = V.int n ∧ V.int j = V.int m ∧ R n m := ⟨i, j, rfl, rfl, h⟩
theorem rgV_0 (n : Int) : rgV 0 n = ((List.range n.toNat).map fun (i : Nat) => (i : Int)).map V.int := by
  unfold rgV
  rw [List.map_map, Int.sub_zero]
  congr 1
  funext i
  show V.int (0 + (i : Int)) = V.int (i : Int)
  rw [Int.zero_add]
end

/-! ### dicts with int and text keys, slices, more -/
section
variable {K : PySem.W.Frag} {σ : L2.St} {H : Hp} {nx bk ct : L2.St → Hp → Prop} {rt : VK} {t : TS} {te ta tb tc : TE} {tt : TT} {ar : TA} {Q : VK} {QB : Bool → Hp → Prop} {v x y z : V} {i j : Int}
theorem rd_din (h : ta σ H fun y H1 => tb σ H1 fun x H2 => ∃ a o, x = V.ref a ∧ DGet H2 a y o ∧ Q (.bl o.isSome) H2) : tDIn ta tb σ H Q := h
theorem rd_dnotin (h : ta σ H fun y H1 => tb σ H1 fun x H2 => ∃ a o, x = V.ref a ∧ DGet H2 a y o ∧ Q (.bl (!o.isSome)) H2) : tDNotIn ta tb σ H Q := h
theorem rd_dget (h : ta σ H fun x H1 => tb σ H1 fun y H2 => ∃ a v, x = V.ref a ∧ DGet H2 a y (some v) ∧ Q v H2) : tDGet ta tb σ H Q := h
theorem rd_dget1 (h : ta σ H fun x H1 => ∃ a, x = V.ref a ∧ IsD H1 a ∧ tb σ H1 fun y H2 => ∃ o, DGet H2 a y o ∧ Q (o.getD .non) H2) : tDGet1 ta tb σ H Q := h
theorem rd_dinX {a : Addr} {o : Option V} {R : Option V → Prop} (d : DGet H a y o) (q : R o) : ∃ a' o', V.ref a = V.ref a' ∧ DGet H a' y o' ∧ R o' := ⟨a, o, rfl, d, q⟩
theorem rd_dgetX {a : Addr} {R : V → Prop} (d : DGet H a y (some v)) (q : R v) : ∃ a' v', V.ref a = V.ref a' ∧ DGet H a' y (some v') ∧ R v' := ⟨a, v, rfl, d, q⟩
theorem dg_i {a : Addr} {kvs : List (Key × V)} (e : H a = some (.dK kvs)) : DGet H a (.int i) (valV kvs (.inl i)) := DGet.k (k := .inl i) e
theorem dg_s {a : Addr} {kvs : List (Key × V)} {s : Str} (e : H a = some (.dK kvs)) : DGet H a (.str s) (valV kvs (.inr s)) := DGet.k (k := .inr s) e
theorem dg_iv {a : Addr} {kvs : List (Key × V)} (e : H a = some (.dK kvs)) (l : valV kvs (.inl i) = some v) : DGet H a (.int i) (some v) := l ▸ dg_i e
theorem dg_sv {a : Addr} {kvs : List (Key × V)} {s : Str} (e : H a = some (.dK kvs)) (l : valV kvs (.inr s) = some v) : DGet H a (.str s) (some v) := l ▸ dg_s e
theorem dp_i {a : Addr} {kvs : List (Key × V)} (e : H a = some (.dK kvs)) (l : kvs.length < sizeLine) : DPut H a (.int i) v (upd H a (.dK (putK kvs (.inl i) v))) := DPut.k (k := .inl i) e l
theorem dp_s {a : Addr} {kvs : List (Key × V)} {s : Str} (e : H a = some (.dK kvs)) (l : kvs.length < sizeLine) : DPut H a (.str s) v (upd H a (.dK (putK kvs (.inr s) v))) := DPut.k (k := .inr s) e l
theorem rd_disp {trs : List (TE × TE)} (h : ∀ p, H p = none → tPairs trs σ (upd H p (.dK [])) fun ps H2 => H2 p = some (.dK []) ∧ ∃ kvs : List (Key × V), ps = kvs.map (fun kv => (kV kv.1, kv.2)) ∧ kvs.length ≤ 15 ∧ Q (.ref p) (upd H2 p (.dK (mergeK [] kvs)))) : tDisp trs σ H Q := h
theorem rd_pnil {R : List (V × V) → Hp → Prop} (h : R [] H) : tPairs [] σ H R := h
theorem rd_pcons {trs : List (TE × TE)} {R : List (V × V) → Hp → Prop} (h : ta σ H fun x H1 => tb σ H1 fun y H2 => tPairs trs σ H2 fun ps H3 => R ((x, y) :: ps) H3) : tPairs ((ta, tb) :: trs) σ H R := h
theorem rd_sl {r : V → Option Int → Option Int → Hp → VK → Prop} {tl th : TO} (h : te σ H fun x H1 => tl σ H1 fun l H2 => th σ H2 fun u H3 => r x l u H3 Q) : tSl r te tl th σ H Q := h
theorem rd_part {R : Option Int → Hp → Prop} (h : te σ H fun x H1 => ∃ i, x = V.int i ∧ R (some i) H1) : tPart te σ H R := h
theorem rd_nopart {R : Option Int → Hp → Prop} (h : R none H) : tNoPart σ H R := h
theorem rd_slL {a : Addr} {xs : List V} {lo hi : Option Int} (h : SqL K H a xs) (q : ∀ p, H p = none → Q (.ref p) (upd H p (.lst (cutV xs lo hi)))) : rSlL K (.ref a) lo hi H Q := ⟨a, xs, rfl, h, q⟩
theorem cut_to {xs : List V} {k : Nat} : cutV xs none (some (k : Int)) = xs.take k := by
  unfold cutV
  rw [HT.sIx_none, HT.sIx_nat, List.drop_zero, Nat.sub_zero, List.take_eq_take_iff]
  omega
theorem cut_from {xs : List V} {k : Nat} : cutV xs (some (k : Int)) none = xs.drop k := by
  unfold cutV
  rw [HT.sIx_none, HT.sIx_nat]
  by_cases h : k ≤ xs.length
  · rw [Nat.min_eq_left h, List.take_of_length_le (by rw [List.length_drop]; exact Nat.le_refl _)]
  · rw [Nat.min_eq_right (by omega), Nat.sub_self, List.take_zero, List.drop_of_length_le (by omega)]
theorem cut_all {xs : List V} : cutV xs none none = xs := by
  unfold cutV
  rw [HT.sIx_none, HT.sIx_none, List.drop_zero, Nat.sub_zero, List.take_length]
theorem rd_popAt {a : Addr} {xs : List V} {k : Nat} (h : H a = some (.lst xs)) (b1 : -(2 ^ 63) ≤ i) (b2 : i < 2 ^ 63) (s : seqIndex? i xs.length = some k) (g : xs[k]? = some v) (q : Q v (upd H a (.lst (xs.eraseIdx k)))) : rPopAt (.ref a) [.int i] H Q := ⟨a, xs, i, k, v, rfl, rfl, h, b1, b2, s, g, q⟩
theorem rd_clear {a : Addr} {xs : List V} (h : H a = some (.lst xs)) (q : Q .non (upd H a (.lst []))) : rClear (.ref a) [] H Q := ⟨a, xs, rfl, rfl, h, q⟩
theorem rd_aug {n : Nat} {ti : TIp} (e : σ[n]? = some (some x)) (h : te σ H fun y H1 => ti x y H1 fun z H2 => nx (σ.set n (some z)) H2) : tAug n te ti ⟨nx, rt, bk, ct⟩ σ H := ⟨x, e, h⟩
theorem rd_ipI {f : Int → Int → Int} (h : Q (.int (f i j)) H) : ipI f (.int i) (.int j) H Q := ⟨i, j, rfl, rfl, h⟩
theorem rd_whileM (W : Nat → L2.St → Hp → Prop) (m : Nat) (h0 : W m σ H)
    (hs : ∀ m σ H, W m σ H → tt σ H fun b H1 => if b = true then ∃ N : L2.St → Hp → Prop, (∀ σ' H', N σ' H' → ∃ m', m' < m ∧ W m' σ' H') ∧ t ⟨N, rt, nx, N⟩ σ H1 else nx σ H1) : tWhile tt t ⟨nx, rt, bk, ct⟩ σ H := ⟨W, ⟨m, h0⟩, hs⟩
theorem inV_ints (a : Int) : ∀ ns : List Int, inV (.int a) (ns.map V.int) = decide (a ∈ ns)
  | [] => rfl
  | b :: r => by
    have ih := inV_ints a r
    unfold inV at ih ⊢
    rw [List.map_cons, List.any_cons, ih]
    show ((b == a) || decide (a ∈ r)) = decide (a ∈ b :: r)
    by_cases h : b = a
    · subst h
      simp
    · have h2 : (b == a) = false := beq_eq_false_iff_ne.mpr h
      rw [h2, Bool.false_or]
      simp [List.mem_cons, Ne.symm h]
theorem flat_ints : ∀ ns : List Int, (ns.map V.int).all flatV = true
  | [] => rfl
  | _ :: r => by
    rw [List.map_cons, List.all_cons, flat_ints r]
    rfl
theorem rd_inI {p : Addr} {ns : List Int} (h : SqL K H p (ns.map V.int)) (q : Q (.bl (decide (i ∈ ns))) H) : rIn K false (.int i) (.ref p) H Q := ⟨p, ns.map V.int, rfl, .inl h, rfl, flat_ints ns, by
  rw [inV_ints]
  exact q⟩
theorem rd_notInI {p : Addr} {ns : List Int} (h : SqL K H p (ns.map V.int)) (q : Q (.bl (!decide (i ∈ ns))) H) : rIn K true (.int i) (.ref p) H Q := ⟨p, ns.map V.int, rfl, .inl h, rfl, flat_ints ns, by
  rw [inV_ints]
  exact q⟩
def rLenD : List V → Hp → VK → Prop := fun xs H Q => ∃ a kvs, xs = [V.ref a] ∧ H a = some (.dK kvs) ∧ Q (.int kvs.length) H
theorem call_lenD' {X : Cx} : CallR X (.builtin "len") rLenD := call_lenD
theorem rd_lenD {a : Addr} {kvs : List (Key × V)} (h : H a = some (.dK kvs)) (q : Q (.int kvs.length) H) : rLenD [.ref a] H Q := ⟨a, kvs, rfl, h, q⟩
/-! enumerate -/
theorem rd_iEnum {R : It → Hp → Prop} (h : ar σ H fun vs H1 => ∃ a xs, vs = [V.ref a] ∧ SqL K H1 a xs ∧ R (Ite K a) H1) : iEnum K ar σ H R := h
theorem rd_iEnumX {p : Addr} {xs : List V} {R : Addr → Prop} (h : SqL K H p xs) (q : R p) : ∃ a xs, [V.ref p] = [V.ref a] ∧ SqL K H a xs ∧ R a := ⟨p, xs, rfl, h, q⟩
theorem forE_by {a : Addr} {g : TG} (xs : List V) (Pv : Nat → L2.St → Hp → Prop) (h0 : Pv 0 σ H) (hl : ∀ i σ H, i ≤ xs.length → Pv i σ H → SqL K H a xs)
    (hs : ∀ i x σ H T, xs[i]? = some x → Pv i σ H → H T = none → g (.ref T) σ (upd H T (.tup [.int (i : Nat), x])) fun σ2 H2 => t ⟨Pv (i + 1), rt, nx, Pv (i + 1)⟩ σ2 H2) (hd : ∀ σ H, Pv xs.length σ H → nx σ H) : ForG (Ite K a) g t ⟨nx, rt, bk, ct⟩ σ H := by
  refine ⟨fun i m σ H => m = xs.length - i ∧ i ≤ xs.length ∧ Pv i σ H, ⟨xs.length, by simp, Nat.zero_le _, h0⟩, ?_⟩
  rintro i m σ H ⟨rfl, hi, p⟩
  have q := hl i σ H hi p
  by_cases hlt : i < xs.length
  · refine .inr ⟨⟨xs, xs[i], q, by simp [hlt]⟩, Pv (i + 1), fun σ' H' p' => ⟨xs.length - (i + 1), by omega, rfl, hlt, p'⟩, fun x H' y => ?_⟩
    obtain ⟨T, z, rfl, nT, rfl, hz⟩ := y
    exact hs i z σ H T (hz xs q) p nT
  · have e : i = xs.length := by omega
    subst e
    exact .inl ⟨⟨xs, q, Nat.le_refl _⟩, hd σ H p⟩
/-! == of equal data, of int lists -/
theorem dp_ints : ∀ ns : List Int, DpAll K H (ns.map V.int) (ns.map PyData.int)
  | [] => .nil
  | x :: r => .cons (.int x) (dp_ints r)
theorem lay_ints : ∀ ns : List Int, PyData.canLayAll0 (ns.map PyData.int) = true
  | [] => by simp only [List.map_nil, PyData.canLayAll0]
  | x :: r => by simp only [List.map_cons, PyData.canLayAll0, PyData.canLay0, lay_ints r, Bool.and_self]
theorem depth_ints : ∀ ns : List Int, PyData.depthAll (ns.map PyData.int) ≤ 1
  | [] => by simp [PyData.depthAll]
  | x :: r => by
    have := depth_ints r
    simp only [List.map_cons, PyData.depthAll, PyData.depth]
    omega
theorem shaped_ints (ns : List Int) : SeqAt.shaped (.list (ns.map PyData.int)) = true :=
  Bool.and_eq_true_iff.mpr ⟨by simp only [PyData.canLay0, lay_ints], decide_eq_true (by
    have h := depth_ints ns
    simp only [PyData.depth]
    omega)⟩
theorem eqv_ints : ∀ ns ms : List Int, PyData.eqvAll (ns.map PyData.int) (ms.map PyData.int) = decide (ns = ms)
  | [], [] => by simp [PyData.eqvAll]
  | [], y :: m => by simp [PyData.eqvAll]
  | x :: r, [] => by simp [PyData.eqvAll]
  | x :: r, y :: m => by
    have ih := eqv_ints r m
    simp only [List.map_cons, PyData.eqvAll, PyData.eqv, ih]
    by_cases h : x = y
    · subst h
      simp
    · simp [h]
theorem rd_eqLI {p q : Addr} {ns ms : List Int} (h1 : SqL K H p (ns.map V.int)) (h2 : SqL K H q (ms.map V.int)) (k : Q (.bl (decide (ns = ms))) H) : rEqD K (.ref p) (.ref q) H Q :=
  ⟨.list (ns.map PyData.int), .list (ms.map PyData.int), .lst h1 (dp_ints ns), .lst h2 (dp_ints ms), shaped_ints ns, shaped_ints ms, by
    simp only [PyData.eqv, eqv_ints]
    exact k⟩
theorem rd_neLI {p q : Addr} {ns ms : List Int} (h1 : SqL K H p (ns.map V.int)) (h2 : SqL K H q (ms.map V.int)) (k : Q (.bl (!decide (ns = ms))) H) : rNeD K (.ref p) (.ref q) H Q :=
  ⟨.list (ns.map PyData.int), .list (ms.map PyData.int), .lst h1 (dp_ints ns), .lst h2 (dp_ints ms), shaped_ints ns, shaped_ints ms, by
    simp only [PyData.eqv, eqv_ints]
    exact k⟩
end

/-! ### the same rules with the written part named (within comprehensions) -/
section
variable {X : L2.Cx} {K : PySem.W.Frag}
theorem call_listOfK (h : X.K = K) : CallR X (.type "list") (rListOf K) := h ▸ call_listOf
theorem call_lenSK (h : X.K = K) : CallR X (.builtin "len") (rLenS K) := h ▸ call_lenS
theorem ix_listK (h : X.K = K) : IxR X (rIxL K) := h ▸ ix_list
theorem ix_tupK (h : X.K = K) : IxR X (rIxT K) := h ▸ ix_tup
theorem op_in_seqK (h : X.K = K) : OpR X (compareOp .In) (rIn K false) := h ▸ op_in_seq
theorem op_notIn_seqK (h : X.K = K) : OpR X (compareOp .NotIn) (rIn K true) := h ▸ op_notIn_seq
theorem call_isiK2 (h : X.K = K) : CallR X (.builtin "isinstance") (rIsi K) := h ▸ call_isi
theorem pe_fldK {e : Expr} {f : Str} {pos : Pos} {ta : TE} (h : X.K = K) (he : PE X e ta) (hb : attributeBase e f X.env (eval e X.env) = eval e X.env) : PE X (.Attribute e f pos) (tFld K ta f) := h ▸ pe_fld he hb
end
end RD

/-! own layer: sorted(xs, key=f) where f's calls keep the invariant (behind RD) -/
namespace RD
open PySem PySem.Spec PyProof.Rows L2 PySem.W
section
variable {X : Cx} {pins pf : List (Addr × Obj)} {σ : L2.St} {H : Hp} {s : Shared}
/-- what a key's call does -/
def KeyTurn (X : Cx) (A : Around) (σ : L2.St) (H : Hp) (pf : List (Addr × Obj)) (f : Value) (xs : List V) (key : V → Int) : Prop :=
  ∀ (pl : List (Addr × Obj)) (s1 : Shared) (H1 : Hp) (v : V) (u : Value), Inv X (pf ++ pl) σ H1 s1 → Kp [] H H1 → v ∈ xs → RelV v u →
    wpAny (model X.prog X.w) A (call f [u]) (fun z s2 => ∃ H2 t, Inv X (pf ++ pl) σ H2 s2 ∧ Kp [] H1 H2 ∧ z = .int (key v) t) (fun _ _ => False) s1
/-- what stands of an address of ours, whatever runs -/
def Own (X : Cx) (pn : List (Addr × Obj)) (b : Addr) : Prop :=
  b ≠ X.env.locals ∧ b ∉ X.fs ∧ (b ∈ X.ex ∨ X.s_0.heap.objs.size ≤ b) ∧ (∀ x c, X.env.cells.lookup x = some c → c ≠ b) ∧ ∀ p ∈ X.pn ++ pn, p.1 ≠ b
theorem Own.fresh {b : Addr} (I : Inv X pins σ H s) (hb : s.heap.objs.size ≤ b) : Own X pins b := by
  have q := I.fpOk (H' := H) hb (I.hok.fresh hb)
  exact ⟨q.2.1, q.2.2.1, q.2.2.2.1, q.2.2.2.2.1, q.2.2.2.2.2⟩
theorem Own.less {pn pm : List (Addr × Obj)} {b : Addr} (o : Own X pn b) (h : ∀ p, p ∈ pm → p ∈ pn) : Own X pm b :=
  ⟨o.1, o.2.1, o.2.2.1, o.2.2.2.1, fun p hp => o.2.2.2.2 p ((List.mem_append.mp hp).elim (fun z => List.mem_append_left _ z) fun z => List.mem_append_right _ (h p z))⟩
theorem inv_pin {b : Addr} {o : Obj} {pn : List (Addr × Obj)} (I : Inv X (pf ++ pn) σ H s) (w : Own X (pf ++ pn) b) (hn : H b = none) (e : s.heap.get? b = some o) (hc : ∀ v, o.data ≠ .cell v) : Inv X (pf ++ ((b, o) :: pn)) σ H s :=
  I.pins_of fun p hp => by
    rcases List.mem_append.mp hp with z | z
    · exact I.pin p (List.mem_append_right _ (List.mem_append_left _ z))
    · rcases List.mem_cons.mp z with z | z
      · rw [z]
        exact ⟨e, hn, w.1, w.2.1, hc⟩
      · exact I.pin p (List.mem_append_right _ (List.mem_append_right _ z))
theorem inv_unpin {q : Addr × Obj} {pn : List (Addr × Obj)} (I : Inv X (pf ++ (q :: pn)) σ H s) : Inv X (pf ++ pn) σ H s :=
  I.pins_of fun p hp => by
    rcases List.mem_append.mp hp with z | z
    · exact I.pin p (List.mem_append_right _ (List.mem_append_left _ z))
    · exact I.pin p (List.mem_append_right _ (List.mem_append_right _ (List.mem_cons_of_mem _ z)))
theorem inv_head {q : Addr × Obj} {pn : List (Addr × Obj)} (I : Inv X (pf ++ (q :: pn)) σ H s) : s.heap.get? q.1 = some q.2 ∧ H q.1 = none :=
  have z := I.pin q (List.mem_append_right _ (List.mem_append_right _ (.head _)))
  ⟨z.1, z.2.1⟩
/-- the object at b turns -/
theorem inv_turn {b : Addr} {pn : List (Addr × Obj)} {h' : Heap} {t' : Nat} (I : Inv X pn σ H s) (w : Own X pn b) (hn : H b = none) (k : ∀ c o, c ≠ b → s.heap.get? c = some o → h'.get? c = some o) : Inv X pn σ H { s with heap := h', toks := t' } :=
  I.turned k hn w.1 w.2.2.1 w.2.2.2.1 w.2.2.2.2
theorem ints_snoc {vs : List Value} {ns : List Int} {n : Int} {t : Tok} (h : IntsAre vs ns) : IntsAre (vs ++ [.int n t]) (ns ++ [n]) := by
  induction h with
  | nil => exact .cons n t .nil
  | cons m u _ ih => exact .cons m u ih
theorem each_ints {h : Heap} {vs : List Value} {ns : List Int} (e : IntsAre vs ns) : EachIs (fun v d => ∃ as, Reads h v d as) vs (ns.map PyData.int) := by
  induction e with
  | nil => exact .nil
  | cons n t _ ih => exact .cons ⟨[], .int n t⟩ ih
theorem each_vals {xs : List V} {us : List Value} (r : Vals xs us) : EachIs (fun u v => RelV v u) us xs := by
  induction r with
  | nil => exact .nil
  | cons a _ ih => exact .cons a ih
theorem vals_each {xs : List V} {us : List Value} (r : EachIs (fun u v => RelV v u) us xs) : Vals xs us := by
  induction r with
  | nil => exact .nil
  | cons a _ ih => exact .cons a ih
/-- a heap without the object at b -/
def gone (h : Heap) (b : Addr) : Heap := h.update b fun _ => { cls := .none, data := .freed }
theorem gone_at {h : Heap} {b : Addr} {o : Obj} (e : h.get? b = some o) : (gone h b).get? b = none := by
  cases q : (gone h b).get? b with
  | none => rfl
  | some u =>
    exfalso
    obtain ⟨e1, _⟩ := Heap.get?_some_iff.mp e
    obtain ⟨e2, e3⟩ := Heap.get?_some_iff.mp q
    have e4 : (gone h b).objs[b]? = some { cls := .none, data := .freed } := by
      unfold gone
      rw [Heap.objs_update_self, e1]
      rfl
    rw [e4] at e2
    cases e2
    cases e3
theorem gone_ne {h : Heap} {b c : Addr} (n : c ≠ b) : (gone h b).get? c = h.get? c := (Heap.SameBut.update h b _).2 c n
theorem key_end {A : Around} {key : V → Int} {xs : List V} {vs : List Value} {a kS : Addr} {kA : Array Value} {e e1 : Nat} {P : PySem.Fin → Shared → Prop} {E : Value → Shared → Prop} (I : Inv X (pf ++ ((kS, seqObj "list" kA e) :: (a, seqObj "list" #[] e1) :: pins)) σ H s)
    (wk : Own X (pf ++ ((a, seqObj "list" #[] e1) :: pins)) kS) (wa : Own X (pf ++ pins) a) (r : Vals xs vs) (hZ : vs.length ≤ sizeLine) (hu : A.units < cLine) (hk : IntsAre kA.toList (xs.map key))
    (h : ∀ s' out c, Inv X (pf ++ pins) σ H s' → s'.heap.get? a = some (seqObj "list" (List.toArray out) c) → Vals (xs.mergeSort fun p q => decide (key p ≤ key q)) out → P (.done (.ret .none)) s') :
    wpAny (model X.prog X.w) A (ksk_end a false vs.toArray e1 (.ref kS) kA) P E s := by
  have nk := inv_head I
  have na := inv_head (inv_unpin I)
  have hka : kS ≠ a := Ne.symm (wk.2.2.2.2 (a, seqObj "list" #[] e1) (List.mem_append_right _ (List.mem_append_right _ (.head _))))
  have hl : kA.size = vs.length := by
    have h1 := hk.length
    rw [Array.length_toList, List.length_map] at h1
    rw [h1]
    exact r.length
  have hE := each_ints (h := s.heap) hk
  have hkz : (xs.map key).map PyData.int = xs.map (fun v => PyData.int (key v)) := by rw [List.map_map]; rfl
  have hal : AllAlike (xs.map fun v => PyData.int (key v)) := AllAlike.of fun _ _ => by simp [alike]
  have hsk : Sortable (xs.map fun v => PyData.int (key v)) := Sortable.others fun _ => ⟨(fun z => by cases z), (fun _ z => by cases z)⟩
  rw [hkz] at hE
  refine keyH_end (κ := dataKind s.heap (xs.map fun v => PyData.int (key v))) (h₁ := gone s.heap kS) (fun b o hb q => ?_) (gone_at nk.1) nk.1 na.1 hka (SortsAt.data hE hal hsk fun d hd => ?_) hl hZ fun h' tk c kp hc => ?_
  · by_cases hbk : b = kS
    · rw [hbk, gone_at nk.1] at q
      cases q
    · rw [gone_ne hbk] at q
      exact q
  · obtain ⟨v, _, e⟩ := List.mem_map.mp hd
    rw [← e]
    simpa [PyData.depth] using hu
  · have I1 : Inv X (pf ++ ((a, seqObj "list" #[] e1) :: pins)) σ H { s with heap := gone s.heap kS, toks := s.toks } := inv_turn (inv_unpin I) wk nk.2 fun b o hb q => by
      rw [gone_ne hb]
      exact q
    have I2 : Inv X (pf ++ pins) σ H { s with heap := h', toks := tk } := inv_turn (s := { s with heap := gone s.heap kS, toks := s.toks }) (inv_unpin I1) wa na.2 fun b o hb q => kp b o hb q
    have ko : KeyedOut false (xs.map fun v => PyData.int (key v)) vs (sortVals (dataKind s.heap (xs.map fun v => PyData.int (key v))) false kA.toList vs) := ⟨s.heap, kA.toList, hal, rfl, hE⟩
    have eo := keyedOut_each (fun v => PyData.int (key v)) ko (each_vals r)
    rw [dataLe_int key] at eo
    exact h _ _ c I2 hc (vals_each eo)
/-- the keys' loop -/
theorem key_rest {A : Around} {f : Value} {key : V → Int} {xs : List V} {vs : List Value} {a kS : Addr} {e1 : Nat} {P : PySem.Fin → Shared → Prop} {E : Value → Shared → Prop} (T : KeyTurn X A σ H pf f xs key)
    (I : Inv X (pf ++ ((kS, seqObj "list" #[] 0) :: (a, seqObj "list" #[] e1) :: pins)) σ H s) (wk : Own X (pf ++ ((a, seqObj "list" #[] e1) :: pins)) kS) (wa : Own X (pf ++ pins) a) (r : Vals xs vs) (hZ : vs.length ≤ sizeLine) (hu : A.units < cLine)
    (h : ∀ H' s' out c, Inv X (pf ++ pins) σ H' s' → Kp [] H H' → H' a = none → s'.heap.get? a = some (seqObj "list" (List.toArray out) c) → Vals (xs.mergeSort fun p q => decide (key p ≤ key q)) out → P (.done (.ret .none)) s') :
    wpAny (model X.prog X.w) A (ksk_rest a f false vs.toArray e1 (.ref kS)) P E s := by
  unfold ksk_rest
  refine wpAny_bind (wpAny_rule ?_)
  rw [List.forIn_toArray]
  refine wpAny_bind (ksk_fold (fun i s' => ∃ H1 kA e, Inv X (pf ++ ((kS, seqObj "list" kA e) :: (a, seqObj "list" #[] e1) :: pins)) σ H1 s' ∧ Kp [] H H1 ∧ IntsAre kA.toList ((xs.take i).map key)) vs 0 s ⟨H, #[], 0, I, Kp.refl, .nil⟩ ?step ?done)
  case step =>
    rintro j u s' hx ⟨H1, kA, e, I1, k1, hk⟩
    rw [Nat.zero_add] at hk ⊢
    obtain ⟨hj, _⟩ := List.getElem?_eq_some_iff.mp hx
    obtain ⟨v, hv⟩ : ∃ v, xs[j]? = some v := ⟨_, List.getElem?_eq_getElem (by rw [r.length]; exact hj)⟩
    obtain ⟨u', hu', rv⟩ := Vals.get r hv
    rw [hx] at hu'
    cases hu'
    have hz : kA.size ≤ vs.length := by
      have h1 := hk.length
      rw [Array.length_toList, List.length_map, List.length_take] at h1
      omega
    refine wpAny_bind (wpAny_attempt (wpAny_mono (T _ s' H1 v u I1 k1 (List.mem_of_getElem? hv) rv) (fun z s2 he => ?_) fun _ _ hF => hF.elim))
    obtain ⟨H2, t, I2, k2, rfl⟩ := he
    have nk := inv_head I2
    obtain ⟨c2, hc2⟩ : ∃ c2, (s2.heap.update kS (Obj.mapSeq (·.push (.int (key v) t)))).get? kS = some (seqObj "list" (kA.push (.int (key v) t)) c2) := ⟨_, get?_update_seq nk.1 (·.push (.int (key v) t))⟩
    refine wpAny_bind (listUpdate_at nk.1 rfl ?_ (Nat.le_trans hz hZ) (Nat.le_trans (Nat.le_of_eq (Array.size_push ..)) (Nat.succ_le_succ (Nat.le_trans hz hZ))))
    have I3 : Inv X (pf ++ ((a, seqObj "list" #[] e1) :: pins)) σ H2 { s2 with heap := s2.heap.update kS (Obj.mapSeq (·.push (.int (key v) t))), toks := s2.toks } :=
      inv_turn (inv_unpin I2) wk nk.2 fun b o hb q => ((Heap.SameBut.update s2.heap kS _).2 b hb).trans q
    refine wpAny_pure ⟨rfl, H2, kA.push (.int (key v) t), c2, inv_pin I3 wk nk.2 hc2 (fun _ z => by cases z), k1.trans k2, ?_⟩
    rw [Array.toList_push, List.take_add_one, hv, List.map_append]
    exact ints_snoc hk
  case done =>
    rintro s' ⟨H1, kA, e, I1, k1, hk⟩
    rw [Nat.zero_add, ← r.length, List.take_length] at hk
    refine wpAny_bind (listItems_at (inv_head I1).1 rfl ?_)
    exact key_end (key := key) I1 wk wa r hZ hu hk fun s2 out c I2 hc ho => h H1 s2 out c I2 k1 (inv_head (inv_unpin I1)).2 hc ho
/-- xs.sort(key=f) of a list that nobody knows -/
theorem key_tree {A : Around} {f : Value} {key : V → Int} {xs : List V} {vs : List Value} {a : Addr} {n : Nat} {P : PySem.Fin → Shared → Prop} {E : Value → Shared → Prop} (T : KeyTurn X A σ H pf f xs key)
    (I : Inv X (pf ++ pins) σ H s) (wa : Own X (pf ++ pins) a) (na : H a = none) (ho : s.heap.get? a = some (seqObj "list" vs.toArray n)) (r : Vals xs vs) (hZ : vs.length ≤ sizeLine) (hu : A.units < cLine)
    (h : ∀ H' s' out c, Inv X (pf ++ pins) σ H' s' → Kp [] H H' → H' a = none → s'.heap.get? a = some (seqObj "list" (List.toArray out) c) → Vals (xs.mergeSort fun p q => decide (key p ≤ key q)) out → P (.done (.ret .none)) s') :
    wpAny (model X.prog X.w) A (ksk_tree a f false) P E s := by
  obtain ⟨e1, ho1⟩ : ∃ e1, (s.heap.update a (Obj.mapSeq fun _ => (#[] : Array Value))).get? a = some (seqObj "list" #[] e1) := ⟨_, get?_update_seq ho fun _ => #[]⟩
  have I1 : Inv X (pf ++ pins) σ H { s with heap := s.heap.update a (Obj.mapSeq fun _ => (#[] : Array Value)), toks := s.toks } := inv_turn I wa na fun b o hb q => ((Heap.SameBut.update s.heap a _).2 b hb).trans q
  have I2 := inv_pin I1 wa na ho1 (fun _ z => by cases z)
  have I3 : Inv X (pf ++ ((a, seqObj "list" #[] e1) :: pins)) σ H { s with heap := (s.heap.update a (Obj.mapSeq fun _ => (#[] : Array Value))).push (seqObj "tuple" vs.toArray 0), toks := s.toks } := I2.kept fun b o q => Heap.get?_push_of_some _ q
  have wk := Own.fresh I3 (Nat.le_refl _)
  have nk := I3.hok.fresh (Nat.le_refl _)
  have I4 : Inv X (pf ++ ((a, seqObj "list" #[] e1) :: pins)) σ H { s with heap := ((s.heap.update a (Obj.mapSeq fun _ => (#[] : Array Value))).push (seqObj "tuple" vs.toArray 0)).push (seqObj "list" #[] 0), toks := s.toks } := I3.kept fun b o q => Heap.get?_push_of_some _ q
  unfold ksk_tree
  refine wpAny_bind (listItems_at ho rfl ?_)
  refine wpAny_bind (listUpdate_at ho rfl ?_ (by rw [List.size_toArray]; exact hZ) (Nat.zero_le _))
  refine wpAny_bind (seqEpoch_at ho1 rfl ?_)
  refine wpAny_bind (wpAny_newTuple ?_ (by show vs.length ≤ _; exact hZ))
  refine wpAny_bind (wpAny_newList ?_ (Nat.zero_le _))
  refine wpAny_holding ?_
  exact key_rest T (inv_pin I4 wk nk (Heap.get?_push_size _ rfl) (fun _ z => by cases z)) wk wa r hZ hu h
/-- an object of ours becomes known -/
theorem inv_track {a : Addr} {o : HO} {pn : List (Addr × Obj)} (I : Inv X pn σ H s) (w : Own X pn a) (hn : H a = none) (ok : ObjOk X.prog X.w (upd H a o) s.heap a o) : Inv X pn σ (upd H a o) s := by
  have ne : ∀ b u, H b = some u → b ≠ a := fun b u e z => by
    rw [z, hn] at e
    cases e
  have up : ∀ b u, H b = some u → upd H a o b = some u := fun b u e => by rw [upd_ne (ne b u e)]; exact e
  exact I.step (h' := s.heap) (g' := s.gens) (d' := s.drawn) (t' := s.toks) (ch := [a]) (fun b hb => by
      rw [List.mem_singleton.mp hb]
      exact ⟨w.2.2.1, w.1, w.2.2.2.1, w.2.2.2.2⟩)
    (fun b u _ _ _ e _ => e) (fun b u _ _ _ e _ => ⟨u.slots, e⟩) (fun b u hb _ n => by
      rw [upd_ne (fun z => hb (List.mem_singleton.mpr z))]
      exact n)
    (fun b u _ e => ⟨u, e⟩) (fun b xs e => up b _ e) (fun b u v e => up b _ e) (fun b ps e => ⟨#[], by rw [up b _ e]; simp⟩) (fun m hm => hm)
    (fun b u e => by
      by_cases hb : b = a
      · rw [hb, upd_same] at e
        cases e
        rw [hb]
        exact ok
      · rw [upd_ne hb] at e
        exact (I.hok b u e).stay (fun c v _ q => q) (fun c q => up c _ q) fun c xs q => up c _ q) I.bare
/-- sorted(xs, key=f) -/
theorem sorted_key {f : Addr} {key : V → Int} {xs : List V} {l : Addr} {Q : VK} (T : KeyTurn X X.A.in1.in1 σ H pf (.ref f) xs key) (I : Inv X (pf ++ pins) σ H s) (hs : SqL X.K H l xs) (hu : X.A.units + 2 < cLine)
    (h : ∀ H' p, Kp [] H H' → H' p = none → Q (.ref p) (upd H' p (.lst (xs.mergeSort fun a b => decide (key a ≤ key b))))) :
    wpAny (model X.prog X.w) X.A (call (.builtin "sorted") [.ref l] [(Str.ofString "key", .ref f)]) (EP X (pf ++ pins) σ Q) X.xe s := by
  obtain ⟨its, rv, hl, hz⟩ := I.list hs
  have wa := Own.fresh I (b := s.heap.objs.size + 1) (Nat.le_succ _)
  have na : H (s.heap.objs.size + 1) = none := I.hok.fresh (Nat.le_succ _)
  refine sorted_of_sort hl.isList (by rw [← rv.length]; exact hz) (ksk_s1 _ _) (fun _ => ksk_l1 _ _) fun E' => ?_
  rw [ksk_t1]
  have I1 : Inv X (pf ++ pins) σ H { s with heap := copyHeap s.heap its, toks := s.toks } := I.kept fun b o q => copyHeap_old q
  refine key_tree (s := { s with heap := copyHeap s.heap its }) T I1 wa na (copyHeap_at s.heap its) rv (by rw [← rv.length]; exact hz) hu fun H' s' out c I2 k2 n2 hc ro => ⟨rfl, ?_⟩
  have hlen : (xs.mergeSort fun a b => decide (key a ≤ key b)).length ≤ sizeLine := by
    rw [List.length_mergeSort]
    exact hz
  exact ⟨.ref _, _, inv_track (o := .lst (xs.mergeSort fun a b => decide (key a ≤ key b))) I2 wa n2 ⟨hlen, out, c, ro, hc⟩, rfl, h H' _ k2 n2⟩
end
/-! ### a lambda with one parameter -/
structure Lam1 (sc scope : Scope) (p : Str) : Prop where
  kind : scope.kind = .function
  co : scope.isCoroutine = false
  gen : scope.isGenerator = false
  own : ∀ y ∈ scope.names, y.2 ≠ .cell
  par : scope.names.lookup p = some .local
  loc : ∀ {y}, y ≠ p → scope.names.lookup y ≠ some .local
  free : ∀ y ∈ scope.names, y.2 = .free → sc.names.lookup y.1 = some .cell ∨ sc.names.lookup y.1 = some .free
def lam1B (sc scope : Scope) (p : Str) : Bool :=
  decide (scope.kind = .function) && !scope.isCoroutine && !scope.isGenerator && decide (scope.names.lookup p = some .local) && scope.names.all fun y => !decide (y.2 = .cell) && (!decide (y.2 = .local) || decide (y.1 = p)) && (!decide (y.2 = .free) || decide (sc.names.lookup y.1 = some .cell) || decide (sc.names.lookup y.1 = some .free))
theorem lam1_by {sc scope : Scope} {p : Str} (h : lam1B sc scope p = true) : Lam1 sc scope p := by
  unfold lam1B at h
  simp only [Bool.and_eq_true, Bool.or_eq_true, Bool.not_eq_true', decide_eq_true_eq, decide_eq_false_iff_not, List.all_eq_true] at h
  obtain ⟨⟨⟨⟨h1, h2⟩, h3⟩, h5⟩, h4⟩ := h
  refine ⟨h1, h2, h3, fun y hy => (h4 y hy).1.1, h5, fun {y} n e => ?_, fun y hy e => ?_⟩
  · rcases (h4 _ (PySem.mem_of_lookup e)).1.2 with z | z
    · exact z rfl
    · exact n z
  rcases (h4 y hy).2 with (z | z) | z
  · exact absurd e z
  · exact .inl z
  · exact .inr z
theorem Lam1.has {X : Cx} {scope : Scope} {p : Str} (L : Lam1 X.env.scope scope p) (ok : X.Ok) : ∀ y ∈ scope.names, y.2 = .free → ∃ c, X.env.cells.lookup y.1 = some c := fun y hy e => by
  rcases L.free y hy e with k | k
  · exact ok.has _ (.inl k)
  · exact ok.has _ (.inr k)
/-- the context of the lambda's body -/
def lam1Cx (X : Cx) (A : Around) (s : Shared) (H : Hp) (N : List Str) (scope : Scope) (f c' : Addr) : Cx where
  prog := X.prog
  w := X.w
  K := X.K
  mg := X.mg
  base := X.base
  A := A.deeper (LamX.lamEnv X scope s.heap.objs.size f c')
  N := N
  s_0 := s
  H_0 := H
  env := LamX.lamEnv X scope s.heap.objs.size f c'
  outer := X.stack
  stack := LamX.lamEnv X scope s.heap.objs.size f c' :: X.stack
  ex := []
  fn := fun _ => false
  calm := true
  pn := []
  xe := fun _ _ => False
section
variable {X : Cx} {pins : List (Addr × Obj)} {σ σ' : L2.St} {H : Hp} {s : Shared}
/-- each name of the body that has a value: the parameter, or a name of the maker -/
def Caps (X : Cx) (σ : L2.St) (N : List Str) (σ' : L2.St) (p : Str) (v : V) : Prop :=
  σ'.length = N.length ∧ ∀ (i : Nat) (y : Str) (x : V), N[i]? = some y → σ'[i]? = some (some x) → (y = p ∧ x = v) ∨ (y ≠ p ∧ ∃ j : Nat, X.N[j]? = some y ∧ σ[j]? = some (some x))
theorem lam1_start {A : Around} {N : List Str} {scope : Scope} {p : Str} {v : V} {u : Value} {f c' : Addr} {h₁ : Heap} {tk : Nat} (I : Inv X pins σ H s) (L : Lam1 X.env.scope scope p) (hfr : A.frames = some X.stack) (hd : A.handled = none) (C : Caps X σ N σ' p v) (r : RelV v u)
    (hns : h₁.Ns s.heap.objs.size fun y => [(p, u)].reverse.lookup y) (kp : ∀ b o, s.heap.get? b = some o → h₁.get? b = some o) :
    Inv (lam1Cx X A s H N scope f c') [] σ' H { s with heap := h₁, toks := tk } := by
  have e0 := I.env0
  have hfree := L.has I.ok
  have cm : ∀ {y c}, (cloFrom X.env.cells scope.names []).lookup y = some c → X.env.cells.lookup y = some c := fun {y c} e => by
    rcases cloFrom_mem (PySem.mem_of_lookup e) with hm | ⟨h1, h2⟩
    · cases hm
    · obtain ⟨c1, hc⟩ := hfree _ h1 rfl
      have hc : X.env.cells.lookup y = some c1 := hc
      have e2 : c = c1 := by rw [h2, hc] <;> rfl
      rw [e2]
      exact hc
  have look : ∀ {y}, scope.names.lookup y = some .free → ∃ c, (cloFrom X.env.cells scope.names []).lookup y = some c := fun {y} hl =>
    mem_lookup (cloFrom_has (cells := X.env.cells) (acc := []) (PySem.mem_of_lookup hl))
  have cellK : ∀ {c : Addr} {z : Option Value}, s.heap.IsCell c z → h₁.IsCell c z := fun {c z} ⟨o, ho, hd⟩ => ⟨o, kp _ _ ho, hd⟩
  have noA : ∀ b : Addr, b ∉ (lam1Cx X A s H N scope f c').ex := fun b z => by cases z
  constructor
  case ok =>
    constructor
    case mod => exact e0.mod
    case kind => exact L.kind
    case glob => exact rfl
    case blt => exact rfl
    case above => exact Nat.le_refl _
    case inj => exact fun y z c e1 e2 => I.ok.inj y z c (cm e1) (cm e2)
    case has =>
      intro y hy
      have hy : scope.names.lookup y = some .cell ∨ scope.names.lookup y = some .free := hy
      rcases hy with hy | hy
      · exact absurd rfl (L.own _ (PySem.mem_of_lookup hy))
      · exact look hy
    case cab =>
      intro y c z _
      have z : false = true := z
      cases z
    case hd => exact fun _ => hd
    case frames => exact Around.frames_deeper hfr
    case stk => exact .inr ⟨rfl, rfl⟩
    case exf => exact fun b z => absurd z (noA b)
    case bs => exact e0.bs
    case bsz => exact e0.bsz
    case noex => exact fun b _ _ => noA b
    case exfs => exact fun b z => absurd z (noA b)
    case funs => exact e0.funs
    case frf => exact e0.frf
  case os => exact rfl
  case bare => exact e0.bare
  case base => exact Un.kept kp
  case loc =>
    refine ⟨_, hns, fun i y x e1 e2 e3 => ?_⟩
    rcases C.2 i y x e1 e2 with ⟨ey, ex⟩ | ⟨ny, j, j1, j2⟩
    · rw [ey, ex]
      exact ⟨u, r, .inl ⟨L.par, by simp⟩⟩
    · have e3 : Vis scope y := e3
      rcases e3 with k | k | k
      · exact absurd k (L.loc ny)
      · exact absurd rfl (L.own _ (PySem.mem_of_lookup k))
      · obtain ⟨m, hn, hl⟩ := I.loc
        have hvis : Vis X.env.scope y := (L.free _ (PySem.mem_of_lookup k) rfl).elim (fun k => .inr (.inl k)) (fun k => .inr (.inr k))
        obtain ⟨w', r', q⟩ := hl j y x j1 j2 hvis
        obtain ⟨c2, h2⟩ := look k
        refine ⟨w', r', .inr ⟨.inr k, c2, h2, ?_⟩⟩
        have c1 := cm h2
        rcases q with ⟨k', _⟩ | ⟨_, c3, e', z⟩
        · have k' : X.env.scope.names.lookup y = some .local := k'
          rcases L.free _ (PySem.mem_of_lookup k) rfl with k2 | k2 <;> rw [show X.env.scope.names.lookup y = _ from k2] at k' <;> cases k'
        · rw [c1] at e'
          cases e'
          exact cellK z
  case cell =>
    intro y c e
    obtain ⟨w', z⟩ := I.cell y c (cm e)
    exact ⟨w', cellK z⟩
  case free => exact e0.hok.fresh (Nat.le_refl _)
  case freeC => exact fun y c e => I.freeC y c (cm e)
  case pin => exact fun q hq => absurd (show q ∈ ([] : List (Addr × Obj)) ++ [] from hq) (by simp)
  case hok => exact e0.hok.kept kp
  case len => exact C.1
/-- the lambda as a key -/
theorem lam1_turn {A : Around} {k : Nat} {N : List Str} {scope : Scope} {p : Str} {f c' : Addr} {params : Arguments} {body : Expr} {pm ctv : Value} {xs : List V} {key : V → Int} {τ : V → L2.St} (L : Lam1 X.env.scope scope p) (hc : H c' = some (LamX.CodeO c' (X.env.qual ++ "<lambda>")))
    (hA : A.frames = some X.stack) (hr : Room (k + 1) A) (hbind : ∀ u, bindArgs (PySem.W.kla_fn "<lambda>" (X.env.qual ++ "<lambda>") params body scope (cloFrom X.env.cells scope.names []) pm (.ref c') ctv) ⟨[u], []⟩ = pure [(p, u)])
    (hC : ∀ v, v ∈ xs → Caps X σ N (τ v) p v)
    (hbody : ∀ (s : Shared) (H1 : Hp) (v : V), v ∈ xs → Kp [] H H1 → Room k (A.deeper (LamX.lamEnv X scope s.heap.objs.size f c')) → ∃ tb, PE (lam1Cx X A s H1 N scope f c') body tb ∧ tb (τ v) H1 fun x H2 => x = .int (key v) ∧ Kp [] H1 H2) :
    KeyTurn X A σ H [(f, PySem.W.kla_obj "<lambda>" (X.env.qual ++ "<lambda>") params body scope (cloFrom X.env.cells scope.names []) pm c' ctv)] (.ref f) xs key := by
  intro pl s1 H1 v u I1 k1 hv r
  have hf := (I1.pin _ (List.mem_append_right _ (List.mem_append_left _ (.head _)))).1
  obtain ⟨⟨oc, vs, t, hoc, hdc, hvc⟩, _, _⟩ := I1.hok c' _ (k1.g0 hc)
  have rc : codeAny (model X.prog X.w) A (.call (.ref f) ⟨[u], []⟩) (fun r s' => ∃ z, r = .ok (.ret z) ∧ CE X.stack X.prog X.w H1 s1 (fun x H2 => x = .int (key v) ∧ Kp [] H1 H2) z s') s1 := by
    refine PySem.W.kla_callFunE hr.depth hf rfl L.co L.gen rfl ⟨c', oc, vs, t, rfl, hoc, hdc, hvc⟩ ?_
    rw [hbind]
    refine wpAny_pure (wpAny_newFunctionEnv (fun y hy => L.own y hy) (fun y hy => ?_) (fun h₁ hns hsb => ⟨I1.nolimit.fresh _ hsb, ?_⟩) L.kind)
    · rw [List.mem_singleton.mp hy]
      exact L.par
    show codeAny _ _ (.expr body (LamX.lamEnv X scope s1.heap.objs.size f c')) _ _
    have kp : ∀ b o, s1.heap.get? b = some o → h₁.get? b = some o := fun b o e => hsb.extBut b o (Nat.ne_of_lt (Heap.lt_size e)) (Heap.get?_push_of_some _ e)
    have J : Inv (lam1Cx X A s1 H1 N scope f c') [] (τ v) H1 { s1 with heap := h₁, toks := s1.toks + [(p, u)].length } := lam1_start I1 L hA hr.hd (hC v hv) r hns kp
    obtain ⟨tb, hp, ht⟩ := hbody s1 H1 v hv k1 (hr.deeper _)
    refine PySem.W.kla_codeExpr (wpAny_mono (hp.run [] _ _ _ _ J ht) (fun z s' hq => ?_) fun e s' hq => (show False from hq).elim)
    obtain ⟨w', H', J', rv, q⟩ := hq
    exact ⟨z, rfl, w', H', J'.os, J'.bare, J'.base, J'.hok, rv, q⟩
  refine wpAny_call (codeAny_mono rc fun r s' hq => ?_)
  obtain ⟨z, rfl, ce⟩ := hq
  obtain ⟨x, H2, I2, rx, ex, k2⟩ := I1.after ce
  rw [ex] at rx
  obtain ⟨t', e⟩ := rx
  exact ⟨H2, t', I2, k2, e⟩
/-- a made function is pinned -/
theorem fn_pin {f : Addr} {o : Obj} {fd : FuncData} (I : Inv X pins σ H s) (hf : s.heap.get? f = some o) (hd : o.data = .func fd) (hn : H f = none) (hfr : f ∉ frs X.stack) : Inv X ([(f, o)] ++ pins) σ H s :=
  I.pins_of fun p hp => by
    rcases List.mem_append.mp hp with z | z
    · rw [List.mem_singleton.mp z]
      refine ⟨hf, hn, fun e => ?_, fun e => ?_, fun v e => ?_⟩
      · obtain ⟨m, ⟨ol, es, ep, ho, hdl, _⟩, _⟩ := I.loc
        have e : f = X.env.locals := e
        rw [← e, hf] at ho
        cases ho
        rw [hd] at hdl
        cases hdl
      · rcases I.ok.stk with k | ⟨k, _⟩
        · exact hfr (by rw [k]; exact e)
        · refine hfr ?_
          rw [k]
          unfold frs
          rw [List.filterMap_cons]
          have e : f ∈ frs X.outer := e
          unfold frs at e
          split
          · exact e
          · exact List.mem_cons_of_mem _ e
      · have e : o.data = .cell v := e
        rw [hd] at e
        cases e
    · exact I.pin p (List.mem_append_right _ z)
theorem ep_less {q : Addr × Obj} {Q : VK} {u : Value} {s' : Shared} (h : EP X ([q] ++ pins) σ Q u s') : EP X pins σ Q u s' := by
  obtain ⟨v, H', I, r, h⟩ := h
  exact ⟨v, H', I.pins_of fun p hp => I.pin p (List.mem_append_right _ (List.mem_append_right _ hp)), r, h⟩
/-- the names of the body, told by the maker's -/
def CapsN (N0 : List Str) (σ : L2.St) (N : List Str) (σ' : L2.St) (p : Str) (v : V) : Prop :=
  σ'.length = N.length ∧ ∀ (i : Nat) (y : Str) (x : V), N[i]? = some y → σ'[i]? = some (some x) → (y = p ∧ x = v) ∨ (y ≠ p ∧ ∃ j : Nat, N0[j]? = some y ∧ σ[j]? = some (some x))
theorem sq_ext {K : PySem.W.Frag} {H H' : Hp} {l : Addr} {xs : List V} (e : LamX.ExtN H H') (h : SqL K H l xs) : SqL K H' l xs := by
  rcases h with (h | ⟨o, h⟩) | h
  · exact .inl (.inl (e _ _ h fun ps z => by cases z))
  · exact .inl (.inr ⟨o, e _ _ h fun ps z => by cases z⟩)
  · exact .inr h
/-- sorted(e, key=lambda p: body) -/
def tSortKey (K : PySem.W.Frag) (T : List (Addr × Str)) (N0 N : List Str) (p : Str) (t : TA) (tb : TE) : TE := fun σ H Q => t σ H fun vs H1 => ∃ (l : Addr) (xs : List V) (key : V → Int) (τ : V → L2.St), vs = [.ref l] ∧ SqL K H1 l xs ∧ LamX.Tabs T H1 ∧
  (∀ v, v ∈ xs → CapsN N0 σ N (τ v) p v) ∧ ∀ H2, LamX.ExtN H1 H2 → LamX.Tabs T H2 → (∀ (H3 : Hp) (v : V), v ∈ xs → Kp [] H2 H3 → tb (τ v) H3 fun x H4 => x = .int (key v) ∧ Kp [] H3 H4) ∧
    ∀ (H3 : Hp) (q : Addr), Kp [] H2 H3 → H3 q = none → Q (.ref q) (upd H3 q (.lst (xs.mergeSort fun a b => decide (key a ≤ key b))))
theorem pe_sortKey {T : List (Addr × Str)} {N : List Str} {k : Nat} {c P : Addr} {scope : Scope} {p : Str} {params : Arguments} {e body : Expr} {t : TA} {tb : TE} {p1 kpos lpos pos : Pos} (hg : Gl X "sorted") (hm : X.mg "sorted" = none) (ha : PA X [e] t)
    (TB : LamX.TabB X.base X.mg c P) (hcode : X.env.code = .ref c) (hmT : (P, X.env.qual ++ "<lambda>") ∈ T) (huT : ∀ p ∈ T, p.1 = P → p.2 = X.env.qual ++ "<lambda>") (hr : Room (k + 3) X.A) (L : Lam1 X.env.scope scope p) (hdef : defaultsOf params X.env = ([], []))
    (hbind : ∀ (q : Str) (cl : List (Str × Addr)) (pm cv ctv u : Value), bindArgs (PySem.W.kla_fn "<lambda>" q params body scope cl pm cv ctv) ⟨[u], []⟩ = pure [(p, u)])
    (hbody : ∀ (s : Shared) (H : Hp) (f c' : Addr), Room k (X.A.in1.in1.deeper (LamX.lamEnv X scope s.heap.objs.size f c')) → PE (lam1Cx X X.A.in1.in1 s H N scope f c') body tb)
    (he : backTo pos (starEach [e] X.env) = (false, eval e X.env) :: backTo pos (starEach [] X.env) := by rfl) (hpl : (backTo pos (starEach [e] X.env)).any (·.1) = false := by rfl) :
    PE X (.Call (.Name "sorted" p1) [e] [⟨some "key", .Lambda params body scope lpos, kpos⟩] pos) (tSortKey X.K T X.N N p t tb) := by
  refine ⟨fun pins s σ H Q I h => ?_⟩
  refine wpAny_Call_Name_kw (ld_blt I hg hm (show bootBuiltins "sorted" = some (.builtin "sorted") by rfl) ?_ (by decide) (by decide))
  refine PyProof.Rows.callWith_kw (thn (ha.run pos pins s σ H _ I h) fun us s1 ⟨vs, H1, I1, r1, q1⟩ => ?_) he hpl rfl rfl
  obtain ⟨l, xs, key, τ, rfl, hs, hT, hC, q⟩ := q1
  obtain rfl := Vals.ref1 r1
  show wpAny _ _ (evalAll ((do let v ← eval (.Lambda params body scope lpos) X.env; standAt pos; pure v) :: [])) _ _ s1
  refine wpAny_evalAll_cons (wpAny_bind (LamX.lam_make2 I1 TB hcode hmT huT hT hdef (L.has I1.ok) fun f c' pm ctv H2 s2 I2 eN T2 hf hfn hfr hco => wpAny_bind (wpAny_standAt (wpAny_pure (wpAny_evalAll_nil ?_)))))
  obtain ⟨hb, hq⟩ := q H2 eN T2
  show wpAny _ _ (call (.builtin "sorted") [.ref l] [(Str.ofString "key", .ref f)]) _ _ s2
  refine wpAny_mono (sorted_key (lam1_turn L hco I2.ok.frames hr.in1.in1 (fun u => hbind _ _ _ _ _ u) hC fun s H3 v hv k3 hr3 => ⟨tb, hbody s H3 f c' hr3, hb H3 v hv k3⟩) (fn_pin I2 hf rfl hfn hfr) (sq_ext eN hs) (by have := hr.units; omega) hq) (fun u s' h => ep_less h) fun _ _ h => h
end
end RD
namespace RD
open PySem PySem.Spec PyProof.Rows L2 PySem.W
section
variable {X : Cx} {pins pf : List (Addr × Obj)} {σ : L2.St} {H : Hp} {s : Shared}
theorem Own.cons {pn : List (Addr × Obj)} {q : Addr × Obj} {b : Addr} (w : Own X (pf ++ pn) b) (n : q.1 ≠ b) : Own X (pf ++ (q :: pn)) b :=
  ⟨w.1, w.2.1, w.2.2.1, w.2.2.2.1, fun p hp => by
    rcases List.mem_append.mp hp with z | z
    · exact w.2.2.2.2 p (List.mem_append_left _ z)
    · rcases List.mem_append.mp z with z | z
      · exact w.2.2.2.2 p (List.mem_append_right _ (List.mem_append_left _ z))
      · rcases List.mem_cons.mp z with z | z
        · rw [z]
          exact n
        · exact w.2.2.2.2 p (List.mem_append_right _ (List.mem_append_right _ z))⟩
/-- the first of the least -/
def Least (xs : List V) (key : V → Int) (i : Nat) (b : V) : Prop := xs[i]? = some b ∧ ∀ (j : Nat) (z : V), xs[j]? = some z → key b ≤ key z ∧ (j < i → key b < key z)
theorem min_loop {A : Around} {f : Addr} {key : V → Int} {xs : List V} {l Ia S : Addr} {kw : List (Str × Value)} {R : Result → Shared → Prop} (hh : A.handled = none) (T : KeyTurn X A.in1 σ H pf (.ref f) xs key) (hs : SqL X.K H l xs) (hlI : l ≠ Ia) (hSI : S ≠ Ia)
    (wS : Own X (pf ++ pins) S) (wI : Own X (pf ++ pins) Ia)
    (hR : ∀ H2 s2 i b vb, Inv X (pf ++ pins) σ H2 s2 → Kp [] H H2 → Least xs key i b → RelV b vb → R (.ok (.ret vb)) s2) :
    ∀ (r j i : Nat) (s1 : Shared) (H1 : Hp) (b : V) (vb : Value) (tb : Tok) (c : Nat) (oI : Obj), xs.length - (j + 1) = r → j + 1 ≤ xs.length → Inv X (pf ++ ((S, seqObj "list" #[vb, .int (key b) tb] c) :: (Ia, oI) :: pins)) σ H1 s1 → Kp [] H H1 → s1.heap.IsListIter Ia l (j + 1) →
      xs[i]? = some b → RelV b vb → i ≤ j → (∀ (j' : Nat) (z : V), j' ≤ j → xs[j']? = some z → key b ≤ key z ∧ (j' < i → key b < key z)) →
      codeAny (model X.prog X.w) A (.builtin "min.loop" ⟨[.ref Ia, .ref f, .ref S], kw⟩) R s1 := by
  have hname : (toString "min" ++ toString ".loop" : String) = "min.loop" := by decide
  intro r
  induction r with
  | zero =>
    intro j i s1 H1 b vb tb c oI hr hj I1 k1 hit hb rb hij hbest
    have hin : j + 1 = xs.length := by omega
    have nS := inv_head I1
    have nI := inv_head (inv_unpin I1)
    obtain ⟨its, rv, hl, hz⟩ := I1.list (sl_kp k1 (by simp) hs)
    have W := Walks.list (prog := X.prog) (w := X.w) (A := A.in1) hh Ia l hlI its.toArray
    have hsz : its.toArray.size = xs.length := by rw [List.size_toArray, rv.length]
    refine codeAny_builtin (id := "min.loop") PySem.F.entry_min_loop ?_
    rw [Around.under_plainId PySem.F.plain_min_loop _]
    show wpAny (model X.prog X.w) A.in1 (seqItems? (.ref S) >>= _) _ _ _
    refine wpAny_bind (wpAny_seqItems (s := s1) nS.1 rfl ?_)
    show wpAny (model X.prog X.w) A.in1 (tryCatch (pyNext (.ref Ia)) _ >>= _) _ _ _
    refine wpAny_bind (wpAny_tryCatch (W.done s1 _ _ ⟨by rw [hsz, ← hin]; exact hit, hl.isList⟩ fun h' tk' hk' => ?_))
    have hS' := hk' S _ (by simpa using hSI) nS.1
    have I2 : Inv X (pf ++ ((S, seqObj "list" #[vb, .int (key b) tb] c) :: pins)) σ H1 { s1 with heap := h', toks := tk' } :=
      inv_pin (inv_turn (inv_unpin (inv_unpin I1)) wI nI.2 fun a o ha q => hk' a o (by simpa using ha) q) wS nS.2 hS' (fun _ z => by cases z)
    have I3 : Inv X (pf ++ pins) σ H1 { s1 with heap := h'.update S (Obj.mapSeq fun _ => (#[] : Array Value)), toks := tk' } :=
      inv_turn (s := { s1 with heap := h', toks := tk' }) (inv_unpin I2) wS nS.2 fun a o ha q => ((Heap.SameBut.update h' S _).2 a ha).trans q
    show wpAny (model X.prog X.w) A.in1 (updateSeq S (fun _ => #[]) >>= _) _ _ _
    refine wpAny_bind (wpAny_updateSeq hS' rfl (wpAny_bind (wpAny_letGo (wpAny_pure ?_))))
    exact hR H1 _ i b vb I3 k1 ⟨hb, fun j' z hz' => hbest j' z (by have := (List.getElem?_eq_some_iff.mp hz').1; omega) hz'⟩ rb
  | succ r ih =>
    intro j i s1 H1 b vb tb c oI hr hj I1 k1 hit hb rb hij hbest
    have hlt : j + 1 < xs.length := by omega
    have nS := inv_head I1
    have nI := inv_head (inv_unpin I1)
    obtain ⟨its, rv, hl, hz⟩ := I1.list (sl_kp k1 (by simp) hs)
    have W := Walks.list (prog := X.prog) (w := X.w) (A := A.in1) hh Ia l hlI its.toArray
    have hsz : its.toArray.size = xs.length := by rw [List.size_toArray, rv.length]
    refine codeAny_builtin (id := "min.loop") PySem.F.entry_min_loop ?_
    rw [Around.under_plainId PySem.F.plain_min_loop _]
    show wpAny (model X.prog X.w) A.in1 (seqItems? (.ref S) >>= _) _ _ _
    refine wpAny_bind (wpAny_seqItems (s := s1) nS.1 rfl ?_)
    show wpAny (model X.prog X.w) A.in1 (tryCatch (pyNext (.ref Ia)) _ >>= _) _ _ _
    refine wpAny_bind (wpAny_tryCatch (W.item (j + 1) s1 _ _ (by rw [hsz]; exact hlt) ⟨hit, hl.isList⟩ fun u h' tk' hP hst' hk' => ?_))
    have hu : its[j + 1]? = some u := by simpa using hP
    obtain ⟨x, hx⟩ : ∃ x, xs[j + 1]? = some x := ⟨_, List.getElem?_eq_getElem hlt⟩
    obtain ⟨u', hu', rx⟩ := Vals.get rv hx
    rw [hu] at hu'
    cases hu'
    obtain ⟨oI', hoI', hoc, hod⟩ := id hst'.1
    have hS' := hk' S _ (by simpa using hSI) nS.1
    have I2 : Inv X (pf ++ ((S, seqObj "list" #[vb, .int (key b) tb] c) :: (Ia, oI') :: pins)) σ H1 { s1 with heap := h', toks := tk' } :=
      inv_pin (inv_pin (inv_turn (inv_unpin (inv_unpin I1)) wI nI.2 fun a o ha q => hk' a o (by simpa using ha) q) wI nI.2 hoI' (fun v z => by rw [hod] at z; cases z)) (wS.cons hSI.symm) nS.2 hS' (fun _ z => by cases z)
    show wpAny (model X.prog X.w) A.in1 (tryCatch (holding [u] (call (.ref f) [u])) _ >>= _) _ _ _
    refine wpAny_bind (wpAny_tryCatch (wpAny_holding (wpAny_mono (T _ _ H1 x u I2 k1 (List.mem_of_getElem? hx) rx) (fun z s2 he => ?_) fun _ _ hF => hF.elim)))
    obtain ⟨H2, t2, I3, k2, rfl⟩ := he
    have nS2 := inv_head I3
    have nI2 := inv_head (inv_unpin I3)
    have hit2 : s2.heap.IsListIter Ia l (j + 1 + 1) := ⟨oI', nI2.1, hoc, hod⟩
    show wpAny (model X.prog X.w) A.in1 (tryCatch (holding [u, .int (key x) t2] (richCompare .Lt (.int (key x) t2) (.int (key b) tb) >>= _)) _ >>= _) _ _ _
    refine wpAny_bind (wpAny_tryCatch (wpAny_holding (wpAny_bind (CmpOf.ints_lt (prog := X.prog) (w := X.w) (A := A.in1) (P := fun i v => ∃ t, v = .int (if i = 0 then key x else key b) t) (fun i => if i = 0 then key x else key b) (fun i v h => h) 0 1 _ _ _ _ _ ⟨t2, rfl⟩ ⟨tb, rfl⟩ ?_))))
    refine wpAny_bind (wpAny_holding (wpAny_truthy_bool ?_))
    refine wpAny_bind (wpAny_letGo (wpAny_pure ?_))
    have hxb : ∀ (j' : Nat) (z : V), j' ≤ j + 1 → xs[j']? = some z → j' ≤ j ∨ z = x := fun j' z h1 h2 => by
      by_cases e : j' = j + 1
      · rw [e, hx] at h2
        exact .inr (Option.some.inj h2).symm
      · exact .inl (by omega)
    by_cases hbt : key x < key b
    · obtain ⟨c2, hc2⟩ : ∃ c2, (s2.heap.update S (Obj.mapSeq fun _ => #[u, .int (key x) t2])).get? S = some (seqObj "list" #[u, .int (key x) t2] c2) := ⟨_, get?_update_seq nS2.1 fun _ => #[u, .int (key x) t2]⟩
      have I4 : Inv X (pf ++ ((Ia, oI') :: pins)) σ H2 { s2 with heap := s2.heap.update S (Obj.mapSeq fun _ => #[u, .int (key x) t2]), toks := s2.toks } :=
        inv_turn (inv_unpin I3) (wS.cons hSI.symm) nS2.2 fun a o ha q => ((Heap.SameBut.update s2.heap S _).2 a ha).trans q
      simp only [if_true, if_neg (Nat.succ_ne_zero 0), hbt, decide_true]
      refine wpAny_bind (wpAny_updateSeq nS2.1 rfl (wpAny_bind (wpAny_letGo ?_)))
      rw [hname]
      refine wpAny_pure ⟨plainId_quiet PySem.F.plain_min_loop _, ih (j + 1) (j + 1) _ H2 x u t2 c2 oI' (by omega) hlt (inv_pin I4 (wS.cons hSI.symm) nS2.2 hc2 (fun _ z => by cases z)) (k1.trans k2) ?_ hx rx (Nat.le_refl _) fun j' z hj' hz' => ?_⟩
      · exact ⟨oI', ((Heap.SameBut.update s2.heap S _).2 Ia hSI.symm).trans nI2.1, hoc, hod⟩
      · rcases hxb j' z hj' hz' with e | e
        · have h1 := (hbest j' z e hz').1
          exact ⟨by omega, fun _ => by omega⟩
        · rw [e]
          refine ⟨Int.le_refl _, fun hlt' => ?_⟩
          have h1 := hbest j' z (by omega) hz'
          rw [e] at h1
          omega
    · simp only [if_true, if_neg (Nat.succ_ne_zero 0), hbt, decide_false, Bool.false_eq_true, if_false]
      refine wpAny_bind (wpAny_letGo ?_)
      rw [hname]
      refine wpAny_pure ⟨plainId_quiet PySem.F.plain_min_loop _, ih (j + 1) i _ H2 b vb tb c oI' (by omega) hlt I3 (k1.trans k2) hit2 hb rb (by omega) fun j' z hj' hz' => ?_⟩
      rcases hxb j' z hj' hz' with e | e
      · exact hbest j' z e hz'
      · rw [e]
        refine ⟨by omega, fun hlt' => ?_⟩
        have h1 := hbest j' z (by omega) hz'
        rw [e] at h1
        exact h1.2 hlt'
theorem min_args (a v u : Value) : argsOk "min" ⟨[a], [(Str.ofString "key", v), (Str.ofString "default", u)]⟩ := by unfold argsOk; kernel_rfl
/-- min(xs, key=f, default=None) -/
theorem min_key {f : Addr} {key : V → Int} {xs : List V} {l : Addr} {Q : VK} (hh : X.A.handled = none) (T : KeyTurn X X.A.in1 σ H pf (.ref f) xs key) (I : Inv X (pf ++ pins) σ H s) (hs : SqL X.K H l xs) (h1 : xs = [] → Q .non H)
    (h2 : ∀ H' i b, Kp [] H H' → Least xs key i b → Q b H') :
    wpAny (model X.prog X.w) X.A (call (.builtin "min") [.ref l] [(Str.ofString "key", .ref f), (Str.ofString "default", .none)]) (EP X (pf ++ pins) σ Q) X.xe s := by
  have hname : (toString "min" ++ toString ".loop" : String) = "min.loop" := by decide
  obtain ⟨its, rv, hl, hz⟩ := I.list hs
  have hll : l < s.heap.objs.size := by
    obtain ⟨ol, hol, _⟩ := hl.isList
    exact Heap.lt_size hol
  refine kmk_tree PySem.F.kind_min PySem.F.plain_min PySem.F.entry_min (min_args _ _ _) ?_
  show wpAny (model X.prog X.w) X.A.in1 (Builtin.Builtins.bindParams "min" ["key", "default"] 0 ⟨[], [(Str.ofString "key", .ref f), (Str.ofString "default", .none)]⟩ >>= _) _ _ s
  refine wpAny_bind (wpAny_of_eq (show Builtin.Builtins.bindParams "min" ["key", "default"] 0 ⟨[], [(Str.ofString "key", .ref f), (Str.ofString "default", .none)]⟩ = pure [some (.ref f), some .none] from rfl) ?_)
  refine wpAny_bind (wpAny_pure (wpAny_bind (wpAny_pyIter_list hl.isList ?_)))
  refine wpAny_bind (wpAny_newList (items := []) ?_ (Nat.zero_le _))
  rw [hname]
  have hS : (s.heap.push { cls := .type "list_iterator", data := .fields #[.ref l, .int 0 0] }).objs.size = s.heap.objs.size + 1 := size_push' ..
  have wI := Own.fresh I (Nat.le_refl _)
  have nI : H s.heap.objs.size = none := I.hok.fresh (Nat.le_refl _)
  have wS : Own X (pf ++ pins) (s.heap.push { cls := .type "list_iterator", data := .fields #[.ref l, .int 0 0] }).objs.size := Own.fresh I (by rw [hS]; exact Nat.le_succ _)
  have nS : H (s.heap.push { cls := .type "list_iterator", data := .fields #[.ref l, .int 0 0] }).objs.size = none := I.hok.fresh (by rw [hS]; exact Nat.le_succ _)
  have hSI : (s.heap.push { cls := .type "list_iterator", data := .fields #[.ref l, .int 0 0] }).objs.size ≠ s.heap.objs.size := by
    rw [hS]
    exact Nat.succ_ne_self _
  have I1 : Inv X (pf ++ pins) σ H { s with heap := (s.heap.push { cls := .type "list_iterator", data := .fields #[.ref l, .int 0 0] }).push (seqObj "list" #[] 0), toks := s.toks } :=
    I.kept fun b o q => Heap.get?_push_of_some _ (Heap.get?_push_of_some _ q)
  have gI : ((s.heap.push { cls := .type "list_iterator", data := .fields #[.ref l, .int 0 0] }).push (seqObj "list" #[] 0)).get? s.heap.objs.size = some { cls := .type "list_iterator", data := .fields #[.ref l, .int 0 0] } := Heap.get?_push_of_some _ (Heap.get?_push_size _ rfl)
  have gS : ((s.heap.push { cls := .type "list_iterator", data := .fields #[.ref l, .int 0 0] }).push (seqObj "list" #[] 0)).get? (s.heap.push { cls := .type "list_iterator", data := .fields #[.ref l, .int 0 0] }).objs.size = some (seqObj "list" #[] 0) := Heap.get?_push_size _ rfl
  refine wpAny_pure ⟨plainId_quiet PySem.F.plain_min_loop _, ?_⟩
  show codeAny _ _ (.builtin "min.loop" ⟨[.ref s.heap.objs.size, .ref f, .ref _], [("default", .none)]⟩) _ { s with heap := (s.heap.push { cls := .type "list_iterator", data := .fields #[.ref l, .int 0 0] }).push (seqObj "list" #[] 0), toks := s.toks }
  generalize (s.heap.push { cls := .type "list_iterator", data := .fields #[.ref l, .int 0 0] }).push (seqObj "list" #[] 0) = h0 at I1 gI gS ⊢
  generalize (s.heap.push { cls := .type "list_iterator", data := .fields #[.ref l, .int 0 0] }).objs.size = S at *
  obtain ⟨its, rv, hl, hz⟩ := I1.list hs
  have W := Walks.list (prog := X.prog) (w := X.w) (A := X.A.in1) hh s.heap.objs.size l (Nat.ne_of_lt hll) its.toArray
  have hsz : its.toArray.size = xs.length := by rw [List.size_toArray, rv.length]
  refine codeAny_builtin (id := "min.loop") PySem.F.entry_min_loop ?_
  rw [Around.under_plainId PySem.F.plain_min_loop _]
  show wpAny (model X.prog X.w) X.A.in1 (seqItems? (.ref S) >>= _) _ _ _
  refine wpAny_bind (wpAny_seqItems gS rfl ?_)
  show wpAny (model X.prog X.w) X.A.in1 (tryCatch (pyNext (.ref s.heap.objs.size)) _ >>= _) _ _ _
  cases xs with
  | nil =>
    refine wpAny_bind (wpAny_tryCatch (W.done { s with heap := h0, toks := s.toks } _ _ ⟨by rw [hsz]; exact ⟨_, gI, rfl, rfl⟩, hl.isList⟩ fun h' tk' hk' => ?_))
    refine wpAny_bind (wpAny_rule (wpAny_pure ?_))
    exact ⟨.non, H, inv_turn (s := { s with heap := h0, toks := s.toks }) I1 wI nI fun a o ha q => hk' a o (by simpa using ha) q, rfl, h1 rfl⟩
  | cons x xs =>
    refine wpAny_bind (wpAny_tryCatch (W.item 0 { s with heap := h0, toks := s.toks } _ _ (by rw [hsz]; exact Nat.succ_pos _) ⟨⟨_, gI, rfl, rfl⟩, hl.isList⟩ fun u h' tk' hP hst' hk' => ?_))
    have hu : its[0]? = some u := by simpa using hP
    have hx : (x :: xs)[0]? = some x := rfl
    obtain ⟨u', hu', rx⟩ := Vals.get rv hx
    rw [hu] at hu'
    cases hu'
    obtain ⟨oI', hoI', hoc, hod⟩ := id hst'.1
    have hS' := hk' S _ (by simpa using hSI) gS
    have I2 : Inv X (pf ++ ((S, seqObj "list" #[] 0) :: (s.heap.objs.size, oI') :: pins)) σ H { s with heap := h', toks := tk' } :=
      inv_pin (inv_pin (inv_turn (s := { s with heap := h0, toks := s.toks }) I1 wI nI fun a o ha q => hk' a o (by simpa using ha) q) wI nI hoI' (fun v z => by rw [hod] at z; cases z)) (wS.cons hSI.symm) nS hS' (fun _ z => by cases z)
    show wpAny (model X.prog X.w) X.A.in1 (tryCatch (holding [u] (call (.ref f) [u])) _ >>= _) _ _ _
    refine wpAny_bind (wpAny_tryCatch (wpAny_holding (wpAny_mono (T _ _ H x u I2 Kp.refl (.head _) rx) (fun z s2 he => ?_) fun _ _ hF => hF.elim)))
    obtain ⟨H2, t2, I3, k2, rfl⟩ := he
    have nS2 := inv_head I3
    have nI2 := inv_head (inv_unpin I3)
    obtain ⟨c2, hc2⟩ : ∃ c2, (s2.heap.update S (Obj.mapSeq fun _ => #[u, .int (key x) t2])).get? S = some (seqObj "list" #[u, .int (key x) t2] c2) := ⟨_, get?_update_seq nS2.1 fun _ => #[u, .int (key x) t2]⟩
    have I4 : Inv X (pf ++ ((s.heap.objs.size, oI') :: pins)) σ H2 { s2 with heap := s2.heap.update S (Obj.mapSeq fun _ => #[u, .int (key x) t2]), toks := s2.toks } :=
      inv_turn (inv_unpin I3) (wS.cons hSI.symm) nS2.2 fun a o ha q => ((Heap.SameBut.update s2.heap S _).2 a ha).trans q
    show wpAny (model X.prog X.w) X.A.in1 (updateSeq S (fun _ => #[u, .int (key x) t2]) >>= _) _ _ _
    refine wpAny_bind (wpAny_updateSeq nS2.1 rfl ?_)
    rw [hname]
    refine wpAny_pure ⟨plainId_quiet PySem.F.plain_min_loop _, min_loop (xs := x :: xs) hh T hs (Nat.ne_of_lt hll) hSI wS wI (fun H3 s3 i b vb I5 k3 hb rb => ⟨b, H3, I5, rb, h2 H3 i b k3 hb⟩) _ 0 0 _ H2 x u t2 c2 oI' rfl (Nat.succ_pos _) (inv_pin I4 (wS.cons hSI.symm) nS2.2 hc2 (fun _ z => by cases z)) k2
      ⟨oI', ((Heap.SameBut.update s2.heap S _).2 _ hSI.symm).trans nI2.1, hoc, hod⟩ hx rx (Nat.le_refl _) fun j' z hj' hz' => ?_⟩
    have e : j' = 0 := by omega
    rw [e] at hz'
    cases hz'
    exact ⟨Int.le_refl _, fun q => by omega⟩
/-- min(e, key=lambda p: body, default=None) -/
def tMinKey (K : PySem.W.Frag) (T : List (Addr × Str)) (N0 N : List Str) (p : Str) (t : TA) (tb : TE) : TE := fun σ H Q => t σ H fun vs H1 => ∃ (l : Addr) (xs : List V) (key : V → Int) (τ : V → L2.St), vs = [.ref l] ∧ SqL K H1 l xs ∧ LamX.Tabs T H1 ∧
  (∀ v, v ∈ xs → CapsN N0 σ N (τ v) p v) ∧ ∀ H2, LamX.ExtN H1 H2 → LamX.Tabs T H2 → (∀ (H3 : Hp) (v : V), v ∈ xs → Kp [] H2 H3 → tb (τ v) H3 fun x H4 => x = .int (key v) ∧ Kp [] H3 H4) ∧
    (xs = [] → Q .non H2) ∧ ∀ (H3 : Hp) (i : Nat) (b : V), Kp [] H2 H3 → Least xs key i b → Q b H3
theorem pe_minKey {T : List (Addr × Str)} {N : List Str} {k : Nat} {c P : Addr} {scope : Scope} {p : Str} {params : Arguments} {e body : Expr} {t : TA} {tb : TE} {p1 kpos lpos dpos npos pos : Pos} {jn : Nat} (hg : Gl X "min") (hm : X.mg "min" = none) (ha : PA X [e] t)
    (TB : LamX.TabB X.base X.mg c P) (hcode : X.env.code = .ref c) (hmT : (P, X.env.qual ++ "<lambda>") ∈ T) (huT : ∀ p ∈ T, p.1 = P → p.2 = X.env.qual ++ "<lambda>") (hr : Room (k + 3) X.A) (L : Lam1 X.env.scope scope p) (hdef : defaultsOf params X.env = ([], []))
    (hbind : ∀ (q : Str) (cl : List (Str × Addr)) (pm cv ctv u : Value), bindArgs (PySem.W.kla_fn "<lambda>" q params body scope cl pm cv ctv) ⟨[u], []⟩ = pure [(p, u)])
    (hbody : ∀ (s : Shared) (H : Hp) (f c' : Addr), Room k (X.A.in1.deeper (LamX.lamEnv X scope s.heap.objs.size f c')) → PE (lam1Cx X X.A.in1 s H N scope f c') body tb)
    (he : backTo pos (starEach [e] X.env) = (false, eval e X.env) :: backTo pos (starEach [] X.env) := by rfl) (hpl : (backTo pos (starEach [e] X.env)).any (·.1) = false := by rfl) :
    PE X (.Call (.Name "min" p1) [e] [⟨some "key", .Lambda params body scope lpos, kpos⟩, ⟨some "default", .Constant .none jn npos, dpos⟩] pos) (tMinKey X.K T X.N N p t tb) := by
  refine ⟨fun pins s σ H Q I h => ?_⟩
  refine wpAny_Call_Name_kw (ld_blt I hg hm (show bootBuiltins "min" = some (.builtin "min") by rfl) ?_ (by decide) (by decide))
  refine PyProof.Rows.callWith_kw (thn (ha.run pos pins s σ H _ I h) fun us s1 ⟨vs, H1, I1, r1, q1⟩ => ?_) he hpl rfl rfl
  obtain ⟨l, xs, key, τ, rfl, hs, hT, hC, q⟩ := q1
  obtain rfl := Vals.ref1 r1
  show wpAny _ _ (evalAll [(do let v ← eval (.Lambda params body scope lpos) X.env; standAt pos; pure v), (do let v ← eval (.Constant .none jn npos) X.env; standAt pos; pure v)]) _ _ s1
  refine wpAny_evalAll_cons (wpAny_bind (LamX.lam_make2 I1 TB hcode hmT huT hT hdef (L.has I1.ok) fun f c' pm ctv H2 s2 I2 eN T2 hf hfn hfr hco => wpAny_bind (wpAny_standAt (wpAny_pure ?_))))
  obtain ⟨hb, hq0, hq⟩ := q H2 eN T2
  have I3 := fn_pin I2 hf rfl hfn hfr
  refine wpAny_evalAll_cons (wpAny_bind (thn ((pe_non (X := X)).run _ s2 σ H2 (fun (x : V) (H3 : Hp) => x = V.non ∧ H3 = H2) I3 ⟨rfl, rfl⟩) fun u s3 ⟨v, H3, I4, rv, ev, eH⟩ => wpAny_bind (wpAny_standAt (wpAny_pure (wpAny_evalAll_nil ?_)))))
  rw [ev] at rv
  rw [eH] at I4
  obtain rfl : u = Value.none := rv
  show wpAny _ _ (call (.builtin "min") [.ref l] [(Str.ofString "key", .ref f), (Str.ofString "default", .none)]) _ _ s3
  refine wpAny_mono (min_key hr.hd (lam1_turn L hco I2.ok.frames hr.in1 (fun u => hbind _ _ _ _ _ u) hC fun s H3 v hv k3 hr3 => ⟨tb, hbody s H3 f c' (hr3.mono (Nat.le_succ _)), hb H3 v hv k3⟩) I4 (sq_ext eN hs) hq0 hq) (fun u s' h => ep_less h) fun _ _ h => h
end
end RD
/-! ### the head of a law whose defs make lambdas -/
namespace RD
open PySem PySem.Spec PyProof.Rows L2 He
section
variable {P : Program} {w : World} {K : PySem.W.Frag} {mg : Str → Option Value} {base : Heap} {CX : CXT} {x qual : Str} {params : Arguments} {body : List Stmt} {scope : Scope} {dvs : List V} {kws : List (Str × V)} {fd : FuncData}
/-- a def whose code object is told -/
theorem fnDc {at_ : Str × Option Str} {N ps : List Str} {k : Nat} {sp : Sp} (F : FunD K x qual params body scope dvs kws (fAd K at_) fd) (S : FnScope N ps scope) (len : ∀ vs H Q E, sp vs H Q E → vs.length = ps.length)
    (hbody : ∀ (A : Around) (outer : List Env) (s : Shared) (H : Hp) (vs : List V) (Q : VK) (E : XK), Room k (A.deeper (envOfC qual scope s.heap.objs.size (fAd K at_) (.ref (codeOf K at_)))) → sp vs H Q E →
      ∃ t, PSs (cxOf CX0 P w K mg base N qual scope (fAd K at_) (.ref (codeOf K at_)) A outer s H E).nox body t ∧ t ⟨fun _ H' => Q .non H', Q, fun _ _ => False, fun _ _ => False⟩ (start N vs) H) : FnOk P w K mg base CX0 (k + 1) (fAd K at_) fd ps sp := by
  obtain ⟨oc, od, dV, kV, doc, pm, an, cdv, ct, osl, e0, lk, hcd, _, _⟩ := F.ex
  obtain ⟨c, hc⟩ := codeIn_ref hcd
  have e : cdv = .ref (codeOf K at_) := by
    rw [hc]
    refine congrArg Value.ref (codeOf_eq lk ?_).symm
    rw [e0]
    exact hc
  subst e0
  subst e
  exact fn_of lk hcd S len fun A outer s H vs Q E hr hsp => let ⟨t, h1, h2⟩ := hbody A outer s H vs Q E hr hsp; ⟨t, h1.nox, h2⟩
end
/-- the tables at the law's entry -/
theorem tabs_nil {tf : List He.Defn} {K : PySem.W.Frag} {T : List (Addr × Str)} {H : Hp} (e : T.map (·.1) = tf.map fun p => (He.cT K p).2) (h : ∀ p ∈ tf.map (He.cT K), H p.2 = some (.tbl #[])) : LamX.Tabs T H := fun p hp => by
  have hm : p.1 ∈ tf.map fun p => (He.cT K p).2 := e ▸ List.mem_map_of_mem hp
  obtain ⟨q, hq, e2⟩ := List.mem_map.mp hm
  refine LamX.TabS.nil ?_
  rw [← e2]
  exact h _ (List.mem_map_of_mem hq)
end RD
/-! ### frames where tables of lambdas may grow -/
namespace RD
open PySem PySem.Spec PyProof.Rows L2 He
def NoTbl (o : HO) : Prop := ∀ t, o ≠ .tbl t
def Kt (T : List (Addr × Str)) (ps : List Addr) (H H' : Hp) : Prop := (∀ b o, H b = some o → NoTbl o → b ∉ ps → H' b = some o) ∧ LamX.Tabs T H'
section
variable {T : List (Addr × Str)} {ps : List Addr} {H H' H'' : Hp} {p q b : Addr} {o : HO}
theorem Kt.refl (h : LamX.Tabs T H) : Kt T ps H H := ⟨fun _ _ e _ _ => e, h⟩
theorem Kt.trans (a : Kt T ps H H') (b : Kt T ps H' H'') : Kt T ps H H'' := ⟨fun c o e n m => b.1 c o (a.1 c o e n m) n m, b.2⟩
theorem Kt.g0 (a : Kt T [] H H') (n : NoTbl o) (e : H b = some o) : H' b = some o := a.1 b o e n (by simp)
theorem Kt.g1 (a : Kt T [p] H H') (n : NoTbl o) (m : b ≠ p) (e : H b = some o) : H' b = some o := a.1 b o e n (by simp [m])
theorem Kt.of0 (a : Kt T [] H H') : Kt T ps H H' := ⟨fun c o e n _ => a.1 c o e n (by simp), a.2⟩
/-- q is none of the things that stand (tables left out) -/
def Frn (H : Hp) (q : Addr) : Prop := ∀ b o, H b = some o → NoTbl o → b ≠ q
theorem Kt.frn (a : Kt T [] H H') {l : Addr} (h : H' l = none) : Frn H l := fun b o e n z => by
  rw [z] at e
  rw [a.g0 n e] at h
  cases h
theorem Frn.kt {l : Addr} (h : Frn H' l) (a : Kt T [] H H') : Frn H l := fun b o e n => h b o (a.g0 n e) n
theorem Frn.kp {l : Addr} (h : Frn H' l) (a : Kp [] H H') : Frn H l := fun b o e n => h b o (a.g0 e) n
theorem Frn.of {l : Addr} (h : H l = none) : Frn H l := fun b o e _ => ne_of_none e h
theorem Kt.ext (a : LamX.ExtN H H') (t : LamX.Tabs T H') : Kt T ps H H' := ⟨fun b o e n _ => a b o e n, t⟩
/-- what a table and its code objects are not -/
def Plain : HO → Prop
  | .tbl _ => False
  | .ext _ => False
  | _ => True
theorem Plain.noTbl (h : Plain o) : NoTbl o := by
  intro t z
  rw [z] at h
  exact h
theorem tabs_kp (h : LamX.Tabs T H) (k : Kp ps H H') (n : ∀ p, p ∈ ps → ∃ o, H p = some o ∧ Plain o) : LamX.Tabs T H' := fun p hp => by
  obtain ⟨tb, h1, h2, h3⟩ := h p hp
  have ne : ∀ b o, H b = some o → ¬ Plain o → b ∉ ps := fun b o e m z => by
    obtain ⟨o', e', w⟩ := n b z
    rw [e] at e'
    cases e'
    exact m w
  refine ⟨tb, k _ _ h1 (ne _ _ h1 (fun z => z)), h2, fun pos cv e => ?_⟩
  obtain ⟨c, e1, e2⟩ := h3 pos cv e
  exact ⟨c, e1, k _ _ e2 (ne _ _ e2 (fun z => z))⟩
theorem Kt.kp (h : LamX.Tabs T H) (k : Kp ps H H') (n : ∀ p, p ∈ ps → ∃ o, H p = some o ∧ Plain o) : Kt T ps H H' := ⟨fun c o e _ m => k c o e m, tabs_kp h k n⟩
theorem Kt.kp0 (h : LamX.Tabs T H) (k : Kp [] H H') : Kt T ps H H' := ⟨fun c o e _ _ => k c o e (by simp), tabs_kp h k (fun _ z => by cases z)⟩
theorem Kt.kp1 (h : LamX.Tabs T H) (k : Kp [p] H H') (e : H p = some o) (w : Plain o) : Kt T [p] H H' := Kt.kp h k fun q hq => by
  rw [List.mem_singleton.mp hq]
  exact ⟨o, e, w⟩
theorem Kt.new (h : LamX.Tabs T H) (e : H p = none) : Kt T ps H (upd H p o) := Kt.kp0 h (Kp.new e)
theorem Kt.wr {u : HO} (a : Kt T ps H H') (h : p ∈ ps) (e : H' p = some u) (w : Plain u) : Kt T ps H (upd H' p o) :=
  ⟨fun c v ev n m => by
    have hc : c ≠ p := fun z => m (z ▸ h)
    rw [upd_ne hc]
    exact a.1 c v ev n m, tabs_kp a.2 (Kp.refl.wr (ps := [p]) (by simp)) fun q hq => by
    rw [List.mem_singleton.mp hq]
    exact ⟨u, e, w⟩⟩
theorem Kt.nw (a : Kt T ps H H') (e : H' p = none) : Kt T ps H (upd H' p o) := a.trans (Kt.new a.2 e)
end
/-! ### a class made with keywords -/
theorem vals_at {xs : List V} {us : List Value} (i : Nat) (h : Vals xs us) : Vals (xs[i]?).toList (us[i]?).toList := by
  cases e : xs[i]? with
  | none => rw [h.none_of e]; exact .nil
  | some x =>
    obtain ⟨u, e2, r⟩ := h.get e
    rw [e2]
    exact .cons r .nil
structure MakKX (P : Program) (w : World) (K : PySem.W.Frag) (mg : Str → Option Value) (base : Heap) (CX : CXT) (k : Nat) (x : Str) (C : Addr) (sp : Sp) (n : Nat) (ks : List Str) (gV : List V → List V → List V) : Prop where
  ex : ∃ (f : Addr) (fd : FuncData) (ps : List Str) (g : List Value → List Value → List Value), Mk K C f ∧ FnOk P w K mg base CX k f fd ps sp ∧ mg x = some (.ref C) ∧ KBn K fd ps (n + 1) ks g gV
theorem pe_makKX {X : Cx} {CX : CXT} {k j n : Nat} {C : Addr} {x : Str} {sp : Sp} {E : XK} {ks : List Str} {gV : List V → List V → List V} {p pos : Pos} {e : Expr} {es : List Expr} {kws : List Keyword} {t tk : TA} (c : MakKX X.prog X.w X.K X.mg X.base CX k x C sp n ks gV) (hr : Room j X.A) (hk : k + 1 ≤ j) (hg : Gl X x) (hx : Passes CX X E) (ha : PA X (e :: es) t) (hkw : PK X kws tk)
    (hall : (backToKw pos (keywordEach kws X.env)).all (·.1.isSome) = true := by rfl) (hks : (backToKw pos (keywordEach kws X.env)).filterMap (·.1) = ks := by rfl) (hdb : (x == ("__debug__" : Str)) = false := by decide)
    (he : starEach (e :: es) X.env = (false, eval e X.env) :: starEach es X.env := by rfl) (hpl : ((backTo pos (starEach (e :: es) X.env)).any (·.1) || (backToKw pos (keywordEach kws X.env)).any (·.1.isNone)) = false := by rfl) :
    PE X (.Call (.Name x p) (e :: es) kws pos) (tMakeK C n ks.length sp gV E t tk) := by
  obtain ⟨f, fd, ps, g, M, F, hm, hb⟩ := c.ex
  exact pe_makeK M F (hr.mono hk) hg hm hb hx ha hkw hall hks hdb he hpl
theorem rd_makeK {σ : L2.St} {H : Hp} {Q : VK} {C : Addr} {n m : Nat} {sp : Sp} {gV : List V → List V → List V} {E : XK} {t tk : TA} (h : t σ H fun vs H1 => tk σ H1 fun zs H2 => vs.length = n ∧ zs.length = m ∧ ∀ x dx, H2 x = none → H2 dx = none → dx ≠ x →
    sp (gV (.ref x :: vs) zs) (upd (upd H2 dx (.own x)) x (.ins C dx [])) (fun v H3 => v = .non ∧ Q (.ref x) H3) E) : tMakeK C n m sp gV E t tk σ H Q := h
/-! ### more readings -/
section
variable {K : PySem.W.Frag} {σ : L2.St} {H : Hp} {Q : VK} {ta : TE}
theorem rd_prop {C : Addr} {sp : Sp} {E : XK} (h : ta σ H fun x H1 => ∃ a dx fs, x = V.ref a ∧ H1 a = some (.ins C dx fs) ∧ sp [.ref a] H1 Q E) : tProp C sp [] E ta σ H Q := h
theorem rd_propX {C a dx : Addr} {fs : List (Str × V)} {R : Addr → Prop} (h : H a = some (.ins C dx fs)) (q : R a) : ∃ a' dx' fs', V.ref a = V.ref a' ∧ H a' = some (.ins C dx' fs') ∧ R a' := ⟨a, dx, fs, rfl, h, q⟩
theorem rd_revL {te : TE} (h : te σ H fun x H1 => ∃ a xs, x = V.ref a ∧ SqL K H1 a xs ∧ ∀ p, H1 p = none → Q (.ref p) (upd H1 p (.lst xs.reverse))) : tRevL K te σ H Q := h
theorem rd_revLX {a : Addr} {xs : List V} {R : List V → Prop} (h : SqL K H a xs) (q : R xs) : ∃ a' ys, V.ref a = V.ref a' ∧ SqL K H a' ys ∧ R ys := ⟨a, xs, rfl, h, q⟩
end
end RD
namespace RD
open PySem PySem.Spec PyProof.Rows L2 He
/-! ### comprehensions that only look -/
theorem filter_take {α : Type} {p : α → Bool} {ns : List α} {i : Nat} (h : i < ns.length) : (ns.take (i + 1)).filter p = (ns.take i).filter p ++ (if p ns[i] = true then [ns[i]] else []) := by
  rw [List.take_succ_eq_append_getElem h, List.filter_append]
  congr 1
  cases e : p ns[i] <;> simp [e]
section
variable {K : PySem.W.Frag} {σ : L2.St} {H : Hp} {te : TE} {tt : TT}
theorem lcF_ints {a D : Addr} {g : TG} {vs : List Nat} {Qd : Hp → Prop} (ns : List Int) (p : Int → Bool) (f : Int → V) (hS : SqL K H a (ns.map V.int)) (hD : H D = none) (hl : ns.length < 1000000)
    (hs : ∀ (i : Nat) (h : i < ns.length) H1 (E : VK) (N : Hp → Prop), Kp [] H H1 → (∀ H4, Kp [] H1 H4 → p ns[i] = true → E (f ns[i]) H4) → (∀ H3, Kp [] H1 H3 → p ns[i] = false → N H3) → g (.int ns[i]) (wipe σ vs) H1 fun σ2 H2 => wipe σ2 vs = wipe σ vs ∧ tt σ2 H2 fun b H3 => if b = true then te σ2 H3 E else N H3)
    (hd : ∀ H', Kp [] H H' → H' D = some (.lst ((ns.filter p).map f)) → Qd H') : LcG (Itl K a) g tt te vs σ D Qd H := by
  refine lcL_ints ns (fun i H' => H' D = some (.lst (((ns.take i).filter p).map f)) ∧ Kp [] H H') ⟨upd_same, Kp.new hD⟩ (fun i H' _ q => sl_kp q.2 (by simp) hS) (fun i hi H' q => ?_) (fun H' q => ?_)
  · refine hs i hi H' _ _ q.2 (fun H4 k4 hp => ?_) (fun H3 k3 hp => ?_)
    · have fl : (((ns.take i).filter p).map f).length < sizeLine := szlt (by
        rw [List.length_map]
        have h1 := List.length_filter_le p (ns.take i)
        rw [List.length_take] at h1
        omega)
      refine ⟨_, k4.g0 q.1, fl, ?_, Kp.mine (q.2.trans k4) hD⟩
      rw [upd_same, filter_take hi, if_pos hp, List.map_append]
      rfl
    · refine ⟨?_, q.2.trans k3⟩
      rw [filter_take hi, if_neg (by rw [hp]; exact Bool.false_ne_true), List.append_nil]
      exact k3.g0 q.1
  · rw [List.take_length] at q
    exact hd H' q.2 q.1
theorem lcF_range {lo : Int} {n : Nat} {D : Addr} {g : TG} {vs : List Nat} {Qd : Hp → Prop} (p : Nat → Bool) (f : Nat → V) (hD : H D = none) (hl : n < 1000000)
    (hs : ∀ (i : Nat) (h : i < n) H1 (E : VK) (N : Hp → Prop), Kp [] H H1 → (∀ H4, Kp [] H1 H4 → p i = true → E (f i) H4) → (∀ H3, Kp [] H1 H3 → p i = false → N H3) → g (.int (lo + i)) (wipe σ vs) H1 fun σ2 H2 => wipe σ2 vs = wipe σ vs ∧ tt σ2 H2 fun b H3 => if b = true then te σ2 H3 E else N H3)
    (hd : ∀ H', Kp [] H H' → H' D = some (.lst (((List.range n).filter p).map f)) → Qd H') : LcG (Itr lo n) g tt te vs σ D Qd H := by
  refine lcR_by (fun i H' => H' D = some (.lst (((List.range i).filter p).map f)) ∧ Kp [] H H') ⟨upd_same, Kp.new hD⟩ (fun i H' hi q => ?_) (fun H' q => hd H' q.2 q.1)
  have er : (List.range (i + 1)).filter p = (List.range i).filter p ++ (if p i = true then [i] else []) := by
    rw [List.range_succ, List.filter_append]
    congr 1
    cases e : p i <;> simp [e]
  refine hs i hi H' _ _ q.2 (fun H4 k4 hp => ?_) (fun H3 k3 hp => ?_)
  · have fl : (((List.range i).filter p).map f).length < sizeLine := szlt (by
      rw [List.length_map]
      have h1 := List.length_filter_le p (List.range i)
      rw [List.length_range] at h1
      omega)
    refine ⟨_, k4.g0 q.1, fl, ?_, Kp.mine (q.2.trans k4) hD⟩
    rw [upd_same, er, if_pos hp, List.map_append]
    rfl
  · refine ⟨?_, q.2.trans k3⟩
    rw [er, if_neg (by rw [hp]; exact Bool.false_ne_true), List.append_nil]
    exact k3.g0 q.1
end
def keyV (f : Int → Int) : V → Int
  | .int i => f i
  | _ => 0
theorem sort_keyV (f : Int → Int) (ns : List Int) : ((ns.map V.int).mergeSort fun a b => decide (keyV f a ≤ keyV f b)) = (ns.mergeSort fun a b => decide (f a ≤ f b)).map V.int :=
  (List.map_mergeSort (f := V.int) (r := fun a b => decide (f a ≤ f b)) (s := fun a b => decide (keyV f a ≤ keyV f b)) fun _ _ _ _ => rfl).symm
end RD
namespace RD
open PySem PySem.Spec PyProof.Rows L2 He
section
variable {K : PySem.W.Frag} {σ : L2.St} {H : Hp} {T : List (Addr × Str)} {N0 N : List Str} {p : Str} {t : TA} {tb : TE} {Q : VK}
theorem rd_sortKey (h : t σ H fun vs H1 => ∃ (l : Addr) (xs : List V) (key : V → Int) (τ : V → L2.St), vs = [.ref l] ∧ SqL K H1 l xs ∧ LamX.Tabs T H1 ∧
  (∀ v, v ∈ xs → CapsN N0 σ N (τ v) p v) ∧ ∀ H2, LamX.ExtN H1 H2 → LamX.Tabs T H2 → (∀ (H3 : Hp) (v : V), v ∈ xs → Kp [] H2 H3 → tb (τ v) H3 fun x H4 => x = .int (key v) ∧ Kp [] H3 H4) ∧
    ∀ (H3 : Hp) (q : Addr), Kp [] H2 H3 → H3 q = none → Q (.ref q) (upd H3 q (.lst (xs.mergeSort fun a b => decide (key a ≤ key b))))) : tSortKey K T N0 N p t tb σ H Q := h
theorem rd_minKey (h : t σ H fun vs H1 => ∃ (l : Addr) (xs : List V) (key : V → Int) (τ : V → L2.St), vs = [.ref l] ∧ SqL K H1 l xs ∧ LamX.Tabs T H1 ∧
  (∀ v, v ∈ xs → CapsN N0 σ N (τ v) p v) ∧ ∀ H2, LamX.ExtN H1 H2 → LamX.Tabs T H2 → (∀ (H3 : Hp) (v : V), v ∈ xs → Kp [] H2 H3 → tb (τ v) H3 fun x H4 => x = .int (key v) ∧ Kp [] H3 H4) ∧
    (xs = [] → Q .non H2) ∧ ∀ (H3 : Hp) (i : Nat) (b : V), Kp [] H2 H3 → Least xs key i b → Q b H3) : tMinKey K T N0 N p t tb σ H Q := h
/-- of a list of ints, at the key f -/
theorem rd_sortI {D : Addr} (f : Int → Int) (ns : List Int) (τ : Int → L2.St) (hS : SqL K H D (ns.map V.int)) (hT : LamX.Tabs T H) (hC : ∀ n, CapsN N0 σ N (τ n) p (.int n))
    (hb : ∀ (H3 : Hp) (n : Int) (Q' : VK), n ∈ ns → Kt T [] H H3 → Q' (.int (f n)) H3 → tb (τ n) H3 Q')
    (hq : ∀ (H3 : Hp) (q : Addr), Kt T [] H H3 → H3 q = none → Q (.ref q) (upd H3 q (.lst ((ns.mergeSort fun a b => decide (f a ≤ f b)).map V.int)))) :
    ∃ (l : Addr) (xs : List V) (key : V → Int) (τ : V → L2.St), [V.ref D] = [.ref l] ∧ SqL K H l xs ∧ LamX.Tabs T H ∧
      (∀ v, v ∈ xs → CapsN N0 σ N (τ v) p v) ∧ ∀ H2, LamX.ExtN H H2 → LamX.Tabs T H2 → (∀ (H3 : Hp) (v : V), v ∈ xs → Kp [] H2 H3 → tb (τ v) H3 fun x H4 => x = .int (key v) ∧ Kp [] H3 H4) ∧
        ∀ (H3 : Hp) (q : Addr), Kp [] H2 H3 → H3 q = none → Q (.ref q) (upd H3 q (.lst (xs.mergeSort fun a b => decide (key a ≤ key b)))) := by
  refine ⟨D, _, keyV f, fun v => match v with | .int n => τ n | _ => [], rfl, hS, hT, fun v hv => ?_, fun H2 e2 t2 => ⟨fun H3 v hv k3 => ?_, fun H3 q k3 nq => ?_⟩⟩
  · obtain ⟨n, _, rfl⟩ := List.mem_map.mp hv
    exact hC n
  · obtain ⟨n, hn, rfl⟩ := List.mem_map.mp hv
    exact hb H3 n _ hn ((Kt.ext e2 t2).trans (Kt.kp0 t2 k3)) ⟨rfl, Kp.refl⟩
  · rw [sort_keyV]
    exact hq H3 q ((Kt.ext e2 t2).trans (Kt.kp0 t2 k3)) nq
theorem rd_minI {D : Addr} (f : Int → Int) (ns : List Int) (τ : Int → L2.St) (hS : SqL K H D (ns.map V.int)) (hT : LamX.Tabs T H) (hC : ∀ n, CapsN N0 σ N (τ n) p (.int n))
    (hb : ∀ (H3 : Hp) (n : Int) (Q' : VK), n ∈ ns → Kt T [] H H3 → Q' (.int (f n)) H3 → tb (τ n) H3 Q')
    (h0 : ∀ (H3 : Hp), ns = [] → Kt T [] H H3 → Q .non H3)
    (h1 : ∀ (H3 : Hp) (i : Nat) (b : Int), Kt T [] H H3 → ns[i]? = some b → (∀ (j : Nat) (z : Int), ns[j]? = some z → f b ≤ f z ∧ (j < i → f b < f z)) → Q (.int b) H3) :
    ∃ (l : Addr) (xs : List V) (key : V → Int) (τ : V → L2.St), [V.ref D] = [.ref l] ∧ SqL K H l xs ∧ LamX.Tabs T H ∧
      (∀ v, v ∈ xs → CapsN N0 σ N (τ v) p v) ∧ ∀ H2, LamX.ExtN H H2 → LamX.Tabs T H2 → (∀ (H3 : Hp) (v : V), v ∈ xs → Kp [] H2 H3 → tb (τ v) H3 fun x H4 => x = .int (key v) ∧ Kp [] H3 H4) ∧
        (xs = [] → Q .non H2) ∧ ∀ (H3 : Hp) (i : Nat) (b : V), Kp [] H2 H3 → Least xs key i b → Q b H3 := by
  refine ⟨D, _, keyV f, fun v => match v with | .int n => τ n | _ => [], rfl, hS, hT, fun v hv => ?_, fun H2 e2 t2 => ⟨fun H3 v hv k3 => ?_, fun e => ?_, fun H3 i b k3 hl => ?_⟩⟩
  · obtain ⟨n, _, rfl⟩ := List.mem_map.mp hv
    exact hC n
  · obtain ⟨n, hn, rfl⟩ := List.mem_map.mp hv
    exact hb H3 n _ hn ((Kt.ext e2 t2).trans (Kt.kp0 t2 k3)) ⟨rfl, Kp.refl⟩
  · exact h0 H2 (List.map_eq_nil_iff.mp e) (Kt.ext e2 t2)
  · obtain ⟨e1, e3⟩ := hl
    rw [List.getElem?_map] at e1
    obtain ⟨n, hn, rfl⟩ := Option.map_eq_some_iff.mp e1
    refine h1 H3 i n ((Kt.ext e2 t2).trans (Kt.kp0 t2 k3)) hn fun j z hz => ?_
    exact e3 j (.int z) (by rw [List.getElem?_map, hz]; rfl)
end
end RD
namespace RD
open PySem PySem.Spec PyProof.Rows L2 He
/-! ### wide divisors, fields that are added to, least of a list -/
theorem wide60 {i j : Int} (h0 : 0 < j) (h1 : j < 1152921504606846976) : CDivW i j := wide_div (b := 60) h0 (by omega) (by decide) (by decide)
theorem ixN_at {n : Nat} {i : Int} (h0 : 0 ≤ i) (h1 : i < n) : ixN n i = some i.toNat := by
  unfold ixN
  rw [if_pos h0, if_pos h1]
section
variable {K : PySem.W.Frag} {σ : L2.St} {H : Hp} {nx bk ct : L2.St → Hp → Prop} {rt : VK} {ta tv : TE} {Q : VK} {v : V} {i j : Int}
theorem rd_sfldaug {rd : V → V → Hp → VK → Prop} {f : Str} (h : ta σ H fun x H1 => ∃ a C dx fs v, x = .ref a ∧ H1 a = some (.ins C dx fs) ∧ Cls K C ∧ NoAttr K C f ∧ fs.lookup f = some v ∧
  tv σ H1 fun y H2 => rd v y H2 fun z H3 => ∃ dx' fs', H3 a = some (.ins C dx' fs') ∧ fs'.length < 1000 ∧ nx σ (upd H3 a (.ins C dx' (putF f z fs')))) : sFldAug K ta tv rd f ⟨nx, rt, bk, ct⟩ σ H := h
theorem rd_sfldaugX {f : Str} {a C dx : Addr} {fs : List (Str × V)} {R : Addr → Addr → V → Prop} (h : H a = some (.ins C dx fs)) (c : Cls K C) (n : NoAttr K C f) (l : fs.lookup f = some v) (q : R a C v) :
    ∃ a' C' dx' fs' v', V.ref a = V.ref a' ∧ H a' = some (.ins C' dx' fs') ∧ Cls K C' ∧ NoAttr K C' f ∧ fs'.lookup f = some v' ∧ R a' C' v' := ⟨a, C, dx, fs, v, rfl, h, c, n, l, q⟩
theorem rd_insX {a C dx : Addr} {fs : List (Str × V)} {R : Addr → List (Str × V) → Prop} (h : H a = some (.ins C dx fs)) (l : fs.length < 1000) (q : R dx fs) : ∃ dx' fs', H a = some (.ins C dx' fs') ∧ fs'.length < 1000 ∧ R dx' fs' := ⟨dx, fs, h, l, q⟩
theorem rd_addI (h : Q (.int (i + j)) H) : rAdd (.int i) (.int j) H Q := ⟨i, j, rfl, rfl, h⟩
theorem rd_subI (h : Q (.int (i - j)) H) : rSub (.int i) (.int j) H Q := ⟨i, j, rfl, rfl, h⟩
theorem rd_minL {a : Addr} {ns : List Int} (h : SqL K H a (ns.map V.int)) (l : 0 < ns.length) (q : ∀ m, m ∈ ns → (∀ y, y ∈ ns → m ≤ y) → Q (.int m) H) : rMin K [.ref a] H Q := ⟨a, ns, rfl, h, l, q⟩
end
/-- an optional int -/
abbrev ov : Option Int → V
  | none => .non
  | some i => .int i
theorem ov_non {o : Option Int} : decide (ov o = V.non) = o.isNone := by
  cases o with
  | none => rfl
  | some i => exact decide_eq_false (by intro z; cases z)
/-- the first on the way from a place on -/
def FirstOf (r place : Int) (xs : List Int) : Option Int → Prop
  | none => xs = []
  | some b => b ∈ xs ∧ ∀ z, z ∈ xs → (b - place) % r ≤ (z - place) % r
end RD
namespace RD
open PySem PySem.Spec PyProof.Rows L2 He
/-! ### look-ups whose value comes out plain -/
def lookV {κ : Type} [DecidableEq κ] : List (κ × V) → κ → Option V
  | [], _ => none
  | (a, v) :: r, k => if a = k then some v else lookV r k
theorem lookV_eq {κ : Type} [DecidableEq κ] (k : κ) : ∀ kvs : List (κ × V), valV kvs k = lookV kvs k
  | [] => rfl
  | (a, v) :: r => by
    unfold lookV
    by_cases h : a = k
    · rw [if_pos h]
      exact valV_pos h
    · rw [if_neg h, valV_neg h]
      exact lookV_eq k r
theorem dg_sl {H : Hp} {a : Addr} {v : V} {kvs : List (Key × V)} {s : Str} (e : H a = some (.dK kvs)) (l : lookV kvs (.inr s) = some v) : DGet H a (.str s) (some v) := dg_sv e ((lookV_eq _ _).trans l)
theorem Kt.mine {T : List (Addr × Str)} {ps : List Addr} {H H' : Hp} {p : Addr} {o u : HO} (a : Kt T ps H H') (f : Frn H p) (e : H' p = some u) (w : Plain u) : Kt T ps H (upd H' p o) :=
  ⟨fun c v ev n m => by
    rw [upd_ne (f c v ev n)]
    exact a.1 c v ev n m, tabs_kp a.2 (Kp.refl.wr (ps := [p]) (by simp)) fun q hq => by
    rw [List.mem_singleton.mp hq]
    exact ⟨u, e, w⟩⟩
theorem Kt.mono {T : List (Addr × Str)} {ps qs : List Addr} {H H' : Hp} (a : Kt T ps H H') (h : ∀ p, p ∈ ps → p ∈ qs) : Kt T qs H H' := ⟨fun c o e n m => a.1 c o e n fun z => m (h c z), a.2⟩
theorem Kt.kpP {T : List (Addr × Str)} {ps qs : List Addr} {H H' H2 : Hp} (a : Kt T ps H H') (k : Kp qs H' H2) (n : ∀ p, p ∈ qs → p ∈ ps ∧ ∃ o, H' p = some o ∧ Plain o) : Kt T ps H H2 := a.trans ((Kt.kp a.2 k fun p hp => (n p hp).2).mono fun p hp => (n p hp).1)
end RD
namespace RD
open PySem PySem.Spec PyProof.Rows L2 He
theorem rd_sumL {K : PySem.W.Frag} {H : Hp} {Q : VK} {a : Addr} {ns : List Int} (h : SqL K H a (ns.map V.int)) (q : Q (.int ns.sum) H) : rSum K [.ref a] H Q := ⟨a, ns, rfl, h, q⟩
end RD
namespace RD
open PySem PySem.Spec PyProof.Rows L2 He
/-! ### defs called with keywords, dicts of ints, dict comprehensions -/
structure CalKX (P : Program) (w : World) (K : PySem.W.Frag) (mg : Str → Option Value) (base : Heap) (CX : CXT) (k : Nat) (x : Str) (sp : Sp) (n : Nat) (ks : List Str) (gV : List V → List V → List V) : Prop where
  ex : ∃ (f : Addr) (fd : FuncData) (ps : List Str) (g : List Value → List Value → List Value), FnOk P w K mg base CX k f fd ps sp ∧ mg x = some (.ref f) ∧ PySem.W.keepIn K (.ref f) = true ∧ KBn K fd ps n ks g gV
theorem pe_calKX {X : Cx} {CX : CXT} {k j n : Nat} {x : Str} {sp : Sp} {E : XK} {ks : List Str} {gV : List V → List V → List V} {p pos : Pos} {e : Expr} {es : List Expr} {kws : List Keyword} {t tk : TA} (c : CalKX X.prog X.w X.K X.mg X.base CX k x sp n ks gV) (hr : Room j X.A) (hk : k ≤ j) (hg : Gl X x) (hx : Passes CX X E) (ha : PA X (e :: es) t) (hkw : PK X kws tk)
    (hall : (backToKw pos (keywordEach kws X.env)).all (·.1.isSome) = true := by rfl) (hks : (backToKw pos (keywordEach kws X.env)).filterMap (·.1) = ks := by rfl) (hdb : (x == ("__debug__" : Str)) = false := by decide)
    (he : starEach (e :: es) X.env = (false, eval e X.env) :: starEach es X.env := by rfl) (hpl : ((backTo pos (starEach (e :: es) X.env)).any (·.1) || (backToKw pos (keywordEach kws X.env)).any (·.1.isNone)) = false := by rfl) :
    PE X (.Call (.Name x p) (e :: es) kws pos) (tCallN n ks.length sp gV E t tk) := by
  obtain ⟨f, fd, ps, g, F, hm, kp, hb⟩ := c.ex
  exact pe_callN F (hr.mono hk) hg hm kp hb hx ha hkw hall hks hdb he hpl
/-- a dict with int keys, by the keys and a function -/
def dmap (xs : List Int) (f : Int → V) : List (Key × V) := xs.map fun x => (Sum.inl x, f x)
def fset {α : Type} (f : Int → α) (a : Int) (v : α) : Int → α := fun x => if x = a then v else f x
theorem dmap_val {f : Int → V} (a : Int) : ∀ xs : List Int, valV (dmap xs f) (.inl a) = if a ∈ xs then some (f a) else none
  | [] => rfl
  | x :: r => by
    have ih := dmap_val (f := f) a r
    unfold dmap at ih ⊢
    rw [List.map_cons]
    by_cases h : x = a
    · subst h
      rw [valV_pos rfl, if_pos (.head _)]
    · rw [valV_neg (fun e => h (Sum.inl.inj e)), ih]
      by_cases h2 : a ∈ r
      · rw [if_pos h2, if_pos (List.mem_cons_of_mem _ h2)]
      · rw [if_neg h2, if_neg (by simp [h2, Ne.symm h])]
theorem dmap_in {f : Int → V} {a : Int} {xs : List Int} (h : a ∈ xs) : valV (dmap xs f) (.inl a) = some (f a) := by rw [dmap_val, if_pos h]
theorem dmap_out {f : Int → V} {a : Int} {xs : List Int} (h : a ∉ xs) : valV (dmap xs f) (.inl a) = none := by rw [dmap_val, if_neg h]
theorem dmap_congr {f g : Int → V} {xs : List Int} (h : ∀ x, x ∈ xs → f x = g x) : dmap xs f = dmap xs g := List.map_congr_left fun x hx => by rw [h x hx]
theorem dmap_new {f : Int → V} {a : Int} {v : V} {xs : List Int} (h : a ∉ xs) : putK (dmap xs f) (.inl a) v = dmap (xs ++ [a]) (fset f a v) := by
  rw [putK_new _ (dmap_out h)]
  unfold dmap
  rw [List.map_append]
  congr 1
  · refine List.map_congr_left fun x hx => ?_
    unfold fset
    rw [if_neg (show ¬ x = a from fun e => h (e ▸ hx))]
  · unfold fset
    simp
theorem dmap_old {f : Int → V} {a : Int} {v : V} {xs : List Int} (h : a ∈ xs) : putK (dmap xs f) (.inl a) v = dmap xs (fset f a v) := by
  unfold putK dmap
  have e : ((xs.map fun x => ((Sum.inl x : Key), f x)).any fun p => decide (p.1 = Sum.inl a)) = true := by
    rw [List.any_eq_true]
    exact ⟨_, List.mem_map_of_mem h, decide_eq_true rfl⟩
  rw [if_pos (by simpa using e), List.map_map]
  refine List.map_congr_left fun x _ => ?_
  unfold fset
  by_cases hx : x = a
  · subst hx
    simp
  · simp [hx]
theorem dmap_len {f : Int → V} {xs : List Int} : (dmap xs f).length = xs.length := List.length_map _
theorem pickI {d : Int} (ns : List Int) (h0 : 0 ≤ d) (h1 : d < ns.length) : ∃ n, n ∈ ns ∧ atI (ns.map V.int) d = some (.int n) := by
  have h : d.toNat < ns.length := by omega
  refine ⟨ns[d.toNat], List.getElem_mem h, ?_⟩
  rw [atI_ints h0 h1, List.getD_eq_getElem?_getD, List.getElem?_eq_getElem h]
  rfl
end RD
namespace RD
open PySem PySem.Spec PyProof.Rows L2 He
section
variable {K : PySem.W.Frag} {σ : L2.St} {H : Hp} {tt : TT} {tk tv : TE} {Q : VK}
/-- what a dict comprehension over J asks -/
def DcG (J : It) (g : TG) (tt : TT) (tk tv : TE) (vs : List Nat) (σ : L2.St) (D : Addr) (Qd : Hp → Prop) (H1 : Hp) : Prop :=
  ∃ W : Nat → Nat → Hp → Prop, (∃ m, W 0 m (upd H1 D (.dK []))) ∧ ∀ i m H, W i m H →
  (J.stop i H ∧ Qd H) ∨ (J.go i H ∧ ∃ Nx : Hp → Prop, (∀ H', Nx H' → ∃ m', m' < m ∧ W (i + 1) m' H') ∧ ∀ x H', J.yld i H x H' → g x (wipe σ vs) H' fun σ2 H2 => wipe σ2 vs = wipe σ vs ∧ tt σ2 H2 fun b H3 =>
    if b = true then tk σ2 H3 fun y H4 => tv σ2 H4 fun z H5 => ∃ kvs k, y = kV k ∧ H5 D = some (.dK kvs) ∧ kvs.length < sizeLine ∧ Nx (upd H5 D (.dK (putK kvs k z))) else Nx H3)
theorem rd_dc {wi : TI} {g : TG} {vs : List Nat} (h : wi σ H fun J H1 => ∀ D, H1 D = none → DcG J g tt tk tv vs σ D (fun H => Q (.ref D) H) H1) : tDc wi g tt tk tv vs σ H Q := h
theorem dcL_ints {a D : Addr} {g : TG} {vs : List Nat} {Qd : Hp → Prop} (ns : List Int) (Pv : Nat → Hp → Prop) (h0 : Pv 0 (upd H D (.dK []))) (hl : ∀ i H, i ≤ ns.length → Pv i H → SqL K H a (ns.map V.int))
    (hs : ∀ (i : Nat) (h : i < ns.length) H, Pv i H → g (.int ns[i]) (wipe σ vs) H fun σ2 H2 => wipe σ2 vs = wipe σ vs ∧ tt σ2 H2 fun b H3 =>
      if b = true then tk σ2 H3 fun y H4 => tv σ2 H4 fun z H5 => ∃ kvs k, y = kV k ∧ H5 D = some (.dK kvs) ∧ kvs.length < sizeLine ∧ Pv (i + 1) (upd H5 D (.dK (putK kvs k z))) else Pv (i + 1) H3) (hd : ∀ H, Pv ns.length H → Qd H) : DcG (Itl K a) g tt tk tv vs σ D Qd H := by
  refine ⟨fun i m H => m = ns.length - i ∧ i ≤ ns.length ∧ Pv i H, ⟨ns.length, by simp, Nat.zero_le _, h0⟩, ?_⟩
  rintro i m H ⟨rfl, hi, p⟩
  have q := hl i H hi p
  by_cases hlt : i < ns.length
  · have e : (ns.map V.int)[i]? = some (.int ns[i]) := by
      rw [List.getElem?_map, List.getElem?_eq_getElem hlt]
      rfl
    refine .inr ⟨⟨_, _, q, e⟩, Pv (i + 1), fun H' p' => ⟨ns.length - (i + 1), by omega, rfl, hlt, p'⟩, fun x H' y => ?_⟩
    obtain ⟨rfl, hz⟩ := y
    have ex := hz _ q
    rw [e] at ex
    cases ex
    exact hs i hlt _ p
  · have e : i = ns.length := by omega
    subst e
    exact .inl ⟨⟨_, q, by rw [List.length_map]; exact Nat.le_refl _⟩, hd H p⟩
theorem rd_dictD {a : Addr} {kvs : List (Key × V)} (h : H a = some (.dK kvs)) (q : ∀ p, H p = none → Q (.ref p) (upd H p (.dK kvs))) : (∃ (a' : Addr) (kvs' : List (Key × V)), [V.ref a] = [.ref a'] ∧ Rd H a' (.dK kvs') ∧ ∀ p, H p = none → Q (.ref p) (upd H p (.dK kvs'))) := ⟨a, kvs, rfl, .inl h, q⟩
theorem dg_ii {a b : Addr} {kvs : List (List Key × V)} {s z : Int} (e : H a = some (.dT kvs)) (eb : H b = some (.tup [.int s, .int z])) : DGet H a (.ref b) (valV kvs [.inl s, .inl z]) := DGet.t (k := [.inl s, .inl z]) e eb
theorem dp_ii {a b : Addr} {kvs : List (List Key × V)} {s z : Int} {v : V} (e : H a = some (.dT kvs)) (eb : H b = some (.tup [.int s, .int z])) (l : kvs.length < sizeLine) : DPut H a (.ref b) v (upd H a (.dT (putK kvs [.inl s, .inl z] v))) := DPut.t (k := [.inl s, .inl z]) e eb l
end
/-- a table of numbers by two ints -/
structure Tab2 (H : Hp) (d : Addr) (g : Int → Int → Int) (m : Nat) : Prop where
  ex : ∃ kvs : List (List Key × V), H d = some (.dT kvs) ∧ kvs.length ≤ m ∧ ∀ s z, (valV kvs [.inl s, .inl z]).getD (.int 0) = .int (g s z)
theorem Tab2.kp {H H' : Hp} {d : Addr} {f : Int → Int → Int} {m : Nat} {ps : List Addr} (B : Tab2 H d f m) (k : Kp ps H H') (n : d ∉ ps) : Tab2 H' d f m := by
  obtain ⟨kvs, h1, h2, h3⟩ := B.ex
  exact ⟨kvs, k _ _ h1 n, h2, h3⟩
theorem Tab2.mono {H : Hp} {d : Addr} {f : Int → Int → Int} {m m' : Nat} (B : Tab2 H d f m) (h : m ≤ m') : Tab2 H d f m' := by
  obtain ⟨kvs, h1, h2, h3⟩ := B.ex
  exact ⟨kvs, h1, Nat.le_trans h2 h, h3⟩
theorem key2_iff {s a z b : Int} : ([Sum.inl a, Sum.inl b] : List Key) = [Sum.inl s, Sum.inl z] ↔ a = s ∧ b = z := by
  constructor
  · intro e
    injection e with e1 e2
    injection e2 with e3 _
    exact ⟨Sum.inl.inj e1, Sum.inl.inj e3⟩
  · rintro ⟨rfl, rfl⟩
    rfl
theorem tab2_put {kvs : List (List Key × V)} {f : Int → Int → Int} {s z v : Int} (h : ∀ s z, (valV kvs [.inl s, .inl z]).getD (.int 0) = .int (f s z)) :
    ∀ a b, (valV (putK kvs [.inl s, .inl z] (.int v)) [.inl a, .inl b]).getD (.int 0) = .int (if a = s ∧ b = z then v else f a b) := by
  intro a b
  rw [valV_put]
  by_cases e : a = s ∧ b = z
  · rw [if_pos e, if_pos (key2_iff.mpr e)]
    rfl
  · rw [if_neg e, if_neg (fun q => e (key2_iff.mp q))]
    exact h a b
end RD

/-! own layer: getters of properties in the head -/
namespace RD
open PySem PySem.Spec PyProof.Rows L2 He
/-- the property object of the class's name, its getter -/
def prA (K : PySem.W.Frag) (c f : Str) : Addr := ma K (ga K c) f
def prG (K : PySem.W.Frag) (c f : Str) : Addr := match PySem.W.recIn K (prA K c f) "property" with
  | some (.ref g :: _) => g
  | _ => 0
def propB (K : PySem.W.Frag) (c f : Str) : Bool :=
  eqO (PySem.W.findIn K (.ref (ga K c)) f) (some (some (.ref (prA K c f)))) && (eqO (PySem.W.specialIn K (.ref (prA K c f)) "__get__") (some (some (.builtin "property.__get__"))) && (decide (PySem.W.takesIn K (.ref (prA K c f)) = some true) && (match PySem.W.recIn K (prA K c f) "property" with
    | some (.ref g :: _) => decide (g = prG K c f)
    | _ => false)))
theorem propB_ok {K : PySem.W.Frag} {c f : Str} (h : propB K c f = true) : PropOf K (ga K c) f (prA K c f) (prG K c f) := by
  obtain ⟨h1, h2⟩ := ba h
  obtain ⟨h3, h4⟩ := ba h2
  obtain ⟨h5, h6⟩ := ba h4
  refine ⟨eqO_ok h1, eqO_ok h3, of_decide_eq_true h5, ?_⟩
  cases e : PySem.W.recIn K (prA K c f) "property" with
  | none =>
    rw [e] at h6
    cases h6
  | some l =>
    rw [e] at h6
    cases l with
    | nil => cases h6
    | cons v r =>
      cases v with
      | ref g =>
        have h7 : g = prG K c f := of_decide_eq_true h6
        exact ⟨r, by rw [h7]⟩
      | _ => cases h6
/-- a property's getter: its class and name, and the def -/
structure GetD where
  cls : Str
  fld : Str
  name : Str
  qual : Str
  params : Arguments
  body : List Stmt
  scope : Scope
def GetD.seen (K : PySem.W.Frag) (d : GetD) : FnW := match K.lookup (prG K d.cls d.fld) with
  | some ⟨_, _, .func fd, _⟩ => some (fd.name, fd.qualname, fd.params, fd.body, fd.scope, fd.globals, fd.closure, fd.builtins)
  | _ => none
def GetD.val (d : GetD) : FnW := some (d.name, d.qual, d.params, .stmts d.body, d.scope, mainGlobals, [], builtinsNs)
def GetD.ok (K : PySem.W.Frag) (d : GetD) : Bool := propB K d.cls d.fld && (PySem.W.keepIn K (.ref (prG K d.cls d.fld)) && (match K.lookup (prG K d.cls d.fld) with
  | some ⟨_, _, .func fd, _⟩ => PySem.W.codeIn K fd.code d.qual && (dflB K fd.defaults [] && kwdB K fd.kwdefaults [])
  | _ => false))
theorem GetD.funD {K : PySem.W.Frag} {d : GetD} (e : d.seen K = d.val) (c : d.ok K = true) : PropOf K (ga K d.cls) d.fld (prA K d.cls d.fld) (prG K d.cls d.fld) ∧ ∃ fd, FunD K d.name d.qual d.params d.body d.scope [] [] (prG K d.cls d.fld) fd := by
  obtain ⟨c0, c1⟩ := ba c
  obtain ⟨kp, c2⟩ := ba c1
  refine ⟨propB_ok c0, ?_⟩
  unfold GetD.seen at e
  cases q : K.lookup (prG K d.cls d.fld) with
  | none =>
    rw [q] at c2
    cases c2
  | some o =>
    obtain ⟨oc, od, dt, osl⟩ := o
    rw [q] at c2 e
    cases dt with
    | func fd =>
      obtain ⟨n1, n2, n3, n4, n5, n6, n7, n8, n9, n10, n11, n12, n13, n14, n15⟩ := fd
      have e2 : (some (n1, n2, n3, n4, n5, n6, n7, n15) : FnW) = some (d.name, d.qual, d.params, .stmts d.body, d.scope, mainGlobals, [], builtinsNs) := e
      injection e2 with e2
      simp only [Prod.mk.injEq] at e2
      obtain ⟨a1, a2, a3, a4, a5, a6, a7, a8⟩ := e2
      subst a1 a2 a3 a4 a5 a6 a7 a8
      have c3 : (PySem.W.codeIn K n13 d.qual && (dflB K n8 [] && kwdB K n9 [])) = true := c2
      obtain ⟨k1, k2⟩ := ba c3
      obtain ⟨k3, k4⟩ := ba k2
      exact ⟨_, ⟨oc, od, n8, n9, n10, n11, n12, n13, n14, osl, rfl, q, k1, dflB_ok k3, kwdB_ok k4⟩, kp⟩
    | _ => cases c2
/-- the head of a law with properties and tables -/
abbrev AlP : Type := AlX × (Bool × List FnW)
def obsP (n : Nat) (fa : List Fa) (fn : List DefD) (gs : List GetD) (tf : List Defn) (ex : PySem.W.Frag → Bool) (g : Addr → Option Obj) : AlP := (obsX n fa fn [] tf ex g, (gs.all (GetD.ok (frT g (asD g n))), gs.map (GetD.seen (frT g (asD g n)))))
structure SaysP (fa : List Fa) (fn : List DefD) (gs : List GetD) (tf : List Defn) (ex : PySem.W.Frag → Bool) (w : World) (h : Heap) (K : PySem.W.Frag) : Prop where
  x : SaysX fa fn [] tf ex w h K
  ok : gs.all (GetD.ok K) = true
  seen : gs.map (GetD.seen K) = gs.map GetD.val
def hookP (n : Nat) (fa : List Fa) (fn : List DefD) (gs : List GetD) (tf : List Defn) (ex : PySem.W.Frag → Bool) : PySem.W.Hook where
  α := AlP
  obs := fun s => obsP n fa fn gs tf ex s.heap.get?
  val := fun w => (valX fn [] w, (true, gs.map GetD.val))
  says := fun w h => ∃ K : PySem.W.Frag, K.In h ∧ SaysP fa fn gs tf ex w h K
  of := fun _ _ e => ⟨_, frT_in, saysX_of (congrArg (fun z : AlP => z.1) e), congrArg (fun z : AlP => z.2.1) e, congrArg (fun z : AlP => z.2.2) e⟩
  keeps := fun _ _ _ ⟨K, hK, c⟩ k => ⟨K, PySem.W.Frag.In.keeps hK k, ⟨⟨c.x.t, c.x.more, c.x.hd, c.x.out, fun p hp => k _ _ (c.x.empty p hp)⟩, c.ok, c.seen⟩⟩
theorem obsP_eq {n : Nat} {fa : List Fa} {fn : List DefD} {gs : List GetD} {tf : List Defn} {ex : PySem.W.Frag → Bool} {g : Addr → Option Obj} {s : Shared} (h : ∀ a, g a = s.heap.get? a) : obsP n fa fn gs tf ex g = (hookP n fa fn gs tf ex).obs s := by
  have e : g = s.heap.get? := funext h
  rw [e] <;> rfl
theorem SaysP.get {fa : List Fa} {fn : List DefD} {gs : List GetD} {tf : List Defn} {ex : PySem.W.Frag → Bool} {w : World} {h : Heap} {K : PySem.W.Frag} (c : SaysP fa fn gs tf ex w h K) {d : GetD} (hd : d ∈ gs) :
    PropOf K (ga K d.cls) d.fld (prA K d.cls d.fld) (prG K d.cls d.fld) ∧ ∃ fd, FunD K d.name d.qual d.params d.body d.scope [] [] (prG K d.cls d.fld) fd := by
  obtain ⟨i, hi, e⟩ := List.mem_iff_getElem.mp hd
  have e1 := congrArg (fun l : List FnW => l[i]?) c.seen
  have e2 : gs[i]? = some d := by rw [List.getElem?_eq_getElem hi, e]
  simp only [List.getElem?_map, e2, Option.map_some, Option.some.injEq] at e1
  exact GetD.funD e1 (List.all_eq_true.mp c.ok d hd)
/-- a property in one piece -/
structure PrpX (P : Program) (w : World) (K : PySem.W.Frag) (mg : Str → Option Value) (base : Heap) (CX : CXT) (k : Nat) (C : Addr) (f : Str) (sp : Sp) : Prop where
  ex : ∃ (p g : Addr) (fd : FuncData) (ps : List Str), Cls K C ∧ PropOf K C f p g ∧ FnOk P w K mg base CX k g fd ps sp ∧ Binds K fd ps []
theorem pe_prpX {X : Cx} {CX : CXT} {k j : Nat} {C : Addr} {f : Str} {sp : Sp} {E : XK} {e : Expr} {pos : Pos} {ta : TE} (c : PrpX X.prog X.w X.K X.mg X.base CX k C f sp) (hr : Room j X.A) (hk : k + 1 ≤ j) (hx : Passes CX X.nox E) (he : PE X e ta)
    (hab : attributeBase e f X.env (eval e X.env) = eval e X.env := by rfl) : PE X (.Attribute e f pos) (tProp C sp [] E ta) := by
  obtain ⟨p, g, fd, ps, cl, hp, F, b⟩ := c.ex
  exact pe_prop he cl hp F (hr.mono hk) b .nil hx hab
end RD

namespace L2
open PySem PySem.Spec PyProof.Rows GenW

section
variable {M : Model} {A : Around} {R : GenEnd} {Y : Protocol} {n : Nat} {s₀ : Shared} {c : Code} {fs : List Frame} {s : Shared} {env : Env}
  {K : Flow → Sem PySem.Fin} {J : Value → Sem PySem.Fin} {gd : Bool → Bool} {lv : List Value → List Value}
theorem seg_For {tg iter : Expr} {body : List Stmt} {pos : Pos}
    (h : wpAny M (A.over c fs) (eval iter env) (fun x s₁ => wpAny M (A.over c fs) (pyIter x) (fun it s₂ => ∀ p, Seg M A R Y n s₀ (.forLoop tg it body [] env) (M.den (.forLoop tg it body [] env))
      (.ret (fun r => ((match r with | .ok f => (.pure f : Sem Flow) | .error e => .raise e).onRaise (cameBack env)).wrap K J gd lv) none (gd false) (lv []) c p [] :: fs) s₂) (fun x s' => Seg M A R Y n s₀ c (J x) fs s') s₁) (fun x s' => Seg M A R Y n s₀ c (J x) fs s') s)
    (hs : ∀ x, foldedSetIterable iter env x = pure x) :
    Seg M A R Y n s₀ c ((exec (.For tg iter body [] pos) env).wrap K J gd lv) fs s := by
  rw [exec_For]
  refine seg_bind_wrap (wpAny_standAt ?_)
  refine seg_bind_wrap (wpAny_mono h (fun x s₁ h₁ => ?_) fun _ _ h' => h')
  refine seg_bind_wrap (wpAny_of_eq (hs x) ?_)
  refine seg_bind_wrap (wpAny_standAt ?_)
  refine seg_bind_wrap (wpAny_holding (wpAny_mono h₁ (fun it s₂ h₂ => ?_) fun _ _ h' => h'))
  exact seg_call h₂
end
section
variable {prog : Program} {w : World} {A : Around} {R : GenEnd} {Y : Protocol} {n : Nat} {s₀ : Shared} {fs : List Frame} {s : Shared} {env : Env}
theorem seg_forLoop {tg : Expr} {it : Value} {body : List Stmt}
    (h : wpAny (model prog w) (A.over (.forLoop tg it body [] env) fs) (pyNext it) (fun r s₁ => match r with
      | none => Seg (model prog w) A R Y n s₀ (.forLoop tg it body [] env) (.pure (.again (.block [] env))) fs s₁
      | some v => wpAny (model prog w) (A.over (.forLoop tg it body [] env) fs) (letOwnedTupleGo tg it v) (fun _ s₂ => wpAny (model prog w) (A.over (.forLoop tg it body [] env) fs) (assign tg env v) (fun _ s₃ =>
          Seg (model prog w) A R Y n s₀ (.forLoop tg it body [] env) ((execs body env).wrap (fun f => match f with
            | .next | .cont => .pure (.again (.forLoop tg it body [] env))
            | .brk => .pure (.done .next)
            | .ret v => .pure (.done (.ret v))) (fun e => (do noteFrame e env; theTreesLotGoes e : Sem Unit).wrap (fun _ => .raise e) .raise id id) id id) fs s₃)
          (fun x s' => Seg (model prog w) A R Y n s₀ (.forLoop tg it body [] env) ((do noteFrame x env; theTreesLotGoes x : Sem Unit).wrap (fun _ => .raise x) .raise id id) fs s') s₂)
        (fun x s' => Seg (model prog w) A R Y n s₀ (.forLoop tg it body [] env) ((do noteFrame x env; theTreesLotGoes x : Sem Unit).wrap (fun _ => .raise x) .raise id id) fs s') s₁)
      (fun x s' => Seg (model prog w) A R Y n s₀ (.forLoop tg it body [] env) ((do noteFrame x env; theTreesLotGoes x : Sem Unit).wrap (fun _ => .raise x) .raise id id) fs s') s) :
    Seg (model prog w) A R Y n s₀ (.forLoop tg it body [] env) ((model prog w).den (.forLoop tg it body [] env)) fs s := by
  have ex : ∀ e : Value, ((do noteFrame e env; theTreesLotGoes e : Sem Unit) >>= fun _ => (Sem.raise e : Sem PySem.Fin)) = (do noteFrame e env; theTreesLotGoes e : Sem Unit).wrap (fun _ => .raise e) .raise id id := fun e => Sem.bind_eq_wrap _ _
  show Seg _ A R Y n s₀ _ ((forTurn tg it body [] env).onRaise (fun x => do noteFrame x env; theTreesLotGoes x)) fs s
  unfold forTurn
  rw [Sem.onRaise_eq_wrap]
  refine seg_bind_wrap (wpAny_standAt ?_)
  refine seg_bind_wrap (wpAny_onRaise (wpAny_mono h (fun r s₁ h₁ => ?_) fun x s' hx => wpAny_standAt ?_))
  · cases r with
    | none => exact h₁
    | some v =>
      refine seg_bind_wrap (wpAny_mono h₁ (fun _ s₂ h₂ => ?_) fun x s' hx => ?_)
      · refine seg_bind_wrap (wpAny_mono h₂ (fun _ s₃ h₃ => ?_) fun x s' hx => ?_)
        · rw [Sem.bind_eq_wrap', Sem.wrap_wrap]
          refine Eq.mp (congrArg (fun t => Seg _ A R Y n s₀ _ t fs s₃) (Sem.wrap_congr (execs body env) _ _ (fun f => ?_) (fun e => ?_)).symm) h₃
          · cases f <;> rfl
          · exact ex e
        · rw [← ex] at hx
          exact hx
      · rw [← ex] at hx
        exact hx
  · rw [← ex] at hx
    exact hx
end
/-- W: the invariant by the turn, a measure and what is out; N: what the body is to reach -/
def tGFor (wi : TI) (g : TG) (tb : TGn) : TGn := fun D ys σ H => wi σ H fun J H1 => ∃ W : Nat → Nat → List V → St → Hp → Prop, (∃ m, W 0 m ys σ H1) ∧ ∀ i m ys σ H, W i m ys σ H →
  (J.stop i H ∧ D.nx ys σ H) ∨ (J.go i H ∧ ∃ N : List V → St → Hp → Prop, (∀ ys' σ' H', N ys' σ' H' → ∃ m', m' < m ∧ W (i + 1) m' ys' σ' H') ∧ ∀ x H', J.yld i H x H' → g x σ H' fun σ2 H2 => tb { D with nx := N, ct := N, bk := D.nx } ys σ2 H2)
section
variable {X : Cx}
theorem gs_for {tg iter : Expr} {body : List Stmt} {wi : TI} {g : TG} {tb : TGn} {pos : Pos} (hp : PassesOwn (model X.prog X.w) X.A X.env X.xe) (hc : X.calm = true) (hi : PI X tg iter wi) (hg : PG X tg g) (hb : GSs X body tb)
    (hs : ∀ x, foldedSetIterable iter X.env x = pure x := by intro _; rfl) : GS X (.For tg iter body [] pos) (tGFor wi g tb) := by
  refine ⟨fun A S ip R n ys s₀ c fs K J gd lv s σ H D g0 hn k hI ht => ?_⟩
  obtain ⟨acc, cc, r, I⟩ := hI
  refine seg_For ?_ hs
  rw [g0.over]
  refine wpAny_mono (hi.run _ s σ H _ I ht) (fun v s1 h1 => wpAny_mono h1 (fun itv s2 h2 p => ?_) fun x s' hx => k.exc n s₀ x s' hx) fun x s' hx => k.exc n s₀ x s' hx
  obtain ⟨it, fp, tn, Jt, H2, e, I2, T, st2, f2, W, ⟨m0, w0⟩, turn⟩ := h2
  subst e
  have gl := fun (kk : Result → Sem PySem.Fin) => gc_loop (k := kk) (c' := .forLoop tg (.ref it) body [] X.env) (l := lv []) (kp := []) (p := p) g0 rfl rfl
  have fS : S ∉ fp := fun hS => (f2 S hS).2.2.2.2.2 (S, lstObj acc cc) (List.mem_append_right _ List.mem_cons_self) rfl
  have fip : ∀ b ∈ fp, ∀ q ∈ ip, q.1 ≠ b := fun b hb q hq => (f2 b hb).2.2.2.2.2 q (List.mem_append_right _ (List.mem_cons_of_mem _ hq))
  have stat : ∀ {H' : Hp} {acc' : Array Value} {c' : Nat}, (∀ b ∈ fp, H' b = none) → ∀ b ∈ fp, FpOk X ((S, lstObj acc' c') :: ip) H' b := fun hn b hb => by
    obtain ⟨q1, q2, q3, q4, q5, q6⟩ := f2 b hb
    refine ⟨hn b hb, q2, q3, q4, q5, fun q hq => ?_⟩
    rcases List.mem_append.mp hq with hq | hq
    · exact q6 q (List.mem_append_left _ hq)
    · rcases List.mem_cons.mp hq with rfl | hq
      · exact fun z => fS (by rw [show S = b from z]; exact hb)
      · exact q6 q (List.mem_append_right _ (List.mem_cons_of_mem _ hq))
  have loop : ∀ (m i n : Nat) (ys : List V) (s₀ s : Shared) (σ : St) (H : Hp), n + ys.length = sizeLine → W i m ys σ H → tn i s.heap → (∀ b ∈ fp, H b = none) → GI X S ip ys σ H s →
      Seg (model X.prog X.w) A R (GY X S) n s₀ (.forLoop tg (.ref it) body [] X.env) ((model X.prog X.w).den (.forLoop tg (.ref it) body [] X.env))
        (.ret (fun r => ((match r with | .ok f => (.pure f : Sem Flow) | .error e => .raise e).onRaise (cameBack X.env)).wrap K J gd lv) none (gd false) (lv []) c p [] :: fs) s := by
    intro m
    induction m using Nat.strongRecOn with
    | ind m ih =>
      intro i n ys s₀ s σ H hn w htn hfp hI
      have ee : ∀ (n : Nat) (s₀ : Shared) (x : Value) (s' : Shared), X.xe x s' → Seg (model X.prog X.w) A R (GY X S) n s₀ (.forLoop tg (.ref it) body [] X.env)
          ((do noteFrame x X.env; theTreesLotGoes x : Sem Unit).wrap (fun _ => .raise x) .raise id id)
          (.ret (fun r => ((match r with | .ok f => (.pure f : Sem Flow) | .error e => .raise e).onRaise (cameBack X.env)).wrap K J gd lv) none (gd false) (lv []) c p [] :: fs) s' := fun n s₀ x s' hx => by
        refine seg_wrap ?_
        rw [(gl _).over]
        refine wpAny_bind (wpAny_mono (hp x s' hx) (fun _ s'' hcb => wpAny_theTreesLotGoes ?_) fun y s'' hcb => ?_)
        · exact seg_leaf (.error x) (seg_cameBack g0 k hcb)
        · exact seg_leaf (.error y) (seg_cameBack g0 k hcb)
      refine seg_forLoop ?_
      rw [(gl _).over]
      obtain ⟨acc, cc, r, I⟩ := hI
      rcases turn i m ys σ H w with ⟨stop, qn⟩ | ⟨go, N, hN, step⟩
      · refine wpAny_mono (T.done X rfl rfl rfl hc i _ s σ H X.xe I (stat hfp) htn stop) (fun r' s4 h4 => ?_) fun x s' hx => ee n s₀ x s' hx
        obtain ⟨rfl, I4⟩ := h4
        refine seg_again rfl ?_
        exact seg_leaf (.ok .next) (k.ok n ys s₀ s4 .next hn ⟨σ, H, ⟨acc, cc, r, I4⟩, qn⟩)
      · refine wpAny_mono (T.item X rfl rfl rfl hc i _ s σ H X.xe I (stat hfp) htn go) (fun r' s4 h4 => ?_) fun x s' hx => ee n s₀ x s' hx
        obtain ⟨u, rfl, h4⟩ := h4
        refine wpAny_mono h4 (fun _ s5 h5 => ?_) fun x s' hx => ee n s₀ x s' hx
        obtain ⟨x, H5, I5, r5, y5, st5, fr5⟩ := h5
        have I5' := I5.pinned (stat fr5) (T.obj _ _ st5)
        refine wpAny_mono (hg.run _ s5 σ H5 x u _ I5' r5 (step x H5 y5)) (fun _ s6 h6 => ?_) fun x s' hx => ee n s₀ x s' hx
        obtain ⟨σ6, H6, I6, q6⟩ := h6
        have gl6 : GC X S (ip ++ pinsAt fp s5.heap) A (.forLoop tg (.ref it) body [] X.env) (.ret (fun r => ((match r with | .ok f => (.pure f : Sem Flow) | .error e => .raise e).onRaise (cameBack X.env)).wrap K J gd lv) none (gd false) (lv []) c p [] :: fs) id := by
          obtain ⟨a1, a2, a3, a4, a5, a6, a7⟩ := gl (fun r => ((match r with | .ok f => (.pure f : Sem Flow) | .error e => .raise e).onRaise (cameBack X.env)).wrap K J gd lv)
          refine ⟨a1, fun q hq => ?_, a3, a4, a5, a6, a7⟩
          rcases List.mem_append.mp hq with hq | hq
          · exact a2 q hq
          · exact fun z => fS (by rw [← z]; exact (of_pinsAt hq).1)
        have back : ∀ {ys' : List V} {σ7 : St} {H7 : Hp} {s7 : Shared}, GI X S (ip ++ pinsAt fp s5.heap) ys' σ7 H7 s7 → GI X S ip ys' σ7 H7 s7 := fun {ys' σ7 H7 s7} h => by
          obtain ⟨acc7, c7, r7, I7⟩ := h
          exact ⟨acc7, c7, r7, Inv.unpinned (pl := pinsAt fp s5.heap) I7⟩
        refine hb.run A S (ip ++ pinsAt fp s5.heap) R n ys s₀ _ _ _ _ id id s6 σ6 H6 { D with nx := N, ct := N, bk := D.nx } gl6 hn ⟨fun n' ys' s₀' s7 f hn' hs => ?_, fun n' s₀' x s7 hx => ee n' s₀' x s7 hx⟩ ⟨acc, cc, r, I6⟩ q6
        have again : ∀ {σ7 : St} {H7 : Hp}, GI X S (ip ++ pinsAt fp s5.heap) ys' σ7 H7 s7 → N ys' σ7 H7 → Seg (model X.prog X.w) A R (GY X S) n' s₀' (.forLoop tg (.ref it) body [] X.env) ((model X.prog X.w).den (.forLoop tg (.ref it) body [] X.env))
            (.ret (fun r => ((match r with | .ok f => (.pure f : Sem Flow) | .error e => .raise e).onRaise (cameBack X.env)).wrap K J gd lv) none (gd false) (lv []) c p [] :: fs) s7 := fun {σ7 H7} I7 n7 => by
          obtain ⟨m', hm, w7⟩ := hN ys' σ7 H7 n7
          have I8 := I7
          obtain ⟨acc7, c7, r7, I7⟩ := I7
          have pin7 := fun b hb o e => I7.pin (b, o) (List.mem_append_right _ (List.mem_cons_of_mem _ (List.mem_append_right _ (mem_pinsAt (fp := fp) (h := s5.heap) hb e))))
          refine ih m' hm (i + 1) n' ys' s₀' s7 σ7 H7 hn' w7 (T.keep _ _ _ st5 fun b hb o e => (pin7 b hb o e).1) (fun b hb => ?_) (back I8)
          obtain ⟨o, e, d⟩ := T.obj _ _ st5 b hb
          exact (pin7 b hb o e).2.1
        cases f with
        | next => obtain ⟨σ7, H7, I7, n7⟩ := hs; exact seg_again rfl (again I7 n7)
        | cont => obtain ⟨σ7, H7, I7, n7⟩ := hs; exact seg_again rfl (again I7 n7)
        | brk => obtain ⟨σ7, H7, I7, q7⟩ := hs; exact seg_leaf (.ok .next) (k.ok n' ys' s₀' s7 .next hn' ⟨σ7, H7, back I7, q7⟩)
        | ret v => obtain ⟨x7, σ7, H7, I7, r7, q7⟩ := hs; exact seg_leaf (.ok (.ret v)) (k.ok n' ys' s₀' s7 (.ret v) hn' ⟨x7, σ7, H7, back I7, r7, q7⟩)
  exact loop m0 0 n ys s₀ s2 σ H2 hn w0 st2 (fun b hb => (f2 b hb).1) ⟨acc, cc, r, I2⟩
end
end L2

/-! ### ranges of any size -/
namespace L2
open PySem PySem.Spec PyProof.Rows
theorem turn_long {P : Program} {w : World} {K : PySem.W.Frag} {tg : Expr} (it : Addr) (lo : Int) (n : Nat) : Turn P w K tg (Itr lo n) [it] it (fun i h => IsLongIter h it (lo + (i : Nat) * 1) ((n : Int) - (i : Nat)) 1) where
  mem := by simp
  obj := fun i h st b hb => by
    have e : b = it := by simpa using hb
    subst e
    exact ⟨_, st, fun v z => by
      have z' : Data.fields _ = Data.cell v := z
      cases z'⟩
  keep := fun i h h' st k => k it (by simp) _ st
  item := by
    intro X hP hw hK hc i pins s σ H E I hf st hg
    subst hP hw hK
    obtain ⟨f0, f1, f2, f3, f4, f5⟩ := hf it (by simp)
    have W := Walks.longrange (prog := X.prog) (w := X.w) (I.ok.hd hc) it lo 1 n
    refine W.item i s _ _ hg st fun v h' tk hv st' kk => ?_
    obtain ⟨t, rfl⟩ := hv
    have I1 : Inv X pins σ H { s with heap := h', toks := tk } := I.turned (fun b o hb e => kk b o (by simpa using hb) e) f0 f1 f3 f4 f5
    refine ⟨_, rfl, go_of (s := { s with heap := h', toks := tk }) (n := "longrange_iterator") st' rfl rfl (by decide) ⟨.int (lo + i), H, I1, ⟨t, ?_⟩, ⟨rfl, rfl⟩, st', fun b hb => (hf b hb).1⟩⟩
    rw [Int.mul_one]
  done := by
    intro X hP hw hK hc i pins s σ H E I hf st hg
    subst hP hw hK
    obtain ⟨f0, f1, f2, f3, f4, f5⟩ := hf it (by simp)
    exact wpAny_pyNext_long_end (I.ok.hd hc) st (by have : n ≤ i := hg; omega) fun h' eb => ⟨rfl, I.turned (t' := s.toks) (fun b o hb e => eb b o hb e) f0 f1 f3 f4 f5⟩
  self := fun _ _ _ _ _ st h => wpAny_pyIter_longiter st h
section
variable {X : Cx} {tg : Expr}
theorem range_itB {pins : List (Addr × Obj)} {σ : St} {H : Hp} {s : Shared} {R : It → Hp → Prop} {E : Value → Shared → Prop} {lo hi : Int} {t u v : Tok} {tk : Nat} (I : Inv X pins σ H s)
    (q : R (Itr lo (hi - lo).toNat) H) : wpAny (model X.prog X.w) X.A (pyIter (.ref s.heap.objs.size)) (PIE X pins σ tg R) E { s with heap := s.heap.push { cls := .type "range", data := .fields #[.int lo t, .int hi u, .int 1 v] }, toks := tk } := by
  have e1 : lo + ((0 : Nat) : Int) * 1 = lo := by simp
  have e2 : (((hi - lo).toNat : Nat) : Int) - ((0 : Nat) : Int) = Builtin.Range.rangeSize lo hi 1 := by rw [rangeSize_one]; split <;> omega
  have I1 : Inv X pins σ H { s with heap := s.heap.push { cls := .type "range", data := .fields #[.int lo t, .int hi u, .int 1 v] }, toks := tk } := I.kept fun b o e => Heap.get?_push_of_some _ e
  cases hs : Builtin.Range.small lo hi 1 with
  | true =>
    refine wpAny_pyIter_range (IsRange.new ..) hs ?_
    refine ⟨(s.heap.push { cls := .type "range", data := .fields #[.int lo t, .int hi u, .int 1 v] }).objs.size, [(s.heap.push { cls := .type "range", data := .fields #[.int lo t, .int hi u, .int 1 v] }).objs.size], _, _, H, rfl,
      I1.kept (t' := tk) fun b o e => Heap.get?_push_of_some _ e, turn_range _ lo (hi - lo).toNat, ?_, fun b hb => ?_, q⟩
    · show IsRangeIter _ _ (lo + ((0 : Nat) : Int) * 1) ((((hi - lo).toNat : Nat) : Int) - ((0 : Nat) : Int)) 1
      rw [e1, e2]
      exact Heap.get?_push_size _ rfl
    · have e : b = (s.heap.push { cls := .type "range", data := .fields #[.int lo t, .int hi u, .int 1 v] }).objs.size := by simpa using hb
      subst e
      exact I1.fpOk (Nat.le_refl _) (I1.hok.fresh (Nat.le_refl _))
  | false =>
    refine wpAny_pyIter_longrange (IsRange.new ..) hs ?_
    refine ⟨(s.heap.push { cls := .type "range", data := .fields #[.int lo t, .int hi u, .int 1 v] }).objs.size, [(s.heap.push { cls := .type "range", data := .fields #[.int lo t, .int hi u, .int 1 v] }).objs.size], _, _, H, rfl,
      I1.kept (t' := tk) fun b o e => Heap.get?_push_of_some _ e, turn_long _ lo (hi - lo).toNat, ?_, fun b hb => ?_, q⟩
    · show IsLongIter _ _ (lo + ((0 : Nat) : Int) * 1) ((((hi - lo).toNat : Nat) : Int) - ((0 : Nat) : Int)) 1
      rw [e1, e2]
      exact Heap.get?_push_size _ rfl
    · have e : b = (s.heap.push { cls := .type "range", data := .fields #[.int lo t, .int hi u, .int 1 v] }).objs.size := by simpa using hb
      subst e
      exact I1.fpOk (Nat.le_refl _) (I1.hok.fresh (Nat.le_refl _))
def iRng2B (ta : TA) : TI := fun σ H R => ta σ H fun vs H1 => ∃ i j : Int, vs = [.int i, .int j] ∧ R (Itr i (j - i).toNat) H1
theorem pi_range2B {a b : Expr} {ta : TA} {p pos : Pos} (hg : Gl X "range") (hm : X.mg "range" = none) (ha : PA X [a, b] ta) (hs : starEach [a, b] X.env = [(false, eval a X.env), (false, eval b X.env)] := by rfl) (hs2 : starEach [b] X.env = [(false, eval b X.env)] := by rfl) :
    PI X tg (.Call (.Name "range" p) [a, b] [] pos) (iRng2B ta) := by
  refine ⟨fun pins s σ H R I h => ?_⟩
  refine Call_ (ld_blt I hg hm boot_range (PyProof.Rows.callWith_type1 (thn (ha.run pos pins s σ H _ I h) fun us s1 ⟨vs, H1, I1, r1, q1⟩ => ?_) (by rw [hs, hs2]) (by rw [hs2]; rfl)))
  obtain ⟨i, j, e, q⟩ := q1
  subst e
  cases r1 with
  | cons r rr =>
    cases rr with
    | cons r' rr =>
      cases rr
      obtain ⟨t, rfl⟩ := r
      obtain ⟨t', rfl⟩ := r'
      exact call_range_2 (range_itB I1 q)
end
end L2

namespace RD
open PySem PySem.Spec PyProof.Rows L2 C8 GenW
section
variable {P : Program} {w : World} {K : PySem.W.Frag} {mg : Str → Option Value} {base : Heap} {x qual : Str} {scope : Scope} {params : Arguments} {body : List Stmt} {f : Addr} {fd : FuncData} {dvs : List V} {kws : List (Str × V)}
/-- a generator def's promise from its body -/
theorem fnGD {N ps : List Str} {k : Nat} {sp : SpG} (F : FunD K x qual params body scope dvs kws f fd) (S : GScope N ps scope) (len : ∀ vs H Q E, sp vs H Q E → vs.length = ps.length)
    (hbody : ∀ (cdv : Value) (A : Around) (outer : List Env) (s : Shared) (H : Hp) (vs : List V) (Q : List V → Hp → Prop) (E : XK) (pn : List (Addr × Obj)), Room k (A.deeper (envOfC qual scope s.heap.objs.size f cdv)) → sp vs H Q E →
      ∃ t, GSs (gcxOf P w K mg base N qual scope f cdv A outer s H E pn) body t ∧ t ⟨fun ys _ H' => Q ys H', fun ys v H' => v = .non ∧ Q ys H', fun _ _ _ => False, fun _ _ _ => False⟩ [] (start N vs) H) : GFn P w K mg base (k + 1) f fd ps sp := by
  obtain ⟨oc, od, dV, kV, doc, pm, an, cdv, ct, osl, rfl, lk, hcd, _, _⟩ := F.ex
  exact gfn_of lk hcd S len fun A outer s H vs Q E pn hr hsp => hbody cdv A outer s H vs Q E pn hr hsp
structure GalX (P : Program) (w : World) (K : PySem.W.Frag) (mg : Str → Option Value) (base : Heap) (k : Nat) (x : Str) (sp : SpG) (dvs : List V) : Prop where
  ex : ∃ (f : Addr) (fd : FuncData) (ps : List Str) (ds : List Value), GFn P w K mg base k f fd ps sp ∧ mg x = some (.ref f) ∧ PySem.W.keepIn K (.ref f) = true ∧ Binds K fd ps ds ∧ Vals dvs ds
end
theorem passG {P : Program} {w : World} {X : Cx} : Passes (CX P w) X C8.E0 := fun _ _ _ _ _ _ _ c => by
  obtain ⟨_, _, _, _, _, _, _, _, _, _, _, _, h⟩ := c
  exact h.elim
section
variable {X : Cx} {k j : Nat} {x : Str} {sp : SpG} {dvs : List V} {e : Expr} {es : List Expr} {t : TA} {p p2 pos pos2 : Pos}
theorem pe_listGal (c : GalX X.prog X.w X.K X.mg X.base k x sp dvs) (hr : Room j X.A) (hk : k + 3 ≤ j) (hg : Gl X x) (hgl : Gl X "list") (hml : X.mg "list" = none) (ha : PA X (e :: es) t)
    (hdb : (x == ("__debug__" : Str)) = false := by decide) (he : starEach (e :: es) X.env = (false, eval e X.env) :: starEach es X.env := by rfl) (hpl : (backTo pos2 (starEach es X.env)).any (·.1) = false := by rfl)
    (he2 : starEach [Expr.Call (.Name x p2) (e :: es) [] pos2] X.env = (false, eval (.Call (.Name x p2) (e :: es) [] pos2) X.env) :: starEach [] X.env := by rfl) :
    PE X (.Call (.Name "list" p) [.Call (.Name x p2) (e :: es) [] pos2] [] pos) (tListG (tCallG sp dvs C8.E0 t)) := by
  obtain ⟨f, fd, ps, ds, F, hm, kp, b, d⟩ := c.ex
  exact pe_listG (k := k) (pgen_call F (hr.mono (by omega)) hg hm kp b d ha hdb he hpl) passG (fun _ _ _ h => h.elim) (hr.mono hk) hgl hml (by decide +kernel) (by decide) (by decide) he2
end
section
variable {K : PySem.W.Frag} {σ : L2.St} {H : Hp} {nx : List V → L2.St → Hp → Prop} {rt : List V → VK} {bk ct : List V → L2.St → Hp → Prop} {ys : List V}
theorem rd_gthen {t u : TGn} (h : t ⟨fun ys' σ' H' => u ⟨nx, rt, bk, ct⟩ ys' σ' H', rt, bk, ct⟩ ys σ H) : tGThen t u ⟨nx, rt, bk, ct⟩ ys σ H := h
theorem rd_gplain {t : TS} (h : t ⟨fun σ H => nx ys σ H, fun v H => rt ys v H, fun σ H => bk ys σ H, fun σ H => ct ys σ H⟩ σ H) : tPlain t ⟨nx, rt, bk, ct⟩ ys σ H := h
theorem rd_gend (h : nx ys σ H) : tG0 ⟨nx, rt, bk, ct⟩ ys σ H := h
theorem rd_gyield {te : TE} (hl : ys.length < sizeLine) (h : te σ H fun x H1 => nx (ys ++ [x]) σ H1) : tGYield te ⟨nx, rt, bk, ct⟩ ys σ H := ⟨hl, h⟩
def GForG (J : It) (g : TG) (t : TGn) (D : GEnds) (ys : List V) (σ : L2.St) (H1 : Hp) : Prop := ∃ W : Nat → Nat → List V → L2.St → Hp → Prop, (∃ m, W 0 m ys σ H1) ∧ ∀ i m ys σ H, W i m ys σ H →
  (J.stop i H ∧ D.nx ys σ H) ∨ (J.go i H ∧ ∃ N : List V → L2.St → Hp → Prop, (∀ ys' σ' H', N ys' σ' H' → ∃ m', m' < m ∧ W (i + 1) m' ys' σ' H') ∧ ∀ x H', J.yld i H x H' → g x σ H' fun σ2 H2 => t { D with nx := N, ct := N, bk := D.nx } ys σ2 H2)
theorem rd_gfor {wi : TI} {g : TG} {t : TGn} {D : GEnds} (h : wi σ H fun J H1 => GForG J g t D ys σ H1) : tGFor wi g t D ys σ H := h
theorem gforR_by {lo : Int} {n : Nat} {g : TG} {t : TGn} (Pv : Nat → List V → L2.St → Hp → Prop) (h0 : Pv 0 ys σ H)
    (hs : ∀ (i : Nat) ys σ H, i < n → Pv i ys σ H → g (.int (lo + i)) σ H fun σ2 H2 => t ⟨Pv (i + 1), rt, nx, Pv (i + 1)⟩ ys σ2 H2) (hd : ∀ ys σ H, Pv n ys σ H → nx ys σ H) : GForG (Itr lo n) g t ⟨nx, rt, bk, ct⟩ ys σ H := by
  refine ⟨fun i m ys σ H => m = n - i ∧ i ≤ n ∧ Pv i ys σ H, ⟨n, by simp, Nat.zero_le _, h0⟩, ?_⟩
  rintro i m ys σ H ⟨rfl, hi, p⟩
  by_cases hlt : i < n
  · refine .inr ⟨hlt, Pv (i + 1), fun ys' σ' H' p' => ⟨n - (i + 1), by omega, rfl, hlt, p'⟩, fun x H' y => ?_⟩
    obtain ⟨e, y⟩ := y
    subst e
    subst y
    exact hs i ys σ _ hlt p
  · have e : i = n := by omega
    subst e
    exact .inl ⟨Nat.le_refl _, hd ys σ H p⟩
end
end RD

namespace RD
open PySem PySem.Spec PyProof.Rows L2 C8 GenW
section
variable {K : PySem.W.Frag} {σ : L2.St} {H : Hp} {Q : VK}
theorem rd_iRng2B {ar : TA} {R : It → Hp → Prop} (h : ar σ H fun vs H1 => ∃ i j : Int, vs = [.int i, .int j] ∧ R (Itr i (j - i).toNat) H1) : iRng2B ar σ H R := h
theorem rd_sortedI {a : Addr} {ns : List Int} (h : H a = some (.lst (ns.map V.int))) (q : ∀ (os : List Int) (p : Addr), os.Perm ns → os.Pairwise (· ≤ ·) → H p = none → Q (.ref p) (upd H p (.lst (os.map V.int)))) : rSortedI K [.ref a] H Q := ⟨a, ns, rfl, SqL.of h, q⟩
theorem rd_listG {tg : TGen} (h : tg σ H fun out H2 => ∀ p, H2 p = none → Q (.ref p) (upd H2 p (.lst out))) : tListG tg σ H Q := h
theorem rd_callG {sp : SpG} {dvs : List V} {E : XK} {t : TA} {c : List V → Hp → Prop} (h : t σ H fun vs H1 => sp (vs ++ dvs) H1 c E) : tCallG sp dvs E t σ H c := h
end
theorem sort_uniq {a b : List Int} (p : a.Perm b) (h1 : a.Pairwise (· ≤ ·)) (h2 : b.Pairwise (· ≤ ·)) : a = b := List.Perm.eq_of_pairwise (fun _ _ _ _ => Int.le_antisymm) h1 h2 p
end RD

/-! ### walks over a dict that stays -/
namespace RD
open PySem PySem.Spec PyProof.Rows L2 C8 GenW
section
variable {K : PySem.W.Frag} {σ : L2.St} {H : Hp} {Q : VK} {nx : L2.St → Hp → Prop} {rt : VK} {bk ct : L2.St → Hp → Prop} {te : TE} {tt : TT} {t : TS}
theorem rd_lockS {d : Addr} {u : HO} (h : H d = some u) (mu : Mut (some u)) (k : ∀ od, t ⟨fun σ' H' => H' d = some (.frz od u) ∧ nx σ' (upd H' d u), fun v H' => H' d = some (.frz od u) ∧ rt v (upd H' d u), fun σ' H' => H' d = some (.frz od u) ∧ bk σ' (upd H' d u), fun σ' H' => H' d = some (.frz od u) ∧ ct σ' (upd H' d u)⟩ σ (upd H d (.frz od u))) : tLock t ⟨nx, rt, bk, ct⟩ σ H := ⟨d, u, h, mu, k⟩
theorem rd_lockE {d : Addr} {u : HO} (h : H d = some u) (mu : Mut (some u)) (k : ∀ od, te σ (upd H d (.frz od u)) fun v H' => H' d = some (.frz od u) ∧ Q v (upd H' d u)) : tLockE te σ H Q := ⟨d, u, h, mu, k⟩
theorem rd_iKeys {td : TE} {R : It → Hp → Prop} (h : td σ H fun x H1 => ∃ d o, x = .ref d ∧ ((∃ kvs, H1 d = some (.frz o (.dK kvs)) ∧ R (Itk d o kvs) H1) ∨ ∃ kvs, H1 d = some (.frz o (.dT kvs)) ∧ R (Itkt d o kvs) H1)) : iKeys td σ H R := h
theorem rd_iKeysX {d : Addr} {o : Obj} {kvs : List (Key × V)} {R : It → Prop} {B : Addr → Obj → Prop} (h : H d = some (.frz o (.dK kvs))) (q : R (Itk d o kvs)) : ∃ d' o', V.ref d = V.ref d' ∧ ((∃ kvs, H d' = some (.frz o' (.dK kvs)) ∧ R (Itk d' o' kvs)) ∨ B d' o') := ⟨d, o, rfl, .inl ⟨kvs, h, q⟩⟩
theorem forD_by {d : Addr} {o : Obj} {g : TG} (xs : List Int) (f : Int → V) (Pv : Nat → L2.St → Hp → Prop) (h0 : Pv 0 σ H) (hl : ∀ i σ H, i ≤ xs.length → Pv i σ H → H d = some (.frz o (.dK (dmap xs f))))
    (hs : ∀ (i : Nat) (h : i < xs.length) σ H, Pv i σ H → g (.int xs[i]) σ H fun σ2 H2 => t ⟨Pv (i + 1), rt, nx, Pv (i + 1)⟩ σ2 H2) (hd : ∀ σ H, Pv xs.length σ H → nx σ H) : ForG (Itk d o (dmap xs f)) g t ⟨nx, rt, bk, ct⟩ σ H := by
  refine ⟨fun i m σ H => m = xs.length - i ∧ i ≤ xs.length ∧ Pv i σ H, ⟨xs.length, by simp, Nat.zero_le _, h0⟩, ?_⟩
  rintro i m σ H ⟨rfl, hi, p⟩
  have q := hl i σ H hi p
  by_cases hlt : i < xs.length
  · refine .inr ⟨⟨q, by rw [dmap_len]; exact hlt⟩, Pv (i + 1), fun σ' H' p' => ⟨xs.length - (i + 1), by omega, rfl, hlt, p'⟩, fun x H' y => ?_⟩
    obtain ⟨e, k, v, h1, h2⟩ := y
    subst e
    have h3 : (dmap xs f)[i]? = some (.inl xs[i], f xs[i]) := by
      unfold dmap
      rw [List.getElem?_map, List.getElem?_eq_getElem hlt]
      rfl
    rw [h3] at h1
    cases h1
    subst h2
    exact hs i hlt σ _ p
  · have e : i = xs.length := by omega
    subst e
    exact .inl ⟨⟨q, by rw [dmap_len]; exact Nat.le_refl _⟩, hd σ H p⟩
theorem lcD_by {a D : Addr} {o : Obj} {g : TG} {vs : List Nat} {Qd : Hp → Prop} (xs : List Int) (f : Int → V) (Pv : Nat → Hp → Prop) (h0 : Pv 0 (upd H D (.lst []))) (hl : ∀ i H, i ≤ xs.length → Pv i H → H a = some (.frz o (.dK (dmap xs f))))
    (hs : ∀ (i : Nat) (h : i < xs.length) H, Pv i H → g (.int xs[i]) (wipe σ vs) H fun σ2 H2 => wipe σ2 vs = wipe σ vs ∧ tt σ2 H2 fun b H3 =>
      if b = true then te σ2 H3 fun y H4 => ∃ acc, H4 D = some (.lst acc) ∧ acc.length < sizeLine ∧ Pv (i + 1) (upd H4 D (.lst (acc ++ [y]))) else Pv (i + 1) H3) (hd : ∀ H, Pv xs.length H → Qd H) : LcG (Itk a o (dmap xs f)) g tt te vs σ D Qd H := by
  refine ⟨fun i m H => m = xs.length - i ∧ i ≤ xs.length ∧ Pv i H, ⟨xs.length, by simp, Nat.zero_le _, h0⟩, ?_⟩
  rintro i m H ⟨rfl, hi, p⟩
  have q := hl i H hi p
  by_cases hlt : i < xs.length
  · refine .inr ⟨⟨q, by rw [dmap_len]; exact hlt⟩, Pv (i + 1), fun H' p' => ⟨xs.length - (i + 1), by omega, rfl, hlt, p'⟩, fun x H' y => ?_⟩
    obtain ⟨e, k, v, h1, h2⟩ := y
    subst e
    have h3 : (dmap xs f)[i]? = some (.inl xs[i], f xs[i]) := by
      unfold dmap
      rw [List.getElem?_map, List.getElem?_eq_getElem hlt]
      rfl
    rw [h3] at h1
    cases h1
    subst h2
    exact hs i hlt _ p
  · have e : i = xs.length := by omega
    subst e
    exact .inl ⟨⟨q, by rw [dmap_len]; exact Nat.le_refl _⟩, hd H p⟩
theorem rd_listD {a : Addr} {kvs : List (Key × V)} (h : H a = some (.dK kvs)) (q : ∀ p, H p = none → Q (.ref p) (upd H p (.lst (kvs.map fun kv => kV kv.1)))) : ∃ (a' : Addr) (kvs : List (Key × V)), [V.ref a] = [.ref a'] ∧ Rd H a' (.dK kvs) ∧ ∀ p, H p = none → Q (.ref p) (upd H p (.lst (kvs.map fun kv => kV kv.1))) := ⟨a, kvs, rfl, .inl h, q⟩
theorem rd_anyL {a : Addr} {bs : List Bool} (h : H a = some (.lst (bs.map V.bl))) (q : Q (.bl (bs.any id)) H) : rAny K [.ref a] H Q := ⟨a, bs, rfl, SqL.of h, q⟩
theorem dmap_keys {xs : List Int} {f : Int → V} : ((dmap xs f).map fun kv => kV kv.1) = xs.map V.int := by
  unfold dmap
  rw [List.map_map]
  rfl
/-- behind a lock -/
theorem kp_lock {ps : List Addr} {H H2 : Hp} {d : Addr} {u : HO} {od : Obj} (h : H d = some u) (k : Kp ps (upd H d (.frz od u)) H2) : Kp ps H (upd H2 d u) := fun b o hb hn => by
  by_cases e : b = d
  · subst e
    rw [h] at hb
    rw [upd_same]
    exact hb
  · rw [upd_ne e]
    exact k b o (by rw [upd_ne e]; exact hb) hn
end
end RD

namespace RD
open PySem PySem.Spec PyProof.Rows L2 C8 GenW
section
variable {X : Cx} {CX : CXT} {k j : Nat} {C : Addr} {m : Str} {sp : Sp} {dvs : List V} {E : XK} {o : Expr} {ta : TE} {apos pos : Pos}
theorem pe_met0 {pl : Sem Bool} (c : MetX X.prog X.w X.K X.mg X.base CX k C m sp dvs) (hr : Room j X.A) (hk : k ≤ j) (hx : Passes CX X E) (he : PE X o ta)
    (ht : eval (.Call (.Attribute o m apos) [] [] pos) X.env = (do
      let ov ← eval o X.env
      standAt apos.atName
      let (f, first) ← holding [ov] (getMethod ov m pl)
      callWith pos f first (backTo pos (starEach [] X.env)) (backToKw pos (keywordEach [] X.env))) := by rfl) :
    PE X (.Call (.Attribute o m apos) [] [] pos) (tMeth C m sp dvs E ta tNil) := by
  obtain ⟨f, fd, ps, ds, cl, me, F, b, d⟩ := c.ex
  exact pe_meth0 he cl me F (hr.mono hk) b d hx ht
end
end RD

namespace RD
open PySem PySem.Spec PyProof.Rows L2 He
def tupA (K : PySem.W.Frag) (a : Addr) (vs : List Dv) : Bool := match K.lookup a with
  | some ⟨.type c, _, .seq its _, _⟩ => decide (c = "tuple") && (decide (its.size ≤ sizeLine) && relAll (vs.map (Dv.v K)) its.toList)
  | _ => false
theorem tupA_ok {K : PySem.W.Frag} {a : Addr} {vs : List Dv} (h : tupA K a vs = true) (H : Hp) : SqT K H a (vs.map (Dv.v K)) := by
  unfold tupA at h
  cases q : K.lookup a with
  | none =>
    rw [q] at h
    cases h
  | some o =>
    obtain ⟨oc, od, dt, osl⟩ := o
    rw [q] at h
    cases oc with
    | type c =>
      cases dt with
      | seq its n =>
        obtain ⟨h1, h2⟩ := ba (show (decide (c = "tuple") && (decide (its.size ≤ sizeLine) && relAll (vs.map (Dv.v K)) its.toList)) = true from h)
        obtain ⟨h3, h4⟩ := ba h2
        exact .inr ⟨_, its, n, q, congrArg Value.type (of_decide_eq_true h1), rfl, of_decide_eq_true h3, relAll_ok h4⟩
      | _ => cases h
    | _ => cases dt <;> cases h
end RD

/-! own layer: repr(list of ints) in a def whose promise is shown guard by guard (behind MORE) -/
namespace RD
open PySem PySem.Spec PyProof.Rows L2 He
/-- the list's text is under way -/
def onWay (g : List Code) (a : Addr) : Bool := g.any fun c => PySem.W.Z.lstP (.ref a) (c, default)
def intsT (ns : List Int) : List Str := ns.map fun n => (toString n : Str)
def reprT (g : List Code) (a : Addr) (ns : List Int) : Str := bif onWay g a then "[...]" else listText (intsT ns)
theorem repr_its {P : Program} {w : World} : ∀ {ns : List Int} {its : List Value}, Vals (ns.map V.int) its → (∀ n ∈ ns, n.natAbs.log2 < 1920) → ∀ (i : Nat) (y : Value), its[i]? = some y → ∃ t, (intsT ns)[i]? = some t ∧ ReprIs P w y t
  | [], _, r, _, i, y, h => by
    cases r
    cases h
  | n :: ns, _, r, hz, i, y, h => by
    cases r with
    | cons r1 r2 =>
      cases i with
      | zero =>
        obtain ⟨t, rfl⟩ := r1
        obtain rfl := Option.some.inj h
        exact ⟨_, rfl, ReprIs.int t (hz n (.head _))⟩
      | succ i => exact repr_its r2 (fun m hm => hz m (.tail _ hm)) i y h
section
variable {prog : Program} {w : World} {A : Around} {E : Value → Shared → Prop} {s : Shared}
theorem list_repr_g {Q : Value → Shared → Prop} {g : List Code} {a : Addr} {oa : Obj} {x : Value} {l : List Value} {na : Nat} {ts : List Str} (hTy : s.TypeIs (.ref a) "list")
    (hg : A.guards = some g) (ha : s.heap.get? a = some oa) (hda : oa.data = .seq (x :: l).toArray na) (hlen : ts.length = (x :: l).toArray.size)
    (hT : ∀ (i : Nat) (y : Value), (x :: l).toArray[i]? = some y → ∃ t, ts[i]? = some t ∧ ReprIs prog w y t) (hsz : (listText ts).length ≤ sizeLine)
    (hQ : ∀ h' u tk, (∀ b o, s.heap.get? b = some o → h'.get? b = some o) → Q (.str (bif onWay g a then "[...]" else listText ts) u) { s with heap := h', toks := tk }) :
    wpAny (model prog w) A (call (.builtin "list.__repr__") [.ref a]) Q E s := by
  cases hw : onWay g a with
  | false =>
    refine call_list_repr hTy hg (fun v rest kw hm => ?_) ha hda hlen hT (fun h' u tk hk => ?_) hsz
    · have h1 := List.any_eq_false.mp hw _ hm
      simpa [PySem.W.Z.lstP] using h1
    · have h1 := hQ h' u tk hk
      rw [hw] at h1
      exact h1
  | true =>
    rw [hw] at hQ
    refine wpAny_call (codeAny_call_builtin_own (Code.quiet_builtin _ (by decide +kernel)) F.entry_list_repr (F.slot_list_repr.check _ _ _ _ _ _ _ _ hTy (F.args_list_repr_1 _) ?_))
    show wpOwn _ _ _ (Builtin.listReprAt 0 ⟨[.ref a], []⟩) _ _ _
    intro Γ p hc hΓ
    unfold Builtin.listReprAt
    simp [slotArgs, Builtin.List.listItems, seqItems?, Sem.wp_load_of (h := ha), hda, stack]
    show Sem.wp _ Γ (if (Γ.below.any _) = true then _ else _) _ _ p s
    rw [if_pos]
    · have h2 := hQ s.heap s.toks (s.toks + 1) fun b o e => e
      exact h2
    · rw [any_eq_guards (l := Γ.below) ?hf ?hp, hΓ.2.2.2.1 g hg]
      · exact hw
      case hf => exact PySem.W.Z.lstP_off (.ref a)
      case hp => exact fun c p' => PySem.W.Z.lstP_pos (.ref a) c p' default
end
section
variable {X : L2.Cx}
/-- repr of a list of seats that holds one at least -/
def rRepr (g : List Code) : List V → Hp → VK → Prop := fun xs H Q => ∃ a ns, xs = [.ref a] ∧ H a = some (.lst (ns.map V.int)) ∧ ns ≠ [] ∧ (∀ n ∈ ns, n.natAbs.log2 < 1920) ∧ (listText (intsT ns)).length ≤ sizeLine ∧ Q (.str (reprT g a ns)) H
theorem call_repr_ints {g : List Code} {j : Nat} (hr : Room j X.A) (hg : X.A.guards = some g) : CallR X (.builtin "repr") (rRepr g) := by
  intro pins s σ H xs us Q I r h
  obtain ⟨a, ns, rfl, ha, hne, hz, hl, q⟩ := h
  obtain ⟨u, rfl, rfl⟩ := vals1 r
  obtain ⟨-, its, n, hv, hln, ho⟩ := I.lstM ha
  cases its with
  | nil =>
    rw [List.length_map] at hln
    exact absurd (List.length_eq_zero_iff.mp hln) hne
  | cons x l =>
    have hu := hr.un
    refine call_repr_slot (by omega) ⟨_, ho, rfl⟩ F.slot_list_repr.toG (list_repr_g (ts := intsT ns) (g := g) ⟨_, ho, rfl⟩ hg ho rfl ?_ ?_ hl fun h' u tk hk => ?_)
    · rw [List.length_map] at hln
      show (ns.map _).length = _
      rw [List.length_map, hln]
      simp
    · intro i y e
      exact repr_its hv hz i y (by simpa using e)
    · exact ⟨_, _, rfl, .str _, H, I.kept hk, ⟨_, rfl⟩, q⟩
end
section
variable {P : Program} {w : World} {K : PySem.W.Frag} {mg : Str → Option Value} {base : Heap} {x qual : Str} {params : Arguments} {body : List Stmt} {scope : Scope} {dvs : List V} {kws : List (Str × V)} {f : Addr} {fd : FuncData}
theorem code_guards {M : Model} {A : Around} {c : Code} {R : Result → Shared → Prop} {s : Shared} (h : ∀ g, codeAny M { A with guards := some g } c R s) : codeAny M A c R s := fun Γ p hc hΓ =>
  h (guardsOf Γ.below) Γ p hc ⟨hΓ.1, hΓ.2.1, hΓ.2.2.1, fun g e => Option.some.inj e, hΓ.2.2.2.2⟩
/-- a def's promise by its body, what is under way told -/
theorem fnDg {N ps : List Str} {k : Nat} {sp : Sp} (F : FunD K x qual params body scope dvs kws f fd) (S : FnScope N ps scope) (len : ∀ vs H Q E, sp vs H Q E → vs.length = ps.length)
    (hbody : ∀ (cdv : Value) (g : List Code) (A : Around) (outer : List Env) (s : Shared) (H : Hp) (vs : List V) (Q : VK) (E : XK), A.guards = some g → Room k (A.deeper (envOfC qual scope s.heap.objs.size f cdv)) → sp vs H Q E →
      ∃ t, PSs (cxOf CX0 P w K mg base N qual scope f cdv A outer s H E).nox body t ∧ t ⟨fun _ H' => Q .non H', Q, fun _ _ => False, fun _ _ => False⟩ (start N vs) H) : FnOk P w K mg base CX0 (k + 1) f fd ps sp := by
  obtain ⟨oc, od, dV, kV, doc, pm, an, cdv, ct, osl, ef, lk, hcd, _, _⟩ := F.ex
  subst ef
  refine ⟨len, fun A0 outer s H args us vs Q E hr0 e00 hb r hsp => code_guards fun g => ?_⟩
  have hr : Room (k + 1) { A0 with guards := some g } := ⟨hr0.hd, hr0.dp, hr0.un⟩
  have e0 : Env0 P w K mg base { A0 with guards := some g } outer s H := ⟨e00.frames, e00.mod, e00.bs, e00.bsz, e00.funs, e00.frf, e00.hok, e00.bare⟩
  have hgA : ({ A0 with guards := some g } : Around).guards = some g := rfl
  revert hr e0 hgA
  generalize ({ A0 with guards := some g } : Around) = A
  intro hr e0 hgA
  have hl := len _ _ _ _ hsp
  have KX : K.In s.heap := e0.mod.kin.keeps fun b o e => (e0.bs b o e).1
  have lim : s.heap.NoLimit := e0.mod.nolimit.keeps fun b o e => (e0.bs b o e).1
  have hkind : ∀ y ∈ ps.zip us, scope.names.lookup y.1 = some .local ∨ (scope.names.lookup y.1 = some .cell ∧ ((cellsFrom (s.heap.objs.size + 1) scope.names []).lookup y.1).isSome = true) := fun ⟨n, v⟩ hy =>
    (S.par n (List.of_mem_zip hy).1).elim .inl fun q => .inr ⟨q, PySem.W.cellsFrom_some _ _ _ (.inl q)⟩
  refine codeAny_call_function hr.depth (KX _ _ lk) rfl S.co S.gen rfl (PySem.W.codeRec_of KX hcd) (hb _ _ _ _ (wpAny_newFunctionEnv_cells S.kind hkind fun env he s1 x1 => ?_))
  subst he
  refine ⟨lim.keeps x1.toInCall.keep, codeAny_func ?_⟩
  obtain ⟨t, ht, hq⟩ := hbody cdv g A outer s H vs Q E hgA (hr.deeper _) hsp
  have J0 : Inv (cxOf CX0 P w K mg base N qual scope f cdv A outer s H E) [] (start N vs) H s1 := inv_start S hr.hd e0 hl r x1
  have fin : ∀ {σ' : L2.St} {H' : Hp} {s' : Shared} {v : V} {u : Value}, Inv (cxOf CX0 P w K mg base N qual scope f cdv A outer s H E) [] σ' H' s' → RelV v u → Q v H' → CE outer P w H s Q u s' :=
    fun {σ' H' s' v u} J rv q => ⟨v, H', J.os, J.bare, J.base, J.hok, rv, q⟩
  refine wpAny_mono (ht.nox.run [] s1 (start N vs) H _ J0 hq) (fun fl s' hs => ?_) fun e s' hs => hs
  cases fl with
  | ret u =>
    obtain ⟨v, σ', H', J, rv, q⟩ := hs
    exact fin J rv q
  | next =>
    obtain ⟨σ', H', J, q⟩ := hs
    exact fin (v := V.non) (u := Value.none) J rfl q
  | brk => exact hs.elim fun _ z => z.elim fun _ z => z.2.elim
  | cont => exact hs.elim fun _ z => z.elim fun _ z => z.2.elim
end
/-! the length of a text -/
theorem textFrom_le : ∀ (ts : List Str) (k : Nat) (acc : Str) (m : Nat), (∀ t ∈ ts, t.length ≤ m) → (textFrom k acc ts).length ≤ acc.length + (m + 2) * ts.length
  | [], k, acc, m, _ => by
    show acc.length ≤ _
    omega
  | t :: r, k, acc, m, h => by
    have h1 := textFrom_le r (k + 1) (acc ++ (if k > 0 then ", " else "" : String) ++ t) m fun z hz => h z (.tail _ hz)
    have h2 := h t (.head _)
    have h3 : (acc ++ (if k > 0 then ", " else "" : String) ++ t : Str).length ≤ acc.length + 2 + t.length := by
      rw [strLen_append, strLen_append]
      split <;> (simp [show (", " : Str).length = 2 from rfl, show ("" : Str).length = 0 from rfl]; try omega)
    show (textFrom (k + 1) (acc ++ (if k > 0 then ", " else "" : String) ++ t) r).length ≤ _
    rw [List.length_cons, Nat.mul_add]
    omega
theorem listText_le {ts : List Str} {m : Nat} (h : ∀ t ∈ ts, t.length ≤ m) : (listText ts).length ≤ 2 + (m + 2) * ts.length := by
  have h1 := textFrom_le ts 0 "[" m h
  unfold listText
  rw [strLen_append, show ("]" : Str).length = 1 from rfl]
  rw [show ("[" : Str).length = 1 from rfl] at h1
  omega
theorem small_text : ∀ n : Fin 256, ((toString (n.val : Int) : Str)).length ≤ 3 := by decide +kernel
/-- up to 256 seats of a ring of up to 256 -/
theorem reprT_ok {ns : List Int} (h : ∀ n ∈ ns, 0 ≤ n ∧ n < 256) (hl : ns.length ≤ 256) : (∀ n ∈ ns, n.natAbs.log2 < 1920) ∧ (listText (intsT ns)).length ≤ sizeLine := by
  refine ⟨fun n hn => ?_, Nat.le_trans (listText_le (m := 3) fun t ht => ?_) ?_⟩
  · obtain ⟨h0, h1⟩ := h n hn
    rcases Nat.eq_zero_or_pos n.natAbs with e | e
    · rw [e]; decide
    · have : n.natAbs.log2 < 8 := (Nat.log2_lt (by omega)).mpr (by omega)
      omega
  · obtain ⟨n, hn, rfl⟩ := List.mem_map.mp ht
    obtain ⟨h0, h1⟩ := h n hn
    have h2 := small_text ⟨n.toNat, by omega⟩
    rw [show ((⟨n.toNat, by omega⟩ : Fin 256).val : Int) = n from Int.toNat_of_nonneg h0] at h2
    exact h2
  · rw [show (intsT ns).length = ns.length from List.length_map _, sizeLine_eq]
    omega
/-! reading -/
theorem rd_repr {H : Hp} {Q : VK} {g : List Code} {a : Addr} {ns : List Int} (h : H a = some (.lst (ns.map V.int))) (hne : ns ≠ []) (hb : ∀ n ∈ ns, 0 ≤ n ∧ n < 256) (hl : ns.length ≤ 256) (q : Q (.str (reprT g a ns)) H) : rRepr g [.ref a] H Q :=
  ⟨a, ns, rfl, h, hne, (reprT_ok hb hl).1, (reprT_ok hb hl).2, q⟩
/-! a list or a tuple of ints -/
def SqI (K : PySem.W.Frag) (H : Hp) (p : Addr) (ns : List Int) : Prop := SqL K H p (ns.map V.int) ∨ SqT K H p (ns.map V.int)
theorem SqI.keep {K : PySem.W.Frag} {H H' : Hp} {p : Addr} {ns : List Int} (h : SqI K H p ns) (k : ∀ o, H p = some o → (∀ d, o ≠ .dK d) → (∀ C dx fs, o ≠ .ins C dx fs) → H' p = some o) : SqI K H' p ns := by
  have go : ∀ {o : HO}, Rd H p o → (∀ d, o ≠ .dK d) → (∀ C dx fs, o ≠ .ins C dx fs) → Rd H' p o := fun {o} r n1 n2 =>
    r.imp (fun e => k _ e n1 n2) fun ⟨d, e⟩ => ⟨d, k _ e (fun _ z => by cases z) (fun _ _ _ z => by cases z)⟩
  rcases h with h | h
  · exact .inl (h.imp (fun r => go r (fun _ z => by cases z) (fun _ _ _ z => by cases z)) id)
  · exact .inr (h.imp (fun r => go r (fun _ z => by cases z) (fun _ _ _ z => by cases z)) id)
theorem SqI.kp {K : PySem.W.Frag} {H H' : Hp} {p : Addr} {ns : List Int} {ps : List Addr} (h : SqI K H p ns) (k : Kp ps H H') (hn : ∀ q, q ∈ ps → H q = none ∨ (∃ d, H q = some (.dK d)) ∨ ∃ C dx fs, H q = some (.ins C dx fs)) : SqI K H' p ns :=
  h.keep fun o e n1 n2 => k _ _ e fun m => by
    rcases hn _ m with z | ⟨d, z⟩ | ⟨C, dx, fs, z⟩
    · rw [z] at e
      cases e
    · rw [z] at e
      injection e with e
      exact n1 _ e.symm
    · rw [z] at e
      injection e with e
      exact n2 _ _ _ e.symm
theorem SqI.of {K : PySem.W.Frag} {H : Hp} {p : Addr} {ns : List Int} (h : H p = some (.lst (ns.map V.int))) : SqI K H p ns := .inl (SqL.of h)
theorem rd_notInSq {K : PySem.W.Frag} {H : Hp} {Q : VK} {p : Addr} {i : Int} {ns : List Int} (h : SqI K H p ns) (q : Q (.bl (!decide (i ∈ ns))) H) : rIn K true (.int i) (.ref p) H Q := by
  rcases h with h | h
  · exact rd_notInI h q
  · exact ⟨p, ns.map V.int, rfl, .inr h, rfl, flat_ints ns, by
      rw [inV_ints]
      exact q⟩
end RD

namespace My
open PySem PySem.Spec PyProof.Rows L2 He RD
open PySem PySem.Spec PyProof.Rows L2 He RD
def top (i : Nat) : Stmt := PySem.Challenge.pw_livingroll_k15_spread_steps.main.body.getD i (.Pass ⟨0, 0, 0, 0⟩)
abbrev R : PySem.W.OpenRow := PySem.W.OpenLaw.row PySem.Challenge.rw_livingroll_k15_spread_steps
abbrev s_l_purse : Stmt := (top 18)
abbrev n_l_purse : List Str := ["_law_script", "_law_cells", "_law_seed", "_law_cell"]
abbrev p_l_purse : List Str := ["_law_script"]
theorem sc_l_purse : FnScope n_l_purse p_l_purse (defScope s_l_purse) := ⟨rfl, rfl, rfl, by decide +kernel, rfl, by decide +kernel, by decide +kernel⟩
def d_l_purse : DefD := ⟨("_law_purse", none), "_law_purse", "_law_purse", defArgs s_l_purse, defBody s_l_purse, defScope s_l_purse, [], []⟩
abbrev s_l_mixed : Stmt := (top 19)
abbrev n_l_mixed : List Str := ["_law_seed", "_law_place", "_law_first", "_law_second"]
abbrev p_l_mixed : List Str := ["_law_seed", "_law_place"]
theorem sc_l_mixed : FnScope n_l_mixed p_l_mixed (defScope s_l_mixed) := ⟨rfl, rfl, rfl, by decide +kernel, rfl, by decide +kernel, by decide +kernel⟩
def d_l_mixed : DefD := ⟨("_law_mixed", none), "_law_mixed", "_law_mixed", defArgs s_l_mixed, defBody s_l_mixed, defScope s_l_mixed, [], []⟩
abbrev s_l_draw : Stmt := (top 20)
abbrev n_l_draw : List Str := ["_law_purse_here", "_law_many", "_law_cell", "_law_digit"]
abbrev p_l_draw : List Str := ["_law_purse_here", "_law_many"]
theorem sc_l_draw : FnScope n_l_draw p_l_draw (defScope s_l_draw) := ⟨rfl, rfl, rfl, by decide +kernel, rfl, by decide +kernel, by decide +kernel⟩
def d_l_draw : DefD := ⟨("_law_draw", none), "_law_draw", "_law_draw", defArgs s_l_draw, defBody s_l_draw, defScope s_l_draw, [], []⟩
abbrev s_l_seats : Stmt := (top 22)
abbrev n_l_seats : List Str := ["_law_purse_here", "_law_ring", "_law_many", "_law_pool", "_law_found", "_law_k"]
abbrev p_l_seats : List Str := ["_law_purse_here", "_law_ring", "_law_many"]
theorem sc_l_seats : FnScope n_l_seats p_l_seats (defScope s_l_seats) := ⟨rfl, rfl, rfl, by decide +kernel, rfl, by decide +kernel, by decide +kernel⟩
def d_l_seats : DefD := ⟨("_law_seats", none), "_law_seats", "_law_seats", defArgs s_l_seats, defBody s_l_seats, defScope s_l_seats, [], []⟩
abbrev s_whole : Stmt := (top 5)
abbrev n_whole : List Str := ["value", "low", "high"]
abbrev p_whole : List Str := ["value", "low", "high"]
theorem sc_whole : FnScope n_whole p_whole (defScope s_whole) := ⟨rfl, rfl, rfl, by decide +kernel, rfl, by decide +kernel, by decide +kernel⟩
def d_whole : DefD := ⟨("whole", none), "whole", "whole", defArgs s_whole, defBody s_whole, defScope s_whole, [], []⟩
abbrev s_Setting_init : Stmt := (inClass (top 6) 5)
abbrev n_Setting_init : List Str := ["self", "bits", "patience", "room", "grace", "helpers"]
abbrev p_Setting_init : List Str := ["self", "bits", "patience", "room", "grace", "helpers"]
theorem sc_Setting_init : FnScope n_Setting_init p_Setting_init (defScope s_Setting_init) := ⟨rfl, rfl, rfl, by decide +kernel, rfl, by decide +kernel, by decide +kernel⟩
def d_Setting_init : DefD := ⟨("Setting", some "__init__"), "__init__", "Setting.__init__", defArgs s_Setting_init, defBody s_Setting_init, defScope s_Setting_init, [], [("grace", .int 6), ("helpers", .int 1)]⟩
abbrev s_Setting_seats : Stmt := (inClass (top 6) 7)
abbrev n_Setting_seats : List Str := ["self"]
abbrev p_Setting_seats : List Str := ["self"]
theorem sc_Setting_seats : FnScope n_Setting_seats p_Setting_seats (defScope s_Setting_seats) := ⟨rfl, rfl, rfl, by decide +kernel, rfl, by decide +kernel, by decide +kernel⟩
def g_Setting_seats : GetD := ⟨"Setting", "seats", "seats", "Setting.seats", defArgs s_Setting_seats, defBody s_Setting_seats, defScope s_Setting_seats⟩
abbrev s_distance : Stmt := (top 7)
abbrev n_distance : List Str := ["setting", "seat", "other"]
abbrev p_distance : List Str := ["setting", "seat", "other"]
theorem sc_distance : FnScope n_distance p_distance (defScope s_distance) := ⟨rfl, rfl, rfl, by decide +kernel, rfl, by decide +kernel, by decide +kernel⟩
def d_distance : DefD := ⟨("distance", none), "distance", "distance", defArgs s_distance, defBody s_distance, defScope s_distance, [], []⟩
abbrev s_block_of : Stmt := (top 9)
abbrev n_block_of : List Str := ["setting", "beat"]
abbrev p_block_of : List Str := ["setting", "beat"]
theorem sc_block_of : FnScope n_block_of p_block_of (defScope s_block_of) := ⟨rfl, rfl, rfl, by decide +kernel, rfl, by decide +kernel, by decide +kernel⟩
def d_block_of : DefD := ⟨("block_of", none), "block_of", "block_of", defArgs s_block_of, defBody s_block_of, defScope s_block_of, [], []⟩
abbrev s_nearest : Stmt := (top 10)
abbrev n_nearest : List Str := ["setting", "seat", "offset", "held", "found", "reach", "other", "way"]
abbrev p_nearest : List Str := ["setting", "seat", "offset", "held"]
theorem sc_nearest : FnScope n_nearest p_nearest (defScope s_nearest) := ⟨rfl, rfl, rfl, by decide +kernel, rfl, by decide +kernel, by decide +kernel⟩
def d_nearest : DefD := ⟨("nearest", none), "nearest", "nearest", defArgs s_nearest, defBody s_nearest, defScope s_nearest, [], []⟩
abbrev s_fingers : Stmt := (top 11)
abbrev n_fingers : List Str := ["setting", "seat", "held", "found", "offset", "_"]
abbrev p_fingers : List Str := ["setting", "seat", "held"]
theorem sc_fingers : FnScope n_fingers p_fingers (defScope s_fingers) := ⟨rfl, rfl, rfl, by decide +kernel, rfl, by decide +kernel, by decide +kernel⟩
def d_fingers : DefD := ⟨("fingers", none), "fingers", "fingers", defArgs s_fingers, defBody s_fingers, defScope s_fingers, [], []⟩
abbrev s_finger_table : Stmt := (top 12)
abbrev n_finger_table : List Str := ["setting", "held", "seat"]
abbrev p_finger_table : List Str := ["setting", "held"]
theorem sc_finger_table : FnScope n_finger_table p_finger_table (defScope s_finger_table) := ⟨rfl, rfl, rfl, by decide +kernel, rfl, by decide +kernel, by decide +kernel⟩
def d_finger_table : DefD := ⟨("finger_table", none), "finger_table", "finger_table", defArgs s_finger_table, defBody s_finger_table, defScope s_finger_table, [], []⟩
abbrev s_called_at : Stmt := (top 13)
abbrev n_called_at : List Str := ["setting", "table", "seat", "beat", "row"]
abbrev p_called_at : List Str := ["setting", "table", "seat", "beat"]
theorem sc_called_at : FnScope n_called_at p_called_at (defScope s_called_at) := ⟨rfl, rfl, rfl, by decide +kernel, rfl, by decide +kernel, by decide +kernel⟩
def d_called_at : DefD := ⟨("called_at", none), "called_at", "called_at", defArgs s_called_at, defBody s_called_at, defScope s_called_at, [], []⟩
abbrev s_copied : Stmt := (top 16)
abbrev n_copied : List Str := ["shifts"]
abbrev p_copied : List Str := ["shifts"]
theorem sc_copied : FnScope n_copied p_copied (defScope s_copied) := ⟨rfl, rfl, rfl, by decide +kernel, rfl, by decide +kernel, by decide +kernel⟩
def d_copied : DefD := ⟨("copied", none), "copied", "copied", defArgs s_copied, defBody s_copied, defScope s_copied, [], []⟩
abbrev s_Spread_init : Stmt := (inClass (top 15) 0)
abbrev n_Spread_init : List Str := ["self", "setting", "held", "origins", "start", "tellings", "shifts", "seat"]
abbrev p_Spread_init : List Str := ["self", "setting", "held", "origins", "start", "tellings", "shifts"]
theorem sc_Spread_init : FnScope n_Spread_init p_Spread_init (defScope s_Spread_init) := ⟨rfl, rfl, rfl, by decide +kernel, rfl, by decide +kernel, by decide +kernel⟩
def d_Spread_init : DefD := ⟨("Spread", some "__init__"), "__init__", "Spread.__init__", defArgs s_Spread_init, defBody s_Spread_init, defScope s_Spread_init, [], [("tellings", .non), ("shifts", .non)]⟩
abbrev s_Spread__may_tell : Stmt := (inClass (top 15) 1)
abbrev n_Spread__may_tell : List Str := ["self", "seat"]
abbrev p_Spread__may_tell : List Str := ["self", "seat"]
theorem sc_Spread__may_tell : FnScope n_Spread__may_tell p_Spread__may_tell (defScope s_Spread__may_tell) := ⟨rfl, rfl, rfl, by decide +kernel, rfl, by decide +kernel, by decide +kernel⟩
def d_Spread__may_tell : DefD := ⟨("Spread", some "_may_tell"), "_may_tell", "Spread._may_tell", defArgs s_Spread__may_tell, defBody s_Spread__may_tell, defScope s_Spread__may_tell, [], []⟩
abbrev s_Spread__called : Stmt := (inClass (top 15) 2)
abbrev n_Spread__called : List Str := ["self", "seat", "beat"]
abbrev p_Spread__called : List Str := ["self", "seat"]
theorem sc_Spread__called : FnScope n_Spread__called p_Spread__called (defScope s_Spread__called) := ⟨rfl, rfl, rfl, by decide +kernel, rfl, by decide +kernel, by decide +kernel⟩
def d_Spread__called : DefD := ⟨("Spread", some "_called"), "_called", "Spread._called", defArgs s_Spread__called, defBody s_Spread__called, defScope s_Spread__called, [], []⟩
abbrev s_Spread_known : Stmt := (inClass (top 15) 4)
abbrev n_Spread_known : List Str := ["self"]
abbrev p_Spread_known : List Str := ["self"]
theorem sc_Spread_known : FnScope n_Spread_known p_Spread_known (defScope s_Spread_known) := ⟨rfl, rfl, rfl, by decide +kernel, rfl, by decide +kernel, by decide +kernel⟩
def d_Spread_known : DefD := ⟨("Spread", some "known"), "known", "Spread.known", defArgs s_Spread_known, defBody s_Spread_known, defScope s_Spread_known, [], []⟩
abbrev s_Spread_since : Stmt := (inClass (top 15) 5)
abbrev n_Spread_since : List Str := ["self", "seat"]
abbrev p_Spread_since : List Str := ["self", "seat"]
theorem sc_Spread_since : FnScope n_Spread_since p_Spread_since (defScope s_Spread_since) := ⟨rfl, rfl, rfl, by decide +kernel, rfl, by decide +kernel, by decide +kernel⟩
def d_Spread_since : DefD := ⟨("Spread", some "since"), "since", "Spread.since", defArgs s_Spread_since, defBody s_Spread_since, defScope s_Spread_since, [], []⟩
abbrev s_Spread_step : Stmt := (inClass (top 15) 3)
abbrev n_Spread_step : List Str := ["self", "lost", "found", "seat", "called"]
abbrev p_Spread_step : List Str := ["self", "lost"]
theorem sc_Spread_step : FnScope n_Spread_step p_Spread_step (defScope s_Spread_step) := ⟨rfl, rfl, rfl, by decide +kernel, rfl, by decide +kernel, by decide +kernel⟩
def d_Spread_step : DefD := ⟨("Spread", some "step"), "step", "Spread.step", defArgs s_Spread_step, defBody s_Spread_step, defScope s_Spread_step, [.adr (He.dflAt (("Spread", some "step")) 0)], []⟩
abbrev s_Spread_done : Stmt := (inClass (top 15) 6)
abbrev n_Spread_done : List Str := ["self"]
abbrev p_Spread_done : List Str := ["self"]
theorem sc_Spread_done : FnScope n_Spread_done p_Spread_done (defScope s_Spread_done) := ⟨rfl, rfl, rfl, by decide +kernel, rfl, by decide +kernel, by decide +kernel⟩
def g_Spread_done : GetD := ⟨"Spread", "done", "done", "Spread.done", defArgs s_Spread_done, defBody s_Spread_done, defScope s_Spread_done⟩
abbrev s_Spread_stuck : Stmt := (inClass (top 15) 7)
abbrev n_Spread_stuck : List Str := ["self", "seat"]
abbrev p_Spread_stuck : List Str := ["self"]
theorem sc_Spread_stuck : FnScope n_Spread_stuck p_Spread_stuck (defScope s_Spread_stuck) := ⟨rfl, rfl, rfl, by decide +kernel, rfl, by decide +kernel, by decide +kernel⟩
def g_Spread_stuck : GetD := ⟨"Spread", "stuck", "stuck", "Spread.stuck", defArgs s_Spread_stuck, defBody s_Spread_stuck, defScope s_Spread_stuck⟩
abbrev s_l_setting : Stmt := (top 21)
abbrev n_l_setting : List Str := ["_law_purse_here", "_law_bits", "_law_patience", "_law_room", "_law_long"]
abbrev p_l_setting : List Str := ["_law_purse_here", "_law_bits", "_law_patience"]
theorem sc_l_setting : FnScope n_l_setting p_l_setting (defScope s_l_setting) := ⟨rfl, rfl, rfl, by decide +kernel, rfl, by decide +kernel, by decide +kernel⟩
def d_l_setting : DefD := ⟨("_law_setting", none), "_law_setting", "_law_setting", defArgs s_l_setting, defBody s_l_setting, defScope s_l_setting, [], []⟩
abbrev s_l_table : Stmt := (top 26)
abbrev n_l_table : List Str := ["_law_bits", "_law_held", "_law_callers", "_law_ring", "_law_there", "_law_seat", "_law_table_here", "_law_phase", "_law_line", "_law_way", "_law_place"]
abbrev p_l_table : List Str := ["_law_bits", "_law_held", "_law_callers"]
theorem sc_l_table : FnScope n_l_table p_l_table (defScope s_l_table) := ⟨rfl, rfl, rfl, by decide +kernel, rfl, by decide +kernel, by decide +kernel⟩
def d_l_table : DefD := ⟨("_law_table", none), "_law_table", "_law_table", defArgs s_l_table, defBody s_l_table, defScope s_l_table, [], []⟩
abbrev s_l_start : Stmt := (top 24)
abbrev n_l_start : List Str := ["_law_purse_here", "_law_turn", "_law_start_here", "_law_k"]
abbrev p_l_start : List Str := ["_law_purse_here", "_law_turn"]
theorem sc_l_start : FnScope n_l_start p_l_start (defScope s_l_start) := ⟨rfl, rfl, rfl, by decide +kernel, rfl, by decide +kernel, by decide +kernel⟩
def d_l_start : DefD := ⟨("_law_start", none), "_law_start", "_law_start", defArgs s_l_start, defBody s_l_start, defScope s_l_start, [], []⟩
abbrev s_l_delays : Stmt := (top 25)
abbrev n_l_delays : List Str := ["_law_purse_here", "_law_held", "_law_turn", "_law_delays_here", "_law_seat"]
abbrev p_l_delays : List Str := ["_law_purse_here", "_law_held", "_law_turn"]
theorem sc_l_delays : FnScope n_l_delays p_l_delays (defScope s_l_delays) := ⟨rfl, rfl, rfl, by decide +kernel, rfl, by decide +kernel, by decide +kernel⟩
def d_l_delays : DefD := ⟨("_law_delays", none), "_law_delays", "_law_delays", defArgs s_l_delays, defBody s_l_delays, defScope s_l_delays, [], []⟩
abbrev s_l_goal : Stmt := (top 27)
abbrev n_l_goal : List Str := ["_law_group_here", "_law_seat", "_law_index", "_law_turn", "_law_beat", "_law_phase", "_law_line"]
abbrev p_l_goal : List Str := ["_law_group_here", "_law_seat", "_law_index"]
theorem sc_l_goal : FnScope n_l_goal p_l_goal (defScope s_l_goal) := ⟨rfl, rfl, rfl, by decide +kernel, rfl, by decide +kernel, by decide +kernel⟩
def d_l_goal : DefD := ⟨("_law_goal", none), "_law_goal", "_law_goal", defArgs s_l_goal, defBody s_l_goal, defScope s_l_goal, [], []⟩
abbrev s_l_number : Stmt := (top 28)
abbrev n_l_number : List Str := ["_law_found", "_law_wanted"]
abbrev p_l_number : List Str := ["_law_found", "_law_wanted"]
theorem sc_l_number : FnScope n_l_number p_l_number (defScope s_l_number) := ⟨rfl, rfl, rfl, by decide +kernel, rfl, by decide +kernel, by decide +kernel⟩
def d_l_number : DefD := ⟨("_law_number", none), "_law_number", "_law_number", defArgs s_l_number, defBody s_l_number, defScope s_l_number, [], []⟩
abbrev s_l_step : Stmt := (top 29)
abbrev n_l_step : List Str := ["_law_group_here", "_law_times", "_law_spent", "_law_index", "_law_lost", "_law_limit", "_law_newly", "_law_seat", "_law_goal_here", "_law_more"]
abbrev p_l_step : List Str := ["_law_group_here", "_law_times", "_law_spent", "_law_index", "_law_lost", "_law_limit"]
theorem sc_l_step : FnScope n_l_step p_l_step (defScope s_l_step) := ⟨rfl, rfl, rfl, by decide +kernel, rfl, by decide +kernel, by decide +kernel⟩
def d_l_step : DefD := ⟨("_law_step", none), "_law_step", "_law_step", defArgs s_l_step, defBody s_l_step, defScope s_l_step, [], []⟩
abbrev s_l_some : Stmt := (top 23)
abbrev n_l_some : List Str := ["_law_purse_here", "_law_held", "_law_at", "_law_extra", "_law_pool", "_law_found", "_law_k"]
abbrev p_l_some : List Str := ["_law_purse_here", "_law_held"]
theorem sc_l_some : FnScope n_l_some p_l_some (defScope s_l_some) := ⟨rfl, rfl, rfl, by decide +kernel, rfl, by decide +kernel, by decide +kernel⟩
def d_l_some : DefD := ⟨("_law_some", none), "_law_some", "_law_some", defArgs s_l_some, defBody s_l_some, defScope s_l_some, [], []⟩
abbrev s_l_seats_are : Stmt := (top 32)
abbrev n_l_seats_are : List Str := ["_law_found", "_law_wanted", "_law_k"]
abbrev p_l_seats_are : List Str := ["_law_found", "_law_wanted"]
theorem sc_l_seats_are : FnScope n_l_seats_are p_l_seats_are (defScope s_l_seats_are) := ⟨rfl, rfl, rfl, by decide +kernel, rfl, by decide +kernel, by decide +kernel⟩
def d_l_seats_are : DefD := ⟨("_law_seats_are", none), "_law_seats_are", "_law_seats_are", defArgs s_l_seats_are, defBody s_l_seats_are, defScope s_l_seats_are, [], []⟩
abbrev s_l_group : Stmt := (top 30)
abbrev n_l_group : List Str := ["_law_purse_here", "_law_bits", "_law_patience", "_law_held", "_law_table_here", "_law_turn", "_law_group_here", "_law_way", "_law_times", "_law_seat", "_law_spent"]
abbrev p_l_group : List Str := ["_law_purse_here", "_law_bits", "_law_patience", "_law_held", "_law_table_here"]
theorem sc_l_group : FnScope n_l_group p_l_group (defScope s_l_group) := ⟨rfl, rfl, rfl, by decide +kernel, rfl, by decide +kernel, by decide +kernel⟩
def d_l_group : DefD := ⟨("_law_group", none), "_law_group", "_law_group", defArgs s_l_group, defBody s_l_group, defScope s_l_group, [], []⟩
abbrev s_l_spread : Stmt := (top 31)
abbrev n_l_spread : List Str := ["_law_setting_here", "_law_shared", "_law_group_here", "_law_origins", "_law_delays_here", "_law_start_here", "_law_limit"]
abbrev p_l_spread : List Str := ["_law_setting_here", "_law_shared", "_law_group_here", "_law_origins", "_law_delays_here"]
theorem sc_l_spread : FnScope n_l_spread p_l_spread (defScope s_l_spread) := ⟨rfl, rfl, rfl, by decide +kernel, rfl, by decide +kernel, by decide +kernel⟩
def d_l_spread : DefD := ⟨("_law_spread", none), "_law_spread", "_law_spread", defArgs s_l_spread, defBody s_l_spread, defScope s_l_spread, [], []⟩
abbrev s_l_shows : Stmt := (top 33)
abbrev n_l_shows : List Str := ["_law_runner", "_law_group_here", "_law_times", "_law_seat", "_law_found", "_law_spent", "_law_over"]
abbrev p_l_shows : List Str := ["_law_runner", "_law_group_here"]
theorem sc_l_shows : FnScope n_l_shows p_l_shows (defScope s_l_shows) := ⟨rfl, rfl, rfl, by decide +kernel, rfl, by decide +kernel, by decide +kernel⟩
def d_l_shows : DefD := ⟨("_law_shows", none), "_law_shows", "_law_shows", defArgs s_l_shows, defBody s_l_shows, defScope s_l_shows, [], []⟩
abbrev s_l_stepped : Stmt := (top 34)
abbrev n_l_stepped : List Str := ["_law_purse_here", "_law_runner", "_law_group_here", "_law_index", "_law_lost", "_law_seat", "_law_wanted", "_law_way", "_law_handed"]
abbrev p_l_stepped : List Str := ["_law_purse_here", "_law_runner", "_law_group_here"]
theorem sc_l_stepped : FnScope n_l_stepped p_l_stepped (defScope s_l_stepped) := ⟨rfl, rfl, rfl, by decide +kernel, rfl, by decide +kernel, by decide +kernel⟩
def d_l_stepped : DefD := ⟨("_law_stepped", none), "_law_stepped", "_law_stepped", defArgs s_l_stepped, defBody s_l_stepped, defScope s_l_stepped, [], []⟩
abbrev s_law : Stmt := (top 35)
abbrev n_law : List Str := ["_law_script", "_law_purse_here", "_law_bits", "_law_patience", "_law_ring", "_law_setting_here", "_law_held", "_law_table_here", "_law_groups", "_law_many", "_law_shared", "_law_runners", "_law_lent", "_law_group_here", "_law_k", "_law_origins", "_law_delays_here", "_law_index", "_law_told", "_law_kept", "_law_looked"]
abbrev p_law : List Str := ["_law_script"]
theorem sc_law : FnScope n_law p_law (defScope s_law) := ⟨rfl, rfl, rfl, by decide +kernel, rfl, by decide +kernel, by decide +kernel⟩
def d_law : DefD := ⟨("law", none), "law", "law", defArgs s_law, defBody s_law, defScope s_law, [], []⟩
def fn : List DefD := [d_l_purse, d_l_mixed, d_l_draw, d_l_seats, d_whole, d_Setting_init, d_distance, d_block_of, d_nearest, d_fingers, d_finger_table, d_called_at, d_copied, d_Spread_init, d_Spread__may_tell, d_Spread__called, d_Spread_known, d_Spread_since, d_Spread_step, d_l_setting, d_l_table, d_l_start, d_l_delays, d_l_goal, d_l_number, d_l_step, d_l_some, d_l_seats_are, d_l_group, d_l_spread, d_l_shows, d_l_stepped, d_law]
def fa : List Fa := [.free "any", .free "bool", .free "dict", .free "int", .free "isinstance", .free "len", .free "list", .free "min", .free "range", .free "repr", .free "sorted", .free "tuple", .glo "_law_purse", .glo "_law_mixed", .glo "_law_draw", .glo "_law_seats", .glo "whole", .glo "distance", .glo "block_of", .glo "nearest", .glo "fingers", .glo "finger_table", .glo "called_at", .glo "copied", .meth "Spread" "_may_tell", .meth "Spread" "_called", .meth "Spread" "known", .meth "Spread" "since", .meth "Spread" "step", .glo "_law_setting", .glo "_law_table", .glo "_law_start", .glo "_law_delays", .glo "_law_goal", .glo "_law_number", .glo "_law_step", .glo "_law_some", .glo "_law_seats_are", .glo "_law_group", .glo "_law_spread", .glo "_law_shows", .glo "_law_stepped", .glo "law", .glo "Setting", .cls "Setting", .mkr "Setting", .noat "Setting" "bits", .noat "Setting" "patience", .noat "Setting" "room", .noat "Setting" "grace", .noat "Setting" "helpers", .glo "Spread", .cls "Spread", .mkr "Spread", .noat "Spread" "rounds", .noat "Spread" "_setting", .noat "Spread" "_start", .noat "Spread" "_tellings", .noat "Spread" "_shifts", .noat "Spread" "_table", .noat "Spread" "_made", .noat "Spread" "_since"]
def ex (K : PySem.W.Frag) : Bool := (tupA K (He.dflAt ("Spread", some "step") 0 K) []) && (conB K "Setting" "MOST_BITS" (.int 8) && (conB K "Setting" "MOST_PATIENCE" (.int 6) && (conB K "Setting" "MOST_ROOM" (.int 64) && (conB K "Setting" "MOST_GRACE" (.int 200) && (conB K "Setting" "MOST_HELPERS" (.int 3))))))
def tf : List He.Defn := []
def gs : List GetD := [g_Setting_seats, g_Spread_done, g_Spread_stuck]
abbrev TT (K : PySem.W.Frag) : List (Addr × Str) := []
structure Tb (K : PySem.W.Frag) (mg : Str → Option Value) (base : Heap) : Prop where
  t : ∀ p, p ∈ tf.map (He.cT K) → LamX.TabB base mg p.1 p.2
  g : ∀ d, d ∈ gs → PropOf K (ga K d.cls) d.fld (prA K d.cls d.fld) (prG K d.cls d.fld) ∧ ∃ fd, FunD K d.name d.qual d.params d.body d.scope [] [] (prG K d.cls d.fld) fd
abbrev Cx (K : PySem.W.Frag) (mg : Str → Option Value) : Prop := RD.Ctx fa fn ex K mg
section
variable {K : PySem.W.Frag} {mg : Str → Option Value}
theorem fr_any (T : Cx K mg) : mg "any" = none := T.fre 0
theorem fr_bool (T : Cx K mg) : mg "bool" = none := T.fre 1
theorem fr_dict (T : Cx K mg) : mg "dict" = none := T.fre 2
theorem fr_int (T : Cx K mg) : mg "int" = none := T.fre 3
theorem fr_isinstance (T : Cx K mg) : mg "isinstance" = none := T.fre 4
theorem fr_len (T : Cx K mg) : mg "len" = none := T.fre 5
theorem fr_list (T : Cx K mg) : mg "list" = none := T.fre 6
theorem fr_min (T : Cx K mg) : mg "min" = none := T.fre 7
theorem fr_range (T : Cx K mg) : mg "range" = none := T.fre 8
theorem fr_repr (T : Cx K mg) : mg "repr" = none := T.fre 9
theorem fr_sorted (T : Cx K mg) : mg "sorted" = none := T.fre 10
theorem fr_tuple (T : Cx K mg) : mg "tuple" = none := T.fre 11
theorem gl_l_purse (T : Cx K mg) : mg "_law_purse" = some (.ref (ga K "_law_purse")) := T.glo 12
theorem gl_l_mixed (T : Cx K mg) : mg "_law_mixed" = some (.ref (ga K "_law_mixed")) := T.glo 13
theorem gl_l_draw (T : Cx K mg) : mg "_law_draw" = some (.ref (ga K "_law_draw")) := T.glo 14
theorem gl_l_seats (T : Cx K mg) : mg "_law_seats" = some (.ref (ga K "_law_seats")) := T.glo 15
theorem gl_whole (T : Cx K mg) : mg "whole" = some (.ref (ga K "whole")) := T.glo 16
theorem gl_distance (T : Cx K mg) : mg "distance" = some (.ref (ga K "distance")) := T.glo 17
theorem gl_block_of (T : Cx K mg) : mg "block_of" = some (.ref (ga K "block_of")) := T.glo 18
theorem gl_nearest (T : Cx K mg) : mg "nearest" = some (.ref (ga K "nearest")) := T.glo 19
theorem gl_fingers (T : Cx K mg) : mg "fingers" = some (.ref (ga K "fingers")) := T.glo 20
theorem gl_finger_table (T : Cx K mg) : mg "finger_table" = some (.ref (ga K "finger_table")) := T.glo 21
theorem gl_called_at (T : Cx K mg) : mg "called_at" = some (.ref (ga K "called_at")) := T.glo 22
theorem gl_copied (T : Cx K mg) : mg "copied" = some (.ref (ga K "copied")) := T.glo 23
theorem mt_Spread__may_tell (T : Cx K mg) : Meth K (ga K "Spread") "_may_tell" (ma K (ga K "Spread") "_may_tell") := T.meth 24
theorem mt_Spread__called (T : Cx K mg) : Meth K (ga K "Spread") "_called" (ma K (ga K "Spread") "_called") := T.meth 25
theorem mt_Spread_known (T : Cx K mg) : Meth K (ga K "Spread") "known" (ma K (ga K "Spread") "known") := T.meth 26
theorem mt_Spread_since (T : Cx K mg) : Meth K (ga K "Spread") "since" (ma K (ga K "Spread") "since") := T.meth 27
theorem mt_Spread_step (T : Cx K mg) : Meth K (ga K "Spread") "step" (ma K (ga K "Spread") "step") := T.meth 28
theorem gl_l_setting (T : Cx K mg) : mg "_law_setting" = some (.ref (ga K "_law_setting")) := T.glo 29
theorem gl_l_table (T : Cx K mg) : mg "_law_table" = some (.ref (ga K "_law_table")) := T.glo 30
theorem gl_l_start (T : Cx K mg) : mg "_law_start" = some (.ref (ga K "_law_start")) := T.glo 31
theorem gl_l_delays (T : Cx K mg) : mg "_law_delays" = some (.ref (ga K "_law_delays")) := T.glo 32
theorem gl_l_goal (T : Cx K mg) : mg "_law_goal" = some (.ref (ga K "_law_goal")) := T.glo 33
theorem gl_l_number (T : Cx K mg) : mg "_law_number" = some (.ref (ga K "_law_number")) := T.glo 34
theorem gl_l_step (T : Cx K mg) : mg "_law_step" = some (.ref (ga K "_law_step")) := T.glo 35
theorem gl_l_some (T : Cx K mg) : mg "_law_some" = some (.ref (ga K "_law_some")) := T.glo 36
theorem gl_l_seats_are (T : Cx K mg) : mg "_law_seats_are" = some (.ref (ga K "_law_seats_are")) := T.glo 37
theorem gl_l_group (T : Cx K mg) : mg "_law_group" = some (.ref (ga K "_law_group")) := T.glo 38
theorem gl_l_spread (T : Cx K mg) : mg "_law_spread" = some (.ref (ga K "_law_spread")) := T.glo 39
theorem gl_l_shows (T : Cx K mg) : mg "_law_shows" = some (.ref (ga K "_law_shows")) := T.glo 40
theorem gl_l_stepped (T : Cx K mg) : mg "_law_stepped" = some (.ref (ga K "_law_stepped")) := T.glo 41
theorem gl_law (T : Cx K mg) : mg "law" = some (.ref (ga K "law")) := T.glo 42
theorem gl_Setting (T : Cx K mg) : mg "Setting" = some (.ref (ga K "Setting")) := T.glo 43
theorem cl_Setting (T : Cx K mg) : Cls K (ga K "Setting") := T.cls 44
theorem mk_Setting (T : Cx K mg) : Mk K (ga K "Setting") (ma K (ga K "Setting") "__init__") := T.mkr 45
theorem na_Setting_bits (T : Cx K mg) : NoAttr K (ga K "Setting") "bits" := T.noat 46
theorem na_Setting_patience (T : Cx K mg) : NoAttr K (ga K "Setting") "patience" := T.noat 47
theorem na_Setting_room (T : Cx K mg) : NoAttr K (ga K "Setting") "room" := T.noat 48
theorem na_Setting_grace (T : Cx K mg) : NoAttr K (ga K "Setting") "grace" := T.noat 49
theorem na_Setting_helpers (T : Cx K mg) : NoAttr K (ga K "Setting") "helpers" := T.noat 50
theorem gl_Spread (T : Cx K mg) : mg "Spread" = some (.ref (ga K "Spread")) := T.glo 51
theorem cl_Spread (T : Cx K mg) : Cls K (ga K "Spread") := T.cls 52
theorem mk_Spread (T : Cx K mg) : Mk K (ga K "Spread") (ma K (ga K "Spread") "__init__") := T.mkr 53
theorem na_Spread_rounds (T : Cx K mg) : NoAttr K (ga K "Spread") "rounds" := T.noat 54
theorem na_Spread__setting (T : Cx K mg) : NoAttr K (ga K "Spread") "_setting" := T.noat 55
theorem na_Spread__start (T : Cx K mg) : NoAttr K (ga K "Spread") "_start" := T.noat 56
theorem na_Spread__tellings (T : Cx K mg) : NoAttr K (ga K "Spread") "_tellings" := T.noat 57
theorem na_Spread__shifts (T : Cx K mg) : NoAttr K (ga K "Spread") "_shifts" := T.noat 58
theorem na_Spread__table (T : Cx K mg) : NoAttr K (ga K "Spread") "_table" := T.noat 59
theorem na_Spread__made (T : Cx K mg) : NoAttr K (ga K "Spread") "_made" := T.noat 60
theorem na_Spread__since (T : Cx K mg) : NoAttr K (ga K "Spread") "_since" := T.noat 61
end
abbrev purse (c : Addr) (at_ rest left mixed seed count : Int) : List (Key × V) := [(.inr "cells", .ref c), (.inr "at", .int at_), (.inr "rest", .int rest), (.inr "left", .int left), (.inr "mixed", .int mixed), (.inr "seed", .int seed), (.inr "count", .int count)]
theorem merge_purse (c : Addr) (a b d e f g : Int) : mergeK [] (purse c a b d e f g) = purse c a b d e f g := rfl
theorem put_count (c : Addr) (a b d e f g h : Int) : putK (purse c a b d e f g) (.inr "count") (.int h) = purse c a b d e f h := rfl
/-- the purse of draws: at p a dict, at c its cells -/
structure Purse (H : Hp) (p c : Addr) : Prop where
  ex : ∃ (ns : List Int) (at_ rest left mixed seed count : Int), H p = some (.dK (purse c at_ rest left mixed seed count)) ∧ H c = some (.lst (ns.map V.int)) ∧ 0 ≤ at_ ∧ ns.length ≤ 63
theorem Purse.kp {H H' : Hp} {p c : Addr} {ps : List Addr} (B : Purse H p c) (k : Kp ps H H') (n1 : p ∉ ps) (n2 : c ∉ ps) : Purse H' p c := by
  obtain ⟨ns, a, b, d, e, f, g, h1, h2, h3, h4⟩ := B
  exact ⟨ns, a, b, d, e, f, g, k _ _ h1 n1, k _ _ h2 n2, h3, h4⟩
theorem Purse.k0 {H H' : Hp} {p c : Addr} (B : Purse H p c) (k : Kp [] H H') : Purse H' p c := B.kp k (by simp) (by simp)
theorem Purse.off {H : Hp} {p c x : Addr} {xs : List V} (B : Purse H p c) (h : H x = some (.lst xs)) : x ≠ p := by
  obtain ⟨ns, a, b, d, e, f, g, h1, -⟩ := B
  exact ne_of h h1 (by intro z; cases z)
theorem Purse.offT {H : Hp} {p c x : Addr} {xs : List V} (B : Purse H p c) (h : H x = some (.tup xs)) : x ≠ p := by
  obtain ⟨ns, a, b, d, e, f, g, h1, -⟩ := B
  exact ne_of h h1 (by intro z; cases z)
theorem erase_perm : ∀ {us : List Int} {k : Nat} (h : k < us.length), (us[k] :: us.eraseIdx k).Perm us
  | x :: r, 0, _ => List.Perm.refl _
  | x :: r, k + 1, h => by
    have ih := erase_perm (us := r) (k := k) (by simpa using h)
    exact (List.Perm.swap x _ _).trans (ih.cons x)
theorem seqIx {i : Int} {n : Nat} (h0 : 0 ≤ i) (h1 : i < n) : seqIndex? i n = some i.toNat := by
  obtain ⟨j, rfl⟩ := Int.eq_ofNat_of_zero_le h0
  have e : ixN n (j : Int) = some j := by
    unfold ixN
    rw [if_pos (by omega), if_pos (by omega)]
    simp
  exact (ixN_seq e).1
theorem erase_map : ∀ {pl : List Int} {k : Nat}, (pl.map V.int).eraseIdx k = (pl.eraseIdx k).map V.int
  | [], _ => rfl
  | _ :: _, 0 => rfl
  | x :: r, k + 1 => by
    show V.int x :: (r.map V.int).eraseIdx k = V.int x :: (r.eraseIdx k).map V.int
    rw [erase_map]

/-- the numbers of a setting -/
structure Stg where
  bits : Int
  pat : Int
  room : Int
  grace : Int
  hel : Int
structure Stg.Ok (s : Stg) : Prop where
  b0 : 1 ≤ s.bits
  b1 : s.bits ≤ 8
  p0 : 1 ≤ s.pat
  p1 : s.pat ≤ 6
  r0 : 1 ≤ s.room
  r1 : s.room ≤ 64
  g0 : 1 ≤ s.grace
  g1 : s.grace ≤ 200
  h0 : 0 ≤ s.hel
  h1 : s.hel ≤ 3
@[irreducible] def Stg.ring (s : Stg) : Int := 2 ^ s.bits.toNat
theorem Stg.ring_eq (s : Stg) : s.ring = 2 ^ s.bits.toNat := by
  unfold Stg.ring
  rfl
def Stg.fs (s : Stg) : List (Str × V) := [(("bits" : Str), .int s.bits), (("patience" : Str), .int s.pat), (("room" : Str), .int s.room), (("grace" : Str), .int s.grace), (("helpers" : Str), .int s.hel)]
theorem Stg.Ok.ring {s : Stg} (h : s.Ok) : s.ring = 2 ∨ s.ring = 4 ∨ s.ring = 8 ∨ s.ring = 16 ∨ s.ring = 32 ∨ s.ring = 64 ∨ s.ring = 128 ∨ s.ring = 256 := by
  have h0 := h.b0
  have h1 := h.b1
  have e : s.bits = 1 ∨ s.bits = 2 ∨ s.bits = 3 ∨ s.bits = 4 ∨ s.bits = 5 ∨ s.bits = 6 ∨ s.bits = 7 ∨ s.bits = 8 := by omega
  rw [Stg.ring_eq]
  rcases e with e | e | e | e | e | e | e | e <;> rw [e] <;> decide
theorem Stg.Ok.r2 {s : Stg} (h : s.Ok) : 2 ≤ s.ring := by
  have := h.ring
  omega
theorem Stg.Ok.r256 {s : Stg} (h : s.Ok) : s.ring ≤ 256 := by
  have := h.ring
  omega
/-- a setting stands at p -/
structure SetAt (K : PySem.W.Frag) (H : Hp) (p : Addr) (s : Stg) : Prop where
  ex : ∃ dx : Addr, H p = some (.ins (ga K "Setting") dx s.fs)
  ok : s.Ok
theorem SetAt.kp {K : PySem.W.Frag} {H H' : Hp} {p : Addr} {s : Stg} {ps : List Addr} (S : SetAt K H p s) (k : Kp ps H H') (n : p ∉ ps) : SetAt K H' p s := by
  obtain ⟨⟨dx, h⟩, ok⟩ := S
  exact ⟨⟨dx, k _ _ h n⟩, ok⟩
theorem SetAt.k0 {K : PySem.W.Frag} {H H' : Hp} {p : Addr} {s : Stg} (S : SetAt K H p s) (k : Kp [] H H') : SetAt K H' p s := S.kp k (by simp)
theorem SetAt.k1 {K : PySem.W.Frag} {H H' : Hp} {p q : Addr} {s : Stg} (S : SetAt K H p s) (k : Kp [q] H H') (n : p ≠ q) : SetAt K H' p s := S.kp k (by simp [n])
theorem SetAt.kt {K : PySem.W.Frag} {H H' : Hp} {p : Addr} {s : Stg} {TT : List (Addr × Str)} (S : SetAt K H p s) (k : Kt TT [] H H') : SetAt K H' p s := by
  obtain ⟨⟨dx, h⟩, ok⟩ := S
  exact ⟨⟨dx, k.g0 (by intro _ z; cases z) h⟩, ok⟩
theorem SetAt.nelst {K : PySem.W.Frag} {H : Hp} {p q : Addr} {s : Stg} {xs : List V} (S : SetAt K H p s) (h : H q = some (.lst xs)) : p ≠ q := by
  obtain ⟨⟨dx, e⟩, ok⟩ := S
  exact ne_of e h (by intro z; cases z)

theorem SetAt.neins {K : PySem.W.Frag} {H : Hp} {p q C dx : Addr} {s : Stg} {f : Str} {v : V} {fs : List (Str × V)} (S : SetAt K H p s) (h : H q = some (.ins C dx ((f, v) :: fs))) (n : f ≠ "bits") : p ≠ q := by
  obtain ⟨⟨dx, e⟩, ok⟩ := S
  refine ne_of e h fun z => ?_
  injection z with _ _ e1
  injection e1 with e2 _
  injection e2 with e3
  exact n e3.symm
theorem SetAt.neins' {K : PySem.W.Frag} {H : Hp} {p q C dx : Addr} {s : Stg} (S : SetAt K H p s) (h : H q = some (.ins C dx [])) : p ≠ q := by
  obtain ⟨⟨dx, e⟩, ok⟩ := S
  refine ne_of e h fun z => ?_
  injection z with _ _ e1
  cases e1
theorem SetAt.nedK {K : PySem.W.Frag} {H : Hp} {p q : Addr} {s : Stg} {xs : List (Key × V)} (S : SetAt K H p s) (h : H q = some (.dK xs)) : p ≠ q := by
  obtain ⟨⟨dx, e⟩, ok⟩ := S
  exact ne_of e h (by intro z; cases z)
theorem con_MOST_BITS {K : PySem.W.Frag} {mg : Str → Option Value} (T : Cx K mg) : ∃ u, Con K (ga K "Setting") "MOST_BITS" (.int 8) u := conB_ok (v := .int 8) (ba (ba T.ex).2).1
theorem con_MOST_PATIENCE {K : PySem.W.Frag} {mg : Str → Option Value} (T : Cx K mg) : ∃ u, Con K (ga K "Setting") "MOST_PATIENCE" (.int 6) u := conB_ok (v := .int 6) (ba (ba (ba T.ex).2).2).1
theorem con_MOST_ROOM {K : PySem.W.Frag} {mg : Str → Option Value} (T : Cx K mg) : ∃ u, Con K (ga K "Setting") "MOST_ROOM" (.int 64) u := conB_ok (v := .int 64) (ba (ba (ba (ba T.ex).2).2).2).1
theorem con_MOST_GRACE {K : PySem.W.Frag} {mg : Str → Option Value} (T : Cx K mg) : ∃ u, Con K (ga K "Setting") "MOST_GRACE" (.int 200) u := conB_ok (v := .int 200) (ba (ba (ba (ba (ba T.ex).2).2).2).2).1
theorem con_MOST_HELPERS {K : PySem.W.Frag} {mg : Str → Option Value} (T : Cx K mg) : ∃ u, Con K (ga K "Setting") "MOST_HELPERS" (.int 3) u := conB_ok (v := .int 3) (ba (ba (ba (ba (ba T.ex).2).2).2).2).2

theorem Purse.k1 {H H' : Hp} {p c q : Addr} (B : Purse H p c) (k : Kp [q] H H') (n1 : p ≠ q) (n2 : c ≠ q) : Purse H' p c := B.kp k (by simp [n1]) (by simp [n2])
theorem Purse.new {H : Hp} {p c q : Addr} {o : HO} (B : Purse H p c) (k : H q = none) : Purse (upd H q o) p c := B.k0 (Kp.new k)
theorem Purse.ne1 {H : Hp} {p c q : Addr} (B : Purse H p c) (k : H q = none) : p ≠ q := by
  obtain ⟨ns, a, b, d, e, f, g, h1, -⟩ := B
  exact ne_of_none h1 k
theorem Purse.ne2 {H : Hp} {p c q : Addr} (B : Purse H p c) (k : H q = none) : c ≠ q := by
  obtain ⟨ns, a, b, d, e, f, g, h1, h2, -⟩ := B
  exact ne_of_none h2 k
theorem Purse.at {H : Hp} {p c : Addr} (B : Purse H p c) : ∃ kvs, H p = some (.dK ((.inr "cells", .ref c) :: kvs)) := by
  obtain ⟨ns, a, b, d, e, f, g, h1, -⟩ := B
  exact ⟨_, h1⟩
theorem Purse.fr {H H' : Hp} {p c q : Addr} (B : Purse H' p c) (k : Kp [p] H H') (n : H' q = none) : H q = none := k.back n (by simpa using Ne.symm (B.ne1 n))
theorem Purse.dm {H : Hp} {p c q : Addr} {xs : List Int} {f : Int → V} (B : Purse H p c) (h : H q = some (.dK (dmap xs f))) : q ≠ p := by
  obtain ⟨kvs, h1⟩ := B.at
  refine ne_of h h1 fun z => ?_
  injection z with z
  cases xs with
  | nil => cases z
  | cons x r =>
    injection z with z _
    injection z with z _
    cases z
theorem Purse.lst {H : Hp} {p c q : Addr} {xs : List V} (B : Purse H p c) (h : H q = some (.lst xs)) : q ≠ p := B.off h
theorem SetAt.purse {K : PySem.W.Frag} {H : Hp} {p c q : Addr} {s : Stg} (S : SetAt K H q s) (B : Purse H p c) : q ≠ p := by
  obtain ⟨kvs, h1⟩ := B.at
  exact S.nedK h1
def Ring (r : Int) : Prop := r = 2 ∨ r = 4 ∨ r = 8 ∨ r = 16 ∨ r = 32 ∨ r = 64 ∨ r = 128 ∨ r = 256
theorem Ring.pos {r : Int} (hr : Ring r) : 0 < r := by
  rcases hr with rfl | rfl | rfl | rfl | rfl | rfl | rfl | rfl <;> omega
theorem Ring.le {r : Int} (hr : Ring r) : r ≤ 256 := by
  rcases hr with rfl | rfl | rfl | rfl | rfl | rfl | rfl | rfl <;> omega
theorem key_inj {r a b c : Int} (hr : Ring r) (a0 : 0 ≤ a) (a1 : a < r) (b0 : 0 ≤ b) (b1 : b < r) (h : (a - c) % r = (b - c) % r) : a = b := by
  rcases hr with rfl | rfl | rfl | rfl | rfl | rfl | rfl | rfl <;> omega
theorem key_walk {r c i : Int} (hr : Ring r) (i0 : 0 ≤ i) (i1 : i < r) : ((c + i) % r - c) % r = i := by
  rcases hr with rfl | rfl | rfl | rfl | rfl | rfl | rfl | rfl <;> omega
theorem key_to {r a c : Int} (hr : Ring r) (a0 : 0 ≤ a) (a1 : a < r) : (c + (a - c) % r) % r = a := by
  rcases hr with rfl | rfl | rfl | rfl | rfl | rfl | rfl | rfl <;> omega
theorem ring_pow {b : Int} (h0 : 1 ≤ b) (h1 : b ≤ 8) : Ring (2 ^ b.toNat) := by
  have e : b = 1 ∨ b = 2 ∨ b = 3 ∨ b = 4 ∨ b = 5 ∨ b = 6 ∨ b = 7 ∨ b = 8 := by omega
  unfold Ring
  rcases e with e | e | e | e | e | e | e | e <;> rw [e] <;> decide
/-! ### the nearest seat at an offset or beyond -/
def nearS (r seat off : Int) (p : Option Int × Int) (x : Int) : Option Int × Int := if off ≤ (x - seat) % r ∧ (x - seat) % r < p.2 then (some x, (x - seat) % r) else p
def nearF (r seat off : Int) (xs : List Int) : Option Int × Int := xs.foldl (nearS r seat off) (none, r)
def nearO (r seat off : Int) (xs : List Int) : Option Int := (nearF r seat off xs).1
theorem nearF_take {r seat off : Int} {xs : List Int} {i : Nat} (h : i < xs.length) : nearF r seat off (xs.take (i + 1)) = nearS r seat off (nearF r seat off (xs.take i)) xs[i] := by
  unfold nearF
  rw [List.take_succ_eq_append_getElem h, List.foldl_append]
  rfl
def NearR (r seat off : Int) (xs : List Int) (p : Option Int × Int) : Prop :=
  (p.1 = none ∧ p.2 = r ∧ ∀ z, z ∈ xs → (z - seat) % r < off) ∨ ∃ b, p.1 = some b ∧ b ∈ xs ∧ p.2 = (b - seat) % r ∧ off ≤ p.2 ∧ ∀ z, z ∈ xs → off ≤ (z - seat) % r → p.2 ≤ (z - seat) % r
theorem near_step {r seat off x : Int} {xs : List Int} {p : Option Int × Int} (rp : 0 < r) (h : NearR r seat off xs p) : NearR r seat off (xs ++ [x]) (nearS r seat off p x) := by
  have x1 := Int.emod_lt_of_pos (x - seat) rp
  unfold nearS
  split
  · rename_i hc
    refine .inr ⟨x, rfl, by simp, rfl, hc.1, fun z hz h1 => ?_⟩
    rcases List.mem_append.mp hz with hz | hz
    · rcases h with ⟨_, _, h3⟩ | ⟨b, _, _, _, _, h5⟩
      · have := h3 z hz
        omega
      · have := h5 z hz h1
        show (x - seat) % r ≤ _
        omega
    · rw [List.mem_singleton.mp hz]
      exact Int.le_refl _
  · rename_i hc
    rcases h with ⟨h1, h2, h3⟩ | ⟨b, h1, h2, h3, h4, h5⟩
    · refine .inl ⟨h1, h2, fun z hz => ?_⟩
      rcases List.mem_append.mp hz with hz | hz
      · exact h3 z hz
      · rw [List.mem_singleton.mp hz]
        omega
    · refine .inr ⟨b, h1, List.mem_append_left _ h2, h3, h4, fun z hz hh => ?_⟩
      rcases List.mem_append.mp hz with hz | hz
      · exact h5 z hz hh
      · rw [List.mem_singleton.mp hz] at hh ⊢
        omega
theorem near_rel {r seat off : Int} (rp : 0 < r) (xs : List Int) : NearR r seat off xs (nearF r seat off xs) := by
  have key : ∀ i, i ≤ xs.length → NearR r seat off (xs.take i) (nearF r seat off (xs.take i)) := fun i => by
    induction i with
    | zero => exact fun _ => .inl ⟨rfl, rfl, fun z hz => by cases hz⟩
    | succ i ih =>
      intro hi
      have hlt : i < xs.length := hi
      rw [nearF_take hlt, List.take_succ_eq_append_getElem hlt]
      exact near_step rp (ih (by omega))
  have h := key xs.length (Nat.le_refl _)
  rw [List.take_length] at h
  exact h
theorem near_none {r seat off : Int} {xs : List Int} (hr : Ring r) (hx : ∀ z, z ∈ xs → 0 ≤ z ∧ z < r) (h : ∀ w : Int, off ≤ w → w < r → (seat + w) % r ∉ xs) : nearO r seat off xs = none := by
  have rp := hr.pos
  rcases near_rel (seat := seat) (off := off) rp xs with ⟨h1, _, _⟩ | ⟨b, h1, h2, h3, h4, _⟩
  · exact h1
  · exfalso
    have b1 := hx b h2
    have k1 := Int.emod_lt_of_pos (b - seat) rp
    have := h ((b - seat) % r) (by omega) k1
    rw [key_to hr b1.1 b1.2] at this
    exact this h2
theorem near_some {r seat off w : Int} {xs : List Int} (hr : Ring r) (hx : ∀ z, z ∈ xs → 0 ≤ z ∧ z < r) (o1 : 0 ≤ off) (w0 : off ≤ w) (w1 : w < r) (hw : (seat + w) % r ∈ xs) (h : ∀ u : Int, off ≤ u → u < w → (seat + u) % r ∉ xs) : nearO r seat off xs = some ((seat + w) % r) := by
  have rp := hr.pos
  have kw := key_walk (c := seat) hr (show 0 ≤ w by omega) w1
  rcases near_rel (seat := seat) (off := off) rp xs with ⟨_, _, h3⟩ | ⟨b, h1, h2, h3, h4, h5⟩
  · have := h3 _ hw
    omega
  · have b1 := hx b h2
    have k1 := Int.emod_lt_of_pos (b - seat) rp
    have := h5 _ hw (by omega)
    have e : (b - seat) % r = w := by
      by_cases hlt : (b - seat) % r < w
      · exfalso
        have h6 := h ((b - seat) % r) (by omega) hlt
        rw [key_to hr b1.1 b1.2] at h6
        exact h6 h2
      · omega
    unfold nearO
    rw [h1]
    congr 1
    rw [← e]
    exact (key_to hr b1.1 b1.2).symm
theorem near_mem {r seat off b : Int} {xs : List Int} (rp : 0 < r) (h : nearO r seat off xs = some b) : b ∈ xs := by
  rcases near_rel (seat := seat) (off := off) rp xs with ⟨h1, _, _⟩ | ⟨c, h1, h2, _⟩
  · unfold nearO at h
    rw [h1] at h
    cases h
  · unfold nearO at h
    rw [h1] at h
    cases h
    exact h2
/-- the block of a beat -/
theorem block_eq {bits pat beat : Int} (b0 : 1 ≤ bits) (b1 : bits ≤ 8) (p0 : 1 ≤ pat) (p1 : pat ≤ 6) : beat % (bits * pat) / pat = (beat / pat) % bits := by
  have hb : bits = 1 ∨ bits = 2 ∨ bits = 3 ∨ bits = 4 ∨ bits = 5 ∨ bits = 6 ∨ bits = 7 ∨ bits = 8 := by omega
  have hp : pat = 1 ∨ pat = 2 ∨ pat = 3 ∨ pat = 4 ∨ pat = 5 ∨ pat = 6 := by omega
  rcases hb with rfl | rfl | rfl | rfl | rfl | rfl | rfl | rfl <;> rcases hp with rfl | rfl | rfl | rfl | rfl | rfl <;> omega
/-- the seat that a seat calls in a beat -/
def callO (bits pat : Int) (xs : List Int) (seat beat : Int) : Option Int := nearO (2 ^ bits.toNat) seat (2 ^ (bits - 1 - (beat / pat) % bits).toNat) xs
/-! ### fairness -/
def set2 (g : Int → Int → Int) (a b v : Int) : Int → Int → Int := fun x y => if x = a ∧ y = b then v else g x y
def runV (g : Int → Int → Int) (row : List Int) (x c : Int) : Int := if x ∈ row then g x c + 1 else 0
def seatF (goal : Int → Option Int) (pat : Int) (row : List Int) : List Int → (Int → Int → Int) → Option (Int → Int → Int)
  | [], g => some g
  | x :: r, g => match goal x with
    | none => seatF goal pat row r g
    | some c => if pat ≤ runV g row x c then none else seatF goal pat row r (set2 g x c (runV g row x c))
def rowsF (goal : Nat → Int → Option Int) (pat : Int) (xs : List Int) : List (List Int) → Nat → (Int → Int → Int) → Bool
  | [], _, _ => true
  | row :: rs, i, g => match seatF (goal i) pat row xs g with
    | none => false
    | some g' => rowsF goal pat xs rs (i + 1) g'
def fairB (bits pat : Int) (xs : List Int) (start : Int) (dl : Int → Int) (rows : List (List Int)) : Bool := rowsF (fun i x => callO bits pat xs x (start + i + dl x)) pat xs rows 0 (fun _ _ => 0)
/-! ### how news goes -/
def cnt (P : Nat → Bool) (i : Nat) : Nat → Nat
  | 0 => 0
  | n + 1 => cnt P i n + (if P (i + n) = true then 1 else 0)
theorem cnt_split {P : Nat → Bool} {i n : Nat} : ∀ m, cnt P i (n + m) = cnt P i n + cnt P (i + n) m
  | 0 => rfl
  | m + 1 => by
    show cnt P i (n + m) + (if P (i + (n + m)) = true then 1 else 0) = cnt P i n + (cnt P (i + n) m + (if P (i + n + m) = true then 1 else 0))
    rw [cnt_split m, Nat.add_assoc i n m, Nat.add_assoc (cnt P i n)]
theorem cnt_sub {P : Nat → Bool} {i n j m : Nat} (h1 : i ≤ j) (h2 : j + m ≤ i + n) : cnt P j m ≤ cnt P i n := by
  obtain ⟨a, rfl⟩ := Nat.exists_eq_add_of_le h1
  obtain ⟨c, hc⟩ := Nat.exists_eq_add_of_le (show a + m ≤ n by omega)
  rw [hc, cnt_split, cnt_split]
  omega
theorem cnt_all {P : Nat → Bool} {i : Nat} : ∀ n, (∀ k, i ≤ k → k < i + n → P k = true) → cnt P i n = n
  | 0, _ => rfl
  | n + 1, h => by
    show cnt P i n + _ = _
    rw [cnt_all n fun k h1 h2 => h k h1 (by omega), if_pos (h (i + n) (by omega) (by omega))]
theorem cnt_le {P Q : Nat → Bool} {i : Nat} : ∀ n, (∀ k, i ≤ k → k < i + n → P k = true → Q k = true) → cnt P i n ≤ cnt Q i n
  | 0, _ => Nat.le_refl _
  | n + 1, h => by
    show cnt P i n + _ ≤ cnt Q i n + _
    have ih := cnt_le n fun k h1 h2 => h k h1 (by omega)
    have h3 := h (i + n) (by omega) (by omega)
    by_cases hp : P (i + n) = true
    · rw [if_pos hp, if_pos (h3 hp)]
      omega
    · rw [if_neg hp]
      split <;> omega
theorem cnt_shift {P Q : Nat → Bool} {i j : Nat} : ∀ n, (∀ k, k < n → P (i + k) = Q (j + k)) → cnt P i n = cnt Q j n
  | 0, _ => rfl
  | n + 1, h => by
    show cnt P i n + _ = cnt Q j n + _
    rw [cnt_shift n fun k h1 => h k (by omega), h n (by omega)]
/-- in a cycle each phase has its beats -/
theorem cyc_tab : ((List.range 9).all fun b => (List.range 7).all fun p => (List.range b).all fun m => (List.range (b * p)).all fun r => decide (p ≤ cnt (fun k => ((r + k) / p) % b == m) 0 (b * p))) = true := by decide +kernel
theorem cyc_nat {b p m r : Nat} (hb : b < 9) (hp : p < 7) (hm : m < b) (hr : r < b * p) : p ≤ cnt (fun k => ((r + k) / p) % b == m) 0 (b * p) := by
  have h := cyc_tab
  rw [List.all_eq_true] at h
  have h := h b (List.mem_range.mpr hb)
  rw [List.all_eq_true] at h
  have h := h p (List.mem_range.mpr hp)
  rw [List.all_eq_true] at h
  have h := h m (List.mem_range.mpr hm)
  rw [List.all_eq_true] at h
  exact of_decide_eq_true (h r (List.mem_range.mpr hr))
theorem beat_mod {bits pat u : Int} {k : Nat} (b0 : 1 ≤ bits) (p0 : 1 ≤ pat) : ((u + k) / pat) % bits = (((u % (bits * pat)) + k) / pat) % bits := by
  have e := Int.mul_ediv_add_emod u (bits * pat)
  have e2 : u + k = (u % (bits * pat) + k) + (bits * (u / (bits * pat))) * pat := by
    have : bits * (u / (bits * pat)) * pat = bits * pat * (u / (bits * pat)) := by
      rw [Int.mul_assoc, Int.mul_comm (u / (bits * pat)) pat, ← Int.mul_assoc]
    omega
  rw [e2, Int.add_mul_ediv_right _ _ (by omega), Int.add_mul_emod_self_left]
/-- each phase has pat beats in a cycle, wherever it begins -/
theorem cyc {bits pat start ph : Int} (b0 : 1 ≤ bits) (b1 : bits ≤ 8) (p0 : 1 ≤ pat) (p1 : pat ≤ 6) (h0 : 0 ≤ ph) (h1 : ph < bits) (t : Nat) :
    pat ≤ cnt (fun k => decide (((start + (k : Int)) / pat) % bits = ph)) t (bits * pat).toNat := by
  obtain ⟨b, rfl⟩ := Int.eq_ofNat_of_zero_le (show 0 ≤ bits by omega)
  obtain ⟨p, rfl⟩ := Int.eq_ofNat_of_zero_le (show 0 ≤ pat by omega)
  obtain ⟨m, rfl⟩ := Int.eq_ofNat_of_zero_le h0
  have bp : 0 < (b : Int) * (p : Int) := Int.mul_pos (by omega) (by omega)
  have r0 := Int.emod_nonneg (start + t) (show (b : Int) * (p : Int) ≠ 0 by omega)
  have r1 := Int.emod_lt_of_pos (start + t) bp
  have hbm := fun k => beat_mod (bits := (b : Int)) (pat := (p : Int)) (u := start + t) (k := k) b0 p0
  generalize hr : (start + t) % ((b : Int) * (p : Int)) = r at *
  obtain ⟨r, rfl⟩ := Int.eq_ofNat_of_zero_le r0
  have e1 : ((b : Int) * (p : Int)).toNat = b * p := by rw [← Int.natCast_mul, Int.toNat_natCast]
  have r2 : r < b * p := by
    have : (r : Int) < ((b * p : Nat) : Int) := by
      rw [Int.natCast_mul]
      exact r1
    omega
  have h := cyc_nat (b := b) (p := p) (m := m) (r := r) (by omega) (by omega) (by omega) r2
  rw [e1]
  have e2 : cnt (fun k => decide (((start + (k : Int)) / (p : Int)) % (b : Int) = (m : Int))) t (b * p) = cnt (fun k => ((r + k) / p) % b == m) 0 (b * p) := by
    refine cnt_shift _ fun k _ => ?_
    have h3 := hbm k
    have h4 : start + ((t + k : Nat) : Int) = start + t + k := by omega
    show decide (((start + ((t + k : Nat) : Int)) / (p : Int)) % (b : Int) = (m : Int)) = (((r + (0 + k)) / p) % b == m)
    rw [h4, h3, Nat.zero_add]
    have h5 : (((r : Int) + (k : Int)) / (p : Int)) % (b : Int) = (((((r + k) / p) % b : Nat)) : Int) := by
      rw [Int.natCast_emod, Int.natCast_ediv, Int.natCast_add]
    rw [h5]
    by_cases h6 : (r + k) / p % b = m
    · rw [h6]
      simp
    · have : ¬ ((((r + k) / p % b : Nat)) : Int) = (m : Int) := by omega
      rw [decide_eq_false this]
      exact (beq_eq_false_iff_ne.mpr h6).symm
  rw [e2]
  omega
def mayL (lim : Option Int) (n : Int) : Bool := match lim with
  | none => true
  | some l => decide (n < l)
def telB (cl : Int → Option Int) (lim : Option Int) (p : (Int → Bool) × (Int → Int)) (x : Int) : Bool := p.1 x && (cl x).isSome && mayL lim (p.2 x)
def stp (cl : Int → Option Int) (lo : Int → Bool) (lim : Option Int) (xs : List Int) (p : (Int → Bool) × (Int → Int)) : (Int → Bool) × (Int → Int) :=
  (fun y => p.1 y || xs.any fun x => telB cl lim p x && (!lo x && decide (cl x = some y)), fun x => if telB cl lim p x = true then p.2 x + 1 else p.2 x)
def runN (cl : Nat → Int → Option Int) (lo : Nat → Int → Bool) (lim : Option Int) (xs : List Int) (k0 : Int → Bool) : Nat → (Int → Bool) × (Int → Int)
  | 0 => (k0, fun _ => 0)
  | i + 1 => stp (cl i) (lo i) lim xs (runN cl lo lim xs k0 i)
/-- losses are fair -/
def FairL (cl : Nat → Int → Option Int) (lo : Nat → Int → Bool) (xs : List Int) (pat : Int) : Prop :=
  ∀ x, x ∈ xs → ∀ (y : Int) (i n : Nat), (∀ k, i ≤ k → k < i + n → cl k x = some y → lo k x = true) → (cnt (fun k => decide (cl k x = some y)) i n : Int) < pat
section
variable {cl : Nat → Int → Option Int} {lo : Nat → Int → Bool} {lim : Option Int} {xs : List Int} {k0 : Int → Bool}
theorem kn_step {i : Nat} {x : Int} (h : (runN cl lo lim xs k0 i).1 x = true) : (runN cl lo lim xs k0 (i + 1)).1 x = true := by
  show ((runN cl lo lim xs k0 i).1 x || _) = true
  rw [h]
  rfl
theorem kn_mono {i j : Nat} {x : Int} (h : (runN cl lo lim xs k0 i).1 x = true) (hij : i ≤ j) : (runN cl lo lim xs k0 j).1 x = true := by
  obtain ⟨d, rfl⟩ := Nat.exists_eq_add_of_le hij
  induction d with
  | zero => exact h
  | succ d ih => exact kn_step (ih (by omega))
theorem kn_first {x : Int} : ∀ {i : Nat}, (runN cl lo lim xs k0 i).1 x = true → ∃ t, t ≤ i ∧ (runN cl lo lim xs k0 t).1 x = true ∧ ∀ j, j < t → (runN cl lo lim xs k0 j).1 x = false
  | 0, h => ⟨0, Nat.le_refl _, h, fun j hj => absurd hj (Nat.not_lt_zero _)⟩
  | i + 1, h => by
    cases h2 : (runN cl lo lim xs k0 i).1 x with
    | true =>
      obtain ⟨t, h3, h4, h5⟩ := kn_first h2
      exact ⟨t, by omega, h4, h5⟩
    | false =>
      refine ⟨i + 1, Nat.le_refl _, h, fun j hj => ?_⟩
      cases h6 : (runN cl lo lim xs k0 j).1 x with
      | false => rfl
      | true =>
        have := kn_mono h6 (show j ≤ i by omega)
        rw [h2] at this
        cases this
theorem sp_zero {x : Int} {t : Nat} (h : ∀ j, j < t → (runN cl lo lim xs k0 j).1 x = false) : ∀ j, j ≤ t → (runN cl lo lim xs k0 j).2 x = 0
  | 0, _ => rfl
  | j + 1, hj => by
    show (if telB (cl j) lim (runN cl lo lim xs k0 j) x = true then _ else _) = _
    rw [if_neg (by unfold telB; rw [h j (by omega)]; simp)]
    exact sp_zero h j (by omega)
theorem sp_le {x : Int} {t : Nat} (h : ∀ j, j < t → (runN cl lo lim xs k0 j).1 x = false) : ∀ d : Nat, (runN cl lo lim xs k0 (t + d)).2 x ≤ d
  | 0 => by rw [Nat.add_zero, sp_zero h t (Nat.le_refl _)]; exact Int.le_refl _
  | d + 1 => by
    show (if telB (cl (t + d)) lim (runN cl lo lim xs k0 (t + d)) x = true then (runN cl lo lim xs k0 (t + d)).2 x + 1 else (runN cl lo lim xs k0 (t + d)).2 x) ≤ _
    have := sp_le h d
    split <;> omega
variable {pat cyc : Int}
/-- who knows tells whom it calls often enough -/
theorem hop (hf : FairL cl lo xs pat) (hl : ∀ l, lim = some l → cyc ≤ l) {x y : Int} (hx : x ∈ xs) {t n : Nat} (hk : (runN cl lo lim xs k0 t).1 x = true) (h0 : ∀ j, j < t → (runN cl lo lim xs k0 j).1 x = false) (hn : (n : Int) ≤ cyc)
    (hc : pat ≤ cnt (fun k => decide (cl k x = some y)) t n) : (runN cl lo lim xs k0 (t + n)).1 y = true := by
  by_cases hall : ∀ k, t ≤ k → k < t + n → cl k x = some y → lo k x = true
  · have := hf x hx y t n hall
    omega
  · have : ∃ k, t ≤ k ∧ k < t + n ∧ cl k x = some y ∧ lo k x = false := by
      by_cases he : ∃ k, t ≤ k ∧ k < t + n ∧ cl k x = some y ∧ lo k x = false
      · exact he
      · exfalso
        refine hall fun k h1 h2 h3 => ?_
        cases h4 : lo k x with
        | true => rfl
        | false => exact absurd ⟨k, h1, h2, h3, h4⟩ he
    obtain ⟨k, h1, h2, h3, h4⟩ := this
    refine kn_mono (i := k + 1) ?_ (by omega)
    show ((runN cl lo lim xs k0 k).1 y || xs.any _) = true
    have ht : telB (cl k) lim (runN cl lo lim xs k0 k) x = true := by
      unfold telB
      rw [kn_mono hk h1, h3]
      have hs := sp_le h0 (k - t)
      rw [show t + (k - t) = k by omega] at hs
      cases hlim : lim with
      | none => rfl
      | some l =>
        have := hl l hlim
        rw [hlim] at hs
        simp only [mayL, Option.isSome_some, Bool.and_self, Bool.true_and, decide_eq_true_eq]
        omega
    have : (xs.any fun x => telB (cl k) lim (runN cl lo lim xs k0 k) x && (!lo k x && decide (cl k x = some y))) = true := by
      rw [List.any_eq_true]
      exact ⟨x, hx, by rw [ht, h4, h3]; simp⟩
    rw [this, Bool.or_true]
theorem tel_none (h : ∀ x, x ∈ xs → (runN cl lo lim xs k0 i).1 x = true → mayL lim ((runN cl lo lim xs k0 i).2 x) = false) : ∀ x, x ∈ xs → telB (cl i) lim (runN cl lo lim xs k0 i) x = false := fun x hx => by
  unfold telB
  cases hk : (runN cl lo lim xs k0 i).1 x with
  | false => rfl
  | true =>
    rw [h x hx hk]
    simp
/-- who is stuck stays so -/
theorem stuck_stays {i : Nat} (h : ∀ x, x ∈ xs → (runN cl lo lim xs k0 i).1 x = true → mayL lim ((runN cl lo lim xs k0 i).2 x) = false) : ∀ d, (∀ y, (runN cl lo lim xs k0 (i + d)).1 y = (runN cl lo lim xs k0 i).1 y) ∧ ∀ x, x ∈ xs → (runN cl lo lim xs k0 (i + d)).2 x = (runN cl lo lim xs k0 i).2 x
  | 0 => ⟨fun _ => rfl, fun _ _ => rfl⟩
  | d + 1 => by
    obtain ⟨h1, h2⟩ := stuck_stays h d
    have h3 := tel_none (cl := cl) (lo := lo) (lim := lim) (xs := xs) (k0 := k0) (i := i + d) fun x hx hk => by
      rw [h1] at hk
      rw [h2 x hx]
      exact h x hx hk
    refine ⟨fun y => ?_, fun x hx => ?_⟩
    · have h4 : (runN cl lo lim xs k0 (i + (d + 1))).1 y = ((runN cl lo lim xs k0 (i + d)).1 y || xs.any fun x => telB (cl (i + d)) lim (runN cl lo lim xs k0 (i + d)) x && (!lo (i + d) x && decide (cl (i + d) x = some y))) := rfl
      have : (xs.any fun x => telB (cl (i + d)) lim (runN cl lo lim xs k0 (i + d)) x && (!lo (i + d) x && decide (cl (i + d) x = some y))) = false := by
        rw [List.any_eq_false]
        intro x hx
        rw [h3 x hx]
        simp
      rw [h4, this, Bool.or_false]
      exact h1 y
    · have h4 : (runN cl lo lim xs k0 (i + (d + 1))).2 x = if telB (cl (i + d)) lim (runN cl lo lim xs k0 (i + d)) x = true then (runN cl lo lim xs k0 (i + d)).2 x + 1 else (runN cl lo lim xs k0 (i + d)).2 x := rfl
      rw [h4, h3 x hx, if_neg Bool.false_ne_true]
      exact h2 x hx
/-- the round in which all know -/
theorem end_round {N : Nat} (h : ∀ x, x ∈ xs → (runN cl lo lim xs k0 N).1 x = true) : ∃ n, n ≤ N ∧ (∀ x, x ∈ xs → (runN cl lo lim xs k0 n).1 x = true) ∧ ∀ i, i < n → (¬ ∀ x, x ∈ xs → (runN cl lo lim xs k0 i).1 x = true) ∧ ¬ ∀ x, x ∈ xs → (runN cl lo lim xs k0 i).1 x = true → mayL lim ((runN cl lo lim xs k0 i).2 x) = false := by
  have key : ∀ N, (∀ x, x ∈ xs → (runN cl lo lim xs k0 N).1 x = true) → ∃ n, n ≤ N ∧ (∀ x, x ∈ xs → (runN cl lo lim xs k0 n).1 x = true) ∧ ∀ i, i < n → ¬ ∀ x, x ∈ xs → (runN cl lo lim xs k0 i).1 x = true := fun N => by
    induction N with
    | zero => exact fun h => ⟨0, Nat.le_refl _, h, fun i hi => absurd hi (Nat.not_lt_zero _)⟩
    | succ N ih =>
      intro h
      by_cases h2 : ∀ x, x ∈ xs → (runN cl lo lim xs k0 N).1 x = true
      · obtain ⟨n, h3, h4, h5⟩ := ih h2
        exact ⟨n, by omega, h4, h5⟩
      · refine ⟨N + 1, Nat.le_refl _, h, fun i hi h3 => h2 fun x hx => kn_mono (h3 x hx) (by omega)⟩
  obtain ⟨n, h1, h2, h3⟩ := key N h
  refine ⟨n, h1, h2, fun i hi => ⟨h3 i hi, fun hs => h3 i hi fun x hx => ?_⟩⟩
  obtain ⟨h4, _⟩ := stuck_stays hs (n - i)
  rw [show i + (n - i) = n by omega] at h4
  rw [← h4]
  exact h2 x hx
end
theorem fing_ex {r seat off s : Int} {xs : List Int} (rp : 0 < r) (hs : s ∈ xs) (h : off ≤ (s - seat) % r) : ∃ y, nearO r seat off xs = some y ∧ y ∈ xs ∧ off ≤ (y - seat) % r ∧ (y - seat) % r ≤ (s - seat) % r := by
  rcases near_rel (seat := seat) (off := off) rp xs with ⟨_, _, h3⟩ | ⟨b, h1, h2, h3, h4, h5⟩
  · have := h3 s hs
    omega
  · refine ⟨b, h1, h2, by omega, ?_⟩
    have := h5 s hs h
    omega
theorem dist_sub {r x y s : Int} (hr : Ring r) (h : (y - x) % r ≤ (s - x) % r) : (s - y) % r = (s - x) % r - (y - x) % r := by
  rcases hr with rfl | rfl | rfl | rfl | rfl | rfl | rfl | rfl <;> omega
theorem dist_zero {r x s : Int} (hr : Ring r) (x0 : 0 ≤ x) (x1 : x < r) (s0 : 0 ≤ s) (s1 : s < r) (h : (s - x) % r < 1) : s = x := by
  rcases hr with rfl | rfl | rfl | rfl | rfl | rfl | rfl | rfl <;> omega
theorem blk {b p : Nat} {q : Int} {m j : Nat} {u : Int} (hb : 1 ≤ b) (hm : m < b) (hj : j < p) (hu : u = q * ((b : Int) * (p : Int)) + m * p + j) : (u / (p : Int)) % (b : Int) = m := by
  have e : u = (j : Int) + ((m : Int) + b * q) * p := by
    rw [hu, Int.add_mul, Int.mul_assoc, Int.mul_left_comm q b p]
    omega
  rw [e, Int.add_mul_ediv_right _ _ (by omega), Int.ediv_eq_zero_of_lt (by omega) (by omega), Int.zero_add, Int.add_mul_emod_self_left]
  exact Int.emod_eq_of_lt (by omega) (by omega)
section
variable {b p : Nat} {xs : List Int} {start : Int} {lo : Nat → Int → Bool} {lim : Option Int} {k0 : Int → Bool}
theorem cl_ph {x : Int} {k ph : Nat} (hp : ph < b) (h : ((start + (k : Int)) / (p : Int)) % (b : Int) = (b : Int) - 1 - ph) : callO (b : Int) (p : Int) xs x (start + k) = nearO (2 ^ b) x (2 ^ ph) xs := by
  unfold callO
  rw [h, Int.toNat_natCast, show ((b : Int) - 1 - ((b : Int) - 1 - ph)).toNat = ph by omega]
theorem hopL (hb : 1 ≤ b ∧ b ≤ 8) (hp : 1 ≤ p ∧ p ≤ 6) (hf : FairL (fun (k : Nat) (x : Int) => callO (b : Int) (p : Int) xs x (start + k)) lo xs p) (hl : ∀ l, lim = some l → (b : Int) * p ≤ l) {x y : Int} (hx : x ∈ xs) {i ph : Nat} (hph : ph < b) (hk : (runN (fun (k : Nat) (x : Int) => callO (b : Int) (p : Int) xs x (start + k)) lo lim xs k0 i).1 x = true) (hy : nearO (2 ^ b) x (2 ^ ph) xs = some y) : (runN (fun (k : Nat) (x : Int) => callO (b : Int) (p : Int) xs x (start + k)) lo lim xs k0 (i + b * p)).1 y = true := by
  obtain ⟨t, h1, h2, h3⟩ := kn_first hk
  have hc := cyc (bits := b) (pat := p) (start := start) (ph := (b : Int) - 1 - ph) (by omega) (by omega) (by omega) (by omega) (by omega) (by omega) t
  have e1 : ((b : Int) * (p : Int)).toNat = b * p := by rw [← Int.natCast_mul, Int.toNat_natCast]
  rw [e1] at hc
  refine kn_mono (hop (cyc := (b : Int) * p) hf hl hx h2 h3 (n := b * p) (by rw [Int.natCast_mul]; exact Int.le_refl _) (Int.le_trans hc (by
    have := cnt_le (i := t) (P := fun k : Nat => decide (((start + (k : Int)) / (p : Int)) % (b : Int) = (b : Int) - 1 - ph)) (Q := fun k : Nat => decide (callO (b : Int) (p : Int) xs x (start + k) = some y)) (b * p) (fun k _ _ hk => by
      rw [decide_eq_true_eq] at hk ⊢
      rw [cl_ph hph hk, hy])
    omega))) (by omega)
theorem hopB (hb : 1 ≤ b ∧ b ≤ 8) (hp : 1 ≤ p ∧ p ≤ 6) (hf : FairL (fun (k : Nat) (x : Int) => callO (b : Int) (p : Int) xs x (start + k)) lo xs p) (hl : ∀ l, lim = some l → (b : Int) * p ≤ l) {x y : Int} (hx : x ∈ xs) {i T ph : Nat} (hph : ph < b) (hk : (runN (fun (k : Nat) (x : Int) => callO (b : Int) (p : Int) xs x (start + k)) lo lim xs k0 i).1 x = true) (hiT : i ≤ T)
    (hB : ∀ k, T ≤ k → k < T + p → ((start + (k : Int)) / (p : Int)) % (b : Int) = (b : Int) - 1 - ph) (hy : nearO (2 ^ b) x (2 ^ ph) xs = some y) : (runN (fun (k : Nat) (x : Int) => callO (b : Int) (p : Int) xs x (start + k)) lo lim xs k0 (T + p)).1 y = true := by
  obtain ⟨t, h1, h2, h3⟩ := kn_first hk
  by_cases hc : t + b * p ≤ T + p
  · exact kn_mono (hopL hb hp hf hl hx hph h2 hy) hc
  · have e : T + p = t + (T + p - t) := by omega
    rw [e]
    refine hop (cyc := (b : Int) * p) hf hl hx h2 h3 (n := T + p - t) (by rw [← Int.natCast_mul]; omega) ?_
    have h4 := cnt_all (P := fun k : Nat => decide (callO (b : Int) (p : Int) xs x (start + k) = some y)) (i := T) p (fun k h5 h6 => by
      rw [decide_eq_true_eq, cl_ph hph (hB k h5 h6), hy])
    have h7 := cnt_sub (P := fun k : Nat => decide (callO (b : Int) (p : Int) xs x (start + k) = some y)) (i := t) (n := T + p - t) (j := T) (m := p) (by omega) (by omega)
    omega
/-- behind a whole pass all know -/
theorem pass_all (hb : 1 ≤ b ∧ b ≤ 8) (hp : 1 ≤ p ∧ p ≤ 6) (hf : FairL (fun (k : Nat) (x : Int) => callO (b : Int) (p : Int) xs x (start + k)) lo xs p) (hl : ∀ l, lim = some l → (b : Int) * p ≤ l) (hxs : ∀ z, z ∈ xs → 0 ≤ z ∧ z < 2 ^ b) {o s : Int} (ho : o ∈ xs) (hk : k0 o = true) (hs : s ∈ xs) {e : Nat} {q : Int} (he : start + e = q * ((b : Int) * (p : Int))) : (runN (fun (k : Nat) (x : Int) => callO (b : Int) (p : Int) xs x (start + k)) lo lim xs k0 (e + b * p)).1 s = true := by
  have hr : Ring (2 ^ b) := by
    have := ring_pow (b := (b : Int)) (by omega) (by omega)
    rwa [Int.toNat_natCast] at this
  have rp := hr.pos
  have key : ∀ m, m ≤ b → ∃ x, x ∈ xs ∧ (runN (fun (k : Nat) (x : Int) => callO (b : Int) (p : Int) xs x (start + k)) lo lim xs k0 (e + m * p)).1 x = true ∧ (s - x) % 2 ^ b < 2 ^ (b - m) := fun m => by
    induction m with
    | zero =>
      intro _
      exact ⟨o, ho, kn_mono (i := 0) hk (by omega), by rw [Nat.sub_zero]; exact Int.emod_lt_of_pos _ rp⟩
    | succ m ih =>
      intro hm
      obtain ⟨x, hx, h1, h2⟩ := ih (by omega)
      have em : e + (m + 1) * p = e + m * p + p := by rw [Nat.add_mul]; omega
      by_cases hd : (s - x) % 2 ^ b < 2 ^ (b - (m + 1))
      · exact ⟨x, hx, kn_mono h1 (by omega), hd⟩
      · obtain ⟨y, h3, h4, h5, h6⟩ := fing_ex (off := 2 ^ (b - (m + 1))) (seat := x) rp hs (by omega)
        refine ⟨y, h4, ?_, ?_⟩
        · rw [em]
          refine hopB hb hp hf hl hx (ph := b - (m + 1)) (by omega) h1 (Nat.le_refl _) (fun k k1 k2 => ?_) h3
          obtain ⟨j, rfl⟩ := Nat.exists_eq_add_of_le k1
          rw [blk (q := q) (m := m) (j := j) hb.1 (by omega) (by omega) (by
            rw [← he]
            push_cast
            omega)]
          omega
        · rw [dist_sub hr h6]
          have e2 : (2 : Int) ^ (b - m) = 2 * 2 ^ (b - (m + 1)) := by
            rw [show b - m = (b - (m + 1)) + 1 by omega, Int.pow_succ]
            omega
          omega
  obtain ⟨x, h1, h2, h3⟩ := key b (Nat.le_refl _)
  rw [Nat.sub_self] at h3
  have x1 := hxs x h1
  have s1 := hxs s hs
  rw [dist_zero hr x1.1 x1.2 s1.1 s1.2 h3]
  exact h2
def qb (b p : Nat) : Nat := if b = 1 then p else if b = 2 then 3 * p else 2 * (b * p) - 1
theorem quick (hb : 1 ≤ b ∧ b ≤ 8) (hp : 1 ≤ p ∧ p ≤ 6) (hf : FairL (fun (k : Nat) (x : Int) => callO (b : Int) (p : Int) xs x (start + k)) lo xs p) (hl : ∀ l, lim = some l → (b : Int) * p ≤ l) (hxs : ∀ z, z ∈ xs → 0 ≤ z ∧ z < 2 ^ b) {o s : Int} (ho : o ∈ xs) (hk : k0 o = true) (hs : s ∈ xs) : (runN (fun (k : Nat) (x : Int) => callO (b : Int) (p : Int) xs x (start + k)) lo lim xs k0 (qb b p)).1 s = true := by
  have hr : Ring (2 ^ b) := by
    have := ring_pow (b := (b : Int)) (by omega) (by omega)
    rwa [Int.toNat_natCast] at this
  have rp := hr.pos
  have o1 := hxs o ho
  have s1 := hxs s hs
  have bp : 0 < (b : Int) * (p : Int) := Int.mul_pos (by omega) (by omega)
  have e0 := Int.emod_nonneg (-start) (show (b : Int) * (p : Int) ≠ 0 by omega)
  have e1 := Int.emod_lt_of_pos (-start) bp
  have hdm := Int.mul_ediv_add_emod (-start) ((b : Int) * (p : Int))
  generalize hE : (-start) % ((b : Int) * (p : Int)) = E at *
  obtain ⟨e, rfl⟩ := Int.eq_ofNat_of_zero_le e0
  have he : start + e = (-((-start) / ((b : Int) * (p : Int)))) * ((b : Int) * (p : Int)) := by
    rw [Int.neg_mul, Int.mul_comm (-start / ((b : Int) * (p : Int)))]
    omega
  have hall := pass_all hb hp hf hl hxs ho hk hs he
  have ebp : e < b * p := by
    rw [← Int.natCast_mul] at e1
    omega
  unfold qb
  by_cases hso : s = o
  · rw [hso]
    exact kn_mono (i := 0) hk (by omega)
  by_cases hb1 : b = 1
  · subst hb1
    rw [if_pos rfl]
    have d1 : (1 : Int) ≤ (s - o) % 2 ^ 1 := by omega
    obtain ⟨y, h3, h4, h5, h6⟩ := fing_ex (off := 2 ^ 0) (seat := o) rp hs d1
    have y1 := hxs y h4
    have hys : y = s := by omega
    rw [hys] at h3
    have := hopL hb hp hf hl ho (ph := 0) (i := 0) (by omega) hk h3
    rwa [Nat.zero_add, Nat.one_mul] at this
  · rw [if_neg hb1]
    by_cases hb2 : b = 2
    · subst hb2
      rw [if_pos rfl]
      by_cases hep : e ≤ p
      · exact kn_mono hall (by omega)
      · -- the first pass begins behind its first beat
        obtain ⟨r, rfl⟩ := Nat.exists_eq_add_of_le (show p ≤ e by omega)
        have H0 : ∀ {x y : Int} {i : Nat}, x ∈ xs → ((runN (fun (k : Nat) (x : Int) => callO ((2 : Nat) : Int) (p : Int) xs x (start + k)) lo lim xs k0) i).1 x = true → nearO (2 ^ 2) x (2 ^ 0) xs = some y → ((runN (fun (k : Nat) (x : Int) => callO ((2 : Nat) : Int) (p : Int) xs x (start + k)) lo lim xs k0) (i + 2 * p)).1 y = true := fun hx h1 h2 => hopL hb hp hf hl hx (ph := 0) (by omega) h1 h2
        have H1 : ∀ {x y : Int} {i : Nat}, x ∈ xs → ((runN (fun (k : Nat) (x : Int) => callO ((2 : Nat) : Int) (p : Int) xs x (start + k)) lo lim xs k0) i).1 x = true → nearO (2 ^ 2) x (2 ^ 1) xs = some y → ((runN (fun (k : Nat) (x : Int) => callO ((2 : Nat) : Int) (p : Int) xs x (start + k)) lo lim xs k0) (i + 2 * p)).1 y = true := fun hx h1 h2 => hopL hb hp hf hl hx (ph := 1) (by omega) h1 h2
        have hd := Int.emod_lt_of_pos (s - o) rp
        obtain ⟨n0, a3, a4, a5, a6⟩ := fing_ex (off := 2 ^ 0) (seat := o) rp hs (by omega)
        have n01 := hxs n0 a4
        by_cases c0 : n0 = s
        · rw [c0] at a3
          exact kn_mono (H0 (i := 0) ho hk a3) (by omega)
        · obtain ⟨n1, b3, b4, b5, b6⟩ := fing_ex (off := 2 ^ 1) (seat := o) rp hs (by omega)
          have n11 := hxs n1 b4
          by_cases c1 : n1 = s
          · rw [c1] at b3
            exact kn_mono (H1 (i := 0) ho hk b3) (by omega)
          · by_cases c2 : n0 = n1
            · -- every beat calls n1
              rw [← c2] at b3
              have k1 : ((runN (fun (k : Nat) (x : Int) => callO ((2 : Nat) : Int) (p : Int) xs x (start + k)) lo lim xs k0) p).1 n0 = true := by
                have := hop (cyc := ((2 : Nat) : Int) * p) hf hl ho (t := 0) (n := p) hk (fun j hj => absurd hj (Nat.not_lt_zero _)) (by omega) (y := n0) (by
                  have := cnt_all (P := fun k : Nat => decide (callO ((2 : Nat) : Int) (p : Int) xs o (start + k) = some n0)) (i := 0) p (fun k _ _ => by
                    rw [decide_eq_true_eq]
                    have m0 := Int.emod_nonneg ((start + (k : Int)) / (p : Int)) (show ((2 : Nat) : Int) ≠ 0 by omega)
                    have m1 := Int.emod_lt_of_pos ((start + (k : Int)) / (p : Int)) (show 0 < ((2 : Nat) : Int) by omega)
                    by_cases hm : ((start + (k : Int)) / (p : Int)) % ((2 : Nat) : Int) = 0
                    · rw [cl_ph (ph := 1) (by omega) (by omega), b3]
                    · rw [cl_ph (ph := 0) (by omega) (by omega), a3])
                  omega)
                rwa [Nat.zero_add] at this
              obtain ⟨y, h3, h4, h5, h6⟩ := fing_ex (off := 2 ^ 0) (seat := n0) rp hs (by omega)
              have y1 := hxs y h4
              have hys : y = s := by omega
              rw [hys] at h3
              exact kn_mono (H0 (i := p) a4 k1 h3) (by omega)
            · -- n0 is next, s is two from it
              have k1 : ((runN (fun (k : Nat) (x : Int) => callO ((2 : Nat) : Int) (p : Int) xs x (start + k)) lo lim xs k0) (r + p)).1 n0 = true := by
                refine hopB hb hp hf hl ho (ph := 0) (i := 0) (T := r) (by omega) hk (by omega) (fun k h1 h2 => ?_) a3
                obtain ⟨j, rfl⟩ := Nat.exists_eq_add_of_le h1
                rw [blk (q := -((-start) / (((2 : Nat) : Int) * (p : Int))) - 1) (m := 1) (j := j) hb.1 (by omega) (by omega) (by
                  rw [Int.sub_mul, ← he]
                  push_cast
                  omega)]
                omega
              obtain ⟨y, h3, h4, h5, h6⟩ := fing_ex (off := 2 ^ 1) (seat := n0) rp hs (by omega)
              have y1 := hxs y h4
              have hys : y = s := by omega
              rw [hys] at h3
              have := hopB hb hp hf hl a4 (ph := 1) (i := r + p) (T := p + r) (by omega) k1 (by omega) (fun k h1 h2 => by
                obtain ⟨j, rfl⟩ := Nat.exists_eq_add_of_le h1
                rw [blk (q := -((-start) / (((2 : Nat) : Int) * (p : Int)))) (m := 0) (j := j) hb.1 (by omega) (by omega) (by
                  rw [← he]
                  push_cast
                  omega)]
                omega) h3
              exact kn_mono this (by omega)
    · rw [if_neg hb2]
      exact kn_mono hall (by omega)
end

/-- the fingers of a seat -/
def fingL (s : Stg) (seat : Int) (xs : List Int) : List (Option Int) := (List.range s.bits.toNat).map fun k => nearO s.ring seat (2 ^ (s.bits.toNat - 1 - k)) xs
theorem ring_half {b i : Nat} (h : i < b) : (2 : Int) ^ (b - i) / 2 = 2 ^ (b - 1 - i) := by
  have e : b - i = (b - 1 - i) + 1 := by omega
  rw [e, Int.pow_succ]
  exact Int.mul_ediv_cancel _ (by decide)
/-- a finger table stands at d -/
def TabAt (H : Hp) (d : Addr) (s : Stg) (xs : List Int) : Prop := ∃ f : Int → Addr, H d = some (.dK (dmap xs fun x => .ref (f x))) ∧ ∀ x, x ∈ xs → H (f x) = some (.lst ((fingL s x xs).map ov))
theorem TabAt.k0 {H H' : Hp} {d : Addr} {s : Stg} {xs : List Int} (h : TabAt H d s xs) (k : Kp [] H H') : TabAt H' d s xs := by
  obtain ⟨f, h1, h2⟩ := h
  exact ⟨f, k.g0 h1, fun x hx => k.g0 (h2 x hx)⟩
theorem Stg.Ok.ringP {s : Stg} (h : s.Ok) : Ring s.ring := h.ring

/-- the rows of a table made are new -/
def TabF (H H1 : Hp) (d : Addr) (xs : List Int) : Prop := ∃ f : Int → Addr, H1 d = some (.dK (dmap xs fun x => .ref (f x))) ∧ ∀ x, x ∈ xs → H (f x) = none
theorem TabF.mv {H H0 H1 H2 : Hp} {d : Addr} {xs : List Int} (h : TabF H H1 d xs) (k : ∀ o, H1 d = some o → H2 d = some o) (k0 : ∀ z, H z = none → H0 z = none) : TabF H0 H2 d xs := by
  obtain ⟨f, f1, f2⟩ := h
  exact ⟨f, k _ f1, fun x hx => k0 _ (f2 x hx)⟩
theorem paired_imp {α β : Type} {R S : α → β → Prop} (h : ∀ a b, R a b → S a b) : ∀ {xs : List α} {ys : List β}, Paired R xs ys → Paired S xs ys
  | _, _, .nil => .nil
  | _, _, .cons a r => .cons (h _ _ a) (paired_imp h r)
theorem paired_snoc {α β : Type} {R : α → β → Prop} {a : α} {b : β} (h : R a b) : ∀ {xs : List α} {ys : List β}, Paired R xs ys → Paired R (xs ++ [a]) (ys ++ [b])
  | _, _, .nil => .cons h .nil
  | _, _, .cons q r => .cons q (paired_snoc h r)
theorem paired_get {α β : Type} {R : α → β → Prop} : ∀ {xs : List α} {ys : List β}, Paired R xs ys → ∀ {i : Nat} {x : α}, xs[i]? = some x → ∃ y, ys[i]? = some y ∧ R x y
  | _, _, .nil, i, x, e => by simp at e
  | _, _, .cons q r, 0, x, e => by
    simp at e
    subst e
    exact ⟨_, rfl, q⟩
  | _, _, .cons q r, i + 1, x, e => by
    obtain ⟨y, h1, h2⟩ := paired_get r (i := i) (x := x) (by simpa using e)
    exact ⟨y, by simpa using h1, h2⟩
theorem paired_len {α β : Type} {R : α → β → Prop} {xs : List α} {ys : List β} (h : Paired R xs ys) : xs.length = ys.length := Paired.length h
theorem turn_pos {bits pat : Int} (b : 1 ≤ bits ∧ bits ≤ 8) (p : 1 ≤ pat ∧ pat ≤ 6) : 1 ≤ bits * pat ∧ bits * pat ≤ 48 := by
  have hb : bits = 1 ∨ bits = 2 ∨ bits = 3 ∨ bits = 4 ∨ bits = 5 ∨ bits = 6 ∨ bits = 7 ∨ bits = 8 := by omega
  rcases hb with rfl | rfl | rfl | rfl | rfl | rfl | rfl | rfl <;> omega
theorem dmap_some {f : Int → V} {a : Int} {xs : List Int} : (valV (dmap xs f) (.inl a)).isSome = decide (a ∈ xs) := by
  rw [dmap_val]
  by_cases h : a ∈ xs
  · rw [if_pos h, decide_eq_true h]
    rfl
  · rw [if_neg h, decide_eq_false h]
    rfl
theorem nd_take {xs : List Int} (nd : xs.Nodup) {i : Nat} (hi : i < xs.length) : xs[i] ∉ xs.take i := fun m => by
  obtain ⟨j, hj, e⟩ := List.mem_take_iff_getElem.mp m
  have := (List.getElem_inj nd).mp e
  omega
theorem paired_mem {α β : Type} {R : α → β → Prop} : ∀ {xs : List α} {ys : List β}, Paired R xs ys → ∀ {x : α}, x ∈ xs → ∃ y, y ∈ ys ∧ R x y
  | _, _, .cons q r, x, e => by
    rcases List.mem_cons.mp e with rfl | e
    · exact ⟨_, List.mem_cons_self, q⟩
    · obtain ⟨y, h1, h2⟩ := paired_mem r e
      exact ⟨y, List.mem_cons_of_mem _ h1, h2⟩
theorem paired_memimp {α β : Type} {R S : α → β → Prop} : ∀ {xs : List α} {ys : List β}, (∀ a b, a ∈ xs → R a b → S a b) → Paired R xs ys → Paired S xs ys
  | _, _, _, .nil => .nil
  | _, _, h, .cons q r => .cons (h _ _ List.mem_cons_self q) (paired_memimp (fun a b m => h a b (List.mem_cons_of_mem _ m)) r)
theorem SetAt.kpp {K : PySem.W.Frag} {H H' : Hp} {S p c : Addr} {s : Stg} (S6 : SetAt K H S s) (B : Purse H p c) (k : Kp [p] H H') : SetAt K H' S s := by
  obtain ⟨⟨d, hS⟩, ok⟩ := S6
  obtain ⟨kvs, hp⟩ := B.at
  exact ⟨⟨d, k.g1 (ne_of hS hp (by intro z; cases z)) hS⟩, ok⟩
def dlv (ks : List Int) (df : Int → Int) (x : Int) : Int := if x ∈ ks then df x else 0
theorem dl_val {ks : List Int} {df : Int → Int} {x : Int} : (valV (dmap ks fun x => V.int (df x)) (.inl x)).getD (.int 0) = .int (dlv ks df x) := by
  rw [dmap_val]
  unfold dlv
  split <;> rfl
theorem dput_int {ks : List Int} {df : Int → Int} (a v : Int) : ∃ (ks' : List Int) (df' : Int → Int), putK (dmap ks fun x => V.int (df x)) (.inl a) (.int v) = dmap ks' (fun x => V.int (df' x)) ∧ ks'.length ≤ ks.length + 1 := by
  by_cases h : a ∈ ks
  · refine ⟨ks, fset df a v, ?_, Nat.le_succ _⟩
    rw [dmap_old h]
    refine dmap_congr fun x _ => ?_
    unfold fset
    split <;> rfl
  · refine ⟨ks ++ [a], fset df a v, ?_, by simp⟩
    rw [dmap_new h]
    refine dmap_congr fun x _ => ?_
    unfold fset
    split <;> rfl
def RowsAt (H : Hp) (l : Addr) (rows : List (List Int)) : Prop := ∃ f : List Addr, H l = some (.lst (f.map V.ref)) ∧ Paired (fun a row => H a = some (.lst (row.map V.int))) f rows
theorem RowsAt.k0 {H H' : Hp} {l : Addr} {rows : List (List Int)} (h : RowsAt H l rows) (k : Kp [] H H') : RowsAt H' l rows := by
  obtain ⟨f, h1, h2⟩ := h
  exact ⟨f, k.g0 h1, paired_imp (fun _ _ e => k.g0 e) h2⟩
theorem RowsAt.kn {H H' : Hp} {l : Addr} {rows : List (List Int)} {ps : List Addr} (h : RowsAt H l rows) (k : Kp ps H H') (n : ∀ q, q ∈ ps → ∀ xs, H q ≠ some (.lst xs)) : RowsAt H' l rows := by
  obtain ⟨f, h1, h2⟩ := h
  exact ⟨f, k _ _ h1 (fun m => n _ m _ h1), paired_imp (fun _ _ e => k _ _ e fun m => n _ m _ e) h2⟩
theorem RowsAt.kp {H H' : Hp} {l p c : Addr} {rows : List (List Int)} (h : RowsAt H l rows) (B : Purse H p c) (k : Kp [p] H H') : RowsAt H' l rows := h.kn k fun q hq xs e => by
  rw [List.mem_singleton.mp hq] at e
  obtain ⟨kvs, e2⟩ := B.at
  rw [e2] at e
  cases e
theorem rows_ne {H : Hp} {l : Addr} {f : List Addr} {rows : List (List Int)} (h1 : H l = some (.lst (f.map V.ref))) (h2 : Paired (fun a row => H a = some (.lst (row.map V.int))) f rows) {a : Addr} (ha : a ∈ f) : a ≠ l := by
  rintro rfl
  obtain ⟨row, -, e⟩ := paired_mem h2 ha
  rw [h1] at e
  injection e with e
  injection e with e
  cases f with
  | nil => cases ha
  | cons b f =>
    cases row with
    | nil => simp at e
    | cons z row => simp at e
theorem rows_snoc {H : Hp} {lo ln : Addr} {f : List Addr} {rows : List (List Int)} {row : List Int} (h1 : H lo = some (.lst (f.map V.ref))) (h2 : Paired (fun a row => H a = some (.lst (row.map V.int))) f rows) (h3 : H ln = some (.lst (row.map V.int))) (n : ln ≠ lo) : RowsAt (upd H lo (.lst (f.map V.ref ++ [.ref ln]))) lo (rows ++ [row]) := by
  have h4 : Paired (fun a row => upd H lo (.lst (f.map V.ref ++ [.ref ln])) a = some (.lst (row.map V.int))) f rows := paired_memimp (fun a b (m : a ∈ f) (e : H a = some (.lst (b.map V.int))) => hu_ne (rows_ne h1 h2 m) e) h2
  have h5 : upd H lo (.lst (f.map V.ref ++ [.ref ln])) ln = some (.lst (row.map V.int)) := hu_ne n h3
  refine ⟨f ++ [ln], ?_, paired_snoc (R := fun a (row : List Int) => upd H lo (.lst (f.map V.ref ++ [.ref ln])) a = some (.lst (row.map V.int))) h5 h4⟩
  rw [upd_same, List.map_append]
  rfl
theorem paired_ints {K : PySem.W.Frag} {H : Hp} : ∀ xs : List Int, Paired (EqV K H 1) (xs.map V.int) (xs.map V.int)
  | [] => .nil
  | x :: r => .cons (.inl ⟨rfl, rfl⟩) (paired_ints r)
theorem paired_rows {K : PySem.W.Frag} {H : Hp} : ∀ {f g : List Addr} {rows : List (List Int)}, Paired (fun a row => H a = some (.lst (row.map V.int))) f rows → Paired (fun a row => H a = some (.lst (row.map V.int))) g rows → Paired (EqV K H 2) (f.map V.ref) (g.map V.ref)
  | _, _, _, .nil, .nil => .nil
  | a :: f, b :: g, row :: rows, .cons h1 r1, .cons h2 r2 => .cons (.inr (.inr (.inl ⟨a, b, _, _, rfl, rfl, SqL.of h1, SqL.of h2, paired_ints row⟩))) (paired_rows r1 r2)
theorem rd_eqRows {K : PySem.W.Frag} {H : Hp} {Q : VK} {p q : Addr} {rows : List (List Int)} (h1 : RowsAt H p rows) (h2 : RowsAt H q rows) (k : Q (.bl true) H) : rEqV K (.ref p) (.ref q) H Q := by
  obtain ⟨f, f1, f2⟩ := h1
  obtain ⟨g, g1, g2⟩ := h2
  exact ⟨2, by decide, .inl ⟨p, q, _, _, rfl, rfl, SqL.of f1, SqL.of g1, paired_rows f2 g2⟩, k⟩

theorem mem_take_lt {xs : List Int} {i : Nat} {x : Int} (h : x ∈ xs.take i) : x ∈ xs := List.mem_of_mem_take h
/-- tellings made by the seats of P -/
def spU (cl : Int → Option Int) (tl : Option Int) (p : (Int → Bool) × (Int → Int)) (P : List Int) (x : Int) : Int := if decide (x ∈ P) && telB cl tl p x = true then p.2 x + 1 else p.2 x
/-- who is told by the seats of P -/
def NewR (cl : Int → Option Int) (lo : Int → Bool) (tl : Option Int) (p : (Int → Bool) × (Int → Int)) (P : List Int) (y : Int) : Prop := ∃ x, x ∈ P ∧ telB cl tl p x = true ∧ lo x = false ∧ cl x = some y ∧ p.1 y = false
theorem new_iff {cl : Int → Option Int} {lo : Int → Bool} {tl : Option Int} {p : (Int → Bool) × (Int → Int)} {xs P us fs : List Int} (h1 : ∀ x, x ∈ xs → telB cl tl p x = true → x ∈ P) (h2 : ∀ x, x ∈ P → x ∈ xs)
    (hf : ∀ y, y ∈ fs ↔ NewR cl lo tl p P y) (hu : ∀ y, y ∈ us ↔ y ∈ xs ∧ p.1 y = true) (hcl : ∀ x y, cl x = some y → y ∈ xs) (y : Int) : y ∈ us ++ fs ↔ y ∈ xs ∧ (stp cl lo tl xs p).1 y = true := by
  have e : (stp cl lo tl xs p).1 y = (p.1 y || xs.any fun x => telB cl tl p x && (!lo x && decide (cl x = some y))) := rfl
  rw [e, List.mem_append, hu, hf]
  constructor
  · rintro (⟨h3, h4⟩ | ⟨x, h3, h4, h5, h6, h7⟩)
    · exact ⟨h3, by rw [h4]; rfl⟩
    · refine ⟨hcl x y h6, ?_⟩
      have : (xs.any fun x => telB cl tl p x && (!lo x && decide (cl x = some y))) = true := by
        rw [List.any_eq_true]
        exact ⟨x, h2 x h3, by rw [h4, h5, h6]; simp⟩
      rw [this, Bool.or_true]
  · rintro ⟨h3, h4⟩
    cases h5 : p.1 y with
    | true => exact .inl ⟨h3, rfl⟩
    | false =>
      rw [h5, Bool.false_or, List.any_eq_true] at h4
      obtain ⟨x, h6, h7⟩ := h4
      simp only [Bool.and_eq_true, Bool.not_eq_true', decide_eq_true_eq] at h7
      exact .inr ⟨x, h1 x h6 h7.1, h7.1, h7.2.1, h7.2.2, h5⟩
theorem spU_all {cl : Int → Option Int} {lo : Int → Bool} {tl : Option Int} {p : (Int → Bool) × (Int → Int)} {xs P : List Int} (h1 : ∀ x, x ∈ xs → telB cl tl p x = true → x ∈ P) {x : Int} (hx : x ∈ xs) : spU cl tl p P x = (stp cl lo tl xs p).2 x := by
  show _ = if telB cl tl p x = true then p.2 x + 1 else p.2 x
  unfold spU
  cases h : telB cl tl p x with
  | false => simp
  | true => simp [h1 x hx h]
theorem spU_take {cl : Int → Option Int} {tl : Option Int} {p : (Int → Bool) × (Int → Int)} {P : List Int} {i : Nat} (nd : P.Nodup) (hi : i < P.length) : spU cl tl p (P.take (i + 1)) = if telB cl tl p P[i] = true then fset (spU cl tl p (P.take i)) P[i] (p.2 P[i] + 1) else spU cl tl p (P.take i) := by
  funext x
  have hn := nd_take nd hi
  have e2 : decide (x ∈ P.take (i + 1)) = decide (x ∈ P.take i ∨ x = P[i]) := decide_eq_decide.mpr (by rw [List.take_succ_eq_append_getElem hi, List.mem_append, List.mem_singleton])
  unfold spU
  rw [e2]
  by_cases ht : telB cl tl p P[i] = true
  · rw [if_pos ht]
    unfold fset
    by_cases hx : x = P[i]
    · subst hx
      simp [ht]
    · simp [hx]
  · rw [if_neg ht]
    by_cases hx : x = P[i]
    · subst hx
      simp [hn, ht]
    · simp [hx]
theorem spU_at {cl : Int → Option Int} {tl : Option Int} {p : (Int → Bool) × (Int → Int)} {P : List Int} {i : Nat} (nd : P.Nodup) (hi : i < P.length) : spU cl tl p (P.take i) P[i] = p.2 P[i] := by
  unfold spU
  rw [decide_eq_false (nd_take nd hi)]
  simp
def SpF (n start : Int) (S sh tb md sn : Addr) (tl : Option Int) : List (Str × V) := [(("rounds" : Str), .int n), (("_setting" : Str), .ref S), (("_start" : Str), .int start), (("_tellings" : Str), ov tl), (("_shifts" : Str), .ref sh), (("_table" : Str), .ref tb), (("_made" : Str), .ref md), (("_since" : Str), .ref sn)]
/-- a Spread at q behind n rounds; p: who knows, the tellings made -/
structure Sprd (K : PySem.W.Frag) (H : Hp) (q S sh tb md sn : Addr) (s : Stg) (xs ks : List Int) (df : Int → Int) (start : Int) (tl : Option Int) (n : Nat) (p : (Int → Bool) × (Int → Int)) (W : Int → Int) : Prop where
  at_ : ∃ dx, H q = some (.ins (ga K "Spread") dx (SpF n start S sh tb md sn tl))
  set : SetAt K H S s
  shA : H sh = some (.dK (dmap ks fun x => V.int (df x)))
  tbA : TabAt H tb s xs
  mdA : H md = some (.dK (dmap xs fun x => V.int (p.2 x)))
  snA : ∃ us : List Int, H sn = some (.dK (dmap us fun x => V.int (W x))) ∧ us.Nodup ∧ ∀ y, y ∈ us ↔ y ∈ xs ∧ p.1 y = true
  nd : xs.Nodup
  len : xs.length ≤ 60
  n1 : sh ≠ md
  n2 : sh ≠ sn
  n3 : tb ≠ md
  n4 : tb ≠ sn
  n5 : md ≠ sn
theorem Sprd.k0 {K : PySem.W.Frag} {H H' : Hp} {q S sh tb md sn : Addr} {s : Stg} {xs ks : List Int} {df : Int → Int} {start : Int} {tl : Option Int} {n : Nat} {p : (Int → Bool) × (Int → Int)} {W : Int → Int} (G : Sprd K H q S sh tb md sn s xs ks df start tl n p W) (k : Kp [] H H') : Sprd K H' q S sh tb md sn s xs ks df start tl n p W := by
  obtain ⟨dx, h⟩ := G.at_
  obtain ⟨us, h1, h2⟩ := G.snA
  exact ⟨⟨dx, k.g0 h⟩, G.set.k0 k, k.g0 G.shA, G.tbA.k0 k, k.g0 G.mdA, ⟨us, k.g0 h1, h2⟩, G.nd, G.len, G.n1, G.n2, G.n3, G.n4, G.n5⟩
theorem TabAt.kd {H H' : Hp} {d m : Addr} {s : Stg} {xs : List Int} {kvs : List (Key × V)} (h : TabAt H d s xs) (k : Kp [m] H H') (hm : H m = some (.dK kvs)) (n : d ≠ m) : TabAt H' d s xs := by
  obtain ⟨f, h1, h2⟩ := h
  exact ⟨f, k.g1 n h1, fun x hx => k.g1 (ne_of (h2 x hx) hm (by intro z; cases z)) (h2 x hx)⟩
theorem TabAt.ki {H H' : Hp} {d m C dx : Addr} {s : Stg} {xs : List Int} {fs : List (Str × V)} (h : TabAt H d s xs) (k : Kp [m] H H') (hm : H m = some (.ins C dx fs)) : TabAt H' d s xs := by
  obtain ⟨f, h1, h2⟩ := h
  exact ⟨f, k.g1 (ne_of h1 hm (by intro z; cases z)) h1, fun x hx => k.g1 (ne_of (h2 x hx) hm (by intro z; cases z)) (h2 x hx)⟩
theorem new_take {cl : Int → Option Int} {lo : Int → Bool} {tl : Option Int} {p : (Int → Bool) × (Int → Int)} {P : List Int} {i : Nat} (hi : i < P.length) (y : Int) : NewR cl lo tl p (P.take (i + 1)) y ↔ NewR cl lo tl p (P.take i) y ∨ (telB cl tl p P[i] = true ∧ lo P[i] = false ∧ cl P[i] = some y ∧ p.1 y = false) := by
  unfold NewR
  rw [List.take_succ_eq_append_getElem hi]
  constructor
  · rintro ⟨x, h1, h2⟩
    rcases List.mem_append.mp h1 with h1 | h1
    · exact .inl ⟨x, h1, h2⟩
    · rw [List.mem_singleton.mp h1] at h2
      exact .inr h2
  · rintro (⟨x, h1, h2⟩ | h2)
    · exact ⟨x, List.mem_append_left _ h1, h2⟩
    · exact ⟨_, List.mem_append_right _ (List.mem_singleton.mpr rfl), h2⟩
theorem new_none {cl : Int → Option Int} {lo : Int → Bool} {tl : Option Int} {p : (Int → Bool) × (Int → Int)} {P fs : List Int} {i : Nat} (hi : i < P.length) (hf : ∀ y, y ∈ fs ↔ NewR cl lo tl p (P.take i) y) (h : ∀ y, ¬ (telB cl tl p P[i] = true ∧ lo P[i] = false ∧ cl P[i] = some y ∧ p.1 y = false)) (y : Int) : y ∈ fs ↔ NewR cl lo tl p (P.take (i + 1)) y := by
  rw [new_take hi, ← hf]
  exact ⟨.inl, fun z => z.elim id fun z => absurd z (h y)⟩
theorem all_len {us xs : List Int} {f : Int → Bool} (un : us.Nodup) (nd : xs.Nodup) (hu : ∀ y, y ∈ us ↔ y ∈ xs ∧ f y = true) : decide ((us.length : Int) = (xs.length : Int)) = xs.all f := by
  have h1 := List.Nodup.length_le_of_subset un (fun y hy => ((hu y).mp hy).1)
  cases h : xs.all f with
  | true =>
    rw [List.all_eq_true] at h
    have h2 := List.Nodup.length_le_of_subset nd (fun y hy => (hu y).mpr ⟨hy, h y hy⟩)
    exact decide_eq_true (by omega)
  | false =>
    rw [List.all_eq_false] at h
    obtain ⟨x, h2, h3⟩ := h
    refine decide_eq_false fun e => ?_
    have hx : x ∉ us := fun z => h3 ((hu x).mp z).2
    have h4 := List.Nodup.length_le_of_subset (l₁ := x :: us) (l₂ := xs) (List.nodup_cons.mpr ⟨hx, un⟩) (fun y hy => by
      rcases List.mem_cons.mp hy with rfl | hy
      · exact h2
      · exact ((hu y).mp hy).1)
    rw [List.length_cons] at h4
    omega
/-- nobody who knows may tell -/
def stuckB (tl : Option Int) (p : (Int → Bool) × (Int → Int)) (xs : List Int) : Bool := xs.all fun x => !p.1 x || !mayL tl (p.2 x)
theorem stuck_any {us xs : List Int} {tl : Option Int} {p : (Int → Bool) × (Int → Int)} (hu : ∀ y, y ∈ us ↔ y ∈ xs ∧ p.1 y = true) : (!(us.map fun x => mayL tl (p.2 x)).any id) = stuckB tl p xs := by
  unfold stuckB
  cases h : xs.all (fun x => !p.1 x || !mayL tl (p.2 x)) with
  | true =>
    rw [List.all_eq_true] at h
    have : (us.map fun x => mayL tl (p.2 x)).any id = false := by
      rw [List.any_eq_false]
      intro b hb
      obtain ⟨x, hx, rfl⟩ := List.mem_map.mp hb
      obtain ⟨h1, h2⟩ := (hu x).mp hx
      have := h x h1
      rw [h2] at this
      simpa using this
    rw [this]
    rfl
  | false =>
    rw [List.all_eq_false] at h
    obtain ⟨x, h1, h2⟩ := h
    have h3 : p.1 x = true ∧ mayL tl (p.2 x) = true := by
      cases e1 : p.1 x <;> cases e2 : mayL tl (p.2 x) <;> simp [e1, e2] at h2 ⊢
    have : (us.map fun x => mayL tl (p.2 x)).any id = true := by
      rw [List.any_eq_true]
      exact ⟨true, List.mem_map.mpr ⟨x, (hu x).mpr ⟨h1, h3.1⟩, h3.2⟩, rfl⟩
    rw [this]
    rfl
theorem dmap_const {a : Int} {v : V} {xs : List Int} (h : a ∉ xs) : putK (dmap xs fun _ => v) (.inl a) v = dmap (xs ++ [a]) fun _ => v := by
  rw [dmap_new h]
  refine dmap_congr fun x _ => ?_
  unfold fset
  split <;> rfl
theorem dmap_const' {a : Int} {v : V} {xs : List Int} (h : a ∈ xs) : putK (dmap xs fun _ => v) (.inl a) v = dmap xs fun _ => v := by
  rw [dmap_old h]
  refine dmap_congr fun x _ => ?_
  unfold fset
  split <;> rfl
theorem kp_mine3 {H H1 H2 : Hp} {q md sn : Addr} (k : Kp [] H H1) (k2 : Kp [q, md, sn] H1 H2) (n1 : H q = none) (n2 : H md = none) (n3 : H sn = none) : Kp [] H H2 := fun b o hb hn => k2 _ _ (k _ _ hb hn) (fun z => by
  simp only [List.mem_cons, List.not_mem_nil, or_false] at z
  rcases z with rfl | rfl | rfl
  · rw [n1] at hb
    cases hb
  · rw [n2] at hb
    cases hb
  · rw [n3] at hb
    cases hb)
/-- the seats that came to know, ascending -/
def NewL (xs rs : List Int) (p p2 : (Int → Bool) × (Int → Int)) : Prop := rs.Nodup ∧ rs.Pairwise (· ≤ ·) ∧ ∀ y, y ∈ rs ↔ y ∈ xs ∧ p.1 y = false ∧ p2.1 y = true
theorem newL_of {cl : Int → Option Int} {lo : Int → Bool} {tl : Option Int} {p : (Int → Bool) × (Int → Int)} {xs P us fs rs : List Int} (q1 : rs.Perm fs) (q2 : rs.Pairwise (· ≤ ·)) (q3 : fs.Nodup) (hx : ∀ y, y ∈ fs → y ∉ us) (hm : ∀ y, y ∈ us ++ fs ↔ y ∈ xs ∧ (stp cl lo tl xs p).1 y = true)
    (hf : ∀ y, y ∈ fs ↔ NewR cl lo tl p P y) (hu : ∀ y, y ∈ us ↔ y ∈ xs ∧ p.1 y = true) : NewL xs rs p (stp cl lo tl xs p) := by
  refine ⟨q1.nodup_iff.mpr q3, q2, fun y => ?_⟩
  rw [q1.mem_iff]
  constructor
  · intro h
    obtain ⟨h1, h2⟩ := (hm y).mp (List.mem_append_right _ h)
    obtain ⟨_, _, _, _, _, h3⟩ := (hf y).mp h
    exact ⟨h1, h3, h2⟩
  · rintro ⟨h1, h2, h3⟩
    rcases List.mem_append.mp ((hm y).mpr ⟨h1, h3⟩) with h | h
    · have := ((hu y).mp h).2
      rw [h2] at this
      cases this
    · exact h
theorem newL_uniq {xs a b : List Int} {p p2 : (Int → Bool) × (Int → Int)} (h1 : NewL xs a p p2) (h2 : NewL xs b p p2) : a = b :=
  sort_uniq ((List.perm_ext_iff_of_nodup h1.1 h2.1).mpr fun y => by rw [h1.2.2 y, h2.2.2 y]) h1.2.1 h2.2.1
theorem call_mem {bits pat b y : Int} {xs : List Int} {x : Int} (rp : 0 < (2 : Int) ^ bits.toNat) (h : callO bits pat xs x b = some y) : y ∈ xs := near_mem rp h
theorem dg_iip {H : Hp} {a b : Addr} {kvs : List (List Key × V)} {s z : Int} {v : V} (e : H a = some (.dT (putK kvs [.inl s, .inl z] v))) (eb : H b = some (.tup [.int s, .int z])) : DGet H a (.ref b) (some v) := by
  have h := dg_ii e eb
  rw [valV_put, if_pos rfl] at h
  exact h

def TabL (H : Hp) (tb : Addr) (bits : Int) (xs : List Int) : Prop := ∃ f : Nat → Addr, H tb = some (.lst ((List.range bits.toNat).map fun k => V.ref (f k))) ∧ ∀ k, k < bits.toNat → H (f k) = some (.dK (dmap xs fun x => ov (nearO (2 ^ bits.toNat) x (2 ^ k) xs)))
theorem TabL.k0 {H H' : Hp} {tb : Addr} {bits : Int} {xs : List Int} (h : TabL H tb bits xs) (k : Kp [] H H') : TabL H' tb bits xs := by
  obtain ⟨f, f1, f2⟩ := h
  exact ⟨f, k.g0 f1, fun i hi => k.g0 (f2 i hi)⟩
structure Ext where
  ix : Int
  tl : Option Int
  pl : Bool
  ls : Int
  tm : Addr
  sp : Addr
def grpK (e : Ext) (hl tb og dl : Addr) (bits pat start : Int) : List (Key × V) := [(.inr "bits", .int bits), (.inr "patience", .int pat), (.inr "held", .ref hl), (.inr "table", .ref tb), (.inr "index", .int e.ix), (.inr "origins", .ref og), (.inr "start", .int start), (.inr "limit", ov e.tl), (.inr "delays", .ref dl), (.inr "plain", .bl e.pl), (.inr "losing", .int e.ls), (.inr "times", .ref e.tm), (.inr "spent", .ref e.sp)]
structure Grp (H : Hp) (e : Ext) (g hl tb og dl : Addr) (bits pat start : Int) (xs os ks : List Int) (df : Int → Int) : Prop where
  at_ : H g = some (.dK (grpK e hl tb og dl bits pat start))
  held : H hl = some (.lst (xs.map V.int))
  table : TabL H tb bits xs
  orig : H og = some (.lst (os.map V.int))
  dls : H dl = some (.dK (dmap ks fun x => V.int (df x)))
  nd : xs.Nodup
  rng : ∀ z, z ∈ xs → 0 ≤ z ∧ z < 2 ^ bits.toNat
  len : 1 ≤ xs.length ∧ xs.length ≤ 60
  ond : os.Nodup
  osub : ∀ z, z ∈ os → z ∈ xs
  one : os ≠ []
  kl : ks.length ≤ 300
  b : 1 ≤ bits ∧ bits ≤ 8
  p : 1 ≤ pat ∧ pat ≤ 6
theorem Grp.k0 {H H' : Hp} {e : Ext} {g hl tb og dl : Addr} {bits pat start : Int} {xs os ks : List Int} {df : Int → Int} (G : Grp H e g hl tb og dl bits pat start xs os ks df) (k : Kp [] H H') : Grp H' e g hl tb og dl bits pat start xs os ks df :=
  ⟨k.g0 G.at_, k.g0 G.held, G.table.k0 k, k.g0 G.orig, k.g0 G.dls, G.nd, G.rng, G.len, G.ond, G.osub, G.one, G.kl, G.b, G.p⟩
theorem Grp.kp {H H' : Hp} {e : Ext} {g hl tb og dl p c : Addr} {bits pat start : Int} {xs os ks : List Int} {df : Int → Int} (G : Grp H e g hl tb og dl bits pat start xs os ks df) (B : Purse H p c) (k : Kp [p] H H') : Grp H' e g hl tb og dl bits pat start xs os ks df := by
  obtain ⟨f, f1, f2⟩ := G.table
  obtain ⟨kvs, hp⟩ := B.at
  refine ⟨k.g1 (ne_of G.at_ hp (fun z => ?_)) G.at_, k.g1 (B.lst G.held) G.held, ⟨f, k.g1 (B.lst f1) f1, fun i hi => k.g1 (B.dm (f2 i hi)) (f2 i hi)⟩, k.g1 (B.lst G.orig) G.orig, k.g1 (B.dm G.dls) G.dls, G.nd, G.rng, G.len, G.ond, G.osub, G.one, G.kl, G.b, G.p⟩
  injection z with z
  injection z with z
  injection z with z _
  injection z with z
  exact absurd z (by decide)
/-- what a walk writes: dicts that none of the group's is -/
def Apt (H : Hp) (tb dl : Addr) (bits : Int) (ps : List Addr) : Prop := (∀ q, q ∈ ps → (∃ (zs : List Int) (f : Int → V), H q = some (.dK (dmap zs f))) ∧ q ≠ dl) ∧ ∀ (l : List V) (ln : Addr), H tb = some (.lst l) → V.ref ln ∈ l → ln ∉ ps
theorem Grp.kw {H H' : Hp} {e : Ext} {g hl tb og dl : Addr} {bits pat start : Int} {xs os ks : List Int} {df : Int → Int} {ps : List Addr} (G : Grp H e g hl tb og dl bits pat start xs os ks df) (A : Apt H tb dl bits ps) (k : Kp ps H H') : Grp H' e g hl tb og dl bits pat start xs os ks df := by
  obtain ⟨f, f1, f2⟩ := G.table
  have nl : ∀ {a : Addr} {l : List V}, H a = some (.lst l) → a ∉ ps := fun {a l} h m => by
    obtain ⟨⟨zs, f, ez⟩, -⟩ := A.1 a m
    rw [h] at ez
    cases ez
  refine ⟨k _ _ G.at_ (fun m => ?_), k _ _ G.held (nl G.held), ⟨f, k _ _ f1 (nl f1), fun i hi => k _ _ (f2 i hi) (A.2 _ _ f1 (List.mem_map.mpr ⟨i, List.mem_range.mpr hi, rfl⟩))⟩, k _ _ G.orig (nl G.orig), k _ _ G.dls (fun m => (A.1 _ m).2 rfl), G.nd, G.rng, G.len, G.ond, G.osub, G.one, G.kl, G.b, G.p⟩
  obtain ⟨⟨zs, f, ez⟩, -⟩ := A.1 _ m
  rw [G.at_] at ez
  injection ez with ez
  injection ez with ez
  cases zs with
  | nil => cases ez
  | cons z r =>
    injection ez with ez _
    injection ez with ez _
    cases ez
theorem Apt.sub {H : Hp} {tb dl : Addr} {bits : Int} {ps qs : List Addr} (A : Apt H tb dl bits ps) (h : ∀ q, q ∈ qs → q ∈ ps) : Apt H tb dl bits qs := ⟨fun q hq => A.1 q (h q hq), fun l ln h1 h2 h3 => A.2 l ln h1 h2 (h _ h3)⟩
theorem apt_of {H H2 : Hp} {e : Ext} {g hl tb og dl tm sp : Addr} {bits pat start : Int} {xs os ks ts zs : List Int} {df : Int → Int} {f1 f2 : Int → V} (G : Grp H e g hl tb og dl bits pat start xs os ks df) (k : Kp [] H H2) (n1 : H tm = none) (n2 : H sp = none) (h1 : H2 tm = some (.dK (dmap ts f1))) (h2 : H2 sp = some (.dK (dmap zs f2))) : Apt H2 tb dl bits [tm, sp] := by
  obtain ⟨f, t1, t2⟩ := G.table
  refine ⟨fun q hq => ?_, fun l ln e1 e2 => ?_⟩
  · simp only [List.mem_cons, List.not_mem_nil, or_false] at hq
    rcases hq with rfl | rfl
    · exact ⟨⟨_, _, h1⟩, Ne.symm (ne_of_none G.dls n1)⟩
    · exact ⟨⟨_, _, h2⟩, Ne.symm (ne_of_none G.dls n2)⟩
  · rw [k.g0 t1] at e1
    injection e1 with e1
    injection e1 with e1
    rw [← e1] at e2
    obtain ⟨i, hi, e3⟩ := List.mem_map.mp e2
    injection e3 with e3
    subst e3
    have h3 := t2 i (List.mem_range.mp hi)
    simp only [List.mem_cons, List.not_mem_nil, or_false, not_or]
    exact ⟨ne_of_none h3 n1, ne_of_none h3 n2⟩
theorem stuck_none {p : (Int → Bool) × (Int → Int)} {xs : List Int} {o : Int} (ho : o ∈ xs) (hk : p.1 o = true) : stuckB none p xs = false := by
  unfold stuckB
  rw [List.all_eq_false]
  exact ⟨o, ho, by rw [hk]; simp [mayL]⟩
theorem stuck_min {p : (Int → Bool) × (Int → Int)} {xs ts : List Int} {l m : Int} (ht : ∀ y, y ∈ ts ↔ y ∈ xs ∧ p.1 y = true) (h1 : m ∈ ts.map p.2) (h2 : ∀ y, y ∈ ts.map p.2 → m ≤ y) : stuckB (some l) p xs = decide (l ≤ m) := by
  unfold stuckB
  by_cases h : l ≤ m
  · rw [decide_eq_true h, List.all_eq_true]
    intro x hx
    cases hk : p.1 x with
    | false => rfl
    | true =>
      have := h2 _ (List.mem_map.mpr ⟨x, (ht x).mpr ⟨hx, hk⟩, rfl⟩)
      simp only [mayL, Bool.not_true, Bool.false_or, Bool.not_eq_true', decide_eq_false_iff_not]
      omega
  · rw [decide_eq_false h, List.all_eq_false]
    obtain ⟨x, hx, rfl⟩ := List.mem_map.mp h1
    obtain ⟨h3, h4⟩ := (ht x).mp hx
    refine ⟨x, h3, ?_⟩
    rw [h4]
    simp only [mayL, Bool.not_true, Bool.false_or, Bool.not_eq_true', decide_eq_false_iff_not]
    omega
theorem gl_bits {e : Ext} {hl tb og dl : Addr} {bits pat start : Int} : valV (grpK e hl tb og dl bits pat start) (.inr "bits") = some (.int bits) := rfl
theorem gl_patience {e : Ext} {hl tb og dl : Addr} {bits pat start : Int} : valV (grpK e hl tb og dl bits pat start) (.inr "patience") = some (.int pat) := rfl
theorem gl_held {e : Ext} {hl tb og dl : Addr} {bits pat start : Int} : valV (grpK e hl tb og dl bits pat start) (.inr "held") = some (.ref hl) := rfl
theorem gl_table {e : Ext} {hl tb og dl : Addr} {bits pat start : Int} : valV (grpK e hl tb og dl bits pat start) (.inr "table") = some (.ref tb) := rfl
theorem gl_index {e : Ext} {hl tb og dl : Addr} {bits pat start : Int} : valV (grpK e hl tb og dl bits pat start) (.inr "index") = some (.int e.ix) := rfl
theorem gl_origins {e : Ext} {hl tb og dl : Addr} {bits pat start : Int} : valV (grpK e hl tb og dl bits pat start) (.inr "origins") = some (.ref og) := rfl
theorem gl_start {e : Ext} {hl tb og dl : Addr} {bits pat start : Int} : valV (grpK e hl tb og dl bits pat start) (.inr "start") = some (.int start) := rfl
theorem gl_limit {e : Ext} {hl tb og dl : Addr} {bits pat start : Int} : valV (grpK e hl tb og dl bits pat start) (.inr "limit") = some (ov e.tl) := rfl
theorem gl_delays {e : Ext} {hl tb og dl : Addr} {bits pat start : Int} : valV (grpK e hl tb og dl bits pat start) (.inr "delays") = some (.ref dl) := rfl
theorem gl_plain {e : Ext} {hl tb og dl : Addr} {bits pat start : Int} : valV (grpK e hl tb og dl bits pat start) (.inr "plain") = some (.bl e.pl) := rfl
theorem gl_losing {e : Ext} {hl tb og dl : Addr} {bits pat start : Int} : valV (grpK e hl tb og dl bits pat start) (.inr "losing") = some (.int e.ls) := rfl
theorem gl_times {e : Ext} {hl tb og dl : Addr} {bits pat start : Int} : valV (grpK e hl tb og dl bits pat start) (.inr "times") = some (.ref e.tm) := rfl
theorem gl_spent {e : Ext} {hl tb og dl : Addr} {bits pat start : Int} : valV (grpK e hl tb og dl bits pat start) (.inr "spent") = some (.ref e.sp) := rfl
theorem TabL.kn {H H' : Hp} {tb gd : Addr} {bits : Int} {xs : List Int} {kvs : List (Key × V)} (h : TabL H tb bits xs) (hg : H gd = some (.dK kvs)) (n : ∀ f : Int → V, kvs ≠ dmap xs f) (k : Kp [gd] H H') : TabL H' tb bits xs := by
  obtain ⟨f, f1, f2⟩ := h
  refine ⟨f, k.g1 (ne_of f1 hg (by intro z; cases z)) f1, fun i hi => k.g1 (ne_of (f2 i hi) hg fun z => ?_) (f2 i hi)⟩
  injection z with z
  exact n _ z.symm
structure PG (K : PySem.W.Frag) (H : Hp) (S gd hl tb p c : Addr) (s : Stg) (xs : List Int) (r : List (Key × V)) : Prop where
  at_ : H gd = some (.dK ((.inr "bits", .int s.bits) :: r))
  held : H hl = some (.lst (xs.map V.int))
  table : TabL H tb s.bits xs
  set : SetAt K H S s
  purse : Purse H p c
  n1 : gd ≠ p
  n2 : gd ≠ c
theorem PG.kp {K : PySem.W.Frag} {H H' : Hp} {S gd hl tb p c : Addr} {s : Stg} {xs : List Int} {r : List (Key × V)} (G : PG K H S gd hl tb p c s xs r) (B : Purse H' p c) (k : Kp [p] H H') : PG K H' S gd hl tb p c s xs r := by
  obtain ⟨f, f1, f2⟩ := G.table
  exact ⟨k.g1 G.n1 G.at_, k.g1 (G.purse.lst G.held) G.held, ⟨f, k.g1 (G.purse.lst f1) f1, fun i hi => k.g1 (G.purse.dm (f2 i hi)) (f2 i hi)⟩, G.set.kpp G.purse k, B, G.n1, G.n2⟩
theorem PG.wr {K : PySem.W.Frag} {H : Hp} {S gd hl tb p c : Addr} {s : Stg} {xs : List Int} {r : List (Key × V)} (G : PG K H S gd hl tb p c s xs r) (nx : 1 ≤ xs.length) (r' : List (Key × V)) : PG K (upd H gd (.dK ((.inr "bits", .int s.bits) :: r'))) S gd hl tb p c s xs r' := by
  have k : Kp [gd] H (upd H gd (.dK ((.inr "bits", .int s.bits) :: r'))) := Kp.refl.wr (by simp)
  refine ⟨upd_same, k.g1 (ne_of G.held G.at_ (by intro z; cases z)) G.held, G.table.kn G.at_ (fun f e => ?_) k, G.set.k1 k (G.set.nedK G.at_), G.purse.k1 k (Ne.symm G.n1) (Ne.symm G.n2), G.n1, G.n2⟩
  cases xs with
  | nil => simp at nx
  | cons x xs =>
    injection e with e _
    injection e with e _
    cases e

/-- when the news came: W, and at k + 1 for who did not know it -/
def wup (p : (Int → Bool) × (Int → Int)) (W : Int → Int) (k : Int) (x : Int) : Int := if p.1 x = true then W x else k + 1
theorem wup_old {p : (Int → Bool) × (Int → Int)} {W : Int → Int} {k : Int} {ts : List Int} (h : ∀ x, x ∈ ts → p.1 x = true) : (dmap ts fun x => V.int (wup p W k x)) = dmap ts fun x => V.int (W x) := dmap_congr fun x hx => by
  unfold wup
  rw [if_pos (h x hx)]
theorem wup_put {p : (Int → Bool) × (Int → Int)} {W : Int → Int} {k a : Int} {ts : List Int} (h : a ∉ ts) (ha : p.1 a = false) : putK (dmap ts fun x => V.int (wup p W k x)) (.inl a) (.int (k + 1)) = dmap (ts ++ [a]) fun x => V.int (wup p W k x) := by
  rw [dmap_new h]
  refine dmap_congr fun x _ => ?_
  unfold fset
  split
  · next e =>
    subst e
    unfold wup
    rw [if_neg (by rw [ha]; exact Bool.false_ne_true)]
  · rfl

theorem dfl_step {K : PySem.W.Frag} {mg : Str → Option Value} (T : Cx K mg) (H : Hp) : SqI K H (He.dflAt ("Spread", some "step") 0 K) [] := .inr (tupA_ok (vs := []) (ba T.ex).1 H)

theorem dmap_fst {xs : List Int} {f : Int → V} : (dmap xs f).map (·.1) = xs.map Sum.inl := by
  unfold dmap
  rw [List.map_map]
  rfl


abbrev hk : PySem.W.Hook := hookP 6 fa fn gs tf ex
def ob (s : PySem.W.SharedT) : AlP := obsP 6 fa fn gs tf ex (HandSHeadRun.getT s)
theorem ob_eq (s : PySem.W.SharedT) : ob s = hk.obs s.abs := obsP_eq (HandSHeadRun.getT_eq s)
def names : List Str := (["_wall", "GroupError", "InvalidSetting", "whole", "Setting", "distance", "block_of", "nearest", "fingers", "finger_table", "called_at", "Spread", "copied", "_law_purse", "_law_mixed", "_law_draw", "_law_setting", "_law_seats", "_law_some", "_law_start", "_law_delays", "_law_table", "_law_goal", "_law_number", "_law_step", "_law_group", "_law_spread", "_law_seats_are", "_law_shows", "_law_stepped"] : List Str)
theorem run (w : World) : HandSHeadRun.RunEq R (PySem.W.view R.prog [35]) hk ob 6000 names w := by
  intro os
  kernel_rfl

local macro_rules | `(tactic| wtm_at "look") => `(tactic| fail "no rule")
local macro_rules | `(tactic| wtm_at "ne") => `(tactic| first
  | with_reducible assumption
  | ((with_reducible refine' Ne.symm ?h); (case h => with_reducible assumption))
  | ((with_reducible refine' ne_fresh ?n); (case n => with_reducible assumption))
  | ((with_reducible refine' Ne.symm (ne_fresh ?n)); (case n => with_reducible assumption))
  | ((refine' ne_of_none ?h ?n); (case n => with_reducible assumption); (case h => wtm_at "hp"))
  | ((refine' Ne.symm (ne_of_none ?h ?n)); (case n => with_reducible assumption); (case h => wtm_at "hp"))
  | fail "no rule")
local macro_rules | `(tactic| wtm_at "hp") => `(tactic| first
  | with_reducible assumption
  | with_reducible exact upd_same
  | ((with_reducible refine' upd_is ?e); (case e => exact rfl))
  | ((with_reducible refine' hu_ne ?n ?e); (case n => wtm_at "ne"); (case e => wtm_at "hp"))
  | ((with_reducible refine' Kp.g0 ?k ?e); (case k => with_reducible assumption); (case e => wtm_at "hp"))
  | ((with_reducible refine' Kp.g1 ?k ?n ?e); (case k => with_reducible assumption); (case n => wtm_at "ne"); (case e => wtm_at "hp"))
  | ((with_reducible refine' Kp.g2 ?k ?n ?m ?e); (case k => with_reducible assumption); (case n => wtm_at "ne"); (case m => wtm_at "ne"); (case e => wtm_at "hp"))
  | ((with_reducible refine' Kp.g3 ?k ?n ?m ?l ?e); (case k => with_reducible assumption); (case n => wtm_at "ne"); (case m => wtm_at "ne"); (case l => wtm_at "ne"); (case e => wtm_at "hp"))
  | fail "no rule")
local macro_rules | `(tactic| wtm_at "sq") => `(tactic| first
  | with_reducible assumption
  | wtm_at "sqx"
  | ((refine' SqL.of ?e); (case e => wtm_at "hp"))
  | ((refine' SqT.of ?e); (case e => wtm_at "hp"))
  | fail "no rule")
local macro_rules | `(tactic| wtm_at "at") => `(tactic| first
  | exact rfl
  | assumption
  | ((refine' atI_ints ?a ?b); (case a => omega); (case b => omega))
  | fail "no rule")
local macro_rules | `(tactic| wtm_at "cc") => `(tactic| first
  | with_reducible assumption
  | omega
  | exact rfl
  | decide
  | ((refine' ⟨?a, ?b⟩); (case a => omega); (case b => omega))
  | ((refine' Or.inr ⟨?a, ?b⟩); (case a => omega); (case b => omega))
  | ((refine' Or.inl ⟨?a, ?b⟩); (case a => omega); (case b => omega))
  | ((refine' ⟨?a, ?b, ?c⟩); (case a => first | omega | decide | fail "num"); (case b => first | omega | decide | fail "num"); (case c => first | omega | decide | fail "num"))
  | fail "no rule")
local macro_rules | `(tactic| wtm_at "sz") => `(tactic| first
  | assumption
  | ((refine' szlt ?h); (case h => (simp; omega)))
  | ((refine' szlt ?h); (case h => omega))
  | ((refine' szlt ?h); (case h => exact Nat.le_of_ble_eq_true rfl))
  | ((refine' sz1000 ?h); (case h => (simp; done)))
  | ((refine' sz1000 ?h); (case h => omega))
  | fail "no rule")
local macro_rules | `(tactic| wtm_at "dg") => `(tactic| first
  | ((refine' dg_is ?a ?b); (case a => wtm_at "hp"); (case b => wtm_at "hp"))
  | ((refine' dg_i ?a); (case a => wtm_at "hp"))
  | ((refine' dg_s ?a); (case a => wtm_at "hp"))
  | fail "no rule")
local macro_rules | `(tactic| wtm_at "dgv") => `(tactic| first
  | ((refine' dg_sv ?a ?b); (case a => wtm_at "hp"); (case b => first | assumption | wtm_at "look" | exact rfl | fail "look"))
  | ((refine' dg_iv ?a ?b); (case a => wtm_at "hp"); (case b => first | assumption | wtm_at "look" | exact rfl | fail "look"))
  | fail "no rule")
local macro_rules | `(tactic| wtm_at "dp") => `(tactic| first
  | ((refine' dp_is ?a ?b ?c); (case a => wtm_at "hp"); (case b => wtm_at "hp"); (case c => wtm_at "sz"))
  | ((refine' dp_i ?a ?c); (case a => wtm_at "hp"); (case c => wtm_at "sz"))
  | ((refine' dp_s ?a ?c); (case a => wtm_at "hp"); (case c => wtm_at "sz"))
  | fail "no rule")
local macro_rules | `(tactic| wtm_at "rd1") => `(tactic| first
  | with_reducible refine' rd_seq ?_
  | with_reducible refine' rd_asg ?_
  | ((with_reducible refine' rd_var ?e ?_); (case e => exact rfl))
  | with_reducible refine' rd_c ?_
  | with_reducible refine' rd_op ?_
  | with_reducible refine' rd_gname ?_
  | with_reducible refine' rd_CB ?_
  | with_reducible refine' rd_cons ?_
  | with_reducible refine' rd_nil ?_
  | with_reducible refine' rd_ret ?_
  | with_reducible refine' rd_drop ?_
  | with_reducible refine' rd_ifS ?_
  | with_reducible refine' rd_test ?_
  | with_reducible refine' rd_exb ?_
  | with_reducible refine' rd_call ?_
  | with_reducible refine' rd_I0 ?_
  | ((with_reducible refine' rd_I ?c ?_); (case c => wtm_at "cc"))
  | ((with_reducible refine' rd_ixL ?h ?a ?_); (case h => wtm_at "sq"); (case a => wtm_at "at"))
  | ((with_reducible refine' rd_ixT ?h ?a ?_); (case h => wtm_at "sq"); (case a => wtm_at "at"))
  | with_reducible refine' rd_int1 ?_
  | with_reducible refine' rd_abs ?_
  | ((with_reducible refine' rd_lenI ?h ?_); (case h => wtm_at "sq"))
  | ((with_reducible refine' rd_lenL ?h ?_); (case h => wtm_at "sq"))
  | ((with_reducible refine' rd_lenT ?h ?_); (case h => wtm_at "sq"))
  | with_reducible refine' rd_eqI ?_
  | with_reducible refine' rd_neI ?_
  | with_reducible refine' rd_eqS ?_
  | with_reducible refine' rd_neS ?_
  | with_reducible refine' rd_eqB ?_
  | with_reducible refine' rd_neB ?_
  | with_reducible refine' rd_and ?_
  | with_reducible refine' rd_or ?_
  | with_reducible refine' rd_not ?_
  | with_reducible refine' rd_tB ?_
  | with_reducible refine' rd_gsub ?_
  | ((with_reducible refine' rd_setL ?h ?j ?_); (case h => wtm_at "hp"); (case j => exact rfl))
  | with_reducible refine' rd_next ?_
  | with_reducible refine' rd_un ?_
  | with_reducible refine' rd_U ?_
  | with_reducible refine' rd_tup ?_
  | with_reducible refine' rd_lst ?_
  | with_reducible refine' rd_bm ?_
  | with_reducible refine' rd_bm0 ?_
  | with_reducible refine' rd_meth ?_
  | with_reducible refine' rd_make ?_
  | with_reducible refine' rd_iTup ?_
  | ((with_reducible refine' rd_iTupX ?h ?_); (case h => wtm_at "sq"))
  | with_reducible refine' rd_for ?_
  | with_reducible refine' rd_iList ?_
  | ((with_reducible refine' rd_iListX ?h ?_); (case h => wtm_at "sq"))
  | with_reducible refine' rd_iRng1 ?_
  | ((with_reducible refine' rd_iRng1X ?h1 ?h2 ?_); (case h1 => wtm_at "cc"); (case h2 => wtm_at "cc"))
  | ((with_reducible refine' rd_iRng2X ?h1 ?_); (case h1 => ((refine' ⟨?a, ?b, ?c, ?d⟩); (case a => omega); (case b => omega); (case c => omega); (case d => omega))))
  | with_reducible refine' rd_iRng2 ?_
  | with_reducible refine' rd_lc ?_
  | with_reducible refine' rd_yes ?_
  | with_reducible refine' rd_andV ?_
  | with_reducible refine' rd_orV ?_
  | with_reducible refine' rd_notV ?_
  | with_reducible refine' rd_ifE ?_
  | with_reducible refine' rd_isN ?_
  | with_reducible refine' rd_notN ?_
  | with_reducible refine' rd_min2 ?_
  | with_reducible refine' rd_max2 ?_
  | with_reducible refine' rd_retN ?_
  | with_reducible refine' rd_brk ?_
  | with_reducible refine' rd_cont ?_
  | with_reducible refine' rd_tfld ?_
  | ((with_reducible refine' rd_fldX ?h ?c ?n ?l ?_); (case h => wtm_at "hp"); (case c => wtm_at "cls"); (case n => wtm_at "noat"); (case l => exact rfl))
  | with_reducible refine' rd_sfld ?_
  | ((with_reducible refine' rd_sfldX ?h ?c ?n ?l ?_); (case h => wtm_at "hp"); (case c => wtm_at "cls"); (case n => wtm_at "noat"); (case l => first | decide | exact Nat.le_of_ble_eq_true rfl | fail "len"))
  | with_reducible refine' rd_tcon ?_
  | ((with_reducible refine' rd_conX ?h ?c ?n ?l ?_); (case h => wtm_at "hp"); (case c => wtm_at "cls"); (case n => wtm_at "con"); (case l => exact rfl))
  | ((with_reducible refine' rd_methX ?h ?l ?_); (case h => wtm_at "hp"); (case l => exact rfl))
  | with_reducible refine' rd_isi_ii ?_
  | with_reducible refine' rd_isi_ib ?_
  | with_reducible refine' rd_isi_bb ?_
  | with_reducible refine' rd_isi_bi ?_
  | with_reducible refine' rd_isi_ss ?_
  | ((with_reducible refine' rd_isi_ll ?h ?_); (case h => wtm_at "hp"))
  | ((with_reducible refine' rd_isi_tt ?h ?_); (case h => wtm_at "hp"))
  | with_reducible refine' iteT ?_
  | with_reducible refine' iteF ?_
  | with_reducible refine' ite_nt ?_
  | with_reducible refine' ite_nf ?_
  | with_reducible refine' ite_in ?_
  | with_reducible refine' ite_rn ?_
  | with_reducible refine' ite_sn ?_
  | with_reducible refine' ite_bn ?_
  | with_reducible refine' ite_nn ?_
  | with_reducible refine' ite_xin ?_
  | with_reducible refine' ite_xrn ?_
  | with_reducible refine' ite_xnn ?_
  | with_reducible refine' rd_dget2 ?_
  | ((with_reducible refine' rd_isdX ?h ?_); (case h => first | ((refine' isD_T ?e); (case e => wtm_at "hp")) | ((refine' isD_K ?e); (case e => wtm_at "hp"))))
  | ((with_reducible refine' rd_dgX ?h ?_); (case h => wtm_at "dg"))
  | with_reducible refine' rd_sdput ?_
  | ((with_reducible refine' rd_dpX ?h ?_); (case h => wtm_at "dp"))
  | ((with_reducible refine' ty_l ?h ?_); (case h => wtm_at "sq"))
  | ((with_reducible refine' ty_d ?h ?_); (case h => wtm_at "hp"))
  | ((with_reducible refine' ty_dK ?h ?_); (case h => wtm_at "hp"))
  | ((with_reducible refine' rd_append ?h ?l ?_); (case h => wtm_at "hp"); (case l => wtm_at "sz"))
  | with_reducible refine' rd_lstRg ?_
  | with_reducible refine' rd_rg1 ?_
  | with_reducible refine' rd_rg2 ?_
  | with_reducible refine' rd_inX ?_
  | with_reducible refine' rd_inX2 ?_
  | ((with_reducible refine' rd_listL ?h ?_); (case h => wtm_at "sq"))
  | ((with_reducible refine' rd_gtup ?h ?l ?_); (case h => wtm_at "sq"); (case l => exact rfl))
  | with_reducible refine' rd_gcons ?_
  | with_reducible refine' rd_gnil ?_
  | with_reducible refine' rd_din ?_
  | with_reducible refine' rd_dnotin ?_
  | with_reducible refine' rd_dget ?_
  | with_reducible refine' rd_dget1 ?_
  | ((with_reducible refine' rd_dinX ?h ?_); (case h => wtm_at "dg"))
  | ((with_reducible refine' rd_dgetX ?h ?_); (case h => wtm_at "dgv"))
  | with_reducible refine' rd_pnil ?_
  | with_reducible refine' rd_pcons ?_
  | with_reducible refine' rd_sl ?_
  | with_reducible refine' rd_part ?_
  | with_reducible refine' rd_nopart ?_
  | ((with_reducible refine' rd_slL ?h ?_); (case h => wtm_at "sq"))
  | ((with_reducible refine' rd_clear ?h ?_); (case h => wtm_at "hp"))
  | ((with_reducible refine' rd_aug ?e ?_); (case e => exact rfl))
  | with_reducible refine' rd_ipI ?_
  | ((with_reducible refine' rd_inI ?h ?_); (case h => wtm_at "sq"))
  | ((with_reducible refine' rd_notInI ?h ?_); (case h => wtm_at "sq"))
  | ((with_reducible refine' rd_lenD ?h ?_); (case h => wtm_at "hp"))
  | with_reducible refine' rd_iEnum ?_
  | ((with_reducible refine' rd_iEnumX ?h ?_); (case h => wtm_at "sq"))
  | ((with_reducible refine' rd_eqLI ?h1 ?h2 ?_); (case h1 => wtm_at "sq"); (case h2 => wtm_at "sq"))
  | ((with_reducible refine' rd_neLI ?h1 ?h2 ?_); (case h1 => wtm_at "sq"); (case h2 => wtm_at "sq"))
  | fail "no rule")
local macro_rules | `(tactic| wtm_at "rd") => `(tactic| repeat wtm_at "rd1")
local macro_rules | `(tactic| wtm_at "hn") => `(tactic| first
  | with_reducible assumption
  | ((with_reducible refine' hn_ne ?n ?e); (case n => wtm_at "ne"); (case e => wtm_at "hn"))
  | ((refine' Kp.back ?k ?e ?n); (case k => with_reducible assumption); (case e => with_reducible assumption); (case n => first | with_reducible assumption | (simp; done) | fail "mem"))
  | fail "no rule")
local macro_rules | `(tactic| wtm_at "kp") => `(tactic| first
  | exact Kp.refl
  | with_reducible assumption
  | ((with_reducible refine' Kp.of0 ?k); (case k => with_reducible assumption))
  | ((with_reducible refine' Kp.wr ?a ?h); (case h => (simp; done)); (case a => wtm_at "kp"))
  | ((with_reducible refine' Kp.nw ?a ?h); (case h => wtm_at "hn"); (case a => wtm_at "kp"))
  | ((with_reducible refine' Kp.mine ?a ?h); (case h => wtm_at "hn"); (case a => wtm_at "kp"))
  | ((with_reducible refine' Kp.via1 ?a ?b ?n); (case b => with_reducible assumption); (case n => wtm_at "hn"); (case a => wtm_at "kp"))
  | ((with_reducible refine' Kp.trans ?a ?b); (case b => first | with_reducible assumption | ((with_reducible refine' Kp.of0 ?k); (case k => with_reducible assumption)) | fail "kp"); (case a => wtm_at "kp"))
  | fail "no rule")
local macro_rules | `(tactic| wtm_at "rd1") => `(tactic| first
  | with_reducible refine' rd_prop ?_
  | ((with_reducible refine' rd_propX ?h ?_); (case h => wtm_at "hp"))
  | with_reducible refine' rd_revL ?_
  | ((with_reducible refine' rd_revLX ?h ?_); (case h => wtm_at "sq"))
  | with_reducible refine' rd_makeK ?_
  | with_reducible refine' rd_sortKey ?_
  | with_reducible refine' rd_sfldaug ?_
  | ((with_reducible refine' rd_sfldaugX ?h ?c ?n ?l ?_); (case h => wtm_at "hp"); (case c => wtm_at "cls"); (case n => wtm_at "noat"); (case l => exact rfl))
  | ((with_reducible refine' rd_insX ?h ?l ?_); (case h => wtm_at "hp"); (case l => first | decide | exact Nat.le_of_ble_eq_true rfl | fail "len"))
  | with_reducible refine' rd_addI ?_
  | with_reducible refine' rd_subI ?_
  | with_reducible refine' rd_disp ?_
  | with_reducible refine' rd_dc ?_
  | ((with_reducible refine' rd_dictD ?h ?_); (case h => wtm_at "hp"))
  | with_reducible refine' rd_minKey ?_
  | fail "no rule")
local macro_rules | `(tactic| wtm_at "hp") => `(tactic| first
  | ((with_reducible refine' Kt.g0 ?k ?n ?e); (case k => with_reducible assumption); (case n => (intro _ z; cases z)); (case e => wtm_at "hp"))
  | ((with_reducible refine' Kt.g1 ?k ?n ?m ?e); (case k => with_reducible assumption); (case n => (intro _ z; cases z)); (case m => wtm_at "ne"); (case e => wtm_at "hp"))
  | fail "no rule")
local macro_rules | `(tactic| wtm_at "cc") => `(tactic| first
  | ((refine' wide60 ?a ?b); (case a => omega); (case b => omega))
  | fail "no rule")
local macro_rules | `(tactic| wtm_at "kt") => `(tactic| first
  | with_reducible assumption
  | ((with_reducible refine' Kt.of0 ?k); (case k => with_reducible assumption))
  | ((with_reducible refine' Kt.wr ?a ?h ?e ?w); (case h => (simp; done)); (case e => wtm_at "hp"); (case w => exact trivial); (case a => wtm_at "kt"))
  | ((with_reducible refine' Kt.nw ?a ?e); (case e => wtm_at "hn"); (case a => wtm_at "kt"))
  | fail "no rule")
local macro_rules | `(tactic| wtm_at "dgv") => `(tactic| first
  | ((refine' dg_sl ?a ?b); (case a => wtm_at "hp"); (case b => exact rfl))
  | fail "no rule")
local macro_rules | `(tactic| wtm_at "dg") => `(tactic| first
  | ((refine' dg_ii ?a ?b); (case a => wtm_at "hp"); (case b => wtm_at "hp"))
  | fail "no rule")
local macro_rules | `(tactic| wtm_at "dp") => `(tactic| first
  | ((refine' dp_ii ?a ?b ?c); (case a => wtm_at "hp"); (case b => wtm_at "hp"); (case c => wtm_at "sz"))
  | fail "no rule")

local macro_rules | `(tactic| wtm_at "sqx") => `(tactic| fail "no rule")
local macro_rules | `(tactic| wtm_at "con") => `(tactic| first | exact con_MOST_BITS (by assumption) | exact con_MOST_PATIENCE (by assumption) | exact con_MOST_ROOM (by assumption) | exact con_MOST_GRACE (by assumption) | exact con_MOST_HELPERS (by assumption))
local macro_rules | `(tactic| wtm_at "look") => `(tactic| first | with_reducible exact gl_bits | with_reducible exact gl_patience | with_reducible exact gl_held | with_reducible exact gl_table | with_reducible exact gl_index | with_reducible exact gl_origins | with_reducible exact gl_start | with_reducible exact gl_limit | with_reducible exact gl_delays | with_reducible exact gl_plain | with_reducible exact gl_losing | with_reducible exact gl_times | with_reducible exact gl_spent)
local macro_rules | `(tactic| wtm_at "dgv") => `(tactic| first
  | ((refine' dg_iip ?a ?b); (case a => wtm_at "hp"); (case b => wtm_at "hp"))
  | fail "no rule")

local macro_rules | `(tactic| wtm_at "rd1") => `(tactic| first
  | ((with_reducible refine' rd_notInSq ?h ?_); (case h => assumption))
  | fail "no rule")
local macro_rules | `(tactic| wtm_at "cls") => `(tactic| first | exact cl_Setting (by assumption) | exact cl_Spread (by assumption))
local macro_rules | `(tactic| wtm_at "noat") => `(tactic| first | exact na_Setting_bits (by assumption) | exact na_Setting_patience (by assumption) | exact na_Setting_room (by assumption) | exact na_Setting_grace (by assumption) | exact na_Setting_helpers (by assumption) | exact na_Spread_rounds (by assumption) | exact na_Spread__setting (by assumption) | exact na_Spread__start (by assumption) | exact na_Spread__tellings (by assumption) | exact na_Spread__shifts (by assumption) | exact na_Spread__table (by assumption) | exact na_Spread__made (by assumption) | exact na_Spread__since (by assumption))
section
variable {P : Program} {w : World} {K : PySem.W.Frag} {mg : Str → Option Value} {base : Heap}
def sp_l_purse (K : PySem.W.Frag) : Sp := fun vs H Q E => ∃ (a : Addr) (ns : List Int), vs = [.ref a] ∧ (SqL K H a (ns.map V.int)) ∧ (ns.length ≤ 63) ∧ (∀ p c H1, Purse H1 p c → Kp [] H H1 → H p = none → H c = none → Q (.ref p) H1)
theorem us_l_purse {K : PySem.W.Frag} {H : Hp} {Q : VK} {E : XK} {a : Addr} {ns : List Int} (hS : SqL K H a (ns.map V.int)) (hl : ns.length ≤ 63) (kk : ∀ p c H1, Purse H1 p c → Kp [] H H1 → H p = none → H c = none → Q (.ref p) H1) : sp_l_purse K [.ref a] H Q E := ⟨_, _, rfl, hS, hl, kk⟩
theorem f_l_purse (T : Cx K mg) (B : Tb K mg base) : ∃ fd, FunD K "_law_purse" "_law_purse" (defArgs s_l_purse) (defBody s_l_purse) (defScope s_l_purse) (d_l_purse.dvs K) (d_l_purse.kws K) (fAd K d_l_purse.at_) fd ∧ FnOk P w K mg base CX0 1 (fAd K d_l_purse.at_) fd p_l_purse (sp_l_purse K) := by
  obtain ⟨fd, F⟩ := T.says.def_ 0 (d := d_l_purse) rfl
  refine ⟨fd, F, fnD F sc_l_purse (fun vs H Q E h => by
    obtain ⟨_, _, rfl, _⟩ := h
    rfl) fun cdv A outer s H vs Q E hr h => ?_⟩
  have hu := hu_of hr
  obtain ⟨a, ns, rfl, hS, hl, kk⟩ := h
  refine ⟨_, (pss_cons (ps_set (i := 1) sc_l_purse.nd rfl (by first | exact Or.inl rfl | exact Or.inr rfl) (pe_slice sl_list (pv 0) po_none (po_some pe_int))) (pss_cons (ps_set (i := 2) sc_l_purse.nd rfl (by first | exact Or.inl rfl | exact Or.inr rfl) pe_int) (pss_cons (ps_for PassesOwn.never rfl (pi_list (pv 1)) (pg_name (i := 3) sc_l_purse.nd rfl (by first | exact Or.inl rfl | exact Or.inr rfl)) (pss_one (ps_set (i := 2) sc_l_purse.nd rfl (by first | exact Or.inl rfl | exact Or.inr rfl) (pe_op op_mod (pe_callTy call_int1' (by rfl) (fr_int T) (by decide +kernel) (pa_cons (pe_op op_add (pe_op op_add (pe_op op_mul (pv 2) pe_int) (pe_op op_mod (pe_callTy call_int1' (by rfl) (fr_int T) (by decide +kernel) (pa_cons (pv 3) pa_nil)) pe_int)) pe_int) pa_nil)) pe_int)))) (pss_one (ps_ret (pe_disp (pps_cons pe_str (pv 1) (pps_cons pe_str pe_int (pps_cons pe_str pe_int (pps_cons pe_str pe_int (pps_cons pe_str pe_int (pps_cons pe_str (pv 2) (pps_cons pe_str pe_int pps_nil))))))) (by rfl) (by rfl) (fun z => by cases z) (by decide))))))), ?_⟩
  rw [show L2.start n_l_purse [.ref a] = [some (.ref a), none, none, none] from rfl]
  try dsimp only [cxOf, Cx.nox, Cx.wish, List.map]

  wtm_at "rd"
  intro c nc
  have e : cutV (ns.map V.int) none (some 63) = ns.map V.int := by
    rw [show (63 : Int) = ((63 : Nat) : Int) from rfl, cut_to, List.take_of_length_le (by rw [List.length_map]; exact hl)]
  rw [e]
  wtm_at "rd"
  refine forL_ints ns (fun i σ H1 => (∃ s v3, σ = [some (.ref a), some (.ref c), some (.int s), v3]) ∧ H1 = upd H c (.lst (ns.map V.int))) ⟨⟨_, _, rfl⟩, rfl⟩ (fun i σ H1 _ q => ?_) ?_ ?_
  · rw [q.2]
    exact SqL.of upd_same
  · rintro i hi σ H1 ⟨⟨s, v3, rfl⟩, rfl⟩
    wtm_at "rd"
    exact ⟨⟨_, _, rfl⟩, rfl⟩
  · rintro σ H1 ⟨⟨s, v3, rfl⟩, rfl⟩
    wtm_at "rd"
    refine rd_disp fun p np => ?_
    wtm_at "rd"
    refine ⟨upd_same, purse c 0 0 0 0 s 0, rfl, Nat.le_of_ble_eq_true rfl, ?_⟩
    rw [merge_purse]
    have np' : H p = none := Kp.back (Kp.new (ps := []) nc) np (by simp)
    have ncp : c ≠ p := ne_of_none upd_same np
    have u1 : upd (upd (upd H c (.lst (ns.map V.int))) p (.dK [])) p (.dK (purse c 0 0 0 0 s 0)) p = some (.dK (purse c 0 0 0 0 s 0)) := upd_same
    have u2 : upd (upd (upd H c (.lst (ns.map V.int))) p (.dK [])) p (.dK (purse c 0 0 0 0 s 0)) c = some (.lst (ns.map V.int)) := hu_ne ncp (hu_ne ncp upd_same)
    have u3 : Kp [] H (upd (upd (upd H c (.lst (ns.map V.int))) p (.dK [])) p (.dK (purse c 0 0 0 0 s 0))) := ((Kp.new nc).nw np).mine np'
    exact kk p c _ ⟨ns, 0, 0, 0, 0, s, 0, u1, u2, by decide, hl⟩ u3 np' nc
theorem c_l_purse (T : Cx K mg) (B : Tb K mg base) : CalX P w K mg base CX0 1 "_law_purse" (sp_l_purse K) [] := by
  obtain ⟨fd, F, ok⟩ := f_l_purse (P := P) (w := w) (base := base) T B
  exact ⟨_, fd, p_l_purse, [], ok, gl_l_purse T, F.kp, FunD.bindsN F fun _ _ _ _ _ _ us hl => match us, hl with | [_], _ => rfl, .nil⟩
end
section
variable {P : Program} {w : World} {K : PySem.W.Frag} {mg : Str → Option Value} {base : Heap}
def sp_l_mixed (K : PySem.W.Frag) : Sp := fun vs H Q E => ∃ (s pl : Int), vs = [.int s, .int pl] ∧ (∀ n, 0 ≤ n → Q (.int n) H)
theorem us_l_mixed {K : PySem.W.Frag} {H : Hp} {Q : VK} {E : XK} {s pl : Int}  (kk : ∀ n, 0 ≤ n → Q (.int n) H) : sp_l_mixed K [.int s, .int pl] H Q E := ⟨_, _, rfl, kk⟩
theorem f_l_mixed (T : Cx K mg) (B : Tb K mg base) : ∃ fd, FunD K "_law_mixed" "_law_mixed" (defArgs s_l_mixed) (defBody s_l_mixed) (defScope s_l_mixed) (d_l_mixed.dvs K) (d_l_mixed.kws K) (fAd K d_l_mixed.at_) fd ∧ FnOk P w K mg base CX0 1 (fAd K d_l_mixed.at_) fd p_l_mixed (sp_l_mixed K) := by
  obtain ⟨fd, F⟩ := T.says.def_ 1 (d := d_l_mixed) rfl
  refine ⟨fd, F, fnD F sc_l_mixed (fun vs H Q E h => by
    obtain ⟨_, _, rfl, _⟩ := h
    rfl) fun cdv A outer s H vs Q E hr h => ?_⟩
  have hu := hu_of hr
  obtain ⟨s, pl, rfl, kk⟩ := h
  refine ⟨_, (pss_cons (ps_set (i := 2) sc_l_mixed.nd rfl (by first | exact Or.inl rfl | exact Or.inr rfl) (pe_op op_mod (pe_callTy call_int1' (by rfl) (fr_int T) (by decide +kernel) (pa_cons (pe_op op_add (pe_op op_add (pe_op op_mul (pv 0) pe_int) (pe_op op_mul (pv 1) pe_int)) pe_int) pa_nil)) pe_int)) (pss_cons (ps_set (i := 3) sc_l_mixed.nd rfl (by first | exact Or.inl rfl | exact Or.inr rfl) (pe_op op_mod (pe_callTy call_int1' (by rfl) (fr_int T) (by decide +kernel) (pa_cons (pe_op op_add (pe_op op_add (pe_op op_mul (pv 2) (pe_op op_add (pe_op op_fdiv (pv 2) pe_int) pe_int)) (pe_op op_mul (pv 1) pe_int)) (pv 0)) pa_nil)) pe_int)) (pss_one (ps_ret (pe_op op_fdiv (pv 3) pe_int))))), ?_⟩
  rw [show L2.start n_l_mixed [.int s, .int pl] = [some (.int s), some (.int pl), none, none] from rfl]
  try dsimp only [cxOf, Cx.nox, Cx.wish, List.map]

  wtm_at "rd"
  exact kk _ (by omega)
theorem c_l_mixed (T : Cx K mg) (B : Tb K mg base) : CalX P w K mg base CX0 1 "_law_mixed" (sp_l_mixed K) [] := by
  obtain ⟨fd, F, ok⟩ := f_l_mixed (P := P) (w := w) (base := base) T B
  exact ⟨_, fd, p_l_mixed, [], ok, gl_l_mixed T, F.kp, FunD.bindsN F fun _ _ _ _ _ _ us hl => match us, hl with | [_, _], _ => rfl, .nil⟩
end
section
variable {P : Program} {w : World} {K : PySem.W.Frag} {mg : Str → Option Value} {base : Heap}
def sp_l_draw (K : PySem.W.Frag) : Sp := fun vs H Q E => ∃ (p c : Addr) (many : Int), vs = [.ref p, .int many] ∧ (Purse H p c) ∧ (0 < many) ∧ (many < 1073741824) ∧ (∀ n H1, 0 ≤ n → n < many → Purse H1 p c → Kp [p] H H1 → Q (.int n) H1)
theorem us_l_draw {K : PySem.W.Frag} {H : Hp} {Q : VK} {E : XK} {p c : Addr} {many : Int} (hB : Purse H p c) (m0 : 0 < many) (m1 : many < 1073741824) (kk : ∀ n H1, 0 ≤ n → n < many → Purse H1 p c → Kp [p] H H1 → Q (.int n) H1) : sp_l_draw K [.ref p, .int many] H Q E := ⟨_, _, _, rfl, hB, m0, m1, kk⟩
theorem f_l_draw (T : Cx K mg) (B : Tb K mg base) : ∃ fd, FunD K "_law_draw" "_law_draw" (defArgs s_l_draw) (defBody s_l_draw) (defScope s_l_draw) (d_l_draw.dvs K) (d_l_draw.kws K) (fAd K d_l_draw.at_) fd ∧ FnOk P w K mg base CX0 2 (fAd K d_l_draw.at_) fd p_l_draw (sp_l_draw K) := by
  have c_l_mixed := c_l_mixed (P := P) (w := w) (base := base) T B
  obtain ⟨fd, F⟩ := T.says.def_ 2 (d := d_l_draw) rfl
  refine ⟨fd, F, fnD F sc_l_draw (fun vs H Q E h => by
    obtain ⟨_, _, _, rfl, _⟩ := h
    rfl) fun cdv A outer s H vs Q E hr h => ?_⟩
  have hu := hu_of hr
  obtain ⟨p, c, many, rfl, hB, m0, m1, kk⟩ := h
  refine ⟨_, (pss_cons (ps_dput hu (pv 0) pe_str (pe_op op_add (pe_dget hu (pv 0) pe_str (fun _ _ => rfl)) pe_int) rfl) (C8.pss_cut (ps_if (PW.pt (pw_and (pt_cmpR op_eq (pe_dget hu (pv 0) pe_str (fun _ _ => rfl)) pe_int (nomark _)) (pw_and (pt_cmpR op_eq (pe_dget hu (pv 0) pe_str (fun _ _ => rfl)) pe_int (nomark _)) (pw_and1 (pt_cmpR op_lt (pe_dget hu (pv 0) pe_str (fun _ _ => rfl)) (pe_callB call_lenS (by rfl) (fr_len T) (by decide +kernel) (pa_cons (pe_dget hu (pv 0) pe_str (fun _ _ => rfl)) pa_nil)) (nomark _)))))) (pss_cons (ps_set (i := 2) sc_l_draw.nd rfl (by first | exact Or.inl rfl | exact Or.inr rfl) (pe_ix ix_list (pe_dget hu (pv 0) pe_str (fun _ _ => rfl)) (pe_dget hu (pv 0) pe_str (fun _ _ => rfl)) (fun _ _ => rfl))) (pss_cons (ps_dput hu (pv 0) pe_str (pe_op op_add (pe_dget hu (pv 0) pe_str (fun _ _ => rfl)) pe_int) rfl) (pss_one (ps_if (pt_cmpR op_ge (pv 2) (pe_op op_pow pe_int pe_int) (nomark _)) (pss_one (ps_dput hu (pv 0) pe_str (pv 2) rfl)) (pss_cons (ps_dput hu (pv 0) pe_str (pe_op op_mod (pe_callTy call_int1' (by rfl) (fr_int T) (by decide +kernel) (pa_cons (pv 2) pa_nil)) pe_int) rfl) (pss_one (ps_dput hu (pv 0) pe_str pe_int rfl))))))) pss_nil) (pss_cons (ps_if (pt_cmpR op_gt (pe_dget hu (pv 0) pe_str (fun _ _ => rfl)) pe_int (nomark _)) (pss_cons (ps_set (i := 3) sc_l_draw.nd rfl (by first | exact Or.inl rfl | exact Or.inr rfl) (pe_op op_mod (pe_callTy call_int1' (by rfl) (fr_int T) (by decide +kernel) (pa_cons (pe_dget hu (pv 0) pe_str (fun _ _ => rfl)) pa_nil)) (pv 1))) (pss_cons (ps_dput hu (pv 0) pe_str (pe_op op_fdiv (pe_dget hu (pv 0) pe_str (fun _ _ => rfl)) (pv 1)) rfl) (pss_one (ps_ret (pv 3))))) pss_nil) (pss_cons (ps_if (pt_cmpR op_gt (pe_dget hu (pv 0) pe_str (fun _ _ => rfl)) pe_int (nomark _)) (pss_cons (ps_dput hu (pv 0) pe_str (pe_op op_sub (pe_dget hu (pv 0) pe_str (fun _ _ => rfl)) pe_int) rfl) (pss_one (ps_ret (pe_op op_mod (pe_callTy call_int1' (by rfl) (fr_int T) (by decide +kernel) (pa_cons (pe_cal c_l_mixed hr (by decide) (by rfl) pass0 (pa_cons (pe_dget hu (pv 0) pe_str (fun _ _ => rfl)) (pa_cons (pe_dget hu (pv 0) pe_str (fun _ _ => rfl)) pa_nil))) pa_nil)) (pv 1))))) pss_nil) (pss_cons (ps_if (pt_cmpR op_eq (pe_dget hu (pv 0) pe_str (fun _ _ => rfl)) pe_int (nomark _)) (pss_one (ps_ret pe_int)) pss_nil) (pss_one (ps_ret (pe_op op_mod (pe_callTy call_int1' (by rfl) (fr_int T) (by decide +kernel) (pa_cons (pe_cal c_l_mixed hr (by decide) (by rfl) pass0 (pa_cons (pe_dget hu (pv 0) pe_str (fun _ _ => rfl)) (pa_cons (pe_dget hu (pv 0) pe_str (fun _ _ => rfl)) pa_nil))) pa_nil)) (pv 1))))))))), ?_⟩
  rw [show L2.start n_l_draw [.ref p, .int many] = [some (.ref p), some (.int many), none, none] from rfl]
  try dsimp only [cxOf, Cx.nox, Cx.wish, List.map]

  obtain ⟨ns, a, b, d, e, f, g, h1, h2, h3, h4⟩ := hB
  have ncp : c ≠ p := ne_of h2 h1 (by intro z; cases z)
  wtm_at "rd"
  have h1' : upd H p (.dK (putK (purse c a b d e f g) (.inr "count") (.int (g + 1)))) p = some (.dK (purse c a b d e f (g + 1))) := upd_same
  have h2' : upd H p (.dK (putK (purse c a b d e f g) (.inr "count") (.int (g + 1)))) c = some (.lst (ns.map V.int)) := hu_ne ncp h2
  have k1 : Kp [p] H (upd H p (.dK (putK (purse c a b d e f g) (.inr "count") (.int (g + 1))))) := by wtm_at "kp"
  generalize upd H p (.dK (putK (purse c a b d e f g) (.inr "count") (.int (g + 1)))) = H1 at h1' h2' k1
  refine rd_cut (fun σ' H2 => (∃ v2 v3, σ' = [some (.ref p), some (.int many), v2, v3]) ∧ Purse H2 p c ∧ Kp [p] H H2) ?_ ?_
  · have done : ∃ v2 v3, ([some (.ref p), some (.int many), none, none] : List (Option V)) = [some (.ref p), some (.int many), v2, v3] := ⟨_, _, rfl⟩
    have stay : (∃ v2 v3, ([some (.ref p), some (.int many), none, none] : List (Option V)) = [some (.ref p), some (.int many), v2, v3]) ∧ Purse H1 p c ∧ Kp [p] H H1 := ⟨done, ⟨ns, a, b, d, e, f, g + 1, h1', h2', h3, h4⟩, k1⟩
    wtm_at "rd"
    refine ite_d (fun c1 => ?_) (fun c1 => ?_)
    · wtm_at "rd"
      refine ite_d (fun c2 => ?_) (fun c2 => ?_)
      · wtm_at "rd"
        refine ite_d (fun c3 => ?_) (fun c3 => ?_)
        · wtm_at "rd"
          refine ite_d (fun c4 => ?_) (fun c4 => ?_)
          · wtm_at "rd"
            exact ⟨⟨_, _, rfl⟩, ⟨ns, a + 1, _, d, e, f, g + 1, upd_same, by wtm_at "hp", by omega, h4⟩, by wtm_at "kp"⟩
          · wtm_at "rd"
            exact ⟨⟨_, _, rfl⟩, ⟨ns, a + 1, b, _, _, f, g + 1, upd_same, by wtm_at "hp", by omega, h4⟩, by wtm_at "kp"⟩
        · wtm_at "rd"
          exact stay
      · wtm_at "rd"
        exact stay
    · wtm_at "rd"
      exact stay
  · rintro σ' H2 ⟨⟨v2, v3, rfl⟩, ⟨ns, a, b, d, e, f, g, h1, h2, h3, h4⟩, k2⟩
    wtm_at "rd"
    refine ite_d (fun c1 => ?_) (fun c1 => ?_)
    · wtm_at "rd"
      exact kk _ _ (Int.emod_nonneg _ (by omega)) (Int.emod_lt_of_pos _ m0) ⟨ns, a, _, d, e, f, g, upd_same, by wtm_at "hp", h3, h4⟩ (by wtm_at "kp")
    · wtm_at "rd"
      refine ite_d (fun c2 => ?_) (fun c2 => ?_)
      · wtm_at "rd"
        refine us_l_mixed fun n n0 => ?_
        wtm_at "rd"
        exact kk _ _ (Int.emod_nonneg _ (by omega)) (Int.emod_lt_of_pos _ m0) ⟨ns, a, b, _, e, f, g, upd_same, by wtm_at "hp", h3, h4⟩ (by wtm_at "kp")
      · wtm_at "rd"
        refine ite_d (fun c3 => ?_) (fun c3 => ?_)
        · wtm_at "rd"
          exact kk _ _ (by decide) m0 ⟨ns, a, b, d, e, f, g, h1, h2, h3, h4⟩ k2
        · wtm_at "rd"
          refine us_l_mixed fun n n0 => ?_
          wtm_at "rd"
          exact kk _ _ (Int.emod_nonneg _ (by omega)) (Int.emod_lt_of_pos _ m0) ⟨ns, a, b, d, e, f, g, h1, h2, h3, h4⟩ k2
theorem c_l_draw (T : Cx K mg) (B : Tb K mg base) : CalX P w K mg base CX0 2 "_law_draw" (sp_l_draw K) [] := by
  obtain ⟨fd, F, ok⟩ := f_l_draw (P := P) (w := w) (base := base) T B
  exact ⟨_, fd, p_l_draw, [], ok, gl_l_draw T, F.kp, FunD.bindsN F fun _ _ _ _ _ _ us hl => match us, hl with | [_, _], _ => rfl, .nil⟩
end
section
variable {P : Program} {w : World} {K : PySem.W.Frag} {mg : Str → Option Value} {base : Heap}
def sp_l_seats (K : PySem.W.Frag) : Sp := fun vs H Q E => ∃ (p c : Addr) (ring many : Int), vs = [.ref p, .int ring, .int many] ∧ (Purse H p c) ∧ (1 ≤ many) ∧ (many ≤ ring) ∧ (ring ≤ 256) ∧ (∀ l (xs : List Int) H1, (∀ z, z ∈ xs → 0 ≤ z ∧ z < ring) → H1 l = some (.lst (xs.map V.int)) → xs.Nodup → (xs.length : Int) = many → Purse H1 p c → Kp [p] H H1 → H l = none → Q (.ref l) H1)
theorem us_l_seats {K : PySem.W.Frag} {H : Hp} {Q : VK} {E : XK} {p c : Addr} {ring many : Int} (hB : Purse H p c) (m0 : 1 ≤ many) (m1 : many ≤ ring) (m2 : ring ≤ 256) (kk : ∀ l (xs : List Int) H1, (∀ z, z ∈ xs → 0 ≤ z ∧ z < ring) → H1 l = some (.lst (xs.map V.int)) → xs.Nodup → (xs.length : Int) = many → Purse H1 p c → Kp [p] H H1 → H l = none → Q (.ref l) H1) : sp_l_seats K [.ref p, .int ring, .int many] H Q E := ⟨_, _, _, _, rfl, hB, m0, m1, m2, kk⟩
theorem f_l_seats (T : Cx K mg) (B : Tb K mg base) : ∃ fd, FunD K "_law_seats" "_law_seats" (defArgs s_l_seats) (defBody s_l_seats) (defScope s_l_seats) (d_l_seats.dvs K) (d_l_seats.kws K) (fAd K d_l_seats.at_) fd ∧ FnOk P w K mg base CX0 3 (fAd K d_l_seats.at_) fd p_l_seats (sp_l_seats K) := by
  have c_l_draw := c_l_draw (P := P) (w := w) (base := base) T B
  obtain ⟨fd, F⟩ := T.says.def_ 3 (d := d_l_seats) rfl
  refine ⟨fd, F, fnD F sc_l_seats (fun vs H Q E h => by
    obtain ⟨_, _, _, _, rfl, _⟩ := h
    rfl) fun cdv A outer s H vs Q E hr h => ?_⟩
  have hu := hu_of hr
  obtain ⟨p, c, ring, many, rfl, hB, m0, m1, m2, kk⟩ := h
  refine ⟨_, (pss_cons (ps_set (i := 3) sc_l_seats.nd rfl (by first | exact Or.inl rfl | exact Or.inr rfl) (pe_listRg rfl (by rfl) (fr_list T) (prg_1 (by rfl) (fr_range T) (pv 1)))) (pss_cons (ps_set (i := 4) sc_l_seats.nd rfl (by first | exact Or.inl rfl | exact Or.inr rfl) (pe_lst pa_nil)) (pss_cons (ps_for PassesOwn.never rfl (pi_range1 (by rfl) (fr_range T) (pa_cons (pv 2) pa_nil)) (pg_name (i := 5) sc_l_seats.nd rfl (by first | exact Or.inl rfl | exact Or.inr rfl)) (pss_one (ps_expr (pe_bm PySem.F.plainAttrs_list PySem.F.slot_list_append PySem.F.type_list_append mt_append (pv 4) (pa_cons (pe_bm PySem.F.plainAttrs_list PySem.F.slot_list_pop PySem.F.type_list_pop mt_popAt (pv 3) (pa_cons (pe_cal c_l_draw hr (by decide) (by rfl) pass0 (pa_cons (pv 0) (pa_cons (pe_callB call_lenS (by rfl) (fr_len T) (by decide +kernel) (pa_cons (pv 3) pa_nil)) pa_nil))) pa_nil)) pa_nil))))) (pss_one (ps_ret (pv 4)))))), ?_⟩
  rw [show L2.start n_l_seats [.ref p, .int ring, .int many] = [some (.ref p), some (.int ring), some (.int many), none, none, none] from rfl]
  try dsimp only [cxOf, Cx.nox, Cx.wish, List.map]

  wtm_at "rd"
  refine ⟨RgOk.of_le (by omega) (by omega) (by omega) (by omega), fun pl npl => ?_⟩
  rw [rgV_0]
  wtm_at "rd"
  refine ⟨sz1000 (by simp), fun fd nfd => ?_⟩
  wtm_at "rd"
  have nfd' : H fd = none := Kp.back (Kp.new (ps := []) npl) nfd (by simp)
  have npf : pl ≠ fd := by wtm_at "ne"
  have npp : pl ≠ p := by
    obtain ⟨ns, a, b, d, e, f, g, h1, -⟩ := hB
    exact Ne.symm (ne_of_none h1 npl)
  have nfp : fd ≠ p := by
    obtain ⟨ns, a, b, d, e, f, g, h1, -⟩ := hB
    exact Ne.symm (ne_of_none h1 nfd')
  have ncs : c ≠ pl ∧ c ≠ fd := by
    obtain ⟨ns, a, b, d, e, f, g, h1, h2, -⟩ := hB
    exact ⟨ne_of_none h2 npl, ne_of_none h2 nfd'⟩
  refine forR_by (fun i σ H1 => (∃ v5, σ = [some (.ref p), some (.int ring), some (.int many), some (.ref pl), some (.ref fd), v5]) ∧ ∃ us ws : List Int, H1 pl = some (.lst (us.map V.int)) ∧ H1 fd = some (.lst (ws.map V.int)) ∧ ws.length = i ∧
    (us.length : Int) + i = ring ∧ (ws ++ us).Perm ((List.range ring.toNat).map fun (i : Nat) => (i : Int)) ∧ Purse H1 p c ∧ Kp [p] H H1) ?_ ?_ ?_
  · refine ⟨⟨_, rfl⟩, _, [], by wtm_at "hp", upd_same, rfl, by simp; omega, by simp, hB.k0 ((Kp.new npl).nw nfd), ((Kp.new npl).nw nfd).of0⟩
  · rintro i σ H1 hi ⟨⟨v5, rfl⟩, us, ws, h1, h2, h3, h4, h5, h6, h7⟩
    wtm_at "rd"
    refine us_l_draw h6 (by omega) (by omega) fun n H2 n0 n1 B2 k2 => ?_
    have h1' := k2.g1 npp h1
    have h2' := k2.g1 nfp h2
    have hn : n.toNat < us.length := by omega
    wtm_at "rd"
    refine rd_popAt h1' (by omega) (by omega) (k := n.toNat) (v := .int us[n.toNat]) (by rw [List.length_map]; exact seqIx n0 n1) (by rw [List.getElem?_map, List.getElem?_eq_getElem hn]; rfl) ?_
    rw [erase_map]
    have hfd : upd H2 pl (.lst ((us.eraseIdx n.toNat).map V.int)) fd = some (.lst (ws.map V.int)) := hu_ne (Ne.symm npf) h2'
    wtm_at "rd"
    refine ⟨⟨_, rfl⟩, us.eraseIdx n.toNat, ws ++ [us[n.toNat]], hu_ne npf upd_same, by rw [upd_same, List.map_append]; rfl, by simp [h3], ?_, ?_, ?_, ?_⟩
    · rw [List.length_eraseIdx_of_lt hn]
      omega
    · refine List.Perm.trans ?_ h5
      rw [List.append_assoc]
      exact List.Perm.append_left ws (erase_perm hn)
    · have kx : Kp [pl, fd] H2 (upd (upd H2 pl (.lst ((us.eraseIdx n.toNat).map V.int))) fd (.lst (ws.map V.int ++ [V.int us[n.toNat]]))) := by wtm_at "kp"
      exact B2.kp kx (by simp [Ne.symm npp, Ne.symm nfp]) (by simp [ncs.1, ncs.2])
    · exact ((h7.trans k2).mine npl).mine nfd'
  · rintro σ H1 ⟨⟨v5, rfl⟩, us, ws, h1, h2, h3, h4, h5, h6, h7⟩
    wtm_at "rd"
    refine kk fd ws H1 (fun z hz => ?_) h2 ?_ (by omega) h6 h7 nfd'
    · obtain ⟨i, hi, rfl⟩ := List.mem_map.mp (h5.mem_iff.mp (List.mem_append_left us hz))
      rw [List.mem_range] at hi
      omega
    have hN : (ws ++ us).Nodup := (List.Perm.nodup_iff h5).mpr (by
      rw [List.Nodup, List.pairwise_map]
      exact List.Pairwise.imp (fun {a b} (h : a ≠ b) e => h (Int.ofNat.inj e)) List.nodup_range)
    exact (List.nodup_append.mp hN).1
theorem c_l_seats (T : Cx K mg) (B : Tb K mg base) : CalX P w K mg base CX0 3 "_law_seats" (sp_l_seats K) [] := by
  obtain ⟨fd, F, ok⟩ := f_l_seats (P := P) (w := w) (base := base) T B
  exact ⟨_, fd, p_l_seats, [], ok, gl_l_seats T, F.kp, FunD.bindsN F fun _ _ _ _ _ _ us hl => match us, hl with | [_, _, _], _ => rfl, .nil⟩
end
section
variable {P : Program} {w : World} {K : PySem.W.Frag} {mg : Str → Option Value} {base : Heap}
def sp_whole (K : PySem.W.Frag) : Sp := fun vs H Q E => ∃ (v lo hi : Int), vs = [.int v, .int lo, .int hi] ∧ (Q (.bl (decide (lo ≤ v) && decide (v ≤ hi))) H)
theorem us_whole {K : PySem.W.Frag} {H : Hp} {Q : VK} {E : XK} {v lo hi : Int}  (kk : Q (.bl (decide (lo ≤ v) && decide (v ≤ hi))) H) : sp_whole K [.int v, .int lo, .int hi] H Q E := ⟨_, _, _, rfl, kk⟩
theorem f_whole (T : Cx K mg) (B : Tb K mg base) : ∃ fd, FunD K "whole" "whole" (defArgs s_whole) (defBody s_whole) (defScope s_whole) (d_whole.dvs K) (d_whole.kws K) (fAd K d_whole.at_) fd ∧ FnOk P w K mg base CX0 1 (fAd K d_whole.at_) fd p_whole (sp_whole K) := by
  obtain ⟨fd, F⟩ := T.says.def_ 4 (d := d_whole) rfl
  refine ⟨fd, F, fnD F sc_whole (fun vs H Q E h => by
    obtain ⟨_, _, _, rfl, _⟩ := h
    rfl) fun cdv A outer s H vs Q E hr h => ?_⟩
  have hu := hu_of hr
  obtain ⟨v, lo, hi, rfl, kk⟩ := h
  refine ⟨_, (pss_cons (ps_if (PW.pt (pw_or (pt_not (pt_val (pe_callB call_isi (by rfl) (fr_isinstance T) (by decide +kernel) (pa_cons (pv 0) (pa_cons (pe_bltn (v := .ty "int") (by rfl) (fr_int T) (by decide +kernel) rfl) pa_nil))))) (pw_or1 (pt_val (pe_callB call_isi (by rfl) (fr_isinstance T) (by decide +kernel) (pa_cons (pv 0) (pa_cons (pe_bltn (v := .ty "bool") (by rfl) (fr_bool T) (by decide +kernel) rfl) pa_nil))))))) (pss_one (ps_ret pe_bl)) pss_nil) (pss_one (ps_ret (pe_and (pe_cmpR op_le (pv 1) (pv 0) (nomark _)) (pe_one (pe_or (pe_cmp (pc_isN (pv 2))) (pe_one (pe_cmpR op_le (pv 0) (pv 2) (nomark _))))))))), ?_⟩
  rw [show L2.start n_whole [.int v, .int lo, .int hi] = [some (.int v), some (.int lo), some (.int hi)] from rfl]
  try dsimp only [cxOf, Cx.nox, Cx.wish, List.map]

  wtm_at "rd"
  refine ite_d (fun h => ?_) (fun h => ?_)
  · wtm_at "rd"
    rw [decide_eq_true h, Bool.true_and] at kk
    exact kk
  · rw [decide_eq_false h, Bool.false_and] at kk
    exact kk
theorem c_whole (T : Cx K mg) (B : Tb K mg base) : CalX P w K mg base CX0 1 "whole" (sp_whole K) [] := by
  obtain ⟨fd, F, ok⟩ := f_whole (P := P) (w := w) (base := base) T B
  exact ⟨_, fd, p_whole, [], ok, gl_whole T, F.kp, FunD.bindsN F fun _ _ _ _ _ _ us hl => match us, hl with | [_, _, _], _ => rfl, .nil⟩
end
section
variable {P : Program} {w : World} {K : PySem.W.Frag} {mg : Str → Option Value} {base : Heap}
def sp_Setting_init (K : PySem.W.Frag) : Sp := fun vs H Q E => ∃ (p dx : Addr) (s : Stg), vs = [.ref p, .int s.bits, .int s.pat, .int s.room, .int s.grace, .int s.hel] ∧ (H p = some (.ins (ga K "Setting") dx [])) ∧ (s.Ok) ∧ (∀ H1, SetAt K H1 p s → Kp [p] H H1 → Q .non H1)
theorem us_Setting_init {K : PySem.W.Frag} {H : Hp} {Q : VK} {E : XK} {p dx : Addr} {s : Stg} (hp : H p = some (.ins (ga K "Setting") dx [])) (ok : s.Ok) (kk : ∀ H1, SetAt K H1 p s → Kp [p] H H1 → Q .non H1) : sp_Setting_init K [.ref p, .int s.bits, .int s.pat, .int s.room, .int s.grace, .int s.hel] H Q E := ⟨_, _, _, rfl, hp, ok, kk⟩
theorem f_Setting_init (T : Cx K mg) (B : Tb K mg base) : ∃ fd, FunD K "__init__" "Setting.__init__" (defArgs s_Setting_init) (defBody s_Setting_init) (defScope s_Setting_init) (d_Setting_init.dvs K) (d_Setting_init.kws K) (fAd K d_Setting_init.at_) fd ∧ FnOk P w K mg base CX0 2 (fAd K d_Setting_init.at_) fd p_Setting_init (sp_Setting_init K) := by
  have c_whole := c_whole (P := P) (w := w) (base := base) T B
  obtain ⟨fd, F⟩ := T.says.def_ 5 (d := d_Setting_init) rfl
  refine ⟨fd, F, fnD F sc_Setting_init (fun vs H Q E h => by
    obtain ⟨_, _, _, rfl, _⟩ := h
    rfl) fun cdv A outer s H vs Q E hr h => ?_⟩
  have hu := hu_of hr
  obtain ⟨p, dx, s, rfl, hp, ok, kk⟩ := h
  refine ⟨_, (pss_cons (ps_if (pt_not (pt_val (pe_cal c_whole hr (by decide) (by rfl) pass0 (pa_cons (pv 1) (pa_cons pe_int (pa_cons (pe_con (pv 0) rfl) pa_nil)))))) (pss_one ps_never) pss_nil) (pss_cons (ps_if (pt_not (pt_val (pe_cal c_whole hr (by decide) (by rfl) pass0 (pa_cons (pv 2) (pa_cons pe_int (pa_cons (pe_con (pv 0) rfl) pa_nil)))))) (pss_one ps_never) pss_nil) (pss_cons (ps_if (pt_not (pt_val (pe_cal c_whole hr (by decide) (by rfl) pass0 (pa_cons (pv 3) (pa_cons pe_int (pa_cons (pe_con (pv 0) rfl) pa_nil)))))) (pss_one ps_never) pss_nil) (pss_cons (ps_if (pt_not (pt_val (pe_cal c_whole hr (by decide) (by rfl) pass0 (pa_cons (pv 4) (pa_cons pe_int (pa_cons (pe_con (pv 0) rfl) pa_nil)))))) (pss_one ps_never) pss_nil) (pss_cons (ps_if (pt_not (pt_val (pe_cal c_whole hr (by decide) (by rfl) pass0 (pa_cons (pv 5) (pa_cons pe_int (pa_cons (pe_con (pv 0) rfl) pa_nil)))))) (pss_one ps_never) pss_nil) (pss_cons (ps_fld (pv 0) (pv 1) rfl) (pss_cons (ps_fld (pv 0) (pv 2) rfl) (pss_cons (ps_fld (pv 0) (pv 3) rfl) (pss_cons (ps_fld (pv 0) (pv 4) rfl) (pss_one (ps_fld (pv 0) (pv 5) rfl))))))))))), ?_⟩
  rw [show L2.start n_Setting_init [.ref p, .int s.bits, .int s.pat, .int s.room, .int s.grace, .int s.hel] = [some (.ref p), some (.int s.bits), some (.int s.pat), some (.int s.room), some (.int s.grace), some (.int s.hel)] from rfl]
  try dsimp only [cxOf, Cx.nox, Cx.wish, List.map]

  obtain ⟨b0, b1, p0, p1, r0, r1, g0, g1, h0, h1⟩ := id ok
  wtm_at "rd"
  refine us_whole ?_
  wtm_at "rd"
  refine ite_f (by simp; omega) ?_
  wtm_at "rd"
  refine us_whole ?_
  wtm_at "rd"
  refine ite_f (by simp; omega) ?_
  wtm_at "rd"
  refine us_whole ?_
  wtm_at "rd"
  refine ite_f (by simp; omega) ?_
  wtm_at "rd"
  refine us_whole ?_
  wtm_at "rd"
  refine ite_f (by simp; omega) ?_
  wtm_at "rd"
  refine us_whole ?_
  wtm_at "rd"
  refine ite_f (by simp; omega) ?_
  wtm_at "rd"
  exact kk _ ⟨⟨dx, upd_same⟩, ok⟩ (by wtm_at "kp")
theorem c_Setting_init (T : Cx K mg) (B : Tb K mg base) : MakX P w K mg base CX0 2 "Setting" (ga K "Setting") (sp_Setting_init K) [.int 6, .int 1] := by
  obtain ⟨fd, F, ok⟩ := f_Setting_init (P := P) (w := w) (base := base) T B
  obtain ⟨ds, hv, hb⟩ := FunD.binds0 (ps := p_Setting_init) F 4 (fun e => by cases e) rfl fun _ _ _ _ _ _ us ks hu hk => match us, ks, hu, hk with | [_, _, _, _], [_, _], _, _ => ⟨_, _, _, _, _, _, rfl, rfl, ⟨_, _, _, _, _, _, rfl, rfl, rfl⟩⟩
  exact ⟨_, fd, p_Setting_init, ds, mk_Setting T, ok, gl_Setting T, hb, hv⟩
def kg_Setting_init_grace_helpers {α : Type} : List α → List α → List α → List α := fun us mz zs => us ++ (zs[0]?).toList ++ (zs[1]?).toList
theorem kr_Setting_init_grace_helpers {vs mz zs : List V} {us mv ws : List Value} (r1 : Vals vs us) (r2 : Vals mz mv) (r3 : Vals zs ws) : Vals (kg_Setting_init_grace_helpers vs mz zs) (kg_Setting_init_grace_helpers us mv ws) := (Vals.append (Vals.append r1 (vals_at 0 r3)) (vals_at 1 r3))
theorem c_Setting_init_grace_helpers (T : Cx K mg) (B : Tb K mg base) : MakKX P w K mg base CX0 2 "Setting" (ga K "Setting") (sp_Setting_init K) 3 ["grace", "helpers"] (fun vs zs => kg_Setting_init_grace_helpers vs [] zs) := by
  obtain ⟨fd, F, ok⟩ := f_Setting_init (P := P) (w := w) (base := base) T B
  obtain ⟨mv, hb⟩ := FunD.kbinds0 (ps := p_Setting_init) F 4 ["grace", "helpers"] [] kg_Setting_init_grace_helpers (fun e => by cases e) (fun q hq => nomatch hq) kr_Setting_init_grace_helpers fun _ _ _ _ _ _ us mv ws hu hm hw => match us, mv, ws, hu, hm, hw with | [_, _, _, _], [], [_, _], _, _, _ => rfl
  exact ⟨_, fd, p_Setting_init, _, mk_Setting T, ok, gl_Setting T, hb⟩
end
section
variable {P : Program} {w : World} {K : PySem.W.Frag} {mg : Str → Option Value} {base : Heap}
def sp_Setting_seats (K : PySem.W.Frag) : Sp := fun vs H Q E => ∃ (p : Addr) (s : Stg), vs = [.ref p] ∧ (SetAt K H p s) ∧ (Q (.int s.ring) H)
theorem us_Setting_seats {K : PySem.W.Frag} {H : Hp} {Q : VK} {E : XK} {p : Addr} {s : Stg} (hS : SetAt K H p s) (kk : Q (.int s.ring) H) : sp_Setting_seats K [.ref p] H Q E := ⟨_, _, rfl, hS, kk⟩
theorem f_Setting_seats (T : Cx K mg) (B : Tb K mg base) : ∃ fd, FunD K "seats" "Setting.seats" (defArgs s_Setting_seats) (defBody s_Setting_seats) (defScope s_Setting_seats) [] [] (prG K "Setting" "seats") fd ∧ FnOk P w K mg base CX0 1 (prG K "Setting" "seats") fd p_Setting_seats (sp_Setting_seats K) := by
  obtain ⟨hP, fd, F⟩ := B.g g_Setting_seats (.head _)
  refine ⟨fd, F, fnD F sc_Setting_seats (fun vs H Q E h => by
    obtain ⟨_, _, rfl, _⟩ := h
    rfl) fun cdv A outer s H vs Q E hr h => ?_⟩
  have hu := hu_of hr
  obtain ⟨p, s, rfl, hS, kk⟩ := h
  refine ⟨_, (pss_one (ps_ret (pe_op op_shl pe_int (pe_fld (pv 0) rfl)))), ?_⟩
  rw [show L2.start n_Setting_seats [.ref p] = [some (.ref p)] from rfl]
  try dsimp only [cxOf, Cx.nox, Cx.wish, List.map]

  obtain ⟨⟨dx, hp⟩, ok⟩ := hS
  have b0 := ok.b0
  have b1 := ok.b1
  wtm_at "rd"
  show Q (.int (1 * 2 ^ s.bits.toNat)) H
  rw [Int.one_mul, ← Stg.ring_eq]
  exact kk
theorem c_Setting_seats (T : Cx K mg) (B : Tb K mg base) : PrpX P w K mg base CX0 1 (ga K "Setting") "seats" (sp_Setting_seats K) := by
  obtain ⟨fd, F, ok⟩ := f_Setting_seats (P := P) (w := w) (base := base) T B
  obtain ⟨hP, -⟩ := B.g g_Setting_seats (.head _)
  exact ⟨_, _, fd, p_Setting_seats, cl_Setting T, hP, ok, FunD.bindsN F fun _ _ _ _ _ _ us hl => match us, hl with | [_], _ => rfl⟩
end
section
variable {P : Program} {w : World} {K : PySem.W.Frag} {mg : Str → Option Value} {base : Heap}
def sp_distance (K : PySem.W.Frag) : Sp := fun vs H Q E => ∃ (p : Addr) (s : Stg) (a b : Int), vs = [.ref p, .int a, .int b] ∧ (SetAt K H p s) ∧ (Q (.int ((b - a) % s.ring)) H)
theorem us_distance {K : PySem.W.Frag} {H : Hp} {Q : VK} {E : XK} {p : Addr} {s : Stg} {a b : Int} (hS : SetAt K H p s) (kk : Q (.int ((b - a) % s.ring)) H) : sp_distance K [.ref p, .int a, .int b] H Q E := ⟨_, _, _, _, rfl, hS, kk⟩
theorem f_distance (T : Cx K mg) (B : Tb K mg base) : ∃ fd, FunD K "distance" "distance" (defArgs s_distance) (defBody s_distance) (defScope s_distance) (d_distance.dvs K) (d_distance.kws K) (fAd K d_distance.at_) fd ∧ FnOk P w K mg base CX0 3 (fAd K d_distance.at_) fd p_distance (sp_distance K) := by
  have c_Setting_seats := c_Setting_seats (P := P) (w := w) (base := base) T B
  obtain ⟨fd, F⟩ := T.says.def_ 6 (d := d_distance) rfl
  refine ⟨fd, F, fnD F sc_distance (fun vs H Q E h => by
    obtain ⟨_, _, _, _, rfl, _⟩ := h
    rfl) fun cdv A outer s H vs Q E hr h => ?_⟩
  have hu := hu_of hr
  obtain ⟨p, s, a, b, rfl, hS, kk⟩ := h
  refine ⟨_, (pss_one (ps_ret (pe_op op_mod (pe_op op_sub (pv 2) (pv 1)) (pe_prpX c_Setting_seats hr (by decide) pass0 (pv 0))))), ?_⟩
  rw [show L2.start n_distance [.ref p, .int a, .int b] = [some (.ref p), some (.int a), some (.int b)] from rfl]
  try dsimp only [cxOf, Cx.nox, Cx.wish, List.map]

  obtain ⟨⟨dx, hp⟩, ok⟩ := id hS
  have r2 := ok.r2
  wtm_at "rd"
  refine us_Setting_seats hS ?_
  wtm_at "rd"
  exact kk
theorem c_distance (T : Cx K mg) (B : Tb K mg base) : CalX P w K mg base CX0 3 "distance" (sp_distance K) [] := by
  obtain ⟨fd, F, ok⟩ := f_distance (P := P) (w := w) (base := base) T B
  exact ⟨_, fd, p_distance, [], ok, gl_distance T, F.kp, FunD.bindsN F fun _ _ _ _ _ _ us hl => match us, hl with | [_, _, _], _ => rfl, .nil⟩
end
section
variable {P : Program} {w : World} {K : PySem.W.Frag} {mg : Str → Option Value} {base : Heap}
def sp_block_of (K : PySem.W.Frag) : Sp := fun vs H Q E => ∃ (S : Addr) (s : Stg) (beat : Int), vs = [.ref S, .int beat] ∧ (SetAt K H S s) ∧ (Q (.int ((beat / s.pat) % s.bits)) H)
theorem us_block_of {K : PySem.W.Frag} {H : Hp} {Q : VK} {E : XK} {S : Addr} {s : Stg} {beat : Int} (hS : SetAt K H S s) (kk : Q (.int ((beat / s.pat) % s.bits)) H) : sp_block_of K [.ref S, .int beat] H Q E := ⟨_, _, _, rfl, hS, kk⟩
theorem f_block_of (T : Cx K mg) (B : Tb K mg base) : ∃ fd, FunD K "block_of" "block_of" (defArgs s_block_of) (defBody s_block_of) (defScope s_block_of) (d_block_of.dvs K) (d_block_of.kws K) (fAd K d_block_of.at_) fd ∧ FnOk P w K mg base CX0 1 (fAd K d_block_of.at_) fd p_block_of (sp_block_of K) := by
  obtain ⟨fd, F⟩ := T.says.def_ 7 (d := d_block_of) rfl
  refine ⟨fd, F, fnD F sc_block_of (fun vs H Q E h => by
    obtain ⟨_, _, _, rfl, _⟩ := h
    rfl) fun cdv A outer s H vs Q E hr h => ?_⟩
  have hu := hu_of hr
  obtain ⟨S, s, beat, rfl, hS, kk⟩ := h
  refine ⟨_, (pss_one (ps_ret (pe_op op_mod (pe_op op_fdiv (pv 1) (pe_fld (pv 0) rfl)) (pe_fld (pv 0) rfl)))), ?_⟩
  rw [show L2.start n_block_of [.ref S, .int beat] = [some (.ref S), some (.int beat)] from rfl]
  try dsimp only [cxOf, Cx.nox, Cx.wish, List.map]

  obtain ⟨⟨dx, hp⟩, ok⟩ := id hS
  have p0 := ok.p0
  have p1 := ok.p1
  have b0 := ok.b0
  wtm_at "rd"
  exact kk
theorem c_block_of (T : Cx K mg) (B : Tb K mg base) : CalX P w K mg base CX0 1 "block_of" (sp_block_of K) [] := by
  obtain ⟨fd, F, ok⟩ := f_block_of (P := P) (w := w) (base := base) T B
  exact ⟨_, fd, p_block_of, [], ok, gl_block_of T, F.kp, FunD.bindsN F fun _ _ _ _ _ _ us hl => match us, hl with | [_, _], _ => rfl, .nil⟩
end
section
variable {P : Program} {w : World} {K : PySem.W.Frag} {mg : Str → Option Value} {base : Heap}
def sp_nearest (K : PySem.W.Frag) : Sp := fun vs H Q E => ∃ (S l : Addr) (s : Stg) (seat off : Int) (xs : List Int), vs = [.ref S, .int seat, .int off, .ref l] ∧ (SetAt K H S s) ∧ (H l = some (.lst (xs.map V.int))) ∧ (Q (ov (nearO s.ring seat off xs)) H)
theorem us_nearest {K : PySem.W.Frag} {H : Hp} {Q : VK} {E : XK} {S l : Addr} {s : Stg} {seat off : Int} {xs : List Int} (hS : SetAt K H S s) (hl : H l = some (.lst (xs.map V.int))) (kk : Q (ov (nearO s.ring seat off xs)) H) : sp_nearest K [.ref S, .int seat, .int off, .ref l] H Q E := ⟨_, _, _, _, _, _, rfl, hS, hl, kk⟩
theorem f_nearest (T : Cx K mg) (B : Tb K mg base) : ∃ fd, FunD K "nearest" "nearest" (defArgs s_nearest) (defBody s_nearest) (defScope s_nearest) (d_nearest.dvs K) (d_nearest.kws K) (fAd K d_nearest.at_) fd ∧ FnOk P w K mg base CX0 4 (fAd K d_nearest.at_) fd p_nearest (sp_nearest K) := by
  have c_Setting_seats := c_Setting_seats (P := P) (w := w) (base := base) T B
  have c_distance := c_distance (P := P) (w := w) (base := base) T B
  obtain ⟨fd, F⟩ := T.says.def_ 8 (d := d_nearest) rfl
  refine ⟨fd, F, fnD F sc_nearest (fun vs H Q E h => by
    obtain ⟨_, _, _, _, _, _, rfl, _⟩ := h
    rfl) fun cdv A outer s H vs Q E hr h => ?_⟩
  have hu := hu_of hr
  obtain ⟨S, l, s, seat, off, xs, rfl, hS, hl, kk⟩ := h
  refine ⟨_, (pss_cons (ps_set (i := 4) sc_nearest.nd rfl (by first | exact Or.inl rfl | exact Or.inr rfl) pe_non) (pss_cons (ps_set (i := 5) sc_nearest.nd rfl (by first | exact Or.inl rfl | exact Or.inr rfl) (pe_prpX c_Setting_seats hr (by decide) pass0 (pv 0))) (pss_cons (ps_for PassesOwn.never rfl (pi_list (pv 3)) (pg_name (i := 6) sc_nearest.nd rfl (by first | exact Or.inl rfl | exact Or.inr rfl)) (pss_cons (ps_set (i := 7) sc_nearest.nd rfl (by first | exact Or.inl rfl | exact Or.inr rfl) (pe_cal c_distance hr (by decide) (by rfl) pass0 (pa_cons (pv 0) (pa_cons (pv 1) (pa_cons (pv 6) pa_nil))))) (pss_one (ps_if (PW.pt (pw_and (pt_cmpR op_ge (pv 7) (pv 2) (nomark _)) (pw_and1 (pt_cmpR op_lt (pv 7) (pv 5) (nomark _))))) (pss_cons (ps_set (i := 4) sc_nearest.nd rfl (by first | exact Or.inl rfl | exact Or.inr rfl) (pv 6)) (pss_one (ps_set (i := 5) sc_nearest.nd rfl (by first | exact Or.inl rfl | exact Or.inr rfl) (pv 7)))) pss_nil)))) (pss_one (ps_ret (pv 4)))))), ?_⟩
  rw [show L2.start n_nearest [.ref S, .int seat, .int off, .ref l] = [some (.ref S), some (.int seat), some (.int off), some (.ref l), none, none, none, none] from rfl]
  try dsimp only [cxOf, Cx.nox, Cx.wish, List.map]

  obtain ⟨⟨dx, hp⟩, ok⟩ := id hS
  wtm_at "rd"
  refine us_Setting_seats hS ?_
  wtm_at "rd"
  refine forL_ints (K := K) xs (fun i σ H1 => (∃ v6 v7, σ = [some (.ref S), some (.int seat), some (.int off), some (.ref l), some (ov (nearF s.ring seat off (xs.take i)).1), some (.int (nearF s.ring seat off (xs.take i)).2), v6, v7]) ∧ H1 = H) ⟨⟨_, _, rfl⟩, rfl⟩ (fun i σ H1 _ q => by rw [q.2]; exact SqL.of hl) ?_ ?_
  · rintro i hi σ H1 ⟨⟨v6, v7, rfl⟩, rfl⟩
    have e := nearF_take (r := s.ring) (seat := seat) (off := off) hi
    rw [e]
    generalize nearF s.ring seat off (xs.take i) = p at *
    wtm_at "rd"
    refine us_distance hS ?_
    wtm_at "rd"
    refine ite_d (fun h1 => ?_) (fun h1 => ?_)
    · wtm_at "rd"
      refine ite_d (fun h2 => ?_) (fun h2 => ?_)
      · wtm_at "rd"
        rw [show nearS s.ring seat off p xs[i] = (some xs[i], (xs[i] - seat) % s.ring) from if_pos ⟨h1, h2⟩]
        exact ⟨⟨_, _, rfl⟩, rfl⟩
      · wtm_at "rd"
        rw [show nearS s.ring seat off p xs[i] = p from if_neg fun z => h2 z.2]
        exact ⟨⟨_, _, rfl⟩, rfl⟩
    · wtm_at "rd"
      rw [show nearS s.ring seat off p xs[i] = p from if_neg fun z => h1 z.1]
      exact ⟨⟨_, _, rfl⟩, rfl⟩
  · rintro σ H1 ⟨⟨v6, v7, rfl⟩, rfl⟩
    rw [List.take_length]
    wtm_at "rd"
    exact kk
theorem c_nearest (T : Cx K mg) (B : Tb K mg base) : CalX P w K mg base CX0 4 "nearest" (sp_nearest K) [] := by
  obtain ⟨fd, F, ok⟩ := f_nearest (P := P) (w := w) (base := base) T B
  exact ⟨_, fd, p_nearest, [], ok, gl_nearest T, F.kp, FunD.bindsN F fun _ _ _ _ _ _ us hl => match us, hl with | [_, _, _, _], _ => rfl, .nil⟩
end
section
variable {P : Program} {w : World} {K : PySem.W.Frag} {mg : Str → Option Value} {base : Heap}
def sp_fingers (K : PySem.W.Frag) : Sp := fun vs H Q E => ∃ (S l : Addr) (s : Stg) (seat : Int) (xs : List Int), vs = [.ref S, .int seat, .ref l] ∧ (SetAt K H S s) ∧ (H l = some (.lst (xs.map V.int))) ∧ (∀ q H1, H1 q = some (.lst ((fingL s seat xs).map ov)) → Kp [] H H1 → H q = none → Q (.ref q) H1)
theorem us_fingers {K : PySem.W.Frag} {H : Hp} {Q : VK} {E : XK} {S l : Addr} {s : Stg} {seat : Int} {xs : List Int} (hS : SetAt K H S s) (hl : H l = some (.lst (xs.map V.int))) (kk : ∀ q H1, H1 q = some (.lst ((fingL s seat xs).map ov)) → Kp [] H H1 → H q = none → Q (.ref q) H1) : sp_fingers K [.ref S, .int seat, .ref l] H Q E := ⟨_, _, _, _, _, rfl, hS, hl, kk⟩
theorem f_fingers (T : Cx K mg) (B : Tb K mg base) : ∃ fd, FunD K "fingers" "fingers" (defArgs s_fingers) (defBody s_fingers) (defScope s_fingers) (d_fingers.dvs K) (d_fingers.kws K) (fAd K d_fingers.at_) fd ∧ FnOk P w K mg base CX0 5 (fAd K d_fingers.at_) fd p_fingers (sp_fingers K) := by
  have c_Setting_seats := c_Setting_seats (P := P) (w := w) (base := base) T B
  have c_nearest := c_nearest (P := P) (w := w) (base := base) T B
  obtain ⟨fd, F⟩ := T.says.def_ 9 (d := d_fingers) rfl
  refine ⟨fd, F, fnD F sc_fingers (fun vs H Q E h => by
    obtain ⟨_, _, _, _, _, rfl, _⟩ := h
    rfl) fun cdv A outer s H vs Q E hr h => ?_⟩
  have hu := hu_of hr
  obtain ⟨S, l, s, seat, xs, rfl, hS, hl, kk⟩ := h
  refine ⟨_, (pss_cons (ps_set (i := 3) sc_fingers.nd rfl (by first | exact Or.inl rfl | exact Or.inr rfl) (pe_lst pa_nil)) (pss_cons (ps_set (i := 4) sc_fingers.nd rfl (by first | exact Or.inl rfl | exact Or.inr rfl) (pe_prpX c_Setting_seats hr (by decide) pass0 (pv 0))) (pss_cons (ps_for PassesOwn.never rfl (pi_range1 (by rfl) (fr_range T) (pa_cons (pe_fld (pv 0) rfl) pa_nil)) (pg_name (i := 5) sc_fingers.nd rfl (by first | exact Or.inl rfl | exact Or.inr rfl)) (pss_cons (ps_set (i := 4) sc_fingers.nd rfl (by first | exact Or.inl rfl | exact Or.inr rfl) (pe_op op_fdiv (pv 4) pe_int)) (pss_one (ps_expr (pe_bm PySem.F.plainAttrs_list PySem.F.slot_list_append PySem.F.type_list_append mt_append (pv 3) (pa_cons (pe_cal c_nearest hr (by decide) (by rfl) pass0 (pa_cons (pv 0) (pa_cons (pv 1) (pa_cons (pv 4) (pa_cons (pv 2) pa_nil))))) pa_nil)))))) (pss_one (ps_ret (pv 3)))))), ?_⟩
  rw [show L2.start n_fingers [.ref S, .int seat, .ref l] = [some (.ref S), some (.int seat), some (.ref l), none, none, none] from rfl]
  try dsimp only [cxOf, Cx.nox, Cx.wish, List.map]

  obtain ⟨⟨dx, hp⟩, ok⟩ := id hS
  have b0 := ok.b0
  have b1 := ok.b1
  wtm_at "rd"
  refine ⟨sz1000 (by simp), fun q nq => ?_⟩
  wtm_at "rd"
  refine us_Setting_seats (hS.k0 (Kp.new nq)) ?_
  wtm_at "rd"
  refine forR_by (fun i σ H1 => (∃ v5, σ = [some (.ref S), some (.int seat), some (.ref l), some (.ref q), some (.int (2 ^ (s.bits.toNat - i))), v5]) ∧ H1 q = some (.lst ((((List.range i).map fun k => nearO s.ring seat (2 ^ (s.bits.toNat - 1 - k)) xs)).map ov)) ∧ Kp [] H H1) ⟨⟨_, by rw [Stg.ring_eq]; rfl⟩, upd_same, Kp.new nq⟩ ?_ ?_
  · rintro i σ H1 hi ⟨⟨v5, rfl⟩, hq, k1⟩
    have sl : (((List.range i).map fun k => nearO s.ring seat (2 ^ (s.bits.toNat - 1 - k)) xs).map ov).length < sizeLine := szlt (by rw [List.length_map, List.length_map, List.length_range]; omega)
    wtm_at "rd"
    rw [ring_half hi]
    refine us_nearest (hS.k0 k1) (k1.g0 hl) ?_
    wtm_at "rd"
    refine ⟨⟨some (.int (0 + (i : Int))), ?_⟩, ?_, k1.mine nq⟩
    · rw [show s.bits.toNat - (i + 1) = s.bits.toNat - 1 - i by omega]
      rfl
    · rw [upd_same, List.range_succ, List.map_append, List.map_append]
      rfl
  · rintro σ H1 ⟨⟨v5, rfl⟩, hq, k1⟩
    wtm_at "rd"
    exact kk q H1 hq k1 nq
theorem c_fingers (T : Cx K mg) (B : Tb K mg base) : CalX P w K mg base CX0 5 "fingers" (sp_fingers K) [] := by
  obtain ⟨fd, F, ok⟩ := f_fingers (P := P) (w := w) (base := base) T B
  exact ⟨_, fd, p_fingers, [], ok, gl_fingers T, F.kp, FunD.bindsN F fun _ _ _ _ _ _ us hl => match us, hl with | [_, _, _], _ => rfl, .nil⟩
end
section
variable {P : Program} {w : World} {K : PySem.W.Frag} {mg : Str → Option Value} {base : Heap}
def sp_finger_table (K : PySem.W.Frag) : Sp := fun vs H Q E => ∃ (S l : Addr) (s : Stg) (xs : List Int), vs = [.ref S, .ref l] ∧ (SetAt K H S s) ∧ (H l = some (.lst (xs.map V.int))) ∧ (xs.Nodup) ∧ (xs.length ≤ 256) ∧ (∀ d H1, TabAt H1 d s xs → Kp [] H H1 → H d = none → TabF H H1 d xs → Q (.ref d) H1)
theorem us_finger_table {K : PySem.W.Frag} {H : Hp} {Q : VK} {E : XK} {S l : Addr} {s : Stg} {xs : List Int} (hS : SetAt K H S s) (hl : H l = some (.lst (xs.map V.int))) (nd : xs.Nodup) (hn : xs.length ≤ 256) (kk : ∀ d H1, TabAt H1 d s xs → Kp [] H H1 → H d = none → TabF H H1 d xs → Q (.ref d) H1) : sp_finger_table K [.ref S, .ref l] H Q E := ⟨_, _, _, _, rfl, hS, hl, nd, hn, kk⟩
theorem f_finger_table (T : Cx K mg) (B : Tb K mg base) : ∃ fd, FunD K "finger_table" "finger_table" (defArgs s_finger_table) (defBody s_finger_table) (defScope s_finger_table) (d_finger_table.dvs K) (d_finger_table.kws K) (fAd K d_finger_table.at_) fd ∧ FnOk P w K mg base CX0 6 (fAd K d_finger_table.at_) fd p_finger_table (sp_finger_table K) := by
  have c_fingers := c_fingers (P := P) (w := w) (base := base) T B
  obtain ⟨fd, F⟩ := T.says.def_ 10 (d := d_finger_table) rfl
  refine ⟨fd, F, fnD F sc_finger_table (fun vs H Q E h => by
    obtain ⟨_, _, _, _, rfl, _⟩ := h
    rfl) fun cdv A outer s H vs Q E hr h => ?_⟩
  have hu := hu_of hr
  obtain ⟨S, l, s, xs, rfl, hS, hl, nd, hn, kk⟩ := h
  refine ⟨_, (pss_one (ps_ret (pe_dc (own := [("seat", 2)]) (g := (gName 2)) (tt := tYes) rfl sc_finger_table.nd (pi_list (pv 1)) (blkOk_by (own := [("seat", 2)]) (N := n_finger_table) (sc := defScope s_finger_table) (by decide +kernel)) (fun _ _ _ _ _ => (pg_name (i := 2) sc_finger_table.nd rfl (by first | exact Or.inl rfl | exact Or.inr rfl))) (fun _ _ _ _ _ => pts_nil) (fun _ _ _ _ _ => (pv 2)) (fun _ _ _ _ _ => (pe_cal c_fingers hr (by decide) (by rfl) pass0 (pa_cons (pv 0) (pa_cons (pv 2) (pa_cons (pv 1) pa_nil)))))))), ?_⟩
  rw [show L2.start n_finger_table [.ref S, .ref l] = [some (.ref S), some (.ref l), none] from rfl]
  try dsimp only [cxOf, Cx.nox, Cx.wish, List.map]

  wtm_at "rd"
  intro D hD
  refine dcL_ints xs (fun i H1 => (∃ f : Int → Addr, H1 D = some (.dK (dmap (xs.take i) fun x => .ref (f x))) ∧ ∀ x, x ∈ xs.take i → H1 (f x) = some (.lst ((fingL s x xs).map ov)) ∧ H (f x) = none) ∧ Kp [] H H1) ⟨⟨fun _ => 0, upd_same, fun x hx => by cases hx⟩, Kp.new hD⟩ (fun i H1 _ q => SqL.of (q.2.g0 hl)) ?_ ?_
  · rintro i hi H1 ⟨⟨f, h1, h2⟩, k1⟩
    have ni : xs[i] ∉ xs.take i := fun m => by
      obtain ⟨j, hj, e⟩ := List.mem_take_iff_getElem.mp m
      have := (List.getElem_inj nd).mp e
      omega
    wtm_at "rd"
    refine ⟨rfl, ?_⟩
    wtm_at "rd"
    refine us_fingers (hS.k0 k1) (k1.g0 hl) fun q H2 hq k2 nq => ?_
    have h1' := k2.g0 h1
    refine ⟨_, .inl xs[i], rfl, h1', szlt (by rw [dmap_len, List.length_take]; omega), ⟨fset f xs[i] q, ?_, fun x hx => ?_⟩, (k1.trans k2).mine hD⟩
    · rw [upd_same, dmap_new ni, List.take_succ_eq_append_getElem hi]
      congr 2
      refine dmap_congr fun x _ => ?_
      unfold fset
      split <;> rfl
    · rw [List.take_succ_eq_append_getElem hi] at hx
      rcases List.mem_append.mp hx with hx | hx
      · have hne : x ≠ xs[i] := fun e => ni (e ▸ hx)
        have h3 := k2.g0 (h2 x hx).1
        rw [show fset f xs[i] q x = f x from if_neg hne]
        exact ⟨hu_ne (ne_of h3 h1' (by intro z; cases z)) h3, (h2 x hx).2⟩
      · rw [List.mem_singleton.mp hx, show fset f xs[i] q xs[i] = q from if_pos rfl]
        exact ⟨hu_ne (ne_of hq h1' (by intro z; cases z)) hq, k1.back nq (by simp)⟩
  · rintro H1 ⟨⟨f, h1, h2⟩, k1⟩
    rw [List.take_length] at h1 h2
    exact kk D H1 ⟨f, h1, fun x hx => (h2 x hx).1⟩ k1 hD ⟨f, h1, fun x hx => (h2 x hx).2⟩
theorem c_finger_table (T : Cx K mg) (B : Tb K mg base) : CalX P w K mg base CX0 6 "finger_table" (sp_finger_table K) [] := by
  obtain ⟨fd, F, ok⟩ := f_finger_table (P := P) (w := w) (base := base) T B
  exact ⟨_, fd, p_finger_table, [], ok, gl_finger_table T, F.kp, FunD.bindsN F fun _ _ _ _ _ _ us hl => match us, hl with | [_, _], _ => rfl, .nil⟩
end
section
variable {P : Program} {w : World} {K : PySem.W.Frag} {mg : Str → Option Value} {base : Heap}
def sp_called_at (K : PySem.W.Frag) : Sp := fun vs H Q E => ∃ (S d : Addr) (s : Stg) (seat beat : Int) (xs : List Int), vs = [.ref S, .ref d, .int seat, .int beat] ∧ (SetAt K H S s) ∧ (TabAt H d s xs) ∧ (seat ∈ xs) ∧ (Q (ov (callO s.bits s.pat xs seat beat)) H)
theorem us_called_at {K : PySem.W.Frag} {H : Hp} {Q : VK} {E : XK} {S d : Addr} {s : Stg} {seat beat : Int} {xs : List Int} (hS : SetAt K H S s) (hd : TabAt H d s xs) (hx : seat ∈ xs) (kk : Q (ov (callO s.bits s.pat xs seat beat)) H) : sp_called_at K [.ref S, .ref d, .int seat, .int beat] H Q E := ⟨_, _, _, _, _, _, rfl, hS, hd, hx, kk⟩
theorem f_called_at (T : Cx K mg) (B : Tb K mg base) : ∃ fd, FunD K "called_at" "called_at" (defArgs s_called_at) (defBody s_called_at) (defScope s_called_at) (d_called_at.dvs K) (d_called_at.kws K) (fAd K d_called_at.at_) fd ∧ FnOk P w K mg base CX0 2 (fAd K d_called_at.at_) fd p_called_at (sp_called_at K) := by
  have c_block_of := c_block_of (P := P) (w := w) (base := base) T B
  obtain ⟨fd, F⟩ := T.says.def_ 11 (d := d_called_at) rfl
  refine ⟨fd, F, fnD F sc_called_at (fun vs H Q E h => by
    obtain ⟨_, _, _, _, _, _, rfl, _⟩ := h
    rfl) fun cdv A outer s H vs Q E hr h => ?_⟩
  have hu := hu_of hr
  obtain ⟨S, d, s, seat, beat, xs, rfl, hS, hd, hx, kk⟩ := h
  refine ⟨_, (pss_cons (ps_set (i := 4) sc_called_at.nd rfl (by first | exact Or.inl rfl | exact Or.inr rfl) (pe_dget hu (pv 1) (pv 2) (fun _ _ => rfl))) (pss_one (ps_ret (pe_ix ix_list (pv 4) (pe_cal c_block_of hr (by decide) (by rfl) pass0 (pa_cons (pv 0) (pa_cons (pv 3) pa_nil))) (fun _ _ => rfl))))), ?_⟩
  rw [show L2.start n_called_at [.ref S, .ref d, .int seat, .int beat] = [some (.ref S), some (.ref d), some (.int seat), some (.int beat), none] from rfl]
  try dsimp only [cxOf, Cx.nox, Cx.wish, List.map]

  obtain ⟨f, h1, h2⟩ := hd
  have ok := hS.ok
  have p0 := ok.p0
  have b0 := ok.b0
  have b1 := ok.b1
  have lk : valV (dmap xs fun x => V.ref (f x)) (.inl seat) = some (.ref (f seat)) := dmap_in hx
  have hr := h2 seat hx
  wtm_at "rd"
  refine us_block_of hS ?_
  have m0 := Int.emod_nonneg (beat / s.pat) (show s.bits ≠ 0 by omega)
  have m1 := Int.emod_lt_of_pos (beat / s.pat) (show 0 < s.bits by omega)
  have hat : atI ((fingL s seat xs).map ov) (beat / s.pat % s.bits) = some (ov (callO s.bits s.pat xs seat beat)) := by
    unfold callO
    rw [← Stg.ring_eq]
    generalize beat / s.pat % s.bits = k at *
    obtain ⟨j, rfl⟩ := Int.eq_ofNat_of_zero_le m0
    refine atI_nat ?_
    unfold fingL
    rw [List.getElem?_map, List.getElem?_map, List.getElem?_range (by omega)]
    simp only [Option.map_some]
    rw [show s.bits.toNat - 1 - j = (s.bits - 1 - (j : Int)).toNat by omega]
  wtm_at "rd"
  exact kk
theorem c_called_at (T : Cx K mg) (B : Tb K mg base) : CalX P w K mg base CX0 2 "called_at" (sp_called_at K) [] := by
  obtain ⟨fd, F, ok⟩ := f_called_at (P := P) (w := w) (base := base) T B
  exact ⟨_, fd, p_called_at, [], ok, gl_called_at T, F.kp, FunD.bindsN F fun _ _ _ _ _ _ us hl => match us, hl with | [_, _, _, _], _ => rfl, .nil⟩
end
section
variable {P : Program} {w : World} {K : PySem.W.Frag} {mg : Str → Option Value} {base : Heap}
def sp_copied (K : PySem.W.Frag) : Sp := fun vs H Q E => ∃ (sh : V) (ks : List Int) (df : Int → Int), vs = [sh] ∧ ((sh = .non ∧ ks = []) ∨ ∃ d, sh = .ref d ∧ H d = some (.dK (dmap ks fun x => V.int (df x)))) ∧ (∀ d H1, H1 d = some (.dK (dmap ks fun x => V.int (df x))) → Kp [] H H1 → H d = none → Q (.ref d) H1)
theorem us_copied {K : PySem.W.Frag} {H : Hp} {Q : VK} {E : XK} {sh : V} {ks : List Int} {df : Int → Int} (hs : (sh = .non ∧ ks = []) ∨ ∃ d, sh = .ref d ∧ H d = some (.dK (dmap ks fun x => V.int (df x)))) (kk : ∀ d H1, H1 d = some (.dK (dmap ks fun x => V.int (df x))) → Kp [] H H1 → H d = none → Q (.ref d) H1) : sp_copied K [sh] H Q E := ⟨_, _, _, rfl, hs, kk⟩
theorem f_copied (T : Cx K mg) (B : Tb K mg base) : ∃ fd, FunD K "copied" "copied" (defArgs s_copied) (defBody s_copied) (defScope s_copied) (d_copied.dvs K) (d_copied.kws K) (fAd K d_copied.at_) fd ∧ FnOk P w K mg base CX0 1 (fAd K d_copied.at_) fd p_copied (sp_copied K) := by
  obtain ⟨fd, F⟩ := T.says.def_ 12 (d := d_copied) rfl
  refine ⟨fd, F, fnD F sc_copied (fun vs H Q E h => by
    obtain ⟨_, _, _, rfl, _⟩ := h
    rfl) fun cdv A outer s H vs Q E hr h => ?_⟩
  have hu := hu_of hr
  obtain ⟨sh, ks, df, rfl, hs, kk⟩ := h
  refine ⟨_, (pss_cons (ps_if (pt_cmp (pc_isN (pv 0))) (pss_one (ps_ret pe_dnewK)) pss_nil) (pss_one (ps_ret (pe_callTy call_dictD (by rfl) (fr_dict T) (by decide +kernel) (pa_cons (pv 0) pa_nil))))), ?_⟩
  rw [show L2.start n_copied [sh] = [some (sh)] from rfl]
  try dsimp only [cxOf, Cx.nox, Cx.wish, List.map]

  rcases hs with ⟨rfl, rfl⟩ | ⟨d, rfl, hd⟩
  · wtm_at "rd"
    intro p np
    exact kk p _ upd_same (Kp.new np) np
  · wtm_at "rd"
    intro p np
    exact kk p _ upd_same (Kp.new np) np
theorem c_copied (T : Cx K mg) (B : Tb K mg base) : CalX P w K mg base CX0 1 "copied" (sp_copied K) [] := by
  obtain ⟨fd, F, ok⟩ := f_copied (P := P) (w := w) (base := base) T B
  exact ⟨_, fd, p_copied, [], ok, gl_copied T, F.kp, FunD.bindsN F fun _ _ _ _ _ _ us hl => match us, hl with | [_], _ => rfl, .nil⟩
end
section
variable {P : Program} {w : World} {K : PySem.W.Frag} {mg : Str → Option Value} {base : Heap}
def sp_Spread_init (K : PySem.W.Frag) : Sp := fun vs H Q E => ∃ (q dx S hl og : Addr) (sh0 : V) (s : Stg) (xs os ks : List Int) (df : Int → Int) (start : Int) (tl : Option Int), vs = [.ref q, .ref S, .ref hl, .ref og, .int start, ov tl, sh0] ∧ (H q = some (.ins (ga K "Spread") dx [])) ∧ (SetAt K H S s) ∧ (H hl = some (.lst (xs.map V.int))) ∧ (H og = some (.lst (os.map V.int))) ∧ (xs.Nodup) ∧ (os.Nodup) ∧ (∀ z, z ∈ os → z ∈ xs) ∧ (xs.length ≤ 60) ∧ ((sh0 = .non ∧ ks = []) ∨ ∃ d, sh0 = .ref d ∧ H d = some (.dK (dmap ks fun x => V.int (df x)))) ∧ (∀ sh tb md sn H1, Sprd K H1 q S sh tb md sn s xs ks df start tl 0 (fun y => decide (y ∈ os), fun _ => 0) (fun _ => 0) → Kp [q] H H1 → H md = none → H sn = none → H sh = none → H tb = none → TabF H H1 tb xs → Q .non H1)
theorem us_Spread_init {K : PySem.W.Frag} {H : Hp} {Q : VK} {E : XK} {q dx S hl og : Addr} {sh0 : V} {s : Stg} {xs os ks : List Int} {df : Int → Int} {start : Int} {tl : Option Int} (hq : H q = some (.ins (ga K "Spread") dx [])) (hS : SetAt K H S s) (hh : H hl = some (.lst (xs.map V.int))) (ho : H og = some (.lst (os.map V.int))) (nd : xs.Nodup) (ndo : os.Nodup) (hox : ∀ z, z ∈ os → z ∈ xs) (hn : xs.length ≤ 60) (hs : (sh0 = .non ∧ ks = []) ∨ ∃ d, sh0 = .ref d ∧ H d = some (.dK (dmap ks fun x => V.int (df x)))) (kk : ∀ sh tb md sn H1, Sprd K H1 q S sh tb md sn s xs ks df start tl 0 (fun y => decide (y ∈ os), fun _ => 0) (fun _ => 0) → Kp [q] H H1 → H md = none → H sn = none → H sh = none → H tb = none → TabF H H1 tb xs → Q .non H1) : sp_Spread_init K [.ref q, .ref S, .ref hl, .ref og, .int start, ov tl, sh0] H Q E := ⟨_, _, _, _, _, _, _, _, _, _, _, _, _, rfl, hq, hS, hh, ho, nd, ndo, hox, hn, hs, kk⟩
theorem f_Spread_init (T : Cx K mg) (B : Tb K mg base) : ∃ fd, FunD K "__init__" "Spread.__init__" (defArgs s_Spread_init) (defBody s_Spread_init) (defScope s_Spread_init) (d_Spread_init.dvs K) (d_Spread_init.kws K) (fAd K d_Spread_init.at_) fd ∧ FnOk P w K mg base CX0 8 (fAd K d_Spread_init.at_) fd p_Spread_init (sp_Spread_init K) := by
  have c_copied := c_copied (P := P) (w := w) (base := base) T B
  have c_finger_table := c_finger_table (P := P) (w := w) (base := base) T B
  obtain ⟨fd, F⟩ := T.says.def_ 13 (d := d_Spread_init) rfl
  refine ⟨fd, F, fnD F sc_Spread_init (fun vs H Q E h => by
    obtain ⟨_, _, _, _, _, _, _, _, _, _, _, _, _, rfl, _⟩ := h
    rfl) fun cdv A outer s H vs Q E hr h => ?_⟩
  have hu := hu_of hr
  obtain ⟨q, dx, S, hl, og, sh0, s, xs, os, ks, df, start, tl, rfl, hq, hS, hh, ho, nd, ndo, hox, hn, hs, kk⟩ := h
  refine ⟨_, (pss_cons (ps_fld (pv 0) pe_int rfl) (pss_cons (ps_fld (pv 0) (pv 1) rfl) (pss_cons (ps_fld (pv 0) (pv 4) rfl) (C8.pss_cut (ps_fld (pv 0) (pv 5) rfl) (C8.pss_cut (ps_fld (pv 0) (pe_cal c_copied hr (by decide) (by rfl) pass0 (pa_cons (pv 6) pa_nil)) rfl) (C8.pss_cut (ps_fld (pv 0) (pe_cal c_finger_table hr (by decide) (by rfl) pass0 (pa_cons (pv 1) (pa_cons (pv 2) pa_nil))) rfl) (pss_cons (ps_fld (pv 0) pe_dnewK rfl) (pss_cons (ps_for PassesOwn.never rfl (pi_list (pv 2)) (pg_name (i := 7) sc_Spread_init.nd rfl (by first | exact Or.inl rfl | exact Or.inr rfl)) (pss_one (ps_dput hu (pe_fld (pv 0) rfl) (pv 7) pe_int rfl))) (pss_cons (ps_fld (pv 0) pe_dnewK rfl) (pss_one (ps_for PassesOwn.never rfl (pi_list (pv 3)) (pg_name (i := 7) sc_Spread_init.nd rfl (by first | exact Or.inl rfl | exact Or.inr rfl)) (pss_one (ps_dput hu (pe_fld (pv 0) rfl) (pv 7) pe_int rfl))))))))))))), ?_⟩
  rw [show L2.start n_Spread_init [.ref q, .ref S, .ref hl, .ref og, .int start, ov tl, sh0] = [some (.ref q), some (.ref S), some (.ref hl), some (.ref og), some (.int start), some (ov tl), some (sh0), none] from rfl]
  try dsimp only [cxOf, Cx.nox, Cx.wish, List.map]

  wtm_at "rd"
  refine rd_cut (fun σ H1 => σ = [some (.ref q), some (.ref S), some (.ref hl), some (.ref og), some (.int start), some (ov tl), some sh0, none] ∧ H1 q = some (.ins (ga K "Spread") dx [(("rounds" : Str), .int 0), (("_setting" : Str), .ref S), (("_start" : Str), .int start), (("_tellings" : Str), ov tl)]) ∧ Kp [q] H H1) ?_ ?_
  · wtm_at "rd"
    exact ⟨rfl, upd_same, (((Kp.refl.wr (by simp)).wr (by simp)).wr (by simp)).wr (by simp)⟩
  rintro σ H1 ⟨rfl, q1, k1⟩
  have hh1 := k1.g1 (ne_of hh hq (by intro z; cases z)) hh
  have ho1 := k1.g1 (ne_of ho hq (by intro z; cases z)) ho
  have S1 := hS.k1 k1 (hS.neins' hq)
  have hs1 : (sh0 = .non ∧ ks = []) ∨ ∃ d, sh0 = .ref d ∧ H1 d = some (.dK (dmap ks fun x => V.int (df x))) := hs.imp id fun ⟨d, e, h⟩ => ⟨d, e, k1.g1 (ne_of h hq (by intro z; cases z)) h⟩
  refine rd_cut (fun σ H2 => ∃ sh, σ = [some (.ref q), some (.ref S), some (.ref hl), some (.ref og), some (.int start), some (ov tl), some sh0, none] ∧ H2 q = some (.ins (ga K "Spread") dx [(("rounds" : Str), .int 0), (("_setting" : Str), .ref S), (("_start" : Str), .int start), (("_tellings" : Str), ov tl), (("_shifts" : Str), .ref sh)]) ∧ H2 sh = some (.dK (dmap ks fun x => V.int (df x))) ∧ Kp [q] H1 H2 ∧ H1 sh = none) ?_ ?_
  · wtm_at "rd"
    refine us_copied (ks := ks) (df := df) hs1 fun sh H2 h2 k2 n2 => ?_
    have q2 := k2.g0 q1
    wtm_at "rd"
    exact ⟨sh, rfl, upd_same, hu_ne (ne_of h2 q2 (by intro z; cases z)) h2, k2.of0.wr (by simp), n2⟩
  rintro σ H2 ⟨sh, rfl, q2, sh2, k2, nsh1⟩
  have nsh0 : H sh = none := k1.back nsh1 (by simpa using Ne.symm (ne_of_none q1 nsh1))
  have hh2 := k2.g1 (ne_of hh1 q1 (by intro z; cases z)) hh1
  have ho2 := k2.g1 (ne_of ho1 q1 (by intro z; cases z)) ho1
  have S2 := S1.k1 k2 (S1.neins q1 (by decide))
  refine rd_cut (fun σ H3 => ∃ tb, σ = [some (.ref q), some (.ref S), some (.ref hl), some (.ref og), some (.int start), some (ov tl), some sh0, none] ∧ H3 q = some (.ins (ga K "Spread") dx [(("rounds" : Str), .int 0), (("_setting" : Str), .ref S), (("_start" : Str), .int start), (("_tellings" : Str), ov tl), (("_shifts" : Str), .ref sh), (("_table" : Str), .ref tb)]) ∧ TabAt H3 tb s xs ∧ Kp [q] H2 H3 ∧ H2 tb = none ∧ TabF H2 H3 tb xs) ?_ ?_
  · wtm_at "rd"
    refine us_finger_table S2 hh2 nd (by omega) fun tb H3 h3 k3 n3 f3 => ?_
    have q3 := k3.g0 q2
    wtm_at "rd"
    exact ⟨tb, rfl, upd_same, h3.ki (Kp.refl.wr (by simp)) q3, k3.of0.wr (by simp), n3, f3.mv (fun o e => hu_ne (by obtain ⟨f, t1, -⟩ := h3; exact ne_of t1 q3 (by intro z; cases z)) e) (fun z h => h)⟩
  rintro σ H3 ⟨tb, rfl, q3, tb3, k3, ntb2, tf0⟩
  have tfA : TabF H H3 tb xs := tf0.mv (fun o e => e) (fun z hz => by
    have z1 := k2.back hz (by simpa using fun e => by rw [e, q2] at hz; cases hz)
    exact k1.back z1 (by simpa using fun e => by rw [e, q1] at z1; cases z1))
  have ntb1 := k2.back ntb2 (by simpa using Ne.symm (ne_of_none q2 ntb2))
  have ntb0 : H tb = none := k1.back ntb1 (by simpa using Ne.symm (ne_of_none q1 ntb1))
  have hh3 := k3.g1 (ne_of hh2 q2 (by intro z; cases z)) hh2
  have ho3 := k3.g1 (ne_of ho2 q2 (by intro z; cases z)) ho2
  have S3 := S2.k1 k3 (S2.neins q2 (by decide))
  have sh3 := k3.g1 (ne_of sh2 q2 (by intro z; cases z)) sh2
  have k03 := (k1.trans k2).trans k3
  clear k1 k2 k3 hs1 sh2 S2 S1 hh2 hh1 ho2 ho1 q2 q1
  wtm_at "rd"
  intro md nmd
  have k4 : Kp [] H3 (upd H3 md (.dK [])) := Kp.new nmd
  have md4 : upd H3 md (.dK []) md = some (.dK (dmap (xs.take 0) fun _ => V.int 0)) := upd_same
  have nm1 : sh ≠ md := ne_of_none sh3 nmd
  have nm3 : tb ≠ md := by
    obtain ⟨f, h1, -⟩ := tb3
    exact ne_of_none h1 nmd
  have nqm : q ≠ md := ne_of_none q3 nmd
  have q4 := k4.g0 q3
  have hh4 := k4.g0 hh3
  have ho4 := k4.g0 ho3
  have S4 := S3.k0 k4
  have sh4 := k4.g0 sh3
  have tb4 := tb3.k0 k4
  have tfA := tfA.mv (fun o e => k4.g0 e) (fun z h => h)
  have nmd0 := k03.back nmd (by simpa using Ne.symm nqm)
  have k04 := k03.trans k4.of0
  generalize upd H3 md (.dK []) = H4 at *
  clear hh3 ho3 S3 sh3 tb3 q3 k4 k03
  wtm_at "rd"
  have k5 : Kp [q] H4 (upd H4 q (.ins (ga K "Spread") dx (putF "_made" (.ref md) [(("rounds" : Str), .int 0), (("_setting" : Str), .ref S), (("_start" : Str), .int start), (("_tellings" : Str), ov tl), (("_shifts" : Str), .ref sh), (("_table" : Str), .ref tb)]))) := Kp.refl.wr (by simp)
  have q5 : upd H4 q (.ins (ga K "Spread") dx (putF "_made" (.ref md) [(("rounds" : Str), .int 0), (("_setting" : Str), .ref S), (("_start" : Str), .int start), (("_tellings" : Str), ov tl), (("_shifts" : Str), .ref sh), (("_table" : Str), .ref tb)])) q = some (.ins (ga K "Spread") dx [(("rounds" : Str), .int 0), (("_setting" : Str), .ref S), (("_start" : Str), .int start), (("_tellings" : Str), ov tl), (("_shifts" : Str), .ref sh), (("_table" : Str), .ref tb), (("_made" : Str), .ref md)]) := upd_same
  generalize upd H4 q (.ins (ga K "Spread") dx (putF "_made" (.ref md) [(("rounds" : Str), .int 0), (("_setting" : Str), .ref S), (("_start" : Str), .int start), (("_tellings" : Str), ov tl), (("_shifts" : Str), .ref sh), (("_table" : Str), .ref tb)])) = H5 at *
  have hh5 := k5.g1 (ne_of hh4 q4 (by intro z; cases z)) hh4
  have ho5 := k5.g1 (ne_of ho4 q4 (by intro z; cases z)) ho4
  have S5 := S4.k1 k5 (S4.neins q4 (by decide))
  have sh5 := k5.g1 (ne_of sh4 q4 (by intro z; cases z)) sh4
  have tb5 := tb4.ki k5 q4
  have tfA := tfA.mv (fun o e => k5.g1 (by obtain ⟨f, t1, -⟩ := tb4; exact ne_of t1 q4 (by intro z; cases z)) e) (fun z h => h)
  have md5 := k5.g1 (Ne.symm nqm) md4
  have k05 := k04.trans k5
  clear hh4 ho4 S4 sh4 tb4 q4 k5 k04 md4
  wtm_at "rd"
  refine forL_ints (K := K) xs (fun i σ H6 => (∃ v7, σ = [some (.ref q), some (.ref S), some (.ref hl), some (.ref og), some (.int start), some (ov tl), some sh0, v7]) ∧ H6 md = some (.dK (dmap (xs.take i) fun _ => V.int 0)) ∧ Kp [md] H5 H6) ⟨⟨_, rfl⟩, md5, Kp.refl⟩ (fun i σ H6 _ z => SqL.of (z.2.2.g1 (ne_of hh5 md5 (by intro z; cases z)) hh5)) ?_ ?_
  · rintro i hi σ H6 ⟨⟨v7, rfl⟩, m6, k6⟩
    have q6 := k6.g1 nqm q5
    have sk : (dmap (xs.take i) fun _ => V.int 0).length < sizeLine := szlt (by rw [dmap_len, List.length_take]; omega)
    wtm_at "rd"
    refine ⟨⟨_, rfl⟩, ?_, k6.wr (by simp)⟩
    rw [upd_same, dmap_const (nd_take nd hi), List.take_succ_eq_append_getElem hi]
  rintro σ H6 ⟨⟨v7, rfl⟩, md6, k6⟩
  rw [List.take_length] at md6
  have q6 := k6.g1 nqm q5
  have ho6 := k6.g1 (ne_of ho5 md5 (by intro z; cases z)) ho5
  have S6 := S5.k1 k6 (S5.nedK md5)
  have sh6 := k6.g1 nm1 sh5
  have tb6 := tb5.kd k6 md5 nm3
  have tfA := tfA.mv (fun o e => k6.g1 nm3 e) (fun z h => h)
  have k06 : Kp [q] H H6 := fun b o hb hn => k6 _ _ (k05 _ _ hb hn) (by simpa using ne_of_none hb nmd0)
  clear hh5 ho5 S5 sh5 tb5 q5 k6 k05 md5
  wtm_at "rd"
  intro sn nsn
  have k4 : Kp [] H6 (upd H6 sn (.dK [])) := Kp.new nsn
  have sn4 : upd H6 sn (.dK []) sn = some (.dK (dmap (os.take 0) fun _ => V.int 0)) := upd_same
  have nm2 : sh ≠ sn := ne_of_none sh6 nsn
  have nm4 : tb ≠ sn := by
    obtain ⟨f, h1, -⟩ := tb6
    exact ne_of_none h1 nsn
  have nm5 : md ≠ sn := ne_of_none md6 nsn
  have nqs : q ≠ sn := ne_of_none q6 nsn
  have q4 := k4.g0 q6
  have ho4 := k4.g0 ho6
  have S4 := S6.k0 k4
  have sh4 := k4.g0 sh6
  have tb4 := tb6.k0 k4
  have tfA := tfA.mv (fun o e => k4.g0 e) (fun z h => h)
  have md4 := k4.g0 md6
  have nsn0 := k06.back nsn (by simpa using Ne.symm nqs)
  have k04 := k06.trans k4.of0
  generalize upd H6 sn (.dK []) = H4 at *
  clear ho6 S6 sh6 tb6 q6 k4 k06 md6
  wtm_at "rd"
  have k5 : Kp [q] H4 (upd H4 q (.ins (ga K "Spread") dx (putF "_since" (.ref sn) [(("rounds" : Str), .int 0), (("_setting" : Str), .ref S), (("_start" : Str), .int start), (("_tellings" : Str), ov tl), (("_shifts" : Str), .ref sh), (("_table" : Str), .ref tb), (("_made" : Str), .ref md)]))) := Kp.refl.wr (by simp)
  have q5 : upd H4 q (.ins (ga K "Spread") dx (putF "_since" (.ref sn) [(("rounds" : Str), .int 0), (("_setting" : Str), .ref S), (("_start" : Str), .int start), (("_tellings" : Str), ov tl), (("_shifts" : Str), .ref sh), (("_table" : Str), .ref tb), (("_made" : Str), .ref md)])) q = some (.ins (ga K "Spread") dx (SpF (0 : Nat) start S sh tb md sn tl)) := upd_same
  generalize upd H4 q (.ins (ga K "Spread") dx (putF "_since" (.ref sn) [(("rounds" : Str), .int 0), (("_setting" : Str), .ref S), (("_start" : Str), .int start), (("_tellings" : Str), ov tl), (("_shifts" : Str), .ref sh), (("_table" : Str), .ref tb), (("_made" : Str), .ref md)])) = H5 at *
  have ho5 := k5.g1 (ne_of ho4 q4 (by intro z; cases z)) ho4
  have S5 := S4.k1 k5 (S4.neins q4 (by decide))
  have sh5 := k5.g1 (ne_of sh4 q4 (by intro z; cases z)) sh4
  have tb5 := tb4.ki k5 q4
  have tfA := tfA.mv (fun o e => k5.g1 (by obtain ⟨f, t1, -⟩ := tb4; exact ne_of t1 q4 (by intro z; cases z)) e) (fun z h => h)
  have md5 := k5.g1 (Ne.symm nqm) md4
  have sn5 := k5.g1 (Ne.symm nqs) sn4
  have k05 := k04.trans k5
  clear ho4 S4 sh4 tb4 q4 k5 k04 md4 sn4
  wtm_at "rd"
  refine forL_ints (K := K) os (fun i σ H6 => (∃ v7, σ = [some (.ref q), some (.ref S), some (.ref hl), some (.ref og), some (.int start), some (ov tl), some sh0, v7]) ∧ H6 sn = some (.dK (dmap (os.take i) fun _ => V.int 0)) ∧ Kp [sn] H5 H6) ⟨⟨_, rfl⟩, sn5, Kp.refl⟩ (fun i σ H6 _ z => SqL.of (z.2.2.g1 (ne_of ho5 sn5 (by intro z; cases z)) ho5)) ?_ ?_
  · rintro i hi σ H6 ⟨⟨v7, rfl⟩, m6, k6⟩
    have q6 := k6.g1 nqs q5
    have ol := List.Nodup.length_le_of_subset ndo (fun z hz => hox z hz)
    unfold SpF at q6
    have sk : (dmap (os.take i) fun _ => V.int 0).length < sizeLine := szlt (by rw [dmap_len, List.length_take]; omega)
    wtm_at "rd"
    refine ⟨⟨_, rfl⟩, ?_, k6.wr (by simp)⟩
    rw [upd_same, dmap_const (nd_take ndo hi), List.take_succ_eq_append_getElem hi]
  rintro σ H6 ⟨⟨v7, rfl⟩, sn6, k6⟩
  rw [List.take_length] at sn6
  wtm_at "rd"
  refine kk sh tb md sn H6 ⟨⟨dx, k6.g1 nqs q5⟩, S5.k1 k6 (S5.nedK sn5), k6.g1 nm2 sh5, tb5.kd k6 sn5 nm4, k6.g1 nm5 md5, ⟨os, sn6, ndo, fun y => ?_⟩, nd, hn, nm1, nm2, nm3, nm4, nm5⟩ (fun b o hb hn => k6 _ _ (k05 _ _ hb hn) (by simpa using ne_of_none hb nsn0)) nmd0 nsn0 nsh0 ntb0 (tfA.mv (fun o e => k6.g1 nm4 e) (fun z h => h))
  rw [decide_eq_true_eq]
  exact ⟨fun h => ⟨hox y h, h⟩, fun h => h.2⟩
theorem c_Spread_init (T : Cx K mg) (B : Tb K mg base) : MakX P w K mg base CX0 8 "Spread" (ga K "Spread") (sp_Spread_init K) [.non, .non] := by
  obtain ⟨fd, F, ok⟩ := f_Spread_init (P := P) (w := w) (base := base) T B
  obtain ⟨ds, hv, hb⟩ := FunD.binds0 (ps := p_Spread_init) F 5 (fun e => by cases e) rfl fun _ _ _ _ _ _ us ks hu hk => match us, ks, hu, hk with | [_, _, _, _, _], [_, _], _, _ => ⟨_, _, _, _, _, _, rfl, rfl, ⟨_, _, _, _, _, _, rfl, rfl, rfl⟩⟩
  exact ⟨_, fd, p_Spread_init, ds, mk_Spread T, ok, gl_Spread T, hb, hv⟩
def kg_Spread_init_shifts {α : Type} : List α → List α → List α → List α := fun us mz zs => us ++ (mz[0]?).toList ++ (zs[0]?).toList
theorem kr_Spread_init_shifts {vs mz zs : List V} {us mv ws : List Value} (r1 : Vals vs us) (r2 : Vals mz mv) (r3 : Vals zs ws) : Vals (kg_Spread_init_shifts vs mz zs) (kg_Spread_init_shifts us mv ws) := (Vals.append (Vals.append r1 (vals_at 0 r2)) (vals_at 0 r3))
theorem c_Spread_init_shifts (T : Cx K mg) (B : Tb K mg base) : MakKX P w K mg base CX0 8 "Spread" (ga K "Spread") (sp_Spread_init K) 4 ["shifts"] (fun vs zs => kg_Spread_init_shifts vs [V.non] zs) := by
  obtain ⟨fd, F, ok⟩ := f_Spread_init (P := P) (w := w) (base := base) T B
  obtain ⟨mv, hb⟩ := FunD.kbinds0 (ps := p_Spread_init) F 5 ["shifts"] [("tellings", V.non)] kg_Spread_init_shifts (fun e => by cases e) (fun q hq => show q ∈ ([("tellings", V.non), ("shifts", V.non)] : List (Str × V)) by simp only [List.mem_cons, List.not_mem_nil, or_false] at hq; rcases hq with rfl <;> simp) kr_Spread_init_shifts fun _ _ _ _ _ _ us mv ws hu hm hw => match us, mv, ws, hu, hm, hw with | [_, _, _, _, _], [_], [_], _, _, _ => ⟨_, _, _, _, _, _, rfl, rfl, rfl⟩
  exact ⟨_, fd, p_Spread_init, _, mk_Spread T, ok, gl_Spread T, hb⟩
def kg_Spread_init_tellings {α : Type} : List α → List α → List α → List α := fun us mz zs => us ++ (zs[0]?).toList ++ (mz[0]?).toList
theorem kr_Spread_init_tellings {vs mz zs : List V} {us mv ws : List Value} (r1 : Vals vs us) (r2 : Vals mz mv) (r3 : Vals zs ws) : Vals (kg_Spread_init_tellings vs mz zs) (kg_Spread_init_tellings us mv ws) := (Vals.append (Vals.append r1 (vals_at 0 r3)) (vals_at 0 r2))
theorem c_Spread_init_tellings (T : Cx K mg) (B : Tb K mg base) : MakKX P w K mg base CX0 8 "Spread" (ga K "Spread") (sp_Spread_init K) 4 ["tellings"] (fun vs zs => kg_Spread_init_tellings vs [V.non] zs) := by
  obtain ⟨fd, F, ok⟩ := f_Spread_init (P := P) (w := w) (base := base) T B
  obtain ⟨mv, hb⟩ := FunD.kbinds0 (ps := p_Spread_init) F 5 ["tellings"] [("shifts", V.non)] kg_Spread_init_tellings (fun e => by cases e) (fun q hq => show q ∈ ([("tellings", V.non), ("shifts", V.non)] : List (Str × V)) by simp only [List.mem_cons, List.not_mem_nil, or_false] at hq; rcases hq with rfl <;> simp) kr_Spread_init_tellings fun _ _ _ _ _ _ us mv ws hu hm hw => match us, mv, ws, hu, hm, hw with | [_, _, _, _, _], [_], [_], _, _, _ => ⟨_, _, _, _, _, _, rfl, rfl, rfl⟩
  exact ⟨_, fd, p_Spread_init, _, mk_Spread T, ok, gl_Spread T, hb⟩
def kg_Spread_init_tellings_shifts {α : Type} : List α → List α → List α → List α := fun us mz zs => us ++ (zs[0]?).toList ++ (zs[1]?).toList
theorem kr_Spread_init_tellings_shifts {vs mz zs : List V} {us mv ws : List Value} (r1 : Vals vs us) (r2 : Vals mz mv) (r3 : Vals zs ws) : Vals (kg_Spread_init_tellings_shifts vs mz zs) (kg_Spread_init_tellings_shifts us mv ws) := (Vals.append (Vals.append r1 (vals_at 0 r3)) (vals_at 1 r3))
theorem c_Spread_init_tellings_shifts (T : Cx K mg) (B : Tb K mg base) : MakKX P w K mg base CX0 8 "Spread" (ga K "Spread") (sp_Spread_init K) 4 ["tellings", "shifts"] (fun vs zs => kg_Spread_init_tellings_shifts vs [] zs) := by
  obtain ⟨fd, F, ok⟩ := f_Spread_init (P := P) (w := w) (base := base) T B
  obtain ⟨mv, hb⟩ := FunD.kbinds0 (ps := p_Spread_init) F 5 ["tellings", "shifts"] [] kg_Spread_init_tellings_shifts (fun e => by cases e) (fun q hq => nomatch hq) kr_Spread_init_tellings_shifts fun _ _ _ _ _ _ us mv ws hu hm hw => match us, mv, ws, hu, hm, hw with | [_, _, _, _, _], [], [_, _], _, _, _ => rfl
  exact ⟨_, fd, p_Spread_init, _, mk_Spread T, ok, gl_Spread T, hb⟩
end
section
variable {P : Program} {w : World} {K : PySem.W.Frag} {mg : Str → Option Value} {base : Heap}
def sp_Spread__may_tell (K : PySem.W.Frag) : Sp := fun vs H Q E => ∃ (q S sh tb md sn dx : Addr) (xs : List Int) (start n x : Int) (tl : Option Int) (f : Int → Int), vs = [.ref q, .int x] ∧ (H q = some (.ins (ga K "Spread") dx (SpF n start S sh tb md sn tl))) ∧ (H md = some (.dK (dmap xs fun x => V.int (f x)))) ∧ (x ∈ xs) ∧ (Q (.bl (mayL tl (f x))) H)
theorem us_Spread__may_tell {K : PySem.W.Frag} {H : Hp} {Q : VK} {E : XK} {q S sh tb md sn dx : Addr} {xs : List Int} {start n x : Int} {tl : Option Int} {f : Int → Int} (hq : H q = some (.ins (ga K "Spread") dx (SpF n start S sh tb md sn tl))) (hm : H md = some (.dK (dmap xs fun x => V.int (f x)))) (hx : x ∈ xs) (kk : Q (.bl (mayL tl (f x))) H) : sp_Spread__may_tell K [.ref q, .int x] H Q E := ⟨_, _, _, _, _, _, _, _, _, _, _, _, _, rfl, hq, hm, hx, kk⟩
theorem f_Spread__may_tell (T : Cx K mg) (B : Tb K mg base) : ∃ fd, FunD K "_may_tell" "Spread._may_tell" (defArgs s_Spread__may_tell) (defBody s_Spread__may_tell) (defScope s_Spread__may_tell) (d_Spread__may_tell.dvs K) (d_Spread__may_tell.kws K) (fAd K d_Spread__may_tell.at_) fd ∧ FnOk P w K mg base CX0 1 (fAd K d_Spread__may_tell.at_) fd p_Spread__may_tell (sp_Spread__may_tell K) := by
  obtain ⟨fd, F⟩ := T.says.def_ 14 (d := d_Spread__may_tell) rfl
  refine ⟨fd, F, fnD F sc_Spread__may_tell (fun vs H Q E h => by
    obtain ⟨_, _, _, _, _, _, _, _, _, _, _, _, _, rfl, _⟩ := h
    rfl) fun cdv A outer s H vs Q E hr h => ?_⟩
  have hu := hu_of hr
  obtain ⟨q, S, sh, tb, md, sn, dx, xs, start, n, x, tl, f, rfl, hq, hm, hx, kk⟩ := h
  refine ⟨_, (pss_one (ps_ret (pe_or (pe_cmp (pc_isN (pe_fld (pv 0) rfl))) (pe_one (pe_cmpR op_lt (pe_dget hu (pe_fld (pv 0) rfl) (pv 1) (fun _ _ => rfl)) (pe_fld (pv 0) rfl) (nomark _)))))), ?_⟩
  rw [show L2.start n_Spread__may_tell [.ref q, .int x] = [some (.ref q), some (.int x)] from rfl]
  try dsimp only [cxOf, Cx.nox, Cx.wish, List.map]

  unfold SpF at hq
  have lk : valV (dmap xs fun x => V.int (f x)) (.inl x) = some (.int (f x)) := dmap_in hx
  cases tl with
  | none =>
    wtm_at "rd"
    exact kk
  | some l =>
    wtm_at "rd"
    exact kk
theorem c_Spread__may_tell (T : Cx K mg) (B : Tb K mg base) : MetX P w K mg base CX0 1 (ga K "Spread") "_may_tell" (sp_Spread__may_tell K) [] := by
  obtain ⟨fd, F, ok⟩ := f_Spread__may_tell (P := P) (w := w) (base := base) T B
  exact ⟨_, fd, p_Spread__may_tell, [], cl_Spread T, mt_Spread__may_tell T, ok, FunD.bindsN F fun _ _ _ _ _ _ us hl => match us, hl with | [_, _], _ => rfl, .nil⟩
end
section
variable {P : Program} {w : World} {K : PySem.W.Frag} {mg : Str → Option Value} {base : Heap}
def sp_Spread__called (K : PySem.W.Frag) : Sp := fun vs H Q E => ∃ (q S sh tb md sn dx : Addr) (s : Stg) (xs ks : List Int) (df : Int → Int) (start n x : Int) (tl : Option Int), vs = [.ref q, .int x] ∧ (H q = some (.ins (ga K "Spread") dx (SpF n start S sh tb md sn tl))) ∧ (SetAt K H S s) ∧ (H sh = some (.dK (dmap ks fun x => V.int (df x)))) ∧ (TabAt H tb s xs) ∧ (x ∈ xs) ∧ (Q (ov (callO s.bits s.pat xs x (start + n + dlv ks df x))) H)
theorem us_Spread__called {K : PySem.W.Frag} {H : Hp} {Q : VK} {E : XK} {q S sh tb md sn dx : Addr} {s : Stg} {xs ks : List Int} {df : Int → Int} {start n x : Int} {tl : Option Int} (hq : H q = some (.ins (ga K "Spread") dx (SpF n start S sh tb md sn tl))) (hS : SetAt K H S s) (hs : H sh = some (.dK (dmap ks fun x => V.int (df x)))) (hT : TabAt H tb s xs) (hx : x ∈ xs) (kk : Q (ov (callO s.bits s.pat xs x (start + n + dlv ks df x))) H) : sp_Spread__called K [.ref q, .int x] H Q E := ⟨_, _, _, _, _, _, _, _, _, _, _, _, _, _, _, rfl, hq, hS, hs, hT, hx, kk⟩
theorem f_Spread__called (T : Cx K mg) (B : Tb K mg base) : ∃ fd, FunD K "_called" "Spread._called" (defArgs s_Spread__called) (defBody s_Spread__called) (defScope s_Spread__called) (d_Spread__called.dvs K) (d_Spread__called.kws K) (fAd K d_Spread__called.at_) fd ∧ FnOk P w K mg base CX0 3 (fAd K d_Spread__called.at_) fd p_Spread__called (sp_Spread__called K) := by
  have c_called_at := c_called_at (P := P) (w := w) (base := base) T B
  obtain ⟨fd, F⟩ := T.says.def_ 15 (d := d_Spread__called) rfl
  refine ⟨fd, F, fnD F sc_Spread__called (fun vs H Q E h => by
    obtain ⟨_, _, _, _, _, _, _, _, _, _, _, _, _, _, _, rfl, _⟩ := h
    rfl) fun cdv A outer s H vs Q E hr h => ?_⟩
  have hu := hu_of hr
  obtain ⟨q, S, sh, tb, md, sn, dx, s, xs, ks, df, start, n, x, tl, rfl, hq, hS, hs, hT, hx, kk⟩ := h
  refine ⟨_, (pss_cons (ps_set (i := 2) sc_Spread__called.nd rfl (by first | exact Or.inl rfl | exact Or.inr rfl) (pe_op op_add (pe_op op_add (pe_fld (pv 0) rfl) (pe_fld (pv 0) rfl)) (pe_dget2 hu (pe_fld (pv 0) rfl) (pv 1) pe_int ⟨rfl, rfl, rfl, rfl⟩))) (pss_one (ps_ret (pe_cal c_called_at hr (by decide) (by rfl) pass0 (pa_cons (pe_fld (pv 0) rfl) (pa_cons (pe_fld (pv 0) rfl) (pa_cons (pv 1) (pa_cons (pv 2) pa_nil)))))))), ?_⟩
  rw [show L2.start n_Spread__called [.ref q, .int x] = [some (.ref q), some (.int x), none] from rfl]
  try dsimp only [cxOf, Cx.nox, Cx.wish, List.map]

  unfold SpF at hq
  wtm_at "rd"
  rw [dl_val]
  wtm_at "rd"
  refine us_called_at hS hT hx ?_
  exact kk
theorem c_Spread__called (T : Cx K mg) (B : Tb K mg base) : MetX P w K mg base CX0 3 (ga K "Spread") "_called" (sp_Spread__called K) [] := by
  obtain ⟨fd, F, ok⟩ := f_Spread__called (P := P) (w := w) (base := base) T B
  exact ⟨_, fd, p_Spread__called, [], cl_Spread T, mt_Spread__called T, ok, FunD.bindsN F fun _ _ _ _ _ _ us hl => match us, hl with | [_, _], _ => rfl, .nil⟩
end
section
variable {P : Program} {w : World} {K : PySem.W.Frag} {mg : Str → Option Value} {base : Heap}
def sp_Spread_known (K : PySem.W.Frag) : Sp := fun vs H Q E => ∃ (q S sh tb md sn dx : Addr) (us : List Int) (tf : Int → Int) (start n : Int) (tl : Option Int), vs = [.ref q] ∧ (H q = some (.ins (ga K "Spread") dx (SpF n start S sh tb md sn tl))) ∧ (H sn = some (.dK (dmap us fun x => V.int (tf x)))) ∧ (∀ l (os : List Int) H1, os.Perm us → os.Pairwise (· ≤ ·) → H1 l = some (.lst (os.map V.int)) → Kp [] H H1 → H l = none → Q (.ref l) H1)
theorem us_Spread_known {K : PySem.W.Frag} {H : Hp} {Q : VK} {E : XK} {q S sh tb md sn dx : Addr} {us : List Int} {tf : Int → Int} {start n : Int} {tl : Option Int} (hq : H q = some (.ins (ga K "Spread") dx (SpF n start S sh tb md sn tl))) (hs : H sn = some (.dK (dmap us fun x => V.int (tf x)))) (kk : ∀ l (os : List Int) H1, os.Perm us → os.Pairwise (· ≤ ·) → H1 l = some (.lst (os.map V.int)) → Kp [] H H1 → H l = none → Q (.ref l) H1) : sp_Spread_known K [.ref q] H Q E := ⟨_, _, _, _, _, _, _, _, _, _, _, _, rfl, hq, hs, kk⟩
theorem f_Spread_known (T : Cx K mg) (B : Tb K mg base) : ∃ fd, FunD K "known" "Spread.known" (defArgs s_Spread_known) (defBody s_Spread_known) (defScope s_Spread_known) (d_Spread_known.dvs K) (d_Spread_known.kws K) (fAd K d_Spread_known.at_) fd ∧ FnOk P w K mg base CX0 1 (fAd K d_Spread_known.at_) fd p_Spread_known (sp_Spread_known K) := by
  obtain ⟨fd, F⟩ := T.says.def_ 16 (d := d_Spread_known) rfl
  refine ⟨fd, F, fnD F sc_Spread_known (fun vs H Q E h => by
    obtain ⟨_, _, _, _, _, _, _, _, _, _, _, _, rfl, _⟩ := h
    rfl) fun cdv A outer s H vs Q E hr h => ?_⟩
  have hu := hu_of hr
  obtain ⟨q, S, sh, tb, md, sn, dx, us, tf, start, n, tl, rfl, hq, hs, kk⟩ := h
  refine ⟨_, (pss_one (ps_ret (pe_callB cr_sortedI (by rfl) (fr_sorted T) (by decide +kernel) (pa_cons (pe_callTy (call_listD rfl) (by rfl) (fr_list T) (by decide +kernel) (pa_cons (pe_fld (pv 0) rfl) pa_nil)) pa_nil)))), ?_⟩
  rw [show L2.start n_Spread_known [.ref q] = [some (.ref q)] from rfl]
  try dsimp only [cxOf, Cx.nox, Cx.wish, List.map]

  unfold SpF at hq
  wtm_at "rd"
  refine ⟨_, _, rfl, .inl hs, fun l nl => ?_⟩
  dsimp only
  rw [dmap_keys]
  have hl : upd H l (.lst (us.map V.int)) l = some (.lst (us.map V.int)) := upd_same
  have k1 : Kp [] H (upd H l (.lst (us.map V.int))) := Kp.new nl
  generalize upd H l (.lst (us.map V.int)) = H1 at *
  wtm_at "rd"
  refine rd_sortedI hl fun os r o1 o2 nr => ?_
  exact kk r os _ o1 o2 upd_same (k1.nw nr) (k1.back nr (by simp))
theorem c_Spread_known (T : Cx K mg) (B : Tb K mg base) : MetX P w K mg base CX0 1 (ga K "Spread") "known" (sp_Spread_known K) [] := by
  obtain ⟨fd, F, ok⟩ := f_Spread_known (P := P) (w := w) (base := base) T B
  exact ⟨_, fd, p_Spread_known, [], cl_Spread T, mt_Spread_known T, ok, FunD.bindsN F fun _ _ _ _ _ _ us hl => match us, hl with | [_], _ => rfl, .nil⟩
end
section
variable {P : Program} {w : World} {K : PySem.W.Frag} {mg : Str → Option Value} {base : Heap}
def sp_Spread_since (K : PySem.W.Frag) : Sp := fun vs H Q E => ∃ (q S sh tb md sn dx : Addr) (us : List Int) (tf : Int → Int) (start n x : Int) (tl : Option Int), vs = [.ref q, .int x] ∧ (H q = some (.ins (ga K "Spread") dx (SpF n start S sh tb md sn tl))) ∧ (H sn = some (.dK (dmap us fun x => V.int (tf x)))) ∧ (Q ((valV (dmap us fun x => V.int (tf x)) (.inl x)).getD .non) H)
theorem us_Spread_since {K : PySem.W.Frag} {H : Hp} {Q : VK} {E : XK} {q S sh tb md sn dx : Addr} {us : List Int} {tf : Int → Int} {start n x : Int} {tl : Option Int} (hq : H q = some (.ins (ga K "Spread") dx (SpF n start S sh tb md sn tl))) (hs : H sn = some (.dK (dmap us fun x => V.int (tf x)))) (kk : Q ((valV (dmap us fun x => V.int (tf x)) (.inl x)).getD .non) H) : sp_Spread_since K [.ref q, .int x] H Q E := ⟨_, _, _, _, _, _, _, _, _, _, _, _, _, rfl, hq, hs, kk⟩
theorem f_Spread_since (T : Cx K mg) (B : Tb K mg base) : ∃ fd, FunD K "since" "Spread.since" (defArgs s_Spread_since) (defBody s_Spread_since) (defScope s_Spread_since) (d_Spread_since.dvs K) (d_Spread_since.kws K) (fAd K d_Spread_since.at_) fd ∧ FnOk P w K mg base CX0 1 (fAd K d_Spread_since.at_) fd p_Spread_since (sp_Spread_since K) := by
  obtain ⟨fd, F⟩ := T.says.def_ 17 (d := d_Spread_since) rfl
  refine ⟨fd, F, fnD F sc_Spread_since (fun vs H Q E h => by
    obtain ⟨_, _, _, _, _, _, _, _, _, _, _, _, _, rfl, _⟩ := h
    rfl) fun cdv A outer s H vs Q E hr h => ?_⟩
  have hu := hu_of hr
  obtain ⟨q, S, sh, tb, md, sn, dx, us, tf, start, n, x, tl, rfl, hq, hs, kk⟩ := h
  refine ⟨_, (pss_one (ps_ret (pe_dget1 hu (pe_fld (pv 0) rfl) (pv 1) ⟨rfl, rfl, rfl, rfl⟩))), ?_⟩
  rw [show L2.start n_Spread_since [.ref q, .int x] = [some (.ref q), some (.int x)] from rfl]
  try dsimp only [cxOf, Cx.nox, Cx.wish, List.map]

  unfold SpF at hq
  wtm_at "rd"
  exact kk
theorem c_Spread_since (T : Cx K mg) (B : Tb K mg base) : MetX P w K mg base CX0 1 (ga K "Spread") "since" (sp_Spread_since K) [] := by
  obtain ⟨fd, F, ok⟩ := f_Spread_since (P := P) (w := w) (base := base) T B
  exact ⟨_, fd, p_Spread_since, [], cl_Spread T, mt_Spread_since T, ok, FunD.bindsN F fun _ _ _ _ _ _ us hl => match us, hl with | [_, _], _ => rfl, .nil⟩
end
section
variable {P : Program} {w : World} {K : PySem.W.Frag} {mg : Str → Option Value} {base : Heap}
def sp_Spread_step (K : PySem.W.Frag) : Sp := fun vs H Q E => ∃ (q S sh tb md sn : Addr) (s : Stg) (xs ks : List Int) (df : Int → Int) (start : Int) (tl : Option Int) (n : Nat) (p : (Int → Bool) × (Int → Int)) (W : Int → Int) (lo : Addr) (row : List Int), vs = [.ref q, .ref lo] ∧ (Sprd K H q S sh tb md sn s xs ks df start tl n p W) ∧ (SqI K H lo row) ∧ (∀ r H1, Sprd K H1 q S sh tb md sn s xs ks df start tl (n + 1) (stp (fun x => callO s.bits s.pat xs x (start + n + dlv ks df x)) (fun x => decide (x ∈ row)) tl xs p) (wup p W n) → Kp [q, md, sn] H H1 → (∃ rs : List Int, H1 r = some (.lst (rs.map V.int)) ∧ NewL xs rs p (stp (fun x => callO s.bits s.pat xs x (start + n + dlv ks df x)) (fun x => decide (x ∈ row)) tl xs p)) → H r = none → Q (.ref r) H1)
theorem us_Spread_step {K : PySem.W.Frag} {H : Hp} {Q : VK} {E : XK} {q S sh tb md sn : Addr} {s : Stg} {xs ks : List Int} {df : Int → Int} {start : Int} {tl : Option Int} {n : Nat} {p : (Int → Bool) × (Int → Int)} {W : Int → Int} {lo : Addr} {row : List Int} (G : Sprd K H q S sh tb md sn s xs ks df start tl n p W) (hl : SqI K H lo row) (kk : ∀ r H1, Sprd K H1 q S sh tb md sn s xs ks df start tl (n + 1) (stp (fun x => callO s.bits s.pat xs x (start + n + dlv ks df x)) (fun x => decide (x ∈ row)) tl xs p) (wup p W n) → Kp [q, md, sn] H H1 → (∃ rs : List Int, H1 r = some (.lst (rs.map V.int)) ∧ NewL xs rs p (stp (fun x => callO s.bits s.pat xs x (start + n + dlv ks df x)) (fun x => decide (x ∈ row)) tl xs p)) → H r = none → Q (.ref r) H1) : sp_Spread_step K [.ref q, .ref lo] H Q E := ⟨_, _, _, _, _, _, _, _, _, _, _, _, _, _, _, _, _, rfl, G, hl, kk⟩
theorem f_Spread_step (T : Cx K mg) (B : Tb K mg base) : ∃ fd, FunD K "step" "Spread.step" (defArgs s_Spread_step) (defBody s_Spread_step) (defScope s_Spread_step) (d_Spread_step.dvs K) (d_Spread_step.kws K) (fAd K d_Spread_step.at_) fd ∧ FnOk P w K mg base CX0 4 (fAd K d_Spread_step.at_) fd p_Spread_step (sp_Spread_step K) := by
  have c_Spread__may_tell := c_Spread__may_tell (P := P) (w := w) (base := base) T B
  have c_Spread__called := c_Spread__called (P := P) (w := w) (base := base) T B
  have c_Spread_known := c_Spread_known (P := P) (w := w) (base := base) T B
  obtain ⟨fd, F⟩ := T.says.def_ 18 (d := d_Spread_step) rfl
  refine ⟨fd, F, fnD F sc_Spread_step (fun vs H Q E h => by
    obtain ⟨_, _, _, _, _, _, _, _, _, _, _, _, _, _, _, _, _, rfl, _⟩ := h
    rfl) fun cdv A outer s H vs Q E hr h => ?_⟩
  have hu := hu_of hr
  obtain ⟨q, S, sh, tb, md, sn, s, xs, ks, df, start, tl, n, p, W, lo, row, rfl, G, hl, kk⟩ := h
  refine ⟨_, (pss_cons (ps_set (i := 2) sc_Spread_step.nd rfl (by first | exact Or.inl rfl | exact Or.inr rfl) pe_dnewK) (pss_cons (ps_for PassesOwn.never rfl (pi_list (pe_met0 c_Spread_known hr (by decide) pass0 (pv 0))) (pg_name (i := 3) sc_Spread_step.nd rfl (by first | exact Or.inl rfl | exact Or.inr rfl)) (pss_cons (ps_set (i := 4) sc_Spread_step.nd rfl (by first | exact Or.inl rfl | exact Or.inr rfl) (pe_met c_Spread__called hr (by decide) pass0 (pv 0) (pa_cons (pv 3) pa_nil))) (pss_one (ps_if (PW.pt (pw_and (pt_cmp (pc_notN (pv 4))) (pw_and1 (pt_val (pe_met c_Spread__may_tell hr (by decide) pass0 (pv 0) (pa_cons (pv 3) pa_nil)))))) (pss_cons (ps_dput hu (pe_fld (pv 0) rfl) (pv 3) (pe_op op_add (pe_dget hu (pe_fld (pv 0) rfl) (pv 3) (fun _ _ => rfl)) pe_int) rfl) (pss_one (ps_if (PW.pt (pw_and (pt_cmpR op_notIn_seq (pv 3) (pv 1) rfl) (pw_and1 (pt_cmp (pc_dnotin hu (pv 4) (pe_fld (pv 0) rfl)))))) (pss_one (ps_dput hu (pv 2) (pv 4) pe_bl rfl)) pss_nil))) pss_nil)))) (pss_cons (ps_fldaug (pv 0) pe_int in_add) (pss_cons (ps_lock (ps_for PassesOwn.never rfl (pi_keys (pv 2)) (pg_name (i := 3) sc_Spread_step.nd rfl (by first | exact Or.inl rfl | exact Or.inr rfl)) (pss_one (ps_dput hu (pe_fld (pv 0) rfl) (pv 3) (pe_fld (pv 0) rfl) rfl)))) (pss_one (ps_ret (pe_callB cr_sortedI (by rfl) (fr_sorted T) (by decide +kernel) (pa_cons (pe_callTy (call_listD rfl) (by rfl) (fr_list T) (by decide +kernel) (pa_cons (pv 2) pa_nil)) pa_nil)))))))), ?_⟩
  rw [show L2.start n_Spread_step [.ref q, .ref lo] = [some (.ref q), some (.ref lo), none, none, none] from rfl]
  try dsimp only [cxOf, Cx.nox, Cx.wish, List.map]

  obtain ⟨⟨dx, hq⟩, hS, hsh, hT, hmd, ⟨us, hsn, usn, usm⟩, nd, len, n1, n2, n3, n4, n5⟩ := id G
  have rp : 0 < (2 : Int) ^ s.bits.toNat := (ring_pow hS.ok.b0 hS.ok.b1).pos
  have nqm : q ≠ md := ne_of hq hmd (by intro z; cases z)
  have nqs : q ≠ sn := ne_of hq hsn (by intro z; cases z)
  have usx : ∀ x, x ∈ us → x ∈ xs := fun x h => ((usm x).mp h).1
  have ul := List.Nodup.length_le_of_subset usn (fun x h => usx x h)
  wtm_at "rd"
  intro fo nfo
  have k0 : Kp [] H (upd H fo (.dK [])) := Kp.new nfo
  have fo0 : upd H fo (.dK []) fo = some (.dK (dmap ([] : List Int) fun _ => V.bl true)) := upd_same
  have nfm : md ≠ fo := ne_of_none hmd nfo
  have nfs : sn ≠ fo := ne_of_none hsn nfo
  have nqf : q ≠ fo := ne_of_none hq nfo
  have nhf : sh ≠ fo := ne_of_none hsh nfo
  have ntf : tb ≠ fo := by
    obtain ⟨f, h1, -⟩ := hT
    exact ne_of_none h1 nfo
  generalize upd H fo (.dK []) = H0 at *
  have hq0 := k0.g0 hq
  wtm_at "rd"
  refine us_Spread_known hq0 (k0.g0 hsn) fun l os H1 o1 o2 hl1 k1 nl => ?_
  have k01 := k0.trans k1
  have fo1 := k1.g0 fo0
  have md1 : H1 md = some (.dK (dmap xs fun x => V.int (spU (fun x => callO s.bits s.pat xs x (start + n + dlv ks df x)) tl p (os.take 0) x))) := by
    rw [k01.g0 hmd]
    congr 2
  have nl1 : l ≠ fo := ne_of hl1 fo1 (by intro z; cases z)
  have nl2 : l ≠ md := ne_of hl1 md1 (by intro z; cases z)
  have osx : ∀ x, x ∈ os → x ∈ xs ∧ p.1 x = true := fun x h => (usm x).mp (o1.mem_iff.mp h)
  have osn : os.Nodup := o1.nodup_iff.mpr usn
  have S1 := hS.k0 k01
  have T1 := hT.k0 k01
  have nSm : S ≠ md := S1.nedK md1
  have nSf : S ≠ fo := S1.nedK fo1
  clear hq0 k0 fo0
  wtm_at "rd"
  refine forL_ints (K := K) os (fun i σ H2 => (∃ v3 v4, σ = [some (.ref q), some (.ref lo), some (.ref fo), v3, v4]) ∧ H2 md = some (.dK (dmap xs fun x => V.int (spU (fun x => callO s.bits s.pat xs x (start + n + dlv ks df x)) tl p (os.take i) x))) ∧ (∃ fs : List Int, H2 fo = some (.dK (dmap fs fun _ => V.bl true)) ∧ fs.Nodup ∧ ∀ y, y ∈ fs ↔ NewR (fun x => callO s.bits s.pat xs x (start + n + dlv ks df x)) (fun x => decide (x ∈ row)) tl p (os.take i) y) ∧ Kp [md, fo] H1 H2) ⟨⟨_, _, rfl⟩, md1, ⟨[], fo1, List.nodup_nil, fun y => ⟨fun h => (by cases h), fun ⟨x, h, _⟩ => (by cases h)⟩⟩, Kp.refl⟩ (fun i σ H2 _ z => SqL.of (z.2.2.2 _ _ hl1 (by simp [nl1, nl2]))) ?_ ?_
  · rintro i hi σ H2 ⟨⟨v3, v4, rfl⟩, m2, ⟨fs, f1, f2, f3⟩, k2⟩
    obtain ⟨hx, px⟩ := osx _ (List.getElem_mem hi)
    have q2 := k2 _ _ (k01.g0 hq) (by simp [nqm, nqf])
    have S2 : SetAt K H2 S s := S1.kp k2 (by simp [nSm, nSf])
    have sh2 := k2 _ _ (k01.g0 hsh) (by simp [n1, nhf])
    have T2 : TabAt H2 tb s xs := by
      obtain ⟨f, t1, t2⟩ := T1
      exact ⟨f, k2 _ _ t1 (by simp [n3, ntf]), fun x hx => k2 _ _ (t2 x hx) (by simp [ne_of (t2 x hx) md1 (by intro z; cases z), ne_of (t2 x hx) fo1 (by intro z; cases z)])⟩
    have sn2 := k2 _ _ (k01.g0 hsn) (by simp [Ne.symm n5, nfs])
    have lo2 : SqI K H2 lo row := (hl.kp k01 (fun q z => absurd z (by simp))).kp k2 (fun q z => by
      simp only [List.mem_cons, List.not_mem_nil, or_false] at z
      rcases z with rfl | rfl
      · exact .inr (.inl ⟨_, md1⟩)
      · exact .inr (.inl ⟨_, fo1⟩))
    have q2' := q2
    unfold SpF at q2'
    wtm_at "rd"
    refine us_Spread__called q2 S2 sh2 T2 hx ?_
    wtm_at "rd"
    cases hc : callO s.bits s.pat xs os[i] (start + n + dlv ks df os[i]) with
    | none =>
      have ht : telB (fun x => callO s.bits s.pat xs x (start + n + dlv ks df x)) tl p os[i] = false := by
        unfold telB
        rw [show (fun x => callO s.bits s.pat xs x (start + n + dlv ks df x)) os[i] = none from hc]
        simp
      wtm_at "rd"
      refine ⟨⟨_, _, rfl⟩, ?_, ⟨fs, f1, f2, new_none hi f3 fun y h => ?_⟩, k2⟩
      · rw [spU_take osn hi, if_neg (by rw [ht]; exact Bool.false_ne_true)]
        exact m2
      · rw [ht] at h
        exact Bool.false_ne_true h.1
    | some c =>
      wtm_at "rd"
      refine us_Spread__may_tell q2 m2 hx ?_
      rw [spU_at osn hi]
      cases hm : mayL tl (p.2 os[i]) with
      | false =>
        have ht : telB (fun x => callO s.bits s.pat xs x (start + n + dlv ks df x)) tl p os[i] = false := by
          unfold telB
          rw [hm]
          simp
        wtm_at "rd"
        refine ⟨⟨_, _, rfl⟩, ?_, ⟨fs, f1, f2, new_none hi f3 fun y h => ?_⟩, k2⟩
        · rw [spU_take osn hi, if_neg (by rw [ht]; exact Bool.false_ne_true)]
          exact m2
        · rw [ht] at h
          exact Bool.false_ne_true h.1
      | true =>
        have ht : telB (fun x => callO s.bits s.pat xs x (start + n + dlv ks df x)) tl p os[i] = true := by
          unfold telB
          rw [hm, px, show (fun x => callO s.bits s.pat xs x (start + n + dlv ks df x)) os[i] = some c from hc]
          rfl
        have lk : valV (dmap xs fun x => V.int (spU (fun x => callO s.bits s.pat xs x (start + n + dlv ks df x)) tl p (os.take i) x)) (.inl os[i]) = some (.int (p.2 os[i])) := by
          rw [dmap_in hx, spU_at osn hi]
        have sk : (dmap xs fun x => V.int (spU (fun x => callO s.bits s.pat xs x (start + n + dlv ks df x)) tl p (os.take i) x)).length < sizeLine := szlt (by rw [dmap_len]; omega)
        wtm_at "rd"
        have e3 : putK (dmap xs fun x => V.int (spU (fun x => callO s.bits s.pat xs x (start + n + dlv ks df x)) tl p (os.take i) x)) (.inl os[i]) (.int (p.2 os[i] + 1)) = dmap xs fun x => V.int (spU (fun x => callO s.bits s.pat xs x (start + n + dlv ks df x)) tl p (os.take (i + 1)) x) := by
          rw [dmap_old hx, spU_take osn hi, if_pos ht]
          refine dmap_congr fun x _ => ?_
          unfold fset
          split <;> rfl
        rw [e3]
        have m3 : upd H2 md (.dK (dmap xs fun x => V.int (spU (fun x => callO s.bits s.pat xs x (start + n + dlv ks df x)) tl p (os.take (i + 1)) x))) md = some (.dK (dmap xs fun x => V.int (spU (fun x => callO s.bits s.pat xs x (start + n + dlv ks df x)) tl p (os.take (i + 1)) x))) := upd_same
        have f13 : upd H2 md (.dK (dmap xs fun x => V.int (spU (fun x => callO s.bits s.pat xs x (start + n + dlv ks df x)) tl p (os.take (i + 1)) x))) fo = some (.dK (dmap fs fun _ => V.bl true)) := hu_ne (Ne.symm nfm) f1
        have sn3 : upd H2 md (.dK (dmap xs fun x => V.int (spU (fun x => callO s.bits s.pat xs x (start + n + dlv ks df x)) tl p (os.take (i + 1)) x))) sn = some (.dK (dmap us fun x => V.int (W x))) := hu_ne (Ne.symm n5) sn2
        have q3 := hu_ne (o := .dK (dmap xs fun x => V.int (spU (fun x => callO s.bits s.pat xs x (start + n + dlv ks df x)) tl p (os.take (i + 1)) x))) nqm q2'
        have k03n : Kp [md, fo] H (upd H2 md (.dK (dmap xs fun x => V.int (spU (fun x => callO s.bits s.pat xs x (start + n + dlv ks df x)) tl p (os.take (i + 1)) x)))) := (k01.of0.trans k2).wr (by simp)
        have k3 : Kp [md, fo] H1 (upd H2 md (.dK (dmap xs fun x => V.int (spU (fun x => callO s.bits s.pat xs x (start + n + dlv ks df x)) tl p (os.take (i + 1)) x)))) := k2.wr (by simp)
        generalize upd H2 md (.dK (dmap xs fun x => V.int (spU (fun x => callO s.bits s.pat xs x (start + n + dlv ks df x)) tl p (os.take (i + 1)) x))) = H3 at *
        have lo3 : SqI K H3 lo row := hl.kp k03n (fun q z => by
          simp only [List.mem_cons, List.not_mem_nil, or_false] at z
          rcases z with rfl | rfl
          · exact .inr (.inl ⟨_, hmd⟩)
          · exact .inl nfo)
        wtm_at "rd"
        refine ite_n (fun h1 => ?_) (fun h1 => ?_)
        · wtm_at "rd"
          rw [dmap_some]
          refine ite_n (fun h2 => ?_) (fun h2 => ?_)
          · have pc : p.1 c = false := by
              cases e : p.1 c with
              | false => rfl
              | true => exact absurd ((usm c).mpr ⟨call_mem rp hc, e⟩) h2
            have fl := List.Nodup.length_le_of_subset (l₂ := xs) f2 (fun y hy => by
              obtain ⟨x, _, _, _, h, _⟩ := (f3 y).mp hy
              exact call_mem rp h)
            have sk2 : (dmap fs fun _ => V.bl true).length < sizeLine := szlt (by rw [dmap_len]; omega)
            have nw : ∀ y, y = c ∨ NewR (fun x => callO s.bits s.pat xs x (start + n + dlv ks df x)) (fun x => decide (x ∈ row)) tl p (os.take i) y ↔ NewR (fun x => callO s.bits s.pat xs x (start + n + dlv ks df x)) (fun x => decide (x ∈ row)) tl p (os.take (i + 1)) y := fun y => by
              rw [new_take hi]
              constructor
              · rintro (rfl | h)
                · exact .inr ⟨ht, decide_eq_false h1, hc, pc⟩
                · exact .inl h
              · rintro (h | ⟨_, _, h, _⟩)
                · exact .inr h
                · have h := hc.symm.trans h
                  injection h with h
                  exact .inl h.symm
            wtm_at "rd"
            by_cases hcf : c ∈ fs
            · refine ⟨⟨_, _, rfl⟩, hu_ne nfm m3, ⟨fs, ?_, f2, fun y => ?_⟩, k3.wr (by simp)⟩
              · rw [upd_same, dmap_const' hcf]
              · rw [← nw, ← f3]
                exact ⟨.inr, fun z => z.elim (fun e => e ▸ hcf) id⟩
            · refine ⟨⟨_, _, rfl⟩, hu_ne nfm m3, ⟨fs ++ [c], ?_, ?_, fun y => ?_⟩, k3.wr (by simp)⟩
              · rw [upd_same, dmap_const hcf]
              · exact List.nodup_append.mpr ⟨f2, by simp, fun a ha b hb => by
                  rw [List.mem_singleton.mp hb]
                  exact fun z => hcf (z ▸ ha)⟩
              · rw [← nw, ← f3, List.mem_append, List.mem_singleton]
                exact Or.comm
          · wtm_at "rd"
            refine ⟨⟨_, _, rfl⟩, m3, ⟨fs, f13, f2, new_none hi f3 fun y h => ?_⟩, k3⟩
            have h4 := hc.symm.trans h.2.2.1
            injection h4 with h4
            subst h4
            have := ((usm c).mp h2).2
            rw [h.2.2.2] at this
            cases this
        · wtm_at "rd"
          refine ⟨⟨_, _, rfl⟩, m3, ⟨fs, f13, f2, new_none hi f3 fun y h => ?_⟩, k3⟩
          have h4 := h.2.1
          rw [decide_eq_true h1] at h4
          cases h4
  rintro σ H2 ⟨⟨v3, v4, rfl⟩, m2, ⟨fs, f1, f2, f3⟩, k2⟩
  rw [List.take_length] at m2 f3
  have k02 : Kp [md] H H2 := fun b o hb hn => k2 _ _ (k01.g0 hb) (by simpa using ⟨by simpa using hn, ne_of_none hb nfo⟩)
  have q2 := k02.g1 nqm hq
  have S2 : SetAt K H2 S s := S1.kp k2 (by simp [nSm, nSf])
  have sh2 := k02.g1 n1 hsh
  have T2 := hT.kd k02 hmd n3
  have sn2 := k02.g1 (Ne.symm n5) hsn
  have fsx : ∀ y, y ∈ fs → y ∈ xs ∧ y ∉ us := fun y hy => by
    obtain ⟨x, _, _, _, h, h5⟩ := (f3 y).mp hy
    refine ⟨call_mem rp h, fun z => ?_⟩
    have := ((usm y).mp z).2
    rw [h5] at this
    cases this
  have fl := List.Nodup.length_le_of_subset (l₂ := xs) f2 (fun y hy => (fsx y hy).1)
  clear k01 k1 k2 hl1 nl nl1 nl2 fo1 md1 S1 T1
  unfold SpF at q2
  wtm_at "rd"
  have q3 : upd H2 q (.ins (ga K "Spread") dx (putF "rounds" (.int (n + 1)) (SpF n start S sh tb md sn tl))) q = some (.ins (ga K "Spread") dx (SpF ((n + 1 : Nat) : Int) start S sh tb md sn tl)) := upd_same
  have k3 : Kp [q] H2 (upd H2 q (.ins (ga K "Spread") dx (putF "rounds" (.int (n + 1)) (SpF n start S sh tb md sn tl)))) := Kp.refl.wr (by simp)
  unfold SpF at q3 k3
  generalize upd H2 q (.ins (ga K "Spread") dx (putF "rounds" (.int (n + 1)) [(("rounds" : Str), .int n), (("_setting" : Str), .ref S), (("_start" : Str), .int start), (("_tellings" : Str), ov tl), (("_shifts" : Str), .ref sh), (("_table" : Str), .ref tb), (("_made" : Str), .ref md), (("_since" : Str), .ref sn)])) = H3 at *
  have m3 := k3.g1 (Ne.symm nqm) m2
  have S3 := S2.k1 k3 (S2.neins q2 (by decide))
  have sh3 := k3.g1 (ne_of sh2 q2 (by intro z; cases z)) sh2
  have T3 := T2.ki k3 q2
  have sn3 := k3.g1 (Ne.symm nqs) sn2
  have f13 := k3.g1 (Ne.symm nqf) f1
  have k03 : Kp [q, md, sn] H H3 := fun b o hb hn => k3 _ _ (k02 _ _ hb (fun z => hn (by simp [List.mem_singleton.mp z]))) (fun z => hn (by simp [List.mem_singleton.mp z]))
  clear k02 k3 m2 S2 sh2 T2 sn2 f1 q2
  wtm_at "rd"
  refine rd_lockS f13 trivial fun od => ?_
  have q4 := hu_ne (o := .frz od (.dK (dmap fs fun _ => V.bl true))) nqf q3
  have m4 := hu_ne (o := .frz od (.dK (dmap fs fun _ => V.bl true))) nfm m3
  have sn4 := hu_ne (o := .frz od (.dK (dmap fs fun _ => V.bl true))) nfs sn3
  have f4 : upd H3 fo (.frz od (.dK (dmap fs fun _ => V.bl true))) fo = some (.frz od (.dK (dmap fs fun _ => V.bl true))) := upd_same
  have kL : ∀ H5, Kp [sn] (upd H3 fo (.frz od (.dK (dmap fs fun _ => V.bl true)))) H5 → Kp [sn] H3 (upd H5 fo (.dK (dmap fs fun _ => V.bl true))) := fun H5 k => kp_lock f13 k
  generalize upd H3 fo (.frz od (.dK (dmap fs fun _ => V.bl true))) = H4 at *
  refine rd_for ?_
  refine rd_iKeys ?_
  wtm_at "rd"
  refine ⟨fo, od, rfl, .inl ⟨_, f4, ?_⟩⟩
  refine forD_by fs (fun _ => V.bl true) (fun i σ H5 => (∃ v3 v4, σ = [some (.ref q), some (.ref lo), some (.ref fo), v3, v4]) ∧ H5 sn = some (.dK (dmap (us ++ fs.take i) fun x => V.int (wup p W n x))) ∧ Kp [sn] H4 H5) ⟨⟨_, _, rfl⟩, by rw [List.take_zero, List.append_nil, wup_old (fun x hx => ((usm x).mp hx).2)]; exact sn4, Kp.refl⟩ (fun i σ H5 _ z => z.2.2.g1 (Ne.symm nfs) f4) ?_ ?_
  · rintro i hi σ H5 ⟨⟨v3, v4, rfl⟩, t5, k5⟩
    have q5 := k5.g1 nqs q4
    have hni : fs[i] ∉ us ++ fs.take i := fun z => (List.mem_append.mp z).elim (fsx _ (List.getElem_mem hi)).2 (nd_take f2 hi)
    have sk : (dmap (us ++ fs.take i) fun x => V.int (wup p W n x)).length < sizeLine := szlt (by rw [dmap_len, List.length_append, List.length_take]; omega)
    wtm_at "rd"
    refine ⟨⟨_, _, rfl⟩, ?_, k5.wr (by simp)⟩
    have hpf : p.1 fs[i] = false := by
      cases ep : p.1 fs[i] with
      | false => rfl
      | true => exact absurd ((usm _).mpr ⟨(fsx _ (List.getElem_mem hi)).1, ep⟩) (fsx _ (List.getElem_mem hi)).2
    rw [upd_same, show (((n + 1 : Nat) : Int)) = (n : Int) + 1 from rfl, wup_put hni hpf, List.take_succ_eq_append_getElem hi, List.append_assoc]
  rintro σ H5 ⟨⟨v3, v4, rfl⟩, t5, k5⟩
  rw [List.take_length] at t5
  refine ⟨k5.g1 (Ne.symm nfs) f4, ?_⟩
  have k6 := kL H5 k5
  have t6 : upd H5 fo (.dK (dmap fs fun _ => V.bl true)) sn = _ := hu_ne nfs t5
  have f6 : upd H5 fo (.dK (dmap fs fun _ => V.bl true)) fo = some (.dK (dmap fs fun _ => V.bl true)) := upd_same
  generalize upd H5 fo (.dK (dmap fs fun _ => V.bl true)) = H6 at *
  clear k5 kL f4 sn4 m4 q4 t5
  wtm_at "rd"
  refine ⟨_, _, rfl, .inl f6, fun l nl => ?_⟩
  dsimp only
  rw [dmap_keys]
  have hl7 : upd H6 l (.lst (fs.map V.int)) l = some (.lst (fs.map V.int)) := upd_same
  have k7 : Kp [] H6 (upd H6 l (.lst (fs.map V.int))) := Kp.new nl
  generalize upd H6 l (.lst (fs.map V.int)) = H7 at *
  wtm_at "rd"
  refine rd_sortedI hl7 fun rs r s1 s2 nr => ?_
  have nr6 := k7.back nr (by simp)
  have nr3 := k6.back nr6 (by simpa using Ne.symm (ne_of_none t6 nr6))
  have nr0 := k03.back nr3 (by simpa using ⟨Ne.symm (ne_of_none q3 nr3), Ne.symm (ne_of_none m3 nr3), Ne.symm (ne_of_none sn3 nr3)⟩)
  have k8 := k7.nw (o := .lst (rs.map V.int)) nr
  have k68 := k6.trans k8.of0
  have hT3 : ∀ x, x ∈ xs → telB (fun x => callO s.bits s.pat xs x (start + n + dlv ks df x)) tl p x = true → x ∈ os := fun x hx ht => by
    refine o1.mem_iff.mpr ((usm x).mpr ⟨hx, ?_⟩)
    unfold telB at ht
    simp only [Bool.and_eq_true] at ht
    exact ht.1.1
  have hm := fun y => new_iff hT3 (fun x hx => (osx x hx).1) f3 usm (fun x y h => call_mem rp h) y
  refine kk r _ ⟨⟨dx, k68.g1 nqs q3⟩, S3.k1 k68 (S3.nedK sn3), k68.g1 n2 sh3, T3.kd k68 sn3 n4, ?_, ⟨us ++ fs, k8.g0 t6, ?_, hm⟩, nd, len, n1, n2, n3, n4, n5⟩ (fun b o hb hn => k68 _ _ (k03 _ _ hb hn) (fun z => hn (by simp [List.mem_singleton.mp z]))) ⟨rs, upd_same, newL_of s1 s2 f2 (fun y h => (fsx y h).2) hm f3 usm⟩ nr0
  · rw [k68.g1 n5 m3]
    congr 2
    refine dmap_congr fun x hx => ?_
    rw [spU_all hT3 hx]
  · exact List.nodup_append.mpr ⟨usn, f2, fun a ha b hb z => (fsx b hb).2 (z ▸ ha)⟩
theorem c_Spread_step (T : Cx K mg) (B : Tb K mg base) : MetX P w K mg base CX0 4 (ga K "Spread") "step" (sp_Spread_step K) [] := by
  obtain ⟨fd, F, ok⟩ := f_Spread_step (P := P) (w := w) (base := base) T B
  obtain ⟨ds, hv, hb⟩ := FunD.binds1 (ps := p_Spread_step) F 2 1 (fun e => by cases e) rfl fun _ _ _ _ _ _ _ us its hu hi => match us, its, hu, hi with | [_, _], [_], _, _ => ⟨_, rfl, rfl⟩
  exact ⟨_, fd, p_Spread_step, ds, cl_Spread T, mt_Spread_step T, ok, hb, hv⟩
theorem c_Spread_step_d1 (T : Cx K mg) (B : Tb K mg base) : MetX P w K mg base CX0 4 (ga K "Spread") "step" (sp_Spread_step K) [.ref (He.dflAt (("Spread", some "step")) 0 K)] := by
  obtain ⟨fd, F, ok⟩ := f_Spread_step (P := P) (w := w) (base := base) T B
  obtain ⟨ds, hv, hb⟩ := FunD.binds1 (ps := p_Spread_step) F 1 0 (fun e => by cases e) rfl fun _ _ _ _ _ _ _ us its hu hi => match us, its, hu, hi with | [_], [_], _, _ => ⟨_, rfl, rfl⟩
  exact ⟨_, fd, p_Spread_step, ds, cl_Spread T, mt_Spread_step T, ok, hb, hv⟩
end
section
variable {P : Program} {w : World} {K : PySem.W.Frag} {mg : Str → Option Value} {base : Heap}
def sp_Spread_done (K : PySem.W.Frag) : Sp := fun vs H Q E => ∃ (q S sh tb md sn : Addr) (s : Stg) (xs ks : List Int) (df : Int → Int) (start : Int) (tl : Option Int) (n : Nat) (p : (Int → Bool) × (Int → Int)) (W : Int → Int), vs = [.ref q] ∧ (Sprd K H q S sh tb md sn s xs ks df start tl n p W) ∧ (Q (.bl (xs.all p.1)) H)
theorem us_Spread_done {K : PySem.W.Frag} {H : Hp} {Q : VK} {E : XK} {q S sh tb md sn : Addr} {s : Stg} {xs ks : List Int} {df : Int → Int} {start : Int} {tl : Option Int} {n : Nat} {p : (Int → Bool) × (Int → Int)} {W : Int → Int} (G : Sprd K H q S sh tb md sn s xs ks df start tl n p W) (kk : Q (.bl (xs.all p.1)) H) : sp_Spread_done K [.ref q] H Q E := ⟨_, _, _, _, _, _, _, _, _, _, _, _, _, _, _, rfl, G, kk⟩
theorem f_Spread_done (T : Cx K mg) (B : Tb K mg base) : ∃ fd, FunD K "done" "Spread.done" (defArgs s_Spread_done) (defBody s_Spread_done) (defScope s_Spread_done) [] [] (prG K "Spread" "done") fd ∧ FnOk P w K mg base CX0 1 (prG K "Spread" "done") fd p_Spread_done (sp_Spread_done K) := by
  obtain ⟨hP, fd, F⟩ := B.g g_Spread_done (.tail _ (.head _))
  refine ⟨fd, F, fnD F sc_Spread_done (fun vs H Q E h => by
    obtain ⟨_, _, _, _, _, _, _, _, _, _, _, _, _, _, _, rfl, _⟩ := h
    rfl) fun cdv A outer s H vs Q E hr h => ?_⟩
  have hu := hu_of hr
  obtain ⟨q, S, sh, tb, md, sn, s, xs, ks, df, start, tl, n, p, W, rfl, G, kk⟩ := h
  refine ⟨_, (pss_one (ps_ret (pe_cmpR op_eq (pe_callB call_lenD' (by rfl) (fr_len T) (by decide +kernel) (pa_cons (pe_fld (pv 0) rfl) pa_nil)) (pe_callB call_lenD' (by rfl) (fr_len T) (by decide +kernel) (pa_cons (pe_fld (pv 0) rfl) pa_nil)) (nomark _)))), ?_⟩
  rw [show L2.start n_Spread_done [.ref q] = [some (.ref q)] from rfl]
  try dsimp only [cxOf, Cx.nox, Cx.wish, List.map]

  obtain ⟨⟨dx, hq⟩, hS, hsh, hT, hmd, ⟨us, hsn, usn, usm⟩, nd, len, n1, n2, n3, n4, n5⟩ := id G
  unfold SpF at hq
  wtm_at "rd"
  rw [dmap_len, dmap_len, all_len usn nd usm]
  exact kk
theorem c_Spread_done (T : Cx K mg) (B : Tb K mg base) : PrpX P w K mg base CX0 1 (ga K "Spread") "done" (sp_Spread_done K) := by
  obtain ⟨fd, F, ok⟩ := f_Spread_done (P := P) (w := w) (base := base) T B
  obtain ⟨hP, -⟩ := B.g g_Spread_done (.tail _ (.head _))
  exact ⟨_, _, fd, p_Spread_done, cl_Spread T, hP, ok, FunD.bindsN F fun _ _ _ _ _ _ us hl => match us, hl with | [_], _ => rfl⟩
end
section
variable {P : Program} {w : World} {K : PySem.W.Frag} {mg : Str → Option Value} {base : Heap}
def sp_Spread_stuck (K : PySem.W.Frag) : Sp := fun vs H Q E => ∃ (q S sh tb md sn : Addr) (s : Stg) (xs ks : List Int) (df : Int → Int) (start : Int) (tl : Option Int) (n : Nat) (p : (Int → Bool) × (Int → Int)) (W : Int → Int), vs = [.ref q] ∧ (Sprd K H q S sh tb md sn s xs ks df start tl n p W) ∧ (∀ H1, Kp [] H H1 → Q (.bl (stuckB tl p xs)) H1)
theorem us_Spread_stuck {K : PySem.W.Frag} {H : Hp} {Q : VK} {E : XK} {q S sh tb md sn : Addr} {s : Stg} {xs ks : List Int} {df : Int → Int} {start : Int} {tl : Option Int} {n : Nat} {p : (Int → Bool) × (Int → Int)} {W : Int → Int} (G : Sprd K H q S sh tb md sn s xs ks df start tl n p W) (kk : ∀ H1, Kp [] H H1 → Q (.bl (stuckB tl p xs)) H1) : sp_Spread_stuck K [.ref q] H Q E := ⟨_, _, _, _, _, _, _, _, _, _, _, _, _, _, _, rfl, G, kk⟩
theorem f_Spread_stuck (T : Cx K mg) (B : Tb K mg base) : ∃ fd, FunD K "stuck" "Spread.stuck" (defArgs s_Spread_stuck) (defBody s_Spread_stuck) (defScope s_Spread_stuck) [] [] (prG K "Spread" "stuck") fd ∧ FnOk P w K mg base CX0 2 (prG K "Spread" "stuck") fd p_Spread_stuck (sp_Spread_stuck K) := by
  have c_Spread__may_tell := c_Spread__may_tell (P := P) (w := w) (base := base) T B
  obtain ⟨hP, fd, F⟩ := B.g g_Spread_stuck (.tail _ (.tail _ (.head _)))
  refine ⟨fd, F, fnD F sc_Spread_stuck (fun vs H Q E h => by
    obtain ⟨_, _, _, _, _, _, _, _, _, _, _, _, _, _, _, rfl, _⟩ := h
    rfl) fun cdv A outer s H vs Q E hr h => ?_⟩
  have hu := hu_of hr
  obtain ⟨q, S, sh, tb, md, sn, s, xs, ks, df, start, tl, n, p, W, rfl, G, kk⟩ := h
  refine ⟨_, (pss_one (ps_ret (pe_not (pe_callB (cr_any rfl) (by rfl) (fr_any T) (by decide +kernel) (pa_cons (pe_lock (pe_lc (own := [("seat", 1)]) (g := (gName 1)) (tt := tYes) rfl sc_Spread_stuck.nd (pi_keys (pe_fld (pv 0) rfl)) (blkOk_by (own := [("seat", 1)]) (N := n_Spread_stuck) (sc := defScope s_Spread_stuck) (by decide +kernel)) (fun _ _ _ _ _ => (pg_name (i := 1) sc_Spread_stuck.nd rfl (by first | exact Or.inl rfl | exact Or.inr rfl))) (fun _ _ _ _ _ => pts_nil) (fun _ _ _ _ _ => (pe_met c_Spread__may_tell hr (by decide) pass0 (pv 0) (pa_cons (pv 1) pa_nil))))) pa_nil))))), ?_⟩
  rw [show L2.start n_Spread_stuck [.ref q] = [some (.ref q), none] from rfl]
  try dsimp only [cxOf, Cx.nox, Cx.wish, List.map]

  obtain ⟨⟨dx, hq⟩, hS, hsh, hT, hmd, ⟨us, hsn, usn, usm⟩, nd, len, n1, n2, n3, n4, n5⟩ := id G
  have hq' := hq
  unfold SpF at hq'
  wtm_at "rd"
  refine rd_lockE hsn trivial fun od => ?_
  have nqs : q ≠ sn := ne_of hq hsn (by intro z; cases z)
  have q1 : upd H sn (.frz od (.dK (dmap us fun x => V.int (W x)))) q = some (.ins (ga K "Spread") dx (SpF n start S sh tb md sn tl)) := hu_ne nqs hq
  have m1 : upd H sn (.frz od (.dK (dmap us fun x => V.int (W x)))) md = some (.dK (dmap xs fun x => V.int (p.2 x))) := hu_ne n5 hmd
  have s1 : upd H sn (.frz od (.dK (dmap us fun x => V.int (W x)))) sn = some (.frz od (.dK (dmap us fun x => V.int (W x)))) := upd_same
  have kL : ∀ H2, Kp [] (upd H sn (.frz od (.dK (dmap us fun x => V.int (W x))))) H2 → Kp [] H (upd H2 sn (.dK (dmap us fun x => V.int (W x)))) := fun H2 k => kp_lock hsn k
  generalize upd H sn (.frz od (.dK (dmap us fun x => V.int (W x)))) = H1 at *
  have q1' := q1
  unfold SpF at q1'
  refine rd_lc ?_
  refine rd_iKeys ?_
  wtm_at "rd"
  refine ⟨sn, od, rfl, .inl ⟨_, s1, fun D hD => ?_⟩⟩
  refine lcD_by us (fun x => V.int (W x)) (fun i H2 => H2 D = some (.lst (((us.take i).map fun x => mayL tl (p.2 x)).map V.bl)) ∧ Kp [] H1 H2) ⟨upd_same, Kp.new hD⟩ (fun i H2 _ z => z.2.g0 s1) (fun i hi H2 z => ?_) (fun H2 z => ?_)
  · obtain ⟨z1, z2⟩ := z
    have hx := ((usm _).mp (List.getElem_mem hi)).1
    have ul := List.Nodup.length_le_of_subset (l₂ := xs) usn (fun y hy => ((usm y).mp hy).1)
    wtm_at "rd"
    refine ⟨rfl, ?_⟩
    wtm_at "rd"
    refine us_Spread__may_tell (z2.g0 q1) (z2.g0 m1) hx ?_
    refine ⟨_, z1, szlt (by rw [List.length_map, List.length_map, List.length_take]; omega), ?_, z2.mine hD⟩
    rw [upd_same, List.take_succ_eq_append_getElem hi, List.map_append, List.map_append]
    rfl
  · obtain ⟨z1, z2⟩ := z
    rw [List.take_length] at z1
    refine ⟨z2.g0 s1, ?_⟩
    have z3 : upd H2 sn (.dK (dmap us fun x => V.int (W x))) D = some (.lst ((us.map fun x => mayL tl (p.2 x)).map V.bl)) := hu_ne (Ne.symm (ne_of_none s1 hD)) z1
    have k3 := kL H2 z2
    generalize upd H2 sn (.dK (dmap us fun x => V.int (W x))) = H3 at *
    wtm_at "rd"
    refine rd_anyL z3 ?_
    wtm_at "rd"
    rw [stuck_any usm]
    exact kk _ k3
theorem c_Spread_stuck (T : Cx K mg) (B : Tb K mg base) : PrpX P w K mg base CX0 2 (ga K "Spread") "stuck" (sp_Spread_stuck K) := by
  obtain ⟨fd, F, ok⟩ := f_Spread_stuck (P := P) (w := w) (base := base) T B
  obtain ⟨hP, -⟩ := B.g g_Spread_stuck (.tail _ (.tail _ (.head _)))
  exact ⟨_, _, fd, p_Spread_stuck, cl_Spread T, hP, ok, FunD.bindsN F fun _ _ _ _ _ _ us hl => match us, hl with | [_], _ => rfl⟩
end
section
variable {P : Program} {w : World} {K : PySem.W.Frag} {mg : Str → Option Value} {base : Heap}
def sp_l_setting (K : PySem.W.Frag) : Sp := fun vs H Q E => ∃ (p c : Addr) (bits pat : Int), vs = [.ref p, .int bits, .int pat] ∧ (Purse H p c) ∧ (1 ≤ bits ∧ bits ≤ 8) ∧ (1 ≤ pat ∧ pat ≤ 6) ∧ (∀ S s H1, SetAt K H1 S s → s.bits = bits → s.pat = pat → Purse H1 p c → Kp [p] H H1 → Q (.ref S) H1)
theorem us_l_setting {K : PySem.W.Frag} {H : Hp} {Q : VK} {E : XK} {p c : Addr} {bits pat : Int} (hB : Purse H p c) (b : 1 ≤ bits ∧ bits ≤ 8) (pp : 1 ≤ pat ∧ pat ≤ 6) (kk : ∀ S s H1, SetAt K H1 S s → s.bits = bits → s.pat = pat → Purse H1 p c → Kp [p] H H1 → Q (.ref S) H1) : sp_l_setting K [.ref p, .int bits, .int pat] H Q E := ⟨_, _, _, _, rfl, hB, b, pp, kk⟩
theorem f_l_setting (T : Cx K mg) (B : Tb K mg base) : ∃ fd, FunD K "_law_setting" "_law_setting" (defArgs s_l_setting) (defBody s_l_setting) (defScope s_l_setting) (d_l_setting.dvs K) (d_l_setting.kws K) (fAd K d_l_setting.at_) fd ∧ FnOk P w K mg base CX0 4 (fAd K d_l_setting.at_) fd p_l_setting (sp_l_setting K) := by
  have c_l_draw := c_l_draw (P := P) (w := w) (base := base) T B
  have c_Setting_init := c_Setting_init (P := P) (w := w) (base := base) T B
  have c_Setting_init_grace_helpers := c_Setting_init_grace_helpers (P := P) (w := w) (base := base) T B
  obtain ⟨fd, F⟩ := T.says.def_ 19 (d := d_l_setting) rfl
  refine ⟨fd, F, fnD F sc_l_setting (fun vs H Q E h => by
    obtain ⟨_, _, _, _, rfl, _⟩ := h
    rfl) fun cdv A outer s H vs Q E hr h => ?_⟩
  have hu := hu_of hr
  obtain ⟨p, c, bits, pat, rfl, hB, b, pp, kk⟩ := h
  refine ⟨_, (pss_cons (ps_set (i := 3) sc_l_setting.nd rfl (by first | exact Or.inl rfl | exact Or.inr rfl) (pe_op op_add pe_int (pe_cal c_l_draw hr (by decide) (by rfl) pass0 (pa_cons (pv 0) (pa_cons pe_int pa_nil))))) (pss_cons (ps_if (pt_cmpR op_eq (pe_cal c_l_draw hr (by decide) (by rfl) pass0 (pa_cons (pv 0) (pa_cons pe_int pa_nil))) pe_int (nomark _)) (pss_one (ps_ret (pe_mak c_Setting_init hr (by decide) (by rfl) pass0 (pa_cons (pv 1) (pa_cons (pv 2) (pa_cons (pv 3) pa_nil)))))) pss_nil) (pss_cons (ps_set (i := 4) sc_l_setting.nd rfl (by first | exact Or.inl rfl | exact Or.inr rfl) (pe_op op_add pe_int (pe_cal c_l_draw hr (by decide) (by rfl) pass0 (pa_cons (pv 0) (pa_cons pe_int pa_nil))))) (pss_one (ps_ret (pe_makKX c_Setting_init_grace_helpers hr (by decide) (by rfl) pass0 (pa_cons (pv 1) (pa_cons (pv 2) (pa_cons (pv 3) pa_nil))) (pk_cons (pv 4) (pk_cons (pe_cal c_l_draw hr (by decide) (by rfl) pass0 (pa_cons (pv 0) (pa_cons pe_int pa_nil))) pk_nil)))))))), ?_⟩
  rw [show L2.start n_l_setting [.ref p, .int bits, .int pat] = [some (.ref p), some (.int bits), some (.int pat), none, none] from rfl]
  try dsimp only [cxOf, Cx.nox, Cx.wish, List.map]

  wtm_at "rd"
  refine us_l_draw hB (by decide) (by decide) fun n1 H1 n10 n11 B1 k1 => ?_
  wtm_at "rd"
  refine us_l_draw B1 (by decide) (by decide) fun n2 H2 n20 n21 B2 k2 => ?_
  have k2 := k1.trans k2
  wtm_at "rd"
  refine ite_d (fun h => ?_) (fun h => ?_)
  · wtm_at "rd"
    intro x dx nx ndx ne
    have nx2 : upd H2 dx (.own x) x = none := hn_ne (Ne.symm ne) nx
    have B3 : Purse (upd (upd H2 dx (.own x)) x (.ins (ga K "Setting") dx [])) p c := (B2.new ndx).new nx2
    refine us_Setting_init (s := ⟨bits, pat, 1 + n1, 6, 1⟩) upd_same ⟨b.1, b.2, pp.1, pp.2, by show 1 ≤ 1 + n1; omega, by show 1 + n1 ≤ 64; omega, by show (1 : Int) ≤ 6; decide, by show (6 : Int) ≤ 200; decide, by show (0 : Int) ≤ 1; decide, by show (1 : Int) ≤ 3; decide⟩ fun H3 S3 k3 => ⟨rfl, ?_⟩
    exact kk x _ H3 S3 rfl rfl (B3.k1 k3 (B2.ne1 nx) (B2.ne2 nx)) (((k2.nw ndx).nw nx2).via1 k3 (B2.fr k2 nx))
  · wtm_at "rd"
    refine us_l_draw B2 (by decide) (by decide) fun n3 H3 n30 n31 B3 k3 => ?_
    have k3 := k2.trans k3
    wtm_at "rd"
    refine us_l_draw B3 (by decide) (by decide) fun n4 H4 n40 n41 B4 k4 => ?_
    have k4 := k3.trans k4
    wtm_at "rd"
    refine ⟨rfl, rfl, fun x dx nx ndx ne => ?_⟩
    have nx2 : upd H4 dx (.own x) x = none := hn_ne (Ne.symm ne) nx
    have B5 : Purse (upd (upd H4 dx (.own x)) x (.ins (ga K "Setting") dx [])) p c := (B4.new ndx).new nx2
    refine us_Setting_init (s := ⟨bits, pat, 1 + n1, 1 + n3, n4⟩) upd_same ⟨b.1, b.2, pp.1, pp.2, by show 1 ≤ 1 + n1; omega, by show 1 + n1 ≤ 64; omega, by show 1 ≤ 1 + n3; omega, by show 1 + n3 ≤ 200; omega, by show 0 ≤ n4; omega, by show n4 ≤ 3; omega⟩ fun H5 S5 k5 => ⟨rfl, ?_⟩
    exact kk x _ H5 S5 rfl rfl (B5.k1 k5 (B4.ne1 nx) (B4.ne2 nx)) (((k4.nw ndx).nw nx2).via1 k5 (B4.fr k4 nx))
theorem c_l_setting (T : Cx K mg) (B : Tb K mg base) : CalX P w K mg base CX0 4 "_law_setting" (sp_l_setting K) [] := by
  obtain ⟨fd, F, ok⟩ := f_l_setting (P := P) (w := w) (base := base) T B
  exact ⟨_, fd, p_l_setting, [], ok, gl_l_setting T, F.kp, FunD.bindsN F fun _ _ _ _ _ _ us hl => match us, hl with | [_, _, _], _ => rfl, .nil⟩
end
section
variable {P : Program} {w : World} {K : PySem.W.Frag} {mg : Str → Option Value} {base : Heap}
def sp_l_table (K : PySem.W.Frag) : Sp := fun vs H Q E => ∃ (l : Addr) (bits : Int) (xs : List Int), vs = [.int bits, .ref l, .ref l] ∧ (H l = some (.lst (xs.map V.int))) ∧ (xs.Nodup) ∧ (∀ z, z ∈ xs → 0 ≤ z ∧ z < 2 ^ bits.toNat) ∧ (xs.length ≤ 256) ∧ (1 ≤ bits ∧ bits ≤ 8) ∧ (∀ tb H1, TabL H1 tb bits xs → Kp [] H H1 → H tb = none → Q (.ref tb) H1)
theorem us_l_table {K : PySem.W.Frag} {H : Hp} {Q : VK} {E : XK} {l : Addr} {bits : Int} {xs : List Int} (hl : H l = some (.lst (xs.map V.int))) (nd : xs.Nodup) (hx : ∀ z, z ∈ xs → 0 ≤ z ∧ z < 2 ^ bits.toNat) (hn : xs.length ≤ 256) (b : 1 ≤ bits ∧ bits ≤ 8) (kk : ∀ tb H1, TabL H1 tb bits xs → Kp [] H H1 → H tb = none → Q (.ref tb) H1) : sp_l_table K [.int bits, .ref l, .ref l] H Q E := ⟨_, _, _, rfl, hl, nd, hx, hn, b, kk⟩
theorem f_l_table (T : Cx K mg) (B : Tb K mg base) : ∃ fd, FunD K "_law_table" "_law_table" (defArgs s_l_table) (defBody s_l_table) (defScope s_l_table) (d_l_table.dvs K) (d_l_table.kws K) (fAd K d_l_table.at_) fd ∧ FnOk P w K mg base CX0 1 (fAd K d_l_table.at_) fd p_l_table (sp_l_table K) := by
  obtain ⟨fd, F⟩ := T.says.def_ 20 (d := d_l_table) rfl
  refine ⟨fd, F, fnD F sc_l_table (fun vs H Q E h => by
    obtain ⟨_, _, _, rfl, _⟩ := h
    rfl) fun cdv A outer s H vs Q E hr h => ?_⟩
  have hu := hu_of hr
  obtain ⟨l, bits, xs, rfl, hl, nd, hx, hn, b, kk⟩ := h
  refine ⟨_, (pss_cons (ps_set (i := 3) sc_l_table.nd rfl (by first | exact Or.inl rfl | exact Or.inr rfl) (pe_op op_shl pe_int (pv 0))) (pss_cons (ps_set (i := 4) sc_l_table.nd rfl (by first | exact Or.inl rfl | exact Or.inr rfl) pe_dnewK) (pss_cons (ps_for PassesOwn.never rfl (pi_list (pv 1)) (pg_name (i := 5) sc_l_table.nd rfl (by first | exact Or.inl rfl | exact Or.inr rfl)) (pss_one (ps_dput hu (pv 4) (pv 5) pe_bl rfl))) (pss_cons (ps_set (i := 6) sc_l_table.nd rfl (by first | exact Or.inl rfl | exact Or.inr rfl) (pe_lst pa_nil)) (pss_cons (ps_for PassesOwn.never rfl (pi_range1 (by rfl) (fr_range T) (pa_cons (pv 0) pa_nil)) (pg_name (i := 7) sc_l_table.nd rfl (by first | exact Or.inl rfl | exact Or.inr rfl)) (pss_cons (ps_set (i := 8) sc_l_table.nd rfl (by first | exact Or.inl rfl | exact Or.inr rfl) pe_dnewK) (pss_cons (ps_for PassesOwn.never rfl (pi_list (pv 2)) (pg_name (i := 5) sc_l_table.nd rfl (by first | exact Or.inl rfl | exact Or.inr rfl)) (pss_cons (ps_dput hu (pv 8) (pv 5) pe_non rfl) (pss_one (ps_for PassesOwn.never rfl (pi_range2 (by rfl) (fr_range T) (pa_cons (pe_op op_shl pe_int (pv 7)) (pa_cons (pv 3) pa_nil))) (pg_name (i := 9) sc_l_table.nd rfl (by first | exact Or.inl rfl | exact Or.inr rfl)) (pss_cons (ps_set (i := 10) sc_l_table.nd rfl (by first | exact Or.inl rfl | exact Or.inr rfl) (pe_op op_mod (pe_callTy call_int1' (by rfl) (fr_int T) (by decide +kernel) (pa_cons (pe_op op_add (pv 5) (pv 9)) pa_nil)) (pv 3))) (pss_one (ps_if (pt_cmp (pc_din hu (pv 10) (pv 4))) (pss_cons (ps_dput hu (pv 8) (pv 5) (pv 10) rfl) (pss_one ps_break)) pss_nil))))))) (pss_one (ps_expr (pe_bm PySem.F.plainAttrs_list PySem.F.slot_list_append PySem.F.type_list_append mt_append (pv 6) (pa_cons (pv 8) pa_nil))))))) (pss_one (ps_ret (pv 6)))))))), ?_⟩
  rw [show L2.start n_l_table [.int bits, .ref l, .ref l] = [some (.int bits), some (.ref l), some (.ref l), none, none, none, none, none, none, none, none] from rfl]
  try dsimp only [cxOf, Cx.nox, Cx.wish, List.map]

  have rg : Ring (2 ^ bits.toNat) := ring_pow b.1 b.2
  have rp := rg.pos
  have rl := rg.le
  wtm_at "rd"
  rw [Int.one_mul]
  intro th nth
  have k0 : Kp [] H (upd H th (.dK [])) := Kp.new nth
  have h0 : upd H th (.dK []) th = some (.dK (dmap (xs.take 0) fun _ => V.bl true)) := upd_same
  generalize upd H th (.dK []) = H0 at *
  have hl0 := k0.g0 hl
  wtm_at "rd"
  refine forL_ints (K := K) xs (fun i σ H1 => (∃ v5, σ = [some (.int bits), some (.ref l), some (.ref l), some (.int (2 ^ bits.toNat)), some (.ref th), v5, none, none, none, none, none]) ∧ H1 th = some (.dK (dmap (xs.take i) fun _ => V.bl true)) ∧ Kp [] H H1) ⟨⟨_, rfl⟩, h0, k0⟩ (fun i σ H1 _ q => SqL.of (q.2.2.g0 hl)) ?_ ?_
  · rintro i hi σ H1 ⟨⟨v5, rfl⟩, h1, k1⟩
    have sk : (dmap (xs.take i) fun _ => V.bl true).length < sizeLine := szlt (by rw [dmap_len, List.length_take]; omega)
    wtm_at "rd"
    refine ⟨⟨_, rfl⟩, ?_, k1.mine nth⟩
    rw [upd_same, dmap_new (nd_take nd hi), List.take_succ_eq_append_getElem hi]
    congr 2
    refine dmap_congr fun x _ => ?_
    unfold fset
    split <;> rfl
  rintro σ H1 ⟨⟨v5, rfl⟩, h1, k1⟩
  rw [List.take_length] at h1
  clear h0 k0 hl0 H0
  wtm_at "rd"
  refine ⟨sz1000 (by simp), fun tb ntb => ?_⟩
  have ntb0 := k1.back ntb (by simp)
  have nth2 : th ≠ tb := ne_of_none h1 ntb
  have h2 : upd H1 tb (.lst []) th = _ := hu_ne nth2 h1
  have k2 := k1.nw (o := .lst []) ntb
  have t2 : upd H1 tb (.lst []) tb = some (.lst ((List.range 0).map fun k => V.ref ((fun _ => 0) k))) := upd_same
  generalize upd H1 tb (.lst []) = H2 at *
  wtm_at "rd"
  refine forR_by (fun k σ H3 => (∃ v5 v7 v8 v9 v10, σ = [some (.int bits), some (.ref l), some (.ref l), some (.int (2 ^ bits.toNat)), some (.ref th), v5, some (.ref tb), v7, v8, v9, v10]) ∧ H3 th = some (.dK (dmap xs fun _ => V.bl true)) ∧
    (∃ f : Nat → Addr, H3 tb = some (.lst ((List.range k).map fun k => V.ref (f k))) ∧ ∀ j, j < k → H3 (f j) = some (.dK (dmap xs fun x => ov (nearO (2 ^ bits.toNat) x (2 ^ j) xs)))) ∧ Kp [] H H3) ⟨⟨_, _, _, _, _, rfl⟩, h2, ⟨_, t2, fun j hj => absurd hj (Nat.not_lt_zero _)⟩, k2⟩ ?_ ?_
  · clear t2 k2 h2 h1 k1 H2
    rintro k σ H3 hk ⟨⟨v5, v7, v8, v9, v10, rfl⟩, h3, ⟨f, t3, f3⟩, k3⟩
    wtm_at "rd"
    intro ln nln
    have nln0 := k3.back nln (by simp)
    have k4 : Kp [] H3 (upd H3 ln (.dK [])) := Kp.new nln
    have l4 : upd H3 ln (.dK []) ln = some (.dK (dmap (xs.take 0) fun x => ov (nearO (2 ^ bits.toNat) x (2 ^ k) xs))) := upd_same
    generalize upd H3 ln (.dK []) = H4 at *
    have hl4 := (k3.trans k4).g0 hl
    wtm_at "rd"
    refine forL_ints (K := K) xs (fun j σ H5 => (∃ v5 v9 v10, σ = [some (.int bits), some (.ref l), some (.ref l), some (.int (2 ^ bits.toNat)), some (.ref th), v5, some (.ref tb), some (.int (0 + (k : Int))), some (.ref ln), v9, v10]) ∧ H5 ln = some (.dK (dmap (xs.take j) fun x => ov (nearO (2 ^ bits.toNat) x (2 ^ k) xs))) ∧ Kp [] H3 H5) ⟨⟨_, _, _, rfl⟩, l4, k4⟩ (fun i σ H1 _ q => SqL.of ((k3.trans q.2.2).g0 hl)) ?_ ?_
    · rintro j hj σ H5 ⟨⟨v5, v9, v10, rfl⟩, l5, k5⟩
      have sk : (dmap (xs.take j) fun x => ov (nearO (2 ^ bits.toNat) x (2 ^ k) xs)).length < sizeLine := szlt (by rw [dmap_len, List.length_take]; omega)
      have njt := nd_take nd hj
      have e5 : putK (dmap (xs.take j) fun x => ov (nearO (2 ^ bits.toNat) x (2 ^ k) xs)) (.inl xs[j]) .non = dmap (xs.take (j + 1)) (fset (fun x => ov (nearO (2 ^ bits.toNat) x (2 ^ k) xs)) xs[j] .non) := by
        rw [dmap_new njt, List.take_succ_eq_append_getElem hj]
      have fin : ∀ o, o = nearO (2 ^ bits.toNat) xs[j] (2 ^ k) xs → dmap (xs.take (j + 1)) (fset (fun x => ov (nearO (2 ^ bits.toNat) x (2 ^ k) xs)) xs[j] (ov o)) = dmap (xs.take (j + 1)) fun x => ov (nearO (2 ^ bits.toNat) x (2 ^ k) xs) := fun o ho => by
        subst ho
        refine dmap_congr fun x _ => ?_
        unfold fset
        split
        · rename_i e
          rw [e]
        · rfl
      wtm_at "rd"
      rw [e5]
      have l6 : upd H5 ln (.dK (dmap (xs.take (j + 1)) (fset (fun x => ov (nearO (2 ^ bits.toNat) x (2 ^ k) xs)) xs[j] .non))) ln = some (.dK (dmap (xs.take (j + 1)) (fset (fun x => ov (nearO (2 ^ bits.toNat) x (2 ^ k) xs)) xs[j] .non))) := upd_same
      have k6 := k5.mine (o := .dK (dmap (xs.take (j + 1)) (fset (fun x => ov (nearO (2 ^ bits.toNat) x (2 ^ k) xs)) xs[j] .non))) nln
      generalize upd H5 ln (.dK (dmap (xs.take (j + 1)) (fset (fun x => ov (nearO (2 ^ bits.toNat) x (2 ^ k) xs)) xs[j] .non))) = H6 at *
      have h6 := k6.g0 h3
      have zk : (0 + (k : Int)).toNat = k := by omega
      have kb : k < bits.toNat := hk
      have p2 : (2 : Int) ^ k ≤ 2 ^ bits.toNat := by exact_mod_cast Nat.pow_le_pow_right (by decide) (Nat.le_of_lt kb)
      have p1 : (1 : Int) ≤ 2 ^ k := by exact_mod_cast Nat.one_le_two_pow
      wtm_at "rd"
      rw [zk, Int.one_mul]
      refine ⟨_, _, rfl, ⟨by omega, by omega, by omega, by omega⟩, ?_⟩
      refine forR_by (fun w σ H7 => (∃ v9 v10, σ = [some (.int bits), some (.ref l), some (.ref l), some (.int (2 ^ bits.toNat)), some (.ref th), some (.int xs[j]), some (.ref tb), some (.int (0 + (k : Int))), some (.ref ln), v9, v10]) ∧ H7 = H6 ∧ ∀ u : Int, 2 ^ k ≤ u → u < 2 ^ k + w → (xs[j] + u) % 2 ^ bits.toNat ∉ xs) ⟨⟨_, _, rfl⟩, rfl, fun u a b => by omega⟩ ?_ ?_
      · rintro w σ H7 hw ⟨⟨v9, v10, rfl⟩, rfl, hf⟩
        have sk2 : (dmap (xs.take (j + 1)) (fset (fun x => ov (nearO (2 ^ bits.toNat) x (2 ^ k) xs)) xs[j] .non)).length < sizeLine := szlt (by rw [dmap_len, List.length_take]; omega)
        wtm_at "rd"
        rw [dmap_some]
        refine ite_d (fun h => ?_) (fun h => ?_)
        · wtm_at "rd"
          refine ⟨⟨_, _, _, rfl⟩, ?_, k6.mine nln⟩
          rw [upd_same, dmap_old (by rw [List.take_succ_eq_append_getElem hj]; exact List.mem_append_right _ (List.mem_singleton.mpr rfl))]
          have e6 := fin (some ((xs[j] + (2 ^ k + (w : Int))) % 2 ^ bits.toNat)) (near_some rg hx (by omega) (by omega) (by omega) h hf).symm
          rw [← e6]
          congr 2
          refine dmap_congr fun x _ => ?_
          by_cases e : x = xs[j] <;> simp [fset, e, ov]
        · wtm_at "rd"
          refine ⟨⟨_, _, rfl⟩, rfl, fun u u0 u1 => ?_⟩
          by_cases e : u = 2 ^ k + w
          · rw [e]
            exact h
          · exact hf u u0 (by omega)
      · rintro σ H7 ⟨⟨v9, v10, rfl⟩, rfl, hf⟩
        have e6 := fin none (near_none rg hx fun w w0 w1 => hf w w0 (by omega)).symm
        exact ⟨⟨_, _, _, rfl⟩, by rw [← e6]; exact l6, k6⟩
    · rintro σ H5 ⟨⟨v5, v9, v10, rfl⟩, l5, k5⟩
      rw [List.take_length] at l5
      have t5 := k5.g0 t3
      have sl : ((List.range k).map fun k => V.ref (f k)).length < sizeLine := szlt (by rw [List.length_map, List.length_range]; omega)
      wtm_at "rd"
      have nlt : ln ≠ tb := ne_of l5 t5 (by intro z; cases z)
      refine ⟨⟨_, _, _, _, _, rfl⟩, hu_ne (ne_of (k5.g0 h3) t5 (by intro z; cases z)) (k5.g0 h3), ⟨fun i => if i = k then ln else f i, ?_, fun i hi => ?_⟩, (k3.trans k5).mine ntb0⟩
      · rw [upd_same, List.range_succ, List.map_append]
        congr 3
        · refine List.map_congr_left fun i hi => ?_
          rw [List.mem_range] at hi
          show V.ref (f i) = V.ref (if i = k then ln else f i)
          rw [if_neg (by omega)]
        · simp
      · show upd H5 tb _ (if i = k then ln else f i) = _
        by_cases e : i = k
        · rw [if_pos e, e]
          exact hu_ne nlt l5
        · rw [if_neg e]
          have h7 := k5.g0 (f3 i (by omega))
          exact hu_ne (ne_of h7 t5 (by intro z; cases z)) h7
  · rintro σ H3 ⟨⟨v5, v7, v8, v9, v10, rfl⟩, h3, ⟨f, t3, f3⟩, k3⟩
    wtm_at "rd"
    exact kk tb H3 ⟨f, t3, f3⟩ k3 ntb0
theorem c_l_table (T : Cx K mg) (B : Tb K mg base) : CalX P w K mg base CX0 1 "_law_table" (sp_l_table K) [] := by
  obtain ⟨fd, F, ok⟩ := f_l_table (P := P) (w := w) (base := base) T B
  exact ⟨_, fd, p_l_table, [], ok, gl_l_table T, F.kp, FunD.bindsN F fun _ _ _ _ _ _ us hl => match us, hl with | [_, _, _], _ => rfl, .nil⟩
end
section
variable {P : Program} {w : World} {K : PySem.W.Frag} {mg : Str → Option Value} {base : Heap}
def sp_l_start (K : PySem.W.Frag) : Sp := fun vs H Q E => ∃ (p c : Addr) (turn : Int), vs = [.ref p, .int turn] ∧ (Purse H p c) ∧ (1 ≤ turn ∧ turn ≤ 48) ∧ (∀ n H1, Purse H1 p c → Kp [p] H H1 → Q (.int n) H1)
theorem us_l_start {K : PySem.W.Frag} {H : Hp} {Q : VK} {E : XK} {p c : Addr} {turn : Int} (hB : Purse H p c) (t : 1 ≤ turn ∧ turn ≤ 48) (kk : ∀ n H1, Purse H1 p c → Kp [p] H H1 → Q (.int n) H1) : sp_l_start K [.ref p, .int turn] H Q E := ⟨_, _, _, rfl, hB, t, kk⟩
theorem f_l_start (T : Cx K mg) (B : Tb K mg base) : ∃ fd, FunD K "_law_start" "_law_start" (defArgs s_l_start) (defBody s_l_start) (defScope s_l_start) (d_l_start.dvs K) (d_l_start.kws K) (fAd K d_l_start.at_) fd ∧ FnOk P w K mg base CX0 3 (fAd K d_l_start.at_) fd p_l_start (sp_l_start K) := by
  have c_l_draw := c_l_draw (P := P) (w := w) (base := base) T B
  obtain ⟨fd, F⟩ := T.says.def_ 21 (d := d_l_start) rfl
  refine ⟨fd, F, fnD F sc_l_start (fun vs H Q E h => by
    obtain ⟨_, _, _, rfl, _⟩ := h
    rfl) fun cdv A outer s H vs Q E hr h => ?_⟩
  have hu := hu_of hr
  obtain ⟨p, c, turn, rfl, hB, t, kk⟩ := h
  refine ⟨_, (pss_cons (ps_set (i := 2) sc_l_start.nd rfl (by first | exact Or.inl rfl | exact Or.inr rfl) (pe_cal c_l_draw hr (by decide) (by rfl) pass0 (pa_cons (pv 0) (pa_cons (pe_op op_mul pe_int (pv 1)) pa_nil)))) (C8.pss_cut (ps_if (pt_cmpR op_eq (pe_cal c_l_draw hr (by decide) (by rfl) pass0 (pa_cons (pv 0) (pa_cons pe_int pa_nil))) pe_int (nomark _)) (pss_one (ps_for PassesOwn.never rfl (pi_range1 (by rfl) (fr_range T) (pa_cons pe_int pa_nil)) (pg_name (i := 3) sc_l_start.nd rfl (by first | exact Or.inl rfl | exact Or.inr rfl)) (pss_one (ps_set (i := 2) sc_l_start.nd rfl (by first | exact Or.inl rfl | exact Or.inr rfl) (pe_op op_add (pe_op op_mul (pv 2) pe_int) (pe_cal c_l_draw hr (by decide) (by rfl) pass0 (pa_cons (pv 0) (pa_cons pe_int pa_nil)))))))) pss_nil) (pss_one (ps_ret (pv 2))))), ?_⟩
  rw [show L2.start n_l_start [.ref p, .int turn] = [some (.ref p), some (.int turn), none, none] from rfl]
  try dsimp only [cxOf, Cx.nox, Cx.wish, List.map]

  wtm_at "rd"
  refine us_l_draw hB (by omega) (by omega) fun n1 H1 n10 n11 B1 k1 => ?_
  wtm_at "rd"
  refine rd_cut (fun σ H2 => (∃ n v3, σ = [some (.ref p), some (.int turn), some (.int n), v3]) ∧ Purse H2 p c ∧ Kp [p] H H2) ?_ ?_
  · wtm_at "rd"
    refine us_l_draw B1 (by decide) (by decide) fun n2 H2 n20 n21 B2 k2 => ?_
    wtm_at "rd"
    refine ite_d (fun h => ?_) (fun h => ?_)
    · wtm_at "rd"
      refine forR_by (fun i σ H2 => (∃ n v3, σ = [some (.ref p), some (.int turn), some (.int n), v3]) ∧ Purse H2 p c ∧ Kp [p] H H2) ⟨⟨_, _, rfl⟩, B2, k1.trans k2⟩ ?_ ?_
      · rintro i σ H3 hi ⟨⟨n, v3, rfl⟩, B3, k3⟩
        wtm_at "rd"
        refine us_l_draw B3 (by decide) (by decide) fun n4 H4 n40 n41 B4 k4 => ?_
        wtm_at "rd"
        exact ⟨⟨_, _, rfl⟩, B4, k3.trans k4⟩
      · rintro σ H3 q
        exact q
    · wtm_at "rd"
      exact ⟨⟨_, _, rfl⟩, B2, k1.trans k2⟩
  · rintro σ H2 ⟨⟨n, v3, rfl⟩, B2, k2⟩
    wtm_at "rd"
    exact kk _ _ B2 k2
theorem c_l_start (T : Cx K mg) (B : Tb K mg base) : CalX P w K mg base CX0 3 "_law_start" (sp_l_start K) [] := by
  obtain ⟨fd, F, ok⟩ := f_l_start (P := P) (w := w) (base := base) T B
  exact ⟨_, fd, p_l_start, [], ok, gl_l_start T, F.kp, FunD.bindsN F fun _ _ _ _ _ _ us hl => match us, hl with | [_, _], _ => rfl, .nil⟩
end
section
variable {P : Program} {w : World} {K : PySem.W.Frag} {mg : Str → Option Value} {base : Heap}
def sp_l_delays (K : PySem.W.Frag) : Sp := fun vs H Q E => ∃ (p c l : Addr) (turn : Int) (xs : List Int), vs = [.ref p, .ref l, .int turn] ∧ (Purse H p c) ∧ (1 ≤ turn ∧ turn ≤ 48) ∧ (H l = some (.lst (xs.map V.int))) ∧ (1 ≤ xs.length ∧ xs.length ≤ 256) ∧ (∀ (d : Addr) (ks : List Int) (df : Int → Int) H1, H1 d = some (.dK (dmap ks fun x => V.int (df x))) → ks.length ≤ 300 → Purse H1 p c → Kp [p] H H1 → H d = none → Q (.ref d) H1)
theorem us_l_delays {K : PySem.W.Frag} {H : Hp} {Q : VK} {E : XK} {p c l : Addr} {turn : Int} {xs : List Int} (hB : Purse H p c) (t : 1 ≤ turn ∧ turn ≤ 48) (hl : H l = some (.lst (xs.map V.int))) (hn : 1 ≤ xs.length ∧ xs.length ≤ 256) (kk : ∀ (d : Addr) (ks : List Int) (df : Int → Int) H1, H1 d = some (.dK (dmap ks fun x => V.int (df x))) → ks.length ≤ 300 → Purse H1 p c → Kp [p] H H1 → H d = none → Q (.ref d) H1) : sp_l_delays K [.ref p, .ref l, .int turn] H Q E := ⟨_, _, _, _, _, rfl, hB, t, hl, hn, kk⟩
theorem f_l_delays (T : Cx K mg) (B : Tb K mg base) : ∃ fd, FunD K "_law_delays" "_law_delays" (defArgs s_l_delays) (defBody s_l_delays) (defScope s_l_delays) (d_l_delays.dvs K) (d_l_delays.kws K) (fAd K d_l_delays.at_) fd ∧ FnOk P w K mg base CX0 3 (fAd K d_l_delays.at_) fd p_l_delays (sp_l_delays K) := by
  have c_l_draw := c_l_draw (P := P) (w := w) (base := base) T B
  obtain ⟨fd, F⟩ := T.says.def_ 22 (d := d_l_delays) rfl
  refine ⟨fd, F, fnD F sc_l_delays (fun vs H Q E h => by
    obtain ⟨_, _, _, _, _, rfl, _⟩ := h
    rfl) fun cdv A outer s H vs Q E hr h => ?_⟩
  have hu := hu_of hr
  obtain ⟨p, c, l, turn, xs, rfl, hB, t, hl, hn, kk⟩ := h
  refine ⟨_, (pss_cons (ps_set (i := 3) sc_l_delays.nd rfl (by first | exact Or.inl rfl | exact Or.inr rfl) pe_dnewK) (pss_cons (ps_if (pt_cmpR op_eq (pe_cal c_l_draw hr (by decide) (by rfl) pass0 (pa_cons (pv 0) (pa_cons pe_int pa_nil))) pe_int (nomark _)) (pss_one (ps_ret (pv 3))) pss_nil) (pss_cons (ps_for PassesOwn.never rfl (pi_list (pv 1)) (pg_name (i := 4) sc_l_delays.nd rfl (by first | exact Or.inl rfl | exact Or.inr rfl)) (pss_one (ps_if (pt_cmpR op_gt (pe_cal c_l_draw hr (by decide) (by rfl) pass0 (pa_cons (pv 0) (pa_cons pe_int pa_nil))) pe_int (nomark _)) (pss_one (ps_dput hu (pv 3) (pv 4) (pe_cal c_l_draw hr (by decide) (by rfl) pass0 (pa_cons (pv 0) (pa_cons (pe_op op_mul pe_int (pv 2)) pa_nil))) rfl)) pss_nil))) (C8.pss_cut (ps_if (pt_cmpR op_eq (pe_cal c_l_draw hr (by decide) (by rfl) pass0 (pa_cons (pv 0) (pa_cons pe_int pa_nil))) pe_int (nomark _)) (pss_one (ps_dput hu (pv 3) (pe_ix ix_list (pv 1) pe_int (fun _ _ => rfl)) (pe_op op_add (pe_op op_pow pe_int pe_int) (pe_cal c_l_draw hr (by decide) (by rfl) pass0 (pa_cons (pv 0) (pa_cons (pv 2) pa_nil)))) rfl)) pss_nil) (pss_one (ps_ret (pv 3))))))), ?_⟩
  rw [show L2.start n_l_delays [.ref p, .ref l, .int turn] = [some (.ref p), some (.ref l), some (.int turn), none, none] from rfl]
  try dsimp only [cxOf, Cx.nox, Cx.wish, List.map]

  have nlp := hB.lst hl
  wtm_at "rd"
  intro d nd
  have B0 := hB.new (o := .dK []) nd
  have k0 : Kp [p] H (upd H d (.dK [])) := (Kp.new (ps := []) nd).of0
  have hd0 : upd H d (.dK []) d = some (.dK (dmap [] fun x => V.int ((fun _ => 0) x))) := upd_same
  have ndp := Ne.symm (hB.ne1 nd)
  have ndc := Ne.symm (hB.ne2 nd)
  generalize upd H d (.dK []) = H0 at *
  wtm_at "rd"
  refine us_l_draw B0 (by decide) (by decide) fun n1 H1 n10 n11 B1 k1 => ?_
  have k1 := k0.trans k1
  have hd1 := (show Kp [p] H0 H1 from by assumption).g1 ndp hd0
  wtm_at "rd"
  refine ite_d (fun h => ?_) (fun h => ?_)
  · wtm_at "rd"
    exact kk d [] (fun _ => 0) H1 hd1 (by simp) B1 k1 nd
  wtm_at "rd"
  have put : ∀ {H2 : Hp} {ks : List Int} {df : Int → Int} (a v : Int) (n : Nat), H2 d = some (.dK (dmap ks fun x => V.int (df x))) → ks.length ≤ n → Purse H2 p c → Kp [p] H H2 → ∃ (ks' : List Int) (df' : Int → Int), upd H2 d (.dK (putK (dmap ks fun x => V.int (df x)) (.inl a) (.int v))) d = some (.dK (dmap ks' fun x => V.int (df' x))) ∧ ks'.length ≤ n + 1 ∧ Purse (upd H2 d (.dK (putK (dmap ks fun x => V.int (df x)) (.inl a) (.int v)))) p c ∧ Kp [p] H (upd H2 d (.dK (putK (dmap ks fun x => V.int (df x)) (.inl a) (.int v)))) := fun {H2 ks df} a v n h1 h2 b k => by
    obtain ⟨ks', df', e1, e2⟩ := dput_int (ks := ks) (df := df) a v
    exact ⟨ks', df', by rw [upd_same, e1], by omega, b.k1 (q := d) (Kp.refl.wr (by simp)) (Ne.symm ndp) (Ne.symm ndc), k.mine nd⟩
  have hl1 := k1.g1 nlp hl
  refine forL_ints (K := K) xs (fun i σ H2 => (∃ v4, σ = [some (.ref p), some (.ref l), some (.int turn), some (.ref d), v4]) ∧ (∃ (ks : List Int) (df : Int → Int), H2 d = some (.dK (dmap ks fun x => V.int (df x))) ∧ ks.length ≤ i) ∧ Purse H2 p c ∧ Kp [p] H H2) ⟨⟨_, rfl⟩, ⟨_, _, hd1, by simp⟩, B1, k1⟩ (fun i σ H2 _ q => SqL.of (q.2.2.2.g1 nlp hl)) ?_ ?_
  · rintro i hi σ H2 ⟨⟨v4, rfl⟩, ⟨ks, df, h1, h2⟩, B2, k2⟩
    wtm_at "rd"
    refine us_l_draw B2 (by decide) (by decide) fun n2 H3 n20 n21 B3 k3 => ?_
    have h3 := k3.g1 ndp h1
    have k3 := k2.trans k3
    wtm_at "rd"
    refine ite_d (fun h => ?_) (fun h => ?_)
    · wtm_at "rd"
      refine us_l_draw B3 (by omega) (by omega) fun n4 H4 n40 n41 B4 k4 => ?_
      have h4 := k4.g1 ndp h3
      have k4 := k3.trans k4
      have sk : (dmap ks fun x => V.int (df x)).length < sizeLine := szlt (by rw [dmap_len]; omega)
      wtm_at "rd"
      obtain ⟨ks', df', e1, e2, e3, e4⟩ := put xs[i] n4 i h4 h2 B4 k4
      exact ⟨⟨_, rfl⟩, ⟨ks', df', e1, e2⟩, e3, e4⟩
    · wtm_at "rd"
      exact ⟨⟨_, rfl⟩, ⟨ks, df, h3, by omega⟩, B3, k3⟩
  · rintro σ H2 ⟨⟨v4, rfl⟩, ⟨ks, df, h1, h2⟩, B2, k2⟩
    wtm_at "rd"
    refine rd_cut (fun σ H2 => (∃ v4, σ = [some (.ref p), some (.ref l), some (.int turn), some (.ref d), v4]) ∧ (∃ (ks : List Int) (df : Int → Int), H2 d = some (.dK (dmap ks fun x => V.int (df x))) ∧ ks.length ≤ 300) ∧ Purse H2 p c ∧ Kp [p] H H2) ?_ ?_
    · wtm_at "rd"
      refine us_l_draw B2 (by decide) (by decide) fun n2 H3 n20 n21 B3 k3 => ?_
      have h3 := k3.g1 ndp h1
      have k3 := k2.trans k3
      wtm_at "rd"
      refine ite_d (fun h => ?_) (fun h => ?_)
      · wtm_at "rd"
        refine us_l_draw B3 (by omega) (by omega) fun n4 H4 n40 n41 B4 k4 => ?_
        have h4 := k4.g1 ndp h3
        have k4 := k3.trans k4
        have hl4 := k4.g1 nlp hl
        have sk : (dmap ks fun x => V.int (df x)).length < sizeLine := szlt (by rw [dmap_len]; omega)
        wtm_at "rd"
        obtain ⟨ks', df', e1, e2, e3, e4⟩ := put (xs.getD (Int.toNat 0) 0) (10 ^ Int.toNat 40 + n4) 256 h4 (by omega) B4 k4
        exact ⟨⟨_, rfl⟩, ⟨ks', df', e1, by omega⟩, e3, e4⟩
      · wtm_at "rd"
        exact ⟨⟨_, rfl⟩, ⟨ks, df, h3, by omega⟩, B3, k3⟩
    · rintro σ H3 ⟨⟨v4, rfl⟩, ⟨ks, df, h1, h2⟩, B2, k2⟩
      wtm_at "rd"
      exact kk d ks df H3 h1 h2 B2 k2 nd
theorem c_l_delays (T : Cx K mg) (B : Tb K mg base) : CalX P w K mg base CX0 3 "_law_delays" (sp_l_delays K) [] := by
  obtain ⟨fd, F, ok⟩ := f_l_delays (P := P) (w := w) (base := base) T B
  exact ⟨_, fd, p_l_delays, [], ok, gl_l_delays T, F.kp, FunD.bindsN F fun _ _ _ _ _ _ us hl => match us, hl with | [_, _, _], _ => rfl, .nil⟩
end
section
variable {P : Program} {w : World} {K : PySem.W.Frag} {mg : Str → Option Value} {base : Heap}
def sp_l_goal (K : PySem.W.Frag) : Sp := fun vs H Q E => ∃ (e : Ext) (g hl tb og dl : Addr) (bits pat start : Int) (xs os ks : List Int) (df : Int → Int) (seat ix : Int), vs = [.ref g, .int seat, .int ix] ∧ (Grp H e g hl tb og dl bits pat start xs os ks df) ∧ (seat ∈ xs) ∧ (Q (ov (callO bits pat xs seat (start + ix + dlv ks df seat))) H)
theorem us_l_goal {K : PySem.W.Frag} {H : Hp} {Q : VK} {E : XK} {e : Ext} {g hl tb og dl : Addr} {bits pat start : Int} {xs os ks : List Int} {df : Int → Int} {seat ix : Int} (G : Grp H e g hl tb og dl bits pat start xs os ks df) (hx : seat ∈ xs) (kk : Q (ov (callO bits pat xs seat (start + ix + dlv ks df seat))) H) : sp_l_goal K [.ref g, .int seat, .int ix] H Q E := ⟨_, _, _, _, _, _, _, _, _, _, _, _, _, _, _, rfl, G, hx, kk⟩
theorem f_l_goal (T : Cx K mg) (B : Tb K mg base) : ∃ fd, FunD K "_law_goal" "_law_goal" (defArgs s_l_goal) (defBody s_l_goal) (defScope s_l_goal) (d_l_goal.dvs K) (d_l_goal.kws K) (fAd K d_l_goal.at_) fd ∧ FnOk P w K mg base CX0 1 (fAd K d_l_goal.at_) fd p_l_goal (sp_l_goal K) := by
  obtain ⟨fd, F⟩ := T.says.def_ 23 (d := d_l_goal) rfl
  refine ⟨fd, F, fnD F sc_l_goal (fun vs H Q E h => by
    obtain ⟨_, _, _, _, _, _, _, _, _, _, _, _, _, _, _, rfl, _⟩ := h
    rfl) fun cdv A outer s H vs Q E hr h => ?_⟩
  have hu := hu_of hr
  obtain ⟨e, g, hl, tb, og, dl, bits, pat, start, xs, os, ks, df, seat, ix, rfl, G, hx, kk⟩ := h
  refine ⟨_, (pss_cons (ps_set (i := 3) sc_l_goal.nd rfl (by first | exact Or.inl rfl | exact Or.inr rfl) (pe_op op_mul (pe_dget hu (pv 0) pe_str (fun _ _ => rfl)) (pe_dget hu (pv 0) pe_str (fun _ _ => rfl)))) (pss_cons (ps_set (i := 4) sc_l_goal.nd rfl (by first | exact Or.inl rfl | exact Or.inr rfl) (pe_op op_add (pe_op op_add (pe_dget hu (pv 0) pe_str (fun _ _ => rfl)) (pv 2)) (pe_dget2 hu (pe_dget hu (pv 0) pe_str (fun _ _ => rfl)) (pv 1) pe_int ⟨rfl, rfl, rfl, rfl⟩))) (pss_cons (ps_set (i := 5) sc_l_goal.nd rfl (by first | exact Or.inl rfl | exact Or.inr rfl) (pe_op op_sub (pe_op op_sub (pe_dget hu (pv 0) pe_str (fun _ _ => rfl)) pe_int) (pe_op op_fdiv (pe_op op_mod (pe_callTy call_int1' (by rfl) (fr_int T) (by decide +kernel) (pa_cons (pv 4) pa_nil)) (pv 3)) (pe_dget hu (pv 0) pe_str (fun _ _ => rfl))))) (pss_cons (ps_set (i := 6) sc_l_goal.nd rfl (by first | exact Or.inl rfl | exact Or.inr rfl) (pe_ix ix_list (pe_dget hu (pv 0) pe_str (fun _ _ => rfl)) (pv 5) (fun _ _ => rfl))) (pss_one (ps_ret (pe_dget hu (pv 6) (pv 1) (fun _ _ => rfl)))))))), ?_⟩
  rw [show L2.start n_l_goal [.ref g, .int seat, .int ix] = [some (.ref g), some (.int seat), some (.int ix), none, none, none, none] from rfl]
  try dsimp only [cxOf, Cx.nox, Cx.wish, List.map]

  obtain ⟨f, f1, f2⟩ := G.table
  have hg := G.at_
  have hd := G.dls
  have tp := turn_pos G.b G.p
  have b := G.b
  have pp := G.p
  have tp0 : 0 < bits * pat := by omega
  wtm_at "rd"
  rw [dl_val]
  wtm_at "rd"
  generalize start + ix + dlv ks df seat = beat at *
  have be := block_eq (beat := beat) b.1 b.2 pp.1 pp.2
  have m0 := Int.emod_nonneg (beat / pat) (show bits ≠ 0 by omega)
  have m1 := Int.emod_lt_of_pos (beat / pat) (show 0 < bits by omega)
  rw [be]
  have hat : atI ((List.range bits.toNat).map fun k => V.ref (f k)) (bits - 1 - beat / pat % bits) = some (.ref (f (bits - 1 - beat / pat % bits).toNat)) := by
    generalize hq : bits - 1 - beat / pat % bits = q
    obtain ⟨j, rfl⟩ := Int.eq_ofNat_of_zero_le (show 0 ≤ q by omega)
    refine atI_nat ?_
    rw [List.getElem?_map, List.getElem?_range (by omega)]
    rfl
  have hl2 := f2 (bits - 1 - beat / pat % bits).toNat (by omega)
  have lk : valV (dmap xs fun x => ov (nearO (2 ^ bits.toNat) x (2 ^ (bits - 1 - beat / pat % bits).toNat) xs)) (.inl seat) = some (ov (callO bits pat xs seat beat)) := dmap_in hx
  wtm_at "rd"
  exact kk
theorem c_l_goal (T : Cx K mg) (B : Tb K mg base) : CalX P w K mg base CX0 1 "_law_goal" (sp_l_goal K) [] := by
  obtain ⟨fd, F, ok⟩ := f_l_goal (P := P) (w := w) (base := base) T B
  exact ⟨_, fd, p_l_goal, [], ok, gl_l_goal T, F.kp, FunD.bindsN F fun _ _ _ _ _ _ us hl => match us, hl with | [_, _, _], _ => rfl, .nil⟩
end
section
variable {P : Program} {w : World} {K : PySem.W.Frag} {mg : Str → Option Value} {base : Heap}
def sp_l_number (K : PySem.W.Frag) : Sp := fun vs H Q E => ∃ (z : Int), vs = [.int z, .int z] ∧ (Q (.bl true) H)
theorem us_l_number {K : PySem.W.Frag} {H : Hp} {Q : VK} {E : XK} {z : Int}  (kk : Q (.bl true) H) : sp_l_number K [.int z, .int z] H Q E := ⟨_, rfl, kk⟩
theorem f_l_number (T : Cx K mg) (B : Tb K mg base) : ∃ fd, FunD K "_law_number" "_law_number" (defArgs s_l_number) (defBody s_l_number) (defScope s_l_number) (d_l_number.dvs K) (d_l_number.kws K) (fAd K d_l_number.at_) fd ∧ FnOk P w K mg base CX0 1 (fAd K d_l_number.at_) fd p_l_number (sp_l_number K) := by
  obtain ⟨fd, F⟩ := T.says.def_ 24 (d := d_l_number) rfl
  refine ⟨fd, F, fnD F sc_l_number (fun vs H Q E h => by
    obtain ⟨_, rfl, _⟩ := h
    rfl) fun cdv A outer s H vs Q E hr h => ?_⟩
  have hu := hu_of hr
  obtain ⟨z, rfl, kk⟩ := h
  refine ⟨_, (pss_one (ps_ret (pe_and (pe_callB call_isi (by rfl) (fr_isinstance T) (by decide +kernel) (pa_cons (pv 0) (pa_cons (pe_bltn (v := .ty "int") (by rfl) (fr_int T) (by decide +kernel) rfl) pa_nil))) (pe_and (pe_not (pe_callB call_isi (by rfl) (fr_isinstance T) (by decide +kernel) (pa_cons (pv 0) (pa_cons (pe_bltn (v := .ty "bool") (by rfl) (fr_bool T) (by decide +kernel) rfl) pa_nil)))) (pe_one (pe_cmpR op_eq (pv 0) (pv 1) (nomark _))))))), ?_⟩
  rw [show L2.start n_l_number [.int z, .int z] = [some (.int z), some (.int z)] from rfl]
  try dsimp only [cxOf, Cx.nox, Cx.wish, List.map]

  wtm_at "rd"
  rw [decide_eq_true rfl]
  exact kk
theorem c_l_number (T : Cx K mg) (B : Tb K mg base) : CalX P w K mg base CX0 1 "_law_number" (sp_l_number K) [] := by
  obtain ⟨fd, F, ok⟩ := f_l_number (P := P) (w := w) (base := base) T B
  exact ⟨_, fd, p_l_number, [], ok, gl_l_number T, F.kp, FunD.bindsN F fun _ _ _ _ _ _ us hl => match us, hl with | [_, _], _ => rfl, .nil⟩
end
section
variable {P : Program} {w : World} {K : PySem.W.Frag} {mg : Str → Option Value} {base : Heap}
def sp_l_step (K : PySem.W.Frag) : Sp := fun vs H Q E => ∃ (e : Ext) (g hl tb og dl : Addr) (bits pat start : Int) (xs os ks : List Int) (df : Int → Int) (tm sp lo : Addr) (ix : Int) (row ts : List Int) (tf : Int → Int) (p : (Int → Bool) × (Int → Int)) (tl : Option Int), vs = [.ref g, .ref tm, .ref sp, .int ix, .ref lo, ov tl] ∧ (Grp H e g hl tb og dl bits pat start xs os ks df) ∧ (Apt H tb dl bits [tm, sp]) ∧ (H tm = some (.dK (dmap ts fun x => V.int (tf x)))) ∧ (H sp = some (.dK (dmap xs fun x => V.int (p.2 x)))) ∧ (tm ≠ sp) ∧ (H lo = some (.lst (row.map V.int))) ∧ (ts.Nodup) ∧ (∀ y, y ∈ ts ↔ y ∈ xs ∧ p.1 y = true) ∧ (∀ r (ts2 : List Int) H1, H1 tm = some (.dK (dmap ts2 fun x => V.int (wup p tf ix x))) → ts2.Nodup → (∀ y, y ∈ ts2 ↔ y ∈ xs ∧ (stp (fun x => callO bits pat xs x (start + ix + dlv ks df x)) (fun x => decide (x ∈ row)) tl xs p).1 y = true) → H1 sp = some (.dK (dmap xs fun x => V.int ((stp (fun x => callO bits pat xs x (start + ix + dlv ks df x)) (fun x => decide (x ∈ row)) tl xs p).2 x))) → Kp [tm, sp] H H1 → (∃ rs : List Int, H1 r = some (.lst (rs.map V.int)) ∧ NewL xs rs p (stp (fun x => callO bits pat xs x (start + ix + dlv ks df x)) (fun x => decide (x ∈ row)) tl xs p)) → Q (.ref r) H1)
theorem us_l_step {K : PySem.W.Frag} {H : Hp} {Q : VK} {E : XK} {e : Ext} {g hl tb og dl : Addr} {bits pat start : Int} {xs os ks : List Int} {df : Int → Int} {tm sp lo : Addr} {ix : Int} {row ts : List Int} {tf : Int → Int} {p : (Int → Bool) × (Int → Int)} {tl : Option Int} (G : Grp H e g hl tb og dl bits pat start xs os ks df) (hA : Apt H tb dl bits [tm, sp]) (ht : H tm = some (.dK (dmap ts fun x => V.int (tf x)))) (hp : H sp = some (.dK (dmap xs fun x => V.int (p.2 x)))) (nts : tm ≠ sp) (hlo : H lo = some (.lst (row.map V.int))) (tn : ts.Nodup) (tmem : ∀ y, y ∈ ts ↔ y ∈ xs ∧ p.1 y = true) (kk : ∀ r (ts2 : List Int) H1, H1 tm = some (.dK (dmap ts2 fun x => V.int (wup p tf ix x))) → ts2.Nodup → (∀ y, y ∈ ts2 ↔ y ∈ xs ∧ (stp (fun x => callO bits pat xs x (start + ix + dlv ks df x)) (fun x => decide (x ∈ row)) tl xs p).1 y = true) → H1 sp = some (.dK (dmap xs fun x => V.int ((stp (fun x => callO bits pat xs x (start + ix + dlv ks df x)) (fun x => decide (x ∈ row)) tl xs p).2 x))) → Kp [tm, sp] H H1 → (∃ rs : List Int, H1 r = some (.lst (rs.map V.int)) ∧ NewL xs rs p (stp (fun x => callO bits pat xs x (start + ix + dlv ks df x)) (fun x => decide (x ∈ row)) tl xs p)) → Q (.ref r) H1) : sp_l_step K [.ref g, .ref tm, .ref sp, .int ix, .ref lo, ov tl] H Q E := ⟨_, _, _, _, _, _, _, _, _, _, _, _, _, _, _, _, _, _, _, _, _, _, rfl, G, hA, ht, hp, nts, hlo, tn, tmem, kk⟩
theorem f_l_step (T : Cx K mg) (B : Tb K mg base) : ∃ fd, FunD K "_law_step" "_law_step" (defArgs s_l_step) (defBody s_l_step) (defScope s_l_step) (d_l_step.dvs K) (d_l_step.kws K) (fAd K d_l_step.at_) fd ∧ FnOk P w K mg base CX0 2 (fAd K d_l_step.at_) fd p_l_step (sp_l_step K) := by
  have c_l_goal := c_l_goal (P := P) (w := w) (base := base) T B
  obtain ⟨fd, F⟩ := T.says.def_ 25 (d := d_l_step) rfl
  refine ⟨fd, F, fnD F sc_l_step (fun vs H Q E h => by
    obtain ⟨_, _, _, _, _, _, _, _, _, _, _, _, _, _, _, _, _, _, _, _, _, _, rfl, _⟩ := h
    rfl) fun cdv A outer s H vs Q E hr h => ?_⟩
  have hu := hu_of hr
  obtain ⟨e, g, hl, tb, og, dl, bits, pat, start, xs, os, ks, df, tm, sp, lo, ix, row, ts, tf, p, tl, rfl, G, hA, ht, hp, nts, hlo, tn, tmem, kk⟩ := h
  refine ⟨_, (pss_cons (ps_set (i := 6) sc_l_step.nd rfl (by first | exact Or.inl rfl | exact Or.inr rfl) (pe_lst pa_nil)) (pss_cons (ps_for PassesOwn.never rfl (pi_list (pe_dget hu (pv 0) pe_str (fun _ _ => rfl))) (pg_name (i := 7) sc_l_step.nd rfl (by first | exact Or.inl rfl | exact Or.inr rfl)) (pss_cons (ps_set (i := 8) sc_l_step.nd rfl (by first | exact Or.inl rfl | exact Or.inr rfl) (pe_cal c_l_goal hr (by decide) (by rfl) pass0 (pa_cons (pv 0) (pa_cons (pv 7) (pa_cons (pv 3) pa_nil))))) (C8.pss_cut (ps_set (i := 9) sc_l_step.nd rfl (by first | exact Or.inl rfl | exact Or.inr rfl) (pe_or (pe_cmp (pc_isN (pv 5))) (pe_one (pe_cmpR op_lt (pe_dget hu (pv 2) (pv 7) (fun _ _ => rfl)) (pv 5) (nomark _))))) (pss_one (ps_if (PW.pt (pw_and (pt_cmp (pc_din hu (pv 7) (pv 1))) (pw_and (pt_cmp (pc_notN (pv 8))) (pw_and1 (pt_val (pv 9)))))) (pss_cons (ps_dput hu (pv 2) (pv 7) (pe_op op_add (pe_dget hu (pv 2) (pv 7) (fun _ _ => rfl)) pe_int) rfl) (pss_one (ps_if (PW.pt (pw_and (pt_cmpR op_notIn_seq (pv 7) (pv 4) rfl) (pw_and (pt_cmp (pc_dnotin hu (pv 8) (pv 1))) (pw_and1 (pt_cmpR op_notIn_seq (pv 8) (pv 6) rfl))))) (pss_one (ps_expr (pe_bm PySem.F.plainAttrs_list PySem.F.slot_list_append PySem.F.type_list_append mt_append (pv 6) (pa_cons (pv 8) pa_nil)))) pss_nil))) pss_nil))))) (pss_cons (ps_for PassesOwn.never rfl (pi_list (pv 6)) (pg_name (i := 7) sc_l_step.nd rfl (by first | exact Or.inl rfl | exact Or.inr rfl)) (pss_one (ps_dput hu (pv 1) (pv 7) (pe_op op_add (pv 3) pe_int) rfl))) (pss_one (ps_ret (pe_callB cr_sortedI (by rfl) (fr_sorted T) (by decide +kernel) (pa_cons (pv 6) pa_nil))))))), ?_⟩
  rw [show L2.start n_l_step [.ref g, .ref tm, .ref sp, .int ix, .ref lo, ov tl] = [some (.ref g), some (.ref tm), some (.ref sp), some (.int ix), some (.ref lo), some (ov tl), none, none, none, none] from rfl]
  try dsimp only [cxOf, Cx.nox, Cx.wish, List.map]

  have rp : 0 < (2 : Int) ^ bits.toNat := (ring_pow G.b.1 G.b.2).pos
  have hg := G.at_
  have hh := G.held
  have nd := G.nd
  have len := G.len
  have cm : ∀ {x y : Int}, callO bits pat xs x (start + ix + dlv ks df x) = some y → y ∈ xs := fun h => call_mem rp h
  have tsx : ∀ x, x ∈ ts → x ∈ xs := fun x h => ((tmem x).mp h).1
  have tl60 := List.Nodup.length_le_of_subset (l₂ := xs) tn (fun y hy => tsx y hy)
  have nls : lo ≠ sp := ne_of hlo hp (by intro z; cases z)
  wtm_at "rd"
  refine ⟨sz1000 (by simp), fun nw nnw => ?_⟩
  have k0 : Kp [] H (upd H nw (.lst [])) := Kp.new nnw
  have w0 : upd H nw (.lst []) nw = some (.lst (([] : List Int).map V.int)) := upd_same
  have nsw : sp ≠ nw := ne_of_none hp nnw
  have ntw : tm ≠ nw := ne_of_none ht nnw
  have sp0 : upd H nw (.lst []) sp = some (.dK (dmap xs fun x => V.int (spU (fun x => callO bits pat xs x (start + ix + dlv ks df x)) tl p (xs.take 0) x))) := by
    rw [k0.g0 hp]
    congr 2
  generalize upd H nw (.lst []) = H0 at *
  have hg0 := k0.g0 hg
  have hh0 := k0.g0 hh
  wtm_at "rd"
  refine forL_ints (K := K) xs (fun i σ H2 => (∃ v7 v8 v9, σ = [some (.ref g), some (.ref tm), some (.ref sp), some (.int ix), some (.ref lo), some (ov tl), some (.ref nw), v7, v8, v9]) ∧ H2 sp = some (.dK (dmap xs fun x => V.int (spU (fun x => callO bits pat xs x (start + ix + dlv ks df x)) tl p (xs.take i) x))) ∧ (∃ fs : List Int, H2 nw = some (.lst (fs.map V.int)) ∧ fs.Nodup ∧ ∀ y, y ∈ fs ↔ NewR (fun x => callO bits pat xs x (start + ix + dlv ks df x)) (fun x => decide (x ∈ row)) tl p (xs.take i) y) ∧ Kp [sp] H H2) ⟨⟨_, _, _, rfl⟩, sp0, ⟨[], w0, List.nodup_nil, fun y => ⟨fun h => (by cases h), fun ⟨x, h, _⟩ => (by cases h)⟩⟩, k0.of0⟩ (fun i σ H2 _ z => SqL.of (z.2.2.2.g1 (ne_of hh hp (by intro z; cases z)) hh)) ?_ ?_
  · rintro i hi σ H2 ⟨⟨v7, v8, v9, rfl⟩, m2, ⟨fs, f1, f2, f3⟩, k2⟩
    have hx : xs[i] ∈ xs := List.getElem_mem hi
    have G2 := G.kw (hA.sub (qs := [sp]) (by simp)) k2
    have ht2 := k2.g1 nts ht
    have lo2 := k2.g1 nls hlo
    have lk : valV (dmap xs fun x => V.int (spU (fun x => callO bits pat xs x (start + ix + dlv ks df x)) tl p (xs.take i) x)) (.inl xs[i]) = some (.int (p.2 xs[i])) := by
      rw [dmap_in hx, spU_at nd hi]
    have fl := List.Nodup.length_le_of_subset (l₂ := xs) f2 (fun y hy => by
      obtain ⟨x, _, _, _, h, _⟩ := (f3 y).mp hy
      exact cm h)
    wtm_at "rd"
    refine us_l_goal G2 hx ?_
    wtm_at "rd"
    refine rd_cut (fun σ H3 => σ = [some (.ref g), some (.ref tm), some (.ref sp), some (.int ix), some (.ref lo), some (ov tl), some (.ref nw), some (.int xs[i]), some (ov (callO bits pat xs xs[i] (start + ix + dlv ks df xs[i]))), some (.bl (mayL tl (p.2 xs[i])))] ∧ H3 = H2) ?_ ?_
    · cases tl with
      | none =>
        wtm_at "rd"
        exact ⟨rfl, rfl⟩
      | some l =>
        wtm_at "rd"
        exact ⟨rfl, rfl⟩
    rintro σ H3 ⟨rfl, rfl⟩
    have skip : telB (fun x => callO bits pat xs x (start + ix + dlv ks df x)) tl p xs[i] = false → (∃ v7 v8 v9, [some (V.ref g), some (.ref tm), some (.ref sp), some (.int ix), some (.ref lo), some (ov tl), some (.ref nw), some (.int xs[i]), some (ov (callO bits pat xs xs[i] (start + ix + dlv ks df xs[i]))), some (.bl (mayL tl (p.2 xs[i])))] = [some (V.ref g), some (.ref tm), some (.ref sp), some (.int ix), some (.ref lo), some (ov tl), some (.ref nw), v7, v8, v9]) ∧ H3 sp = some (.dK (dmap xs fun x => V.int (spU (fun x => callO bits pat xs x (start + ix + dlv ks df x)) tl p (xs.take (i + 1)) x))) ∧ (∃ fs : List Int, H3 nw = some (.lst (fs.map V.int)) ∧ fs.Nodup ∧ ∀ y, y ∈ fs ↔ NewR (fun x => callO bits pat xs x (start + ix + dlv ks df x)) (fun x => decide (x ∈ row)) tl p (xs.take (i + 1)) y) ∧ Kp [sp] H H3 := fun ht => by
      refine ⟨⟨_, _, _, rfl⟩, ?_, ⟨fs, f1, f2, new_none hi f3 fun y h => ?_⟩, k2⟩
      · rw [spU_take nd hi, if_neg (by rw [ht]; exact Bool.false_ne_true)]
        exact m2
      · rw [ht] at h
        exact Bool.false_ne_true h.1
    wtm_at "rd"
    rw [dmap_some]
    refine ite_d (fun h1 => ?_) (fun h1 => ?_)
    · have px := ((tmem _).mp h1).2
      wtm_at "rd"
      cases hc : callO bits pat xs xs[i] (start + ix + dlv ks df xs[i]) with
      | none =>
        rw [hc] at skip
        wtm_at "rd"
        refine skip ?_
        unfold telB
        rw [show (fun x => callO bits pat xs x (start + ix + dlv ks df x)) xs[i] = none from hc]
        simp
      | some c =>
        rw [hc] at skip
        wtm_at "rd"
        cases hm : mayL tl (p.2 xs[i]) with
        | false =>
          rw [hm] at skip
          wtm_at "rd"
          refine skip ?_
          unfold telB
          rw [hm]
          simp
        | true =>
          clear skip
          have ht : telB (fun x => callO bits pat xs x (start + ix + dlv ks df x)) tl p xs[i] = true := by
            unfold telB
            rw [hm, px, show (fun x => callO bits pat xs x (start + ix + dlv ks df x)) xs[i] = some c from hc]
            rfl
          have sk : (dmap xs fun x => V.int (spU (fun x => callO bits pat xs x (start + ix + dlv ks df x)) tl p (xs.take i) x)).length < sizeLine := szlt (by rw [dmap_len]; omega)
          wtm_at "rd"
          have e3 : putK (dmap xs fun x => V.int (spU (fun x => callO bits pat xs x (start + ix + dlv ks df x)) tl p (xs.take i) x)) (.inl xs[i]) (.int (p.2 xs[i] + 1)) = dmap xs fun x => V.int (spU (fun x => callO bits pat xs x (start + ix + dlv ks df x)) tl p (xs.take (i + 1)) x) := by
            rw [dmap_old hx, spU_take nd hi, if_pos ht]
            refine dmap_congr fun x _ => ?_
            unfold fset
            split <;> rfl
          rw [e3]
          have m3 : upd H3 sp (.dK (dmap xs fun x => V.int (spU (fun x => callO bits pat xs x (start + ix + dlv ks df x)) tl p (xs.take (i + 1)) x))) sp = some (.dK (dmap xs fun x => V.int (spU (fun x => callO bits pat xs x (start + ix + dlv ks df x)) tl p (xs.take (i + 1)) x))) := upd_same
          have f13 : upd H3 sp (.dK (dmap xs fun x => V.int (spU (fun x => callO bits pat xs x (start + ix + dlv ks df x)) tl p (xs.take (i + 1)) x))) nw = some (.lst (fs.map V.int)) := hu_ne (Ne.symm nsw) f1
          have ht3 : upd H3 sp (.dK (dmap xs fun x => V.int (spU (fun x => callO bits pat xs x (start + ix + dlv ks df x)) tl p (xs.take (i + 1)) x))) tm = some (.dK (dmap ts fun x => V.int (tf x))) := hu_ne nts ht2
          have lo3 : upd H3 sp (.dK (dmap xs fun x => V.int (spU (fun x => callO bits pat xs x (start + ix + dlv ks df x)) tl p (xs.take (i + 1)) x))) lo = some (.lst (row.map V.int)) := hu_ne nls lo2
          have k3 : Kp [sp] H (upd H3 sp (.dK (dmap xs fun x => V.int (spU (fun x => callO bits pat xs x (start + ix + dlv ks df x)) tl p (xs.take (i + 1)) x)))) := k2.wr (by simp)
          generalize upd H3 sp (.dK (dmap xs fun x => V.int (spU (fun x => callO bits pat xs x (start + ix + dlv ks df x)) tl p (xs.take (i + 1)) x))) = H4 at *
          have sl : (fs.map V.int).length < sizeLine := szlt (by rw [List.length_map]; omega)
          refine ite_n (fun h2 => ?_) (fun h2 => ?_)
          · wtm_at "rd"
            rw [dmap_some]
            refine ite_n (fun h4 => ?_) (fun h4 => ?_)
            · have pc : p.1 c = false := by
                cases e : p.1 c with
                | false => rfl
                | true => exact absurd ((tmem c).mpr ⟨cm hc, e⟩) h4
              wtm_at "rd"
              refine ite_n (fun h5 => ?_) (fun h5 => ?_)
              · wtm_at "rd"
                refine ⟨⟨_, _, _, rfl⟩, hu_ne nsw m3, ⟨fs ++ [c], by rw [upd_same, List.map_append]; rfl, List.nodup_append.mpr ⟨f2, by simp, fun a ha b hb => by
                  rw [List.mem_singleton.mp hb]
                  exact fun z => h5 (z ▸ ha)⟩, fun y => ?_⟩, k3.mine nnw⟩
                rw [new_take hi, ← f3, List.mem_append, List.mem_singleton]
                constructor
                · rintro (h | rfl)
                  · exact .inl h
                  · exact .inr ⟨ht, decide_eq_false h2, hc, pc⟩
                · rintro (h | ⟨_, _, h, _⟩)
                  · exact .inl h
                  · have h := hc.symm.trans h
                    injection h with h
                    exact .inr h.symm
              · wtm_at "rd"
                refine ⟨⟨_, _, _, rfl⟩, m3, ⟨fs, f13, f2, fun y => ?_⟩, k3⟩
                rw [new_take hi, ← f3]
                refine ⟨.inl, fun z => z.elim id fun z => ?_⟩
                have h := hc.symm.trans z.2.2.1
                injection h with h
                exact h ▸ h5
            · wtm_at "rd"
              refine ⟨⟨_, _, _, rfl⟩, m3, ⟨fs, f13, f2, new_none hi f3 fun y h => ?_⟩, k3⟩
              have h6 := hc.symm.trans h.2.2.1
              injection h6 with h6
              subst h6
              have := ((tmem c).mp h4).2
              rw [h.2.2.2] at this
              cases this
          · wtm_at "rd"
            refine ⟨⟨_, _, _, rfl⟩, m3, ⟨fs, f13, f2, new_none hi f3 fun y h => ?_⟩, k3⟩
            have h6 := h.2.1
            rw [decide_eq_true h2] at h6
            cases h6
    · wtm_at "rd"
      refine skip ?_
      unfold telB
      cases e : p.1 xs[i] with
      | false => rfl
      | true => exact absurd ((tmem _).mpr ⟨hx, e⟩) h1
  rintro σ H2 ⟨⟨v7, v8, v9, rfl⟩, m2, ⟨fs, f1, f2, f3⟩, k2⟩
  rw [List.take_length] at m2 f3
  have ht2 := k2.g1 nts ht
  have fsx : ∀ y, y ∈ fs → y ∈ xs ∧ y ∉ ts := fun y hy => by
    obtain ⟨x, _, _, _, h, h5⟩ := (f3 y).mp hy
    refine ⟨cm h, fun z => ?_⟩
    have := ((tmem y).mp z).2
    rw [h5] at this
    cases this
  have fl := List.Nodup.length_le_of_subset (l₂ := xs) f2 (fun y hy => (fsx y hy).1)
  wtm_at "rd"
  refine forL_ints (K := K) fs (fun i σ H3 => (∃ v7 v8 v9, σ = [some (.ref g), some (.ref tm), some (.ref sp), some (.int ix), some (.ref lo), some (ov tl), some (.ref nw), v7, v8, v9]) ∧ H3 tm = some (.dK (dmap (ts ++ fs.take i) fun x => V.int (wup p tf ix x))) ∧ Kp [tm] H2 H3) ⟨⟨_, _, _, rfl⟩, by rw [List.take_zero, List.append_nil, wup_old (fun x hx => ((tmem x).mp hx).2)]; exact ht2, Kp.refl⟩ (fun i σ H3 _ z => SqL.of (z.2.2.g1 (Ne.symm ntw) f1)) ?_ ?_
  · rintro i hi σ H3 ⟨⟨v7, v8, v9, rfl⟩, t5, k5⟩
    have hni : fs[i] ∉ ts ++ fs.take i := fun z => (List.mem_append.mp z).elim (fsx _ (List.getElem_mem hi)).2 (nd_take f2 hi)
    have sk : (dmap (ts ++ fs.take i) fun x => V.int (wup p tf ix x)).length < sizeLine := szlt (by rw [dmap_len, List.length_append, List.length_take]; omega)
    wtm_at "rd"
    refine ⟨⟨_, _, _, rfl⟩, ?_, k5.wr (by simp)⟩
    have hpf : p.1 fs[i] = false := by
      cases ep : p.1 fs[i] with
      | false => rfl
      | true => exact absurd ((tmem _).mpr ⟨(fsx _ (List.getElem_mem hi)).1, ep⟩) (fsx _ (List.getElem_mem hi)).2
    rw [upd_same, wup_put hni hpf, List.take_succ_eq_append_getElem hi, List.append_assoc]
  rintro σ H3 ⟨⟨v7, v8, v9, rfl⟩, t5, k5⟩
  rw [List.take_length] at t5
  have f15 := k5.g1 (Ne.symm ntw) f1
  have m5 := k5.g1 (Ne.symm nts) m2
  wtm_at "rd"
  refine rd_sortedI f15 fun rs r s1 s2 nr => ?_
  have hm := fun y => new_iff (fun x hx _ => hx) (fun x hx => hx) f3 tmem (fun x y h => cm h) y
  have k8 : Kp [] H3 (upd H3 r (.lst (rs.map V.int))) := Kp.new nr
  refine kk r (ts ++ fs) _ (k8.g0 t5) (List.nodup_append.mpr ⟨tn, f2, fun a ha b hb z => (fsx b hb).2 (z ▸ ha)⟩) hm ?_ (fun b o hb hn => k8 _ _ (k5 _ _ (k2 _ _ hb (fun z => hn (by simp [List.mem_singleton.mp z]))) (fun z => hn (by simp [List.mem_singleton.mp z]))) (by simp)) ⟨rs, upd_same, newL_of s1 s2 f2 (fun y h => (fsx y h).2) hm f3 tmem⟩
  rw [k8.g0 m5]
  congr 2
  refine dmap_congr fun x hx => ?_
  rw [spU_all (fun x hx _ => hx) hx]
theorem c_l_step (T : Cx K mg) (B : Tb K mg base) : CalX P w K mg base CX0 2 "_law_step" (sp_l_step K) [] := by
  obtain ⟨fd, F, ok⟩ := f_l_step (P := P) (w := w) (base := base) T B
  exact ⟨_, fd, p_l_step, [], ok, gl_l_step T, F.kp, FunD.bindsN F fun _ _ _ _ _ _ us hl => match us, hl with | [_, _, _, _, _, _], _ => rfl, .nil⟩
end
section
variable {P : Program} {w : World} {K : PySem.W.Frag} {mg : Str → Option Value} {base : Heap}
def sp_l_some (K : PySem.W.Frag) : Sp := fun vs H Q E => ∃ (p c hl : Addr) (xs : List Int), vs = [.ref p, .ref hl] ∧ (Purse H p c) ∧ (H hl = some (.lst (xs.map V.int))) ∧ (xs.Nodup) ∧ (1 ≤ xs.length ∧ xs.length ≤ 60) ∧ (∀ og (os : List Int) H1, H1 og = some (.lst (os.map V.int)) → os.Nodup → os ≠ [] → (∀ z, z ∈ os → z ∈ xs) → Purse H1 p c → Kp [p] H H1 → H og = none → Q (.ref og) H1)
theorem us_l_some {K : PySem.W.Frag} {H : Hp} {Q : VK} {E : XK} {p c hl : Addr} {xs : List Int} (hB : Purse H p c) (hh : H hl = some (.lst (xs.map V.int))) (nd : xs.Nodup) (len : 1 ≤ xs.length ∧ xs.length ≤ 60) (kk : ∀ og (os : List Int) H1, H1 og = some (.lst (os.map V.int)) → os.Nodup → os ≠ [] → (∀ z, z ∈ os → z ∈ xs) → Purse H1 p c → Kp [p] H H1 → H og = none → Q (.ref og) H1) : sp_l_some K [.ref p, .ref hl] H Q E := ⟨_, _, _, _, rfl, hB, hh, nd, len, kk⟩
theorem f_l_some (T : Cx K mg) (B : Tb K mg base) : ∃ fd, FunD K "_law_some" "_law_some" (defArgs s_l_some) (defBody s_l_some) (defScope s_l_some) (d_l_some.dvs K) (d_l_some.kws K) (fAd K d_l_some.at_) fd ∧ FnOk P w K mg base CX0 3 (fAd K d_l_some.at_) fd p_l_some (sp_l_some K) := by
  have c_l_draw := c_l_draw (P := P) (w := w) (base := base) T B
  obtain ⟨fd, F⟩ := T.says.def_ 26 (d := d_l_some) rfl
  refine ⟨fd, F, fnD F sc_l_some (fun vs H Q E h => by
    obtain ⟨_, _, _, _, rfl, _⟩ := h
    rfl) fun cdv A outer s H vs Q E hr h => ?_⟩
  have hu := hu_of hr
  obtain ⟨p, c, hl, xs, rfl, hB, hh, nd, len, kk⟩ := h
  refine ⟨_, (pss_cons (ps_set (i := 2) sc_l_some.nd rfl (by first | exact Or.inl rfl | exact Or.inr rfl) (pe_cal c_l_draw hr (by decide) (by rfl) pass0 (pa_cons (pv 0) (pa_cons (pe_callB call_lenS (by rfl) (fr_len T) (by decide +kernel) (pa_cons (pv 1) pa_nil)) pa_nil)))) (pss_cons (ps_set (i := 3) sc_l_some.nd rfl (by first | exact Or.inl rfl | exact Or.inr rfl) (pe_ix ix_list (pe_lst (pa_cons pe_int (pa_cons pe_int (pa_cons pe_int (pa_cons pe_int (pa_cons pe_int (pa_cons (pe_callB call_lenS (by rfl) (fr_len T) (by decide +kernel) (pa_cons (pv 1) pa_nil)) pa_nil))))))) (pe_cal c_l_draw hr (by decide) (by rfl) pass0 (pa_cons (pv 0) (pa_cons pe_int pa_nil))) (fun _ _ => rfl))) (pss_cons (ps_set (i := 4) sc_l_some.nd rfl (by first | exact Or.inl rfl | exact Or.inr rfl) (pe_op op_cat (pe_slice sl_list (pv 1) po_none (po_some (pv 2))) (pe_slice sl_list (pv 1) (po_some (pe_op op_add (pv 2) pe_int)) po_none))) (pss_cons (ps_set (i := 5) sc_l_some.nd rfl (by first | exact Or.inl rfl | exact Or.inr rfl) (pe_lst (pa_cons (pe_ix ix_list (pv 1) (pv 2) (fun _ _ => rfl)) pa_nil))) (pss_cons (ps_for PassesOwn.never rfl (pi_range1 (by rfl) (fr_range T) (pa_cons (pe_callB (call_min2' rfl) (by rfl) (fr_min T) (by decide +kernel) (pa_cons (pv 3) (pa_cons (pe_callB call_lenS (by rfl) (fr_len T) (by decide +kernel) (pa_cons (pv 4) pa_nil)) pa_nil))) pa_nil)) (pg_name (i := 6) sc_l_some.nd rfl (by first | exact Or.inl rfl | exact Or.inr rfl)) (pss_one (ps_expr (pe_bm PySem.F.plainAttrs_list PySem.F.slot_list_append PySem.F.type_list_append mt_append (pv 5) (pa_cons (pe_bm PySem.F.plainAttrs_list PySem.F.slot_list_pop PySem.F.type_list_pop mt_popAt (pv 4) (pa_cons (pe_cal c_l_draw hr (by decide) (by rfl) pass0 (pa_cons (pv 0) (pa_cons (pe_callB call_lenS (by rfl) (fr_len T) (by decide +kernel) (pa_cons (pv 4) pa_nil)) pa_nil))) pa_nil)) pa_nil))))) (pss_one (ps_ret (pv 5)))))))), ?_⟩
  rw [show L2.start n_l_some [.ref p, .ref hl] = [some (.ref p), some (.ref hl), none, none, none, none, none] from rfl]
  try dsimp only [cxOf, Cx.nox, Cx.wish, List.map]

  wtm_at "rd"
  refine us_l_draw hB (by omega) (by omega) fun n1 H1 n10 n11 B1 k1 => ?_
  have hh1 := k1.g1 (hB.lst hh) hh
  obtain ⟨z, rfl⟩ := Int.eq_ofNat_of_zero_le n10
  have zl : z < xs.length := by omega
  have hat : atI (xs.map V.int) (z : Int) = some (.int xs[z]) := atI_nat (by rw [List.getElem?_map, List.getElem?_eq_getElem zl]; rfl)
  wtm_at "rd"
  refine ⟨sz1000 (by simp), fun t1 nt1 => ?_⟩
  have B2 := B1.new (o := .lst [.int 0, .int 0, .int 1, .int 0, .int 2, .int (xs.length : Nat)]) nt1
  have k2 := k1.nw (o := .lst [.int 0, .int 0, .int 1, .int 0, .int 2, .int (xs.length : Nat)]) nt1
  have e1 : upd H1 t1 (.lst [.int 0, .int 0, .int 1, .int 0, .int 2, .int (xs.length : Nat)]) t1 = some (.lst (([0, 0, 1, 0, 2, (xs.length : Int)] : List Int).map V.int)) := upd_same
  generalize upd H1 t1 (.lst [.int 0, .int 0, .int 1, .int 0, .int 2, .int (xs.length : Nat)]) = H2 at *
  wtm_at "rd"
  refine us_l_draw B2 (by decide) (by decide) fun n3 H3 n30 n31 B3 k3 => ?_
  have e3 := k3.g1 (B2.lst e1) e1
  have k03 := k2.trans k3
  have hh3 := k03.g1 (hB.lst hh) hh
  obtain ⟨m, hm, at3⟩ := pickI [0, 0, 1, 0, 2, (xs.length : Int)] n30 (by simpa using n31)
  have mb : 0 ≤ m := by
    simp only [List.mem_cons, List.not_mem_nil, or_false] at hm
    omega
  have nt10 := k1.back nt1 (by simpa using Ne.symm (B1.ne1 nt1))
  clear hm k1 k2 k3 B1 B2 hh1
  wtm_at "rd"
  intro a na
  rw [cut_to]
  have B5 := B3.new (o := .lst ((xs.map V.int).take z)) na
  have k5 := k03.nw (o := .lst ((xs.map V.int).take z)) na
  have hh5 : upd H3 a (.lst ((xs.map V.int).take z)) hl = some (.lst (xs.map V.int)) := hu_ne (ne_of_none hh3 na) hh3
  have ha5 : upd H3 a (.lst ((xs.map V.int).take z)) a = some (.lst ((xs.map V.int).take z)) := upd_same
  generalize upd H3 a (.lst ((xs.map V.int).take z)) = H5 at *
  wtm_at "rd"
  intro d nd2
  rw [show ((z : Nat) : Int) + 1 = ((z + 1 : Nat) : Int) by omega, cut_from]
  have B6 := B5.new (o := .lst ((xs.map V.int).drop (z + 1))) nd2
  have k6 := k5.nw (o := .lst ((xs.map V.int).drop (z + 1))) nd2
  have hh6 : upd H5 d (.lst ((xs.map V.int).drop (z + 1))) hl = some (.lst (xs.map V.int)) := hu_ne (ne_of_none hh5 nd2) hh5
  have ha6 : upd H5 d (.lst ((xs.map V.int).drop (z + 1))) a = some (.lst ((xs.map V.int).take z)) := hu_ne (ne_of_none ha5 nd2) ha5
  have hd6 : upd H5 d (.lst ((xs.map V.int).drop (z + 1))) d = some (.lst ((xs.map V.int).drop (z + 1))) := upd_same
  generalize upd H5 d (.lst ((xs.map V.int).drop (z + 1))) = H6 at *
  clear B5 k5 hh5 ha5 B3 k03 hh3 e3 e1
  wtm_at "rd"
  refine rd_cat ha6 hd6 (by rw [List.length_take, List.length_drop, List.length_map]; have := szlt (n := 1000) (by omega); omega) fun pl npl => ?_
  have ee : (xs.map V.int).take z ++ (xs.map V.int).drop (z + 1) = (xs.eraseIdx z).map V.int := by rw [List.eraseIdx_eq_take_drop_succ, List.map_append, List.map_take, List.map_drop]
  rw [ee]
  have B7 := B6.new (o := .lst ((xs.eraseIdx z).map V.int)) npl
  have k7 := k6.nw (o := .lst ((xs.eraseIdx z).map V.int)) npl
  have hh7 : upd H6 pl (.lst ((xs.eraseIdx z).map V.int)) hl = some (.lst (xs.map V.int)) := hu_ne (ne_of_none hh6 npl) hh6
  have hpl : upd H6 pl (.lst ((xs.eraseIdx z).map V.int)) pl = some (.lst ((xs.eraseIdx z).map V.int)) := upd_same
  have npl0 := B6.fr k6 npl
  generalize upd H6 pl (.lst ((xs.eraseIdx z).map V.int)) = H7 at *
  clear B6 k6 hh6 ha6 hd6 ee
  wtm_at "rd"
  refine ⟨sz1000 (by simp), fun fd nfd => ?_⟩
  have B8 := B7.new (o := .lst [.int xs[z]]) nfd
  have k8 := k7.nw (o := .lst [.int xs[z]]) nfd
  have hpf : pl ≠ fd := ne_of_none hpl nfd
  have hpl8 : upd H7 fd (.lst [.int xs[z]]) pl = some (.lst ((xs.eraseIdx z).map V.int)) := hu_ne hpf hpl
  have hfd8 : upd H7 fd (.lst [.int xs[z]]) fd = some (.lst (([xs[z]] : List Int).map V.int)) := upd_same
  have nfd0 := B7.fr k7 nfd
  have nplp := Ne.symm (hB.ne1 npl0)
  have nplc := Ne.symm (hB.ne2 npl0)
  have nfdp := Ne.symm (hB.ne1 nfd0)
  have nfdc := Ne.symm (hB.ne2 nfd0)
  generalize upd H7 fd (.lst [.int xs[z]]) = H8 at *
  clear B7 k7 hh7 hpl npl nfd
  have el : (xs.eraseIdx z).length = xs.length - 1 := List.length_eraseIdx_of_lt zl
  wtm_at "rd"
  have per : (([xs[z]] : List Int) ++ xs.eraseIdx z).Perm xs := erase_perm zl
  refine forR_by (fun i σ H1 => (∃ v6, σ = [some (.ref p), some (.ref hl), some (.int z), some (.int m), some (.ref pl), some (.ref fd), v6]) ∧ ∃ us ws : List Int, H1 pl = some (.lst (us.map V.int)) ∧ H1 fd = some (.lst (ws.map V.int)) ∧ us.length + i = xs.length - 1 ∧ ws ≠ [] ∧ ws.length = i + 1 ∧ (ws ++ us).Perm xs ∧ Purse H1 p c ∧ Kp [p] H H1) ⟨⟨_, rfl⟩, xs.eraseIdx z, [xs[z]], hpl8, hfd8, by omega, by simp, rfl, per, B8, k8⟩ ?_ ?_
  · clear hpl8 hfd8 B8 k8 per
    rintro i σ H1 hi ⟨⟨v6, rfl⟩, us, ws, h1, h2, h3, hw, hwl, h5, h6, h7⟩
    have ul : 1 ≤ us.length := by omega
    wtm_at "rd"
    refine us_l_draw h6 (by omega) (by omega) fun n H2 n0 n1 B2 k2 => ?_
    have h1' := k2.g1 nplp h1
    have h2' := k2.g1 nfdp h2
    have hn : n.toNat < us.length := by omega
    wtm_at "rd"
    refine rd_popAt h1' (by omega) (by omega) (k := n.toNat) (v := .int us[n.toNat]) (by rw [List.length_map]; exact seqIx n0 n1) (by rw [List.getElem?_map, List.getElem?_eq_getElem hn]; rfl) ?_
    rw [erase_map]
    have hfd : upd H2 pl (.lst ((us.eraseIdx n.toNat).map V.int)) fd = some (.lst (ws.map V.int)) := hu_ne (Ne.symm hpf) h2'
    have sw : (ws.map V.int).length < sizeLine := szlt (by rw [List.length_map]; omega)
    wtm_at "rd"
    refine ⟨⟨_, rfl⟩, us.eraseIdx n.toNat, ws ++ [us[n.toNat]], hu_ne hpf upd_same, by rw [upd_same, List.map_append]; rfl, ?_, by simp, by simp [hwl], ?_, ?_, ?_⟩
    · rw [List.length_eraseIdx_of_lt hn]
      omega
    · refine List.Perm.trans ?_ h5
      rw [List.append_assoc]
      exact List.Perm.append_left ws (erase_perm hn)
    · exact (B2.k1 (q := pl) (Kp.refl.wr (by simp)) (Ne.symm nplp) (Ne.symm nplc)).k1 (q := fd) (Kp.refl.wr (by simp)) (Ne.symm nfdp) (Ne.symm nfdc)
    · exact ((h7.trans k2).mine npl0).mine nfd0
  · rintro σ H1 ⟨⟨v6, rfl⟩, us, ws, h1, h2, h3, hw, hwl, h5, h6, h7⟩
    wtm_at "rd"
    have hN : (ws ++ us).Nodup := (List.Perm.nodup_iff h5).mpr nd
    exact kk fd ws H1 h2 (List.nodup_append.mp hN).1 hw (fun y hy => h5.mem_iff.mp (List.mem_append_left _ hy)) h6 h7 nfd0
theorem c_l_some (T : Cx K mg) (B : Tb K mg base) : CalX P w K mg base CX0 3 "_law_some" (sp_l_some K) [] := by
  obtain ⟨fd, F, ok⟩ := f_l_some (P := P) (w := w) (base := base) T B
  exact ⟨_, fd, p_l_some, [], ok, gl_l_some T, F.kp, FunD.bindsN F fun _ _ _ _ _ _ us hl => match us, hl with | [_, _], _ => rfl, .nil⟩
end
section
variable {P : Program} {w : World} {K : PySem.W.Frag} {mg : Str → Option Value} {base : Heap}

/-- the letters of a group and its Spread -/
structure PL where
  g : Addr
  q : Addr
  og : Addr
  dl : Addr
  sh : Addr
  tq : Addr
  md : Addr
  sn : Addr
  tm : Addr
  sp : Addr
  start : Int
  ls : Int
  tl : Option Int
  pl : Bool
  os : List Int
  ks : List Int
  df : Int → Int
  rw : Int → Addr
def PL.e (a : PL) (n : Nat) : Ext := ⟨n, a.tl, a.pl, a.ls, a.tm, a.sp⟩
/-- what the group's side leans on, what the Spread leans on, what a round writes -/
abbrev PL.dg (a : PL) : List Addr := [a.g, a.dl, a.tm, a.sp]
abbrev PL.dr (a : PL) (S : Addr) : List Addr := [S, a.q, a.sh, a.tq, a.md, a.sn]
abbrev PL.og' (a : PL) : List Addr := [a.g, a.tm, a.sp]
abbrev PL.or' (a : PL) : List Addr := [a.q, a.md, a.sn]
/-- who may be written: no list -/
def Wt (H : Hp) (tb : Addr) (ps : List Addr) : Prop := ∀ z, z ∈ ps → (∀ l, H z ≠ some (.lst l)) ∧ ∀ l, H tb = some (.lst l) → V.ref z ∉ l
theorem Wt.lst {H : Hp} {tb a : Addr} {ps : List Addr} {l : List V} (w : Wt H tb ps) (h : H a = some (.lst l)) : a ∉ ps := fun m => (w a m).1 _ h
theorem Wt.sub {H : Hp} {tb : Addr} {ps qs : List Addr} (w : Wt H tb ps) (h : ∀ z, z ∈ qs → z ∈ ps) : Wt H tb qs := fun z hz => w z (h z hz)
theorem Wt.nil {H : Hp} {tb : Addr} : Wt H tb [] := fun _ z => by cases z
theorem Wt.app {H : Hp} {tb : Addr} {ps qs : List Addr} (w : Wt H tb ps) (v : Wt H tb qs) : Wt H tb (ps ++ qs) := fun z hz => (List.mem_append.mp hz).elim (w z) (v z)
theorem wt_purse {H : Hp} {tb p c : Addr} {bits : Int} {xs : List Int} (B : Purse H p c) (T : TabL H tb bits xs) : Wt H tb [p] := fun z hz => by
  rw [List.mem_singleton.mp hz]
  refine ⟨fun l h => B.lst h rfl, fun l h m => ?_⟩
  obtain ⟨f, f1, f2⟩ := T
  rw [f1] at h
  injection h with h
  injection h with h
  rw [← h] at m
  obtain ⟨i, hi, e⟩ := List.mem_map.mp m
  injection e with e
  exact B.dm (f2 i (List.mem_range.mp hi)) e
structure GS (H : Hp) (hl tb : Addr) (s : Stg) (xs : List Int) (a : PL) (n : Nat) (p : (Int → Bool) × (Int → Int)) (W : Int → Int) : Prop where
  G : Grp H (a.e n) a.g hl tb a.og a.dl s.bits s.pat a.start xs a.os a.ks a.df
  T : ∃ ts : List Int, H a.tm = some (.dK (dmap ts fun x => V.int (W x))) ∧ ts.Nodup ∧ ∀ y, y ∈ ts ↔ y ∈ xs ∧ p.1 y = true
  P : H a.sp = some (.dK (dmap xs fun x => V.int (p.2 x)))
  nts : a.tm ≠ a.sp
  A : Apt H tb a.dl s.bits [a.tm, a.sp]
section
variable {K : PySem.W.Frag} {H H' : Hp} {hl tb S p0 c : Addr} {s : Stg} {xs : List Int} {a b : PL} {n : Nat} {p : (Int → Bool) × (Int → Int)} {W : Int → Int} {ps : List Addr}
theorem Apt.mv {tb dl : Addr} {bits : Int} {ps : List Addr} {l : List V} (A : Apt H tb dl bits ps) (h : H tb = some (.lst l)) (h' : H' tb = some (.lst l)) (h2 : ∀ q, q ∈ ps → ∃ (zs : List Int) (f : Int → V), H' q = some (.dK (dmap zs f))) : Apt H' tb dl bits ps :=
  ⟨fun q hq => ⟨h2 q hq, (A.1 q hq).2⟩, fun l' ln e1 e2 => by
    rw [h'] at e1
    injection e1 with e1
    injection e1 with e1
    rw [← e1] at e2
    exact A.2 l ln h e2⟩
theorem GS.kw (X : GS H hl tb s xs a n p W) (w : Wt H tb ps) (d : ∀ z, z ∈ ps → z ∉ a.dg) (k : Kp ps H H') : GS H' hl tb s xs a n p W := by
  have go : ∀ {z : Addr} {o : HO}, z ∈ a.dg → H z = some o → H' z = some o := fun {z o} hz h => k _ _ h fun m => d z m hz
  have gl : ∀ {z : Addr} {l : List V}, H z = some (.lst l) → H' z = some (.lst l) := fun {z l} h => k _ _ h (w.lst h)
  obtain ⟨ts, t1, t2⟩ := X.T
  have t1' := go (by simp) t1
  have p1' := go (by simp) X.P
  obtain ⟨f, f1, f2⟩ := X.G.table
  have f1' := gl f1
  refine ⟨⟨go (by simp) X.G.at_, gl X.G.held, ⟨f, f1', fun i hi => k _ _ (f2 i hi) fun m => (w _ m).2 _ f1 (List.mem_map.mpr ⟨i, List.mem_range.mpr hi, rfl⟩)⟩, gl X.G.orig, go (by simp) X.G.dls, X.G.nd, X.G.rng, X.G.len, X.G.ond, X.G.osub, X.G.one, X.G.kl, X.G.b, X.G.p⟩, ⟨ts, t1', t2⟩, p1', X.nts, X.A.mv f1 f1' fun q hq => ?_⟩
  simp only [List.mem_cons, List.not_mem_nil, or_false] at hq
  rcases hq with rfl | rfl
  · exact ⟨_, _, t1'⟩
  · exact ⟨_, _, p1'⟩
theorem GS.k0 (X : GS H hl tb s xs a n p W) (k : Kp [] H H') : GS H' hl tb s xs a n p W := X.kw Wt.nil (fun _ z => by cases z) k
/-- all that a group's side leans on is there -/
theorem GS.al (X : GS H hl tb s xs a n p W) {z : Addr} (h : H z = none) : z ∉ a.dg := fun m => by
  obtain ⟨ts, t1, -⟩ := X.T
  simp only [List.mem_cons, List.not_mem_nil, or_false] at m
  rcases m with rfl | rfl | rfl | rfl
  · rw [X.G.at_] at h
    cases h
  · rw [X.G.dls] at h
    cases h
  · rw [t1] at h
    cases h
  · rw [X.P] at h
    cases h
theorem GS.fr (X : GS H hl tb s xs a n p W) {z : Addr} (h : H z = none) : ∀ l, H tb = some (.lst l) → V.ref z ∉ l := fun l e m => by
  obtain ⟨f, f1, f2⟩ := X.G.table
  rw [f1] at e
  injection e with e
  injection e with e
  rw [← e] at m
  obtain ⟨i, hi, e⟩ := List.mem_map.mp m
  injection e with e
  have := f2 i (List.mem_range.mp hi)
  rw [e, h] at this
  cases this
theorem Sprd.al {q sh tb md sn : Addr} {ks : List Int} {df : Int → Int} {start : Int} {tl : Option Int} (R : Sprd K H q S sh tb md sn s xs ks df start tl n p W) {z : Addr} (h : H z = none) : z ∉ [S, q, sh, tb, md, sn] := fun m => by
  obtain ⟨dx, h1⟩ := R.at_
  obtain ⟨⟨dy, h2⟩, -⟩ := R.set
  obtain ⟨f, h3, -⟩ := R.tbA
  obtain ⟨us, h4, -⟩ := R.snA
  simp only [List.mem_cons, List.not_mem_nil, or_false] at m
  rcases m with rfl | rfl | rfl | rfl | rfl | rfl
  · rw [h2] at h
    cases h
  · rw [h1] at h
    cases h
  · rw [R.shA] at h
    cases h
  · rw [h3] at h
    cases h
  · rw [R.mdA] at h
    cases h
  · rw [h4] at h
    cases h
theorem Sprd.kw {q sh tb md sn : Addr} {ks : List Int} {df : Int → Int} {start : Int} {tl : Option Int} (R : Sprd K H q S sh tb md sn s xs ks df start tl n p W) (w : ∀ z, z ∈ ps → ∀ l, H z ≠ some (.lst l)) (d : ∀ z, z ∈ ps → z ∉ [S, q, sh, tb, md, sn]) (k : Kp ps H H') : Sprd K H' q S sh tb md sn s xs ks df start tl n p W := by
  have go : ∀ {z : Addr} {o : HO}, z ∈ [S, q, sh, tb, md, sn] → H z = some o → H' z = some o := fun {z o} hz h => k _ _ h fun m => d z m hz
  obtain ⟨dx, h1⟩ := R.at_
  obtain ⟨f, h3, h5⟩ := R.tbA
  obtain ⟨us, h4, h6⟩ := R.snA
  exact ⟨⟨dx, go (by simp) h1⟩, R.set.kp k fun m => d _ m (by simp), go (by simp) R.shA, ⟨f, go (by simp) h3, fun x hx => k _ _ (h5 x hx) fun m => w _ m _ (h5 x hx)⟩, go (by simp) R.mdA, ⟨us, go (by simp) h4, h6⟩, R.nd, R.len, R.n1, R.n2, R.n3, R.n4, R.n5⟩
/-- a group with its Spread behind n rounds -/
structure PR (K : PySem.W.Frag) (H : Hp) (hl tb S : Addr) (s : Stg) (xs : List Int) (a : PL) (n : Nat) (p : (Int → Bool) × (Int → Int)) (W : Int → Int) : Prop where
  X : GS H hl tb s xs a n p W
  R : Sprd K H a.q S a.sh a.tq a.md a.sn s xs a.ks a.df a.start a.tl n p W
  s1 : ∀ z, z ∈ a.or' → z ∉ a.dg
  s2 : ∀ z, z ∈ a.og' → z ∉ a.dr S
  ln : ∀ l, H tb = some (.lst l) → ∀ z, z ∈ a.og' ++ a.or' → V.ref z ∉ l
  one : ∃ o, o ∈ xs ∧ p.1 o = true
  rw : H a.tq = some (.dK (dmap xs fun x => .ref (a.rw x)))
theorem PR.tbl (Y : PR K H hl tb S s xs a n p W) : ∃ l, H tb = some (.lst l) := let ⟨_, f1, _⟩ := Y.X.G.table; ⟨_, f1⟩
theorem PR.wt (Y : PR K H hl tb S s xs a n p W) : Wt H tb (a.og' ++ a.or') := fun z hz => by
  refine ⟨fun l h => ?_, fun l h => Y.ln l h z hz⟩
  obtain ⟨ts, t1, -⟩ := Y.X.T
  obtain ⟨dx, h1⟩ := Y.R.at_
  obtain ⟨us, h4, h6⟩ := Y.R.snA
  simp only [List.cons_append, List.nil_append, List.mem_cons, List.not_mem_nil, or_false] at hz
  rcases hz with rfl | rfl | rfl | rfl | rfl | rfl
  · rw [Y.X.G.at_] at h
    cases h
  · rw [t1] at h
    cases h
  · rw [Y.X.P] at h
    cases h
  · rw [h1] at h
    cases h
  · rw [Y.R.mdA] at h
    cases h
  · rw [h4] at h
    cases h
theorem PR.kw (Y : PR K H hl tb S s xs a n p W) (w : Wt H tb ps) (d : ∀ z, z ∈ ps → z ∉ a.dg ∧ z ∉ a.dr S) (k : Kp ps H H') : PR K H' hl tb S s xs a n p W := by
  obtain ⟨l0, h0⟩ := Y.tbl
  have h1 := k _ _ h0 (w.lst h0)
  refine ⟨Y.X.kw w (fun z hz => (d z hz).1) k, Y.R.kw (fun z hz => (w z hz).1) (fun z hz => (d z hz).2) k, Y.s1, Y.s2, fun l e => ?_, Y.one, k _ _ Y.rw fun m => (d _ m).2 (by simp)⟩
  rw [h1] at e
  injection e with e
  injection e with e
  exact e ▸ Y.ln l0 h0
theorem PR.k0 (Y : PR K H hl tb S s xs a n p W) (k : Kp [] H H') : PR K H' hl tb S s xs a n p W := Y.kw Wt.nil (fun _ z => by cases z) k
/-- a draw -/
theorem PR.dr (Y : PR K H hl tb S s xs a n p W) (B : Purse H p0 c) (k : Kp [p0] H H') : PR K H' hl tb S s xs a n p W := by
  refine Y.kw (wt_purse B Y.X.G.table) (fun z hz => ?_) k
  rw [List.mem_singleton.mp hz]
  obtain ⟨kvs, hp⟩ := B.at
  obtain ⟨ts, t1, -⟩ := Y.X.T
  obtain ⟨dx, h1⟩ := Y.R.at_
  obtain ⟨f, h3, -⟩ := Y.R.tbA
  obtain ⟨us, h4, -⟩ := Y.R.snA
  refine ⟨?_, ?_⟩
  · simp only [List.mem_cons, List.not_mem_nil, or_false, not_or]
    refine ⟨Ne.symm (ne_of Y.X.G.at_ hp fun z => ?_), Ne.symm (B.dm Y.X.G.dls), Ne.symm (B.dm t1), Ne.symm (B.dm Y.X.P)⟩
    injection z with z
    injection z with z
    injection z with z _
    injection z with z
    exact absurd z (by decide)
  · simp only [List.mem_cons, List.not_mem_nil, or_false, not_or]
    exact ⟨Ne.symm (Y.R.set.purse B), ne_of hp h1 (by intro z; cases z), Ne.symm (B.dm Y.R.shA), Ne.symm (B.dm h3), Ne.symm (B.dm Y.R.mdA), Ne.symm (B.dm h4)⟩
/-- two of them apart -/
def Sep (S : Addr) (a b : PL) : Prop := ∀ z, z ∈ b.og' ++ b.or' → z ∉ a.dg ∧ z ∉ a.dr S
/-- another one's round -/
theorem PR.ot {n2 : Nat} {p2 : (Int → Bool) × (Int → Int)} {W2 : Int → Int} (Y : PR K H hl tb S s xs a n p W) (Z : PR K H hl tb S s xs b n2 p2 W2) (sep : Sep S a b) (B : Purse H p0 c) (k : Kp (p0 :: (b.og' ++ b.or')) H H') : PR K H' hl tb S s xs a n p W := by
  have k1 : Kp ([p0] ++ (b.og' ++ b.or')) H H' := k
  refine Y.kw ((wt_purse B Y.X.G.table).app Z.wt) (fun z hz => ?_) k1
  rcases List.mem_append.mp hz with h | h
  · have Y1 : PR K H hl tb S s xs a n p W := Y
    rw [List.mem_singleton.mp h]
    obtain ⟨kvs, hp⟩ := B.at
    obtain ⟨ts, t1, -⟩ := Y.X.T
    obtain ⟨dx, h1⟩ := Y.R.at_
    obtain ⟨f, h3, -⟩ := Y.R.tbA
    obtain ⟨us, h4, -⟩ := Y.R.snA
    refine ⟨?_, ?_⟩
    · simp only [List.mem_cons, List.not_mem_nil, or_false, not_or]
      refine ⟨Ne.symm (ne_of Y.X.G.at_ hp fun z => ?_), Ne.symm (B.dm Y.X.G.dls), Ne.symm (B.dm t1), Ne.symm (B.dm Y.X.P)⟩
      injection z with z
      injection z with z
      injection z with z _
      injection z with z
      exact absurd z (by decide)
    · simp only [List.mem_cons, List.not_mem_nil, or_false, not_or]
      exact ⟨Ne.symm (Y.R.set.purse B), ne_of hp h1 (by intro z; cases z), Ne.symm (B.dm Y.R.shA), Ne.symm (B.dm h3), Ne.symm (B.dm Y.R.mdA), Ne.symm (B.dm h4)⟩
  · exact sep z h
end

def sp_l_seats_are (K : PySem.W.Frag) : Sp := fun vs H Q E => ∃ (f w : Addr) (ns : List Int), vs = [.ref f, .ref w] ∧ (H f = some (.lst (ns.map V.int))) ∧ (H w = some (.lst (ns.map V.int))) ∧ (ns.length ≤ 256) ∧ (∀ H1, Kp [f] H H1 → Q (.bl true) H1)
theorem us_l_seats_are {K : PySem.W.Frag} {H : Hp} {Q : VK} {E : XK} {f w : Addr} {ns : List Int} (hf : H f = some (.lst (ns.map V.int))) (hw : H w = some (.lst (ns.map V.int))) (hn : ns.length ≤ 256) (kk : ∀ H1, Kp [f] H H1 → Q (.bl true) H1) : sp_l_seats_are K [.ref f, .ref w] H Q E := ⟨_, _, _, rfl, hf, hw, hn, kk⟩
theorem f_l_seats_are (T : Cx K mg) (B : Tb K mg base) : ∃ fd, FunD K "_law_seats_are" "_law_seats_are" (defArgs s_l_seats_are) (defBody s_l_seats_are) (defScope s_l_seats_are) (d_l_seats_are.dvs K) (d_l_seats_are.kws K) (fAd K d_l_seats_are.at_) fd ∧ FnOk P w K mg base CX0 2 (fAd K d_l_seats_are.at_) fd p_l_seats_are (sp_l_seats_are K) := by
  have c_l_number := c_l_number (P := P) (w := w) (base := base) T B
  obtain ⟨fd, F⟩ := T.says.def_ 27 (d := d_l_seats_are) rfl
  refine ⟨fd, F, fnD F sc_l_seats_are (fun vs H Q E h => by
    obtain ⟨_, _, _, rfl, _⟩ := h
    rfl) fun cdv A outer s H vs Q E hr h => ?_⟩
  have hu := hu_of hr
  obtain ⟨f, w, ns, rfl, hf, hw, hn, kk⟩ := h
  refine ⟨_, (pss_cons (ps_if (PW.pt (pw_or (pt_not (pt_val (pe_callB call_isi (by rfl) (fr_isinstance T) (by decide +kernel) (pa_cons (pv 0) (pa_cons (pe_bltn (v := .ty "list") (by rfl) (fr_list T) (by decide +kernel) rfl) pa_nil))))) (pw_or1 (pt_cmpR op_ne (pe_callB call_lenS (by rfl) (fr_len T) (by decide +kernel) (pa_cons (pv 0) pa_nil)) (pe_callB call_lenS (by rfl) (fr_len T) (by decide +kernel) (pa_cons (pv 1) pa_nil)) (nomark _))))) (pss_one (ps_ret pe_bl)) pss_nil) (pss_cons (ps_for PassesOwn.never rfl (pi_range1 (by rfl) (fr_range T) (pa_cons (pe_callB call_lenS (by rfl) (fr_len T) (by decide +kernel) (pa_cons (pv 1) pa_nil)) pa_nil)) (pg_name (i := 2) sc_l_seats_are.nd rfl (by first | exact Or.inl rfl | exact Or.inr rfl)) (pss_one (ps_if (pt_not (pt_val (pe_cal c_l_number hr (by decide) (by rfl) pass0 (pa_cons (pe_ix ix_list (pv 0) (pv 2) (fun _ _ => rfl)) (pa_cons (pe_ix ix_list (pv 1) (pv 2) (fun _ _ => rfl)) pa_nil))))) (pss_one (ps_ret pe_bl)) pss_nil))) (pss_cons (ps_expr (pe_bm PySem.F.plainAttrs_list PySem.F.slot_list_append PySem.F.type_list_append mt_append (pv 0) (pa_cons (pe_un un_neg pe_int) pa_nil))) (pss_one (ps_ret pe_bl))))), ?_⟩
  rw [show L2.start n_l_seats_are [.ref f, .ref w] = [some (.ref f), some (.ref w), none] from rfl]
  try dsimp only [cxOf, Cx.nox, Cx.wish, List.map]

  have hf0 : ns.length ≤ 256 := hn
  have z1 : (!decide ((ns.length : Int) = ns.length)) = false := by simp
  wtm_at "rd"
  rw [z1]
  wtm_at "rd"
  refine forR_by (fun i σ H2 => (∃ v2, σ = [some (.ref f), some (.ref w), v2]) ∧ H2 = H) ⟨⟨_, rfl⟩, rfl⟩ ?_ ?_
  · rintro i σ H2 hi ⟨⟨v2, rfl⟩, rfl⟩
    have hi2 : i < ns.length := by simpa using hi
    have e : (ns.map V.int)[i]? = some (.int ns[i]) := by rw [List.getElem?_map, List.getElem?_eq_getElem hi2]; rfl
    wtm_at "rd"
    refine us_l_number ?_
    wtm_at "rd"
    exact ⟨⟨_, rfl⟩, rfl⟩
  · rintro σ H2 ⟨⟨v2, rfl⟩, rfl⟩
    wtm_at "rd"
    exact kk _ (Kp.refl.wr (by simp))
theorem c_l_seats_are (T : Cx K mg) (B : Tb K mg base) : CalX P w K mg base CX0 2 "_law_seats_are" (sp_l_seats_are K) [] := by
  obtain ⟨fd, F, ok⟩ := f_l_seats_are (P := P) (w := w) (base := base) T B
  exact ⟨_, fd, p_l_seats_are, [], ok, gl_l_seats_are T, F.kp, FunD.bindsN F fun _ _ _ _ _ _ us hl => match us, hl with | [_, _], _ => rfl, .nil⟩
end
section
variable {P : Program} {w : World} {K : PySem.W.Frag} {mg : Str → Option Value} {base : Heap}
def sp_l_group (K : PySem.W.Frag) : Sp := fun vs H Q E => ∃ (p c S hl tb : Addr) (s : Stg) (xs : List Int), vs = [.ref p, .int s.bits, .int s.pat, .ref hl, .ref tb] ∧ (Purse H p c) ∧ (SetAt K H S s) ∧ (H hl = some (.lst (xs.map V.int))) ∧ (TabL H tb s.bits xs) ∧ (xs.Nodup) ∧ (∀ z, z ∈ xs → 0 ≤ z ∧ z < 2 ^ s.bits.toNat) ∧ (1 ≤ xs.length ∧ xs.length ≤ 60) ∧ (1 ≤ s.bits ∧ s.bits ≤ 8) ∧ (1 ≤ s.pat ∧ s.pat ≤ 6) ∧ (∀ (a : PL) H1, GS H1 hl tb s xs a 0 (fun y => decide (y ∈ a.os), fun _ => 0) (fun _ => 0) → Purse H1 p c → Kp [p] H H1 → (∀ z, z ∈ a.dg → H z = none) → H a.og = none → Q (.ref a.g) H1)
theorem us_l_group {K : PySem.W.Frag} {H : Hp} {Q : VK} {E : XK} {p c S hl tb : Addr} {s : Stg} {xs : List Int} (hB : Purse H p c) (hS : SetAt K H S s) (hh : H hl = some (.lst (xs.map V.int))) (hT : TabL H tb s.bits xs) (nd : xs.Nodup) (rng : ∀ z, z ∈ xs → 0 ≤ z ∧ z < 2 ^ s.bits.toNat) (xl : 1 ≤ xs.length ∧ xs.length ≤ 60) (b : 1 ≤ s.bits ∧ s.bits ≤ 8) (pp : 1 ≤ s.pat ∧ s.pat ≤ 6) (kk : ∀ (a : PL) H1, GS H1 hl tb s xs a 0 (fun y => decide (y ∈ a.os), fun _ => 0) (fun _ => 0) → Purse H1 p c → Kp [p] H H1 → (∀ z, z ∈ a.dg → H z = none) → H a.og = none → Q (.ref a.g) H1) : sp_l_group K [.ref p, .int s.bits, .int s.pat, .ref hl, .ref tb] H Q E := ⟨_, _, _, _, _, _, _, rfl, hB, hS, hh, hT, nd, rng, xl, b, pp, kk⟩
theorem f_l_group (T : Cx K mg) (B : Tb K mg base) : ∃ fd, FunD K "_law_group" "_law_group" (defArgs s_l_group) (defBody s_l_group) (defScope s_l_group) (d_l_group.dvs K) (d_l_group.kws K) (fAd K d_l_group.at_) fd ∧ FnOk P w K mg base CX0 5 (fAd K d_l_group.at_) fd p_l_group (sp_l_group K) := by
  have c_l_some := c_l_some (P := P) (w := w) (base := base) T B
  have c_l_start := c_l_start (P := P) (w := w) (base := base) T B
  have c_l_draw := c_l_draw (P := P) (w := w) (base := base) T B
  have c_l_delays := c_l_delays (P := P) (w := w) (base := base) T B
  have c_l_seats_are := c_l_seats_are (P := P) (w := w) (base := base) T B
  obtain ⟨fd, F⟩ := T.says.def_ 28 (d := d_l_group) rfl
  refine ⟨fd, F, fnD F sc_l_group (fun vs H Q E h => by
    obtain ⟨_, _, _, _, _, _, _, rfl, _⟩ := h
    rfl) fun cdv A outer s H vs Q E hr h => ?_⟩
  have hu := hu_of hr
  obtain ⟨p, c, S, hl, tb, s, xs, rfl, hB, hS, hh, hT, nd, rng, xl, b, pp, kk⟩ := h
  refine ⟨_, (pss_cons (ps_set (i := 5) sc_l_group.nd rfl (by first | exact Or.inl rfl | exact Or.inr rfl) (pe_op op_mul (pv 1) (pv 2))) (pss_cons (ps_set (i := 6) sc_l_group.nd rfl (by first | exact Or.inl rfl | exact Or.inr rfl) (pe_disp (pps_cons pe_str (pv 1) (pps_cons pe_str (pv 2) (pps_cons pe_str (pv 3) (pps_cons pe_str (pv 4) (pps_cons pe_str pe_int pps_nil))))) (by rfl) (by rfl) (fun z => by cases z) (by decide))) (pss_cons (ps_dput hu (pv 6) pe_str (pe_cal c_l_some hr (by decide) (by rfl) pass0 (pa_cons (pv 0) (pa_cons (pv 3) pa_nil))) rfl) (pss_cons (ps_dput hu (pv 6) pe_str (pe_cal c_l_start hr (by decide) (by rfl) pass0 (pa_cons (pv 0) (pa_cons (pv 5) pa_nil))) rfl) (pss_cons (ps_dput hu (pv 6) pe_str pe_non rfl) (pss_cons (ps_set (i := 7) sc_l_group.nd rfl (by first | exact Or.inl rfl | exact Or.inr rfl) (pe_cal c_l_draw hr (by decide) (by rfl) pass0 (pa_cons (pv 0) (pa_cons pe_int pa_nil)))) (C8.pss_cut (ps_if (pt_cmpR op_gt (pv 7) pe_int (nomark _)) (pss_one (ps_dput hu (pv 6) pe_str (pe_cal c_l_draw hr (by decide) (by rfl) pass0 (pa_cons (pv 0) (pa_cons (pe_ix ix_list (pe_lst (pa_cons pe_int (pa_cons (pe_op op_add (pv 5) pe_int) pa_nil))) (pe_op op_sub (pv 7) pe_int) (fun _ _ => rfl)) pa_nil))) rfl)) pss_nil) (pss_cons (ps_dput hu (pv 6) pe_str (pe_cal c_l_delays hr (by decide) (by rfl) pass0 (pa_cons (pv 0) (pa_cons (pv 3) (pa_cons (pv 5) pa_nil)))) rfl) (pss_cons (ps_dput hu (pv 6) pe_str (pe_cmpR op_eq (pe_cal c_l_draw hr (by decide) (by rfl) pass0 (pa_cons (pv 0) (pa_cons pe_int pa_nil))) pe_int (nomark _)) rfl) (pss_cons (ps_dput hu (pv 6) pe_str (pe_cal c_l_draw hr (by decide) (by rfl) pass0 (pa_cons (pv 0) (pa_cons pe_int pa_nil))) rfl) (pss_cons (ps_set (i := 8) sc_l_group.nd rfl (by first | exact Or.inl rfl | exact Or.inr rfl) pe_dnewK) (pss_cons (ps_for PassesOwn.never rfl (pi_list (pe_dget hu (pv 6) pe_str (fun _ _ => rfl))) (pg_name (i := 9) sc_l_group.nd rfl (by first | exact Or.inl rfl | exact Or.inr rfl)) (pss_one (ps_dput hu (pv 8) (pv 9) pe_int rfl))) (pss_cons (ps_set (i := 10) sc_l_group.nd rfl (by first | exact Or.inl rfl | exact Or.inr rfl) pe_dnewK) (pss_cons (ps_for PassesOwn.never rfl (pi_list (pv 3)) (pg_name (i := 9) sc_l_group.nd rfl (by first | exact Or.inl rfl | exact Or.inr rfl)) (pss_one (ps_dput hu (pv 10) (pv 9) pe_int rfl))) (pss_cons (ps_dput hu (pv 6) pe_str (pv 8) rfl) (pss_cons (ps_dput hu (pv 6) pe_str (pv 10) rfl) (pss_one (ps_ret (pv 6))))))))))))))))))), ?_⟩
  rw [show L2.start n_l_group [.ref p, .int s.bits, .int s.pat, .ref hl, .ref tb] = [some (.ref p), some (.int s.bits), some (.int s.pat), some (.ref hl), some (.ref tb), none, none, none, none, none, none] from rfl]
  try dsimp only [cxOf, Cx.nox, Cx.wish, List.map]

  have tp := turn_pos b pp
  wtm_at "rd"
  intro gd ngd
  have eg : upd H gd (.dK []) gd = some (.dK []) := upd_same
  have kg : Kp [] H (upd H gd (.dK [])) := Kp.new ngd
  have ngp : gd ≠ p := Ne.symm (hB.ne1 ngd)
  have ngc : gd ≠ c := Ne.symm (hB.ne2 ngd)
  have ngd0 := ngd
  have B0 := hB.k0 kg
  have S0 := hS.k0 kg
  have hl0 := kg.g0 hh
  have T0 := hT.k0 kg
  have k : Kp [p] H (upd H gd (.dK [])) := kg.of0
  generalize upd H gd (.dK []) = H0 at *
  wtm_at "rd"
  refine ⟨eg, [(.inr "bits", .int s.bits), (.inr "patience", .int s.pat), (.inr "held", .ref hl), (.inr "table", .ref tb), (.inr "index", .int 0)], rfl, by simp, ?_⟩
  wtm_at "rd"
  have G0 : upd H0 gd (.dK (mergeK [] [(.inr "bits", .int s.bits), (.inr "patience", .int s.pat), (.inr "held", .ref hl), (.inr "table", .ref tb), (.inr "index", .int 0)])) gd = some (.dK [(.inr "bits", .int s.bits), (.inr "patience", .int s.pat), (.inr "held", .ref hl), (.inr "table", .ref tb), (.inr "index", .int 0)]) := upd_same
  have kg : Kp [gd] H0 (upd H0 gd (.dK (mergeK [] [(.inr "bits", .int s.bits), (.inr "patience", .int s.pat), (.inr "held", .ref hl), (.inr "table", .ref tb), (.inr "index", .int 0)]))) := Kp.refl.wr (by simp)
  have T1 := T0.kn eg (fun f e => by
    have := congrArg List.length e
    rw [dmap_len] at this
    simp at this
    omega) kg
  have S1 := S0.k1 kg (S0.nedK eg)
  have hl1 := kg.g1 (ne_of hl0 eg (by intro z; cases z)) hl0
  have B1 := B0.k1 kg (Ne.symm ngp) (Ne.symm ngc)
  have k := k.mine (o := .dK (mergeK [] [(.inr "bits", .int s.bits), (.inr "patience", .int s.pat), (.inr "held", .ref hl), (.inr "table", .ref tb), (.inr "index", .int 0)])) ngd0
  generalize upd H0 gd (.dK (mergeK [] [(.inr "bits", .int s.bits), (.inr "patience", .int s.pat), (.inr "held", .ref hl), (.inr "table", .ref tb), (.inr "index", .int 0)])) = H1 at *
  clear kg eg B0 S0 hl0 T0
  have P : PG K H1 S gd hl tb p c s xs [(.inr "patience", .int s.pat), (.inr "held", .ref hl), (.inr "table", .ref tb), (.inr "index", .int 0)] := ⟨G0, hl1, T1, S1, B1, ngp, ngc⟩
  clear G0 hl1 T1 S1 B1
  refine us_l_some P.purse P.held nd xl fun og os H2 og2 ond one osub B2 k2 nog => ?_
  have nog0 := P.purse.fr k nog
  have P := P.kp B2 k2
  have hg := P.at_
  have k := k.trans k2
  clear k2 B2
  wtm_at "rd"
  have e1 : putK ([(.inr "bits", .int s.bits), (.inr "patience", .int s.pat), (.inr "held", .ref hl), (.inr "table", .ref tb), (.inr "index", .int 0)] : List (Key × V)) (.inr "origins") (.ref og) = [(.inr "bits", .int s.bits), (.inr "patience", .int s.pat), (.inr "held", .ref hl), (.inr "table", .ref tb), (.inr "index", .int 0), (.inr "origins", .ref og)] := rfl
  rw [e1]
  have hg0 := P.at_
  have P := P.wr xl.1 [(.inr "patience", .int s.pat), (.inr "held", .ref hl), (.inr "table", .ref tb), (.inr "index", .int 0), (.inr "origins", .ref og)]
  have og2 : upd H2 gd (.dK ([(.inr "bits", .int s.bits), (.inr "patience", .int s.pat), (.inr "held", .ref hl), (.inr "table", .ref tb), (.inr "index", .int 0), (.inr "origins", .ref og)] : List (Key × V))) og = some (.lst (os.map V.int)) := hu_ne (ne_of og2 hg0 (by intro z; cases z)) og2
  have k := k.mine (o := .dK [(.inr "bits", .int s.bits), (.inr "patience", .int s.pat), (.inr "held", .ref hl), (.inr "table", .ref tb), (.inr "index", .int 0), (.inr "origins", .ref og)]) ngd0
  generalize upd H2 gd (.dK ([(.inr "bits", .int s.bits), (.inr "patience", .int s.pat), (.inr "held", .ref hl), (.inr "table", .ref tb), (.inr "index", .int 0), (.inr "origins", .ref og)] : List (Key × V))) = HX1 at *
  clear e1 hg0
  refine us_l_start P.purse tp fun start H3 B2 k2 => ?_
  have og2 := k2.g1 (P.purse.lst og2) og2
  have P := P.kp B2 k2
  have hg := P.at_
  have k := k.trans k2
  clear k2 B2
  wtm_at "rd"
  have e2 : putK ([(.inr "bits", .int s.bits), (.inr "patience", .int s.pat), (.inr "held", .ref hl), (.inr "table", .ref tb), (.inr "index", .int 0), (.inr "origins", .ref og)] : List (Key × V)) (.inr "start") (.int start) = [(.inr "bits", .int s.bits), (.inr "patience", .int s.pat), (.inr "held", .ref hl), (.inr "table", .ref tb), (.inr "index", .int 0), (.inr "origins", .ref og), (.inr "start", .int start)] := rfl
  rw [e2]
  have hg0 := P.at_
  have P := P.wr xl.1 [(.inr "patience", .int s.pat), (.inr "held", .ref hl), (.inr "table", .ref tb), (.inr "index", .int 0), (.inr "origins", .ref og), (.inr "start", .int start)]
  have og2 : upd H3 gd (.dK ([(.inr "bits", .int s.bits), (.inr "patience", .int s.pat), (.inr "held", .ref hl), (.inr "table", .ref tb), (.inr "index", .int 0), (.inr "origins", .ref og), (.inr "start", .int start)] : List (Key × V))) og = some (.lst (os.map V.int)) := hu_ne (ne_of og2 hg0 (by intro z; cases z)) og2
  have k := k.mine (o := .dK [(.inr "bits", .int s.bits), (.inr "patience", .int s.pat), (.inr "held", .ref hl), (.inr "table", .ref tb), (.inr "index", .int 0), (.inr "origins", .ref og), (.inr "start", .int start)]) ngd0
  generalize upd H3 gd (.dK ([(.inr "bits", .int s.bits), (.inr "patience", .int s.pat), (.inr "held", .ref hl), (.inr "table", .ref tb), (.inr "index", .int 0), (.inr "origins", .ref og), (.inr "start", .int start)] : List (Key × V))) = HX2 at *
  clear e2 hg0
  have hg := P.at_
  have e3 : putK ([(.inr "bits", .int s.bits), (.inr "patience", .int s.pat), (.inr "held", .ref hl), (.inr "table", .ref tb), (.inr "index", .int 0), (.inr "origins", .ref og), (.inr "start", .int start)] : List (Key × V)) (.inr "limit") (.non) = [(.inr "bits", .int s.bits), (.inr "patience", .int s.pat), (.inr "held", .ref hl), (.inr "table", .ref tb), (.inr "index", .int 0), (.inr "origins", .ref og), (.inr "start", .int start), (.inr "limit", ov none)] := rfl
  rw [e3]
  have hg0 := P.at_
  have P := P.wr xl.1 [(.inr "patience", .int s.pat), (.inr "held", .ref hl), (.inr "table", .ref tb), (.inr "index", .int 0), (.inr "origins", .ref og), (.inr "start", .int start), (.inr "limit", ov none)]
  have og2 : upd HX2 gd (.dK ([(.inr "bits", .int s.bits), (.inr "patience", .int s.pat), (.inr "held", .ref hl), (.inr "table", .ref tb), (.inr "index", .int 0), (.inr "origins", .ref og), (.inr "start", .int start), (.inr "limit", ov none)] : List (Key × V))) og = some (.lst (os.map V.int)) := hu_ne (ne_of og2 hg0 (by intro z; cases z)) og2
  have k := k.mine (o := .dK [(.inr "bits", .int s.bits), (.inr "patience", .int s.pat), (.inr "held", .ref hl), (.inr "table", .ref tb), (.inr "index", .int 0), (.inr "origins", .ref og), (.inr "start", .int start), (.inr "limit", ov none)]) ngd0
  generalize upd HX2 gd (.dK ([(.inr "bits", .int s.bits), (.inr "patience", .int s.pat), (.inr "held", .ref hl), (.inr "table", .ref tb), (.inr "index", .int 0), (.inr "origins", .ref og), (.inr "start", .int start), (.inr "limit", ov none)] : List (Key × V))) = HX3 at *
  clear e3 hg0
  have hg := P.at_
  wtm_at "rd"
  refine us_l_draw P.purse (by decide) (by decide) fun n4 H4 n40 n41 B2 k2 => ?_
  have og2 := k2.g1 (P.purse.lst og2) og2
  have P := P.kp B2 k2
  have hg := P.at_
  have k := k.trans k2
  clear k2 B2
  wtm_at "rd"
  refine rd_cut (fun σ H5 => (∃ v8 v9 v10, σ = [some (.ref p), some (.int s.bits), some (.int s.pat), some (.ref hl), some (.ref tb), some (.int (s.bits * s.pat)), some (.ref gd), some (.int n4), v8, v9, v10]) ∧ ∃ tl : Option Int, PG K H5 S gd hl tb p c s xs [(.inr "patience", .int s.pat), (.inr "held", .ref hl), (.inr "table", .ref tb), (.inr "index", .int 0), (.inr "origins", .ref og), (.inr "start", .int start), (.inr "limit", ov tl)] ∧ H5 og = some (.lst (os.map V.int)) ∧ Kp [p] H H5) ?_ ?_
  · wtm_at "rd"
    refine ite_d (fun h => ?_) (fun h => ?_)
    · obtain ⟨m5, hm5, at5⟩ := pickI [4, s.bits * s.pat + 2] (show 0 ≤ n4 - 1 by omega) (by simp; omega)
      have m5b : 1 ≤ m5 ∧ m5 ≤ 60 := by
        simp only [List.mem_cons, List.not_mem_nil, or_false] at hm5
        omega
      wtm_at "rd"
      refine ⟨sz1000 (by simp), fun t5 nt5 => ?_⟩
      have e5 : upd H4 t5 (.lst [.int 4, .int (s.bits * s.pat + 2)]) t5 = some (.lst (([4, s.bits * s.pat + 2] : List Int).map V.int)) := upd_same
      have kt : Kp [] H4 (upd H4 t5 (.lst [.int 4, .int (s.bits * s.pat + 2)])) := Kp.new nt5
      have P := P.kp (P.purse.k0 kt) kt.of0
      have og2 := kt.g0 og2
      have k := k.trans kt.of0
      generalize upd H4 t5 (.lst [.int 4, .int (s.bits * s.pat + 2)]) = H5 at *
      wtm_at "rd"
      refine us_l_draw P.purse (by omega) (by omega) fun n6 H6 n60 n61 B6 k6 => ?_
      have og2 := k6.g1 (P.purse.lst og2) og2
      have P := P.kp B6 k6
      have hg := P.at_
      have k := k.trans k6
      wtm_at "rd"
      refine ⟨⟨_, _, _, rfl⟩, some n6, P.wr xl.1 _, hu_ne (ne_of og2 hg (by intro z; cases z)) og2, k.mine ngd0⟩
    · wtm_at "rd"
      exact ⟨⟨_, _, _, rfl⟩, none, P, og2, k⟩
  clear hg P og2 k
  rintro σ H5 ⟨⟨v8, v9, v10, rfl⟩, tl, P, og2, k⟩
  have hh5 := P.held
  wtm_at "rd"
  refine us_l_delays P.purse tp P.held (by omega) fun dl ks df H6 hd kl B2 k2 ndl => ?_
  have ndg : dl ≠ gd := Ne.symm (ne_of_none P.at_ ndl)
  have ndl0 := P.purse.fr k ndl
  have og2 := k2.g1 (P.purse.lst og2) og2
  have P := P.kp B2 k2
  have hg := P.at_
  have k := k.trans k2
  clear k2 B2
  wtm_at "rd"
  have e4 : putK ([(.inr "bits", .int s.bits), (.inr "patience", .int s.pat), (.inr "held", .ref hl), (.inr "table", .ref tb), (.inr "index", .int 0), (.inr "origins", .ref og), (.inr "start", .int start), (.inr "limit", ov tl)] : List (Key × V)) (.inr "delays") (.ref dl) = [(.inr "bits", .int s.bits), (.inr "patience", .int s.pat), (.inr "held", .ref hl), (.inr "table", .ref tb), (.inr "index", .int 0), (.inr "origins", .ref og), (.inr "start", .int start), (.inr "limit", ov tl), (.inr "delays", .ref dl)] := rfl
  rw [e4]
  have hg0 := P.at_
  have P := P.wr xl.1 [(.inr "patience", .int s.pat), (.inr "held", .ref hl), (.inr "table", .ref tb), (.inr "index", .int 0), (.inr "origins", .ref og), (.inr "start", .int start), (.inr "limit", ov tl), (.inr "delays", .ref dl)]
  have og2 : upd H6 gd (.dK ([(.inr "bits", .int s.bits), (.inr "patience", .int s.pat), (.inr "held", .ref hl), (.inr "table", .ref tb), (.inr "index", .int 0), (.inr "origins", .ref og), (.inr "start", .int start), (.inr "limit", ov tl), (.inr "delays", .ref dl)] : List (Key × V))) og = some (.lst (os.map V.int)) := hu_ne (ne_of og2 hg0 (by intro z; cases z)) og2
  have hd : upd H6 gd (.dK ([(.inr "bits", .int s.bits), (.inr "patience", .int s.pat), (.inr "held", .ref hl), (.inr "table", .ref tb), (.inr "index", .int 0), (.inr "origins", .ref og), (.inr "start", .int start), (.inr "limit", ov tl), (.inr "delays", .ref dl)] : List (Key × V))) dl = some (.dK (dmap ks fun x => V.int (df x))) := hu_ne ndg hd
  have k := k.mine (o := .dK [(.inr "bits", .int s.bits), (.inr "patience", .int s.pat), (.inr "held", .ref hl), (.inr "table", .ref tb), (.inr "index", .int 0), (.inr "origins", .ref og), (.inr "start", .int start), (.inr "limit", ov tl), (.inr "delays", .ref dl)]) ngd0
  generalize upd H6 gd (.dK ([(.inr "bits", .int s.bits), (.inr "patience", .int s.pat), (.inr "held", .ref hl), (.inr "table", .ref tb), (.inr "index", .int 0), (.inr "origins", .ref og), (.inr "start", .int start), (.inr "limit", ov tl), (.inr "delays", .ref dl)] : List (Key × V))) = HX4 at *
  clear e4 hg0
  refine us_l_draw P.purse (by decide) (by decide) fun n7 H7 n70 n71 B2 k2 => ?_
  have og2 := k2.g1 (P.purse.lst og2) og2
  have hd := k2.g1 (P.purse.dm hd) hd
  have P := P.kp B2 k2
  have hg := P.at_
  have k := k.trans k2
  clear k2 B2
  wtm_at "rd"
  have e5 : putK ([(.inr "bits", .int s.bits), (.inr "patience", .int s.pat), (.inr "held", .ref hl), (.inr "table", .ref tb), (.inr "index", .int 0), (.inr "origins", .ref og), (.inr "start", .int start), (.inr "limit", ov tl), (.inr "delays", .ref dl)] : List (Key × V)) (.inr "plain") (.bl (decide (n7 = 0))) = [(.inr "bits", .int s.bits), (.inr "patience", .int s.pat), (.inr "held", .ref hl), (.inr "table", .ref tb), (.inr "index", .int 0), (.inr "origins", .ref og), (.inr "start", .int start), (.inr "limit", ov tl), (.inr "delays", .ref dl), (.inr "plain", .bl (decide (n7 = 0)))] := rfl
  rw [e5]
  have hg0 := P.at_
  have P := P.wr xl.1 [(.inr "patience", .int s.pat), (.inr "held", .ref hl), (.inr "table", .ref tb), (.inr "index", .int 0), (.inr "origins", .ref og), (.inr "start", .int start), (.inr "limit", ov tl), (.inr "delays", .ref dl), (.inr "plain", .bl (decide (n7 = 0)))]
  have og2 : upd H7 gd (.dK ([(.inr "bits", .int s.bits), (.inr "patience", .int s.pat), (.inr "held", .ref hl), (.inr "table", .ref tb), (.inr "index", .int 0), (.inr "origins", .ref og), (.inr "start", .int start), (.inr "limit", ov tl), (.inr "delays", .ref dl), (.inr "plain", .bl (decide (n7 = 0)))] : List (Key × V))) og = some (.lst (os.map V.int)) := hu_ne (ne_of og2 hg0 (by intro z; cases z)) og2
  have hd : upd H7 gd (.dK ([(.inr "bits", .int s.bits), (.inr "patience", .int s.pat), (.inr "held", .ref hl), (.inr "table", .ref tb), (.inr "index", .int 0), (.inr "origins", .ref og), (.inr "start", .int start), (.inr "limit", ov tl), (.inr "delays", .ref dl), (.inr "plain", .bl (decide (n7 = 0)))] : List (Key × V))) dl = some (.dK (dmap ks fun x => V.int (df x))) := hu_ne ndg hd
  have k := k.mine (o := .dK [(.inr "bits", .int s.bits), (.inr "patience", .int s.pat), (.inr "held", .ref hl), (.inr "table", .ref tb), (.inr "index", .int 0), (.inr "origins", .ref og), (.inr "start", .int start), (.inr "limit", ov tl), (.inr "delays", .ref dl), (.inr "plain", .bl (decide (n7 = 0)))]) ngd0
  generalize upd H7 gd (.dK ([(.inr "bits", .int s.bits), (.inr "patience", .int s.pat), (.inr "held", .ref hl), (.inr "table", .ref tb), (.inr "index", .int 0), (.inr "origins", .ref og), (.inr "start", .int start), (.inr "limit", ov tl), (.inr "delays", .ref dl), (.inr "plain", .bl (decide (n7 = 0)))] : List (Key × V))) = HX5 at *
  clear e5 hg0
  refine us_l_draw P.purse (by decide) (by decide) fun n8 H8 n80 n81 B2 k2 => ?_
  have og2 := k2.g1 (P.purse.lst og2) og2
  have hd := k2.g1 (P.purse.dm hd) hd
  have P := P.kp B2 k2
  have hg := P.at_
  have k := k.trans k2
  clear k2 B2
  wtm_at "rd"
  have e6 : putK ([(.inr "bits", .int s.bits), (.inr "patience", .int s.pat), (.inr "held", .ref hl), (.inr "table", .ref tb), (.inr "index", .int 0), (.inr "origins", .ref og), (.inr "start", .int start), (.inr "limit", ov tl), (.inr "delays", .ref dl), (.inr "plain", .bl (decide (n7 = 0)))] : List (Key × V)) (.inr "losing") (.int n8) = [(.inr "bits", .int s.bits), (.inr "patience", .int s.pat), (.inr "held", .ref hl), (.inr "table", .ref tb), (.inr "index", .int 0), (.inr "origins", .ref og), (.inr "start", .int start), (.inr "limit", ov tl), (.inr "delays", .ref dl), (.inr "plain", .bl (decide (n7 = 0))), (.inr "losing", .int n8)] := rfl
  rw [e6]
  have hg0 := P.at_
  have P := P.wr xl.1 [(.inr "patience", .int s.pat), (.inr "held", .ref hl), (.inr "table", .ref tb), (.inr "index", .int 0), (.inr "origins", .ref og), (.inr "start", .int start), (.inr "limit", ov tl), (.inr "delays", .ref dl), (.inr "plain", .bl (decide (n7 = 0))), (.inr "losing", .int n8)]
  have og2 : upd H8 gd (.dK ([(.inr "bits", .int s.bits), (.inr "patience", .int s.pat), (.inr "held", .ref hl), (.inr "table", .ref tb), (.inr "index", .int 0), (.inr "origins", .ref og), (.inr "start", .int start), (.inr "limit", ov tl), (.inr "delays", .ref dl), (.inr "plain", .bl (decide (n7 = 0))), (.inr "losing", .int n8)] : List (Key × V))) og = some (.lst (os.map V.int)) := hu_ne (ne_of og2 hg0 (by intro z; cases z)) og2
  have hd : upd H8 gd (.dK ([(.inr "bits", .int s.bits), (.inr "patience", .int s.pat), (.inr "held", .ref hl), (.inr "table", .ref tb), (.inr "index", .int 0), (.inr "origins", .ref og), (.inr "start", .int start), (.inr "limit", ov tl), (.inr "delays", .ref dl), (.inr "plain", .bl (decide (n7 = 0))), (.inr "losing", .int n8)] : List (Key × V))) dl = some (.dK (dmap ks fun x => V.int (df x))) := hu_ne ndg hd
  have k := k.mine (o := .dK [(.inr "bits", .int s.bits), (.inr "patience", .int s.pat), (.inr "held", .ref hl), (.inr "table", .ref tb), (.inr "index", .int 0), (.inr "origins", .ref og), (.inr "start", .int start), (.inr "limit", ov tl), (.inr "delays", .ref dl), (.inr "plain", .bl (decide (n7 = 0))), (.inr "losing", .int n8)]) ngd0
  generalize upd H8 gd (.dK ([(.inr "bits", .int s.bits), (.inr "patience", .int s.pat), (.inr "held", .ref hl), (.inr "table", .ref tb), (.inr "index", .int 0), (.inr "origins", .ref og), (.inr "start", .int start), (.inr "limit", ov tl), (.inr "delays", .ref dl), (.inr "plain", .bl (decide (n7 = 0))), (.inr "losing", .int n8)] : List (Key × V))) = HX6 at *
  clear e6 hg0
  wtm_at "rd"
  intro tm ntm

  have ntm0 := P.purse.fr k ntm
  have ntmg : tm ≠ gd := Ne.symm (ne_of_none P.at_ ntm)
  have ntmd : tm ≠ dl := Ne.symm (ne_of_none hd ntm)
  have kt : Kp [] HX6 (upd HX6 tm (.dK [])) := Kp.new ntm
  have m1 : upd HX6 tm (.dK []) tm = some (.dK (dmap (os.take 0) fun _ => V.int 0)) := upd_same
  have hg1 := kt.g0 P.at_
  have lf := kt.g0 og2
  generalize upd HX6 tm (.dK []) = HT at *
  wtm_at "rd"
  refine forL_ints (K := K) os (fun i σ H9 => (∃ v9, σ = [some (.ref p), some (.int s.bits), some (.int s.pat), some (.ref hl), some (.ref tb), some (.int (s.bits * s.pat)), some (.ref gd), some (.int n4), some (.ref tm), v9, v10]) ∧ H9 tm = some (.dK (dmap (os.take i) fun _ => V.int 0)) ∧ Kp [tm] HT H9) ⟨⟨_, rfl⟩, m1, Kp.refl⟩ (fun i σ H9 _ z => SqL.of (z.2.2.g1 (ne_of lf m1 (by intro z; cases z)) lf)) ?_ ?_
  · rintro i hi σ H9 ⟨⟨v9, rfl⟩, m9, k9⟩
    have ol := List.Nodup.length_le_of_subset ond (fun z hz => osub z hz)
    have sk : (dmap (os.take i) fun _ => V.int 0).length < sizeLine := szlt (by rw [dmap_len, List.length_take]; omega)
    wtm_at "rd"
    refine ⟨⟨_, rfl⟩, ?_, k9.wr (by simp)⟩
    rw [upd_same, dmap_const (nd_take ond hi), List.take_succ_eq_append_getElem hi]
  rintro σ Htm ⟨⟨v9, rfl⟩, htm, k9⟩
  rw [List.take_length] at htm
  have kA : Kp [] HX6 Htm := fun b o hb hn => k9 _ _ (kt _ _ hb hn) (by simpa using ne_of_none hb ntm)
  have P := P.kp (P.purse.k0 kA) kA.of0
  have og2 := kA.g0 og2
  have hd := kA.g0 hd
  have k := k.trans kA.of0
  clear kA k9 kt m1 lf hg1
  wtm_at "rd"
  intro sp nsp
  have ntsp : tm ≠ sp := ne_of_none htm nsp
  have nsp0 := P.purse.fr k nsp
  have nspg : sp ≠ gd := Ne.symm (ne_of_none P.at_ nsp)
  have nspd : sp ≠ dl := Ne.symm (ne_of_none hd nsp)
  have kt : Kp [] Htm (upd Htm sp (.dK [])) := Kp.new nsp
  have m1 : upd Htm sp (.dK []) sp = some (.dK (dmap (xs.take 0) fun _ => V.int 0)) := upd_same
  have hg1 := kt.g0 P.at_
  have lf := kt.g0 P.held
  generalize upd Htm sp (.dK []) = HT at *
  wtm_at "rd"
  refine forL_ints (K := K) xs (fun i σ H9 => (∃ v9, σ = [some (.ref p), some (.int s.bits), some (.int s.pat), some (.ref hl), some (.ref tb), some (.int (s.bits * s.pat)), some (.ref gd), some (.int n4), some (.ref tm), v9, some (.ref sp)]) ∧ H9 sp = some (.dK (dmap (xs.take i) fun _ => V.int 0)) ∧ Kp [sp] HT H9) ⟨⟨_, rfl⟩, m1, Kp.refl⟩ (fun i σ H9 _ z => SqL.of (z.2.2.g1 (ne_of lf m1 (by intro z; cases z)) lf)) ?_ ?_
  · rintro i hi σ H9 ⟨⟨v9, rfl⟩, m9, k9⟩
    have ol := List.Nodup.length_le_of_subset nd (fun z hz => (fun z (h : z ∈ xs) => h) z hz)
    have sk : (dmap (xs.take i) fun _ => V.int 0).length < sizeLine := szlt (by rw [dmap_len, List.length_take]; omega)
    wtm_at "rd"
    refine ⟨⟨_, rfl⟩, ?_, k9.wr (by simp)⟩
    rw [upd_same, dmap_const (nd_take nd hi), List.take_succ_eq_append_getElem hi]
  rintro σ Hsp ⟨⟨v9, rfl⟩, hsp, k9⟩
  rw [List.take_length] at hsp
  have kA : Kp [] Htm Hsp := fun b o hb hn => k9 _ _ (kt _ _ hb hn) (by simpa using ne_of_none hb nsp)
  have P := P.kp (P.purse.k0 kA) kA.of0
  have og2 := kA.g0 og2
  have hd := kA.g0 hd
  have k := k.trans kA.of0
  have htm := kA.g0 htm
  clear kA k9 kt m1 lf hg1
  have hg := P.at_
  wtm_at "rd"
  have e7 : putK ([(.inr "bits", .int s.bits), (.inr "patience", .int s.pat), (.inr "held", .ref hl), (.inr "table", .ref tb), (.inr "index", .int 0), (.inr "origins", .ref og), (.inr "start", .int start), (.inr "limit", ov tl), (.inr "delays", .ref dl), (.inr "plain", .bl (decide (n7 = 0))), (.inr "losing", .int n8)] : List (Key × V)) (.inr "times") (.ref tm) = [(.inr "bits", .int s.bits), (.inr "patience", .int s.pat), (.inr "held", .ref hl), (.inr "table", .ref tb), (.inr "index", .int 0), (.inr "origins", .ref og), (.inr "start", .int start), (.inr "limit", ov tl), (.inr "delays", .ref dl), (.inr "plain", .bl (decide (n7 = 0))), (.inr "losing", .int n8), (.inr "times", .ref tm)] := rfl
  rw [e7]
  have hg0 := P.at_
  have P := P.wr xl.1 [(.inr "patience", .int s.pat), (.inr "held", .ref hl), (.inr "table", .ref tb), (.inr "index", .int 0), (.inr "origins", .ref og), (.inr "start", .int start), (.inr "limit", ov tl), (.inr "delays", .ref dl), (.inr "plain", .bl (decide (n7 = 0))), (.inr "losing", .int n8), (.inr "times", .ref tm)]
  have og2 : upd Hsp gd (.dK ([(.inr "bits", .int s.bits), (.inr "patience", .int s.pat), (.inr "held", .ref hl), (.inr "table", .ref tb), (.inr "index", .int 0), (.inr "origins", .ref og), (.inr "start", .int start), (.inr "limit", ov tl), (.inr "delays", .ref dl), (.inr "plain", .bl (decide (n7 = 0))), (.inr "losing", .int n8), (.inr "times", .ref tm)] : List (Key × V))) og = some (.lst (os.map V.int)) := hu_ne (ne_of og2 hg0 (by intro z; cases z)) og2
  have hd : upd Hsp gd (.dK ([(.inr "bits", .int s.bits), (.inr "patience", .int s.pat), (.inr "held", .ref hl), (.inr "table", .ref tb), (.inr "index", .int 0), (.inr "origins", .ref og), (.inr "start", .int start), (.inr "limit", ov tl), (.inr "delays", .ref dl), (.inr "plain", .bl (decide (n7 = 0))), (.inr "losing", .int n8), (.inr "times", .ref tm)] : List (Key × V))) dl = some (.dK (dmap ks fun x => V.int (df x))) := hu_ne ndg hd
  have htm : upd Hsp gd (.dK ([(.inr "bits", .int s.bits), (.inr "patience", .int s.pat), (.inr "held", .ref hl), (.inr "table", .ref tb), (.inr "index", .int 0), (.inr "origins", .ref og), (.inr "start", .int start), (.inr "limit", ov tl), (.inr "delays", .ref dl), (.inr "plain", .bl (decide (n7 = 0))), (.inr "losing", .int n8), (.inr "times", .ref tm)] : List (Key × V))) tm = some (.dK (dmap os fun _ => V.int 0)) := hu_ne ntmg htm
  have hsp : upd Hsp gd (.dK ([(.inr "bits", .int s.bits), (.inr "patience", .int s.pat), (.inr "held", .ref hl), (.inr "table", .ref tb), (.inr "index", .int 0), (.inr "origins", .ref og), (.inr "start", .int start), (.inr "limit", ov tl), (.inr "delays", .ref dl), (.inr "plain", .bl (decide (n7 = 0))), (.inr "losing", .int n8), (.inr "times", .ref tm)] : List (Key × V))) sp = some (.dK (dmap xs fun _ => V.int 0)) := hu_ne nspg hsp
  have k := k.mine (o := .dK [(.inr "bits", .int s.bits), (.inr "patience", .int s.pat), (.inr "held", .ref hl), (.inr "table", .ref tb), (.inr "index", .int 0), (.inr "origins", .ref og), (.inr "start", .int start), (.inr "limit", ov tl), (.inr "delays", .ref dl), (.inr "plain", .bl (decide (n7 = 0))), (.inr "losing", .int n8), (.inr "times", .ref tm)]) ngd0
  generalize upd Hsp gd (.dK ([(.inr "bits", .int s.bits), (.inr "patience", .int s.pat), (.inr "held", .ref hl), (.inr "table", .ref tb), (.inr "index", .int 0), (.inr "origins", .ref og), (.inr "start", .int start), (.inr "limit", ov tl), (.inr "delays", .ref dl), (.inr "plain", .bl (decide (n7 = 0))), (.inr "losing", .int n8), (.inr "times", .ref tm)] : List (Key × V))) = HX7 at *
  clear e7 hg0
  have hg := P.at_
  wtm_at "rd"
  have e8 : putK ([(.inr "bits", .int s.bits), (.inr "patience", .int s.pat), (.inr "held", .ref hl), (.inr "table", .ref tb), (.inr "index", .int 0), (.inr "origins", .ref og), (.inr "start", .int start), (.inr "limit", ov tl), (.inr "delays", .ref dl), (.inr "plain", .bl (decide (n7 = 0))), (.inr "losing", .int n8), (.inr "times", .ref tm)] : List (Key × V)) (.inr "spent") (.ref sp) = [(.inr "bits", .int s.bits), (.inr "patience", .int s.pat), (.inr "held", .ref hl), (.inr "table", .ref tb), (.inr "index", .int 0), (.inr "origins", .ref og), (.inr "start", .int start), (.inr "limit", ov tl), (.inr "delays", .ref dl), (.inr "plain", .bl (decide (n7 = 0))), (.inr "losing", .int n8), (.inr "times", .ref tm), (.inr "spent", .ref sp)] := rfl
  rw [e8]
  have hg0 := P.at_
  have P := P.wr xl.1 [(.inr "patience", .int s.pat), (.inr "held", .ref hl), (.inr "table", .ref tb), (.inr "index", .int 0), (.inr "origins", .ref og), (.inr "start", .int start), (.inr "limit", ov tl), (.inr "delays", .ref dl), (.inr "plain", .bl (decide (n7 = 0))), (.inr "losing", .int n8), (.inr "times", .ref tm), (.inr "spent", .ref sp)]
  have og2 : upd HX7 gd (.dK ([(.inr "bits", .int s.bits), (.inr "patience", .int s.pat), (.inr "held", .ref hl), (.inr "table", .ref tb), (.inr "index", .int 0), (.inr "origins", .ref og), (.inr "start", .int start), (.inr "limit", ov tl), (.inr "delays", .ref dl), (.inr "plain", .bl (decide (n7 = 0))), (.inr "losing", .int n8), (.inr "times", .ref tm), (.inr "spent", .ref sp)] : List (Key × V))) og = some (.lst (os.map V.int)) := hu_ne (ne_of og2 hg0 (by intro z; cases z)) og2
  have hd : upd HX7 gd (.dK ([(.inr "bits", .int s.bits), (.inr "patience", .int s.pat), (.inr "held", .ref hl), (.inr "table", .ref tb), (.inr "index", .int 0), (.inr "origins", .ref og), (.inr "start", .int start), (.inr "limit", ov tl), (.inr "delays", .ref dl), (.inr "plain", .bl (decide (n7 = 0))), (.inr "losing", .int n8), (.inr "times", .ref tm), (.inr "spent", .ref sp)] : List (Key × V))) dl = some (.dK (dmap ks fun x => V.int (df x))) := hu_ne ndg hd
  have htm : upd HX7 gd (.dK ([(.inr "bits", .int s.bits), (.inr "patience", .int s.pat), (.inr "held", .ref hl), (.inr "table", .ref tb), (.inr "index", .int 0), (.inr "origins", .ref og), (.inr "start", .int start), (.inr "limit", ov tl), (.inr "delays", .ref dl), (.inr "plain", .bl (decide (n7 = 0))), (.inr "losing", .int n8), (.inr "times", .ref tm), (.inr "spent", .ref sp)] : List (Key × V))) tm = some (.dK (dmap os fun _ => V.int 0)) := hu_ne ntmg htm
  have hsp : upd HX7 gd (.dK ([(.inr "bits", .int s.bits), (.inr "patience", .int s.pat), (.inr "held", .ref hl), (.inr "table", .ref tb), (.inr "index", .int 0), (.inr "origins", .ref og), (.inr "start", .int start), (.inr "limit", ov tl), (.inr "delays", .ref dl), (.inr "plain", .bl (decide (n7 = 0))), (.inr "losing", .int n8), (.inr "times", .ref tm), (.inr "spent", .ref sp)] : List (Key × V))) sp = some (.dK (dmap xs fun _ => V.int 0)) := hu_ne nspg hsp
  have k := k.mine (o := .dK [(.inr "bits", .int s.bits), (.inr "patience", .int s.pat), (.inr "held", .ref hl), (.inr "table", .ref tb), (.inr "index", .int 0), (.inr "origins", .ref og), (.inr "start", .int start), (.inr "limit", ov tl), (.inr "delays", .ref dl), (.inr "plain", .bl (decide (n7 = 0))), (.inr "losing", .int n8), (.inr "times", .ref tm), (.inr "spent", .ref sp)]) ngd0
  generalize upd HX7 gd (.dK ([(.inr "bits", .int s.bits), (.inr "patience", .int s.pat), (.inr "held", .ref hl), (.inr "table", .ref tb), (.inr "index", .int 0), (.inr "origins", .ref og), (.inr "start", .int start), (.inr "limit", ov tl), (.inr "delays", .ref dl), (.inr "plain", .bl (decide (n7 = 0))), (.inr "losing", .int n8), (.inr "times", .ref tm), (.inr "spent", .ref sp)] : List (Key × V))) = HX8 at *
  clear e8 hg0
  wtm_at "rd"
  obtain ⟨f, f1, f2⟩ := id hT
  have f1' := k.g1 (hB.lst f1) f1
  refine kk ⟨gd, gd, og, dl, gd, gd, gd, gd, tm, sp, start, n8, tl, decide (n7 = 0), os, ks, df, fun _ => gd⟩ _ ⟨⟨P.at_, P.held, P.table, og2, hd, nd, rng, xl, ond, osub, one, kl, b, pp⟩, ⟨os, htm, ond, fun y => ⟨fun h => ⟨osub y h, decide_eq_true h⟩, fun h => of_decide_eq_true h.2⟩⟩, hsp, ntsp, ?_⟩ P.purse k ?_ ?_
  · refine ⟨fun q hq => ?_, fun l ln e1 e2 => ?_⟩
    · simp only [List.mem_cons, List.not_mem_nil, or_false] at hq
      rcases hq with rfl | rfl
      · exact ⟨⟨_, _, htm⟩, ntmd⟩
      · exact ⟨⟨_, _, hsp⟩, nspd⟩
    · rw [f1'] at e1
      injection e1 with e1
      injection e1 with e1
      rw [← e1] at e2
      obtain ⟨i, hi, e3⟩ := List.mem_map.mp e2
      injection e3 with e3
      subst e3
      have h3 := f2 i (List.mem_range.mp hi)
      simp only [List.mem_cons, List.not_mem_nil, or_false, not_or]
      exact ⟨ne_of_none h3 ntm0, ne_of_none h3 nsp0⟩
  · intro z hz
    simp only [List.mem_cons, List.not_mem_nil, or_false] at hz
    rcases hz with rfl | rfl | rfl | rfl
    · exact ngd0
    · exact ndl0
    · exact ntm0
    · exact nsp0
  · exact nog0
theorem c_l_group (T : Cx K mg) (B : Tb K mg base) : CalX P w K mg base CX0 5 "_law_group" (sp_l_group K) [] := by
  obtain ⟨fd, F, ok⟩ := f_l_group (P := P) (w := w) (base := base) T B
  exact ⟨_, fd, p_l_group, [], ok, gl_l_group T, F.kp, FunD.bindsN F fun _ _ _ _ _ _ us hl => match us, hl with | [_, _, _, _, _], _ => rfl, .nil⟩
end
section
variable {P : Program} {w : World} {K : PySem.W.Frag} {mg : Str → Option Value} {base : Heap}
def sp_l_spread (K : PySem.W.Frag) : Sp := fun vs H Q E => ∃ (S shd g lo ld hl tb og dl : Addr) (e : Ext) (s : Stg) (start : Int) (xs os ks : List Int) (df : Int → Int), vs = [.ref S, .ref shd, .ref g, .ref lo, .ref ld] ∧ (Grp H e g hl tb og dl s.bits s.pat start xs os ks df) ∧ (SetAt K H S s) ∧ (H shd = some (.lst (xs.map V.int))) ∧ (H lo = some (.lst (os.map V.int))) ∧ (H ld = some (.dK (dmap ks fun x => V.int (df x)))) ∧ (∀ q sh tq md sn H1, Sprd K H1 q S sh tq md sn s xs ks df start e.tl 0 (fun y => decide (y ∈ os), fun _ => 0) (fun _ => 0) → Kp [] H H1 → H q = none → H sh = none → H tq = none → H md = none → H sn = none → TabF H H1 tq xs → Q (.ref q) H1)
theorem us_l_spread {K : PySem.W.Frag} {H : Hp} {Q : VK} {E : XK} {S shd g lo ld hl tb og dl : Addr} {e : Ext} {s : Stg} {start : Int} {xs os ks : List Int} {df : Int → Int} (G : Grp H e g hl tb og dl s.bits s.pat start xs os ks df) (hS : SetAt K H S s) (hsd : H shd = some (.lst (xs.map V.int))) (ho : H lo = some (.lst (os.map V.int))) (hd : H ld = some (.dK (dmap ks fun x => V.int (df x)))) (kk : ∀ q sh tq md sn H1, Sprd K H1 q S sh tq md sn s xs ks df start e.tl 0 (fun y => decide (y ∈ os), fun _ => 0) (fun _ => 0) → Kp [] H H1 → H q = none → H sh = none → H tq = none → H md = none → H sn = none → TabF H H1 tq xs → Q (.ref q) H1) : sp_l_spread K [.ref S, .ref shd, .ref g, .ref lo, .ref ld] H Q E := ⟨_, _, _, _, _, _, _, _, _, _, _, _, _, _, _, _, rfl, G, hS, hsd, ho, hd, kk⟩
theorem f_l_spread (T : Cx K mg) (B : Tb K mg base) : ∃ fd, FunD K "_law_spread" "_law_spread" (defArgs s_l_spread) (defBody s_l_spread) (defScope s_l_spread) (d_l_spread.dvs K) (d_l_spread.kws K) (fAd K d_l_spread.at_) fd ∧ FnOk P w K mg base CX0 10 (fAd K d_l_spread.at_) fd p_l_spread (sp_l_spread K) := by
  have c_Spread_init := c_Spread_init (P := P) (w := w) (base := base) T B
  have c_Spread_init_shifts := c_Spread_init_shifts (P := P) (w := w) (base := base) T B
  have c_Spread_init_tellings := c_Spread_init_tellings (P := P) (w := w) (base := base) T B
  have c_Spread_init_tellings_shifts := c_Spread_init_tellings_shifts (P := P) (w := w) (base := base) T B
  have c_l_seats_are := c_l_seats_are (P := P) (w := w) (base := base) T B
  obtain ⟨fd, F⟩ := T.says.def_ 29 (d := d_l_spread) rfl
  refine ⟨fd, F, fnD F sc_l_spread (fun vs H Q E h => by
    obtain ⟨_, _, _, _, _, _, _, _, _, _, _, _, _, _, _, _, rfl, _⟩ := h
    rfl) fun cdv A outer s H vs Q E hr h => ?_⟩
  have hu := hu_of hr
  obtain ⟨S, shd, g, lo, ld, hl, tb, og, dl, e, s, start, xs, os, ks, df, rfl, G, hS, hsd, ho, hd, kk⟩ := h
  refine ⟨_, (pss_cons (ps_set (i := 5) sc_l_spread.nd rfl (by first | exact Or.inl rfl | exact Or.inr rfl) (pe_dget hu (pv 2) pe_str (fun _ _ => rfl))) (pss_cons (ps_set (i := 6) sc_l_spread.nd rfl (by first | exact Or.inl rfl | exact Or.inr rfl) (pe_dget hu (pv 2) pe_str (fun _ _ => rfl))) (pss_cons (ps_if (PW.pt (pw_and (pt_cmp (pc_isN (pv 6))) (pw_and1 (pt_cmpR op_eq (pe_callB call_lenD' (by rfl) (fr_len T) (by decide +kernel) (pa_cons (pv 4) pa_nil)) pe_int (nomark _))))) (pss_cons (ps_if (pt_val (pe_dget hu (pv 2) pe_str (fun _ _ => rfl))) (pss_one (ps_ret (pe_mak c_Spread_init hr (by decide) (by rfl) pass0 (pa_cons (pv 0) (pa_cons (pv 1) (pa_cons (pv 3) (pa_cons (pv 5) pa_nil))))))) pss_nil) (pss_one (ps_ret (pe_makKX c_Spread_init_tellings_shifts hr (by decide) (by rfl) pass0 (pa_cons (pv 0) (pa_cons (pv 1) (pa_cons (pv 3) (pa_cons (pv 5) pa_nil)))) (pk_cons pe_non (pk_cons pe_non pk_nil)))))) pss_nil) (pss_cons (ps_if (pt_cmpR op_eq (pe_callB call_lenD' (by rfl) (fr_len T) (by decide +kernel) (pa_cons (pv 4) pa_nil)) pe_int (nomark _)) (pss_one (ps_ret (pe_makKX c_Spread_init_tellings hr (by decide) (by rfl) pass0 (pa_cons (pv 0) (pa_cons (pv 1) (pa_cons (pv 3) (pa_cons (pv 5) pa_nil)))) (pk_cons (pv 6) pk_nil)))) pss_nil) (pss_cons (ps_if (pt_cmp (pc_isN (pv 6))) (pss_one (ps_ret (pe_makKX c_Spread_init_shifts hr (by decide) (by rfl) pass0 (pa_cons (pv 0) (pa_cons (pv 1) (pa_cons (pv 3) (pa_cons (pv 5) pa_nil)))) (pk_cons (pv 4) pk_nil)))) pss_nil) (pss_one (ps_ret (pe_makKX c_Spread_init_tellings_shifts hr (by decide) (by rfl) pass0 (pa_cons (pv 0) (pa_cons (pv 1) (pa_cons (pv 3) (pa_cons (pv 5) pa_nil)))) (pk_cons (pv 6) (pk_cons (pv 4) pk_nil)))))))))), ?_⟩
  rw [show L2.start n_l_spread [.ref S, .ref shd, .ref g, .ref lo, .ref ld] = [some (.ref S), some (.ref shd), some (.ref g), some (.ref lo), some (.ref ld), none, none] from rfl]
  try dsimp only [cxOf, Cx.nox, Cx.wish, List.map]

  have hg := G.at_
  have kz : ((dmap ks fun x => V.int (df x)).length : Int) = 0 → ks = [] := fun h => by
    rw [dmap_len] at h
    exact List.length_eq_zero_iff.mp (by omega)
  wtm_at "rd"
  generalize htl : e.tl = tl at kk ⊢
  cases tl with
  | none =>
    wtm_at "rd"
    refine ite_d (fun h => ?_) (fun h0 => ?_)
    · obtain rfl := kz h
      wtm_at "rd"
      cases hp : e.pl with
      | true =>
        wtm_at "rd"
        refine fun q dx nq ndx ne => ?_
        have nq2 : upd H dx (.own q) q = none := hn_ne (Ne.symm ne) nq
        have kA : Kp [] H (upd (upd H dx (.own q)) q (.ins (ga K "Spread") dx [])) := (Kp.new ndx).nw nq2
        have qA : upd (upd H dx (.own q)) q (.ins (ga K "Spread") dx []) q = some (.ins (ga K "Spread") dx []) := upd_same
        generalize upd (upd H dx (.own q)) q (.ins (ga K "Spread") dx []) = HA at *
        refine us_Spread_init (tl := none) (ks := []) (df := df) qA (hS.k0 kA) (kA.g0 hsd) (kA.g0 ho) G.nd G.ond G.osub G.len.2 (.inl ⟨rfl, rfl⟩) fun sh tb md sn H1 G1 k1 nm ns nsh ntb tf => ⟨rfl, ?_⟩
        have k1 : Kp [] H H1 := fun b o hb hn => k1 _ _ (kA _ _ hb hn) (by simpa using ne_of_none hb nq)
        exact kk q sh tb md sn H1 G1 k1 nq (kA.back nsh (by simp)) (kA.back ntb (by simp)) (kA.back nm (by simp)) (kA.back ns (by simp)) (tf.mv (fun o e => e) (fun z h => kA.back h (by simp)))
      | false =>
        wtm_at "rd"
        refine ⟨rfl, rfl, fun q dx nq ndx ne => ?_⟩
        have nq2 : upd H dx (.own q) q = none := hn_ne (Ne.symm ne) nq
        have kA : Kp [] H (upd (upd H dx (.own q)) q (.ins (ga K "Spread") dx [])) := (Kp.new ndx).nw nq2
        have qA : upd (upd H dx (.own q)) q (.ins (ga K "Spread") dx []) q = some (.ins (ga K "Spread") dx []) := upd_same
        generalize upd (upd H dx (.own q)) q (.ins (ga K "Spread") dx []) = HA at *
        refine us_Spread_init (tl := none) (ks := []) (df := df) qA (hS.k0 kA) (kA.g0 hsd) (kA.g0 ho) G.nd G.ond G.osub G.len.2 (.inl ⟨rfl, rfl⟩) fun sh tb md sn H1 G1 k1 nm ns nsh ntb tf => ⟨rfl, ?_⟩
        have k1 : Kp [] H H1 := fun b o hb hn => k1 _ _ (kA _ _ hb hn) (by simpa using ne_of_none hb nq)
        exact kk q sh tb md sn H1 G1 k1 nq (kA.back nsh (by simp)) (kA.back ntb (by simp)) (kA.back nm (by simp)) (kA.back ns (by simp)) (tf.mv (fun o e => e) (fun z h => kA.back h (by simp)))
    · wtm_at "rd"
      refine ite_d (fun h => ?_) (fun h2 => ?_)
      · exact absurd h h0
      · wtm_at "rd"
        refine ⟨rfl, rfl, fun q dx nq ndx ne => ?_⟩
        have nq2 : upd H dx (.own q) q = none := hn_ne (Ne.symm ne) nq
        have kA : Kp [] H (upd (upd H dx (.own q)) q (.ins (ga K "Spread") dx [])) := (Kp.new ndx).nw nq2
        have qA : upd (upd H dx (.own q)) q (.ins (ga K "Spread") dx []) q = some (.ins (ga K "Spread") dx []) := upd_same
        generalize upd (upd H dx (.own q)) q (.ins (ga K "Spread") dx []) = HA at *
        refine us_Spread_init (tl := none) (ks := ks) (df := df) qA (hS.k0 kA) (kA.g0 hsd) (kA.g0 ho) G.nd G.ond G.osub G.len.2 (.inr ⟨_, rfl, kA.g0 hd⟩) fun sh tb md sn H1 G1 k1 nm ns nsh ntb tf => ⟨rfl, ?_⟩
        have k1 : Kp [] H H1 := fun b o hb hn => k1 _ _ (kA _ _ hb hn) (by simpa using ne_of_none hb nq)
        exact kk q sh tb md sn H1 G1 k1 nq (kA.back nsh (by simp)) (kA.back ntb (by simp)) (kA.back nm (by simp)) (kA.back ns (by simp)) (tf.mv (fun o e => e) (fun z h => kA.back h (by simp)))
  | some l =>
    wtm_at "rd"
    refine ite_d (fun h => ?_) (fun h => ?_)
    · obtain rfl := kz h
      wtm_at "rd"
      refine ⟨rfl, rfl, fun q dx nq ndx ne => ?_⟩
      have nq2 : upd H dx (.own q) q = none := hn_ne (Ne.symm ne) nq
      have kA : Kp [] H (upd (upd H dx (.own q)) q (.ins (ga K "Spread") dx [])) := (Kp.new ndx).nw nq2
      have qA : upd (upd H dx (.own q)) q (.ins (ga K "Spread") dx []) q = some (.ins (ga K "Spread") dx []) := upd_same
      generalize upd (upd H dx (.own q)) q (.ins (ga K "Spread") dx []) = HA at *
      refine us_Spread_init (tl := some l) (ks := []) (df := df) qA (hS.k0 kA) (kA.g0 hsd) (kA.g0 ho) G.nd G.ond G.osub G.len.2 (.inl ⟨rfl, rfl⟩) fun sh tb md sn H1 G1 k1 nm ns nsh ntb tf => ⟨rfl, ?_⟩
      have k1 : Kp [] H H1 := fun b o hb hn => k1 _ _ (kA _ _ hb hn) (by simpa using ne_of_none hb nq)
      exact kk q sh tb md sn H1 G1 k1 nq (kA.back nsh (by simp)) (kA.back ntb (by simp)) (kA.back nm (by simp)) (kA.back ns (by simp)) (tf.mv (fun o e => e) (fun z h => kA.back h (by simp)))
    · wtm_at "rd"
      refine ⟨rfl, rfl, fun q dx nq ndx ne => ?_⟩
      have nq2 : upd H dx (.own q) q = none := hn_ne (Ne.symm ne) nq
      have kA : Kp [] H (upd (upd H dx (.own q)) q (.ins (ga K "Spread") dx [])) := (Kp.new ndx).nw nq2
      have qA : upd (upd H dx (.own q)) q (.ins (ga K "Spread") dx []) q = some (.ins (ga K "Spread") dx []) := upd_same
      generalize upd (upd H dx (.own q)) q (.ins (ga K "Spread") dx []) = HA at *
      refine us_Spread_init (tl := some l) (ks := ks) (df := df) qA (hS.k0 kA) (kA.g0 hsd) (kA.g0 ho) G.nd G.ond G.osub G.len.2 (.inr ⟨_, rfl, kA.g0 hd⟩) fun sh tb md sn H1 G1 k1 nm ns nsh ntb tf => ⟨rfl, ?_⟩
      have k1 : Kp [] H H1 := fun b o hb hn => k1 _ _ (kA _ _ hb hn) (by simpa using ne_of_none hb nq)
      exact kk q sh tb md sn H1 G1 k1 nq (kA.back nsh (by simp)) (kA.back ntb (by simp)) (kA.back nm (by simp)) (kA.back ns (by simp)) (tf.mv (fun o e => e) (fun z h => kA.back h (by simp)))
theorem c_l_spread (T : Cx K mg) (B : Tb K mg base) : CalX P w K mg base CX0 10 "_law_spread" (sp_l_spread K) [] := by
  obtain ⟨fd, F, ok⟩ := f_l_spread (P := P) (w := w) (base := base) T B
  exact ⟨_, fd, p_l_spread, [], ok, gl_l_spread T, F.kp, FunD.bindsN F fun _ _ _ _ _ _ us hl => match us, hl with | [_, _, _, _, _], _ => rfl, .nil⟩
end
section
variable {P : Program} {w : World} {K : PySem.W.Frag} {mg : Str → Option Value} {base : Heap}
def sp_l_shows (K : PySem.W.Frag) : Sp := fun vs H Q E => ∃ (S hl tb : Addr) (s : Stg) (xs : List Int) (a : PL) (n : Nat) (p : (Int → Bool) × (Int → Int)) (W : Int → Int), vs = [.ref a.q, .ref a.g] ∧ (PR K H hl tb S s xs a n p W) ∧ (∀ H1, Kp [] H H1 → Q (.bl true) H1)
theorem us_l_shows {K : PySem.W.Frag} {H : Hp} {Q : VK} {E : XK} {S hl tb : Addr} {s : Stg} {xs : List Int} {a : PL} {n : Nat} {p : (Int → Bool) × (Int → Int)} {W : Int → Int} (Y : PR K H hl tb S s xs a n p W) (kk : ∀ H1, Kp [] H H1 → Q (.bl true) H1) : sp_l_shows K [.ref a.q, .ref a.g] H Q E := ⟨_, _, _, _, _, _, _, _, _, rfl, Y, kk⟩
theorem f_l_shows (T : Cx K mg) (B : Tb K mg base) : ∃ fd, FunD K "_law_shows" "_law_shows" (defArgs s_l_shows) (defBody s_l_shows) (defScope s_l_shows) (d_l_shows.dvs K) (d_l_shows.kws K) (fAd K d_l_shows.at_) fd ∧ FnOk P w K mg base CX0 4 (fAd K d_l_shows.at_) fd p_l_shows (sp_l_shows K) := by
  have c_l_number := c_l_number (P := P) (w := w) (base := base) T B
  have c_l_seats_are := c_l_seats_are (P := P) (w := w) (base := base) T B
  have c_Spread_known := c_Spread_known (P := P) (w := w) (base := base) T B
  have c_Spread_since := c_Spread_since (P := P) (w := w) (base := base) T B
  have c_Spread_done := c_Spread_done (P := P) (w := w) (base := base) T B
  have c_Spread_stuck := c_Spread_stuck (P := P) (w := w) (base := base) T B
  obtain ⟨fd, F⟩ := T.says.def_ 30 (d := d_l_shows) rfl
  refine ⟨fd, F, fnD F sc_l_shows (fun vs H Q E h => by
    obtain ⟨_, _, _, _, _, _, _, _, _, rfl, _⟩ := h
    rfl) fun cdv A outer s H vs Q E hr h => ?_⟩
  have hu := hu_of hr
  obtain ⟨S, hl, tb, s, xs, a, n, p, W, rfl, Y, kk⟩ := h
  refine ⟨_, (pss_cons (ps_set (i := 2) sc_l_shows.nd rfl (by first | exact Or.inl rfl | exact Or.inr rfl) (pe_dget hu (pv 1) pe_str (fun _ _ => rfl))) (pss_cons (ps_if (pt_not (pt_val (pe_cal c_l_number hr (by decide) (by rfl) pass0 (pa_cons (pe_fld (pv 0) rfl) (pa_cons (pe_dget hu (pv 1) pe_str (fun _ _ => rfl)) pa_nil))))) (pss_one (ps_ret pe_bl)) pss_nil) (pss_cons (ps_if (pt_not (pt_val (pe_cal c_l_seats_are hr (by decide) (by rfl) pass0 (pa_cons (pe_met0 c_Spread_known hr (by decide) pass0 (pv 0)) (pa_cons (pe_callB (call_sortedDI rfl) (by rfl) (fr_sorted T) (by decide +kernel) (pa_cons (pv 2) pa_nil)) pa_nil))))) (pss_one (ps_ret pe_bl)) pss_nil) (pss_cons (ps_for PassesOwn.never rfl (pi_list (pe_dget hu (pv 1) pe_str (fun _ _ => rfl))) (pg_name (i := 3) sc_l_shows.nd rfl (by first | exact Or.inl rfl | exact Or.inr rfl)) (pss_cons (ps_set (i := 4) sc_l_shows.nd rfl (by first | exact Or.inl rfl | exact Or.inr rfl) (pe_met c_Spread_since hr (by decide) pass0 (pv 0) (pa_cons (pv 3) pa_nil))) (pss_cons (ps_if (PW.pt (pw_and (pt_cmp (pc_din hu (pv 3) (pv 2))) (pw_and1 (pt_not (pt_val (pe_cal c_l_number hr (by decide) (by rfl) pass0 (pa_cons (pv 4) (pa_cons (pe_dget hu (pv 2) (pv 3) (fun _ _ => rfl)) pa_nil)))))))) (pss_one (ps_ret pe_bl)) pss_nil) (pss_one (ps_if (PW.pt (pw_and (pt_cmp (pc_dnotin hu (pv 3) (pv 2))) (pw_and1 (pt_cmp (pc_notN (pv 4)))))) (pss_one (ps_ret pe_bl)) pss_nil))))) (pss_cons (ps_set (i := 5) sc_l_shows.nd rfl (by first | exact Or.inl rfl | exact Or.inr rfl) (pe_dget hu (pv 1) pe_str (fun _ _ => rfl))) (C8.pss_cut (ps_set (i := 6) sc_l_shows.nd rfl (by first | exact Or.inl rfl | exact Or.inr rfl) (pe_and (pe_cmp (pc_notN (pe_dget hu (pv 1) pe_str (fun _ _ => rfl)))) (pe_one (pe_cmpR op_ge (pe_callB (cr_min rfl) (by rfl) (fr_min T) (by decide +kernel) (pa_cons (pe_lock (pe_lc (own := [("_law_seat", 3)]) (g := (gName 3)) (tt := tYes) rfl sc_l_shows.nd (pi_keys (pv 2)) (blkOk_by (own := [("_law_seat", 3)]) (N := n_l_shows) (sc := defScope s_l_shows) (by decide +kernel)) (fun _ _ _ _ _ => (pg_name (i := 3) sc_l_shows.nd rfl (by first | exact Or.inl rfl | exact Or.inr rfl))) (fun _ _ _ _ _ => pts_nil) (fun _ _ _ _ _ => (pe_dget hu (pv 5) (pv 3) (fun _ _ => rfl))))) pa_nil)) (pe_dget hu (pv 1) pe_str (fun _ _ => rfl)) (nomark _))))) (pss_cons (ps_if (PW.pt (pw_or (pt_not (pt_val (pe_callB call_isi (by rfl) (fr_isinstance T) (by decide +kernel) (pa_cons (pe_prpX c_Spread_done hr (by decide) pass0 (pv 0)) (pa_cons (pe_bltn (v := .ty "bool") (by rfl) (fr_bool T) (by decide +kernel) rfl) pa_nil))))) (pw_or1 (pt_cmpR op_ne (pe_prpX c_Spread_done hr (by decide) pass0 (pv 0)) (pe_cmpR op_eq (pe_callB call_lenD' (by rfl) (fr_len T) (by decide +kernel) (pa_cons (pv 2) pa_nil)) (pe_callB call_lenD' (by rfl) (fr_len T) (by decide +kernel) (pa_cons (pv 5) pa_nil)) (nomark _)) (nomark _))))) (pss_one (ps_ret pe_bl)) pss_nil) (pss_one (ps_ret (pe_and (pe_callB call_isi (by rfl) (fr_isinstance T) (by decide +kernel) (pa_cons (pe_prpX c_Spread_stuck hr (by decide) pass0 (pv 0)) (pa_cons (pe_bltn (v := .ty "bool") (by rfl) (fr_bool T) (by decide +kernel) rfl) pa_nil))) (pe_one (pe_cmpR op_eq (pe_prpX c_Spread_stuck hr (by decide) pass0 (pv 0)) (pv 6) (nomark _))))))))))))), ?_⟩
  rw [show L2.start n_l_shows [.ref a.q, .ref a.g] = [some (.ref a.q), some (.ref a.g), none, none, none, none, none] from rfl]
  try dsimp only [cxOf, Cx.nox, Cx.wish, List.map]

  have hg : H a.g = some (.dK (grpK ⟨n, a.tl, a.pl, a.ls, a.tm, a.sp⟩ hl tb a.og a.dl s.bits s.pat a.start)) := Y.X.G.at_
  obtain ⟨dx, hq⟩ := Y.R.at_
  obtain ⟨ts, t1, t2, t3⟩ := Y.X.T
  obtain ⟨us, u1, u2, u3⟩ := Y.R.snA
  have hP := Y.X.P
  have len := Y.X.G.len
  have hh := Y.X.G.held
  have R := Y.R
  obtain ⟨o, oo, ok⟩ := Y.one
  have tl60 := List.Nodup.length_le_of_subset (l₂ := xs) t2 (fun y hy => ((t3 y).mp hy).1)
  have hqf := hq
  unfold SpF at hqf
  generalize a.tl = tl at *
  wtm_at "rd"
  refine us_l_number ?_
  wtm_at "rd"
  refine us_Spread_known hq u1 fun l os H1 o1 o2 hl1 k1 nl => ?_
  have t11 := k1.g0 t1
  wtm_at "rd"
  refine ⟨a.tm, _, ts, rfl, .inl t11, dmap_fst, by omega, fun ys r y1 y2 nr => ?_⟩
  have e : os = ys := sort_uniq (o1.trans (((List.perm_ext_iff_of_nodup u2 t2).mpr fun y => by rw [u3, t3]).trans y1.symm)) o2 y2
  subst e
  have kr : Kp [] H1 (upd H1 r (.lst (os.map V.int))) := Kp.new nr
  have r2 : upd H1 r (.lst (os.map V.int)) r = some (.lst (os.map V.int)) := upd_same
  have l2 := kr.g0 hl1
  have k2 := k1.trans kr
  generalize upd H1 r (.lst (os.map V.int)) = H2 at *
  wtm_at "rd"
  refine us_l_seats_are l2 r2 (by rw [o1.length_eq]; have := List.Nodup.length_le_of_subset (l₂ := xs) u2 (fun y hy => ((u3 y).mp hy).1); omega) fun H3 k3 => ?_
  have k3 : Kp [] H H3 := fun b o hb hn => k3 _ _ (k2 _ _ hb hn) (by simpa using ne_of_none hb nl)
  clear hl1 l2 r2 kr k2 t11 k1
  have hg3 := k3.g0 hg
  have hh3 := k3.g0 hh
  have q3 := k3.g0 hq
  have q3f := k3.g0 hqf
  have u13 := k3.g0 u1
  have t13 := k3.g0 t1
  have P3 := k3.g0 hP
  have R3 := R.k0 k3
  wtm_at "rd"
  refine forL_ints (K := K) xs (fun i σ H4 => (∃ v3 v4, σ = [some (.ref a.q), some (.ref a.g), some (.ref a.tm), v3, v4, none, none]) ∧ H4 = H3) ⟨⟨_, _, rfl⟩, rfl⟩ (fun i σ H4 _ z => SqL.of (z.2 ▸ hh3)) ?_ ?_
  · rintro i hi σ H4 ⟨⟨v3, v4, rfl⟩, rfl⟩
    wtm_at "rd"
    refine us_Spread_since q3 u13 ?_
    by_cases hx : xs[i] ∈ ts
    · rw [dmap_in ((u3 _).mpr ((t3 _).mp hx))]
      have lk : valV (dmap ts fun x => V.int (W x)) (.inl xs[i]) = some (.int (W xs[i])) := dmap_in hx
      wtm_at "rd"
      rw [dmap_some]
      refine ite_d (fun h1 => ?_) (fun h1 => absurd hx h1)
      wtm_at "rd"
      refine us_l_number ?_
      wtm_at "rd"
      rw [dmap_some]
      refine ite_n (fun h1 => absurd hx h1) (fun h1 => ?_)
      wtm_at "rd"
      exact ⟨⟨_, _, rfl⟩, rfl⟩
    · rw [dmap_out (fun z => hx ((t3 _).mpr ((u3 _).mp z)))]
      wtm_at "rd"
      rw [dmap_some]
      refine ite_d (fun h1 => absurd h1 hx) (fun h1 => ?_)
      wtm_at "rd"
      rw [dmap_some]
      refine ite_n (fun h1 => ?_) (fun h1 => absurd h1 hx)
      wtm_at "rd"
      exact ⟨⟨_, _, rfl⟩, rfl⟩
  rintro σ H4 ⟨⟨v3, v4, rfl⟩, rfl⟩
  wtm_at "rd"
  refine rd_cut (fun σ H5 => (∃ v3 v4, σ = [some (.ref a.q), some (.ref a.g), some (.ref a.tm), v3, v4, some (.ref a.sp), some (.bl (stuckB tl p xs))]) ∧ Kp [] H4 H5) ?_ ?_
  · cases tl with
    | none =>
      wtm_at "rd"
      rw [stuck_none oo ok]
      exact ⟨⟨_, _, rfl⟩, Kp.refl⟩
    | some l =>
      wtm_at "rd"
      have nts := Y.X.nts
      refine rd_lockE t13 trivial fun od => ?_
      have s1 : upd H4 a.tm (.frz od (.dK (dmap ts fun x => V.int (W x)))) a.tm = some (.frz od (.dK (dmap ts fun x => V.int (W x)))) := upd_same
      have sp5 := hu_ne (o := .frz od (.dK (dmap ts fun x => V.int (W x)))) (Ne.symm nts) P3
      have kL : ∀ H2, Kp [] (upd H4 a.tm (.frz od (.dK (dmap ts fun x => V.int (W x))))) H2 → Kp [] H4 (upd H2 a.tm (.dK (dmap ts fun x => V.int (W x)))) := fun H2 k => kp_lock t13 k
      generalize upd H4 a.tm (.frz od (.dK (dmap ts fun x => V.int (W x)))) = H5 at *
      refine rd_lc (rd_iKeys ?_)
      wtm_at "rd"
      refine ⟨a.tm, od, rfl, .inl ⟨_, s1, fun D hD => ?_⟩⟩
      refine lcD_by ts (fun x => V.int (W x)) (fun j H6 => H6 D = some (.lst (((ts.take j).map p.2).map V.int)) ∧ Kp [] H5 H6) ⟨upd_same, Kp.new hD⟩ (fun j H6 _ z => z.2.g0 s1) (fun j hj H6 z => ?_) (fun H6 z => ?_)
      · obtain ⟨z1, z2⟩ := z
        have hx := ((t3 _).mp (List.getElem_mem hj)).1
        have lk : valV (dmap xs fun x => V.int (p.2 x)) (.inl ts[j]) = some (.int (p.2 ts[j])) := dmap_in hx
        have sp6 := z2.g0 sp5
        wtm_at "rd"
        refine ⟨rfl, ?_⟩
        wtm_at "rd"
        refine ⟨_, z1, szlt (by rw [List.length_map, List.length_map, List.length_take]; omega), ?_, z2.mine hD⟩
        rw [upd_same, List.take_succ_eq_append_getElem hj, List.map_append, List.map_append]
        rfl
      · obtain ⟨z1, z2⟩ := z
        rw [List.take_length] at z1
        refine ⟨z2.g0 s1, ?_⟩
        have z3 : upd H6 a.tm (.dK (dmap ts fun x => V.int (W x))) D = some (.lst ((ts.map p.2).map V.int)) := hu_ne (Ne.symm (ne_of_none s1 hD)) z1
        have k7 := kL H6 z2
        generalize upd H6 a.tm (.dK (dmap ts fun x => V.int (W x))) = H7 at *
        have hg7 := k7.g0 hg3
        have ol2 : 0 < ts.length := List.length_pos_of_mem ((t3 o).mpr ⟨oo, ok⟩)
        wtm_at "rd"
        refine rd_minL (SqL.of z3) (by rw [List.length_map]; exact ol2) fun m hm hle => ?_
        wtm_at "rd"
        rw [stuck_min t3 hm hle]
        exact ⟨⟨_, _, rfl⟩, k7⟩
  rintro σ H5 ⟨⟨v3, v4, rfl⟩, k5⟩
  have R5 := R3.k0 k5
  have q5 := k5.g0 q3
  have q5f := k5.g0 q3f
  have t15 := k5.g0 t13
  have P5 := k5.g0 P3
  have k05 := k3.trans k5
  wtm_at "rd"
  refine us_Spread_done R5 ?_
  wtm_at "rd"
  refine us_Spread_done R5 ?_
  wtm_at "rd"
  rw [dmap_len, dmap_len, all_len t2 Y.X.G.nd t3, decide_eq_true rfl]
  wtm_at "rd"
  refine us_Spread_stuck R5 fun H6 k6 => ?_
  have q6 := k6.g0 q5
  have q6f := k6.g0 q5f
  wtm_at "rd"
  refine us_Spread_stuck (R5.k0 k6) fun H7 k7 => ?_
  wtm_at "rd"
  rw [decide_eq_true rfl]
  exact kk _ ((k05.trans k6).trans k7)
theorem c_l_shows (T : Cx K mg) (B : Tb K mg base) : CalX P w K mg base CX0 4 "_law_shows" (sp_l_shows K) [] := by
  obtain ⟨fd, F, ok⟩ := f_l_shows (P := P) (w := w) (base := base) T B
  exact ⟨_, fd, p_l_shows, [], ok, gl_l_shows T, F.kp, FunD.bindsN F fun _ _ _ _ _ _ us hl => match us, hl with | [_, _], _ => rfl, .nil⟩
end
section
variable {P : Program} {w : World} {K : PySem.W.Frag} {mg : Str → Option Value} {base : Heap}

theorem grp_ne {H : Hp} {g z hl tb og dl : Addr} {e : Ext} {bits pat start : Int} {xs : List Int} {f : Int → V} (h : H g = some (.dK (grpK e hl tb og dl bits pat start))) (hz : H z = some (.dK (dmap xs f))) : g ≠ z := by
  refine ne_of h hz fun ez => ?_
  injection ez with ez
  cases xs with
  | nil => cases ez
  | cons z r =>
    injection ez with ez _
    injection ez with ez _
    cases ez
section
variable {K : PySem.W.Frag} {H H' : Hp} {hl tb S p0 c : Addr} {s : Stg} {xs : List Int} {a b : PL} {n : Nat} {p : (Int → Bool) × (Int → Int)} {W : Int → Int} {ps : List Addr}
/-- the index moves on -/
theorem GS.ix (X : GS H hl tb s xs a n p W) : GS (upd H a.g (.dK (grpK (a.e (n + 1)) hl tb a.og a.dl s.bits s.pat a.start))) hl tb s xs a (n + 1) p W := by
  obtain ⟨ts, t1, t2⟩ := X.T
  have hg := X.G.at_
  have n1 := grp_ne hg X.G.dls
  have n2 := grp_ne hg t1
  have n3 := grp_ne hg X.P
  obtain ⟨f, f1, f2⟩ := X.G.table
  have gl : ∀ {z : Addr} {l : List V} {o : HO}, H z = some (.lst l) → upd H a.g o z = some (.lst l) := fun {z l o} h => hu_ne (ne_of h hg (by intro z; cases z)) h
  refine ⟨⟨upd_same, gl X.G.held, ⟨f, gl f1, fun i hi => hu_ne (Ne.symm (grp_ne hg (f2 i hi))) (f2 i hi)⟩, gl X.G.orig, hu_ne (Ne.symm n1) X.G.dls, X.G.nd, X.G.rng, X.G.len, X.G.ond, X.G.osub, X.G.one, X.G.kl, X.G.b, X.G.p⟩, ⟨ts, hu_ne (Ne.symm n2) t1, t2⟩, hu_ne (Ne.symm n3) X.P, X.nts, X.A.mv f1 (gl f1) fun q hq => ?_⟩
  simp only [List.mem_cons, List.not_mem_nil, or_false] at hq
  rcases hq with rfl | rfl
  · exact ⟨_, _, hu_ne (Ne.symm n2) t1⟩
  · exact ⟨_, _, hu_ne (Ne.symm n3) X.P⟩
/-- the law's round behind, the Spread's ahead -/
theorem PR.half {p2 : (Int → Bool) × (Int → Int)} {W2 : Int → Int} {ts2 : List Int} (Y : PR K H hl tb S s xs a n p W) (k : Kp [a.tm, a.sp] H H') (t1 : H' a.tm = some (.dK (dmap ts2 fun x => V.int (W2 x)))) (t2 : ts2.Nodup) (t3 : ∀ y, y ∈ ts2 ↔ y ∈ xs ∧ p2.1 y = true) (t4 : H' a.sp = some (.dK (dmap xs fun x => V.int (p2.2 x)))) :
    GS H' hl tb s xs a n p2 W2 ∧ Sprd K H' a.q S a.sh a.tq a.md a.sn s xs a.ks a.df a.start a.tl n p W := by
  obtain ⟨f, f1, f2⟩ := Y.X.G.table
  have f1' : H' tb = _ := k _ _ f1 (Y.wt.sub (qs := [a.tm, a.sp]) (by simp) |>.lst f1)
  refine ⟨⟨Y.X.G.kw Y.X.A k, ⟨ts2, t1, t2, t3⟩, t4, Y.X.nts, Y.X.A.mv f1 f1' fun q hq => ?_⟩, Y.R.kw (fun z hz => (Y.wt z (by simp at hz ⊢; rcases hz with rfl | rfl <;> simp)).1) (fun z hz => Y.s2 z (by simp at hz ⊢; rcases hz with rfl | rfl <;> simp)) k⟩
  simp only [List.mem_cons, List.not_mem_nil, or_false] at hq
  rcases hq with rfl | rfl
  · exact ⟨_, _, t1⟩
  · exact ⟨_, _, t4⟩
theorem GS.dr (X : GS H hl tb s xs a n p W) (B : Purse H p0 c) (k : Kp [p0] H H') : GS H' hl tb s xs a n p W := by
  refine X.kw (wt_purse B X.G.table) (fun z hz => ?_) k
  rw [List.mem_singleton.mp hz]
  obtain ⟨kvs, hp⟩ := B.at
  obtain ⟨ts, t1, -⟩ := X.T
  simp only [List.mem_cons, List.not_mem_nil, or_false, not_or]
  refine ⟨Ne.symm (ne_of X.G.at_ hp fun z => ?_), Ne.symm (B.dm X.G.dls), Ne.symm (B.dm t1), Ne.symm (B.dm X.P)⟩
  injection z with z
  injection z with z
  injection z with z _
  injection z with z
  exact absurd z (by decide)
theorem Sprd.np {q sh tq md sn : Addr} {ks : List Int} {df : Int → Int} {start : Int} {tl : Option Int} (R : Sprd K H q S sh tq md sn s xs ks df start tl n p W) (B : Purse H p0 c) : p0 ∉ [S, q, sh, tq, md, sn] := by
  obtain ⟨kvs, hp⟩ := B.at
  obtain ⟨dx, h1⟩ := R.at_
  obtain ⟨f, h3, -⟩ := R.tbA
  obtain ⟨us, h4, -⟩ := R.snA
  simp only [List.mem_cons, List.not_mem_nil, or_false, not_or]
  exact ⟨Ne.symm (R.set.purse B), ne_of hp h1 (by intro z; cases z), Ne.symm (B.dm R.shA), Ne.symm (B.dm h3), Ne.symm (B.dm R.mdA), Ne.symm (B.dm h4)⟩
theorem Sprd.dr {q sh tq md sn : Addr} {ks : List Int} {df : Int → Int} {start : Int} {tl : Option Int} (R : Sprd K H q S sh tq md sn s xs ks df start tl n p W) (B : Purse H p0 c) (k : Kp [p0] H H') : Sprd K H' q S sh tq md sn s xs ks df start tl n p W :=
  R.kw (fun z hz l h => by rw [List.mem_singleton.mp hz] at h; exact B.lst h rfl) (fun z hz => by rw [List.mem_singleton.mp hz]; exact R.np B) k
theorem Purse.wt (B : Purse H p0 c) (w : ∀ z, z ∈ ps → ∀ l, H z ≠ some (.lst l)) (np : p0 ∉ ps) (k : Kp ps H H') : Purse H' p0 c := by
  obtain ⟨ns, x1, x2, x3, x4, x5, x6, h1, h2, h3⟩ := id B
  exact B.kp k np fun m => w _ m _ h2
theorem PR.np (Y : PR K H hl tb S s xs a n p W) (B : Purse H p0 c) : p0 ∉ a.og' ++ a.or' := by
  obtain ⟨kvs, hp⟩ := B.at
  obtain ⟨ts, t1, -⟩ := Y.X.T
  have h := Y.R.np B
  simp only [List.mem_cons, List.not_mem_nil, or_false, not_or] at h
  simp only [List.cons_append, List.nil_append, List.mem_cons, List.not_mem_nil, or_false, not_or]
  refine ⟨Ne.symm (ne_of Y.X.G.at_ hp fun z => ?_), Ne.symm (B.dm t1), Ne.symm (B.dm Y.X.P), h.2.1, h.2.2.2.2.1, h.2.2.2.2.2⟩
  injection z with z
  injection z with z
  injection z with z _
  injection z with z
  exact absurd z (by decide)
/-- a fresh list is written behind a Spread's round -/
theorem Sprd.lf {q sh tq md sn r : Addr} {ks : List Int} {df : Int → Int} {start : Int} {tl : Option Int} {H2 : Hp} {n2 : Nat} {p2 : (Int → Bool) × (Int → Int)} {W2 : Int → Int} (R : Sprd K H q S sh tq md sn s xs ks df start tl n p W) (G : Sprd K H' q S sh tq md sn s xs ks df start tl n2 p2 W2) (k9 : Kp [q, md, sn] H H') (k : Kp [r] H' H2) (nr : H r = none) : Sprd K H2 q S sh tq md sn s xs ks df start tl n2 p2 W2 := by
  have al := R.al nr
  have go : ∀ {z : Addr} {o : HO}, z ∈ [S, q, sh, tq, md, sn] → H' z = some o → H2 z = some o := fun {z o} hz h => k.g1 (fun e => al (e ▸ hz)) h
  obtain ⟨dx, h1⟩ := G.at_
  obtain ⟨dy, h2⟩ := R.at_
  obtain ⟨f, h3, h5⟩ := G.tbA
  obtain ⟨g, g3, g5⟩ := R.tbA
  obtain ⟨us, h4, h6⟩ := G.snA
  have e := k9 _ _ g3 (by simpa using ⟨ne_of g3 h2 (by intro z; cases z), R.n3, R.n4⟩)
  rw [h3] at e
  injection e with e
  injection e with e
  refine ⟨⟨dx, go (by simp) h1⟩, G.set.kp k fun m => al (by rw [List.mem_singleton.mp m]; simp), go (by simp) G.shA, ⟨f, go (by simp) h3, fun x hx => k.g1 ?_ (h5 x hx)⟩, go (by simp) G.mdA, ⟨us, go (by simp) h4, h6⟩, G.nd, G.len, G.n1, G.n2, G.n3, G.n4, G.n5⟩
  have e2 := congrArg (fun d => valV d (.inl x)) e
  simp only [dmap_in hx] at e2
  injection e2 with e2
  injection e2 with e2
  rw [e2]
  exact ne_of_none (g5 x hx) nr
theorem Sprd.nl {q sh tq md sn r : Addr} {ks : List Int} {df : Int → Int} {start : Int} {tl : Option Int} {l : List V} (R : Sprd K H q S sh tq md sn s xs ks df start tl n p W) (h : H r = some (.lst l)) : r ∉ [q, md, sn] := by
  obtain ⟨dx, h1⟩ := R.at_
  obtain ⟨us, h4, -⟩ := R.snA
  simp only [List.mem_cons, List.not_mem_nil, or_false, not_or]
  exact ⟨ne_of h h1 (by intro z; cases z), ne_of h R.mdA (by intro z; cases z), ne_of h h4 (by intro z; cases z)⟩
/-- who may be written by a Spread's round stays off the group -/
theorem PR.wr (Y : PR K H hl tb S s xs a n p W) : Wt H tb a.or' := Y.wt.sub fun z hz => List.mem_append_right _ hz
end

def sp_l_stepped (K : PySem.W.Frag) : Sp := fun vs H Q E => ∃ (p0 c : Addr) (S hl tb : Addr) (s : Stg) (xs : List Int) (a : PL) (n : Nat) (p : (Int → Bool) × (Int → Int)) (W : Int → Int), vs = [.ref p0, .ref a.q, .ref a.g] ∧ (Purse H p0 c) ∧ (PR K H hl tb S s xs a n p W) ∧ (∀ p2 W2 H1, PR K H1 hl tb S s xs a (n + 1) p2 W2 → Purse H1 p0 c → Kp (p0 :: (a.og' ++ a.or')) H H1 → Q (.bl true) H1)
theorem us_l_stepped {K : PySem.W.Frag} {H : Hp} {Q : VK} {E : XK} {p0 c : Addr} {S hl tb : Addr} {s : Stg} {xs : List Int} {a : PL} {n : Nat} {p : (Int → Bool) × (Int → Int)} {W : Int → Int} (hB : Purse H p0 c) (Y : PR K H hl tb S s xs a n p W) (kk : ∀ p2 W2 H1, PR K H1 hl tb S s xs a (n + 1) p2 W2 → Purse H1 p0 c → Kp (p0 :: (a.og' ++ a.or')) H H1 → Q (.bl true) H1) : sp_l_stepped K [.ref p0, .ref a.q, .ref a.g] H Q E := ⟨_, _, _, _, _, _, _, _, _, _, _, rfl, hB, Y, kk⟩
theorem f_l_stepped (T : Cx K mg) (B : Tb K mg base) : ∃ fd, FunD K "_law_stepped" "_law_stepped" (defArgs s_l_stepped) (defBody s_l_stepped) (defScope s_l_stepped) (d_l_stepped.dvs K) (d_l_stepped.kws K) (fAd K d_l_stepped.at_) fd ∧ FnOk P w K mg base CX0 6 (fAd K d_l_stepped.at_) fd p_l_stepped (sp_l_stepped K) := by
  have c_l_goal := c_l_goal (P := P) (w := w) (base := base) T B
  have c_l_draw := c_l_draw (P := P) (w := w) (base := base) T B
  have c_l_step := c_l_step (P := P) (w := w) (base := base) T B
  have c_l_seats_are := c_l_seats_are (P := P) (w := w) (base := base) T B
  have c_Spread_step := c_Spread_step (P := P) (w := w) (base := base) T B
  have c_Spread_step_d1 := c_Spread_step_d1 (P := P) (w := w) (base := base) T B
  obtain ⟨fd, F⟩ := T.says.def_ 31 (d := d_l_stepped) rfl
  refine ⟨fd, F, fnD F sc_l_stepped (fun vs H Q E h => by
    obtain ⟨_, _, _, _, _, _, _, _, _, _, _, rfl, _⟩ := h
    rfl) fun cdv A outer s H vs Q E hr h => ?_⟩
  have hu := hu_of hr
  obtain ⟨p0, c, S, hl, tb, s, xs, a, n, p, W, rfl, hB, Y, kk⟩ := h
  refine ⟨_, (pss_cons (ps_set (i := 3) sc_l_stepped.nd rfl (by first | exact Or.inl rfl | exact Or.inr rfl) (pe_dget hu (pv 2) pe_str (fun _ _ => rfl))) (pss_cons (ps_set (i := 4) sc_l_stepped.nd rfl (by first | exact Or.inl rfl | exact Or.inr rfl) (pe_lst pa_nil)) (pss_cons (ps_for PassesOwn.never rfl (pi_list (pe_dget hu (pv 2) pe_str (fun _ _ => rfl))) (pg_name (i := 5) sc_l_stepped.nd rfl (by first | exact Or.inl rfl | exact Or.inr rfl)) (pss_one (ps_if (PW.pt (pw_and (pt_cmpR op_gt (pe_dget hu (pv 2) pe_str (fun _ _ => rfl)) pe_int (nomark _)) (pw_and1 (pt_cmp (pc_notN (pe_cal c_l_goal hr (by decide) (by rfl) pass0 (pa_cons (pv 2) (pa_cons (pv 5) (pa_cons (pv 3) pa_nil))))))))) (pss_one (ps_if (pt_cmpR op_lt (pe_cal c_l_draw hr (by decide) (by rfl) pass0 (pa_cons (pv 0) (pa_cons pe_int pa_nil))) (pe_dget hu (pv 2) pe_str (fun _ _ => rfl)) (nomark _)) (pss_one (ps_expr (pe_bm PySem.F.plainAttrs_list PySem.F.slot_list_append PySem.F.type_list_append mt_append (pv 4) (pa_cons (pv 5) pa_nil)))) pss_nil)) pss_nil))) (pss_cons (ps_set (i := 6) sc_l_stepped.nd rfl (by first | exact Or.inl rfl | exact Or.inr rfl) (pe_cal c_l_step hr (by decide) (by rfl) pass0 (pa_cons (pv 2) (pa_cons (pe_dget hu (pv 2) pe_str (fun _ _ => rfl)) (pa_cons (pe_dget hu (pv 2) pe_str (fun _ _ => rfl)) (pa_cons (pv 3) (pa_cons (pv 4) (pa_cons (pe_dget hu (pv 2) pe_str (fun _ _ => rfl)) pa_nil)))))))) (pss_cons (ps_dput hu (pv 2) pe_str (pe_op op_add (pv 3) pe_int) rfl) (pss_cons (ps_set (i := 7) sc_l_stepped.nd rfl (by first | exact Or.inl rfl | exact Or.inr rfl) (pe_cal c_l_draw hr (by decide) (by rfl) pass0 (pa_cons (pv 0) (pa_cons pe_int pa_nil)))) (C8.pss_cut (ps_if (PW.pt (pw_and (pt_cmpR op_eq (pv 7) pe_int (nomark _)) (pw_and1 (pt_cmpR (op_eqD hr.units) (pv 4) (pe_lst pa_nil) (nomark _))))) (pss_one (ps_ret (pe_cal c_l_seats_are hr (by decide) (by rfl) pass0 (pa_cons (pe_met0 c_Spread_step_d1 hr (by decide) pass0 (pv 1)) (pa_cons (pv 6) pa_nil))))) pss_nil) (pss_cons (ps_if (pt_cmpR op_eq (pv 7) pe_int (nomark _)) (pss_one (ps_ret (pe_cal c_l_seats_are hr (by decide) (by rfl) pass0 (pa_cons (pe_met c_Spread_step hr (by decide) pass0 (pv 1) (pa_cons (pe_callTy call_tuple_of (by rfl) (fr_tuple T) (by decide +kernel) (pa_cons (pv 4) pa_nil)) pa_nil)) (pa_cons (pv 6) pa_nil))))) pss_nil) (pss_cons (ps_set (i := 8) sc_l_stepped.nd rfl (by first | exact Or.inl rfl | exact Or.inr rfl) (pe_callTy call_listOf (by rfl) (fr_list T) (by decide +kernel) (pa_cons (pv 4) pa_nil))) (pss_one (ps_ret (pe_and (pe_cal c_l_seats_are hr (by decide) (by rfl) pass0 (pa_cons (pe_met c_Spread_step hr (by decide) pass0 (pv 1) (pa_cons (pv 8) pa_nil)) (pa_cons (pv 6) pa_nil))) (pe_one (pe_cmpR (op_eqD hr.units) (pv 8) (pv 4) (nomark _))))))))))))))), ?_⟩
  rw [show L2.start n_l_stepped [.ref p0, .ref a.q, .ref a.g] = [some (.ref p0), some (.ref a.q), some (.ref a.g), none, none, none, none, none, none] from rfl]
  try dsimp only [cxOf, Cx.nox, Cx.wish, List.map]

  have hg : H a.g = some (.dK (grpK ⟨n, a.tl, a.pl, a.ls, a.tm, a.sp⟩ hl tb a.og a.dl s.bits s.pat a.start)) := Y.X.G.at_
  have hh := Y.X.G.held
  have len := Y.X.G.len
  wtm_at "rd"
  refine ⟨sz1000 (by simp), fun lo nlo => ?_⟩
  have k0 : Kp [p0] H (upd H lo (.lst [])) := (Kp.new (ps := []) nlo).of0
  have l0 : upd H lo (.lst []) lo = some (.lst (([] : List Int).map V.int)) := upd_same
  have B0 := hB.new (o := .lst []) nlo
  have k00 : Kp [] H (upd H lo (.lst [])) := Kp.new nlo
  have hg0 := k00.g0 hg
  generalize upd H lo (.lst []) = H0 at *
  have hh0 := k0.g1 (hB.lst hh) hh
  wtm_at "rd"
  refine forL_ints (K := K) xs (fun i σ H4 => (∃ v5, σ = [some (.ref p0), some (.ref a.q), some (.ref a.g), some (.int n), some (.ref lo), v5, none, none, none]) ∧ (∃ row : List Int, H4 lo = some (.lst (row.map V.int)) ∧ row.length ≤ i) ∧ Purse H4 p0 c ∧ Kp [p0] H H4) ⟨⟨_, rfl⟩, ⟨[], l0, by simp⟩, B0, k0⟩ (fun i σ H4 _ z => SqL.of (z.2.2.2.g1 (hB.lst hh) hh)) ?_ ?_
  · rintro i hi σ H4 ⟨⟨v5, rfl⟩, ⟨row, h4, rl⟩, B4, k4⟩
    have Y4 := Y.dr hB k4
    have hg4 : H4 a.g = some (.dK (grpK ⟨n, a.tl, a.pl, a.ls, a.tm, a.sp⟩ hl tb a.og a.dl s.bits s.pat a.start)) := Y4.X.G.at_
    have skip : (∃ v5, [some (V.ref p0), some (.ref a.q), some (.ref a.g), some (.int n), some (.ref lo), some (.int xs[i]), none, none, none] = [some (V.ref p0), some (.ref a.q), some (.ref a.g), some (.int n), some (.ref lo), v5, none, none, none]) ∧ (∃ row : List Int, H4 lo = some (.lst (row.map V.int)) ∧ row.length ≤ i + 1) ∧ Purse H4 p0 c ∧ Kp [p0] H H4 := ⟨⟨_, rfl⟩, ⟨row, h4, by omega⟩, B4, k4⟩
    wtm_at "rd"
    refine ite_d (fun h => ?_) (fun h => ?_)
    · wtm_at "rd"
      refine us_l_goal Y4.X.G (List.getElem_mem hi) ?_
      cases hc : callO s.bits s.pat xs xs[i] (a.start + n + dlv a.ks a.df xs[i]) with
      | none =>
        wtm_at "rd"
        exact skip
      | some cc =>
        wtm_at "rd"
        refine us_l_draw B4 (by decide) (by decide) fun n5 H5 n50 n51 B5 k5 => ?_
        have h5 := k5.g1 (B4.lst h4) h4
        have k5 := k4.trans k5
        have Y5 := Y.dr hB k5
        have hg5 : H5 a.g = some (.dK (grpK ⟨n, a.tl, a.pl, a.ls, a.tm, a.sp⟩ hl tb a.og a.dl s.bits s.pat a.start)) := Y5.X.G.at_
        wtm_at "rd"
        refine ite_d (fun h => ?_) (fun h => ?_)
        · have sl : (row.map V.int).length < sizeLine := szlt (by rw [List.length_map]; omega)
          wtm_at "rd"
          refine ⟨⟨_, rfl⟩, ⟨row ++ [xs[i]], by rw [upd_same, List.map_append]; rfl, by simp; omega⟩, B5.k1 (q := lo) (Kp.refl.wr (by simp)) (hB.ne1 nlo) (hB.ne2 nlo), k5.mine nlo⟩
        · wtm_at "rd"
          exact ⟨⟨_, rfl⟩, ⟨row, h5, by omega⟩, B5, k5⟩
    · wtm_at "rd"
      exact skip
  rintro σ H4 ⟨⟨v5, rfl⟩, ⟨row, h4, rl⟩, B4, k4⟩
  have Y4 := Y.dr hB k4
  have hg4 : H4 a.g = some (.dK (grpK ⟨n, a.tl, a.pl, a.ls, a.tm, a.sp⟩ hl tb a.og a.dl s.bits s.pat a.start)) := Y4.X.G.at_
  obtain ⟨ts, t1, t2, t3⟩ := Y4.X.T
  wtm_at "rd"
  refine us_l_step Y4.X.G Y4.X.A t1 Y4.X.P Y4.X.nts h4 t2 t3 fun r ts2 H5 q1 q2 q3 q4 k5 wr => ?_
  obtain ⟨rs, hrs, nrs⟩ := wr
  have k5 : Kp [a.tm, a.sp] H4 H5 := k5
  obtain ⟨X5, R5⟩ := Y4.half (p2 := stp (fun x => callO s.bits s.pat xs x (a.start + n + dlv a.ks a.df x)) (fun x => decide (x ∈ row)) a.tl xs p) (W2 := wup p W n) k5 q1 q2 q3 q4
  have nrs : NewL xs rs p (stp (fun x => callO s.bits s.pat xs x (a.start + n + dlv a.ks a.df x)) (fun x => decide (x ∈ row)) a.tl xs p) := nrs
  clear q1 q2 q3 q4
  have rl2 : rs.length ≤ 256 := by
    have := List.Nodup.length_le_of_subset (l₂ := xs) nrs.1 (fun y hy => ((nrs.2.2 y).mp hy).1)
    omega
  have hg5 : H5 a.g = some (.dK (grpK ⟨n, a.tl, a.pl, a.ls, a.tm, a.sp⟩ hl tb a.og a.dl s.bits s.pat a.start)) := X5.G.at_
  have w45 : ∀ z, z ∈ [a.tm, a.sp] → ∀ l, H4 z ≠ some (.lst l) := fun z hz => (Y4.wt z (by simp at hz ⊢; rcases hz with rfl | rfl <;> simp)).1
  have np4 := Y4.np B4
  have B5 := B4.wt w45 (fun m => np4 (by simp at m ⊢; rcases m with m | m <;> simp [m])) k5
  have h5 := k5 _ _ h4 fun m => w45 _ m _ h4
  have kF : Kp (p0 :: (a.og' ++ a.or')) H H5 := (k4.mono (by simp)).trans (k5.mono (by simp))
  wtm_at "rd"
  have ei : putK (grpK ⟨n, a.tl, a.pl, a.ls, a.tm, a.sp⟩ hl tb a.og a.dl s.bits s.pat a.start) (.inr "index") (.int (↑n + 1)) = grpK (a.e (n + 1)) hl tb a.og a.dl s.bits s.pat a.start := rfl
  rw [ei]
  have X6 := X5.ix
  have kg : Kp [a.g] H5 (upd H5 a.g (.dK (grpK (a.e (n + 1)) hl tb a.og a.dl s.bits s.pat a.start))) := Kp.refl.wr (by simp)
  have R6 := R5.kw (fun z hz l h => by rw [List.mem_singleton.mp hz, hg5] at h; cases h) (fun z hz => Y.s2 z (by rw [List.mem_singleton.mp hz]; simp)) kg
  have h6 := kg.g1 (ne_of h5 hg5 (by intro z; cases z)) h5
  have r6 := kg.g1 (ne_of hrs hg5 (by intro z; cases z)) hrs
  have B6 := B5.wt (ps := [a.g]) (fun z hz l h => by rw [List.mem_singleton.mp hz, hg5] at h; cases h) (fun m => np4 (by rw [List.mem_singleton.mp m]; simp)) kg
  have kF := kF.trans (kg.mono (by simp))
  generalize upd H5 a.g (.dK (grpK (a.e (n + 1)) hl tb a.og a.dl s.bits s.pat a.start)) = H6 at *
  clear kg X5 R5 h5 hrs B5 hg5 w45 ei k5 hg4 t1 h4 hh0 hg0
  wtm_at "rd"
  refine us_l_draw B6 (by decide) (by decide) fun n7 H7 n70 n71 B7 k7 => ?_
  have X7 := X6.dr B6 k7
  have R7 := R6.dr B6 k7
  have h7 := k7.g1 (B6.lst h6) h6
  have r7 := k7.g1 (B6.lst r6) r6
  have kF := kF.trans (k7.mono (by simp))
  clear X6 R6 h6 r6 B6 k7 B4 k4 Y4
  have fin : ∀ {H8 H9 H10 : Hp} {r2 : Addr}, Kp [] H7 H8 → Sprd K H9 a.q S a.sh a.tq a.md a.sn s xs a.ks a.df a.start a.tl (n + 1) (stp (fun x => callO s.bits s.pat xs x (a.start + n + dlv a.ks a.df x)) (fun x => decide (x ∈ row)) a.tl xs p) (wup p W n) → Kp [a.q, a.md, a.sn] H8 H9 → Kp [r2] H9 H10 → H8 r2 = none → Q (.bl true) H10 := fun {H8 H9 H10 r2} k8 G9 k9 k10 nr2 => by
    have X8 := X7.k0 k8
    have R8 := R7.k0 k8
    have kX : Kp a.or' H8 H10 := fun b o hb hn => k10 _ _ (k9 _ _ hb hn) (by simpa using ne_of_none hb nr2)
    have w8 : Wt H8 tb a.or' := fun z hz => by
      refine ⟨fun l h => ?_, fun l e => ?_⟩
      · obtain ⟨dx, h1⟩ := R8.at_
        obtain ⟨us, h4, -⟩ := R8.snA
        simp only [List.mem_cons, List.not_mem_nil, or_false] at hz
        rcases hz with rfl | rfl | rfl
        · rw [h1] at h
          cases h
        · rw [R8.mdA] at h
          cases h
        · rw [h4] at h
          cases h
      · obtain ⟨l0, e0⟩ := Y.tbl
        have e1 : H8 tb = some (.lst l0) := k8.g0 (kF _ _ e0 fun m => by
          rcases List.mem_cons.mp m with m | m
          · exact hB.lst e0 m
          · exact Y.wt.lst e0 m)
        rw [e1] at e
        injection e with e
        injection e with e
        rw [← e]
        exact Y.ln l0 e0 z (List.mem_append_right _ hz)
    obtain ⟨o, oo, ok⟩ := Y.one
    refine kk (stp (fun x => callO s.bits s.pat xs x (a.start + n + dlv a.ks a.df x)) (fun x => decide (x ∈ row)) a.tl xs p) (wup p W n) H10 ⟨X8.kw w8 Y.s1 kX, R8.lf G9 k9 k10 nr2, Y.s1, Y.s2, fun l e => ?_, ⟨o, oo, ?_⟩, ?_⟩ ((B7.k0 k8).wt (fun z hz => (w8 z hz).1) (fun m => np4 (List.mem_append_right _ m)) kX) ((kF.trans k8.of0).trans (kX.mono (by simp)))
    · obtain ⟨l0, e0⟩ := Y.tbl
      have e1 : H10 tb = some (.lst l0) := ((kF.trans k8.of0).trans (kX.mono (by simp))) _ _ e0 fun m => by
        rcases List.mem_cons.mp m with m | m
        · exact hB.lst e0 m
        · exact Y.wt.lst e0 m
      rw [e1] at e
      injection e with e
      injection e with e
      rw [← e]
      exact Y.ln l0 e0
    · show (p.1 o || _) = true
      rw [ok]
      rfl
    · refine ((kF.trans k8.of0).trans (kX.mono (by simp))) _ _ Y.rw fun m => ?_
      obtain ⟨dx, h1⟩ := Y.R.at_
      rcases List.mem_cons.mp m with m | m
      · exact hB.dm Y.rw m
      · rcases List.mem_append.mp m with m | m
        · exact Y.s2 _ m (by simp)
        · simp only [List.mem_cons, List.not_mem_nil, or_false] at m
          rcases m with m | m | m
          · exact ne_of Y.rw h1 (by intro z; cases z) m
          · exact Y.R.n3 m
          · exact Y.R.n4 m
  obtain ⟨dx7, q7⟩ := R7.at_
  unfold SpF at q7
  wtm_at "rd"
  refine rd_cut (fun σ Hx => σ = [some (.ref p0), some (.ref a.q), some (.ref a.g), some (.int n), some (.ref lo), v5, some (.ref r), some (.int n7), none] ∧ Kp [] H7 Hx) ?_ ?_
  · wtm_at "rd"
    refine ite_d (fun h => ?_) (fun h => ?_)
    · wtm_at "rd"
      refine ⟨sz1000 (by simp), fun e ne => ?_⟩
      have k8 : Kp [] H7 (upd H7 e (.lst [])) := Kp.new ne
      have he : upd H7 e (.lst []) e = some (.lst (([] : List Int).map V.int)) := upd_same
      generalize upd H7 e (.lst []) = H8 at *
      refine rd_eqLI (ns := row) (ms := []) (SqL.of (k8.g0 h7)) (SqL.of he) ?_
      wtm_at "rd"
      refine ite_d (fun h0 => ?_) (fun h0 => ?_)
      · subst h0
        have q8 := k8.g0 q7
        wtm_at "rd"
        unfold tMeth
        wtm_at "rd"
        refine us_Spread_step (R7.k0 k8) (dfl_step T _) fun r2 H9 G9 k9 wr2 nr2 => ?_
        obtain ⟨rs2, hrs2, nrs2⟩ := wr2
        obtain rfl := newL_uniq nrs2 nrs
        have r9 := k9 _ _ (k8.g0 r7) ((R7.k0 k8).nl (k8.g0 r7))
        wtm_at "rd"
        refine us_l_seats_are hrs2 r9 rl2 fun H10 k10 => ?_
        wtm_at "rd"
        exact fin k8 G9 k9 k10 nr2
      · wtm_at "rd"
        exact ⟨rfl, k8⟩
    · wtm_at "rd"
      exact ⟨rfl, Kp.refl⟩
  rintro σ Hx ⟨rfl, kx⟩
  have qx := kx.g0 q7
  have hx := kx.g0 h7
  wtm_at "rd"
  refine ite_d (fun h => ?_) (fun h => ?_)
  · wtm_at "rd"
    refine ⟨_, _, rfl, .inl ⟨SqL.of hx, fun t nt => ?_⟩⟩
    have k8 := kx.nw (o := .tup (row.map V.int)) nt
    have ht : upd Hx t (.tup (row.map V.int)) t = some (.tup (row.map V.int)) := upd_same
    generalize upd Hx t (.tup (row.map V.int)) = H8 at *
    have q8 := k8.g0 q7
    wtm_at "rd"
    refine us_Spread_step (R7.k0 k8) (.inr (.inl (Rd.of ht))) fun r2 H9 G9 k9 wr2 nr2 => ?_
    obtain ⟨rs2, hrs2, nrs2⟩ := wr2
    obtain rfl := newL_uniq nrs2 nrs
    have r9 := k9 _ _ (k8.g0 r7) ((R7.k0 k8).nl (k8.g0 r7))
    wtm_at "rd"
    refine us_l_seats_are hrs2 r9 rl2 fun H10 k10 => ?_
    wtm_at "rd"
    exact fin k8 G9 k9 k10 nr2
  · wtm_at "rd"
    intro h8 nh8
    have k8 := kx.nw (o := .lst (row.map V.int)) nh8
    have ht : upd Hx h8 (.lst (row.map V.int)) h8 = some (.lst (row.map V.int)) := upd_same
    generalize upd Hx h8 (.lst (row.map V.int)) = H8 at *
    have q8 := k8.g0 q7
    wtm_at "rd"
    refine us_Spread_step (R7.k0 k8) (SqI.of ht) fun r2 H9 G9 k9 wr2 nr2 => ?_
    obtain ⟨rs2, hrs2, nrs2⟩ := wr2
    obtain rfl := newL_uniq nrs2 nrs
    have r9 := k9 _ _ (k8.g0 r7) ((R7.k0 k8).nl (k8.g0 r7))
    wtm_at "rd"
    refine us_l_seats_are hrs2 r9 rl2 fun H10 k10 => ?_
    wtm_at "rd"
    have nr2h : h8 ≠ r2 := ne_of_none ht nr2
    have lo8 := k8.g0 h7
    have ht10 := k10.g1 nr2h (k9 _ _ ht ((R7.k0 k8).nl ht))
    have lo10 := k10.g1 (ne_of_none lo8 nr2) (k9 _ _ lo8 ((R7.k0 k8).nl lo8))
    refine rd_eqLI (ns := row) (ms := row) (SqL.of ht10) (SqL.of lo10) ?_
    rw [decide_eq_true rfl]
    exact fin k8 G9 k9 k10 nr2
theorem c_l_stepped (T : Cx K mg) (B : Tb K mg base) : CalX P w K mg base CX0 6 "_law_stepped" (sp_l_stepped K) [] := by
  obtain ⟨fd, F, ok⟩ := f_l_stepped (P := P) (w := w) (base := base) T B
  exact ⟨_, fd, p_l_stepped, [], ok, gl_l_stepped T, F.kp, FunD.bindsN F fun _ _ _ _ _ _ us hl => match us, hl with | [_, _, _], _ => rfl, .nil⟩
end
section
variable {P : Program} {w : World} {K : PySem.W.Frag} {mg : Str → Option Value} {base : Heap}

theorem rd_neDm {H : Hp} {Q : VK} {p q : Addr} {ks : List Int} {df : Int → Int} (h1 : H p = some (.dK (dmap ks fun x => V.int (df x)))) (h2 : H q = some (.dK (dmap ks fun x => V.int (df x)))) (k : Q (.bl false) H) : rNeDA (.ref p) (.ref q) H Q := by
  refine ⟨p, q, _, _, rfl, rfl, h1, h2, rfl, fun pr hp => ?_, k⟩
  obtain ⟨x, hx, rfl⟩ := List.mem_map.mp hp
  exact ⟨dmap_in hx, rfl⟩
section
variable {K : PySem.W.Frag} {H H' : Hp} {hl tb S p0 c D : Addr} {s : Stg} {xs : List Int} {a b : PL} {n : Nat} {p : (Int → Bool) × (Int → Int)} {W : Int → Int} {ps : List Addr}
theorem PR.row (Y : PR K H hl tb S s xs a n p W) {x : Int} (hx : x ∈ xs) : ∃ l, H (a.rw x) = some (.lst l) := by
  obtain ⟨f, h3, h5⟩ := Y.R.tbA
  have e := Y.rw
  rw [h3] at e
  injection e with e
  injection e with e
  have e2 := congrArg (fun d => valV d (.inl x)) e
  simp only [dmap_in hx] at e2
  injection e2 with e2
  injection e2 with e2
  exact ⟨_, e2 ▸ h5 x hx⟩
/-- a list of the law is written -/
theorem GS.kd (X : GS H hl tb s xs a n p W) {l : List V} (hD : H D = some (.lst l)) (n1 : D ≠ hl) (n2 : D ≠ tb) (n3 : D ≠ a.og) (k : Kp [D] H H') : GS H' hl tb s xs a n p W := by
  obtain ⟨ts, t1, t2⟩ := X.T
  have gd : ∀ {z : Addr} {d : List (Key × V)}, H z = some (.dK d) → H' z = some (.dK d) := fun {z d} h => k.g1 (ne_of h hD (by intro z; cases z)) h
  obtain ⟨f, f1, f2⟩ := X.G.table
  have f1' := k.g1 (Ne.symm n2) f1
  refine ⟨⟨gd X.G.at_, k.g1 (Ne.symm n1) X.G.held, ⟨f, f1', fun i hi => gd (f2 i hi)⟩, k.g1 (Ne.symm n3) X.G.orig, gd X.G.dls, X.G.nd, X.G.rng, X.G.len, X.G.ond, X.G.osub, X.G.one, X.G.kl, X.G.b, X.G.p⟩, ⟨ts, gd t1, t2⟩, gd X.P, X.nts, X.A.mv f1 f1' fun q hq => ?_⟩
  simp only [List.mem_cons, List.not_mem_nil, or_false] at hq
  rcases hq with rfl | rfl
  · exact ⟨_, _, gd t1⟩
  · exact ⟨_, _, gd X.P⟩
theorem Sprd.kd {q sh tq md sn : Addr} {ks : List Int} {df : Int → Int} {start : Int} {tl : Option Int} {l : List V} (R : Sprd K H q S sh tq md sn s xs ks df start tl n p W) (hD : H D = some (.lst l)) (hf : ∃ f : Int → Addr, H tq = some (.dK (dmap xs fun x => .ref (f x))) ∧ ∀ x, x ∈ xs → f x ≠ D) (k : Kp [D] H H') : Sprd K H' q S sh tq md sn s xs ks df start tl n p W := by
  have gd : ∀ {z : Addr} {d : List (Key × V)}, H z = some (.dK d) → H' z = some (.dK d) := fun {z d} h => k.g1 (ne_of h hD (by intro z; cases z)) h
  obtain ⟨dx, h1⟩ := R.at_
  obtain ⟨⟨dy, hs⟩, -⟩ := id R.set
  obtain ⟨f, h3, h5⟩ := R.tbA
  obtain ⟨g, g3, g5⟩ := hf
  obtain ⟨us, h4, h6⟩ := R.snA
  rw [h3] at g3
  injection g3 with e
  injection e with e
  refine ⟨⟨dx, k.g1 (ne_of h1 hD (by intro z; cases z)) h1⟩, R.set.k1 k (ne_of hs hD (by intro z; cases z)), gd R.shA, ⟨f, gd h3, fun x hx => k.g1 ?_ (h5 x hx)⟩, gd R.mdA, ⟨us, gd h4, h6⟩, R.nd, R.len, R.n1, R.n2, R.n3, R.n4, R.n5⟩
  have e2 := congrArg (fun d => valV d (.inl x)) e
  simp only [dmap_in hx] at e2
  injection e2 with e2
  injection e2 with e2
  rw [e2]
  exact g5 x hx
theorem PR.kd {l : List V} (Y : PR K H hl tb S s xs a n p W) (hD : H D = some (.lst l)) (n1 : D ≠ hl) (n2 : D ≠ tb) (n3 : D ≠ a.og) (hf : ∀ x, x ∈ xs → a.rw x ≠ D) (k : Kp [D] H H') : PR K H' hl tb S s xs a n p W := by
  obtain ⟨l0, h0⟩ := Y.tbl
  have h1 := k.g1 (Ne.symm n2) h0
  refine ⟨Y.X.kd hD n1 n2 n3 k, Y.R.kd hD ⟨_, Y.rw, hf⟩ k, Y.s1, Y.s2, fun l e => ?_, Y.one, k.g1 (ne_of Y.rw hD (by intro z; cases z)) Y.rw⟩
  rw [h1] at e
  injection e with e
  injection e with e
  exact e ▸ Y.ln l0 h0
/-- the same group, with its Spread's letters -/
def Cr (a b : PL) : Prop := ∃ q sh tq md sn rw, b = { a with q := q, sh := sh, tq := tq, md := md, sn := sn, rw := rw }
abbrev P0 (b : PL) : (Int → Bool) × (Int → Int) := (fun y => decide (y ∈ b.os), fun _ => 0)
/-- what was handed to a Spread is apart from a pair -/
def Ap (S : Addr) (xs : List Int) (lo ld : Addr) (b : PL) : Prop := lo ≠ b.og ∧ (∀ x, x ∈ xs → b.rw x ≠ lo) ∧ ld ∉ b.dg ∧ ld ∉ b.dr S
/-- while the Spreads are made -/
structure RI (K : PySem.W.Frag) (H : Hp) (hl tb S GL shd rl ll p0 c : Addr) (s : Stg) (xs : List Int) (as bs : List PL) (ts : List (Addr × Addr × Addr)) : Prop where
  gl : H GL = some (.lst (as.map fun a => V.ref a.g))
  hlA : H hl = some (.lst (xs.map V.int))
  shA : H shd = some (.lst (xs.map V.int))
  B : Purse H p0 c
  St : SetAt K H S s
  gs : ∀ a, a ∈ as → GS H hl tb s xs a 0 (P0 a) (fun _ => 0)
  cr : Paired Cr (as.take bs.length) bs
  pr : ∀ b, b ∈ bs → PR K H hl tb S s xs b 0 (P0 b) (fun _ => 0)
  nl : ∀ b, b ∈ bs → ∀ D, D ∈ [rl, ll, shd] → D ≠ b.og ∧ ∀ x, x ∈ xs → b.rw x ≠ D
  sep : bs.Pairwise (fun a b => Sep S a b ∧ Sep S b a)
  tup : Paired (fun (t : Addr × Addr × Addr) (b : PL) => H t.1 = some (.tup [.ref t.2.1, .ref t.2.2]) ∧ H t.2.1 = some (.lst (b.os.map V.int)) ∧ H t.2.2 = some (.dK (dmap b.ks fun x => V.int (b.df x)))) ts bs
  ap : ∀ t, t ∈ ts → ∀ b, b ∈ bs → Ap S xs t.2.1 t.2.2 b
  apa : ∀ t, t ∈ ts → ∀ a, a ∈ as → t.2.1 ≠ a.og ∧ t.2.2 ∉ a.dg
  apg : ∀ t, t ∈ ts → t.2.1 ∉ [hl, tb, GL, shd, rl, ll, c] ∧ t.2.2 ≠ p0 ∧ t.2.2 ≠ S ∧ ∀ l, H tb = some (.lst l) → V.ref t.2.2 ∉ l
  tt : ts.Pairwise (fun t u => t.2.1 ≠ u.2.1 ∧ t.2.2 ≠ u.2.2)
  nD : ∀ D, D ∈ [rl, ll] → D ∉ [GL, hl, shd, tb, c] ∧ ∀ a, a ∈ as → D ≠ a.og
  rg : ∀ b, b ∈ bs → ∀ a, a ∈ as → ∀ z, z ∈ a.dg → z ∉ b.dr S
  gg : ∀ b, b ∈ bs → ∀ j a, as[j]? = some a → bs.length ≤ j → ∀ z, z ∈ a.dg → z ∉ b.dg
theorem RI.k0 {GL shd rl ll : Addr} {as bs : List PL} {ts : List (Addr × Addr × Addr)} {lt : List V} (R : RI K H hl tb S GL shd rl ll p0 c s xs as bs ts) (ht : H tb = some (.lst lt)) (k : Kp [] H H') : RI K H' hl tb S GL shd rl ll p0 c s xs as bs ts :=
  ⟨k.g0 R.gl, k.g0 R.hlA, k.g0 R.shA, R.B.k0 k, R.St.k0 k, fun a ha => (R.gs a ha).k0 k, R.cr, fun b hb => (R.pr b hb).k0 k, R.nl, R.sep, paired_imp (fun _ _ e => ⟨k.g0 e.1, k.g0 e.2.1, k.g0 e.2.2⟩) R.tup, R.ap, R.apa, fun t h => by
    obtain ⟨h1, h2, h3, h4⟩ := R.apg t h
    refine ⟨h1, h2, h3, fun l e => ?_⟩
    rw [k.g0 ht] at e
    injection e with e
    injection e with e
    exact e ▸ h4 _ ht, R.tt, R.nD, R.rg, R.gg⟩
/-- one of the law's two lists is written -/
theorem RI.kd {GL shd rl ll : Addr} {as bs : List PL} {ts : List (Addr × Addr × Addr)} {lt l : List V} (R : RI K H hl tb S GL shd rl ll p0 c s xs as bs ts) (ht : H tb = some (.lst lt)) (hD : D ∈ [rl, ll]) (h : H D = some (.lst l)) (k : Kp [D] H H') : RI K H' hl tb S GL shd rl ll p0 c s xs as bs ts := by
  obtain ⟨n1, n2⟩ := R.nD D hD
  simp only [List.mem_cons, List.not_mem_nil, or_false, not_or] at n1
  obtain ⟨m1, m2, m3, m4, m5⟩ := n1
  have hD3 : D ∈ [rl, ll, shd] := by
    simp only [List.mem_cons, List.not_mem_nil, or_false] at hD ⊢
    rcases hD with rfl | rfl <;> simp
  obtain ⟨⟨dy, hs⟩, -⟩ := id R.St
  refine ⟨k.g1 (Ne.symm m1) R.gl, k.g1 (Ne.symm m2) R.hlA, k.g1 (Ne.symm m3) R.shA, R.B.k1 k (Ne.symm (R.B.lst h)) (Ne.symm m5), R.St.k1 k (ne_of hs h (by intro z; cases z)), fun a ha => (R.gs a ha).kd h m2 m4 (n2 a ha) k, R.cr, fun b hb => (R.pr b hb).kd h m2 m4 (R.nl b hb D hD3).1 (R.nl b hb D hD3).2 k, R.nl, R.sep, ?_, R.ap, R.apa, fun t h => ?_, R.tt, R.nD, R.rg, R.gg⟩
  · refine paired_memimp (fun t b ht e => ⟨k.g1 (ne_of e.1 h (by intro z; cases z)) e.1, k.g1 ?_ e.2.1, k.g1 (ne_of e.2.2 h (by intro z; cases z)) e.2.2⟩) R.tup
    have h1 := (R.apg t ht).1
    simp only [List.mem_cons, List.not_mem_nil, or_false, not_or] at h1 hD
    rcases hD with rfl | rfl
    · exact h1.2.2.2.2.1
    · exact h1.2.2.2.2.2.1
  · obtain ⟨h1, h2, h3, h4⟩ := R.apg t h
    refine ⟨h1, h2, h3, fun l e => ?_⟩
    rw [k.g1 (Ne.symm m4) ht] at e
    injection e with e
    injection e with e
    exact e ▸ h4 _ ht
theorem paired_app {α β : Type} {R : α → β → Prop} : ∀ {xs : List α} {ys : List β} {x : α} {y : β}, Paired R xs ys → R x y → Paired R (xs ++ [x]) (ys ++ [y])
  | _, _, _, _, .nil, h => .cons h .nil
  | _, _, _, _, .cons q r, h => .cons q (paired_app r h)
theorem cr_dg {a b : PL} (h : Cr a b) : b.dg = a.dg ∧ b.og' = a.og' := by
  obtain ⟨_, _, _, _, _, _, rfl⟩ := h
  exact ⟨rfl, rfl⟩
/-- a Spread more -/
theorem RI.add {GL shd rl ll : Addr} {as bs : List PL} {ts : List (Addr × Addr × Addr)} {lt : List V} {t lo ld q sh tq md sn : Addr} (R : RI K H hl tb S GL shd rl ll p0 c s xs as bs ts) (ht : H tb = some (.lst lt)) (hi : as[bs.length]? = some a)
    (ap : as.Pairwise (fun a b => ∀ z, z ∈ b.dg → z ∉ a.dg))
    (T : H' t = some (.tup [.ref lo, .ref ld])) (LO : H' lo = some (.lst (a.os.map V.int))) (LD : H' ld = some (.dK (dmap a.ks fun x => V.int (a.df x))))
    (apN : ∀ b, b ∈ bs → Ap S xs lo ld b) (apaN : ∀ a, a ∈ as → lo ≠ a.og ∧ ld ∉ a.dg) (apgN : lo ∉ [hl, tb, GL, shd, rl, ll, c] ∧ ld ≠ p0 ∧ ld ≠ S ∧ ∀ l, H tb = some (.lst l) → V.ref ld ∉ l) (ttN : ∀ u, u ∈ ts → u.2.1 ≠ lo ∧ u.2.2 ≠ ld)
    (hlo : ∃ l, H lo = some (.lst l)) (hld : ∃ d, H ld = some (.dK d)) (G : Sprd K H' q S sh tq md sn s xs a.ks a.df a.start a.tl 0 (P0 a) (fun _ => 0)) (k : Kp [] H H') (fr : ∀ z, z ∈ [q, sh, tq, md, sn] → H z = none) (tf : TabF H H' tq xs)
    (nD3 : ∀ D, D ∈ [rl, ll, shd] → (∃ l, H D = some (.lst l)) ∧ ∀ a, a ∈ as → D ≠ a.og) :
    ∃ b, Cr a b ∧ b.q = q ∧ RI K H' hl tb S GL shd rl ll p0 c s xs as (bs ++ [b]) (ts ++ [(t, lo, ld)]) := by
  obtain ⟨rw, rw1, rw2⟩ := tf
  have ham : a ∈ as := List.mem_of_getElem? hi
  have R2 := R.k0 ht k
  have Xa := R.gs a ham
  have sS : ∀ {z : Addr} {d : List (Key × V)}, H z = some (.dK d) → z ≠ S := fun {z d} h => Ne.symm (R.St.nedK h)
  have frS : ∀ {z : Addr}, H z ≠ none → z ≠ S → z ∉ [S, q, sh, tq, md, sn] := fun {z} h1 h2 m => by
    rcases List.mem_cons.mp m with m | m
    · exact h2 m
    · exact h1 (fr z m)
  have dgA : ∀ x, x ∈ as → ∀ z, z ∈ x.dg → H z ≠ none ∧ z ≠ S := fun x hx z hz => by
    obtain ⟨tt, t1, -⟩ := (R.gs x hx).T
    simp only [List.mem_cons, List.not_mem_nil, or_false] at hz
    rcases hz with rfl | rfl | rfl | rfl
    · exact ⟨by rw [(R.gs x hx).G.at_]; simp, sS (R.gs x hx).G.at_⟩
    · exact ⟨by rw [(R.gs x hx).G.dls]; simp, sS (R.gs x hx).G.dls⟩
    · exact ⟨by rw [t1]; simp, sS t1⟩
    · exact ⟨by rw [(R.gs x hx).P]; simp, sS (R.gs x hx).P⟩
  have Xa2 := R2.gs a ham
  have s1 : ∀ z, z ∈ [q, md, sn] → z ∉ a.dg := fun z hz => Xa.al (fr z (by
    simp only [List.mem_cons, List.not_mem_nil, or_false] at hz ⊢
    rcases hz with h | h | h <;> simp [h]))
  have s2 : ∀ z, z ∈ a.og' → z ∉ [S, q, sh, tq, md, sn] := fun z hz => by
    obtain ⟨h1, h2⟩ := dgA a ham z (by
      simp only [List.mem_cons, List.not_mem_nil, or_false] at hz ⊢
      rcases hz with h | h | h <;> simp [h])
    exact frS h1 h2
  have Yb : PR K H' hl tb S s xs { a with q := q, sh := sh, tq := tq, md := md, sn := sn, rw := rw } 0 (P0 a) (fun _ => 0) := by
    refine ⟨⟨Xa2.G, Xa2.T, Xa2.P, Xa2.nts, Xa2.A⟩, G, s1, s2, fun l e z hz m => ?_, ?_, rw1⟩
    · rw [k.g0 ht] at e
      injection e with e
      injection e with e
      rw [← e] at m
      rcases List.mem_append.mp hz with hz | hz
      · have h1 := Xa.A.2 _ z ht m
        simp only [List.mem_cons, List.not_mem_nil, or_false, not_or] at h1 hz
        rcases hz with rfl | rfl | rfl
        · obtain ⟨f, f1, f2⟩ := Xa.G.table
          rw [ht] at f1
          injection f1 with f1
          injection f1 with f1
          rw [f1] at m
          obtain ⟨i, hi2, e2⟩ := List.mem_map.mp m
          injection e2 with e2
          exact grp_ne Xa.G.at_ (f2 i (List.mem_range.mp hi2)) e2.symm
        · exact h1.1 rfl
        · exact h1.2 rfl
      · exact Xa.fr (fr z (by
          simp only [List.mem_cons, List.not_mem_nil, or_false] at hz ⊢
          rcases hz with h | h | h <;> simp [h])) _ ht m
    · obtain ⟨o, oo⟩ := List.exists_mem_of_ne_nil _ Xa.G.one
      exact ⟨o, Xa.G.osub o oo, decide_eq_true oo⟩
  refine ⟨{ a with q := q, sh := sh, tq := tq, md := md, sn := sn, rw := rw }, ⟨_, _, _, _, _, _, rfl⟩, rfl, R2.gl, R2.hlA, R2.shA, R2.B, R2.St, R2.gs, ?_, fun y hy => ?_, fun y hy D hD => ?_, List.pairwise_append.mpr ⟨R.sep, by simp, fun b1 hb1 y hy => ?_⟩, paired_app R2.tup ⟨T, LO, LD⟩, fun u hu y hy => ?_, fun u hu => ?_, fun u hu => ?_, List.pairwise_append.mpr ⟨R.tt, by simp, fun u hu v hv => ?_⟩, R.nD, fun y hy x hx z hz => ?_, fun y hy j x hj hle z hz => ?_⟩
  · rw [List.length_append, List.length_singleton, List.take_succ, hi]
    exact paired_app R.cr ⟨_, _, _, _, _, _, rfl⟩
  · rcases List.mem_append.mp hy with hy | hy
    · exact R2.pr y hy
    · rw [List.mem_singleton.mp hy]
      exact Yb
  · rcases List.mem_append.mp hy with hy | hy
    · exact R.nl y hy D hD
    · rw [List.mem_singleton.mp hy]
      obtain ⟨⟨l, h⟩, h2⟩ := nD3 D hD
      exact ⟨h2 a ham, fun x hx e => by
        rw [← e, rw2 x hx] at h
        cases h⟩
  · rw [List.mem_singleton.mp hy]
    have gg := R.gg b1 hb1 bs.length a hi (Nat.le_refl _)
    have Y1 := R.pr b1 hb1
    refine ⟨fun z hz => ?_, fun z hz => ?_⟩
    · rcases List.mem_append.mp hz with hz | hz
      · have hz2 : z ∈ a.dg := by
          simp only [List.mem_cons, List.not_mem_nil, or_false] at hz ⊢
          rcases hz with h | h | h <;> simp [h]
        exact ⟨gg z hz2, R.rg b1 hb1 a ham z hz2⟩
      · have fz : H z = none := fr z (by
          simp only [List.mem_cons, List.not_mem_nil, or_false] at hz ⊢
          rcases hz with h | h | h <;> simp [h])
        exact ⟨Y1.X.al fz, Y1.R.al fz⟩
    · rcases List.mem_append.mp hz with hz | hz
      · have hz2 : z ∈ b1.dg := by
          simp only [List.mem_cons, List.not_mem_nil, or_false] at hz ⊢
          rcases hz with h | h | h <;> simp [h]
        exact ⟨fun m => gg z m hz2, frS (fun h => Y1.X.al h hz2) (fun e => Y1.s2 z hz (by rw [e]; simp))⟩
      · have hz2 : z ∈ b1.dr S := by
          simp only [List.mem_cons, List.not_mem_nil, or_false] at hz ⊢
          rcases hz with h | h | h <;> simp [h]
        refine ⟨fun m => R.rg b1 hb1 a ham z m hz2, frS (fun h => Y1.R.al h hz2) ?_⟩
        obtain ⟨dx, h1⟩ := Y1.R.at_
        unfold SpF at h1
        obtain ⟨us, h4, -⟩ := Y1.R.snA
        simp only [List.mem_cons, List.not_mem_nil, or_false] at hz
        rcases hz with rfl | rfl | rfl
        · exact Ne.symm (R.St.neins h1 (by decide))
        · exact sS Y1.R.mdA
        · exact sS h4
  · rcases List.mem_append.mp hu with hu | hu
    · obtain ⟨b2, -, e1, e2, e3⟩ := paired_mem R.tup hu
      rcases List.mem_append.mp hy with hy | hy
      · exact R.ap u hu y hy
      · rw [List.mem_singleton.mp hy]
        obtain ⟨h1, h2⟩ := R.apa u hu a ham
        have h3 : ∀ x, x ∈ xs → rw x ≠ u.2.1 := fun x hx e => by
          rw [← e, rw2 x hx] at e2
          cases e2
        exact ⟨h1, h3, h2, frS (by rw [e3]; simp) (sS e3)⟩
    · rw [List.mem_singleton.mp hu]
      rcases List.mem_append.mp hy with hy | hy
      · exact apN y hy
      · rw [List.mem_singleton.mp hy]
        obtain ⟨h1, h2⟩ := apaN a ham
        obtain ⟨l, hl2⟩ := hlo
        obtain ⟨d, hd⟩ := hld
        have h3 : ∀ x, x ∈ xs → rw x ≠ lo := fun x hx e => by
          rw [← e, rw2 x hx] at hl2
          cases hl2
        exact ⟨h1, h3, h2, frS (by rw [hd]; simp) (sS hd)⟩
  · rcases List.mem_append.mp hu with hu | hu
    · exact R.apa u hu
    · rw [List.mem_singleton.mp hu]
      exact apaN
  · rcases List.mem_append.mp hu with hu | hu
    · exact R2.apg u hu
    · rw [List.mem_singleton.mp hu]
      obtain ⟨h1, h2, h3, h4⟩ := apgN
      refine ⟨h1, h2, h3, fun l e => ?_⟩
      rw [k.g0 ht] at e
      injection e with e
      injection e with e
      exact e ▸ h4 _ ht
  · rw [List.mem_singleton.mp hv]
    exact ttN u hu
  · rcases List.mem_append.mp hy with hy | hy
    · exact R.rg y hy x hx z hz
    · rw [List.mem_singleton.mp hy]
      exact frS (dgA x hx z hz).1 (dgA x hx z hz).2
  · rw [List.length_append, List.length_singleton] at hle
    rcases List.mem_append.mp hy with hy | hy
    · exact R.gg y hy j x hj (by omega) z hz
    · rw [List.mem_singleton.mp hy]
      obtain ⟨i1, i2⟩ := List.getElem?_eq_some_iff.mp hi
      obtain ⟨j1, j2⟩ := List.getElem?_eq_some_iff.mp hj
      have := List.pairwise_iff_getElem.mp ap bs.length j i1 j1 (by omega) z (by rw [j2]; exact hz)
      rw [i2] at this
      exact this
end

theorem cut_last {xs : List V} : cutV xs none (some (-1)) = xs.dropLast := by
  unfold cutV
  rw [HT.sIx_none, List.drop_zero, Nat.sub_zero, List.dropLast_eq_take]
  congr 1
  unfold HT.sIx
  simp only []
  split <;> omega
theorem cr_map : ∀ {as bs : List PL}, Paired Cr as bs → (as.map fun a => V.ref a.g) = bs.map fun b => V.ref b.g
  | _, _, .nil => rfl
  | _, _, .cons q r => by
    obtain ⟨_, _, _, _, _, _, rfl⟩ := q
    rw [List.map_cons, List.map_cons, cr_map r]
theorem paired_at {α β : Type} {R : α → β → Prop} : ∀ {xs : List α} {ys : List β}, Paired R xs ys → ∀ {i : Nat} {x : α} {y : β}, xs[i]? = some x → ys[i]? = some y → R x y
  | _, _, .nil, _, _, _, h, _ => by cases h
  | _, _, .cons q r, 0, _, _, h1, h2 => by
    cases h1
    cases h2
    exact q
  | _, _, .cons q r, i + 1, _, _, h1, h2 => paired_at r (i := i) h1 h2
section
variable {K : PySem.W.Frag} {H H' H1 : Hp} {hl tb S p0 c D GL shd rl ll : Addr} {s : Stg} {xs : List Int} {a b : PL} {as bs : List PL} {ts : List (Addr × Addr × Addr)} {t : Addr × Addr × Addr} {lt : List V} {i : Nat}
/-- while what was handed in is changed -/
structure RL (K : PySem.W.Frag) (H : Hp) (hl tb S GL shd rl ll p0 c : Addr) (s : Stg) (xs : List Int) (bs : List PL) (ts : List (Addr × Addr × Addr)) (lt : List V) (i : Nat) : Prop where
  gl : H GL = some (.lst (bs.map fun b => V.ref b.g))
  hlA : H hl = some (.lst (xs.map V.int))
  shA : H shd = some (.lst (xs.map V.int))
  rlA : H rl = some (.lst (bs.map fun b => V.ref b.q))
  llA : H ll = some (.lst (ts.map fun t => V.ref t.1))
  tbA : H tb = some (.lst lt)
  B : Purse H p0 c
  pr : ∀ b, b ∈ bs → PR K H hl tb S s xs b 0 (P0 b) (fun _ => 0)
  tp : ∀ t, t ∈ ts → H t.1 = some (.tup [.ref t.2.1, .ref t.2.2])
  dt : ∀ (k : Nat) (t : Addr × Addr × Addr) (b : PL), i ≤ k → ts[k]? = some t → bs[k]? = some b → H t.2.1 = some (.lst (b.os.map V.int)) ∧ H t.2.2 = some (.dK (dmap b.ks fun x => V.int (b.df x)))
  ap : ∀ t, t ∈ ts → ∀ b, b ∈ bs → Ap S xs t.2.1 t.2.2 b
  apg : ∀ t, t ∈ ts → t.2.1 ∉ [hl, tb, GL, shd, rl, ll, c] ∧ t.2.2 ≠ p0 ∧ V.ref t.2.2 ∉ lt
  tt : ts.Pairwise (fun t u => t.2.1 ≠ u.2.1 ∧ t.2.2 ≠ u.2.2)
theorem RI.toL (R : RI K H hl tb S GL shd rl ll p0 c s xs as bs ts) (e : as.length = bs.length) (h1 : H rl = some (.lst (bs.map fun b => V.ref b.q))) (h2 : H ll = some (.lst (ts.map fun t => V.ref t.1))) (h3 : H tb = some (.lst lt)) : RL K H hl tb S GL shd rl ll p0 c s xs bs ts lt 0 := by
  have cr := R.cr
  rw [← e, List.take_length] at cr
  refine ⟨by rw [← cr_map cr]; exact R.gl, R.hlA, R.shA, h1, h2, h3, R.B, R.pr, fun t ht => ?_, fun k t b _ ht hb => (paired_at R.tup ht hb).2, R.ap, fun t ht => ?_, R.tt⟩
  · obtain ⟨y, -, e1, -⟩ := paired_mem R.tup ht
    exact e1
  · obtain ⟨e1, e2, -, e4⟩ := R.apg t ht
    exact ⟨e1, e2, e4 _ h3⟩
theorem RL.nx (Z : RL K H hl tb S GL shd rl ll p0 c s xs bs ts lt i) (ht : ts[i]? = some t) (hb : bs[i]? = some b) (k1 : Kp [t.2.1] H H1) (k2 : Kp [t.2.2] H1 H') : RL K H' hl tb S GL shd rl ll p0 c s xs bs ts lt (i + 1) := by
  obtain ⟨h1, h2⟩ := Z.dt i t b (Nat.le_refl _) ht hb
  have htm := List.mem_of_getElem? ht
  obtain ⟨a1, a2, a3⟩ := Z.apg t htm
  simp only [List.mem_cons, List.not_mem_nil, or_false, not_or] at a1
  obtain ⟨m1, m2, m3, m4, m5, m6, m7⟩ := a1
  have h2' := k1.g1 (ne_of h2 h1 (by intro z; cases z)) h2
  have gl : ∀ {z : Addr} {l : List V}, H z = some (.lst l) → t.2.1 ≠ z → H' z = some (.lst l) := fun {z l} h n => by
    have h3 := k1.g1 (Ne.symm n) h
    exact k2.g1 (ne_of h3 h2' (by intro z; cases z)) h3
  have tb1 := k1.g1 (Ne.symm m2) Z.tbA
  have w : Wt H1 tb [t.2.2] := fun z hz => by
    rw [List.mem_singleton.mp hz]
    refine ⟨fun l e => ?_, fun l e => ?_⟩
    · rw [h2'] at e
      cases e
    · rw [tb1] at e
      injection e with e
      injection e with e
      exact e ▸ a3
  refine ⟨gl Z.gl m3, gl Z.hlA m1, gl Z.shA m4, gl Z.rlA m5, gl Z.llA m6, gl Z.tbA m2, (Z.B.k1 k1 (Ne.symm (Z.B.lst h1)) (Ne.symm m7)).wt (fun z hz => (w z hz).1) (by simpa using Ne.symm a2) k2, fun y hy => ?_, fun u hu => ?_, fun k u y hk hu hy => ?_, Z.ap, Z.apg, Z.tt⟩
  · obtain ⟨p1, p2, p3, p4⟩ := Z.ap t htm y hy
    exact ((Z.pr y hy).kd h1 m1 m2 p1 p2 k1).kw w (fun z hz => by rw [List.mem_singleton.mp hz]; exact ⟨p3, p4⟩) k2
  · have e := Z.tp u hu
    have e1 := k1.g1 (ne_of e h1 (by intro z; cases z)) e
    exact k2.g1 (ne_of e1 h2' (by intro z; cases z)) e1
  · obtain ⟨e1, e2⟩ := Z.dt k u y (by omega) hu hy
    obtain ⟨i1, i2⟩ := List.getElem?_eq_some_iff.mp ht
    obtain ⟨j1, j2⟩ := List.getElem?_eq_some_iff.mp hu
    have n := List.pairwise_iff_getElem.mp Z.tt i k i1 j1 (by omega)
    rw [i2, j2] at n
    refine ⟨gl e1 n.1, ?_⟩
    exact k2.g1 (Ne.symm n.2) (k1.g1 (ne_of e2 h1 (by intro z; cases z)) e2)
/-- while the Spreads run -/
structure RM (K : PySem.W.Frag) (H : Hp) (hl tb S GL shd rl p0 c : Addr) (s : Stg) (xs : List Int) (bs : List PL) : Prop where
  gl : H GL = some (.lst (bs.map fun b => V.ref b.g))
  hlA : H hl = some (.lst (xs.map V.int))
  shA : H shd = some (.lst (xs.dropLast.map V.int))
  rlA : H rl = some (.lst (bs.map fun b => V.ref b.q))
  B : Purse H p0 c
  pr : ∀ (j : Nat) (b : PL), bs[j]? = some b → ∃ n p W, PR K H hl tb S s xs b n p W
  sep : bs.Pairwise (fun a b => Sep S a b ∧ Sep S b a)
theorem RL.toM (Z : RL K H hl tb S GL shd rl ll p0 c s xs bs ts lt i) (n1 : shd ≠ GL ∧ shd ≠ hl ∧ shd ≠ tb ∧ shd ≠ c) (n2 : shd ≠ rl) (nl : ∀ b, b ∈ bs → shd ≠ b.og ∧ ∀ x, x ∈ xs → b.rw x ≠ shd) (sep : bs.Pairwise (fun a b => Sep S a b ∧ Sep S b a)) (k : Kp [shd] H H') (h : H' shd = some (.lst (xs.dropLast.map V.int))) : RM K H' hl tb S GL shd rl p0 c s xs bs := by
  obtain ⟨m1, m2, m3, m4⟩ := n1
  refine ⟨k.g1 (Ne.symm m1) Z.gl, k.g1 (Ne.symm m2) Z.hlA, h, k.g1 (Ne.symm n2) Z.rlA, Z.B.k1 k (Ne.symm (Z.B.lst Z.shA)) (Ne.symm m4), fun j b hb => ?_, sep⟩
  have hm := List.mem_of_getElem? hb
  exact ⟨_, _, _, (Z.pr b hm).kd Z.shA m2 m3 (nl b hm).1 (nl b hm).2 k⟩
theorem RM.k0 (Z : RM K H hl tb S GL shd rl p0 c s xs bs) (k : Kp [] H H') : RM K H' hl tb S GL shd rl p0 c s xs bs :=
  ⟨k.g0 Z.gl, k.g0 Z.hlA, k.g0 Z.shA, k.g0 Z.rlA, Z.B.k0 k, fun j b hb => by
    obtain ⟨n, p, W, Y⟩ := Z.pr j b hb
    exact ⟨n, p, W, Y.k0 k⟩, Z.sep⟩
theorem RM.dr (Z : RM K H hl tb S GL shd rl p0 c s xs bs) (B : Purse H' p0 c) (k : Kp [p0] H H') : RM K H' hl tb S GL shd rl p0 c s xs bs :=
  ⟨k.g1 (Z.B.lst Z.gl) Z.gl, k.g1 (Z.B.lst Z.hlA) Z.hlA, k.g1 (Z.B.lst Z.shA) Z.shA, k.g1 (Z.B.lst Z.rlA) Z.rlA, B, fun j b hb => by
    obtain ⟨n, p, W, Y⟩ := Z.pr j b hb
    exact ⟨n, p, W, Y.dr Z.B k⟩, Z.sep⟩
theorem RM.st {n n2 : Nat} {p p2 : (Int → Bool) × (Int → Int)} {W W2 : Int → Int} (Z : RM K H hl tb S GL shd rl p0 c s xs bs) (hb : bs[i]? = some b) (Y : PR K H hl tb S s xs b n p W) (Y2 : PR K H' hl tb S s xs b n2 p2 W2) (B : Purse H' p0 c) (k : Kp (p0 :: (b.og' ++ b.or')) H H') : RM K H' hl tb S GL shd rl p0 c s xs bs := by
  have gl : ∀ {z : Addr} {l : List V}, H z = some (.lst l) → H' z = some (.lst l) := fun {z l} h => k _ _ h fun m => by
    rcases List.mem_cons.mp m with m | m
    · exact Z.B.lst h m
    · exact Y.wt.lst h m
  refine ⟨gl Z.gl, gl Z.hlA, gl Z.shA, gl Z.rlA, B, fun j y hy => ?_, Z.sep⟩
  obtain ⟨i1, i2⟩ := List.getElem?_eq_some_iff.mp hb
  obtain ⟨j1, j2⟩ := List.getElem?_eq_some_iff.mp hy
  by_cases e : j = i
  · subst e
    rw [hb] at hy
    injection hy with hy
    exact ⟨_, _, _, hy ▸ Y2⟩
  · obtain ⟨n3, p3, W3, Y3⟩ := Z.pr j y hy
    have sp : Sep S y b := by
      rcases Nat.lt_or_gt_of_ne e with h | h
      · have := (List.pairwise_iff_getElem.mp Z.sep j i j1 i1 h).1
        rwa [j2, i2] at this
      · have := (List.pairwise_iff_getElem.mp Z.sep i j i1 j1 h).2
        rwa [j2, i2] at this
    exact ⟨_, _, _, Y3.ot Y sp Z.B k⟩
end

def sp_law (K : PySem.W.Frag) : Sp := fun vs H Q E => ∃ (a : Addr) (ns : List Int), vs = [.ref a] ∧ (SqL K H a (ns.map V.int)) ∧ (ns.length ≤ 63) ∧ (LamX.Tabs (TT K) H) ∧ (∀ H1, Q (.bl true) H1)
theorem us_law {K : PySem.W.Frag} {H : Hp} {Q : VK} {E : XK} {a : Addr} {ns : List Int} (hS : SqL K H a (ns.map V.int)) (hl : ns.length ≤ 63) (hT : LamX.Tabs (TT K) H) (kk : ∀ H1, Q (.bl true) H1) : sp_law K [.ref a] H Q E := ⟨_, _, rfl, hS, hl, hT, kk⟩
theorem f_law (T : Cx K mg) (B : Tb K mg base) : ∃ fd, FunD K "law" "law" (defArgs s_law) (defBody s_law) (defScope s_law) (d_law.dvs K) (d_law.kws K) (fAd K d_law.at_) fd ∧ FnOk P w K mg base CX0 14 (fAd K d_law.at_) fd p_law (sp_law K) := by
  have c_l_purse := c_l_purse (P := P) (w := w) (base := base) T B
  have c_l_draw := c_l_draw (P := P) (w := w) (base := base) T B
  have c_l_setting := c_l_setting (P := P) (w := w) (base := base) T B
  have c_l_seats := c_l_seats (P := P) (w := w) (base := base) T B
  have c_l_table := c_l_table (P := P) (w := w) (base := base) T B
  have c_l_group := c_l_group (P := P) (w := w) (base := base) T B
  have c_l_spread := c_l_spread (P := P) (w := w) (base := base) T B
  have c_l_stepped := c_l_stepped (P := P) (w := w) (base := base) T B
  have c_l_shows := c_l_shows (P := P) (w := w) (base := base) T B
  have c_Spread_known := c_Spread_known (P := P) (w := w) (base := base) T B
  obtain ⟨fd, F⟩ := T.says.def_ 32 (d := d_law) rfl
  refine ⟨fd, F, fnDg F sc_law (fun vs H Q E h => by
    obtain ⟨_, _, rfl, _⟩ := h
    rfl) fun cdv gu A outer s H vs Q E hgA hr h => ?_⟩
  have hu := hu_of hr
  obtain ⟨a, ns, rfl, hS, hl, hT, kk⟩ := h
  refine ⟨_, (pss_cons (ps_set (i := 1) sc_law.nd rfl (by first | exact Or.inl rfl | exact Or.inr rfl) (pe_cal c_l_purse hr (by decide) (by rfl) pass0 (pa_cons (pv 0) pa_nil))) (pss_cons (ps_set (i := 2) sc_law.nd rfl (by first | exact Or.inl rfl | exact Or.inr rfl) (pe_ix ix_list (pe_lst (pa_cons pe_int (pa_cons pe_int (pa_cons pe_int (pa_cons pe_int (pa_cons pe_int (pa_cons pe_int (pa_cons pe_int (pa_cons pe_int (pa_cons pe_int (pa_cons pe_int (pa_cons pe_int (pa_cons pe_int pa_nil))))))))))))) (pe_cal c_l_draw hr (by decide) (by rfl) pass0 (pa_cons (pv 1) (pa_cons pe_int pa_nil))) (fun _ _ => rfl))) (pss_cons (ps_set (i := 3) sc_law.nd rfl (by first | exact Or.inl rfl | exact Or.inr rfl) (pe_ix ix_list (pe_lst (pa_cons pe_int (pa_cons pe_int (pa_cons pe_int (pa_cons pe_int (pa_cons pe_int (pa_cons pe_int (pa_cons pe_int (pa_cons pe_int (pa_cons pe_int (pa_cons pe_int pa_nil))))))))))) (pe_cal c_l_draw hr (by decide) (by rfl) pass0 (pa_cons (pv 1) (pa_cons pe_int pa_nil))) (fun _ _ => rfl))) (pss_cons (ps_set (i := 4) sc_law.nd rfl (by first | exact Or.inl rfl | exact Or.inr rfl) (pe_op op_shl pe_int (pv 2))) (pss_cons (ps_set (i := 5) sc_law.nd rfl (by first | exact Or.inl rfl | exact Or.inr rfl) (pe_cal c_l_setting hr (by decide) (by rfl) pass0 (pa_cons (pv 1) (pa_cons (pv 2) (pa_cons (pv 3) pa_nil))))) (pss_cons (ps_set (i := 6) sc_law.nd rfl (by first | exact Or.inl rfl | exact Or.inr rfl) (pe_cal c_l_seats hr (by decide) (by rfl) pass0 (pa_cons (pv 1) (pa_cons (pv 4) (pa_cons (pe_callB (call_min2' rfl) (by rfl) (fr_min T) (by decide +kernel) (pa_cons (pv 4) (pa_cons (pe_ix ix_list (pe_lst (pa_cons pe_int (pa_cons pe_int (pa_cons pe_int (pa_cons pe_int (pa_cons pe_int (pa_cons pe_int (pa_cons pe_int (pa_cons pe_int (pa_cons pe_int (pa_cons pe_int pa_nil))))))))))) (pe_cal c_l_draw hr (by decide) (by rfl) pass0 (pa_cons (pv 1) (pa_cons pe_int pa_nil))) (fun _ _ => rfl)) pa_nil))) pa_nil))))) (pss_cons (ps_set (i := 7) sc_law.nd rfl (by first | exact Or.inl rfl | exact Or.inr rfl) (pe_cal c_l_table hr (by decide) (by rfl) pass0 (pa_cons (pv 2) (pa_cons (pv 6) (pa_cons (pv 6) pa_nil))))) (pss_cons (ps_setLc (i := 8) (own := [("_law_k", 14)]) (g := (gName 14)) (tt := tYes) rfl sc_law.nd rfl rfl (sw_true rfl rfl rfl (by decide +kernel)) (pi_range1 (by rfl) (fr_range T) (pa_cons pe_int pa_nil)) (blkOk_by (own := [("_law_k", 14)]) (N := n_law) (sc := defScope s_law) (by decide +kernel)) (fun _ _ _ _ _ => (pg_name (i := 14) sc_law.nd rfl (by first | exact Or.inl rfl | exact Or.inr rfl))) (fun _ _ _ _ _ => pts_nil) (fun _ _ _ _ _ => (pe_cal c_l_group hr (by decide) (by rfl) pass0 (pa_cons (pv 1) (pa_cons (pv 2) (pa_cons (pv 3) (pa_cons (pv 6) (pa_cons (pv 7) pa_nil)))))))) (pss_cons (ps_set (i := 9) sc_law.nd rfl (by first | exact Or.inl rfl | exact Or.inr rfl) (pe_ix ix_list (pe_lst (pa_cons pe_int (pa_cons pe_int (pa_cons pe_int (pa_cons pe_int (pa_cons pe_int (pa_cons (pe_op op_add (pe_op op_mul (pv 2) (pv 3)) pe_int) pa_nil))))))) (pe_cal c_l_draw hr (by decide) (by rfl) pass0 (pa_cons (pv 1) (pa_cons pe_int pa_nil))) (fun _ _ => rfl))) (pss_cons (ps_set (i := 10) sc_law.nd rfl (by first | exact Or.inl rfl | exact Or.inr rfl) (pe_callTy call_listOf (by rfl) (fr_list T) (by decide +kernel) (pa_cons (pv 6) pa_nil))) (pss_cons (ps_set (i := 11) sc_law.nd rfl (by first | exact Or.inl rfl | exact Or.inr rfl) (pe_lst pa_nil)) (pss_cons (ps_set (i := 12) sc_law.nd rfl (by first | exact Or.inl rfl | exact Or.inr rfl) (pe_lst pa_nil)) (pss_cons (ps_for PassesOwn.never rfl (pi_list (pv 8)) (pg_name (i := 13) sc_law.nd rfl (by first | exact Or.inl rfl | exact Or.inr rfl)) (pss_cons (ps_expr (pe_bm PySem.F.plainAttrs_list PySem.F.slot_list_append PySem.F.type_list_append mt_append (pv 12) (pa_cons (pe_tup (pa_cons (pe_callTy call_listOf (by rfl) (fr_list T) (by decide +kernel) (pa_cons (pe_dget hu (pv 13) pe_str (fun _ _ => rfl)) pa_nil)) (pa_cons (pe_callTy call_dictD (by rfl) (fr_dict T) (by decide +kernel) (pa_cons (pe_dget hu (pv 13) pe_str (fun _ _ => rfl)) pa_nil)) pa_nil))) pa_nil))) (pss_one (ps_expr (pe_bm PySem.F.plainAttrs_list PySem.F.slot_list_append PySem.F.type_list_append mt_append (pv 11) (pa_cons (pe_cal c_l_spread hr (by decide) (by rfl) pass0 (pa_cons (pv 5) (pa_cons (pv 10) (pa_cons (pv 13) (pa_cons (pe_ix ix_tup (pe_ix ix_list (pv 12) (pe_un un_neg pe_int) (fun _ _ => rfl)) pe_int (fun _ _ => rfl)) (pa_cons (pe_ix ix_tup (pe_ix ix_list (pv 12) (pe_un un_neg pe_int) (fun _ _ => rfl)) pe_int (fun _ _ => rfl)) pa_nil)))))) pa_nil)))))) (pss_cons (ps_for PassesOwn.never rfl (pi_range1 (by rfl) (fr_range T) (pa_cons pe_int pa_nil)) (pg_name (i := 14) sc_law.nd rfl (by first | exact Or.inl rfl | exact Or.inr rfl)) (pss_cons (ps_set (i := 15) sc_law.nd rfl (by first | exact Or.inl rfl | exact Or.inr rfl) (pe_ix ix_tup (pe_ix ix_list (pv 12) (pv 14) (fun _ _ => rfl)) pe_int (fun _ _ => rfl))) (pss_cons (ps_set (i := 16) sc_law.nd rfl (by first | exact Or.inl rfl | exact Or.inr rfl) (pe_ix ix_tup (pe_ix ix_list (pv 12) (pv 14) (fun _ _ => rfl)) pe_int (fun _ _ => rfl))) (pss_cons (ps_if (PW.pt (pw_or (pt_cmpR (op_neD hr.units) (pv 15) (pe_dget hu (pe_ix ix_list (pv 8) (pv 14) (fun _ _ => rfl)) pe_str (fun _ _ => rfl)) (nomark _)) (pw_or (pt_cmpR (op_ne_dictA (Nat.lt_of_succ_lt hu)) (pv 16) (pe_dget hu (pe_ix ix_list (pv 8) (pv 14) (fun _ _ => rfl)) pe_str (fun _ _ => rfl)) (nomark _)) (pw_or1 (pt_cmpR (op_neD hr.units) (pv 10) (pv 6) (nomark _)))))) (pss_one (ps_ret pe_bl)) pss_nil) (pss_cons (ps_expr (pe_bm PySem.F.plainAttrs_list PySem.F.slot_list_append PySem.F.type_list_append mt_append (pv 15) (pa_cons (pe_ix ix_list (pv 6) pe_int (fun _ _ => rfl)) pa_nil))) (pss_one (ps_expr (pe_bm0 PySem.F.plainAttrs_dict PySem.F.slot_dict_clear PySem.F.type_dict_clear mtd_clear (pv 16))))))))) (pss_cons (ps_expr (pe_bm0 PySem.F.plainAttrs_list PySem.F.slot_list_pop PySem.F.type_list_pop mt_pop (pv 10))) (pss_cons (ps_for PassesOwn.never rfl (pi_range1 (by rfl) (fr_range T) (pa_cons (pe_op op_add (pv 9) pe_int) pa_nil)) (pg_name (i := 17) sc_law.nd rfl (by first | exact Or.inl rfl | exact Or.inr rfl)) (pss_one (ps_for PassesOwn.never rfl (pi_range1 (by rfl) (fr_range T) (pa_cons pe_int pa_nil)) (pg_name (i := 14) sc_law.nd rfl (by first | exact Or.inl rfl | exact Or.inr rfl)) (pss_cons (ps_set (i := 18) sc_law.nd rfl (by first | exact Or.inl rfl | exact Or.inr rfl) (pe_met0 c_Spread_known hr (by decide) pass0 (pe_ix ix_list (pv 11) (pv 14) (fun _ _ => rfl)))) (pss_cons (ps_set (i := 19) sc_law.nd rfl (by first | exact Or.inl rfl | exact Or.inr rfl) (pe_callB (call_repr_ints hr hgA) (by rfl) (fr_repr T) (by decide +kernel) (pa_cons (pv 18) pa_nil))) (C8.pss_cut (ps_if (PW.pt (pw_and (pt_cmpR op_gt (pv 17) pe_int (nomark _)) (pw_and1 (pt_not (pt_val (pe_cal c_l_stepped hr (by decide) (by rfl) pass0 (pa_cons (pv 1) (pa_cons (pe_ix ix_list (pv 11) (pv 14) (fun _ _ => rfl)) (pa_cons (pe_ix ix_list (pv 8) (pv 14) (fun _ _ => rfl)) pa_nil))))))))) (pss_one (ps_ret pe_bl)) pss_nil) (pss_cons (ps_if (pt_cmpR op_ne (pe_callB (call_repr_ints hr hgA) (by rfl) (fr_repr T) (by decide +kernel) (pa_cons (pv 18) pa_nil)) (pv 19) (nomark _)) (pss_one (ps_ret pe_bl)) pss_nil) (C8.pss_cut (ps_set (i := 20) sc_law.nd rfl (by first | exact Or.inl rfl | exact Or.inr rfl) (pe_or (pe_cmpR op_eq (pv 17) pe_int (nomark _)) (pe_or (pe_cmpR op_eq (pv 17) (pv 9) (nomark _)) (pe_one (pe_cmpR op_eq (pe_cal c_l_draw hr (by decide) (by rfl) pass0 (pa_cons (pv 1) (pa_cons pe_int pa_nil))) pe_int (nomark _)))))) (pss_one (ps_if (PW.pt (pw_and (pt_val (pv 20)) (pw_and1 (pt_not (pt_val (pe_cal c_l_shows hr (by decide) (by rfl) pass0 (pa_cons (pe_ix ix_list (pv 11) (pv 14) (fun _ _ => rfl)) (pa_cons (pe_ix ix_list (pv 8) (pv 14) (fun _ _ => rfl)) pa_nil)))))))) (pss_one (ps_ret pe_bl)) pss_nil)))))))))) (pss_one (ps_ret (pe_cmpR (op_eqD hr.units) (pv 10) (pe_slice sl_list (pv 6) po_none (po_some (pe_un un_neg pe_int))) (nomark _)))))))))))))))))))), ?_⟩
  rw [show L2.start n_law [.ref a] = [some (.ref a), none, none, none, none, none, none, none, none, none, none, none, none, none, none, none, none, none, none, none, none] from rfl]
  try dsimp only [cxOf, Cx.nox, Cx.wish, List.map]

  wtm_at "rd"
  clear hT
  refine us_l_purse hS hl fun p c H1 B1 k1 np nc => ?_
  clear hS k1
  wtm_at "rd"
  refine ⟨sz1000 (by simp), fun t1 nt1 => ?_⟩
  have e1 : upd H1 t1 (.lst [.int 2, .int 3, .int 2, .int 3, .int 1, .int 4, .int 3, .int 2, .int 5, .int 6, .int 7, .int 8]) t1 = some (.lst (([2, 3, 2, 3, 1, 4, 3, 2, 5, 6, 7, 8] : List Int).map V.int)) := upd_same
  have B2 := B1.new (o := .lst [.int 2, .int 3, .int 2, .int 3, .int 1, .int 4, .int 3, .int 2, .int 5, .int 6, .int 7, .int 8]) nt1
  generalize upd H1 t1 (.lst [.int 2, .int 3, .int 2, .int 3, .int 1, .int 4, .int 3, .int 2, .int 5, .int 6, .int 7, .int 8]) = H2 at *
  wtm_at "rd"
  refine us_l_draw B2 (by decide) (by decide) fun n3 H3 n30 n31 B3 k3 => ?_
  have e3 := k3.g1 (B2.lst e1) e1
  obtain ⟨bits, hb, at3⟩ := pickI [2, 3, 2, 3, 1, 4, 3, 2, 5, 6, 7, 8] n30 (by simpa using n31)
  have b : 1 ≤ bits ∧ bits ≤ 8 := by
    simp only [List.mem_cons, List.not_mem_nil, or_false] at hb
    omega
  wtm_at "rd"
  refine ⟨sz1000 (by simp), fun t4 nt4 => ?_⟩
  have e4 : upd H3 t4 (.lst [.int 1, .int 2, .int 1, .int 2, .int 3, .int 1, .int 2, .int 4, .int 5, .int 6]) t4 = some (.lst (([1, 2, 1, 2, 3, 1, 2, 4, 5, 6] : List Int).map V.int)) := upd_same
  have B4 := B3.new (o := .lst [.int 1, .int 2, .int 1, .int 2, .int 3, .int 1, .int 2, .int 4, .int 5, .int 6]) nt4
  generalize upd H3 t4 (.lst [.int 1, .int 2, .int 1, .int 2, .int 3, .int 1, .int 2, .int 4, .int 5, .int 6]) = H4 at *
  wtm_at "rd"
  refine us_l_draw B4 (by decide) (by decide) fun n5 H5 n50 n51 B5 k5 => ?_
  have e5 := k5.g1 (B4.lst e4) e4
  obtain ⟨pat, hp, at5⟩ := pickI [1, 2, 1, 2, 3, 1, 2, 4, 5, 6] n50 (by simpa using n51)
  have pp : 1 ≤ pat ∧ pat ≤ 6 := by
    simp only [List.mem_cons, List.not_mem_nil, or_false] at hp
    omega
  have tp := turn_pos b pp
  clear hb hp e1 e3 k3 k5 e4
  wtm_at "rd"
  refine us_l_setting B5 b pp fun S s H6 S6 sb sp B6 k6 => ?_
  subst sb sp
  have rg : Ring (2 ^ s.bits.toNat) := ring_pow b.1 b.2
  have rp := rg.pos
  have rl := rg.le
  wtm_at "rd"
  refine ⟨sz1000 (by simp), fun t7 nt7 => ?_⟩
  have e7 : upd H6 t7 (.lst [.int 3, .int 2, .int 4, .int 5, .int 6, .int 1, .int 4, .int 7, .int 3, .int 16]) t7 = some (.lst (([3, 2, 4, 5, 6, 1, 4, 7, 3, 16] : List Int).map V.int)) := upd_same
  have B7 := B6.new (o := .lst [.int 3, .int 2, .int 4, .int 5, .int 6, .int 1, .int 4, .int 7, .int 3, .int 16]) nt7
  have S7 := S6.k0 (Kp.new (o := .lst [.int 3, .int 2, .int 4, .int 5, .int 6, .int 1, .int 4, .int 7, .int 3, .int 16]) nt7)
  generalize upd H6 t7 (.lst [.int 3, .int 2, .int 4, .int 5, .int 6, .int 1, .int 4, .int 7, .int 3, .int 16]) = H7 at *
  wtm_at "rd"
  refine us_l_draw B7 (by decide) (by decide) fun n8 H8 n80 n81 B8 k8 => ?_
  have e8 := k8.g1 (B7.lst e7) e7
  have S8 := S7.kpp B7 k8
  obtain ⟨m9, hm9, at9⟩ := pickI [3, 2, 4, 5, 6, 1, 4, 7, 3, 16] n80 (by simpa using n81)
  have m9b : 1 ≤ m9 ∧ m9 ≤ 16 := by
    simp only [List.mem_cons, List.not_mem_nil, or_false] at hm9
    omega
  clear hm9 e7 S7 S6 k8 k6
  rw [Int.one_mul]
  wtm_at "rd"
  refine us_l_seats B8 (by omega) (by omega) (by omega) fun hl xs H9 hx hl9 nd hlen B9 k9 nhl => ?_
  have S9 := S8.kpp B8 k9
  clear k9 e8 S8
  have xl : 1 ≤ xs.length ∧ xs.length ≤ 60 := by omega
  wtm_at "rd"
  refine us_l_table hl9 nd hx (by omega) b fun tb H10 hT k10 ntb => ?_
  have hl10 := k10.g0 hl9
  have S10 := S9.k0 k10
  have B10 := B9.k0 k10
  have ntl : ∀ {GL : Addr}, H10 GL = none → GL ≠ hl ∧ GL ≠ tb := fun {GL} n => by
    obtain ⟨f, f1, f2⟩ := hT
    exact ⟨Ne.symm (ne_of_none hl10 n), Ne.symm (ne_of_none f1 n)⟩
  have hT' : ∀ {H' : Hp}, Kp [p] H10 H' → TabL H' tb s.bits xs := fun {H'} k => by
    obtain ⟨f, f1, f2⟩ := hT
    exact ⟨f, k.g1 (B10.lst f1) f1, fun i hi => k.g1 (B10.dm (f2 i hi)) (f2 i hi)⟩
  clear k10 hl9 S9 B9 B8 at3 at5 at9 B7 nt7 B6 nhl
  wtm_at "rd"
  intro GL nGL
  refine lcR_by (fun i H' => ∃ as : List PL, as.length = i ∧ H' GL = some (.lst (as.map fun a => V.ref a.g)) ∧ (∀ a, a ∈ as → GS H' hl tb s xs a 0 (fun y => decide (y ∈ a.os), fun _ => 0) (fun _ => 0) ∧ GL ≠ a.og) ∧ as.Pairwise (fun a b => ∀ z, z ∈ b.dg → z ∉ a.dg) ∧ Purse H' p c ∧ Kp [p] H10 H') ⟨[], rfl, upd_same, by simp, .nil, B10.new nGL, (Kp.new (ps := []) nGL).of0⟩ (fun i H' hi q => ?_) (fun H11 q => ?_)
  · obtain ⟨as, q1, q2, q3, q4, q5, q6⟩ := q
    wtm_at "rd"
    refine ⟨rfl, ?_⟩
    wtm_at "rd"
    refine us_l_group q5 (S10.kpp B10 q6) (q6.g1 (B10.lst hl10) hl10) (hT' q6) nd hx xl b pp fun a2 H12 X B k fr nog => ?_
    have g12 := k.g1 (q5.lst q2) q2
    obtain ⟨m1, m2⟩ := ntl nGL
    have kG : Kp [GL] H12 (upd H12 GL (.lst ((as.map fun a => V.ref a.g) ++ [.ref a2.g]))) := Kp.refl.wr (by simp)
    refine ⟨_, g12, szlt (by rw [List.length_map]; have : i < 2 := hi; omega), as ++ [a2], by simp [q1], by rw [upd_same, List.map_append]; rfl, fun x hx => ?_, List.pairwise_append.mpr ⟨q4, by simp, fun x hx y hy z hz => ?_⟩, B.k1 kG (B10.ne1 nGL) (B10.ne2 nGL), (q6.trans k).mine nGL⟩
    · rcases List.mem_append.mp hx with hx | hx
      · exact ⟨((q3 x hx).1.dr q5 k).kd g12 m1 m2 (q3 x hx).2 kG, (q3 x hx).2⟩
      · rw [List.mem_singleton.mp hx]
        have n3 := ne_of_none q2 nog
        exact ⟨X.kd g12 m1 m2 n3 kG, n3⟩
    · rw [List.mem_singleton.mp hy] at hz
      exact (q3 x hx).1.al (fr z hz)
  obtain ⟨as, as2, gl11, gs11, ap, B11, k11⟩ := q
  have S11 := S10.kpp B10 k11
  have hl11 := k11.g1 (B10.lst hl10) hl10
  have GLn := ntl nGL
  clear k11 hT' S10 B10 hl10 hT ntl nGL
  wtm_at "rd"
  refine ⟨sz1000 (by simp), fun t12 nt12 => ?_⟩
  have e12 : upd H11 t12 (.lst [.int 4, .int 2, .int 7, .int 1, .int 10, .int (s.bits * s.pat + 2)]) t12 = some (.lst (([4, 2, 7, 1, 10, s.bits * s.pat + 2] : List Int).map V.int)) := upd_same
  have B12 := B11.new (o := .lst [.int 4, .int 2, .int 7, .int 1, .int 10, .int (s.bits * s.pat + 2)]) nt12
  have k12 : Kp [] H11 (upd H11 t12 (.lst [.int 4, .int 2, .int 7, .int 1, .int 10, .int (s.bits * s.pat + 2)])) := Kp.new nt12
  generalize upd H11 t12 (.lst [.int 4, .int 2, .int 7, .int 1, .int 10, .int (s.bits * s.pat + 2)]) = H12 at *
  have S12 := S11.k0 k12
  have hl12 := k12.g0 hl11
  have gl12 := k12.g0 gl11
  have gs12 := fun x (hx : x ∈ as) => (gs11 x hx).1.k0 k12
  wtm_at "rd"
  refine us_l_draw B12 (by decide) (by decide) fun n13 H13 n130 n131 B13 k13 => ?_
  have e13 := k13.g1 (B12.lst e12) e12
  have S13 := S12.kpp B12 k13
  have hl13 := k13.g1 (B12.lst hl12) hl12
  have gl13 := k13.g1 (B12.lst gl12) gl12
  have gs13 := fun x (hx : x ∈ as) => (gs12 x hx).dr B12 k13
  have ogn := fun x (hx : x ∈ as) => (gs11 x hx).2
  obtain ⟨many, hmany, at13⟩ := pickI [4, 2, 7, 1, 10, s.bits * s.pat + 2] n130 (by simpa using n131)
  have many_b : 1 ≤ many ∧ many ≤ 60 := by
    simp only [List.mem_cons, List.not_mem_nil, or_false] at hmany
    omega
  clear hmany S12 hl12 gl12 gs12 B12 e12 k12 k13 S11 hl11 gl11 gs11 B11 nt12
  wtm_at "rd"
  intro shd nshd
  have k14 : Kp [] H13 (upd H13 shd (.lst (xs.map V.int))) := Kp.new nshd
  have shd14 : upd H13 shd (.lst (xs.map V.int)) shd = some (.lst (xs.map V.int)) := upd_same
  generalize upd H13 shd (.lst (xs.map V.int)) = H14 at *
  wtm_at "rd"
  refine ⟨sz1000 (by simp), fun rl nrl => ?_⟩
  have k15 := k14.nw (o := .lst []) nrl
  have shd15 := (Kp.new (ps := []) (o := .lst []) nrl).g0 shd14
  have rl15 : upd H14 rl (.lst []) rl = some (.lst []) := upd_same
  have nrl0 := k14.back nrl (by simp)
  generalize upd H14 rl (.lst []) = H15 at *
  wtm_at "rd"
  refine ⟨sz1000 (by simp), fun ll nll => ?_⟩
  have k16 := k15.nw (o := .lst []) nll
  have nll0 := k15.back nll (by simp)
  have shd16 := (Kp.new (ps := []) (o := .lst []) nll).g0 shd15
  have rl16 := (Kp.new (ps := []) (o := .lst []) nll).g0 rl15
  have ll16 : upd H15 ll (.lst []) ll = some (.lst []) := upd_same
  generalize upd H15 ll (.lst []) = H16 at *
  have B16 := B13.k0 k16
  have S16 := S13.k0 k16
  have hl16 := k16.g0 hl13
  have gl16 := k16.g0 gl13
  have gs16 := fun x (hx : x ∈ as) => (gs13 x hx).k0 k16
  have htb13 : ∃ l, H13 tb = some (.lst l) := by
    cases as with
    | nil => simp at as2
    | cons a0 r =>
      obtain ⟨f, f1, -⟩ := (gs13 a0 List.mem_cons_self).G.table
      exact ⟨_, f1⟩
  obtain ⟨lt, htb13⟩ := htb13
  have htb16 := k16.g0 htb13
  have nsr : shd ≠ rl := ne_of_none shd14 nrl
  have nsl : shd ≠ ll := ne_of_none shd15 nll
  have nrr : rl ≠ ll := ne_of_none rl15 nll
  have new3 : ∀ D, D ∈ [rl, ll, shd] → H13 D = none := fun D hD => by
    simp only [List.mem_cons, List.not_mem_nil, or_false] at hD
    rcases hD with rfl | rfl | rfl
    · exact nrl0
    · exact nll0
    · exact nshd
  have og3 : ∀ D, D ∈ [rl, ll, shd] → ∀ x, x ∈ as → D ≠ x.og := fun D hD x hx => Ne.symm (ne_of_none (gs13 x hx).G.orig (new3 D hD))
  have R0 : RI K H16 hl tb S GL shd rl ll p c s xs as [] [] := by
    refine ⟨gl16, hl16, shd16, B16, S16, gs16, .nil, by simp, by simp, .nil, .nil, by simp, by simp, by simp, .nil, fun D hD => ?_, by simp, by simp⟩
    have hD3 : D ∈ [rl, ll, shd] := by
      simp only [List.mem_cons, List.not_mem_nil, or_false] at hD ⊢
      rcases hD with h | h <;> simp [h]
    have hn := new3 D hD3
    refine ⟨?_, og3 D hD3⟩
    simp only [List.mem_cons, List.not_mem_nil, or_false, not_or] at hD ⊢
    refine ⟨Ne.symm (ne_of_none gl13 hn), Ne.symm (ne_of_none hl13 hn), ?_, Ne.symm (ne_of_none htb13 hn), Ne.symm (B13.ne2 hn)⟩
    rcases hD with rfl | rfl
    · exact Ne.symm nsr
    · exact Ne.symm nsl
  have nsh : shd ≠ GL ∧ shd ≠ hl ∧ shd ≠ tb ∧ shd ≠ c := by
    have hn := new3 shd (by simp)
    exact ⟨Ne.symm (ne_of_none gl13 hn), Ne.symm (ne_of_none hl13 hn), Ne.symm (ne_of_none htb13 hn), Ne.symm (B13.ne2 hn)⟩
  have nsr' := nsr
  clear k14 k15 shd14 shd15 rl15 hl16 shd16 B16 S16 gs16 gl13 hl13 gs13 new3 nsr nsl nrl nll nrl0 nll0 nshd k16
  have sIn : ∀ Hx, Kp [rl, ll] H16 Hx → True := fun _ _ => trivial
  wtm_at "rd"
  refine forL_by (K := K) (as.map fun a => V.ref a.g) (fun i σ Hx => (∃ v13, σ = [some (.ref a), some (.ref p), some (.int s.bits), some (.int s.pat), some (.int (2 ^ s.bits.toNat)), some (.ref S), some (.ref hl), some (.ref tb), some (.ref GL), some (.int many), some (.ref shd), some (.ref rl), some (.ref ll), v13, none, none, none, none, none, none, none]) ∧ ∃ bs ts, bs.length = i ∧ RI K Hx hl tb S GL shd rl ll p c s xs as bs ts ∧ Hx rl = some (.lst (bs.map fun b => V.ref b.q)) ∧ Hx ll = some (.lst (ts.map fun t => V.ref t.1)) ∧ Hx tb = some (.lst lt)) ⟨⟨_, rfl⟩, [], [], rfl, R0, rl16, ll16, htb16⟩ (fun i σ Hx _ z => by
    obtain ⟨-, bs, ts, -, R, -⟩ := z
    exact SqL.of R.gl) ?_ ?_
  · clear R0 rl16 ll16 htb16 gl16
    rintro i x σ Hx hx ⟨⟨v13, rfl⟩, bs, ts, bl, R, hrl, hll, htb⟩
    rw [List.getElem?_map] at hx
    obtain ⟨a2, ha2, rfl⟩ := Option.map_eq_some_iff.mp hx
    have ham : a2 ∈ as := List.mem_of_getElem? ha2
    have hg : Hx a2.g = some (.dK (grpK ⟨(0 : Nat), a2.tl, a2.pl, a2.ls, a2.tm, a2.sp⟩ hl tb a2.og a2.dl s.bits s.pat a2.start)) := (R.gs a2 ham).G.at_
    have hog := (R.gs a2 ham).G.orig
    have hdl := (R.gs a2 ham).G.dls
    have i2 : ts.length < 2 := by
      have e1 := paired_len R.tup
      have e2 := (List.getElem?_eq_some_iff.mp ha2).1
      have : as.length = 2 := as2
      omega
    wtm_at "rd"
    intro lo nlo
    have kA : Kp [] Hx (upd Hx lo (.lst (a2.os.map V.int))) := Kp.new nlo
    have lo1 : upd Hx lo (.lst (a2.os.map V.int)) lo = some (.lst (a2.os.map V.int)) := upd_same
    generalize upd Hx lo (.lst (a2.os.map V.int)) = HA at *
    have hg1 := kA.g0 hg
    have hdl1 := kA.g0 hdl
    wtm_at "rd"
    refine ⟨a2.dl, _, rfl, Rd.of hdl1, fun ld nld => ?_⟩
    have nld0 := kA.back nld (by simp)
    have nll' : lo ≠ ld := ne_of_none lo1 nld
    have kn : Kp [] HA (upd HA ld (.dK (dmap a2.ks fun x => V.int (a2.df x)))) := Kp.new nld
    have kB := kA.trans kn
    have ld2 : upd HA ld (.dK (dmap a2.ks fun x => V.int (a2.df x))) ld = some (.dK (dmap a2.ks fun x => V.int (a2.df x))) := upd_same
    have lo2 := kn.g0 lo1
    generalize upd HA ld (.dK (dmap a2.ks fun x => V.int (a2.df x))) = HB at *
    clear kn kA lo1 hg1 hdl1
    wtm_at "rd"
    refine ⟨sz1000 (by simp), fun t nt => ?_⟩
    have kn : Kp [] HB (upd HB t (.tup [.ref lo, .ref ld])) := Kp.new nt
    have kC := kB.trans kn
    have t3 : upd HB t (.tup [.ref lo, .ref ld]) t = some (.tup [.ref lo, .ref ld]) := upd_same
    have lo3 := kn.g0 lo2
    have ld3 := kn.g0 ld2
    generalize upd HB t (.tup [.ref lo, .ref ld]) = HC at *
    clear kn kB lo2 ld2
    have hll3 := kC.g0 hll
    have sk : (ts.map fun t => V.ref t.1).length < sizeLine := szlt (by rw [List.length_map]; omega)
    wtm_at "rd"
    have RC := R.k0 htb kC
    have htbC := kC.g0 htb
    have nll2 := (RC.nD ll (by simp)).1
    simp only [List.mem_cons, List.not_mem_nil, or_false, not_or] at nll2
    have kd : Kp [ll] HC (upd HC ll (.lst ((ts.map fun t => V.ref t.1) ++ [.ref t]))) := Kp.refl.wr (by simp)
    have ll4 : upd HC ll (.lst ((ts.map fun t => V.ref t.1) ++ [.ref t])) ll = some (.lst ((ts ++ [(t, lo, ld)]).map fun t => V.ref t.1)) := by
      rw [upd_same, List.map_append]
      rfl
    have R4 := RC.kd htbC (by simp) hll3 kd
    have t4 := kd.g1 (ne_of t3 hll3 (by intro z; cases z)) t3
    have lo4 := kd.g1 (Ne.symm (ne_of_none hll nlo)) lo3
    have ld4 := kd.g1 (ne_of ld3 hll3 (by intro z; cases z)) ld3
    have rl4 := kd.g1 nrr (kC.g0 hrl)
    have htb4 := kd.g1 (Ne.symm nll2.2.2.2.1) htbC
    have kD : Kp [ll] Hx (upd HC ll (.lst ((ts.map fun t => V.ref t.1) ++ [.ref t]))) := kC.of0.trans kd
    generalize upd HC ll (.lst ((ts.map fun t => V.ref t.1) ++ [.ref t])) = HD at *
    clear kd t3 lo3 ld3 hll3 htbC RC kC
    have atl : atI ((ts ++ [(t, lo, ld)]).map fun t => V.ref t.1) (-1) = some (.ref t) := by
      rw [List.map_append]
      exact atI_last _ _
    have hg4 : HD a2.g = some (.dK (grpK ⟨(0 : Nat), a2.tl, a2.pl, a2.ls, a2.tm, a2.sp⟩ hl tb a2.og a2.dl s.bits s.pat a2.start)) := (R4.gs a2 ham).G.at_
    wtm_at "rd"
    refine us_l_spread (R4.gs a2 ham).G R4.St R4.shA lo4 ld4 fun q sh tq md sn HE G kE fq fsh ftq fmd fsn tf => ?_
    obtain ⟨⟨dS, hSS⟩, -⟩ := id R.St
    obtain ⟨b, cr, bq, R5⟩ := R4.add (a := a2) htb4 (by rw [bl]; exact ha2) ap (kE.g0 t4) (kE.g0 lo4) (kE.g0 ld4)
      (fun y hy => ⟨Ne.symm (ne_of_none (R.pr y hy).X.G.orig nlo), fun x hx => by
        obtain ⟨l, h⟩ := (R.pr y hy).row hx
        exact ne_of_none h nlo, (R.pr y hy).X.al nld0, (R.pr y hy).R.al nld0⟩)
      (fun x hx => ⟨Ne.symm (ne_of_none (R.gs x hx).G.orig nlo), (R.gs x hx).al nld0⟩)
      ⟨by
        simp only [List.mem_cons, List.not_mem_nil, or_false, not_or]
        exact ⟨Ne.symm (ne_of_none R.hlA nlo), Ne.symm (ne_of_none htb nlo), Ne.symm (ne_of_none R.gl nlo), Ne.symm (ne_of_none R.shA nlo), Ne.symm (ne_of_none hrl nlo), Ne.symm (ne_of_none hll nlo), Ne.symm (R.B.ne2 nlo)⟩, Ne.symm (R.B.ne1 nld0), Ne.symm (ne_of_none hSS nld0), fun l e => by
        rw [htb4] at e
        injection e with e
        injection e with e
        exact e ▸ (R.gs a2 ham).fr nld0 lt htb⟩
      (fun u hu => by
        obtain ⟨y, -, e1, e2, e3⟩ := paired_mem R.tup hu
        exact ⟨ne_of_none e2 nlo, ne_of_none e3 nld0⟩)
      ⟨_, lo4⟩ ⟨_, ld4⟩ G kE (fun z hz => by
        simp only [List.mem_cons, List.not_mem_nil, or_false] at hz
        rcases hz with rfl | rfl | rfl | rfl | rfl
        · exact fq
        · exact fsh
        · exact ftq
        · exact fmd
        · exact fsn) tf (fun D hD => by
        refine ⟨?_, og3 D hD⟩
        simp only [List.mem_cons, List.not_mem_nil, or_false] at hD
        rcases hD with rfl | rfl | rfl
        · exact ⟨_, rl4⟩
        · exact ⟨_, ll4⟩
        · exact ⟨_, R4.shA⟩)
    have rl5 := kE.g0 rl4
    have ll5 := kE.g0 ll4
    have htb5 := kE.g0 htb4
    have nrl2 := (R5.nD rl (by simp)).1
    simp only [List.mem_cons, List.not_mem_nil, or_false, not_or] at nrl2
    have sk2 : (bs.map fun b => V.ref b.q).length < sizeLine := szlt (by
      have := paired_len R.tup
      rw [List.length_map]
      omega)
    wtm_at "rd"
    have kd : Kp [rl] HE (upd HE rl (.lst ((bs.map fun b => V.ref b.q) ++ [.ref q]))) := Kp.refl.wr (by simp)
    refine ⟨⟨_, rfl⟩, bs ++ [b], ts ++ [(t, lo, ld)], by simp [bl], R5.kd htb5 (by simp) rl5 kd, ?_, kd.g1 (Ne.symm nrr) ll5, kd.g1 (Ne.symm nrl2.2.2.2.1) htb5⟩
    rw [upd_same, List.map_append, ← bq]
    rfl
  clear R0 rl16 ll16 htb16 gl16 og3 B13 S13 e13 ap
  rintro σ H17 ⟨⟨v13, rfl⟩, bs, ts, bl, R, hrl, hll, htb⟩
  rw [List.length_map, as2] at bl
  have bl : bs.length = 2 := bl
  have tl2 : ts.length = 2 := by
    have := paired_len R.tup
    omega
  have Z := R.toL (by rw [bl]; exact as2) hrl hll htb
  have sep := R.sep
  have nl3 := fun b hb => R.nl b hb shd (by simp)
  clear R hrl hll htb
  wtm_at "rd"
  refine forR_by (fun i σ Hx => (∃ v13 v14 v15 v16, σ = [some (.ref a), some (.ref p), some (.int s.bits), some (.int s.pat), some (.int (2 ^ s.bits.toNat)), some (.ref S), some (.ref hl), some (.ref tb), some (.ref GL), some (.int many), some (.ref shd), some (.ref rl), some (.ref ll), v13, v14, v15, v16, none, none, none, none]) ∧ RL K Hx hl tb S GL shd rl ll p c s xs bs ts lt i) ⟨⟨_, _, _, _, rfl⟩, Z⟩ ?_ ?_
  · clear Z
    rintro i σ Hx hi ⟨⟨v13, v14, v15, v16, rfl⟩, Z⟩
    have hi : i < 2 := hi
    obtain ⟨b, hb⟩ : ∃ b, bs[i]? = some b := ⟨_, List.getElem?_eq_getElem (by omega)⟩
    obtain ⟨t, ht⟩ : ∃ t, ts[i]? = some t := ⟨_, List.getElem?_eq_getElem (by omega)⟩
    have bm := List.mem_of_getElem? hb
    have e1 : atI (bs.map fun b => V.ref b.g) (0 + (i : Int)) = some (.ref b.g) := by rw [Int.zero_add]; exact atI_nat (by rw [List.getElem?_map, hb]; rfl)
    have e2 : atI (ts.map fun t => V.ref t.1) (0 + (i : Int)) = some (.ref t.1) := by rw [Int.zero_add]; exact atI_nat (by rw [List.getElem?_map, ht]; rfl)
    have tp := Z.tp t (List.mem_of_getElem? ht)
    obtain ⟨lo1, ld1⟩ := Z.dt i t b (Nat.le_refl _) ht hb
    have hg : Hx b.g = some (.dK (grpK ⟨(0 : Nat), b.tl, b.pl, b.ls, b.tm, b.sp⟩ hl tb b.og b.dl s.bits s.pat b.start)) := (Z.pr b bm).X.G.at_
    have hog := (Z.pr b bm).X.G.orig
    have hdl := (Z.pr b bm).X.G.dls
    have z1 := Z.gl
    have z2 := Z.hlA
    have z3 := Z.shA
    have z4 := Z.llA
    have y1 : (!decide (b.os = b.os)) = false := by simp
    have y2 : (!decide (xs = xs)) = false := by simp
    wtm_at "rd"
    rw [y1]
    wtm_at "rd"
    refine rd_neDm ld1 hdl ?_
    wtm_at "rd"
    rw [y2]
    have ol := List.Nodup.length_le_of_subset (Z.pr b bm).X.G.ond (fun z hz => (Z.pr b bm).X.G.osub z hz)
    have sk : (b.os.map V.int).length < sizeLine := szlt (by rw [List.length_map]; omega)
    wtm_at "rd"
    have k1 : Kp [t.2.1] Hx (upd Hx t.2.1 (.lst (b.os.map V.int ++ [.int (xs.getD (Int.toNat 0) 0)]))) := Kp.refl.wr (by simp)
    have ld2 := k1.g1 (ne_of ld1 lo1 (by intro z; cases z)) ld1
    refine ty_dK ld2 ⟨_, _, rfl, rfl, ld2, ?_⟩
    wtm_at "rd"
    exact ⟨⟨_, _, _, _, rfl⟩, Z.nx ht hb k1 (Kp.refl.wr (by simp))⟩
  clear Z
  rintro σ H18 ⟨⟨v13, v14, v15, v16, rfl⟩, Z⟩
  have z3 := Z.shA
  wtm_at "rd"
  obtain ⟨xz, hxz⟩ : ∃ y, (xs.map V.int)[(xs.map V.int).length - 1]? = some y := ⟨_, List.getElem?_eq_getElem (by rw [List.length_map]; omega)⟩
  refine ⟨shd, _, xz, rfl, rfl, z3, hxz, ?_⟩
  rw [← List.map_dropLast]
  have Z := Z.toM nsh nsr' nl3 sep (Kp.refl.wr (by simp)) upd_same
  generalize upd H18 shd (.lst (xs.dropLast.map V.int)) = H19 at *
  clear z3
  wtm_at "rd"
  refine forR_by (fun i σ Hx => (∃ v13 v14 v15 v16 v17 v18 v19 v20, σ = [some (.ref a), some (.ref p), some (.int s.bits), some (.int s.pat), some (.int (2 ^ s.bits.toNat)), some (.ref S), some (.ref hl), some (.ref tb), some (.ref GL), some (.int many), some (.ref shd), some (.ref rl), some (.ref ll), v13, v14, v15, v16, v17, v18, v19, v20]) ∧ RM K Hx hl tb S GL shd rl p c s xs bs) ⟨⟨_, _, _, _, _, _, _, _, rfl⟩, Z⟩ ?_ ?_
  · clear Z
    rintro i σ H20 hi ⟨⟨v13, v14, v15, v16, v17, v18, v19, v20, rfl⟩, Z⟩
    wtm_at "rd"
    refine forR_by (fun j σ Hx => (∃ v13 v14 v15 v16 v18 v19 v20, σ = [some (.ref a), some (.ref p), some (.int s.bits), some (.int s.pat), some (.int (2 ^ s.bits.toNat)), some (.ref S), some (.ref hl), some (.ref tb), some (.ref GL), some (.int many), some (.ref shd), some (.ref rl), some (.ref ll), v13, v14, v15, v16, some (.int (0 + (i : Int))), v18, v19, v20]) ∧ RM K Hx hl tb S GL shd rl p c s xs bs) ⟨⟨_, _, _, _, _, _, _, rfl⟩, Z⟩ ?_ ?_
    · clear Z
      rintro j σ Hx hj ⟨⟨v13, v14, v15, v16, v18, v19, v20, rfl⟩, Z⟩
      have hj : j < 2 := hj
      obtain ⟨b, hb⟩ : ∃ b, bs[j]? = some b := ⟨_, List.getElem?_eq_getElem (by omega)⟩
      have e1 : atI (bs.map fun b => V.ref b.g) (0 + (j : Int)) = some (.ref b.g) := by rw [Int.zero_add]; exact atI_nat (by rw [List.getElem?_map, hb]; rfl)
      have e2 : atI (bs.map fun b => V.ref b.q) (0 + (j : Int)) = some (.ref b.q) := by rw [Int.zero_add]; exact atI_nat (by rw [List.getElem?_map, hb]; rfl)
      obtain ⟨n, pr, W, Y⟩ := Z.pr j b hb
      have z1 := Z.gl
      have z2 := Z.rlA
      obtain ⟨dx, hq⟩ := Y.R.at_
      obtain ⟨us, u1, u2, u3⟩ := Y.R.snA
      obtain ⟨o, oo, ok⟩ := Y.one
      wtm_at "rd"
      refine us_Spread_known hq u1 fun l os H1 o1 o2 hl1 k1 nl => ?_
      have Z := Z.k0 k1
      have Y := Y.k0 k1
      have o3 : os ≠ [] := fun e => by
        have : o ∈ os := o1.symm.subset ((u3 o).mpr ⟨oo, ok⟩)
        rw [e] at this
        cases this
      have o4 : ∀ n ∈ os, 0 ≤ n ∧ n < 256 := fun n hn => by
        have := hx n ((u3 n).mp (o1.subset hn)).1
        omega
      have o5 : os.length ≤ 256 := by
        rw [o1.length_eq]
        have := List.Nodup.length_le_of_subset (l₂ := xs) u2 (fun y hy => ((u3 y).mp hy).1)
        omega
      clear k1 hq u1 u3 o1 o2 z1 z2
      wtm_at "rd"
      refine rd_repr hl1 o3 o4 o5 ?_
      wtm_at "rd"
      refine rd_cut (fun σ Hy => (∃ v15 v16 v20, σ = [some (.ref a), some (.ref p), some (.int s.bits), some (.int s.pat), some (.int (2 ^ s.bits.toNat)), some (.ref S), some (.ref hl), some (.ref tb), some (.ref GL), some (.int many), some (.ref shd), some (.ref rl), some (.ref ll), v13, some (.int (0 + (j : Int))), v15, v16, some (.int (0 + (i : Int))), some (.ref l), some (.str (reprT gu l os)), v20]) ∧ RM K Hy hl tb S GL shd rl p c s xs bs ∧ Hy l = some (.lst (os.map V.int))) ?_ ?_
      · have z1 := Z.gl
        have z2 := Z.rlA
        wtm_at "rd"
        refine ite_d (fun h => ?_) (fun h => ?_)
        · wtm_at "rd"
          refine us_l_stepped Z.B Y fun p2 W2 H2 Y2 B2 k2 => ?_
          wtm_at "rd"
          exact ⟨⟨_, _, _, rfl⟩, Z.st hb Y Y2 B2 k2, k2 _ _ hl1 fun m => by
            rcases List.mem_cons.mp m with m | m
            · exact Z.B.lst hl1 m
            · exact Y.wt.lst hl1 m⟩
        · wtm_at "rd"
          exact ⟨⟨_, _, _, rfl⟩, Z, hl1⟩
      clear Z Y hl1
      rintro σ Hy ⟨⟨v15, v16, v20, rfl⟩, Z, hl2⟩
      wtm_at "rd"
      refine rd_repr hl2 o3 o4 o5 ?_
      have y1 : (!decide (reprT gu l os = reprT gu l os)) = false := by simp
      wtm_at "rd"
      rw [y1]
      wtm_at "rd"
      refine rd_cut (fun σ Hy => (∃ v15 v16 bb, σ = [some (.ref a), some (.ref p), some (.int s.bits), some (.int s.pat), some (.int (2 ^ s.bits.toNat)), some (.ref S), some (.ref hl), some (.ref tb), some (.ref GL), some (.int many), some (.ref shd), some (.ref rl), some (.ref ll), v13, some (.int (0 + (j : Int))), v15, v16, some (.int (0 + (i : Int))), some (.ref l), some (.str (reprT gu l os)), some (.bl bb)]) ∧ RM K Hy hl tb S GL shd rl p c s xs bs) ?_ ?_
      · wtm_at "rd"
        refine ite_d (fun h => ?_) (fun h => ?_)
        · wtm_at "rd"
          exact ⟨⟨_, _, _, rfl⟩, Z⟩
        · wtm_at "rd"
          refine ite_d (fun h => ?_) (fun h => ?_)
          · wtm_at "rd"
            exact ⟨⟨_, _, _, rfl⟩, Z⟩
          · wtm_at "rd"
            refine us_l_draw Z.B (by decide) (by decide) fun n5 H5 n50 n51 B5 k5 => ?_
            wtm_at "rd"
            exact ⟨⟨_, _, _, rfl⟩, Z.dr B5 k5⟩
      clear Z hl2
      rintro σ Hz ⟨⟨v15, v16, bb, rfl⟩, Z⟩
      obtain ⟨n, pr, W, Y⟩ := Z.pr j b hb
      have z1 := Z.gl
      have z2 := Z.rlA
      wtm_at "rd"
      cases bb with
      | true =>
        wtm_at "rd"
        refine us_l_shows Y fun H1 k1 => ?_
        wtm_at "rd"
        exact ⟨⟨_, _, _, _, _, _, _, rfl⟩, Z.k0 k1⟩
      | false =>
        wtm_at "rd"
        exact ⟨⟨_, _, _, _, _, _, _, rfl⟩, Z⟩
    · rintro σ H21 ⟨⟨v13, v14, v15, v16, v18, v19, v20, rfl⟩, Z⟩
      wtm_at "rd"
      exact ⟨⟨_, _, _, _, _, _, _, _, rfl⟩, Z⟩
  · rintro σ H20 ⟨⟨v13, v14, v15, v16, v17, v18, v19, v20, rfl⟩, Z⟩
    have z1 := Z.hlA
    have z2 := Z.shA
    wtm_at "rd"
    intro pz npz
    have z3 : upd H20 pz (.lst (cutV (xs.map V.int) none (some (-1)))) pz = some (.lst (xs.dropLast.map V.int)) := by
      rw [upd_same, cut_last, List.map_dropLast]
    refine rd_eqLI (ns := xs.dropLast) (ms := xs.dropLast) (SqL.of (hu_ne (ne_of_none z2 npz) z2)) (SqL.of z3) ?_
    rw [decide_eq_true rfl]
    exact kk _
end
theorem law_all {P : Program} {w : World} {K : PySem.W.Frag} {mg : Str → Option Value} (T : Cx K mg) :
    ∃ fd : FuncData, (∀ (s : Shared) (v : Value), BindsTo s fd ⟨[v], []⟩ [("_law_script", v)]) ∧ ∀ base : Heap, Tb K mg base → FnOk P w K mg base CX0 14 (ga K "law") fd ["_law_script"] (sp_law K) := by
  obtain ⟨fd, F⟩ := T.says.def_ 32 (d := d_law) rfl
  have b := FunD.bindsA (ps := ["_law_script"]) F fun _ _ _ _ _ _ us hl => match us, hl with | [_], _ => rfl
  refine ⟨fd, fun s v => b s [v] rfl, fun base B => ?_⟩
  obtain ⟨fd2, F2, ok⟩ := f_law (P := P) (w := w) (base := base) T B
  have e : fd2 = fd := by
    obtain ⟨oc, od, dV, kV, doc, pm, an, cdv, ct, osl, e1, l1, -⟩ := F.ex
    obtain ⟨oc2, od2, dV2, kV2, doc2, pm2, an2, cdv2, ct2, osl2, e2, l2, -⟩ := F2.ex
    rw [l1] at l2
    injection l2 with l3
    injection l3 with _ _ l4 _
    injection l4 with l5
    exact l5.symm
  subst e
  exact ok

end My

open PySem PySem.W PySem.Calls PyProof.Rows
set_option maxRecDepth 100000 in
set_option maxHeartbeats 0 in
theorem PySem.Challenge.cw_livingroll_k15_spread_steps_holds : PySem.Challenge.rw_livingroll_k15_spread_steps.Holds := by
  w_on; o_law
  refine HandSHeadRun.head_any (r := OpenLaw.row PySem.Challenge.rw_livingroll_k15_spread_steps) (q := view (OpenLaw.row PySem.Challenge.rw_livingroll_k15_spread_steps).prog [35]) (H := My.hk) (ob := My.ob) (M := 6000) (loose := My.names) (d := HandSHeadRun.topDef (OpenLaw.row PySem.Challenge.rw_livingroll_k15_spread_steps).prog 35) (kwd := []) My.ob_eq
    (by kernel_rfl) (fun s => by kernel_rfl) My.run (by kernel_rfl) (by kernel_rfl) (by kernel_rfl) (by rfl) (by first | assumption | decide +kernel) (by decide +kernel) ⟨rfl, rfl, rfl, rfl, rfl, by decide +kernel⟩ ?hw ?hc
  case hw => w_witness2
  case hc =>
    refine LamX.walk_ofTsE (l := PySem.Challenge.rw_livingroll_k15_spread_steps) (n := 63) (k := 14) (x := "_law_script") (CX := fun _ => L2.CX0) rfl (by decide) (by kernel_rfl) ⟨rfl, by decide, by decide⟩ ?F (fun _ _ _ _ _ z => z)
    intro w mg fa h Y G hmg0
    obtain ⟨K, KX, c⟩ := Y
    have hmg : mg ("law" : PySem.Str) = some (.ref fa) := by
      have e : (HandSHeadRun.topDef (OpenLaw.row PySem.Challenge.rw_livingroll_k15_spread_steps).prog 35).name = ("law" : PySem.Str) := by kernel_rfl
      rw [← e]
      exact hmg0
    have T : My.Cx K mg := ⟨c.x.t.d, c.x.more, h, KX, G⟩
    have e := hmg.symm.trans (My.gl_law T)
    cases e
    obtain ⟨fd, hb, hF⟩ := My.law_all (P := PySem.Challenge.pw_livingroll_k15_spread_steps) (w := w) T
    refine ⟨K, KX, fd, My.tf.map (He.cT K), My.sp_law K, fun p hp => ?_, fun p hp => ?_, fun p hp => ?_, hb, fun H a ns hl _ hH hS => ⟨a, ns, rfl, hS, hl, RD.tabs_nil (tf := My.tf) (K := K) rfl hH, fun _ => rfl⟩, fun base _ _ B => hF base ⟨B, fun d hd => c.get hd⟩⟩
    · obtain ⟨q, hq, rfl⟩ := List.mem_map.mp hp
      exact c.x.empty q hq
    · obtain ⟨q, hq, rfl⟩ := List.mem_map.mp hp
      exact c.x.out q hq
    · obtain ⟨q, hq, rfl⟩ := List.mem_map.mp hp
      exact PySem.W.codeHd_of_K KX (c.x.hd q hq)
