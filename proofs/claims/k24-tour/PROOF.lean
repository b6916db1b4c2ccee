import PyProof.Rows.All
import Wide.All
import OpenK.AllK
import Wide.FinOn
import KE.KStateDown
import Lean
import HandS.ForMost
import HandS.Flow
import HandS.IsInst
import HandS.DictTup
import HandS.Codes
import HandS.Defaults
import HandS.Head0
import HandS.Head1
import HandS.Head2
import HandS.HeadEnd
import HandS.HeadHook1
import HandS.HeadHook2
import HandS.HeadHook3
import HandS.Conv
import HandS.Property
import KE.SortKeyHeap
import KE.KMinKey
import HandS.Lambda
import HandS.Sort
import HandS.HeadHook4
import HandS.HeadWalk
import HandS.Property
import HandS.Style
import HandS.MakeKwOnly
import HandS.Wide
import PySem.Challenge.RW_livingroll_k24_tour_aims
set_option Elab.async false
set_option linter.all false
set_option maxRecDepth 100000
set_option maxHeartbeats 4000000
/-! own layer: the head by facts, one lemma for each reading, a step tactic -/
namespace RD
open PySem PySem.Spec PyProof.Rows L2 He

/-! ### frames: what stays -/
def Kp (ps : List Addr) (H H' : Hp) : Prop := ∀ b o, H b = some o → b ∉ ps → H' b = some o
theorem Kp.refl {ps : List Addr} {H : Hp} : Kp ps H H := fun _ _ h _ => h
theorem Kp.trans {ps : List Addr} {H H1 H2 : Hp} (a : Kp ps H H1) (b : Kp ps H1 H2) : Kp ps H H2 := fun c o h n => b c o (a c o h n) n
theorem Kp.mono {ps qs : List Addr} {H H' : Hp} (a : Kp ps H H') (h : ∀ p, p ∈ ps → p ∈ qs) : Kp qs H H' := fun c o e n => a c o e fun m => n (h c m)
theorem Kp.of0 {qs : List Addr} {H H' : Hp} (a : Kp [] H H') : Kp qs H H' := fun c o e _ => a c o e (by simp)
theorem Kp.new {ps : List Addr} {H : Hp} {p : Addr} {o : HO} (h : H p = none) : Kp ps H (upd H p o) := fun b u e _ => by
  rw [upd_ne (ne_of_none e h)]
  exact e
theorem Kp.wr {ps : List Addr} {H H' : Hp} {p : Addr} {o : HO} (a : Kp ps H H') (h : p ∈ ps) : Kp ps H (upd H' p o) := fun b u e n => by
  have hb : b ≠ p := by
    intro z
    subst z
    exact n h
  rw [upd_ne hb]
  exact a b u e n
theorem Kp.nw {ps : List Addr} {H H' : Hp} {p : Addr} {o : HO} (a : Kp ps H H') (h : H' p = none) : Kp ps H (upd H' p o) := a.trans (Kp.new h)
/-- an object made behind H is written -/
theorem Kp.mine {ps : List Addr} {H H' : Hp} {p : Addr} {o : HO} (a : Kp ps H H') (h : H p = none) : Kp ps H (upd H' p o) := fun b u e n => by
  rw [upd_ne (ne_of_none e h)]
  exact a b u e n
theorem Kp.g0 {H H' : Hp} {b : Addr} {o : HO} (a : Kp [] H H') (e : H b = some o) : H' b = some o := a b o e (by simp)
theorem Kp.g1 {p : Addr} {H H' : Hp} {b : Addr} {o : HO} (a : Kp [p] H H') (n : b ≠ p) (e : H b = some o) : H' b = some o := a b o e (by simp [n])
theorem Kp.g2 {p q : Addr} {H H' : Hp} {b : Addr} {o : HO} (a : Kp [p, q] H H') (n : b ≠ p) (m : b ≠ q) (e : H b = some o) : H' b = some o := a b o e (by simp [n, m])
theorem Kp.g3 {p q r : Addr} {H H' : Hp} {b : Addr} {o : HO} (a : Kp [p, q, r] H H') (n : b ≠ p) (m : b ≠ q) (l : b ≠ r) (e : H b = some o) : H' b = some o := a b o e (by simp [n, m, l])
theorem Kp.back {ps : List Addr} {H H' : Hp} (a : Kp ps H H') {l : Addr} (h : H' l = none) (n : l ∉ ps) : H l = none := by
  cases q : H l with
  | none => rfl
  | some o =>
    rw [a l o q n] at h
    cases h
theorem Kp.via {ps qs : List Addr} {H H' H2 : Hp} (a : Kp ps H H') (b : Kp qs H' H2) (n : ∀ q, q ∈ qs → q ∈ ps ∨ H q = none) : Kp ps H H2 := fun c o e m => b c o (a c o e m) fun z => by
  rcases n c z with z | z
  · exact m z
  · rw [z] at e
    cases e
theorem Kp.via1 {ps : List Addr} {p : Addr} {H H' H2 : Hp} (a : Kp ps H H') (b : Kp [p] H' H2) (n : H p = none) : Kp ps H H2 := a.via b fun q hq => by
  rw [List.mem_singleton.mp hq]
  exact .inr n
theorem rd_kp {ps : List Addr} {H H' : Hp} {b : Addr} {u : HO} (a : Kp ps H H') (n : b ∉ ps) (h : Rd H b u) : Rd H' b u := by
  rcases h with h | ⟨o, h⟩
  · exact .inl (a _ _ h n)
  · exact .inr ⟨o, a _ _ h n⟩
theorem sl_kp {K : PySem.W.Frag} {ps : List Addr} {H H' : Hp} {b : Addr} {xs : List V} (a : Kp ps H H') (n : b ∉ ps) (h : SqL K H b xs) : SqL K H' b xs := by
  rcases h with h | h
  · exact .inl (rd_kp a n h)
  · exact .inr h
theorem st_kp {K : PySem.W.Frag} {ps : List Addr} {H H' : Hp} {b : Addr} {xs : List V} (a : Kp ps H H') (n : b ∉ ps) (h : SqT K H b xs) : SqT K H' b xs := by
  rcases h with h | h
  · exact .inl (rd_kp a n h)
  · exact .inr h
theorem sl_upd {K : PySem.W.Frag} {H : Hp} {b p : Addr} {o : HO} {xs : List V} (n : b ≠ p) (h : SqL K H b xs) : SqL K (upd H p o) b xs :=
  sl_kp (ps := [p]) (fun c u e m => by rw [upd_ne (by simpa using m)]; exact e) (by simpa using n) h
theorem st_upd {K : PySem.W.Frag} {H : Hp} {b p : Addr} {o : HO} {xs : List V} (n : b ≠ p) (h : SqT K H b xs) : SqT K (upd H p o) b xs :=
  st_kp (ps := [p]) (fun c u e m => by rw [upd_ne (by simpa using m)]; exact e) (by simpa using n) h
theorem hu_ne {H : Hp} {a b : Addr} {o u : HO} (n : b ≠ a) (e : H b = some u) : upd H a o b = some u := by
  rw [upd_ne n]
  exact e
theorem upd_is {H : Hp} {a : Addr} {o o' : HO} (e : o = o') : upd H a o a = some o' := by
  rw [e]
  exact upd_same
theorem ne_fresh {H : Hp} {a b : Addr} {o : HO} (h : upd H a o b = none) : a ≠ b := ne_of_none upd_same h
theorem hn_ne {H : Hp} {a b : Addr} {o : HO} (n : b ≠ a) (e : H b = none) : upd H a o b = none := by
  rw [upd_ne n]
  exact e

/-! ### readings, one lemma each -/
section
variable {K : PySem.W.Frag} {σ : L2.St} {H : Hp} {nx bk ct : L2.St → Hp → Prop} {rt : VK} {t u : TS} {te ta tb tc : TE} {tt tu : TT} {ar : TA} {Q : VK} {QB : Bool → Hp → Prop} {QA : List V → Hp → Prop} {v x y : V} {i j : Int}
abbrev En (nx : L2.St → Hp → Prop) (rt : VK) (bk ct : L2.St → Hp → Prop) : Ends := ⟨nx, rt, bk, ct⟩
theorem rd_seq (h : t ⟨u ⟨nx, rt, bk, ct⟩, rt, bk, ct⟩ σ H) : tSeq t u ⟨nx, rt, bk, ct⟩ σ H := h
theorem rd_next (h : nx σ H) : tNext ⟨nx, rt, bk, ct⟩ σ H := h
theorem rd_brk (h : bk σ H) : tBreak ⟨nx, rt, bk, ct⟩ σ H := h
theorem rd_cont (h : ct σ H) : tCont ⟨nx, rt, bk, ct⟩ σ H := h
theorem rd_asg {g : TG} (h : te σ H fun x H1 => g x σ H1 nx) : tAsg te g ⟨nx, rt, bk, ct⟩ σ H := h
theorem rd_ret (h : te σ H rt) : tRet te ⟨nx, rt, bk, ct⟩ σ H := h
theorem rd_retN (h : rt .non H) : tRetN ⟨nx, rt, bk, ct⟩ σ H := h
theorem rd_drop (h : te σ H fun _ H1 => nx σ H1) : tDrop te ⟨nx, rt, bk, ct⟩ σ H := h
theorem rd_ifS {D : Ends} (h : tt σ H fun b H1 => if b = true then t D σ H1 else u D σ H1) : tIfS tt t u D σ H := h
theorem rd_cut (M : L2.St → Hp → Prop) (h : t ⟨M, rt, bk, ct⟩ σ H) (k : ∀ σ' H', M σ' H' → u ⟨nx, rt, bk, ct⟩ σ' H') : C8.tCut t u ⟨nx, rt, bk, ct⟩ σ H := ⟨M, h, k⟩
theorem rd_gname {n : Nat} {Q : L2.St → Hp → Prop} (h : Q (σ.set n (some v)) H) : gName n v σ H Q := h
theorem rd_gsub {to ti : TE} {s : TSet} {Q : L2.St → Hp → Prop} (h : to σ H fun o H1 => ti σ H1 fun i H2 => s o i v H2 fun H3 => Q σ H3) : gSub to ti s v σ H Q := h
theorem rd_gtup {n : Nat} {g : TGs} {a : Addr} {xs : List V} {Q : L2.St → Hp → Prop} (h : SqT K H a xs) (e : xs.length = n) (q : g xs σ H Q) : gTup K n g (.ref a) σ H Q := ⟨a, xs, rfl, h, e, q⟩
theorem rd_gcons {g : TG} {gs : TGs} {r : List V} {Q : L2.St → Hp → Prop} (q : g v σ H fun σ' H' => gs r σ' H' Q) : gCons g gs (v :: r) σ H Q := ⟨v, r, rfl, q⟩
theorem rd_gnil {Q : L2.St → Hp → Prop} (q : Q σ H) : gNil [] σ H Q := ⟨rfl, q⟩
theorem rd_setL {p : Addr} {xs : List V} {k : Int} {j : Nat} {Q : Hp → Prop} (hp : H p = some (.lst xs)) (hj : ixN xs.length k = some j) (q : Q (upd H p (.lst (xs.set j v)))) : rSetL (.ref p) (.int k) v H Q := ⟨p, xs, k, j, rfl, rfl, hp, hj, q⟩
theorem rd_var {n : Nat} (e : σ[n]? = some (some v)) (h : Q v H) : tVar n σ H Q := ⟨v, e, h⟩
theorem rd_c (h : Q v H) : tC v σ H Q := h
theorem rd_op {r : R2} (h : ta σ H fun x H1 => tb σ H1 fun y H2 => r x y H2 Q) : tOp r ta tb σ H Q := h
theorem rd_un {r : V → Hp → VK → Prop} (h : ta σ H fun x H1 => r x H1 Q) : tUn r ta σ H Q := h
theorem rd_I0 {g : Int → Int → V} (h : Q (g i j) H) : rI0 g (.int i) (.int j) H Q := ⟨i, j, rfl, rfl, h⟩
theorem rd_I {C : Int → Int → Prop} {g : Int → Int → V} (c : C i j) (h : Q (g i j) H) : rI C g (.int i) (.int j) H Q := ⟨i, j, rfl, rfl, c, h⟩
theorem rd_U {g : Int → V} (h : Q (g i) H) : rU g (.int i) H Q := ⟨i, rfl, h⟩
theorem rd_eqI (h : Q (.bl (decide (i = j))) H) : rEq (.int i) (.int j) H Q := ⟨rfl, by
  rw [show decide (V.int i = V.int j) = decide (i = j) from decide_eq_decide.mpr ⟨fun e => V.int.inj e, fun e => congrArg V.int e⟩]
  exact h⟩
theorem rd_neI (h : Q (.bl (!decide (i = j))) H) : rNe (.int i) (.int j) H Q := ⟨rfl, by
  rw [show decide (V.int i = V.int j) = decide (i = j) from decide_eq_decide.mpr ⟨fun e => V.int.inj e, fun e => congrArg V.int e⟩]
  exact h⟩
theorem rd_eqS {a b : Str} (h : Q (.bl (decide (a = b))) H) : rEq (.str a) (.str b) H Q := ⟨rfl, by
  rw [show decide (V.str a = V.str b) = decide (a = b) from decide_eq_decide.mpr ⟨fun e => V.str.inj e, fun e => congrArg V.str e⟩]
  exact h⟩
theorem rd_neS {a b : Str} (h : Q (.bl (!decide (a = b))) H) : rNe (.str a) (.str b) H Q := ⟨rfl, by
  rw [show decide (V.str a = V.str b) = decide (a = b) from decide_eq_decide.mpr ⟨fun e => V.str.inj e, fun e => congrArg V.str e⟩]
  exact h⟩
theorem rd_eqB {a b : Bool} (h : Q (.bl (decide (a = b))) H) : rEq (.bl a) (.bl b) H Q := ⟨rfl, by
  rw [show decide (V.bl a = V.bl b) = decide (a = b) from decide_eq_decide.mpr ⟨fun e => V.bl.inj e, fun e => congrArg V.bl e⟩]
  exact h⟩
theorem rd_neB {a b : Bool} (h : Q (.bl (!decide (a = b))) H) : rNe (.bl a) (.bl b) H Q := ⟨rfl, by
  rw [show decide (V.bl a = V.bl b) = decide (a = b) from decide_eq_decide.mpr ⟨fun e => V.bl.inj e, fun e => congrArg V.bl e⟩]
  exact h⟩
theorem rd_eq (s : scal x y = true) (h : Q (.bl (decide (x = y))) H) : rEq x y H Q := ⟨s, h⟩
theorem rd_ne (s : scal x y = true) (h : Q (.bl (!decide (x = y))) H) : rNe x y H Q := ⟨s, h⟩
theorem rd_test (h : te σ H fun x H1 => ∃ k, x = .bl k ∧ QB k H1) : tTest te σ H QB := h
theorem rd_tB (h : te σ H fun x H1 => ∃ k, x = .bl k ∧ QB k H1) : tB te σ H QB := h
theorem rd_exb {b : Bool} {P : Bool → Prop} (h : P b) : ∃ k, V.bl b = V.bl k ∧ P k := ⟨b, rfl, h⟩
theorem rd_and (h : tt σ H fun c H1 => if c = true then tu σ H1 QB else QB false H1) : tAnd tt tu σ H QB := h
theorem rd_or (h : tt σ H fun c H1 => if c = true then QB true H1 else tu σ H1 QB) : tOr tt tu σ H QB := h
theorem rd_not (h : tt σ H fun c H1 => QB (!c) H1) : tNot tt σ H QB := h
theorem rd_andV (h : ta σ H fun x H1 => ∃ c, x = .bl c ∧ if c = true then tb σ H1 Q else Q (.bl false) H1) : tAndV ta tb σ H Q := h
theorem rd_orV (h : ta σ H fun x H1 => ∃ c, x = .bl c ∧ if c = true then Q (.bl true) H1 else tb σ H1 Q) : tOrV ta tb σ H Q := h
theorem rd_notV (h : ta σ H fun x H1 => ∃ c, x = .bl c ∧ Q (.bl (!c)) H1) : tNotV ta σ H Q := h
theorem rd_ifE (h : tt σ H fun c H1 => if c = true then ta σ H1 Q else tb σ H1 Q) : tIf tt ta tb σ H Q := h
theorem rd_isN (h : ta σ H fun x H1 => Q (.bl (decide (x = .non))) H1) : tIsN ta σ H Q := h
theorem rd_notN (h : ta σ H fun x H1 => Q (.bl (!decide (x = .non))) H1) : tNotN ta σ H Q := h
theorem rd_tru {b : Bool} {P : Bool → Prop} (e : TruV K x H b) (h : P b) : ∃ k, TruV K x H k ∧ P k := ⟨b, e, h⟩
theorem rd_CB {r : List V → Hp → VK → Prop} (h : ar σ H fun vs H1 => r vs H1 Q) : tCB r ar σ H Q := h
theorem rd_nil (h : QA [] H) : tNil σ H QA := h
theorem rd_cons {tr : TA} (h : ta σ H fun x H1 => tr σ H1 fun xs H2 => QA (x :: xs) H2) : tCons ta tr σ H QA := h
theorem rd_call {sp : Sp} {E : XK} (h : ar σ H fun vs H1 => sp vs H1 Q E) : tCall sp [] E ar σ H Q := by
  unfold tCall
  have e : (fun vs H1 => sp (vs ++ []) H1 Q E) = fun vs H1 => sp vs H1 Q E := by
    funext vs H1
    rw [List.append_nil]
  rw [e]
  exact h
theorem rd_make {C : Addr} {sp : Sp} {dvs : List V} {E : XK} (h : ar σ H fun vs H1 => ∀ x dx, H1 x = none → H1 dx = none → dx ≠ x → sp (.ref x :: (vs ++ dvs)) (upd (upd H1 dx (.own x)) x (.ins C dx [])) (fun v H2 => v = .non ∧ Q (.ref x) H2) E) : tMake C sp dvs E ar σ H Q := h
theorem rd_callD {sp : Sp} {dvs : List V} {E : XK} (h : ar σ H fun vs H1 => sp (vs ++ dvs) H1 Q E) : tCall sp dvs E ar σ H Q := h
theorem rd_tup (h : ar σ H fun xs H1 => xs.length ≤ sizeLine ∧ ∀ p, H1 p = none → Q (.ref p) (upd H1 p (.tup xs))) : tTup ar σ H Q := h
theorem rd_lst (h : ar σ H fun xs H1 => xs.length ≤ sizeLine ∧ ∀ p, H1 p = none → Q (.ref p) (upd H1 p (.lst xs))) : tLst ar σ H Q := h
theorem rd_ixL {p : Addr} {xs : List V} (h : SqL K H p xs) (a : atI xs i = some v) (q : Q v H) : rIxL K (.ref p) (.int i) H Q := ⟨p, xs, i, v, rfl, rfl, h, a, q⟩
theorem rd_ixT {p : Addr} {xs : List V} (h : SqT K H p xs) (a : atI xs i = some v) (q : Q v H) : rIxT K (.ref p) (.int i) H Q := ⟨p, xs, i, v, rfl, rfl, h, a, q⟩
theorem rd_fld {f : Str} {a C dx : Addr} {fs : List (Str × V)} {P : V → Hp → Prop} (h : H a = some (.ins C dx fs)) (c : Cls K C) (n : NoAttr K C f) (l : fs.lookup f = some v) (q : Q v H) :
    ∃ a' C' dx' fs' v', V.ref a = V.ref a' ∧ H a' = some (.ins C' dx' fs') ∧ Cls K C' ∧ NoAttr K C' f ∧ fs'.lookup f = some v' ∧ Q v' H := ⟨a, C, dx, fs, v, rfl, h, c, n, l, q⟩
theorem rd_meth {C : Addr} {m : Str} {sp : Sp} {E : XK} (h : ta σ H fun x H1 => ∃ a dx fs, x = .ref a ∧ H1 a = some (.ins C dx fs) ∧ fs.lookup m = none ∧ ar σ H1 fun vs H2 => sp (x :: vs) H2 Q E) : tMeth C m sp [] E ta ar σ H Q := by
  unfold tMeth
  have e : (fun (x : V) (H1 : Hp) => ∃ a dx fs, x = V.ref a ∧ H1 a = some (.ins C dx fs) ∧ fs.lookup m = none ∧ ar σ H1 fun vs H2 => sp (x :: (vs ++ [])) H2 Q E) =
      fun (x : V) (H1 : Hp) => ∃ a dx fs, x = V.ref a ∧ H1 a = some (.ins C dx fs) ∧ fs.lookup m = none ∧ ar σ H1 fun vs H2 => sp (x :: vs) H2 Q E := by
    funext x H1
    simp only [List.append_nil]
  rw [e]
  exact h
theorem rd_methX {C a dx : Addr} {m : Str} {fs : List (Str × V)} {R : Prop} (h : H a = some (.ins C dx fs)) (l : fs.lookup m = none) (q : R) : ∃ a' dx' fs', V.ref a = V.ref a' ∧ H a' = some (.ins C dx' fs') ∧ fs'.lookup m = none ∧ R := ⟨a, dx, fs, rfl, h, l, q⟩
theorem rd_bm {T : String} {r : V → List V → Hp → VK → Prop} (h : ta σ H fun x H1 => tyV K T x H1 ∧ ar σ H1 fun xs H2 => r x xs H2 Q) : tBM K T r ta ar σ H Q := h
theorem rd_bm0 {T : String} {r : V → List V → Hp → VK → Prop} (h : ta σ H fun x H1 => tyV K T x H1 ∧ r x [] H1 Q) : tBM0 K T r ta σ H Q := h
theorem ty_l {p : Addr} {xs : List V} {B : Prop} (h : SqL K H p xs) (q : B) : tyV K "list" (.ref p) H ∧ B := ⟨.inl ⟨rfl, xs, h⟩, q⟩
theorem rd_append {p : Addr} {xs : List V} (h : H p = some (.lst xs)) (l : xs.length < sizeLine) (q : Q .non (upd H p (.lst (xs ++ [v])))) : rAppend (.ref p) [v] H Q := ⟨p, xs, v, rfl, rfl, h, l, q⟩
/-! #### built-ins under names -/
def rInt1 : List V → Hp → VK → Prop := fun xs H Q => (∃ i, xs = [.int i] ∧ Q (.int i) H) ∨ ∃ k, xs = [.bl k] ∧ Q (.int (if k then 1 else 0)) H
theorem call_int1' {X : Cx} : CallR X (.type "int") rInt1 := call_int1
theorem rd_int1 (h : Q (.int i) H) : rInt1 [.int i] H Q := .inl ⟨i, rfl, h⟩
def rAbs : List V → Hp → VK → Prop := fun xs H Q => ∃ i, xs = [.int i] ∧ Q (.int (if i < 0 then -i else i)) H
theorem call_abs' {X : Cx} : CallR X (.builtin "abs") rAbs := call_abs
theorem rd_abs (h : Q (.int (i.natAbs : Int)) H) : rAbs [.int i] H Q := ⟨i, rfl, by
  rw [show (if i < 0 then -i else i) = (i.natAbs : Int) from by split <;> omega]
  exact h⟩
def rLenS (K : PySem.W.Frag) : List V → Hp → VK → Prop := fun xs H Q => ∃ p ys, xs = [.ref p] ∧ (SqL K H p ys ∨ SqT K H p ys) ∧ Q (.int ys.length) H
theorem call_lenS {X : Cx} : CallR X (.builtin "len") (rLenS X.K) := call_len_seq
theorem rd_lenL {p : Addr} {ys : List V} (h : SqL K H p ys) (q : Q (.int ys.length) H) : rLenS K [.ref p] H Q := ⟨p, ys, rfl, .inl h, q⟩
theorem rd_lenI {p : Addr} {ns : List Int} (h : SqL K H p (ns.map V.int)) (q : Q (.int ns.length) H) : rLenS K [.ref p] H Q := ⟨p, ns.map V.int, rfl, .inl h, by
  rw [List.length_map]
  exact q⟩
theorem rd_lenT {p : Addr} {ys : List V} (h : SqT K H p ys) (q : Q (.int ys.length) H) : rLenS K [.ref p] H Q := ⟨p, ys, rfl, .inr h, q⟩
def rMin2 : List V → Hp → VK → Prop := fun xs H Q => ∃ i j, xs = [.int i, .int j] ∧ Q (.int (if j < i then j else i)) H
theorem call_min2' {X : Cx} (hc : X.calm = true) : CallR X (.builtin "min") rMin2 := call_min2 hc
theorem rd_min2 (h : Q (.int (min i j)) H) : rMin2 [.int i, .int j] H Q := ⟨i, j, rfl, by
  rw [show (if j < i then j else i) = min i j from by split <;> omega]
  exact h⟩
def rMax2 : List V → Hp → VK → Prop := fun xs H Q => ∃ i j, xs = [.int i, .int j] ∧ Q (.int (if j > i then j else i)) H
theorem call_max2' {X : Cx} (hc : X.calm = true) : CallR X (.builtin "max") rMax2 := call_max2 hc
theorem rd_max2 (h : Q (.int (max i j)) H) : rMax2 [.int i, .int j] H Q := ⟨i, j, rfl, by
  rw [show (if j > i then j else i) = max i j from by split <;> omega]
  exact h⟩
def rListOf (K : PySem.W.Frag) : List V → Hp → VK → Prop := fun xs H Q => ∃ p ys, xs = [.ref p] ∧ (SqL K H p ys ∨ SqT K H p ys) ∧ ∀ l, H l = none → Q (.ref l) (upd H l (.lst ys))
theorem call_listOf {X : Cx} : CallR X (.type "list") (rListOf X.K) := call_list_of
theorem rd_listL {p : Addr} {ys : List V} (h : SqL K H p ys) (q : ∀ l, H l = none → Q (.ref l) (upd H l (.lst ys))) : rListOf K [.ref p] H Q := ⟨p, ys, rfl, .inl h, q⟩
/-- isinstance against one built-in class -/
theorem rd_isi {t : String} {c : String} {b : Bool} (ty : TyX K H x (.type t)) (e : kitB t c = some b) (h : Q (.bl b) H) : rIsi K [x, .ty c] H Q := ⟨x, .ty c, .type t, .type c, b, rfl, .ty c, ty, kit_ty e, h⟩

/-! ### loops -/
/-- what a for over the walk J asks -/
def ForG (J : It) (g : TG) (t : TS) (D : Ends) (σ : L2.St) (H : Hp) : Prop :=
  ∃ W : Nat → Nat → L2.St → Hp → Prop, (∃ m, W 0 m σ H) ∧ ∀ i m σ H, W i m σ H →
      (J.stop i H ∧ D.nx σ H) ∨ (J.go i H ∧ ∃ N : L2.St → Hp → Prop, (∀ σ' H', N σ' H' → ∃ m', m' < m ∧ W (i + 1) m' σ' H') ∧ ∀ x H', J.yld i H x H' → g x σ H' fun σ2 H2 => t { D with nx := N, ct := N, bk := D.nx } σ2 H2)
theorem rd_for {wi : TI} {g : TG} {D : Ends} (h : wi σ H fun J H1 => ForG J g t D σ H1) : tFor wi g t D σ H := h
theorem rd_iList {R : It → Hp → Prop} (h : te σ H fun x H1 => ∃ a, x = V.ref a ∧ (∃ xs, SqL K H1 a xs) ∧ R (Itl K a) H1) : iList K te σ H R := h
theorem rd_iTup {R : It → Hp → Prop} (h : te σ H fun x H1 => ∃ a, x = V.ref a ∧ (∃ xs, SqT K H1 a xs) ∧ R (Itt K a) H1) : iTup K te σ H R := h
theorem rd_iListX {p : Addr} {xs : List V} {R : Addr → Prop} (h : SqL K H p xs) (q : R p) : ∃ a, V.ref p = V.ref a ∧ (∃ xs, SqL K H a xs) ∧ R a := ⟨p, rfl, ⟨xs, h⟩, q⟩
theorem rd_iTupX {p : Addr} {xs : List V} {R : Addr → Prop} (h : SqT K H p xs) (q : R p) : ∃ a, V.ref p = V.ref a ∧ (∃ xs, SqT K H a xs) ∧ R a := ⟨p, rfl, ⟨xs, h⟩, q⟩
theorem rd_iRng1 {R : It → Hp → Prop} (h : ar σ H fun vs H1 => ∃ j : Int, vs = [.int j] ∧ -(2 ^ 62) ≤ j ∧ j < 2 ^ 62 ∧ R (Itr 0 j.toNat) H1) : iRng1 ar σ H R := h
theorem rd_iRng1X {R : Int → Prop} (h1 : -(2 ^ 62) ≤ j) (h2 : j < 2 ^ 62) (q : R j) : ∃ k : Int, [V.int j] = [V.int k] ∧ -(2 ^ 62) ≤ k ∧ k < 2 ^ 62 ∧ R k := ⟨j, rfl, h1, h2, q⟩
theorem rd_iRng2 {R : It → Hp → Prop} (h : ar σ H fun vs H1 => ∃ i j : Int, vs = [.int i, .int j] ∧ (-(2 ^ 62) ≤ i ∧ i < 2 ^ 62 ∧ -(2 ^ 62) ≤ j ∧ j < 2 ^ 62) ∧ R (Itr i (j - i).toNat) H1) : iRng2 ar σ H R := h
theorem rd_iRng2X {R : Int → Int → Prop} (h1 : -(2 ^ 62) ≤ i ∧ i < 2 ^ 62 ∧ -(2 ^ 62) ≤ j ∧ j < 2 ^ 62) (q : R i j) : ∃ k l : Int, [V.int i, V.int j] = [V.int k, V.int l] ∧ (-(2 ^ 62) ≤ k ∧ k < 2 ^ 62 ∧ -(2 ^ 62) ≤ l ∧ l < 2 ^ 62) ∧ R k l := ⟨i, j, rfl, h1, q⟩
/-- over a list that stays -/
theorem forL_by {a : Addr} {g : TG} (xs : List V) (Pv : Nat → L2.St → Hp → Prop) (h0 : Pv 0 σ H) (hl : ∀ i σ H, i ≤ xs.length → Pv i σ H → SqL K H a xs)
    (hs : ∀ i x σ H, xs[i]? = some x → Pv i σ H → g x σ H fun σ2 H2 => t ⟨Pv (i + 1), rt, nx, Pv (i + 1)⟩ σ2 H2) (hd : ∀ σ H, Pv xs.length σ H → nx σ H) : ForG (Itl K a) g t ⟨nx, rt, bk, ct⟩ σ H := for_list (K := K) Pv h0 hl hs hd
theorem forT_by {a : Addr} {g : TG} (xs : List V) (Pv : Nat → L2.St → Hp → Prop) (h0 : Pv 0 σ H) (hl : ∀ i σ H, i ≤ xs.length → Pv i σ H → SqT K H a xs)
    (hs : ∀ i x σ H, xs[i]? = some x → Pv i σ H → g x σ H fun σ2 H2 => t ⟨Pv (i + 1), rt, nx, Pv (i + 1)⟩ σ2 H2) (hd : ∀ σ H, Pv xs.length σ H → nx σ H) : ForG (Itt K a) g t ⟨nx, rt, bk, ct⟩ σ H := for_tup (K := K) Pv h0 hl hs hd
theorem forR_by {lo : Int} {n : Nat} {g : TG} (Pv : Nat → L2.St → Hp → Prop) (h0 : Pv 0 σ H)
    (hs : ∀ (i : Nat) σ H, i < n → Pv i σ H → g (.int (lo + i)) σ H fun σ2 H2 => t ⟨Pv (i + 1), rt, nx, Pv (i + 1)⟩ σ2 H2) (hd : ∀ σ H, Pv n σ H → nx σ H) : ForG (Itr lo n) g t ⟨nx, rt, bk, ct⟩ σ H := for_range Pv h0 hs hd
/-- the items one by one -/
theorem forL_ints {a : Addr} {g : TG} (ns : List Int) (Pv : Nat → L2.St → Hp → Prop) (h0 : Pv 0 σ H) (hl : ∀ i σ H, i ≤ ns.length → Pv i σ H → SqL K H a (ns.map V.int))
    (hs : ∀ (i : Nat) (h : i < ns.length) σ H, Pv i σ H → g (.int ns[i]) σ H fun σ2 H2 => t ⟨Pv (i + 1), rt, nx, Pv (i + 1)⟩ σ2 H2) (hd : ∀ σ H, Pv ns.length σ H → nx σ H) : ForG (Itl K a) g t ⟨nx, rt, bk, ct⟩ σ H :=
  forL_by (ns.map V.int) Pv h0 (fun i σ H hi p => hl i σ H (by simpa using hi) p) (fun i x σ H e p => by
    rw [List.getElem?_map] at e
    obtain ⟨z, hz, rfl⟩ := Option.map_eq_some_iff.mp e
    obtain ⟨h, rfl⟩ := List.getElem?_eq_some_iff.mp hz
    exact hs i h σ H p) (fun σ H p => hd σ H (by simpa using p))
theorem rd_while (Pv : L2.St → Hp → Prop) (μ : L2.St → Hp → Nat) (h0 : Pv σ H)
    (hs : ∀ σ H, Pv σ H → tt σ H fun b H1 => if b = true then t ⟨fun σ' H' => Pv σ' H' ∧ μ σ' H' < μ σ H, rt, nx, fun σ' H' => Pv σ' H' ∧ μ σ' H' < μ σ H⟩ σ H1 else nx σ H1)
    (mono : ∀ σ H Q Q', (∀ b H1, Q b H1 → Q' b H1) → tt σ H Q → tt σ H Q') : tWhile tt t ⟨nx, rt, bk, ct⟩ σ H := while_by Pv μ h0 hs mono
/-- a list comprehension -/
def LcG (J : It) (g : TG) (tt : TT) (te : TE) (vs : List Nat) (σ : L2.St) (D : Addr) (Qd : Hp → Prop) (H1 : Hp) : Prop :=
  ∃ W : Nat → Nat → Hp → Prop, (∃ m, W 0 m (upd H1 D (.lst []))) ∧ ∀ i m H, W i m H →
      (J.stop i H ∧ Qd H) ∨ (J.go i H ∧ ∃ Nx : Hp → Prop, (∀ H', Nx H' → ∃ m', m' < m ∧ W (i + 1) m' H') ∧ ∀ x H', J.yld i H x H' → g x (wipe σ vs) H' fun σ2 H2 => wipe σ2 vs = wipe σ vs ∧ tt σ2 H2 fun b H3 =>
        if b = true then te σ2 H3 fun y H4 => ∃ acc, H4 D = some (.lst acc) ∧ acc.length < sizeLine ∧ Nx (upd H4 D (.lst (acc ++ [y]))) else Nx H3)
theorem rd_lc {wi : TI} {g : TG} {vs : List Nat} (h : wi σ H fun J H1 => ∀ D, H1 D = none → LcG J g tt te vs σ D (fun H => Q (.ref D) H) H1) : tLc wi g tt te vs σ H Q := h
theorem lcL_by {a D : Addr} {g : TG} {vs : List Nat} {Qd : Hp → Prop} (xs : List V) (Pv : Nat → Hp → Prop) (h0 : Pv 0 (upd H D (.lst []))) (hl : ∀ i H, i ≤ xs.length → Pv i H → SqL K H a xs)
    (hs : ∀ i x H, xs[i]? = some x → Pv i H → g x (wipe σ vs) H fun σ2 H2 => wipe σ2 vs = wipe σ vs ∧ tt σ2 H2 fun b H3 =>
      if b = true then te σ2 H3 fun y H4 => ∃ acc, H4 D = some (.lst acc) ∧ acc.length < sizeLine ∧ Pv (i + 1) (upd H4 D (.lst (acc ++ [y]))) else Pv (i + 1) H3) (hd : ∀ H, Pv xs.length H → Qd H) : LcG (Itl K a) g tt te vs σ D Qd H := lc_list (K := K) Pv h0 hl hs hd
theorem lcR_by {lo : Int} {n : Nat} {D : Addr} {g : TG} {vs : List Nat} {Qd : Hp → Prop} (Pv : Nat → Hp → Prop) (h0 : Pv 0 (upd H D (.lst [])))
    (hs : ∀ (i : Nat) H, i < n → Pv i H → g (.int (lo + i)) (wipe σ vs) H fun σ2 H2 => wipe σ2 vs = wipe σ vs ∧ tt σ2 H2 fun b H3 =>
      if b = true then te σ2 H3 fun y H4 => ∃ acc, H4 D = some (.lst acc) ∧ acc.length < sizeLine ∧ Pv (i + 1) (upd H4 D (.lst (acc ++ [y]))) else Pv (i + 1) H3) (hd : ∀ H, Pv n H → Qd H) : LcG (Itr lo n) g tt te vs σ D Qd H := lc_range Pv h0 hs hd
theorem lcL_ints {a D : Addr} {g : TG} {vs : List Nat} {Qd : Hp → Prop} (ns : List Int) (Pv : Nat → Hp → Prop) (h0 : Pv 0 (upd H D (.lst []))) (hl : ∀ i H, i ≤ ns.length → Pv i H → SqL K H a (ns.map V.int))
    (hs : ∀ (i : Nat) (h : i < ns.length) H, Pv i H → g (.int ns[i]) (wipe σ vs) H fun σ2 H2 => wipe σ2 vs = wipe σ vs ∧ tt σ2 H2 fun b H3 =>
      if b = true then te σ2 H3 fun y H4 => ∃ acc, H4 D = some (.lst acc) ∧ acc.length < sizeLine ∧ Pv (i + 1) (upd H4 D (.lst (acc ++ [y]))) else Pv (i + 1) H3) (hd : ∀ H, Pv ns.length H → Qd H) : LcG (Itl K a) g tt te vs σ D Qd H :=
  lcL_by (ns.map V.int) Pv h0 (fun i H hi p => hl i H (by simpa using hi) p) (fun i x H e p => by
    rw [List.getElem?_map] at e
    obtain ⟨z, hz, rfl⟩ := Option.map_eq_some_iff.mp e
    obtain ⟨h, rfl⟩ := List.getElem?_eq_some_iff.mp hz
    exact hs i h H p) (fun H p => hd H (by simpa using p))
theorem rd_yes {QB : Bool → Hp → Prop} (h : QB true H) : tYes σ H QB := h
end

/-! ### callables in one piece -/
section
variable {P : Program} {w : World} {K : PySem.W.Frag} {mg : Str → Option Value} {base : Heap} {CX : CXT} {X : Cx} {k j : Nat} {C : Addr} {x m : Str} {sp : Sp} {dvs : List V} {E : XK} {p pos apos : Pos} {e o : Expr} {es : List Expr} {ta : TE} {t : TA}
structure CalX (P : Program) (w : World) (K : PySem.W.Frag) (mg : Str → Option Value) (base : Heap) (CX : CXT) (k : Nat) (x : Str) (sp : Sp) (dvs : List V) : Prop where
  ex : ∃ (f : Addr) (fd : FuncData) (ps : List Str) (ds : List Value), FnOk P w K mg base CX k f fd ps sp ∧ mg x = some (.ref f) ∧ PySem.W.keepIn K (.ref f) = true ∧ Binds K fd ps ds ∧ Vals dvs ds
structure MetX (P : Program) (w : World) (K : PySem.W.Frag) (mg : Str → Option Value) (base : Heap) (CX : CXT) (k : Nat) (C : Addr) (m : Str) (sp : Sp) (dvs : List V) : Prop where
  ex : ∃ (f : Addr) (fd : FuncData) (ps : List Str) (ds : List Value), Cls K C ∧ Meth K C m f ∧ FnOk P w K mg base CX k f fd ps sp ∧ Binds K fd ps ds ∧ Vals dvs ds
structure MakX (P : Program) (w : World) (K : PySem.W.Frag) (mg : Str → Option Value) (base : Heap) (CX : CXT) (k : Nat) (x : Str) (C : Addr) (sp : Sp) (dvs : List V) : Prop where
  ex : ∃ (f : Addr) (fd : FuncData) (ps : List Str) (ds : List Value), Mk K C f ∧ FnOk P w K mg base CX k f fd ps sp ∧ mg x = some (.ref C) ∧ Binds K fd ps ds ∧ Vals dvs ds
theorem pe_cal (c : CalX X.prog X.w X.K X.mg X.base CX k x sp dvs) (hr : Room j X.A) (hk : k ≤ j) (hg : Gl X x) (hx : Passes CX X E) (ha : PA X (e :: es) t)
    (hdb : (x == ("__debug__" : Str)) = false := by decide) (he : starEach (e :: es) X.env = (false, eval e X.env) :: starEach es X.env := by rfl) (hpl : (backTo pos (starEach es X.env)).any (·.1) = false := by rfl) :
    PE X (.Call (.Name x p) (e :: es) [] pos) (tCall sp dvs E t) := by
  obtain ⟨f, fd, ps, ds, F, hm, kp, b, d⟩ := c.ex
  exact pe_call F (hr.mono hk) hg hm kp b d hx ha hdb he hpl
theorem pe_mak (c : MakX X.prog X.w X.K X.mg X.base CX k x C sp dvs) (hr : Room j X.A) (hk : k + 1 ≤ j) (hg : Gl X x) (hx : Passes CX X E) (ha : PA X (e :: es) t)
    (hdb : (x == ("__debug__" : Str)) = false := by decide) (he : starEach (e :: es) X.env = (false, eval e X.env) :: starEach es X.env := by rfl) (hpl : (backTo pos (starEach es X.env)).any (·.1) = false := by rfl) :
    PE X (.Call (.Name x p) (e :: es) [] pos) (tMake C sp dvs E t) := by
  obtain ⟨f, fd, ps, ds, M, F, hm, b, d⟩ := c.ex
  exact pe_make M F (hr.mono hk) hg hm b d hx ha hdb he hpl
theorem pe_met {pl : Sem Bool} (c : MetX X.prog X.w X.K X.mg X.base CX k C m sp dvs) (hr : Room j X.A) (hk : k ≤ j) (hx : Passes CX X E) (he : PE X o ta) (ha : PA X (e :: es) t)
    (hst : starEach (e :: es) X.env = (false, eval e X.env) :: starEach es X.env := by rfl) (hpl : (backTo pos (starEach es X.env)).any (·.1) = false := by rfl)
    (ht : eval (.Call (.Attribute o m apos) (e :: es) [] pos) X.env = (do
      let ov ← eval o X.env
      standAt apos.atName
      let (f, first) ← holding [ov] (getMethod ov m pl)
      callWith pos f first (backTo pos (starEach (e :: es) X.env)) (backToKw pos (keywordEach [] X.env))) := by rfl) :
    PE X (.Call (.Attribute o m apos) (e :: es) [] pos) (tMeth C m sp dvs E ta t) := by
  obtain ⟨f, fd, ps, ds, cl, me, F, b, d⟩ := c.ex
  exact pe_meth he cl me F (hr.mono hk) b d hx ha hst hpl ht
end

/-! ### a def's promise by its body -/
section
variable {P : Program} {w : World} {K : PySem.W.Frag} {mg : Str → Option Value} {base : Heap} {CX : CXT} {x qual : Str} {params : Arguments} {body : List Stmt} {scope : Scope} {dvs : List V} {kws : List (Str × V)} {f : Addr} {fd : FuncData}
theorem fnD {N ps : List Str} {k : Nat} {sp : Sp} (F : FunD K x qual params body scope dvs kws f fd) (S : FnScope N ps scope) (len : ∀ vs H Q E, sp vs H Q E → vs.length = ps.length)
    (hbody : ∀ (cdv : Value) (A : Around) (outer : List Env) (s : Shared) (H : Hp) (vs : List V) (Q : VK) (E : XK), Room k (A.deeper (envOfC qual scope s.heap.objs.size f cdv)) → sp vs H Q E →
      ∃ t, PSs (cxOf CX0 P w K mg base N qual scope f cdv A outer s H E).nox body t ∧ t ⟨fun _ H' => Q .non H', Q, fun _ _ => False, fun _ _ => False⟩ (start N vs) H) : FnOk P w K mg base CX0 (k + 1) f fd ps sp :=
  F.ok S len fun cdv A outer s H vs Q E hr h => let ⟨t, h1, h2⟩ := hbody cdv A outer s H vs Q E hr h; ⟨t, h1.nox, h2⟩
end

/-! ### the head: facts of a top, one Bool more -/
abbrev AlM : Type := AlD × Bool
def obsM (n : Nat) (fa : List Fa) (fn : List DefD) (ex : PySem.W.Frag → Bool) (g : Addr → Option Obj) : AlM := (obsD fa fn (frG g (asD g n)), ex (frG g (asD g n)))
def hookM (n : Nat) (fa : List Fa) (fn : List DefD) (ex : PySem.W.Frag → Bool) : PySem.W.Hook where
  α := AlM
  obs := fun s => obsM n fa fn ex s.heap.get?
  val := fun _ => (valD fn, true)
  says := fun _ h => ∃ K : PySem.W.Frag, K.In h ∧ SaysD fa fn K ∧ ex K = true
  of := fun _ _ e => ⟨_, frG_in, congrArg (fun z : AlM => z.1) e, congrArg (fun z : AlM => z.2) e⟩
  keeps := fun _ _ _ ⟨K, hK, c, d⟩ k => ⟨K, PySem.W.Frag.In.keeps hK k, c, d⟩
theorem obsM_eq {n : Nat} {fa : List Fa} {fn : List DefD} {ex : PySem.W.Frag → Bool} {g : Addr → Option Obj} {s : Shared} (h : ∀ a, g a = s.heap.get? a) : obsM n fa fn ex g = (hookM n fa fn ex).obs s := by
  have e : g = s.heap.get? := funext h
  rw [e] <;> rfl
/-- what the defs lean on -/
structure Ctx (fa : List Fa) (fn : List DefD) (ex : PySem.W.Frag → Bool) (K : PySem.W.Frag) (mg : Str → Option Value) : Prop where
  says : SaysD fa fn K
  ex : ex K = true
  at_ : ∃ h, K.In h ∧ h.Ns mainGlobals mg
section
variable {fa : List Fa} {fn : List DefD} {ex : PySem.W.Frag → Bool} {K : PySem.W.Frag} {mg : Str → Option Value}
theorem Ctx.glo (T : Ctx fa fn ex K mg) (i : Nat) {x : Str} (h : fa[i]? = some (.glo x) := by rfl) : mg x = some (.ref (ga K x)) := let ⟨_, X, G⟩ := T.at_; glo_ok X G (T.says.fact i h)
theorem Ctx.fre (T : Ctx fa fn ex K mg) (i : Nat) {x : Str} (h : fa[i]? = some (.free x) := by rfl) : mg x = none := let ⟨_, X, G⟩ := T.at_; free_ok X G (T.says.fact i h)
theorem Ctx.cls (T : Ctx fa fn ex K mg) (i : Nat) {x : Str} (h : fa[i]? = some (.cls x) := by rfl) : Cls K (ga K x) := cls_ok (T.says.fact i h)
theorem Ctx.noat (T : Ctx fa fn ex K mg) (i : Nat) {x f : Str} (h : fa[i]? = some (.noat x f) := by rfl) : NoAttr K (ga K x) f := noat_ok (T.says.fact i h)
theorem Ctx.meth (T : Ctx fa fn ex K mg) (i : Nat) {x m : Str} (h : fa[i]? = some (.meth x m) := by rfl) : Meth K (ga K x) m (ma K (ga K x) m) := meth_ok (T.says.fact i h)
theorem Ctx.mkr (T : Ctx fa fn ex K mg) (i : Nat) {x : Str} (h : fa[i]? = some (.mkr x) := by rfl) : Mk K (ga K x) (ma K (ga K x) "__init__") := mkr_ok (T.says.fact i h)
theorem Ctx.int (T : Ctx fa fn ex K mg) (i : Nat) {x : Str} {z : Int} (h : fa[i]? = some (.int x z) := by rfl) : ∃ t, mg x = some (.int z t) := let ⟨_, X, G⟩ := T.at_; int_ok X G (T.says.fact i h)
theorem Ctx.str (T : Ctx fa fn ex K mg) (i : Nat) {x z : Str} (h : fa[i]? = some (.str x z) := by rfl) : ∃ t, mg x = some (.str z t) := let ⟨_, X, G⟩ := T.at_; str_ok X G (T.says.fact i h)
end
theorem pe_globC {X : Cx} {x : Str} {v : V} {pos : Pos} (hg : Gl X x) (h : ∃ u, X.mg x = some u ∧ RelV v u) (hd : (x == ("__debug__" : Str)) = false := by decide) : PE X (.Name x pos) (tC v) := let ⟨_, hm, r⟩ := h; pe_glob hg hm r hd

/-! ### small facts -/
theorem ite_d {p A B : Prop} [Decidable p] (h1 : p → A) (h2 : ¬ p → B) : if decide p = true then A else B := by
  by_cases h : p
  · rw [decide_eq_true h, if_pos rfl]
    exact h1 h
  · rw [decide_eq_false h, if_neg Bool.false_ne_true]
    exact h2 h
theorem ite_n {p A B : Prop} [Decidable p] (h1 : ¬ p → A) (h2 : p → B) : if (!decide p) = true then A else B := by
  by_cases h : p
  · rw [decide_eq_true h]
    exact iteF (h2 h)
  · rw [decide_eq_false h]
    exact iteT (h1 h)
theorem ite_b {b : Bool} {A B : Prop} (h1 : b = true → A) (h2 : b = false → B) : if b = true then A else B := by
  cases b
  · exact iteF (h2 rfl)
  · exact iteT (h1 rfl)
theorem ite_t {b : Bool} {A B : Prop} (e : b = true) (h : A) : if b = true then A else B := by
  subst e
  exact iteT h
theorem ite_f {b : Bool} {A B : Prop} (e : b = false) (h : B) : if b = true then A else B := by
  subst e
  exact iteF h
theorem atI_ints {ns : List Int} {i : Int} (h0 : 0 ≤ i) (h1 : i < ns.length) : atI (ns.map V.int) i = some (.int (ns.getD i.toNat 0)) := by
  obtain ⟨j, rfl⟩ := Int.eq_ofNat_of_zero_le h0
  refine atI_nat ?_
  have hj : j < ns.length := by omega
  rw [List.getElem?_map, List.getElem?_eq_getElem hj]
  simp [hj]
theorem take_map_succ {ns : List Int} {i : Nat} (h : i < ns.length) : (ns.take i).map V.int ++ [V.int ns[i]] = (ns.take (i + 1)).map V.int := by
  rw [List.take_succ_eq_append_getElem h, List.map_append]
  rfl
theorem sz1000 {n : Nat} (h : n ≤ 1000000) : n ≤ sizeLine := Nat.le_trans h (by decide)
theorem szlt {n : Nat} (h : n < 1000000) : n < sizeLine := Nat.lt_of_lt_of_le h (by decide)

/-! ### more readings -/
section
variable {K : PySem.W.Frag} {σ : L2.St} {H : Hp} {nx bk ct : L2.St → Hp → Prop} {rt : VK} {te ta tb tc : TE} {ar : TA} {Q : VK} {QB : Bool → Hp → Prop} {v x y z : V} {i j : Int}
theorem rd_sfld {f : Str} (h : tb σ H fun y H1 => ta σ H1 fun x H2 => ∃ a C dx fs, x = V.ref a ∧ H2 a = some (.ins C dx fs) ∧ Cls K C ∧ NoAttr K C f ∧ fs.length < 1000 ∧ nx σ (upd H2 a (.ins C dx (putF f y fs)))) : sFld K ta tb f ⟨nx, rt, bk, ct⟩ σ H := h
theorem rd_sfldX {f : Str} {a C dx : Addr} {fs : List (Str × V)} {R : Addr → Addr → Addr → List (Str × V) → Prop} (h : H a = some (.ins C dx fs)) (c : Cls K C) (n : NoAttr K C f) (l : fs.length < 1000) (q : R a C dx fs) :
    ∃ a' C' dx' fs', V.ref a = V.ref a' ∧ H a' = some (.ins C' dx' fs') ∧ Cls K C' ∧ NoAttr K C' f ∧ fs'.length < 1000 ∧ R a' C' dx' fs' := ⟨a, C, dx, fs, rfl, h, c, n, l, q⟩
theorem rd_tfld {f : Str} (h : ta σ H fun x H1 => ∃ a C dx fs v, x = V.ref a ∧ H1 a = some (.ins C dx fs) ∧ Cls K C ∧ NoAttr K C f ∧ fs.lookup f = some v ∧ Q v H1) : tFld K ta f σ H Q := h
theorem rd_fldX {f : Str} {a C dx : Addr} {fs : List (Str × V)} {R : V → Prop} (h : H a = some (.ins C dx fs)) (c : Cls K C) (n : NoAttr K C f) (l : fs.lookup f = some v) (q : R v) :
    ∃ a' C' dx' fs' v', V.ref a = V.ref a' ∧ H a' = some (.ins C' dx' fs') ∧ Cls K C' ∧ NoAttr K C' f ∧ fs'.lookup f = some v' ∧ R v' := ⟨a, C, dx, fs, v, rfl, h, c, n, l, q⟩
theorem rd_tcon {f : Str} (h : ta σ H fun x H1 => ∃ a C dx fs v u, x = V.ref a ∧ H1 a = some (.ins C dx fs) ∧ Cls K C ∧ Con K C f v u ∧ fs.lookup f = none ∧ Q v H1) : tCon K ta f σ H Q := h
theorem rd_conX {f : Str} {a C dx : Addr} {fs : List (Str × V)} {R : V → Prop} (h : H a = some (.ins C dx fs)) (c : Cls K C) (n : ∃ u, Con K C f v u) (l : fs.lookup f = none) (q : R v) :
    ∃ a' C' dx' fs' v' u, V.ref a = V.ref a' ∧ H a' = some (.ins C' dx' fs') ∧ Cls K C' ∧ Con K C' f v' u ∧ fs'.lookup f = none ∧ R v' := let ⟨u, n⟩ := n; ⟨a, C, dx, fs, v, u, rfl, h, c, n, l, q⟩
/-! isinstance -/
theorem rd_isi_ii (h : Q (.bl true) H) : rIsi K [.int i, .ty "int"] H Q := rd_isi (.base (.int i)) (by decide +kernel) h
theorem rd_isi_ib (h : Q (.bl false) H) : rIsi K [.int i, .ty "bool"] H Q := rd_isi (.base (.int i)) (by decide +kernel) h
theorem rd_isi_bb {b : Bool} (h : Q (.bl true) H) : rIsi K [.bl b, .ty "bool"] H Q := rd_isi (.base (.bl b)) (by decide +kernel) h
theorem rd_isi_bi {b : Bool} (h : Q (.bl true) H) : rIsi K [.bl b, .ty "int"] H Q := rd_isi (.base (.bl b)) (by decide +kernel) h
theorem rd_isi_ss {b : Str} (h : Q (.bl true) H) : rIsi K [.str b, .ty "str"] H Q := rd_isi (.base (.str b)) (by decide +kernel) h
theorem rd_isi_ll {a : Addr} {xs : List V} (e : H a = some (.lst xs)) (h : Q (.bl true) H) : rIsi K [.ref a, .ty "list"] H Q := rd_isi (.base (.lst e)) (by decide +kernel) h
theorem rd_isi_tt {a : Addr} {xs : List V} (e : H a = some (.tup xs)) (h : Q (.bl true) H) : rIsi K [.ref a, .ty "tuple"] H Q := rd_isi (.base (.tup e)) (by decide +kernel) h
/-! known tests -/
section
variable {A B : Prop}
theorem ite_nt (h : B) : if (!true) = true then A else B := iteF h
theorem ite_nf (h : A) : if (!false) = true then A else B := iteT h
theorem ite_in (h : B) : if decide (V.int i = V.non) = true then A else B := iteF h
theorem ite_rn {a : Addr} (h : B) : if decide (V.ref a = V.non) = true then A else B := iteF h
theorem ite_sn {a : Str} (h : B) : if decide (V.str a = V.non) = true then A else B := iteF h
theorem ite_bn {a : Bool} (h : B) : if decide (V.bl a = V.non) = true then A else B := by
  cases a <;> exact iteF h
theorem ite_nn (h : A) : if decide (V.non = V.non) = true then A else B := iteT h
theorem ite_xin (h : A) : if (!decide (V.int i = V.non)) = true then A else B := iteT h
theorem ite_xrn {a : Addr} (h : A) : if (!decide (V.ref a = V.non)) = true then A else B := iteT h
theorem ite_xnn (h : B) : if (!decide (V.non = V.non)) = true then A else B := iteF h
end
/-! dicts with tuple keys -/
theorem rd_dnewT (h : ∀ p, H p = none → Q (.ref p) (upd H p (.dT []))) : tDNewT σ H Q := h
theorem rd_dnewK (h : ∀ p, H p = none → Q (.ref p) (upd H p (.dK []))) : tDNewK σ H Q := h
theorem rd_dget2 (h : ta σ H fun x H1 => ∃ a, x = V.ref a ∧ IsD H1 a ∧ tb σ H1 fun y H2 => tc σ H2 fun z H3 => ∃ o, DGet H3 a y o ∧ Q (o.getD z) H3) : tDGet2 ta tb tc σ H Q := h
theorem rd_isdX {a : Addr} {R : Addr → Prop} (d : IsD H a) (q : R a) : ∃ a', V.ref a = V.ref a' ∧ IsD H a' ∧ R a' := ⟨a, rfl, d, q⟩
theorem isD_T {a : Addr} {kvs : List (List Key × V)} (e : H a = some (.dT kvs)) : IsD H a := .inr ⟨kvs, .inl e⟩
theorem isD_K {a : Addr} {kvs : List (Key × V)} (e : H a = some (.dK kvs)) : IsD H a := .inl ⟨kvs, .inl e⟩
theorem rd_dgX {a : Addr} {o : Option V} {R : Option V → Prop} (d : DGet H a y o) (q : R o) : ∃ o', DGet H a y o' ∧ R o' := ⟨o, d, q⟩
theorem dg_is {a b : Addr} {kvs : List (List Key × V)} {s : Int} {z : Str} (e : H a = some (.dT kvs)) (eb : H b = some (.tup [.int s, .str z])) : DGet H a (.ref b) (valV kvs [.inl s, .inr z]) := DGet.t (k := [.inl s, .inr z]) e eb
theorem rd_sdput (h : tc σ H fun v H1 => ta σ H1 fun x H2 => tb σ H2 fun y H3 => ∃ a H4, x = V.ref a ∧ DPut H3 a y v H4 ∧ nx σ H4) : sDPut ta tb tc ⟨nx, rt, bk, ct⟩ σ H := h
theorem rd_dpX {a : Addr} {H' : Hp} {R : Hp → Prop} (d : DPut H a y v H') (q : R H') : ∃ a' H4, V.ref a = V.ref a' ∧ DPut H a' y v H4 ∧ R H4 := ⟨a, H', rfl, d, q⟩
theorem dp_is {a b : Addr} {kvs : List (List Key × V)} {s : Int} {z : Str} (e : H a = some (.dT kvs)) (eb : H b = some (.tup [.int s, .str z])) (l : kvs.length < sizeLine) : DPut H a (.ref b) v (upd H a (.dT (putK kvs [.inl s, .inr z] v))) := DPut.t (k := [.inl s, .inr z]) e eb l
theorem ty_d {a : Addr} {kvs : List (List Key × V)} {B : Prop} (h : H a = some (.dT kvs)) (q : B) : tyV K "dict" (.ref a) H ∧ B := ⟨.inr (.inr (.inl ⟨rfl, .inr ⟨kvs, h⟩⟩)), q⟩
theorem ty_dK {a : Addr} {kvs : List (Key × V)} {B : Prop} (h : H a = some (.dK kvs)) (q : B) : tyV K "dict" (.ref a) H ∧ B := ⟨.inr (.inr (.inl ⟨rfl, .inl ⟨kvs, h⟩⟩)), q⟩
theorem rd_popT {a b : Addr} {kvs : List (List Key × V)} {s : Int} {t : Str} (e : H a = some (.dT kvs)) (eb : H b = some (.tup [.int s, .str t])) (q1 : ∀ v, valV kvs [.inl s, .inr t] = some v → Q v (upd H a (.dT (dropK kvs [.inl s, .inr t])))) (q2 : valV kvs [.inl s, .inr t] = none → Q x H) :
    DX.rPopT (.ref a) [.ref b, x] H Q := ⟨a, kvs, [.inl s, .inr t], b, x, rfl, rfl, e, eb, q1, q2⟩
theorem valV_drop {κ : Type} [DecidableEq κ] (k j : κ) : ∀ kvs : List (κ × V), valV (dropK kvs k) j = if j = k then none else valV kvs j
  | [] => by
    by_cases h : j = k
    · rw [if_pos h]
      rfl
    · rw [if_neg h]
      rfl
  | p :: r => by
    have ih := valV_drop k j r
    by_cases e : p.1 = k
    · rw [dropK_pos e, ih]
      by_cases h : j = k
      · rw [if_pos h, if_pos h]
      · rw [if_neg h, if_neg h, valV_neg (fun z => h (z.symm.trans e))]
    · rw [dropK_neg e]
      by_cases h : p.1 = j
      · rw [valV_pos h, if_neg (fun z => e (h.trans z)), valV_pos h]
      · rw [valV_neg h, ih, valV_neg h]
theorem putK_le {κ : Type} [DecidableEq κ] (kvs : List (κ × V)) (k : κ) (v : V) : (putK kvs k v).length ≤ kvs.length + 1 := by
  unfold putK
  split
  · rw [List.length_map]
    omega
  · rw [List.length_append]
    exact Nat.le_refl _
theorem rd_cat {a b : Addr} {xs ys : List V} (h1 : H a = some (.lst xs)) (h2 : H b = some (.lst ys)) (l : xs.length + ys.length ≤ sizeLine) (q : ∀ p, H p = none → Q (.ref p) (upd H p (.lst (xs ++ ys)))) : rCat (.ref a) (.ref b) H Q := ⟨a, b, xs, ys, rfl, rfl, h1, h2, l, q⟩
/-! list(range(..)) -/
theorem rd_lstRg {t : L2.St → Hp → (Int → Int → Hp → Prop) → Prop} (h : t σ H fun a b H1 => RgOk a b ∧ ∀ q, H1 q = none → Q (.ref q) (upd H1 q (.lst (rgV a b)))) : tLstRg t σ H Q := h
theorem rd_rg1 {R : Int → Int → Hp → Prop} (h : ta σ H fun x H1 => ∃ n, x = V.int n ∧ R 0 n H1) : tRg1 ta σ H R := h
theorem rd_rg2 {R : Int → Int → Hp → Prop} (h : ta σ H fun x H1 => tb σ H1 fun y H2 => ∃ i j, x = V.int i ∧ y = V.int j ∧ R i j H2) : tRg2 ta tb σ H R := h
theorem rd_inX {R : Int → Prop} (h : R i) : ∃ n, V.int i = V.int n ∧ R n := ⟨i, rfl, h⟩
theorem rd_inX2 {R : Int → Int → Prop} (h : R i j) : ∃ n m, V.int i = V.int n ∧ V.int j = V.int m ∧ R n m := ⟨i, j, rfl, rfl, h⟩
theorem rgV_0 (n : Int) : rgV 0 n = ((List.range n.toNat).map fun (i : Nat) => (i : Int)).map V.int := by
  unfold rgV
  rw [List.map_map, Int.sub_zero]
  congr 1
  funext i
  show V.int (0 + (i : Int)) = V.int (i : Int)
  rw [Int.zero_add]
end

/-! ### dicts with int and text keys, slices, more -/
section
variable {K : PySem.W.Frag} {σ : L2.St} {H : Hp} {nx bk ct : L2.St → Hp → Prop} {rt : VK} {t : TS} {te ta tb tc : TE} {tt : TT} {ar : TA} {Q : VK} {QB : Bool → Hp → Prop} {v x y z : V} {i j : Int}
theorem rd_din (h : ta σ H fun y H1 => tb σ H1 fun x H2 => ∃ a o, x = V.ref a ∧ DGet H2 a y o ∧ Q (.bl o.isSome) H2) : tDIn ta tb σ H Q := h
theorem rd_dnotin (h : ta σ H fun y H1 => tb σ H1 fun x H2 => ∃ a o, x = V.ref a ∧ DGet H2 a y o ∧ Q (.bl (!o.isSome)) H2) : tDNotIn ta tb σ H Q := h
theorem rd_dget (h : ta σ H fun x H1 => tb σ H1 fun y H2 => ∃ a v, x = V.ref a ∧ DGet H2 a y (some v) ∧ Q v H2) : tDGet ta tb σ H Q := h
theorem rd_dget1 (h : ta σ H fun x H1 => ∃ a, x = V.ref a ∧ IsD H1 a ∧ tb σ H1 fun y H2 => ∃ o, DGet H2 a y o ∧ Q (o.getD .non) H2) : tDGet1 ta tb σ H Q := h
theorem rd_dinX {a : Addr} {o : Option V} {R : Option V → Prop} (d : DGet H a y o) (q : R o) : ∃ a' o', V.ref a = V.ref a' ∧ DGet H a' y o' ∧ R o' := ⟨a, o, rfl, d, q⟩
theorem rd_dgetX {a : Addr} {R : V → Prop} (d : DGet H a y (some v)) (q : R v) : ∃ a' v', V.ref a = V.ref a' ∧ DGet H a' y (some v') ∧ R v' := ⟨a, v, rfl, d, q⟩
theorem dg_i {a : Addr} {kvs : List (Key × V)} (e : H a = some (.dK kvs)) : DGet H a (.int i) (valV kvs (.inl i)) := DGet.k (k := .inl i) e
theorem dg_s {a : Addr} {kvs : List (Key × V)} {s : Str} (e : H a = some (.dK kvs)) : DGet H a (.str s) (valV kvs (.inr s)) := DGet.k (k := .inr s) e
theorem dg_iv {a : Addr} {kvs : List (Key × V)} (e : H a = some (.dK kvs)) (l : valV kvs (.inl i) = some v) : DGet H a (.int i) (some v) := l ▸ dg_i e
theorem dg_sv {a : Addr} {kvs : List (Key × V)} {s : Str} (e : H a = some (.dK kvs)) (l : valV kvs (.inr s) = some v) : DGet H a (.str s) (some v) := l ▸ dg_s e
theorem dp_i {a : Addr} {kvs : List (Key × V)} (e : H a = some (.dK kvs)) (l : kvs.length < sizeLine) : DPut H a (.int i) v (upd H a (.dK (putK kvs (.inl i) v))) := DPut.k (k := .inl i) e l
theorem dp_s {a : Addr} {kvs : List (Key × V)} {s : Str} (e : H a = some (.dK kvs)) (l : kvs.length < sizeLine) : DPut H a (.str s) v (upd H a (.dK (putK kvs (.inr s) v))) := DPut.k (k := .inr s) e l
theorem rd_disp {trs : List (TE × TE)} (h : ∀ p, H p = none → tPairs trs σ (upd H p (.dK [])) fun ps H2 => H2 p = some (.dK []) ∧ ∃ kvs : List (Key × V), ps = kvs.map (fun kv => (kV kv.1, kv.2)) ∧ kvs.length ≤ 15 ∧ Q (.ref p) (upd H2 p (.dK (mergeK [] kvs)))) : tDisp trs σ H Q := h
theorem rd_pnil {R : List (V × V) → Hp → Prop} (h : R [] H) : tPairs [] σ H R := h
theorem rd_pcons {trs : List (TE × TE)} {R : List (V × V) → Hp → Prop} (h : ta σ H fun x H1 => tb σ H1 fun y H2 => tPairs trs σ H2 fun ps H3 => R ((x, y) :: ps) H3) : tPairs ((ta, tb) :: trs) σ H R := h
theorem rd_sl {r : V → Option Int → Option Int → Hp → VK → Prop} {tl th : TO} (h : te σ H fun x H1 => tl σ H1 fun l H2 => th σ H2 fun u H3 => r x l u H3 Q) : tSl r te tl th σ H Q := h
theorem rd_part {R : Option Int → Hp → Prop} (h : te σ H fun x H1 => ∃ i, x = V.int i ∧ R (some i) H1) : tPart te σ H R := h
theorem rd_nopart {R : Option Int → Hp → Prop} (h : R none H) : tNoPart σ H R := h
theorem rd_slL {a : Addr} {xs : List V} {lo hi : Option Int} (h : SqL K H a xs) (q : ∀ p, H p = none → Q (.ref p) (upd H p (.lst (cutV xs lo hi)))) : rSlL K (.ref a) lo hi H Q := ⟨a, xs, rfl, h, q⟩
theorem cut_to {xs : List V} {k : Nat} : cutV xs none (some (k : Int)) = xs.take k := by
  unfold cutV
  rw [HT.sIx_none, HT.sIx_nat, List.drop_zero, Nat.sub_zero, List.take_eq_take_iff]
  omega
theorem cut_from {xs : List V} {k : Nat} : cutV xs (some (k : Int)) none = xs.drop k := by
  unfold cutV
  rw [HT.sIx_none, HT.sIx_nat]
  by_cases h : k ≤ xs.length
  · rw [Nat.min_eq_left h, List.take_of_length_le (by rw [List.length_drop]; exact Nat.le_refl _)]
  · rw [Nat.min_eq_right (by omega), Nat.sub_self, List.take_zero, List.drop_of_length_le (by omega)]
theorem cut_all {xs : List V} : cutV xs none none = xs := by
  unfold cutV
  rw [HT.sIx_none, HT.sIx_none, List.drop_zero, Nat.sub_zero, List.take_length]
theorem rd_popAt {a : Addr} {xs : List V} {k : Nat} (h : H a = some (.lst xs)) (b1 : -(2 ^ 63) ≤ i) (b2 : i < 2 ^ 63) (s : seqIndex? i xs.length = some k) (g : xs[k]? = some v) (q : Q v (upd H a (.lst (xs.eraseIdx k)))) : rPopAt (.ref a) [.int i] H Q := ⟨a, xs, i, k, v, rfl, rfl, h, b1, b2, s, g, q⟩
theorem rd_clear {a : Addr} {xs : List V} (h : H a = some (.lst xs)) (q : Q .non (upd H a (.lst []))) : rClear (.ref a) [] H Q := ⟨a, xs, rfl, rfl, h, q⟩
theorem rd_aug {n : Nat} {ti : TIp} (e : σ[n]? = some (some x)) (h : te σ H fun y H1 => ti x y H1 fun z H2 => nx (σ.set n (some z)) H2) : tAug n te ti ⟨nx, rt, bk, ct⟩ σ H := ⟨x, e, h⟩
theorem rd_ipI {f : Int → Int → Int} (h : Q (.int (f i j)) H) : ipI f (.int i) (.int j) H Q := ⟨i, j, rfl, rfl, h⟩
theorem rd_whileM (W : Nat → L2.St → Hp → Prop) (m : Nat) (h0 : W m σ H)
    (hs : ∀ m σ H, W m σ H → tt σ H fun b H1 => if b = true then ∃ N : L2.St → Hp → Prop, (∀ σ' H', N σ' H' → ∃ m', m' < m ∧ W m' σ' H') ∧ t ⟨N, rt, nx, N⟩ σ H1 else nx σ H1) : tWhile tt t ⟨nx, rt, bk, ct⟩ σ H := ⟨W, ⟨m, h0⟩, hs⟩
theorem inV_ints (a : Int) : ∀ ns : List Int, inV (.int a) (ns.map V.int) = decide (a ∈ ns)
  | [] => rfl
  | b :: r => by
    have ih := inV_ints a r
    unfold inV at ih ⊢
    rw [List.map_cons, List.any_cons, ih]
    show ((b == a) || decide (a ∈ r)) = decide (a ∈ b :: r)
    by_cases h : b = a
    · subst h
      simp
    · have h2 : (b == a) = false := beq_eq_false_iff_ne.mpr h
      rw [h2, Bool.false_or]
      simp [List.mem_cons, Ne.symm h]
theorem flat_ints : ∀ ns : List Int, (ns.map V.int).all flatV = true
  | [] => rfl
  | _ :: r => by
    rw [List.map_cons, List.all_cons, flat_ints r]
    rfl
theorem rd_inI {p : Addr} {ns : List Int} (h : SqL K H p (ns.map V.int)) (q : Q (.bl (decide (i ∈ ns))) H) : rIn K false (.int i) (.ref p) H Q := ⟨p, ns.map V.int, rfl, .inl h, rfl, flat_ints ns, by
  rw [inV_ints]
  exact q⟩
theorem rd_notInI {p : Addr} {ns : List Int} (h : SqL K H p (ns.map V.int)) (q : Q (.bl (!decide (i ∈ ns))) H) : rIn K true (.int i) (.ref p) H Q := ⟨p, ns.map V.int, rfl, .inl h, rfl, flat_ints ns, by
  rw [inV_ints]
  exact q⟩
def rLenD : List V → Hp → VK → Prop := fun xs H Q => ∃ a kvs, xs = [V.ref a] ∧ H a = some (.dK kvs) ∧ Q (.int kvs.length) H
theorem call_lenD' {X : Cx} : CallR X (.builtin "len") rLenD := call_lenD
theorem rd_lenD {a : Addr} {kvs : List (Key × V)} (h : H a = some (.dK kvs)) (q : Q (.int kvs.length) H) : rLenD [.ref a] H Q := ⟨a, kvs, rfl, h, q⟩
/-! enumerate -/
theorem rd_iEnum {R : It → Hp → Prop} (h : ar σ H fun vs H1 => ∃ a xs, vs = [V.ref a] ∧ SqL K H1 a xs ∧ R (Ite K a) H1) : iEnum K ar σ H R := h
theorem rd_iEnumX {p : Addr} {xs : List V} {R : Addr → Prop} (h : SqL K H p xs) (q : R p) : ∃ a xs, [V.ref p] = [V.ref a] ∧ SqL K H a xs ∧ R a := ⟨p, xs, rfl, h, q⟩
theorem forE_by {a : Addr} {g : TG} (xs : List V) (Pv : Nat → L2.St → Hp → Prop) (h0 : Pv 0 σ H) (hl : ∀ i σ H, i ≤ xs.length → Pv i σ H → SqL K H a xs)
    (hs : ∀ i x σ H T, xs[i]? = some x → Pv i σ H → H T = none → g (.ref T) σ (upd H T (.tup [.int (i : Nat), x])) fun σ2 H2 => t ⟨Pv (i + 1), rt, nx, Pv (i + 1)⟩ σ2 H2) (hd : ∀ σ H, Pv xs.length σ H → nx σ H) : ForG (Ite K a) g t ⟨nx, rt, bk, ct⟩ σ H := by
  refine ⟨fun i m σ H => m = xs.length - i ∧ i ≤ xs.length ∧ Pv i σ H, ⟨xs.length, by simp, Nat.zero_le _, h0⟩, ?_⟩
  rintro i m σ H ⟨rfl, hi, p⟩
  have q := hl i σ H hi p
  by_cases hlt : i < xs.length
  · refine .inr ⟨⟨xs, xs[i], q, by simp [hlt]⟩, Pv (i + 1), fun σ' H' p' => ⟨xs.length - (i + 1), by omega, rfl, hlt, p'⟩, fun x H' y => ?_⟩
    obtain ⟨T, z, rfl, nT, rfl, hz⟩ := y
    exact hs i z σ H T (hz xs q) p nT
  · have e : i = xs.length := by omega
    subst e
    exact .inl ⟨⟨xs, q, Nat.le_refl _⟩, hd σ H p⟩
/-! == of equal data, of int lists -/
theorem dp_ints : ∀ ns : List Int, DpAll K H (ns.map V.int) (ns.map PyData.int)
  | [] => .nil
  | x :: r => .cons (.int x) (dp_ints r)
theorem lay_ints : ∀ ns : List Int, PyData.canLayAll0 (ns.map PyData.int) = true
  | [] => by simp only [List.map_nil, PyData.canLayAll0]
  | x :: r => by simp only [List.map_cons, PyData.canLayAll0, PyData.canLay0, lay_ints r, Bool.and_self]
theorem depth_ints : ∀ ns : List Int, PyData.depthAll (ns.map PyData.int) ≤ 1
  | [] => by simp [PyData.depthAll]
  | x :: r => by
    have := depth_ints r
    simp only [List.map_cons, PyData.depthAll, PyData.depth]
    omega
theorem shaped_ints (ns : List Int) : SeqAt.shaped (.list (ns.map PyData.int)) = true :=
  Bool.and_eq_true_iff.mpr ⟨by simp only [PyData.canLay0, lay_ints], decide_eq_true (by
    have h := depth_ints ns
    simp only [PyData.depth]
    omega)⟩
theorem eqv_ints : ∀ ns ms : List Int, PyData.eqvAll (ns.map PyData.int) (ms.map PyData.int) = decide (ns = ms)
  | [], [] => by simp [PyData.eqvAll]
  | [], y :: m => by simp [PyData.eqvAll]
  | x :: r, [] => by simp [PyData.eqvAll]
  | x :: r, y :: m => by
    have ih := eqv_ints r m
    simp only [List.map_cons, PyData.eqvAll, PyData.eqv, ih]
    by_cases h : x = y
    · subst h
      simp
    · simp [h]
theorem rd_eqLI {p q : Addr} {ns ms : List Int} (h1 : SqL K H p (ns.map V.int)) (h2 : SqL K H q (ms.map V.int)) (k : Q (.bl (decide (ns = ms))) H) : rEqD K (.ref p) (.ref q) H Q :=
  ⟨.list (ns.map PyData.int), .list (ms.map PyData.int), .lst h1 (dp_ints ns), .lst h2 (dp_ints ms), shaped_ints ns, shaped_ints ms, by
    simp only [PyData.eqv, eqv_ints]
    exact k⟩
theorem rd_neLI {p q : Addr} {ns ms : List Int} (h1 : SqL K H p (ns.map V.int)) (h2 : SqL K H q (ms.map V.int)) (k : Q (.bl (!decide (ns = ms))) H) : rNeD K (.ref p) (.ref q) H Q :=
  ⟨.list (ns.map PyData.int), .list (ms.map PyData.int), .lst h1 (dp_ints ns), .lst h2 (dp_ints ms), shaped_ints ns, shaped_ints ms, by
    simp only [PyData.eqv, eqv_ints]
    exact k⟩
end

/-! ### the same rules with the written part named (within comprehensions) -/
section
variable {X : L2.Cx} {K : PySem.W.Frag}
theorem call_listOfK (h : X.K = K) : CallR X (.type "list") (rListOf K) := h ▸ call_listOf
theorem call_lenSK (h : X.K = K) : CallR X (.builtin "len") (rLenS K) := h ▸ call_lenS
theorem ix_listK (h : X.K = K) : IxR X (rIxL K) := h ▸ ix_list
theorem ix_tupK (h : X.K = K) : IxR X (rIxT K) := h ▸ ix_tup
theorem op_in_seqK (h : X.K = K) : OpR X (compareOp .In) (rIn K false) := h ▸ op_in_seq
theorem op_notIn_seqK (h : X.K = K) : OpR X (compareOp .NotIn) (rIn K true) := h ▸ op_notIn_seq
theorem call_isiK2 (h : X.K = K) : CallR X (.builtin "isinstance") (rIsi K) := h ▸ call_isi
theorem pe_fldK {e : Expr} {f : Str} {pos : Pos} {ta : TE} (h : X.K = K) (he : PE X e ta) (hb : attributeBase e f X.env (eval e X.env) = eval e X.env) : PE X (.Attribute e f pos) (tFld K ta f) := h ▸ pe_fld he hb
end
end RD

/-! own layer: sorted(xs, key=f) where f's calls keep the invariant (behind RD) -/
namespace RD
open PySem PySem.Spec PyProof.Rows L2 PySem.W
section
variable {X : Cx} {pins pf : List (Addr × Obj)} {σ : L2.St} {H : Hp} {s : Shared}
/-- what a key's call does -/
def KeyTurn (X : Cx) (A : Around) (σ : L2.St) (H : Hp) (pf : List (Addr × Obj)) (f : Value) (xs : List V) (key : V → Int) : Prop :=
  ∀ (pl : List (Addr × Obj)) (s1 : Shared) (H1 : Hp) (v : V) (u : Value), Inv X (pf ++ pl) σ H1 s1 → Kp [] H H1 → v ∈ xs → RelV v u →
    wpAny (model X.prog X.w) A (call f [u]) (fun z s2 => ∃ H2 t, Inv X (pf ++ pl) σ H2 s2 ∧ Kp [] H1 H2 ∧ z = .int (key v) t) (fun _ _ => False) s1
/-- what stands of an address of ours, whatever runs -/
def Own (X : Cx) (pn : List (Addr × Obj)) (b : Addr) : Prop :=
  b ≠ X.env.locals ∧ b ∉ X.fs ∧ (b ∈ X.ex ∨ X.s_0.heap.objs.size ≤ b) ∧ (∀ x c, X.env.cells.lookup x = some c → c ≠ b) ∧ ∀ p ∈ X.pn ++ pn, p.1 ≠ b
theorem Own.fresh {b : Addr} (I : Inv X pins σ H s) (hb : s.heap.objs.size ≤ b) : Own X pins b := by
  have q := I.fpOk (H' := H) hb (I.hok.fresh hb)
  exact ⟨q.2.1, q.2.2.1, q.2.2.2.1, q.2.2.2.2.1, q.2.2.2.2.2⟩
theorem Own.less {pn pm : List (Addr × Obj)} {b : Addr} (o : Own X pn b) (h : ∀ p, p ∈ pm → p ∈ pn) : Own X pm b :=
  ⟨o.1, o.2.1, o.2.2.1, o.2.2.2.1, fun p hp => o.2.2.2.2 p ((List.mem_append.mp hp).elim (fun z => List.mem_append_left _ z) fun z => List.mem_append_right _ (h p z))⟩
theorem inv_pin {b : Addr} {o : Obj} {pn : List (Addr × Obj)} (I : Inv X (pf ++ pn) σ H s) (w : Own X (pf ++ pn) b) (hn : H b = none) (e : s.heap.get? b = some o) (hc : ∀ v, o.data ≠ .cell v) : Inv X (pf ++ ((b, o) :: pn)) σ H s :=
  I.pins_of fun p hp => by
    rcases List.mem_append.mp hp with z | z
    · exact I.pin p (List.mem_append_right _ (List.mem_append_left _ z))
    · rcases List.mem_cons.mp z with z | z
      · rw [z]
        exact ⟨e, hn, w.1, w.2.1, hc⟩
      · exact I.pin p (List.mem_append_right _ (List.mem_append_right _ z))
theorem inv_unpin {q : Addr × Obj} {pn : List (Addr × Obj)} (I : Inv X (pf ++ (q :: pn)) σ H s) : Inv X (pf ++ pn) σ H s :=
  I.pins_of fun p hp => by
    rcases List.mem_append.mp hp with z | z
    · exact I.pin p (List.mem_append_right _ (List.mem_append_left _ z))
    · exact I.pin p (List.mem_append_right _ (List.mem_append_right _ (List.mem_cons_of_mem _ z)))
theorem inv_head {q : Addr × Obj} {pn : List (Addr × Obj)} (I : Inv X (pf ++ (q :: pn)) σ H s) : s.heap.get? q.1 = some q.2 ∧ H q.1 = none :=
  have z := I.pin q (List.mem_append_right _ (List.mem_append_right _ (.head _)))
  ⟨z.1, z.2.1⟩
/-- the object at b turns -/
theorem inv_turn {b : Addr} {pn : List (Addr × Obj)} {h' : Heap} {t' : Nat} (I : Inv X pn σ H s) (w : Own X pn b) (hn : H b = none) (k : ∀ c o, c ≠ b → s.heap.get? c = some o → h'.get? c = some o) : Inv X pn σ H { s with heap := h', toks := t' } :=
  I.turned k hn w.1 w.2.2.1 w.2.2.2.1 w.2.2.2.2
theorem ints_snoc {vs : List Value} {ns : List Int} {n : Int} {t : Tok} (h : IntsAre vs ns) : IntsAre (vs ++ [.int n t]) (ns ++ [n]) := by
  induction h with
  | nil => exact .cons n t .nil
  | cons m u _ ih => exact .cons m u ih
theorem each_ints {h : Heap} {vs : List Value} {ns : List Int} (e : IntsAre vs ns) : EachIs (fun v d => ∃ as, Reads h v d as) vs (ns.map PyData.int) := by
  induction e with
  | nil => exact .nil
  | cons n t _ ih => exact .cons ⟨[], .int n t⟩ ih
theorem each_vals {xs : List V} {us : List Value} (r : Vals xs us) : EachIs (fun u v => RelV v u) us xs := by
  induction r with
  | nil => exact .nil
  | cons a _ ih => exact .cons a ih
theorem vals_each {xs : List V} {us : List Value} (r : EachIs (fun u v => RelV v u) us xs) : Vals xs us := by
  induction r with
  | nil => exact .nil
  | cons a _ ih => exact .cons a ih
/-- a heap without the object at b -/
def gone (h : Heap) (b : Addr) : Heap := h.update b fun _ => { cls := .none, data := .freed }
theorem gone_at {h : Heap} {b : Addr} {o : Obj} (e : h.get? b = some o) : (gone h b).get? b = none := by
  cases q : (gone h b).get? b with
  | none => rfl
  | some u =>
    exfalso
    obtain ⟨e1, _⟩ := Heap.get?_some_iff.mp e
    obtain ⟨e2, e3⟩ := Heap.get?_some_iff.mp q
    have e4 : (gone h b).objs[b]? = some { cls := .none, data := .freed } := by
      unfold gone
      rw [Heap.objs_update_self, e1]
      rfl
    rw [e4] at e2
    cases e2
    cases e3
theorem gone_ne {h : Heap} {b c : Addr} (n : c ≠ b) : (gone h b).get? c = h.get? c := (Heap.SameBut.update h b _).2 c n
theorem key_end {A : Around} {key : V → Int} {xs : List V} {vs : List Value} {a kS : Addr} {kA : Array Value} {e e1 : Nat} {P : PySem.Fin → Shared → Prop} {E : Value → Shared → Prop} (I : Inv X (pf ++ ((kS, seqObj "list" kA e) :: (a, seqObj "list" #[] e1) :: pins)) σ H s)
    (wk : Own X (pf ++ ((a, seqObj "list" #[] e1) :: pins)) kS) (wa : Own X (pf ++ pins) a) (r : Vals xs vs) (hZ : vs.length ≤ sizeLine) (hu : A.units < cLine) (hk : IntsAre kA.toList (xs.map key))
    (h : ∀ s' out c, Inv X (pf ++ pins) σ H s' → s'.heap.get? a = some (seqObj "list" (List.toArray out) c) → Vals (xs.mergeSort fun p q => decide (key p ≤ key q)) out → P (.done (.ret .none)) s') :
    wpAny (model X.prog X.w) A (ksk_end a false vs.toArray e1 (.ref kS) kA) P E s := by
  have nk := inv_head I
  have na := inv_head (inv_unpin I)
  have hka : kS ≠ a := Ne.symm (wk.2.2.2.2 (a, seqObj "list" #[] e1) (List.mem_append_right _ (List.mem_append_right _ (.head _))))
  have hl : kA.size = vs.length := by
    have h1 := hk.length
    rw [Array.length_toList, List.length_map] at h1
    rw [h1]
    exact r.length
  have hE := each_ints (h := s.heap) hk
  have hkz : (xs.map key).map PyData.int = xs.map (fun v => PyData.int (key v)) := by rw [List.map_map]; rfl
  have hal : AllAlike (xs.map fun v => PyData.int (key v)) := AllAlike.of fun _ _ => by simp [alike]
  have hsk : Sortable (xs.map fun v => PyData.int (key v)) := Sortable.others fun _ => ⟨(fun z => by cases z), (fun _ z => by cases z)⟩
  rw [hkz] at hE
  refine keyH_end (κ := dataKind s.heap (xs.map fun v => PyData.int (key v))) (h₁ := gone s.heap kS) (fun b o hb q => ?_) (gone_at nk.1) nk.1 na.1 hka (SortsAt.data hE hal hsk fun d hd => ?_) hl hZ fun h' tk c kp hc => ?_
  · by_cases hbk : b = kS
    · rw [hbk, gone_at nk.1] at q
      cases q
    · rw [gone_ne hbk] at q
      exact q
  · obtain ⟨v, _, e⟩ := List.mem_map.mp hd
    rw [← e]
    simpa [PyData.depth] using hu
  · have I1 : Inv X (pf ++ ((a, seqObj "list" #[] e1) :: pins)) σ H { s with heap := gone s.heap kS, toks := s.toks } := inv_turn (inv_unpin I) wk nk.2 fun b o hb q => by
      rw [gone_ne hb]
      exact q
    have I2 : Inv X (pf ++ pins) σ H { s with heap := h', toks := tk } := inv_turn (s := { s with heap := gone s.heap kS, toks := s.toks }) (inv_unpin I1) wa na.2 fun b o hb q => kp b o hb q
    have ko : KeyedOut false (xs.map fun v => PyData.int (key v)) vs (sortVals (dataKind s.heap (xs.map fun v => PyData.int (key v))) false kA.toList vs) := ⟨s.heap, kA.toList, hal, rfl, hE⟩
    have eo := keyedOut_each (fun v => PyData.int (key v)) ko (each_vals r)
    rw [dataLe_int key] at eo
    exact h _ _ c I2 hc (vals_each eo)
/-- the keys' loop -/
theorem key_rest {A : Around} {f : Value} {key : V → Int} {xs : List V} {vs : List Value} {a kS : Addr} {e1 : Nat} {P : PySem.Fin → Shared → Prop} {E : Value → Shared → Prop} (T : KeyTurn X A σ H pf f xs key)
    (I : Inv X (pf ++ ((kS, seqObj "list" #[] 0) :: (a, seqObj "list" #[] e1) :: pins)) σ H s) (wk : Own X (pf ++ ((a, seqObj "list" #[] e1) :: pins)) kS) (wa : Own X (pf ++ pins) a) (r : Vals xs vs) (hZ : vs.length ≤ sizeLine) (hu : A.units < cLine)
    (h : ∀ H' s' out c, Inv X (pf ++ pins) σ H' s' → Kp [] H H' → H' a = none → s'.heap.get? a = some (seqObj "list" (List.toArray out) c) → Vals (xs.mergeSort fun p q => decide (key p ≤ key q)) out → P (.done (.ret .none)) s') :
    wpAny (model X.prog X.w) A (ksk_rest a f false vs.toArray e1 (.ref kS)) P E s := by
  unfold ksk_rest
  refine wpAny_bind (wpAny_rule ?_)
  rw [List.forIn_toArray]
  refine wpAny_bind (ksk_fold (fun i s' => ∃ H1 kA e, Inv X (pf ++ ((kS, seqObj "list" kA e) :: (a, seqObj "list" #[] e1) :: pins)) σ H1 s' ∧ Kp [] H H1 ∧ IntsAre kA.toList ((xs.take i).map key)) vs 0 s ⟨H, #[], 0, I, Kp.refl, .nil⟩ ?step ?done)
  case step =>
    rintro j u s' hx ⟨H1, kA, e, I1, k1, hk⟩
    rw [Nat.zero_add] at hk ⊢
    obtain ⟨hj, _⟩ := List.getElem?_eq_some_iff.mp hx
    obtain ⟨v, hv⟩ : ∃ v, xs[j]? = some v := ⟨_, List.getElem?_eq_getElem (by rw [r.length]; exact hj)⟩
    obtain ⟨u', hu', rv⟩ := Vals.get r hv
    rw [hx] at hu'
    cases hu'
    have hz : kA.size ≤ vs.length := by
      have h1 := hk.length
      rw [Array.length_toList, List.length_map, List.length_take] at h1
      omega
    refine wpAny_bind (wpAny_attempt (wpAny_mono (T _ s' H1 v u I1 k1 (List.mem_of_getElem? hv) rv) (fun z s2 he => ?_) fun _ _ hF => hF.elim))
    obtain ⟨H2, t, I2, k2, rfl⟩ := he
    have nk := inv_head I2
    obtain ⟨c2, hc2⟩ : ∃ c2, (s2.heap.update kS (Obj.mapSeq (·.push (.int (key v) t)))).get? kS = some (seqObj "list" (kA.push (.int (key v) t)) c2) := ⟨_, get?_update_seq nk.1 (·.push (.int (key v) t))⟩
    refine wpAny_bind (listUpdate_at nk.1 rfl ?_ (Nat.le_trans hz hZ) (Nat.le_trans (Nat.le_of_eq (Array.size_push ..)) (Nat.succ_le_succ (Nat.le_trans hz hZ))))
    have I3 : Inv X (pf ++ ((a, seqObj "list" #[] e1) :: pins)) σ H2 { s2 with heap := s2.heap.update kS (Obj.mapSeq (·.push (.int (key v) t))), toks := s2.toks } :=
      inv_turn (inv_unpin I2) wk nk.2 fun b o hb q => ((Heap.SameBut.update s2.heap kS _).2 b hb).trans q
    refine wpAny_pure ⟨rfl, H2, kA.push (.int (key v) t), c2, inv_pin I3 wk nk.2 hc2 (fun _ z => by cases z), k1.trans k2, ?_⟩
    rw [Array.toList_push, List.take_add_one, hv, List.map_append]
    exact ints_snoc hk
  case done =>
    rintro s' ⟨H1, kA, e, I1, k1, hk⟩
    rw [Nat.zero_add, ← r.length, List.take_length] at hk
    refine wpAny_bind (listItems_at (inv_head I1).1 rfl ?_)
    exact key_end (key := key) I1 wk wa r hZ hu hk fun s2 out c I2 hc ho => h H1 s2 out c I2 k1 (inv_head (inv_unpin I1)).2 hc ho
/-- xs.sort(key=f) of a list that nobody knows -/
theorem key_tree {A : Around} {f : Value} {key : V → Int} {xs : List V} {vs : List Value} {a : Addr} {n : Nat} {P : PySem.Fin → Shared → Prop} {E : Value → Shared → Prop} (T : KeyTurn X A σ H pf f xs key)
    (I : Inv X (pf ++ pins) σ H s) (wa : Own X (pf ++ pins) a) (na : H a = none) (ho : s.heap.get? a = some (seqObj "list" vs.toArray n)) (r : Vals xs vs) (hZ : vs.length ≤ sizeLine) (hu : A.units < cLine)
    (h : ∀ H' s' out c, Inv X (pf ++ pins) σ H' s' → Kp [] H H' → H' a = none → s'.heap.get? a = some (seqObj "list" (List.toArray out) c) → Vals (xs.mergeSort fun p q => decide (key p ≤ key q)) out → P (.done (.ret .none)) s') :
    wpAny (model X.prog X.w) A (ksk_tree a f false) P E s := by
  obtain ⟨e1, ho1⟩ : ∃ e1, (s.heap.update a (Obj.mapSeq fun _ => (#[] : Array Value))).get? a = some (seqObj "list" #[] e1) := ⟨_, get?_update_seq ho fun _ => #[]⟩
  have I1 : Inv X (pf ++ pins) σ H { s with heap := s.heap.update a (Obj.mapSeq fun _ => (#[] : Array Value)), toks := s.toks } := inv_turn I wa na fun b o hb q => ((Heap.SameBut.update s.heap a _).2 b hb).trans q
  have I2 := inv_pin I1 wa na ho1 (fun _ z => by cases z)
  have I3 : Inv X (pf ++ ((a, seqObj "list" #[] e1) :: pins)) σ H { s with heap := (s.heap.update a (Obj.mapSeq fun _ => (#[] : Array Value))).push (seqObj "tuple" vs.toArray 0), toks := s.toks } := I2.kept fun b o q => Heap.get?_push_of_some _ q
  have wk := Own.fresh I3 (Nat.le_refl _)
  have nk := I3.hok.fresh (Nat.le_refl _)
  have I4 : Inv X (pf ++ ((a, seqObj "list" #[] e1) :: pins)) σ H { s with heap := ((s.heap.update a (Obj.mapSeq fun _ => (#[] : Array Value))).push (seqObj "tuple" vs.toArray 0)).push (seqObj "list" #[] 0), toks := s.toks } := I3.kept fun b o q => Heap.get?_push_of_some _ q
  unfold ksk_tree
  refine wpAny_bind (listItems_at ho rfl ?_)
  refine wpAny_bind (listUpdate_at ho rfl ?_ (by rw [List.size_toArray]; exact hZ) (Nat.zero_le _))
  refine wpAny_bind (seqEpoch_at ho1 rfl ?_)
  refine wpAny_bind (wpAny_newTuple ?_ (by show vs.length ≤ _; exact hZ))
  refine wpAny_bind (wpAny_newList ?_ (Nat.zero_le _))
  refine wpAny_holding ?_
  exact key_rest T (inv_pin I4 wk nk (Heap.get?_push_size _ rfl) (fun _ z => by cases z)) wk wa r hZ hu h
/-- an object of ours becomes known -/
theorem inv_track {a : Addr} {o : HO} {pn : List (Addr × Obj)} (I : Inv X pn σ H s) (w : Own X pn a) (hn : H a = none) (ok : ObjOk X.prog X.w (upd H a o) s.heap a o) : Inv X pn σ (upd H a o) s := by
  have ne : ∀ b u, H b = some u → b ≠ a := fun b u e z => by
    rw [z, hn] at e
    cases e
  have up : ∀ b u, H b = some u → upd H a o b = some u := fun b u e => by rw [upd_ne (ne b u e)]; exact e
  exact I.step (h' := s.heap) (g' := s.gens) (d' := s.drawn) (t' := s.toks) (ch := [a]) (fun b hb => by
      rw [List.mem_singleton.mp hb]
      exact ⟨w.2.2.1, w.1, w.2.2.2.1, w.2.2.2.2⟩)
    (fun b u _ _ _ e _ => e) (fun b u _ _ _ e _ => ⟨u.slots, e⟩) (fun b u hb _ n => by
      rw [upd_ne (fun z => hb (List.mem_singleton.mpr z))]
      exact n)
    (fun b u _ e => ⟨u, e⟩) (fun b xs e => up b _ e) (fun b u v e => up b _ e) (fun b ps e => ⟨#[], by rw [up b _ e]; simp⟩) (fun m hm => hm)
    (fun b u e => by
      by_cases hb : b = a
      · rw [hb, upd_same] at e
        cases e
        rw [hb]
        exact ok
      · rw [upd_ne hb] at e
        exact (I.hok b u e).stay (fun c v _ q => q) (fun c q => up c _ q) fun c xs q => up c _ q) I.bare
/-- sorted(xs, key=f) -/
theorem sorted_key {f : Addr} {key : V → Int} {xs : List V} {l : Addr} {Q : VK} (T : KeyTurn X X.A.in1.in1 σ H pf (.ref f) xs key) (I : Inv X (pf ++ pins) σ H s) (hs : SqL X.K H l xs) (hu : X.A.units + 2 < cLine)
    (h : ∀ H' p, Kp [] H H' → H' p = none → Q (.ref p) (upd H' p (.lst (xs.mergeSort fun a b => decide (key a ≤ key b))))) :
    wpAny (model X.prog X.w) X.A (call (.builtin "sorted") [.ref l] [(Str.ofString "key", .ref f)]) (EP X (pf ++ pins) σ Q) X.xe s := by
  obtain ⟨its, rv, hl, hz⟩ := I.list hs
  have wa := Own.fresh I (b := s.heap.objs.size + 1) (Nat.le_succ _)
  have na : H (s.heap.objs.size + 1) = none := I.hok.fresh (Nat.le_succ _)
  refine sorted_of_sort hl.isList (by rw [← rv.length]; exact hz) (ksk_s1 _ _) (fun _ => ksk_l1 _ _) fun E' => ?_
  rw [ksk_t1]
  have I1 : Inv X (pf ++ pins) σ H { s with heap := copyHeap s.heap its, toks := s.toks } := I.kept fun b o q => copyHeap_old q
  refine key_tree (s := { s with heap := copyHeap s.heap its }) T I1 wa na (copyHeap_at s.heap its) rv (by rw [← rv.length]; exact hz) hu fun H' s' out c I2 k2 n2 hc ro => ⟨rfl, ?_⟩
  have hlen : (xs.mergeSort fun a b => decide (key a ≤ key b)).length ≤ sizeLine := by
    rw [List.length_mergeSort]
    exact hz
  exact ⟨.ref _, _, inv_track (o := .lst (xs.mergeSort fun a b => decide (key a ≤ key b))) I2 wa n2 ⟨hlen, out, c, ro, hc⟩, rfl, h H' _ k2 n2⟩
end
/-! ### a lambda with one parameter -/
structure Lam1 (sc scope : Scope) (p : Str) : Prop where
  kind : scope.kind = .function
  co : scope.isCoroutine = false
  gen : scope.isGenerator = false
  own : ∀ y ∈ scope.names, y.2 ≠ .cell
  par : scope.names.lookup p = some .local
  loc : ∀ {y}, y ≠ p → scope.names.lookup y ≠ some .local
  free : ∀ y ∈ scope.names, y.2 = .free → sc.names.lookup y.1 = some .cell ∨ sc.names.lookup y.1 = some .free
def lam1B (sc scope : Scope) (p : Str) : Bool :=
  decide (scope.kind = .function) && !scope.isCoroutine && !scope.isGenerator && decide (scope.names.lookup p = some .local) && scope.names.all fun y => !decide (y.2 = .cell) && (!decide (y.2 = .local) || decide (y.1 = p)) && (!decide (y.2 = .free) || decide (sc.names.lookup y.1 = some .cell) || decide (sc.names.lookup y.1 = some .free))
theorem lam1_by {sc scope : Scope} {p : Str} (h : lam1B sc scope p = true) : Lam1 sc scope p := by
  unfold lam1B at h
  simp only [Bool.and_eq_true, Bool.or_eq_true, Bool.not_eq_true', decide_eq_true_eq, decide_eq_false_iff_not, List.all_eq_true] at h
  obtain ⟨⟨⟨⟨h1, h2⟩, h3⟩, h5⟩, h4⟩ := h
  refine ⟨h1, h2, h3, fun y hy => (h4 y hy).1.1, h5, fun {y} n e => ?_, fun y hy e => ?_⟩
  · rcases (h4 _ (PySem.mem_of_lookup e)).1.2 with z | z
    · exact z rfl
    · exact n z
  rcases (h4 y hy).2 with (z | z) | z
  · exact absurd e z
  · exact .inl z
  · exact .inr z
theorem Lam1.has {X : Cx} {scope : Scope} {p : Str} (L : Lam1 X.env.scope scope p) (ok : X.Ok) : ∀ y ∈ scope.names, y.2 = .free → ∃ c, X.env.cells.lookup y.1 = some c := fun y hy e => by
  rcases L.free y hy e with k | k
  · exact ok.has _ (.inl k)
  · exact ok.has _ (.inr k)
/-- the context of the lambda's body -/
def lam1Cx (X : Cx) (A : Around) (s : Shared) (H : Hp) (N : List Str) (scope : Scope) (f c' : Addr) : Cx where
  prog := X.prog
  w := X.w
  K := X.K
  mg := X.mg
  base := X.base
  A := A.deeper (LamX.lamEnv X scope s.heap.objs.size f c')
  N := N
  s_0 := s
  H_0 := H
  env := LamX.lamEnv X scope s.heap.objs.size f c'
  outer := X.stack
  stack := LamX.lamEnv X scope s.heap.objs.size f c' :: X.stack
  ex := []
  fn := fun _ => false
  calm := true
  pn := []
  xe := fun _ _ => False
section
variable {X : Cx} {pins : List (Addr × Obj)} {σ σ' : L2.St} {H : Hp} {s : Shared}
/-- each name of the body that has a value: the parameter, or a name of the maker -/
def Caps (X : Cx) (σ : L2.St) (N : List Str) (σ' : L2.St) (p : Str) (v : V) : Prop :=
  σ'.length = N.length ∧ ∀ (i : Nat) (y : Str) (x : V), N[i]? = some y → σ'[i]? = some (some x) → (y = p ∧ x = v) ∨ (y ≠ p ∧ ∃ j : Nat, X.N[j]? = some y ∧ σ[j]? = some (some x))
theorem lam1_start {A : Around} {N : List Str} {scope : Scope} {p : Str} {v : V} {u : Value} {f c' : Addr} {h₁ : Heap} {tk : Nat} (I : Inv X pins σ H s) (L : Lam1 X.env.scope scope p) (hfr : A.frames = some X.stack) (hd : A.handled = none) (C : Caps X σ N σ' p v) (r : RelV v u)
    (hns : h₁.Ns s.heap.objs.size fun y => [(p, u)].reverse.lookup y) (kp : ∀ b o, s.heap.get? b = some o → h₁.get? b = some o) :
    Inv (lam1Cx X A s H N scope f c') [] σ' H { s with heap := h₁, toks := tk } := by
  have e0 := I.env0
  have hfree := L.has I.ok
  have cm : ∀ {y c}, (cloFrom X.env.cells scope.names []).lookup y = some c → X.env.cells.lookup y = some c := fun {y c} e => by
    rcases cloFrom_mem (PySem.mem_of_lookup e) with hm | ⟨h1, h2⟩
    · cases hm
    · obtain ⟨c1, hc⟩ := hfree _ h1 rfl
      have hc : X.env.cells.lookup y = some c1 := hc
      have e2 : c = c1 := by rw [h2, hc] <;> rfl
      rw [e2]
      exact hc
  have look : ∀ {y}, scope.names.lookup y = some .free → ∃ c, (cloFrom X.env.cells scope.names []).lookup y = some c := fun {y} hl =>
    mem_lookup (cloFrom_has (cells := X.env.cells) (acc := []) (PySem.mem_of_lookup hl))
  have cellK : ∀ {c : Addr} {z : Option Value}, s.heap.IsCell c z → h₁.IsCell c z := fun {c z} ⟨o, ho, hd⟩ => ⟨o, kp _ _ ho, hd⟩
  have noA : ∀ b : Addr, b ∉ (lam1Cx X A s H N scope f c').ex := fun b z => by cases z
  constructor
  case ok =>
    constructor
    case mod => exact e0.mod
    case kind => exact L.kind
    case glob => exact rfl
    case blt => exact rfl
    case above => exact Nat.le_refl _
    case inj => exact fun y z c e1 e2 => I.ok.inj y z c (cm e1) (cm e2)
    case has =>
      intro y hy
      have hy : scope.names.lookup y = some .cell ∨ scope.names.lookup y = some .free := hy
      rcases hy with hy | hy
      · exact absurd rfl (L.own _ (PySem.mem_of_lookup hy))
      · exact look hy
    case cab =>
      intro y c z _
      have z : false = true := z
      cases z
    case hd => exact fun _ => hd
    case frames => exact Around.frames_deeper hfr
    case stk => exact .inr ⟨rfl, rfl⟩
    case exf => exact fun b z => absurd z (noA b)
    case bs => exact e0.bs
    case bsz => exact e0.bsz
    case noex => exact fun b _ _ => noA b
    case exfs => exact fun b z => absurd z (noA b)
    case funs => exact e0.funs
    case frf => exact e0.frf
  case os => exact rfl
  case bare => exact e0.bare
  case base => exact Un.kept kp
  case loc =>
    refine ⟨_, hns, fun i y x e1 e2 e3 => ?_⟩
    rcases C.2 i y x e1 e2 with ⟨ey, ex⟩ | ⟨ny, j, j1, j2⟩
    · rw [ey, ex]
      exact ⟨u, r, .inl ⟨L.par, by simp⟩⟩
    · have e3 : Vis scope y := e3
      rcases e3 with k | k | k
      · exact absurd k (L.loc ny)
      · exact absurd rfl (L.own _ (PySem.mem_of_lookup k))
      · obtain ⟨m, hn, hl⟩ := I.loc
        have hvis : Vis X.env.scope y := (L.free _ (PySem.mem_of_lookup k) rfl).elim (fun k => .inr (.inl k)) (fun k => .inr (.inr k))
        obtain ⟨w', r', q⟩ := hl j y x j1 j2 hvis
        obtain ⟨c2, h2⟩ := look k
        refine ⟨w', r', .inr ⟨.inr k, c2, h2, ?_⟩⟩
        have c1 := cm h2
        rcases q with ⟨k', _⟩ | ⟨_, c3, e', z⟩
        · have k' : X.env.scope.names.lookup y = some .local := k'
          rcases L.free _ (PySem.mem_of_lookup k) rfl with k2 | k2 <;> rw [show X.env.scope.names.lookup y = _ from k2] at k' <;> cases k'
        · rw [c1] at e'
          cases e'
          exact cellK z
  case cell =>
    intro y c e
    obtain ⟨w', z⟩ := I.cell y c (cm e)
    exact ⟨w', cellK z⟩
  case free => exact e0.hok.fresh (Nat.le_refl _)
  case freeC => exact fun y c e => I.freeC y c (cm e)
  case pin => exact fun q hq => absurd (show q ∈ ([] : List (Addr × Obj)) ++ [] from hq) (by simp)
  case hok => exact e0.hok.kept kp
  case len => exact C.1
/-- the lambda as a key -/
theorem lam1_turn {A : Around} {k : Nat} {N : List Str} {scope : Scope} {p : Str} {f c' : Addr} {params : Arguments} {body : Expr} {pm ctv : Value} {xs : List V} {key : V → Int} {τ : V → L2.St} (L : Lam1 X.env.scope scope p) (hc : H c' = some (LamX.CodeO c' (X.env.qual ++ "<lambda>")))
    (hA : A.frames = some X.stack) (hr : Room (k + 1) A) (hbind : ∀ u, bindArgs (PySem.W.kla_fn "<lambda>" (X.env.qual ++ "<lambda>") params body scope (cloFrom X.env.cells scope.names []) pm (.ref c') ctv) ⟨[u], []⟩ = pure [(p, u)])
    (hC : ∀ v, v ∈ xs → Caps X σ N (τ v) p v)
    (hbody : ∀ (s : Shared) (H1 : Hp) (v : V), v ∈ xs → Kp [] H H1 → Room k (A.deeper (LamX.lamEnv X scope s.heap.objs.size f c')) → ∃ tb, PE (lam1Cx X A s H1 N scope f c') body tb ∧ tb (τ v) H1 fun x H2 => x = .int (key v) ∧ Kp [] H1 H2) :
    KeyTurn X A σ H [(f, PySem.W.kla_obj "<lambda>" (X.env.qual ++ "<lambda>") params body scope (cloFrom X.env.cells scope.names []) pm c' ctv)] (.ref f) xs key := by
  intro pl s1 H1 v u I1 k1 hv r
  have hf := (I1.pin _ (List.mem_append_right _ (List.mem_append_left _ (.head _)))).1
  obtain ⟨⟨oc, vs, t, hoc, hdc, hvc⟩, _, _⟩ := I1.hok c' _ (k1.g0 hc)
  have rc : codeAny (model X.prog X.w) A (.call (.ref f) ⟨[u], []⟩) (fun r s' => ∃ z, r = .ok (.ret z) ∧ CE X.stack X.prog X.w H1 s1 (fun x H2 => x = .int (key v) ∧ Kp [] H1 H2) z s') s1 := by
    refine PySem.W.kla_callFunE hr.depth hf rfl L.co L.gen rfl ⟨c', oc, vs, t, rfl, hoc, hdc, hvc⟩ ?_
    rw [hbind]
    refine wpAny_pure (wpAny_newFunctionEnv (fun y hy => L.own y hy) (fun y hy => ?_) (fun h₁ hns hsb => ⟨I1.nolimit.fresh _ hsb, ?_⟩) L.kind)
    · rw [List.mem_singleton.mp hy]
      exact L.par
    show codeAny _ _ (.expr body (LamX.lamEnv X scope s1.heap.objs.size f c')) _ _
    have kp : ∀ b o, s1.heap.get? b = some o → h₁.get? b = some o := fun b o e => hsb.extBut b o (Nat.ne_of_lt (Heap.lt_size e)) (Heap.get?_push_of_some _ e)
    have J : Inv (lam1Cx X A s1 H1 N scope f c') [] (τ v) H1 { s1 with heap := h₁, toks := s1.toks + [(p, u)].length } := lam1_start I1 L hA hr.hd (hC v hv) r hns kp
    obtain ⟨tb, hp, ht⟩ := hbody s1 H1 v hv k1 (hr.deeper _)
    refine PySem.W.kla_codeExpr (wpAny_mono (hp.run [] _ _ _ _ J ht) (fun z s' hq => ?_) fun e s' hq => (show False from hq).elim)
    obtain ⟨w', H', J', rv, q⟩ := hq
    exact ⟨z, rfl, w', H', J'.os, J'.bare, J'.base, J'.hok, rv, q⟩
  refine wpAny_call (codeAny_mono rc fun r s' hq => ?_)
  obtain ⟨z, rfl, ce⟩ := hq
  obtain ⟨x, H2, I2, rx, ex, k2⟩ := I1.after ce
  rw [ex] at rx
  obtain ⟨t', e⟩ := rx
  exact ⟨H2, t', I2, k2, e⟩
/-- a made function is pinned -/
theorem fn_pin {f : Addr} {o : Obj} {fd : FuncData} (I : Inv X pins σ H s) (hf : s.heap.get? f = some o) (hd : o.data = .func fd) (hn : H f = none) (hfr : f ∉ frs X.stack) : Inv X ([(f, o)] ++ pins) σ H s :=
  I.pins_of fun p hp => by
    rcases List.mem_append.mp hp with z | z
    · rw [List.mem_singleton.mp z]
      refine ⟨hf, hn, fun e => ?_, fun e => ?_, fun v e => ?_⟩
      · obtain ⟨m, ⟨ol, es, ep, ho, hdl, _⟩, _⟩ := I.loc
        have e : f = X.env.locals := e
        rw [← e, hf] at ho
        cases ho
        rw [hd] at hdl
        cases hdl
      · rcases I.ok.stk with k | ⟨k, _⟩
        · exact hfr (by rw [k]; exact e)
        · refine hfr ?_
          rw [k]
          unfold frs
          rw [List.filterMap_cons]
          have e : f ∈ frs X.outer := e
          unfold frs at e
          split
          · exact e
          · exact List.mem_cons_of_mem _ e
      · have e : o.data = .cell v := e
        rw [hd] at e
        cases e
    · exact I.pin p (List.mem_append_right _ z)
theorem ep_less {q : Addr × Obj} {Q : VK} {u : Value} {s' : Shared} (h : EP X ([q] ++ pins) σ Q u s') : EP X pins σ Q u s' := by
  obtain ⟨v, H', I, r, h⟩ := h
  exact ⟨v, H', I.pins_of fun p hp => I.pin p (List.mem_append_right _ (List.mem_append_right _ hp)), r, h⟩
/-- the names of the body, told by the maker's -/
def CapsN (N0 : List Str) (σ : L2.St) (N : List Str) (σ' : L2.St) (p : Str) (v : V) : Prop :=
  σ'.length = N.length ∧ ∀ (i : Nat) (y : Str) (x : V), N[i]? = some y → σ'[i]? = some (some x) → (y = p ∧ x = v) ∨ (y ≠ p ∧ ∃ j : Nat, N0[j]? = some y ∧ σ[j]? = some (some x))
theorem sq_ext {K : PySem.W.Frag} {H H' : Hp} {l : Addr} {xs : List V} (e : LamX.ExtN H H') (h : SqL K H l xs) : SqL K H' l xs := by
  rcases h with (h | ⟨o, h⟩) | h
  · exact .inl (.inl (e _ _ h fun ps z => by cases z))
  · exact .inl (.inr ⟨o, e _ _ h fun ps z => by cases z⟩)
  · exact .inr h
/-- sorted(e, key=lambda p: body) -/
def tSortKey (K : PySem.W.Frag) (T : List (Addr × Str)) (N0 N : List Str) (p : Str) (t : TA) (tb : TE) : TE := fun σ H Q => t σ H fun vs H1 => ∃ (l : Addr) (xs : List V) (key : V → Int) (τ : V → L2.St), vs = [.ref l] ∧ SqL K H1 l xs ∧ LamX.Tabs T H1 ∧
  (∀ v, v ∈ xs → CapsN N0 σ N (τ v) p v) ∧ ∀ H2, LamX.ExtN H1 H2 → LamX.Tabs T H2 → (∀ (H3 : Hp) (v : V), v ∈ xs → Kp [] H2 H3 → tb (τ v) H3 fun x H4 => x = .int (key v) ∧ Kp [] H3 H4) ∧
    ∀ (H3 : Hp) (q : Addr), Kp [] H2 H3 → H3 q = none → Q (.ref q) (upd H3 q (.lst (xs.mergeSort fun a b => decide (key a ≤ key b))))
theorem pe_sortKey {T : List (Addr × Str)} {N : List Str} {k : Nat} {c P : Addr} {scope : Scope} {p : Str} {params : Arguments} {e body : Expr} {t : TA} {tb : TE} {p1 kpos lpos pos : Pos} (hg : Gl X "sorted") (hm : X.mg "sorted" = none) (ha : PA X [e] t)
    (TB : LamX.TabB X.base X.mg c P) (hcode : X.env.code = .ref c) (hmT : (P, X.env.qual ++ "<lambda>") ∈ T) (huT : ∀ p ∈ T, p.1 = P → p.2 = X.env.qual ++ "<lambda>") (hr : Room (k + 3) X.A) (L : Lam1 X.env.scope scope p) (hdef : defaultsOf params X.env = ([], []))
    (hbind : ∀ (q : Str) (cl : List (Str × Addr)) (pm cv ctv u : Value), bindArgs (PySem.W.kla_fn "<lambda>" q params body scope cl pm cv ctv) ⟨[u], []⟩ = pure [(p, u)])
    (hbody : ∀ (s : Shared) (H : Hp) (f c' : Addr), Room k (X.A.in1.in1.deeper (LamX.lamEnv X scope s.heap.objs.size f c')) → PE (lam1Cx X X.A.in1.in1 s H N scope f c') body tb)
    (he : backTo pos (starEach [e] X.env) = (false, eval e X.env) :: backTo pos (starEach [] X.env) := by rfl) (hpl : (backTo pos (starEach [e] X.env)).any (·.1) = false := by rfl) :
    PE X (.Call (.Name "sorted" p1) [e] [⟨some "key", .Lambda params body scope lpos, kpos⟩] pos) (tSortKey X.K T X.N N p t tb) := by
  refine ⟨fun pins s σ H Q I h => ?_⟩
  refine wpAny_Call_Name_kw (ld_blt I hg hm (show bootBuiltins "sorted" = some (.builtin "sorted") by rfl) ?_ (by decide) (by decide))
  refine PyProof.Rows.callWith_kw (thn (ha.run pos pins s σ H _ I h) fun us s1 ⟨vs, H1, I1, r1, q1⟩ => ?_) he hpl rfl rfl
  obtain ⟨l, xs, key, τ, rfl, hs, hT, hC, q⟩ := q1
  obtain rfl := Vals.ref1 r1
  show wpAny _ _ (evalAll ((do let v ← eval (.Lambda params body scope lpos) X.env; standAt pos; pure v) :: [])) _ _ s1
  refine wpAny_evalAll_cons (wpAny_bind (LamX.lam_make2 I1 TB hcode hmT huT hT hdef (L.has I1.ok) fun f c' pm ctv H2 s2 I2 eN T2 hf hfn hfr hco => wpAny_bind (wpAny_standAt (wpAny_pure (wpAny_evalAll_nil ?_)))))
  obtain ⟨hb, hq⟩ := q H2 eN T2
  show wpAny _ _ (call (.builtin "sorted") [.ref l] [(Str.ofString "key", .ref f)]) _ _ s2
  refine wpAny_mono (sorted_key (lam1_turn L hco I2.ok.frames hr.in1.in1 (fun u => hbind _ _ _ _ _ u) hC fun s H3 v hv k3 hr3 => ⟨tb, hbody s H3 f c' hr3, hb H3 v hv k3⟩) (fn_pin I2 hf rfl hfn hfr) (sq_ext eN hs) (by have := hr.units; omega) hq) (fun u s' h => ep_less h) fun _ _ h => h
end
end RD
namespace RD
open PySem PySem.Spec PyProof.Rows L2 PySem.W
section
variable {X : Cx} {pins pf : List (Addr × Obj)} {σ : L2.St} {H : Hp} {s : Shared}
theorem Own.cons {pn : List (Addr × Obj)} {q : Addr × Obj} {b : Addr} (w : Own X (pf ++ pn) b) (n : q.1 ≠ b) : Own X (pf ++ (q :: pn)) b :=
  ⟨w.1, w.2.1, w.2.2.1, w.2.2.2.1, fun p hp => by
    rcases List.mem_append.mp hp with z | z
    · exact w.2.2.2.2 p (List.mem_append_left _ z)
    · rcases List.mem_append.mp z with z | z
      · exact w.2.2.2.2 p (List.mem_append_right _ (List.mem_append_left _ z))
      · rcases List.mem_cons.mp z with z | z
        · rw [z]
          exact n
        · exact w.2.2.2.2 p (List.mem_append_right _ (List.mem_append_right _ z))⟩
/-- the first of the least -/
def Least (xs : List V) (key : V → Int) (i : Nat) (b : V) : Prop := xs[i]? = some b ∧ ∀ (j : Nat) (z : V), xs[j]? = some z → key b ≤ key z ∧ (j < i → key b < key z)
theorem min_loop {A : Around} {f : Addr} {key : V → Int} {xs : List V} {l Ia S : Addr} {kw : List (Str × Value)} {R : Result → Shared → Prop} (hh : A.handled = none) (T : KeyTurn X A.in1 σ H pf (.ref f) xs key) (hs : SqL X.K H l xs) (hlI : l ≠ Ia) (hSI : S ≠ Ia)
    (wS : Own X (pf ++ pins) S) (wI : Own X (pf ++ pins) Ia)
    (hR : ∀ H2 s2 i b vb, Inv X (pf ++ pins) σ H2 s2 → Kp [] H H2 → Least xs key i b → RelV b vb → R (.ok (.ret vb)) s2) :
    ∀ (r j i : Nat) (s1 : Shared) (H1 : Hp) (b : V) (vb : Value) (tb : Tok) (c : Nat) (oI : Obj), xs.length - (j + 1) = r → j + 1 ≤ xs.length → Inv X (pf ++ ((S, seqObj "list" #[vb, .int (key b) tb] c) :: (Ia, oI) :: pins)) σ H1 s1 → Kp [] H H1 → s1.heap.IsListIter Ia l (j + 1) →
      xs[i]? = some b → RelV b vb → i ≤ j → (∀ (j' : Nat) (z : V), j' ≤ j → xs[j']? = some z → key b ≤ key z ∧ (j' < i → key b < key z)) →
      codeAny (model X.prog X.w) A (.builtin "min.loop" ⟨[.ref Ia, .ref f, .ref S], kw⟩) R s1 := by
  have hname : (toString "min" ++ toString ".loop" : String) = "min.loop" := by decide
  intro r
  induction r with
  | zero =>
    intro j i s1 H1 b vb tb c oI hr hj I1 k1 hit hb rb hij hbest
    have hin : j + 1 = xs.length := by omega
    have nS := inv_head I1
    have nI := inv_head (inv_unpin I1)
    obtain ⟨its, rv, hl, hz⟩ := I1.list (sl_kp k1 (by simp) hs)
    have W := Walks.list (prog := X.prog) (w := X.w) (A := A.in1) hh Ia l hlI its.toArray
    have hsz : its.toArray.size = xs.length := by rw [List.size_toArray, rv.length]
    refine codeAny_builtin (id := "min.loop") PySem.F.entry_min_loop ?_
    rw [Around.under_plainId PySem.F.plain_min_loop _]
    show wpAny (model X.prog X.w) A.in1 (seqItems? (.ref S) >>= _) _ _ _
    refine wpAny_bind (wpAny_seqItems (s := s1) nS.1 rfl ?_)
    show wpAny (model X.prog X.w) A.in1 (tryCatch (pyNext (.ref Ia)) _ >>= _) _ _ _
    refine wpAny_bind (wpAny_tryCatch (W.done s1 _ _ ⟨by rw [hsz, ← hin]; exact hit, hl.isList⟩ fun h' tk' hk' => ?_))
    have hS' := hk' S _ (by simpa using hSI) nS.1
    have I2 : Inv X (pf ++ ((S, seqObj "list" #[vb, .int (key b) tb] c) :: pins)) σ H1 { s1 with heap := h', toks := tk' } :=
      inv_pin (inv_turn (inv_unpin (inv_unpin I1)) wI nI.2 fun a o ha q => hk' a o (by simpa using ha) q) wS nS.2 hS' (fun _ z => by cases z)
    have I3 : Inv X (pf ++ pins) σ H1 { s1 with heap := h'.update S (Obj.mapSeq fun _ => (#[] : Array Value)), toks := tk' } :=
      inv_turn (s := { s1 with heap := h', toks := tk' }) (inv_unpin I2) wS nS.2 fun a o ha q => ((Heap.SameBut.update h' S _).2 a ha).trans q
    show wpAny (model X.prog X.w) A.in1 (updateSeq S (fun _ => #[]) >>= _) _ _ _
    refine wpAny_bind (wpAny_updateSeq hS' rfl (wpAny_bind (wpAny_letGo (wpAny_pure ?_))))
    exact hR H1 _ i b vb I3 k1 ⟨hb, fun j' z hz' => hbest j' z (by have := (List.getElem?_eq_some_iff.mp hz').1; omega) hz'⟩ rb
  | succ r ih =>
    intro j i s1 H1 b vb tb c oI hr hj I1 k1 hit hb rb hij hbest
    have hlt : j + 1 < xs.length := by omega
    have nS := inv_head I1
    have nI := inv_head (inv_unpin I1)
    obtain ⟨its, rv, hl, hz⟩ := I1.list (sl_kp k1 (by simp) hs)
    have W := Walks.list (prog := X.prog) (w := X.w) (A := A.in1) hh Ia l hlI its.toArray
    have hsz : its.toArray.size = xs.length := by rw [List.size_toArray, rv.length]
    refine codeAny_builtin (id := "min.loop") PySem.F.entry_min_loop ?_
    rw [Around.under_plainId PySem.F.plain_min_loop _]
    show wpAny (model X.prog X.w) A.in1 (seqItems? (.ref S) >>= _) _ _ _
    refine wpAny_bind (wpAny_seqItems (s := s1) nS.1 rfl ?_)
    show wpAny (model X.prog X.w) A.in1 (tryCatch (pyNext (.ref Ia)) _ >>= _) _ _ _
    refine wpAny_bind (wpAny_tryCatch (W.item (j + 1) s1 _ _ (by rw [hsz]; exact hlt) ⟨hit, hl.isList⟩ fun u h' tk' hP hst' hk' => ?_))
    have hu : its[j + 1]? = some u := by simpa using hP
    obtain ⟨x, hx⟩ : ∃ x, xs[j + 1]? = some x := ⟨_, List.getElem?_eq_getElem hlt⟩
    obtain ⟨u', hu', rx⟩ := Vals.get rv hx
    rw [hu] at hu'
    cases hu'
    obtain ⟨oI', hoI', hoc, hod⟩ := id hst'.1
    have hS' := hk' S _ (by simpa using hSI) nS.1
    have I2 : Inv X (pf ++ ((S, seqObj "list" #[vb, .int (key b) tb] c) :: (Ia, oI') :: pins)) σ H1 { s1 with heap := h', toks := tk' } :=
      inv_pin (inv_pin (inv_turn (inv_unpin (inv_unpin I1)) wI nI.2 fun a o ha q => hk' a o (by simpa using ha) q) wI nI.2 hoI' (fun v z => by rw [hod] at z; cases z)) (wS.cons hSI.symm) nS.2 hS' (fun _ z => by cases z)
    show wpAny (model X.prog X.w) A.in1 (tryCatch (holding [u] (call (.ref f) [u])) _ >>= _) _ _ _
    refine wpAny_bind (wpAny_tryCatch (wpAny_holding (wpAny_mono (T _ _ H1 x u I2 k1 (List.mem_of_getElem? hx) rx) (fun z s2 he => ?_) fun _ _ hF => hF.elim)))
    obtain ⟨H2, t2, I3, k2, rfl⟩ := he
    have nS2 := inv_head I3
    have nI2 := inv_head (inv_unpin I3)
    have hit2 : s2.heap.IsListIter Ia l (j + 1 + 1) := ⟨oI', nI2.1, hoc, hod⟩
    show wpAny (model X.prog X.w) A.in1 (tryCatch (holding [u, .int (key x) t2] (richCompare .Lt (.int (key x) t2) (.int (key b) tb) >>= _)) _ >>= _) _ _ _
    refine wpAny_bind (wpAny_tryCatch (wpAny_holding (wpAny_bind (CmpOf.ints_lt (prog := X.prog) (w := X.w) (A := A.in1) (P := fun i v => ∃ t, v = .int (if i = 0 then key x else key b) t) (fun i => if i = 0 then key x else key b) (fun i v h => h) 0 1 _ _ _ _ _ ⟨t2, rfl⟩ ⟨tb, rfl⟩ ?_))))
    refine wpAny_bind (wpAny_holding (wpAny_truthy_bool ?_))
    refine wpAny_bind (wpAny_letGo (wpAny_pure ?_))
    have hxb : ∀ (j' : Nat) (z : V), j' ≤ j + 1 → xs[j']? = some z → j' ≤ j ∨ z = x := fun j' z h1 h2 => by
      by_cases e : j' = j + 1
      · rw [e, hx] at h2
        exact .inr (Option.some.inj h2).symm
      · exact .inl (by omega)
    by_cases hbt : key x < key b
    · obtain ⟨c2, hc2⟩ : ∃ c2, (s2.heap.update S (Obj.mapSeq fun _ => #[u, .int (key x) t2])).get? S = some (seqObj "list" #[u, .int (key x) t2] c2) := ⟨_, get?_update_seq nS2.1 fun _ => #[u, .int (key x) t2]⟩
      have I4 : Inv X (pf ++ ((Ia, oI') :: pins)) σ H2 { s2 with heap := s2.heap.update S (Obj.mapSeq fun _ => #[u, .int (key x) t2]), toks := s2.toks } :=
        inv_turn (inv_unpin I3) (wS.cons hSI.symm) nS2.2 fun a o ha q => ((Heap.SameBut.update s2.heap S _).2 a ha).trans q
      simp only [if_true, if_neg (Nat.succ_ne_zero 0), hbt, decide_true]
      refine wpAny_bind (wpAny_updateSeq nS2.1 rfl (wpAny_bind (wpAny_letGo ?_)))
      rw [hname]
      refine wpAny_pure ⟨plainId_quiet PySem.F.plain_min_loop _, ih (j + 1) (j + 1) _ H2 x u t2 c2 oI' (by omega) hlt (inv_pin I4 (wS.cons hSI.symm) nS2.2 hc2 (fun _ z => by cases z)) (k1.trans k2) ?_ hx rx (Nat.le_refl _) fun j' z hj' hz' => ?_⟩
      · exact ⟨oI', ((Heap.SameBut.update s2.heap S _).2 Ia hSI.symm).trans nI2.1, hoc, hod⟩
      · rcases hxb j' z hj' hz' with e | e
        · have h1 := (hbest j' z e hz').1
          exact ⟨by omega, fun _ => by omega⟩
        · rw [e]
          refine ⟨Int.le_refl _, fun hlt' => ?_⟩
          have h1 := hbest j' z (by omega) hz'
          rw [e] at h1
          omega
    · simp only [if_true, if_neg (Nat.succ_ne_zero 0), hbt, decide_false, Bool.false_eq_true, if_false]
      refine wpAny_bind (wpAny_letGo ?_)
      rw [hname]
      refine wpAny_pure ⟨plainId_quiet PySem.F.plain_min_loop _, ih (j + 1) i _ H2 b vb tb c oI' (by omega) hlt I3 (k1.trans k2) hit2 hb rb (by omega) fun j' z hj' hz' => ?_⟩
      rcases hxb j' z hj' hz' with e | e
      · exact hbest j' z e hz'
      · rw [e]
        refine ⟨by omega, fun hlt' => ?_⟩
        have h1 := hbest j' z (by omega) hz'
        rw [e] at h1
        exact h1.2 hlt'
theorem min_args (a v u : Value) : argsOk "min" ⟨[a], [(Str.ofString "key", v), (Str.ofString "default", u)]⟩ := by unfold argsOk; kernel_rfl
/-- min(xs, key=f, default=None) -/
theorem min_key {f : Addr} {key : V → Int} {xs : List V} {l : Addr} {Q : VK} (hh : X.A.handled = none) (T : KeyTurn X X.A.in1 σ H pf (.ref f) xs key) (I : Inv X (pf ++ pins) σ H s) (hs : SqL X.K H l xs) (h1 : xs = [] → Q .non H)
    (h2 : ∀ H' i b, Kp [] H H' → Least xs key i b → Q b H') :
    wpAny (model X.prog X.w) X.A (call (.builtin "min") [.ref l] [(Str.ofString "key", .ref f), (Str.ofString "default", .none)]) (EP X (pf ++ pins) σ Q) X.xe s := by
  have hname : (toString "min" ++ toString ".loop" : String) = "min.loop" := by decide
  obtain ⟨its, rv, hl, hz⟩ := I.list hs
  have hll : l < s.heap.objs.size := by
    obtain ⟨ol, hol, _⟩ := hl.isList
    exact Heap.lt_size hol
  refine kmk_tree PySem.F.kind_min PySem.F.plain_min PySem.F.entry_min (min_args _ _ _) ?_
  show wpAny (model X.prog X.w) X.A.in1 (Builtin.Builtins.bindParams "min" ["key", "default"] 0 ⟨[], [(Str.ofString "key", .ref f), (Str.ofString "default", .none)]⟩ >>= _) _ _ s
  refine wpAny_bind (wpAny_of_eq (show Builtin.Builtins.bindParams "min" ["key", "default"] 0 ⟨[], [(Str.ofString "key", .ref f), (Str.ofString "default", .none)]⟩ = pure [some (.ref f), some .none] from rfl) ?_)
  refine wpAny_bind (wpAny_pure (wpAny_bind (wpAny_pyIter_list hl.isList ?_)))
  refine wpAny_bind (wpAny_newList (items := []) ?_ (Nat.zero_le _))
  rw [hname]
  have hS : (s.heap.push { cls := .type "list_iterator", data := .fields #[.ref l, .int 0 0] }).objs.size = s.heap.objs.size + 1 := size_push' ..
  have wI := Own.fresh I (Nat.le_refl _)
  have nI : H s.heap.objs.size = none := I.hok.fresh (Nat.le_refl _)
  have wS : Own X (pf ++ pins) (s.heap.push { cls := .type "list_iterator", data := .fields #[.ref l, .int 0 0] }).objs.size := Own.fresh I (by rw [hS]; exact Nat.le_succ _)
  have nS : H (s.heap.push { cls := .type "list_iterator", data := .fields #[.ref l, .int 0 0] }).objs.size = none := I.hok.fresh (by rw [hS]; exact Nat.le_succ _)
  have hSI : (s.heap.push { cls := .type "list_iterator", data := .fields #[.ref l, .int 0 0] }).objs.size ≠ s.heap.objs.size := by
    rw [hS]
    exact Nat.succ_ne_self _
  have I1 : Inv X (pf ++ pins) σ H { s with heap := (s.heap.push { cls := .type "list_iterator", data := .fields #[.ref l, .int 0 0] }).push (seqObj "list" #[] 0), toks := s.toks } :=
    I.kept fun b o q => Heap.get?_push_of_some _ (Heap.get?_push_of_some _ q)
  have gI : ((s.heap.push { cls := .type "list_iterator", data := .fields #[.ref l, .int 0 0] }).push (seqObj "list" #[] 0)).get? s.heap.objs.size = some { cls := .type "list_iterator", data := .fields #[.ref l, .int 0 0] } := Heap.get?_push_of_some _ (Heap.get?_push_size _ rfl)
  have gS : ((s.heap.push { cls := .type "list_iterator", data := .fields #[.ref l, .int 0 0] }).push (seqObj "list" #[] 0)).get? (s.heap.push { cls := .type "list_iterator", data := .fields #[.ref l, .int 0 0] }).objs.size = some (seqObj "list" #[] 0) := Heap.get?_push_size _ rfl
  refine wpAny_pure ⟨plainId_quiet PySem.F.plain_min_loop _, ?_⟩
  show codeAny _ _ (.builtin "min.loop" ⟨[.ref s.heap.objs.size, .ref f, .ref _], [("default", .none)]⟩) _ { s with heap := (s.heap.push { cls := .type "list_iterator", data := .fields #[.ref l, .int 0 0] }).push (seqObj "list" #[] 0), toks := s.toks }
  generalize (s.heap.push { cls := .type "list_iterator", data := .fields #[.ref l, .int 0 0] }).push (seqObj "list" #[] 0) = h0 at I1 gI gS ⊢
  generalize (s.heap.push { cls := .type "list_iterator", data := .fields #[.ref l, .int 0 0] }).objs.size = S at *
  obtain ⟨its, rv, hl, hz⟩ := I1.list hs
  have W := Walks.list (prog := X.prog) (w := X.w) (A := X.A.in1) hh s.heap.objs.size l (Nat.ne_of_lt hll) its.toArray
  have hsz : its.toArray.size = xs.length := by rw [List.size_toArray, rv.length]
  refine codeAny_builtin (id := "min.loop") PySem.F.entry_min_loop ?_
  rw [Around.under_plainId PySem.F.plain_min_loop _]
  show wpAny (model X.prog X.w) X.A.in1 (seqItems? (.ref S) >>= _) _ _ _
  refine wpAny_bind (wpAny_seqItems gS rfl ?_)
  show wpAny (model X.prog X.w) X.A.in1 (tryCatch (pyNext (.ref s.heap.objs.size)) _ >>= _) _ _ _
  cases xs with
  | nil =>
    refine wpAny_bind (wpAny_tryCatch (W.done { s with heap := h0, toks := s.toks } _ _ ⟨by rw [hsz]; exact ⟨_, gI, rfl, rfl⟩, hl.isList⟩ fun h' tk' hk' => ?_))
    refine wpAny_bind (wpAny_rule (wpAny_pure ?_))
    exact ⟨.non, H, inv_turn (s := { s with heap := h0, toks := s.toks }) I1 wI nI fun a o ha q => hk' a o (by simpa using ha) q, rfl, h1 rfl⟩
  | cons x xs =>
    refine wpAny_bind (wpAny_tryCatch (W.item 0 { s with heap := h0, toks := s.toks } _ _ (by rw [hsz]; exact Nat.succ_pos _) ⟨⟨_, gI, rfl, rfl⟩, hl.isList⟩ fun u h' tk' hP hst' hk' => ?_))
    have hu : its[0]? = some u := by simpa using hP
    have hx : (x :: xs)[0]? = some x := rfl
    obtain ⟨u', hu', rx⟩ := Vals.get rv hx
    rw [hu] at hu'
    cases hu'
    obtain ⟨oI', hoI', hoc, hod⟩ := id hst'.1
    have hS' := hk' S _ (by simpa using hSI) gS
    have I2 : Inv X (pf ++ ((S, seqObj "list" #[] 0) :: (s.heap.objs.size, oI') :: pins)) σ H { s with heap := h', toks := tk' } :=
      inv_pin (inv_pin (inv_turn (s := { s with heap := h0, toks := s.toks }) I1 wI nI fun a o ha q => hk' a o (by simpa using ha) q) wI nI hoI' (fun v z => by rw [hod] at z; cases z)) (wS.cons hSI.symm) nS hS' (fun _ z => by cases z)
    show wpAny (model X.prog X.w) X.A.in1 (tryCatch (holding [u] (call (.ref f) [u])) _ >>= _) _ _ _
    refine wpAny_bind (wpAny_tryCatch (wpAny_holding (wpAny_mono (T _ _ H x u I2 Kp.refl (.head _) rx) (fun z s2 he => ?_) fun _ _ hF => hF.elim)))
    obtain ⟨H2, t2, I3, k2, rfl⟩ := he
    have nS2 := inv_head I3
    have nI2 := inv_head (inv_unpin I3)
    obtain ⟨c2, hc2⟩ : ∃ c2, (s2.heap.update S (Obj.mapSeq fun _ => #[u, .int (key x) t2])).get? S = some (seqObj "list" #[u, .int (key x) t2] c2) := ⟨_, get?_update_seq nS2.1 fun _ => #[u, .int (key x) t2]⟩
    have I4 : Inv X (pf ++ ((s.heap.objs.size, oI') :: pins)) σ H2 { s2 with heap := s2.heap.update S (Obj.mapSeq fun _ => #[u, .int (key x) t2]), toks := s2.toks } :=
      inv_turn (inv_unpin I3) (wS.cons hSI.symm) nS2.2 fun a o ha q => ((Heap.SameBut.update s2.heap S _).2 a ha).trans q
    show wpAny (model X.prog X.w) X.A.in1 (updateSeq S (fun _ => #[u, .int (key x) t2]) >>= _) _ _ _
    refine wpAny_bind (wpAny_updateSeq nS2.1 rfl ?_)
    rw [hname]
    refine wpAny_pure ⟨plainId_quiet PySem.F.plain_min_loop _, min_loop (xs := x :: xs) hh T hs (Nat.ne_of_lt hll) hSI wS wI (fun H3 s3 i b vb I5 k3 hb rb => ⟨b, H3, I5, rb, h2 H3 i b k3 hb⟩) _ 0 0 _ H2 x u t2 c2 oI' rfl (Nat.succ_pos _) (inv_pin I4 (wS.cons hSI.symm) nS2.2 hc2 (fun _ z => by cases z)) k2
      ⟨oI', ((Heap.SameBut.update s2.heap S _).2 _ hSI.symm).trans nI2.1, hoc, hod⟩ hx rx (Nat.le_refl _) fun j' z hj' hz' => ?_⟩
    have e : j' = 0 := by omega
    rw [e] at hz'
    cases hz'
    exact ⟨Int.le_refl _, fun q => by omega⟩
/-- min(e, key=lambda p: body, default=None) -/
def tMinKey (K : PySem.W.Frag) (T : List (Addr × Str)) (N0 N : List Str) (p : Str) (t : TA) (tb : TE) : TE := fun σ H Q => t σ H fun vs H1 => ∃ (l : Addr) (xs : List V) (key : V → Int) (τ : V → L2.St), vs = [.ref l] ∧ SqL K H1 l xs ∧ LamX.Tabs T H1 ∧
  (∀ v, v ∈ xs → CapsN N0 σ N (τ v) p v) ∧ ∀ H2, LamX.ExtN H1 H2 → LamX.Tabs T H2 → (∀ (H3 : Hp) (v : V), v ∈ xs → Kp [] H2 H3 → tb (τ v) H3 fun x H4 => x = .int (key v) ∧ Kp [] H3 H4) ∧
    (xs = [] → Q .non H2) ∧ ∀ (H3 : Hp) (i : Nat) (b : V), Kp [] H2 H3 → Least xs key i b → Q b H3
theorem pe_minKey {T : List (Addr × Str)} {N : List Str} {k : Nat} {c P : Addr} {scope : Scope} {p : Str} {params : Arguments} {e body : Expr} {t : TA} {tb : TE} {p1 kpos lpos dpos npos pos : Pos} {jn : Nat} (hg : Gl X "min") (hm : X.mg "min" = none) (ha : PA X [e] t)
    (TB : LamX.TabB X.base X.mg c P) (hcode : X.env.code = .ref c) (hmT : (P, X.env.qual ++ "<lambda>") ∈ T) (huT : ∀ p ∈ T, p.1 = P → p.2 = X.env.qual ++ "<lambda>") (hr : Room (k + 3) X.A) (L : Lam1 X.env.scope scope p) (hdef : defaultsOf params X.env = ([], []))
    (hbind : ∀ (q : Str) (cl : List (Str × Addr)) (pm cv ctv u : Value), bindArgs (PySem.W.kla_fn "<lambda>" q params body scope cl pm cv ctv) ⟨[u], []⟩ = pure [(p, u)])
    (hbody : ∀ (s : Shared) (H : Hp) (f c' : Addr), Room k (X.A.in1.deeper (LamX.lamEnv X scope s.heap.objs.size f c')) → PE (lam1Cx X X.A.in1 s H N scope f c') body tb)
    (he : backTo pos (starEach [e] X.env) = (false, eval e X.env) :: backTo pos (starEach [] X.env) := by rfl) (hpl : (backTo pos (starEach [e] X.env)).any (·.1) = false := by rfl) :
    PE X (.Call (.Name "min" p1) [e] [⟨some "key", .Lambda params body scope lpos, kpos⟩, ⟨some "default", .Constant .none jn npos, dpos⟩] pos) (tMinKey X.K T X.N N p t tb) := by
  refine ⟨fun pins s σ H Q I h => ?_⟩
  refine wpAny_Call_Name_kw (ld_blt I hg hm (show bootBuiltins "min" = some (.builtin "min") by rfl) ?_ (by decide) (by decide))
  refine PyProof.Rows.callWith_kw (thn (ha.run pos pins s σ H _ I h) fun us s1 ⟨vs, H1, I1, r1, q1⟩ => ?_) he hpl rfl rfl
  obtain ⟨l, xs, key, τ, rfl, hs, hT, hC, q⟩ := q1
  obtain rfl := Vals.ref1 r1
  show wpAny _ _ (evalAll [(do let v ← eval (.Lambda params body scope lpos) X.env; standAt pos; pure v), (do let v ← eval (.Constant .none jn npos) X.env; standAt pos; pure v)]) _ _ s1
  refine wpAny_evalAll_cons (wpAny_bind (LamX.lam_make2 I1 TB hcode hmT huT hT hdef (L.has I1.ok) fun f c' pm ctv H2 s2 I2 eN T2 hf hfn hfr hco => wpAny_bind (wpAny_standAt (wpAny_pure ?_))))
  obtain ⟨hb, hq0, hq⟩ := q H2 eN T2
  have I3 := fn_pin I2 hf rfl hfn hfr
  refine wpAny_evalAll_cons (wpAny_bind (thn ((pe_non (X := X)).run _ s2 σ H2 (fun (x : V) (H3 : Hp) => x = V.non ∧ H3 = H2) I3 ⟨rfl, rfl⟩) fun u s3 ⟨v, H3, I4, rv, ev, eH⟩ => wpAny_bind (wpAny_standAt (wpAny_pure (wpAny_evalAll_nil ?_)))))
  rw [ev] at rv
  rw [eH] at I4
  obtain rfl : u = Value.none := rv
  show wpAny _ _ (call (.builtin "min") [.ref l] [(Str.ofString "key", .ref f), (Str.ofString "default", .none)]) _ _ s3
  refine wpAny_mono (min_key hr.hd (lam1_turn L hco I2.ok.frames hr.in1 (fun u => hbind _ _ _ _ _ u) hC fun s H3 v hv k3 hr3 => ⟨tb, hbody s H3 f c' (hr3.mono (Nat.le_succ _)), hb H3 v hv k3⟩) I4 (sq_ext eN hs) hq0 hq) (fun u s' h => ep_less h) fun _ _ h => h
end
end RD
/-! ### the head of a law whose defs make lambdas -/
namespace RD
open PySem PySem.Spec PyProof.Rows L2 He
section
variable {P : Program} {w : World} {K : PySem.W.Frag} {mg : Str → Option Value} {base : Heap} {CX : CXT} {x qual : Str} {params : Arguments} {body : List Stmt} {scope : Scope} {dvs : List V} {kws : List (Str × V)} {fd : FuncData}
/-- a def whose code object is told -/
theorem fnDc {at_ : Str × Option Str} {N ps : List Str} {k : Nat} {sp : Sp} (F : FunD K x qual params body scope dvs kws (fAd K at_) fd) (S : FnScope N ps scope) (len : ∀ vs H Q E, sp vs H Q E → vs.length = ps.length)
    (hbody : ∀ (A : Around) (outer : List Env) (s : Shared) (H : Hp) (vs : List V) (Q : VK) (E : XK), Room k (A.deeper (envOfC qual scope s.heap.objs.size (fAd K at_) (.ref (codeOf K at_)))) → sp vs H Q E →
      ∃ t, PSs (cxOf CX0 P w K mg base N qual scope (fAd K at_) (.ref (codeOf K at_)) A outer s H E).nox body t ∧ t ⟨fun _ H' => Q .non H', Q, fun _ _ => False, fun _ _ => False⟩ (start N vs) H) : FnOk P w K mg base CX0 (k + 1) (fAd K at_) fd ps sp := by
  obtain ⟨oc, od, dV, kV, doc, pm, an, cdv, ct, osl, e0, lk, hcd, _, _⟩ := F.ex
  obtain ⟨c, hc⟩ := codeIn_ref hcd
  have e : cdv = .ref (codeOf K at_) := by
    rw [hc]
    refine congrArg Value.ref (codeOf_eq lk ?_).symm
    rw [e0]
    exact hc
  subst e0
  subst e
  exact fn_of lk hcd S len fun A outer s H vs Q E hr hsp => let ⟨t, h1, h2⟩ := hbody A outer s H vs Q E hr hsp; ⟨t, h1.nox, h2⟩
end
/-- the tables at the law's entry -/
theorem tabs_nil {tf : List He.Defn} {K : PySem.W.Frag} {T : List (Addr × Str)} {H : Hp} (e : T.map (·.1) = tf.map fun p => (He.cT K p).2) (h : ∀ p ∈ tf.map (He.cT K), H p.2 = some (.tbl #[])) : LamX.Tabs T H := fun p hp => by
  have hm : p.1 ∈ tf.map fun p => (He.cT K p).2 := e ▸ List.mem_map_of_mem hp
  obtain ⟨q, hq, e2⟩ := List.mem_map.mp hm
  refine LamX.TabS.nil ?_
  rw [← e2]
  exact h _ (List.mem_map_of_mem hq)
end RD
/-! ### frames where tables of lambdas may grow -/
namespace RD
open PySem PySem.Spec PyProof.Rows L2 He
def NoTbl (o : HO) : Prop := ∀ t, o ≠ .tbl t
def Kt (T : List (Addr × Str)) (ps : List Addr) (H H' : Hp) : Prop := (∀ b o, H b = some o → NoTbl o → b ∉ ps → H' b = some o) ∧ LamX.Tabs T H'
section
variable {T : List (Addr × Str)} {ps : List Addr} {H H' H'' : Hp} {p q b : Addr} {o : HO}
theorem Kt.refl (h : LamX.Tabs T H) : Kt T ps H H := ⟨fun _ _ e _ _ => e, h⟩
theorem Kt.trans (a : Kt T ps H H') (b : Kt T ps H' H'') : Kt T ps H H'' := ⟨fun c o e n m => b.1 c o (a.1 c o e n m) n m, b.2⟩
theorem Kt.g0 (a : Kt T [] H H') (n : NoTbl o) (e : H b = some o) : H' b = some o := a.1 b o e n (by simp)
theorem Kt.g1 (a : Kt T [p] H H') (n : NoTbl o) (m : b ≠ p) (e : H b = some o) : H' b = some o := a.1 b o e n (by simp [m])
theorem Kt.of0 (a : Kt T [] H H') : Kt T ps H H' := ⟨fun c o e n _ => a.1 c o e n (by simp), a.2⟩
/-- q is none of the things that stand (tables left out) -/
def Frn (H : Hp) (q : Addr) : Prop := ∀ b o, H b = some o → NoTbl o → b ≠ q
theorem Kt.frn (a : Kt T [] H H') {l : Addr} (h : H' l = none) : Frn H l := fun b o e n z => by
  rw [z] at e
  rw [a.g0 n e] at h
  cases h
theorem Frn.kt {l : Addr} (h : Frn H' l) (a : Kt T [] H H') : Frn H l := fun b o e n => h b o (a.g0 n e) n
theorem Frn.kp {l : Addr} (h : Frn H' l) (a : Kp [] H H') : Frn H l := fun b o e n => h b o (a.g0 e) n
theorem Frn.of {l : Addr} (h : H l = none) : Frn H l := fun b o e _ => ne_of_none e h
theorem Kt.ext (a : LamX.ExtN H H') (t : LamX.Tabs T H') : Kt T ps H H' := ⟨fun b o e n _ => a b o e n, t⟩
/-- what a table and its code objects are not -/
def Plain : HO → Prop
  | .tbl _ => False
  | .ext _ => False
  | _ => True
theorem Plain.noTbl (h : Plain o) : NoTbl o := by
  intro t z
  rw [z] at h
  exact h
theorem tabs_kp (h : LamX.Tabs T H) (k : Kp ps H H') (n : ∀ p, p ∈ ps → ∃ o, H p = some o ∧ Plain o) : LamX.Tabs T H' := fun p hp => by
  obtain ⟨tb, h1, h2, h3⟩ := h p hp
  have ne : ∀ b o, H b = some o → ¬ Plain o → b ∉ ps := fun b o e m z => by
    obtain ⟨o', e', w⟩ := n b z
    rw [e] at e'
    cases e'
    exact m w
  refine ⟨tb, k _ _ h1 (ne _ _ h1 (fun z => z)), h2, fun pos cv e => ?_⟩
  obtain ⟨c, e1, e2⟩ := h3 pos cv e
  exact ⟨c, e1, k _ _ e2 (ne _ _ e2 (fun z => z))⟩
theorem Kt.kp (h : LamX.Tabs T H) (k : Kp ps H H') (n : ∀ p, p ∈ ps → ∃ o, H p = some o ∧ Plain o) : Kt T ps H H' := ⟨fun c o e _ m => k c o e m, tabs_kp h k n⟩
theorem Kt.kp0 (h : LamX.Tabs T H) (k : Kp [] H H') : Kt T ps H H' := ⟨fun c o e _ _ => k c o e (by simp), tabs_kp h k (fun _ z => by cases z)⟩
theorem Kt.kp1 (h : LamX.Tabs T H) (k : Kp [p] H H') (e : H p = some o) (w : Plain o) : Kt T [p] H H' := Kt.kp h k fun q hq => by
  rw [List.mem_singleton.mp hq]
  exact ⟨o, e, w⟩
theorem Kt.new (h : LamX.Tabs T H) (e : H p = none) : Kt T ps H (upd H p o) := Kt.kp0 h (Kp.new e)
theorem Kt.wr {u : HO} (a : Kt T ps H H') (h : p ∈ ps) (e : H' p = some u) (w : Plain u) : Kt T ps H (upd H' p o) :=
  ⟨fun c v ev n m => by
    have hc : c ≠ p := fun z => m (z ▸ h)
    rw [upd_ne hc]
    exact a.1 c v ev n m, tabs_kp a.2 (Kp.refl.wr (ps := [p]) (by simp)) fun q hq => by
    rw [List.mem_singleton.mp hq]
    exact ⟨u, e, w⟩⟩
theorem Kt.nw (a : Kt T ps H H') (e : H' p = none) : Kt T ps H (upd H' p o) := a.trans (Kt.new a.2 e)
end
/-! ### a class made with keywords -/
theorem vals_at {xs : List V} {us : List Value} (i : Nat) (h : Vals xs us) : Vals (xs[i]?).toList (us[i]?).toList := by
  cases e : xs[i]? with
  | none => rw [h.none_of e]; exact .nil
  | some x =>
    obtain ⟨u, e2, r⟩ := h.get e
    rw [e2]
    exact .cons r .nil
structure MakKX (P : Program) (w : World) (K : PySem.W.Frag) (mg : Str → Option Value) (base : Heap) (CX : CXT) (k : Nat) (x : Str) (C : Addr) (sp : Sp) (n : Nat) (ks : List Str) (gV : List V → List V → List V) : Prop where
  ex : ∃ (f : Addr) (fd : FuncData) (ps : List Str) (g : List Value → List Value → List Value), Mk K C f ∧ FnOk P w K mg base CX k f fd ps sp ∧ mg x = some (.ref C) ∧ KBn K fd ps (n + 1) ks g gV
theorem pe_makKX {X : Cx} {CX : CXT} {k j n : Nat} {C : Addr} {x : Str} {sp : Sp} {E : XK} {ks : List Str} {gV : List V → List V → List V} {p pos : Pos} {e : Expr} {es : List Expr} {kws : List Keyword} {t tk : TA} (c : MakKX X.prog X.w X.K X.mg X.base CX k x C sp n ks gV) (hr : Room j X.A) (hk : k + 1 ≤ j) (hg : Gl X x) (hx : Passes CX X E) (ha : PA X (e :: es) t) (hkw : PK X kws tk)
    (hall : (backToKw pos (keywordEach kws X.env)).all (·.1.isSome) = true := by rfl) (hks : (backToKw pos (keywordEach kws X.env)).filterMap (·.1) = ks := by rfl) (hdb : (x == ("__debug__" : Str)) = false := by decide)
    (he : starEach (e :: es) X.env = (false, eval e X.env) :: starEach es X.env := by rfl) (hpl : ((backTo pos (starEach (e :: es) X.env)).any (·.1) || (backToKw pos (keywordEach kws X.env)).any (·.1.isNone)) = false := by rfl) :
    PE X (.Call (.Name x p) (e :: es) kws pos) (tMakeK C n ks.length sp gV E t tk) := by
  obtain ⟨f, fd, ps, g, M, F, hm, hb⟩ := c.ex
  exact pe_makeK M F (hr.mono hk) hg hm hb hx ha hkw hall hks hdb he hpl
theorem rd_makeK {σ : L2.St} {H : Hp} {Q : VK} {C : Addr} {n m : Nat} {sp : Sp} {gV : List V → List V → List V} {E : XK} {t tk : TA} (h : t σ H fun vs H1 => tk σ H1 fun zs H2 => vs.length = n ∧ zs.length = m ∧ ∀ x dx, H2 x = none → H2 dx = none → dx ≠ x →
    sp (gV (.ref x :: vs) zs) (upd (upd H2 dx (.own x)) x (.ins C dx [])) (fun v H3 => v = .non ∧ Q (.ref x) H3) E) : tMakeK C n m sp gV E t tk σ H Q := h
/-! ### more readings -/
section
variable {K : PySem.W.Frag} {σ : L2.St} {H : Hp} {Q : VK} {ta : TE}
theorem rd_prop {C : Addr} {sp : Sp} {E : XK} (h : ta σ H fun x H1 => ∃ a dx fs, x = V.ref a ∧ H1 a = some (.ins C dx fs) ∧ sp [.ref a] H1 Q E) : tProp C sp [] E ta σ H Q := h
theorem rd_propX {C a dx : Addr} {fs : List (Str × V)} {R : Addr → Prop} (h : H a = some (.ins C dx fs)) (q : R a) : ∃ a' dx' fs', V.ref a = V.ref a' ∧ H a' = some (.ins C dx' fs') ∧ R a' := ⟨a, dx, fs, rfl, h, q⟩
theorem rd_revL {te : TE} (h : te σ H fun x H1 => ∃ a xs, x = V.ref a ∧ SqL K H1 a xs ∧ ∀ p, H1 p = none → Q (.ref p) (upd H1 p (.lst xs.reverse))) : tRevL K te σ H Q := h
theorem rd_revLX {a : Addr} {xs : List V} {R : List V → Prop} (h : SqL K H a xs) (q : R xs) : ∃ a' ys, V.ref a = V.ref a' ∧ SqL K H a' ys ∧ R ys := ⟨a, xs, rfl, h, q⟩
end
end RD
namespace RD
open PySem PySem.Spec PyProof.Rows L2 He
/-! ### comprehensions that only look -/
theorem filter_take {α : Type} {p : α → Bool} {ns : List α} {i : Nat} (h : i < ns.length) : (ns.take (i + 1)).filter p = (ns.take i).filter p ++ (if p ns[i] = true then [ns[i]] else []) := by
  rw [List.take_succ_eq_append_getElem h, List.filter_append]
  congr 1
  cases e : p ns[i] <;> simp [e]
section
variable {K : PySem.W.Frag} {σ : L2.St} {H : Hp} {te : TE} {tt : TT}
theorem lcF_ints {a D : Addr} {g : TG} {vs : List Nat} {Qd : Hp → Prop} (ns : List Int) (p : Int → Bool) (f : Int → V) (hS : SqL K H a (ns.map V.int)) (hD : H D = none) (hl : ns.length < 1000000)
    (hs : ∀ (i : Nat) (h : i < ns.length) H1 (E : VK) (N : Hp → Prop), Kp [] H H1 → (∀ H4, Kp [] H1 H4 → p ns[i] = true → E (f ns[i]) H4) → (∀ H3, Kp [] H1 H3 → p ns[i] = false → N H3) → g (.int ns[i]) (wipe σ vs) H1 fun σ2 H2 => wipe σ2 vs = wipe σ vs ∧ tt σ2 H2 fun b H3 => if b = true then te σ2 H3 E else N H3)
    (hd : ∀ H', Kp [] H H' → H' D = some (.lst ((ns.filter p).map f)) → Qd H') : LcG (Itl K a) g tt te vs σ D Qd H := by
  refine lcL_ints ns (fun i H' => H' D = some (.lst (((ns.take i).filter p).map f)) ∧ Kp [] H H') ⟨upd_same, Kp.new hD⟩ (fun i H' _ q => sl_kp q.2 (by simp) hS) (fun i hi H' q => ?_) (fun H' q => ?_)
  · refine hs i hi H' _ _ q.2 (fun H4 k4 hp => ?_) (fun H3 k3 hp => ?_)
    · have fl : (((ns.take i).filter p).map f).length < sizeLine := szlt (by
        rw [List.length_map]
        have h1 := List.length_filter_le p (ns.take i)
        rw [List.length_take] at h1
        omega)
      refine ⟨_, k4.g0 q.1, fl, ?_, Kp.mine (q.2.trans k4) hD⟩
      rw [upd_same, filter_take hi, if_pos hp, List.map_append]
      rfl
    · refine ⟨?_, q.2.trans k3⟩
      rw [filter_take hi, if_neg (by rw [hp]; exact Bool.false_ne_true), List.append_nil]
      exact k3.g0 q.1
  · rw [List.take_length] at q
    exact hd H' q.2 q.1
theorem lcF_range {lo : Int} {n : Nat} {D : Addr} {g : TG} {vs : List Nat} {Qd : Hp → Prop} (p : Nat → Bool) (f : Nat → V) (hD : H D = none) (hl : n < 1000000)
    (hs : ∀ (i : Nat) (h : i < n) H1 (E : VK) (N : Hp → Prop), Kp [] H H1 → (∀ H4, Kp [] H1 H4 → p i = true → E (f i) H4) → (∀ H3, Kp [] H1 H3 → p i = false → N H3) → g (.int (lo + i)) (wipe σ vs) H1 fun σ2 H2 => wipe σ2 vs = wipe σ vs ∧ tt σ2 H2 fun b H3 => if b = true then te σ2 H3 E else N H3)
    (hd : ∀ H', Kp [] H H' → H' D = some (.lst (((List.range n).filter p).map f)) → Qd H') : LcG (Itr lo n) g tt te vs σ D Qd H := by
  refine lcR_by (fun i H' => H' D = some (.lst (((List.range i).filter p).map f)) ∧ Kp [] H H') ⟨upd_same, Kp.new hD⟩ (fun i H' hi q => ?_) (fun H' q => hd H' q.2 q.1)
  have er : (List.range (i + 1)).filter p = (List.range i).filter p ++ (if p i = true then [i] else []) := by
    rw [List.range_succ, List.filter_append]
    congr 1
    cases e : p i <;> simp [e]
  refine hs i hi H' _ _ q.2 (fun H4 k4 hp => ?_) (fun H3 k3 hp => ?_)
  · have fl : (((List.range i).filter p).map f).length < sizeLine := szlt (by
      rw [List.length_map]
      have h1 := List.length_filter_le p (List.range i)
      rw [List.length_range] at h1
      omega)
    refine ⟨_, k4.g0 q.1, fl, ?_, Kp.mine (q.2.trans k4) hD⟩
    rw [upd_same, er, if_pos hp, List.map_append]
    rfl
  · refine ⟨?_, q.2.trans k3⟩
    rw [er, if_neg (by rw [hp]; exact Bool.false_ne_true), List.append_nil]
    exact k3.g0 q.1
end
def keyV (f : Int → Int) : V → Int
  | .int i => f i
  | _ => 0
theorem sort_keyV (f : Int → Int) (ns : List Int) : ((ns.map V.int).mergeSort fun a b => decide (keyV f a ≤ keyV f b)) = (ns.mergeSort fun a b => decide (f a ≤ f b)).map V.int :=
  (List.map_mergeSort (f := V.int) (r := fun a b => decide (f a ≤ f b)) (s := fun a b => decide (keyV f a ≤ keyV f b)) fun _ _ _ _ => rfl).symm
end RD
namespace RD
open PySem PySem.Spec PyProof.Rows L2 He
section
variable {K : PySem.W.Frag} {σ : L2.St} {H : Hp} {T : List (Addr × Str)} {N0 N : List Str} {p : Str} {t : TA} {tb : TE} {Q : VK}
theorem rd_sortKey (h : t σ H fun vs H1 => ∃ (l : Addr) (xs : List V) (key : V → Int) (τ : V → L2.St), vs = [.ref l] ∧ SqL K H1 l xs ∧ LamX.Tabs T H1 ∧
  (∀ v, v ∈ xs → CapsN N0 σ N (τ v) p v) ∧ ∀ H2, LamX.ExtN H1 H2 → LamX.Tabs T H2 → (∀ (H3 : Hp) (v : V), v ∈ xs → Kp [] H2 H3 → tb (τ v) H3 fun x H4 => x = .int (key v) ∧ Kp [] H3 H4) ∧
    ∀ (H3 : Hp) (q : Addr), Kp [] H2 H3 → H3 q = none → Q (.ref q) (upd H3 q (.lst (xs.mergeSort fun a b => decide (key a ≤ key b))))) : tSortKey K T N0 N p t tb σ H Q := h
theorem rd_minKey (h : t σ H fun vs H1 => ∃ (l : Addr) (xs : List V) (key : V → Int) (τ : V → L2.St), vs = [.ref l] ∧ SqL K H1 l xs ∧ LamX.Tabs T H1 ∧
  (∀ v, v ∈ xs → CapsN N0 σ N (τ v) p v) ∧ ∀ H2, LamX.ExtN H1 H2 → LamX.Tabs T H2 → (∀ (H3 : Hp) (v : V), v ∈ xs → Kp [] H2 H3 → tb (τ v) H3 fun x H4 => x = .int (key v) ∧ Kp [] H3 H4) ∧
    (xs = [] → Q .non H2) ∧ ∀ (H3 : Hp) (i : Nat) (b : V), Kp [] H2 H3 → Least xs key i b → Q b H3) : tMinKey K T N0 N p t tb σ H Q := h
/-- of a list of ints, at the key f -/
theorem rd_sortI {D : Addr} (f : Int → Int) (ns : List Int) (τ : Int → L2.St) (hS : SqL K H D (ns.map V.int)) (hT : LamX.Tabs T H) (hC : ∀ n, CapsN N0 σ N (τ n) p (.int n))
    (hb : ∀ (H3 : Hp) (n : Int) (Q' : VK), n ∈ ns → Kt T [] H H3 → Q' (.int (f n)) H3 → tb (τ n) H3 Q')
    (hq : ∀ (H3 : Hp) (q : Addr), Kt T [] H H3 → H3 q = none → Q (.ref q) (upd H3 q (.lst ((ns.mergeSort fun a b => decide (f a ≤ f b)).map V.int)))) :
    ∃ (l : Addr) (xs : List V) (key : V → Int) (τ : V → L2.St), [V.ref D] = [.ref l] ∧ SqL K H l xs ∧ LamX.Tabs T H ∧
      (∀ v, v ∈ xs → CapsN N0 σ N (τ v) p v) ∧ ∀ H2, LamX.ExtN H H2 → LamX.Tabs T H2 → (∀ (H3 : Hp) (v : V), v ∈ xs → Kp [] H2 H3 → tb (τ v) H3 fun x H4 => x = .int (key v) ∧ Kp [] H3 H4) ∧
        ∀ (H3 : Hp) (q : Addr), Kp [] H2 H3 → H3 q = none → Q (.ref q) (upd H3 q (.lst (xs.mergeSort fun a b => decide (key a ≤ key b)))) := by
  refine ⟨D, _, keyV f, fun v => match v with | .int n => τ n | _ => [], rfl, hS, hT, fun v hv => ?_, fun H2 e2 t2 => ⟨fun H3 v hv k3 => ?_, fun H3 q k3 nq => ?_⟩⟩
  · obtain ⟨n, _, rfl⟩ := List.mem_map.mp hv
    exact hC n
  · obtain ⟨n, hn, rfl⟩ := List.mem_map.mp hv
    exact hb H3 n _ hn ((Kt.ext e2 t2).trans (Kt.kp0 t2 k3)) ⟨rfl, Kp.refl⟩
  · rw [sort_keyV]
    exact hq H3 q ((Kt.ext e2 t2).trans (Kt.kp0 t2 k3)) nq
theorem rd_minI {D : Addr} (f : Int → Int) (ns : List Int) (τ : Int → L2.St) (hS : SqL K H D (ns.map V.int)) (hT : LamX.Tabs T H) (hC : ∀ n, CapsN N0 σ N (τ n) p (.int n))
    (hb : ∀ (H3 : Hp) (n : Int) (Q' : VK), n ∈ ns → Kt T [] H H3 → Q' (.int (f n)) H3 → tb (τ n) H3 Q')
    (h0 : ∀ (H3 : Hp), ns = [] → Kt T [] H H3 → Q .non H3)
    (h1 : ∀ (H3 : Hp) (i : Nat) (b : Int), Kt T [] H H3 → ns[i]? = some b → (∀ (j : Nat) (z : Int), ns[j]? = some z → f b ≤ f z ∧ (j < i → f b < f z)) → Q (.int b) H3) :
    ∃ (l : Addr) (xs : List V) (key : V → Int) (τ : V → L2.St), [V.ref D] = [.ref l] ∧ SqL K H l xs ∧ LamX.Tabs T H ∧
      (∀ v, v ∈ xs → CapsN N0 σ N (τ v) p v) ∧ ∀ H2, LamX.ExtN H H2 → LamX.Tabs T H2 → (∀ (H3 : Hp) (v : V), v ∈ xs → Kp [] H2 H3 → tb (τ v) H3 fun x H4 => x = .int (key v) ∧ Kp [] H3 H4) ∧
        (xs = [] → Q .non H2) ∧ ∀ (H3 : Hp) (i : Nat) (b : V), Kp [] H2 H3 → Least xs key i b → Q b H3 := by
  refine ⟨D, _, keyV f, fun v => match v with | .int n => τ n | _ => [], rfl, hS, hT, fun v hv => ?_, fun H2 e2 t2 => ⟨fun H3 v hv k3 => ?_, fun e => ?_, fun H3 i b k3 hl => ?_⟩⟩
  · obtain ⟨n, _, rfl⟩ := List.mem_map.mp hv
    exact hC n
  · obtain ⟨n, hn, rfl⟩ := List.mem_map.mp hv
    exact hb H3 n _ hn ((Kt.ext e2 t2).trans (Kt.kp0 t2 k3)) ⟨rfl, Kp.refl⟩
  · exact h0 H2 (List.map_eq_nil_iff.mp e) (Kt.ext e2 t2)
  · obtain ⟨e1, e3⟩ := hl
    rw [List.getElem?_map] at e1
    obtain ⟨n, hn, rfl⟩ := Option.map_eq_some_iff.mp e1
    refine h1 H3 i n ((Kt.ext e2 t2).trans (Kt.kp0 t2 k3)) hn fun j z hz => ?_
    exact e3 j (.int z) (by rw [List.getElem?_map, hz]; rfl)
end
end RD
namespace RD
open PySem PySem.Spec PyProof.Rows L2 He
/-! ### wide divisors, fields that are added to, least of a list -/
theorem wide60 {i j : Int} (h0 : 0 < j) (h1 : j < 1152921504606846976) : CDivW i j := wide_div (b := 60) h0 (by omega) (by decide) (by decide)
theorem ixN_at {n : Nat} {i : Int} (h0 : 0 ≤ i) (h1 : i < n) : ixN n i = some i.toNat := by
  unfold ixN
  rw [if_pos h0, if_pos h1]
section
variable {K : PySem.W.Frag} {σ : L2.St} {H : Hp} {nx bk ct : L2.St → Hp → Prop} {rt : VK} {ta tv : TE} {Q : VK} {v : V} {i j : Int}
theorem rd_sfldaug {rd : V → V → Hp → VK → Prop} {f : Str} (h : ta σ H fun x H1 => ∃ a C dx fs v, x = .ref a ∧ H1 a = some (.ins C dx fs) ∧ Cls K C ∧ NoAttr K C f ∧ fs.lookup f = some v ∧
  tv σ H1 fun y H2 => rd v y H2 fun z H3 => ∃ dx' fs', H3 a = some (.ins C dx' fs') ∧ fs'.length < 1000 ∧ nx σ (upd H3 a (.ins C dx' (putF f z fs')))) : sFldAug K ta tv rd f ⟨nx, rt, bk, ct⟩ σ H := h
theorem rd_sfldaugX {f : Str} {a C dx : Addr} {fs : List (Str × V)} {R : Addr → Addr → V → Prop} (h : H a = some (.ins C dx fs)) (c : Cls K C) (n : NoAttr K C f) (l : fs.lookup f = some v) (q : R a C v) :
    ∃ a' C' dx' fs' v', V.ref a = V.ref a' ∧ H a' = some (.ins C' dx' fs') ∧ Cls K C' ∧ NoAttr K C' f ∧ fs'.lookup f = some v' ∧ R a' C' v' := ⟨a, C, dx, fs, v, rfl, h, c, n, l, q⟩
theorem rd_insX {a C dx : Addr} {fs : List (Str × V)} {R : Addr → List (Str × V) → Prop} (h : H a = some (.ins C dx fs)) (l : fs.length < 1000) (q : R dx fs) : ∃ dx' fs', H a = some (.ins C dx' fs') ∧ fs'.length < 1000 ∧ R dx' fs' := ⟨dx, fs, h, l, q⟩
theorem rd_addI (h : Q (.int (i + j)) H) : rAdd (.int i) (.int j) H Q := ⟨i, j, rfl, rfl, h⟩
theorem rd_subI (h : Q (.int (i - j)) H) : rSub (.int i) (.int j) H Q := ⟨i, j, rfl, rfl, h⟩
theorem rd_minL {a : Addr} {ns : List Int} (h : SqL K H a (ns.map V.int)) (l : 0 < ns.length) (q : ∀ m, m ∈ ns → (∀ y, y ∈ ns → m ≤ y) → Q (.int m) H) : rMin K [.ref a] H Q := ⟨a, ns, rfl, h, l, q⟩
end
/-- an optional int -/
abbrev ov : Option Int → V
  | none => .non
  | some i => .int i
theorem ov_non {o : Option Int} : decide (ov o = V.non) = o.isNone := by
  cases o with
  | none => rfl
  | some i => exact decide_eq_false (by intro z; cases z)
/-- the first on the way from a place on -/
def FirstOf (r place : Int) (xs : List Int) : Option Int → Prop
  | none => xs = []
  | some b => b ∈ xs ∧ ∀ z, z ∈ xs → (b - place) % r ≤ (z - place) % r
end RD
namespace RD
open PySem PySem.Spec PyProof.Rows L2 He
/-! ### look-ups whose value comes out plain -/
def lookV {κ : Type} [DecidableEq κ] : List (κ × V) → κ → Option V
  | [], _ => none
  | (a, v) :: r, k => if a = k then some v else lookV r k
theorem lookV_eq {κ : Type} [DecidableEq κ] (k : κ) : ∀ kvs : List (κ × V), valV kvs k = lookV kvs k
  | [] => rfl
  | (a, v) :: r => by
    unfold lookV
    by_cases h : a = k
    · rw [if_pos h]
      exact valV_pos h
    · rw [if_neg h, valV_neg h]
      exact lookV_eq k r
theorem dg_sl {H : Hp} {a : Addr} {v : V} {kvs : List (Key × V)} {s : Str} (e : H a = some (.dK kvs)) (l : lookV kvs (.inr s) = some v) : DGet H a (.str s) (some v) := dg_sv e ((lookV_eq _ _).trans l)
theorem Kt.mine {T : List (Addr × Str)} {ps : List Addr} {H H' : Hp} {p : Addr} {o u : HO} (a : Kt T ps H H') (f : Frn H p) (e : H' p = some u) (w : Plain u) : Kt T ps H (upd H' p o) :=
  ⟨fun c v ev n m => by
    rw [upd_ne (f c v ev n)]
    exact a.1 c v ev n m, tabs_kp a.2 (Kp.refl.wr (ps := [p]) (by simp)) fun q hq => by
    rw [List.mem_singleton.mp hq]
    exact ⟨u, e, w⟩⟩
theorem Kt.mono {T : List (Addr × Str)} {ps qs : List Addr} {H H' : Hp} (a : Kt T ps H H') (h : ∀ p, p ∈ ps → p ∈ qs) : Kt T qs H H' := ⟨fun c o e n m => a.1 c o e n fun z => m (h c z), a.2⟩
theorem Kt.kpP {T : List (Addr × Str)} {ps qs : List Addr} {H H' H2 : Hp} (a : Kt T ps H H') (k : Kp qs H' H2) (n : ∀ p, p ∈ qs → p ∈ ps ∧ ∃ o, H' p = some o ∧ Plain o) : Kt T ps H H2 := a.trans ((Kt.kp a.2 k fun p hp => (n p hp).2).mono fun p hp => (n p hp).1)
end RD

/-! own layer: getters of properties in the head -/
namespace RD
open PySem PySem.Spec PyProof.Rows L2 He
/-- the property object of the class's name, its getter -/
def prA (K : PySem.W.Frag) (c f : Str) : Addr := ma K (ga K c) f
def prG (K : PySem.W.Frag) (c f : Str) : Addr := match PySem.W.recIn K (prA K c f) "property" with
  | some (.ref g :: _) => g
  | _ => 0
def propB (K : PySem.W.Frag) (c f : Str) : Bool :=
  eqO (PySem.W.findIn K (.ref (ga K c)) f) (some (some (.ref (prA K c f)))) && (eqO (PySem.W.specialIn K (.ref (prA K c f)) "__get__") (some (some (.builtin "property.__get__"))) && (decide (PySem.W.takesIn K (.ref (prA K c f)) = some true) && (match PySem.W.recIn K (prA K c f) "property" with
    | some (.ref g :: _) => decide (g = prG K c f)
    | _ => false)))
theorem propB_ok {K : PySem.W.Frag} {c f : Str} (h : propB K c f = true) : PropOf K (ga K c) f (prA K c f) (prG K c f) := by
  obtain ⟨h1, h2⟩ := ba h
  obtain ⟨h3, h4⟩ := ba h2
  obtain ⟨h5, h6⟩ := ba h4
  refine ⟨eqO_ok h1, eqO_ok h3, of_decide_eq_true h5, ?_⟩
  cases e : PySem.W.recIn K (prA K c f) "property" with
  | none =>
    rw [e] at h6
    cases h6
  | some l =>
    rw [e] at h6
    cases l with
    | nil => cases h6
    | cons v r =>
      cases v with
      | ref g =>
        have h7 : g = prG K c f := of_decide_eq_true h6
        exact ⟨r, by rw [h7]⟩
      | _ => cases h6
/-- a property's getter: its class and name, and the def -/
structure GetD where
  cls : Str
  fld : Str
  name : Str
  qual : Str
  params : Arguments
  body : List Stmt
  scope : Scope
def GetD.seen (K : PySem.W.Frag) (d : GetD) : FnW := match K.lookup (prG K d.cls d.fld) with
  | some ⟨_, _, .func fd, _⟩ => some (fd.name, fd.qualname, fd.params, fd.body, fd.scope, fd.globals, fd.closure, fd.builtins)
  | _ => none
def GetD.val (d : GetD) : FnW := some (d.name, d.qual, d.params, .stmts d.body, d.scope, mainGlobals, [], builtinsNs)
def GetD.ok (K : PySem.W.Frag) (d : GetD) : Bool := propB K d.cls d.fld && (PySem.W.keepIn K (.ref (prG K d.cls d.fld)) && (match K.lookup (prG K d.cls d.fld) with
  | some ⟨_, _, .func fd, _⟩ => PySem.W.codeIn K fd.code d.qual && (dflB K fd.defaults [] && kwdB K fd.kwdefaults [])
  | _ => false))
theorem GetD.funD {K : PySem.W.Frag} {d : GetD} (e : d.seen K = d.val) (c : d.ok K = true) : PropOf K (ga K d.cls) d.fld (prA K d.cls d.fld) (prG K d.cls d.fld) ∧ ∃ fd, FunD K d.name d.qual d.params d.body d.scope [] [] (prG K d.cls d.fld) fd := by
  obtain ⟨c0, c1⟩ := ba c
  obtain ⟨kp, c2⟩ := ba c1
  refine ⟨propB_ok c0, ?_⟩
  unfold GetD.seen at e
  cases q : K.lookup (prG K d.cls d.fld) with
  | none =>
    rw [q] at c2
    cases c2
  | some o =>
    obtain ⟨oc, od, dt, osl⟩ := o
    rw [q] at c2 e
    cases dt with
    | func fd =>
      obtain ⟨n1, n2, n3, n4, n5, n6, n7, n8, n9, n10, n11, n12, n13, n14, n15⟩ := fd
      have e2 : (some (n1, n2, n3, n4, n5, n6, n7, n15) : FnW) = some (d.name, d.qual, d.params, .stmts d.body, d.scope, mainGlobals, [], builtinsNs) := e
      injection e2 with e2
      simp only [Prod.mk.injEq] at e2
      obtain ⟨a1, a2, a3, a4, a5, a6, a7, a8⟩ := e2
      subst a1 a2 a3 a4 a5 a6 a7 a8
      have c3 : (PySem.W.codeIn K n13 d.qual && (dflB K n8 [] && kwdB K n9 [])) = true := c2
      obtain ⟨k1, k2⟩ := ba c3
      obtain ⟨k3, k4⟩ := ba k2
      exact ⟨_, ⟨oc, od, n8, n9, n10, n11, n12, n13, n14, osl, rfl, q, k1, dflB_ok k3, kwdB_ok k4⟩, kp⟩
    | _ => cases c2
/-- the head of a law with properties and tables -/
abbrev AlP : Type := AlX × (Bool × List FnW)
def obsP (n : Nat) (fa : List Fa) (fn : List DefD) (gs : List GetD) (tf : List Defn) (ex : PySem.W.Frag → Bool) (g : Addr → Option Obj) : AlP := (obsX n fa fn [] tf ex g, (gs.all (GetD.ok (frT g (asD g n))), gs.map (GetD.seen (frT g (asD g n)))))
structure SaysP (fa : List Fa) (fn : List DefD) (gs : List GetD) (tf : List Defn) (ex : PySem.W.Frag → Bool) (w : World) (h : Heap) (K : PySem.W.Frag) : Prop where
  x : SaysX fa fn [] tf ex w h K
  ok : gs.all (GetD.ok K) = true
  seen : gs.map (GetD.seen K) = gs.map GetD.val
def hookP (n : Nat) (fa : List Fa) (fn : List DefD) (gs : List GetD) (tf : List Defn) (ex : PySem.W.Frag → Bool) : PySem.W.Hook where
  α := AlP
  obs := fun s => obsP n fa fn gs tf ex s.heap.get?
  val := fun w => (valX fn [] w, (true, gs.map GetD.val))
  says := fun w h => ∃ K : PySem.W.Frag, K.In h ∧ SaysP fa fn gs tf ex w h K
  of := fun _ _ e => ⟨_, frT_in, saysX_of (congrArg (fun z : AlP => z.1) e), congrArg (fun z : AlP => z.2.1) e, congrArg (fun z : AlP => z.2.2) e⟩
  keeps := fun _ _ _ ⟨K, hK, c⟩ k => ⟨K, PySem.W.Frag.In.keeps hK k, ⟨⟨c.x.t, c.x.more, c.x.hd, c.x.out, fun p hp => k _ _ (c.x.empty p hp)⟩, c.ok, c.seen⟩⟩
theorem obsP_eq {n : Nat} {fa : List Fa} {fn : List DefD} {gs : List GetD} {tf : List Defn} {ex : PySem.W.Frag → Bool} {g : Addr → Option Obj} {s : Shared} (h : ∀ a, g a = s.heap.get? a) : obsP n fa fn gs tf ex g = (hookP n fa fn gs tf ex).obs s := by
  have e : g = s.heap.get? := funext h
  rw [e] <;> rfl
theorem SaysP.get {fa : List Fa} {fn : List DefD} {gs : List GetD} {tf : List Defn} {ex : PySem.W.Frag → Bool} {w : World} {h : Heap} {K : PySem.W.Frag} (c : SaysP fa fn gs tf ex w h K) {d : GetD} (hd : d ∈ gs) :
    PropOf K (ga K d.cls) d.fld (prA K d.cls d.fld) (prG K d.cls d.fld) ∧ ∃ fd, FunD K d.name d.qual d.params d.body d.scope [] [] (prG K d.cls d.fld) fd := by
  obtain ⟨i, hi, e⟩ := List.mem_iff_getElem.mp hd
  have e1 := congrArg (fun l : List FnW => l[i]?) c.seen
  have e2 : gs[i]? = some d := by rw [List.getElem?_eq_getElem hi, e]
  simp only [List.getElem?_map, e2, Option.map_some, Option.some.injEq] at e1
  exact GetD.funD e1 (List.all_eq_true.mp c.ok d hd)
/-- a property in one piece -/
structure PrpX (P : Program) (w : World) (K : PySem.W.Frag) (mg : Str → Option Value) (base : Heap) (CX : CXT) (k : Nat) (C : Addr) (f : Str) (sp : Sp) : Prop where
  ex : ∃ (p g : Addr) (fd : FuncData) (ps : List Str), Cls K C ∧ PropOf K C f p g ∧ FnOk P w K mg base CX k g fd ps sp ∧ Binds K fd ps []
theorem pe_prpX {X : Cx} {CX : CXT} {k j : Nat} {C : Addr} {f : Str} {sp : Sp} {E : XK} {e : Expr} {pos : Pos} {ta : TE} (c : PrpX X.prog X.w X.K X.mg X.base CX k C f sp) (hr : Room j X.A) (hk : k + 1 ≤ j) (hx : Passes CX X.nox E) (he : PE X e ta)
    (hab : attributeBase e f X.env (eval e X.env) = eval e X.env := by rfl) : PE X (.Attribute e f pos) (tProp C sp [] E ta) := by
  obtain ⟨p, g, fd, ps, cl, hp, F, b⟩ := c.ex
  exact pe_prop he cl hp F (hr.mono hk) b .nil hx hab
end RD

namespace My
open PySem PySem.Spec PyProof.Rows L2 He RD
open PySem PySem.Spec PyProof.Rows L2 He RD
def top (i : Nat) : Stmt := PySem.Challenge.pw_livingroll_k24_tour_aims.main.body.getD i (.Pass ⟨0, 0, 0, 0⟩)
abbrev R : PySem.W.OpenRow := PySem.W.OpenLaw.row PySem.Challenge.rw_livingroll_k24_tour_aims
abbrev s_l_box : Stmt := (top 12)
abbrev n_l_box : List Str := ["_law_script", "_law_cells", "_law_cell"]
abbrev p_l_box : List Str := ["_law_script"]
theorem sc_l_box : FnScope n_l_box p_l_box (defScope s_l_box) := ⟨rfl, rfl, rfl, by decide +kernel, rfl, by decide +kernel, by decide +kernel⟩
def d_l_box : DefD := ⟨("_law_box", none), "_law_box", "_law_box", defArgs s_l_box, defBody s_l_box, defScope s_l_box, [], []⟩
abbrev s_l_draw : Stmt := (top 13)
abbrev n_l_draw : List Str := ["_law_box_here", "_law_top", "_law_digit", "_law_cells", "_law_place", "_law_cell", "_law_mixed"]
abbrev p_l_draw : List Str := ["_law_box_here", "_law_top"]
theorem sc_l_draw : FnScope n_l_draw p_l_draw (defScope s_l_draw) := ⟨rfl, rfl, rfl, by decide +kernel, rfl, by decide +kernel, by decide +kernel⟩
def d_l_draw : DefD := ⟨("_law_draw", none), "_law_draw", "_law_draw", defArgs s_l_draw, defBody s_l_draw, defScope s_l_draw, [], []⟩
abbrev s_l_bits : Stmt := (top 14)
abbrev n_l_bits : List Str := ["_law_box_here", "_law_way"]
abbrev p_l_bits : List Str := ["_law_box_here"]
theorem sc_l_bits : FnScope n_l_bits p_l_bits (defScope s_l_bits) := ⟨rfl, rfl, rfl, by decide +kernel, rfl, by decide +kernel, by decide +kernel⟩
def d_l_bits : DefD := ⟨("_law_bits", none), "_law_bits", "_law_bits", defArgs s_l_bits, defBody s_l_bits, defScope s_l_bits, [], []⟩
abbrev s_l_patience : Stmt := (top 15)
abbrev n_l_patience : List Str := ["_law_box_here", "_law_way"]
abbrev p_l_patience : List Str := ["_law_box_here"]
theorem sc_l_patience : FnScope n_l_patience p_l_patience (defScope s_l_patience) := ⟨rfl, rfl, rfl, by decide +kernel, rfl, by decide +kernel, by decide +kernel⟩
def d_l_patience : DefD := ⟨("_law_patience", none), "_law_patience", "_law_patience", defArgs s_l_patience, defBody s_l_patience, defScope s_l_patience, [], []⟩
abbrev s_whole : Stmt := (top 5)
abbrev n_whole : List Str := ["value", "low", "high"]
abbrev p_whole : List Str := ["value", "low", "high"]
theorem sc_whole : FnScope n_whole p_whole (defScope s_whole) := ⟨rfl, rfl, rfl, by decide +kernel, rfl, by decide +kernel, by decide +kernel⟩
def d_whole : DefD := ⟨("whole", none), "whole", "whole", defArgs s_whole, defBody s_whole, defScope s_whole, [], []⟩
abbrev s_Setting_init : Stmt := (inClass (top 6) 5)
abbrev n_Setting_init : List Str := ["self", "bits", "patience", "room", "grace", "helpers"]
abbrev p_Setting_init : List Str := ["self", "bits", "patience", "room", "grace", "helpers"]
theorem sc_Setting_init : FnScope n_Setting_init p_Setting_init (defScope s_Setting_init) := ⟨rfl, rfl, rfl, by decide +kernel, rfl, by decide +kernel, by decide +kernel⟩
def d_Setting_init : DefD := ⟨("Setting", some "__init__"), "__init__", "Setting.__init__", defArgs s_Setting_init, defBody s_Setting_init, defScope s_Setting_init, [], [("grace", .int 6), ("helpers", .int 1)]⟩
abbrev s_Setting_seats : Stmt := (inClass (top 6) 7)
abbrev n_Setting_seats : List Str := ["self"]
abbrev p_Setting_seats : List Str := ["self"]
theorem sc_Setting_seats : FnScope n_Setting_seats p_Setting_seats (defScope s_Setting_seats) := ⟨rfl, rfl, rfl, by decide +kernel, rfl, by decide +kernel, by decide +kernel⟩
def g_Setting_seats : GetD := ⟨"Setting", "seats", "seats", "Setting.seats", defArgs s_Setting_seats, defBody s_Setting_seats, defScope s_Setting_seats⟩
abbrev s_distance : Stmt := (top 7)
abbrev n_distance : List Str := ["setting", "seat", "other"]
abbrev p_distance : List Str := ["setting", "seat", "other"]
theorem sc_distance : FnScope n_distance p_distance (defScope s_distance) := ⟨rfl, rfl, rfl, by decide +kernel, rfl, by decide +kernel, by decide +kernel⟩
def d_distance : DefD := ⟨("distance", none), "distance", "distance", defArgs s_distance, defBody s_distance, defScope s_distance, [], []⟩
abbrev s_first_from : Stmt := (top 8)
abbrev n_first_from : List Str := ["setting", "place", "held"]
abbrev p_first_from : List Str := ["setting", "place", "held"]
theorem sc_first_from : FnScope n_first_from p_first_from (defScope s_first_from) := ⟨rfl, rfl, rfl, by decide +kernel, rfl, by decide +kernel, by decide +kernel⟩
def d_first_from : DefD := ⟨("first_from", none), "first_from", "first_from", defArgs s_first_from, defBody s_first_from, defScope s_first_from, [], []⟩
abbrev s_Tour_init : Stmt := (inClass (top 10) 0)
abbrev n_Tour_init : List Str := ["self", "setting", "seat", "behind"]
abbrev p_Tour_init : List Str := ["self", "setting", "seat", "behind"]
theorem sc_Tour_init : FnScope n_Tour_init p_Tour_init (defScope s_Tour_init) := ⟨rfl, rfl, rfl, by decide +kernel, rfl, by decide +kernel, by decide +kernel⟩
def d_Tour_init : DefD := ⟨("Tour", some "__init__"), "__init__", "Tour.__init__", defArgs s_Tour_init, defBody s_Tour_init, defScope s_Tour_init, [], [("behind", .non)]⟩
abbrev s_Tour_aim : Stmt := (inClass (top 10) 1)
abbrev n_Tour_aim : List Str := ["self", "names"]
abbrev p_Tour_aim : List Str := ["self", "names"]
theorem sc_Tour_aim : FnScope n_Tour_aim p_Tour_aim (defScope s_Tour_aim) := ⟨rfl, rfl, rfl, by decide +kernel, rfl, by decide +kernel, by decide +kernel⟩
def d_Tour_aim : DefD := ⟨("Tour", some "aim"), "aim", "Tour.aim", defArgs s_Tour_aim, defBody s_Tour_aim, defScope s_Tour_aim, [], []⟩
abbrev s_Tour_report : Stmt := (inClass (top 10) 2)
abbrev n_Tour_report : List Str := ["self", "success"]
abbrev p_Tour_report : List Str := ["self", "success"]
theorem sc_Tour_report : FnScope n_Tour_report p_Tour_report (defScope s_Tour_report) := ⟨rfl, rfl, rfl, by decide +kernel, rfl, by decide +kernel, by decide +kernel⟩
def d_Tour_report : DefD := ⟨("Tour", some "report"), "report", "Tour.report", defArgs s_Tour_report, defBody s_Tour_report, defScope s_Tour_report, [], []⟩
abbrev s_l_flags : Stmt := (top 16)
abbrev n_l_flags : List Str := ["_law_box_here", "_law_ring", "_law_own", "_law_way", "_law_chunk", "_law_flags_here", "_law_spot"]
abbrev p_l_flags : List Str := ["_law_box_here", "_law_ring", "_law_own"]
theorem sc_l_flags : FnScope n_l_flags p_l_flags (defScope s_l_flags) := ⟨rfl, rfl, rfl, by decide +kernel, rfl, by decide +kernel, by decide +kernel⟩
def d_l_flags : DefD := ⟨("_law_flags", none), "_law_flags", "_law_flags", defArgs s_l_flags, defBody s_l_flags, defScope s_l_flags, [], []⟩
abbrev s_l_first : Stmt := (top 17)
abbrev n_l_first : List Str := ["_law_ring", "_law_place", "_law_names_here", "_law_ahead", "_law_spot"]
abbrev p_l_first : List Str := ["_law_ring", "_law_place", "_law_names_here"]
theorem sc_l_first : FnScope n_l_first p_l_first (defScope s_l_first) := ⟨rfl, rfl, rfl, by decide +kernel, rfl, by decide +kernel, by decide +kernel⟩
def d_l_first : DefD := ⟨("_law_first", none), "_law_first", "_law_first", defArgs s_l_first, defBody s_l_first, defScope s_l_first, [], []⟩
abbrev s_l_same : Stmt := (top 18)
abbrev n_l_same : List Str := ["_law_answer", "_law_want"]
abbrev p_l_same : List Str := ["_law_answer", "_law_want"]
theorem sc_l_same : FnScope n_l_same p_l_same (defScope s_l_same) := ⟨rfl, rfl, rfl, by decide +kernel, rfl, by decide +kernel, by decide +kernel⟩
def d_l_same : DefD := ⟨("_law_same", none), "_law_same", "_law_same", defArgs s_l_same, defBody s_l_same, defScope s_l_same, [], []⟩
abbrev s_l_turn_seat : Stmt := (top 20)
abbrev n_l_turn_seat : List Str := ["_law_box_here", "_law_state", "_law_flags_here", "_law_spot"]
abbrev p_l_turn_seat : List Str := ["_law_box_here", "_law_state"]
theorem sc_l_turn_seat : FnScope n_l_turn_seat p_l_turn_seat (defScope s_l_turn_seat) := ⟨rfl, rfl, rfl, by decide +kernel, rfl, by decide +kernel, by decide +kernel⟩
def d_l_turn_seat : DefD := ⟨("_law_turn_seat", none), "_law_turn_seat", "_law_turn_seat", defArgs s_l_turn_seat, defBody s_l_turn_seat, defScope s_l_turn_seat, [], []⟩
abbrev s_l_made : Stmt := (top 19)
abbrev n_l_made : List Str := ["_law_box_here", "_law_bits_here", "_law_ring", "_law_patience_here", "_law_setting", "_law_own", "_law_way", "_law_last", "_law_tour", "_law_state"]
abbrev p_l_made : List Str := ["_law_box_here"]
theorem sc_l_made : FnScope n_l_made p_l_made (defScope s_l_made) := ⟨rfl, rfl, rfl, by decide +kernel, rfl, by decide +kernel, by decide +kernel⟩
def d_l_made : DefD := ⟨("_law_made", none), "_law_made", "_law_made", defArgs s_l_made, defBody s_l_made, defScope s_l_made, [], []⟩
abbrev s_l_names : Stmt := (top 21)
abbrev n_l_names : List Str := ["_law_box_here", "_law_state", "_law_way", "_law_flags_here", "_law_kept", "_law_spot"]
abbrev p_l_names : List Str := ["_law_box_here", "_law_state"]
theorem sc_l_names : FnScope n_l_names p_l_names (defScope s_l_names) := ⟨rfl, rfl, rfl, by decide +kernel, rfl, by decide +kernel, by decide +kernel⟩
def d_l_names : DefD := ⟨("_law_names", none), "_law_names", "_law_names", defArgs s_l_names, defBody s_l_names, defScope s_l_names, [], []⟩
abbrev s_l_follow_aim : Stmt := (top 22)
abbrev n_l_follow_aim : List Str := ["_law_state", "_law_names_here"]
abbrev p_l_follow_aim : List Str := ["_law_state", "_law_names_here"]
theorem sc_l_follow_aim : FnScope n_l_follow_aim p_l_follow_aim (defScope s_l_follow_aim) := ⟨rfl, rfl, rfl, by decide +kernel, rfl, by decide +kernel, by decide +kernel⟩
def d_l_follow_aim : DefD := ⟨("_law_follow_aim", none), "_law_follow_aim", "_law_follow_aim", defArgs s_l_follow_aim, defBody s_l_follow_aim, defScope s_l_follow_aim, [], []⟩
abbrev s_l_follow_report : Stmt := (top 23)
abbrev n_l_follow_report : List Str := ["_law_state", "_law_passed"]
abbrev p_l_follow_report : List Str := ["_law_state", "_law_passed"]
theorem sc_l_follow_report : FnScope n_l_follow_report p_l_follow_report (defScope s_l_follow_report) := ⟨rfl, rfl, rfl, by decide +kernel, rfl, by decide +kernel, by decide +kernel⟩
def d_l_follow_report : DefD := ⟨("_law_follow_report", none), "_law_follow_report", "_law_follow_report", defArgs s_l_follow_report, defBody s_l_follow_report, defScope s_l_follow_report, [], []⟩
abbrev s_l_shown : Stmt := (top 24)
abbrev n_l_shown : List Str := ["_law_tours", "_law_states", "_law_k"]
abbrev p_l_shown : List Str := ["_law_tours", "_law_states"]
theorem sc_l_shown : FnScope n_l_shown p_l_shown (defScope s_l_shown) := ⟨rfl, rfl, rfl, by decide +kernel, rfl, by decide +kernel, by decide +kernel⟩
def d_l_shown : DefD := ⟨("_law_shown", none), "_law_shown", "_law_shown", defArgs s_l_shown, defBody s_l_shown, defScope s_l_shown, [], []⟩
abbrev s_law : Stmt := (top 25)
abbrev n_law : List Str := ["_law_script", "_law_box_here", "_law_rows", "_law_one", "_law_two", "_law_tours", "_law_states", "_law_row", "_law_which", "_law_tour", "_law_state", "_law_names_here", "_law_handed", "_law_answer", "_law_looked", "_law_way"]
abbrev p_law : List Str := ["_law_script"]
theorem sc_law : FnScope n_law p_law (defScope s_law) := ⟨rfl, rfl, rfl, by decide +kernel, rfl, by decide +kernel, by decide +kernel⟩
def d_law : DefD := ⟨("law", none), "law", "law", defArgs s_law, defBody s_law, defScope s_law, [], []⟩
def fn : List DefD := [d_l_box, d_l_draw, d_l_bits, d_l_patience, d_whole, d_Setting_init, d_distance, d_first_from, d_Tour_init, d_Tour_aim, d_Tour_report, d_l_flags, d_l_first, d_l_same, d_l_turn_seat, d_l_made, d_l_names, d_l_follow_aim, d_l_follow_report, d_l_shown, d_law]
def fa : List Fa := [.free "abs", .free "bool", .free "int", .free "isinstance", .free "len", .free "list", .free "min", .free "range", .glo "_law_box", .glo "_law_draw", .glo "_law_bits", .glo "_law_patience", .glo "whole", .glo "distance", .glo "first_from", .meth "Tour" "aim", .meth "Tour" "report", .glo "_law_flags", .glo "_law_first", .glo "_law_same", .glo "_law_turn_seat", .glo "_law_made", .glo "_law_names", .glo "_law_follow_aim", .glo "_law_follow_report", .glo "_law_shown", .glo "law", .glo "Setting", .cls "Setting", .mkr "Setting", .noat "Setting" "bits", .noat "Setting" "patience", .noat "Setting" "room", .noat "Setting" "grace", .noat "Setting" "helpers", .glo "Tour", .cls "Tour", .mkr "Tour", .noat "Tour" "current", .noat "Tour" "failed", .noat "Tour" "_setting", .noat "Tour" "_last", .noat "Tour" "_running"]
def ex (K : PySem.W.Frag) : Bool := conB K "Setting" "MOST_BITS" (.int 8) && (conB K "Setting" "MOST_PATIENCE" (.int 6) && (conB K "Setting" "MOST_ROOM" (.int 64) && (conB K "Setting" "MOST_GRACE" (.int 200) && (conB K "Setting" "MOST_HELPERS" (.int 3)))))
def tf : List He.Defn := [d_first_from.at_]
def gs : List GetD := [g_Setting_seats]
abbrev TT (K : PySem.W.Frag) : List (Addr × Str) := [((He.cT K d_first_from.at_).2, "first_from.<locals>.<lambda>")]
structure Tb (K : PySem.W.Frag) (mg : Str → Option Value) (base : Heap) : Prop where
  t : ∀ p, p ∈ tf.map (He.cT K) → LamX.TabB base mg p.1 p.2
  g : ∀ d, d ∈ gs → PropOf K (ga K d.cls) d.fld (prA K d.cls d.fld) (prG K d.cls d.fld) ∧ ∃ fd, FunD K d.name d.qual d.params d.body d.scope [] [] (prG K d.cls d.fld) fd
abbrev Cx (K : PySem.W.Frag) (mg : Str → Option Value) : Prop := RD.Ctx fa fn ex K mg
section
variable {K : PySem.W.Frag} {mg : Str → Option Value}
theorem fr_abs (T : Cx K mg) : mg "abs" = none := T.fre 0
theorem fr_bool (T : Cx K mg) : mg "bool" = none := T.fre 1
theorem fr_int (T : Cx K mg) : mg "int" = none := T.fre 2
theorem fr_isinstance (T : Cx K mg) : mg "isinstance" = none := T.fre 3
theorem fr_len (T : Cx K mg) : mg "len" = none := T.fre 4
theorem fr_list (T : Cx K mg) : mg "list" = none := T.fre 5
theorem fr_min (T : Cx K mg) : mg "min" = none := T.fre 6
theorem fr_range (T : Cx K mg) : mg "range" = none := T.fre 7
theorem gl_l_box (T : Cx K mg) : mg "_law_box" = some (.ref (ga K "_law_box")) := T.glo 8
theorem gl_l_draw (T : Cx K mg) : mg "_law_draw" = some (.ref (ga K "_law_draw")) := T.glo 9
theorem gl_l_bits (T : Cx K mg) : mg "_law_bits" = some (.ref (ga K "_law_bits")) := T.glo 10
theorem gl_l_patience (T : Cx K mg) : mg "_law_patience" = some (.ref (ga K "_law_patience")) := T.glo 11
theorem gl_whole (T : Cx K mg) : mg "whole" = some (.ref (ga K "whole")) := T.glo 12
theorem gl_distance (T : Cx K mg) : mg "distance" = some (.ref (ga K "distance")) := T.glo 13
theorem gl_first_from (T : Cx K mg) : mg "first_from" = some (.ref (ga K "first_from")) := T.glo 14
theorem mt_Tour_aim (T : Cx K mg) : Meth K (ga K "Tour") "aim" (ma K (ga K "Tour") "aim") := T.meth 15
theorem mt_Tour_report (T : Cx K mg) : Meth K (ga K "Tour") "report" (ma K (ga K "Tour") "report") := T.meth 16
theorem gl_l_flags (T : Cx K mg) : mg "_law_flags" = some (.ref (ga K "_law_flags")) := T.glo 17
theorem gl_l_first (T : Cx K mg) : mg "_law_first" = some (.ref (ga K "_law_first")) := T.glo 18
theorem gl_l_same (T : Cx K mg) : mg "_law_same" = some (.ref (ga K "_law_same")) := T.glo 19
theorem gl_l_turn_seat (T : Cx K mg) : mg "_law_turn_seat" = some (.ref (ga K "_law_turn_seat")) := T.glo 20
theorem gl_l_made (T : Cx K mg) : mg "_law_made" = some (.ref (ga K "_law_made")) := T.glo 21
theorem gl_l_names (T : Cx K mg) : mg "_law_names" = some (.ref (ga K "_law_names")) := T.glo 22
theorem gl_l_follow_aim (T : Cx K mg) : mg "_law_follow_aim" = some (.ref (ga K "_law_follow_aim")) := T.glo 23
theorem gl_l_follow_report (T : Cx K mg) : mg "_law_follow_report" = some (.ref (ga K "_law_follow_report")) := T.glo 24
theorem gl_l_shown (T : Cx K mg) : mg "_law_shown" = some (.ref (ga K "_law_shown")) := T.glo 25
theorem gl_law (T : Cx K mg) : mg "law" = some (.ref (ga K "law")) := T.glo 26
theorem gl_Setting (T : Cx K mg) : mg "Setting" = some (.ref (ga K "Setting")) := T.glo 27
theorem cl_Setting (T : Cx K mg) : Cls K (ga K "Setting") := T.cls 28
theorem mk_Setting (T : Cx K mg) : Mk K (ga K "Setting") (ma K (ga K "Setting") "__init__") := T.mkr 29
theorem na_Setting_bits (T : Cx K mg) : NoAttr K (ga K "Setting") "bits" := T.noat 30
theorem na_Setting_patience (T : Cx K mg) : NoAttr K (ga K "Setting") "patience" := T.noat 31
theorem na_Setting_room (T : Cx K mg) : NoAttr K (ga K "Setting") "room" := T.noat 32
theorem na_Setting_grace (T : Cx K mg) : NoAttr K (ga K "Setting") "grace" := T.noat 33
theorem na_Setting_helpers (T : Cx K mg) : NoAttr K (ga K "Setting") "helpers" := T.noat 34
theorem gl_Tour (T : Cx K mg) : mg "Tour" = some (.ref (ga K "Tour")) := T.glo 35
theorem cl_Tour (T : Cx K mg) : Cls K (ga K "Tour") := T.cls 36
theorem mk_Tour (T : Cx K mg) : Mk K (ga K "Tour") (ma K (ga K "Tour") "__init__") := T.mkr 37
theorem na_Tour_current (T : Cx K mg) : NoAttr K (ga K "Tour") "current" := T.noat 38
theorem na_Tour_failed (T : Cx K mg) : NoAttr K (ga K "Tour") "failed" := T.noat 39
theorem na_Tour__setting (T : Cx K mg) : NoAttr K (ga K "Tour") "_setting" := T.noat 40
theorem na_Tour__last (T : Cx K mg) : NoAttr K (ga K "Tour") "_last" := T.noat 41
theorem na_Tour__running (T : Cx K mg) : NoAttr K (ga K "Tour") "_running" := T.noat 42
end

/-- the drawing box: at p the list of the cells' list and three ints -/
structure Box (H : Hp) (p c : Addr) : Prop where
  ex : ∃ (ns : List Int) (a b d : Int), H p = some (.lst [.ref c, .int a, .int b, .int d]) ∧ H c = some (.lst (ns.map V.int)) ∧ ns ≠ [] ∧ ns.length ≤ 63
  ne : c ≠ p
theorem Box.kp {H H' : Hp} {p c : Addr} {ps : List Addr} (B : Box H p c) (k : Kp ps H H') (n1 : p ∉ ps) (n2 : c ∉ ps) : Box H' p c := by
  obtain ⟨⟨ns, a, b, d, h1, h2, h3, h4⟩, ne⟩ := B
  exact ⟨⟨ns, a, b, d, k _ _ h1 n1, k _ _ h2 n2, h3, h4⟩, ne⟩
theorem Box.k0 {H H' : Hp} {p c : Addr} (B : Box H p c) (k : Kp [] H H') : Box H' p c := B.kp k (by simp) (by simp)
theorem Box.k1 {H H' : Hp} {p c q : Addr} (B : Box H p c) (k : Kp [q] H H') (n1 : p ≠ q) (n2 : c ≠ q) : Box H' p c := B.kp k (by simp [n1]) (by simp [n2])
theorem Box.new {H : Hp} {p c q : Addr} {o : HO} (B : Box H p c) (k : H q = none) : Box (upd H q o) p c := B.k0 (Kp.new k)
theorem Box.kt {H H' : Hp} {p c : Addr} {TT : List (Addr × Str)} (B : Box H p c) (k : Kt TT [] H H') : Box H' p c := by
  obtain ⟨⟨ns, a, b, d, h1, h2, h3, h4⟩, ne⟩ := B
  exact ⟨⟨ns, a, b, d, k.g0 (by intro _ z; cases z) h1, k.g0 (by intro _ z; cases z) h2, h3, h4⟩, ne⟩
theorem Box.at {H : Hp} {p c : Addr} (B : Box H p c) : ∃ xs, H p = some (.lst xs) ∧ H c ≠ none := by
  obtain ⟨⟨ns, a, b, d, h1, h2, h3, h4⟩, ne⟩ := B
  exact ⟨_, h1, by rw [h2]; simp⟩
theorem Box.tabs {H H' : Hp} {p c : Addr} {TT : List (Addr × Str)} (B : Box H p c) (h : LamX.Tabs TT H) (k : Kp [p] H H') : LamX.Tabs TT H' := by
  obtain ⟨⟨ns, a, b, d, h1, h2, h3, h4⟩, ne⟩ := B
  exact tabs_kp h k fun q hq => by
    rw [List.mem_singleton.mp hq]
    exact ⟨_, h1, trivial⟩
theorem Box.ne1 {H : Hp} {p c q : Addr} (B : Box H p c) (k : H q = none) : p ≠ q := by
  obtain ⟨xs, h, _⟩ := B.at
  exact ne_of_none h k
theorem Box.ne2 {H : Hp} {p c q : Addr} (B : Box H p c) (k : H q = none) : c ≠ q := by
  obtain ⟨⟨ns, a, b, d, h1, h2, h3, h4⟩, ne⟩ := B
  exact ne_of_none h2 k

/-- the numbers of a setting -/
structure Stg where
  bits : Int
  pat : Int
  room : Int
  grace : Int
  hel : Int
structure Stg.Ok (s : Stg) : Prop where
  b0 : 1 ≤ s.bits
  b1 : s.bits ≤ 8
  p0 : 1 ≤ s.pat
  p1 : s.pat ≤ 6
  r0 : 1 ≤ s.room
  r1 : s.room ≤ 64
  g0 : 1 ≤ s.grace
  g1 : s.grace ≤ 200
  h0 : 0 ≤ s.hel
  h1 : s.hel ≤ 3
@[irreducible] def Stg.ring (s : Stg) : Int := 2 ^ s.bits.toNat
theorem Stg.ring_eq (s : Stg) : s.ring = 2 ^ s.bits.toNat := by
  unfold Stg.ring
  rfl
def Stg.fs (s : Stg) : List (Str × V) := [(("bits" : Str), .int s.bits), (("patience" : Str), .int s.pat), (("room" : Str), .int s.room), (("grace" : Str), .int s.grace), (("helpers" : Str), .int s.hel)]
theorem Stg.Ok.ring {s : Stg} (h : s.Ok) : s.ring = 2 ∨ s.ring = 4 ∨ s.ring = 8 ∨ s.ring = 16 ∨ s.ring = 32 ∨ s.ring = 64 ∨ s.ring = 128 ∨ s.ring = 256 := by
  have h0 := h.b0
  have h1 := h.b1
  have e : s.bits = 1 ∨ s.bits = 2 ∨ s.bits = 3 ∨ s.bits = 4 ∨ s.bits = 5 ∨ s.bits = 6 ∨ s.bits = 7 ∨ s.bits = 8 := by omega
  rw [Stg.ring_eq]
  rcases e with e | e | e | e | e | e | e | e <;> rw [e] <;> decide
theorem Stg.Ok.r2 {s : Stg} (h : s.Ok) : 2 ≤ s.ring := by
  have := h.ring
  omega
theorem Stg.Ok.r256 {s : Stg} (h : s.Ok) : s.ring ≤ 256 := by
  have := h.ring
  omega
/-- a setting stands at p -/
structure SetAt (K : PySem.W.Frag) (H : Hp) (p : Addr) (s : Stg) : Prop where
  ex : ∃ dx : Addr, H p = some (.ins (ga K "Setting") dx s.fs)
  ok : s.Ok
theorem SetAt.kp {K : PySem.W.Frag} {H H' : Hp} {p : Addr} {s : Stg} {ps : List Addr} (S : SetAt K H p s) (k : Kp ps H H') (n : p ∉ ps) : SetAt K H' p s := by
  obtain ⟨⟨dx, h⟩, ok⟩ := S
  exact ⟨⟨dx, k _ _ h n⟩, ok⟩
theorem SetAt.k0 {K : PySem.W.Frag} {H H' : Hp} {p : Addr} {s : Stg} (S : SetAt K H p s) (k : Kp [] H H') : SetAt K H' p s := S.kp k (by simp)
theorem SetAt.k1 {K : PySem.W.Frag} {H H' : Hp} {p q : Addr} {s : Stg} (S : SetAt K H p s) (k : Kp [q] H H') (n : p ≠ q) : SetAt K H' p s := S.kp k (by simp [n])
theorem SetAt.kt {K : PySem.W.Frag} {H H' : Hp} {p : Addr} {s : Stg} {TT : List (Addr × Str)} (S : SetAt K H p s) (k : Kt TT [] H H') : SetAt K H' p s := by
  obtain ⟨⟨dx, h⟩, ok⟩ := S
  exact ⟨⟨dx, k.g0 (by intro _ z; cases z) h⟩, ok⟩
theorem SetAt.nelst {K : PySem.W.Frag} {H : Hp} {p q : Addr} {s : Stg} {xs : List V} (S : SetAt K H p s) (h : H q = some (.lst xs)) : p ≠ q := by
  obtain ⟨⟨dx, e⟩, ok⟩ := S
  exact ne_of e h (by intro z; cases z)

theorem SetAt.neins {K : PySem.W.Frag} {H : Hp} {p q C dx : Addr} {s : Stg} {f : Str} {v : V} {fs : List (Str × V)} (S : SetAt K H p s) (h : H q = some (.ins C dx ((f, v) :: fs))) (n : f ≠ "bits") : p ≠ q := by
  obtain ⟨⟨dx, e⟩, ok⟩ := S
  refine ne_of e h fun z => ?_
  injection z with _ _ e1
  injection e1 with e2 _
  injection e2 with e3
  exact n e3.symm
theorem SetAt.neins' {K : PySem.W.Frag} {H : Hp} {p q C dx : Addr} {s : Stg} (S : SetAt K H p s) (h : H q = some (.ins C dx [])) : p ≠ q := by
  obtain ⟨⟨dx, e⟩, ok⟩ := S
  refine ne_of e h fun z => ?_
  injection z with _ _ e1
  cases e1
theorem SetAt.nedK {K : PySem.W.Frag} {H : Hp} {p q : Addr} {s : Stg} {xs : List (Key × V)} (S : SetAt K H p s) (h : H q = some (.dK xs)) : p ≠ q := by
  obtain ⟨⟨dx, e⟩, ok⟩ := S
  exact ne_of e h (by intro z; cases z)
theorem con_MOST_BITS {K : PySem.W.Frag} {mg : Str → Option Value} (T : Cx K mg) : ∃ u, Con K (ga K "Setting") "MOST_BITS" (.int 8) u := conB_ok (v := .int 8) (ba T.ex).1
theorem con_MOST_PATIENCE {K : PySem.W.Frag} {mg : Str → Option Value} (T : Cx K mg) : ∃ u, Con K (ga K "Setting") "MOST_PATIENCE" (.int 6) u := conB_ok (v := .int 6) (ba (ba T.ex).2).1
theorem con_MOST_ROOM {K : PySem.W.Frag} {mg : Str → Option Value} (T : Cx K mg) : ∃ u, Con K (ga K "Setting") "MOST_ROOM" (.int 64) u := conB_ok (v := .int 64) (ba (ba (ba T.ex).2).2).1
theorem con_MOST_GRACE {K : PySem.W.Frag} {mg : Str → Option Value} (T : Cx K mg) : ∃ u, Con K (ga K "Setting") "MOST_GRACE" (.int 200) u := conB_ok (v := .int 200) (ba (ba (ba (ba T.ex).2).2).2).1
theorem con_MOST_HELPERS {K : PySem.W.Frag} {mg : Str → Option Value} (T : Cx K mg) : ∃ u, Con K (ga K "Setting") "MOST_HELPERS" (.int 3) u := conB_ok (v := .int 3) (ba (ba (ba (ba T.ex).2).2).2).2

def Ring (r : Int) : Prop := r = 2 ∨ r = 4 ∨ r = 8 ∨ r = 16 ∨ r = 32 ∨ r = 64 ∨ r = 128 ∨ r = 256
theorem Ring.pos {r : Int} (hr : Ring r) : 0 < r := by
  rcases hr with rfl | rfl | rfl | rfl | rfl | rfl | rfl | rfl <;> omega
theorem Ring.le {r : Int} (hr : Ring r) : r ≤ 256 := by
  rcases hr with rfl | rfl | rfl | rfl | rfl | rfl | rfl | rfl <;> omega
theorem Ring.two {r : Int} (hr : Ring r) : 2 ≤ r := by
  rcases hr with rfl | rfl | rfl | rfl | rfl | rfl | rfl | rfl <;> omega
theorem key_inj {r a b c : Int} (hr : Ring r) (a0 : 0 ≤ a) (a1 : a < r) (b0 : 0 ≤ b) (b1 : b < r) (h : (a - c) % r = (b - c) % r) : a = b := by
  rcases hr with rfl | rfl | rfl | rfl | rfl | rfl | rfl | rfl <;> omega
theorem key_to {r a c : Int} (hr : Ring r) (a0 : 0 ≤ a) (a1 : a < r) : (c + (a - c) % r) % r = a := by
  rcases hr with rfl | rfl | rfl | rfl | rfl | rfl | rfl | rfl <;> omega

theorem atI_bls {bs : List Bool} {i : Int} (h0 : 0 ≤ i) (h1 : i < bs.length) : atI (bs.map V.bl) i = some (.bl (bs.getD i.toNat false)) := by
  obtain ⟨j, rfl⟩ := Int.eq_ofNat_of_zero_le h0
  refine atI_nat ?_
  have hj : j < bs.length := by omega
  rw [List.getElem?_map, List.getElem?_eq_getElem hj]
  simp [hj]

theorem lamU_first_from {K : PySem.W.Frag} {mg : Str → Option Value} (T : Cx K mg) : ∀ p ∈ TT K, p.1 = (He.cT K d_first_from.at_).2 → p.2 = "first_from.<locals>.<lambda>" := fun p hp _ => by rw [List.mem_singleton.mp hp]
theorem first_uniq {r place : Int} {xs : List Int} {a b : Option Int} (hr : Ring r) (hx : ∀ z, z ∈ xs → 0 ≤ z ∧ z < r) (ha : FirstOf r place xs a) (hb : FirstOf r place xs b) : a = b := by
  cases a with
  | none =>
    cases b with
    | none => rfl
    | some b =>
      have e : xs = [] := ha
      rw [e] at hb
      cases hb.1
  | some a =>
    cases b with
    | none =>
      have e : xs = [] := hb
      rw [e] at ha
      cases ha.1
    | some b =>
      have h1 := ha.2 b hb.1
      have h2 := hb.2 a ha.1
      have a1 := hx a ha.1
      have b1 := hx b hb.1
      rw [key_inj (c := place) hr a1.1 a1.2 b1.1 b1.2 (by omega)]
/-- what a tour holds beside its setting -/
structure Mo where
  last : Int
  now : Option Int
  run : Bool
  bad : Int
structure Mo.Ok (m : Mo) (r : Int) : Prop where
  now : ∀ n, m.now = some n → 0 ≤ n ∧ n < r
  run : m.run = true → ∃ n, m.now = some n
/-- an aim -/
def AimR (r : Int) (m : Mo) (xs : List Int) (m' : Mo) : Prop :=
  (m.run = true ∧ (∃ n, m.now = some n ∧ n ∈ xs) ∧ m' = m) ∨ (¬ (m.run = true ∧ ∃ n, m.now = some n ∧ n ∈ xs) ∧ ∃ o, FirstOf r (m.last + 1) xs o ∧ m' = ⟨o.getD m.last, o, o.isSome, 0⟩)
theorem AimR.uniq {r : Int} {m a b : Mo} {xs : List Int} (hr : Ring r) (hx : ∀ z, z ∈ xs → 0 ≤ z ∧ z < r) (ha : AimR r m xs a) (hb : AimR r m xs b) : a = b := by
  rcases ha with ⟨h1, h2, rfl⟩ | ⟨h1, o, h2, rfl⟩
  · rcases hb with ⟨h3, h4, rfl⟩ | ⟨h3, o, h4, rfl⟩
    · rfl
    · exact absurd ⟨h1, h2⟩ h3
  · rcases hb with ⟨h3, h4, rfl⟩ | ⟨h3, o', h4, rfl⟩
    · exact absurd ⟨h3, h4⟩ h1
    · rw [first_uniq hr hx h2 h4]
theorem AimR.ok {r : Int} {m a : Mo} {xs : List Int} (hm : m.Ok r) (hx : ∀ z, z ∈ xs → 0 ≤ z ∧ z < r) (ha : AimR r m xs a) : a.Ok r := by
  rcases ha with ⟨h1, h2, rfl⟩ | ⟨h1, o, h2, rfl⟩
  · exact hm
  · refine ⟨fun n e => ?_, fun e => ?_⟩
    · have e : o = some n := e
      rw [e] at h2
      exact hx n h2.1
    · exact Option.isSome_iff_exists.mp e
theorem AimR.run {r : Int} {m a : Mo} {xs : List Int} (ha : AimR r m xs a) (h : a.now ≠ none) : a.run = true := by
  rcases ha with ⟨h1, h2, rfl⟩ | ⟨h1, o, h2, rfl⟩
  · exact h1
  · cases o with
    | none => exact absurd rfl h
    | some b => rfl
/-- a report -/
def repM (pat : Int) (m : Mo) (b : Bool) : Mo := if m.run = true then (if b = true then { m with run := false } else { m with bad := m.bad + 1, run := decide (m.bad + 1 < pat) }) else m
theorem repM_ok {pat r : Int} {m : Mo} {b : Bool} (h : m.Ok r) : (repM pat m b).Ok r := by
  unfold repM
  split
  · rename_i hr
    split
    · exact ⟨h.now, fun e => by cases e⟩
    · exact ⟨h.now, fun e => h.run hr⟩
  · exact h
/-- a tour at t, a state of the law at s with its flags at F -/
def TourAt (K : PySem.W.Frag) (H : Hp) (t S : Addr) (m : Mo) : Prop := ∃ dx, H t = some (.ins (ga K "Tour") dx [(("current" : Str), ov m.now), (("failed" : Str), .int m.bad), (("_setting" : Str), .ref S), (("_last" : Str), .int m.last), (("_running" : Str), .bl m.run)])
def stK (r pat own : Int) (m : Mo) (F : Addr) : List (Key × V) := [(.inr "ring", .int r), (.inr "patience", .int pat), (.inr "own", .int own), (.inr "last", .int m.last), (.inr "now", ov m.now), (.inr "open", .bl m.run), (.inr "bad", .int m.bad), (.inr "flags", .ref F)]
theorem stk_ring {r pat own : Int} {m : Mo} {F : Addr} : valV (stK r pat own m F) (.inr "ring") = some (.int r) := rfl
theorem stk_patience {r pat own : Int} {m : Mo} {F : Addr} : valV (stK r pat own m F) (.inr "patience") = some (.int pat) := rfl
theorem stk_own {r pat own : Int} {m : Mo} {F : Addr} : valV (stK r pat own m F) (.inr "own") = some (.int own) := rfl
theorem stk_last {r pat own : Int} {m : Mo} {F : Addr} : valV (stK r pat own m F) (.inr "last") = some (.int m.last) := rfl
theorem stk_now {r pat own : Int} {m : Mo} {F : Addr} : valV (stK r pat own m F) (.inr "now") = some (ov m.now) := rfl
theorem stk_open {r pat own : Int} {m : Mo} {F : Addr} : valV (stK r pat own m F) (.inr "open") = some (.bl m.run) := rfl
theorem stk_bad {r pat own : Int} {m : Mo} {F : Addr} : valV (stK r pat own m F) (.inr "bad") = some (.int m.bad) := rfl
theorem stk_flags {r pat own : Int} {m : Mo} {F : Addr} : valV (stK r pat own m F) (.inr "flags") = some (.ref F) := rfl
theorem put_last {r pat own v : Int} {m : Mo} {F : Addr} : putK (stK r pat own m F) (.inr "last") (.int v) = stK r pat own { m with last := v } F := rfl
theorem put_now {r pat own : Int} {v : Option Int} {m : Mo} {F : Addr} : putK (stK r pat own m F) (.inr "now") (ov v) = stK r pat own { m with now := v } F := rfl
theorem put_open {r pat own : Int} {v : Bool} {m : Mo} {F : Addr} : putK (stK r pat own m F) (.inr "open") (.bl v) = stK r pat own { m with run := v } F := rfl
theorem put_bad {r pat own v : Int} {m : Mo} {F : Addr} : putK (stK r pat own m F) (.inr "bad") (.int v) = stK r pat own { m with bad := v } F := rfl
theorem put_flags {r pat own : Int} {m : Mo} {F G : Addr} : putK (stK r pat own m F) (.inr "flags") (.ref G) = stK r pat own m G := rfl
theorem stk_len {r pat own : Int} {m : Mo} {F : Addr} : (stK r pat own m F).length < sizeLine := szlt (Nat.le_of_ble_eq_true rfl)
def StAt (H : Hp) (s F : Addr) (r pat own : Int) (m : Mo) : Prop := H s = some (.dK (stK r pat own m F))
def FlAt (H : Hp) (F : Addr) (r : Int) : Prop := ∃ bs : List Bool, H F = some (.lst (bs.map V.bl)) ∧ bs.length = r.toNat
theorem FlAt.kp {H H' : Hp} {F : Addr} {r : Int} {ps : List Addr} (h : FlAt H F r) (k : Kp ps H H') (n : F ∉ ps) : FlAt H' F r := by
  obtain ⟨bs, h1, h2⟩ := h
  exact ⟨bs, k _ _ h1 n, h2⟩
theorem TourAt.kp {K : PySem.W.Frag} {H H' : Hp} {t S : Addr} {m : Mo} {ps : List Addr} (h : TourAt K H t S m) (k : Kp ps H H') (n : t ∉ ps) : TourAt K H' t S m := by
  obtain ⟨dx, h⟩ := h
  exact ⟨dx, k _ _ h n⟩
/-- a report as the law follows it -/
def folM (pat : Int) (m : Mo) (b : Bool) : Mo := ⟨m.last, m.now, if b = true ∨ pat ≤ (if b = true then m.bad else m.bad + 1) then false else m.run, if b = true then m.bad else m.bad + 1⟩
theorem fol_rep {pat : Int} {m : Mo} {b : Bool} (h : m.run = true) : folM pat m b = repM pat m b := by
  obtain ⟨last, now, run, bad⟩ := m
  obtain rfl : run = true := h
  cases b with
  | true => rfl
  | false =>
    unfold folM repM
    by_cases h : bad + 1 < pat
    · simp [h, show ¬ pat ≤ bad + 1 by omega]
    · simp [h, show pat ≤ bad + 1 by omega]
structure Pair (K : PySem.W.Frag) (H : Hp) (t s F S : Addr) (st : Stg) (own : Int) (m : Mo) : Prop where
  tour : TourAt K H t S m
  state : StAt H s F st.ring st.pat own m
  fl : FlAt H F st.ring
  set : SetAt K H S st
  own : 0 ≤ own ∧ own < st.ring
  ok : m.Ok st.ring
def fu {α : Type} (f : Bool → α) (w : Bool) (x : α) : Bool → α := fun v => if v = w then x else f v
theorem fu_same {α : Type} {f : Bool → α} {w : Bool} {x : α} : fu f w x w = x := if_pos rfl
theorem fu_ne {α : Type} {f : Bool → α} {w v : Bool} {x : α} (h : v ≠ w) : fu f w x v = f v := if_neg h
structure Wd (K : PySem.W.Frag) (T : List (Addr × Str)) (H : Hp) (p c Ts Ss : Addr) (t s F S : Bool → Addr) (st : Bool → Stg) (own : Bool → Int) (m : Bool → Mo) : Prop where
  box : Box H p c
  tabs : LamX.Tabs T H
  hT : H Ts = some (.lst [.ref (t false), .ref (t true)])
  hS : H Ss = some (.lst [.ref (s false), .ref (s true)])
  pr : ∀ w, Pair K H (t w) (s w) (F w) (S w) (st w) (own w) (m w)
  tt : ∀ v w, v ≠ w → t v ≠ t w
  ss : ∀ v w, v ≠ w → s v ≠ s w
  ff : ∀ v w, v ≠ w → F v ≠ F w
  fp : ∀ w, F w ≠ p ∧ F w ≠ c
theorem ref_bls {x : Addr} {r : List V} {bs : List Bool} : HO.lst (V.ref x :: r) ≠ HO.lst (bs.map V.bl) := by
  intro z
  injection z with z
  cases bs with
  | nil => cases z
  | cons b bs =>
    injection z with z _
    cases z
theorem Wd.step {K : PySem.W.Frag} {T : List (Addr × Str)} {H H' : Hp} {p c Ts Ss F' : Addr} {t s F S : Bool → Addr} {st : Bool → Stg} {own : Bool → Int} {m : Bool → Mo} {m' : Mo} (W : Wd K T H p c Ts Ss t s F S st own m) (w : Bool)
    (k : Kt T [p, s w, F w, t w] H H') (b : Box H' p c) (q : Pair K H' (t w) (s w) F' (S w) (st w) (own w) m') (hF : F' = F w ∨ Frn H F') : Wd K T H' p c Ts Ss t s (fu F w F') S st own (fu m w m') := by
  obtain ⟨⟨ns, x1, x2, x3, hp, hc, _⟩, npc⟩ := W.box
  obtain ⟨dw, tw⟩ := (W.pr w).tour
  have sw : H (s w) = _ := (W.pr w).state
  obtain ⟨bw, Fw, lw⟩ := (W.pr w).fl
  have nT : ∀ o, NoTbl (.lst o) := fun o t z => by cases z
  have oth : ∀ v, v ≠ w → Pair K H' (t v) (s v) (F v) (S v) (st v) (own v) (m v) := fun v hv => by
    obtain ⟨h1, h2, h3, h4, h5, h6⟩ := W.pr v
    obtain ⟨dv, tv⟩ := h1
    have sv : H (s v) = _ := h2
    obtain ⟨bv, Fv, lv⟩ := h3
    obtain ⟨⟨ds, Sv⟩, ok⟩ := id h4
    refine ⟨⟨dv, k.1 _ _ tv (fun _ z => by cases z) ?_⟩, k.1 _ _ sv (fun _ z => by cases z) ?_, ⟨bv, k.1 _ _ Fv (nT _) ?_, lv⟩, ⟨⟨ds, k.1 _ _ Sv (fun _ z => by cases z) ?_⟩, ok⟩, h5, h6⟩
    · simp only [List.mem_cons, List.not_mem_nil, or_false, not_or]
      exact ⟨ne_of tv hp (by intro z; cases z), ne_of tv sw (by intro z; cases z), ne_of tv Fw (by intro z; cases z), W.tt v w hv⟩
    · simp only [List.mem_cons, List.not_mem_nil, or_false, not_or]
      exact ⟨ne_of sv hp (by intro z; cases z), W.ss v w hv, ne_of sv Fw (by intro z; cases z), ne_of sv tw (by intro z; cases z)⟩
    · simp only [List.mem_cons, List.not_mem_nil, or_false, not_or]
      exact ⟨(W.fp v).1, ne_of Fv sw (by intro z; cases z), W.ff v w hv, ne_of Fv tw (by intro z; cases z)⟩
    · simp only [List.mem_cons, List.not_mem_nil, or_false, not_or]
      exact ⟨h4.nelst hp, h4.nedK sw, h4.nelst Fw, h4.neins tw (by decide)⟩
  have lst : ∀ (a x y : Addr), H a = some (.lst [.ref x, .ref y]) → H' a = some (.lst [.ref x, .ref y]) := fun a x y e => by
    refine k.1 _ _ e (nT _) ?_
    simp only [List.mem_cons, List.not_mem_nil, or_false, not_or]
    exact ⟨ne_of e hp (by intro z; cases z), ne_of e sw (by intro z; cases z), ne_of e Fw ref_bls, ne_of e tw (by intro z; cases z)⟩
  refine ⟨b, k.2, lst _ _ _ W.hT, lst _ _ _ W.hS, fun v => ?_, W.tt, W.ss, fun u v huv => ?_, fun v => ?_⟩
  · by_cases hv : v = w
    · rw [hv, fu_same, fu_same]
      exact q
    · rw [fu_ne hv, fu_ne hv]
      exact oth v hv
  · by_cases hv : v = w
    · have hu : u ≠ w := fun z => huv (z.trans hv.symm)
      rw [hv, fu_same, fu_ne hu]
      obtain ⟨bu, Fu, _⟩ := (W.pr u).fl
      rcases hF with e | f
      · rw [e]
        exact W.ff u w hu
      · exact f _ _ Fu (nT _)
    · rw [fu_ne hv]
      by_cases hu : u = w
      · rw [hu, fu_same]
        obtain ⟨bu, Fv, _⟩ := (W.pr v).fl
        rcases hF with e | f
        · rw [e]
          exact W.ff w v (Ne.symm hv)
        · exact Ne.symm (f _ _ Fv (nT _))
      · rw [fu_ne hu]
        exact W.ff u v huv
  · by_cases hv : v = w
    · rw [hv, fu_same]
      rcases hF with e | f
      · rw [e]
        exact W.fp w
      · exact ⟨Ne.symm (f _ _ hp (nT _)), Ne.symm (f _ _ hc (nT _))⟩
    · rw [fu_ne hv]
      exact W.fp v
theorem Pair.kp {K : PySem.W.Frag} {H H' : Hp} {t s F S : Addr} {st : Stg} {own : Int} {m : Mo} {ps : List Addr} (P : Pair K H t s F S st own m) (k : Kp ps H H') (n1 : t ∉ ps) (n2 : s ∉ ps) (n3 : F ∉ ps) (n4 : S ∉ ps) : Pair K H' t s F S st own m := by
  obtain ⟨q1, q2, q3, q4, q5, q6⟩ := P
  exact ⟨q1.kp k n1, k _ _ q2 n2, q3.kp k n3, q4.kp k n4, q5, q6⟩
theorem Wd.draw {K : PySem.W.Frag} {T : List (Addr × Str)} {H H' : Hp} {p c Ts Ss : Addr} {t s F S : Bool → Addr} {st : Bool → Stg} {own : Bool → Int} {m : Bool → Mo} (W : Wd K T H p c Ts Ss t s F S st own m) (k : Kp [p] H H') (b : Box H' p c) : Wd K T H' p c Ts Ss t s F S st own m := by
  obtain ⟨⟨ns, x1, x2, x3, hp, hc, _⟩, npc⟩ := W.box
  refine ⟨b, W.box.tabs W.tabs k, k.g1 (ne_of W.hT hp (by intro z; cases z)) W.hT, k.g1 (ne_of W.hS hp (by intro z; cases z)) W.hS, fun v => ?_, W.tt, W.ss, W.ff, W.fp⟩
  obtain ⟨dv, tv⟩ := (W.pr v).tour
  have sv : H (s v) = _ := (W.pr v).state
  exact (W.pr v).kp k (by simpa using ne_of tv hp (by intro z; cases z)) (by simpa using ne_of sv hp (by intro z; cases z)) (by simpa using (W.fp v).1) (by simpa using (W.pr v).set.nelst hp)
theorem Box.ktp {H H' : Hp} {p c : Addr} {TT : List (Addr × Str)} {ps : List Addr} (B : Box H p c) (k : Kt TT ps H H') (n1 : p ∉ ps) (n2 : c ∉ ps) : Box H' p c := by
  obtain ⟨⟨ns, a, b, d, h1, h2, h3, h4⟩, ne⟩ := B
  exact ⟨⟨ns, a, b, d, k.1 _ _ h1 (by intro _ z; cases z) n1, k.1 _ _ h2 (by intro _ z; cases z) n2, h3, h4⟩, ne⟩
/-- the tour and then the state at w are changed -/
theorem Wd.both {K : PySem.W.Frag} {T : List (Addr × Str)} {H H1 H2 : Hp} {p c Ts Ss : Addr} {t s F S : Bool → Addr} {st : Bool → Stg} {own : Bool → Int} {m : Bool → Mo} (W : Wd K T H p c Ts Ss t s F S st own m) (w : Bool) {m' : Mo}
    (k1 : Kt T [t w] H H1) (T1 : TourAt K H1 (t w) (S w) m') (k2 : Kp [s w] H1 H2) (S2 : StAt H2 (s w) (F w) (st w).ring (st w).pat (own w) m') (ok : m'.Ok (st w).ring) : Wd K T H2 p c Ts Ss t s (fu F w (F w)) S st own (fu m w m') := by
  obtain ⟨⟨ns, x1, x2, x3, hp, hc, _⟩, npc⟩ := W.box
  obtain ⟨dw, tw⟩ := (W.pr w).tour
  have sw : H (s w) = _ := (W.pr w).state
  obtain ⟨bw, Fw, lw⟩ := (W.pr w).fl
  obtain ⟨⟨ds, Sw⟩, okS⟩ := id (W.pr w).set
  obtain ⟨d1, tw1⟩ := T1
  have sw1 := k1.g1 (by intro _ z; cases z) (ne_of sw tw (by intro z; cases z)) sw
  have Fw1 := k1.g1 (by intro _ z; cases z) (ne_of Fw tw (by intro z; cases z)) Fw
  have Sw1 := k1.g1 (by intro _ z; cases z) ((W.pr w).set.neins tw (by decide)) Sw
  have hp1 := k1.g1 (by intro _ z; cases z) (ne_of hp tw (by intro z; cases z)) hp
  have hc1 := k1.g1 (by intro _ z; cases z) (ne_of hc tw (by intro z; cases z)) hc
  have k3 : Kt T [p, s w, F w, t w] H H2 := (k1.mono (by simp)).kpP k2 fun q hq => by
    rw [List.mem_singleton.mp hq]
    exact ⟨by simp, _, sw1, trivial⟩
  refine W.step w k3 (((W.box.ktp k1 ?_ ?_)).k1 k2 ?_ ?_) ⟨⟨d1, k2.g1 ?_ tw1⟩, S2, ⟨bw, k2.g1 ?_ Fw1, lw⟩, ⟨⟨ds, k2.g1 ?_ Sw1⟩, okS⟩, (W.pr w).own, ok⟩ (.inl rfl)
  · simpa using ne_of hp tw (by intro z; cases z)
  · simpa using ne_of hc tw (by intro z; cases z)
  · exact ne_of hp1 sw1 (by intro z; cases z)
  · exact ne_of hc1 sw1 (by intro z; cases z)
  · exact ne_of tw1 sw1 (by intro z; cases z)
  · exact ne_of Fw1 sw1 (by intro z; cases z)
  · exact ne_of Sw1 sw1 (by intro z; cases z)
structure NGood (H : Hp) (p c s F : Addr) (H2 : Hp) (F1 : Addr) (r pat own : Int) (m : Mo) : Prop where
  st : StAt H2 s F1 r pat own m
  fl : FlAt H2 F1 r
  g1 : F1 = F ∨ H F1 = none
  g2 : F1 ≠ p ∧ F1 ≠ c
  box : Box H2 p c
  k : Kp [p, s, F] H H2
  f : ∃ o, H2 F = some o
theorem pick2 {i : Int} (h0 : 0 ≤ i) (h1 : i < 2) : ∃ w : Bool, ∀ f : Bool → Addr, atI [V.ref (f false), V.ref (f true)] i = some (.ref (f w)) := by
  have e : i = 0 ∨ i = 1 := by omega
  rcases e with rfl | rfl
  · exact ⟨false, fun f => rfl⟩
  · exact ⟨true, fun f => rfl⟩

local macro_rules | `(tactic| wtm_at "look") => `(tactic| fail "no rule")
local macro_rules | `(tactic| wtm_at "ne") => `(tactic| first
  | with_reducible assumption
  | ((with_reducible refine' Ne.symm ?h); (case h => with_reducible assumption))
  | ((with_reducible refine' ne_fresh ?n); (case n => with_reducible assumption))
  | ((with_reducible refine' Ne.symm (ne_fresh ?n)); (case n => with_reducible assumption))
  | ((refine' ne_of_none ?h ?n); (case n => with_reducible assumption); (case h => wtm_at "hp"))
  | ((refine' Ne.symm (ne_of_none ?h ?n)); (case n => with_reducible assumption); (case h => wtm_at "hp"))
  | fail "no rule")
local macro_rules | `(tactic| wtm_at "hp") => `(tactic| first
  | with_reducible assumption
  | with_reducible exact upd_same
  | ((with_reducible refine' upd_is ?e); (case e => exact rfl))
  | ((with_reducible refine' hu_ne ?n ?e); (case n => wtm_at "ne"); (case e => wtm_at "hp"))
  | ((with_reducible refine' Kp.g0 ?k ?e); (case k => with_reducible assumption); (case e => wtm_at "hp"))
  | ((with_reducible refine' Kp.g1 ?k ?n ?e); (case k => with_reducible assumption); (case n => wtm_at "ne"); (case e => wtm_at "hp"))
  | ((with_reducible refine' Kp.g2 ?k ?n ?m ?e); (case k => with_reducible assumption); (case n => wtm_at "ne"); (case m => wtm_at "ne"); (case e => wtm_at "hp"))
  | ((with_reducible refine' Kp.g3 ?k ?n ?m ?l ?e); (case k => with_reducible assumption); (case n => wtm_at "ne"); (case m => wtm_at "ne"); (case l => wtm_at "ne"); (case e => wtm_at "hp"))
  | fail "no rule")
local macro_rules | `(tactic| wtm_at "sq") => `(tactic| first
  | with_reducible assumption
  | wtm_at "sqx"
  | ((refine' SqL.of ?e); (case e => wtm_at "hp"))
  | ((refine' SqT.of ?e); (case e => wtm_at "hp"))
  | fail "no rule")
local macro_rules | `(tactic| wtm_at "at") => `(tactic| first
  | exact rfl
  | assumption
  | ((refine' atI_ints ?a ?b); (case a => omega); (case b => omega))
  | fail "no rule")
local macro_rules | `(tactic| wtm_at "cc") => `(tactic| first
  | assumption
  | exact rfl
  | decide
  | omega
  | ((refine' ⟨?a, ?b⟩); (case a => omega); (case b => omega))
  | ((refine' Or.inr ⟨?a, ?b⟩); (case a => omega); (case b => omega))
  | ((refine' Or.inl ⟨?a, ?b⟩); (case a => omega); (case b => omega))
  | ((refine' ⟨?a, ?b, ?c⟩); (case a => first | omega | decide | fail "num"); (case b => first | omega | decide | fail "num"); (case c => first | omega | decide | fail "num"))
  | fail "no rule")
local macro_rules | `(tactic| wtm_at "sz") => `(tactic| first
  | assumption
  | ((refine' szlt ?h); (case h => (simp; omega)))
  | ((refine' szlt ?h); (case h => omega))
  | ((refine' szlt ?h); (case h => exact Nat.le_of_ble_eq_true rfl))
  | ((refine' sz1000 ?h); (case h => (simp; done)))
  | ((refine' sz1000 ?h); (case h => omega))
  | fail "no rule")
local macro_rules | `(tactic| wtm_at "dg") => `(tactic| first
  | ((refine' dg_is ?a ?b); (case a => wtm_at "hp"); (case b => wtm_at "hp"))
  | ((refine' dg_i ?a); (case a => wtm_at "hp"))
  | ((refine' dg_s ?a); (case a => wtm_at "hp"))
  | fail "no rule")
local macro_rules | `(tactic| wtm_at "dgv") => `(tactic| first
  | ((refine' dg_sv ?a ?b); (case a => wtm_at "hp"); (case b => first | assumption | wtm_at "look" | exact rfl | fail "look"))
  | ((refine' dg_iv ?a ?b); (case a => wtm_at "hp"); (case b => first | assumption | wtm_at "look" | exact rfl | fail "look"))
  | fail "no rule")
local macro_rules | `(tactic| wtm_at "dp") => `(tactic| first
  | ((refine' dp_is ?a ?b ?c); (case a => wtm_at "hp"); (case b => wtm_at "hp"); (case c => wtm_at "sz"))
  | ((refine' dp_i ?a ?c); (case a => wtm_at "hp"); (case c => wtm_at "sz"))
  | ((refine' dp_s ?a ?c); (case a => wtm_at "hp"); (case c => wtm_at "sz"))
  | fail "no rule")
local macro_rules | `(tactic| wtm_at "rd1") => `(tactic| first
  | with_reducible refine' rd_seq ?_
  | with_reducible refine' rd_asg ?_
  | ((with_reducible refine' rd_var ?e ?_); (case e => exact rfl))
  | with_reducible refine' rd_c ?_
  | with_reducible refine' rd_op ?_
  | with_reducible refine' rd_gname ?_
  | with_reducible refine' rd_CB ?_
  | with_reducible refine' rd_cons ?_
  | with_reducible refine' rd_nil ?_
  | with_reducible refine' rd_ret ?_
  | with_reducible refine' rd_drop ?_
  | with_reducible refine' rd_ifS ?_
  | with_reducible refine' rd_test ?_
  | with_reducible refine' rd_exb ?_
  | with_reducible refine' rd_call ?_
  | with_reducible refine' rd_I0 ?_
  | ((with_reducible refine' rd_I ?c ?_); (case c => wtm_at "cc"))
  | ((with_reducible refine' rd_ixL ?h ?a ?_); (case h => wtm_at "sq"); (case a => wtm_at "at"))
  | ((with_reducible refine' rd_ixT ?h ?a ?_); (case h => wtm_at "sq"); (case a => wtm_at "at"))
  | with_reducible refine' rd_int1 ?_
  | with_reducible refine' rd_abs ?_
  | ((with_reducible refine' rd_lenI ?h ?_); (case h => wtm_at "sq"))
  | ((with_reducible refine' rd_lenL ?h ?_); (case h => wtm_at "sq"))
  | ((with_reducible refine' rd_lenT ?h ?_); (case h => wtm_at "sq"))
  | with_reducible refine' rd_eqI ?_
  | with_reducible refine' rd_neI ?_
  | with_reducible refine' rd_eqS ?_
  | with_reducible refine' rd_neS ?_
  | with_reducible refine' rd_eqB ?_
  | with_reducible refine' rd_neB ?_
  | with_reducible refine' rd_and ?_
  | with_reducible refine' rd_or ?_
  | with_reducible refine' rd_not ?_
  | with_reducible refine' rd_tB ?_
  | with_reducible refine' rd_gsub ?_
  | ((with_reducible refine' rd_setL ?h ?j ?_); (case h => wtm_at "hp"); (case j => exact rfl))
  | with_reducible refine' rd_next ?_
  | with_reducible refine' rd_un ?_
  | with_reducible refine' rd_U ?_
  | with_reducible refine' rd_tup ?_
  | with_reducible refine' rd_lst ?_
  | with_reducible refine' rd_bm ?_
  | with_reducible refine' rd_bm0 ?_
  | with_reducible refine' rd_meth ?_
  | with_reducible refine' rd_make ?_
  | with_reducible refine' rd_iTup ?_
  | ((with_reducible refine' rd_iTupX ?h ?_); (case h => wtm_at "sq"))
  | with_reducible refine' rd_for ?_
  | with_reducible refine' rd_iList ?_
  | ((with_reducible refine' rd_iListX ?h ?_); (case h => wtm_at "sq"))
  | with_reducible refine' rd_iRng1 ?_
  | ((with_reducible refine' rd_iRng1X ?h1 ?h2 ?_); (case h1 => wtm_at "cc"); (case h2 => wtm_at "cc"))
  | ((with_reducible refine' rd_iRng2X ?h1 ?_); (case h1 => ((refine' ⟨?a, ?b, ?c, ?d⟩); (case a => omega); (case b => omega); (case c => omega); (case d => omega))))
  | with_reducible refine' rd_iRng2 ?_
  | with_reducible refine' rd_lc ?_
  | with_reducible refine' rd_yes ?_
  | with_reducible refine' rd_andV ?_
  | with_reducible refine' rd_orV ?_
  | with_reducible refine' rd_notV ?_
  | with_reducible refine' rd_ifE ?_
  | with_reducible refine' rd_isN ?_
  | with_reducible refine' rd_notN ?_
  | with_reducible refine' rd_min2 ?_
  | with_reducible refine' rd_max2 ?_
  | with_reducible refine' rd_retN ?_
  | with_reducible refine' rd_brk ?_
  | with_reducible refine' rd_cont ?_
  | with_reducible refine' rd_tfld ?_
  | ((with_reducible refine' rd_fldX ?h ?c ?n ?l ?_); (case h => wtm_at "hp"); (case c => wtm_at "cls"); (case n => wtm_at "noat"); (case l => exact rfl))
  | with_reducible refine' rd_sfld ?_
  | ((with_reducible refine' rd_sfldX ?h ?c ?n ?l ?_); (case h => wtm_at "hp"); (case c => wtm_at "cls"); (case n => wtm_at "noat"); (case l => first | decide | exact Nat.le_of_ble_eq_true rfl | fail "len"))
  | with_reducible refine' rd_tcon ?_
  | ((with_reducible refine' rd_conX ?h ?c ?n ?l ?_); (case h => wtm_at "hp"); (case c => wtm_at "cls"); (case n => wtm_at "con"); (case l => exact rfl))
  | ((with_reducible refine' rd_methX ?h ?l ?_); (case h => wtm_at "hp"); (case l => exact rfl))
  | with_reducible refine' rd_isi_ii ?_
  | with_reducible refine' rd_isi_ib ?_
  | with_reducible refine' rd_isi_bb ?_
  | with_reducible refine' rd_isi_bi ?_
  | with_reducible refine' rd_isi_ss ?_
  | ((with_reducible refine' rd_isi_ll ?h ?_); (case h => wtm_at "hp"))
  | ((with_reducible refine' rd_isi_tt ?h ?_); (case h => wtm_at "hp"))
  | with_reducible refine' iteT ?_
  | with_reducible refine' iteF ?_
  | with_reducible refine' ite_nt ?_
  | with_reducible refine' ite_nf ?_
  | with_reducible refine' ite_in ?_
  | with_reducible refine' ite_rn ?_
  | with_reducible refine' ite_sn ?_
  | with_reducible refine' ite_bn ?_
  | with_reducible refine' ite_nn ?_
  | with_reducible refine' ite_xin ?_
  | with_reducible refine' ite_xrn ?_
  | with_reducible refine' ite_xnn ?_
  | with_reducible refine' rd_dget2 ?_
  | ((with_reducible refine' rd_isdX ?h ?_); (case h => first | ((refine' isD_T ?e); (case e => wtm_at "hp")) | ((refine' isD_K ?e); (case e => wtm_at "hp"))))
  | ((with_reducible refine' rd_dgX ?h ?_); (case h => wtm_at "dg"))
  | with_reducible refine' rd_sdput ?_
  | ((with_reducible refine' rd_dpX ?h ?_); (case h => wtm_at "dp"))
  | ((with_reducible refine' ty_l ?h ?_); (case h => wtm_at "sq"))
  | ((with_reducible refine' ty_d ?h ?_); (case h => wtm_at "hp"))
  | ((with_reducible refine' ty_dK ?h ?_); (case h => wtm_at "hp"))
  | ((with_reducible refine' rd_append ?h ?l ?_); (case h => wtm_at "hp"); (case l => wtm_at "sz"))
  | with_reducible refine' rd_lstRg ?_
  | with_reducible refine' rd_rg1 ?_
  | with_reducible refine' rd_rg2 ?_
  | with_reducible refine' rd_inX ?_
  | with_reducible refine' rd_inX2 ?_
  | ((with_reducible refine' rd_listL ?h ?_); (case h => wtm_at "sq"))
  | ((with_reducible refine' rd_gtup ?h ?l ?_); (case h => wtm_at "sq"); (case l => exact rfl))
  | with_reducible refine' rd_gcons ?_
  | with_reducible refine' rd_gnil ?_
  | with_reducible refine' rd_din ?_
  | with_reducible refine' rd_dnotin ?_
  | with_reducible refine' rd_dget ?_
  | with_reducible refine' rd_dget1 ?_
  | ((with_reducible refine' rd_dinX ?h ?_); (case h => wtm_at "dg"))
  | ((with_reducible refine' rd_dgetX ?h ?_); (case h => wtm_at "dgv"))
  | with_reducible refine' rd_pnil ?_
  | with_reducible refine' rd_pcons ?_
  | with_reducible refine' rd_sl ?_
  | with_reducible refine' rd_part ?_
  | with_reducible refine' rd_nopart ?_
  | ((with_reducible refine' rd_slL ?h ?_); (case h => wtm_at "sq"))
  | ((with_reducible refine' rd_clear ?h ?_); (case h => wtm_at "hp"))
  | ((with_reducible refine' rd_aug ?e ?_); (case e => exact rfl))
  | with_reducible refine' rd_ipI ?_
  | ((with_reducible refine' rd_inI ?h ?_); (case h => wtm_at "sq"))
  | ((with_reducible refine' rd_notInI ?h ?_); (case h => wtm_at "sq"))
  | ((with_reducible refine' rd_lenD ?h ?_); (case h => wtm_at "hp"))
  | with_reducible refine' rd_iEnum ?_
  | ((with_reducible refine' rd_iEnumX ?h ?_); (case h => wtm_at "sq"))
  | ((with_reducible refine' rd_eqLI ?h1 ?h2 ?_); (case h1 => wtm_at "sq"); (case h2 => wtm_at "sq"))
  | ((with_reducible refine' rd_neLI ?h1 ?h2 ?_); (case h1 => wtm_at "sq"); (case h2 => wtm_at "sq"))
  | fail "no rule")
local macro_rules | `(tactic| wtm_at "rd") => `(tactic| repeat wtm_at "rd1")
local macro_rules | `(tactic| wtm_at "hn") => `(tactic| first
  | with_reducible assumption
  | ((with_reducible refine' hn_ne ?n ?e); (case n => wtm_at "ne"); (case e => wtm_at "hn"))
  | ((refine' Kp.back ?k ?e ?n); (case k => with_reducible assumption); (case e => with_reducible assumption); (case n => first | with_reducible assumption | (simp; done) | fail "mem"))
  | fail "no rule")
local macro_rules | `(tactic| wtm_at "kp") => `(tactic| first
  | exact Kp.refl
  | with_reducible assumption
  | ((with_reducible refine' Kp.of0 ?k); (case k => with_reducible assumption))
  | ((with_reducible refine' Kp.wr ?a ?h); (case h => (simp; done)); (case a => wtm_at "kp"))
  | ((with_reducible refine' Kp.nw ?a ?h); (case h => wtm_at "hn"); (case a => wtm_at "kp"))
  | ((with_reducible refine' Kp.mine ?a ?h); (case h => wtm_at "hn"); (case a => wtm_at "kp"))
  | ((with_reducible refine' Kp.via1 ?a ?b ?n); (case b => with_reducible assumption); (case n => wtm_at "hn"); (case a => wtm_at "kp"))
  | ((with_reducible refine' Kp.trans ?a ?b); (case b => first | with_reducible assumption | ((with_reducible refine' Kp.of0 ?k); (case k => with_reducible assumption)) | fail "kp"); (case a => wtm_at "kp"))
  | fail "no rule")
local macro_rules | `(tactic| wtm_at "rd1") => `(tactic| first
  | with_reducible refine' rd_prop ?_
  | ((with_reducible refine' rd_propX ?h ?_); (case h => wtm_at "hp"))
  | with_reducible refine' rd_revL ?_
  | ((with_reducible refine' rd_revLX ?h ?_); (case h => wtm_at "sq"))
  | with_reducible refine' rd_makeK ?_
  | with_reducible refine' rd_sortKey ?_
  | with_reducible refine' rd_sfldaug ?_
  | ((with_reducible refine' rd_sfldaugX ?h ?c ?n ?l ?_); (case h => wtm_at "hp"); (case c => wtm_at "cls"); (case n => wtm_at "noat"); (case l => exact rfl))
  | ((with_reducible refine' rd_insX ?h ?l ?_); (case h => wtm_at "hp"); (case l => first | decide | exact Nat.le_of_ble_eq_true rfl | fail "len"))
  | with_reducible refine' rd_addI ?_
  | with_reducible refine' rd_subI ?_
  | with_reducible refine' rd_disp ?_
  | with_reducible refine' rd_minKey ?_
  | fail "no rule")
local macro_rules | `(tactic| wtm_at "hp") => `(tactic| first
  | ((with_reducible refine' Kt.g0 ?k ?n ?e); (case k => with_reducible assumption); (case n => (intro _ z; cases z)); (case e => wtm_at "hp"))
  | ((with_reducible refine' Kt.g1 ?k ?n ?m ?e); (case k => with_reducible assumption); (case n => (intro _ z; cases z)); (case m => wtm_at "ne"); (case e => wtm_at "hp"))
  | fail "no rule")
local macro_rules | `(tactic| wtm_at "cc") => `(tactic| first
  | ((refine' wide60 ?a ?b); (case a => omega); (case b => omega))
  | fail "no rule")
local macro_rules | `(tactic| wtm_at "kt") => `(tactic| first
  | with_reducible assumption
  | ((with_reducible refine' Kt.of0 ?k); (case k => with_reducible assumption))
  | ((with_reducible refine' Kt.wr ?a ?h ?e ?w); (case h => (simp; done)); (case e => wtm_at "hp"); (case w => exact trivial); (case a => wtm_at "kt"))
  | ((with_reducible refine' Kt.nw ?a ?e); (case e => wtm_at "hn"); (case a => wtm_at "kt"))
  | fail "no rule")
local macro_rules | `(tactic| wtm_at "dgv") => `(tactic| first
  | ((refine' dg_sl ?a ?b); (case a => wtm_at "hp"); (case b => exact rfl))
  | fail "no rule")

local macro_rules | `(tactic| wtm_at "sqx") => `(tactic| fail "no rule")
local macro_rules | `(tactic| wtm_at "con") => `(tactic| first | exact con_MOST_BITS (by assumption) | exact con_MOST_PATIENCE (by assumption) | exact con_MOST_ROOM (by assumption) | exact con_MOST_GRACE (by assumption) | exact con_MOST_HELPERS (by assumption))

local macro_rules | `(tactic| wtm_at "look") => `(tactic| first | with_reducible exact stk_ring | with_reducible exact stk_patience | with_reducible exact stk_own | with_reducible exact stk_last | with_reducible exact stk_now | with_reducible exact stk_open | with_reducible exact stk_bad | with_reducible exact stk_flags)
local macro_rules | `(tactic| wtm_at "sz") => `(tactic| first | with_reducible exact stk_len | fail "no rule")
local macro_rules | `(tactic| wtm_at "cls") => `(tactic| first | exact cl_Setting (by assumption) | exact cl_Tour (by assumption))
local macro_rules | `(tactic| wtm_at "noat") => `(tactic| first | exact na_Setting_bits (by assumption) | exact na_Setting_patience (by assumption) | exact na_Setting_room (by assumption) | exact na_Setting_grace (by assumption) | exact na_Setting_helpers (by assumption) | exact na_Tour_current (by assumption) | exact na_Tour_failed (by assumption) | exact na_Tour__setting (by assumption) | exact na_Tour__last (by assumption) | exact na_Tour__running (by assumption))
section
variable {P : Program} {w : World} {K : PySem.W.Frag} {mg : Str → Option Value} {base : Heap}
def sp_l_box (K : PySem.W.Frag) : Sp := fun vs H Q E => ∃ (a : Addr) (ns : List Int), vs = [.ref a] ∧ (SqL K H a (ns.map V.int)) ∧ (ns.length ≤ 63) ∧ (∀ p c H1, Box H1 p c → Kp [] H H1 → H p = none → H c = none → Q (.ref p) H1)
theorem us_l_box {K : PySem.W.Frag} {H : Hp} {Q : VK} {E : XK} {a : Addr} {ns : List Int} (hS : SqL K H a (ns.map V.int)) (hl : ns.length ≤ 63) (kk : ∀ p c H1, Box H1 p c → Kp [] H H1 → H p = none → H c = none → Q (.ref p) H1) : sp_l_box K [.ref a] H Q E := ⟨_, _, rfl, hS, hl, kk⟩
theorem f_l_box (T : Cx K mg) (B : Tb K mg base) : ∃ fd, FunD K "_law_box" "_law_box" (defArgs s_l_box) (defBody s_l_box) (defScope s_l_box) (d_l_box.dvs K) (d_l_box.kws K) (fAd K d_l_box.at_) fd ∧ FnOk P w K mg base CX0 1 (fAd K d_l_box.at_) fd p_l_box (sp_l_box K) := by
  obtain ⟨fd, F⟩ := T.says.def_ 0 (d := d_l_box) rfl
  refine ⟨fd, F, fnD F sc_l_box (fun vs H Q E h => by
    obtain ⟨_, _, rfl, _⟩ := h
    rfl) fun cdv A outer s H vs Q E hr h => ?_⟩
  have hu := hu_of hr
  obtain ⟨a, ns, rfl, hS, hl, kk⟩ := h
  refine ⟨_, (pss_cons (ps_setLc (i := 1) (own := [("_law_cell", 2)]) (g := (gName 2)) (tt := tYes) rfl sc_l_box.nd rfl rfl (sw_true rfl rfl rfl (by decide +kernel)) (pi_list (pv 0)) (blkOk_by (own := [("_law_cell", 2)]) (N := n_l_box) (sc := defScope s_l_box) (by decide +kernel)) (fun _ _ _ _ _ => (pg_name (i := 2) sc_l_box.nd rfl (by first | exact Or.inl rfl | exact Or.inr rfl))) (fun _ _ _ _ _ => pts_nil) (fun _ _ _ _ _ => (pe_callTy call_int1' (by rfl) (fr_int T) (by decide +kernel) (pa_cons (pv 2) pa_nil)))) (pss_cons (ps_if (pt_cmpR op_eq (pe_callB call_lenS (by rfl) (fr_len T) (by decide +kernel) (pa_cons (pv 1) pa_nil)) pe_int (nomark _)) (pss_one (ps_set (i := 1) sc_l_box.nd rfl (by first | exact Or.inl rfl | exact Or.inr rfl) (pe_lst (pa_cons pe_int pa_nil)))) pss_nil) (pss_one (ps_ret (pe_lst (pa_cons (pv 1) (pa_cons pe_int (pa_cons pe_int (pa_cons pe_int pa_nil))))))))), ?_⟩
  rw [show L2.start n_l_box [.ref a] = [some (.ref a), none, none] from rfl]
  try dsimp only [cxOf, Cx.nox, Cx.wish, List.map]

  wtm_at "rd"
  intro D hD
  refine lcL_ints ns (fun i H' => H' D = some (.lst ((ns.take i).map V.int)) ∧ Kp [] H H') ⟨upd_same, Kp.new hD⟩ (fun i H' _ p => sl_kp p.2 (by simp) hS) (fun i hi H' p => ?_) (fun H' p => ?_)
  · obtain ⟨p1, p2⟩ := p
    wtm_at "rd"
    refine ⟨rfl, ?_⟩
    wtm_at "rd"
    refine ⟨_, p1, szlt (by simp; omega), ?_, Kp.mine p2 hD⟩
    rw [upd_same, take_map_succ hi]
  · obtain ⟨p1, p2⟩ := p
    rw [List.take_length] at p1
    wtm_at "rd"
    refine ite_d (fun h => ?_) (fun h => ?_)
    · wtm_at "rd"
      refine ⟨sz1000 (by simp), fun c nc => ?_⟩
      wtm_at "rd"
      refine ⟨sz1000 (by simp), fun p np => ?_⟩
      refine kk p c _ ⟨⟨[0], 0, 0, 0, upd_same, by wtm_at "hp", by simp, by simp⟩, by wtm_at "ne"⟩ ((p2.nw nc).nw np) ?_ ?_
      · exact Kp.back (p2.nw nc) np (by simp)
      · exact Kp.back p2 nc (by simp)
    · wtm_at "rd"
      refine ⟨sz1000 (by simp), fun p np => ?_⟩
      refine kk p D _ ⟨⟨ns, 0, 0, 0, upd_same, by wtm_at "hp", ?_, hl⟩, by wtm_at "ne"⟩ (p2.nw np) ?_ hD
      · intro e
        subst e
        exact h rfl
      · exact Kp.back p2 np (by simp)
theorem c_l_box (T : Cx K mg) (B : Tb K mg base) : CalX P w K mg base CX0 1 "_law_box" (sp_l_box K) [] := by
  obtain ⟨fd, F, ok⟩ := f_l_box (P := P) (w := w) (base := base) T B
  exact ⟨_, fd, p_l_box, [], ok, gl_l_box T, F.kp, FunD.bindsN F fun _ _ _ _ _ _ us hl => match us, hl with | [_], _ => rfl, .nil⟩
end
section
variable {P : Program} {w : World} {K : PySem.W.Frag} {mg : Str → Option Value} {base : Heap}
def sp_l_draw (K : PySem.W.Frag) : Sp := fun vs H Q E => ∃ (p c : Addr) (top : Int), vs = [.ref p, .int top] ∧ (Box H p c) ∧ (0 < top) ∧ (top < 1152921504606846976) ∧ (∀ n H1, 0 ≤ n → n < top → Box H1 p c → Kp [p] H H1 → Q (.int n) H1)
theorem us_l_draw {K : PySem.W.Frag} {H : Hp} {Q : VK} {E : XK} {p c : Addr} {top : Int} (hB : Box H p c) (ht0 : 0 < top) (ht1 : top < 1152921504606846976) (kk : ∀ n H1, 0 ≤ n → n < top → Box H1 p c → Kp [p] H H1 → Q (.int n) H1) : sp_l_draw K [.ref p, .int top] H Q E := ⟨_, _, _, rfl, hB, ht0, ht1, kk⟩
theorem f_l_draw (T : Cx K mg) (B : Tb K mg base) : ∃ fd, FunD K "_law_draw" "_law_draw" (defArgs s_l_draw) (defBody s_l_draw) (defScope s_l_draw) (d_l_draw.dvs K) (d_l_draw.kws K) (fAd K d_l_draw.at_) fd ∧ FnOk P w K mg base CX0 1 (fAd K d_l_draw.at_) fd p_l_draw (sp_l_draw K) := by
  obtain ⟨fd, F⟩ := T.says.def_ 1 (d := d_l_draw) rfl
  refine ⟨fd, F, fnD F sc_l_draw (fun vs H Q E h => by
    obtain ⟨_, _, _, rfl, _⟩ := h
    rfl) fun cdv A outer s H vs Q E hr h => ?_⟩
  have hu := hu_of hr
  obtain ⟨p, c, top, rfl, hB, ht0, ht1, kk⟩ := h
  refine ⟨_, (pss_cons (ps_asg (pe_op op_add (pe_callTy call_int1' (by rfl) (fr_int T) (by decide +kernel) (pa_cons (pe_ix ix_list (pv 0) pe_int (fun _ _ => rfl)) pa_nil)) pe_int) (pg_sub (pv 0) pe_int set_list)) (pss_cons (ps_if (pt_cmpR op_gt (pe_ix ix_list (pv 0) pe_int (fun _ _ => rfl)) pe_int (nomark _)) (pss_cons (ps_set (i := 2) sc_l_draw.nd rfl (by first | exact Or.inl rfl | exact Or.inr rfl) (pe_op op_mod (pe_callTy call_int1' (by rfl) (fr_int T) (by decide +kernel) (pa_cons (pe_ix ix_list (pv 0) pe_int (fun _ _ => rfl)) pa_nil)) (pv 1))) (pss_cons (ps_asg (pe_op op_fdivW (pe_callTy call_int1' (by rfl) (fr_int T) (by decide +kernel) (pa_cons (pe_ix ix_list (pv 0) pe_int (fun _ _ => rfl)) pa_nil)) (pv 1)) (pg_sub (pv 0) pe_int set_list)) (pss_one (ps_ret (pv 2))))) pss_nil) (pss_cons (ps_set (i := 3) sc_l_draw.nd rfl (by first | exact Or.inl rfl | exact Or.inr rfl) (pe_ix ix_list (pv 0) pe_int (fun _ _ => rfl))) (pss_cons (ps_set (i := 4) sc_l_draw.nd rfl (by first | exact Or.inl rfl | exact Or.inr rfl) (pe_callTy call_int1' (by rfl) (fr_int T) (by decide +kernel) (pa_cons (pe_ix ix_list (pv 0) pe_int (fun _ _ => rfl)) pa_nil))) (pss_cons (ps_asg (pe_op op_add (pv 4) pe_int) (pg_sub (pv 0) pe_int set_list)) (pss_cons (ps_set (i := 5) sc_l_draw.nd rfl (by first | exact Or.inl rfl | exact Or.inr rfl) (pe_callTy call_int1' (by rfl) (fr_int T) (by decide +kernel) (pa_cons (pe_ix ix_list (pv 3) (pe_op op_mod (pv 4) (pe_callB call_lenS (by rfl) (fr_len T) (by decide +kernel) (pa_cons (pv 3) pa_nil))) (fun _ _ => rfl)) pa_nil))) (pss_cons (ps_if (PW.pt (pw_and (pt_cmpR op_lt (pv 4) (pe_callB call_lenS (by rfl) (fr_len T) (by decide +kernel) (pa_cons (pv 3) pa_nil)) (nomark _)) (pw_and1 (pt_cmpR op_ge (pe_callB call_abs' (by rfl) (fr_abs T) (by decide +kernel) (pa_cons (pv 5) pa_nil)) (pe_op op_pow pe_int pe_int) (nomark _))))) (pss_cons (ps_asg (pe_op op_fdivW (pe_callB call_abs' (by rfl) (fr_abs T) (by decide +kernel) (pa_cons (pv 5) pa_nil)) (pv 1)) (pg_sub (pv 0) pe_int set_list)) (pss_one (ps_ret (pe_op op_mod (pe_callTy call_int1' (by rfl) (fr_int T) (by decide +kernel) (pa_cons (pe_callB call_abs' (by rfl) (fr_abs T) (by decide +kernel) (pa_cons (pv 5) pa_nil)) pa_nil)) (pv 1))))) pss_nil) (pss_cons (ps_set (i := 6) sc_l_draw.nd rfl (by first | exact Or.inl rfl | exact Or.inr rfl) (pe_op op_mod (pe_callTy call_int1' (by rfl) (fr_int T) (by decide +kernel) (pa_cons (pe_op op_add (pe_op op_add (pe_op op_mul (pv 5) pe_int) (pe_op op_mul (pe_ix ix_list (pv 0) pe_int (fun _ _ => rfl)) pe_int)) pe_int) pa_nil)) pe_int)) (pss_cons (ps_set (i := 6) sc_l_draw.nd rfl (by first | exact Or.inl rfl | exact Or.inr rfl) (pe_op op_mod (pe_callTy call_int1' (by rfl) (fr_int T) (by decide +kernel) (pa_cons (pe_op op_add (pe_op op_mul (pv 6) (pv 6)) (pe_op op_mul (pe_ix ix_list (pv 0) pe_int (fun _ _ => rfl)) pe_int)) pa_nil)) pe_int)) (pss_cons (ps_set (i := 6) sc_l_draw.nd rfl (by first | exact Or.inl rfl | exact Or.inr rfl) (pe_op op_mod (pe_callTy call_int1' (by rfl) (fr_int T) (by decide +kernel) (pa_cons (pe_op op_add (pe_op op_mul (pv 6) (pv 6)) (pe_op op_fdiv (pv 6) pe_int)) pa_nil)) pe_int)) (pss_one (ps_ret (pe_op op_mod (pe_callTy call_int1' (by rfl) (fr_int T) (by decide +kernel) (pa_cons (pe_op op_fdiv (pv 6) pe_int) pa_nil)) (pv 1)))))))))))))), ?_⟩
  rw [show L2.start n_l_draw [.ref p, .int top] = [some (.ref p), some (.int top), none, none, none, none, none] from rfl]
  try dsimp only [cxOf, Cx.nox, Cx.wish, List.map]

  obtain ⟨⟨ns, a, b, d, h1, h2, h3, h4⟩, ne⟩ := hB
  have hl : 0 < ns.length := List.length_pos_iff.mpr h3
  have m1 := Int.emod_nonneg a (show (ns.length : Int) ≠ 0 by omega)
  have m2 := Int.emod_lt_of_pos a (show (0 : Int) < ns.length by omega)
  wtm_at "rd"
  refine ite_d (fun h => ?_) (fun h => ?_)
  · wtm_at "rd"
    exact kk _ _ (Int.emod_nonneg _ (by omega)) (Int.emod_lt_of_pos _ ht0) ⟨⟨ns, a, _, _, upd_same, by wtm_at "hp", h3, h4⟩, ne⟩ ((Kp.refl.wr (by simp)).wr (by simp))
  · wtm_at "rd"
    refine ite_d (fun h5 => ?_) (fun h5 => ?_)
    · wtm_at "rd"
      refine ite_d (fun h6 => ?_) (fun h6 => ?_)
      · wtm_at "rd"
        exact kk _ _ (Int.emod_nonneg _ (by omega)) (Int.emod_lt_of_pos _ ht0) ⟨⟨ns, _, _, _, upd_same, by wtm_at "hp", h3, h4⟩, ne⟩ (((Kp.refl.wr (by simp)).wr (by simp)).wr (by simp))
      · wtm_at "rd"
        exact kk _ _ (Int.emod_nonneg _ (by omega)) (Int.emod_lt_of_pos _ ht0) ⟨⟨ns, _, _, _, upd_same, by wtm_at "hp", h3, h4⟩, ne⟩ ((Kp.refl.wr (by simp)).wr (by simp))
    · wtm_at "rd"
      exact kk _ _ (Int.emod_nonneg _ (by omega)) (Int.emod_lt_of_pos _ ht0) ⟨⟨ns, _, _, _, upd_same, by wtm_at "hp", h3, h4⟩, ne⟩ ((Kp.refl.wr (by simp)).wr (by simp))
theorem c_l_draw (T : Cx K mg) (B : Tb K mg base) : CalX P w K mg base CX0 1 "_law_draw" (sp_l_draw K) [] := by
  obtain ⟨fd, F, ok⟩ := f_l_draw (P := P) (w := w) (base := base) T B
  exact ⟨_, fd, p_l_draw, [], ok, gl_l_draw T, F.kp, FunD.bindsN F fun _ _ _ _ _ _ us hl => match us, hl with | [_, _], _ => rfl, .nil⟩
end
section
variable {P : Program} {w : World} {K : PySem.W.Frag} {mg : Str → Option Value} {base : Heap}
def sp_l_bits (K : PySem.W.Frag) : Sp := fun vs H Q E => ∃ (p c : Addr), vs = [.ref p] ∧ (Box H p c) ∧ (∀ n H1, 1 ≤ n → n ≤ 8 → Box H1 p c → Kp [p] H H1 → Q (.int n) H1)
theorem us_l_bits {K : PySem.W.Frag} {H : Hp} {Q : VK} {E : XK} {p c : Addr} (hB : Box H p c) (kk : ∀ n H1, 1 ≤ n → n ≤ 8 → Box H1 p c → Kp [p] H H1 → Q (.int n) H1) : sp_l_bits K [.ref p] H Q E := ⟨_, _, rfl, hB, kk⟩
theorem f_l_bits (T : Cx K mg) (B : Tb K mg base) : ∃ fd, FunD K "_law_bits" "_law_bits" (defArgs s_l_bits) (defBody s_l_bits) (defScope s_l_bits) (d_l_bits.dvs K) (d_l_bits.kws K) (fAd K d_l_bits.at_) fd ∧ FnOk P w K mg base CX0 2 (fAd K d_l_bits.at_) fd p_l_bits (sp_l_bits K) := by
  have c_l_draw := c_l_draw (P := P) (w := w) (base := base) T B
  obtain ⟨fd, F⟩ := T.says.def_ 2 (d := d_l_bits) rfl
  refine ⟨fd, F, fnD F sc_l_bits (fun vs H Q E h => by
    obtain ⟨_, _, rfl, _⟩ := h
    rfl) fun cdv A outer s H vs Q E hr h => ?_⟩
  have hu := hu_of hr
  obtain ⟨p, c, rfl, hB, kk⟩ := h
  refine ⟨_, (pss_cons (ps_set (i := 1) sc_l_bits.nd rfl (by first | exact Or.inl rfl | exact Or.inr rfl) (pe_cal c_l_draw hr (by decide) (by rfl) pass0 (pa_cons (pv 0) (pa_cons pe_int pa_nil)))) (pss_cons (ps_if (pt_cmpR op_lt (pv 1) pe_int (nomark _)) (pss_one (ps_ret pe_int)) pss_nil) (pss_cons (ps_if (pt_cmpR op_lt (pv 1) pe_int (nomark _)) (pss_one (ps_ret pe_int)) pss_nil) (pss_one (ps_ret (pe_op op_add pe_int (pe_cal c_l_draw hr (by decide) (by rfl) pass0 (pa_cons (pv 0) (pa_cons pe_int pa_nil))))))))), ?_⟩
  rw [show L2.start n_l_bits [.ref p] = [some (.ref p), none] from rfl]
  try dsimp only [cxOf, Cx.nox, Cx.wish, List.map]

  wtm_at "rd"
  refine us_l_draw hB (by decide) (by decide) fun n H1 n0 n1 B1 k1 => ?_
  wtm_at "rd"
  refine ite_d (fun h => ?_) (fun h => ?_)
  · wtm_at "rd"
    exact kk _ _ (by decide) (by decide) B1 k1
  · wtm_at "rd"
    refine ite_d (fun h => ?_) (fun h => ?_)
    · wtm_at "rd"
      exact kk _ _ (by decide) (by decide) B1 k1
    · wtm_at "rd"
      refine us_l_draw B1 (by decide) (by decide) fun n2 H2 n20 n21 B2 k2 => ?_
      wtm_at "rd"
      exact kk _ _ (by omega) (by omega) B2 (k1.trans k2)
theorem c_l_bits (T : Cx K mg) (B : Tb K mg base) : CalX P w K mg base CX0 2 "_law_bits" (sp_l_bits K) [] := by
  obtain ⟨fd, F, ok⟩ := f_l_bits (P := P) (w := w) (base := base) T B
  exact ⟨_, fd, p_l_bits, [], ok, gl_l_bits T, F.kp, FunD.bindsN F fun _ _ _ _ _ _ us hl => match us, hl with | [_], _ => rfl, .nil⟩
end
section
variable {P : Program} {w : World} {K : PySem.W.Frag} {mg : Str → Option Value} {base : Heap}
def sp_l_patience (K : PySem.W.Frag) : Sp := fun vs H Q E => ∃ (p c : Addr), vs = [.ref p] ∧ (Box H p c) ∧ (∀ n H1, 1 ≤ n → n ≤ 6 → Box H1 p c → Kp [p] H H1 → Q (.int n) H1)
theorem us_l_patience {K : PySem.W.Frag} {H : Hp} {Q : VK} {E : XK} {p c : Addr} (hB : Box H p c) (kk : ∀ n H1, 1 ≤ n → n ≤ 6 → Box H1 p c → Kp [p] H H1 → Q (.int n) H1) : sp_l_patience K [.ref p] H Q E := ⟨_, _, rfl, hB, kk⟩
theorem f_l_patience (T : Cx K mg) (B : Tb K mg base) : ∃ fd, FunD K "_law_patience" "_law_patience" (defArgs s_l_patience) (defBody s_l_patience) (defScope s_l_patience) (d_l_patience.dvs K) (d_l_patience.kws K) (fAd K d_l_patience.at_) fd ∧ FnOk P w K mg base CX0 2 (fAd K d_l_patience.at_) fd p_l_patience (sp_l_patience K) := by
  have c_l_draw := c_l_draw (P := P) (w := w) (base := base) T B
  obtain ⟨fd, F⟩ := T.says.def_ 3 (d := d_l_patience) rfl
  refine ⟨fd, F, fnD F sc_l_patience (fun vs H Q E h => by
    obtain ⟨_, _, rfl, _⟩ := h
    rfl) fun cdv A outer s H vs Q E hr h => ?_⟩
  have hu := hu_of hr
  obtain ⟨p, c, rfl, hB, kk⟩ := h
  refine ⟨_, (pss_cons (ps_set (i := 1) sc_l_patience.nd rfl (by first | exact Or.inl rfl | exact Or.inr rfl) (pe_cal c_l_draw hr (by decide) (by rfl) pass0 (pa_cons (pv 0) (pa_cons pe_int pa_nil)))) (pss_cons (ps_if (pt_cmpR op_lt (pv 1) pe_int (nomark _)) (pss_one (ps_ret pe_int)) pss_nil) (pss_cons (ps_if (pt_cmpR op_lt (pv 1) pe_int (nomark _)) (pss_one (ps_ret pe_int)) pss_nil) (pss_one (ps_ret (pe_op op_add pe_int (pe_cal c_l_draw hr (by decide) (by rfl) pass0 (pa_cons (pv 0) (pa_cons pe_int pa_nil))))))))), ?_⟩
  rw [show L2.start n_l_patience [.ref p] = [some (.ref p), none] from rfl]
  try dsimp only [cxOf, Cx.nox, Cx.wish, List.map]

  wtm_at "rd"
  refine us_l_draw hB (by decide) (by decide) fun n H1 n0 n1 B1 k1 => ?_
  wtm_at "rd"
  refine ite_d (fun h => ?_) (fun h => ?_)
  · wtm_at "rd"
    exact kk _ _ (by decide) (by decide) B1 k1
  · wtm_at "rd"
    refine ite_d (fun h => ?_) (fun h => ?_)
    · wtm_at "rd"
      exact kk _ _ (by decide) (by decide) B1 k1
    · wtm_at "rd"
      refine us_l_draw B1 (by decide) (by decide) fun n2 H2 n20 n21 B2 k2 => ?_
      wtm_at "rd"
      exact kk _ _ (by omega) (by omega) B2 (k1.trans k2)
theorem c_l_patience (T : Cx K mg) (B : Tb K mg base) : CalX P w K mg base CX0 2 "_law_patience" (sp_l_patience K) [] := by
  obtain ⟨fd, F, ok⟩ := f_l_patience (P := P) (w := w) (base := base) T B
  exact ⟨_, fd, p_l_patience, [], ok, gl_l_patience T, F.kp, FunD.bindsN F fun _ _ _ _ _ _ us hl => match us, hl with | [_], _ => rfl, .nil⟩
end
section
variable {P : Program} {w : World} {K : PySem.W.Frag} {mg : Str → Option Value} {base : Heap}
def sp_whole (K : PySem.W.Frag) : Sp := fun vs H Q E => ∃ (v lo hi : Int), vs = [.int v, .int lo, .int hi] ∧ (Q (.bl (decide (lo ≤ v) && decide (v ≤ hi))) H)
theorem us_whole {K : PySem.W.Frag} {H : Hp} {Q : VK} {E : XK} {v lo hi : Int}  (kk : Q (.bl (decide (lo ≤ v) && decide (v ≤ hi))) H) : sp_whole K [.int v, .int lo, .int hi] H Q E := ⟨_, _, _, rfl, kk⟩
theorem f_whole (T : Cx K mg) (B : Tb K mg base) : ∃ fd, FunD K "whole" "whole" (defArgs s_whole) (defBody s_whole) (defScope s_whole) (d_whole.dvs K) (d_whole.kws K) (fAd K d_whole.at_) fd ∧ FnOk P w K mg base CX0 1 (fAd K d_whole.at_) fd p_whole (sp_whole K) := by
  obtain ⟨fd, F⟩ := T.says.def_ 4 (d := d_whole) rfl
  refine ⟨fd, F, fnD F sc_whole (fun vs H Q E h => by
    obtain ⟨_, _, _, rfl, _⟩ := h
    rfl) fun cdv A outer s H vs Q E hr h => ?_⟩
  have hu := hu_of hr
  obtain ⟨v, lo, hi, rfl, kk⟩ := h
  refine ⟨_, (pss_cons (ps_if (PW.pt (pw_or (pt_not (pt_val (pe_callB call_isi (by rfl) (fr_isinstance T) (by decide +kernel) (pa_cons (pv 0) (pa_cons (pe_bltn (v := .ty "int") (by rfl) (fr_int T) (by decide +kernel) rfl) pa_nil))))) (pw_or1 (pt_val (pe_callB call_isi (by rfl) (fr_isinstance T) (by decide +kernel) (pa_cons (pv 0) (pa_cons (pe_bltn (v := .ty "bool") (by rfl) (fr_bool T) (by decide +kernel) rfl) pa_nil))))))) (pss_one (ps_ret pe_bl)) pss_nil) (pss_one (ps_ret (pe_and (pe_cmpR op_le (pv 1) (pv 0) (nomark _)) (pe_one (pe_or (pe_cmp (pc_isN (pv 2))) (pe_one (pe_cmpR op_le (pv 0) (pv 2) (nomark _))))))))), ?_⟩
  rw [show L2.start n_whole [.int v, .int lo, .int hi] = [some (.int v), some (.int lo), some (.int hi)] from rfl]
  try dsimp only [cxOf, Cx.nox, Cx.wish, List.map]

  wtm_at "rd"
  refine ite_d (fun h => ?_) (fun h => ?_)
  · wtm_at "rd"
    rw [decide_eq_true h, Bool.true_and] at kk
    exact kk
  · rw [decide_eq_false h, Bool.false_and] at kk
    exact kk
theorem c_whole (T : Cx K mg) (B : Tb K mg base) : CalX P w K mg base CX0 1 "whole" (sp_whole K) [] := by
  obtain ⟨fd, F, ok⟩ := f_whole (P := P) (w := w) (base := base) T B
  exact ⟨_, fd, p_whole, [], ok, gl_whole T, F.kp, FunD.bindsN F fun _ _ _ _ _ _ us hl => match us, hl with | [_, _, _], _ => rfl, .nil⟩
end
section
variable {P : Program} {w : World} {K : PySem.W.Frag} {mg : Str → Option Value} {base : Heap}
def sp_Setting_init (K : PySem.W.Frag) : Sp := fun vs H Q E => ∃ (p dx : Addr) (s : Stg), vs = [.ref p, .int s.bits, .int s.pat, .int s.room, .int s.grace, .int s.hel] ∧ (H p = some (.ins (ga K "Setting") dx [])) ∧ (s.Ok) ∧ (∀ H1, SetAt K H1 p s → Kp [p] H H1 → Q .non H1)
theorem us_Setting_init {K : PySem.W.Frag} {H : Hp} {Q : VK} {E : XK} {p dx : Addr} {s : Stg} (hp : H p = some (.ins (ga K "Setting") dx [])) (ok : s.Ok) (kk : ∀ H1, SetAt K H1 p s → Kp [p] H H1 → Q .non H1) : sp_Setting_init K [.ref p, .int s.bits, .int s.pat, .int s.room, .int s.grace, .int s.hel] H Q E := ⟨_, _, _, rfl, hp, ok, kk⟩
theorem f_Setting_init (T : Cx K mg) (B : Tb K mg base) : ∃ fd, FunD K "__init__" "Setting.__init__" (defArgs s_Setting_init) (defBody s_Setting_init) (defScope s_Setting_init) (d_Setting_init.dvs K) (d_Setting_init.kws K) (fAd K d_Setting_init.at_) fd ∧ FnOk P w K mg base CX0 2 (fAd K d_Setting_init.at_) fd p_Setting_init (sp_Setting_init K) := by
  have c_whole := c_whole (P := P) (w := w) (base := base) T B
  obtain ⟨fd, F⟩ := T.says.def_ 5 (d := d_Setting_init) rfl
  refine ⟨fd, F, fnD F sc_Setting_init (fun vs H Q E h => by
    obtain ⟨_, _, _, rfl, _⟩ := h
    rfl) fun cdv A outer s H vs Q E hr h => ?_⟩
  have hu := hu_of hr
  obtain ⟨p, dx, s, rfl, hp, ok, kk⟩ := h
  refine ⟨_, (pss_cons (ps_if (pt_not (pt_val (pe_cal c_whole hr (by decide) (by rfl) pass0 (pa_cons (pv 1) (pa_cons pe_int (pa_cons (pe_con (pv 0) rfl) pa_nil)))))) (pss_one ps_never) pss_nil) (pss_cons (ps_if (pt_not (pt_val (pe_cal c_whole hr (by decide) (by rfl) pass0 (pa_cons (pv 2) (pa_cons pe_int (pa_cons (pe_con (pv 0) rfl) pa_nil)))))) (pss_one ps_never) pss_nil) (pss_cons (ps_if (pt_not (pt_val (pe_cal c_whole hr (by decide) (by rfl) pass0 (pa_cons (pv 3) (pa_cons pe_int (pa_cons (pe_con (pv 0) rfl) pa_nil)))))) (pss_one ps_never) pss_nil) (pss_cons (ps_if (pt_not (pt_val (pe_cal c_whole hr (by decide) (by rfl) pass0 (pa_cons (pv 4) (pa_cons pe_int (pa_cons (pe_con (pv 0) rfl) pa_nil)))))) (pss_one ps_never) pss_nil) (pss_cons (ps_if (pt_not (pt_val (pe_cal c_whole hr (by decide) (by rfl) pass0 (pa_cons (pv 5) (pa_cons pe_int (pa_cons (pe_con (pv 0) rfl) pa_nil)))))) (pss_one ps_never) pss_nil) (pss_cons (ps_fld (pv 0) (pv 1) rfl) (pss_cons (ps_fld (pv 0) (pv 2) rfl) (pss_cons (ps_fld (pv 0) (pv 3) rfl) (pss_cons (ps_fld (pv 0) (pv 4) rfl) (pss_one (ps_fld (pv 0) (pv 5) rfl))))))))))), ?_⟩
  rw [show L2.start n_Setting_init [.ref p, .int s.bits, .int s.pat, .int s.room, .int s.grace, .int s.hel] = [some (.ref p), some (.int s.bits), some (.int s.pat), some (.int s.room), some (.int s.grace), some (.int s.hel)] from rfl]
  try dsimp only [cxOf, Cx.nox, Cx.wish, List.map]

  obtain ⟨b0, b1, p0, p1, r0, r1, g0, g1, h0, h1⟩ := id ok
  wtm_at "rd"
  refine us_whole ?_
  wtm_at "rd"
  refine ite_f (by simp; omega) ?_
  wtm_at "rd"
  refine us_whole ?_
  wtm_at "rd"
  refine ite_f (by simp; omega) ?_
  wtm_at "rd"
  refine us_whole ?_
  wtm_at "rd"
  refine ite_f (by simp; omega) ?_
  wtm_at "rd"
  refine us_whole ?_
  wtm_at "rd"
  refine ite_f (by simp; omega) ?_
  wtm_at "rd"
  refine us_whole ?_
  wtm_at "rd"
  refine ite_f (by simp; omega) ?_
  wtm_at "rd"
  exact kk _ ⟨⟨dx, upd_same⟩, ok⟩ (by wtm_at "kp")
theorem c_Setting_init (T : Cx K mg) (B : Tb K mg base) : MakX P w K mg base CX0 2 "Setting" (ga K "Setting") (sp_Setting_init K) [.int 6, .int 1] := by
  obtain ⟨fd, F, ok⟩ := f_Setting_init (P := P) (w := w) (base := base) T B
  obtain ⟨ds, hv, hb⟩ := FunD.binds0 (ps := p_Setting_init) F 4 (fun e => by cases e) rfl fun _ _ _ _ _ _ us ks hu hk => match us, ks, hu, hk with | [_, _, _, _], [_, _], _, _ => ⟨_, _, _, _, _, _, rfl, rfl, ⟨_, _, _, _, _, _, rfl, rfl, rfl⟩⟩
  exact ⟨_, fd, p_Setting_init, ds, mk_Setting T, ok, gl_Setting T, hb, hv⟩
end
section
variable {P : Program} {w : World} {K : PySem.W.Frag} {mg : Str → Option Value} {base : Heap}
def sp_Setting_seats (K : PySem.W.Frag) : Sp := fun vs H Q E => ∃ (p : Addr) (s : Stg), vs = [.ref p] ∧ (SetAt K H p s) ∧ (Q (.int s.ring) H)
theorem us_Setting_seats {K : PySem.W.Frag} {H : Hp} {Q : VK} {E : XK} {p : Addr} {s : Stg} (hS : SetAt K H p s) (kk : Q (.int s.ring) H) : sp_Setting_seats K [.ref p] H Q E := ⟨_, _, rfl, hS, kk⟩
theorem f_Setting_seats (T : Cx K mg) (B : Tb K mg base) : ∃ fd, FunD K "seats" "Setting.seats" (defArgs s_Setting_seats) (defBody s_Setting_seats) (defScope s_Setting_seats) [] [] (prG K "Setting" "seats") fd ∧ FnOk P w K mg base CX0 1 (prG K "Setting" "seats") fd p_Setting_seats (sp_Setting_seats K) := by
  obtain ⟨hP, fd, F⟩ := B.g g_Setting_seats (.head _)
  refine ⟨fd, F, fnD F sc_Setting_seats (fun vs H Q E h => by
    obtain ⟨_, _, rfl, _⟩ := h
    rfl) fun cdv A outer s H vs Q E hr h => ?_⟩
  have hu := hu_of hr
  obtain ⟨p, s, rfl, hS, kk⟩ := h
  refine ⟨_, (pss_one (ps_ret (pe_op op_shl pe_int (pe_fld (pv 0) rfl)))), ?_⟩
  rw [show L2.start n_Setting_seats [.ref p] = [some (.ref p)] from rfl]
  try dsimp only [cxOf, Cx.nox, Cx.wish, List.map]

  obtain ⟨⟨dx, hp⟩, ok⟩ := hS
  have b0 := ok.b0
  have b1 := ok.b1
  wtm_at "rd"
  show Q (.int (1 * 2 ^ s.bits.toNat)) H
  rw [Int.one_mul, ← Stg.ring_eq]
  exact kk
theorem c_Setting_seats (T : Cx K mg) (B : Tb K mg base) : PrpX P w K mg base CX0 1 (ga K "Setting") "seats" (sp_Setting_seats K) := by
  obtain ⟨fd, F, ok⟩ := f_Setting_seats (P := P) (w := w) (base := base) T B
  obtain ⟨hP, -⟩ := B.g g_Setting_seats (.head _)
  exact ⟨_, _, fd, p_Setting_seats, cl_Setting T, hP, ok, FunD.bindsN F fun _ _ _ _ _ _ us hl => match us, hl with | [_], _ => rfl⟩
end
section
variable {P : Program} {w : World} {K : PySem.W.Frag} {mg : Str → Option Value} {base : Heap}
def sp_distance (K : PySem.W.Frag) : Sp := fun vs H Q E => ∃ (p : Addr) (s : Stg) (a b : Int), vs = [.ref p, .int a, .int b] ∧ (SetAt K H p s) ∧ (Q (.int ((b - a) % s.ring)) H)
theorem us_distance {K : PySem.W.Frag} {H : Hp} {Q : VK} {E : XK} {p : Addr} {s : Stg} {a b : Int} (hS : SetAt K H p s) (kk : Q (.int ((b - a) % s.ring)) H) : sp_distance K [.ref p, .int a, .int b] H Q E := ⟨_, _, _, _, rfl, hS, kk⟩
theorem f_distance (T : Cx K mg) (B : Tb K mg base) : ∃ fd, FunD K "distance" "distance" (defArgs s_distance) (defBody s_distance) (defScope s_distance) (d_distance.dvs K) (d_distance.kws K) (fAd K d_distance.at_) fd ∧ FnOk P w K mg base CX0 3 (fAd K d_distance.at_) fd p_distance (sp_distance K) := by
  have c_Setting_seats := c_Setting_seats (P := P) (w := w) (base := base) T B
  obtain ⟨fd, F⟩ := T.says.def_ 6 (d := d_distance) rfl
  refine ⟨fd, F, fnD F sc_distance (fun vs H Q E h => by
    obtain ⟨_, _, _, _, rfl, _⟩ := h
    rfl) fun cdv A outer s H vs Q E hr h => ?_⟩
  have hu := hu_of hr
  obtain ⟨p, s, a, b, rfl, hS, kk⟩ := h
  refine ⟨_, (pss_one (ps_ret (pe_op op_mod (pe_op op_sub (pv 2) (pv 1)) (pe_prpX c_Setting_seats hr (by decide) pass0 (pv 0))))), ?_⟩
  rw [show L2.start n_distance [.ref p, .int a, .int b] = [some (.ref p), some (.int a), some (.int b)] from rfl]
  try dsimp only [cxOf, Cx.nox, Cx.wish, List.map]

  obtain ⟨⟨dx, hp⟩, ok⟩ := id hS
  have r2 := ok.r2
  wtm_at "rd"
  refine us_Setting_seats hS ?_
  wtm_at "rd"
  exact kk
theorem c_distance (T : Cx K mg) (B : Tb K mg base) : CalX P w K mg base CX0 3 "distance" (sp_distance K) [] := by
  obtain ⟨fd, F, ok⟩ := f_distance (P := P) (w := w) (base := base) T B
  exact ⟨_, fd, p_distance, [], ok, gl_distance T, F.kp, FunD.bindsN F fun _ _ _ _ _ _ us hl => match us, hl with | [_, _, _], _ => rfl, .nil⟩
end
section
variable {P : Program} {w : World} {K : PySem.W.Frag} {mg : Str → Option Value} {base : Heap}
def sp_first_from (K : PySem.W.Frag) : Sp := fun vs H Q E => ∃ (S l : Addr) (s : Stg) (place : Int) (xs : List Int), vs = [.ref S, .int place, .ref l] ∧ (SetAt K H S s) ∧ (SqL K H l (xs.map V.int)) ∧ (LamX.Tabs (TT K) H) ∧ (∀ o H1, Kt (TT K) [] H H1 → FirstOf s.ring place xs o → Q (ov o) H1)
theorem us_first_from {K : PySem.W.Frag} {H : Hp} {Q : VK} {E : XK} {S l : Addr} {s : Stg} {place : Int} {xs : List Int} (hS : SetAt K H S s) (hl : SqL K H l (xs.map V.int)) (hT : LamX.Tabs (TT K) H) (kk : ∀ o H1, Kt (TT K) [] H H1 → FirstOf s.ring place xs o → Q (ov o) H1) : sp_first_from K [.ref S, .int place, .ref l] H Q E := ⟨_, _, _, _, _, rfl, hS, hl, hT, kk⟩
theorem f_first_from (T : Cx K mg) (B : Tb K mg base) : ∃ fd, FunD K "first_from" "first_from" (defArgs s_first_from) (defBody s_first_from) (defScope s_first_from) (d_first_from.dvs K) (d_first_from.kws K) (fAd K d_first_from.at_) fd ∧ FnOk P w K mg base CX0 7 (fAd K d_first_from.at_) fd p_first_from (sp_first_from K) := by
  have c_distance := c_distance (P := P) (w := w) (base := base) T B
  obtain ⟨fd, F⟩ := T.says.def_ 7 (d := d_first_from) rfl
  refine ⟨fd, F, fnDc F sc_first_from (fun vs H Q E h => by
    obtain ⟨_, _, _, _, _, rfl, _⟩ := h
    rfl) fun A outer s H vs Q E hr h => ?_⟩
  have hu := hu_of hr
  obtain ⟨S, l, s, place, xs, rfl, hS, hl, hT, kk⟩ := h
  refine ⟨_, (pss_one (ps_ret (pe_minKey (T := TT K) (N := ["setting", "place", "seat"]) (k := 3) (p := "seat") (by rfl) (fr_min T) (pa_cons (pv 2) pa_nil) (B.t _ (List.mem_map_of_mem (.head _))) rfl (.head _) (lamU_first_from T) (hr.mono (by decide)) (lam1_by (by rfl)) (by rfl) (fun _ _ _ _ _ _ => by rfl) (fun s H f c' hr => (pe_cal c_distance hr (by decide) (by rfl) pass0 (pa_cons (pv 0) (pa_cons (pv 1) (pa_cons (pv 2) pa_nil)))))))), ?_⟩
  rw [show L2.start n_first_from [.ref S, .int place, .ref l] = [some (.ref S), some (.int place), some (.ref l)] from rfl]
  try dsimp only [cxOf, Cx.nox, Cx.wish, List.map]

  wtm_at "rd"
  refine rd_minI (fun x => (x - place) % s.ring) xs (fun n => [some (.ref S), some (.int place), some (.int n)]) hl hT (fun n => ⟨rfl, fun i y x e1 e2 => ?_⟩) (fun H3 n Q' hn k3 q => ?_) (fun H3 e k3 => ?_) (fun H3 i b k3 hb hm => ?_)
  · rcases i with _ | _ | _ | i
    · cases e1; cases e2; exact .inr ⟨by decide, 0, rfl, rfl⟩
    · cases e1; cases e2; exact .inr ⟨by decide, 1, rfl, rfl⟩
    · cases e1; cases e2; exact .inl ⟨rfl, rfl⟩
    · cases e1
  · wtm_at "rd"
    exact us_distance (hS.kt k3) q
  · exact kk none H3 k3 e
  · refine kk (some b) H3 k3 ⟨List.mem_of_getElem? hb, fun z hz => ?_⟩
    obtain ⟨j, hj⟩ := List.mem_iff_getElem?.mp hz
    exact (hm j z hj).1
theorem c_first_from (T : Cx K mg) (B : Tb K mg base) : CalX P w K mg base CX0 7 "first_from" (sp_first_from K) [] := by
  obtain ⟨fd, F, ok⟩ := f_first_from (P := P) (w := w) (base := base) T B
  exact ⟨_, fd, p_first_from, [], ok, gl_first_from T, F.kp, FunD.bindsN F fun _ _ _ _ _ _ us hl => match us, hl with | [_, _, _], _ => rfl, .nil⟩
end
section
variable {P : Program} {w : World} {K : PySem.W.Frag} {mg : Str → Option Value} {base : Heap}
def sp_Tour_init (K : PySem.W.Frag) : Sp := fun vs H Q E => ∃ (t S dx : Addr) (seat : Int) (beh : Option Int), vs = [.ref t, .ref S, .int seat, ov beh] ∧ (H t = some (.ins (ga K "Tour") dx [])) ∧ (∀ H1, TourAt K H1 t S ⟨beh.getD seat, none, false, 0⟩ → Kp [t] H H1 → Q .non H1)
theorem us_Tour_init {K : PySem.W.Frag} {H : Hp} {Q : VK} {E : XK} {t S dx : Addr} {seat : Int} {beh : Option Int} (hp : H t = some (.ins (ga K "Tour") dx [])) (kk : ∀ H1, TourAt K H1 t S ⟨beh.getD seat, none, false, 0⟩ → Kp [t] H H1 → Q .non H1) : sp_Tour_init K [.ref t, .ref S, .int seat, ov beh] H Q E := ⟨_, _, _, _, _, rfl, hp, kk⟩
theorem f_Tour_init (T : Cx K mg) (B : Tb K mg base) : ∃ fd, FunD K "__init__" "Tour.__init__" (defArgs s_Tour_init) (defBody s_Tour_init) (defScope s_Tour_init) (d_Tour_init.dvs K) (d_Tour_init.kws K) (fAd K d_Tour_init.at_) fd ∧ FnOk P w K mg base CX0 1 (fAd K d_Tour_init.at_) fd p_Tour_init (sp_Tour_init K) := by
  obtain ⟨fd, F⟩ := T.says.def_ 8 (d := d_Tour_init) rfl
  refine ⟨fd, F, fnD F sc_Tour_init (fun vs H Q E h => by
    obtain ⟨_, _, _, _, _, rfl, _⟩ := h
    rfl) fun cdv A outer s H vs Q E hr h => ?_⟩
  have hu := hu_of hr
  obtain ⟨t, S, dx, seat, beh, rfl, hp, kk⟩ := h
  refine ⟨_, (pss_cons (ps_fld (pv 0) pe_non rfl) (pss_cons (ps_fld (pv 0) pe_int rfl) (pss_cons (ps_fld (pv 0) (pv 1) rfl) (pss_cons (ps_fld (pv 0) (pe_ifExp (pt_cmp (pc_isN (pv 3))) (pv 2) (pv 3)) rfl) (pss_one (ps_fld (pv 0) pe_bl rfl)))))), ?_⟩
  rw [show L2.start n_Tour_init [.ref t, .ref S, .int seat, ov beh] = [some (.ref t), some (.ref S), some (.int seat), some (ov beh)] from rfl]
  try dsimp only [cxOf, Cx.nox, Cx.wish, List.map]

  cases beh with
  | none =>
    wtm_at "rd"
    exact kk _ ⟨dx, upd_same⟩ (by wtm_at "kp")
  | some b =>
    wtm_at "rd"
    exact kk _ ⟨dx, upd_same⟩ (by wtm_at "kp")
theorem c_Tour_init (T : Cx K mg) (B : Tb K mg base) : MakX P w K mg base CX0 1 "Tour" (ga K "Tour") (sp_Tour_init K) [.non] := by
  obtain ⟨fd, F, ok⟩ := f_Tour_init (P := P) (w := w) (base := base) T B
  obtain ⟨ds, hv, hb⟩ := FunD.binds0 (ps := p_Tour_init) F 3 (fun e => by cases e) rfl fun _ _ _ _ _ _ us ks hu hk => match us, ks, hu, hk with | [_, _, _], [_], _, _ => ⟨_, _, _, _, _, _, rfl, rfl, rfl⟩
  exact ⟨_, fd, p_Tour_init, ds, mk_Tour T, ok, gl_Tour T, hb, hv⟩
def kg_Tour_init_behind {α : Type} : List α → List α → List α → List α := fun us mz zs => us ++ (zs[0]?).toList
theorem kr_Tour_init_behind {vs mz zs : List V} {us mv ws : List Value} (r1 : Vals vs us) (r2 : Vals mz mv) (r3 : Vals zs ws) : Vals (kg_Tour_init_behind vs mz zs) (kg_Tour_init_behind us mv ws) := (Vals.append r1 (vals_at 0 r3))
theorem c_Tour_init_behind (T : Cx K mg) (B : Tb K mg base) : MakKX P w K mg base CX0 1 "Tour" (ga K "Tour") (sp_Tour_init K) 2 ["behind"] (fun vs zs => kg_Tour_init_behind vs [] zs) := by
  obtain ⟨fd, F, ok⟩ := f_Tour_init (P := P) (w := w) (base := base) T B
  obtain ⟨mv, hb⟩ := FunD.kbinds0 (ps := p_Tour_init) F 3 ["behind"] [] kg_Tour_init_behind (fun e => by cases e) (fun q hq => nomatch hq) kr_Tour_init_behind fun _ _ _ _ _ _ us mv ws hu hm hw => match us, mv, ws, hu, hm, hw with | [_, _, _], [], [_], _, _, _ => rfl
  exact ⟨_, fd, p_Tour_init, _, mk_Tour T, ok, gl_Tour T, hb⟩
end
section
variable {P : Program} {w : World} {K : PySem.W.Frag} {mg : Str → Option Value} {base : Heap}
def sp_Tour_aim (K : PySem.W.Frag) : Sp := fun vs H Q E => ∃ (t S l : Addr) (s : Stg) (m : Mo) (xs : List Int), vs = [.ref t, .ref l] ∧ (TourAt K H t S m) ∧ (SetAt K H S s) ∧ (m.run = true → ∃ n, m.now = some n) ∧ (SqL K H l (xs.map V.int)) ∧ (LamX.Tabs (TT K) H) ∧ (∀ H1 m', Kt (TT K) [t] H H1 → TourAt K H1 t S m' → AimR s.ring m xs m' → Q (ov m'.now) H1)
theorem us_Tour_aim {K : PySem.W.Frag} {H : Hp} {Q : VK} {E : XK} {t S l : Addr} {s : Stg} {m : Mo} {xs : List Int} (hA : TourAt K H t S m) (hS : SetAt K H S s) (hrun : m.run = true → ∃ n, m.now = some n) (hl : SqL K H l (xs.map V.int)) (hT : LamX.Tabs (TT K) H) (kk : ∀ H1 m', Kt (TT K) [t] H H1 → TourAt K H1 t S m' → AimR s.ring m xs m' → Q (ov m'.now) H1) : sp_Tour_aim K [.ref t, .ref l] H Q E := ⟨_, _, _, _, _, _, rfl, hA, hS, hrun, hl, hT, kk⟩
theorem f_Tour_aim (T : Cx K mg) (B : Tb K mg base) : ∃ fd, FunD K "aim" "Tour.aim" (defArgs s_Tour_aim) (defBody s_Tour_aim) (defScope s_Tour_aim) (d_Tour_aim.dvs K) (d_Tour_aim.kws K) (fAd K d_Tour_aim.at_) fd ∧ FnOk P w K mg base CX0 8 (fAd K d_Tour_aim.at_) fd p_Tour_aim (sp_Tour_aim K) := by
  have c_first_from := c_first_from (P := P) (w := w) (base := base) T B
  obtain ⟨fd, F⟩ := T.says.def_ 9 (d := d_Tour_aim) rfl
  refine ⟨fd, F, fnD F sc_Tour_aim (fun vs H Q E h => by
    obtain ⟨_, _, _, _, _, _, rfl, _⟩ := h
    rfl) fun cdv A outer s H vs Q E hr h => ?_⟩
  have hu := hu_of hr
  obtain ⟨t, S, l, s, m, xs, rfl, hA, hS, hrun, hl, hT, kk⟩ := h
  refine ⟨_, (C8.pss_cut (ps_if (PW.pt (pw_and (pt_val (pe_fld (pv 0) rfl)) (pw_and1 (pt_cmpR op_in_seq (pe_fld (pv 0) rfl) (pv 1) rfl)))) (pss_one (ps_ret (pe_fld (pv 0) rfl))) pss_nil) (pss_cons (ps_fld (pv 0) (pe_cal c_first_from hr (by decide) (by rfl) pass0 (pa_cons (pe_fld (pv 0) rfl) (pa_cons (pe_op op_add (pe_fld (pv 0) rfl) pe_int) (pa_cons (pv 1) pa_nil)))) rfl) (pss_cons (ps_fld (pv 0) pe_int rfl) (pss_cons (ps_fld (pv 0) (pe_cmp (pc_notN (pe_fld (pv 0) rfl))) rfl) (pss_cons (ps_if (pt_val (pe_fld (pv 0) rfl)) (pss_one (ps_fld (pv 0) (pe_fld (pv 0) rfl) rfl)) pss_nil) (pss_one (ps_ret (pe_fld (pv 0) rfl)))))))), ?_⟩
  rw [show L2.start n_Tour_aim [.ref t, .ref l] = [some (.ref t), some (.ref l)] from rfl]
  try dsimp only [cxOf, Cx.nox, Cx.wish, List.map]

  obtain ⟨last, now, run, bad⟩ := m
  obtain ⟨dx, hA⟩ := hA
  dsimp only at hA
  have nSt : S ≠ t := hS.neins hA (by decide)
  wtm_at "rd"
  refine rd_cut (fun σ H1 => σ = [some (.ref t), some (.ref l)] ∧ H1 = H ∧ ¬ (run = true ∧ ∃ n, now = some n ∧ n ∈ xs)) ?_ ?_
  · wtm_at "rd"
    refine ite_b (fun h => ?_) (fun h => ?_)
    · obtain ⟨n, e⟩ := hrun h
      obtain rfl : now = some n := e
      wtm_at "rd"
      refine ite_d (fun h2 => ?_) (fun h2 => ?_)
      · wtm_at "rd"
        exact kk H ⟨last, some n, run, bad⟩ (Kt.refl hT) ⟨dx, hA⟩ (.inl ⟨h, ⟨n, rfl, h2⟩, rfl⟩)
      · wtm_at "rd"
        refine ⟨rfl, rfl, fun z => ?_⟩
        obtain ⟨n', e, q⟩ := z.2
        cases e
        exact h2 q
    · wtm_at "rd"
      refine ⟨rfl, rfl, fun z => ?_⟩
      rw [h] at z
      cases z.1
  · rintro σ H1 ⟨rfl, rfl, hc⟩
    wtm_at "rd"
    refine us_first_from hS hl hT fun o H2 k2 ho => ?_
    have hA2 := k2.g0 (by intro _ z; cases z) hA
    have kt := Kt.of0 (ps := [t]) k2
    cases o with
    | none =>
      wtm_at "rd"
      exact kk _ ⟨last, none, false, 0⟩ (by wtm_at "kt") ⟨dx, upd_same⟩ (.inr ⟨hc, none, ho, rfl⟩)
    | some b =>
      wtm_at "rd"
      exact kk _ ⟨b, some b, true, 0⟩ (by wtm_at "kt") ⟨dx, upd_same⟩ (.inr ⟨hc, some b, ho, rfl⟩)
theorem c_Tour_aim (T : Cx K mg) (B : Tb K mg base) : MetX P w K mg base CX0 8 (ga K "Tour") "aim" (sp_Tour_aim K) [] := by
  obtain ⟨fd, F, ok⟩ := f_Tour_aim (P := P) (w := w) (base := base) T B
  exact ⟨_, fd, p_Tour_aim, [], cl_Tour T, mt_Tour_aim T, ok, FunD.bindsN F fun _ _ _ _ _ _ us hl => match us, hl with | [_, _], _ => rfl, .nil⟩
end
section
variable {P : Program} {w : World} {K : PySem.W.Frag} {mg : Str → Option Value} {base : Heap}
def sp_Tour_report (K : PySem.W.Frag) : Sp := fun vs H Q E => ∃ (t S : Addr) (s : Stg) (m : Mo) (b : Bool), vs = [.ref t, .bl b] ∧ (TourAt K H t S m) ∧ (SetAt K H S s) ∧ (∀ H1, TourAt K H1 t S (repM s.pat m b) → Kp [t] H H1 → Q .non H1)
theorem us_Tour_report {K : PySem.W.Frag} {H : Hp} {Q : VK} {E : XK} {t S : Addr} {s : Stg} {m : Mo} {b : Bool} (hA : TourAt K H t S m) (hS : SetAt K H S s) (kk : ∀ H1, TourAt K H1 t S (repM s.pat m b) → Kp [t] H H1 → Q .non H1) : sp_Tour_report K [.ref t, .bl b] H Q E := ⟨_, _, _, _, _, rfl, hA, hS, kk⟩
theorem f_Tour_report (T : Cx K mg) (B : Tb K mg base) : ∃ fd, FunD K "report" "Tour.report" (defArgs s_Tour_report) (defBody s_Tour_report) (defScope s_Tour_report) (d_Tour_report.dvs K) (d_Tour_report.kws K) (fAd K d_Tour_report.at_) fd ∧ FnOk P w K mg base CX0 1 (fAd K d_Tour_report.at_) fd p_Tour_report (sp_Tour_report K) := by
  obtain ⟨fd, F⟩ := T.says.def_ 10 (d := d_Tour_report) rfl
  refine ⟨fd, F, fnD F sc_Tour_report (fun vs H Q E h => by
    obtain ⟨_, _, _, _, _, rfl, _⟩ := h
    rfl) fun cdv A outer s H vs Q E hr h => ?_⟩
  have hu := hu_of hr
  obtain ⟨t, S, s, m, b, rfl, hA, hS, kk⟩ := h
  refine ⟨_, (pss_cons (ps_if (pt_not (pt_val (pe_fld (pv 0) rfl))) (pss_one ps_retN) pss_nil) (pss_cons (ps_if (pt_val (pv 1)) (pss_cons (ps_fld (pv 0) pe_bl rfl) (pss_one ps_retN)) pss_nil) (pss_cons (ps_fldaug (pv 0) pe_int in_add) (pss_one (ps_if (pt_cmpR op_ge (pe_fld (pv 0) rfl) (pe_fld (pe_fld (pv 0) rfl) rfl) (nomark _)) (pss_one (ps_fld (pv 0) pe_bl rfl)) pss_nil))))), ?_⟩
  rw [show L2.start n_Tour_report [.ref t, .bl b] = [some (.ref t), some (.bl b)] from rfl]
  try dsimp only [cxOf, Cx.nox, Cx.wish, List.map]

  obtain ⟨last, now, run, bad⟩ := m
  obtain ⟨dx, hA⟩ := hA
  dsimp only at hA
  have nSt : S ≠ t := hS.neins hA (by decide)
  obtain ⟨dS, hS1⟩ := hS.ex
  cases run with
  | false =>
    wtm_at "rd"
    exact kk H ⟨dx, hA⟩ Kp.refl
  | true =>
    cases b with
    | true =>
      wtm_at "rd"
      exact kk _ ⟨dx, upd_same⟩ (by wtm_at "kp")
    | false =>
      wtm_at "rd"
      refine ite_d (fun h => ?_) (fun h => ?_)
      · wtm_at "rd"
        refine kk _ ⟨dx, ?_⟩ (by wtm_at "kp")
        rw [upd_same]
        show _ = some (HO.ins _ _ [_, _, _, _, (_, V.bl (decide (bad + 1 < s.pat)))])
        rw [decide_eq_false (by omega)]
        rfl
      · wtm_at "rd"
        refine kk _ ⟨dx, ?_⟩ (by wtm_at "kp")
        rw [upd_same]
        show _ = some (HO.ins _ _ [_, _, _, _, (_, V.bl (decide (bad + 1 < s.pat)))])
        rw [decide_eq_true (by omega)]
        rfl
theorem c_Tour_report (T : Cx K mg) (B : Tb K mg base) : MetX P w K mg base CX0 1 (ga K "Tour") "report" (sp_Tour_report K) [] := by
  obtain ⟨fd, F, ok⟩ := f_Tour_report (P := P) (w := w) (base := base) T B
  exact ⟨_, fd, p_Tour_report, [], cl_Tour T, mt_Tour_report T, ok, FunD.bindsN F fun _ _ _ _ _ _ us hl => match us, hl with | [_, _], _ => rfl, .nil⟩
end
section
variable {P : Program} {w : World} {K : PySem.W.Frag} {mg : Str → Option Value} {base : Heap}
def sp_l_flags (K : PySem.W.Frag) : Sp := fun vs H Q E => ∃ (p c : Addr) (r own : Int), vs = [.ref p, .int r, .int own] ∧ (Box H p c) ∧ (Ring r) ∧ (∀ (q : Addr) H1, FlAt H1 q r → Box H1 p c → H q = none → Kp [p] H H1 → Q (.ref q) H1)
theorem us_l_flags {K : PySem.W.Frag} {H : Hp} {Q : VK} {E : XK} {p c : Addr} {r own : Int} (hB : Box H p c) (hR : Ring r) (kk : ∀ (q : Addr) H1, FlAt H1 q r → Box H1 p c → H q = none → Kp [p] H H1 → Q (.ref q) H1) : sp_l_flags K [.ref p, .int r, .int own] H Q E := ⟨_, _, _, _, rfl, hB, hR, kk⟩
theorem f_l_flags (T : Cx K mg) (B : Tb K mg base) : ∃ fd, FunD K "_law_flags" "_law_flags" (defArgs s_l_flags) (defBody s_l_flags) (defScope s_l_flags) (d_l_flags.dvs K) (d_l_flags.kws K) (fAd K d_l_flags.at_) fd ∧ FnOk P w K mg base CX0 2 (fAd K d_l_flags.at_) fd p_l_flags (sp_l_flags K) := by
  have c_l_draw := c_l_draw (P := P) (w := w) (base := base) T B
  obtain ⟨fd, F⟩ := T.says.def_ 11 (d := d_l_flags) rfl
  refine ⟨fd, F, fnD F sc_l_flags (fun vs H Q E h => by
    obtain ⟨_, _, _, _, rfl, _⟩ := h
    rfl) fun cdv A outer s H vs Q E hr h => ?_⟩
  have hu := hu_of hr
  obtain ⟨p, c, r, own, rfl, hB, hR, kk⟩ := h
  refine ⟨_, (pss_cons (ps_set (i := 3) sc_l_flags.nd rfl (by first | exact Or.inl rfl | exact Or.inr rfl) (pe_cal c_l_draw hr (by decide) (by rfl) pass0 (pa_cons (pv 0) (pa_cons pe_int pa_nil)))) (pss_cons (ps_set (i := 4) sc_l_flags.nd rfl (by first | exact Or.inl rfl | exact Or.inr rfl) pe_int) (pss_cons (ps_set (i := 5) sc_l_flags.nd rfl (by first | exact Or.inl rfl | exact Or.inr rfl) (pe_lst pa_nil)) (pss_cons (ps_for PassesOwn.never rfl (pi_range1 (by rfl) (fr_range T) (pa_cons (pv 1) pa_nil)) (pg_name (i := 6) sc_l_flags.nd rfl (by first | exact Or.inl rfl | exact Or.inr rfl)) (C8.pss_cut (ps_if (pt_cmpR op_eq (pe_op op_mod (pv 6) pe_int) pe_int (nomark _)) (pss_cons (ps_set (i := 4) sc_l_flags.nd rfl (by first | exact Or.inl rfl | exact Or.inr rfl) (pe_cal c_l_draw hr (by decide) (by rfl) pass0 (pa_cons (pv 0) (pa_cons pe_int pa_nil)))) (pss_cons (ps_if (pt_cmpR op_eq (pv 3) pe_int (nomark _)) (pss_one (ps_set (i := 4) sc_l_flags.nd rfl (by first | exact Or.inl rfl | exact Or.inr rfl) (pe_op op_and (pv 4) (pe_cal c_l_draw hr (by decide) (by rfl) pass0 (pa_cons (pv 0) (pa_cons pe_int pa_nil)))))) pss_nil) (pss_one (ps_if (pt_cmpR op_eq (pv 3) pe_int (nomark _)) (pss_one (ps_set (i := 4) sc_l_flags.nd rfl (by first | exact Or.inl rfl | exact Or.inr rfl) pe_int)) pss_nil)))) pss_nil) (pss_one (ps_expr (pe_bm PySem.F.plainAttrs_list PySem.F.slot_list_append PySem.F.type_list_append mt_append (pv 5) (pa_cons (pe_and (pe_cmpR op_eq (pe_op op_mod (pe_callTy call_int1' (by rfl) (fr_int T) (by decide +kernel) (pa_cons (pe_op op_shr (pv 4) (pe_op op_mod (pv 6) pe_int)) pa_nil)) pe_int) pe_int (nomark _)) (pe_one (pe_cmpR op_ne (pv 6) (pv 2) (nomark _)))) pa_nil)))))) (pss_one (ps_ret (pv 5))))))), ?_⟩
  rw [show L2.start n_l_flags [.ref p, .int r, .int own] = [some (.ref p), some (.int r), some (.int own), none, none, none, none] from rfl]
  try dsimp only [cxOf, Cx.nox, Cx.wish, List.map]

  have r0 := hR.pos
  have r1 := hR.le
  wtm_at "rd"
  refine us_l_draw hB (by decide) (by decide) fun way H1 n10 n11 B1 k1 => ?_
  wtm_at "rd"
  refine ⟨sz1000 (by simp), fun q nq => ?_⟩
  have nq0 : H q = none := k1.back nq (by
    have := B1.ne1 nq
    simpa using Ne.symm this)
  have B2 : Box (upd H1 q (.lst [])) p c := B1.new nq
  have k2 : Kp [p] H (upd H1 q (.lst [])) := k1.nw nq
  wtm_at "rd"
  refine forR_by (fun i σ H2 => (∃ ch v5, σ = [some (.ref p), some (.int r), some (.int own), some (.int way), some (.int ch), some (.ref q), v5]) ∧ (∃ bs : List Bool, bs.length = i ∧ H2 q = some (.lst (bs.map V.bl))) ∧ Box H2 p c ∧ Kp [p] H H2) ⟨⟨_, _, rfl⟩, ⟨[], rfl, upd_same⟩, B2, k2⟩ ?_ ?_
  · rintro i σ H2 hi ⟨⟨ch, v5, rfl⟩, ⟨bs, hbs, hq⟩, B2, k2⟩
    wtm_at "rd"
    refine rd_cut (fun σ H3 => (∃ ch, σ = [some (.ref p), some (.int r), some (.int own), some (.int way), some (.int ch), some (.ref q), some (.int (0 + (i : Int)))]) ∧ H3 q = some (.lst (bs.map V.bl)) ∧ Box H3 p c ∧ Kp [p] H H3) ?_ ?_
    · have npq : p ≠ q := (B1.ne1 nq)
      wtm_at "rd"
      refine ite_d (fun h => ?_) (fun h => ?_)
      · wtm_at "rd"
        refine us_l_draw B2 (by decide) (by decide) fun c1 H3 c10 c11 B3 k3 => ?_
        have hq3 := k3.g1 (Ne.symm npq) hq
        wtm_at "rd"
        refine ite_d (fun h => ?_) (fun h => ?_)
        · subst h
          wtm_at "rd"
          refine us_l_draw B3 (by decide) (by decide) fun c2 H4 c20 c21 B4 k4 => ?_
          have hq4 := k4.g1 (Ne.symm npq) hq3
          wtm_at "rd"
          refine ite_d (fun h => absurd h (by decide)) (fun _ => ?_)
          wtm_at "rd"
          exact ⟨⟨_, rfl⟩, hq4, B4, (k2.trans k3).trans k4⟩
        · wtm_at "rd"
          refine ite_d (fun h => ?_) (fun h => ?_)
          · wtm_at "rd"
            exact ⟨⟨_, rfl⟩, hq3, B3, k2.trans k3⟩
          · wtm_at "rd"
            exact ⟨⟨_, rfl⟩, hq3, B3, k2.trans k3⟩
      · wtm_at "rd"
        exact ⟨⟨_, rfl⟩, hq, B2, k2⟩
    · rintro σ H3 ⟨⟨ch, rfl⟩, hq3, B3, k3⟩
      have sl : (bs.map V.bl).length < sizeLine := szlt (by rw [List.length_map]; omega)
      have m0 := Int.emod_nonneg (0 + (i : Int)) (show (16 : Int) ≠ 0 by decide)
      have fin : ∀ b : Bool, (∃ ch' v5, ([some (.ref p), some (.int r), some (.int own), some (.int way), some (.int ch), some (.ref q), some (.int (0 + (i : Int)))] : L2.St) = [some (.ref p), some (.int r), some (.int own), some (.int way), some (.int ch'), some (.ref q), v5]) ∧
          (∃ cs : List Bool, cs.length = i + 1 ∧ upd H3 q (.lst (bs.map V.bl ++ [.bl b])) q = some (.lst (cs.map V.bl))) ∧ Box (upd H3 q (.lst (bs.map V.bl ++ [.bl b]))) p c ∧ Kp [p] H (upd H3 q (.lst (bs.map V.bl ++ [.bl b]))) := fun b => by
        refine ⟨⟨_, _, rfl⟩, ⟨bs ++ [b], by rw [List.length_append, hbs]; rfl, by rw [upd_same, List.map_append]; rfl⟩, B3.k1 (q := q) (Kp.refl.wr (by simp)) (B1.ne1 nq) (B1.ne2 nq), k3.mine nq0⟩
      wtm_at "rd"
      refine ite_d (fun h => ?_) (fun h => ?_)
      · wtm_at "rd"
        exact fin _
      · wtm_at "rd"
        exact fin _
  · rintro σ H2 ⟨⟨ch, v5, rfl⟩, ⟨bs, hbs, hq⟩, B2, k2⟩
    wtm_at "rd"
    exact kk q _ ⟨bs, hq, hbs⟩ B2 nq0 k2
theorem c_l_flags (T : Cx K mg) (B : Tb K mg base) : CalX P w K mg base CX0 2 "_law_flags" (sp_l_flags K) [] := by
  obtain ⟨fd, F, ok⟩ := f_l_flags (P := P) (w := w) (base := base) T B
  exact ⟨_, fd, p_l_flags, [], ok, gl_l_flags T, F.kp, FunD.bindsN F fun _ _ _ _ _ _ us hl => match us, hl with | [_, _, _], _ => rfl, .nil⟩
end
section
variable {P : Program} {w : World} {K : PySem.W.Frag} {mg : Str → Option Value} {base : Heap}
def sp_l_first (K : PySem.W.Frag) : Sp := fun vs H Q E => ∃ (l : Addr) (r place : Int) (xs : List Int), vs = [.int r, .int place, .ref l] ∧ (Ring r) ∧ (SqL K H l (xs.map V.int)) ∧ (∀ z, z ∈ xs → 0 ≤ z ∧ z < r) ∧ (0 < xs.length ∧ xs.length ≤ 1000) ∧ (∀ b H1, FirstOf r place xs (some b) → Kp [] H H1 → Q (.int b) H1)
theorem us_l_first {K : PySem.W.Frag} {H : Hp} {Q : VK} {E : XK} {l : Addr} {r place : Int} {xs : List Int} (hR : Ring r) (hl : SqL K H l (xs.map V.int)) (hx : ∀ z, z ∈ xs → 0 ≤ z ∧ z < r) (hn : 0 < xs.length ∧ xs.length ≤ 1000) (kk : ∀ b H1, FirstOf r place xs (some b) → Kp [] H H1 → Q (.int b) H1) : sp_l_first K [.int r, .int place, .ref l] H Q E := ⟨_, _, _, _, rfl, hR, hl, hx, hn, kk⟩
theorem f_l_first (T : Cx K mg) (B : Tb K mg base) : ∃ fd, FunD K "_law_first" "_law_first" (defArgs s_l_first) (defBody s_l_first) (defScope s_l_first) (d_l_first.dvs K) (d_l_first.kws K) (fAd K d_l_first.at_) fd ∧ FnOk P w K mg base CX0 1 (fAd K d_l_first.at_) fd p_l_first (sp_l_first K) := by
  obtain ⟨fd, F⟩ := T.says.def_ 12 (d := d_l_first) rfl
  refine ⟨fd, F, fnD F sc_l_first (fun vs H Q E h => by
    obtain ⟨_, _, _, _, rfl, _⟩ := h
    rfl) fun cdv A outer s H vs Q E hr h => ?_⟩
  have hu := hu_of hr
  obtain ⟨l, r, place, xs, rfl, hR, hl, hx, hn, kk⟩ := h
  refine ⟨_, (pss_cons (ps_set (i := 3) sc_l_first.nd rfl (by first | exact Or.inl rfl | exact Or.inr rfl) (pe_callB (cr_min rfl) (by rfl) (fr_min T) (by decide +kernel) (pa_cons (pe_lc (own := [("_law_spot", 4)]) (g := (gName 4)) (tt := tYes) rfl sc_l_first.nd (pi_list (pv 2)) (blkOk_by (own := [("_law_spot", 4)]) (N := n_l_first) (sc := defScope s_l_first) (by decide +kernel)) (fun _ _ _ _ _ => (pg_name (i := 4) sc_l_first.nd rfl (by first | exact Or.inl rfl | exact Or.inr rfl))) (fun _ _ _ _ _ => pts_nil) (fun _ _ _ _ _ => (pe_op op_mod (pe_callTy call_int1' (by rfl) (fr_int T) (by decide +kernel) (pa_cons (pe_op op_sub (pv 4) (pv 1)) pa_nil)) (pv 0)))) pa_nil))) (pss_one (ps_ret (pe_op op_mod (pe_callTy call_int1' (by rfl) (fr_int T) (by decide +kernel) (pa_cons (pe_op op_add (pv 1) (pv 3)) pa_nil)) (pv 0))))), ?_⟩
  rw [show L2.start n_l_first [.int r, .int place, .ref l] = [some (.int r), some (.int place), some (.ref l), none, none] from rfl]
  try dsimp only [cxOf, Cx.nox, Cx.wish, List.map]

  have r0 := hR.pos
  wtm_at "rd"
  intro D hD
  refine lcF_ints xs (fun _ => true) (fun x => V.int ((x - place) % r)) hl hD (by omega) (fun i h H1 E N k1 hE hN => ?_) (fun H1 k1 hD1 => ?_)
  · wtm_at "rd"
    refine ⟨rfl, ?_⟩
    wtm_at "rd"
    exact hE _ Kp.refl rfl
  · rw [List.filter_eq_self.mpr (fun _ _ => rfl)] at hD1
    have hD2 : H1 D = some (.lst ((xs.map fun x => (x - place) % r).map V.int)) := by
      rw [hD1, List.map_map]
      rfl
    wtm_at "rd"
    refine rd_minL (SqL.of hD2) (by rw [List.length_map]; exact hn.1) fun m hm hle => ?_
    obtain ⟨x, hxm, rfl⟩ := List.mem_map.mp hm
    have x1 := hx x hxm
    wtm_at "rd"
    rw [key_to hR x1.1 x1.2]
    exact kk x H1 ⟨hxm, fun z hz => hle _ (List.mem_map_of_mem hz)⟩ k1
theorem c_l_first (T : Cx K mg) (B : Tb K mg base) : CalX P w K mg base CX0 1 "_law_first" (sp_l_first K) [] := by
  obtain ⟨fd, F, ok⟩ := f_l_first (P := P) (w := w) (base := base) T B
  exact ⟨_, fd, p_l_first, [], ok, gl_l_first T, F.kp, FunD.bindsN F fun _ _ _ _ _ _ us hl => match us, hl with | [_, _, _], _ => rfl, .nil⟩
end
section
variable {P : Program} {w : World} {K : PySem.W.Frag} {mg : Str → Option Value} {base : Heap}
def sp_l_same (K : PySem.W.Frag) : Sp := fun vs H Q E => ∃ (o : Option Int), vs = [ov o, ov o] ∧ (Q (.bl true) H)
theorem us_l_same {K : PySem.W.Frag} {H : Hp} {Q : VK} {E : XK} {o : Option Int}  (kk : Q (.bl true) H) : sp_l_same K [ov o, ov o] H Q E := ⟨_, rfl, kk⟩
theorem f_l_same (T : Cx K mg) (B : Tb K mg base) : ∃ fd, FunD K "_law_same" "_law_same" (defArgs s_l_same) (defBody s_l_same) (defScope s_l_same) (d_l_same.dvs K) (d_l_same.kws K) (fAd K d_l_same.at_) fd ∧ FnOk P w K mg base CX0 1 (fAd K d_l_same.at_) fd p_l_same (sp_l_same K) := by
  obtain ⟨fd, F⟩ := T.says.def_ 13 (d := d_l_same) rfl
  refine ⟨fd, F, fnD F sc_l_same (fun vs H Q E h => by
    obtain ⟨_, rfl, _⟩ := h
    rfl) fun cdv A outer s H vs Q E hr h => ?_⟩
  have hu := hu_of hr
  obtain ⟨o, rfl, kk⟩ := h
  refine ⟨_, (pss_cons (ps_if (pt_cmp (pc_isN (pv 1))) (pss_one (ps_ret (pe_cmp (pc_isN (pv 0))))) pss_nil) (pss_one (ps_ret (pe_and (pe_callB call_isi (by rfl) (fr_isinstance T) (by decide +kernel) (pa_cons (pv 0) (pa_cons (pe_bltn (v := .ty "int") (by rfl) (fr_int T) (by decide +kernel) rfl) pa_nil))) (pe_and (pe_not (pe_callB call_isi (by rfl) (fr_isinstance T) (by decide +kernel) (pa_cons (pv 0) (pa_cons (pe_bltn (v := .ty "bool") (by rfl) (fr_bool T) (by decide +kernel) rfl) pa_nil)))) (pe_one (pe_cmpR op_eq (pv 0) (pv 1) (nomark _)))))))), ?_⟩
  rw [show L2.start n_l_same [ov o, ov o] = [some (ov o), some (ov o)] from rfl]
  try dsimp only [cxOf, Cx.nox, Cx.wish, List.map]

  cases o with
  | none =>
    wtm_at "rd"
    exact kk
  | some n =>
    wtm_at "rd"
    rw [decide_eq_true rfl]
    exact kk
theorem c_l_same (T : Cx K mg) (B : Tb K mg base) : CalX P w K mg base CX0 1 "_law_same" (sp_l_same K) [] := by
  obtain ⟨fd, F, ok⟩ := f_l_same (P := P) (w := w) (base := base) T B
  exact ⟨_, fd, p_l_same, [], ok, gl_l_same T, F.kp, FunD.bindsN F fun _ _ _ _ _ _ us hl => match us, hl with | [_, _], _ => rfl, .nil⟩
end
section
variable {P : Program} {w : World} {K : PySem.W.Frag} {mg : Str → Option Value} {base : Heap}
def sp_l_turn_seat (K : PySem.W.Frag) : Sp := fun vs H Q E => ∃ (p c s F : Addr) (r pat own : Int) (m : Mo), vs = [.ref p, .ref s] ∧ (Box H p c) ∧ (StAt H s F r pat own m) ∧ (FlAt H F r) ∧ (Ring r) ∧ (F ≠ p ∧ F ≠ c) ∧ (∀ H1, StAt H1 s F r pat own m → FlAt H1 F r → Box H1 p c → Kp [p, F] H H1 → Q .non H1)
theorem us_l_turn_seat {K : PySem.W.Frag} {H : Hp} {Q : VK} {E : XK} {p c s F : Addr} {r pat own : Int} {m : Mo} (hB : Box H p c) (hS : StAt H s F r pat own m) (hF : FlAt H F r) (hR : Ring r) (n1 : F ≠ p ∧ F ≠ c) (kk : ∀ H1, StAt H1 s F r pat own m → FlAt H1 F r → Box H1 p c → Kp [p, F] H H1 → Q .non H1) : sp_l_turn_seat K [.ref p, .ref s] H Q E := ⟨_, _, _, _, _, _, _, _, rfl, hB, hS, hF, hR, n1, kk⟩
theorem f_l_turn_seat (T : Cx K mg) (B : Tb K mg base) : ∃ fd, FunD K "_law_turn_seat" "_law_turn_seat" (defArgs s_l_turn_seat) (defBody s_l_turn_seat) (defScope s_l_turn_seat) (d_l_turn_seat.dvs K) (d_l_turn_seat.kws K) (fAd K d_l_turn_seat.at_) fd ∧ FnOk P w K mg base CX0 2 (fAd K d_l_turn_seat.at_) fd p_l_turn_seat (sp_l_turn_seat K) := by
  have c_l_draw := c_l_draw (P := P) (w := w) (base := base) T B
  obtain ⟨fd, F⟩ := T.says.def_ 14 (d := d_l_turn_seat) rfl
  refine ⟨fd, F, fnD F sc_l_turn_seat (fun vs H Q E h => by
    obtain ⟨_, _, _, _, _, _, _, _, rfl, _⟩ := h
    rfl) fun cdv A outer s H vs Q E hr h => ?_⟩
  have hu := hu_of hr
  obtain ⟨p, c, s, F, r, pat, own, m, rfl, hB, hS, hF, hR, n1, kk⟩ := h
  refine ⟨_, (pss_cons (ps_set (i := 2) sc_l_turn_seat.nd rfl (by first | exact Or.inl rfl | exact Or.inr rfl) (pe_dget hu (pv 1) pe_str (fun _ _ => rfl))) (pss_cons (ps_set (i := 3) sc_l_turn_seat.nd rfl (by first | exact Or.inl rfl | exact Or.inr rfl) (pe_cal c_l_draw hr (by decide) (by rfl) pass0 (pa_cons (pv 0) (pa_cons (pe_dget hu (pv 1) pe_str (fun _ _ => rfl)) pa_nil)))) (pss_one (ps_asg (pe_and (pe_not (pe_ix ix_list (pv 2) (pv 3) (fun _ _ => rfl))) (pe_one (pe_cmpR op_ne (pv 3) (pe_dget hu (pv 1) pe_str (fun _ _ => rfl)) (nomark _)))) (pg_sub (pv 2) (pv 3) set_list))))), ?_⟩
  rw [show L2.start n_l_turn_seat [.ref p, .ref s] = [some (.ref p), some (.ref s), none, none] from rfl]
  try dsimp only [cxOf, Cx.nox, Cx.wish, List.map]

  have r0 := hR.pos
  have r1 := hR.le
  have hS0 : H s = some (.dK (stK r pat own m F)) := hS
  obtain ⟨xs, hp, _⟩ := hB.at
  have nsp : s ≠ p := ne_of hS0 hp (by intro z; cases z)
  wtm_at "rd"
  refine us_l_draw hB (by omega) (by omega) fun n H1 n10 n11 B1 k1 => ?_
  have hS1 : H1 s = some (.dK (stK r pat own m F)) := k1.g1 nsp hS0
  obtain ⟨bs, hF1, hbs⟩ := hF.kp k1 (by simp [n1.1])
  have nsF : s ≠ F := ne_of hS1 hF1 (by intro z; cases z)
  have hat := atI_bls (bs := bs) n10 (by omega)
  have fin : ∀ b : Bool, StAt (upd H1 F (.lst ((bs.map V.bl).set n.toNat (.bl b)))) s F r pat own m ∧ FlAt (upd H1 F (.lst ((bs.map V.bl).set n.toNat (.bl b)))) F r ∧ Box (upd H1 F (.lst ((bs.map V.bl).set n.toNat (.bl b)))) p c ∧ Kp [p, F] H (upd H1 F (.lst ((bs.map V.bl).set n.toNat (.bl b)))) := fun b => by
    refine ⟨(upd_ne nsF).trans hS1, ⟨bs.set n.toNat b, by rw [upd_same, List.map_set], by rw [List.length_set, hbs]⟩, B1.k1 (q := F) (Kp.refl.wr (by simp)) (Ne.symm n1.1) (Ne.symm n1.2), (k1.mono (by simp)).wr (by simp)⟩
  wtm_at "rd"
  refine ite_b (fun h => ?_) (fun h => ?_)
  · wtm_at "rd"
    refine rd_setL (by wtm_at "hp") (ixN_at n10 (by rw [List.length_map]; omega)) ?_
    obtain ⟨f1, f2, f3, f4⟩ := fin (!decide (n = own))
    exact kk _ f1 f2 f3 f4
  · wtm_at "rd"
    refine rd_setL (by wtm_at "hp") (ixN_at n10 (by rw [List.length_map]; omega)) ?_
    obtain ⟨f1, f2, f3, f4⟩ := fin false
    exact kk _ f1 f2 f3 f4
theorem c_l_turn_seat (T : Cx K mg) (B : Tb K mg base) : CalX P w K mg base CX0 2 "_law_turn_seat" (sp_l_turn_seat K) [] := by
  obtain ⟨fd, F, ok⟩ := f_l_turn_seat (P := P) (w := w) (base := base) T B
  exact ⟨_, fd, p_l_turn_seat, [], ok, gl_l_turn_seat T, F.kp, FunD.bindsN F fun _ _ _ _ _ _ us hl => match us, hl with | [_, _], _ => rfl, .nil⟩
end
section
variable {P : Program} {w : World} {K : PySem.W.Frag} {mg : Str → Option Value} {base : Heap}
def sp_l_made (K : PySem.W.Frag) : Sp := fun vs H Q E => ∃ (p c : Addr), vs = [.ref p] ∧ (Box H p c) ∧ (∀ (tp t s F S : Addr) (st : Stg) (own : Int) (m : Mo) H1, H1 tp = some (.tup [.ref t, .ref s]) → Pair K H1 t s F S st own m → Box H1 p c → Kp [p] H H1 → H t = none → H s = none → H F = none → H S = none → Q (.ref tp) H1)
theorem us_l_made {K : PySem.W.Frag} {H : Hp} {Q : VK} {E : XK} {p c : Addr} (hB : Box H p c) (kk : ∀ (tp t s F S : Addr) (st : Stg) (own : Int) (m : Mo) H1, H1 tp = some (.tup [.ref t, .ref s]) → Pair K H1 t s F S st own m → Box H1 p c → Kp [p] H H1 → H t = none → H s = none → H F = none → H S = none → Q (.ref tp) H1) : sp_l_made K [.ref p] H Q E := ⟨_, _, rfl, hB, kk⟩
theorem f_l_made (T : Cx K mg) (B : Tb K mg base) : ∃ fd, FunD K "_law_made" "_law_made" (defArgs s_l_made) (defBody s_l_made) (defScope s_l_made) (d_l_made.dvs K) (d_l_made.kws K) (fAd K d_l_made.at_) fd ∧ FnOk P w K mg base CX0 4 (fAd K d_l_made.at_) fd p_l_made (sp_l_made K) := by
  have c_l_draw := c_l_draw (P := P) (w := w) (base := base) T B
  have c_l_bits := c_l_bits (P := P) (w := w) (base := base) T B
  have c_l_patience := c_l_patience (P := P) (w := w) (base := base) T B
  have c_Setting_init := c_Setting_init (P := P) (w := w) (base := base) T B
  have c_Tour_init := c_Tour_init (P := P) (w := w) (base := base) T B
  have c_Tour_init_behind := c_Tour_init_behind (P := P) (w := w) (base := base) T B
  have c_l_flags := c_l_flags (P := P) (w := w) (base := base) T B
  obtain ⟨fd, F⟩ := T.says.def_ 15 (d := d_l_made) rfl
  refine ⟨fd, F, fnD F sc_l_made (fun vs H Q E h => by
    obtain ⟨_, _, rfl, _⟩ := h
    rfl) fun cdv A outer s H vs Q E hr h => ?_⟩
  have hu := hu_of hr
  obtain ⟨p, c, rfl, hB, kk⟩ := h
  refine ⟨_, (pss_cons (ps_set (i := 1) sc_l_made.nd rfl (by first | exact Or.inl rfl | exact Or.inr rfl) (pe_cal c_l_bits hr (by decide) (by rfl) pass0 (pa_cons (pv 0) pa_nil))) (pss_cons (ps_set (i := 2) sc_l_made.nd rfl (by first | exact Or.inl rfl | exact Or.inr rfl) (pe_op op_shl pe_int (pv 1))) (pss_cons (ps_set (i := 3) sc_l_made.nd rfl (by first | exact Or.inl rfl | exact Or.inr rfl) (pe_cal c_l_patience hr (by decide) (by rfl) pass0 (pa_cons (pv 0) pa_nil))) (pss_cons (ps_set (i := 4) sc_l_made.nd rfl (by first | exact Or.inl rfl | exact Or.inr rfl) (pe_mak c_Setting_init hr (by decide) (by rfl) pass0 (pa_cons (pv 1) (pa_cons (pv 3) (pa_cons (pe_op op_add pe_int (pe_cal c_l_draw hr (by decide) (by rfl) pass0 (pa_cons (pv 0) (pa_cons pe_int pa_nil)))) pa_nil))))) (pss_cons (ps_set (i := 5) sc_l_made.nd rfl (by first | exact Or.inl rfl | exact Or.inr rfl) (pe_cal c_l_draw hr (by decide) (by rfl) pass0 (pa_cons (pv 0) (pa_cons (pv 2) pa_nil)))) (pss_cons (ps_set (i := 6) sc_l_made.nd rfl (by first | exact Or.inl rfl | exact Or.inr rfl) (pe_cal c_l_draw hr (by decide) (by rfl) pass0 (pa_cons (pv 0) (pa_cons pe_int pa_nil)))) (pss_cons (ps_set (i := 7) sc_l_made.nd rfl (by first | exact Or.inl rfl | exact Or.inr rfl) (pv 5)) (C8.pss_cut (ps_if (pt_cmpR op_eq (pv 6) pe_int (nomark _)) (pss_one (ps_set (i := 8) sc_l_made.nd rfl (by first | exact Or.inl rfl | exact Or.inr rfl) (pe_mak c_Tour_init hr (by decide) (by rfl) pass0 (pa_cons (pv 4) (pa_cons (pv 5) pa_nil))))) (pss_one (ps_if (pt_cmpR op_eq (pv 6) pe_int (nomark _)) (pss_one (ps_set (i := 8) sc_l_made.nd rfl (by first | exact Or.inl rfl | exact Or.inr rfl) (pe_makKX c_Tour_init_behind hr (by decide) (by rfl) pass0 (pa_cons (pv 4) (pa_cons (pv 5) pa_nil)) (pk_cons pe_non pk_nil)))) (pss_cons (ps_set (i := 7) sc_l_made.nd rfl (by first | exact Or.inl rfl | exact Or.inr rfl) (pe_cal c_l_draw hr (by decide) (by rfl) pass0 (pa_cons (pv 0) (pa_cons (pv 2) pa_nil)))) (pss_cons (ps_if (pt_cmpR op_eq (pv 6) pe_int (nomark _)) (pss_one (ps_set (i := 7) sc_l_made.nd rfl (by first | exact Or.inl rfl | exact Or.inr rfl) (pe_op op_mul (pv 7) (pe_cal c_l_draw hr (by decide) (by rfl) pass0 (pa_cons (pv 0) (pa_cons pe_int pa_nil)))))) pss_nil) (pss_cons (ps_if (pt_cmpR op_eq (pv 6) pe_int (nomark _)) (pss_one (ps_set (i := 7) sc_l_made.nd rfl (by first | exact Or.inl rfl | exact Or.inr rfl) (pe_op op_sub (pv 7) (pv 2)))) pss_nil) (pss_cons (ps_if (pt_cmpR op_eq (pv 6) pe_int (nomark _)) (pss_one (ps_set (i := 7) sc_l_made.nd rfl (by first | exact Or.inl rfl | exact Or.inr rfl) (pe_op op_mul (pe_op op_add (pv 7) (pe_op op_mul (pv 2) (pe_cal c_l_draw hr (by decide) (by rfl) pass0 (pa_cons (pv 0) (pa_cons (pe_op op_pow pe_int pe_int) pa_nil))))) (pe_op op_sub pe_int (pe_op op_mul pe_int (pe_cal c_l_draw hr (by decide) (by rfl) pass0 (pa_cons (pv 0) (pa_cons pe_int pa_nil)))))))) pss_nil) (pss_one (ps_set (i := 8) sc_l_made.nd rfl (by first | exact Or.inl rfl | exact Or.inr rfl) (pe_makKX c_Tour_init_behind hr (by decide) (by rfl) pass0 (pa_cons (pv 4) (pa_cons (pv 5) pa_nil)) (pk_cons (pv 7) pk_nil))))))))))) (pss_cons (ps_set (i := 9) sc_l_made.nd rfl (by first | exact Or.inl rfl | exact Or.inr rfl) (pe_disp (pps_cons pe_str (pv 2) (pps_cons pe_str (pv 3) (pps_cons pe_str (pv 5) (pps_cons pe_str (pv 7) pps_nil)))) (by rfl) (by rfl) (fun z => by cases z) (by decide))) (pss_cons (ps_dput hu (pv 9) pe_str pe_non rfl) (pss_cons (ps_dput hu (pv 9) pe_str pe_bl rfl) (pss_cons (ps_dput hu (pv 9) pe_str pe_int rfl) (pss_cons (ps_dput hu (pv 9) pe_str (pe_cal c_l_flags hr (by decide) (by rfl) pass0 (pa_cons (pv 0) (pa_cons (pv 2) (pa_cons (pv 5) pa_nil)))) rfl) (pss_one (ps_ret (pe_tup (pa_cons (pv 8) (pa_cons (pv 9) pa_nil)))))))))))))))))), ?_⟩
  rw [show L2.start n_l_made [.ref p] = [some (.ref p), none, none, none, none, none, none, none, none, none] from rfl]
  try dsimp only [cxOf, Cx.nox, Cx.wish, List.map]

  wtm_at "rd"
  refine us_l_bits hB fun bits H1 b0 b1 B1 k1 => ?_
  wtm_at "rd"
  refine us_l_patience B1 fun pat H2 p0 p1 B2 k2 => ?_
  wtm_at "rd"
  refine us_l_draw B2 (by decide) (by decide) fun room H3 r0 r1 B3 k3 => ?_
  wtm_at "rd"
  intro S dS nS ndS neS
  have k13 : Kp [p] H H3 := (k1.trans k2).trans k3
  have nS2 : upd H3 dS (.own S) S = none := hn_ne (Ne.symm neS) nS
  have B4 : Box (upd (upd H3 dS (.own S)) S (.ins (ga K "Setting") dS [])) p c := (B3.new ndS).new nS2
  have kS : H S = none := k13.back nS (by
    have := B3.ne1 nS
    simpa using Ne.symm this)
  have k3b : Kp [p] H (upd (upd H3 dS (.own S)) S (.ins (ga K "Setting") dS [])) := (k13.nw ndS).nw nS2
  refine us_Setting_init (s := ⟨bits, pat, 1 + room, 6, 1⟩) upd_same ⟨b0, b1, p0, p1, by show 1 ≤ 1 + room; omega, by show 1 + room ≤ 64; omega, by show (1 : Int) ≤ 6; decide, by show (6 : Int) ≤ 200; decide, by show (0 : Int) ≤ 1; decide, by show (1 : Int) ≤ 3; decide⟩ fun H4 S4 k4 => ⟨rfl, ?_⟩
  have B5 : Box H4 p c := B4.k1 k4 (B3.ne1 nS) (B3.ne2 nS)
  have k5 : Kp [p] H H4 := k3b.via1 k4 kS
  have er : 1 * 2 ^ bits.toNat = Stg.ring ⟨bits, pat, 1 + room, 6, 1⟩ := by rw [Int.one_mul, Stg.ring_eq]
  have ep : pat = Stg.pat ⟨bits, pat, 1 + room, 6, 1⟩ := rfl
  generalize hs : (⟨bits, pat, 1 + room, 6, 1⟩ : Stg) = s at *
  rw [er]
  clear hs er
  subst ep
  have ok := S4.ok
  have rg : Ring s.ring := ok.ring
  have r0 := rg.pos
  have r256 := rg.le
  clear B1 B2 B3 B4 k1 k2 k3 k13 k3b k4
  wtm_at "rd"
  refine us_l_draw B5 (by omega) (by omega) fun own H5 o0 o1 B6 k6 => ?_
  obtain ⟨xs5, hp5, _⟩ := B5.at
  have S5 : SetAt K H5 S s := S4.k1 k6 (S4.nelst hp5)
  have k7 : Kp [p] H H5 := k5.trans k6
  wtm_at "rd"
  refine us_l_draw B6 (by decide) (by decide) fun way H6 w0 w1 B7 k8 => ?_
  obtain ⟨xs6, hp6, _⟩ := B6.at
  have S6 : SetAt K H6 S s := S5.k1 k8 (S5.nelst hp6)
  have k9 : Kp [p] H H6 := k7.trans k8
  clear hp5 hp6 B5 B6 k6 k5 S5 k8 k7 S4
  wtm_at "rd"
  refine rd_cut (fun σ H7 => ∃ (t : Addr) (L : Int), σ = [some (.ref p), some (.int bits), some (.int s.ring), some (.int s.pat), some (.ref S), some (.int own), some (.int way), some (.int L), some (.ref t), none] ∧
    TourAt K H7 t S ⟨L, none, false, 0⟩ ∧ SetAt K H7 S s ∧ Box H7 p c ∧ Kp [p] H H7 ∧ H t = none) ?_ ?_
  · wtm_at "rd"
    refine ite_d (fun h => ?_) (fun h => ?_)
    · wtm_at "rd"
      intro x dx nx ndx ne
      have nx2 : upd H6 dx (.own x) x = none := hn_ne (Ne.symm ne) nx
      have Bz : Box (upd (upd H6 dx (.own x)) x (.ins (ga K "Tour") dx [])) p c := (B7.new ndx).new nx2
      refine us_Tour_init (beh := none) upd_same fun Hz Tz kz => ⟨rfl, ?_⟩
      have ky : Kp [] H6 (upd (upd H6 dx (.own x)) x (.ins (ga K "Tour") dx [])) := (Kp.new ndx).nw nx2
      have kx : H x = none := k9.back nx (by
        have := B7.ne1 nx
        simpa using Ne.symm this)
      wtm_at "rd"
      have S0 : SetAt K (upd (upd H6 dx (.own x)) x (.ins (ga K "Tour") dx [])) S s := S6.k0 ky
      refine ⟨_, _, rfl, Tz, S0.k1 kz (S0.neins' upd_same), Bz.k1 kz (B7.ne1 nx) (B7.ne2 nx), (k9.trans ky.of0).via1 kz kx, kx⟩
    · wtm_at "rd"
      refine ite_d (fun h => ?_) (fun h => ?_)
      · wtm_at "rd"
        refine ⟨rfl, rfl, fun x dx nx ndx ne => ?_⟩
        have nx2 : upd H6 dx (.own x) x = none := hn_ne (Ne.symm ne) nx
        have Bz : Box (upd (upd H6 dx (.own x)) x (.ins (ga K "Tour") dx [])) p c := (B7.new ndx).new nx2
        refine us_Tour_init (beh := none) upd_same fun Hz Tz kz => ⟨rfl, ?_⟩
        have ky : Kp [] H6 (upd (upd H6 dx (.own x)) x (.ins (ga K "Tour") dx [])) := (Kp.new ndx).nw nx2
        have kx : H x = none := k9.back nx (by
          have := B7.ne1 nx
          simpa using Ne.symm this)
        wtm_at "rd"
        have S0 : SetAt K (upd (upd H6 dx (.own x)) x (.ins (ga K "Tour") dx [])) S s := S6.k0 ky
        refine ⟨_, _, rfl, Tz, S0.k1 kz (S0.neins' upd_same), Bz.k1 kz (B7.ne1 nx) (B7.ne2 nx), (k9.trans ky.of0).via1 kz kx, kx⟩
      · wtm_at "rd"
        refine us_l_draw B7 (by omega) (by omega) fun L H7 l0 l1 B8 k8 => ?_
        obtain ⟨xs6, hp6, _⟩ := B7.at
        have S7 : SetAt K H7 S s := S6.k1 k8 (S6.nelst hp6)
        have k10 : Kp [p] H H7 := k9.trans k8
        wtm_at "rd"
        refine ite_d (fun h => ?_) (fun h => ?_)
        · subst h
          wtm_at "rd"
          refine us_l_draw B8 (by decide) (by decide) fun z1 H8 z10 z11 Bb kb => ?_
          have S8 : SetAt K H8 S s := S7.k1 kb (by obtain ⟨xs, h, _⟩ := B8.at; exact S7.nelst h)
          have k11 : Kp [p] H H8 := k10.trans kb
          wtm_at "rd"
          refine ite_d (fun h => absurd h (by decide)) (fun _ => ?_)
          wtm_at "rd"
          refine ite_d (fun h => absurd h (by decide)) (fun _ => ?_)
          wtm_at "rd"
          refine ⟨rfl, rfl, fun x dx nx ndx ne => ?_⟩
          have nx2 : upd H8 dx (.own x) x = none := hn_ne (Ne.symm ne) nx
          have Bz : Box (upd (upd H8 dx (.own x)) x (.ins (ga K "Tour") dx [])) p c := (Bb.new ndx).new nx2
          refine us_Tour_init (beh := some (L * z1)) upd_same fun Hz Tz kz => ⟨rfl, ?_⟩
          have ky : Kp [] H8 (upd (upd H8 dx (.own x)) x (.ins (ga K "Tour") dx [])) := (Kp.new ndx).nw nx2
          have kx : H x = none := k11.back nx (by
            have := Bb.ne1 nx
            simpa using Ne.symm this)
          wtm_at "rd"
          have S0 : SetAt K (upd (upd H8 dx (.own x)) x (.ins (ga K "Tour") dx [])) S s := S8.k0 ky
          refine ⟨_, _, rfl, Tz, S0.k1 kz (S0.neins' upd_same), Bz.k1 kz (Bb.ne1 nx) (Bb.ne2 nx), (k11.trans ky.of0).via1 kz kx, kx⟩
        · wtm_at "rd"
          refine ite_d (fun h => ?_) (fun h => ?_)
          · subst h
            wtm_at "rd"
            refine ite_d (fun h => absurd h (by decide)) (fun _ => ?_)
            wtm_at "rd"
            refine ⟨rfl, rfl, fun x dx nx ndx ne => ?_⟩
            have nx2 : upd H7 dx (.own x) x = none := hn_ne (Ne.symm ne) nx
            have Bz : Box (upd (upd H7 dx (.own x)) x (.ins (ga K "Tour") dx [])) p c := (B8.new ndx).new nx2
            refine us_Tour_init (beh := some (L - s.ring)) upd_same fun Hz Tz kz => ⟨rfl, ?_⟩
            have ky : Kp [] H7 (upd (upd H7 dx (.own x)) x (.ins (ga K "Tour") dx [])) := (Kp.new ndx).nw nx2
            have kx : H x = none := k10.back nx (by
              have := B8.ne1 nx
              simpa using Ne.symm this)
            wtm_at "rd"
            have S0 : SetAt K (upd (upd H7 dx (.own x)) x (.ins (ga K "Tour") dx [])) S s := S7.k0 ky
            refine ⟨_, _, rfl, Tz, S0.k1 kz (S0.neins' upd_same), Bz.k1 kz (B8.ne1 nx) (B8.ne2 nx), (k10.trans ky.of0).via1 kz kx, kx⟩
          · wtm_at "rd"
            refine ite_d (fun h => ?_) (fun h => ?_)
            · wtm_at "rd"
              refine us_l_draw B8 (by decide) (by decide) fun z1 H8 z10 z11 Bb kb => ?_
              have S8 : SetAt K H8 S s := S7.k1 kb (by obtain ⟨xs, h, _⟩ := B8.at; exact S7.nelst h)
              have k11 : Kp [p] H H8 := k10.trans kb
              wtm_at "rd"
              refine us_l_draw Bb (by decide) (by decide) fun z2 H9' z20 z21 Bc kc => ?_
              have S9 : SetAt K H9' S s := S8.k1 kc (by obtain ⟨xs, h, _⟩ := Bb.at; exact S8.nelst h)
              have k12 : Kp [p] H H9' := k11.trans kc
              wtm_at "rd"
              refine ⟨rfl, rfl, fun x dx nx ndx ne => ?_⟩
              have nx2 : upd H9' dx (.own x) x = none := hn_ne (Ne.symm ne) nx
              have Bz : Box (upd (upd H9' dx (.own x)) x (.ins (ga K "Tour") dx [])) p c := (Bc.new ndx).new nx2
              refine us_Tour_init (beh := some ((L + s.ring * z1) * (1 - 2 * z2))) upd_same fun Hz Tz kz => ⟨rfl, ?_⟩
              have ky : Kp [] H9' (upd (upd H9' dx (.own x)) x (.ins (ga K "Tour") dx [])) := (Kp.new ndx).nw nx2
              have kx : H x = none := k12.back nx (by
                have := Bc.ne1 nx
                simpa using Ne.symm this)
              wtm_at "rd"
              have S0 : SetAt K (upd (upd H9' dx (.own x)) x (.ins (ga K "Tour") dx [])) S s := S9.k0 ky
              refine ⟨_, _, rfl, Tz, S0.k1 kz (S0.neins' upd_same), Bz.k1 kz (Bc.ne1 nx) (Bc.ne2 nx), (k12.trans ky.of0).via1 kz kx, kx⟩
            · wtm_at "rd"
              refine ⟨rfl, rfl, fun x dx nx ndx ne => ?_⟩
              have nx2 : upd H7 dx (.own x) x = none := hn_ne (Ne.symm ne) nx
              have Bz : Box (upd (upd H7 dx (.own x)) x (.ins (ga K "Tour") dx [])) p c := (B8.new ndx).new nx2
              refine us_Tour_init (beh := some L) upd_same fun Hz Tz kz => ⟨rfl, ?_⟩
              have ky : Kp [] H7 (upd (upd H7 dx (.own x)) x (.ins (ga K "Tour") dx [])) := (Kp.new ndx).nw nx2
              have kx : H x = none := k10.back nx (by
                have := B8.ne1 nx
                simpa using Ne.symm this)
              wtm_at "rd"
              have S0 : SetAt K (upd (upd H7 dx (.own x)) x (.ins (ga K "Tour") dx [])) S s := S7.k0 ky
              refine ⟨_, _, rfl, Tz, S0.k1 kz (S0.neins' upd_same), Bz.k1 kz (B8.ne1 nx) (B8.ne2 nx), (k10.trans ky.of0).via1 kz kx, kx⟩
  · clear B7 k9 S6
    rintro σ H7 ⟨t, L, rfl, T7, S7, B7, k7, nt⟩
    wtm_at "rd"
    intro d nd
    wtm_at "rd"
    refine ⟨upd_same, [(.inr "ring", .int s.ring), (.inr "patience", .int s.pat), (.inr "own", .int own), (.inr "last", .int L)], rfl, Nat.le_of_ble_eq_true rfl, ?_⟩
    wtm_at "rd"
    refine us_l_flags (B7.k0 (by wtm_at "kp")) rg fun F H8 hF B8 nF k8 => ?_
    have k9 : Kp [p] H7 H8 := Kp.trans (Kp.of0 (by wtm_at "kp")) k8
    have nF7 : H7 F = none := Kp.back (ps := []) (by wtm_at "kp") nF (by simp)
    have hd8 := k8.g1 (Ne.symm (B7.ne1 nd)) upd_same
    have nFp : F ≠ p := Ne.symm (B7.ne1 nF7)
    have ndp : d ≠ p := Ne.symm (B7.ne1 nd)
    clear k8 nF
    wtm_at "rd"
    refine ⟨sz1000 (by simp), fun tp ntp => ?_⟩
    obtain ⟨xs7, hp7, _⟩ := B7.at
    obtain ⟨bs, hF1, hbs⟩ := hF
    obtain ⟨dt, ht7⟩ := id T7
    have nFd : F ≠ d := ne_of hF1 hd8 (by intro z; cases z)
    have ka := (k9.mine (o := .dK (stK s.ring s.pat own ⟨L, none, false, 0⟩ F)) nd)
    have kb := ka.nw (o := .tup [.ref t, .ref d]) ntp
    have ntt : t ≠ p := ne_of ht7 hp7 (by intro z; cases z)
    refine kk tp t d F S s own ⟨L, none, false, 0⟩ _ upd_same ⟨T7.kp kb (by simpa using ntt), ?_, ⟨bs, ?_, hbs⟩, S7.k1 kb (S7.nelst hp7), ⟨o0, o1⟩, ⟨(fun n e => by cases e), (fun e => by cases e)⟩⟩ ?_ (k7.trans kb) nt ?_ ?_ kS
    · show upd _ tp _ d = _
      exact hu_ne (ne_of_none upd_same ntp) (upd_is rfl)
    · exact hu_ne (ne_of_none (hu_ne nFd hF1) ntp) (hu_ne nFd hF1)
    · refine Box.new (Box.k1 (q := d) B8 (Kp.refl.wr (by simp)) ?_ ?_) ntp
      · exact Ne.symm ndp
      · exact B7.ne2 nd
    · exact k7.back nd (by simpa using ndp)
    · exact k7.back nF7 (by simpa using nFp)
theorem c_l_made (T : Cx K mg) (B : Tb K mg base) : CalX P w K mg base CX0 4 "_law_made" (sp_l_made K) [] := by
  obtain ⟨fd, F, ok⟩ := f_l_made (P := P) (w := w) (base := base) T B
  exact ⟨_, fd, p_l_made, [], ok, gl_l_made T, F.kp, FunD.bindsN F fun _ _ _ _ _ _ us hl => match us, hl with | [_], _ => rfl, .nil⟩
end
section
variable {P : Program} {w : World} {K : PySem.W.Frag} {mg : Str → Option Value} {base : Heap}
def sp_l_names (K : PySem.W.Frag) : Sp := fun vs H Q E => ∃ (p c s F : Addr) (r pat own : Int) (m : Mo), vs = [.ref p, .ref s] ∧ (Box H p c) ∧ (StAt H s F r pat own m) ∧ (FlAt H F r) ∧ (Ring r) ∧ (m.Ok r) ∧ (F ≠ p ∧ F ≠ c) ∧ (∀ (l : Addr) (xs : List Int) (F1 : Addr) H1, StAt H1 s F1 r pat own m → FlAt H1 F1 r → (F1 = F ∨ H F1 = none) → Box H1 p c → Kp [p, s, F] H H1 → H l = none → H1 l = some (.lst (xs.map V.int)) → (∀ z, z ∈ xs → 0 ≤ z ∧ z < r) → xs.length ≤ 256 → Q (.ref l) H1)
theorem us_l_names {K : PySem.W.Frag} {H : Hp} {Q : VK} {E : XK} {p c s F : Addr} {r pat own : Int} {m : Mo} (hB : Box H p c) (hS : StAt H s F r pat own m) (hF : FlAt H F r) (hR : Ring r) (hm : m.Ok r) (n1 : F ≠ p ∧ F ≠ c) (kk : ∀ (l : Addr) (xs : List Int) (F1 : Addr) H1, StAt H1 s F1 r pat own m → FlAt H1 F1 r → (F1 = F ∨ H F1 = none) → Box H1 p c → Kp [p, s, F] H H1 → H l = none → H1 l = some (.lst (xs.map V.int)) → (∀ z, z ∈ xs → 0 ≤ z ∧ z < r) → xs.length ≤ 256 → Q (.ref l) H1) : sp_l_names K [.ref p, .ref s] H Q E := ⟨_, _, _, _, _, _, _, _, rfl, hB, hS, hF, hR, hm, n1, kk⟩
theorem f_l_names (T : Cx K mg) (B : Tb K mg base) : ∃ fd, FunD K "_law_names" "_law_names" (defArgs s_l_names) (defBody s_l_names) (defScope s_l_names) (d_l_names.dvs K) (d_l_names.kws K) (fAd K d_l_names.at_) fd ∧ FnOk P w K mg base CX0 3 (fAd K d_l_names.at_) fd p_l_names (sp_l_names K) := by
  have c_l_draw := c_l_draw (P := P) (w := w) (base := base) T B
  have c_l_turn_seat := c_l_turn_seat (P := P) (w := w) (base := base) T B
  have c_l_flags := c_l_flags (P := P) (w := w) (base := base) T B
  obtain ⟨fd, F⟩ := T.says.def_ 16 (d := d_l_names) rfl
  refine ⟨fd, F, fnD F sc_l_names (fun vs H Q E h => by
    obtain ⟨_, _, _, _, _, _, _, _, rfl, _⟩ := h
    rfl) fun cdv A outer s H vs Q E hr h => ?_⟩
  have hu := hu_of hr
  obtain ⟨p, c, s, F, r, pat, own, m, rfl, hB, hS, hF, hR, hm, n1, kk⟩ := h
  refine ⟨_, (pss_cons (ps_set (i := 2) sc_l_names.nd rfl (by first | exact Or.inl rfl | exact Or.inr rfl) (pe_cal c_l_draw hr (by decide) (by rfl) pass0 (pa_cons (pv 0) (pa_cons pe_int pa_nil)))) (pss_cons (ps_if (pt_cmpR op_eq (pv 2) pe_int (nomark _)) (pss_one (ps_ret (pe_lst pa_nil))) pss_nil) (C8.pss_cut (ps_if (PW.pt (pw_and (pt_cmpR op_eq (pv 2) pe_int (nomark _)) (pw_and1 (pt_cmp (pc_notN (pe_dget hu (pv 1) pe_str (fun _ _ => rfl))))))) (pss_one (ps_ret (pe_lst (pa_cons (pe_dget hu (pv 1) pe_str (fun _ _ => rfl)) pa_nil)))) pss_nil) (C8.pss_cut (ps_if (PW.pt (pw_and (pt_cmpR op_eq (pv 2) pe_int (nomark _)) (pw_and1 (pt_cmp (pc_notN (pe_dget hu (pv 1) pe_str (fun _ _ => rfl))))))) (pss_cons (ps_set (i := 3) sc_l_names.nd rfl (by first | exact Or.inl rfl | exact Or.inr rfl) (pe_dget hu (pv 1) pe_str (fun _ _ => rfl))) (pss_one (ps_asg pe_bl (pg_sub (pv 3) (pe_dget hu (pv 1) pe_str (fun _ _ => rfl)) set_list)))) pss_nil) (C8.pss_cut (ps_if (PW.pt (pw_or (pt_cmpR op_eq (pv 2) pe_int (nomark _)) (pw_or (pt_cmpR op_eq (pv 2) pe_int (nomark _)) (pw_or1 (pt_cmpR op_eq (pv 2) pe_int (nomark _)))))) (pss_one (ps_expr (pe_cal c_l_turn_seat hr (by decide) (by rfl) pass0 (pa_cons (pv 0) (pa_cons (pv 1) pa_nil))))) pss_nil) (C8.pss_cut (ps_if (pt_cmpR op_eq (pv 2) pe_int (nomark _)) (pss_one (ps_expr (pe_cal c_l_turn_seat hr (by decide) (by rfl) pass0 (pa_cons (pv 0) (pa_cons (pv 1) pa_nil))))) pss_nil) (C8.pss_cut (ps_if (pt_cmpR op_eq (pv 2) pe_int (nomark _)) (pss_one (ps_dput hu (pv 1) pe_str (pe_cal c_l_flags hr (by decide) (by rfl) pass0 (pa_cons (pv 0) (pa_cons (pe_dget hu (pv 1) pe_str (fun _ _ => rfl)) (pa_cons (pe_dget hu (pv 1) pe_str (fun _ _ => rfl)) pa_nil)))) rfl)) pss_nil) (pss_cons (ps_set (i := 4) sc_l_names.nd rfl (by first | exact Or.inl rfl | exact Or.inr rfl) (pe_dget hu (pv 1) pe_str (fun _ _ => rfl))) (pss_one (ps_ret (pe_lc (own := [("_law_spot", 5)]) (g := (gName 5)) rfl sc_l_names.nd (pi_range1 (by rfl) (fr_range T) (pa_cons (pe_dget hu (pv 1) pe_str (fun _ _ => rfl)) pa_nil)) (blkOk_by (own := [("_law_spot", 5)]) (N := n_l_names) (sc := defScope s_l_names) (by decide +kernel)) (fun _ _ _ _ _ => (pg_name (i := 5) sc_l_names.nd rfl (by first | exact Or.inl rfl | exact Or.inr rfl))) (fun _ _ _ _ _ => (pts_one (pt_val (pe_ix (ix_listK (K := K) rfl) (pv 4) (pv 5) (fun _ _ => rfl))))) (fun _ _ _ _ _ => (pv 5))))))))))))), ?_⟩
  rw [show L2.start n_l_names [.ref p, .ref s] = [some (.ref p), some (.ref s), none, none, none, none] from rfl]
  try dsimp only [cxOf, Cx.nox, Cx.wish, List.map]

  have r0 := hR.pos
  have r1 := hR.le
  have hS0 : H s = some (.dK (stK r pat own m F)) := hS
  obtain ⟨xs0, hp, hcn⟩ := hB.at
  have nsp : s ≠ p := ne_of hS0 hp (by intro z; cases z)
  obtain ⟨bs0, hF0, hbs0⟩ := id hF
  have hF00 := hF0
  have hS00 := hS0
  have nsF : s ≠ F := ne_of hS0 hF0 (by intro z; cases z)
  wtm_at "rd"
  refine us_l_draw hB (by decide) (by decide) fun way H1 w0 w1 B1 k1 => ?_
  have S1 : H1 s = some (.dK (stK r pat own m F)) := k1.g1 nsp hS0
  have F1 : FlAt H1 F r := hF.kp k1 (by simpa using n1.1)
  have ka : Kp [p, s, F] H H1 := k1.mono (by simp)
  have fr3 : ∀ {H2 : Hp} {l : Addr} {o2 o3 : HO}, Kp [p, s, F] H H2 → Box H2 p c → H2 s = some o2 → H2 F = some o3 → H2 l = none → H l = none := fun k b e2 e3 h => k.back h (by
    simp only [List.mem_cons, List.not_mem_nil, or_false, not_or]
    exact ⟨Ne.symm (b.ne1 h), Ne.symm (ne_of_none e2 h), Ne.symm (ne_of_none e3 h)⟩)
  obtain ⟨bs1, hF1, hbs1⟩ := id F1
  wtm_at "rd"
  refine ite_d (fun h => ?_) (fun h => ?_)
  · wtm_at "rd"
    refine ⟨sz1000 (by simp), fun l nl => ?_⟩
    exact kk l [] F _ (hu_ne (ne_of_none S1 nl) S1) ⟨bs1, hu_ne (ne_of_none hF1 nl) hF1, hbs1⟩ (.inl rfl) (B1.new nl) (ka.nw nl) (fr3 ka B1 S1 hF1 nl) upd_same (fun z hz => by cases hz) (by simp)
  wtm_at "rd"
  refine rd_cut (fun σ H2 => σ = [some (.ref p), some (.ref s), some (.int way), none, none, none] ∧ H2 = H1) ?_ ?_
  · wtm_at "rd"
    refine ite_d (fun h => ?_) (fun h => ?_)
    · wtm_at "rd"
      cases hn : m.now with
      | none =>
        wtm_at "rd"
        exact ⟨rfl, rfl⟩
      | some n =>
        wtm_at "rd"
        refine ⟨sz1000 (by simp), fun l nl => ?_⟩
        rw [hn]
        exact kk l [n] F _ (hu_ne (ne_of_none S1 nl) S1) ⟨bs1, hu_ne (ne_of_none hF1 nl) hF1, hbs1⟩ (.inl rfl) (B1.new nl) (ka.nw nl) (fr3 ka B1 S1 hF1 nl) upd_same (fun z hz => by rw [List.mem_singleton.mp hz]; exact hm.now n hn) (by simp)
    · wtm_at "rd"
      exact ⟨rfl, rfl⟩
  rintro σ H2 ⟨rfl, rfl⟩
  have G0 : NGood H p c s F H2 F r pat own m := ⟨S1, F1, .inl rfl, n1, B1, ka, ⟨_, hF1⟩⟩
  have fin : ∀ H3 F1, NGood H p c s F H3 F1 r pat own m → ∀ l o, H3 l = none → NGood H p c s F (upd H3 l o) F1 r pat own m ∧ H l = none := fun H3 F1 G l o nl => by
    obtain ⟨S3, F3, g1, g2, B3, k3, ⟨o3, f3⟩⟩ := G
    have S3 : H3 s = _ := S3
    obtain ⟨bs3, hF3, hbs3⟩ := F3
    exact ⟨⟨hu_ne (ne_of_none S3 nl) S3, ⟨bs3, hu_ne (ne_of_none hF3 nl) hF3, hbs3⟩, g1, g2, B3.new nl, k3.nw nl, ⟨o3, hu_ne (ne_of_none f3 nl) f3⟩⟩, fr3 k3 B3 S3 f3 nl⟩
  clear S1 F1 B1 ka hF1 hbs1 bs1 k1 hF0 hbs0 hS0 nsF hF hS hB
  have turn : ∀ H3 F1, NGood H p c s F H3 F1 r pat own m → ∀ (Q' : VK), (∀ H4, NGood H p c s F H4 F1 r pat own m → Q' .non H4) → ∀ E', sp_l_turn_seat K [.ref p, .ref s] H3 Q' E' := fun H3 F1 G Q' hq E' => by
    obtain ⟨S3, F3, g1, g2, B3, k3, ⟨o3, f3⟩⟩ := G
    refine us_l_turn_seat B3 S3 F3 hR g2 fun H4 S4 F4 B4 k4 => hq H4 ⟨S4, F4, g1, g2, B4, k3.via k4 (fun q hq => ?_), ?_⟩
    · simp only [List.mem_cons, List.not_mem_nil, or_false] at hq
      rcases hq with rfl | rfl
      · exact .inl (by simp)
      · rcases g1 with e | e
        · rw [e]
          exact .inl (by simp)
        · exact .inr e
    · rcases g1 with e | e
      · obtain ⟨b4, h4, _⟩ := F4
        rw [← e]
        exact ⟨_, h4⟩
      · refine ⟨o3, k4.g2 n1.1 (fun z => ?_) f3⟩
        rw [← z] at e
        obtain ⟨b0, h0⟩ : ∃ o, H F = some o := ⟨_, hF00⟩
        rw [e] at h0
        cases h0
  wtm_at "rd"
  refine rd_cut (fun σ H3 => ∃ v3, σ = [some (.ref p), some (.ref s), some (.int way), v3, none, none] ∧ NGood H p c s F H3 F r pat own m) ?_ ?_
  · wtm_at "rd"
    have S1 : H2 s = some (.dK (stK r pat own m F)) := G0.st
    refine ite_d (fun h => ?_) (fun h => ?_)
    · wtm_at "rd"
      cases hn : m.now with
      | none =>
        wtm_at "rd"
        exact ⟨_, rfl, G0⟩
      | some n =>
        obtain ⟨h0, h1⟩ := hm.now n hn
        obtain ⟨bs, hF, hbs⟩ := G0.fl
        wtm_at "rd"
        rw [hn]
        refine rd_setL (by wtm_at "hp") (ixN_at h0 (by rw [List.length_map]; omega)) ?_
        have nsF : s ≠ F := ne_of S1 hF (by intro z; cases z)
        exact ⟨_, rfl, (upd_ne nsF).trans S1, ⟨bs.set n.toNat false, by rw [upd_same, List.map_set], by rw [List.length_set, hbs]⟩, .inl rfl, n1, G0.box.k1 (q := F) (Kp.refl.wr (by simp)) (Ne.symm n1.1) (Ne.symm n1.2), G0.k.wr (by simp), ⟨_, upd_same⟩⟩
    · wtm_at "rd"
      exact ⟨_, rfl, G0⟩
  rintro σ H3 ⟨v3, rfl, G1⟩
  wtm_at "rd"
  refine rd_cut (fun σ H3 => σ = [some (.ref p), some (.ref s), some (.int way), v3, none, none] ∧ NGood H p c s F H3 F r pat own m) ?_ ?_
  · wtm_at "rd"
    refine ite_d (fun h => ?_) (fun h => ?_)
    · wtm_at "rd"
      refine turn _ _ G1 _ (fun H4 G4 => ?_) _
      wtm_at "rd"
      exact ⟨rfl, G4⟩
    · wtm_at "rd"
      refine ite_d (fun h => ?_) (fun h => ?_)
      · wtm_at "rd"
        refine turn _ _ G1 _ (fun H4 G4 => ?_) _
        wtm_at "rd"
        exact ⟨rfl, G4⟩
      · wtm_at "rd"
        refine ite_d (fun h => ?_) (fun h => ?_)
        · wtm_at "rd"
          refine turn _ _ G1 _ (fun H4 G4 => ?_) _
          wtm_at "rd"
          exact ⟨rfl, G4⟩
        · wtm_at "rd"
          exact ⟨rfl, G1⟩
  clear G1
  rintro σ H3 ⟨rfl, G1⟩
  wtm_at "rd"
  refine rd_cut (fun σ H3 => σ = [some (.ref p), some (.ref s), some (.int way), v3, none, none] ∧ NGood H p c s F H3 F r pat own m) ?_ ?_
  · wtm_at "rd"
    refine ite_d (fun h => ?_) (fun h => ?_)
    · wtm_at "rd"
      refine turn _ _ G1 _ (fun H4 G4 => ?_) _
      wtm_at "rd"
      exact ⟨rfl, G4⟩
    · wtm_at "rd"
      exact ⟨rfl, G1⟩
  clear G1
  rintro σ H3 ⟨rfl, G1⟩
  wtm_at "rd"
  refine rd_cut (fun σ H3 => ∃ F1, σ = [some (.ref p), some (.ref s), some (.int way), v3, none, none] ∧ NGood H p c s F H3 F1 r pat own m) ?_ ?_
  · wtm_at "rd"
    refine ite_d (fun h => ?_) (fun h => ?_)
    · have S3 : H3 s = some (.dK (stK r pat own m F)) := G1.st
      wtm_at "rd"
      refine us_l_flags G1.box hR fun G H4 hG B4 nG k4 => ?_
      have S4 := k4.g1 nsp S3
      obtain ⟨o3, f3⟩ := G1.f
      have hGH := (fin _ _ G1 G (.tup []) nG).2
      wtm_at "rd"
      refine ⟨G, rfl, ?_, ?_, .inr hGH, ⟨Ne.symm (G1.box.ne1 nG), Ne.symm (G1.box.ne2 nG)⟩, ?_, (G1.k.via k4 (fun q hq => ?_)).wr (by simp), ⟨o3, ?_⟩⟩
      · show upd _ s _ s = _
        rw [upd_same]
        rfl
      · obtain ⟨b4, h4, e4⟩ := hG
        exact ⟨b4, hu_ne (ne_of h4 S4 (by intro z; cases z)) h4, e4⟩
      · exact B4.k1 (q := s) (Kp.refl.wr (by simp)) (Ne.symm nsp) (by
          obtain ⟨⟨_, _, _, _, _, z, _⟩, _⟩ := B4
          exact ne_of z S4 (by intro z; cases z))
      · rw [List.mem_singleton.mp hq]
        exact .inl (by simp)
      · have f4 := k4.g1 n1.1 f3
        refine hu_ne (fun z => ?_) f4
        rw [z] at hF00
        rw [hS00] at hF00
        cases hF00
    · wtm_at "rd"
      exact ⟨F, rfl, G1⟩
  clear G1
  rintro σ H3 ⟨F1, rfl, G1⟩
  obtain ⟨bs, hF, hbs⟩ := id G1.fl
  have S3 : H3 s = some (.dK (stK r pat own m F1)) := G1.st
  wtm_at "rd"
  intro D hD
  refine lcF_range (lo := 0) (n := r.toNat) (fun j => bs.getD j false) (fun j => V.int (0 + (j : Int))) hD (by omega) (fun j hj H4 E N k4 hE hN => ?_) (fun H4 k4 hD4 => ?_)
  · have hat : atI (bs.map V.bl) (0 + (j : Int)) = some (.bl (bs.getD j false)) := by
      have z := atI_bls (bs := bs) (i := 0 + (j : Int)) (by omega) (by omega)
      rw [show (0 + (j : Int)).toNat = j by omega] at z
      exact z
    have hF4 := k4.g0 hF
    wtm_at "rd"
    refine ⟨rfl, ?_⟩
    wtm_at "rd"
    refine ite_b (fun h => ?_) (fun h => ?_)
    · wtm_at "rd"
      exact hE _ Kp.refl h
    · exact hN _ Kp.refl h
  · obtain ⟨S4, F4, g1, g2, B4, kk4, ⟨o4, f4⟩⟩ := G1
    refine kk D ((((List.range r.toNat).filter fun j => bs.getD j false).map fun (j : Nat) => 0 + (j : Int))) F1 H4 (k4.g0 S4) (F4.kp k4 (by simp)) g1 (B4.k0 k4) (kk4.trans k4.of0) (fr3 kk4 B4 S4 f4 hD) ?_ (fun z hz => ?_) ?_
    · rw [hD4, List.map_map]
      rfl
    · obtain ⟨j, hj, rfl⟩ := List.mem_map.mp hz
      have := List.mem_range.mp (List.mem_filter.mp hj).1
      omega
    · rw [List.length_map]
      have z := List.length_filter_le (fun j => bs.getD j false) (List.range r.toNat)
      rw [List.length_range] at z
      omega
theorem c_l_names (T : Cx K mg) (B : Tb K mg base) : CalX P w K mg base CX0 3 "_law_names" (sp_l_names K) [] := by
  obtain ⟨fd, F, ok⟩ := f_l_names (P := P) (w := w) (base := base) T B
  exact ⟨_, fd, p_l_names, [], ok, gl_l_names T, F.kp, FunD.bindsN F fun _ _ _ _ _ _ us hl => match us, hl with | [_, _], _ => rfl, .nil⟩
end
section
variable {P : Program} {w : World} {K : PySem.W.Frag} {mg : Str → Option Value} {base : Heap}
def sp_l_follow_aim (K : PySem.W.Frag) : Sp := fun vs H Q E => ∃ (s F l : Addr) (r pat own : Int) (m : Mo) (xs : List Int), vs = [.ref s, .ref l] ∧ (StAt H s F r pat own m) ∧ (H l = some (.lst (xs.map V.int))) ∧ (Ring r) ∧ (m.run = true → ∃ n, m.now = some n) ∧ (∀ z, z ∈ xs → 0 ≤ z ∧ z < r) ∧ (xs.length ≤ 1000) ∧ (∀ m' H1, StAt H1 s F r pat own m' → AimR r m xs m' → Kp [s] H H1 → Q .non H1)
theorem us_l_follow_aim {K : PySem.W.Frag} {H : Hp} {Q : VK} {E : XK} {s F l : Addr} {r pat own : Int} {m : Mo} {xs : List Int} (hS : StAt H s F r pat own m) (hl : H l = some (.lst (xs.map V.int))) (hR : Ring r) (hm : m.run = true → ∃ n, m.now = some n) (hx : ∀ z, z ∈ xs → 0 ≤ z ∧ z < r) (hn : xs.length ≤ 1000) (kk : ∀ m' H1, StAt H1 s F r pat own m' → AimR r m xs m' → Kp [s] H H1 → Q .non H1) : sp_l_follow_aim K [.ref s, .ref l] H Q E := ⟨_, _, _, _, _, _, _, _, rfl, hS, hl, hR, hm, hx, hn, kk⟩
theorem f_l_follow_aim (T : Cx K mg) (B : Tb K mg base) : ∃ fd, FunD K "_law_follow_aim" "_law_follow_aim" (defArgs s_l_follow_aim) (defBody s_l_follow_aim) (defScope s_l_follow_aim) (d_l_follow_aim.dvs K) (d_l_follow_aim.kws K) (fAd K d_l_follow_aim.at_) fd ∧ FnOk P w K mg base CX0 2 (fAd K d_l_follow_aim.at_) fd p_l_follow_aim (sp_l_follow_aim K) := by
  have c_l_first := c_l_first (P := P) (w := w) (base := base) T B
  obtain ⟨fd, F⟩ := T.says.def_ 17 (d := d_l_follow_aim) rfl
  refine ⟨fd, F, fnD F sc_l_follow_aim (fun vs H Q E h => by
    obtain ⟨_, _, _, _, _, _, _, _, rfl, _⟩ := h
    rfl) fun cdv A outer s H vs Q E hr h => ?_⟩
  have hu := hu_of hr
  obtain ⟨s, F, l, r, pat, own, m, xs, rfl, hS, hl, hR, hm, hx, hn, kk⟩ := h
  refine ⟨_, (C8.pss_cut (ps_if (PW.pt (pw_and (pt_val (pe_dget hu (pv 0) pe_str (fun _ _ => rfl))) (pw_and1 (pt_cmpR op_in_seq (pe_dget hu (pv 0) pe_str (fun _ _ => rfl)) (pv 1) rfl)))) (pss_one ps_retN) pss_nil) (pss_cons (ps_dput hu (pv 0) pe_str pe_int rfl) (pss_cons (ps_dput hu (pv 0) pe_str (pe_cmpR op_gt (pe_callB call_lenS (by rfl) (fr_len T) (by decide +kernel) (pa_cons (pv 1) pa_nil)) pe_int (nomark _)) rfl) (pss_cons (ps_dput hu (pv 0) pe_str pe_non rfl) (pss_one (ps_if (pt_cmpR op_gt (pe_callB call_lenS (by rfl) (fr_len T) (by decide +kernel) (pa_cons (pv 1) pa_nil)) pe_int (nomark _)) (pss_cons (ps_dput hu (pv 0) pe_str (pe_cal c_l_first hr (by decide) (by rfl) pass0 (pa_cons (pe_dget hu (pv 0) pe_str (fun _ _ => rfl)) (pa_cons (pe_op op_add (pe_dget hu (pv 0) pe_str (fun _ _ => rfl)) pe_int) (pa_cons (pv 1) pa_nil)))) rfl) (pss_one (ps_dput hu (pv 0) pe_str (pe_dget hu (pv 0) pe_str (fun _ _ => rfl)) rfl))) pss_nil)))))), ?_⟩
  rw [show L2.start n_l_follow_aim [.ref s, .ref l] = [some (.ref s), some (.ref l)] from rfl]
  try dsimp only [cxOf, Cx.nox, Cx.wish, List.map]

  have hS0 : H s = some (.dK (stK r pat own m F)) := hS
  have nls : l ≠ s := ne_of hl hS0 (by intro z; cases z)
  obtain ⟨last, now, run, bad⟩ := m
  wtm_at "rd"
  refine rd_cut (fun σ H1 => σ = [some (.ref s), some (.ref l)] ∧ H1 = H ∧ ¬ (run = true ∧ ∃ n, now = some n ∧ n ∈ xs)) ?_ ?_
  · wtm_at "rd"
    refine ite_b (fun h => ?_) (fun h => ?_)
    · obtain ⟨n, e⟩ := hm h
      obtain rfl : now = some n := e
      wtm_at "rd"
      refine ite_d (fun h2 => ?_) (fun h2 => ?_)
      · wtm_at "rd"
        exact kk ⟨last, some n, run, bad⟩ H hS (.inl ⟨h, ⟨n, rfl, h2⟩, rfl⟩) Kp.refl
      · wtm_at "rd"
        refine ⟨rfl, rfl, fun z => ?_⟩
        obtain ⟨n', e, q⟩ := z.2
        cases e
        exact h2 q
    · wtm_at "rd"
      exact ⟨rfl, rfl, fun z => absurd (h.symm.trans z.1) (by decide)⟩
  · rintro σ H1 ⟨rfl, rfl, hc⟩
    wtm_at "rd"
    refine ite_d (fun h => ?_) (fun h => ?_)
    · wtm_at "rd"
      refine us_l_first hR (SqL.of (by wtm_at "hp")) hx ⟨by omega, hn⟩ fun b H2 hb k2 => ?_
      have hs2 := k2.g0 upd_same
      have k3 : Kp [s] H1 H2 := Kp.trans (by wtm_at "kp") k2.of0
      wtm_at "rd"
      refine kk ⟨b, some b, true, 0⟩ _ ?_ (.inr ⟨hc, some b, hb, rfl⟩) ((k3.wr (by simp)).wr (by simp))
      show upd _ s _ s = _
      rw [upd_same]
      show _ = some (HO.dK (stK r pat own ⟨b, some b, true, 0⟩ F))
      rw [decide_eq_true (by omega)]
      rfl
    · wtm_at "rd"
      have e : xs = [] := List.length_eq_zero_iff.mp (by omega)
      refine kk ⟨last, none, false, 0⟩ _ ?_ (.inr ⟨hc, none, e, rfl⟩) (by wtm_at "kp")
      show upd _ s _ s = _
      rw [upd_same, decide_eq_false (by omega)]
      rfl
theorem c_l_follow_aim (T : Cx K mg) (B : Tb K mg base) : CalX P w K mg base CX0 2 "_law_follow_aim" (sp_l_follow_aim K) [] := by
  obtain ⟨fd, F, ok⟩ := f_l_follow_aim (P := P) (w := w) (base := base) T B
  exact ⟨_, fd, p_l_follow_aim, [], ok, gl_l_follow_aim T, F.kp, FunD.bindsN F fun _ _ _ _ _ _ us hl => match us, hl with | [_, _], _ => rfl, .nil⟩
end
section
variable {P : Program} {w : World} {K : PySem.W.Frag} {mg : Str → Option Value} {base : Heap}
def sp_l_follow_report (K : PySem.W.Frag) : Sp := fun vs H Q E => ∃ (s F : Addr) (r pat own : Int) (m : Mo) (b : Bool), vs = [.ref s, .bl b] ∧ (StAt H s F r pat own m) ∧ (∀ H1, StAt H1 s F r pat own (folM pat m b) → Kp [s] H H1 → Q .non H1)
theorem us_l_follow_report {K : PySem.W.Frag} {H : Hp} {Q : VK} {E : XK} {s F : Addr} {r pat own : Int} {m : Mo} {b : Bool} (hS : StAt H s F r pat own m) (kk : ∀ H1, StAt H1 s F r pat own (folM pat m b) → Kp [s] H H1 → Q .non H1) : sp_l_follow_report K [.ref s, .bl b] H Q E := ⟨_, _, _, _, _, _, _, rfl, hS, kk⟩
theorem f_l_follow_report (T : Cx K mg) (B : Tb K mg base) : ∃ fd, FunD K "_law_follow_report" "_law_follow_report" (defArgs s_l_follow_report) (defBody s_l_follow_report) (defScope s_l_follow_report) (d_l_follow_report.dvs K) (d_l_follow_report.kws K) (fAd K d_l_follow_report.at_) fd ∧ FnOk P w K mg base CX0 1 (fAd K d_l_follow_report.at_) fd p_l_follow_report (sp_l_follow_report K) := by
  obtain ⟨fd, F⟩ := T.says.def_ 18 (d := d_l_follow_report) rfl
  refine ⟨fd, F, fnD F sc_l_follow_report (fun vs H Q E h => by
    obtain ⟨_, _, _, _, _, _, _, rfl, _⟩ := h
    rfl) fun cdv A outer s H vs Q E hr h => ?_⟩
  have hu := hu_of hr
  obtain ⟨s, F, r, pat, own, m, b, rfl, hS, kk⟩ := h
  refine ⟨_, (pss_cons (ps_if (pt_not (pt_val (pv 1))) (pss_one (ps_dput hu (pv 0) pe_str (pe_op op_add (pe_dget hu (pv 0) pe_str (fun _ _ => rfl)) pe_int) rfl)) pss_nil) (pss_one (ps_if (PW.pt (pw_or (pt_val (pv 1)) (pw_or1 (pt_cmpR op_ge (pe_dget hu (pv 0) pe_str (fun _ _ => rfl)) (pe_dget hu (pv 0) pe_str (fun _ _ => rfl)) (nomark _))))) (pss_one (ps_dput hu (pv 0) pe_str pe_bl rfl)) pss_nil))), ?_⟩
  rw [show L2.start n_l_follow_report [.ref s, .bl b] = [some (.ref s), some (.bl b)] from rfl]
  try dsimp only [cxOf, Cx.nox, Cx.wish, List.map]

  have hS0 : H s = some (.dK (stK r pat own m F)) := hS
  obtain ⟨last, now, run, bad⟩ := m
  cases b with
  | true =>
    wtm_at "rd"
    exact kk _ upd_same (by wtm_at "kp")
  | false =>
    wtm_at "rd"
    refine ite_d (fun h => ?_) (fun h => ?_)
    · wtm_at "rd"
      refine kk _ ?_ (by wtm_at "kp")
      show upd _ s _ s = _
      rw [upd_same]
      unfold folM
      rw [if_pos (.inr (by simpa using h))]
      rfl
    · wtm_at "rd"
      refine kk _ ?_ (by wtm_at "kp")
      show upd _ s _ s = _
      rw [upd_same]
      unfold folM
      rw [if_neg (by simpa using h)]
      rfl
theorem c_l_follow_report (T : Cx K mg) (B : Tb K mg base) : CalX P w K mg base CX0 1 "_law_follow_report" (sp_l_follow_report K) [] := by
  obtain ⟨fd, F, ok⟩ := f_l_follow_report (P := P) (w := w) (base := base) T B
  exact ⟨_, fd, p_l_follow_report, [], ok, gl_l_follow_report T, F.kp, FunD.bindsN F fun _ _ _ _ _ _ us hl => match us, hl with | [_, _], _ => rfl, .nil⟩
end
section
variable {P : Program} {w : World} {K : PySem.W.Frag} {mg : Str → Option Value} {base : Heap}
def sp_l_shown (K : PySem.W.Frag) : Sp := fun vs H Q E => ∃ (Ts Ss t0 t1 s0 s1 F0 F1 S0 S1 : Addr) (m0 m1 : Mo) (r0 p0 o0 r1 p1 o1 : Int), vs = [.ref Ts, .ref Ss] ∧ (H Ts = some (.lst [.ref t0, .ref t1])) ∧ (H Ss = some (.lst [.ref s0, .ref s1])) ∧ (TourAt K H t0 S0 m0) ∧ (TourAt K H t1 S1 m1) ∧ (StAt H s0 F0 r0 p0 o0 m0) ∧ (StAt H s1 F1 r1 p1 o1 m1) ∧ (Q (.bl true) H)
theorem us_l_shown {K : PySem.W.Frag} {H : Hp} {Q : VK} {E : XK} {Ts Ss t0 t1 s0 s1 F0 F1 S0 S1 : Addr} {m0 m1 : Mo} {r0 p0 o0 r1 p1 o1 : Int} (hT : H Ts = some (.lst [.ref t0, .ref t1])) (hS : H Ss = some (.lst [.ref s0, .ref s1])) (a0 : TourAt K H t0 S0 m0) (a1 : TourAt K H t1 S1 m1) (b0 : StAt H s0 F0 r0 p0 o0 m0) (b1 : StAt H s1 F1 r1 p1 o1 m1) (kk : Q (.bl true) H) : sp_l_shown K [.ref Ts, .ref Ss] H Q E := ⟨_, _, _, _, _, _, _, _, _, _, _, _, _, _, _, _, _, _, rfl, hT, hS, a0, a1, b0, b1, kk⟩
theorem f_l_shown (T : Cx K mg) (B : Tb K mg base) : ∃ fd, FunD K "_law_shown" "_law_shown" (defArgs s_l_shown) (defBody s_l_shown) (defScope s_l_shown) (d_l_shown.dvs K) (d_l_shown.kws K) (fAd K d_l_shown.at_) fd ∧ FnOk P w K mg base CX0 2 (fAd K d_l_shown.at_) fd p_l_shown (sp_l_shown K) := by
  have c_l_same := c_l_same (P := P) (w := w) (base := base) T B
  obtain ⟨fd, F⟩ := T.says.def_ 19 (d := d_l_shown) rfl
  refine ⟨fd, F, fnD F sc_l_shown (fun vs H Q E h => by
    obtain ⟨_, _, _, _, _, _, _, _, _, _, _, _, _, _, _, _, _, _, rfl, _⟩ := h
    rfl) fun cdv A outer s H vs Q E hr h => ?_⟩
  have hu := hu_of hr
  obtain ⟨Ts, Ss, t0, t1, s0, s1, F0, F1, S0, S1, m0, m1, r0, p0, o0, r1, p1, o1, rfl, hT, hS, a0, a1, b0, b1, kk⟩ := h
  refine ⟨_, (pss_cons (ps_for PassesOwn.never rfl (pi_range1 (by rfl) (fr_range T) (pa_cons pe_int pa_nil)) (pg_name (i := 2) sc_l_shown.nd rfl (by first | exact Or.inl rfl | exact Or.inr rfl)) (pss_cons (ps_if (pt_not (pt_val (pe_cal c_l_same hr (by decide) (by rfl) pass0 (pa_cons (pe_fld (pe_ix ix_list (pv 0) (pv 2) (fun _ _ => rfl)) rfl) (pa_cons (pe_dget hu (pe_ix ix_list (pv 1) (pv 2) (fun _ _ => rfl)) pe_str (fun _ _ => rfl)) pa_nil))))) (pss_one (ps_ret pe_bl)) pss_nil) (pss_one (ps_if (pt_not (pt_val (pe_cal c_l_same hr (by decide) (by rfl) pass0 (pa_cons (pe_fld (pe_ix ix_list (pv 0) (pv 2) (fun _ _ => rfl)) rfl) (pa_cons (pe_dget hu (pe_ix ix_list (pv 1) (pv 2) (fun _ _ => rfl)) pe_str (fun _ _ => rfl)) pa_nil))))) (pss_one (ps_ret pe_bl)) pss_nil)))) (pss_one (ps_ret pe_bl))), ?_⟩
  rw [show L2.start n_l_shown [.ref Ts, .ref Ss] = [some (.ref Ts), some (.ref Ss), none] from rfl]
  try dsimp only [cxOf, Cx.nox, Cx.wish, List.map]

  obtain ⟨d0, a0⟩ := a0
  obtain ⟨d1, a1⟩ := a1
  have b0 : H s0 = some (.dK (stK r0 p0 o0 m0 F0)) := b0
  have b1 : H s1 = some (.dK (stK r1 p1 o1 m1 F1)) := b1
  wtm_at "rd"
  refine forR_by (fun i σ H1 => (∃ v2, σ = [some (.ref Ts), some (.ref Ss), v2]) ∧ H1 = H) ⟨⟨_, rfl⟩, rfl⟩ ?_ ?_
  · rintro i σ H1 hi ⟨⟨v2, rfl⟩, rfl⟩
    have e : i = 0 ∨ i = 1 := by
      have : i < 2 := hi
      omega
    rcases e with rfl | rfl
    · wtm_at "rd"
      refine us_l_same (o := m0.now) ?_
      wtm_at "rd"
      refine us_l_same (o := some m0.bad) ?_
      wtm_at "rd"
      exact ⟨⟨_, rfl⟩, rfl⟩
    · wtm_at "rd"
      refine us_l_same (o := m1.now) ?_
      wtm_at "rd"
      refine us_l_same (o := some m1.bad) ?_
      wtm_at "rd"
      exact ⟨⟨_, rfl⟩, rfl⟩
  · rintro σ H1 ⟨⟨v2, rfl⟩, rfl⟩
    wtm_at "rd"
    exact kk
theorem c_l_shown (T : Cx K mg) (B : Tb K mg base) : CalX P w K mg base CX0 2 "_law_shown" (sp_l_shown K) [] := by
  obtain ⟨fd, F, ok⟩ := f_l_shown (P := P) (w := w) (base := base) T B
  exact ⟨_, fd, p_l_shown, [], ok, gl_l_shown T, F.kp, FunD.bindsN F fun _ _ _ _ _ _ us hl => match us, hl with | [_, _], _ => rfl, .nil⟩
end
section
variable {P : Program} {w : World} {K : PySem.W.Frag} {mg : Str → Option Value} {base : Heap}
def sp_law (K : PySem.W.Frag) : Sp := fun vs H Q E => ∃ (a : Addr) (ns : List Int), vs = [.ref a] ∧ (SqL K H a (ns.map V.int)) ∧ (ns.length ≤ 63) ∧ (LamX.Tabs (TT K) H) ∧ (∀ H1, Q (.bl true) H1)
theorem us_law {K : PySem.W.Frag} {H : Hp} {Q : VK} {E : XK} {a : Addr} {ns : List Int} (hS : SqL K H a (ns.map V.int)) (hl : ns.length ≤ 63) (hT : LamX.Tabs (TT K) H) (kk : ∀ H1, Q (.bl true) H1) : sp_law K [.ref a] H Q E := ⟨_, _, rfl, hS, hl, hT, kk⟩
theorem f_law (T : Cx K mg) (B : Tb K mg base) : ∃ fd, FunD K "law" "law" (defArgs s_law) (defBody s_law) (defScope s_law) (d_law.dvs K) (d_law.kws K) (fAd K d_law.at_) fd ∧ FnOk P w K mg base CX0 10 (fAd K d_law.at_) fd p_law (sp_law K) := by
  have c_l_box := c_l_box (P := P) (w := w) (base := base) T B
  have c_l_draw := c_l_draw (P := P) (w := w) (base := base) T B
  have c_l_made := c_l_made (P := P) (w := w) (base := base) T B
  have c_l_shown := c_l_shown (P := P) (w := w) (base := base) T B
  have c_l_names := c_l_names (P := P) (w := w) (base := base) T B
  have c_l_same := c_l_same (P := P) (w := w) (base := base) T B
  have c_l_follow_aim := c_l_follow_aim (P := P) (w := w) (base := base) T B
  have c_l_follow_report := c_l_follow_report (P := P) (w := w) (base := base) T B
  have c_Tour_aim := c_Tour_aim (P := P) (w := w) (base := base) T B
  have c_Tour_report := c_Tour_report (P := P) (w := w) (base := base) T B
  obtain ⟨fd, F⟩ := T.says.def_ 20 (d := d_law) rfl
  refine ⟨fd, F, fnD F sc_law (fun vs H Q E h => by
    obtain ⟨_, _, rfl, _⟩ := h
    rfl) fun cdv A outer s H vs Q E hr h => ?_⟩
  have hu := hu_of hr
  obtain ⟨a, ns, rfl, hS, hl, hT, kk⟩ := h
  refine ⟨_, (pss_cons (ps_set (i := 1) sc_law.nd rfl (by first | exact Or.inl rfl | exact Or.inr rfl) (pe_cal c_l_box hr (by decide) (by rfl) pass0 (pa_cons (pv 0) pa_nil))) (pss_cons (ps_set (i := 2) sc_law.nd rfl (by first | exact Or.inl rfl | exact Or.inr rfl) (pe_op op_add pe_int (pe_cal c_l_draw hr (by decide) (by rfl) pass0 (pa_cons (pv 1) (pa_cons pe_int pa_nil))))) (pss_cons (ps_set (i := 3) sc_law.nd rfl (by first | exact Or.inl rfl | exact Or.inr rfl) (pe_cal c_l_made hr (by decide) (by rfl) pass0 (pa_cons (pv 1) pa_nil))) (pss_cons (ps_set (i := 4) sc_law.nd rfl (by first | exact Or.inl rfl | exact Or.inr rfl) (pe_cal c_l_made hr (by decide) (by rfl) pass0 (pa_cons (pv 1) pa_nil))) (pss_cons (ps_set (i := 5) sc_law.nd rfl (by first | exact Or.inl rfl | exact Or.inr rfl) (pe_lst (pa_cons (pe_ix ix_tup (pv 3) pe_int (fun _ _ => rfl)) (pa_cons (pe_ix ix_tup (pv 4) pe_int (fun _ _ => rfl)) pa_nil)))) (pss_cons (ps_set (i := 6) sc_law.nd rfl (by first | exact Or.inl rfl | exact Or.inr rfl) (pe_lst (pa_cons (pe_ix ix_tup (pv 3) pe_int (fun _ _ => rfl)) (pa_cons (pe_ix ix_tup (pv 4) pe_int (fun _ _ => rfl)) pa_nil)))) (pss_cons (ps_if (pt_not (pt_val (pe_cal c_l_shown hr (by decide) (by rfl) pass0 (pa_cons (pv 5) (pa_cons (pv 6) pa_nil))))) (pss_one (ps_ret pe_bl)) pss_nil) (pss_cons (ps_for PassesOwn.never rfl (pi_range1 (by rfl) (fr_range T) (pa_cons (pv 2) pa_nil)) (pg_name (i := 7) sc_law.nd rfl (by first | exact Or.inl rfl | exact Or.inr rfl)) (pss_cons (ps_set (i := 8) sc_law.nd rfl (by first | exact Or.inl rfl | exact Or.inr rfl) (pe_cal c_l_draw hr (by decide) (by rfl) pass0 (pa_cons (pv 1) (pa_cons pe_int pa_nil)))) (pss_cons (ps_set (i := 9) sc_law.nd rfl (by first | exact Or.inl rfl | exact Or.inr rfl) (pe_ix ix_list (pv 5) (pv 8) (fun _ _ => rfl))) (pss_cons (ps_set (i := 10) sc_law.nd rfl (by first | exact Or.inl rfl | exact Or.inr rfl) (pe_ix ix_list (pv 6) (pv 8) (fun _ _ => rfl))) (pss_cons (ps_set (i := 11) sc_law.nd rfl (by first | exact Or.inl rfl | exact Or.inr rfl) (pe_cal c_l_names hr (by decide) (by rfl) pass0 (pa_cons (pv 1) (pa_cons (pv 10) pa_nil)))) (pss_cons (ps_set (i := 12) sc_law.nd rfl (by first | exact Or.inl rfl | exact Or.inr rfl) (pe_callTy call_listOf (by rfl) (fr_list T) (by decide +kernel) (pa_cons (pv 11) pa_nil))) (pss_cons (ps_set (i := 13) sc_law.nd rfl (by first | exact Or.inl rfl | exact Or.inr rfl) (pe_met c_Tour_aim hr (by decide) pass0 (pv 9) (pa_cons (pv 12) pa_nil))) (pss_cons (ps_expr (pe_cal c_l_follow_aim hr (by decide) (by rfl) pass0 (pa_cons (pv 10) (pa_cons (pv 11) pa_nil)))) (pss_cons (ps_if (PW.pt (pw_or (pt_cmpR (op_neD hr.units) (pv 12) (pv 11) (nomark _)) (pw_or1 (pt_not (pt_val (pe_cal c_l_same hr (by decide) (by rfl) pass0 (pa_cons (pv 13) (pa_cons (pe_dget hu (pv 10) pe_str (fun _ _ => rfl)) pa_nil)))))))) (pss_one (ps_ret pe_bl)) pss_nil) (pss_cons (ps_expr (pe_bm PySem.F.plainAttrs_list PySem.F.slot_list_append PySem.F.type_list_append mt_append (pv 12) (pa_cons (pe_dget hu (pv 10) pe_str (fun _ _ => rfl)) pa_nil))) (pss_cons (ps_set (i := 14) sc_law.nd rfl (by first | exact Or.inl rfl | exact Or.inr rfl) (pe_cmpR op_gt (pe_cal c_l_draw hr (by decide) (by rfl) pass0 (pa_cons (pv 1) (pa_cons pe_int pa_nil))) pe_int (nomark _))) (C8.pss_cut (ps_if (PW.pt (pw_and (pt_val (pv 14)) (pw_and1 (pt_not (pt_val (pe_cal c_l_shown hr (by decide) (by rfl) pass0 (pa_cons (pv 5) (pa_cons (pv 6) pa_nil)))))))) (pss_one (ps_ret pe_bl)) pss_nil) (pss_cons (ps_set (i := 15) sc_law.nd rfl (by first | exact Or.inl rfl | exact Or.inr rfl) (pe_cal c_l_draw hr (by decide) (by rfl) pass0 (pa_cons (pv 1) (pa_cons pe_int pa_nil)))) (C8.pss_cut (ps_if (PW.pt (pw_and (pt_cmpR op_gt (pv 15) pe_int (nomark _)) (pw_and1 (pt_cmp (pc_notN (pe_dget hu (pv 10) pe_str (fun _ _ => rfl))))))) (pss_cons (ps_if (pt_cmp (pc_notN (pe_met c_Tour_report hr (by decide) pass0 (pv 9) (pa_cons (pe_cmpR op_lt (pv 15) pe_int (nomark _)) pa_nil)))) (pss_one (ps_ret pe_bl)) pss_nil) (pss_cons (ps_expr (pe_cal c_l_follow_report hr (by decide) (by rfl) pass0 (pa_cons (pv 10) (pa_cons (pe_cmpR op_lt (pv 15) pe_int (nomark _)) pa_nil)))) (pss_one (ps_if (PW.pt (pw_and (pt_val (pv 14)) (pw_and1 (pt_not (pt_val (pe_cal c_l_shown hr (by decide) (by rfl) pass0 (pa_cons (pv 5) (pa_cons (pv 6) pa_nil)))))))) (pss_one (ps_ret pe_bl)) pss_nil)))) pss_nil) (pss_one (ps_if (PW.pt (pw_and (pt_not (pt_val (pe_dget hu (pv 10) pe_str (fun _ _ => rfl)))) (pw_and1 (pt_cmpR op_eq (pe_cal c_l_draw hr (by decide) (by rfl) pass0 (pa_cons (pv 1) (pa_cons pe_int pa_nil))) pe_int (nomark _))))) (pss_one (ps_if (PW.pt (pw_or (pt_cmp (pc_notN (pe_met c_Tour_report hr (by decide) pass0 (pv 9) (pa_cons (pe_cmpR op_eq (pe_cal c_l_draw hr (by decide) (by rfl) pass0 (pa_cons (pv 1) (pa_cons pe_int pa_nil))) pe_int (nomark _)) pa_nil)))) (pw_or1 (pt_not (pt_val (pe_cal c_l_shown hr (by decide) (by rfl) pass0 (pa_cons (pv 5) (pa_cons (pv 6) pa_nil)))))))) (pss_one (ps_ret pe_bl)) pss_nil)) pss_nil)))))))))))))))) (pss_one (ps_ret (pe_cal c_l_shown hr (by decide) (by rfl) pass0 (pa_cons (pv 5) (pa_cons (pv 6) pa_nil))))))))))))), ?_⟩
  rw [show L2.start n_law [.ref a] = [some (.ref a), none, none, none, none, none, none, none, none, none, none, none, none, none, none, none] from rfl]
  try dsimp only [cxOf, Cx.nox, Cx.wish, List.map]

  wtm_at "rd"
  refine us_l_box hS hl fun p c H1 B1 k1 np nc => ?_
  have t1 := tabs_kp hT k1 (fun _ z => by cases z)
  wtm_at "rd"
  refine us_l_draw B1 (by decide) (by decide) fun n H2 n0 n1 B2 k2 => ?_
  have t2 := B1.tabs t1 k2
  wtm_at "rd"
  refine us_l_made B2 fun tp0 t0 s0 F0 S0 st0 own0 m0 H3 e0 P0 B3 k3 nt0 ns0 nF0 nS0 => ?_
  have t3 := B2.tabs t2 k3
  wtm_at "rd"
  refine us_l_made B3 fun tp1 t1 s1 F1 S1 st1 own1 m1 H4 e1 P1 B4 k4 nt1 ns1 nF1 nS1 => ?_
  have t4 := B3.tabs t3 k4
  obtain ⟨xs3, hp3, _⟩ := B3.at
  have e0' := k4.g1 (ne_of e0 hp3 (by intro z; cases z)) e0
  have P0' : Pair K H4 t0 s0 F0 S0 st0 own0 m0 := by
    obtain ⟨q1, q2, q3, q4, q5, q6⟩ := P0
    obtain ⟨d, q1⟩ := q1
    have q2 : H3 s0 = _ := q2
    exact ⟨⟨d, k4.g1 (ne_of q1 hp3 (by intro z; cases z)) q1⟩, k4.g1 (ne_of q2 hp3 (by intro z; cases z)) q2, q3.kp k4 (by simpa using Ne.symm (B2.ne1 nF0)), q4.k1 k4 (q4.nelst hp3), q5, q6⟩
  wtm_at "rd"
  refine ⟨sz1000 (by simp), fun Ts nTs => ?_⟩
  wtm_at "rd"
  refine ⟨sz1000 (by simp), fun Ss nSs => ?_⟩
  have k5 : Kp [] H4 (upd (upd H4 Ts (.lst [.ref t0, .ref t1])) Ss (.lst [.ref s0, .ref s1])) := (Kp.new nTs).nw nSs
  have nTS : Ts ≠ Ss := ne_fresh nSs
  have hTs : upd (upd H4 Ts (.lst [.ref t0, .ref t1])) Ss (.lst [.ref s0, .ref s1]) Ts = some (.lst [.ref t0, .ref t1]) := hu_ne nTS upd_same
  have hSs : upd (upd H4 Ts (.lst [.ref t0, .ref t1])) Ss (.lst [.ref s0, .ref s1]) Ss = some (.lst [.ref s0, .ref s1]) := upd_same
  have B5 := B4.k0 k5
  have t5 := tabs_kp t4 k5 (fun _ z => by cases z)
  have pk0 : ∀ {t s F S : Addr} {st : Stg} {own : Int} {m : Mo} {H H' : Hp}, Pair K H t s F S st own m → Kp [] H H' → Pair K H' t s F S st own m := fun P k => by
    obtain ⟨q1, q2, q3, q4, q5, q6⟩ := P
    exact ⟨q1.kp k (by simp), k.g0 q2, q3.kp k (by simp), q4.k0 k, q5, q6⟩
  have W : Wd K (TT K) (upd (upd H4 Ts (.lst [.ref t0, .ref t1])) Ss (.lst [.ref s0, .ref s1])) p c Ts Ss (fun w => if w then t1 else t0) (fun w => if w then s1 else s0) (fun w => if w then F1 else F0) (fun w => if w then S1 else S0) (fun w => if w then st1 else st0) (fun w => if w then own1 else own0) (fun w => if w then m1 else m0) := by
    obtain ⟨d0, ht0⟩ := P0.tour
    have hs0 : H3 s0 = _ := P0.state
    obtain ⟨b0, hf0, _⟩ := P0.fl
    refine ⟨B5, t5, hTs, hSs, fun w => ?_, fun v w h => ?_, fun v w h => ?_, fun v w h => ?_, fun w => ?_⟩
    · cases w
      · exact pk0 P0' k5
      · exact pk0 P1 k5
    · cases v <;> cases w
      · exact absurd rfl h
      · exact ne_of_none ht0 nt1
      · exact Ne.symm (ne_of_none ht0 nt1)
      · exact absurd rfl h
    · cases v <;> cases w
      · exact absurd rfl h
      · exact ne_of_none hs0 ns1
      · exact Ne.symm (ne_of_none hs0 ns1)
      · exact absurd rfl h
    · cases v <;> cases w
      · exact absurd rfl h
      · exact ne_of_none hf0 nF1
      · exact Ne.symm (ne_of_none hf0 nF1)
      · exact absurd rfl h
    · cases w
      · exact ⟨Ne.symm (B2.ne1 nF0), Ne.symm (B2.ne2 nF0)⟩
      · exact ⟨Ne.symm (B3.ne1 nF1), Ne.symm (B3.ne2 nF1)⟩
  generalize upd (upd H4 Ts (.lst [.ref t0, .ref t1])) Ss (.lst [.ref s0, .ref s1]) = H5 at *
  generalize (fun w : Bool => if w then t1 else t0) = t at *
  generalize (fun w : Bool => if w then s1 else s0) = s at *
  generalize (fun w : Bool => if w then F1 else F0) = F at *
  generalize (fun w : Bool => if w then S1 else S0) = S at *
  generalize (fun w : Bool => if w then st1 else st0) = st at *
  generalize (fun w : Bool => if w then own1 else own0) = own at *
  generalize (fun w : Bool => if w then m1 else m0) = m at *
  clear k5 nTS hTs hSs B5 t5 pk0 nSs nTs P0' e0' hp3 t4 nt1 ns1 nF1 nS1 k4 B4 P1 t3 nt0 ns0 nF0 nS0 k3 B3 P0 t2 k2 B2
  have shown : ∀ {H : Hp} {F : Bool → Addr} {m : Bool → Mo}, Wd K (TT K) H p c Ts Ss t s F S st own m → ∀ (Q' : VK) E', Q' (.bl true) H → sp_l_shown K [.ref Ts, .ref Ss] H Q' E' := fun W Q' E' h =>
    us_l_shown W.hT W.hS (W.pr false).tour (W.pr true).tour (W.pr false).state (W.pr true).state h
  wtm_at "rd"
  refine shown W _ _ ?_
  wtm_at "rd"
  refine forR_by (fun i σ H => (∃ v7 v8 v9 v10 v11 v12 v13 v14 v15, σ = [some (.ref a), some (.ref p), some (.int (6 + n)), some (.ref tp0), some (.ref tp1), some (.ref Ts), some (.ref Ss), v7, v8, v9, v10, v11, v12, v13, v14, v15]) ∧ ∃ F m, Wd K (TT K) H p c Ts Ss t s F S st own m) ⟨⟨_, _, _, _, _, _, _, _, _, rfl⟩, F, m, W⟩ ?_ ?_
  · clear W m F e0 e1
    rintro i σ H6 hi ⟨⟨v7, v8, v9, v10, v11, v12, v13, v14, v15, rfl⟩, F, m, W⟩
    wtm_at "rd"
    refine us_l_draw W.box (by decide) (by decide) fun wh H7 w0 w1 B7 k7 => ?_
    have W7 := W.draw k7 B7
    clear k7 B7 W
    obtain ⟨w, hw⟩ := pick2 w0 w1
    have hat := hw t
    have has := hw s
    have P7 := W7.pr w
    have rg : Ring (st w).ring := P7.set.ok.ring
    obtain ⟨d7, ht7⟩ := P7.tour
    have hs7 : H7 (s w) = _ := P7.state
    obtain ⟨b7, hf7, lf7⟩ := id P7.fl
    obtain ⟨⟨z1, z2, z3, z4, hp7, hc7, _⟩, npc⟩ := id W7.box
    have hT7 := W7.hT
    have hS7 := W7.hS
    wtm_at "rd"
    refine us_l_names W7.box P7.state P7.fl rg P7.ok (W7.fp w) fun l xs F1 H8 s8 f8 g8 B8 k8 nl hl8 hx hn => ?_
    have ht8 : H8 (t w) = _ := k8.g3 (ne_of ht7 hp7 (by intro z; cases z)) (ne_of ht7 hs7 (by intro z; cases z)) (ne_of ht7 hf7 (by intro z; cases z)) ht7
    have S8 : SetAt K H8 (S w) (st w) := P7.set.kp k8 (by
      simp only [List.mem_cons, List.not_mem_nil, or_false, not_or]
      exact ⟨P7.set.nelst hp7, P7.set.nedK hs7, P7.set.nelst hf7⟩)
    have P8 : Pair K H8 (t w) (s w) F1 (S w) (st w) (own w) (m w) := ⟨⟨d7, ht8⟩, s8, f8, S8, P7.own, P7.ok⟩
    have kt8 : Kt (TT K) [p, s w, F w, t w] H7 H8 := (Kt.kp W7.tabs k8 (fun q hq => by
      simp only [List.mem_cons, List.not_mem_nil, or_false] at hq
      rcases hq with rfl | rfl | rfl
      · exact ⟨_, hp7, trivial⟩
      · exact ⟨_, hs7, trivial⟩
      · exact ⟨_, hf7, trivial⟩)).mono (by
      intro q hq
      simp only [List.mem_cons, List.not_mem_nil, or_false] at hq ⊢
      rcases hq with h | h | h <;> simp [h])
    obtain ⟨F8, m8, eF, em, W8⟩ : ∃ F8 m8, F8 w = F1 ∧ m8 w = m w ∧ Wd K (TT K) H8 p c Ts Ss t s F8 S st own m8 := ⟨_, _, fu_same, fu_same, W7.step w kt8 B8 P8 (g8.imp id Frn.of)⟩
    rw [← eF, ← em] at P8
    clear kt8 S8 g8 f8 hT7 hS7 hp7 hc7 k8 W7 s8 ht7 hs7 hf7 lf7 P7 B8 nl
    obtain ⟨d8, ht8⟩ := P8.tour
    have hs8 : H8 (s w) = _ := P8.state
    wtm_at "rd"
    intro hd nhd
    have k9 : Kp [] H8 (upd H8 hd (.lst (xs.map V.int))) := Kp.new nhd
    have t9 := tabs_kp W8.tabs k9 (fun _ z => by cases z)
    have ht9 := k9.g0 ht8
    have hs9 := k9.g0 hs8
    have hl9 := k9.g0 hl8
    have hh9 : upd H8 hd (.lst (xs.map V.int)) hd = some (.lst (xs.map V.int)) := upd_same
    have S9 := P8.set.k0 k9
    generalize upd H8 hd (.lst (xs.map V.int)) = H9 at *
    wtm_at "rd"
    refine us_Tour_aim ⟨d8, ht9⟩ S9 P8.ok.run (SqL.of hh9) t9 fun H10 m' k10 T10 A10 => ?_
    have hs10 := k10.g1 (by intro _ z; cases z) (ne_of hs9 ht9 (by intro z; cases z)) hs9
    have hl10 := k10.g1 (by intro _ z; cases z) (ne_of hl9 ht9 (by intro z; cases z)) hl9
    have hh10 := k10.g1 (by intro _ z; cases z) (ne_of hh9 ht9 (by intro z; cases z)) hh9
    wtm_at "rd"
    refine us_l_follow_aim hs10 hl10 rg P8.ok.run hx (by omega) fun m'' H11 s11 A11 k11 => ?_
    obtain rfl : m'' = m' := AimR.uniq rg hx A11 A10
    have ok' : m''.Ok (st w).ring := A10.ok P8.ok hx
    have hs11 : H11 (s w) = _ := s11
    have hl11 := k11.g1 (ne_of hl10 hs10 (by intro z; cases z)) hl10
    have hh11 := k11.g1 (ne_of hh10 hs10 (by intro z; cases z)) hh10
    wtm_at "rd"
    refine ite_n (fun h => absurd rfl h) (fun _ => ?_)
    wtm_at "rd"
    refine us_l_same (o := m''.now) ?_
    have sl : (xs.map V.int).length < sizeLine := szlt (by rw [List.length_map]; omega)
    wtm_at "rd"
    obtain ⟨F12, m12, em12, W12⟩ : ∃ F12 m12, m12 w = m'' ∧ Wd K (TT K) (upd H11 hd (.lst (xs.map V.int ++ [.int (own w)]))) p c Ts Ss t s F12 S st own m12 := by
      obtain ⟨⟨z1, z2, z3, z4, hp8, hc8, _⟩, npc⟩ := id W8.box
      obtain ⟨b8, hf8, lf8⟩ := id P8.fl
      obtain ⟨⟨dS, hS8⟩, okS⟩ := id P8.set
      have kA : Kt (TT K) [p, s w, F8 w, t w] H8 H10 := (Kt.kp0 W8.tabs k9).trans (k10.mono (by simp))
      have kB : Kt (TT K) [p, s w, F8 w, t w] H8 H11 := kA.kpP k11 (fun q hq => by
        rw [List.mem_singleton.mp hq]
        exact ⟨by simp, _, hs10, trivial⟩)
      have kC := kB.mine (o := .lst (xs.map V.int ++ [.int (own w)])) (Frn.of nhd) hh11 trivial
      have kD : Kt (TT K) [s w, t w] H8 (upd H11 hd (.lst (xs.map V.int ++ [.int (own w)]))) := (((Kt.kp0 W8.tabs k9).trans (k10.mono (by simp))).kpP k11 (fun q hq => by
        rw [List.mem_singleton.mp hq]
        exact ⟨by simp, _, hs10, trivial⟩)).mine (Frn.of nhd) hh11 trivial
      obtain ⟨dT, T10⟩ := T10
      refine ⟨_, _, fu_same, W8.step w kC (W8.box.ktp kD ?_ ?_) (m' := m'') ⟨⟨dT, ?_⟩, ?_, ⟨b8, kD.1 _ _ hf8 (by intro _ z; cases z) ?_, lf8⟩, ⟨⟨dS, kD.1 _ _ hS8 (by intro _ z; cases z) ?_⟩, okS⟩, P8.own, ok'⟩ (.inl rfl)⟩
      · simp only [List.mem_cons, List.not_mem_nil, or_false, not_or]
        exact ⟨ne_of hp8 hs8 (by intro z; cases z), ne_of hp8 ht8 (by intro z; cases z)⟩
      · simp only [List.mem_cons, List.not_mem_nil, or_false, not_or]
        exact ⟨ne_of hc8 hs8 (by intro z; cases z), ne_of hc8 ht8 (by intro z; cases z)⟩
      · exact hu_ne (ne_of_none ht8 nhd) (k11.g1 (ne_of T10 hs10 (by intro z; cases z)) T10)
      · exact hu_ne (ne_of_none hs8 nhd) hs11
      · simp only [List.mem_cons, List.not_mem_nil, or_false, not_or]
        exact ⟨ne_of hf8 hs8 (by intro z; cases z), ne_of hf8 ht8 (by intro z; cases z)⟩
      · simp only [List.mem_cons, List.not_mem_nil, or_false, not_or]
        exact ⟨P8.set.nedK hs8, P8.set.neins ht8 (by decide)⟩
    generalize upd H11 hd (.lst (xs.map V.int ++ [.int (own w)])) = H12 at *
    rw [← em12] at ok' A10
    have arun := A10.run
    clear sl hh11 hl11 hs11 A11 A10 s11 k11 hh10 hl10 hs10 T10 k10 S9 hh9 hl9 hs9 ht9 t9 k9 nhd hs8 ht8 P8 W8 em eF
    refine us_l_draw W12.box (by decide) (by decide) fun lk H13 lk0 lk1 B13 k13 => ?_
    have W13 := W12.draw k13 B13
    clear k13 B13 W12
    wtm_at "rd"
    refine rd_cut (fun σ H14 => σ = [some (.ref a), some (.ref p), some (.int (6 + n)), some (.ref tp0), some (.ref tp1), some (.ref Ts), some (.ref Ss), some (.int (0 + (i : Int))), some (.int wh), some (.ref (t w)), some (.ref (s w)), some (.ref l), some (.ref hd), some (ov m''.now), some (.bl (decide (lk > 0))), v15] ∧ H14 = H13) ?_ ?_
    · wtm_at "rd"
      refine ite_b (fun h => ?_) (fun h => ?_)
      · wtm_at "rd"
        refine shown W13 _ _ ?_
        wtm_at "rd"
        exact ⟨rfl, rfl⟩
      · wtm_at "rd"
        exact ⟨rfl, rfl⟩
    rintro σ H14 ⟨rfl, rfl⟩
    wtm_at "rd"
    refine us_l_draw W13.box (by decide) (by decide) fun way H15 y0 y1 B15 k15 => ?_
    have W15 := W13.draw k15 B15
    clear k15 B15 W13
    have P15 := W15.pr w
    have hs15 : H15 (s w) = _ := P15.state
    obtain ⟨d15, ht15⟩ := P15.tour
    wtm_at "rd"
    refine rd_cut (fun σ H16 => ∃ F16 m16, σ = [some (.ref a), some (.ref p), some (.int (6 + n)), some (.ref tp0), some (.ref tp1), some (.ref Ts), some (.ref Ss), some (.int (0 + (i : Int))), some (.int wh), some (.ref (t w)), some (.ref (s w)), some (.ref l), some (.ref hd), some (ov m''.now), some (.bl (decide (lk > 0))), some (.int way)] ∧ Wd K (TT K) H16 p c Ts Ss t s F16 S st own m16) ?_ ?_
    · wtm_at "rd"
      refine ite_d (fun h => ?_) (fun h => ?_)
      · wtm_at "rd"
        cases hn : (m12 w).now with
        | none =>
          wtm_at "rd"
          exact ⟨_, _, rfl, W15⟩
        | some nw =>
          wtm_at "rd"
          refine us_Tour_report ⟨d15, ht15⟩ P15.set fun H16 T16 k16 => ?_
          have hs16 := k16.g1 (ne_of hs15 ht15 (by intro z; cases z)) hs15
          wtm_at "rd"
          refine us_l_follow_report hs16 fun H17 S17 k17 => ?_
          have run : (m12 w).run = true := arun (by rw [hn]; simp)
          rw [fol_rep run] at S17
          have W17 := W15.both w (Kt.kp1 W15.tabs k16 ht15 trivial) T16 k17 S17 (repM_ok P15.ok)
          wtm_at "rd"
          refine ite_b (fun h => ?_) (fun h => ?_)
          · wtm_at "rd"
            refine shown W17 _ _ ?_
            wtm_at "rd"
            exact ⟨_, _, rfl, W17⟩
          · wtm_at "rd"
            exact ⟨_, _, rfl, W17⟩
      · wtm_at "rd"
        exact ⟨_, _, rfl, W15⟩
    clear ht15 hs15 P15 W15
    rintro σ H16 ⟨F16, m16, rfl, W16⟩
    have P16 := W16.pr w
    have hs16 : H16 (s w) = _ := P16.state
    obtain ⟨d16, ht16⟩ := P16.tour
    wtm_at "rd"
    refine ite_b (fun h => ?_) (fun h => ?_)
    · have hr0 : (m16 w).run = false := by simpa using h
      wtm_at "rd"
      refine us_l_draw W16.box (by decide) (by decide) fun d4 H17 y0 y1 B17 k17 => ?_
      have W17 := W16.draw k17 B17
      have P17 := W17.pr w
      have hs17 : H17 (s w) = _ := P17.state
      obtain ⟨d17, ht17⟩ := P17.tour
      wtm_at "rd"
      refine ite_d (fun h => ?_) (fun h => ?_)
      · wtm_at "rd"
        refine us_l_draw W17.box (by decide) (by decide) fun d2 H18 y0 y1 B18 k18 => ?_
        have W18 := W17.draw k18 B18
        have P18 := W18.pr w
        have hs18 : H18 (s w) = _ := P18.state
        obtain ⟨d18, ht18⟩ := P18.tour
        wtm_at "rd"
        refine us_Tour_report ⟨d18, ht18⟩ P18.set fun H19 T19 k19 => ?_
        rw [show repM (st w).pat (m16 w) (decide (d2 = 0)) = m16 w by unfold repM; rw [hr0]; rfl] at T19
        have hs19 := k19.g1 (ne_of hs18 ht18 (by intro z; cases z)) hs18
        have W19 := W18.both w (Kt.kp1 W18.tabs k19 ht18 trivial) T19 Kp.refl hs19 P18.ok
        wtm_at "rd"
        refine shown W19 _ _ ?_
        wtm_at "rd"
        exact ⟨⟨_, _, _, _, _, _, _, _, _, rfl⟩, _, _, W19⟩
      · wtm_at "rd"
        exact ⟨⟨_, _, _, _, _, _, _, _, _, rfl⟩, _, _, W17⟩
    · wtm_at "rd"
      exact ⟨⟨_, _, _, _, _, _, _, _, _, rfl⟩, _, _, W16⟩
  · rintro σ H6 ⟨⟨v7, v8, v9, v10, v11, v12, v13, v14, v15, rfl⟩, F', m', W'⟩
    wtm_at "rd"
    refine shown W' _ _ ?_
    exact kk _
end

abbrev hk : PySem.W.Hook := hookP 6 fa fn gs tf ex
def ob (s : PySem.W.SharedT) : AlP := obsP 6 fa fn gs tf ex (HandSHeadRun.getT s)
theorem ob_eq (s : PySem.W.SharedT) : ob s = hk.obs s.abs := obsP_eq (HandSHeadRun.getT_eq s)
def names : List Str := (["_wall", "GroupError", "InvalidSetting", "whole", "Setting", "distance", "first_from", "Tour", "_law_box", "_law_draw", "_law_bits", "_law_patience", "_law_flags", "_law_first", "_law_same", "_law_made", "_law_turn_seat", "_law_names", "_law_follow_aim", "_law_follow_report", "_law_shown"] : List Str)
theorem run (w : World) : HandSHeadRun.RunEq R (PySem.W.view R.prog [25]) hk ob 6000 names w := by
  intro os
  kernel_rfl
theorem law_all {P : Program} {w : World} {K : PySem.W.Frag} {mg : Str → Option Value} (T : Cx K mg) :
    ∃ fd : FuncData, (∀ (s : Shared) (v : Value), BindsTo s fd ⟨[v], []⟩ [("_law_script", v)]) ∧ ∀ base : Heap, Tb K mg base → FnOk P w K mg base CX0 10 (ga K "law") fd ["_law_script"] (sp_law K) := by
  obtain ⟨fd, F⟩ := T.says.def_ 20 (d := d_law) rfl
  have b := FunD.bindsA (ps := ["_law_script"]) F fun _ _ _ _ _ _ us hl => match us, hl with | [_], _ => rfl
  refine ⟨fd, fun s v => b s [v] rfl, fun base B => ?_⟩
  obtain ⟨fd2, F2, ok⟩ := f_law (P := P) (w := w) (base := base) T B
  have e : fd2 = fd := by
    obtain ⟨oc, od, dV, kV, doc, pm, an, cdv, ct, osl, e1, l1, -⟩ := F.ex
    obtain ⟨oc2, od2, dV2, kV2, doc2, pm2, an2, cdv2, ct2, osl2, e2, l2, -⟩ := F2.ex
    rw [l1] at l2
    injection l2 with l3
    injection l3 with _ _ l4 _
    injection l4 with l5
    exact l5.symm
  subst e
  exact ok

end My

open PySem PySem.W PySem.Calls PyProof.Rows
set_option maxRecDepth 100000 in
set_option maxHeartbeats 0 in
theorem PySem.Challenge.cw_livingroll_k24_tour_aims_holds : PySem.Challenge.rw_livingroll_k24_tour_aims.Holds := by
  w_on; o_law
  refine HandSHeadRun.head_any (r := OpenLaw.row PySem.Challenge.rw_livingroll_k24_tour_aims) (q := view (OpenLaw.row PySem.Challenge.rw_livingroll_k24_tour_aims).prog [25]) (H := My.hk) (ob := My.ob) (M := 6000) (loose := My.names) (d := HandSHeadRun.topDef (OpenLaw.row PySem.Challenge.rw_livingroll_k24_tour_aims).prog 25) (kwd := []) My.ob_eq
    (by kernel_rfl) (fun s => by kernel_rfl) My.run (by kernel_rfl) (by kernel_rfl) (by kernel_rfl) (by rfl) (by first | assumption | decide +kernel) (by decide +kernel) ⟨rfl, rfl, rfl, rfl, rfl, by decide +kernel⟩ ?hw ?hc
  case hw => w_witness2
  case hc =>
    refine LamX.walk_ofTsE (l := PySem.Challenge.rw_livingroll_k24_tour_aims) (n := 63) (k := 10) (x := "_law_script") (CX := fun _ => L2.CX0) rfl (by decide) (by kernel_rfl) ⟨rfl, by decide, by decide⟩ ?F (fun _ _ _ _ _ z => z)
    intro w mg fa h Y G hmg0
    obtain ⟨K, KX, c⟩ := Y
    have hmg : mg ("law" : PySem.Str) = some (.ref fa) := by
      have e : (HandSHeadRun.topDef (OpenLaw.row PySem.Challenge.rw_livingroll_k24_tour_aims).prog 25).name = ("law" : PySem.Str) := by kernel_rfl
      rw [← e]
      exact hmg0
    have T : My.Cx K mg := ⟨c.x.t.d, c.x.more, h, KX, G⟩
    have e := hmg.symm.trans (My.gl_law T)
    cases e
    obtain ⟨fd, hb, hF⟩ := My.law_all (P := PySem.Challenge.pw_livingroll_k24_tour_aims) (w := w) T
    refine ⟨K, KX, fd, My.tf.map (He.cT K), My.sp_law K, fun p hp => ?_, fun p hp => ?_, fun p hp => ?_, hb, fun H a ns hl _ hH hS => ⟨a, ns, rfl, hS, hl, RD.tabs_nil (tf := My.tf) (K := K) rfl hH, fun _ => rfl⟩, fun base _ _ B => hF base ⟨B, fun d hd => c.get hd⟩⟩
    · obtain ⟨q, hq, rfl⟩ := List.mem_map.mp hp
      exact c.x.empty q hq
    · obtain ⟨q, hq, rfl⟩ := List.mem_map.mp hp
      exact c.x.out q hq
    · obtain ⟨q, hq, rfl⟩ := List.mem_map.mp hp
      exact PySem.W.codeHd_of_K KX (c.x.hd q hq)
