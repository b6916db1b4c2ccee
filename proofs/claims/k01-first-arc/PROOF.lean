import PyProof.Rows.All
import Wide.All
import OpenK.AllK
import Wide.FinOn
import KE.KStateDown
import Lean
import HandS.ForMost
import HandS.Flow
import HandS.IsInst
import HandS.DictTup
import HandS.Codes
import HandS.Defaults
import HandS.Head0
import HandS.Head1
import HandS.Head2
import HandS.HeadEnd
import HandS.HeadHook1
import HandS.HeadHook2
import HandS.HeadHook3
import HandS.Conv
import HandS.Property
import KE.SortKeyHeap
import KE.KMinKey
import HandS.Lambda
import HandS.Sort
import HandS.HeadHook4
import HandS.HeadWalk
import HandS.Property
import HandS.Style
import HandS.MakeKwOnly
import HandS.Wide
import PySem.Challenge.RW_livingroll_k01_first_seat_and_arc
set_option Elab.async false
set_option linter.all false
set_option maxRecDepth 100000
set_option maxHeartbeats 4000000
/-! own layer: the head by facts, one lemma for each reading, a step tactic -/
namespace RD
open PySem PySem.Spec PyProof.Rows L2 He

/-! ### frames: what stays -/
def Kp (ps : List Addr) (H H' : Hp) : Prop := ∀ b o, H b = some o → b ∉ ps → H' b = some o
theorem Kp.refl {ps : List Addr} {H : Hp} : Kp ps H H := fun _ _ h _ => h
theorem Kp.trans {ps : List Addr} {H H1 H2 : Hp} (a : Kp ps H H1) (b : Kp ps H1 H2) : Kp ps H H2 := fun c o h n => b c o (a c o h n) n
theorem Kp.mono {ps qs : List Addr} {H H' : Hp} (a : Kp ps H H') (h : ∀ p, p ∈ ps → p ∈ qs) : Kp qs H H' := fun c o e n => a c o e fun m => n (h c m)
theorem Kp.of0 {qs : List Addr} {H H' : Hp} (a : Kp [] H H') : Kp qs H H' := fun c o e _ => a c o e (by simp)
theorem Kp.new {ps : List Addr} {H : Hp} {p : Addr} {o : HO} (h : H p = none) : Kp ps H (upd H p o) := fun b u e _ => by
  rw [upd_ne (ne_of_none e h)]
  exact e
theorem Kp.wr {ps : List Addr} {H H' : Hp} {p : Addr} {o : HO} (a : Kp ps H H') (h : p ∈ ps) : Kp ps H (upd H' p o) := fun b u e n => by
  have hb : b ≠ p := by
    intro z
    subst z
    exact n h
  rw [upd_ne hb]
  exact a b u e n
theorem Kp.nw {ps : List Addr} {H H' : Hp} {p : Addr} {o : HO} (a : Kp ps H H') (h : H' p = none) : Kp ps H (upd H' p o) := a.trans (Kp.new h)
/-- an object made behind H is written -/
theorem Kp.mine {ps : List Addr} {H H' : Hp} {p : Addr} {o : HO} (a : Kp ps H H') (h : H p = none) : Kp ps H (upd H' p o) := fun b u e n => by
  rw [upd_ne (ne_of_none e h)]
  exact a b u e n
theorem Kp.g0 {H H' : Hp} {b : Addr} {o : HO} (a : Kp [] H H') (e : H b = some o) : H' b = some o := a b o e (by simp)
theorem Kp.g1 {p : Addr} {H H' : Hp} {b : Addr} {o : HO} (a : Kp [p] H H') (n : b ≠ p) (e : H b = some o) : H' b = some o := a b o e (by simp [n])
theorem Kp.g2 {p q : Addr} {H H' : Hp} {b : Addr} {o : HO} (a : Kp [p, q] H H') (n : b ≠ p) (m : b ≠ q) (e : H b = some o) : H' b = some o := a b o e (by simp [n, m])
theorem Kp.g3 {p q r : Addr} {H H' : Hp} {b : Addr} {o : HO} (a : Kp [p, q, r] H H') (n : b ≠ p) (m : b ≠ q) (l : b ≠ r) (e : H b = some o) : H' b = some o := a b o e (by simp [n, m, l])
theorem Kp.back {ps : List Addr} {H H' : Hp} (a : Kp ps H H') {l : Addr} (h : H' l = none) (n : l ∉ ps) : H l = none := by
  cases q : H l with
  | none => rfl
  | some o =>
    rw [a l o q n] at h
    cases h
theorem Kp.via {ps qs : List Addr} {H H' H2 : Hp} (a : Kp ps H H') (b : Kp qs H' H2) (n : ∀ q, q ∈ qs → q ∈ ps ∨ H q = none) : Kp ps H H2 := fun c o e m => b c o (a c o e m) fun z => by
  rcases n c z with z | z
  · exact m z
  · rw [z] at e
    cases e
theorem Kp.via1 {ps : List Addr} {p : Addr} {H H' H2 : Hp} (a : Kp ps H H') (b : Kp [p] H' H2) (n : H p = none) : Kp ps H H2 := a.via b fun q hq => by
  rw [List.mem_singleton.mp hq]
  exact .inr n
theorem rd_kp {ps : List Addr} {H H' : Hp} {b : Addr} {u : HO} (a : Kp ps H H') (n : b ∉ ps) (h : Rd H b u) : Rd H' b u := by
  rcases h with h | ⟨o, h⟩
  · exact .inl (a _ _ h n)
  · exact .inr ⟨o, a _ _ h n⟩
theorem sl_kp {K : PySem.W.Frag} {ps : List Addr} {H H' : Hp} {b : Addr} {xs : List V} (a : Kp ps H H') (n : b ∉ ps) (h : SqL K H b xs) : SqL K H' b xs := by
  rcases h with h | h
  · exact .inl (rd_kp a n h)
  · exact .inr h
theorem st_kp {K : PySem.W.Frag} {ps : List Addr} {H H' : Hp} {b : Addr} {xs : List V} (a : Kp ps H H') (n : b ∉ ps) (h : SqT K H b xs) : SqT K H' b xs := by
  rcases h with h | h
  · exact .inl (rd_kp a n h)
  · exact .inr h
theorem sl_upd {K : PySem.W.Frag} {H : Hp} {b p : Addr} {o : HO} {xs : List V} (n : b ≠ p) (h : SqL K H b xs) : SqL K (upd H p o) b xs :=
  sl_kp (ps := [p]) (fun c u e m => by rw [upd_ne (by simpa using m)]; exact e) (by simpa using n) h
theorem st_upd {K : PySem.W.Frag} {H : Hp} {b p : Addr} {o : HO} {xs : List V} (n : b ≠ p) (h : SqT K H b xs) : SqT K (upd H p o) b xs :=
  st_kp (ps := [p]) (fun c u e m => by rw [upd_ne (by simpa using m)]; exact e) (by simpa using n) h
theorem hu_ne {H : Hp} {a b : Addr} {o u : HO} (n : b ≠ a) (e : H b = some u) : upd H a o b = some u := by
  rw [upd_ne n]
  exact e
theorem upd_is {H : Hp} {a : Addr} {o o' : HO} (e : o = o') : upd H a o a = some o' := by
  rw [e]
  exact upd_same
theorem ne_fresh {H : Hp} {a b : Addr} {o : HO} (h : upd H a o b = none) : a ≠ b := ne_of_none upd_same h
theorem hn_ne {H : Hp} {a b : Addr} {o : HO} (n : b ≠ a) (e : H b = none) : upd H a o b = none := by
  rw [upd_ne n]
  exact e

/-! ### readings, one lemma each -/
section
variable {K : PySem.W.Frag} {σ : L2.St} {H : Hp} {nx bk ct : L2.St → Hp → Prop} {rt : VK} {t u : TS} {te ta tb tc : TE} {tt tu : TT} {ar : TA} {Q : VK} {QB : Bool → Hp → Prop} {QA : List V → Hp → Prop} {v x y : V} {i j : Int}
abbrev En (nx : L2.St → Hp → Prop) (rt : VK) (bk ct : L2.St → Hp → Prop) : Ends := ⟨nx, rt, bk, ct⟩
theorem rd_seq (h : t ⟨u ⟨nx, rt, bk, ct⟩, rt, bk, ct⟩ σ H) : tSeq t u ⟨nx, rt, bk, ct⟩ σ H := h
theorem rd_next (h : nx σ H) : tNext ⟨nx, rt, bk, ct⟩ σ H := h
theorem rd_brk (h : bk σ H) : tBreak ⟨nx, rt, bk, ct⟩ σ H := h
theorem rd_cont (h : ct σ H) : tCont ⟨nx, rt, bk, ct⟩ σ H := h
theorem rd_asg {g : TG} (h : te σ H fun x H1 => g x σ H1 nx) : tAsg te g ⟨nx, rt, bk, ct⟩ σ H := h
theorem rd_ret (h : te σ H rt) : tRet te ⟨nx, rt, bk, ct⟩ σ H := h
theorem rd_retN (h : rt .non H) : tRetN ⟨nx, rt, bk, ct⟩ σ H := h
theorem rd_drop (h : te σ H fun _ H1 => nx σ H1) : tDrop te ⟨nx, rt, bk, ct⟩ σ H := h
theorem rd_ifS {D : Ends} (h : tt σ H fun b H1 => if b = true then t D σ H1 else u D σ H1) : tIfS tt t u D σ H := h
theorem rd_cut (M : L2.St → Hp → Prop) (h : t ⟨M, rt, bk, ct⟩ σ H) (k : ∀ σ' H', M σ' H' → u ⟨nx, rt, bk, ct⟩ σ' H') : C8.tCut t u ⟨nx, rt, bk, ct⟩ σ H := ⟨M, h, k⟩
theorem rd_gname {n : Nat} {Q : L2.St → Hp → Prop} (h : Q (σ.set n (some v)) H) : gName n v σ H Q := h
theorem rd_gsub {to ti : TE} {s : TSet} {Q : L2.St → Hp → Prop} (h : to σ H fun o H1 => ti σ H1 fun i H2 => s o i v H2 fun H3 => Q σ H3) : gSub to ti s v σ H Q := h
theorem rd_gtup {n : Nat} {g : TGs} {a : Addr} {xs : List V} {Q : L2.St → Hp → Prop} (h : SqT K H a xs) (e : xs.length = n) (q : g xs σ H Q) : gTup K n g (.ref a) σ H Q := ⟨a, xs, rfl, h, e, q⟩
theorem rd_gcons {g : TG} {gs : TGs} {r : List V} {Q : L2.St → Hp → Prop} (q : g v σ H fun σ' H' => gs r σ' H' Q) : gCons g gs (v :: r) σ H Q := ⟨v, r, rfl, q⟩
theorem rd_gnil {Q : L2.St → Hp → Prop} (q : Q σ H) : gNil [] σ H Q := ⟨rfl, q⟩
theorem rd_setL {p : Addr} {xs : List V} {k : Int} {j : Nat} {Q : Hp → Prop} (hp : H p = some (.lst xs)) (hj : ixN xs.length k = some j) (q : Q (upd H p (.lst (xs.set j v)))) : rSetL (.ref p) (.int k) v H Q := ⟨p, xs, k, j, rfl, rfl, hp, hj, q⟩
theorem rd_var {n : Nat} (e : σ[n]? = some (some v)) (h : Q v H) : tVar n σ H Q := ⟨v, e, h⟩
theorem rd_c (h : Q v H) : tC v σ H Q := h
theorem rd_op {r : R2} (h : ta σ H fun x H1 => tb σ H1 fun y H2 => r x y H2 Q) : tOp r ta tb σ H Q := h
theorem rd_un {r : V → Hp → VK → Prop} (h : ta σ H fun x H1 => r x H1 Q) : tUn r ta σ H Q := h
theorem rd_I0 {g : Int → Int → V} (h : Q (g i j) H) : rI0 g (.int i) (.int j) H Q := ⟨i, j, rfl, rfl, h⟩
theorem rd_I {C : Int → Int → Prop} {g : Int → Int → V} (c : C i j) (h : Q (g i j) H) : rI C g (.int i) (.int j) H Q := ⟨i, j, rfl, rfl, c, h⟩
theorem rd_U {g : Int → V} (h : Q (g i) H) : rU g (.int i) H Q := ⟨i, rfl, h⟩
theorem rd_eqI (h : Q (.bl (decide (i = j))) H) : rEq (.int i) (.int j) H Q := ⟨rfl, by
  rw [show decide (V.int i = V.int j) = decide (i = j) from decide_eq_decide.mpr ⟨fun e => V.int.inj e, fun e => congrArg V.int e⟩]
  exact h⟩
theorem rd_neI (h : Q (.bl (!decide (i = j))) H) : rNe (.int i) (.int j) H Q := ⟨rfl, by
  rw [show decide (V.int i = V.int j) = decide (i = j) from decide_eq_decide.mpr ⟨fun e => V.int.inj e, fun e => congrArg V.int e⟩]
  exact h⟩
theorem rd_eqS {a b : Str} (h : Q (.bl (decide (a = b))) H) : rEq (.str a) (.str b) H Q := ⟨rfl, by
  rw [show decide (V.str a = V.str b) = decide (a = b) from decide_eq_decide.mpr ⟨fun e => V.str.inj e, fun e => congrArg V.str e⟩]
  exact h⟩
theorem rd_neS {a b : Str} (h : Q (.bl (!decide (a = b))) H) : rNe (.str a) (.str b) H Q := ⟨rfl, by
  rw [show decide (V.str a = V.str b) = decide (a = b) from decide_eq_decide.mpr ⟨fun e => V.str.inj e, fun e => congrArg V.str e⟩]
  exact h⟩
theorem rd_eqB {a b : Bool} (h : Q (.bl (decide (a = b))) H) : rEq (.bl a) (.bl b) H Q := ⟨rfl, by
  rw [show decide (V.bl a = V.bl b) = decide (a = b) from decide_eq_decide.mpr ⟨fun e => V.bl.inj e, fun e => congrArg V.bl e⟩]
  exact h⟩
theorem rd_neB {a b : Bool} (h : Q (.bl (!decide (a = b))) H) : rNe (.bl a) (.bl b) H Q := ⟨rfl, by
  rw [show decide (V.bl a = V.bl b) = decide (a = b) from decide_eq_decide.mpr ⟨fun e => V.bl.inj e, fun e => congrArg V.bl e⟩]
  exact h⟩
theorem rd_eq (s : scal x y = true) (h : Q (.bl (decide (x = y))) H) : rEq x y H Q := ⟨s, h⟩
theorem rd_ne (s : scal x y = true) (h : Q (.bl (!decide (x = y))) H) : rNe x y H Q := ⟨s, h⟩
theorem rd_test (h : te σ H fun x H1 => ∃ k, x = .bl k ∧ QB k H1) : tTest te σ H QB := h
theorem rd_tB (h : te σ H fun x H1 => ∃ k, x = .bl k ∧ QB k H1) : tB te σ H QB := h
theorem rd_exb {b : Bool} {P : Bool → Prop} (h : P b) : ∃ k, V.bl b = V.bl k ∧ P k := ⟨b, rfl, h⟩
theorem rd_and (h : tt σ H fun c H1 => if c = true then tu σ H1 QB else QB false H1) : tAnd tt tu σ H QB := h
theorem rd_or (h : tt σ H fun c H1 => if c = true then QB true H1 else tu σ H1 QB) : tOr tt tu σ H QB := h
theorem rd_not (h : tt σ H fun c H1 => QB (!c) H1) : tNot tt σ H QB := h
theorem rd_andV (h : ta σ H fun x H1 => ∃ c, x = .bl c ∧ if c = true then tb σ H1 Q else Q (.bl false) H1) : tAndV ta tb σ H Q := h
theorem rd_orV (h : ta σ H fun x H1 => ∃ c, x = .bl c ∧ if c = true then Q (.bl true) H1 else tb σ H1 Q) : tOrV ta tb σ H Q := h
theorem rd_notV (h : ta σ H fun x H1 => ∃ c, x = .bl c ∧ Q (.bl (!c)) H1) : tNotV ta σ H Q := h
theorem rd_ifE (h : tt σ H fun c H1 => if c = true then ta σ H1 Q else tb σ H1 Q) : tIf tt ta tb σ H Q := h
theorem rd_isN (h : ta σ H fun x H1 => Q (.bl (decide (x = .non))) H1) : tIsN ta σ H Q := h
theorem rd_notN (h : ta σ H fun x H1 => Q (.bl (!decide (x = .non))) H1) : tNotN ta σ H Q := h
theorem rd_tru {b : Bool} {P : Bool → Prop} (e : TruV K x H b) (h : P b) : ∃ k, TruV K x H k ∧ P k := ⟨b, e, h⟩
theorem rd_CB {r : List V → Hp → VK → Prop} (h : ar σ H fun vs H1 => r vs H1 Q) : tCB r ar σ H Q := h
theorem rd_nil (h : QA [] H) : tNil σ H QA := h
theorem rd_cons {tr : TA} (h : ta σ H fun x H1 => tr σ H1 fun xs H2 => QA (x :: xs) H2) : tCons ta tr σ H QA := h
theorem rd_call {sp : Sp} {E : XK} (h : ar σ H fun vs H1 => sp vs H1 Q E) : tCall sp [] E ar σ H Q := by
  unfold tCall
  have e : (fun vs H1 => sp (vs ++ []) H1 Q E) = fun vs H1 => sp vs H1 Q E := by
    funext vs H1
    rw [List.append_nil]
  rw [e]
  exact h
theorem rd_make {C : Addr} {sp : Sp} {dvs : List V} {E : XK} (h : ar σ H fun vs H1 => ∀ x dx, H1 x = none → H1 dx = none → dx ≠ x → sp (.ref x :: (vs ++ dvs)) (upd (upd H1 dx (.own x)) x (.ins C dx [])) (fun v H2 => v = .non ∧ Q (.ref x) H2) E) : tMake C sp dvs E ar σ H Q := h
theorem rd_callD {sp : Sp} {dvs : List V} {E : XK} (h : ar σ H fun vs H1 => sp (vs ++ dvs) H1 Q E) : tCall sp dvs E ar σ H Q := h
theorem rd_tup (h : ar σ H fun xs H1 => xs.length ≤ sizeLine ∧ ∀ p, H1 p = none → Q (.ref p) (upd H1 p (.tup xs))) : tTup ar σ H Q := h
theorem rd_lst (h : ar σ H fun xs H1 => xs.length ≤ sizeLine ∧ ∀ p, H1 p = none → Q (.ref p) (upd H1 p (.lst xs))) : tLst ar σ H Q := h
theorem rd_ixL {p : Addr} {xs : List V} (h : SqL K H p xs) (a : atI xs i = some v) (q : Q v H) : rIxL K (.ref p) (.int i) H Q := ⟨p, xs, i, v, rfl, rfl, h, a, q⟩
theorem rd_ixT {p : Addr} {xs : List V} (h : SqT K H p xs) (a : atI xs i = some v) (q : Q v H) : rIxT K (.ref p) (.int i) H Q := ⟨p, xs, i, v, rfl, rfl, h, a, q⟩
theorem rd_fld {f : Str} {a C dx : Addr} {fs : List (Str × V)} {P : V → Hp → Prop} (h : H a = some (.ins C dx fs)) (c : Cls K C) (n : NoAttr K C f) (l : fs.lookup f = some v) (q : Q v H) :
    ∃ a' C' dx' fs' v', V.ref a = V.ref a' ∧ H a' = some (.ins C' dx' fs') ∧ Cls K C' ∧ NoAttr K C' f ∧ fs'.lookup f = some v' ∧ Q v' H := ⟨a, C, dx, fs, v, rfl, h, c, n, l, q⟩
theorem rd_meth {C : Addr} {m : Str} {sp : Sp} {E : XK} (h : ta σ H fun x H1 => ∃ a dx fs, x = .ref a ∧ H1 a = some (.ins C dx fs) ∧ fs.lookup m = none ∧ ar σ H1 fun vs H2 => sp (x :: vs) H2 Q E) : tMeth C m sp [] E ta ar σ H Q := by
  unfold tMeth
  have e : (fun (x : V) (H1 : Hp) => ∃ a dx fs, x = V.ref a ∧ H1 a = some (.ins C dx fs) ∧ fs.lookup m = none ∧ ar σ H1 fun vs H2 => sp (x :: (vs ++ [])) H2 Q E) =
      fun (x : V) (H1 : Hp) => ∃ a dx fs, x = V.ref a ∧ H1 a = some (.ins C dx fs) ∧ fs.lookup m = none ∧ ar σ H1 fun vs H2 => sp (x :: vs) H2 Q E := by
    funext x H1
    simp only [List.append_nil]
  rw [e]
  exact h
theorem rd_methX {C a dx : Addr} {m : Str} {fs : List (Str × V)} {R : Prop} (h : H a = some (.ins C dx fs)) (l : fs.lookup m = none) (q : R) : ∃ a' dx' fs', V.ref a = V.ref a' ∧ H a' = some (.ins C dx' fs') ∧ fs'.lookup m = none ∧ R := ⟨a, dx, fs, rfl, h, l, q⟩
theorem rd_bm {T : String} {r : V → List V → Hp → VK → Prop} (h : ta σ H fun x H1 => tyV K T x H1 ∧ ar σ H1 fun xs H2 => r x xs H2 Q) : tBM K T r ta ar σ H Q := h
theorem rd_bm0 {T : String} {r : V → List V → Hp → VK → Prop} (h : ta σ H fun x H1 => tyV K T x H1 ∧ r x [] H1 Q) : tBM0 K T r ta σ H Q := h
theorem ty_l {p : Addr} {xs : List V} {B : Prop} (h : SqL K H p xs) (q : B) : tyV K "list" (.ref p) H ∧ B := ⟨.inl ⟨rfl, xs, h⟩, q⟩
theorem rd_append {p : Addr} {xs : List V} (h : H p = some (.lst xs)) (l : xs.length < sizeLine) (q : Q .non (upd H p (.lst (xs ++ [v])))) : rAppend (.ref p) [v] H Q := ⟨p, xs, v, rfl, rfl, h, l, q⟩
/-! #### built-ins under names -/
def rInt1 : List V → Hp → VK → Prop := fun xs H Q => (∃ i, xs = [.int i] ∧ Q (.int i) H) ∨ ∃ k, xs = [.bl k] ∧ Q (.int (if k then 1 else 0)) H
theorem call_int1' {X : Cx} : CallR X (.type "int") rInt1 := call_int1
theorem rd_int1 (h : Q (.int i) H) : rInt1 [.int i] H Q := .inl ⟨i, rfl, h⟩
def rAbs : List V → Hp → VK → Prop := fun xs H Q => ∃ i, xs = [.int i] ∧ Q (.int (if i < 0 then -i else i)) H
theorem call_abs' {X : Cx} : CallR X (.builtin "abs") rAbs := call_abs
theorem rd_abs (h : Q (.int (i.natAbs : Int)) H) : rAbs [.int i] H Q := ⟨i, rfl, by
  rw [show (if i < 0 then -i else i) = (i.natAbs : Int) from by split <;> omega]
  exact h⟩
def rLenS (K : PySem.W.Frag) : List V → Hp → VK → Prop := fun xs H Q => ∃ p ys, xs = [.ref p] ∧ (SqL K H p ys ∨ SqT K H p ys) ∧ Q (.int ys.length) H
theorem call_lenS {X : Cx} : CallR X (.builtin "len") (rLenS X.K) := call_len_seq
theorem rd_lenL {p : Addr} {ys : List V} (h : SqL K H p ys) (q : Q (.int ys.length) H) : rLenS K [.ref p] H Q := ⟨p, ys, rfl, .inl h, q⟩
theorem rd_lenI {p : Addr} {ns : List Int} (h : SqL K H p (ns.map V.int)) (q : Q (.int ns.length) H) : rLenS K [.ref p] H Q := ⟨p, ns.map V.int, rfl, .inl h, by
  rw [List.length_map]
  exact q⟩
theorem rd_lenT {p : Addr} {ys : List V} (h : SqT K H p ys) (q : Q (.int ys.length) H) : rLenS K [.ref p] H Q := ⟨p, ys, rfl, .inr h, q⟩
def rMin2 : List V → Hp → VK → Prop := fun xs H Q => ∃ i j, xs = [.int i, .int j] ∧ Q (.int (if j < i then j else i)) H
theorem call_min2' {X : Cx} (hc : X.calm = true) : CallR X (.builtin "min") rMin2 := call_min2 hc
theorem rd_min2 (h : Q (.int (min i j)) H) : rMin2 [.int i, .int j] H Q := ⟨i, j, rfl, by
  rw [show (if j < i then j else i) = min i j from by split <;> omega]
  exact h⟩
def rMax2 : List V → Hp → VK → Prop := fun xs H Q => ∃ i j, xs = [.int i, .int j] ∧ Q (.int (if j > i then j else i)) H
theorem call_max2' {X : Cx} (hc : X.calm = true) : CallR X (.builtin "max") rMax2 := call_max2 hc
theorem rd_max2 (h : Q (.int (max i j)) H) : rMax2 [.int i, .int j] H Q := ⟨i, j, rfl, by
  rw [show (if j > i then j else i) = max i j from by split <;> omega]
  exact h⟩
def rListOf (K : PySem.W.Frag) : List V → Hp → VK → Prop := fun xs H Q => ∃ p ys, xs = [.ref p] ∧ (SqL K H p ys ∨ SqT K H p ys) ∧ ∀ l, H l = none → Q (.ref l) (upd H l (.lst ys))
theorem call_listOf {X : Cx} : CallR X (.type "list") (rListOf X.K) := call_list_of
theorem rd_listL {p : Addr} {ys : List V} (h : SqL K H p ys) (q : ∀ l, H l = none → Q (.ref l) (upd H l (.lst ys))) : rListOf K [.ref p] H Q := ⟨p, ys, rfl, .inl h, q⟩
/-- isinstance against one built-in class -/
theorem rd_isi {t : String} {c : String} {b : Bool} (ty : TyX K H x (.type t)) (e : kitB t c = some b) (h : Q (.bl b) H) : rIsi K [x, .ty c] H Q := ⟨x, .ty c, .type t, .type c, b, rfl, .ty c, ty, kit_ty e, h⟩

/-! ### loops -/
/-- what a for over the walk J asks -/
def ForG (J : It) (g : TG) (t : TS) (D : Ends) (σ : L2.St) (H : Hp) : Prop :=
  ∃ W : Nat → Nat → L2.St → Hp → Prop, (∃ m, W 0 m σ H) ∧ ∀ i m σ H, W i m σ H →
      (J.stop i H ∧ D.nx σ H) ∨ (J.go i H ∧ ∃ N : L2.St → Hp → Prop, (∀ σ' H', N σ' H' → ∃ m', m' < m ∧ W (i + 1) m' σ' H') ∧ ∀ x H', J.yld i H x H' → g x σ H' fun σ2 H2 => t { D with nx := N, ct := N, bk := D.nx } σ2 H2)
theorem rd_for {wi : TI} {g : TG} {D : Ends} (h : wi σ H fun J H1 => ForG J g t D σ H1) : tFor wi g t D σ H := h
theorem rd_iList {R : It → Hp → Prop} (h : te σ H fun x H1 => ∃ a, x = V.ref a ∧ (∃ xs, SqL K H1 a xs) ∧ R (Itl K a) H1) : iList K te σ H R := h
theorem rd_iTup {R : It → Hp → Prop} (h : te σ H fun x H1 => ∃ a, x = V.ref a ∧ (∃ xs, SqT K H1 a xs) ∧ R (Itt K a) H1) : iTup K te σ H R := h
theorem rd_iListX {p : Addr} {xs : List V} {R : Addr → Prop} (h : SqL K H p xs) (q : R p) : ∃ a, V.ref p = V.ref a ∧ (∃ xs, SqL K H a xs) ∧ R a := ⟨p, rfl, ⟨xs, h⟩, q⟩
theorem rd_iTupX {p : Addr} {xs : List V} {R : Addr → Prop} (h : SqT K H p xs) (q : R p) : ∃ a, V.ref p = V.ref a ∧ (∃ xs, SqT K H a xs) ∧ R a := ⟨p, rfl, ⟨xs, h⟩, q⟩
theorem rd_iRng1 {R : It → Hp → Prop} (h : ar σ H fun vs H1 => ∃ j : Int, vs = [.int j] ∧ -(2 ^ 62) ≤ j ∧ j < 2 ^ 62 ∧ R (Itr 0 j.toNat) H1) : iRng1 ar σ H R := h
theorem rd_iRng1X {R : Int → Prop} (h1 : -(2 ^ 62) ≤ j) (h2 : j < 2 ^ 62) (q : R j) : ∃ k : Int, [V.int j] = [V.int k] ∧ -(2 ^ 62) ≤ k ∧ k < 2 ^ 62 ∧ R k := ⟨j, rfl, h1, h2, q⟩
theorem rd_iRng2 {R : It → Hp → Prop} (h : ar σ H fun vs H1 => ∃ i j : Int, vs = [.int i, .int j] ∧ (-(2 ^ 62) ≤ i ∧ i < 2 ^ 62 ∧ -(2 ^ 62) ≤ j ∧ j < 2 ^ 62) ∧ R (Itr i (j - i).toNat) H1) : iRng2 ar σ H R := h
theorem rd_iRng2X {R : Int → Int → Prop} (h1 : -(2 ^ 62) ≤ i ∧ i < 2 ^ 62 ∧ -(2 ^ 62) ≤ j ∧ j < 2 ^ 62) (q : R i j) : ∃ k l : Int, [V.int i, V.int j] = [V.int k, V.int l] ∧ (-(2 ^ 62) ≤ k ∧ k < 2 ^ 62 ∧ -(2 ^ 62) ≤ l ∧ l < 2 ^ 62) ∧ R k l := ⟨i, j, rfl, h1, q⟩
/-- over a list that stays -/
theorem forL_by {a : Addr} {g : TG} (xs : List V) (Pv : Nat → L2.St → Hp → Prop) (h0 : Pv 0 σ H) (hl : ∀ i σ H, i ≤ xs.length → Pv i σ H → SqL K H a xs)
    (hs : ∀ i x σ H, xs[i]? = some x → Pv i σ H → g x σ H fun σ2 H2 => t ⟨Pv (i + 1), rt, nx, Pv (i + 1)⟩ σ2 H2) (hd : ∀ σ H, Pv xs.length σ H → nx σ H) : ForG (Itl K a) g t ⟨nx, rt, bk, ct⟩ σ H := for_list (K := K) Pv h0 hl hs hd
theorem forT_by {a : Addr} {g : TG} (xs : List V) (Pv : Nat → L2.St → Hp → Prop) (h0 : Pv 0 σ H) (hl : ∀ i σ H, i ≤ xs.length → Pv i σ H → SqT K H a xs)
    (hs : ∀ i x σ H, xs[i]? = some x → Pv i σ H → g x σ H fun σ2 H2 => t ⟨Pv (i + 1), rt, nx, Pv (i + 1)⟩ σ2 H2) (hd : ∀ σ H, Pv xs.length σ H → nx σ H) : ForG (Itt K a) g t ⟨nx, rt, bk, ct⟩ σ H := for_tup (K := K) Pv h0 hl hs hd
theorem forR_by {lo : Int} {n : Nat} {g : TG} (Pv : Nat → L2.St → Hp → Prop) (h0 : Pv 0 σ H)
    (hs : ∀ (i : Nat) σ H, i < n → Pv i σ H → g (.int (lo + i)) σ H fun σ2 H2 => t ⟨Pv (i + 1), rt, nx, Pv (i + 1)⟩ σ2 H2) (hd : ∀ σ H, Pv n σ H → nx σ H) : ForG (Itr lo n) g t ⟨nx, rt, bk, ct⟩ σ H := for_range Pv h0 hs hd
/-- the items one by one -/
theorem forL_ints {a : Addr} {g : TG} (ns : List Int) (Pv : Nat → L2.St → Hp → Prop) (h0 : Pv 0 σ H) (hl : ∀ i σ H, i ≤ ns.length → Pv i σ H → SqL K H a (ns.map V.int))
    (hs : ∀ (i : Nat) (h : i < ns.length) σ H, Pv i σ H → g (.int ns[i]) σ H fun σ2 H2 => t ⟨Pv (i + 1), rt, nx, Pv (i + 1)⟩ σ2 H2) (hd : ∀ σ H, Pv ns.length σ H → nx σ H) : ForG (Itl K a) g t ⟨nx, rt, bk, ct⟩ σ H :=
  forL_by (ns.map V.int) Pv h0 (fun i σ H hi p => hl i σ H (by simpa using hi) p) (fun i x σ H e p => by
    rw [List.getElem?_map] at e
    obtain ⟨z, hz, rfl⟩ := Option.map_eq_some_iff.mp e
    obtain ⟨h, rfl⟩ := List.getElem?_eq_some_iff.mp hz
    exact hs i h σ H p) (fun σ H p => hd σ H (by simpa using p))
theorem rd_while (Pv : L2.St → Hp → Prop) (μ : L2.St → Hp → Nat) (h0 : Pv σ H)
    (hs : ∀ σ H, Pv σ H → tt σ H fun b H1 => if b = true then t ⟨fun σ' H' => Pv σ' H' ∧ μ σ' H' < μ σ H, rt, nx, fun σ' H' => Pv σ' H' ∧ μ σ' H' < μ σ H⟩ σ H1 else nx σ H1)
    (mono : ∀ σ H Q Q', (∀ b H1, Q b H1 → Q' b H1) → tt σ H Q → tt σ H Q') : tWhile tt t ⟨nx, rt, bk, ct⟩ σ H := while_by Pv μ h0 hs mono
/-- a list comprehension -/
def LcG (J : It) (g : TG) (tt : TT) (te : TE) (vs : List Nat) (σ : L2.St) (D : Addr) (Qd : Hp → Prop) (H1 : Hp) : Prop :=
  ∃ W : Nat → Nat → Hp → Prop, (∃ m, W 0 m (upd H1 D (.lst []))) ∧ ∀ i m H, W i m H →
      (J.stop i H ∧ Qd H) ∨ (J.go i H ∧ ∃ Nx : Hp → Prop, (∀ H', Nx H' → ∃ m', m' < m ∧ W (i + 1) m' H') ∧ ∀ x H', J.yld i H x H' → g x (wipe σ vs) H' fun σ2 H2 => wipe σ2 vs = wipe σ vs ∧ tt σ2 H2 fun b H3 =>
        if b = true then te σ2 H3 fun y H4 => ∃ acc, H4 D = some (.lst acc) ∧ acc.length < sizeLine ∧ Nx (upd H4 D (.lst (acc ++ [y]))) else Nx H3)
theorem rd_lc {wi : TI} {g : TG} {vs : List Nat} (h : wi σ H fun J H1 => ∀ D, H1 D = none → LcG J g tt te vs σ D (fun H => Q (.ref D) H) H1) : tLc wi g tt te vs σ H Q := h
theorem lcL_by {a D : Addr} {g : TG} {vs : List Nat} {Qd : Hp → Prop} (xs : List V) (Pv : Nat → Hp → Prop) (h0 : Pv 0 (upd H D (.lst []))) (hl : ∀ i H, i ≤ xs.length → Pv i H → SqL K H a xs)
    (hs : ∀ i x H, xs[i]? = some x → Pv i H → g x (wipe σ vs) H fun σ2 H2 => wipe σ2 vs = wipe σ vs ∧ tt σ2 H2 fun b H3 =>
      if b = true then te σ2 H3 fun y H4 => ∃ acc, H4 D = some (.lst acc) ∧ acc.length < sizeLine ∧ Pv (i + 1) (upd H4 D (.lst (acc ++ [y]))) else Pv (i + 1) H3) (hd : ∀ H, Pv xs.length H → Qd H) : LcG (Itl K a) g tt te vs σ D Qd H := lc_list (K := K) Pv h0 hl hs hd
theorem lcR_by {lo : Int} {n : Nat} {D : Addr} {g : TG} {vs : List Nat} {Qd : Hp → Prop} (Pv : Nat → Hp → Prop) (h0 : Pv 0 (upd H D (.lst [])))
    (hs : ∀ (i : Nat) H, i < n → Pv i H → g (.int (lo + i)) (wipe σ vs) H fun σ2 H2 => wipe σ2 vs = wipe σ vs ∧ tt σ2 H2 fun b H3 =>
      if b = true then te σ2 H3 fun y H4 => ∃ acc, H4 D = some (.lst acc) ∧ acc.length < sizeLine ∧ Pv (i + 1) (upd H4 D (.lst (acc ++ [y]))) else Pv (i + 1) H3) (hd : ∀ H, Pv n H → Qd H) : LcG (Itr lo n) g tt te vs σ D Qd H := lc_range Pv h0 hs hd
theorem lcL_ints {a D : Addr} {g : TG} {vs : List Nat} {Qd : Hp → Prop} (ns : List Int) (Pv : Nat → Hp → Prop) (h0 : Pv 0 (upd H D (.lst []))) (hl : ∀ i H, i ≤ ns.length → Pv i H → SqL K H a (ns.map V.int))
    (hs : ∀ (i : Nat) (h : i < ns.length) H, Pv i H → g (.int ns[i]) (wipe σ vs) H fun σ2 H2 => wipe σ2 vs = wipe σ vs ∧ tt σ2 H2 fun b H3 =>
      if b = true then te σ2 H3 fun y H4 => ∃ acc, H4 D = some (.lst acc) ∧ acc.length < sizeLine ∧ Pv (i + 1) (upd H4 D (.lst (acc ++ [y]))) else Pv (i + 1) H3) (hd : ∀ H, Pv ns.length H → Qd H) : LcG (Itl K a) g tt te vs σ D Qd H :=
  lcL_by (ns.map V.int) Pv h0 (fun i H hi p => hl i H (by simpa using hi) p) (fun i x H e p => by
    rw [List.getElem?_map] at e
    obtain ⟨z, hz, rfl⟩ := Option.map_eq_some_iff.mp e
    obtain ⟨h, rfl⟩ := List.getElem?_eq_some_iff.mp hz
    exact hs i h H p) (fun H p => hd H (by simpa using p))
theorem rd_yes {QB : Bool → Hp → Prop} (h : QB true H) : tYes σ H QB := h
end

/-! ### callables in one piece -/
section
variable {P : Program} {w : World} {K : PySem.W.Frag} {mg : Str → Option Value} {base : Heap} {CX : CXT} {X : Cx} {k j : Nat} {C : Addr} {x m : Str} {sp : Sp} {dvs : List V} {E : XK} {p pos apos : Pos} {e o : Expr} {es : List Expr} {ta : TE} {t : TA}
structure CalX (P : Program) (w : World) (K : PySem.W.Frag) (mg : Str → Option Value) (base : Heap) (CX : CXT) (k : Nat) (x : Str) (sp : Sp) (dvs : List V) : Prop where
  ex : ∃ (f : Addr) (fd : FuncData) (ps : List Str) (ds : List Value), FnOk P w K mg base CX k f fd ps sp ∧ mg x = some (.ref f) ∧ PySem.W.keepIn K (.ref f) = true ∧ Binds K fd ps ds ∧ Vals dvs ds
structure MetX (P : Program) (w : World) (K : PySem.W.Frag) (mg : Str → Option Value) (base : Heap) (CX : CXT) (k : Nat) (C : Addr) (m : Str) (sp : Sp) (dvs : List V) : Prop where
  ex : ∃ (f : Addr) (fd : FuncData) (ps : List Str) (ds : List Value), Cls K C ∧ Meth K C m f ∧ FnOk P w K mg base CX k f fd ps sp ∧ Binds K fd ps ds ∧ Vals dvs ds
structure MakX (P : Program) (w : World) (K : PySem.W.Frag) (mg : Str → Option Value) (base : Heap) (CX : CXT) (k : Nat) (x : Str) (C : Addr) (sp : Sp) (dvs : List V) : Prop where
  ex : ∃ (f : Addr) (fd : FuncData) (ps : List Str) (ds : List Value), Mk K C f ∧ FnOk P w K mg base CX k f fd ps sp ∧ mg x = some (.ref C) ∧ Binds K fd ps ds ∧ Vals dvs ds
theorem pe_cal (c : CalX X.prog X.w X.K X.mg X.base CX k x sp dvs) (hr : Room j X.A) (hk : k ≤ j) (hg : Gl X x) (hx : Passes CX X E) (ha : PA X (e :: es) t)
    (hdb : (x == ("__debug__" : Str)) = false := by decide) (he : starEach (e :: es) X.env = (false, eval e X.env) :: starEach es X.env := by rfl) (hpl : (backTo pos (starEach es X.env)).any (·.1) = false := by rfl) :
    PE X (.Call (.Name x p) (e :: es) [] pos) (tCall sp dvs E t) := by
  obtain ⟨f, fd, ps, ds, F, hm, kp, b, d⟩ := c.ex
  exact pe_call F (hr.mono hk) hg hm kp b d hx ha hdb he hpl
theorem pe_mak (c : MakX X.prog X.w X.K X.mg X.base CX k x C sp dvs) (hr : Room j X.A) (hk : k + 1 ≤ j) (hg : Gl X x) (hx : Passes CX X E) (ha : PA X (e :: es) t)
    (hdb : (x == ("__debug__" : Str)) = false := by decide) (he : starEach (e :: es) X.env = (false, eval e X.env) :: starEach es X.env := by rfl) (hpl : (backTo pos (starEach es X.env)).any (·.1) = false := by rfl) :
    PE X (.Call (.Name x p) (e :: es) [] pos) (tMake C sp dvs E t) := by
  obtain ⟨f, fd, ps, ds, M, F, hm, b, d⟩ := c.ex
  exact pe_make M F (hr.mono hk) hg hm b d hx ha hdb he hpl
theorem pe_met {pl : Sem Bool} (c : MetX X.prog X.w X.K X.mg X.base CX k C m sp dvs) (hr : Room j X.A) (hk : k ≤ j) (hx : Passes CX X E) (he : PE X o ta) (ha : PA X (e :: es) t)
    (hst : starEach (e :: es) X.env = (false, eval e X.env) :: starEach es X.env := by rfl) (hpl : (backTo pos (starEach es X.env)).any (·.1) = false := by rfl)
    (ht : eval (.Call (.Attribute o m apos) (e :: es) [] pos) X.env = (do
      let ov ← eval o X.env
      standAt apos.atName
      let (f, first) ← holding [ov] (getMethod ov m pl)
      callWith pos f first (backTo pos (starEach (e :: es) X.env)) (backToKw pos (keywordEach [] X.env))) := by rfl) :
    PE X (.Call (.Attribute o m apos) (e :: es) [] pos) (tMeth C m sp dvs E ta t) := by
  obtain ⟨f, fd, ps, ds, cl, me, F, b, d⟩ := c.ex
  exact pe_meth he cl me F (hr.mono hk) b d hx ha hst hpl ht
end

/-! ### a def's promise by its body -/
section
variable {P : Program} {w : World} {K : PySem.W.Frag} {mg : Str → Option Value} {base : Heap} {CX : CXT} {x qual : Str} {params : Arguments} {body : List Stmt} {scope : Scope} {dvs : List V} {kws : List (Str × V)} {f : Addr} {fd : FuncData}
theorem fnD {N ps : List Str} {k : Nat} {sp : Sp} (F : FunD K x qual params body scope dvs kws f fd) (S : FnScope N ps scope) (len : ∀ vs H Q E, sp vs H Q E → vs.length = ps.length)
    (hbody : ∀ (cdv : Value) (A : Around) (outer : List Env) (s : Shared) (H : Hp) (vs : List V) (Q : VK) (E : XK), Room k (A.deeper (envOfC qual scope s.heap.objs.size f cdv)) → sp vs H Q E →
      ∃ t, PSs (cxOf CX0 P w K mg base N qual scope f cdv A outer s H E).nox body t ∧ t ⟨fun _ H' => Q .non H', Q, fun _ _ => False, fun _ _ => False⟩ (start N vs) H) : FnOk P w K mg base CX0 (k + 1) f fd ps sp :=
  F.ok S len fun cdv A outer s H vs Q E hr h => let ⟨t, h1, h2⟩ := hbody cdv A outer s H vs Q E hr h; ⟨t, h1.nox, h2⟩
end

/-! ### the head: facts of a top, one Bool more -/
abbrev AlM : Type := AlD × Bool
def obsM (n : Nat) (fa : List Fa) (fn : List DefD) (ex : PySem.W.Frag → Bool) (g : Addr → Option Obj) : AlM := (obsD fa fn (frG g (asD g n)), ex (frG g (asD g n)))
def hookM (n : Nat) (fa : List Fa) (fn : List DefD) (ex : PySem.W.Frag → Bool) : PySem.W.Hook where
  α := AlM
  obs := fun s => obsM n fa fn ex s.heap.get?
  val := fun _ => (valD fn, true)
  says := fun _ h => ∃ K : PySem.W.Frag, K.In h ∧ SaysD fa fn K ∧ ex K = true
  of := fun _ _ e => ⟨_, frG_in, congrArg (fun z : AlM => z.1) e, congrArg (fun z : AlM => z.2) e⟩
  keeps := fun _ _ _ ⟨K, hK, c, d⟩ k => ⟨K, PySem.W.Frag.In.keeps hK k, c, d⟩
theorem obsM_eq {n : Nat} {fa : List Fa} {fn : List DefD} {ex : PySem.W.Frag → Bool} {g : Addr → Option Obj} {s : Shared} (h : ∀ a, g a = s.heap.get? a) : obsM n fa fn ex g = (hookM n fa fn ex).obs s := by
  have e : g = s.heap.get? := funext h
  rw [e] <;> rfl
/-- what the defs lean on -/
structure Ctx (fa : List Fa) (fn : List DefD) (ex : PySem.W.Frag → Bool) (K : PySem.W.Frag) (mg : Str → Option Value) : Prop where
  says : SaysD fa fn K
  ex : ex K = true
  at_ : ∃ h, K.In h ∧ h.Ns mainGlobals mg
section
variable {fa : List Fa} {fn : List DefD} {ex : PySem.W.Frag → Bool} {K : PySem.W.Frag} {mg : Str → Option Value}
theorem Ctx.glo (T : Ctx fa fn ex K mg) (i : Nat) {x : Str} (h : fa[i]? = some (.glo x) := by rfl) : mg x = some (.ref (ga K x)) := let ⟨_, X, G⟩ := T.at_; glo_ok X G (T.says.fact i h)
theorem Ctx.fre (T : Ctx fa fn ex K mg) (i : Nat) {x : Str} (h : fa[i]? = some (.free x) := by rfl) : mg x = none := let ⟨_, X, G⟩ := T.at_; free_ok X G (T.says.fact i h)
theorem Ctx.cls (T : Ctx fa fn ex K mg) (i : Nat) {x : Str} (h : fa[i]? = some (.cls x) := by rfl) : Cls K (ga K x) := cls_ok (T.says.fact i h)
theorem Ctx.noat (T : Ctx fa fn ex K mg) (i : Nat) {x f : Str} (h : fa[i]? = some (.noat x f) := by rfl) : NoAttr K (ga K x) f := noat_ok (T.says.fact i h)
theorem Ctx.meth (T : Ctx fa fn ex K mg) (i : Nat) {x m : Str} (h : fa[i]? = some (.meth x m) := by rfl) : Meth K (ga K x) m (ma K (ga K x) m) := meth_ok (T.says.fact i h)
theorem Ctx.mkr (T : Ctx fa fn ex K mg) (i : Nat) {x : Str} (h : fa[i]? = some (.mkr x) := by rfl) : Mk K (ga K x) (ma K (ga K x) "__init__") := mkr_ok (T.says.fact i h)
theorem Ctx.int (T : Ctx fa fn ex K mg) (i : Nat) {x : Str} {z : Int} (h : fa[i]? = some (.int x z) := by rfl) : ∃ t, mg x = some (.int z t) := let ⟨_, X, G⟩ := T.at_; int_ok X G (T.says.fact i h)
theorem Ctx.str (T : Ctx fa fn ex K mg) (i : Nat) {x z : Str} (h : fa[i]? = some (.str x z) := by rfl) : ∃ t, mg x = some (.str z t) := let ⟨_, X, G⟩ := T.at_; str_ok X G (T.says.fact i h)
end
theorem pe_globC {X : Cx} {x : Str} {v : V} {pos : Pos} (hg : Gl X x) (h : ∃ u, X.mg x = some u ∧ RelV v u) (hd : (x == ("__debug__" : Str)) = false := by decide) : PE X (.Name x pos) (tC v) := let ⟨_, hm, r⟩ := h; pe_glob hg hm r hd

/-! ### small facts -/
theorem ite_d {p A B : Prop} [Decidable p] (h1 : p → A) (h2 : ¬ p → B) : if decide p = true then A else B := by
  by_cases h : p
  · rw [decide_eq_true h, if_pos rfl]
    exact h1 h
  · rw [decide_eq_false h, if_neg Bool.false_ne_true]
    exact h2 h
theorem ite_n {p A B : Prop} [Decidable p] (h1 : ¬ p → A) (h2 : p → B) : if (!decide p) = true then A else B := by
  by_cases h : p
  · rw [decide_eq_true h]
    exact iteF (h2 h)
  · rw [decide_eq_false h]
    exact iteT (h1 h)
theorem ite_b {b : Bool} {A B : Prop} (h1 : b = true → A) (h2 : b = false → B) : if b = true then A else B := by
  cases b
  · exact iteF (h2 rfl)
  · exact iteT (h1 rfl)
theorem ite_t {b : Bool} {A B : Prop} (e : b = true) (h : A) : if b = true then A else B := by
  subst e
  exact iteT h
theorem ite_f {b : Bool} {A B : Prop} (e : b = false) (h : B) : if b = true then A else B := by
  subst e
  exact iteF h
theorem atI_ints {ns : List Int} {i : Int} (h0 : 0 ≤ i) (h1 : i < ns.length) : atI (ns.map V.int) i = some (.int (ns.getD i.toNat 0)) := by
  obtain ⟨j, rfl⟩ := Int.eq_ofNat_of_zero_le h0
  refine atI_nat ?_
  have hj : j < ns.length := by omega
  rw [List.getElem?_map, List.getElem?_eq_getElem hj]
  simp [hj]
theorem take_map_succ {ns : List Int} {i : Nat} (h : i < ns.length) : (ns.take i).map V.int ++ [V.int ns[i]] = (ns.take (i + 1)).map V.int := by
  rw [List.take_succ_eq_append_getElem h, List.map_append]
  rfl
theorem sz1000 {n : Nat} (h : n ≤ 1000000) : n ≤ sizeLine := Nat.le_trans h (by decide)
theorem szlt {n : Nat} (h : n < 1000000) : n < sizeLine := Nat.lt_of_lt_of_le h (by decide)

/-! ### more readings -/
section
variable {K : PySem.W.Frag} {σ : L2.St} {H : Hp} {nx bk ct : L2.St → Hp → Prop} {rt : VK} {te ta tb tc : TE} {ar : TA} {Q : VK} {QB : Bool → Hp → Prop} {v x y z : V} {i j : Int}
theorem rd_sfld {f : Str} (h : tb σ H fun y H1 => ta σ H1 fun x H2 => ∃ a C dx fs, x = V.ref a ∧ H2 a = some (.ins C dx fs) ∧ Cls K C ∧ NoAttr K C f ∧ fs.length < 1000 ∧ nx σ (upd H2 a (.ins C dx (putF f y fs)))) : sFld K ta tb f ⟨nx, rt, bk, ct⟩ σ H := h
theorem rd_sfldX {f : Str} {a C dx : Addr} {fs : List (Str × V)} {R : Addr → Addr → Addr → List (Str × V) → Prop} (h : H a = some (.ins C dx fs)) (c : Cls K C) (n : NoAttr K C f) (l : fs.length < 1000) (q : R a C dx fs) :
    ∃ a' C' dx' fs', V.ref a = V.ref a' ∧ H a' = some (.ins C' dx' fs') ∧ Cls K C' ∧ NoAttr K C' f ∧ fs'.length < 1000 ∧ R a' C' dx' fs' := ⟨a, C, dx, fs, rfl, h, c, n, l, q⟩
theorem rd_tfld {f : Str} (h : ta σ H fun x H1 => ∃ a C dx fs v, x = V.ref a ∧ H1 a = some (.ins C dx fs) ∧ Cls K C ∧ NoAttr K C f ∧ fs.lookup f = some v ∧ Q v H1) : tFld K ta f σ H Q := h
theorem rd_fldX {f : Str} {a C dx : Addr} {fs : List (Str × V)} {R : V → Prop} (h : H a = some (.ins C dx fs)) (c : Cls K C) (n : NoAttr K C f) (l : fs.lookup f = some v) (q : R v) :
    ∃ a' C' dx' fs' v', V.ref a = V.ref a' ∧ H a' = some (.ins C' dx' fs') ∧ Cls K C' ∧ NoAttr K C' f ∧ fs'.lookup f = some v' ∧ R v' := ⟨a, C, dx, fs, v, rfl, h, c, n, l, q⟩
theorem rd_tcon {f : Str} (h : ta σ H fun x H1 => ∃ a C dx fs v u, x = V.ref a ∧ H1 a = some (.ins C dx fs) ∧ Cls K C ∧ Con K C f v u ∧ fs.lookup f = none ∧ Q v H1) : tCon K ta f σ H Q := h
theorem rd_conX {f : Str} {a C dx : Addr} {fs : List (Str × V)} {R : V → Prop} (h : H a = some (.ins C dx fs)) (c : Cls K C) (n : ∃ u, Con K C f v u) (l : fs.lookup f = none) (q : R v) :
    ∃ a' C' dx' fs' v' u, V.ref a = V.ref a' ∧ H a' = some (.ins C' dx' fs') ∧ Cls K C' ∧ Con K C' f v' u ∧ fs'.lookup f = none ∧ R v' := let ⟨u, n⟩ := n; ⟨a, C, dx, fs, v, u, rfl, h, c, n, l, q⟩
/-! isinstance -/
theorem rd_isi_ii (h : Q (.bl true) H) : rIsi K [.int i, .ty "int"] H Q := rd_isi (.base (.int i)) (by decide +kernel) h
theorem rd_isi_ib (h : Q (.bl false) H) : rIsi K [.int i, .ty "bool"] H Q := rd_isi (.base (.int i)) (by decide +kernel) h
theorem rd_isi_bb {b : Bool} (h : Q (.bl true) H) : rIsi K [.bl b, .ty "bool"] H Q := rd_isi (.base (.bl b)) (by decide +kernel) h
theorem rd_isi_bi {b : Bool} (h : Q (.bl true) H) : rIsi K [.bl b, .ty "int"] H Q := rd_isi (.base (.bl b)) (by decide +kernel) h
theorem rd_isi_ss {b : Str} (h : Q (.bl true) H) : rIsi K [.str b, .ty "str"] H Q := rd_isi (.base (.str b)) (by decide +kernel) h
theorem rd_isi_ll {a : Addr} {xs : List V} (e : H a = some (.lst xs)) (h : Q (.bl true) H) : rIsi K [.ref a, .ty "list"] H Q := rd_isi (.base (.lst e)) (by decide +kernel) h
theorem rd_isi_tt {a : Addr} {xs : List V} (e : H a = some (.tup xs)) (h : Q (.bl true) H) : rIsi K [.ref a, .ty "tuple"] H Q := rd_isi (.base (.tup e)) (by decide +kernel) h
/-! known tests -/
section
variable {A B : Prop}
theorem ite_nt (h : B) : if (!true) = true then A else B := iteF h
theorem ite_nf (h : A) : if (!false) = true then A else B := iteT h
theorem ite_in (h : B) : if decide (V.int i = V.non) = true then A else B := iteF h
theorem ite_rn {a : Addr} (h : B) : if decide (V.ref a = V.non) = true then A else B := iteF h
theorem ite_sn {a : Str} (h : B) : if decide (V.str a = V.non) = true then A else B := iteF h
theorem ite_bn {a : Bool} (h : B) : if decide (V.bl a = V.non) = true then A else B := by
  cases a <;> exact iteF h
theorem ite_nn (h : A) : if decide (V.non = V.non) = true then A else B := iteT h
theorem ite_xin (h : A) : if (!decide (V.int i = V.non)) = true then A else B := iteT h
theorem ite_xrn {a : Addr} (h : A) : if (!decide (V.ref a = V.non)) = true then A else B := iteT h
theorem ite_xnn (h : B) : if (!decide (V.non = V.non)) = true then A else B := iteF h
end
/-! dicts with tuple keys -/
theorem rd_dnewT (h : ∀ p, H p = none → Q (.ref p) (upd H p (.dT []))) : tDNewT σ H Q := h
theorem rd_dnewK (h : ∀ p, H p = none → Q (.ref p) (upd H p (.dK []))) : tDNewK σ H Q := h
theorem rd_dget2 (h : ta σ H fun x H1 => ∃ a, x = V.ref a ∧ IsD H1 a ∧ tb σ H1 fun y H2 => tc σ H2 fun z H3 => ∃ o, DGet H3 a y o ∧ Q (o.getD z) H3) : tDGet2 ta tb tc σ H Q := h
theorem rd_isdX {a : Addr} {R : Addr → Prop} (d : IsD H a) (q : R a) : ∃ a', V.ref a = V.ref a' ∧ IsD H a' ∧ R a' := ⟨a, rfl, d, q⟩
theorem isD_T {a : Addr} {kvs : List (List Key × V)} (e : H a = some (.dT kvs)) : IsD H a := .inr ⟨kvs, .inl e⟩
theorem isD_K {a : Addr} {kvs : List (Key × V)} (e : H a = some (.dK kvs)) : IsD H a := .inl ⟨kvs, .inl e⟩
theorem rd_dgX {a : Addr} {o : Option V} {R : Option V → Prop} (d : DGet H a y o) (q : R o) : ∃ o', DGet H a y o' ∧ R o' := ⟨o, d, q⟩
theorem dg_is {a b : Addr} {kvs : List (List Key × V)} {s : Int} {z : Str} (e : H a = some (.dT kvs)) (eb : H b = some (.tup [.int s, .str z])) : DGet H a (.ref b) (valV kvs [.inl s, .inr z]) := DGet.t (k := [.inl s, .inr z]) e eb
theorem rd_sdput (h : tc σ H fun v H1 => ta σ H1 fun x H2 => tb σ H2 fun y H3 => ∃ a H4, x = V.ref a ∧ DPut H3 a y v H4 ∧ nx σ H4) : sDPut ta tb tc ⟨nx, rt, bk, ct⟩ σ H := h
theorem rd_dpX {a : Addr} {H' : Hp} {R : Hp → Prop} (d : DPut H a y v H') (q : R H') : ∃ a' H4, V.ref a = V.ref a' ∧ DPut H a' y v H4 ∧ R H4 := ⟨a, H', rfl, d, q⟩
theorem dp_is {a b : Addr} {kvs : List (List Key × V)} {s : Int} {z : Str} (e : H a = some (.dT kvs)) (eb : H b = some (.tup [.int s, .str z])) (l : kvs.length < sizeLine) : DPut H a (.ref b) v (upd H a (.dT (putK kvs [.inl s, .inr z] v))) := DPut.t (k := [.inl s, .inr z]) e eb l
theorem ty_d {a : Addr} {kvs : List (List Key × V)} {B : Prop} (h : H a = some (.dT kvs)) (q : B) : tyV K "dict" (.ref a) H ∧ B := ⟨.inr (.inr (.inl ⟨rfl, .inr ⟨kvs, h⟩⟩)), q⟩
theorem ty_dK {a : Addr} {kvs : List (Key × V)} {B : Prop} (h : H a = some (.dK kvs)) (q : B) : tyV K "dict" (.ref a) H ∧ B := ⟨.inr (.inr (.inl ⟨rfl, .inl ⟨kvs, h⟩⟩)), q⟩
theorem rd_popT {a b : Addr} {kvs : List (List Key × V)} {s : Int} {t : Str} (e : H a = some (.dT kvs)) (eb : H b = some (.tup [.int s, .str t])) (q1 : ∀ v, valV kvs [.inl s, .inr t] = some v → Q v (upd H a (.dT (dropK kvs [.inl s, .inr t])))) (q2 : valV kvs [.inl s, .inr t] = none → Q x H) :
    DX.rPopT (.ref a) [.ref b, x] H Q := ⟨a, kvs, [.inl s, .inr t], b, x, rfl, rfl, e, eb, q1, q2⟩
theorem valV_drop {κ : Type} [DecidableEq κ] (k j : κ) : ∀ kvs : List (κ × V), valV (dropK kvs k) j = if j = k then none else valV kvs j
  | [] => by
    by_cases h : j = k
    · rw [if_pos h]
      rfl
    · rw [if_neg h]
      rfl
  | p :: r => by
    have ih := valV_drop k j r
    by_cases e : p.1 = k
    · rw [dropK_pos e, ih]
      by_cases h : j = k
      · rw [if_pos h, if_pos h]
      · rw [if_neg h, if_neg h, valV_neg (fun z => h (z.symm.trans e))]
    · rw [dropK_neg e]
      by_cases h : p.1 = j
      · rw [valV_pos h, if_neg (fun z => e (h.trans z)), valV_pos h]
      · rw [valV_neg h, ih, valV_neg h]
theorem putK_le {κ : Type} [DecidableEq κ] (kvs : List (κ × V)) (k : κ) (v : V) : (putK kvs k v).length ≤ kvs.length + 1 := by
  unfold putK
  split
  · rw [List.length_map]
    omega
  · rw [List.length_append]
    exact Nat.le_refl _
theorem rd_cat {a b : Addr} {xs ys : List V} (h1 : H a = some (.lst xs)) (h2 : H b = some (.lst ys)) (l : xs.length + ys.length ≤ sizeLine) (q : ∀ p, H p = none → Q (.ref p) (upd H p (.lst (xs ++ ys)))) : rCat (.ref a) (.ref b) H Q := ⟨a, b, xs, ys, rfl, rfl, h1, h2, l, q⟩
/-! list(range(..)) -/
theorem rd_lstRg {t : L2.St → Hp → (Int → Int → Hp → Prop) → Prop} (h : t σ H fun a b H1 => RgOk a b ∧ ∀ q, H1 q = none → Q (.ref q) (upd H1 q (.lst (rgV a b)))) : tLstRg t σ H Q := h
theorem rd_rg1 {R : Int → Int → Hp → Prop} (h : ta σ H fun x H1 => ∃ n, x = V.int n ∧ R 0 n H1) : tRg1 ta σ H R := h
theorem rd_rg2 {R : Int → Int → Hp → Prop} (h : ta σ H fun x H1 => tb σ H1 fun y H2 => ∃ i j, x = V.int i ∧ y = V.int j ∧ R i j H2) : tRg2 ta tb σ H R := h
theorem rd_inX {R : Int → Prop} (h : R i) : ∃ n, V.int i = V.int n ∧ R n := ⟨i, rfl, h⟩
theorem rd_inX2 {R : Int → Int → Prop} (h : R i j) : ∃ n m, V.int i = V.int n ∧ V.int j = V.int m ∧ R n m := ⟨i, j, rfl, rfl, h⟩
theorem rgV_0 (n : Int) : rgV 0 n = ((List.range n.toNat).map fun (i : Nat) => (i : Int)).map V.int := by
  unfold rgV
  rw [List.map_map, Int.sub_zero]
  congr 1
  funext i
  show V.int (0 + (i : Int)) = V.int (i : Int)
  rw [Int.zero_add]
end

/-! ### dicts with int and text keys, slices, more -/
section
variable {K : PySem.W.Frag} {σ : L2.St} {H : Hp} {nx bk ct : L2.St → Hp → Prop} {rt : VK} {t : TS} {te ta tb tc : TE} {tt : TT} {ar : TA} {Q : VK} {QB : Bool → Hp → Prop} {v x y z : V} {i j : Int}
theorem rd_din (h : ta σ H fun y H1 => tb σ H1 fun x H2 => ∃ a o, x = V.ref a ∧ DGet H2 a y o ∧ Q (.bl o.isSome) H2) : tDIn ta tb σ H Q := h
theorem rd_dnotin (h : ta σ H fun y H1 => tb σ H1 fun x H2 => ∃ a o, x = V.ref a ∧ DGet H2 a y o ∧ Q (.bl (!o.isSome)) H2) : tDNotIn ta tb σ H Q := h
theorem rd_dget (h : ta σ H fun x H1 => tb σ H1 fun y H2 => ∃ a v, x = V.ref a ∧ DGet H2 a y (some v) ∧ Q v H2) : tDGet ta tb σ H Q := h
theorem rd_dget1 (h : ta σ H fun x H1 => ∃ a, x = V.ref a ∧ IsD H1 a ∧ tb σ H1 fun y H2 => ∃ o, DGet H2 a y o ∧ Q (o.getD .non) H2) : tDGet1 ta tb σ H Q := h
theorem rd_dinX {a : Addr} {o : Option V} {R : Option V → Prop} (d : DGet H a y o) (q : R o) : ∃ a' o', V.ref a = V.ref a' ∧ DGet H a' y o' ∧ R o' := ⟨a, o, rfl, d, q⟩
theorem rd_dgetX {a : Addr} {R : V → Prop} (d : DGet H a y (some v)) (q : R v) : ∃ a' v', V.ref a = V.ref a' ∧ DGet H a' y (some v') ∧ R v' := ⟨a, v, rfl, d, q⟩
theorem dg_i {a : Addr} {kvs : List (Key × V)} (e : H a = some (.dK kvs)) : DGet H a (.int i) (valV kvs (.inl i)) := DGet.k (k := .inl i) e
theorem dg_s {a : Addr} {kvs : List (Key × V)} {s : Str} (e : H a = some (.dK kvs)) : DGet H a (.str s) (valV kvs (.inr s)) := DGet.k (k := .inr s) e
theorem dg_iv {a : Addr} {kvs : List (Key × V)} (e : H a = some (.dK kvs)) (l : valV kvs (.inl i) = some v) : DGet H a (.int i) (some v) := l ▸ dg_i e
theorem dg_sv {a : Addr} {kvs : List (Key × V)} {s : Str} (e : H a = some (.dK kvs)) (l : valV kvs (.inr s) = some v) : DGet H a (.str s) (some v) := l ▸ dg_s e
theorem dp_i {a : Addr} {kvs : List (Key × V)} (e : H a = some (.dK kvs)) (l : kvs.length < sizeLine) : DPut H a (.int i) v (upd H a (.dK (putK kvs (.inl i) v))) := DPut.k (k := .inl i) e l
theorem dp_s {a : Addr} {kvs : List (Key × V)} {s : Str} (e : H a = some (.dK kvs)) (l : kvs.length < sizeLine) : DPut H a (.str s) v (upd H a (.dK (putK kvs (.inr s) v))) := DPut.k (k := .inr s) e l
theorem rd_disp {trs : List (TE × TE)} (h : ∀ p, H p = none → tPairs trs σ (upd H p (.dK [])) fun ps H2 => H2 p = some (.dK []) ∧ ∃ kvs : List (Key × V), ps = kvs.map (fun kv => (kV kv.1, kv.2)) ∧ kvs.length ≤ 15 ∧ Q (.ref p) (upd H2 p (.dK (mergeK [] kvs)))) : tDisp trs σ H Q := h
theorem rd_pnil {R : List (V × V) → Hp → Prop} (h : R [] H) : tPairs [] σ H R := h
theorem rd_pcons {trs : List (TE × TE)} {R : List (V × V) → Hp → Prop} (h : ta σ H fun x H1 => tb σ H1 fun y H2 => tPairs trs σ H2 fun ps H3 => R ((x, y) :: ps) H3) : tPairs ((ta, tb) :: trs) σ H R := h
theorem rd_sl {r : V → Option Int → Option Int → Hp → VK → Prop} {tl th : TO} (h : te σ H fun x H1 => tl σ H1 fun l H2 => th σ H2 fun u H3 => r x l u H3 Q) : tSl r te tl th σ H Q := h
theorem rd_part {R : Option Int → Hp → Prop} (h : te σ H fun x H1 => ∃ i, x = V.int i ∧ R (some i) H1) : tPart te σ H R := h
theorem rd_nopart {R : Option Int → Hp → Prop} (h : R none H) : tNoPart σ H R := h
theorem rd_slL {a : Addr} {xs : List V} {lo hi : Option Int} (h : SqL K H a xs) (q : ∀ p, H p = none → Q (.ref p) (upd H p (.lst (cutV xs lo hi)))) : rSlL K (.ref a) lo hi H Q := ⟨a, xs, rfl, h, q⟩
theorem cut_to {xs : List V} {k : Nat} : cutV xs none (some (k : Int)) = xs.take k := by
  unfold cutV
  rw [HT.sIx_none, HT.sIx_nat, List.drop_zero, Nat.sub_zero, List.take_eq_take_iff]
  omega
theorem cut_from {xs : List V} {k : Nat} : cutV xs (some (k : Int)) none = xs.drop k := by
  unfold cutV
  rw [HT.sIx_none, HT.sIx_nat]
  by_cases h : k ≤ xs.length
  · rw [Nat.min_eq_left h, List.take_of_length_le (by rw [List.length_drop]; exact Nat.le_refl _)]
  · rw [Nat.min_eq_right (by omega), Nat.sub_self, List.take_zero, List.drop_of_length_le (by omega)]
theorem cut_all {xs : List V} : cutV xs none none = xs := by
  unfold cutV
  rw [HT.sIx_none, HT.sIx_none, List.drop_zero, Nat.sub_zero, List.take_length]
theorem rd_popAt {a : Addr} {xs : List V} {k : Nat} (h : H a = some (.lst xs)) (b1 : -(2 ^ 63) ≤ i) (b2 : i < 2 ^ 63) (s : seqIndex? i xs.length = some k) (g : xs[k]? = some v) (q : Q v (upd H a (.lst (xs.eraseIdx k)))) : rPopAt (.ref a) [.int i] H Q := ⟨a, xs, i, k, v, rfl, rfl, h, b1, b2, s, g, q⟩
theorem rd_clear {a : Addr} {xs : List V} (h : H a = some (.lst xs)) (q : Q .non (upd H a (.lst []))) : rClear (.ref a) [] H Q := ⟨a, xs, rfl, rfl, h, q⟩
theorem rd_aug {n : Nat} {ti : TIp} (e : σ[n]? = some (some x)) (h : te σ H fun y H1 => ti x y H1 fun z H2 => nx (σ.set n (some z)) H2) : tAug n te ti ⟨nx, rt, bk, ct⟩ σ H := ⟨x, e, h⟩
theorem rd_ipI {f : Int → Int → Int} (h : Q (.int (f i j)) H) : ipI f (.int i) (.int j) H Q := ⟨i, j, rfl, rfl, h⟩
theorem rd_whileM (W : Nat → L2.St → Hp → Prop) (m : Nat) (h0 : W m σ H)
    (hs : ∀ m σ H, W m σ H → tt σ H fun b H1 => if b = true then ∃ N : L2.St → Hp → Prop, (∀ σ' H', N σ' H' → ∃ m', m' < m ∧ W m' σ' H') ∧ t ⟨N, rt, nx, N⟩ σ H1 else nx σ H1) : tWhile tt t ⟨nx, rt, bk, ct⟩ σ H := ⟨W, ⟨m, h0⟩, hs⟩
theorem inV_ints (a : Int) : ∀ ns : List Int, inV (.int a) (ns.map V.int) = decide (a ∈ ns)
  | [] => rfl
  | b :: r => by
    have ih := inV_ints a r
    unfold inV at ih ⊢
    rw [List.map_cons, List.any_cons, ih]
    show ((b == a) || decide (a ∈ r)) = decide (a ∈ b :: r)
    by_cases h : b = a
    · subst h
      simp
    · have h2 : (b == a) = false := beq_eq_false_iff_ne.mpr h
      rw [h2, Bool.false_or]
      simp [List.mem_cons, Ne.symm h]
theorem flat_ints : ∀ ns : List Int, (ns.map V.int).all flatV = true
  | [] => rfl
  | _ :: r => by
    rw [List.map_cons, List.all_cons, flat_ints r]
    rfl
theorem rd_inI {p : Addr} {ns : List Int} (h : SqL K H p (ns.map V.int)) (q : Q (.bl (decide (i ∈ ns))) H) : rIn K false (.int i) (.ref p) H Q := ⟨p, ns.map V.int, rfl, .inl h, rfl, flat_ints ns, by
  rw [inV_ints]
  exact q⟩
theorem rd_notInI {p : Addr} {ns : List Int} (h : SqL K H p (ns.map V.int)) (q : Q (.bl (!decide (i ∈ ns))) H) : rIn K true (.int i) (.ref p) H Q := ⟨p, ns.map V.int, rfl, .inl h, rfl, flat_ints ns, by
  rw [inV_ints]
  exact q⟩
def rLenD : List V → Hp → VK → Prop := fun xs H Q => ∃ a kvs, xs = [V.ref a] ∧ H a = some (.dK kvs) ∧ Q (.int kvs.length) H
theorem call_lenD' {X : Cx} : CallR X (.builtin "len") rLenD := call_lenD
theorem rd_lenD {a : Addr} {kvs : List (Key × V)} (h : H a = some (.dK kvs)) (q : Q (.int kvs.length) H) : rLenD [.ref a] H Q := ⟨a, kvs, rfl, h, q⟩
/-! enumerate -/
theorem rd_iEnum {R : It → Hp → Prop} (h : ar σ H fun vs H1 => ∃ a xs, vs = [V.ref a] ∧ SqL K H1 a xs ∧ R (Ite K a) H1) : iEnum K ar σ H R := h
theorem rd_iEnumX {p : Addr} {xs : List V} {R : Addr → Prop} (h : SqL K H p xs) (q : R p) : ∃ a xs, [V.ref p] = [V.ref a] ∧ SqL K H a xs ∧ R a := ⟨p, xs, rfl, h, q⟩
theorem forE_by {a : Addr} {g : TG} (xs : List V) (Pv : Nat → L2.St → Hp → Prop) (h0 : Pv 0 σ H) (hl : ∀ i σ H, i ≤ xs.length → Pv i σ H → SqL K H a xs)
    (hs : ∀ i x σ H T, xs[i]? = some x → Pv i σ H → H T = none → g (.ref T) σ (upd H T (.tup [.int (i : Nat), x])) fun σ2 H2 => t ⟨Pv (i + 1), rt, nx, Pv (i + 1)⟩ σ2 H2) (hd : ∀ σ H, Pv xs.length σ H → nx σ H) : ForG (Ite K a) g t ⟨nx, rt, bk, ct⟩ σ H := by
  refine ⟨fun i m σ H => m = xs.length - i ∧ i ≤ xs.length ∧ Pv i σ H, ⟨xs.length, by simp, Nat.zero_le _, h0⟩, ?_⟩
  rintro i m σ H ⟨rfl, hi, p⟩
  have q := hl i σ H hi p
  by_cases hlt : i < xs.length
  · refine .inr ⟨⟨xs, xs[i], q, by simp [hlt]⟩, Pv (i + 1), fun σ' H' p' => ⟨xs.length - (i + 1), by omega, rfl, hlt, p'⟩, fun x H' y => ?_⟩
    obtain ⟨T, z, rfl, nT, rfl, hz⟩ := y
    exact hs i z σ H T (hz xs q) p nT
  · have e : i = xs.length := by omega
    subst e
    exact .inl ⟨⟨xs, q, Nat.le_refl _⟩, hd σ H p⟩
/-! == of equal data, of int lists -/
theorem dp_ints : ∀ ns : List Int, DpAll K H (ns.map V.int) (ns.map PyData.int)
  | [] => .nil
  | x :: r => .cons (.int x) (dp_ints r)
theorem lay_ints : ∀ ns : List Int, PyData.canLayAll0 (ns.map PyData.int) = true
  | [] => by simp only [List.map_nil, PyData.canLayAll0]
  | x :: r => by simp only [List.map_cons, PyData.canLayAll0, PyData.canLay0, lay_ints r, Bool.and_self]
theorem depth_ints : ∀ ns : List Int, PyData.depthAll (ns.map PyData.int) ≤ 1
  | [] => by simp [PyData.depthAll]
  | x :: r => by
    have := depth_ints r
    simp only [List.map_cons, PyData.depthAll, PyData.depth]
    omega
theorem shaped_ints (ns : List Int) : SeqAt.shaped (.list (ns.map PyData.int)) = true :=
  Bool.and_eq_true_iff.mpr ⟨by simp only [PyData.canLay0, lay_ints], decide_eq_true (by
    have h := depth_ints ns
    simp only [PyData.depth]
    omega)⟩
theorem eqv_ints : ∀ ns ms : List Int, PyData.eqvAll (ns.map PyData.int) (ms.map PyData.int) = decide (ns = ms)
  | [], [] => by simp [PyData.eqvAll]
  | [], y :: m => by simp [PyData.eqvAll]
  | x :: r, [] => by simp [PyData.eqvAll]
  | x :: r, y :: m => by
    have ih := eqv_ints r m
    simp only [List.map_cons, PyData.eqvAll, PyData.eqv, ih]
    by_cases h : x = y
    · subst h
      simp
    · simp [h]
theorem rd_eqLI {p q : Addr} {ns ms : List Int} (h1 : SqL K H p (ns.map V.int)) (h2 : SqL K H q (ms.map V.int)) (k : Q (.bl (decide (ns = ms))) H) : rEqD K (.ref p) (.ref q) H Q :=
  ⟨.list (ns.map PyData.int), .list (ms.map PyData.int), .lst h1 (dp_ints ns), .lst h2 (dp_ints ms), shaped_ints ns, shaped_ints ms, by
    simp only [PyData.eqv, eqv_ints]
    exact k⟩
theorem rd_neLI {p q : Addr} {ns ms : List Int} (h1 : SqL K H p (ns.map V.int)) (h2 : SqL K H q (ms.map V.int)) (k : Q (.bl (!decide (ns = ms))) H) : rNeD K (.ref p) (.ref q) H Q :=
  ⟨.list (ns.map PyData.int), .list (ms.map PyData.int), .lst h1 (dp_ints ns), .lst h2 (dp_ints ms), shaped_ints ns, shaped_ints ms, by
    simp only [PyData.eqv, eqv_ints]
    exact k⟩
end

/-! ### the same rules with the written part named (within comprehensions) -/
section
variable {X : L2.Cx} {K : PySem.W.Frag}
theorem call_listOfK (h : X.K = K) : CallR X (.type "list") (rListOf K) := h ▸ call_listOf
theorem call_lenSK (h : X.K = K) : CallR X (.builtin "len") (rLenS K) := h ▸ call_lenS
theorem ix_listK (h : X.K = K) : IxR X (rIxL K) := h ▸ ix_list
theorem ix_tupK (h : X.K = K) : IxR X (rIxT K) := h ▸ ix_tup
theorem op_in_seqK (h : X.K = K) : OpR X (compareOp .In) (rIn K false) := h ▸ op_in_seq
theorem op_notIn_seqK (h : X.K = K) : OpR X (compareOp .NotIn) (rIn K true) := h ▸ op_notIn_seq
theorem call_isiK2 (h : X.K = K) : CallR X (.builtin "isinstance") (rIsi K) := h ▸ call_isi
theorem pe_fldK {e : Expr} {f : Str} {pos : Pos} {ta : TE} (h : X.K = K) (he : PE X e ta) (hb : attributeBase e f X.env (eval e X.env) = eval e X.env) : PE X (.Attribute e f pos) (tFld K ta f) := h ▸ pe_fld he hb
end
end RD

/-! own layer: sorted(xs, key=f) where f's calls keep the invariant (behind RD) -/
namespace RD
open PySem PySem.Spec PyProof.Rows L2 PySem.W
section
variable {X : Cx} {pins pf : List (Addr × Obj)} {σ : L2.St} {H : Hp} {s : Shared}
/-- what a key's call does -/
def KeyTurn (X : Cx) (A : Around) (σ : L2.St) (H : Hp) (pf : List (Addr × Obj)) (f : Value) (xs : List V) (key : V → Int) : Prop :=
  ∀ (pl : List (Addr × Obj)) (s1 : Shared) (H1 : Hp) (v : V) (u : Value), Inv X (pf ++ pl) σ H1 s1 → Kp [] H H1 → v ∈ xs → RelV v u →
    wpAny (model X.prog X.w) A (call f [u]) (fun z s2 => ∃ H2 t, Inv X (pf ++ pl) σ H2 s2 ∧ Kp [] H1 H2 ∧ z = .int (key v) t) (fun _ _ => False) s1
/-- what stands of an address of ours, whatever runs -/
def Own (X : Cx) (pn : List (Addr × Obj)) (b : Addr) : Prop :=
  b ≠ X.env.locals ∧ b ∉ X.fs ∧ (b ∈ X.ex ∨ X.s_0.heap.objs.size ≤ b) ∧ (∀ x c, X.env.cells.lookup x = some c → c ≠ b) ∧ ∀ p ∈ X.pn ++ pn, p.1 ≠ b
theorem Own.fresh {b : Addr} (I : Inv X pins σ H s) (hb : s.heap.objs.size ≤ b) : Own X pins b := by
  have q := I.fpOk (H' := H) hb (I.hok.fresh hb)
  exact ⟨q.2.1, q.2.2.1, q.2.2.2.1, q.2.2.2.2.1, q.2.2.2.2.2⟩
theorem Own.less {pn pm : List (Addr × Obj)} {b : Addr} (o : Own X pn b) (h : ∀ p, p ∈ pm → p ∈ pn) : Own X pm b :=
  ⟨o.1, o.2.1, o.2.2.1, o.2.2.2.1, fun p hp => o.2.2.2.2 p ((List.mem_append.mp hp).elim (fun z => List.mem_append_left _ z) fun z => List.mem_append_right _ (h p z))⟩
theorem inv_pin {b : Addr} {o : Obj} {pn : List (Addr × Obj)} (I : Inv X (pf ++ pn) σ H s) (w : Own X (pf ++ pn) b) (hn : H b = none) (e : s.heap.get? b = some o) (hc : ∀ v, o.data ≠ .cell v) : Inv X (pf ++ ((b, o) :: pn)) σ H s :=
  I.pins_of fun p hp => by
    rcases List.mem_append.mp hp with z | z
    · exact I.pin p (List.mem_append_right _ (List.mem_append_left _ z))
    · rcases List.mem_cons.mp z with z | z
      · rw [z]
        exact ⟨e, hn, w.1, w.2.1, hc⟩
      · exact I.pin p (List.mem_append_right _ (List.mem_append_right _ z))
theorem inv_unpin {q : Addr × Obj} {pn : List (Addr × Obj)} (I : Inv X (pf ++ (q :: pn)) σ H s) : Inv X (pf ++ pn) σ H s :=
  I.pins_of fun p hp => by
    rcases List.mem_append.mp hp with z | z
    · exact I.pin p (List.mem_append_right _ (List.mem_append_left _ z))
    · exact I.pin p (List.mem_append_right _ (List.mem_append_right _ (List.mem_cons_of_mem _ z)))
theorem inv_head {q : Addr × Obj} {pn : List (Addr × Obj)} (I : Inv X (pf ++ (q :: pn)) σ H s) : s.heap.get? q.1 = some q.2 ∧ H q.1 = none :=
  have z := I.pin q (List.mem_append_right _ (List.mem_append_right _ (.head _)))
  ⟨z.1, z.2.1⟩
/-- the object at b turns -/
theorem inv_turn {b : Addr} {pn : List (Addr × Obj)} {h' : Heap} {t' : Nat} (I : Inv X pn σ H s) (w : Own X pn b) (hn : H b = none) (k : ∀ c o, c ≠ b → s.heap.get? c = some o → h'.get? c = some o) : Inv X pn σ H { s with heap := h', toks := t' } :=
  I.turned k hn w.1 w.2.2.1 w.2.2.2.1 w.2.2.2.2
theorem ints_snoc {vs : List Value} {ns : List Int} {n : Int} {t : Tok} (h : IntsAre vs ns) : IntsAre (vs ++ [.int n t]) (ns ++ [n]) := by
  induction h with
  | nil => exact .cons n t .nil
  | cons m u _ ih => exact .cons m u ih
theorem each_ints {h : Heap} {vs : List Value} {ns : List Int} (e : IntsAre vs ns) : EachIs (fun v d => ∃ as, Reads h v d as) vs (ns.map PyData.int) := by
  induction e with
  | nil => exact .nil
  | cons n t _ ih => exact .cons ⟨[], .int n t⟩ ih
theorem each_vals {xs : List V} {us : List Value} (r : Vals xs us) : EachIs (fun u v => RelV v u) us xs := by
  induction r with
  | nil => exact .nil
  | cons a _ ih => exact .cons a ih
theorem vals_each {xs : List V} {us : List Value} (r : EachIs (fun u v => RelV v u) us xs) : Vals xs us := by
  induction r with
  | nil => exact .nil
  | cons a _ ih => exact .cons a ih
/-- a heap without the object at b -/
def gone (h : Heap) (b : Addr) : Heap := h.update b fun _ => { cls := .none, data := .freed }
theorem gone_at {h : Heap} {b : Addr} {o : Obj} (e : h.get? b = some o) : (gone h b).get? b = none := by
  cases q : (gone h b).get? b with
  | none => rfl
  | some u =>
    exfalso
    obtain ⟨e1, _⟩ := Heap.get?_some_iff.mp e
    obtain ⟨e2, e3⟩ := Heap.get?_some_iff.mp q
    have e4 : (gone h b).objs[b]? = some { cls := .none, data := .freed } := by
      unfold gone
      rw [Heap.objs_update_self, e1]
      rfl
    rw [e4] at e2
    cases e2
    cases e3
theorem gone_ne {h : Heap} {b c : Addr} (n : c ≠ b) : (gone h b).get? c = h.get? c := (Heap.SameBut.update h b _).2 c n
theorem key_end {A : Around} {key : V → Int} {xs : List V} {vs : List Value} {a kS : Addr} {kA : Array Value} {e e1 : Nat} {P : PySem.Fin → Shared → Prop} {E : Value → Shared → Prop} (I : Inv X (pf ++ ((kS, seqObj "list" kA e) :: (a, seqObj "list" #[] e1) :: pins)) σ H s)
    (wk : Own X (pf ++ ((a, seqObj "list" #[] e1) :: pins)) kS) (wa : Own X (pf ++ pins) a) (r : Vals xs vs) (hZ : vs.length ≤ sizeLine) (hu : A.units < cLine) (hk : IntsAre kA.toList (xs.map key))
    (h : ∀ s' out c, Inv X (pf ++ pins) σ H s' → s'.heap.get? a = some (seqObj "list" (List.toArray out) c) → Vals (xs.mergeSort fun p q => decide (key p ≤ key q)) out → P (.done (.ret .none)) s') :
    wpAny (model X.prog X.w) A (ksk_end a false vs.toArray e1 (.ref kS) kA) P E s := by
  have nk := inv_head I
  have na := inv_head (inv_unpin I)
  have hka : kS ≠ a := Ne.symm (wk.2.2.2.2 (a, seqObj "list" #[] e1) (List.mem_append_right _ (List.mem_append_right _ (.head _))))
  have hl : kA.size = vs.length := by
    have h1 := hk.length
    rw [Array.length_toList, List.length_map] at h1
    rw [h1]
    exact r.length
  have hE := each_ints (h := s.heap) hk
  have hkz : (xs.map key).map PyData.int = xs.map (fun v => PyData.int (key v)) := by rw [List.map_map]; rfl
  have hal : AllAlike (xs.map fun v => PyData.int (key v)) := AllAlike.of fun _ _ => by simp [alike]
  have hsk : Sortable (xs.map fun v => PyData.int (key v)) := Sortable.others fun _ => ⟨(fun z => by cases z), (fun _ z => by cases z)⟩
  rw [hkz] at hE
  refine keyH_end (κ := dataKind s.heap (xs.map fun v => PyData.int (key v))) (h₁ := gone s.heap kS) (fun b o hb q => ?_) (gone_at nk.1) nk.1 na.1 hka (SortsAt.data hE hal hsk fun d hd => ?_) hl hZ fun h' tk c kp hc => ?_
  · by_cases hbk : b = kS
    · rw [hbk, gone_at nk.1] at q
      cases q
    · rw [gone_ne hbk] at q
      exact q
  · obtain ⟨v, _, e⟩ := List.mem_map.mp hd
    rw [← e]
    simpa [PyData.depth] using hu
  · have I1 : Inv X (pf ++ ((a, seqObj "list" #[] e1) :: pins)) σ H { s with heap := gone s.heap kS, toks := s.toks } := inv_turn (inv_unpin I) wk nk.2 fun b o hb q => by
      rw [gone_ne hb]
      exact q
    have I2 : Inv X (pf ++ pins) σ H { s with heap := h', toks := tk } := inv_turn (s := { s with heap := gone s.heap kS, toks := s.toks }) (inv_unpin I1) wa na.2 fun b o hb q => kp b o hb q
    have ko : KeyedOut false (xs.map fun v => PyData.int (key v)) vs (sortVals (dataKind s.heap (xs.map fun v => PyData.int (key v))) false kA.toList vs) := ⟨s.heap, kA.toList, hal, rfl, hE⟩
    have eo := keyedOut_each (fun v => PyData.int (key v)) ko (each_vals r)
    rw [dataLe_int key] at eo
    exact h _ _ c I2 hc (vals_each eo)
/-- the keys' loop -/
theorem key_rest {A : Around} {f : Value} {key : V → Int} {xs : List V} {vs : List Value} {a kS : Addr} {e1 : Nat} {P : PySem.Fin → Shared → Prop} {E : Value → Shared → Prop} (T : KeyTurn X A σ H pf f xs key)
    (I : Inv X (pf ++ ((kS, seqObj "list" #[] 0) :: (a, seqObj "list" #[] e1) :: pins)) σ H s) (wk : Own X (pf ++ ((a, seqObj "list" #[] e1) :: pins)) kS) (wa : Own X (pf ++ pins) a) (r : Vals xs vs) (hZ : vs.length ≤ sizeLine) (hu : A.units < cLine)
    (h : ∀ H' s' out c, Inv X (pf ++ pins) σ H' s' → Kp [] H H' → H' a = none → s'.heap.get? a = some (seqObj "list" (List.toArray out) c) → Vals (xs.mergeSort fun p q => decide (key p ≤ key q)) out → P (.done (.ret .none)) s') :
    wpAny (model X.prog X.w) A (ksk_rest a f false vs.toArray e1 (.ref kS)) P E s := by
  unfold ksk_rest
  refine wpAny_bind (wpAny_rule ?_)
  rw [List.forIn_toArray]
  refine wpAny_bind (ksk_fold (fun i s' => ∃ H1 kA e, Inv X (pf ++ ((kS, seqObj "list" kA e) :: (a, seqObj "list" #[] e1) :: pins)) σ H1 s' ∧ Kp [] H H1 ∧ IntsAre kA.toList ((xs.take i).map key)) vs 0 s ⟨H, #[], 0, I, Kp.refl, .nil⟩ ?step ?done)
  case step =>
    rintro j u s' hx ⟨H1, kA, e, I1, k1, hk⟩
    rw [Nat.zero_add] at hk ⊢
    obtain ⟨hj, _⟩ := List.getElem?_eq_some_iff.mp hx
    obtain ⟨v, hv⟩ : ∃ v, xs[j]? = some v := ⟨_, List.getElem?_eq_getElem (by rw [r.length]; exact hj)⟩
    obtain ⟨u', hu', rv⟩ := Vals.get r hv
    rw [hx] at hu'
    cases hu'
    have hz : kA.size ≤ vs.length := by
      have h1 := hk.length
      rw [Array.length_toList, List.length_map, List.length_take] at h1
      omega
    refine wpAny_bind (wpAny_attempt (wpAny_mono (T _ s' H1 v u I1 k1 (List.mem_of_getElem? hv) rv) (fun z s2 he => ?_) fun _ _ hF => hF.elim))
    obtain ⟨H2, t, I2, k2, rfl⟩ := he
    have nk := inv_head I2
    obtain ⟨c2, hc2⟩ : ∃ c2, (s2.heap.update kS (Obj.mapSeq (·.push (.int (key v) t)))).get? kS = some (seqObj "list" (kA.push (.int (key v) t)) c2) := ⟨_, get?_update_seq nk.1 (·.push (.int (key v) t))⟩
    refine wpAny_bind (listUpdate_at nk.1 rfl ?_ (Nat.le_trans hz hZ) (Nat.le_trans (Nat.le_of_eq (Array.size_push ..)) (Nat.succ_le_succ (Nat.le_trans hz hZ))))
    have I3 : Inv X (pf ++ ((a, seqObj "list" #[] e1) :: pins)) σ H2 { s2 with heap := s2.heap.update kS (Obj.mapSeq (·.push (.int (key v) t))), toks := s2.toks } :=
      inv_turn (inv_unpin I2) wk nk.2 fun b o hb q => ((Heap.SameBut.update s2.heap kS _).2 b hb).trans q
    refine wpAny_pure ⟨rfl, H2, kA.push (.int (key v) t), c2, inv_pin I3 wk nk.2 hc2 (fun _ z => by cases z), k1.trans k2, ?_⟩
    rw [Array.toList_push, List.take_add_one, hv, List.map_append]
    exact ints_snoc hk
  case done =>
    rintro s' ⟨H1, kA, e, I1, k1, hk⟩
    rw [Nat.zero_add, ← r.length, List.take_length] at hk
    refine wpAny_bind (listItems_at (inv_head I1).1 rfl ?_)
    exact key_end (key := key) I1 wk wa r hZ hu hk fun s2 out c I2 hc ho => h H1 s2 out c I2 k1 (inv_head (inv_unpin I1)).2 hc ho
/-- xs.sort(key=f) of a list that nobody knows -/
theorem key_tree {A : Around} {f : Value} {key : V → Int} {xs : List V} {vs : List Value} {a : Addr} {n : Nat} {P : PySem.Fin → Shared → Prop} {E : Value → Shared → Prop} (T : KeyTurn X A σ H pf f xs key)
    (I : Inv X (pf ++ pins) σ H s) (wa : Own X (pf ++ pins) a) (na : H a = none) (ho : s.heap.get? a = some (seqObj "list" vs.toArray n)) (r : Vals xs vs) (hZ : vs.length ≤ sizeLine) (hu : A.units < cLine)
    (h : ∀ H' s' out c, Inv X (pf ++ pins) σ H' s' → Kp [] H H' → H' a = none → s'.heap.get? a = some (seqObj "list" (List.toArray out) c) → Vals (xs.mergeSort fun p q => decide (key p ≤ key q)) out → P (.done (.ret .none)) s') :
    wpAny (model X.prog X.w) A (ksk_tree a f false) P E s := by
  obtain ⟨e1, ho1⟩ : ∃ e1, (s.heap.update a (Obj.mapSeq fun _ => (#[] : Array Value))).get? a = some (seqObj "list" #[] e1) := ⟨_, get?_update_seq ho fun _ => #[]⟩
  have I1 : Inv X (pf ++ pins) σ H { s with heap := s.heap.update a (Obj.mapSeq fun _ => (#[] : Array Value)), toks := s.toks } := inv_turn I wa na fun b o hb q => ((Heap.SameBut.update s.heap a _).2 b hb).trans q
  have I2 := inv_pin I1 wa na ho1 (fun _ z => by cases z)
  have I3 : Inv X (pf ++ ((a, seqObj "list" #[] e1) :: pins)) σ H { s with heap := (s.heap.update a (Obj.mapSeq fun _ => (#[] : Array Value))).push (seqObj "tuple" vs.toArray 0), toks := s.toks } := I2.kept fun b o q => Heap.get?_push_of_some _ q
  have wk := Own.fresh I3 (Nat.le_refl _)
  have nk := I3.hok.fresh (Nat.le_refl _)
  have I4 : Inv X (pf ++ ((a, seqObj "list" #[] e1) :: pins)) σ H { s with heap := ((s.heap.update a (Obj.mapSeq fun _ => (#[] : Array Value))).push (seqObj "tuple" vs.toArray 0)).push (seqObj "list" #[] 0), toks := s.toks } := I3.kept fun b o q => Heap.get?_push_of_some _ q
  unfold ksk_tree
  refine wpAny_bind (listItems_at ho rfl ?_)
  refine wpAny_bind (listUpdate_at ho rfl ?_ (by rw [List.size_toArray]; exact hZ) (Nat.zero_le _))
  refine wpAny_bind (seqEpoch_at ho1 rfl ?_)
  refine wpAny_bind (wpAny_newTuple ?_ (by show vs.length ≤ _; exact hZ))
  refine wpAny_bind (wpAny_newList ?_ (Nat.zero_le _))
  refine wpAny_holding ?_
  exact key_rest T (inv_pin I4 wk nk (Heap.get?_push_size _ rfl) (fun _ z => by cases z)) wk wa r hZ hu h
/-- an object of ours becomes known -/
theorem inv_track {a : Addr} {o : HO} {pn : List (Addr × Obj)} (I : Inv X pn σ H s) (w : Own X pn a) (hn : H a = none) (ok : ObjOk X.prog X.w (upd H a o) s.heap a o) : Inv X pn σ (upd H a o) s := by
  have ne : ∀ b u, H b = some u → b ≠ a := fun b u e z => by
    rw [z, hn] at e
    cases e
  have up : ∀ b u, H b = some u → upd H a o b = some u := fun b u e => by rw [upd_ne (ne b u e)]; exact e
  exact I.step (h' := s.heap) (g' := s.gens) (d' := s.drawn) (t' := s.toks) (ch := [a]) (fun b hb => by
      rw [List.mem_singleton.mp hb]
      exact ⟨w.2.2.1, w.1, w.2.2.2.1, w.2.2.2.2⟩)
    (fun b u _ _ _ e _ => e) (fun b u _ _ _ e _ => ⟨u.slots, e⟩) (fun b u hb _ n => by
      rw [upd_ne (fun z => hb (List.mem_singleton.mpr z))]
      exact n)
    (fun b u _ e => ⟨u, e⟩) (fun b xs e => up b _ e) (fun b u v e => up b _ e) (fun b ps e => ⟨#[], by rw [up b _ e]; simp⟩) (fun m hm => hm)
    (fun b u e => by
      by_cases hb : b = a
      · rw [hb, upd_same] at e
        cases e
        rw [hb]
        exact ok
      · rw [upd_ne hb] at e
        exact (I.hok b u e).stay (fun c v _ q => q) (fun c q => up c _ q) fun c xs q => up c _ q) I.bare
/-- sorted(xs, key=f) -/
theorem sorted_key {f : Addr} {key : V → Int} {xs : List V} {l : Addr} {Q : VK} (T : KeyTurn X X.A.in1.in1 σ H pf (.ref f) xs key) (I : Inv X (pf ++ pins) σ H s) (hs : SqL X.K H l xs) (hu : X.A.units + 2 < cLine)
    (h : ∀ H' p, Kp [] H H' → H' p = none → Q (.ref p) (upd H' p (.lst (xs.mergeSort fun a b => decide (key a ≤ key b))))) :
    wpAny (model X.prog X.w) X.A (call (.builtin "sorted") [.ref l] [(Str.ofString "key", .ref f)]) (EP X (pf ++ pins) σ Q) X.xe s := by
  obtain ⟨its, rv, hl, hz⟩ := I.list hs
  have wa := Own.fresh I (b := s.heap.objs.size + 1) (Nat.le_succ _)
  have na : H (s.heap.objs.size + 1) = none := I.hok.fresh (Nat.le_succ _)
  refine sorted_of_sort hl.isList (by rw [← rv.length]; exact hz) (ksk_s1 _ _) (fun _ => ksk_l1 _ _) fun E' => ?_
  rw [ksk_t1]
  have I1 : Inv X (pf ++ pins) σ H { s with heap := copyHeap s.heap its, toks := s.toks } := I.kept fun b o q => copyHeap_old q
  refine key_tree (s := { s with heap := copyHeap s.heap its }) T I1 wa na (copyHeap_at s.heap its) rv (by rw [← rv.length]; exact hz) hu fun H' s' out c I2 k2 n2 hc ro => ⟨rfl, ?_⟩
  have hlen : (xs.mergeSort fun a b => decide (key a ≤ key b)).length ≤ sizeLine := by
    rw [List.length_mergeSort]
    exact hz
  exact ⟨.ref _, _, inv_track (o := .lst (xs.mergeSort fun a b => decide (key a ≤ key b))) I2 wa n2 ⟨hlen, out, c, ro, hc⟩, rfl, h H' _ k2 n2⟩
end
/-! ### a lambda with one parameter -/
structure Lam1 (sc scope : Scope) (p : Str) : Prop where
  kind : scope.kind = .function
  co : scope.isCoroutine = false
  gen : scope.isGenerator = false
  own : ∀ y ∈ scope.names, y.2 ≠ .cell
  par : scope.names.lookup p = some .local
  loc : ∀ {y}, y ≠ p → scope.names.lookup y ≠ some .local
  free : ∀ y ∈ scope.names, y.2 = .free → sc.names.lookup y.1 = some .cell ∨ sc.names.lookup y.1 = some .free
def lam1B (sc scope : Scope) (p : Str) : Bool :=
  decide (scope.kind = .function) && !scope.isCoroutine && !scope.isGenerator && decide (scope.names.lookup p = some .local) && scope.names.all fun y => !decide (y.2 = .cell) && (!decide (y.2 = .local) || decide (y.1 = p)) && (!decide (y.2 = .free) || decide (sc.names.lookup y.1 = some .cell) || decide (sc.names.lookup y.1 = some .free))
theorem lam1_by {sc scope : Scope} {p : Str} (h : lam1B sc scope p = true) : Lam1 sc scope p := by
  unfold lam1B at h
  simp only [Bool.and_eq_true, Bool.or_eq_true, Bool.not_eq_true', decide_eq_true_eq, decide_eq_false_iff_not, List.all_eq_true] at h
  obtain ⟨⟨⟨⟨h1, h2⟩, h3⟩, h5⟩, h4⟩ := h
  refine ⟨h1, h2, h3, fun y hy => (h4 y hy).1.1, h5, fun {y} n e => ?_, fun y hy e => ?_⟩
  · rcases (h4 _ (PySem.mem_of_lookup e)).1.2 with z | z
    · exact z rfl
    · exact n z
  rcases (h4 y hy).2 with (z | z) | z
  · exact absurd e z
  · exact .inl z
  · exact .inr z
theorem Lam1.has {X : Cx} {scope : Scope} {p : Str} (L : Lam1 X.env.scope scope p) (ok : X.Ok) : ∀ y ∈ scope.names, y.2 = .free → ∃ c, X.env.cells.lookup y.1 = some c := fun y hy e => by
  rcases L.free y hy e with k | k
  · exact ok.has _ (.inl k)
  · exact ok.has _ (.inr k)
/-- the context of the lambda's body -/
def lam1Cx (X : Cx) (A : Around) (s : Shared) (H : Hp) (N : List Str) (scope : Scope) (f c' : Addr) : Cx where
  prog := X.prog
  w := X.w
  K := X.K
  mg := X.mg
  base := X.base
  A := A.deeper (LamX.lamEnv X scope s.heap.objs.size f c')
  N := N
  s_0 := s
  H_0 := H
  env := LamX.lamEnv X scope s.heap.objs.size f c'
  outer := X.stack
  stack := LamX.lamEnv X scope s.heap.objs.size f c' :: X.stack
  ex := []
  fn := fun _ => false
  calm := true
  pn := []
  xe := fun _ _ => False
section
variable {X : Cx} {pins : List (Addr × Obj)} {σ σ' : L2.St} {H : Hp} {s : Shared}
/-- each name of the body that has a value: the parameter, or a name of the maker -/
def Caps (X : Cx) (σ : L2.St) (N : List Str) (σ' : L2.St) (p : Str) (v : V) : Prop :=
  σ'.length = N.length ∧ ∀ (i : Nat) (y : Str) (x : V), N[i]? = some y → σ'[i]? = some (some x) → (y = p ∧ x = v) ∨ (y ≠ p ∧ ∃ j : Nat, X.N[j]? = some y ∧ σ[j]? = some (some x))
theorem lam1_start {A : Around} {N : List Str} {scope : Scope} {p : Str} {v : V} {u : Value} {f c' : Addr} {h₁ : Heap} {tk : Nat} (I : Inv X pins σ H s) (L : Lam1 X.env.scope scope p) (hfr : A.frames = some X.stack) (hd : A.handled = none) (C : Caps X σ N σ' p v) (r : RelV v u)
    (hns : h₁.Ns s.heap.objs.size fun y => [(p, u)].reverse.lookup y) (kp : ∀ b o, s.heap.get? b = some o → h₁.get? b = some o) :
    Inv (lam1Cx X A s H N scope f c') [] σ' H { s with heap := h₁, toks := tk } := by
  have e0 := I.env0
  have hfree := L.has I.ok
  have cm : ∀ {y c}, (cloFrom X.env.cells scope.names []).lookup y = some c → X.env.cells.lookup y = some c := fun {y c} e => by
    rcases cloFrom_mem (PySem.mem_of_lookup e) with hm | ⟨h1, h2⟩
    · cases hm
    · obtain ⟨c1, hc⟩ := hfree _ h1 rfl
      have hc : X.env.cells.lookup y = some c1 := hc
      have e2 : c = c1 := by rw [h2, hc] <;> rfl
      rw [e2]
      exact hc
  have look : ∀ {y}, scope.names.lookup y = some .free → ∃ c, (cloFrom X.env.cells scope.names []).lookup y = some c := fun {y} hl =>
    mem_lookup (cloFrom_has (cells := X.env.cells) (acc := []) (PySem.mem_of_lookup hl))
  have cellK : ∀ {c : Addr} {z : Option Value}, s.heap.IsCell c z → h₁.IsCell c z := fun {c z} ⟨o, ho, hd⟩ => ⟨o, kp _ _ ho, hd⟩
  have noA : ∀ b : Addr, b ∉ (lam1Cx X A s H N scope f c').ex := fun b z => by cases z
  constructor
  case ok =>
    constructor
    case mod => exact e0.mod
    case kind => exact L.kind
    case glob => exact rfl
    case blt => exact rfl
    case above => exact Nat.le_refl _
    case inj => exact fun y z c e1 e2 => I.ok.inj y z c (cm e1) (cm e2)
    case has =>
      intro y hy
      have hy : scope.names.lookup y = some .cell ∨ scope.names.lookup y = some .free := hy
      rcases hy with hy | hy
      · exact absurd rfl (L.own _ (PySem.mem_of_lookup hy))
      · exact look hy
    case cab =>
      intro y c z _
      have z : false = true := z
      cases z
    case hd => exact fun _ => hd
    case frames => exact Around.frames_deeper hfr
    case stk => exact .inr ⟨rfl, rfl⟩
    case exf => exact fun b z => absurd z (noA b)
    case bs => exact e0.bs
    case bsz => exact e0.bsz
    case noex => exact fun b _ _ => noA b
    case exfs => exact fun b z => absurd z (noA b)
    case funs => exact e0.funs
    case frf => exact e0.frf
  case os => exact rfl
  case bare => exact e0.bare
  case base => exact Un.kept kp
  case loc =>
    refine ⟨_, hns, fun i y x e1 e2 e3 => ?_⟩
    rcases C.2 i y x e1 e2 with ⟨ey, ex⟩ | ⟨ny, j, j1, j2⟩
    · rw [ey, ex]
      exact ⟨u, r, .inl ⟨L.par, by simp⟩⟩
    · have e3 : Vis scope y := e3
      rcases e3 with k | k | k
      · exact absurd k (L.loc ny)
      · exact absurd rfl (L.own _ (PySem.mem_of_lookup k))
      · obtain ⟨m, hn, hl⟩ := I.loc
        have hvis : Vis X.env.scope y := (L.free _ (PySem.mem_of_lookup k) rfl).elim (fun k => .inr (.inl k)) (fun k => .inr (.inr k))
        obtain ⟨w', r', q⟩ := hl j y x j1 j2 hvis
        obtain ⟨c2, h2⟩ := look k
        refine ⟨w', r', .inr ⟨.inr k, c2, h2, ?_⟩⟩
        have c1 := cm h2
        rcases q with ⟨k', _⟩ | ⟨_, c3, e', z⟩
        · have k' : X.env.scope.names.lookup y = some .local := k'
          rcases L.free _ (PySem.mem_of_lookup k) rfl with k2 | k2 <;> rw [show X.env.scope.names.lookup y = _ from k2] at k' <;> cases k'
        · rw [c1] at e'
          cases e'
          exact cellK z
  case cell =>
    intro y c e
    obtain ⟨w', z⟩ := I.cell y c (cm e)
    exact ⟨w', cellK z⟩
  case free => exact e0.hok.fresh (Nat.le_refl _)
  case freeC => exact fun y c e => I.freeC y c (cm e)
  case pin => exact fun q hq => absurd (show q ∈ ([] : List (Addr × Obj)) ++ [] from hq) (by simp)
  case hok => exact e0.hok.kept kp
  case len => exact C.1
/-- the lambda as a key -/
theorem lam1_turn {A : Around} {k : Nat} {N : List Str} {scope : Scope} {p : Str} {f c' : Addr} {params : Arguments} {body : Expr} {pm ctv : Value} {xs : List V} {key : V → Int} {τ : V → L2.St} (L : Lam1 X.env.scope scope p) (hc : H c' = some (LamX.CodeO c' (X.env.qual ++ "<lambda>")))
    (hA : A.frames = some X.stack) (hr : Room (k + 1) A) (hbind : ∀ u, bindArgs (PySem.W.kla_fn "<lambda>" (X.env.qual ++ "<lambda>") params body scope (cloFrom X.env.cells scope.names []) pm (.ref c') ctv) ⟨[u], []⟩ = pure [(p, u)])
    (hC : ∀ v, v ∈ xs → Caps X σ N (τ v) p v)
    (hbody : ∀ (s : Shared) (H1 : Hp) (v : V), v ∈ xs → Kp [] H H1 → Room k (A.deeper (LamX.lamEnv X scope s.heap.objs.size f c')) → ∃ tb, PE (lam1Cx X A s H1 N scope f c') body tb ∧ tb (τ v) H1 fun x H2 => x = .int (key v) ∧ Kp [] H1 H2) :
    KeyTurn X A σ H [(f, PySem.W.kla_obj "<lambda>" (X.env.qual ++ "<lambda>") params body scope (cloFrom X.env.cells scope.names []) pm c' ctv)] (.ref f) xs key := by
  intro pl s1 H1 v u I1 k1 hv r
  have hf := (I1.pin _ (List.mem_append_right _ (List.mem_append_left _ (.head _)))).1
  obtain ⟨⟨oc, vs, t, hoc, hdc, hvc⟩, _, _⟩ := I1.hok c' _ (k1.g0 hc)
  have rc : codeAny (model X.prog X.w) A (.call (.ref f) ⟨[u], []⟩) (fun r s' => ∃ z, r = .ok (.ret z) ∧ CE X.stack X.prog X.w H1 s1 (fun x H2 => x = .int (key v) ∧ Kp [] H1 H2) z s') s1 := by
    refine PySem.W.kla_callFunE hr.depth hf rfl L.co L.gen rfl ⟨c', oc, vs, t, rfl, hoc, hdc, hvc⟩ ?_
    rw [hbind]
    refine wpAny_pure (wpAny_newFunctionEnv (fun y hy => L.own y hy) (fun y hy => ?_) (fun h₁ hns hsb => ⟨I1.nolimit.fresh _ hsb, ?_⟩) L.kind)
    · rw [List.mem_singleton.mp hy]
      exact L.par
    show codeAny _ _ (.expr body (LamX.lamEnv X scope s1.heap.objs.size f c')) _ _
    have kp : ∀ b o, s1.heap.get? b = some o → h₁.get? b = some o := fun b o e => hsb.extBut b o (Nat.ne_of_lt (Heap.lt_size e)) (Heap.get?_push_of_some _ e)
    have J : Inv (lam1Cx X A s1 H1 N scope f c') [] (τ v) H1 { s1 with heap := h₁, toks := s1.toks + [(p, u)].length } := lam1_start I1 L hA hr.hd (hC v hv) r hns kp
    obtain ⟨tb, hp, ht⟩ := hbody s1 H1 v hv k1 (hr.deeper _)
    refine PySem.W.kla_codeExpr (wpAny_mono (hp.run [] _ _ _ _ J ht) (fun z s' hq => ?_) fun e s' hq => (show False from hq).elim)
    obtain ⟨w', H', J', rv, q⟩ := hq
    exact ⟨z, rfl, w', H', J'.os, J'.bare, J'.base, J'.hok, rv, q⟩
  refine wpAny_call (codeAny_mono rc fun r s' hq => ?_)
  obtain ⟨z, rfl, ce⟩ := hq
  obtain ⟨x, H2, I2, rx, ex, k2⟩ := I1.after ce
  rw [ex] at rx
  obtain ⟨t', e⟩ := rx
  exact ⟨H2, t', I2, k2, e⟩
/-- a made function is pinned -/
theorem fn_pin {f : Addr} {o : Obj} {fd : FuncData} (I : Inv X pins σ H s) (hf : s.heap.get? f = some o) (hd : o.data = .func fd) (hn : H f = none) (hfr : f ∉ frs X.stack) : Inv X ([(f, o)] ++ pins) σ H s :=
  I.pins_of fun p hp => by
    rcases List.mem_append.mp hp with z | z
    · rw [List.mem_singleton.mp z]
      refine ⟨hf, hn, fun e => ?_, fun e => ?_, fun v e => ?_⟩
      · obtain ⟨m, ⟨ol, es, ep, ho, hdl, _⟩, _⟩ := I.loc
        have e : f = X.env.locals := e
        rw [← e, hf] at ho
        cases ho
        rw [hd] at hdl
        cases hdl
      · rcases I.ok.stk with k | ⟨k, _⟩
        · exact hfr (by rw [k]; exact e)
        · refine hfr ?_
          rw [k]
          unfold frs
          rw [List.filterMap_cons]
          have e : f ∈ frs X.outer := e
          unfold frs at e
          split
          · exact e
          · exact List.mem_cons_of_mem _ e
      · have e : o.data = .cell v := e
        rw [hd] at e
        cases e
    · exact I.pin p (List.mem_append_right _ z)
theorem ep_less {q : Addr × Obj} {Q : VK} {u : Value} {s' : Shared} (h : EP X ([q] ++ pins) σ Q u s') : EP X pins σ Q u s' := by
  obtain ⟨v, H', I, r, h⟩ := h
  exact ⟨v, H', I.pins_of fun p hp => I.pin p (List.mem_append_right _ (List.mem_append_right _ hp)), r, h⟩
/-- the names of the body, told by the maker's -/
def CapsN (N0 : List Str) (σ : L2.St) (N : List Str) (σ' : L2.St) (p : Str) (v : V) : Prop :=
  σ'.length = N.length ∧ ∀ (i : Nat) (y : Str) (x : V), N[i]? = some y → σ'[i]? = some (some x) → (y = p ∧ x = v) ∨ (y ≠ p ∧ ∃ j : Nat, N0[j]? = some y ∧ σ[j]? = some (some x))
theorem sq_ext {K : PySem.W.Frag} {H H' : Hp} {l : Addr} {xs : List V} (e : LamX.ExtN H H') (h : SqL K H l xs) : SqL K H' l xs := by
  rcases h with (h | ⟨o, h⟩) | h
  · exact .inl (.inl (e _ _ h fun ps z => by cases z))
  · exact .inl (.inr ⟨o, e _ _ h fun ps z => by cases z⟩)
  · exact .inr h
/-- sorted(e, key=lambda p: body) -/
def tSortKey (K : PySem.W.Frag) (T : List (Addr × Str)) (N0 N : List Str) (p : Str) (t : TA) (tb : TE) : TE := fun σ H Q => t σ H fun vs H1 => ∃ (l : Addr) (xs : List V) (key : V → Int) (τ : V → L2.St), vs = [.ref l] ∧ SqL K H1 l xs ∧ LamX.Tabs T H1 ∧
  (∀ v, v ∈ xs → CapsN N0 σ N (τ v) p v) ∧ ∀ H2, LamX.ExtN H1 H2 → LamX.Tabs T H2 → (∀ (H3 : Hp) (v : V), v ∈ xs → Kp [] H2 H3 → tb (τ v) H3 fun x H4 => x = .int (key v) ∧ Kp [] H3 H4) ∧
    ∀ (H3 : Hp) (q : Addr), Kp [] H2 H3 → H3 q = none → Q (.ref q) (upd H3 q (.lst (xs.mergeSort fun a b => decide (key a ≤ key b))))
theorem pe_sortKey {T : List (Addr × Str)} {N : List Str} {k : Nat} {c P : Addr} {scope : Scope} {p : Str} {params : Arguments} {e body : Expr} {t : TA} {tb : TE} {p1 kpos lpos pos : Pos} (hg : Gl X "sorted") (hm : X.mg "sorted" = none) (ha : PA X [e] t)
    (TB : LamX.TabB X.base X.mg c P) (hcode : X.env.code = .ref c) (hmT : (P, X.env.qual ++ "<lambda>") ∈ T) (huT : ∀ p ∈ T, p.1 = P → p.2 = X.env.qual ++ "<lambda>") (hr : Room (k + 3) X.A) (L : Lam1 X.env.scope scope p) (hdef : defaultsOf params X.env = ([], []))
    (hbind : ∀ (q : Str) (cl : List (Str × Addr)) (pm cv ctv u : Value), bindArgs (PySem.W.kla_fn "<lambda>" q params body scope cl pm cv ctv) ⟨[u], []⟩ = pure [(p, u)])
    (hbody : ∀ (s : Shared) (H : Hp) (f c' : Addr), Room k (X.A.in1.in1.deeper (LamX.lamEnv X scope s.heap.objs.size f c')) → PE (lam1Cx X X.A.in1.in1 s H N scope f c') body tb)
    (he : backTo pos (starEach [e] X.env) = (false, eval e X.env) :: backTo pos (starEach [] X.env) := by rfl) (hpl : (backTo pos (starEach [e] X.env)).any (·.1) = false := by rfl) :
    PE X (.Call (.Name "sorted" p1) [e] [⟨some "key", .Lambda params body scope lpos, kpos⟩] pos) (tSortKey X.K T X.N N p t tb) := by
  refine ⟨fun pins s σ H Q I h => ?_⟩
  refine wpAny_Call_Name_kw (ld_blt I hg hm (show bootBuiltins "sorted" = some (.builtin "sorted") by rfl) ?_ (by decide) (by decide))
  refine PyProof.Rows.callWith_kw (thn (ha.run pos pins s σ H _ I h) fun us s1 ⟨vs, H1, I1, r1, q1⟩ => ?_) he hpl rfl rfl
  obtain ⟨l, xs, key, τ, rfl, hs, hT, hC, q⟩ := q1
  obtain rfl := Vals.ref1 r1
  show wpAny _ _ (evalAll ((do let v ← eval (.Lambda params body scope lpos) X.env; standAt pos; pure v) :: [])) _ _ s1
  refine wpAny_evalAll_cons (wpAny_bind (LamX.lam_make2 I1 TB hcode hmT huT hT hdef (L.has I1.ok) fun f c' pm ctv H2 s2 I2 eN T2 hf hfn hfr hco => wpAny_bind (wpAny_standAt (wpAny_pure (wpAny_evalAll_nil ?_)))))
  obtain ⟨hb, hq⟩ := q H2 eN T2
  show wpAny _ _ (call (.builtin "sorted") [.ref l] [(Str.ofString "key", .ref f)]) _ _ s2
  refine wpAny_mono (sorted_key (lam1_turn L hco I2.ok.frames hr.in1.in1 (fun u => hbind _ _ _ _ _ u) hC fun s H3 v hv k3 hr3 => ⟨tb, hbody s H3 f c' hr3, hb H3 v hv k3⟩) (fn_pin I2 hf rfl hfn hfr) (sq_ext eN hs) (by have := hr.units; omega) hq) (fun u s' h => ep_less h) fun _ _ h => h
end
end RD
namespace RD
open PySem PySem.Spec PyProof.Rows L2 PySem.W
section
variable {X : Cx} {pins pf : List (Addr × Obj)} {σ : L2.St} {H : Hp} {s : Shared}
theorem Own.cons {pn : List (Addr × Obj)} {q : Addr × Obj} {b : Addr} (w : Own X (pf ++ pn) b) (n : q.1 ≠ b) : Own X (pf ++ (q :: pn)) b :=
  ⟨w.1, w.2.1, w.2.2.1, w.2.2.2.1, fun p hp => by
    rcases List.mem_append.mp hp with z | z
    · exact w.2.2.2.2 p (List.mem_append_left _ z)
    · rcases List.mem_append.mp z with z | z
      · exact w.2.2.2.2 p (List.mem_append_right _ (List.mem_append_left _ z))
      · rcases List.mem_cons.mp z with z | z
        · rw [z]
          exact n
        · exact w.2.2.2.2 p (List.mem_append_right _ (List.mem_append_right _ z))⟩
/-- the first of the least -/
def Least (xs : List V) (key : V → Int) (i : Nat) (b : V) : Prop := xs[i]? = some b ∧ ∀ (j : Nat) (z : V), xs[j]? = some z → key b ≤ key z ∧ (j < i → key b < key z)
theorem min_loop {A : Around} {f : Addr} {key : V → Int} {xs : List V} {l Ia S : Addr} {kw : List (Str × Value)} {R : Result → Shared → Prop} (hh : A.handled = none) (T : KeyTurn X A.in1 σ H pf (.ref f) xs key) (hs : SqL X.K H l xs) (hlI : l ≠ Ia) (hSI : S ≠ Ia)
    (wS : Own X (pf ++ pins) S) (wI : Own X (pf ++ pins) Ia)
    (hR : ∀ H2 s2 i b vb, Inv X (pf ++ pins) σ H2 s2 → Kp [] H H2 → Least xs key i b → RelV b vb → R (.ok (.ret vb)) s2) :
    ∀ (r j i : Nat) (s1 : Shared) (H1 : Hp) (b : V) (vb : Value) (tb : Tok) (c : Nat) (oI : Obj), xs.length - (j + 1) = r → j + 1 ≤ xs.length → Inv X (pf ++ ((S, seqObj "list" #[vb, .int (key b) tb] c) :: (Ia, oI) :: pins)) σ H1 s1 → Kp [] H H1 → s1.heap.IsListIter Ia l (j + 1) →
      xs[i]? = some b → RelV b vb → i ≤ j → (∀ (j' : Nat) (z : V), j' ≤ j → xs[j']? = some z → key b ≤ key z ∧ (j' < i → key b < key z)) →
      codeAny (model X.prog X.w) A (.builtin "min.loop" ⟨[.ref Ia, .ref f, .ref S], kw⟩) R s1 := by
  have hname : (toString "min" ++ toString ".loop" : String) = "min.loop" := by decide
  intro r
  induction r with
  | zero =>
    intro j i s1 H1 b vb tb c oI hr hj I1 k1 hit hb rb hij hbest
    have hin : j + 1 = xs.length := by omega
    have nS := inv_head I1
    have nI := inv_head (inv_unpin I1)
    obtain ⟨its, rv, hl, hz⟩ := I1.list (sl_kp k1 (by simp) hs)
    have W := Walks.list (prog := X.prog) (w := X.w) (A := A.in1) hh Ia l hlI its.toArray
    have hsz : its.toArray.size = xs.length := by rw [List.size_toArray, rv.length]
    refine codeAny_builtin (id := "min.loop") PySem.F.entry_min_loop ?_
    rw [Around.under_plainId PySem.F.plain_min_loop _]
    show wpAny (model X.prog X.w) A.in1 (seqItems? (.ref S) >>= _) _ _ _
    refine wpAny_bind (wpAny_seqItems (s := s1) nS.1 rfl ?_)
    show wpAny (model X.prog X.w) A.in1 (tryCatch (pyNext (.ref Ia)) _ >>= _) _ _ _
    refine wpAny_bind (wpAny_tryCatch (W.done s1 _ _ ⟨by rw [hsz, ← hin]; exact hit, hl.isList⟩ fun h' tk' hk' => ?_))
    have hS' := hk' S _ (by simpa using hSI) nS.1
    have I2 : Inv X (pf ++ ((S, seqObj "list" #[vb, .int (key b) tb] c) :: pins)) σ H1 { s1 with heap := h', toks := tk' } :=
      inv_pin (inv_turn (inv_unpin (inv_unpin I1)) wI nI.2 fun a o ha q => hk' a o (by simpa using ha) q) wS nS.2 hS' (fun _ z => by cases z)
    have I3 : Inv X (pf ++ pins) σ H1 { s1 with heap := h'.update S (Obj.mapSeq fun _ => (#[] : Array Value)), toks := tk' } :=
      inv_turn (s := { s1 with heap := h', toks := tk' }) (inv_unpin I2) wS nS.2 fun a o ha q => ((Heap.SameBut.update h' S _).2 a ha).trans q
    show wpAny (model X.prog X.w) A.in1 (updateSeq S (fun _ => #[]) >>= _) _ _ _
    refine wpAny_bind (wpAny_updateSeq hS' rfl (wpAny_bind (wpAny_letGo (wpAny_pure ?_))))
    exact hR H1 _ i b vb I3 k1 ⟨hb, fun j' z hz' => hbest j' z (by have := (List.getElem?_eq_some_iff.mp hz').1; omega) hz'⟩ rb
  | succ r ih =>
    intro j i s1 H1 b vb tb c oI hr hj I1 k1 hit hb rb hij hbest
    have hlt : j + 1 < xs.length := by omega
    have nS := inv_head I1
    have nI := inv_head (inv_unpin I1)
    obtain ⟨its, rv, hl, hz⟩ := I1.list (sl_kp k1 (by simp) hs)
    have W := Walks.list (prog := X.prog) (w := X.w) (A := A.in1) hh Ia l hlI its.toArray
    have hsz : its.toArray.size = xs.length := by rw [List.size_toArray, rv.length]
    refine codeAny_builtin (id := "min.loop") PySem.F.entry_min_loop ?_
    rw [Around.under_plainId PySem.F.plain_min_loop _]
    show wpAny (model X.prog X.w) A.in1 (seqItems? (.ref S) >>= _) _ _ _
    refine wpAny_bind (wpAny_seqItems (s := s1) nS.1 rfl ?_)
    show wpAny (model X.prog X.w) A.in1 (tryCatch (pyNext (.ref Ia)) _ >>= _) _ _ _
    refine wpAny_bind (wpAny_tryCatch (W.item (j + 1) s1 _ _ (by rw [hsz]; exact hlt) ⟨hit, hl.isList⟩ fun u h' tk' hP hst' hk' => ?_))
    have hu : its[j + 1]? = some u := by simpa using hP
    obtain ⟨x, hx⟩ : ∃ x, xs[j + 1]? = some x := ⟨_, List.getElem?_eq_getElem hlt⟩
    obtain ⟨u', hu', rx⟩ := Vals.get rv hx
    rw [hu] at hu'
    cases hu'
    obtain ⟨oI', hoI', hoc, hod⟩ := id hst'.1
    have hS' := hk' S _ (by simpa using hSI) nS.1
    have I2 : Inv X (pf ++ ((S, seqObj "list" #[vb, .int (key b) tb] c) :: (Ia, oI') :: pins)) σ H1 { s1 with heap := h', toks := tk' } :=
      inv_pin (inv_pin (inv_turn (inv_unpin (inv_unpin I1)) wI nI.2 fun a o ha q => hk' a o (by simpa using ha) q) wI nI.2 hoI' (fun v z => by rw [hod] at z; cases z)) (wS.cons hSI.symm) nS.2 hS' (fun _ z => by cases z)
    show wpAny (model X.prog X.w) A.in1 (tryCatch (holding [u] (call (.ref f) [u])) _ >>= _) _ _ _
    refine wpAny_bind (wpAny_tryCatch (wpAny_holding (wpAny_mono (T _ _ H1 x u I2 k1 (List.mem_of_getElem? hx) rx) (fun z s2 he => ?_) fun _ _ hF => hF.elim)))
    obtain ⟨H2, t2, I3, k2, rfl⟩ := he
    have nS2 := inv_head I3
    have nI2 := inv_head (inv_unpin I3)
    have hit2 : s2.heap.IsListIter Ia l (j + 1 + 1) := ⟨oI', nI2.1, hoc, hod⟩
    show wpAny (model X.prog X.w) A.in1 (tryCatch (holding [u, .int (key x) t2] (richCompare .Lt (.int (key x) t2) (.int (key b) tb) >>= _)) _ >>= _) _ _ _
    refine wpAny_bind (wpAny_tryCatch (wpAny_holding (wpAny_bind (CmpOf.ints_lt (prog := X.prog) (w := X.w) (A := A.in1) (P := fun i v => ∃ t, v = .int (if i = 0 then key x else key b) t) (fun i => if i = 0 then key x else key b) (fun i v h => h) 0 1 _ _ _ _ _ ⟨t2, rfl⟩ ⟨tb, rfl⟩ ?_))))
    refine wpAny_bind (wpAny_holding (wpAny_truthy_bool ?_))
    refine wpAny_bind (wpAny_letGo (wpAny_pure ?_))
    have hxb : ∀ (j' : Nat) (z : V), j' ≤ j + 1 → xs[j']? = some z → j' ≤ j ∨ z = x := fun j' z h1 h2 => by
      by_cases e : j' = j + 1
      · rw [e, hx] at h2
        exact .inr (Option.some.inj h2).symm
      · exact .inl (by omega)
    by_cases hbt : key x < key b
    · obtain ⟨c2, hc2⟩ : ∃ c2, (s2.heap.update S (Obj.mapSeq fun _ => #[u, .int (key x) t2])).get? S = some (seqObj "list" #[u, .int (key x) t2] c2) := ⟨_, get?_update_seq nS2.1 fun _ => #[u, .int (key x) t2]⟩
      have I4 : Inv X (pf ++ ((Ia, oI') :: pins)) σ H2 { s2 with heap := s2.heap.update S (Obj.mapSeq fun _ => #[u, .int (key x) t2]), toks := s2.toks } :=
        inv_turn (inv_unpin I3) (wS.cons hSI.symm) nS2.2 fun a o ha q => ((Heap.SameBut.update s2.heap S _).2 a ha).trans q
      simp only [if_true, if_neg (Nat.succ_ne_zero 0), hbt, decide_true]
      refine wpAny_bind (wpAny_updateSeq nS2.1 rfl (wpAny_bind (wpAny_letGo ?_)))
      rw [hname]
      refine wpAny_pure ⟨plainId_quiet PySem.F.plain_min_loop _, ih (j + 1) (j + 1) _ H2 x u t2 c2 oI' (by omega) hlt (inv_pin I4 (wS.cons hSI.symm) nS2.2 hc2 (fun _ z => by cases z)) (k1.trans k2) ?_ hx rx (Nat.le_refl _) fun j' z hj' hz' => ?_⟩
      · exact ⟨oI', ((Heap.SameBut.update s2.heap S _).2 Ia hSI.symm).trans nI2.1, hoc, hod⟩
      · rcases hxb j' z hj' hz' with e | e
        · have h1 := (hbest j' z e hz').1
          exact ⟨by omega, fun _ => by omega⟩
        · rw [e]
          refine ⟨Int.le_refl _, fun hlt' => ?_⟩
          have h1 := hbest j' z (by omega) hz'
          rw [e] at h1
          omega
    · simp only [if_true, if_neg (Nat.succ_ne_zero 0), hbt, decide_false, Bool.false_eq_true, if_false]
      refine wpAny_bind (wpAny_letGo ?_)
      rw [hname]
      refine wpAny_pure ⟨plainId_quiet PySem.F.plain_min_loop _, ih (j + 1) i _ H2 b vb tb c oI' (by omega) hlt I3 (k1.trans k2) hit2 hb rb (by omega) fun j' z hj' hz' => ?_⟩
      rcases hxb j' z hj' hz' with e | e
      · exact hbest j' z e hz'
      · rw [e]
        refine ⟨by omega, fun hlt' => ?_⟩
        have h1 := hbest j' z (by omega) hz'
        rw [e] at h1
        exact h1.2 hlt'
theorem min_args (a v u : Value) : argsOk "min" ⟨[a], [(Str.ofString "key", v), (Str.ofString "default", u)]⟩ := by unfold argsOk; kernel_rfl
/-- min(xs, key=f, default=None) -/
theorem min_key {f : Addr} {key : V → Int} {xs : List V} {l : Addr} {Q : VK} (hh : X.A.handled = none) (T : KeyTurn X X.A.in1 σ H pf (.ref f) xs key) (I : Inv X (pf ++ pins) σ H s) (hs : SqL X.K H l xs) (h1 : xs = [] → Q .non H)
    (h2 : ∀ H' i b, Kp [] H H' → Least xs key i b → Q b H') :
    wpAny (model X.prog X.w) X.A (call (.builtin "min") [.ref l] [(Str.ofString "key", .ref f), (Str.ofString "default", .none)]) (EP X (pf ++ pins) σ Q) X.xe s := by
  have hname : (toString "min" ++ toString ".loop" : String) = "min.loop" := by decide
  obtain ⟨its, rv, hl, hz⟩ := I.list hs
  have hll : l < s.heap.objs.size := by
    obtain ⟨ol, hol, _⟩ := hl.isList
    exact Heap.lt_size hol
  refine kmk_tree PySem.F.kind_min PySem.F.plain_min PySem.F.entry_min (min_args _ _ _) ?_
  show wpAny (model X.prog X.w) X.A.in1 (Builtin.Builtins.bindParams "min" ["key", "default"] 0 ⟨[], [(Str.ofString "key", .ref f), (Str.ofString "default", .none)]⟩ >>= _) _ _ s
  refine wpAny_bind (wpAny_of_eq (show Builtin.Builtins.bindParams "min" ["key", "default"] 0 ⟨[], [(Str.ofString "key", .ref f), (Str.ofString "default", .none)]⟩ = pure [some (.ref f), some .none] from rfl) ?_)
  refine wpAny_bind (wpAny_pure (wpAny_bind (wpAny_pyIter_list hl.isList ?_)))
  refine wpAny_bind (wpAny_newList (items := []) ?_ (Nat.zero_le _))
  rw [hname]
  have hS : (s.heap.push { cls := .type "list_iterator", data := .fields #[.ref l, .int 0 0] }).objs.size = s.heap.objs.size + 1 := size_push' ..
  have wI := Own.fresh I (Nat.le_refl _)
  have nI : H s.heap.objs.size = none := I.hok.fresh (Nat.le_refl _)
  have wS : Own X (pf ++ pins) (s.heap.push { cls := .type "list_iterator", data := .fields #[.ref l, .int 0 0] }).objs.size := Own.fresh I (by rw [hS]; exact Nat.le_succ _)
  have nS : H (s.heap.push { cls := .type "list_iterator", data := .fields #[.ref l, .int 0 0] }).objs.size = none := I.hok.fresh (by rw [hS]; exact Nat.le_succ _)
  have hSI : (s.heap.push { cls := .type "list_iterator", data := .fields #[.ref l, .int 0 0] }).objs.size ≠ s.heap.objs.size := by
    rw [hS]
    exact Nat.succ_ne_self _
  have I1 : Inv X (pf ++ pins) σ H { s with heap := (s.heap.push { cls := .type "list_iterator", data := .fields #[.ref l, .int 0 0] }).push (seqObj "list" #[] 0), toks := s.toks } :=
    I.kept fun b o q => Heap.get?_push_of_some _ (Heap.get?_push_of_some _ q)
  have gI : ((s.heap.push { cls := .type "list_iterator", data := .fields #[.ref l, .int 0 0] }).push (seqObj "list" #[] 0)).get? s.heap.objs.size = some { cls := .type "list_iterator", data := .fields #[.ref l, .int 0 0] } := Heap.get?_push_of_some _ (Heap.get?_push_size _ rfl)
  have gS : ((s.heap.push { cls := .type "list_iterator", data := .fields #[.ref l, .int 0 0] }).push (seqObj "list" #[] 0)).get? (s.heap.push { cls := .type "list_iterator", data := .fields #[.ref l, .int 0 0] }).objs.size = some (seqObj "list" #[] 0) := Heap.get?_push_size _ rfl
  refine wpAny_pure ⟨plainId_quiet PySem.F.plain_min_loop _, ?_⟩
  show codeAny _ _ (.builtin "min.loop" ⟨[.ref s.heap.objs.size, .ref f, .ref _], [("default", .none)]⟩) _ { s with heap := (s.heap.push { cls := .type "list_iterator", data := .fields #[.ref l, .int 0 0] }).push (seqObj "list" #[] 0), toks := s.toks }
  generalize (s.heap.push { cls := .type "list_iterator", data := .fields #[.ref l, .int 0 0] }).push (seqObj "list" #[] 0) = h0 at I1 gI gS ⊢
  generalize (s.heap.push { cls := .type "list_iterator", data := .fields #[.ref l, .int 0 0] }).objs.size = S at *
  obtain ⟨its, rv, hl, hz⟩ := I1.list hs
  have W := Walks.list (prog := X.prog) (w := X.w) (A := X.A.in1) hh s.heap.objs.size l (Nat.ne_of_lt hll) its.toArray
  have hsz : its.toArray.size = xs.length := by rw [List.size_toArray, rv.length]
  refine codeAny_builtin (id := "min.loop") PySem.F.entry_min_loop ?_
  rw [Around.under_plainId PySem.F.plain_min_loop _]
  show wpAny (model X.prog X.w) X.A.in1 (seqItems? (.ref S) >>= _) _ _ _
  refine wpAny_bind (wpAny_seqItems gS rfl ?_)
  show wpAny (model X.prog X.w) X.A.in1 (tryCatch (pyNext (.ref s.heap.objs.size)) _ >>= _) _ _ _
  cases xs with
  | nil =>
    refine wpAny_bind (wpAny_tryCatch (W.done { s with heap := h0, toks := s.toks } _ _ ⟨by rw [hsz]; exact ⟨_, gI, rfl, rfl⟩, hl.isList⟩ fun h' tk' hk' => ?_))
    refine wpAny_bind (wpAny_rule (wpAny_pure ?_))
    exact ⟨.non, H, inv_turn (s := { s with heap := h0, toks := s.toks }) I1 wI nI fun a o ha q => hk' a o (by simpa using ha) q, rfl, h1 rfl⟩
  | cons x xs =>
    refine wpAny_bind (wpAny_tryCatch (W.item 0 { s with heap := h0, toks := s.toks } _ _ (by rw [hsz]; exact Nat.succ_pos _) ⟨⟨_, gI, rfl, rfl⟩, hl.isList⟩ fun u h' tk' hP hst' hk' => ?_))
    have hu : its[0]? = some u := by simpa using hP
    have hx : (x :: xs)[0]? = some x := rfl
    obtain ⟨u', hu', rx⟩ := Vals.get rv hx
    rw [hu] at hu'
    cases hu'
    obtain ⟨oI', hoI', hoc, hod⟩ := id hst'.1
    have hS' := hk' S _ (by simpa using hSI) gS
    have I2 : Inv X (pf ++ ((S, seqObj "list" #[] 0) :: (s.heap.objs.size, oI') :: pins)) σ H { s with heap := h', toks := tk' } :=
      inv_pin (inv_pin (inv_turn (s := { s with heap := h0, toks := s.toks }) I1 wI nI fun a o ha q => hk' a o (by simpa using ha) q) wI nI hoI' (fun v z => by rw [hod] at z; cases z)) (wS.cons hSI.symm) nS hS' (fun _ z => by cases z)
    show wpAny (model X.prog X.w) X.A.in1 (tryCatch (holding [u] (call (.ref f) [u])) _ >>= _) _ _ _
    refine wpAny_bind (wpAny_tryCatch (wpAny_holding (wpAny_mono (T _ _ H x u I2 Kp.refl (.head _) rx) (fun z s2 he => ?_) fun _ _ hF => hF.elim)))
    obtain ⟨H2, t2, I3, k2, rfl⟩ := he
    have nS2 := inv_head I3
    have nI2 := inv_head (inv_unpin I3)
    obtain ⟨c2, hc2⟩ : ∃ c2, (s2.heap.update S (Obj.mapSeq fun _ => #[u, .int (key x) t2])).get? S = some (seqObj "list" #[u, .int (key x) t2] c2) := ⟨_, get?_update_seq nS2.1 fun _ => #[u, .int (key x) t2]⟩
    have I4 : Inv X (pf ++ ((s.heap.objs.size, oI') :: pins)) σ H2 { s2 with heap := s2.heap.update S (Obj.mapSeq fun _ => #[u, .int (key x) t2]), toks := s2.toks } :=
      inv_turn (inv_unpin I3) (wS.cons hSI.symm) nS2.2 fun a o ha q => ((Heap.SameBut.update s2.heap S _).2 a ha).trans q
    show wpAny (model X.prog X.w) X.A.in1 (updateSeq S (fun _ => #[u, .int (key x) t2]) >>= _) _ _ _
    refine wpAny_bind (wpAny_updateSeq nS2.1 rfl ?_)
    rw [hname]
    refine wpAny_pure ⟨plainId_quiet PySem.F.plain_min_loop _, min_loop (xs := x :: xs) hh T hs (Nat.ne_of_lt hll) hSI wS wI (fun H3 s3 i b vb I5 k3 hb rb => ⟨b, H3, I5, rb, h2 H3 i b k3 hb⟩) _ 0 0 _ H2 x u t2 c2 oI' rfl (Nat.succ_pos _) (inv_pin I4 (wS.cons hSI.symm) nS2.2 hc2 (fun _ z => by cases z)) k2
      ⟨oI', ((Heap.SameBut.update s2.heap S _).2 _ hSI.symm).trans nI2.1, hoc, hod⟩ hx rx (Nat.le_refl _) fun j' z hj' hz' => ?_⟩
    have e : j' = 0 := by omega
    rw [e] at hz'
    cases hz'
    exact ⟨Int.le_refl _, fun q => by omega⟩
/-- min(e, key=lambda p: body, default=None) -/
def tMinKey (K : PySem.W.Frag) (T : List (Addr × Str)) (N0 N : List Str) (p : Str) (t : TA) (tb : TE) : TE := fun σ H Q => t σ H fun vs H1 => ∃ (l : Addr) (xs : List V) (key : V → Int) (τ : V → L2.St), vs = [.ref l] ∧ SqL K H1 l xs ∧ LamX.Tabs T H1 ∧
  (∀ v, v ∈ xs → CapsN N0 σ N (τ v) p v) ∧ ∀ H2, LamX.ExtN H1 H2 → LamX.Tabs T H2 → (∀ (H3 : Hp) (v : V), v ∈ xs → Kp [] H2 H3 → tb (τ v) H3 fun x H4 => x = .int (key v) ∧ Kp [] H3 H4) ∧
    (xs = [] → Q .non H2) ∧ ∀ (H3 : Hp) (i : Nat) (b : V), Kp [] H2 H3 → Least xs key i b → Q b H3
theorem pe_minKey {T : List (Addr × Str)} {N : List Str} {k : Nat} {c P : Addr} {scope : Scope} {p : Str} {params : Arguments} {e body : Expr} {t : TA} {tb : TE} {p1 kpos lpos dpos npos pos : Pos} {jn : Nat} (hg : Gl X "min") (hm : X.mg "min" = none) (ha : PA X [e] t)
    (TB : LamX.TabB X.base X.mg c P) (hcode : X.env.code = .ref c) (hmT : (P, X.env.qual ++ "<lambda>") ∈ T) (huT : ∀ p ∈ T, p.1 = P → p.2 = X.env.qual ++ "<lambda>") (hr : Room (k + 3) X.A) (L : Lam1 X.env.scope scope p) (hdef : defaultsOf params X.env = ([], []))
    (hbind : ∀ (q : Str) (cl : List (Str × Addr)) (pm cv ctv u : Value), bindArgs (PySem.W.kla_fn "<lambda>" q params body scope cl pm cv ctv) ⟨[u], []⟩ = pure [(p, u)])
    (hbody : ∀ (s : Shared) (H : Hp) (f c' : Addr), Room k (X.A.in1.deeper (LamX.lamEnv X scope s.heap.objs.size f c')) → PE (lam1Cx X X.A.in1 s H N scope f c') body tb)
    (he : backTo pos (starEach [e] X.env) = (false, eval e X.env) :: backTo pos (starEach [] X.env) := by rfl) (hpl : (backTo pos (starEach [e] X.env)).any (·.1) = false := by rfl) :
    PE X (.Call (.Name "min" p1) [e] [⟨some "key", .Lambda params body scope lpos, kpos⟩, ⟨some "default", .Constant .none jn npos, dpos⟩] pos) (tMinKey X.K T X.N N p t tb) := by
  refine ⟨fun pins s σ H Q I h => ?_⟩
  refine wpAny_Call_Name_kw (ld_blt I hg hm (show bootBuiltins "min" = some (.builtin "min") by rfl) ?_ (by decide) (by decide))
  refine PyProof.Rows.callWith_kw (thn (ha.run pos pins s σ H _ I h) fun us s1 ⟨vs, H1, I1, r1, q1⟩ => ?_) he hpl rfl rfl
  obtain ⟨l, xs, key, τ, rfl, hs, hT, hC, q⟩ := q1
  obtain rfl := Vals.ref1 r1
  show wpAny _ _ (evalAll [(do let v ← eval (.Lambda params body scope lpos) X.env; standAt pos; pure v), (do let v ← eval (.Constant .none jn npos) X.env; standAt pos; pure v)]) _ _ s1
  refine wpAny_evalAll_cons (wpAny_bind (LamX.lam_make2 I1 TB hcode hmT huT hT hdef (L.has I1.ok) fun f c' pm ctv H2 s2 I2 eN T2 hf hfn hfr hco => wpAny_bind (wpAny_standAt (wpAny_pure ?_))))
  obtain ⟨hb, hq0, hq⟩ := q H2 eN T2
  have I3 := fn_pin I2 hf rfl hfn hfr
  refine wpAny_evalAll_cons (wpAny_bind (thn ((pe_non (X := X)).run _ s2 σ H2 (fun (x : V) (H3 : Hp) => x = V.non ∧ H3 = H2) I3 ⟨rfl, rfl⟩) fun u s3 ⟨v, H3, I4, rv, ev, eH⟩ => wpAny_bind (wpAny_standAt (wpAny_pure (wpAny_evalAll_nil ?_)))))
  rw [ev] at rv
  rw [eH] at I4
  obtain rfl : u = Value.none := rv
  show wpAny _ _ (call (.builtin "min") [.ref l] [(Str.ofString "key", .ref f), (Str.ofString "default", .none)]) _ _ s3
  refine wpAny_mono (min_key hr.hd (lam1_turn L hco I2.ok.frames hr.in1 (fun u => hbind _ _ _ _ _ u) hC fun s H3 v hv k3 hr3 => ⟨tb, hbody s H3 f c' (hr3.mono (Nat.le_succ _)), hb H3 v hv k3⟩) I4 (sq_ext eN hs) hq0 hq) (fun u s' h => ep_less h) fun _ _ h => h
end
end RD
/-! ### the head of a law whose defs make lambdas -/
namespace RD
open PySem PySem.Spec PyProof.Rows L2 He
section
variable {P : Program} {w : World} {K : PySem.W.Frag} {mg : Str → Option Value} {base : Heap} {CX : CXT} {x qual : Str} {params : Arguments} {body : List Stmt} {scope : Scope} {dvs : List V} {kws : List (Str × V)} {fd : FuncData}
/-- a def whose code object is told -/
theorem fnDc {at_ : Str × Option Str} {N ps : List Str} {k : Nat} {sp : Sp} (F : FunD K x qual params body scope dvs kws (fAd K at_) fd) (S : FnScope N ps scope) (len : ∀ vs H Q E, sp vs H Q E → vs.length = ps.length)
    (hbody : ∀ (A : Around) (outer : List Env) (s : Shared) (H : Hp) (vs : List V) (Q : VK) (E : XK), Room k (A.deeper (envOfC qual scope s.heap.objs.size (fAd K at_) (.ref (codeOf K at_)))) → sp vs H Q E →
      ∃ t, PSs (cxOf CX0 P w K mg base N qual scope (fAd K at_) (.ref (codeOf K at_)) A outer s H E).nox body t ∧ t ⟨fun _ H' => Q .non H', Q, fun _ _ => False, fun _ _ => False⟩ (start N vs) H) : FnOk P w K mg base CX0 (k + 1) (fAd K at_) fd ps sp := by
  obtain ⟨oc, od, dV, kV, doc, pm, an, cdv, ct, osl, e0, lk, hcd, _, _⟩ := F.ex
  obtain ⟨c, hc⟩ := codeIn_ref hcd
  have e : cdv = .ref (codeOf K at_) := by
    rw [hc]
    refine congrArg Value.ref (codeOf_eq lk ?_).symm
    rw [e0]
    exact hc
  subst e0
  subst e
  exact fn_of lk hcd S len fun A outer s H vs Q E hr hsp => let ⟨t, h1, h2⟩ := hbody A outer s H vs Q E hr hsp; ⟨t, h1.nox, h2⟩
end
/-- the tables at the law's entry -/
theorem tabs_nil {tf : List He.Defn} {K : PySem.W.Frag} {T : List (Addr × Str)} {H : Hp} (e : T.map (·.1) = tf.map fun p => (He.cT K p).2) (h : ∀ p ∈ tf.map (He.cT K), H p.2 = some (.tbl #[])) : LamX.Tabs T H := fun p hp => by
  have hm : p.1 ∈ tf.map fun p => (He.cT K p).2 := e ▸ List.mem_map_of_mem hp
  obtain ⟨q, hq, e2⟩ := List.mem_map.mp hm
  refine LamX.TabS.nil ?_
  rw [← e2]
  exact h _ (List.mem_map_of_mem hq)
end RD
/-! ### frames where tables of lambdas may grow -/
namespace RD
open PySem PySem.Spec PyProof.Rows L2 He
def NoTbl (o : HO) : Prop := ∀ t, o ≠ .tbl t
def Kt (T : List (Addr × Str)) (ps : List Addr) (H H' : Hp) : Prop := (∀ b o, H b = some o → NoTbl o → b ∉ ps → H' b = some o) ∧ LamX.Tabs T H'
section
variable {T : List (Addr × Str)} {ps : List Addr} {H H' H'' : Hp} {p q b : Addr} {o : HO}
theorem Kt.refl (h : LamX.Tabs T H) : Kt T ps H H := ⟨fun _ _ e _ _ => e, h⟩
theorem Kt.trans (a : Kt T ps H H') (b : Kt T ps H' H'') : Kt T ps H H'' := ⟨fun c o e n m => b.1 c o (a.1 c o e n m) n m, b.2⟩
theorem Kt.g0 (a : Kt T [] H H') (n : NoTbl o) (e : H b = some o) : H' b = some o := a.1 b o e n (by simp)
theorem Kt.g1 (a : Kt T [p] H H') (n : NoTbl o) (m : b ≠ p) (e : H b = some o) : H' b = some o := a.1 b o e n (by simp [m])
theorem Kt.of0 (a : Kt T [] H H') : Kt T ps H H' := ⟨fun c o e n _ => a.1 c o e n (by simp), a.2⟩
/-- q is none of the things that stand (tables left out) -/
def Frn (H : Hp) (q : Addr) : Prop := ∀ b o, H b = some o → NoTbl o → b ≠ q
theorem Kt.frn (a : Kt T [] H H') {l : Addr} (h : H' l = none) : Frn H l := fun b o e n z => by
  rw [z] at e
  rw [a.g0 n e] at h
  cases h
theorem Frn.kt {l : Addr} (h : Frn H' l) (a : Kt T [] H H') : Frn H l := fun b o e n => h b o (a.g0 n e) n
theorem Frn.kp {l : Addr} (h : Frn H' l) (a : Kp [] H H') : Frn H l := fun b o e n => h b o (a.g0 e) n
theorem Frn.of {l : Addr} (h : H l = none) : Frn H l := fun b o e _ => ne_of_none e h
theorem Kt.ext (a : LamX.ExtN H H') (t : LamX.Tabs T H') : Kt T ps H H' := ⟨fun b o e n _ => a b o e n, t⟩
/-- what a table and its code objects are not -/
def Plain : HO → Prop
  | .tbl _ => False
  | .ext _ => False
  | _ => True
theorem Plain.noTbl (h : Plain o) : NoTbl o := by
  intro t z
  rw [z] at h
  exact h
theorem tabs_kp (h : LamX.Tabs T H) (k : Kp ps H H') (n : ∀ p, p ∈ ps → ∃ o, H p = some o ∧ Plain o) : LamX.Tabs T H' := fun p hp => by
  obtain ⟨tb, h1, h2, h3⟩ := h p hp
  have ne : ∀ b o, H b = some o → ¬ Plain o → b ∉ ps := fun b o e m z => by
    obtain ⟨o', e', w⟩ := n b z
    rw [e] at e'
    cases e'
    exact m w
  refine ⟨tb, k _ _ h1 (ne _ _ h1 (fun z => z)), h2, fun pos cv e => ?_⟩
  obtain ⟨c, e1, e2⟩ := h3 pos cv e
  exact ⟨c, e1, k _ _ e2 (ne _ _ e2 (fun z => z))⟩
theorem Kt.kp (h : LamX.Tabs T H) (k : Kp ps H H') (n : ∀ p, p ∈ ps → ∃ o, H p = some o ∧ Plain o) : Kt T ps H H' := ⟨fun c o e _ m => k c o e m, tabs_kp h k n⟩
theorem Kt.kp0 (h : LamX.Tabs T H) (k : Kp [] H H') : Kt T ps H H' := ⟨fun c o e _ _ => k c o e (by simp), tabs_kp h k (fun _ z => by cases z)⟩
theorem Kt.kp1 (h : LamX.Tabs T H) (k : Kp [p] H H') (e : H p = some o) (w : Plain o) : Kt T [p] H H' := Kt.kp h k fun q hq => by
  rw [List.mem_singleton.mp hq]
  exact ⟨o, e, w⟩
theorem Kt.new (h : LamX.Tabs T H) (e : H p = none) : Kt T ps H (upd H p o) := Kt.kp0 h (Kp.new e)
theorem Kt.wr {u : HO} (a : Kt T ps H H') (h : p ∈ ps) (e : H' p = some u) (w : Plain u) : Kt T ps H (upd H' p o) :=
  ⟨fun c v ev n m => by
    have hc : c ≠ p := fun z => m (z ▸ h)
    rw [upd_ne hc]
    exact a.1 c v ev n m, tabs_kp a.2 (Kp.refl.wr (ps := [p]) (by simp)) fun q hq => by
    rw [List.mem_singleton.mp hq]
    exact ⟨u, e, w⟩⟩
theorem Kt.nw (a : Kt T ps H H') (e : H' p = none) : Kt T ps H (upd H' p o) := a.trans (Kt.new a.2 e)
end
/-! ### a class made with keywords -/
theorem vals_at {xs : List V} {us : List Value} (i : Nat) (h : Vals xs us) : Vals (xs[i]?).toList (us[i]?).toList := by
  cases e : xs[i]? with
  | none => rw [h.none_of e]; exact .nil
  | some x =>
    obtain ⟨u, e2, r⟩ := h.get e
    rw [e2]
    exact .cons r .nil
structure MakKX (P : Program) (w : World) (K : PySem.W.Frag) (mg : Str → Option Value) (base : Heap) (CX : CXT) (k : Nat) (x : Str) (C : Addr) (sp : Sp) (n : Nat) (ks : List Str) (gV : List V → List V → List V) : Prop where
  ex : ∃ (f : Addr) (fd : FuncData) (ps : List Str) (g : List Value → List Value → List Value), Mk K C f ∧ FnOk P w K mg base CX k f fd ps sp ∧ mg x = some (.ref C) ∧ KBn K fd ps (n + 1) ks g gV
theorem pe_makKX {X : Cx} {CX : CXT} {k j n : Nat} {C : Addr} {x : Str} {sp : Sp} {E : XK} {ks : List Str} {gV : List V → List V → List V} {p pos : Pos} {e : Expr} {es : List Expr} {kws : List Keyword} {t tk : TA} (c : MakKX X.prog X.w X.K X.mg X.base CX k x C sp n ks gV) (hr : Room j X.A) (hk : k + 1 ≤ j) (hg : Gl X x) (hx : Passes CX X E) (ha : PA X (e :: es) t) (hkw : PK X kws tk)
    (hall : (backToKw pos (keywordEach kws X.env)).all (·.1.isSome) = true := by rfl) (hks : (backToKw pos (keywordEach kws X.env)).filterMap (·.1) = ks := by rfl) (hdb : (x == ("__debug__" : Str)) = false := by decide)
    (he : starEach (e :: es) X.env = (false, eval e X.env) :: starEach es X.env := by rfl) (hpl : ((backTo pos (starEach (e :: es) X.env)).any (·.1) || (backToKw pos (keywordEach kws X.env)).any (·.1.isNone)) = false := by rfl) :
    PE X (.Call (.Name x p) (e :: es) kws pos) (tMakeK C n ks.length sp gV E t tk) := by
  obtain ⟨f, fd, ps, g, M, F, hm, hb⟩ := c.ex
  exact pe_makeK M F (hr.mono hk) hg hm hb hx ha hkw hall hks hdb he hpl
theorem rd_makeK {σ : L2.St} {H : Hp} {Q : VK} {C : Addr} {n m : Nat} {sp : Sp} {gV : List V → List V → List V} {E : XK} {t tk : TA} (h : t σ H fun vs H1 => tk σ H1 fun zs H2 => vs.length = n ∧ zs.length = m ∧ ∀ x dx, H2 x = none → H2 dx = none → dx ≠ x →
    sp (gV (.ref x :: vs) zs) (upd (upd H2 dx (.own x)) x (.ins C dx [])) (fun v H3 => v = .non ∧ Q (.ref x) H3) E) : tMakeK C n m sp gV E t tk σ H Q := h
/-! ### more readings -/
section
variable {K : PySem.W.Frag} {σ : L2.St} {H : Hp} {Q : VK} {ta : TE}
theorem rd_prop {C : Addr} {sp : Sp} {E : XK} (h : ta σ H fun x H1 => ∃ a dx fs, x = V.ref a ∧ H1 a = some (.ins C dx fs) ∧ sp [.ref a] H1 Q E) : tProp C sp [] E ta σ H Q := h
theorem rd_propX {C a dx : Addr} {fs : List (Str × V)} {R : Addr → Prop} (h : H a = some (.ins C dx fs)) (q : R a) : ∃ a' dx' fs', V.ref a = V.ref a' ∧ H a' = some (.ins C dx' fs') ∧ R a' := ⟨a, dx, fs, rfl, h, q⟩
theorem rd_revL {te : TE} (h : te σ H fun x H1 => ∃ a xs, x = V.ref a ∧ SqL K H1 a xs ∧ ∀ p, H1 p = none → Q (.ref p) (upd H1 p (.lst xs.reverse))) : tRevL K te σ H Q := h
theorem rd_revLX {a : Addr} {xs : List V} {R : List V → Prop} (h : SqL K H a xs) (q : R xs) : ∃ a' ys, V.ref a = V.ref a' ∧ SqL K H a' ys ∧ R ys := ⟨a, xs, rfl, h, q⟩
end
end RD
namespace RD
open PySem PySem.Spec PyProof.Rows L2 He
/-! ### comprehensions that only look -/
theorem filter_take {α : Type} {p : α → Bool} {ns : List α} {i : Nat} (h : i < ns.length) : (ns.take (i + 1)).filter p = (ns.take i).filter p ++ (if p ns[i] = true then [ns[i]] else []) := by
  rw [List.take_succ_eq_append_getElem h, List.filter_append]
  congr 1
  cases e : p ns[i] <;> simp [e]
section
variable {K : PySem.W.Frag} {σ : L2.St} {H : Hp} {te : TE} {tt : TT}
theorem lcF_ints {a D : Addr} {g : TG} {vs : List Nat} {Qd : Hp → Prop} (ns : List Int) (p : Int → Bool) (f : Int → V) (hS : SqL K H a (ns.map V.int)) (hD : H D = none) (hl : ns.length < 1000000)
    (hs : ∀ (i : Nat) (h : i < ns.length) H1 (E : VK) (N : Hp → Prop), Kp [] H H1 → (∀ H4, Kp [] H1 H4 → p ns[i] = true → E (f ns[i]) H4) → (∀ H3, Kp [] H1 H3 → p ns[i] = false → N H3) → g (.int ns[i]) (wipe σ vs) H1 fun σ2 H2 => wipe σ2 vs = wipe σ vs ∧ tt σ2 H2 fun b H3 => if b = true then te σ2 H3 E else N H3)
    (hd : ∀ H', Kp [] H H' → H' D = some (.lst ((ns.filter p).map f)) → Qd H') : LcG (Itl K a) g tt te vs σ D Qd H := by
  refine lcL_ints ns (fun i H' => H' D = some (.lst (((ns.take i).filter p).map f)) ∧ Kp [] H H') ⟨upd_same, Kp.new hD⟩ (fun i H' _ q => sl_kp q.2 (by simp) hS) (fun i hi H' q => ?_) (fun H' q => ?_)
  · refine hs i hi H' _ _ q.2 (fun H4 k4 hp => ?_) (fun H3 k3 hp => ?_)
    · have fl : (((ns.take i).filter p).map f).length < sizeLine := szlt (by
        rw [List.length_map]
        have h1 := List.length_filter_le p (ns.take i)
        rw [List.length_take] at h1
        omega)
      refine ⟨_, k4.g0 q.1, fl, ?_, Kp.mine (q.2.trans k4) hD⟩
      rw [upd_same, filter_take hi, if_pos hp, List.map_append]
      rfl
    · refine ⟨?_, q.2.trans k3⟩
      rw [filter_take hi, if_neg (by rw [hp]; exact Bool.false_ne_true), List.append_nil]
      exact k3.g0 q.1
  · rw [List.take_length] at q
    exact hd H' q.2 q.1
theorem lcF_range {lo : Int} {n : Nat} {D : Addr} {g : TG} {vs : List Nat} {Qd : Hp → Prop} (p : Nat → Bool) (f : Nat → V) (hD : H D = none) (hl : n < 1000000)
    (hs : ∀ (i : Nat) (h : i < n) H1 (E : VK) (N : Hp → Prop), Kp [] H H1 → (∀ H4, Kp [] H1 H4 → p i = true → E (f i) H4) → (∀ H3, Kp [] H1 H3 → p i = false → N H3) → g (.int (lo + i)) (wipe σ vs) H1 fun σ2 H2 => wipe σ2 vs = wipe σ vs ∧ tt σ2 H2 fun b H3 => if b = true then te σ2 H3 E else N H3)
    (hd : ∀ H', Kp [] H H' → H' D = some (.lst (((List.range n).filter p).map f)) → Qd H') : LcG (Itr lo n) g tt te vs σ D Qd H := by
  refine lcR_by (fun i H' => H' D = some (.lst (((List.range i).filter p).map f)) ∧ Kp [] H H') ⟨upd_same, Kp.new hD⟩ (fun i H' hi q => ?_) (fun H' q => hd H' q.2 q.1)
  have er : (List.range (i + 1)).filter p = (List.range i).filter p ++ (if p i = true then [i] else []) := by
    rw [List.range_succ, List.filter_append]
    congr 1
    cases e : p i <;> simp [e]
  refine hs i hi H' _ _ q.2 (fun H4 k4 hp => ?_) (fun H3 k3 hp => ?_)
  · have fl : (((List.range i).filter p).map f).length < sizeLine := szlt (by
      rw [List.length_map]
      have h1 := List.length_filter_le p (List.range i)
      rw [List.length_range] at h1
      omega)
    refine ⟨_, k4.g0 q.1, fl, ?_, Kp.mine (q.2.trans k4) hD⟩
    rw [upd_same, er, if_pos hp, List.map_append]
    rfl
  · refine ⟨?_, q.2.trans k3⟩
    rw [er, if_neg (by rw [hp]; exact Bool.false_ne_true), List.append_nil]
    exact k3.g0 q.1
end
def keyV (f : Int → Int) : V → Int
  | .int i => f i
  | _ => 0
theorem sort_keyV (f : Int → Int) (ns : List Int) : ((ns.map V.int).mergeSort fun a b => decide (keyV f a ≤ keyV f b)) = (ns.mergeSort fun a b => decide (f a ≤ f b)).map V.int :=
  (List.map_mergeSort (f := V.int) (r := fun a b => decide (f a ≤ f b)) (s := fun a b => decide (keyV f a ≤ keyV f b)) fun _ _ _ _ => rfl).symm
end RD
namespace RD
open PySem PySem.Spec PyProof.Rows L2 He
section
variable {K : PySem.W.Frag} {σ : L2.St} {H : Hp} {T : List (Addr × Str)} {N0 N : List Str} {p : Str} {t : TA} {tb : TE} {Q : VK}
theorem rd_sortKey (h : t σ H fun vs H1 => ∃ (l : Addr) (xs : List V) (key : V → Int) (τ : V → L2.St), vs = [.ref l] ∧ SqL K H1 l xs ∧ LamX.Tabs T H1 ∧
  (∀ v, v ∈ xs → CapsN N0 σ N (τ v) p v) ∧ ∀ H2, LamX.ExtN H1 H2 → LamX.Tabs T H2 → (∀ (H3 : Hp) (v : V), v ∈ xs → Kp [] H2 H3 → tb (τ v) H3 fun x H4 => x = .int (key v) ∧ Kp [] H3 H4) ∧
    ∀ (H3 : Hp) (q : Addr), Kp [] H2 H3 → H3 q = none → Q (.ref q) (upd H3 q (.lst (xs.mergeSort fun a b => decide (key a ≤ key b))))) : tSortKey K T N0 N p t tb σ H Q := h
theorem rd_minKey (h : t σ H fun vs H1 => ∃ (l : Addr) (xs : List V) (key : V → Int) (τ : V → L2.St), vs = [.ref l] ∧ SqL K H1 l xs ∧ LamX.Tabs T H1 ∧
  (∀ v, v ∈ xs → CapsN N0 σ N (τ v) p v) ∧ ∀ H2, LamX.ExtN H1 H2 → LamX.Tabs T H2 → (∀ (H3 : Hp) (v : V), v ∈ xs → Kp [] H2 H3 → tb (τ v) H3 fun x H4 => x = .int (key v) ∧ Kp [] H3 H4) ∧
    (xs = [] → Q .non H2) ∧ ∀ (H3 : Hp) (i : Nat) (b : V), Kp [] H2 H3 → Least xs key i b → Q b H3) : tMinKey K T N0 N p t tb σ H Q := h
/-- of a list of ints, at the key f -/
theorem rd_sortI {D : Addr} (f : Int → Int) (ns : List Int) (τ : Int → L2.St) (hS : SqL K H D (ns.map V.int)) (hT : LamX.Tabs T H) (hC : ∀ n, CapsN N0 σ N (τ n) p (.int n))
    (hb : ∀ (H3 : Hp) (n : Int) (Q' : VK), n ∈ ns → Kt T [] H H3 → Q' (.int (f n)) H3 → tb (τ n) H3 Q')
    (hq : ∀ (H3 : Hp) (q : Addr), Kt T [] H H3 → H3 q = none → Q (.ref q) (upd H3 q (.lst ((ns.mergeSort fun a b => decide (f a ≤ f b)).map V.int)))) :
    ∃ (l : Addr) (xs : List V) (key : V → Int) (τ : V → L2.St), [V.ref D] = [.ref l] ∧ SqL K H l xs ∧ LamX.Tabs T H ∧
      (∀ v, v ∈ xs → CapsN N0 σ N (τ v) p v) ∧ ∀ H2, LamX.ExtN H H2 → LamX.Tabs T H2 → (∀ (H3 : Hp) (v : V), v ∈ xs → Kp [] H2 H3 → tb (τ v) H3 fun x H4 => x = .int (key v) ∧ Kp [] H3 H4) ∧
        ∀ (H3 : Hp) (q : Addr), Kp [] H2 H3 → H3 q = none → Q (.ref q) (upd H3 q (.lst (xs.mergeSort fun a b => decide (key a ≤ key b)))) := by
  refine ⟨D, _, keyV f, fun v => match v with | .int n => τ n | _ => [], rfl, hS, hT, fun v hv => ?_, fun H2 e2 t2 => ⟨fun H3 v hv k3 => ?_, fun H3 q k3 nq => ?_⟩⟩
  · obtain ⟨n, _, rfl⟩ := List.mem_map.mp hv
    exact hC n
  · obtain ⟨n, hn, rfl⟩ := List.mem_map.mp hv
    exact hb H3 n _ hn ((Kt.ext e2 t2).trans (Kt.kp0 t2 k3)) ⟨rfl, Kp.refl⟩
  · rw [sort_keyV]
    exact hq H3 q ((Kt.ext e2 t2).trans (Kt.kp0 t2 k3)) nq
theorem rd_minI {D : Addr} (f : Int → Int) (ns : List Int) (τ : Int → L2.St) (hS : SqL K H D (ns.map V.int)) (hT : LamX.Tabs T H) (hC : ∀ n, CapsN N0 σ N (τ n) p (.int n))
    (hb : ∀ (H3 : Hp) (n : Int) (Q' : VK), n ∈ ns → Kt T [] H H3 → Q' (.int (f n)) H3 → tb (τ n) H3 Q')
    (h0 : ∀ (H3 : Hp), ns = [] → Kt T [] H H3 → Q .non H3)
    (h1 : ∀ (H3 : Hp) (i : Nat) (b : Int), Kt T [] H H3 → ns[i]? = some b → (∀ (j : Nat) (z : Int), ns[j]? = some z → f b ≤ f z ∧ (j < i → f b < f z)) → Q (.int b) H3) :
    ∃ (l : Addr) (xs : List V) (key : V → Int) (τ : V → L2.St), [V.ref D] = [.ref l] ∧ SqL K H l xs ∧ LamX.Tabs T H ∧
      (∀ v, v ∈ xs → CapsN N0 σ N (τ v) p v) ∧ ∀ H2, LamX.ExtN H H2 → LamX.Tabs T H2 → (∀ (H3 : Hp) (v : V), v ∈ xs → Kp [] H2 H3 → tb (τ v) H3 fun x H4 => x = .int (key v) ∧ Kp [] H3 H4) ∧
        (xs = [] → Q .non H2) ∧ ∀ (H3 : Hp) (i : Nat) (b : V), Kp [] H2 H3 → Least xs key i b → Q b H3 := by
  refine ⟨D, _, keyV f, fun v => match v with | .int n => τ n | _ => [], rfl, hS, hT, fun v hv => ?_, fun H2 e2 t2 => ⟨fun H3 v hv k3 => ?_, fun e => ?_, fun H3 i b k3 hl => ?_⟩⟩
  · obtain ⟨n, _, rfl⟩ := List.mem_map.mp hv
    exact hC n
  · obtain ⟨n, hn, rfl⟩ := List.mem_map.mp hv
    exact hb H3 n _ hn ((Kt.ext e2 t2).trans (Kt.kp0 t2 k3)) ⟨rfl, Kp.refl⟩
  · exact h0 H2 (List.map_eq_nil_iff.mp e) (Kt.ext e2 t2)
  · obtain ⟨e1, e3⟩ := hl
    rw [List.getElem?_map] at e1
    obtain ⟨n, hn, rfl⟩ := Option.map_eq_some_iff.mp e1
    refine h1 H3 i n ((Kt.ext e2 t2).trans (Kt.kp0 t2 k3)) hn fun j z hz => ?_
    exact e3 j (.int z) (by rw [List.getElem?_map, hz]; rfl)
end
end RD
namespace RD
open PySem PySem.Spec PyProof.Rows L2 He
/-! ### wide divisors, fields that are added to, least of a list -/
theorem wide60 {i j : Int} (h0 : 0 < j) (h1 : j < 1152921504606846976) : CDivW i j := wide_div (b := 60) h0 (by omega) (by decide) (by decide)
theorem ixN_at {n : Nat} {i : Int} (h0 : 0 ≤ i) (h1 : i < n) : ixN n i = some i.toNat := by
  unfold ixN
  rw [if_pos h0, if_pos h1]
section
variable {K : PySem.W.Frag} {σ : L2.St} {H : Hp} {nx bk ct : L2.St → Hp → Prop} {rt : VK} {ta tv : TE} {Q : VK} {v : V} {i j : Int}
theorem rd_sfldaug {rd : V → V → Hp → VK → Prop} {f : Str} (h : ta σ H fun x H1 => ∃ a C dx fs v, x = .ref a ∧ H1 a = some (.ins C dx fs) ∧ Cls K C ∧ NoAttr K C f ∧ fs.lookup f = some v ∧
  tv σ H1 fun y H2 => rd v y H2 fun z H3 => ∃ dx' fs', H3 a = some (.ins C dx' fs') ∧ fs'.length < 1000 ∧ nx σ (upd H3 a (.ins C dx' (putF f z fs')))) : sFldAug K ta tv rd f ⟨nx, rt, bk, ct⟩ σ H := h
theorem rd_sfldaugX {f : Str} {a C dx : Addr} {fs : List (Str × V)} {R : Addr → Addr → V → Prop} (h : H a = some (.ins C dx fs)) (c : Cls K C) (n : NoAttr K C f) (l : fs.lookup f = some v) (q : R a C v) :
    ∃ a' C' dx' fs' v', V.ref a = V.ref a' ∧ H a' = some (.ins C' dx' fs') ∧ Cls K C' ∧ NoAttr K C' f ∧ fs'.lookup f = some v' ∧ R a' C' v' := ⟨a, C, dx, fs, v, rfl, h, c, n, l, q⟩
theorem rd_insX {a C dx : Addr} {fs : List (Str × V)} {R : Addr → List (Str × V) → Prop} (h : H a = some (.ins C dx fs)) (l : fs.length < 1000) (q : R dx fs) : ∃ dx' fs', H a = some (.ins C dx' fs') ∧ fs'.length < 1000 ∧ R dx' fs' := ⟨dx, fs, h, l, q⟩
theorem rd_addI (h : Q (.int (i + j)) H) : rAdd (.int i) (.int j) H Q := ⟨i, j, rfl, rfl, h⟩
theorem rd_subI (h : Q (.int (i - j)) H) : rSub (.int i) (.int j) H Q := ⟨i, j, rfl, rfl, h⟩
theorem rd_minL {a : Addr} {ns : List Int} (h : SqL K H a (ns.map V.int)) (l : 0 < ns.length) (q : ∀ m, m ∈ ns → (∀ y, y ∈ ns → m ≤ y) → Q (.int m) H) : rMin K [.ref a] H Q := ⟨a, ns, rfl, h, l, q⟩
end
/-- an optional int -/
abbrev ov : Option Int → V
  | none => .non
  | some i => .int i
theorem ov_non {o : Option Int} : decide (ov o = V.non) = o.isNone := by
  cases o with
  | none => rfl
  | some i => exact decide_eq_false (by intro z; cases z)
/-- the first on the way from a place on -/
def FirstOf (r place : Int) (xs : List Int) : Option Int → Prop
  | none => xs = []
  | some b => b ∈ xs ∧ ∀ z, z ∈ xs → (b - place) % r ≤ (z - place) % r
end RD
namespace RD
open PySem PySem.Spec PyProof.Rows L2 He
/-! ### look-ups whose value comes out plain -/
def lookV {κ : Type} [DecidableEq κ] : List (κ × V) → κ → Option V
  | [], _ => none
  | (a, v) :: r, k => if a = k then some v else lookV r k
theorem lookV_eq {κ : Type} [DecidableEq κ] (k : κ) : ∀ kvs : List (κ × V), valV kvs k = lookV kvs k
  | [] => rfl
  | (a, v) :: r => by
    unfold lookV
    by_cases h : a = k
    · rw [if_pos h]
      exact valV_pos h
    · rw [if_neg h, valV_neg h]
      exact lookV_eq k r
theorem dg_sl {H : Hp} {a : Addr} {v : V} {kvs : List (Key × V)} {s : Str} (e : H a = some (.dK kvs)) (l : lookV kvs (.inr s) = some v) : DGet H a (.str s) (some v) := dg_sv e ((lookV_eq _ _).trans l)
theorem Kt.mine {T : List (Addr × Str)} {ps : List Addr} {H H' : Hp} {p : Addr} {o u : HO} (a : Kt T ps H H') (f : Frn H p) (e : H' p = some u) (w : Plain u) : Kt T ps H (upd H' p o) :=
  ⟨fun c v ev n m => by
    rw [upd_ne (f c v ev n)]
    exact a.1 c v ev n m, tabs_kp a.2 (Kp.refl.wr (ps := [p]) (by simp)) fun q hq => by
    rw [List.mem_singleton.mp hq]
    exact ⟨u, e, w⟩⟩
theorem Kt.mono {T : List (Addr × Str)} {ps qs : List Addr} {H H' : Hp} (a : Kt T ps H H') (h : ∀ p, p ∈ ps → p ∈ qs) : Kt T qs H H' := ⟨fun c o e n m => a.1 c o e n fun z => m (h c z), a.2⟩
theorem Kt.kpP {T : List (Addr × Str)} {ps qs : List Addr} {H H' H2 : Hp} (a : Kt T ps H H') (k : Kp qs H' H2) (n : ∀ p, p ∈ qs → p ∈ ps ∧ ∃ o, H' p = some o ∧ Plain o) : Kt T ps H H2 := a.trans ((Kt.kp a.2 k fun p hp => (n p hp).2).mono fun p hp => (n p hp).1)
end RD
namespace RD
open PySem PySem.Spec PyProof.Rows L2 He
theorem rd_sumL {K : PySem.W.Frag} {H : Hp} {Q : VK} {a : Addr} {ns : List Int} (h : SqL K H a (ns.map V.int)) (q : Q (.int ns.sum) H) : rSum K [.ref a] H Q := ⟨a, ns, rfl, h, q⟩
end RD

/-! own layer: getters of properties in the head -/
namespace RD
open PySem PySem.Spec PyProof.Rows L2 He
/-- the property object of the class's name, its getter -/
def prA (K : PySem.W.Frag) (c f : Str) : Addr := ma K (ga K c) f
def prG (K : PySem.W.Frag) (c f : Str) : Addr := match PySem.W.recIn K (prA K c f) "property" with
  | some (.ref g :: _) => g
  | _ => 0
def propB (K : PySem.W.Frag) (c f : Str) : Bool :=
  eqO (PySem.W.findIn K (.ref (ga K c)) f) (some (some (.ref (prA K c f)))) && (eqO (PySem.W.specialIn K (.ref (prA K c f)) "__get__") (some (some (.builtin "property.__get__"))) && (decide (PySem.W.takesIn K (.ref (prA K c f)) = some true) && (match PySem.W.recIn K (prA K c f) "property" with
    | some (.ref g :: _) => decide (g = prG K c f)
    | _ => false)))
theorem propB_ok {K : PySem.W.Frag} {c f : Str} (h : propB K c f = true) : PropOf K (ga K c) f (prA K c f) (prG K c f) := by
  obtain ⟨h1, h2⟩ := ba h
  obtain ⟨h3, h4⟩ := ba h2
  obtain ⟨h5, h6⟩ := ba h4
  refine ⟨eqO_ok h1, eqO_ok h3, of_decide_eq_true h5, ?_⟩
  cases e : PySem.W.recIn K (prA K c f) "property" with
  | none =>
    rw [e] at h6
    cases h6
  | some l =>
    rw [e] at h6
    cases l with
    | nil => cases h6
    | cons v r =>
      cases v with
      | ref g =>
        have h7 : g = prG K c f := of_decide_eq_true h6
        exact ⟨r, by rw [h7]⟩
      | _ => cases h6
/-- a property's getter: its class and name, and the def -/
structure GetD where
  cls : Str
  fld : Str
  name : Str
  qual : Str
  params : Arguments
  body : List Stmt
  scope : Scope
def GetD.seen (K : PySem.W.Frag) (d : GetD) : FnW := match K.lookup (prG K d.cls d.fld) with
  | some ⟨_, _, .func fd, _⟩ => some (fd.name, fd.qualname, fd.params, fd.body, fd.scope, fd.globals, fd.closure, fd.builtins)
  | _ => none
def GetD.val (d : GetD) : FnW := some (d.name, d.qual, d.params, .stmts d.body, d.scope, mainGlobals, [], builtinsNs)
def GetD.ok (K : PySem.W.Frag) (d : GetD) : Bool := propB K d.cls d.fld && (PySem.W.keepIn K (.ref (prG K d.cls d.fld)) && (match K.lookup (prG K d.cls d.fld) with
  | some ⟨_, _, .func fd, _⟩ => PySem.W.codeIn K fd.code d.qual && (dflB K fd.defaults [] && kwdB K fd.kwdefaults [])
  | _ => false))
theorem GetD.funD {K : PySem.W.Frag} {d : GetD} (e : d.seen K = d.val) (c : d.ok K = true) : PropOf K (ga K d.cls) d.fld (prA K d.cls d.fld) (prG K d.cls d.fld) ∧ ∃ fd, FunD K d.name d.qual d.params d.body d.scope [] [] (prG K d.cls d.fld) fd := by
  obtain ⟨c0, c1⟩ := ba c
  obtain ⟨kp, c2⟩ := ba c1
  refine ⟨propB_ok c0, ?_⟩
  unfold GetD.seen at e
  cases q : K.lookup (prG K d.cls d.fld) with
  | none =>
    rw [q] at c2
    cases c2
  | some o =>
    obtain ⟨oc, od, dt, osl⟩ := o
    rw [q] at c2 e
    cases dt with
    | func fd =>
      obtain ⟨n1, n2, n3, n4, n5, n6, n7, n8, n9, n10, n11, n12, n13, n14, n15⟩ := fd
      have e2 : (some (n1, n2, n3, n4, n5, n6, n7, n15) : FnW) = some (d.name, d.qual, d.params, .stmts d.body, d.scope, mainGlobals, [], builtinsNs) := e
      injection e2 with e2
      simp only [Prod.mk.injEq] at e2
      obtain ⟨a1, a2, a3, a4, a5, a6, a7, a8⟩ := e2
      subst a1 a2 a3 a4 a5 a6 a7 a8
      have c3 : (PySem.W.codeIn K n13 d.qual && (dflB K n8 [] && kwdB K n9 [])) = true := c2
      obtain ⟨k1, k2⟩ := ba c3
      obtain ⟨k3, k4⟩ := ba k2
      exact ⟨_, ⟨oc, od, n8, n9, n10, n11, n12, n13, n14, osl, rfl, q, k1, dflB_ok k3, kwdB_ok k4⟩, kp⟩
    | _ => cases c2
/-- the head of a law with properties and tables -/
abbrev AlP : Type := AlX × (Bool × List FnW)
def obsP (n : Nat) (fa : List Fa) (fn : List DefD) (gs : List GetD) (tf : List Defn) (ex : PySem.W.Frag → Bool) (g : Addr → Option Obj) : AlP := (obsX n fa fn [] tf ex g, (gs.all (GetD.ok (frT g (asD g n))), gs.map (GetD.seen (frT g (asD g n)))))
structure SaysP (fa : List Fa) (fn : List DefD) (gs : List GetD) (tf : List Defn) (ex : PySem.W.Frag → Bool) (w : World) (h : Heap) (K : PySem.W.Frag) : Prop where
  x : SaysX fa fn [] tf ex w h K
  ok : gs.all (GetD.ok K) = true
  seen : gs.map (GetD.seen K) = gs.map GetD.val
def hookP (n : Nat) (fa : List Fa) (fn : List DefD) (gs : List GetD) (tf : List Defn) (ex : PySem.W.Frag → Bool) : PySem.W.Hook where
  α := AlP
  obs := fun s => obsP n fa fn gs tf ex s.heap.get?
  val := fun w => (valX fn [] w, (true, gs.map GetD.val))
  says := fun w h => ∃ K : PySem.W.Frag, K.In h ∧ SaysP fa fn gs tf ex w h K
  of := fun _ _ e => ⟨_, frT_in, saysX_of (congrArg (fun z : AlP => z.1) e), congrArg (fun z : AlP => z.2.1) e, congrArg (fun z : AlP => z.2.2) e⟩
  keeps := fun _ _ _ ⟨K, hK, c⟩ k => ⟨K, PySem.W.Frag.In.keeps hK k, ⟨⟨c.x.t, c.x.more, c.x.hd, c.x.out, fun p hp => k _ _ (c.x.empty p hp)⟩, c.ok, c.seen⟩⟩
theorem obsP_eq {n : Nat} {fa : List Fa} {fn : List DefD} {gs : List GetD} {tf : List Defn} {ex : PySem.W.Frag → Bool} {g : Addr → Option Obj} {s : Shared} (h : ∀ a, g a = s.heap.get? a) : obsP n fa fn gs tf ex g = (hookP n fa fn gs tf ex).obs s := by
  have e : g = s.heap.get? := funext h
  rw [e] <;> rfl
theorem SaysP.get {fa : List Fa} {fn : List DefD} {gs : List GetD} {tf : List Defn} {ex : PySem.W.Frag → Bool} {w : World} {h : Heap} {K : PySem.W.Frag} (c : SaysP fa fn gs tf ex w h K) {d : GetD} (hd : d ∈ gs) :
    PropOf K (ga K d.cls) d.fld (prA K d.cls d.fld) (prG K d.cls d.fld) ∧ ∃ fd, FunD K d.name d.qual d.params d.body d.scope [] [] (prG K d.cls d.fld) fd := by
  obtain ⟨i, hi, e⟩ := List.mem_iff_getElem.mp hd
  have e1 := congrArg (fun l : List FnW => l[i]?) c.seen
  have e2 : gs[i]? = some d := by rw [List.getElem?_eq_getElem hi, e]
  simp only [List.getElem?_map, e2, Option.map_some, Option.some.injEq] at e1
  exact GetD.funD e1 (List.all_eq_true.mp c.ok d hd)
/-- a property in one piece -/
structure PrpX (P : Program) (w : World) (K : PySem.W.Frag) (mg : Str → Option Value) (base : Heap) (CX : CXT) (k : Nat) (C : Addr) (f : Str) (sp : Sp) : Prop where
  ex : ∃ (p g : Addr) (fd : FuncData) (ps : List Str), Cls K C ∧ PropOf K C f p g ∧ FnOk P w K mg base CX k g fd ps sp ∧ Binds K fd ps []
theorem pe_prpX {X : Cx} {CX : CXT} {k j : Nat} {C : Addr} {f : Str} {sp : Sp} {E : XK} {e : Expr} {pos : Pos} {ta : TE} (c : PrpX X.prog X.w X.K X.mg X.base CX k C f sp) (hr : Room j X.A) (hk : k + 1 ≤ j) (hx : Passes CX X.nox E) (he : PE X e ta)
    (hab : attributeBase e f X.env (eval e X.env) = eval e X.env := by rfl) : PE X (.Attribute e f pos) (tProp C sp [] E ta) := by
  obtain ⟨p, g, fd, ps, cl, hp, F, b⟩ := c.ex
  exact pe_prop he cl hp F (hr.mono hk) b .nil hx hab
end RD

namespace My
open PySem PySem.Spec PyProof.Rows L2 He RD
open PySem PySem.Spec PyProof.Rows L2 He RD
def top (i : Nat) : Stmt := PySem.Challenge.pw_livingroll_k01_first_seat_and_arc.main.body.getD i (.Pass ⟨0, 0, 0, 0⟩)
abbrev R : PySem.W.OpenRow := PySem.W.OpenLaw.row PySem.Challenge.rw_livingroll_k01_first_seat_and_arc
abbrev s_whole : Stmt := (top 5)
abbrev n_whole : List Str := ["value", "low", "high"]
abbrev p_whole : List Str := ["value", "low", "high"]
theorem sc_whole : FnScope n_whole p_whole (defScope s_whole) := ⟨rfl, rfl, rfl, by decide +kernel, rfl, by decide +kernel, by decide +kernel⟩
def d_whole : DefD := ⟨("whole", none), "whole", "whole", defArgs s_whole, defBody s_whole, defScope s_whole, [], []⟩
abbrev s_Setting_init : Stmt := (inClass (top 6) 5)
abbrev n_Setting_init : List Str := ["self", "bits", "patience", "room", "grace", "helpers"]
abbrev p_Setting_init : List Str := ["self", "bits", "patience", "room", "grace", "helpers"]
theorem sc_Setting_init : FnScope n_Setting_init p_Setting_init (defScope s_Setting_init) := ⟨rfl, rfl, rfl, by decide +kernel, rfl, by decide +kernel, by decide +kernel⟩
def d_Setting_init : DefD := ⟨("Setting", some "__init__"), "__init__", "Setting.__init__", defArgs s_Setting_init, defBody s_Setting_init, defScope s_Setting_init, [], [("grace", .int 6), ("helpers", .int 1)]⟩
abbrev s_Setting_seats : Stmt := (inClass (top 6) 7)
abbrev n_Setting_seats : List Str := ["self"]
abbrev p_Setting_seats : List Str := ["self"]
theorem sc_Setting_seats : FnScope n_Setting_seats p_Setting_seats (defScope s_Setting_seats) := ⟨rfl, rfl, rfl, by decide +kernel, rfl, by decide +kernel, by decide +kernel⟩
def g_Setting_seats : GetD := ⟨"Setting", "seats", "seats", "Setting.seats", defArgs s_Setting_seats, defBody s_Setting_seats, defScope s_Setting_seats⟩
abbrev s_distance : Stmt := (top 7)
abbrev n_distance : List Str := ["setting", "seat", "other"]
abbrev p_distance : List Str := ["setting", "seat", "other"]
theorem sc_distance : FnScope n_distance p_distance (defScope s_distance) := ⟨rfl, rfl, rfl, by decide +kernel, rfl, by decide +kernel, by decide +kernel⟩
def d_distance : DefD := ⟨("distance", none), "distance", "distance", defArgs s_distance, defBody s_distance, defScope s_distance, [], []⟩
abbrev s_first_from : Stmt := (top 8)
abbrev n_first_from : List Str := ["setting", "place", "held"]
abbrev p_first_from : List Str := ["setting", "place", "held"]
theorem sc_first_from : FnScope n_first_from p_first_from (defScope s_first_from) := ⟨rfl, rfl, rfl, by decide +kernel, rfl, by decide +kernel, by decide +kernel⟩
def d_first_from : DefD := ⟨("first_from", none), "first_from", "first_from", defArgs s_first_from, defBody s_first_from, defScope s_first_from, [], []⟩
abbrev s_arc : Stmt := (top 9)
abbrev n_arc : List Str := ["setting", "low", "high", "held", "start", "length", "met", "seat"]
abbrev p_arc : List Str := ["setting", "low", "high", "held"]
theorem sc_arc : FnScope n_arc p_arc (defScope s_arc) := ⟨rfl, rfl, rfl, by decide +kernel, rfl, by decide +kernel, by decide +kernel⟩
def d_arc : DefD := ⟨("arc", none), "arc", "arc", defArgs s_arc, defBody s_arc, defScope s_arc, [], []⟩
abbrev s_l_bag : Stmt := (top 11)
abbrev n_l_bag : List Str := ["_law_script", "_law_cells"]
abbrev p_l_bag : List Str := ["_law_script"]
theorem sc_l_bag : FnScope n_l_bag p_l_bag (defScope s_l_bag) := ⟨rfl, rfl, rfl, by decide +kernel, rfl, by decide +kernel, by decide +kernel⟩
def d_l_bag : DefD := ⟨("_law_bag", none), "_law_bag", "_law_bag", defArgs s_l_bag, defBody s_l_bag, defScope s_l_bag, [], []⟩
abbrev s_l_mixed : Stmt := (top 12)
abbrev n_l_mixed : List Str := ["_law_cell", "_law_turn", "_law_first", "_law_other"]
abbrev p_l_mixed : List Str := ["_law_cell", "_law_turn"]
theorem sc_l_mixed : FnScope n_l_mixed p_l_mixed (defScope s_l_mixed) := ⟨rfl, rfl, rfl, by decide +kernel, rfl, by decide +kernel, by decide +kernel⟩
def d_l_mixed : DefD := ⟨("_law_mixed", none), "_law_mixed", "_law_mixed", defArgs s_l_mixed, defBody s_l_mixed, defScope s_l_mixed, [], []⟩
abbrev s_l_wide : Stmt := (top 13)
abbrev n_l_wide : List Str := ["_law_cell", "_law_turn", "_law_many", "_law_number", "_law_k"]
abbrev p_l_wide : List Str := ["_law_cell", "_law_turn", "_law_many"]
theorem sc_l_wide : FnScope n_l_wide p_l_wide (defScope s_l_wide) := ⟨rfl, rfl, rfl, by decide +kernel, rfl, by decide +kernel, by decide +kernel⟩
def d_l_wide : DefD := ⟨("_law_wide", none), "_law_wide", "_law_wide", defArgs s_l_wide, defBody s_l_wide, defScope s_l_wide, [], []⟩
abbrev s_l_pick : Stmt := (top 14)
abbrev n_l_pick : List Str := ["_law_bag_here", "_law_many", "_law_cell", "_law_digit"]
abbrev p_l_pick : List Str := ["_law_bag_here", "_law_many"]
theorem sc_l_pick : FnScope n_l_pick p_l_pick (defScope s_l_pick) := ⟨rfl, rfl, rfl, by decide +kernel, rfl, by decide +kernel, by decide +kernel⟩
def d_l_pick : DefD := ⟨("_law_pick", none), "_law_pick", "_law_pick", defArgs s_l_pick, defBody s_l_pick, defScope s_l_pick, [], []⟩
abbrev s_l_whole : Stmt := (top 15)
abbrev n_l_whole : List Str := ["_law_value"]
abbrev p_l_whole : List Str := ["_law_value"]
theorem sc_l_whole : FnScope n_l_whole p_l_whole (defScope s_l_whole) := ⟨rfl, rfl, rfl, by decide +kernel, rfl, by decide +kernel, by decide +kernel⟩
def d_l_whole : DefD := ⟨("_law_whole", none), "_law_whole", "_law_whole", defArgs s_l_whole, defBody s_l_whole, defScope s_l_whole, [], []⟩
abbrev s_l_ring : Stmt := (top 16)
abbrev n_l_ring : List Str := ["_law_bits", "_law_ring_here", "_law_k"]
abbrev p_l_ring : List Str := ["_law_bits"]
theorem sc_l_ring : FnScope n_l_ring p_l_ring (defScope s_l_ring) := ⟨rfl, rfl, rfl, by decide +kernel, rfl, by decide +kernel, by decide +kernel⟩
def d_l_ring : DefD := ⟨("_law_ring", none), "_law_ring", "_law_ring", defArgs s_l_ring, defBody s_l_ring, defScope s_l_ring, [], []⟩
abbrev s_l_setting : Stmt := (top 17)
abbrev n_l_setting : List Str := ["_law_bag_here", "_law_bits"]
abbrev p_l_setting : List Str := ["_law_bag_here", "_law_bits"]
theorem sc_l_setting : FnScope n_l_setting p_l_setting (defScope s_l_setting) := ⟨rfl, rfl, rfl, by decide +kernel, rfl, by decide +kernel, by decide +kernel⟩
def d_l_setting : DefD := ⟨("_law_setting", none), "_law_setting", "_law_setting", defArgs s_l_setting, defBody s_l_setting, defScope s_l_setting, [], []⟩
abbrev s_l_held : Stmt := (top 18)
abbrev n_l_held : List Str := ["_law_bag_here", "_law_ring_here", "_law_kind", "_law_count", "_law_pool", "_law_held_here", "_law_k", "_law_seat"]
abbrev p_l_held : List Str := ["_law_bag_here", "_law_ring_here"]
theorem sc_l_held : FnScope n_l_held p_l_held (defScope s_l_held) := ⟨rfl, rfl, rfl, by decide +kernel, rfl, by decide +kernel, by decide +kernel⟩
def d_l_held : DefD := ⟨("_law_held", none), "_law_held", "_law_held", defArgs s_l_held, defBody s_l_held, defScope s_l_held, [], []⟩
abbrev s_l_place : Stmt := (top 19)
abbrev n_l_place : List Str := ["_law_bag_here", "_law_ring_here", "_law_kind", "_law_seat"]
abbrev p_l_place : List Str := ["_law_bag_here", "_law_ring_here"]
theorem sc_l_place : FnScope n_l_place p_l_place (defScope s_l_place) := ⟨rfl, rfl, rfl, by decide +kernel, rfl, by decide +kernel, by decide +kernel⟩
def d_l_place : DefD := ⟨("_law_place", none), "_law_place", "_law_place", defArgs s_l_place, defBody s_l_place, defScope s_l_place, [], []⟩
abbrev s_l_end : Stmt := (top 20)
abbrev n_l_end : List Str := ["_law_bag_here", "_law_ring_here", "_law_low"]
abbrev p_l_end : List Str := ["_law_bag_here", "_law_ring_here", "_law_low"]
theorem sc_l_end : FnScope n_l_end p_l_end (defScope s_l_end) := ⟨rfl, rfl, rfl, by decide +kernel, rfl, by decide +kernel, by decide +kernel⟩
def d_l_end : DefD := ⟨("_law_end", none), "_law_end", "_law_end", defArgs s_l_end, defBody s_l_end, defScope s_l_end, [], []⟩
abbrev s_l_flags : Stmt := (top 21)
abbrev n_l_flags : List Str := ["_law_ring_here", "_law_held_here", "_law_flags_here", "_law_seat", "_law_k"]
abbrev p_l_flags : List Str := ["_law_ring_here", "_law_held_here"]
theorem sc_l_flags : FnScope n_l_flags p_l_flags (defScope s_l_flags) := ⟨rfl, rfl, rfl, by decide +kernel, rfl, by decide +kernel, by decide +kernel⟩
def d_l_flags : DefD := ⟨("_law_flags", none), "_law_flags", "_law_flags", defArgs s_l_flags, defBody s_l_flags, defScope s_l_flags, [], []⟩
abbrev s_l_walk : Stmt := (top 22)
abbrev n_l_walk : List Str := ["_law_ring_here", "_law_start", "_law_count", "_law_held_here", "_law_flags_here", "_law_met", "_law_k", "_law_seat"]
abbrev p_l_walk : List Str := ["_law_ring_here", "_law_start", "_law_count", "_law_held_here"]
theorem sc_l_walk : FnScope n_l_walk p_l_walk (defScope s_l_walk) := ⟨rfl, rfl, rfl, by decide +kernel, rfl, by decide +kernel, by decide +kernel⟩
def d_l_walk : DefD := ⟨("_law_walk", none), "_law_walk", "_law_walk", defArgs s_l_walk, defBody s_l_walk, defScope s_l_walk, [], []⟩
abbrev s_l_first_right : Stmt := (top 23)
abbrev n_l_first_right : List Str := ["_law_setting_here", "_law_ring_here", "_law_place_here", "_law_held_here", "_law_passed", "_law_shown", "_law_met"]
abbrev p_l_first_right : List Str := ["_law_setting_here", "_law_ring_here", "_law_place_here", "_law_held_here"]
theorem sc_l_first_right : FnScope n_l_first_right p_l_first_right (defScope s_l_first_right) := ⟨rfl, rfl, rfl, by decide +kernel, rfl, by decide +kernel, by decide +kernel⟩
def d_l_first_right : DefD := ⟨("_law_first_right", none), "_law_first_right", "_law_first_right", defArgs s_l_first_right, defBody s_l_first_right, defScope s_l_first_right, [], []⟩
abbrev s_l_is_list : Stmt := (top 24)
abbrev n_l_is_list : List Str := ["_law_shown", "_law_wanted", "_law_k"]
abbrev p_l_is_list : List Str := ["_law_shown", "_law_wanted"]
theorem sc_l_is_list : FnScope n_l_is_list p_l_is_list (defScope s_l_is_list) := ⟨rfl, rfl, rfl, by decide +kernel, rfl, by decide +kernel, by decide +kernel⟩
def d_l_is_list : DefD := ⟨("_law_is_list", none), "_law_is_list", "_law_is_list", defArgs s_l_is_list, defBody s_l_is_list, defScope s_l_is_list, [], []⟩
abbrev s_l_arc_right : Stmt := (top 25)
abbrev n_l_arc_right : List Str := ["_law_setting_here", "_law_ring_here", "_law_low", "_law_high", "_law_held_here", "_law_passed", "_law_count", "_law_wanted", "_law_shown"]
abbrev p_l_arc_right : List Str := ["_law_setting_here", "_law_ring_here", "_law_low", "_law_high", "_law_held_here"]
theorem sc_l_arc_right : FnScope n_l_arc_right p_l_arc_right (defScope s_l_arc_right) := ⟨rfl, rfl, rfl, by decide +kernel, rfl, by decide +kernel, by decide +kernel⟩
def d_l_arc_right : DefD := ⟨("_law_arc_right", none), "_law_arc_right", "_law_arc_right", defArgs s_l_arc_right, defBody s_l_arc_right, defScope s_l_arc_right, [], []⟩
abbrev s_l_distance_right : Stmt := (top 26)
abbrev n_l_distance_right : List Str := ["_law_setting_here", "_law_ring_here", "_law_place_here", "_law_seat", "_law_shown", "_law_gap"]
abbrev p_l_distance_right : List Str := ["_law_setting_here", "_law_ring_here", "_law_place_here", "_law_seat"]
theorem sc_l_distance_right : FnScope n_l_distance_right p_l_distance_right (defScope s_l_distance_right) := ⟨rfl, rfl, rfl, by decide +kernel, rfl, by decide +kernel, by decide +kernel⟩
def d_l_distance_right : DefD := ⟨("_law_distance_right", none), "_law_distance_right", "_law_distance_right", defArgs s_l_distance_right, defBody s_l_distance_right, defScope s_l_distance_right, [], []⟩
abbrev s_l_asked : Stmt := (top 27)
abbrev n_l_asked : List Str := ["_law_setting_here", "_law_ring_here", "_law_low", "_law_high", "_law_held_here", "_law_seat"]
abbrev p_l_asked : List Str := ["_law_setting_here", "_law_ring_here", "_law_low", "_law_high", "_law_held_here"]
theorem sc_l_asked : FnScope n_l_asked p_l_asked (defScope s_l_asked) := ⟨rfl, rfl, rfl, by decide +kernel, rfl, by decide +kernel, by decide +kernel⟩
def d_l_asked : DefD := ⟨("_law_asked", none), "_law_asked", "_law_asked", defArgs s_l_asked, defBody s_l_asked, defScope s_l_asked, [], []⟩
abbrev s_law : Stmt := (top 28)
abbrev n_law : List Str := ["_law_script", "_law_bag_here", "_law_bits", "_law_ring_here", "_law_low", "_law_high", "_law_held_here", "_law_other", "_law_seat", "_law_near", "_law_wide_here", "_law_wide_ring"]
abbrev p_law : List Str := ["_law_script"]
theorem sc_law : FnScope n_law p_law (defScope s_law) := ⟨rfl, rfl, rfl, by decide +kernel, rfl, by decide +kernel, by decide +kernel⟩
def d_law : DefD := ⟨("law", none), "law", "law", defArgs s_law, defBody s_law, defScope s_law, [], []⟩
def fn : List DefD := [d_whole, d_Setting_init, d_distance, d_first_from, d_arc, d_l_bag, d_l_mixed, d_l_wide, d_l_pick, d_l_whole, d_l_ring, d_l_setting, d_l_held, d_l_place, d_l_end, d_l_flags, d_l_walk, d_l_first_right, d_l_is_list, d_l_arc_right, d_l_distance_right, d_l_asked, d_law]
def fa : List Fa := [.free "bool", .free "int", .free "isinstance", .free "len", .free "list", .free "min", .free "range", .free "sorted", .free "sum", .glo "whole", .glo "distance", .glo "first_from", .glo "arc", .glo "_law_bag", .glo "_law_mixed", .glo "_law_wide", .glo "_law_pick", .glo "_law_whole", .glo "_law_ring", .glo "_law_setting", .glo "_law_held", .glo "_law_place", .glo "_law_end", .glo "_law_flags", .glo "_law_walk", .glo "_law_first_right", .glo "_law_is_list", .glo "_law_arc_right", .glo "_law_distance_right", .glo "_law_asked", .glo "law", .glo "Setting", .cls "Setting", .mkr "Setting", .noat "Setting" "bits", .noat "Setting" "patience", .noat "Setting" "room", .noat "Setting" "grace", .noat "Setting" "helpers"]
def ex (K : PySem.W.Frag) : Bool := decide ((He.cT K d_first_from.at_).2 ≠ (He.cT K d_arc.at_).2) && (conB K "Setting" "MOST_BITS" (.int 8) && (conB K "Setting" "MOST_PATIENCE" (.int 6) && (conB K "Setting" "MOST_ROOM" (.int 64) && (conB K "Setting" "MOST_GRACE" (.int 200) && (conB K "Setting" "MOST_HELPERS" (.int 3))))))
def tf : List He.Defn := [d_first_from.at_, d_arc.at_]
def gs : List GetD := [g_Setting_seats]
abbrev TT (K : PySem.W.Frag) : List (Addr × Str) := [((He.cT K d_first_from.at_).2, "first_from.<locals>.<lambda>"), ((He.cT K d_arc.at_).2, "arc.<locals>.<lambda>")]
structure Tb (K : PySem.W.Frag) (mg : Str → Option Value) (base : Heap) : Prop where
  t : ∀ p, p ∈ tf.map (He.cT K) → LamX.TabB base mg p.1 p.2
  g : ∀ d, d ∈ gs → PropOf K (ga K d.cls) d.fld (prA K d.cls d.fld) (prG K d.cls d.fld) ∧ ∃ fd, FunD K d.name d.qual d.params d.body d.scope [] [] (prG K d.cls d.fld) fd
abbrev Cx (K : PySem.W.Frag) (mg : Str → Option Value) : Prop := RD.Ctx fa fn ex K mg
section
variable {K : PySem.W.Frag} {mg : Str → Option Value}
theorem fr_bool (T : Cx K mg) : mg "bool" = none := T.fre 0
theorem fr_int (T : Cx K mg) : mg "int" = none := T.fre 1
theorem fr_isinstance (T : Cx K mg) : mg "isinstance" = none := T.fre 2
theorem fr_len (T : Cx K mg) : mg "len" = none := T.fre 3
theorem fr_list (T : Cx K mg) : mg "list" = none := T.fre 4
theorem fr_min (T : Cx K mg) : mg "min" = none := T.fre 5
theorem fr_range (T : Cx K mg) : mg "range" = none := T.fre 6
theorem fr_sorted (T : Cx K mg) : mg "sorted" = none := T.fre 7
theorem fr_sum (T : Cx K mg) : mg "sum" = none := T.fre 8
theorem gl_whole (T : Cx K mg) : mg "whole" = some (.ref (ga K "whole")) := T.glo 9
theorem gl_distance (T : Cx K mg) : mg "distance" = some (.ref (ga K "distance")) := T.glo 10
theorem gl_first_from (T : Cx K mg) : mg "first_from" = some (.ref (ga K "first_from")) := T.glo 11
theorem gl_arc (T : Cx K mg) : mg "arc" = some (.ref (ga K "arc")) := T.glo 12
theorem gl_l_bag (T : Cx K mg) : mg "_law_bag" = some (.ref (ga K "_law_bag")) := T.glo 13
theorem gl_l_mixed (T : Cx K mg) : mg "_law_mixed" = some (.ref (ga K "_law_mixed")) := T.glo 14
theorem gl_l_wide (T : Cx K mg) : mg "_law_wide" = some (.ref (ga K "_law_wide")) := T.glo 15
theorem gl_l_pick (T : Cx K mg) : mg "_law_pick" = some (.ref (ga K "_law_pick")) := T.glo 16
theorem gl_l_whole (T : Cx K mg) : mg "_law_whole" = some (.ref (ga K "_law_whole")) := T.glo 17
theorem gl_l_ring (T : Cx K mg) : mg "_law_ring" = some (.ref (ga K "_law_ring")) := T.glo 18
theorem gl_l_setting (T : Cx K mg) : mg "_law_setting" = some (.ref (ga K "_law_setting")) := T.glo 19
theorem gl_l_held (T : Cx K mg) : mg "_law_held" = some (.ref (ga K "_law_held")) := T.glo 20
theorem gl_l_place (T : Cx K mg) : mg "_law_place" = some (.ref (ga K "_law_place")) := T.glo 21
theorem gl_l_end (T : Cx K mg) : mg "_law_end" = some (.ref (ga K "_law_end")) := T.glo 22
theorem gl_l_flags (T : Cx K mg) : mg "_law_flags" = some (.ref (ga K "_law_flags")) := T.glo 23
theorem gl_l_walk (T : Cx K mg) : mg "_law_walk" = some (.ref (ga K "_law_walk")) := T.glo 24
theorem gl_l_first_right (T : Cx K mg) : mg "_law_first_right" = some (.ref (ga K "_law_first_right")) := T.glo 25
theorem gl_l_is_list (T : Cx K mg) : mg "_law_is_list" = some (.ref (ga K "_law_is_list")) := T.glo 26
theorem gl_l_arc_right (T : Cx K mg) : mg "_law_arc_right" = some (.ref (ga K "_law_arc_right")) := T.glo 27
theorem gl_l_distance_right (T : Cx K mg) : mg "_law_distance_right" = some (.ref (ga K "_law_distance_right")) := T.glo 28
theorem gl_l_asked (T : Cx K mg) : mg "_law_asked" = some (.ref (ga K "_law_asked")) := T.glo 29
theorem gl_law (T : Cx K mg) : mg "law" = some (.ref (ga K "law")) := T.glo 30
theorem gl_Setting (T : Cx K mg) : mg "Setting" = some (.ref (ga K "Setting")) := T.glo 31
theorem cl_Setting (T : Cx K mg) : Cls K (ga K "Setting") := T.cls 32
theorem mk_Setting (T : Cx K mg) : Mk K (ga K "Setting") (ma K (ga K "Setting") "__init__") := T.mkr 33
theorem na_Setting_bits (T : Cx K mg) : NoAttr K (ga K "Setting") "bits" := T.noat 34
theorem na_Setting_patience (T : Cx K mg) : NoAttr K (ga K "Setting") "patience" := T.noat 35
theorem na_Setting_room (T : Cx K mg) : NoAttr K (ga K "Setting") "room" := T.noat 36
theorem na_Setting_grace (T : Cx K mg) : NoAttr K (ga K "Setting") "grace" := T.noat 37
theorem na_Setting_helpers (T : Cx K mg) : NoAttr K (ga K "Setting") "helpers" := T.noat 38
end

structure Box (H : Hp) (p c : Addr) : Prop where
  ex : ∃ (ns : List Int) (a b d e : Int), H p = some (.lst [.ref c, .int a, .int b, .int d, .int e]) ∧ H c = some (.lst (ns.map V.int)) ∧ (ns ≠ [] ∧ 0 ≤ a) ∧ ns.length ≤ 63
  ne : c ≠ p
theorem Box.kp {H H' : Hp} {p c : Addr} {ps : List Addr} (B : Box H p c) (k : Kp ps H H') (n1 : p ∉ ps) (n2 : c ∉ ps) : Box H' p c := by
  obtain ⟨⟨ns, a, b, d, e, h1, h2, h3, h4⟩, ne⟩ := B
  exact ⟨⟨ns, a, b, d, e, k _ _ h1 n1, k _ _ h2 n2, h3, h4⟩, ne⟩
theorem Box.k0 {H H' : Hp} {p c : Addr} (B : Box H p c) (k : Kp [] H H') : Box H' p c := B.kp k (by simp) (by simp)
theorem Box.k1 {H H' : Hp} {p c q : Addr} (B : Box H p c) (k : Kp [q] H H') (n1 : p ≠ q) (n2 : c ≠ q) : Box H' p c := B.kp k (by simp [n1]) (by simp [n2])
theorem Box.new {H : Hp} {p c q : Addr} {o : HO} (B : Box H p c) (k : H q = none) : Box (upd H q o) p c := B.k0 (Kp.new k)
theorem Box.kt {H H' : Hp} {p c : Addr} {TT : List (Addr × Str)} (B : Box H p c) (k : Kt TT [] H H') : Box H' p c := by
  obtain ⟨⟨ns, a, b, d, e, h1, h2, h3, h4⟩, ne⟩ := B
  exact ⟨⟨ns, a, b, d, e, k.g0 (by intro _ z; cases z) h1, k.g0 (by intro _ z; cases z) h2, h3, h4⟩, ne⟩
theorem Box.at {H : Hp} {p c : Addr} (B : Box H p c) : ∃ xs, H p = some (.lst xs) ∧ H c ≠ none := by
  obtain ⟨⟨ns, a, b, d, e, h1, h2, h3, h4⟩, ne⟩ := B
  exact ⟨_, h1, by rw [h2]; simp⟩
theorem Box.tabs {H H' : Hp} {p c : Addr} {TT : List (Addr × Str)} (B : Box H p c) (h : LamX.Tabs TT H) (k : Kp [p] H H') : LamX.Tabs TT H' := by
  obtain ⟨⟨ns, a, b, d, e, h1, h2, h3, h4⟩, ne⟩ := B
  exact tabs_kp h k fun q hq => by
    rw [List.mem_singleton.mp hq]
    exact ⟨_, h1, trivial⟩
theorem Box.ne1 {H : Hp} {p c q : Addr} (B : Box H p c) (k : H q = none) : p ≠ q := by
  obtain ⟨xs, h, _⟩ := B.at
  exact ne_of_none h k
theorem Box.ne2 {H : Hp} {p c q : Addr} (B : Box H p c) (k : H q = none) : c ≠ q := by
  obtain ⟨⟨ns, a, b, d, e, h1, h2, h3, h4⟩, ne⟩ := B
  exact ne_of_none h2 k

/-- the numbers of a setting -/
structure Stg where
  bits : Int
  pat : Int
  room : Int
  grace : Int
  hel : Int
structure Stg.Ok (s : Stg) : Prop where
  b0 : 1 ≤ s.bits
  b1 : s.bits ≤ 8
  p0 : 1 ≤ s.pat
  p1 : s.pat ≤ 6
  r0 : 1 ≤ s.room
  r1 : s.room ≤ 64
  g0 : 1 ≤ s.grace
  g1 : s.grace ≤ 200
  h0 : 0 ≤ s.hel
  h1 : s.hel ≤ 3
@[irreducible] def Stg.ring (s : Stg) : Int := 2 ^ s.bits.toNat
theorem Stg.ring_eq (s : Stg) : s.ring = 2 ^ s.bits.toNat := by
  unfold Stg.ring
  rfl
def Stg.fs (s : Stg) : List (Str × V) := [(("bits" : Str), .int s.bits), (("patience" : Str), .int s.pat), (("room" : Str), .int s.room), (("grace" : Str), .int s.grace), (("helpers" : Str), .int s.hel)]
theorem Stg.Ok.ring {s : Stg} (h : s.Ok) : s.ring = 2 ∨ s.ring = 4 ∨ s.ring = 8 ∨ s.ring = 16 ∨ s.ring = 32 ∨ s.ring = 64 ∨ s.ring = 128 ∨ s.ring = 256 := by
  have h0 := h.b0
  have h1 := h.b1
  have e : s.bits = 1 ∨ s.bits = 2 ∨ s.bits = 3 ∨ s.bits = 4 ∨ s.bits = 5 ∨ s.bits = 6 ∨ s.bits = 7 ∨ s.bits = 8 := by omega
  rw [Stg.ring_eq]
  rcases e with e | e | e | e | e | e | e | e <;> rw [e] <;> decide
theorem Stg.Ok.r2 {s : Stg} (h : s.Ok) : 2 ≤ s.ring := by
  have := h.ring
  omega
theorem Stg.Ok.r256 {s : Stg} (h : s.Ok) : s.ring ≤ 256 := by
  have := h.ring
  omega
/-- a setting stands at p -/
structure SetAt (K : PySem.W.Frag) (H : Hp) (p : Addr) (s : Stg) : Prop where
  ex : ∃ dx : Addr, H p = some (.ins (ga K "Setting") dx s.fs)
  ok : s.Ok
theorem SetAt.kp {K : PySem.W.Frag} {H H' : Hp} {p : Addr} {s : Stg} {ps : List Addr} (S : SetAt K H p s) (k : Kp ps H H') (n : p ∉ ps) : SetAt K H' p s := by
  obtain ⟨⟨dx, h⟩, ok⟩ := S
  exact ⟨⟨dx, k _ _ h n⟩, ok⟩
theorem SetAt.k0 {K : PySem.W.Frag} {H H' : Hp} {p : Addr} {s : Stg} (S : SetAt K H p s) (k : Kp [] H H') : SetAt K H' p s := S.kp k (by simp)
theorem SetAt.k1 {K : PySem.W.Frag} {H H' : Hp} {p q : Addr} {s : Stg} (S : SetAt K H p s) (k : Kp [q] H H') (n : p ≠ q) : SetAt K H' p s := S.kp k (by simp [n])
theorem SetAt.kt {K : PySem.W.Frag} {H H' : Hp} {p : Addr} {s : Stg} {TT : List (Addr × Str)} (S : SetAt K H p s) (k : Kt TT [] H H') : SetAt K H' p s := by
  obtain ⟨⟨dx, h⟩, ok⟩ := S
  exact ⟨⟨dx, k.g0 (by intro _ z; cases z) h⟩, ok⟩
theorem SetAt.nelst {K : PySem.W.Frag} {H : Hp} {p q : Addr} {s : Stg} {xs : List V} (S : SetAt K H p s) (h : H q = some (.lst xs)) : p ≠ q := by
  obtain ⟨⟨dx, e⟩, ok⟩ := S
  exact ne_of e h (by intro z; cases z)

theorem SetAt.neins {K : PySem.W.Frag} {H : Hp} {p q C dx : Addr} {s : Stg} {f : Str} {v : V} {fs : List (Str × V)} (S : SetAt K H p s) (h : H q = some (.ins C dx ((f, v) :: fs))) (n : f ≠ "bits") : p ≠ q := by
  obtain ⟨⟨dx, e⟩, ok⟩ := S
  refine ne_of e h fun z => ?_
  injection z with _ _ e1
  injection e1 with e2 _
  injection e2 with e3
  exact n e3.symm
theorem SetAt.neins' {K : PySem.W.Frag} {H : Hp} {p q C dx : Addr} {s : Stg} (S : SetAt K H p s) (h : H q = some (.ins C dx [])) : p ≠ q := by
  obtain ⟨⟨dx, e⟩, ok⟩ := S
  refine ne_of e h fun z => ?_
  injection z with _ _ e1
  cases e1
theorem SetAt.nedK {K : PySem.W.Frag} {H : Hp} {p q : Addr} {s : Stg} {xs : List (Key × V)} (S : SetAt K H p s) (h : H q = some (.dK xs)) : p ≠ q := by
  obtain ⟨⟨dx, e⟩, ok⟩ := S
  exact ne_of e h (by intro z; cases z)
theorem con_MOST_BITS {K : PySem.W.Frag} {mg : Str → Option Value} (T : Cx K mg) : ∃ u, Con K (ga K "Setting") "MOST_BITS" (.int 8) u := conB_ok (v := .int 8) (ba (ba T.ex).2).1
theorem con_MOST_PATIENCE {K : PySem.W.Frag} {mg : Str → Option Value} (T : Cx K mg) : ∃ u, Con K (ga K "Setting") "MOST_PATIENCE" (.int 6) u := conB_ok (v := .int 6) (ba (ba (ba T.ex).2).2).1
theorem con_MOST_ROOM {K : PySem.W.Frag} {mg : Str → Option Value} (T : Cx K mg) : ∃ u, Con K (ga K "Setting") "MOST_ROOM" (.int 64) u := conB_ok (v := .int 64) (ba (ba (ba (ba T.ex).2).2).2).1
theorem con_MOST_GRACE {K : PySem.W.Frag} {mg : Str → Option Value} (T : Cx K mg) : ∃ u, Con K (ga K "Setting") "MOST_GRACE" (.int 200) u := conB_ok (v := .int 200) (ba (ba (ba (ba (ba T.ex).2).2).2).2).1
theorem con_MOST_HELPERS {K : PySem.W.Frag} {mg : Str → Option Value} (T : Cx K mg) : ∃ u, Con K (ga K "Setting") "MOST_HELPERS" (.int 3) u := conB_ok (v := .int 3) (ba (ba (ba (ba (ba T.ex).2).2).2).2).2
def Ring (r : Int) : Prop := r = 2 ∨ r = 4 ∨ r = 8 ∨ r = 16 ∨ r = 32 ∨ r = 64 ∨ r = 128 ∨ r = 256
theorem Ring.pos {r : Int} (hr : Ring r) : 0 < r := by
  rcases hr with rfl | rfl | rfl | rfl | rfl | rfl | rfl | rfl <;> omega
theorem Ring.le {r : Int} (hr : Ring r) : r ≤ 256 := by
  rcases hr with rfl | rfl | rfl | rfl | rfl | rfl | rfl | rfl <;> omega
theorem key_inj {r a b c : Int} (hr : Ring r) (a0 : 0 ≤ a) (a1 : a < r) (b0 : 0 ≤ b) (b1 : b < r) (h : (a - c) % r = (b - c) % r) : a = b := by
  rcases hr with rfl | rfl | rfl | rfl | rfl | rfl | rfl | rfl <;> omega
theorem key_walk {r c i : Int} (hr : Ring r) (i0 : 0 ≤ i) (i1 : i < r) : ((c + i) % r - c) % r = i := by
  rcases hr with rfl | rfl | rfl | rfl | rfl | rfl | rfl | rfl <;> omega
theorem key_to {r a c : Int} (hr : Ring r) (a0 : 0 ≤ a) (a1 : a < r) : (c + (a - c) % r) % r = a := by
  rcases hr with rfl | rfl | rfl | rfl | rfl | rfl | rfl | rfl <;> omega
/-- the seats of xs that a walk of n steps from the start meets -/
def walkM (r start : Int) (n : Nat) (xs : List Int) : List Int := ((List.range n).map fun (k : Nat) => (start + (k : Int)) % r).filter fun x => decide (x ∈ xs)
theorem mem_walkM {r start x : Int} {n : Nat} {xs : List Int} (hr : Ring r) (hn : (n : Int) ≤ r) (hx : ∀ z, z ∈ xs → 0 ≤ z ∧ z < r) : x ∈ walkM r start n xs ↔ x ∈ xs ∧ (x - start) % r < n := by
  unfold walkM
  have rp := hr.pos
  simp only [List.mem_filter, List.mem_map, List.mem_range, decide_eq_true_eq]
  constructor
  · rintro ⟨⟨i, h1, rfl⟩, h2⟩
    exact ⟨h2, by rw [key_walk hr (by omega) (by omega)]; omega⟩
  · rintro ⟨h1, h2⟩
    have x1 := hx x h1
    have k0 := Int.emod_nonneg (x - start) (show r ≠ 0 by omega)
    exact ⟨⟨((x - start) % r).toNat, by omega, by rw [Int.toNat_of_nonneg k0]; exact key_to hr x1.1 x1.2⟩, h1⟩
theorem walkM_up {r start : Int} {n : Nat} {xs : List Int} (hr : Ring r) (hn : (n : Int) ≤ r) : (walkM r start n xs).Pairwise fun a b => (a - start) % r < (b - start) % r := by
  unfold walkM
  refine List.Pairwise.filter _ ?_
  rw [List.pairwise_map]
  refine List.Pairwise.imp_of_mem (fun {a b} ha hb h => ?_) List.pairwise_lt_range
  rw [List.mem_range] at ha hb
  rw [key_walk hr (by omega) (by omega), key_walk hr (by omega) (by omega)]
  omega
theorem walkM_len {r start : Int} {n : Nat} {xs : List Int} : (walkM r start n xs).length ≤ n := by
  unfold walkM
  have h := List.length_filter_le (fun x => decide (x ∈ xs)) ((List.range n).map fun (k : Nat) => (start + (k : Int)) % r)
  rw [List.length_map, List.length_range] at h
  exact h
def arcL (r low high : Int) (xs : List Int) : List Int := (xs.filter fun x => decide ((x - (low + 1)) % r ≤ (high - (low + 1)) % r)).mergeSort fun a b => decide ((a - (low + 1)) % r ≤ (b - (low + 1)) % r)
theorem arc_walk {r low high : Int} {n : Nat} {xs : List Int} (hr : Ring r) (nd : xs.Nodup) (hx : ∀ z, z ∈ xs → 0 ≤ z ∧ z < r) (hn : (n : Int) = if (high - low) % r = 0 then r else (high - low) % r) : arcL r low high xs = walkM r (low + 1) n xs := by
  have rp := hr.pos
  have m1 := Int.emod_lt_of_pos (high - low) rp
  have m0 := Int.emod_nonneg (high - low) (show r ≠ 0 by omega)
  have hnr : (n : Int) ≤ r := by
    rw [hn]
    split <;> omega
  have hk : (high - (low + 1)) % r = (n : Int) - 1 := by
    rw [hn]
    rcases hr with rfl | rfl | rfl | rfl | rfl | rfl | rfl | rfl <;> split <;> omega
  have up := walkM_up (start := low + 1) (xs := xs) hr hnr
  have hm : ∀ x, x ∈ (xs.filter fun x => decide ((x - (low + 1)) % r ≤ (high - (low + 1)) % r)) ↔ x ∈ walkM r (low + 1) n xs := fun x => by
    rw [mem_walkM hr hnr hx, List.mem_filter, decide_eq_true_eq, hk]
    constructor
    · rintro ⟨a, b⟩
      exact ⟨a, by omega⟩
    · rintro ⟨a, b⟩
      exact ⟨a, by omega⟩
  have pm : (xs.filter fun x => decide ((x - (low + 1)) % r ≤ (high - (low + 1)) % r)).Perm (walkM r (low + 1) n xs) := by
    refine (List.perm_ext_iff_of_nodup ?_ ?_).mpr hm
    · exact List.Pairwise.filter _ nd
    · exact up.imp fun h e => by subst e; omega
  unfold arcL
  refine List.Perm.eq_of_pairwise (le := fun a b => (a - (low + 1)) % r ≤ (b - (low + 1)) % r) (fun a b ha hb e1 e2 => ?_) ?_ ?_ ((List.mergeSort_perm _ _).trans pm)
  · have ha := (List.mem_filter.mp ((List.mergeSort_perm _ _).mem_iff.mp ha)).1
    have hb := ((mem_walkM hr hnr hx).mp hb).1
    exact key_inj (c := low + 1) hr (hx a ha).1 (hx a ha).2 (hx b hb).1 (hx b hb).2 (by omega)
  · refine (List.pairwise_mergeSort (fun a b c => ?_) (fun a b => ?_) _).imp fun h => of_decide_eq_true h
    · simp only [decide_eq_true_eq]
      omega
    · simp only [Bool.or_eq_true, decide_eq_true_eq]
      omega
  · exact up.imp fun h => by omega
theorem first_walk {r place b : Int} {xs : List Int} (hr : Ring r) (hx : ∀ z, z ∈ xs → 0 ≤ z ∧ z < r) (hb : b ∈ xs) (hle : ∀ z, z ∈ xs → (b - place) % r ≤ (z - place) % r) : ∃ l, walkM r place r.toNat xs = b :: l := by
  have rp := hr.pos
  have hnr : (r.toNat : Int) ≤ r := by omega
  have up := walkM_up (start := place) (xs := xs) hr hnr
  have mb : b ∈ walkM r place r.toNat xs := (mem_walkM hr hnr hx).mpr ⟨hb, by
    have := Int.emod_lt_of_pos (b - place) rp
    omega⟩
  have mx : ∀ z, z ∈ walkM r place r.toNat xs → z ∈ xs := fun z hz => ((mem_walkM hr hnr hx).mp hz).1
  generalize walkM r place r.toNat xs = L at *
  cases L with
  | nil => cases mb
  | cons a l =>
    have ha := mx a (.head _)
    rcases List.mem_cons.mp mb with e | e
    · exact ⟨l, by rw [e]⟩
    · have h1 := List.rel_of_pairwise_cons up e
      have h2 := hle a ha
      omega
theorem walk_nil {r place : Int} {n : Nat} : walkM r place n [] = [] := by
  unfold walkM
  rw [List.filter_eq_nil_iff]
  intro a _
  simp
def flagsL (n : Nat) (xs : List Int) : List Bool := (List.range n).map fun (i : Nat) => decide ((i : Int) ∈ xs)
theorem flagsL_len {n : Nat} {xs : List Int} : (flagsL n xs).length = n := by
  unfold flagsL
  rw [List.length_map, List.length_range]
theorem flagsL_at {n : Nat} {xs : List Int} {i : Nat} (h : i < n) : (flagsL n xs).getD i false = decide ((i : Int) ∈ xs) := by
  unfold flagsL
  rw [List.getD_eq_getElem?_getD, List.getElem?_map, List.getElem?_range h]
  rfl
theorem flagsL_set {n : Nat} {xs : List Int} {k : Nat} : (flagsL n xs).set k true = flagsL n (xs ++ [(k : Int)]) := by
  apply List.ext_getElem?
  intro i
  rw [List.getElem?_set, flagsL_len]
  unfold flagsL
  rw [List.getElem?_map, List.getElem?_map]
  by_cases h : k = i
  · subst h
    by_cases h2 : k < n
    · rw [if_pos rfl, if_pos h2, List.getElem?_range h2]
      simp
    · rw [if_pos rfl, if_neg h2, List.getElem?_eq_none (by rw [List.length_range]; omega)]
      rfl
  · rw [if_neg h]
    by_cases h2 : i < n
    · rw [List.getElem?_range h2]
      simp only [Option.map_some, List.mem_append, List.mem_singleton]
      have e : ¬ (i : Int) = (k : Int) := by omega
      simp [e]
    · rw [List.getElem?_eq_none (by rw [List.length_range]; omega)]
      rfl
theorem gap_ok {r a b : Int} (rp : 0 < r) : (b - a - (b - a) % r) / r * r = b - a - (b - a) % r := by
  rw [Int.ediv_mul_cancel]
  exact Int.dvd_self_sub_emod
theorem perm_pop {xs ps : List Int} {k : Nat} (h : k < ps.length) : (xs ++ [ps[k]] ++ ps.eraseIdx k).Perm (xs ++ ps) := by
  rw [List.append_assoc]
  refine List.Perm.append_left xs ?_
  have e : ps = ps.take k ++ ps[k] :: ps.drop (k + 1) := by
    rw [← List.drop_eq_getElem_cons h, List.take_append_drop]
  conv => rhs; rw [e]
  rw [List.eraseIdx_eq_take_drop_succ]
  show (ps[k] :: (ps.take k ++ ps.drop (k + 1))).Perm _
  exact List.perm_middle.symm

theorem atI_bls {bs : List Bool} {i : Int} (h0 : 0 ≤ i) (h1 : i < bs.length) : atI (bs.map V.bl) i = some (.bl (bs.getD i.toNat false)) := by
  obtain ⟨j, rfl⟩ := Int.eq_ofNat_of_zero_le h0
  refine atI_nat ?_
  have hj : j < bs.length := by omega
  rw [List.getElem?_map, List.getElem?_eq_getElem hj]
  simp [hj]

theorem lamU_first_from {K : PySem.W.Frag} {mg : Str → Option Value} (T : Cx K mg) : ∀ p ∈ TT K, p.1 = (He.cT K d_first_from.at_).2 → p.2 = "first_from.<locals>.<lambda>" := fun p hp e => by
  rcases List.mem_cons.mp hp with rfl | hp
  · rfl
  · rw [List.mem_singleton.mp hp] at e
    exact absurd e.symm (of_decide_eq_true (ba T.ex).1)
theorem lamU_arc {K : PySem.W.Frag} {mg : Str → Option Value} (T : Cx K mg) : ∀ p ∈ TT K, p.1 = (He.cT K d_arc.at_).2 → p.2 = "arc.<locals>.<lambda>" := fun p hp e => by
  rcases List.mem_cons.mp hp with rfl | hp
  · exact absurd e (of_decide_eq_true (ba T.ex).1)
  · rw [List.mem_singleton.mp hp]
theorem map_eraseIdx' {α β : Type} {f : α → β} {l : List α} {k : Nat} : (l.map f).eraseIdx k = (l.eraseIdx k).map f := by
  rw [List.eraseIdx_eq_take_drop_succ, List.eraseIdx_eq_take_drop_succ, List.map_append, List.map_take, List.map_drop]
theorem ring_pow {b : Int} (h0 : 1 ≤ b) (h1 : b ≤ 8) : Ring (2 ^ b.toNat) := by
  have e : b = 1 ∨ b = 2 ∨ b = 3 ∨ b = 4 ∨ b = 5 ∨ b = 6 ∨ b = 7 ∨ b = 8 := by omega
  unfold Ring
  rcases e with e | e | e | e | e | e | e | e <;> rw [e] <;> decide
/-- a list of seats of the ring -/
structure Seats (H : Hp) (l : Addr) (r : Int) (xs : List Int) : Prop where
  at_ : H l = some (.lst (xs.map V.int))
  nd : xs.Nodup
  rng : ∀ z, z ∈ xs → 0 ≤ z ∧ z < r
  len : xs.length ≤ 256
theorem Seats.kt {H H' : Hp} {l : Addr} {r : Int} {xs : List Int} {TT : List (Addr × Str)} (S : Seats H l r xs) (k : Kt TT [] H H') : Seats H' l r xs := ⟨k.g0 (by intro _ z; cases z) S.at_, S.nd, S.rng, S.len⟩
theorem Seats.kp {H H' : Hp} {l : Addr} {r : Int} {xs : List Int} {ps : List Addr} (S : Seats H l r xs) (k : Kp ps H H') (n : l ∉ ps) : Seats H' l r xs := ⟨k _ _ S.at_ n, S.nd, S.rng, S.len⟩

local macro_rules | `(tactic| wtm_at "look") => `(tactic| fail "no rule")
local macro_rules | `(tactic| wtm_at "ne") => `(tactic| first
  | with_reducible assumption
  | ((with_reducible refine' Ne.symm ?h); (case h => with_reducible assumption))
  | ((with_reducible refine' ne_fresh ?n); (case n => with_reducible assumption))
  | ((with_reducible refine' Ne.symm (ne_fresh ?n)); (case n => with_reducible assumption))
  | ((refine' ne_of_none ?h ?n); (case n => with_reducible assumption); (case h => wtm_at "hp"))
  | ((refine' Ne.symm (ne_of_none ?h ?n)); (case n => with_reducible assumption); (case h => wtm_at "hp"))
  | fail "no rule")
local macro_rules | `(tactic| wtm_at "hp") => `(tactic| first
  | with_reducible assumption
  | with_reducible exact upd_same
  | ((with_reducible refine' upd_is ?e); (case e => exact rfl))
  | ((with_reducible refine' hu_ne ?n ?e); (case n => wtm_at "ne"); (case e => wtm_at "hp"))
  | ((with_reducible refine' Kp.g0 ?k ?e); (case k => with_reducible assumption); (case e => wtm_at "hp"))
  | ((with_reducible refine' Kp.g1 ?k ?n ?e); (case k => with_reducible assumption); (case n => wtm_at "ne"); (case e => wtm_at "hp"))
  | ((with_reducible refine' Kp.g2 ?k ?n ?m ?e); (case k => with_reducible assumption); (case n => wtm_at "ne"); (case m => wtm_at "ne"); (case e => wtm_at "hp"))
  | ((with_reducible refine' Kp.g3 ?k ?n ?m ?l ?e); (case k => with_reducible assumption); (case n => wtm_at "ne"); (case m => wtm_at "ne"); (case l => wtm_at "ne"); (case e => wtm_at "hp"))
  | fail "no rule")
local macro_rules | `(tactic| wtm_at "sq") => `(tactic| first
  | with_reducible assumption
  | wtm_at "sqx"
  | ((refine' SqL.of ?e); (case e => wtm_at "hp"))
  | ((refine' SqT.of ?e); (case e => wtm_at "hp"))
  | fail "no rule")
local macro_rules | `(tactic| wtm_at "at") => `(tactic| first
  | exact rfl
  | assumption
  | ((refine' atI_ints ?a ?b); (case a => omega); (case b => omega))
  | fail "no rule")
local macro_rules | `(tactic| wtm_at "cc") => `(tactic| first
  | with_reducible assumption
  | omega
  | exact rfl
  | decide
  | ((refine' ⟨?a, ?b⟩); (case a => omega); (case b => omega))
  | ((refine' Or.inr ⟨?a, ?b⟩); (case a => omega); (case b => omega))
  | ((refine' Or.inl ⟨?a, ?b⟩); (case a => omega); (case b => omega))
  | ((refine' ⟨?a, ?b, ?c⟩); (case a => first | omega | decide | fail "num"); (case b => first | omega | decide | fail "num"); (case c => first | omega | decide | fail "num"))
  | fail "no rule")
local macro_rules | `(tactic| wtm_at "sz") => `(tactic| first
  | assumption
  | ((refine' szlt ?h); (case h => (simp; omega)))
  | ((refine' szlt ?h); (case h => omega))
  | ((refine' szlt ?h); (case h => exact Nat.le_of_ble_eq_true rfl))
  | ((refine' sz1000 ?h); (case h => (simp; done)))
  | ((refine' sz1000 ?h); (case h => omega))
  | fail "no rule")
local macro_rules | `(tactic| wtm_at "dg") => `(tactic| first
  | ((refine' dg_is ?a ?b); (case a => wtm_at "hp"); (case b => wtm_at "hp"))
  | ((refine' dg_i ?a); (case a => wtm_at "hp"))
  | ((refine' dg_s ?a); (case a => wtm_at "hp"))
  | fail "no rule")
local macro_rules | `(tactic| wtm_at "dgv") => `(tactic| first
  | ((refine' dg_sv ?a ?b); (case a => wtm_at "hp"); (case b => first | assumption | wtm_at "look" | exact rfl | fail "look"))
  | ((refine' dg_iv ?a ?b); (case a => wtm_at "hp"); (case b => first | assumption | wtm_at "look" | exact rfl | fail "look"))
  | fail "no rule")
local macro_rules | `(tactic| wtm_at "dp") => `(tactic| first
  | ((refine' dp_is ?a ?b ?c); (case a => wtm_at "hp"); (case b => wtm_at "hp"); (case c => wtm_at "sz"))
  | ((refine' dp_i ?a ?c); (case a => wtm_at "hp"); (case c => wtm_at "sz"))
  | ((refine' dp_s ?a ?c); (case a => wtm_at "hp"); (case c => wtm_at "sz"))
  | fail "no rule")
local macro_rules | `(tactic| wtm_at "rd1") => `(tactic| first
  | with_reducible refine' rd_seq ?_
  | with_reducible refine' rd_asg ?_
  | ((with_reducible refine' rd_var ?e ?_); (case e => exact rfl))
  | with_reducible refine' rd_c ?_
  | with_reducible refine' rd_op ?_
  | with_reducible refine' rd_gname ?_
  | with_reducible refine' rd_CB ?_
  | with_reducible refine' rd_cons ?_
  | with_reducible refine' rd_nil ?_
  | with_reducible refine' rd_ret ?_
  | with_reducible refine' rd_drop ?_
  | with_reducible refine' rd_ifS ?_
  | with_reducible refine' rd_test ?_
  | with_reducible refine' rd_exb ?_
  | with_reducible refine' rd_call ?_
  | with_reducible refine' rd_I0 ?_
  | ((with_reducible refine' rd_I ?c ?_); (case c => wtm_at "cc"))
  | ((with_reducible refine' rd_ixL ?h ?a ?_); (case h => wtm_at "sq"); (case a => wtm_at "at"))
  | ((with_reducible refine' rd_ixT ?h ?a ?_); (case h => wtm_at "sq"); (case a => wtm_at "at"))
  | with_reducible refine' rd_int1 ?_
  | with_reducible refine' rd_abs ?_
  | ((with_reducible refine' rd_lenI ?h ?_); (case h => wtm_at "sq"))
  | ((with_reducible refine' rd_lenL ?h ?_); (case h => wtm_at "sq"))
  | ((with_reducible refine' rd_lenT ?h ?_); (case h => wtm_at "sq"))
  | with_reducible refine' rd_eqI ?_
  | with_reducible refine' rd_neI ?_
  | with_reducible refine' rd_eqS ?_
  | with_reducible refine' rd_neS ?_
  | with_reducible refine' rd_eqB ?_
  | with_reducible refine' rd_neB ?_
  | with_reducible refine' rd_and ?_
  | with_reducible refine' rd_or ?_
  | with_reducible refine' rd_not ?_
  | with_reducible refine' rd_tB ?_
  | with_reducible refine' rd_gsub ?_
  | ((with_reducible refine' rd_setL ?h ?j ?_); (case h => wtm_at "hp"); (case j => exact rfl))
  | with_reducible refine' rd_next ?_
  | with_reducible refine' rd_un ?_
  | with_reducible refine' rd_U ?_
  | with_reducible refine' rd_tup ?_
  | with_reducible refine' rd_lst ?_
  | with_reducible refine' rd_bm ?_
  | with_reducible refine' rd_bm0 ?_
  | with_reducible refine' rd_meth ?_
  | with_reducible refine' rd_make ?_
  | with_reducible refine' rd_iTup ?_
  | ((with_reducible refine' rd_iTupX ?h ?_); (case h => wtm_at "sq"))
  | with_reducible refine' rd_for ?_
  | with_reducible refine' rd_iList ?_
  | ((with_reducible refine' rd_iListX ?h ?_); (case h => wtm_at "sq"))
  | with_reducible refine' rd_iRng1 ?_
  | ((with_reducible refine' rd_iRng1X ?h1 ?h2 ?_); (case h1 => wtm_at "cc"); (case h2 => wtm_at "cc"))
  | ((with_reducible refine' rd_iRng2X ?h1 ?_); (case h1 => ((refine' ⟨?a, ?b, ?c, ?d⟩); (case a => omega); (case b => omega); (case c => omega); (case d => omega))))
  | with_reducible refine' rd_iRng2 ?_
  | with_reducible refine' rd_lc ?_
  | with_reducible refine' rd_yes ?_
  | with_reducible refine' rd_andV ?_
  | with_reducible refine' rd_orV ?_
  | with_reducible refine' rd_notV ?_
  | with_reducible refine' rd_ifE ?_
  | with_reducible refine' rd_isN ?_
  | with_reducible refine' rd_notN ?_
  | with_reducible refine' rd_min2 ?_
  | with_reducible refine' rd_max2 ?_
  | with_reducible refine' rd_retN ?_
  | with_reducible refine' rd_brk ?_
  | with_reducible refine' rd_cont ?_
  | with_reducible refine' rd_tfld ?_
  | ((with_reducible refine' rd_fldX ?h ?c ?n ?l ?_); (case h => wtm_at "hp"); (case c => wtm_at "cls"); (case n => wtm_at "noat"); (case l => exact rfl))
  | with_reducible refine' rd_sfld ?_
  | ((with_reducible refine' rd_sfldX ?h ?c ?n ?l ?_); (case h => wtm_at "hp"); (case c => wtm_at "cls"); (case n => wtm_at "noat"); (case l => first | decide | exact Nat.le_of_ble_eq_true rfl | fail "len"))
  | with_reducible refine' rd_tcon ?_
  | ((with_reducible refine' rd_conX ?h ?c ?n ?l ?_); (case h => wtm_at "hp"); (case c => wtm_at "cls"); (case n => wtm_at "con"); (case l => exact rfl))
  | ((with_reducible refine' rd_methX ?h ?l ?_); (case h => wtm_at "hp"); (case l => exact rfl))
  | with_reducible refine' rd_isi_ii ?_
  | with_reducible refine' rd_isi_ib ?_
  | with_reducible refine' rd_isi_bb ?_
  | with_reducible refine' rd_isi_bi ?_
  | with_reducible refine' rd_isi_ss ?_
  | ((with_reducible refine' rd_isi_ll ?h ?_); (case h => wtm_at "hp"))
  | ((with_reducible refine' rd_isi_tt ?h ?_); (case h => wtm_at "hp"))
  | with_reducible refine' iteT ?_
  | with_reducible refine' iteF ?_
  | with_reducible refine' ite_nt ?_
  | with_reducible refine' ite_nf ?_
  | with_reducible refine' ite_in ?_
  | with_reducible refine' ite_rn ?_
  | with_reducible refine' ite_sn ?_
  | with_reducible refine' ite_bn ?_
  | with_reducible refine' ite_nn ?_
  | with_reducible refine' ite_xin ?_
  | with_reducible refine' ite_xrn ?_
  | with_reducible refine' ite_xnn ?_
  | with_reducible refine' rd_dget2 ?_
  | ((with_reducible refine' rd_isdX ?h ?_); (case h => first | ((refine' isD_T ?e); (case e => wtm_at "hp")) | ((refine' isD_K ?e); (case e => wtm_at "hp"))))
  | ((with_reducible refine' rd_dgX ?h ?_); (case h => wtm_at "dg"))
  | with_reducible refine' rd_sdput ?_
  | ((with_reducible refine' rd_dpX ?h ?_); (case h => wtm_at "dp"))
  | ((with_reducible refine' ty_l ?h ?_); (case h => wtm_at "sq"))
  | ((with_reducible refine' ty_d ?h ?_); (case h => wtm_at "hp"))
  | ((with_reducible refine' ty_dK ?h ?_); (case h => wtm_at "hp"))
  | ((with_reducible refine' rd_append ?h ?l ?_); (case h => wtm_at "hp"); (case l => wtm_at "sz"))
  | with_reducible refine' rd_lstRg ?_
  | with_reducible refine' rd_rg1 ?_
  | with_reducible refine' rd_rg2 ?_
  | with_reducible refine' rd_inX ?_
  | with_reducible refine' rd_inX2 ?_
  | ((with_reducible refine' rd_listL ?h ?_); (case h => wtm_at "sq"))
  | ((with_reducible refine' rd_gtup ?h ?l ?_); (case h => wtm_at "sq"); (case l => exact rfl))
  | with_reducible refine' rd_gcons ?_
  | with_reducible refine' rd_gnil ?_
  | with_reducible refine' rd_din ?_
  | with_reducible refine' rd_dnotin ?_
  | with_reducible refine' rd_dget ?_
  | with_reducible refine' rd_dget1 ?_
  | ((with_reducible refine' rd_dinX ?h ?_); (case h => wtm_at "dg"))
  | ((with_reducible refine' rd_dgetX ?h ?_); (case h => wtm_at "dgv"))
  | with_reducible refine' rd_pnil ?_
  | with_reducible refine' rd_pcons ?_
  | with_reducible refine' rd_sl ?_
  | with_reducible refine' rd_part ?_
  | with_reducible refine' rd_nopart ?_
  | ((with_reducible refine' rd_slL ?h ?_); (case h => wtm_at "sq"))
  | ((with_reducible refine' rd_clear ?h ?_); (case h => wtm_at "hp"))
  | ((with_reducible refine' rd_aug ?e ?_); (case e => exact rfl))
  | with_reducible refine' rd_ipI ?_
  | ((with_reducible refine' rd_inI ?h ?_); (case h => wtm_at "sq"))
  | ((with_reducible refine' rd_notInI ?h ?_); (case h => wtm_at "sq"))
  | ((with_reducible refine' rd_lenD ?h ?_); (case h => wtm_at "hp"))
  | with_reducible refine' rd_iEnum ?_
  | ((with_reducible refine' rd_iEnumX ?h ?_); (case h => wtm_at "sq"))
  | ((with_reducible refine' rd_eqLI ?h1 ?h2 ?_); (case h1 => wtm_at "sq"); (case h2 => wtm_at "sq"))
  | ((with_reducible refine' rd_neLI ?h1 ?h2 ?_); (case h1 => wtm_at "sq"); (case h2 => wtm_at "sq"))
  | fail "no rule")
local macro_rules | `(tactic| wtm_at "rd") => `(tactic| repeat wtm_at "rd1")
local macro_rules | `(tactic| wtm_at "hn") => `(tactic| first
  | with_reducible assumption
  | ((with_reducible refine' hn_ne ?n ?e); (case n => wtm_at "ne"); (case e => wtm_at "hn"))
  | ((refine' Kp.back ?k ?e ?n); (case k => with_reducible assumption); (case e => with_reducible assumption); (case n => first | with_reducible assumption | (simp; done) | fail "mem"))
  | fail "no rule")
local macro_rules | `(tactic| wtm_at "kp") => `(tactic| first
  | exact Kp.refl
  | with_reducible assumption
  | ((with_reducible refine' Kp.of0 ?k); (case k => with_reducible assumption))
  | ((with_reducible refine' Kp.wr ?a ?h); (case h => (simp; done)); (case a => wtm_at "kp"))
  | ((with_reducible refine' Kp.nw ?a ?h); (case h => wtm_at "hn"); (case a => wtm_at "kp"))
  | ((with_reducible refine' Kp.mine ?a ?h); (case h => wtm_at "hn"); (case a => wtm_at "kp"))
  | ((with_reducible refine' Kp.via1 ?a ?b ?n); (case b => with_reducible assumption); (case n => wtm_at "hn"); (case a => wtm_at "kp"))
  | ((with_reducible refine' Kp.trans ?a ?b); (case b => first | with_reducible assumption | ((with_reducible refine' Kp.of0 ?k); (case k => with_reducible assumption)) | fail "kp"); (case a => wtm_at "kp"))
  | fail "no rule")
local macro_rules | `(tactic| wtm_at "rd1") => `(tactic| first
  | with_reducible refine' rd_prop ?_
  | ((with_reducible refine' rd_propX ?h ?_); (case h => wtm_at "hp"))
  | with_reducible refine' rd_revL ?_
  | ((with_reducible refine' rd_revLX ?h ?_); (case h => wtm_at "sq"))
  | with_reducible refine' rd_makeK ?_
  | with_reducible refine' rd_sortKey ?_
  | with_reducible refine' rd_sfldaug ?_
  | ((with_reducible refine' rd_sfldaugX ?h ?c ?n ?l ?_); (case h => wtm_at "hp"); (case c => wtm_at "cls"); (case n => wtm_at "noat"); (case l => exact rfl))
  | ((with_reducible refine' rd_insX ?h ?l ?_); (case h => wtm_at "hp"); (case l => first | decide | exact Nat.le_of_ble_eq_true rfl | fail "len"))
  | with_reducible refine' rd_addI ?_
  | with_reducible refine' rd_subI ?_
  | with_reducible refine' rd_disp ?_
  | with_reducible refine' rd_minKey ?_
  | fail "no rule")
local macro_rules | `(tactic| wtm_at "hp") => `(tactic| first
  | ((with_reducible refine' Kt.g0 ?k ?n ?e); (case k => with_reducible assumption); (case n => (intro _ z; cases z)); (case e => wtm_at "hp"))
  | ((with_reducible refine' Kt.g1 ?k ?n ?m ?e); (case k => with_reducible assumption); (case n => (intro _ z; cases z)); (case m => wtm_at "ne"); (case e => wtm_at "hp"))
  | fail "no rule")
local macro_rules | `(tactic| wtm_at "cc") => `(tactic| first
  | ((refine' wide60 ?a ?b); (case a => omega); (case b => omega))
  | fail "no rule")
local macro_rules | `(tactic| wtm_at "kt") => `(tactic| first
  | with_reducible assumption
  | ((with_reducible refine' Kt.of0 ?k); (case k => with_reducible assumption))
  | ((with_reducible refine' Kt.wr ?a ?h ?e ?w); (case h => (simp; done)); (case e => wtm_at "hp"); (case w => exact trivial); (case a => wtm_at "kt"))
  | ((with_reducible refine' Kt.nw ?a ?e); (case e => wtm_at "hn"); (case a => wtm_at "kt"))
  | fail "no rule")
local macro_rules | `(tactic| wtm_at "dgv") => `(tactic| first
  | ((refine' dg_sl ?a ?b); (case a => wtm_at "hp"); (case b => exact rfl))
  | fail "no rule")

local macro_rules | `(tactic| wtm_at "sqx") => `(tactic| fail "no rule")
local macro_rules | `(tactic| wtm_at "con") => `(tactic| first | exact con_MOST_BITS (by assumption) | exact con_MOST_PATIENCE (by assumption) | exact con_MOST_ROOM (by assumption) | exact con_MOST_GRACE (by assumption) | exact con_MOST_HELPERS (by assumption))
local macro_rules | `(tactic| wtm_at "cls") => `(tactic| first | exact cl_Setting (by assumption))
local macro_rules | `(tactic| wtm_at "noat") => `(tactic| first | exact na_Setting_bits (by assumption) | exact na_Setting_patience (by assumption) | exact na_Setting_room (by assumption) | exact na_Setting_grace (by assumption) | exact na_Setting_helpers (by assumption))
section
variable {P : Program} {w : World} {K : PySem.W.Frag} {mg : Str → Option Value} {base : Heap}
def sp_whole (K : PySem.W.Frag) : Sp := fun vs H Q E => ∃ (v lo hi : Int), vs = [.int v, .int lo, .int hi] ∧ (Q (.bl (decide (lo ≤ v) && decide (v ≤ hi))) H)
theorem us_whole {K : PySem.W.Frag} {H : Hp} {Q : VK} {E : XK} {v lo hi : Int}  (kk : Q (.bl (decide (lo ≤ v) && decide (v ≤ hi))) H) : sp_whole K [.int v, .int lo, .int hi] H Q E := ⟨_, _, _, rfl, kk⟩
theorem f_whole (T : Cx K mg) (B : Tb K mg base) : ∃ fd, FunD K "whole" "whole" (defArgs s_whole) (defBody s_whole) (defScope s_whole) (d_whole.dvs K) (d_whole.kws K) (fAd K d_whole.at_) fd ∧ FnOk P w K mg base CX0 1 (fAd K d_whole.at_) fd p_whole (sp_whole K) := by
  obtain ⟨fd, F⟩ := T.says.def_ 0 (d := d_whole) rfl
  refine ⟨fd, F, fnD F sc_whole (fun vs H Q E h => by
    obtain ⟨_, _, _, rfl, _⟩ := h
    rfl) fun cdv A outer s H vs Q E hr h => ?_⟩
  have hu := hu_of hr
  obtain ⟨v, lo, hi, rfl, kk⟩ := h
  refine ⟨_, (pss_cons (ps_if (PW.pt (pw_or (pt_not (pt_val (pe_callB call_isi (by rfl) (fr_isinstance T) (by decide +kernel) (pa_cons (pv 0) (pa_cons (pe_bltn (v := .ty "int") (by rfl) (fr_int T) (by decide +kernel) rfl) pa_nil))))) (pw_or1 (pt_val (pe_callB call_isi (by rfl) (fr_isinstance T) (by decide +kernel) (pa_cons (pv 0) (pa_cons (pe_bltn (v := .ty "bool") (by rfl) (fr_bool T) (by decide +kernel) rfl) pa_nil))))))) (pss_one (ps_ret pe_bl)) pss_nil) (pss_one (ps_ret (pe_and (pe_cmpR op_le (pv 1) (pv 0) (nomark _)) (pe_one (pe_or (pe_cmp (pc_isN (pv 2))) (pe_one (pe_cmpR op_le (pv 0) (pv 2) (nomark _))))))))), ?_⟩
  rw [show L2.start n_whole [.int v, .int lo, .int hi] = [some (.int v), some (.int lo), some (.int hi)] from rfl]
  try dsimp only [cxOf, Cx.nox, Cx.wish, List.map]

  wtm_at "rd"
  refine ite_d (fun h => ?_) (fun h => ?_)
  · wtm_at "rd"
    rw [decide_eq_true h, Bool.true_and] at kk
    exact kk
  · rw [decide_eq_false h, Bool.false_and] at kk
    exact kk
theorem c_whole (T : Cx K mg) (B : Tb K mg base) : CalX P w K mg base CX0 1 "whole" (sp_whole K) [] := by
  obtain ⟨fd, F, ok⟩ := f_whole (P := P) (w := w) (base := base) T B
  exact ⟨_, fd, p_whole, [], ok, gl_whole T, F.kp, FunD.bindsN F fun _ _ _ _ _ _ us hl => match us, hl with | [_, _, _], _ => rfl, .nil⟩
end
section
variable {P : Program} {w : World} {K : PySem.W.Frag} {mg : Str → Option Value} {base : Heap}
def sp_Setting_init (K : PySem.W.Frag) : Sp := fun vs H Q E => ∃ (p dx : Addr) (s : Stg), vs = [.ref p, .int s.bits, .int s.pat, .int s.room, .int s.grace, .int s.hel] ∧ (H p = some (.ins (ga K "Setting") dx [])) ∧ (s.Ok) ∧ (∀ H1, SetAt K H1 p s → Kp [p] H H1 → Q .non H1)
theorem us_Setting_init {K : PySem.W.Frag} {H : Hp} {Q : VK} {E : XK} {p dx : Addr} {s : Stg} (hp : H p = some (.ins (ga K "Setting") dx [])) (ok : s.Ok) (kk : ∀ H1, SetAt K H1 p s → Kp [p] H H1 → Q .non H1) : sp_Setting_init K [.ref p, .int s.bits, .int s.pat, .int s.room, .int s.grace, .int s.hel] H Q E := ⟨_, _, _, rfl, hp, ok, kk⟩
theorem f_Setting_init (T : Cx K mg) (B : Tb K mg base) : ∃ fd, FunD K "__init__" "Setting.__init__" (defArgs s_Setting_init) (defBody s_Setting_init) (defScope s_Setting_init) (d_Setting_init.dvs K) (d_Setting_init.kws K) (fAd K d_Setting_init.at_) fd ∧ FnOk P w K mg base CX0 2 (fAd K d_Setting_init.at_) fd p_Setting_init (sp_Setting_init K) := by
  have c_whole := c_whole (P := P) (w := w) (base := base) T B
  obtain ⟨fd, F⟩ := T.says.def_ 1 (d := d_Setting_init) rfl
  refine ⟨fd, F, fnD F sc_Setting_init (fun vs H Q E h => by
    obtain ⟨_, _, _, rfl, _⟩ := h
    rfl) fun cdv A outer s H vs Q E hr h => ?_⟩
  have hu := hu_of hr
  obtain ⟨p, dx, s, rfl, hp, ok, kk⟩ := h
  refine ⟨_, (pss_cons (ps_if (pt_not (pt_val (pe_cal c_whole hr (by decide) (by rfl) pass0 (pa_cons (pv 1) (pa_cons pe_int (pa_cons (pe_con (pv 0) rfl) pa_nil)))))) (pss_one ps_never) pss_nil) (pss_cons (ps_if (pt_not (pt_val (pe_cal c_whole hr (by decide) (by rfl) pass0 (pa_cons (pv 2) (pa_cons pe_int (pa_cons (pe_con (pv 0) rfl) pa_nil)))))) (pss_one ps_never) pss_nil) (pss_cons (ps_if (pt_not (pt_val (pe_cal c_whole hr (by decide) (by rfl) pass0 (pa_cons (pv 3) (pa_cons pe_int (pa_cons (pe_con (pv 0) rfl) pa_nil)))))) (pss_one ps_never) pss_nil) (pss_cons (ps_if (pt_not (pt_val (pe_cal c_whole hr (by decide) (by rfl) pass0 (pa_cons (pv 4) (pa_cons pe_int (pa_cons (pe_con (pv 0) rfl) pa_nil)))))) (pss_one ps_never) pss_nil) (pss_cons (ps_if (pt_not (pt_val (pe_cal c_whole hr (by decide) (by rfl) pass0 (pa_cons (pv 5) (pa_cons pe_int (pa_cons (pe_con (pv 0) rfl) pa_nil)))))) (pss_one ps_never) pss_nil) (pss_cons (ps_fld (pv 0) (pv 1) rfl) (pss_cons (ps_fld (pv 0) (pv 2) rfl) (pss_cons (ps_fld (pv 0) (pv 3) rfl) (pss_cons (ps_fld (pv 0) (pv 4) rfl) (pss_one (ps_fld (pv 0) (pv 5) rfl))))))))))), ?_⟩
  rw [show L2.start n_Setting_init [.ref p, .int s.bits, .int s.pat, .int s.room, .int s.grace, .int s.hel] = [some (.ref p), some (.int s.bits), some (.int s.pat), some (.int s.room), some (.int s.grace), some (.int s.hel)] from rfl]
  try dsimp only [cxOf, Cx.nox, Cx.wish, List.map]

  obtain ⟨b0, b1, p0, p1, r0, r1, g0, g1, h0, h1⟩ := id ok
  wtm_at "rd"
  refine us_whole ?_
  wtm_at "rd"
  refine ite_f (by simp; omega) ?_
  wtm_at "rd"
  refine us_whole ?_
  wtm_at "rd"
  refine ite_f (by simp; omega) ?_
  wtm_at "rd"
  refine us_whole ?_
  wtm_at "rd"
  refine ite_f (by simp; omega) ?_
  wtm_at "rd"
  refine us_whole ?_
  wtm_at "rd"
  refine ite_f (by simp; omega) ?_
  wtm_at "rd"
  refine us_whole ?_
  wtm_at "rd"
  refine ite_f (by simp; omega) ?_
  wtm_at "rd"
  exact kk _ ⟨⟨dx, upd_same⟩, ok⟩ (by wtm_at "kp")
theorem c_Setting_init (T : Cx K mg) (B : Tb K mg base) : MakX P w K mg base CX0 2 "Setting" (ga K "Setting") (sp_Setting_init K) [.int 6, .int 1] := by
  obtain ⟨fd, F, ok⟩ := f_Setting_init (P := P) (w := w) (base := base) T B
  obtain ⟨ds, hv, hb⟩ := FunD.binds0 (ps := p_Setting_init) F 4 (fun e => by cases e) rfl fun _ _ _ _ _ _ us ks hu hk => match us, ks, hu, hk with | [_, _, _, _], [_, _], _, _ => ⟨_, _, _, _, _, _, rfl, rfl, ⟨_, _, _, _, _, _, rfl, rfl, rfl⟩⟩
  exact ⟨_, fd, p_Setting_init, ds, mk_Setting T, ok, gl_Setting T, hb, hv⟩
end
section
variable {P : Program} {w : World} {K : PySem.W.Frag} {mg : Str → Option Value} {base : Heap}
def sp_Setting_seats (K : PySem.W.Frag) : Sp := fun vs H Q E => ∃ (p : Addr) (s : Stg), vs = [.ref p] ∧ (SetAt K H p s) ∧ (Q (.int s.ring) H)
theorem us_Setting_seats {K : PySem.W.Frag} {H : Hp} {Q : VK} {E : XK} {p : Addr} {s : Stg} (hS : SetAt K H p s) (kk : Q (.int s.ring) H) : sp_Setting_seats K [.ref p] H Q E := ⟨_, _, rfl, hS, kk⟩
theorem f_Setting_seats (T : Cx K mg) (B : Tb K mg base) : ∃ fd, FunD K "seats" "Setting.seats" (defArgs s_Setting_seats) (defBody s_Setting_seats) (defScope s_Setting_seats) [] [] (prG K "Setting" "seats") fd ∧ FnOk P w K mg base CX0 1 (prG K "Setting" "seats") fd p_Setting_seats (sp_Setting_seats K) := by
  obtain ⟨hP, fd, F⟩ := B.g g_Setting_seats (.head _)
  refine ⟨fd, F, fnD F sc_Setting_seats (fun vs H Q E h => by
    obtain ⟨_, _, rfl, _⟩ := h
    rfl) fun cdv A outer s H vs Q E hr h => ?_⟩
  have hu := hu_of hr
  obtain ⟨p, s, rfl, hS, kk⟩ := h
  refine ⟨_, (pss_one (ps_ret (pe_op op_shl pe_int (pe_fld (pv 0) rfl)))), ?_⟩
  rw [show L2.start n_Setting_seats [.ref p] = [some (.ref p)] from rfl]
  try dsimp only [cxOf, Cx.nox, Cx.wish, List.map]

  obtain ⟨⟨dx, hp⟩, ok⟩ := hS
  have b0 := ok.b0
  have b1 := ok.b1
  wtm_at "rd"
  show Q (.int (1 * 2 ^ s.bits.toNat)) H
  rw [Int.one_mul, ← Stg.ring_eq]
  exact kk
theorem c_Setting_seats (T : Cx K mg) (B : Tb K mg base) : PrpX P w K mg base CX0 1 (ga K "Setting") "seats" (sp_Setting_seats K) := by
  obtain ⟨fd, F, ok⟩ := f_Setting_seats (P := P) (w := w) (base := base) T B
  obtain ⟨hP, -⟩ := B.g g_Setting_seats (.head _)
  exact ⟨_, _, fd, p_Setting_seats, cl_Setting T, hP, ok, FunD.bindsN F fun _ _ _ _ _ _ us hl => match us, hl with | [_], _ => rfl⟩
end
section
variable {P : Program} {w : World} {K : PySem.W.Frag} {mg : Str → Option Value} {base : Heap}
def sp_distance (K : PySem.W.Frag) : Sp := fun vs H Q E => ∃ (p : Addr) (s : Stg) (a b : Int), vs = [.ref p, .int a, .int b] ∧ (SetAt K H p s) ∧ (Q (.int ((b - a) % s.ring)) H)
theorem us_distance {K : PySem.W.Frag} {H : Hp} {Q : VK} {E : XK} {p : Addr} {s : Stg} {a b : Int} (hS : SetAt K H p s) (kk : Q (.int ((b - a) % s.ring)) H) : sp_distance K [.ref p, .int a, .int b] H Q E := ⟨_, _, _, _, rfl, hS, kk⟩
theorem f_distance (T : Cx K mg) (B : Tb K mg base) : ∃ fd, FunD K "distance" "distance" (defArgs s_distance) (defBody s_distance) (defScope s_distance) (d_distance.dvs K) (d_distance.kws K) (fAd K d_distance.at_) fd ∧ FnOk P w K mg base CX0 3 (fAd K d_distance.at_) fd p_distance (sp_distance K) := by
  have c_Setting_seats := c_Setting_seats (P := P) (w := w) (base := base) T B
  obtain ⟨fd, F⟩ := T.says.def_ 2 (d := d_distance) rfl
  refine ⟨fd, F, fnD F sc_distance (fun vs H Q E h => by
    obtain ⟨_, _, _, _, rfl, _⟩ := h
    rfl) fun cdv A outer s H vs Q E hr h => ?_⟩
  have hu := hu_of hr
  obtain ⟨p, s, a, b, rfl, hS, kk⟩ := h
  refine ⟨_, (pss_one (ps_ret (pe_op op_mod (pe_op op_sub (pv 2) (pv 1)) (pe_prpX c_Setting_seats hr (by decide) pass0 (pv 0))))), ?_⟩
  rw [show L2.start n_distance [.ref p, .int a, .int b] = [some (.ref p), some (.int a), some (.int b)] from rfl]
  try dsimp only [cxOf, Cx.nox, Cx.wish, List.map]

  obtain ⟨⟨dx, hp⟩, ok⟩ := id hS
  have r2 := ok.r2
  wtm_at "rd"
  refine us_Setting_seats hS ?_
  wtm_at "rd"
  exact kk
theorem c_distance (T : Cx K mg) (B : Tb K mg base) : CalX P w K mg base CX0 3 "distance" (sp_distance K) [] := by
  obtain ⟨fd, F, ok⟩ := f_distance (P := P) (w := w) (base := base) T B
  exact ⟨_, fd, p_distance, [], ok, gl_distance T, F.kp, FunD.bindsN F fun _ _ _ _ _ _ us hl => match us, hl with | [_, _, _], _ => rfl, .nil⟩
end
section
variable {P : Program} {w : World} {K : PySem.W.Frag} {mg : Str → Option Value} {base : Heap}
def sp_first_from (K : PySem.W.Frag) : Sp := fun vs H Q E => ∃ (S l : Addr) (s : Stg) (place : Int) (xs : List Int), vs = [.ref S, .int place, .ref l] ∧ (SetAt K H S s) ∧ (SqL K H l (xs.map V.int)) ∧ (LamX.Tabs (TT K) H) ∧ (∀ o H1, Kt (TT K) [] H H1 → FirstOf s.ring place xs o → Q (ov o) H1)
theorem us_first_from {K : PySem.W.Frag} {H : Hp} {Q : VK} {E : XK} {S l : Addr} {s : Stg} {place : Int} {xs : List Int} (hS : SetAt K H S s) (hl : SqL K H l (xs.map V.int)) (hT : LamX.Tabs (TT K) H) (kk : ∀ o H1, Kt (TT K) [] H H1 → FirstOf s.ring place xs o → Q (ov o) H1) : sp_first_from K [.ref S, .int place, .ref l] H Q E := ⟨_, _, _, _, _, rfl, hS, hl, hT, kk⟩
theorem f_first_from (T : Cx K mg) (B : Tb K mg base) : ∃ fd, FunD K "first_from" "first_from" (defArgs s_first_from) (defBody s_first_from) (defScope s_first_from) (d_first_from.dvs K) (d_first_from.kws K) (fAd K d_first_from.at_) fd ∧ FnOk P w K mg base CX0 7 (fAd K d_first_from.at_) fd p_first_from (sp_first_from K) := by
  have c_distance := c_distance (P := P) (w := w) (base := base) T B
  obtain ⟨fd, F⟩ := T.says.def_ 3 (d := d_first_from) rfl
  refine ⟨fd, F, fnDc F sc_first_from (fun vs H Q E h => by
    obtain ⟨_, _, _, _, _, rfl, _⟩ := h
    rfl) fun A outer s H vs Q E hr h => ?_⟩
  have hu := hu_of hr
  obtain ⟨S, l, s, place, xs, rfl, hS, hl, hT, kk⟩ := h
  refine ⟨_, (pss_one (ps_ret (pe_minKey (T := TT K) (N := ["setting", "place", "seat"]) (k := 3) (p := "seat") (by rfl) (fr_min T) (pa_cons (pv 2) pa_nil) (B.t _ (List.mem_map_of_mem (.head _))) rfl (.head _) (lamU_first_from T) (hr.mono (by decide)) (lam1_by (by rfl)) (by rfl) (fun _ _ _ _ _ _ => by rfl) (fun s H f c' hr => (pe_cal c_distance hr (by decide) (by rfl) pass0 (pa_cons (pv 0) (pa_cons (pv 1) (pa_cons (pv 2) pa_nil)))))))), ?_⟩
  rw [show L2.start n_first_from [.ref S, .int place, .ref l] = [some (.ref S), some (.int place), some (.ref l)] from rfl]
  try dsimp only [cxOf, Cx.nox, Cx.wish, List.map]

  wtm_at "rd"
  refine rd_minI (fun x => (x - place) % s.ring) xs (fun n => [some (.ref S), some (.int place), some (.int n)]) hl hT (fun n => ⟨rfl, fun i y x e1 e2 => ?_⟩) (fun H3 n Q' hn k3 q => ?_) (fun H3 e k3 => ?_) (fun H3 i b k3 hb hm => ?_)
  · rcases i with _ | _ | _ | i
    · cases e1; cases e2; exact .inr ⟨by decide, 0, rfl, rfl⟩
    · cases e1; cases e2; exact .inr ⟨by decide, 1, rfl, rfl⟩
    · cases e1; cases e2; exact .inl ⟨rfl, rfl⟩
    · cases e1
  · wtm_at "rd"
    exact us_distance (hS.kt k3) q
  · exact kk none H3 k3 e
  · refine kk (some b) H3 k3 ⟨List.mem_of_getElem? hb, fun z hz => ?_⟩
    obtain ⟨j, hj⟩ := List.mem_iff_getElem?.mp hz
    exact (hm j z hj).1
theorem c_first_from (T : Cx K mg) (B : Tb K mg base) : CalX P w K mg base CX0 7 "first_from" (sp_first_from K) [] := by
  obtain ⟨fd, F, ok⟩ := f_first_from (P := P) (w := w) (base := base) T B
  exact ⟨_, fd, p_first_from, [], ok, gl_first_from T, F.kp, FunD.bindsN F fun _ _ _ _ _ _ us hl => match us, hl with | [_, _, _], _ => rfl, .nil⟩
end
section
variable {P : Program} {w : World} {K : PySem.W.Frag} {mg : Str → Option Value} {base : Heap}
def sp_arc (K : PySem.W.Frag) : Sp := fun vs H Q E => ∃ (S l : Addr) (s : Stg) (lo hi : Int) (xs : List Int), vs = [.ref S, .int lo, .int hi, .ref l] ∧ (SetAt K H S s) ∧ (SqL K H l (xs.map V.int)) ∧ (xs.length ≤ 1000) ∧ (LamX.Tabs (TT K) H) ∧ (∀ q H1, Kt (TT K) [] H H1 → Frn H q → H1 q = some (.lst ((arcL s.ring lo hi xs).map V.int)) → Q (.ref q) H1)
theorem us_arc {K : PySem.W.Frag} {H : Hp} {Q : VK} {E : XK} {S l : Addr} {s : Stg} {lo hi : Int} {xs : List Int} (hS : SetAt K H S s) (hl : SqL K H l (xs.map V.int)) (hn : xs.length ≤ 1000) (hT : LamX.Tabs (TT K) H) (kk : ∀ q H1, Kt (TT K) [] H H1 → Frn H q → H1 q = some (.lst ((arcL s.ring lo hi xs).map V.int)) → Q (.ref q) H1) : sp_arc K [.ref S, .int lo, .int hi, .ref l] H Q E := ⟨_, _, _, _, _, _, rfl, hS, hl, hn, hT, kk⟩
theorem f_arc (T : Cx K mg) (B : Tb K mg base) : ∃ fd, FunD K "arc" "arc" (defArgs s_arc) (defBody s_arc) (defScope s_arc) (d_arc.dvs K) (d_arc.kws K) (fAd K d_arc.at_) fd ∧ FnOk P w K mg base CX0 7 (fAd K d_arc.at_) fd p_arc (sp_arc K) := by
  have c_distance := c_distance (P := P) (w := w) (base := base) T B
  obtain ⟨fd, F⟩ := T.says.def_ 4 (d := d_arc) rfl
  refine ⟨fd, F, fnDc F sc_arc (fun vs H Q E h => by
    obtain ⟨_, _, _, _, _, _, rfl, _⟩ := h
    rfl) fun A outer s H vs Q E hr h => ?_⟩
  have hu := hu_of hr
  obtain ⟨S, l, s, lo, hi, xs, rfl, hS, hl, hn, hT, kk⟩ := h
  refine ⟨_, (pss_cons (ps_set (i := 4) sc_arc.nd rfl (by first | exact Or.inl rfl | exact Or.inr rfl) (pe_op op_add (pv 1) pe_int)) (pss_cons (ps_set (i := 5) sc_arc.nd rfl (by first | exact Or.inl rfl | exact Or.inr rfl) (pe_cal c_distance hr (by decide) (by rfl) pass0 (pa_cons (pv 0) (pa_cons (pv 4) (pa_cons (pv 2) pa_nil))))) (pss_cons (ps_setLc (i := 6) (own := [("seat", 7)]) (g := (gName 7)) rfl sc_arc.nd rfl rfl (sw_true rfl rfl rfl (by decide +kernel)) (pi_list (pv 3)) (blkOk_by (own := [("seat", 7)]) (N := n_arc) (sc := defScope s_arc) (by decide +kernel)) (fun _ _ _ _ _ => (pg_name (i := 7) sc_arc.nd rfl (by first | exact Or.inl rfl | exact Or.inr rfl))) (fun _ _ _ _ _ => (pts_one (pt_cmpR op_le (pe_cal c_distance hr (by decide) (by rfl) pass0 (pa_cons (pv 0) (pa_cons (pv 4) (pa_cons (pv 7) pa_nil)))) (pv 5) (nomark _)))) (fun _ _ _ _ _ => (pv 7))) (pss_one (ps_ret (pe_sortKey (T := TT K) (N := ["setting", "start", "seat"]) (k := 3) (p := "seat") (by rfl) (fr_sorted T) (pa_cons (pv 6) pa_nil) (B.t _ (List.mem_map_of_mem (.tail _ (.head _)))) rfl (.tail _ (.head _)) (lamU_arc T) (hr.mono (by decide)) (lam1_by (by rfl)) (by rfl) (fun _ _ _ _ _ _ => by rfl) (fun s H f c' hr => (pe_cal c_distance hr (by decide) (by rfl) pass0 (pa_cons (pv 0) (pa_cons (pv 1) (pa_cons (pv 2) pa_nil))))))))))), ?_⟩
  rw [show L2.start n_arc [.ref S, .int lo, .int hi, .ref l] = [some (.ref S), some (.int lo), some (.int hi), some (.ref l), none, none, none, none] from rfl]
  try dsimp only [cxOf, Cx.nox, Cx.wish, List.map]

  wtm_at "rd"
  refine us_distance hS ?_
  wtm_at "rd"
  intro D hD
  refine lcF_ints xs (fun x => decide ((x - (lo + 1)) % s.ring ≤ (hi - (lo + 1)) % s.ring)) V.int hl hD (by omega) (fun i h H1 E N k1 hE hN => ?_) (fun H1 k1 hD1 => ?_)
  · wtm_at "rd"
    refine ⟨rfl, ?_⟩
    wtm_at "rd"
    refine us_distance (hS.k0 k1) ?_
    wtm_at "rd"
    refine ite_d (fun h => ?_) (fun h => ?_)
    · wtm_at "rd"
      exact hE _ Kp.refl (decide_eq_true h)
    · exact hN _ Kp.refl (decide_eq_false h)
  · wtm_at "rd"
    refine rd_sortI (fun x => (x - (lo + 1)) % s.ring) _ (fun n => [some (.ref S), some (.int (lo + 1)), some (.int n)]) (SqL.of hD1) (tabs_kp hT k1 (fun _ z => by cases z)) (fun n => ⟨rfl, fun i y x e1 e2 => ?_⟩) (fun H3 n Q' hn k3 q => ?_) (fun H3 q k3 nq => ?_)
    · rcases i with _ | _ | _ | i
      · cases e1; cases e2; exact .inr ⟨by decide, 0, rfl, rfl⟩
      · cases e1; cases e2; exact .inr ⟨by decide, 4, rfl, rfl⟩
      · cases e1; cases e2; exact .inl ⟨rfl, rfl⟩
      · cases e1
    · wtm_at "rd"
      exact us_distance ((hS.k0 k1).kt k3) q
    · have kk2 : Kt (TT K) [] H H3 := (Kt.kp0 hT k1).trans k3
      refine kk q _ (kk2.nw nq) (kk2.frn nq) ?_
      rw [upd_same]
      rfl
theorem c_arc (T : Cx K mg) (B : Tb K mg base) : CalX P w K mg base CX0 7 "arc" (sp_arc K) [] := by
  obtain ⟨fd, F, ok⟩ := f_arc (P := P) (w := w) (base := base) T B
  exact ⟨_, fd, p_arc, [], ok, gl_arc T, F.kp, FunD.bindsN F fun _ _ _ _ _ _ us hl => match us, hl with | [_, _, _, _], _ => rfl, .nil⟩
end
section
variable {P : Program} {w : World} {K : PySem.W.Frag} {mg : Str → Option Value} {base : Heap}
def sp_l_bag (K : PySem.W.Frag) : Sp := fun vs H Q E => ∃ (a : Addr) (ns : List Int), vs = [.ref a] ∧ (SqL K H a (ns.map V.int)) ∧ (ns.length ≤ 63) ∧ (∀ p c H1, Box H1 p c → Kp [] H H1 → H p = none → H c = none → Q (.ref p) H1)
theorem us_l_bag {K : PySem.W.Frag} {H : Hp} {Q : VK} {E : XK} {a : Addr} {ns : List Int} (hS : SqL K H a (ns.map V.int)) (hl : ns.length ≤ 63) (kk : ∀ p c H1, Box H1 p c → Kp [] H H1 → H p = none → H c = none → Q (.ref p) H1) : sp_l_bag K [.ref a] H Q E := ⟨_, _, rfl, hS, hl, kk⟩
theorem f_l_bag (T : Cx K mg) (B : Tb K mg base) : ∃ fd, FunD K "_law_bag" "_law_bag" (defArgs s_l_bag) (defBody s_l_bag) (defScope s_l_bag) (d_l_bag.dvs K) (d_l_bag.kws K) (fAd K d_l_bag.at_) fd ∧ FnOk P w K mg base CX0 1 (fAd K d_l_bag.at_) fd p_l_bag (sp_l_bag K) := by
  obtain ⟨fd, F⟩ := T.says.def_ 5 (d := d_l_bag) rfl
  refine ⟨fd, F, fnD F sc_l_bag (fun vs H Q E h => by
    obtain ⟨_, _, rfl, _⟩ := h
    rfl) fun cdv A outer s H vs Q E hr h => ?_⟩
  have hu := hu_of hr
  obtain ⟨a, ns, rfl, hS, hl, kk⟩ := h
  refine ⟨_, (pss_cons (ps_set (i := 1) sc_l_bag.nd rfl (by first | exact Or.inl rfl | exact Or.inr rfl) (pe_callTy call_listOf (by rfl) (fr_list T) (by decide +kernel) (pa_cons (pe_slice sl_list (pv 0) po_none (po_some pe_int)) pa_nil))) (pss_cons (ps_if (pt_cmpR op_eq (pe_callB call_lenS (by rfl) (fr_len T) (by decide +kernel) (pa_cons (pv 1) pa_nil)) pe_int (nomark _)) (pss_one (ps_set (i := 1) sc_l_bag.nd rfl (by first | exact Or.inl rfl | exact Or.inr rfl) (pe_lst (pa_cons pe_int pa_nil)))) pss_nil) (pss_one (ps_ret (pe_lst (pa_cons (pv 1) (pa_cons pe_int (pa_cons pe_int (pa_cons pe_int (pa_cons (pe_callB (cr_sum rfl) (by rfl) (fr_sum T) (by decide +kernel) (pa_cons (pv 1) pa_nil)) pa_nil)))))))))), ?_⟩
  rw [show L2.start n_l_bag [.ref a] = [some (.ref a), none] from rfl]
  try dsimp only [cxOf, Cx.nox, Cx.wish, List.map]

  wtm_at "rd"
  intro D1 n1
  have e1 : cutV (ns.map V.int) none (some 63) = ns.map V.int := by
    have z := cut_to (xs := ns.map V.int) (k := 63)
    rw [List.take_of_length_le (by rw [List.length_map]; omega)] at z
    exact z
  rw [e1]
  wtm_at "rd"
  intro D n2
  have k2 : Kp [] H (upd (upd H D1 (.lst (ns.map V.int))) D (.lst (ns.map V.int))) := (Kp.new n1).nw n2
  have hD : upd (upd H D1 (.lst (ns.map V.int))) D (.lst (ns.map V.int)) D = some (.lst (ns.map V.int)) := upd_same
  have nD : H D = none := (Kp.new (ps := []) n1).back n2 (by simp)
  generalize upd (upd H D1 (.lst (ns.map V.int))) D (.lst (ns.map V.int)) = H2 at *
  wtm_at "rd"
  refine ite_d (fun h => ?_) (fun h => ?_)
  · wtm_at "rd"
    refine ⟨sz1000 (by simp), fun c nc => ?_⟩
    wtm_at "rd"
    refine rd_sumL (ns := [0]) (SqL.of upd_same) ?_
    wtm_at "rd"
    refine ⟨sz1000 (by simp), fun p np => ?_⟩
    refine kk p c _ ⟨⟨[0], 0, 0, 0, _, upd_same, by wtm_at "hp", ⟨by simp, by decide⟩, by simp⟩, by wtm_at "ne"⟩ ((k2.nw nc).nw np) ?_ ?_
    · exact Kp.back (k2.nw nc) np (by simp)
    · exact Kp.back k2 nc (by simp)
  · wtm_at "rd"
    refine rd_sumL (SqL.of hD) ?_
    wtm_at "rd"
    refine ⟨sz1000 (by simp), fun p np => ?_⟩
    refine kk p D _ ⟨⟨ns, 0, 0, 0, _, upd_same, by wtm_at "hp", ⟨?_, by decide⟩, hl⟩, by wtm_at "ne"⟩ (k2.nw np) ?_ nD
    · intro e
      subst e
      exact h rfl
    · exact Kp.back k2 np (by simp)
theorem c_l_bag (T : Cx K mg) (B : Tb K mg base) : CalX P w K mg base CX0 1 "_law_bag" (sp_l_bag K) [] := by
  obtain ⟨fd, F, ok⟩ := f_l_bag (P := P) (w := w) (base := base) T B
  exact ⟨_, fd, p_l_bag, [], ok, gl_l_bag T, F.kp, FunD.bindsN F fun _ _ _ _ _ _ us hl => match us, hl with | [_], _ => rfl, .nil⟩
end
section
variable {P : Program} {w : World} {K : PySem.W.Frag} {mg : Str → Option Value} {base : Heap}
def sp_l_mixed (K : PySem.W.Frag) : Sp := fun vs H Q E => ∃ (a b : Int), vs = [.int a, .int b] ∧ (∀ n, Q (.int n) H)
theorem us_l_mixed {K : PySem.W.Frag} {H : Hp} {Q : VK} {E : XK} {a b : Int}  (kk : ∀ n, Q (.int n) H) : sp_l_mixed K [.int a, .int b] H Q E := ⟨_, _, rfl, kk⟩
theorem f_l_mixed (T : Cx K mg) (B : Tb K mg base) : ∃ fd, FunD K "_law_mixed" "_law_mixed" (defArgs s_l_mixed) (defBody s_l_mixed) (defScope s_l_mixed) (d_l_mixed.dvs K) (d_l_mixed.kws K) (fAd K d_l_mixed.at_) fd ∧ FnOk P w K mg base CX0 1 (fAd K d_l_mixed.at_) fd p_l_mixed (sp_l_mixed K) := by
  obtain ⟨fd, F⟩ := T.says.def_ 6 (d := d_l_mixed) rfl
  refine ⟨fd, F, fnD F sc_l_mixed (fun vs H Q E h => by
    obtain ⟨_, _, rfl, _⟩ := h
    rfl) fun cdv A outer s H vs Q E hr h => ?_⟩
  have hu := hu_of hr
  obtain ⟨a, b, rfl, kk⟩ := h
  refine ⟨_, (pss_cons (ps_set (i := 2) sc_l_mixed.nd rfl (by first | exact Or.inl rfl | exact Or.inr rfl) (pe_op op_mod (pe_callTy call_int1' (by rfl) (fr_int T) (by decide +kernel) (pa_cons (pe_op op_add (pe_op op_add (pe_op op_mul (pv 0) pe_int) (pe_op op_mul (pv 1) pe_int)) pe_int) pa_nil)) pe_int)) (pss_cons (ps_set (i := 3) sc_l_mixed.nd rfl (by first | exact Or.inl rfl | exact Or.inr rfl) (pe_op op_mod (pe_callTy call_int1' (by rfl) (fr_int T) (by decide +kernel) (pa_cons (pe_op op_add (pe_op op_add (pe_op op_mul (pv 2) (pv 2)) (pe_op op_mul (pv 1) pe_int)) pe_int) pa_nil)) pe_int)) (pss_one (ps_ret (pe_op op_mod (pe_callTy call_int1' (by rfl) (fr_int T) (by decide +kernel) (pa_cons (pe_op op_add (pe_op op_add (pe_op op_mul (pv 3) (pv 3)) (pe_op op_mul (pv 2) pe_int)) (pv 1)) pa_nil)) pe_int))))), ?_⟩
  rw [show L2.start n_l_mixed [.int a, .int b] = [some (.int a), some (.int b), none, none] from rfl]
  try dsimp only [cxOf, Cx.nox, Cx.wish, List.map]

  wtm_at "rd"
  exact kk _
theorem c_l_mixed (T : Cx K mg) (B : Tb K mg base) : CalX P w K mg base CX0 1 "_law_mixed" (sp_l_mixed K) [] := by
  obtain ⟨fd, F, ok⟩ := f_l_mixed (P := P) (w := w) (base := base) T B
  exact ⟨_, fd, p_l_mixed, [], ok, gl_l_mixed T, F.kp, FunD.bindsN F fun _ _ _ _ _ _ us hl => match us, hl with | [_, _], _ => rfl, .nil⟩
end
section
variable {P : Program} {w : World} {K : PySem.W.Frag} {mg : Str → Option Value} {base : Heap}
def sp_l_wide (K : PySem.W.Frag) : Sp := fun vs H Q E => ∃ (a b m : Int), vs = [.int a, .int b, .int m] ∧ (0 < m) ∧ (∀ n, 0 ≤ n → n < m → Q (.int n) H)
theorem us_l_wide {K : PySem.W.Frag} {H : Hp} {Q : VK} {E : XK} {a b m : Int} (hm : 0 < m) (kk : ∀ n, 0 ≤ n → n < m → Q (.int n) H) : sp_l_wide K [.int a, .int b, .int m] H Q E := ⟨_, _, _, rfl, hm, kk⟩
theorem f_l_wide (T : Cx K mg) (B : Tb K mg base) : ∃ fd, FunD K "_law_wide" "_law_wide" (defArgs s_l_wide) (defBody s_l_wide) (defScope s_l_wide) (d_l_wide.dvs K) (d_l_wide.kws K) (fAd K d_l_wide.at_) fd ∧ FnOk P w K mg base CX0 2 (fAd K d_l_wide.at_) fd p_l_wide (sp_l_wide K) := by
  have c_l_mixed := c_l_mixed (P := P) (w := w) (base := base) T B
  obtain ⟨fd, F⟩ := T.says.def_ 7 (d := d_l_wide) rfl
  refine ⟨fd, F, fnD F sc_l_wide (fun vs H Q E h => by
    obtain ⟨_, _, _, rfl, _⟩ := h
    rfl) fun cdv A outer s H vs Q E hr h => ?_⟩
  have hu := hu_of hr
  obtain ⟨a, b, m, rfl, hm, kk⟩ := h
  refine ⟨_, (pss_cons (ps_set (i := 3) sc_l_wide.nd rfl (by first | exact Or.inl rfl | exact Or.inr rfl) (pe_cal c_l_mixed hr (by decide) (by rfl) pass0 (pa_cons (pv 0) (pa_cons (pv 1) pa_nil)))) (C8.pss_cut (ps_if (pt_cmpR op_gt (pv 2) pe_int (nomark _)) (pss_one (ps_for PassesOwn.never rfl (pi_range2 (by rfl) (fr_range T) (pa_cons pe_int (pa_cons pe_int pa_nil))) (pg_name (i := 4) sc_l_wide.nd rfl (by first | exact Or.inl rfl | exact Or.inr rfl)) (pss_one (ps_set (i := 3) sc_l_wide.nd rfl (by first | exact Or.inl rfl | exact Or.inr rfl) (pe_op op_add (pe_op op_mul (pv 3) pe_int) (pe_cal c_l_mixed hr (by decide) (by rfl) pass0 (pa_cons (pe_op op_add (pv 0) (pv 4)) (pa_cons (pe_op op_add (pv 1) (pe_op op_mul pe_int (pv 4))) pa_nil)))))))) pss_nil) (pss_one (ps_ret (pe_op op_mod (pe_callTy call_int1' (by rfl) (fr_int T) (by decide +kernel) (pa_cons (pv 3) pa_nil)) (pv 2)))))), ?_⟩
  rw [show L2.start n_l_wide [.int a, .int b, .int m] = [some (.int a), some (.int b), some (.int m), none, none] from rfl]
  try dsimp only [cxOf, Cx.nox, Cx.wish, List.map]

  wtm_at "rd"
  refine us_l_mixed fun n => ?_
  wtm_at "rd"
  refine rd_cut (fun σ H1 => (∃ n v4, σ = [some (.int a), some (.int b), some (.int m), some (.int n), v4]) ∧ H1 = H) ?_ ?_
  · wtm_at "rd"
    refine ite_d (fun h => ?_) (fun h => ?_)
    · wtm_at "rd"
      refine forR_by (fun i σ H1 => (∃ n v4, σ = [some (.int a), some (.int b), some (.int m), some (.int n), v4]) ∧ H1 = H) ⟨⟨_, _, rfl⟩, rfl⟩ ?_ ?_
      · rintro i σ H1 hi ⟨⟨n, v4, rfl⟩, rfl⟩
        wtm_at "rd"
        refine us_l_mixed fun n2 => ?_
        wtm_at "rd"
        exact ⟨⟨_, _, rfl⟩, rfl⟩
      · rintro σ H1 ⟨⟨n, v4, rfl⟩, rfl⟩
        exact ⟨⟨_, _, rfl⟩, rfl⟩
    · wtm_at "rd"
      exact ⟨⟨_, _, rfl⟩, rfl⟩
  · rintro σ H1 ⟨⟨n, v4, rfl⟩, rfl⟩
    wtm_at "rd"
    exact kk _ (Int.emod_nonneg _ (by omega)) (Int.emod_lt_of_pos _ hm)
theorem c_l_wide (T : Cx K mg) (B : Tb K mg base) : CalX P w K mg base CX0 2 "_law_wide" (sp_l_wide K) [] := by
  obtain ⟨fd, F, ok⟩ := f_l_wide (P := P) (w := w) (base := base) T B
  exact ⟨_, fd, p_l_wide, [], ok, gl_l_wide T, F.kp, FunD.bindsN F fun _ _ _ _ _ _ us hl => match us, hl with | [_, _, _], _ => rfl, .nil⟩
end
section
variable {P : Program} {w : World} {K : PySem.W.Frag} {mg : Str → Option Value} {base : Heap}
def sp_l_pick (K : PySem.W.Frag) : Sp := fun vs H Q E => ∃ (p c : Addr) (m : Int), vs = [.ref p, .int m] ∧ (Box H p c) ∧ (0 < m) ∧ (m < 1809251394333065553493296640760748560207343510400633813116524750123642650624) ∧ (∀ n H1, 0 ≤ n → n < m → Box H1 p c → Kp [p] H H1 → Q (.int n) H1)
theorem us_l_pick {K : PySem.W.Frag} {H : Hp} {Q : VK} {E : XK} {p c : Addr} {m : Int} (hB : Box H p c) (h0 : 0 < m) (h1 : m < 1809251394333065553493296640760748560207343510400633813116524750123642650624) (kk : ∀ n H1, 0 ≤ n → n < m → Box H1 p c → Kp [p] H H1 → Q (.int n) H1) : sp_l_pick K [.ref p, .int m] H Q E := ⟨_, _, _, rfl, hB, h0, h1, kk⟩
theorem f_l_pick (T : Cx K mg) (B : Tb K mg base) : ∃ fd, FunD K "_law_pick" "_law_pick" (defArgs s_l_pick) (defBody s_l_pick) (defScope s_l_pick) (d_l_pick.dvs K) (d_l_pick.kws K) (fAd K d_l_pick.at_) fd ∧ FnOk P w K mg base CX0 3 (fAd K d_l_pick.at_) fd p_l_pick (sp_l_pick K) := by
  have c_l_wide := c_l_wide (P := P) (w := w) (base := base) T B
  obtain ⟨fd, F⟩ := T.says.def_ 8 (d := d_l_pick) rfl
  refine ⟨fd, F, fnD F sc_l_pick (fun vs H Q E h => by
    obtain ⟨_, _, _, rfl, _⟩ := h
    rfl) fun cdv A outer s H vs Q E hr h => ?_⟩
  have hu := hu_of hr
  obtain ⟨p, c, m, rfl, hB, h0, h1, kk⟩ := h
  refine ⟨_, (pss_cons (ps_if (pt_cmpR op_lt (pv 1) pe_int (nomark _)) (pss_one (ps_ret pe_int)) pss_nil) (pss_cons (ps_asg (pe_op op_add (pe_ix ix_list (pv 0) pe_int (fun _ _ => rfl)) pe_int) (pg_sub (pv 0) pe_int set_list)) (C8.pss_cut (ps_if (PW.pt (pw_and (pt_cmpR op_lt (pe_ix ix_list (pv 0) pe_int (fun _ _ => rfl)) pe_int (nomark _)) (pw_and1 (pt_cmpR op_lt (pe_ix ix_list (pv 0) pe_int (fun _ _ => rfl)) (pe_callB call_lenS (by rfl) (fr_len T) (by decide +kernel) (pa_cons (pe_ix ix_list (pv 0) pe_int (fun _ _ => rfl)) pa_nil)) (nomark _))))) (pss_cons (ps_set (i := 2) sc_l_pick.nd rfl (by first | exact Or.inl rfl | exact Or.inr rfl) (pe_ix ix_list (pe_ix ix_list (pv 0) pe_int (fun _ _ => rfl)) (pe_ix ix_list (pv 0) pe_int (fun _ _ => rfl)) (fun _ _ => rfl))) (pss_cons (ps_asg (pe_op op_add (pe_ix ix_list (pv 0) pe_int (fun _ _ => rfl)) pe_int) (pg_sub (pv 0) pe_int set_list)) (pss_cons (ps_if (pt_cmpR op_lt (pv 2) (pe_op op_pow pe_int pe_int) (nomark _)) (pss_one (ps_ret (pe_cal c_l_wide hr (by decide) (by rfl) pass0 (pa_cons (pv 2) (pa_cons (pe_ix ix_list (pv 0) pe_int (fun _ _ => rfl)) (pa_cons (pv 1) pa_nil)))))) pss_nil) (pss_one (ps_asg (pv 2) (pg_sub (pv 0) pe_int set_list)))))) pss_nil) (pss_cons (ps_if (pt_cmpR op_gt (pe_ix ix_list (pv 0) pe_int (fun _ _ => rfl)) pe_int (nomark _)) (pss_cons (ps_set (i := 3) sc_l_pick.nd rfl (by first | exact Or.inl rfl | exact Or.inr rfl) (pe_op op_mod (pe_callTy call_int1' (by rfl) (fr_int T) (by decide +kernel) (pa_cons (pe_ix ix_list (pv 0) pe_int (fun _ _ => rfl)) pa_nil)) (pv 1))) (pss_cons (ps_asg (pe_op op_fdivW (pe_ix ix_list (pv 0) pe_int (fun _ _ => rfl)) (pv 1)) (pg_sub (pv 0) pe_int set_list)) (pss_one (ps_ret (pv 3))))) pss_nil) (pss_cons (ps_set (i := 2) sc_l_pick.nd rfl (by first | exact Or.inl rfl | exact Or.inr rfl) (pe_op op_add (pe_ix ix_list (pe_ix ix_list (pv 0) pe_int (fun _ _ => rfl)) (pe_op op_mod (pe_callTy call_int1' (by rfl) (fr_int T) (by decide +kernel) (pa_cons (pe_ix ix_list (pv 0) pe_int (fun _ _ => rfl)) pa_nil)) (pe_callB call_lenS (by rfl) (fr_len T) (by decide +kernel) (pa_cons (pe_ix ix_list (pv 0) pe_int (fun _ _ => rfl)) pa_nil))) (fun _ _ => rfl)) (pe_ix ix_list (pv 0) pe_int (fun _ _ => rfl)))) (pss_one (ps_ret (pe_cal c_l_wide hr (by decide) (by rfl) pass0 (pa_cons (pv 2) (pa_cons (pe_ix ix_list (pv 0) pe_int (fun _ _ => rfl)) (pa_cons (pv 1) pa_nil))))))))))), ?_⟩
  rw [show L2.start n_l_pick [.ref p, .int m] = [some (.ref p), some (.int m), none, none] from rfl]
  try dsimp only [cxOf, Cx.nox, Cx.wish, List.map]

  have hw : ∀ i, CDivW i m := fun i => wide_div (b := 250) h0 (by omega) (by decide) (by decide)
  obtain ⟨⟨ns, a, b, d, e, hp, hc, ⟨hn, ha⟩, hl⟩, ne⟩ := hB
  have lp : 0 < ns.length := List.length_pos_iff.mpr hn
  wtm_at "rd"
  refine ite_d (fun h => ?_) (fun h => ?_)
  · wtm_at "rd"
    exact kk 0 H (by decide) h0 ⟨⟨ns, a, b, d, e, hp, hc, ⟨hn, ha⟩, hl⟩, ne⟩ Kp.refl
  wtm_at "rd"
  have hpn : ∀ a' b', 0 ≤ a' → Kp [p] H (upd H p (.lst [.ref c, .int a', .int b', .int (d + 1), .int e])) ∧ Box (upd H p (.lst [.ref c, .int a', .int b', .int (d + 1), .int e])) p c := fun a' b' h => ⟨Kp.refl.wr (by simp), ⟨⟨ns, a', b', d + 1, e, upd_same, hu_ne ne hc, ⟨hn, h⟩, hl⟩, ne⟩⟩
  have f1 := hpn a b ha
  have hp1 : upd H p (.lst [.ref c, .int a, .int b, .int (d + 1), .int e]) p = some (.lst [.ref c, .int a, .int b, .int (d + 1), .int e]) := upd_same
  have hc1 : upd H p (.lst [.ref c, .int a, .int b, .int (d + 1), .int e]) c = some (.lst (ns.map V.int)) := hu_ne ne hc
  have hH : ∀ o, upd (upd H p (.lst [.ref c, .int a, .int b, .int (d + 1), .int e])) p o = upd H p o := fun o => upd_upd
  show C8.tCut _ _ _ _ (upd H p (.lst [.ref c, .int a, .int b, .int (d + 1), .int e]))
  generalize upd H p (.lst [.ref c, .int a, .int b, .int (d + 1), .int e]) = H1 at *
  refine rd_cut (fun σ H2 => ∃ a' b' v2 v3, σ = [some (.ref p), some (.int m), v2, v3] ∧ H2 p = some (.lst [.ref c, .int a', .int b', .int (d + 1), .int e]) ∧ H2 c = some (.lst (ns.map V.int)) ∧ 0 ≤ a' ∧ Kp [p] H H2) ?_ ?_
  · wtm_at "rd"
    refine ite_d (fun h2 => ?_) (fun h2 => ?_)
    · wtm_at "rd"
      refine ite_d (fun h3 => ?_) (fun h3 => ?_)
      · wtm_at "rd"
        refine ite_d (fun h4 => ?_) (fun h4 => ?_)
        · wtm_at "rd"
          refine us_l_wide h0 fun n n0 n1 => ?_
          rw [hH]
          exact kk n _ n0 n1 (hpn (a + 1) b (by omega)).2 (hpn (a + 1) b (by omega)).1
        · wtm_at "rd"
          refine ⟨a + 1, _, _, _, rfl, upd_same, ?_, by omega, ?_⟩
          · exact hu_ne ne (hu_ne ne hc1)
          · exact (f1.1.wr (by simp)).wr (by simp)
      · wtm_at "rd"
        exact ⟨a, b, _, _, rfl, hp1, hc1, ha, f1.1⟩
    · wtm_at "rd"
      exact ⟨a, b, _, _, rfl, hp1, hc1, ha, f1.1⟩
  · rintro σ H2 ⟨a', b', v2, v3, rfl, hp2, hc2, ha2, k2⟩
    have m1 := Int.emod_nonneg (d + 1) (show (ns.length : Int) ≠ 0 by omega)
    have m2 := Int.emod_lt_of_pos (d + 1) (show (0 : Int) < ns.length by omega)
    wtm_at "rd"
    refine ite_d (fun h2 => ?_) (fun h2 => ?_)
    · wtm_at "rd"
      refine rd_I (hw _) ?_
      wtm_at "rd"
      exact kk _ _ (Int.emod_nonneg _ (by omega)) (Int.emod_lt_of_pos _ h0) ⟨⟨ns, a', _, d + 1, e, upd_same, hu_ne ne hc2, ⟨hn, ha2⟩, hl⟩, ne⟩ (k2.wr (by simp))
    · wtm_at "rd"
      refine us_l_wide h0 fun n n0 n1 => ?_
      exact kk n _ n0 n1 ⟨⟨ns, a', b', d + 1, e, hp2, hc2, ⟨hn, ha2⟩, hl⟩, ne⟩ k2
theorem c_l_pick (T : Cx K mg) (B : Tb K mg base) : CalX P w K mg base CX0 3 "_law_pick" (sp_l_pick K) [] := by
  obtain ⟨fd, F, ok⟩ := f_l_pick (P := P) (w := w) (base := base) T B
  exact ⟨_, fd, p_l_pick, [], ok, gl_l_pick T, F.kp, FunD.bindsN F fun _ _ _ _ _ _ us hl => match us, hl with | [_, _], _ => rfl, .nil⟩
end
section
variable {P : Program} {w : World} {K : PySem.W.Frag} {mg : Str → Option Value} {base : Heap}
def sp_l_whole (K : PySem.W.Frag) : Sp := fun vs H Q E => ∃ (n : Int), vs = [.int n] ∧ (Q (.bl true) H)
theorem us_l_whole {K : PySem.W.Frag} {H : Hp} {Q : VK} {E : XK} {n : Int}  (kk : Q (.bl true) H) : sp_l_whole K [.int n] H Q E := ⟨_, rfl, kk⟩
theorem f_l_whole (T : Cx K mg) (B : Tb K mg base) : ∃ fd, FunD K "_law_whole" "_law_whole" (defArgs s_l_whole) (defBody s_l_whole) (defScope s_l_whole) (d_l_whole.dvs K) (d_l_whole.kws K) (fAd K d_l_whole.at_) fd ∧ FnOk P w K mg base CX0 1 (fAd K d_l_whole.at_) fd p_l_whole (sp_l_whole K) := by
  obtain ⟨fd, F⟩ := T.says.def_ 9 (d := d_l_whole) rfl
  refine ⟨fd, F, fnD F sc_l_whole (fun vs H Q E h => by
    obtain ⟨_, rfl, _⟩ := h
    rfl) fun cdv A outer s H vs Q E hr h => ?_⟩
  have hu := hu_of hr
  obtain ⟨n, rfl, kk⟩ := h
  refine ⟨_, (pss_one (ps_ret (pe_and (pe_callB call_isi (by rfl) (fr_isinstance T) (by decide +kernel) (pa_cons (pv 0) (pa_cons (pe_bltn (v := .ty "int") (by rfl) (fr_int T) (by decide +kernel) rfl) pa_nil))) (pe_one (pe_not (pe_callB call_isi (by rfl) (fr_isinstance T) (by decide +kernel) (pa_cons (pv 0) (pa_cons (pe_bltn (v := .ty "bool") (by rfl) (fr_bool T) (by decide +kernel) rfl) pa_nil)))))))), ?_⟩
  rw [show L2.start n_l_whole [.int n] = [some (.int n)] from rfl]
  try dsimp only [cxOf, Cx.nox, Cx.wish, List.map]

  wtm_at "rd"
  exact kk
theorem c_l_whole (T : Cx K mg) (B : Tb K mg base) : CalX P w K mg base CX0 1 "_law_whole" (sp_l_whole K) [] := by
  obtain ⟨fd, F, ok⟩ := f_l_whole (P := P) (w := w) (base := base) T B
  exact ⟨_, fd, p_l_whole, [], ok, gl_l_whole T, F.kp, FunD.bindsN F fun _ _ _ _ _ _ us hl => match us, hl with | [_], _ => rfl, .nil⟩
end
section
variable {P : Program} {w : World} {K : PySem.W.Frag} {mg : Str → Option Value} {base : Heap}
def sp_l_ring (K : PySem.W.Frag) : Sp := fun vs H Q E => ∃ (b : Int), vs = [.int b] ∧ (0 ≤ b ∧ b ≤ 100) ∧ (Q (.int (2 ^ b.toNat)) H)
theorem us_l_ring {K : PySem.W.Frag} {H : Hp} {Q : VK} {E : XK} {b : Int} (hb : 0 ≤ b ∧ b ≤ 100) (kk : Q (.int (2 ^ b.toNat)) H) : sp_l_ring K [.int b] H Q E := ⟨_, rfl, hb, kk⟩
theorem f_l_ring (T : Cx K mg) (B : Tb K mg base) : ∃ fd, FunD K "_law_ring" "_law_ring" (defArgs s_l_ring) (defBody s_l_ring) (defScope s_l_ring) (d_l_ring.dvs K) (d_l_ring.kws K) (fAd K d_l_ring.at_) fd ∧ FnOk P w K mg base CX0 1 (fAd K d_l_ring.at_) fd p_l_ring (sp_l_ring K) := by
  obtain ⟨fd, F⟩ := T.says.def_ 10 (d := d_l_ring) rfl
  refine ⟨fd, F, fnD F sc_l_ring (fun vs H Q E h => by
    obtain ⟨_, rfl, _⟩ := h
    rfl) fun cdv A outer s H vs Q E hr h => ?_⟩
  have hu := hu_of hr
  obtain ⟨b, rfl, hb, kk⟩ := h
  refine ⟨_, (pss_cons (ps_set (i := 1) sc_l_ring.nd rfl (by first | exact Or.inl rfl | exact Or.inr rfl) pe_int) (pss_cons (ps_for PassesOwn.never rfl (pi_range1 (by rfl) (fr_range T) (pa_cons (pv 0) pa_nil)) (pg_name (i := 2) sc_l_ring.nd rfl (by first | exact Or.inl rfl | exact Or.inr rfl)) (pss_one (ps_set (i := 1) sc_l_ring.nd rfl (by first | exact Or.inl rfl | exact Or.inr rfl) (pe_op op_mul (pv 1) pe_int)))) (pss_one (ps_ret (pv 1))))), ?_⟩
  rw [show L2.start n_l_ring [.int b] = [some (.int b), none, none] from rfl]
  try dsimp only [cxOf, Cx.nox, Cx.wish, List.map]

  wtm_at "rd"
  refine forR_by (fun i σ H1 => (∃ v2, σ = [some (.int b), some (.int (2 ^ i)), v2]) ∧ H1 = H) ⟨⟨_, rfl⟩, rfl⟩ ?_ ?_
  · rintro i σ H1 hi ⟨⟨v2, rfl⟩, rfl⟩
    wtm_at "rd"
    refine ⟨⟨some (.int (0 + (i : Int))), ?_⟩, rfl⟩
    rw [Int.pow_succ]
    rfl
  · rintro σ H1 ⟨⟨v2, rfl⟩, rfl⟩
    wtm_at "rd"
    exact kk
theorem c_l_ring (T : Cx K mg) (B : Tb K mg base) : CalX P w K mg base CX0 1 "_law_ring" (sp_l_ring K) [] := by
  obtain ⟨fd, F, ok⟩ := f_l_ring (P := P) (w := w) (base := base) T B
  exact ⟨_, fd, p_l_ring, [], ok, gl_l_ring T, F.kp, FunD.bindsN F fun _ _ _ _ _ _ us hl => match us, hl with | [_], _ => rfl, .nil⟩
end
section
variable {P : Program} {w : World} {K : PySem.W.Frag} {mg : Str → Option Value} {base : Heap}
def sp_l_setting (K : PySem.W.Frag) : Sp := fun vs H Q E => ∃ (p c : Addr) (bits : Int), vs = [.ref p, .int bits] ∧ (Box H p c) ∧ (1 ≤ bits ∧ bits ≤ 8) ∧ (∀ S s H1, SetAt K H1 S s → s.ring = 2 ^ bits.toNat → Box H1 p c → Kp [p] H H1 → Q (.ref S) H1)
theorem us_l_setting {K : PySem.W.Frag} {H : Hp} {Q : VK} {E : XK} {p c : Addr} {bits : Int} (hB : Box H p c) (b0 : 1 ≤ bits ∧ bits ≤ 8) (kk : ∀ S s H1, SetAt K H1 S s → s.ring = 2 ^ bits.toNat → Box H1 p c → Kp [p] H H1 → Q (.ref S) H1) : sp_l_setting K [.ref p, .int bits] H Q E := ⟨_, _, _, rfl, hB, b0, kk⟩
theorem f_l_setting (T : Cx K mg) (B : Tb K mg base) : ∃ fd, FunD K "_law_setting" "_law_setting" (defArgs s_l_setting) (defBody s_l_setting) (defScope s_l_setting) (d_l_setting.dvs K) (d_l_setting.kws K) (fAd K d_l_setting.at_) fd ∧ FnOk P w K mg base CX0 4 (fAd K d_l_setting.at_) fd p_l_setting (sp_l_setting K) := by
  have c_l_pick := c_l_pick (P := P) (w := w) (base := base) T B
  have c_Setting_init := c_Setting_init (P := P) (w := w) (base := base) T B
  obtain ⟨fd, F⟩ := T.says.def_ 11 (d := d_l_setting) rfl
  refine ⟨fd, F, fnD F sc_l_setting (fun vs H Q E h => by
    obtain ⟨_, _, _, rfl, _⟩ := h
    rfl) fun cdv A outer s H vs Q E hr h => ?_⟩
  have hu := hu_of hr
  obtain ⟨p, c, bits, rfl, hB, b0, kk⟩ := h
  refine ⟨_, (pss_one (ps_ret (pe_mak c_Setting_init hr (by decide) (by rfl) pass0 (pa_cons (pv 1) (pa_cons (pe_op op_add pe_int (pe_cal c_l_pick hr (by decide) (by rfl) pass0 (pa_cons (pv 0) (pa_cons pe_int pa_nil)))) (pa_cons (pe_op op_add pe_int (pe_cal c_l_pick hr (by decide) (by rfl) pass0 (pa_cons (pv 0) (pa_cons pe_int pa_nil)))) pa_nil)))))), ?_⟩
  rw [show L2.start n_l_setting [.ref p, .int bits] = [some (.ref p), some (.int bits)] from rfl]
  try dsimp only [cxOf, Cx.nox, Cx.wish, List.map]

  wtm_at "rd"
  refine us_l_pick hB (by decide) (by decide) fun n1 H1 n10 n11 B1 k1 => ?_
  wtm_at "rd"
  refine us_l_pick B1 (by decide) (by decide) fun n2 H2 n20 n21 B2 k2 => ?_
  wtm_at "rd"
  intro x dx nx ndx ne
  have nx2 : upd H2 dx (.own x) x = none := hn_ne (Ne.symm ne) nx
  have B3 : Box (upd (upd H2 dx (.own x)) x (.ins (ga K "Setting") dx [])) p c := (B2.new ndx).new nx2
  refine us_Setting_init (s := ⟨bits, 1 + n1, 1 + n2, 6, 1⟩) upd_same ⟨b0.1, b0.2, by show 1 ≤ 1 + n1; omega, by show 1 + n1 ≤ 6; omega, by show 1 ≤ 1 + n2; omega, by show 1 + n2 ≤ 64; omega, by show (1 : Int) ≤ 6; decide, by show (6 : Int) ≤ 200; decide, by show (0 : Int) ≤ 1; decide, by show (1 : Int) ≤ 3; decide⟩ fun H3 S3 k3 => ⟨rfl, ?_⟩
  refine kk x _ H3 S3 (Stg.ring_eq _) (B3.k1 k3 (B2.ne1 nx) (B2.ne2 nx)) ?_
  have kx : H x = none := (k1.trans k2).back nx (by
    have := B2.ne1 nx
    simpa using Ne.symm this)
  exact (((k1.trans k2).nw ndx).nw nx2).via1 k3 kx
theorem c_l_setting (T : Cx K mg) (B : Tb K mg base) : CalX P w K mg base CX0 4 "_law_setting" (sp_l_setting K) [] := by
  obtain ⟨fd, F, ok⟩ := f_l_setting (P := P) (w := w) (base := base) T B
  exact ⟨_, fd, p_l_setting, [], ok, gl_l_setting T, F.kp, FunD.bindsN F fun _ _ _ _ _ _ us hl => match us, hl with | [_, _], _ => rfl, .nil⟩
end
section
variable {P : Program} {w : World} {K : PySem.W.Frag} {mg : Str → Option Value} {base : Heap}
def sp_l_held (K : PySem.W.Frag) : Sp := fun vs H Q E => ∃ (p c : Addr) (r : Int), vs = [.ref p, .int r] ∧ (Box H p c) ∧ (Ring r) ∧ (∀ l xs H1, Seats H1 l r xs → Box H1 p c → Kp [p] H H1 → H l = none → Q (.ref l) H1)
theorem us_l_held {K : PySem.W.Frag} {H : Hp} {Q : VK} {E : XK} {p c : Addr} {r : Int} (hB : Box H p c) (hR : Ring r) (kk : ∀ l xs H1, Seats H1 l r xs → Box H1 p c → Kp [p] H H1 → H l = none → Q (.ref l) H1) : sp_l_held K [.ref p, .int r] H Q E := ⟨_, _, _, rfl, hB, hR, kk⟩
theorem f_l_held (T : Cx K mg) (B : Tb K mg base) : ∃ fd, FunD K "_law_held" "_law_held" (defArgs s_l_held) (defBody s_l_held) (defScope s_l_held) (d_l_held.dvs K) (d_l_held.kws K) (fAd K d_l_held.at_) fd ∧ FnOk P w K mg base CX0 4 (fAd K d_l_held.at_) fd p_l_held (sp_l_held K) := by
  have c_l_pick := c_l_pick (P := P) (w := w) (base := base) T B
  obtain ⟨fd, F⟩ := T.says.def_ 12 (d := d_l_held) rfl
  refine ⟨fd, F, fnD F sc_l_held (fun vs H Q E h => by
    obtain ⟨_, _, _, rfl, _⟩ := h
    rfl) fun cdv A outer s H vs Q E hr h => ?_⟩
  have hu := hu_of hr
  obtain ⟨p, c, r, rfl, hB, hR, kk⟩ := h
  refine ⟨_, (pss_cons (ps_set (i := 2) sc_l_held.nd rfl (by first | exact Or.inl rfl | exact Or.inr rfl) (pe_cal c_l_pick hr (by decide) (by rfl) pass0 (pa_cons (pv 0) (pa_cons pe_int pa_nil)))) (pss_cons (ps_set (i := 3) sc_l_held.nd rfl (by first | exact Or.inl rfl | exact Or.inr rfl) (pe_op op_add pe_int (pe_cal c_l_pick hr (by decide) (by rfl) pass0 (pa_cons (pv 0) (pa_cons (pe_callB (call_min2' rfl) (by rfl) (fr_min T) (by decide +kernel) (pa_cons (pv 1) (pa_cons pe_int pa_nil))) pa_nil))))) (C8.pss_cut (ps_if (pt_cmpR op_eq (pv 2) pe_int (nomark _)) (pss_one (ps_set (i := 3) sc_l_held.nd rfl (by first | exact Or.inl rfl | exact Or.inr rfl) (pv 1))) pss_nil) (C8.pss_cut (ps_if (pt_cmpR op_eq (pv 2) pe_int (nomark _)) (pss_one (ps_set (i := 3) sc_l_held.nd rfl (by first | exact Or.inl rfl | exact Or.inr rfl) (pe_op op_sub (pv 1) pe_int))) pss_nil) (C8.pss_cut (ps_if (pt_cmpR op_eq (pv 2) pe_int (nomark _)) (pss_one (ps_set (i := 3) sc_l_held.nd rfl (by first | exact Or.inl rfl | exact Or.inr rfl) (pe_cal c_l_pick hr (by decide) (by rfl) pass0 (pa_cons (pv 0) (pa_cons (pe_op op_add (pv 1) pe_int) pa_nil))))) pss_nil) (pss_cons (ps_set (i := 4) sc_l_held.nd rfl (by first | exact Or.inl rfl | exact Or.inr rfl) (pe_listRg rfl (by rfl) (fr_list T) (prg_1 (by rfl) (fr_range T) (pv 1)))) (pss_cons (ps_set (i := 5) sc_l_held.nd rfl (by first | exact Or.inl rfl | exact Or.inr rfl) (pe_lst pa_nil)) (pss_cons (ps_for PassesOwn.never rfl (pi_range1 (by rfl) (fr_range T) (pa_cons (pv 3) pa_nil)) (pg_name (i := 6) sc_l_held.nd rfl (by first | exact Or.inl rfl | exact Or.inr rfl)) (pss_cons (ps_set (i := 7) sc_l_held.nd rfl (by first | exact Or.inl rfl | exact Or.inr rfl) (pe_bm PySem.F.plainAttrs_list PySem.F.slot_list_pop PySem.F.type_list_pop mt_popAt (pv 4) (pa_cons (pe_cal c_l_pick hr (by decide) (by rfl) pass0 (pa_cons (pv 0) (pa_cons (pe_callB call_lenS (by rfl) (fr_len T) (by decide +kernel) (pa_cons (pv 4) pa_nil)) pa_nil))) pa_nil))) (pss_one (ps_expr (pe_bm PySem.F.plainAttrs_list PySem.F.slot_list_append PySem.F.type_list_append mt_append (pv 5) (pa_cons (pv 7) pa_nil)))))) (pss_one (ps_ret (pv 5))))))))))), ?_⟩
  rw [show L2.start n_l_held [.ref p, .int r] = [some (.ref p), some (.int r), none, none, none, none, none, none] from rfl]
  try dsimp only [cxOf, Cx.nox, Cx.wish, List.map]

  have rp := hR.pos
  have r1 := hR.le
  have mn0 : 0 < min r 6 := by omega
  wtm_at "rd"
  refine us_l_pick hB (by decide) (by decide) fun kd H1 n10 n11 B1 k1 => ?_
  wtm_at "rd"
  refine us_l_pick B1 (by omega) (by omega) fun n2 H2 n20 n21 B2 k2 => ?_
  have k2 : Kp [p] H H2 := k1.trans k2
  have n22 : n2 < min r 6 := n21
  have n23 : 1 + n2 ≤ r := by
    have := Int.min_le_left r 6
    omega
  clear k1 B1 hB n21
  wtm_at "rd"
  refine rd_cut (fun σ H3 => ∃ n, σ = [some (.ref p), some (.int r), some (.int kd), some (.int n), none, none, none, none] ∧ 0 ≤ n ∧ n ≤ r ∧ H3 = H2) ?_ ?_
  · wtm_at "rd"
    refine ite_d (fun h => ?_) (fun h => ?_)
    · wtm_at "rd"
      exact ⟨_, rfl, by omega, by omega, rfl⟩
    · wtm_at "rd"
      exact ⟨_, rfl, by omega, by omega, rfl⟩
  rintro σ H3 ⟨n, rfl, m0, m1, rfl⟩
  wtm_at "rd"
  refine rd_cut (fun σ H4 => ∃ n, σ = [some (.ref p), some (.int r), some (.int kd), some (.int n), none, none, none, none] ∧ 0 ≤ n ∧ n ≤ r ∧ H4 = H3) ?_ ?_
  · wtm_at "rd"
    refine ite_d (fun h => ?_) (fun h => ?_)
    · wtm_at "rd"
      exact ⟨_, rfl, by omega, by omega, rfl⟩
    · wtm_at "rd"
      exact ⟨_, rfl, by omega, by omega, rfl⟩
  clear m0 m1
  rintro σ H3 ⟨n, rfl, m0, m1, rfl⟩
  wtm_at "rd"
  refine rd_cut (fun σ H4 => ∃ n, σ = [some (.ref p), some (.int r), some (.int kd), some (.int n), none, none, none, none] ∧ 0 ≤ n ∧ n ≤ r ∧ Box H4 p c ∧ Kp [p] H H4) ?_ ?_
  · wtm_at "rd"
    refine ite_d (fun h => ?_) (fun h => ?_)
    · wtm_at "rd"
      refine us_l_pick B2 (by omega) (by omega) fun n3 H4 n30 n31 B4 k4 => ?_
      wtm_at "rd"
      exact ⟨_, rfl, by omega, by omega, B4, k2.trans k4⟩
    · wtm_at "rd"
      exact ⟨_, rfl, by omega, by omega, B2, k2⟩
  clear m0 m1 B2 k2
  rintro σ H2 ⟨n, rfl, m0, m1, B2, k2⟩
  wtm_at "rd"
  refine ⟨RgOk.of_le (by omega) (by omega) (by omega) (by omega), fun P nP => ?_⟩
  wtm_at "rd"
  refine ⟨sz1000 (by simp), fun l nl => ?_⟩
  have nP0 : H P = none := k2.back nP (by simpa using Ne.symm (B2.ne1 nP))
  have k3 := k2.nw (o := .lst (rgV 0 r)) nP
  have B3 := B2.new (o := .lst (rgV 0 r)) nP
  have nl0 : H l = none := k3.back nl (by simpa using Ne.symm (B3.ne1 nl))
  have nPl : P ≠ l := ne_fresh nl
  have nPp : P ≠ p := Ne.symm (B2.ne1 nP)
  have nlp : l ≠ p := Ne.symm (B3.ne1 nl)
  have nPc : P ≠ c := Ne.symm (B2.ne2 nP)
  have nlc : l ≠ c := Ne.symm (B3.ne2 nl)
  have B4 := B3.new (o := .lst []) nl
  have k4 := k3.nw (o := .lst []) nl
  have hP : upd (upd H2 P (.lst (rgV 0 r))) l (.lst []) P = some (.lst (((List.range r.toNat).map fun (i : Nat) => (i : Int)).map V.int)) := by
    rw [upd_ne nPl, upd_same, rgV_0]
  wtm_at "rd"
  refine forR_by (fun i σ H3 => (∃ v6 v7, σ = [some (.ref p), some (.int r), some (.int kd), some (.int n), some (.ref P), some (.ref l), v6, v7]) ∧ (∃ xs ps : List Int, H3 l = some (.lst (xs.map V.int)) ∧ H3 P = some (.lst (ps.map V.int)) ∧ xs.length = i ∧ (xs ++ ps).Perm ((List.range r.toNat).map fun (i : Nat) => (i : Int))) ∧ Box H3 p c ∧ Kp [p] H H3)
    ⟨⟨_, _, rfl⟩, ⟨[], _, upd_same, hP, rfl, .refl _⟩, B4, k4⟩ ?_ ?_
  · rintro i σ H3 hi ⟨⟨v6, v7, rfl⟩, ⟨xs, ps, hl, hp, hx, pm⟩, B5, k5⟩
    have pl : xs.length + ps.length = r.toNat := by
      have := pm.length_eq
      rw [List.length_append, List.length_map, List.length_range] at this
      exact this
    wtm_at "rd"
    refine us_l_pick B5 (by omega) (by omega) fun j H4 j0 j1 B6 k6 => ?_
    have hl4 := k6.g1 nlp hl
    have hp4 := k6.g1 nPp hp
    have hj : j.toNat < ps.length := by omega
    refine rd_popAt (k := j.toNat) (v := .int ps[j.toNat]) hp4 (by omega) (by omega) ?_ ?_ ?_
    · exact (ixN_seq (ixN_at j0 (by rw [List.length_map]; omega))).1
    · rw [List.getElem?_map, List.getElem?_eq_getElem hj]
      rfl
    have hl5 : upd H4 P (.lst ((ps.map V.int).eraseIdx j.toNat)) l = some (.lst (xs.map V.int)) := hu_ne (Ne.symm nPl) hl4
    have sl : (xs.map V.int).length < sizeLine := szlt (by rw [List.length_map]; omega)
    wtm_at "rd"
    refine ⟨⟨_, _, rfl⟩, ⟨xs ++ [ps[j.toNat]], ps.eraseIdx j.toNat, ?_, ?_, ?_, (perm_pop hj).trans pm⟩, ?_, ?_⟩
    · rw [upd_same, List.map_append]
      rfl
    · rw [upd_ne nPl, upd_same, map_eraseIdx']
    · rw [List.length_append, hx]
      rfl
    · exact (B6.k1 (q := P) (Kp.refl.wr (by simp)) (Ne.symm nPp) (Ne.symm nPc)).k1 (q := l) (Kp.refl.wr (by simp)) (Ne.symm nlp) (Ne.symm nlc)
    · exact ((k5.trans k6).mine nP0).mine nl0
  · rintro σ H3 ⟨⟨v6, v7, rfl⟩, ⟨xs, ps, hl, hp, hx, pm⟩, B5, k5⟩
    wtm_at "rd"
    have nd : (xs ++ ps).Nodup := pm.nodup_iff.mpr (List.Pairwise.map _ (fun a b (h : a ≠ b) => by intro e; exact h (by omega)) List.nodup_range)
    refine kk l xs H3 ⟨hl, (List.nodup_append.mp nd).1, fun z hz => ?_, by omega⟩ B5 k5 nl0
    have hz2 := pm.mem_iff.mp (List.mem_append_left ps hz)
    obtain ⟨i, hi, rfl⟩ := List.mem_map.mp hz2
    rw [List.mem_range] at hi
    omega
theorem c_l_held (T : Cx K mg) (B : Tb K mg base) : CalX P w K mg base CX0 4 "_law_held" (sp_l_held K) [] := by
  obtain ⟨fd, F, ok⟩ := f_l_held (P := P) (w := w) (base := base) T B
  exact ⟨_, fd, p_l_held, [], ok, gl_l_held T, F.kp, FunD.bindsN F fun _ _ _ _ _ _ us hl => match us, hl with | [_, _], _ => rfl, .nil⟩
end
section
variable {P : Program} {w : World} {K : PySem.W.Frag} {mg : Str → Option Value} {base : Heap}
def sp_l_place (K : PySem.W.Frag) : Sp := fun vs H Q E => ∃ (p c : Addr) (r : Int), vs = [.ref p, .int r] ∧ (Box H p c) ∧ (Ring r) ∧ (∀ n H1, Box H1 p c → Kp [p] H H1 → Q (.int n) H1)
theorem us_l_place {K : PySem.W.Frag} {H : Hp} {Q : VK} {E : XK} {p c : Addr} {r : Int} (hB : Box H p c) (hR : Ring r) (kk : ∀ n H1, Box H1 p c → Kp [p] H H1 → Q (.int n) H1) : sp_l_place K [.ref p, .int r] H Q E := ⟨_, _, _, rfl, hB, hR, kk⟩
theorem f_l_place (T : Cx K mg) (B : Tb K mg base) : ∃ fd, FunD K "_law_place" "_law_place" (defArgs s_l_place) (defBody s_l_place) (defScope s_l_place) (d_l_place.dvs K) (d_l_place.kws K) (fAd K d_l_place.at_) fd ∧ FnOk P w K mg base CX0 4 (fAd K d_l_place.at_) fd p_l_place (sp_l_place K) := by
  have c_l_pick := c_l_pick (P := P) (w := w) (base := base) T B
  obtain ⟨fd, F⟩ := T.says.def_ 13 (d := d_l_place) rfl
  refine ⟨fd, F, fnD F sc_l_place (fun vs H Q E h => by
    obtain ⟨_, _, _, rfl, _⟩ := h
    rfl) fun cdv A outer s H vs Q E hr h => ?_⟩
  have hu := hu_of hr
  obtain ⟨p, c, r, rfl, hB, hR, kk⟩ := h
  refine ⟨_, (pss_cons (ps_set (i := 2) sc_l_place.nd rfl (by first | exact Or.inl rfl | exact Or.inr rfl) (pe_cal c_l_pick hr (by decide) (by rfl) pass0 (pa_cons (pv 0) (pa_cons pe_int pa_nil)))) (pss_cons (ps_set (i := 3) sc_l_place.nd rfl (by first | exact Or.inl rfl | exact Or.inr rfl) (pe_cal c_l_pick hr (by decide) (by rfl) pass0 (pa_cons (pv 0) (pa_cons (pv 1) pa_nil)))) (pss_cons (ps_if (pt_cmpR op_eq (pv 2) pe_int (nomark _)) (pss_one (ps_ret (pv 3))) pss_nil) (pss_cons (ps_if (pt_cmpR op_eq (pv 2) pe_int (nomark _)) (pss_one (ps_ret (pe_op op_add (pv 3) (pe_op op_mul (pv 1) (pe_op op_add pe_int (pe_cal c_l_pick hr (by decide) (by rfl) pass0 (pa_cons (pv 0) (pa_cons pe_int pa_nil)))))))) pss_nil) (pss_cons (ps_if (pt_cmpR op_eq (pv 2) pe_int (nomark _)) (pss_one (ps_ret (pe_op op_sub (pv 3) (pe_op op_mul (pv 1) (pe_op op_add pe_int (pe_cal c_l_pick hr (by decide) (by rfl) pass0 (pa_cons (pv 0) (pa_cons pe_int pa_nil)))))))) pss_nil) (pss_cons (ps_if (pt_cmpR op_eq (pv 2) pe_int (nomark _)) (pss_one (ps_ret (pe_cal c_l_pick hr (by decide) (by rfl) pass0 (pa_cons (pv 0) (pa_cons (pe_op op_pow pe_int pe_int) pa_nil))))) pss_nil) (pss_one (ps_ret (pe_op op_sub pe_int (pe_cal c_l_pick hr (by decide) (by rfl) pass0 (pa_cons (pv 0) (pa_cons (pe_op op_pow pe_int pe_int) pa_nil)))))))))))), ?_⟩
  rw [show L2.start n_l_place [.ref p, .int r] = [some (.ref p), some (.int r), none, none] from rfl]
  try dsimp only [cxOf, Cx.nox, Cx.wish, List.map]

  have rp := hR.pos
  have r1 := hR.le
  wtm_at "rd"
  refine us_l_pick hB (by decide) (by decide) fun kd H1 n10 n11 B1 k1 => ?_
  wtm_at "rd"
  refine us_l_pick B1 (by omega) (by omega) fun n2 H2 n20 n21 B2 k2 => ?_
  have k2 : Kp [p] H H2 := k1.trans k2
  wtm_at "rd"
  refine ite_d (fun h => ?_) (fun h => ?_)
  · wtm_at "rd"
    exact kk _ _ B2 k2
  wtm_at "rd"
  refine ite_d (fun h => ?_) (fun h => ?_)
  · wtm_at "rd"
    refine us_l_pick B2 (by decide) (by decide) fun n3 H3 n30 n31 B3 k3 => ?_
    wtm_at "rd"
    exact kk _ _ B3 (k2.trans k3)
  wtm_at "rd"
  refine ite_d (fun h => ?_) (fun h => ?_)
  · wtm_at "rd"
    refine us_l_pick B2 (by decide) (by decide) fun n3 H3 n30 n31 B3 k3 => ?_
    wtm_at "rd"
    exact kk _ _ B3 (k2.trans k3)
  wtm_at "rd"
  refine ite_d (fun h => ?_) (fun h => ?_)
  · wtm_at "rd"
    refine us_l_pick B2 (by decide) (by decide) fun n3 H3 n30 n31 B3 k3 => ?_
    exact kk _ _ B3 (k2.trans k3)
  wtm_at "rd"
  refine us_l_pick B2 (by decide) (by decide) fun n3 H3 n30 n31 B3 k3 => ?_
  wtm_at "rd"
  exact kk _ _ B3 (k2.trans k3)
theorem c_l_place (T : Cx K mg) (B : Tb K mg base) : CalX P w K mg base CX0 4 "_law_place" (sp_l_place K) [] := by
  obtain ⟨fd, F, ok⟩ := f_l_place (P := P) (w := w) (base := base) T B
  exact ⟨_, fd, p_l_place, [], ok, gl_l_place T, F.kp, FunD.bindsN F fun _ _ _ _ _ _ us hl => match us, hl with | [_, _], _ => rfl, .nil⟩
end
section
variable {P : Program} {w : World} {K : PySem.W.Frag} {mg : Str → Option Value} {base : Heap}
def sp_l_end (K : PySem.W.Frag) : Sp := fun vs H Q E => ∃ (p c : Addr) (r lo : Int), vs = [.ref p, .int r, .int lo] ∧ (Box H p c) ∧ (Ring r) ∧ (∀ n H1, Box H1 p c → Kp [p] H H1 → Q (.int n) H1)
theorem us_l_end {K : PySem.W.Frag} {H : Hp} {Q : VK} {E : XK} {p c : Addr} {r lo : Int} (hB : Box H p c) (hR : Ring r) (kk : ∀ n H1, Box H1 p c → Kp [p] H H1 → Q (.int n) H1) : sp_l_end K [.ref p, .int r, .int lo] H Q E := ⟨_, _, _, _, rfl, hB, hR, kk⟩
theorem f_l_end (T : Cx K mg) (B : Tb K mg base) : ∃ fd, FunD K "_law_end" "_law_end" (defArgs s_l_end) (defBody s_l_end) (defScope s_l_end) (d_l_end.dvs K) (d_l_end.kws K) (fAd K d_l_end.at_) fd ∧ FnOk P w K mg base CX0 5 (fAd K d_l_end.at_) fd p_l_end (sp_l_end K) := by
  have c_l_pick := c_l_pick (P := P) (w := w) (base := base) T B
  have c_l_place := c_l_place (P := P) (w := w) (base := base) T B
  obtain ⟨fd, F⟩ := T.says.def_ 14 (d := d_l_end) rfl
  refine ⟨fd, F, fnD F sc_l_end (fun vs H Q E h => by
    obtain ⟨_, _, _, _, rfl, _⟩ := h
    rfl) fun cdv A outer s H vs Q E hr h => ?_⟩
  have hu := hu_of hr
  obtain ⟨p, c, r, lo, rfl, hB, hR, kk⟩ := h
  refine ⟨_, (pss_cons (ps_if (pt_cmpR op_eq (pe_cal c_l_pick hr (by decide) (by rfl) pass0 (pa_cons (pv 0) (pa_cons pe_int pa_nil))) pe_int (nomark _)) (pss_one (ps_ret (pe_op op_add (pv 2) (pe_op op_mul (pv 1) (pe_op op_sub (pe_cal c_l_pick hr (by decide) (by rfl) pass0 (pa_cons (pv 0) (pa_cons pe_int pa_nil))) pe_int))))) pss_nil) (pss_one (ps_ret (pe_cal c_l_place hr (by decide) (by rfl) pass0 (pa_cons (pv 0) (pa_cons (pv 1) pa_nil)))))), ?_⟩
  rw [show L2.start n_l_end [.ref p, .int r, .int lo] = [some (.ref p), some (.int r), some (.int lo)] from rfl]
  try dsimp only [cxOf, Cx.nox, Cx.wish, List.map]

  have rp := hR.pos
  have r1 := hR.le
  wtm_at "rd"
  refine us_l_pick hB (by decide) (by decide) fun kd H1 n10 n11 B1 k1 => ?_
  wtm_at "rd"
  refine ite_d (fun h => ?_) (fun h => ?_)
  · wtm_at "rd"
    refine us_l_pick B1 (by decide) (by decide) fun n3 H3 n30 n31 B3 k3 => ?_
    wtm_at "rd"
    exact kk _ _ B3 (k1.trans k3)
  · wtm_at "rd"
    refine us_l_place B1 hR fun n H3 B3 k3 => ?_
    exact kk _ _ B3 (k1.trans k3)
theorem c_l_end (T : Cx K mg) (B : Tb K mg base) : CalX P w K mg base CX0 5 "_law_end" (sp_l_end K) [] := by
  obtain ⟨fd, F, ok⟩ := f_l_end (P := P) (w := w) (base := base) T B
  exact ⟨_, fd, p_l_end, [], ok, gl_l_end T, F.kp, FunD.bindsN F fun _ _ _ _ _ _ us hl => match us, hl with | [_, _, _], _ => rfl, .nil⟩
end
section
variable {P : Program} {w : World} {K : PySem.W.Frag} {mg : Str → Option Value} {base : Heap}
def sp_l_flags (K : PySem.W.Frag) : Sp := fun vs H Q E => ∃ (l : Addr) (r : Int) (xs : List Int), vs = [.int r, .ref l] ∧ (Ring r) ∧ (Seats H l r xs) ∧ (∀ q H1, H1 q = some (.lst ((flagsL r.toNat xs).map V.bl)) → Kp [] H H1 → H q = none → Q (.ref q) H1)
theorem us_l_flags {K : PySem.W.Frag} {H : Hp} {Q : VK} {E : XK} {l : Addr} {r : Int} {xs : List Int} (hR : Ring r) (hx : Seats H l r xs) (kk : ∀ q H1, H1 q = some (.lst ((flagsL r.toNat xs).map V.bl)) → Kp [] H H1 → H q = none → Q (.ref q) H1) : sp_l_flags K [.int r, .ref l] H Q E := ⟨_, _, _, rfl, hR, hx, kk⟩
theorem f_l_flags (T : Cx K mg) (B : Tb K mg base) : ∃ fd, FunD K "_law_flags" "_law_flags" (defArgs s_l_flags) (defBody s_l_flags) (defScope s_l_flags) (d_l_flags.dvs K) (d_l_flags.kws K) (fAd K d_l_flags.at_) fd ∧ FnOk P w K mg base CX0 1 (fAd K d_l_flags.at_) fd p_l_flags (sp_l_flags K) := by
  obtain ⟨fd, F⟩ := T.says.def_ 15 (d := d_l_flags) rfl
  refine ⟨fd, F, fnD F sc_l_flags (fun vs H Q E h => by
    obtain ⟨_, _, _, rfl, _⟩ := h
    rfl) fun cdv A outer s H vs Q E hr h => ?_⟩
  have hu := hu_of hr
  obtain ⟨l, r, xs, rfl, hR, hx, kk⟩ := h
  refine ⟨_, (pss_cons (ps_setLc (i := 2) (own := [("_law_k", 4)]) (g := (gName 4)) (tt := tYes) rfl sc_l_flags.nd rfl rfl (sw_true rfl rfl rfl (by decide +kernel)) (pi_range1 (by rfl) (fr_range T) (pa_cons (pv 0) pa_nil)) (blkOk_by (own := [("_law_k", 4)]) (N := n_l_flags) (sc := defScope s_l_flags) (by decide +kernel)) (fun _ _ _ _ _ => (pg_name (i := 4) sc_l_flags.nd rfl (by first | exact Or.inl rfl | exact Or.inr rfl))) (fun _ _ _ _ _ => pts_nil) (fun _ _ _ _ _ => pe_bl)) (pss_cons (ps_for PassesOwn.never rfl (pi_list (pv 1)) (pg_name (i := 3) sc_l_flags.nd rfl (by first | exact Or.inl rfl | exact Or.inr rfl)) (pss_one (ps_asg pe_bl (pg_sub (pv 2) (pv 3) set_list)))) (pss_one (ps_ret (pv 2))))), ?_⟩
  rw [show L2.start n_l_flags [.int r, .ref l] = [some (.int r), some (.ref l), none, none, none] from rfl]
  try dsimp only [cxOf, Cx.nox, Cx.wish, List.map]

  have rp := hR.pos
  have r1 := hR.le
  wtm_at "rd"
  intro D hD
  refine lcF_range (lo := 0) (n := r.toNat) (fun _ => true) (fun _ => V.bl false) hD (by omega) (fun j hj H9 E N k9 hE hN => ?_) (fun H9 k9 hD9 => ?_)
  · wtm_at "rd"
    refine ⟨rfl, ?_⟩
    wtm_at "rd"
    exact hE _ Kp.refl rfl
  · have hD2 : H9 D = some (.lst ((flagsL r.toNat []).map V.bl)) := by
      rw [hD9, List.filter_eq_self.mpr (fun _ _ => rfl)]
      unfold flagsL
      rw [List.map_map]
      congr 2
    have nlD : l ≠ D := ne_of_none hx.at_ hD
    have hl9 := k9.g0 hx.at_
    wtm_at "rd"
    refine forL_ints (K := K) xs (fun i σ H3 => (∃ v3 v4, σ = [some (.int r), some (.ref l), some (.ref D), v3, v4]) ∧ H3 D = some (.lst ((flagsL r.toNat (xs.take i)).map V.bl)) ∧ Kp [] H H3) ⟨⟨_, _, rfl⟩, hD2, k9⟩ (fun i σ H3 _ q => SqL.of (q.2.2.g0 hx.at_)) ?_ ?_
    · rintro i hi σ H3 ⟨⟨v3, v4, rfl⟩, q1, k3⟩
      have hz := hx.rng xs[i] (List.getElem_mem hi)
      wtm_at "rd"
      refine rd_setL q1 (ixN_at hz.1 (by rw [List.length_map, flagsL_len]; omega)) ?_
      refine ⟨⟨_, _, rfl⟩, ?_, k3.mine hD⟩
      rw [upd_same, ← List.map_set, flagsL_set, Int.toNat_of_nonneg hz.1, ← List.take_succ_eq_append_getElem hi]
    · rintro σ H3 ⟨⟨v3, v4, rfl⟩, q1, k3⟩
      rw [List.take_length] at q1
      wtm_at "rd"
      exact kk D H3 q1 k3 hD
theorem c_l_flags (T : Cx K mg) (B : Tb K mg base) : CalX P w K mg base CX0 1 "_law_flags" (sp_l_flags K) [] := by
  obtain ⟨fd, F, ok⟩ := f_l_flags (P := P) (w := w) (base := base) T B
  exact ⟨_, fd, p_l_flags, [], ok, gl_l_flags T, F.kp, FunD.bindsN F fun _ _ _ _ _ _ us hl => match us, hl with | [_, _], _ => rfl, .nil⟩
end
section
variable {P : Program} {w : World} {K : PySem.W.Frag} {mg : Str → Option Value} {base : Heap}
def sp_l_walk (K : PySem.W.Frag) : Sp := fun vs H Q E => ∃ (l : Addr) (r st : Int) (n : Nat) (xs : List Int), vs = [.int r, .int st, .int n, .ref l] ∧ (Ring r) ∧ (Seats H l r xs) ∧ ((n : Int) ≤ r) ∧ (∀ q H1, H1 q = some (.lst ((walkM r st n xs).map V.int)) → Kp [] H H1 → H q = none → Q (.ref q) H1)
theorem us_l_walk {K : PySem.W.Frag} {H : Hp} {Q : VK} {E : XK} {l : Addr} {r st : Int} {n : Nat} {xs : List Int} (hR : Ring r) (hx : Seats H l r xs) (hn : (n : Int) ≤ r) (kk : ∀ q H1, H1 q = some (.lst ((walkM r st n xs).map V.int)) → Kp [] H H1 → H q = none → Q (.ref q) H1) : sp_l_walk K [.int r, .int st, .int n, .ref l] H Q E := ⟨_, _, _, _, _, rfl, hR, hx, hn, kk⟩
theorem f_l_walk (T : Cx K mg) (B : Tb K mg base) : ∃ fd, FunD K "_law_walk" "_law_walk" (defArgs s_l_walk) (defBody s_l_walk) (defScope s_l_walk) (d_l_walk.dvs K) (d_l_walk.kws K) (fAd K d_l_walk.at_) fd ∧ FnOk P w K mg base CX0 2 (fAd K d_l_walk.at_) fd p_l_walk (sp_l_walk K) := by
  have c_l_flags := c_l_flags (P := P) (w := w) (base := base) T B
  obtain ⟨fd, F⟩ := T.says.def_ 16 (d := d_l_walk) rfl
  refine ⟨fd, F, fnD F sc_l_walk (fun vs H Q E h => by
    obtain ⟨_, _, _, _, _, rfl, _⟩ := h
    rfl) fun cdv A outer s H vs Q E hr h => ?_⟩
  have hu := hu_of hr
  obtain ⟨l, r, st, n, xs, rfl, hR, hx, hn, kk⟩ := h
  refine ⟨_, (pss_cons (ps_set (i := 4) sc_l_walk.nd rfl (by first | exact Or.inl rfl | exact Or.inr rfl) (pe_cal c_l_flags hr (by decide) (by rfl) pass0 (pa_cons (pv 0) (pa_cons (pv 3) pa_nil)))) (pss_cons (ps_set (i := 5) sc_l_walk.nd rfl (by first | exact Or.inl rfl | exact Or.inr rfl) (pe_lst pa_nil)) (pss_cons (ps_for PassesOwn.never rfl (pi_range1 (by rfl) (fr_range T) (pa_cons (pv 2) pa_nil)) (pg_name (i := 6) sc_l_walk.nd rfl (by first | exact Or.inl rfl | exact Or.inr rfl)) (pss_cons (ps_set (i := 7) sc_l_walk.nd rfl (by first | exact Or.inl rfl | exact Or.inr rfl) (pe_op op_mod (pe_callTy call_int1' (by rfl) (fr_int T) (by decide +kernel) (pa_cons (pe_op op_add (pv 1) (pv 6)) pa_nil)) (pv 0))) (pss_one (ps_if (pt_val (pe_ix ix_list (pv 4) (pv 7) (fun _ _ => rfl))) (pss_one (ps_expr (pe_bm PySem.F.plainAttrs_list PySem.F.slot_list_append PySem.F.type_list_append mt_append (pv 5) (pa_cons (pv 7) pa_nil)))) pss_nil)))) (pss_one (ps_ret (pv 5)))))), ?_⟩
  rw [show L2.start n_l_walk [.int r, .int st, .int n, .ref l] = [some (.int r), some (.int st), some (.int n), some (.ref l), none, none, none, none] from rfl]
  try dsimp only [cxOf, Cx.nox, Cx.wish, List.map]

  have rp := hR.pos
  have r1 := hR.le
  wtm_at "rd"
  refine us_l_flags hR hx fun F H1 hF k1 nF => ?_
  wtm_at "rd"
  refine ⟨sz1000 (by simp), fun q nq => ?_⟩
  have nq0 := k1.back nq (by simp)
  have nFq := ne_of_none hF nq
  wtm_at "rd"
  refine forR_by (fun i σ H3 => (∃ v6 v7, σ = [some (.int r), some (.int st), some (.int n), some (.ref l), some (.ref F), some (.ref q), v6, v7]) ∧ H3 q = some (.lst ((walkM r st i xs).map V.int)) ∧ H3 F = some (.lst ((flagsL r.toNat xs).map V.bl)) ∧ Kp [] H H3) ⟨⟨_, _, rfl⟩, upd_same, hu_ne nFq hF, k1.nw nq⟩ ?_ ?_
  · rintro i σ H3 hi ⟨⟨v6, v7, rfl⟩, hq, hF3, k3⟩
    have x0 := Int.emod_nonneg (st + (0 + (i : Int))) (show r ≠ 0 by omega)
    have x1 := Int.emod_lt_of_pos (st + (0 + (i : Int))) rp
    have ew : walkM r st (i + 1) xs = walkM r st i xs ++ (if decide ((st + (0 + (i : Int))) % r ∈ xs) = true then [(st + (0 + (i : Int))) % r] else []) := by
      unfold walkM
      rw [List.range_succ, List.map_append, List.filter_append, Int.zero_add]
      congr 1
      simp only [List.map_cons, List.map_nil, List.filter_cons, List.filter_nil]
    generalize hz : (st + (0 + (i : Int))) % r = x at *
    have hat := atI_bls (bs := flagsL r.toNat xs) x0 (by rw [flagsL_len]; omega)
    rw [flagsL_at (by omega), Int.toNat_of_nonneg x0] at hat
    have wl := walkM_len (r := r) (start := st) (n := i) (xs := xs)
    wtm_at "rd"
    rw [hz]
    wtm_at "rd"
    refine ite_d (fun h => ?_) (fun h => ?_)
    · rw [if_pos (decide_eq_true h)] at ew
      have sl : ((walkM r st i xs).map V.int).length < sizeLine := szlt (by rw [List.length_map]; omega)
      wtm_at "rd"
      refine ⟨⟨_, _, rfl⟩, ?_, hu_ne nFq hF3, k3.mine nq0⟩
      rw [upd_same, ew, List.map_append]
      rfl
    · rw [if_neg (by rw [decide_eq_false h]; exact Bool.false_ne_true), List.append_nil] at ew
      wtm_at "rd"
      exact ⟨⟨_, _, rfl⟩, by rw [ew]; exact hq, hF3, k3⟩
  · rintro σ H3 ⟨⟨v6, v7, rfl⟩, hq, hF3, k3⟩
    wtm_at "rd"
    exact kk q H3 hq k3 nq0
theorem c_l_walk (T : Cx K mg) (B : Tb K mg base) : CalX P w K mg base CX0 2 "_law_walk" (sp_l_walk K) [] := by
  obtain ⟨fd, F, ok⟩ := f_l_walk (P := P) (w := w) (base := base) T B
  exact ⟨_, fd, p_l_walk, [], ok, gl_l_walk T, F.kp, FunD.bindsN F fun _ _ _ _ _ _ us hl => match us, hl with | [_, _, _, _], _ => rfl, .nil⟩
end
section
variable {P : Program} {w : World} {K : PySem.W.Frag} {mg : Str → Option Value} {base : Heap}
def sp_l_first_right (K : PySem.W.Frag) : Sp := fun vs H Q E => ∃ (S l : Addr) (s : Stg) (r place : Int) (xs : List Int), vs = [.ref S, .int r, .int place, .ref l] ∧ (SetAt K H S s) ∧ (s.ring = r) ∧ (Seats H l r xs) ∧ (LamX.Tabs (TT K) H) ∧ (∀ H1, Kt (TT K) [] H H1 → Q (.bl true) H1)
theorem us_l_first_right {K : PySem.W.Frag} {H : Hp} {Q : VK} {E : XK} {S l : Addr} {s : Stg} {r place : Int} {xs : List Int} (hS : SetAt K H S s) (er : s.ring = r) (hx : Seats H l r xs) (hT : LamX.Tabs (TT K) H) (kk : ∀ H1, Kt (TT K) [] H H1 → Q (.bl true) H1) : sp_l_first_right K [.ref S, .int r, .int place, .ref l] H Q E := ⟨_, _, _, _, _, _, rfl, hS, er, hx, hT, kk⟩
theorem f_l_first_right (T : Cx K mg) (B : Tb K mg base) : ∃ fd, FunD K "_law_first_right" "_law_first_right" (defArgs s_l_first_right) (defBody s_l_first_right) (defScope s_l_first_right) (d_l_first_right.dvs K) (d_l_first_right.kws K) (fAd K d_l_first_right.at_) fd ∧ FnOk P w K mg base CX0 8 (fAd K d_l_first_right.at_) fd p_l_first_right (sp_l_first_right K) := by
  have c_first_from := c_first_from (P := P) (w := w) (base := base) T B
  have c_l_walk := c_l_walk (P := P) (w := w) (base := base) T B
  have c_l_whole := c_l_whole (P := P) (w := w) (base := base) T B
  obtain ⟨fd, F⟩ := T.says.def_ 17 (d := d_l_first_right) rfl
  refine ⟨fd, F, fnD F sc_l_first_right (fun vs H Q E h => by
    obtain ⟨_, _, _, _, _, _, rfl, _⟩ := h
    rfl) fun cdv A outer s H vs Q E hr h => ?_⟩
  have hu := hu_of hr
  obtain ⟨S, l, s, r, place, xs, rfl, hS, er, hx, hT, kk⟩ := h
  refine ⟨_, (pss_cons (ps_set (i := 4) sc_l_first_right.nd rfl (by first | exact Or.inl rfl | exact Or.inr rfl) (pe_callTy call_listOf (by rfl) (fr_list T) (by decide +kernel) (pa_cons (pv 3) pa_nil))) (pss_cons (ps_set (i := 5) sc_l_first_right.nd rfl (by first | exact Or.inl rfl | exact Or.inr rfl) (pe_cal c_first_from hr (by decide) (by rfl) pass0 (pa_cons (pv 0) (pa_cons (pv 2) (pa_cons (pv 4) pa_nil))))) (pss_cons (ps_set (i := 6) sc_l_first_right.nd rfl (by first | exact Or.inl rfl | exact Or.inr rfl) (pe_cal c_l_walk hr (by decide) (by rfl) pass0 (pa_cons (pv 1) (pa_cons (pv 2) (pa_cons (pv 1) (pa_cons (pv 3) pa_nil)))))) (pss_cons (ps_if (pt_cmpR (op_neD hr.units) (pv 4) (pv 3) (nomark _)) (pss_one (ps_ret pe_bl)) pss_nil) (pss_cons (ps_if (pt_cmpR op_eq (pe_callB call_lenS (by rfl) (fr_len T) (by decide +kernel) (pa_cons (pv 6) pa_nil)) pe_int (nomark _)) (pss_one (ps_ret (pe_cmp (pc_isN (pv 5))))) pss_nil) (pss_one (ps_ret (pe_and (pe_cal c_l_whole hr (by decide) (by rfl) pass0 (pa_cons (pv 5) pa_nil)) (pe_one (pe_cmpR op_eq (pv 5) (pe_ix ix_list (pv 6) pe_int (fun _ _ => rfl)) (nomark _))))))))))), ?_⟩
  rw [show L2.start n_l_first_right [.ref S, .int r, .int place, .ref l] = [some (.ref S), some (.int r), some (.int place), some (.ref l), none, none, none] from rfl]
  try dsimp only [cxOf, Cx.nox, Cx.wish, List.map]

  have hR : Ring r := er ▸ hS.ok.ring
  have rp := hR.pos
  have r1 := hR.le
  have ern : r = (r.toNat : Int) := by omega
  have hx0 := hx.at_
  wtm_at "rd"
  intro q nq
  have k1 : Kp [] H (upd H q (.lst (xs.map V.int))) := Kp.new nq
  have t1 := tabs_kp hT k1 (fun _ z => by cases z)
  have hq1 : upd H q (.lst (xs.map V.int)) q = some (.lst (xs.map V.int)) := upd_same
  have S1 := hS.k0 k1
  have hx1 := hx.kp k1 (by simp)
  have kt1 := Kt.kp0 (ps := []) hT k1
  generalize upd H q (.lst (xs.map V.int)) = H1 at *
  wtm_at "rd"
  refine us_first_from S1 (SqL.of hq1) t1 fun o H2 k2 ho => ?_
  rw [er] at ho
  have hq2 := k2.g0 (by intro _ z; cases z) hq1
  have hx2 := hx1.kt k2
  wtm_at "rd"
  rw [ern]
  refine us_l_walk (n := r.toNat) (by rw [← ern]; exact hR) (by rw [← ern]; exact hx2) (by omega) fun W H3 hW k3 nW => ?_
  rw [← ern] at hW ⊢
  have hq3 := k3.g0 hq2
  have hx3 := k3.g0 hx2.at_
  have kt3 : Kt (TT K) [] H H3 := (kt1.trans k2).trans (Kt.kp0 k2.2 k3)
  wtm_at "rd"
  refine ite_n (fun h => absurd rfl h) (fun _ => ?_)
  wtm_at "rd"
  cases o with
  | none =>
    have e : xs = [] := ho
    rw [e, walk_nil]
    refine ite_d (fun h => ?_) (fun h => absurd rfl h)
    wtm_at "rd"
    exact kk _ kt3
  | some b =>
    obtain ⟨L, hL⟩ := first_walk hR hx.rng ho.1 ho.2
    rw [hL] at hW ⊢
    refine ite_d (fun h => absurd h (by simp; omega)) (fun h => ?_)
    wtm_at "rd"
    refine us_l_whole ?_
    wtm_at "rd"
    show Q (.bl (decide (b = b))) H3
    rw [decide_eq_true rfl]
    exact kk _ kt3
theorem c_l_first_right (T : Cx K mg) (B : Tb K mg base) : CalX P w K mg base CX0 8 "_law_first_right" (sp_l_first_right K) [] := by
  obtain ⟨fd, F, ok⟩ := f_l_first_right (P := P) (w := w) (base := base) T B
  exact ⟨_, fd, p_l_first_right, [], ok, gl_l_first_right T, F.kp, FunD.bindsN F fun _ _ _ _ _ _ us hl => match us, hl with | [_, _, _, _], _ => rfl, .nil⟩
end
section
variable {P : Program} {w : World} {K : PySem.W.Frag} {mg : Str → Option Value} {base : Heap}
def sp_l_is_list (K : PySem.W.Frag) : Sp := fun vs H Q E => ∃ (a b : Addr) (ns : List Int), vs = [.ref a, .ref b] ∧ (H a = some (.lst (ns.map V.int))) ∧ (H b = some (.lst (ns.map V.int))) ∧ (ns.length ≤ 1000) ∧ (Q (.bl true) H)
theorem us_l_is_list {K : PySem.W.Frag} {H : Hp} {Q : VK} {E : XK} {a b : Addr} {ns : List Int} (ha : H a = some (.lst (ns.map V.int))) (hb : H b = some (.lst (ns.map V.int))) (hn : ns.length ≤ 1000) (kk : Q (.bl true) H) : sp_l_is_list K [.ref a, .ref b] H Q E := ⟨_, _, _, rfl, ha, hb, hn, kk⟩
theorem f_l_is_list (T : Cx K mg) (B : Tb K mg base) : ∃ fd, FunD K "_law_is_list" "_law_is_list" (defArgs s_l_is_list) (defBody s_l_is_list) (defScope s_l_is_list) (d_l_is_list.dvs K) (d_l_is_list.kws K) (fAd K d_l_is_list.at_) fd ∧ FnOk P w K mg base CX0 2 (fAd K d_l_is_list.at_) fd p_l_is_list (sp_l_is_list K) := by
  have c_l_whole := c_l_whole (P := P) (w := w) (base := base) T B
  obtain ⟨fd, F⟩ := T.says.def_ 18 (d := d_l_is_list) rfl
  refine ⟨fd, F, fnD F sc_l_is_list (fun vs H Q E h => by
    obtain ⟨_, _, _, rfl, _⟩ := h
    rfl) fun cdv A outer s H vs Q E hr h => ?_⟩
  have hu := hu_of hr
  obtain ⟨a, b, ns, rfl, ha, hb, hn, kk⟩ := h
  refine ⟨_, (pss_cons (ps_if (PW.pt (pw_or (pt_not (pt_val (pe_callB call_isi (by rfl) (fr_isinstance T) (by decide +kernel) (pa_cons (pv 0) (pa_cons (pe_bltn (v := .ty "list") (by rfl) (fr_list T) (by decide +kernel) rfl) pa_nil))))) (pw_or1 (pt_cmpR op_ne (pe_callB call_lenS (by rfl) (fr_len T) (by decide +kernel) (pa_cons (pv 0) pa_nil)) (pe_callB call_lenS (by rfl) (fr_len T) (by decide +kernel) (pa_cons (pv 1) pa_nil)) (nomark _))))) (pss_one (ps_ret pe_bl)) pss_nil) (pss_cons (ps_for PassesOwn.never rfl (pi_range1 (by rfl) (fr_range T) (pa_cons (pe_callB call_lenS (by rfl) (fr_len T) (by decide +kernel) (pa_cons (pv 1) pa_nil)) pa_nil)) (pg_name (i := 2) sc_l_is_list.nd rfl (by first | exact Or.inl rfl | exact Or.inr rfl)) (pss_one (ps_if (PW.pt (pw_or (pt_not (pt_val (pe_cal c_l_whole hr (by decide) (by rfl) pass0 (pa_cons (pe_ix ix_list (pv 0) (pv 2) (fun _ _ => rfl)) pa_nil)))) (pw_or1 (pt_cmpR op_ne (pe_ix ix_list (pv 0) (pv 2) (fun _ _ => rfl)) (pe_ix ix_list (pv 1) (pv 2) (fun _ _ => rfl)) (nomark _))))) (pss_one (ps_ret pe_bl)) pss_nil))) (pss_one (ps_ret pe_bl)))), ?_⟩
  rw [show L2.start n_l_is_list [.ref a, .ref b] = [some (.ref a), some (.ref b), none] from rfl]
  try dsimp only [cxOf, Cx.nox, Cx.wish, List.map]

  wtm_at "rd"
  refine ite_n (fun h => absurd rfl h) (fun _ => ?_)
  wtm_at "rd"
  refine forR_by (fun i σ H1 => (∃ v2, σ = [some (.ref a), some (.ref b), v2]) ∧ H1 = H) ⟨⟨_, rfl⟩, rfl⟩ ?_ ?_
  · rintro i σ H1 hi ⟨⟨v2, rfl⟩, rfl⟩
    wtm_at "rd"
    refine us_l_whole ?_
    wtm_at "rd"
    refine ite_n (fun h => absurd rfl h) (fun _ => ?_)
    wtm_at "rd"
    exact ⟨⟨_, rfl⟩, rfl⟩
  · rintro σ H1 ⟨⟨v2, rfl⟩, rfl⟩
    wtm_at "rd"
    exact kk
theorem c_l_is_list (T : Cx K mg) (B : Tb K mg base) : CalX P w K mg base CX0 2 "_law_is_list" (sp_l_is_list K) [] := by
  obtain ⟨fd, F, ok⟩ := f_l_is_list (P := P) (w := w) (base := base) T B
  exact ⟨_, fd, p_l_is_list, [], ok, gl_l_is_list T, F.kp, FunD.bindsN F fun _ _ _ _ _ _ us hl => match us, hl with | [_, _], _ => rfl, .nil⟩
end
section
variable {P : Program} {w : World} {K : PySem.W.Frag} {mg : Str → Option Value} {base : Heap}
def sp_l_arc_right (K : PySem.W.Frag) : Sp := fun vs H Q E => ∃ (S l : Addr) (s : Stg) (r lo hi : Int) (xs : List Int), vs = [.ref S, .int r, .int lo, .int hi, .ref l] ∧ (SetAt K H S s) ∧ (s.ring = r) ∧ (Seats H l r xs) ∧ (LamX.Tabs (TT K) H) ∧ (∀ H1, Kt (TT K) [] H H1 → Q (.bl true) H1)
theorem us_l_arc_right {K : PySem.W.Frag} {H : Hp} {Q : VK} {E : XK} {S l : Addr} {s : Stg} {r lo hi : Int} {xs : List Int} (hS : SetAt K H S s) (er : s.ring = r) (hx : Seats H l r xs) (hT : LamX.Tabs (TT K) H) (kk : ∀ H1, Kt (TT K) [] H H1 → Q (.bl true) H1) : sp_l_arc_right K [.ref S, .int r, .int lo, .int hi, .ref l] H Q E := ⟨_, _, _, _, _, _, _, rfl, hS, er, hx, hT, kk⟩
theorem f_l_arc_right (T : Cx K mg) (B : Tb K mg base) : ∃ fd, FunD K "_law_arc_right" "_law_arc_right" (defArgs s_l_arc_right) (defBody s_l_arc_right) (defScope s_l_arc_right) (d_l_arc_right.dvs K) (d_l_arc_right.kws K) (fAd K d_l_arc_right.at_) fd ∧ FnOk P w K mg base CX0 8 (fAd K d_l_arc_right.at_) fd p_l_arc_right (sp_l_arc_right K) := by
  have c_arc := c_arc (P := P) (w := w) (base := base) T B
  have c_l_walk := c_l_walk (P := P) (w := w) (base := base) T B
  have c_l_is_list := c_l_is_list (P := P) (w := w) (base := base) T B
  obtain ⟨fd, F⟩ := T.says.def_ 19 (d := d_l_arc_right) rfl
  refine ⟨fd, F, fnD F sc_l_arc_right (fun vs H Q E h => by
    obtain ⟨_, _, _, _, _, _, _, rfl, _⟩ := h
    rfl) fun cdv A outer s H vs Q E hr h => ?_⟩
  have hu := hu_of hr
  obtain ⟨S, l, s, r, lo, hi, xs, rfl, hS, er, hx, hT, kk⟩ := h
  refine ⟨_, (pss_cons (ps_set (i := 5) sc_l_arc_right.nd rfl (by first | exact Or.inl rfl | exact Or.inr rfl) (pe_callTy call_listOf (by rfl) (fr_list T) (by decide +kernel) (pa_cons (pv 4) pa_nil))) (pss_cons (ps_set (i := 6) sc_l_arc_right.nd rfl (by first | exact Or.inl rfl | exact Or.inr rfl) (pe_op op_mod (pe_callTy call_int1' (by rfl) (fr_int T) (by decide +kernel) (pa_cons (pe_op op_sub (pv 3) (pv 2)) pa_nil)) (pv 1))) (C8.pss_cut (ps_if (pt_cmpR op_eq (pv 6) pe_int (nomark _)) (pss_one (ps_set (i := 6) sc_l_arc_right.nd rfl (by first | exact Or.inl rfl | exact Or.inr rfl) (pv 1))) pss_nil) (pss_cons (ps_set (i := 7) sc_l_arc_right.nd rfl (by first | exact Or.inl rfl | exact Or.inr rfl) (pe_cal c_l_walk hr (by decide) (by rfl) pass0 (pa_cons (pv 1) (pa_cons (pe_op op_add (pv 2) pe_int) (pa_cons (pv 6) (pa_cons (pv 4) pa_nil)))))) (pss_cons (ps_set (i := 8) sc_l_arc_right.nd rfl (by first | exact Or.inl rfl | exact Or.inr rfl) (pe_cal c_arc hr (by decide) (by rfl) pass0 (pa_cons (pv 0) (pa_cons (pv 2) (pa_cons (pv 3) (pa_cons (pv 5) pa_nil)))))) (pss_cons (ps_if (pt_not (pt_val (pe_cal c_l_is_list hr (by decide) (by rfl) pass0 (pa_cons (pv 8) (pa_cons (pv 7) pa_nil))))) (pss_one (ps_ret pe_bl)) pss_nil) (pss_cons (ps_expr (pe_bm PySem.F.plainAttrs_list PySem.F.slot_list_append PySem.F.type_list_append mt_append (pv 8) (pa_cons (pv 2) pa_nil))) (pss_cons (ps_if (pt_cmpR (op_neD hr.units) (pv 5) (pv 4) (nomark _)) (pss_one (ps_ret pe_bl)) pss_nil) (pss_one (ps_ret (pe_cal c_l_is_list hr (by decide) (by rfl) pass0 (pa_cons (pe_cal c_arc hr (by decide) (by rfl) pass0 (pa_cons (pv 0) (pa_cons (pv 2) (pa_cons (pv 3) (pa_cons (pv 5) pa_nil))))) (pa_cons (pv 7) pa_nil))))))))))))), ?_⟩
  rw [show L2.start n_l_arc_right [.ref S, .int r, .int lo, .int hi, .ref l] = [some (.ref S), some (.int r), some (.int lo), some (.int hi), some (.ref l), none, none, none, none] from rfl]
  try dsimp only [cxOf, Cx.nox, Cx.wish, List.map]

  have hR : Ring r := er ▸ hS.ok.ring
  have rp := hR.pos
  have r1 := hR.le
  have hx0 := hx.at_
  wtm_at "rd"
  intro q nq
  have k1 : Kp [] H (upd H q (.lst (xs.map V.int))) := Kp.new nq
  have t1 := tabs_kp hT k1 (fun _ z => by cases z)
  have hq1 : upd H q (.lst (xs.map V.int)) q = some (.lst (xs.map V.int)) := upd_same
  have S1 := hS.k0 k1
  have hx1 := hx.kp k1 (by simp)
  have kt1 := Kt.kp0 (ps := []) hT k1
  generalize upd H q (.lst (xs.map V.int)) = H1 at *
  have m0 := Int.emod_nonneg (hi - lo) (show r ≠ 0 by omega)
  have m1 := Int.emod_lt_of_pos (hi - lo) rp
  wtm_at "rd"
  refine rd_cut (fun σ H2 => ∃ n : Nat, σ = [some (.ref S), some (.int r), some (.int lo), some (.int hi), some (.ref l), some (.ref q), some (.int n), none, none] ∧ ((n : Int) = if (hi - lo) % r = 0 then r else (hi - lo) % r) ∧ (n : Int) ≤ r ∧ H2 = H1) ?_ ?_
  · wtm_at "rd"
    refine ite_d (fun h => ?_) (fun h => ?_)
    · wtm_at "rd"
      refine ⟨r.toNat, ?_, ?_, by omega, rfl⟩
      · rw [show (r.toNat : Int) = r by omega]
        rfl
      · rw [if_pos h]
        omega
    · wtm_at "rd"
      refine ⟨((hi - lo) % r).toNat, ?_, ?_, by omega, rfl⟩
      · rw [show (((hi - lo) % r).toNat : Int) = (hi - lo) % r by omega]
        rfl
      · rw [if_neg h]
        omega
  rintro σ H2 ⟨n, rfl, hn, hnr, rfl⟩
  wtm_at "rd"
  refine us_l_walk hR hx1 hnr fun W H3 hW k3 nW => ?_
  have hq3 := k3.g0 hq1
  have hx3 := hx1.kp k3 (by simp)
  have t3 := tabs_kp t1 k3 (fun _ z => by cases z)
  have S3 := S1.k0 k3
  wtm_at "rd"
  have wl := walkM_len (r := r) (start := lo + 1) (n := n) (xs := xs)
  refine us_arc S3 (SqL.of hq3) (by have := hx.len; omega) t3 fun a H4 k4 na ha => ?_
  rw [er, arc_walk hR hx.nd hx.rng hn] at ha
  have hW4 := k4.g0 (by intro _ z; cases z) hW
  have hq4 := k4.g0 (by intro _ z; cases z) hq3
  have hx4 := hx3.kt k4
  have S4 := S3.kt k4
  have nWa := na _ _ hW (by intro _ z; cases z)
  have nqa := na _ _ hq3 (by intro _ z; cases z)
  have nla := na _ _ hx3.at_ (by intro _ z; cases z)
  wtm_at "rd"
  refine us_l_is_list ha hW4 (by omega) ?_
  have sl : ((walkM r (lo + 1) n xs).map V.int).length < sizeLine := szlt (by rw [List.length_map]; omega)
  wtm_at "rd"
  have kA : Kt (TT K) [] H H4 := (kt1.trans (Kt.kp0 t1 k3)).trans k4
  have nA : Frn H a := (na.kp k3).kt kt1
  have kB := kA.mine (o := .lst ((walkM r (lo + 1) n xs).map V.int ++ [.int lo])) nA ha trivial
  have hW5 : upd H4 a (.lst ((walkM r (lo + 1) n xs).map V.int ++ [.int lo])) W = _ := hu_ne nWa hW4
  have hq5 : upd H4 a (.lst ((walkM r (lo + 1) n xs).map V.int ++ [.int lo])) q = _ := hu_ne nqa hq4
  have kw : Kp [a] H4 (upd H4 a (.lst ((walkM r (lo + 1) n xs).map V.int ++ [.int lo]))) := Kp.refl.wr (by simp)
  have hx5 := hx4.kp kw (by simpa using nla)
  have S5 := S4.k1 kw (S4.nelst ha)
  have hx50 := hx5.at_
  generalize upd H4 a (.lst ((walkM r (lo + 1) n xs).map V.int ++ [.int lo])) = H5 at *
  wtm_at "rd"
  refine ite_n (fun h => absurd rfl h) (fun _ => ?_)
  wtm_at "rd"
  refine us_arc S5 (SqL.of hq5) (by have := hx.len; omega) kB.2 fun a2 H6 k6 na2 ha2 => ?_
  rw [er, arc_walk hR hx.nd hx.rng hn] at ha2
  wtm_at "rd"
  refine us_l_is_list ha2 (k6.g0 (by intro _ z; cases z) hW5) (by omega) ?_
  exact kk _ (kB.trans k6)
theorem c_l_arc_right (T : Cx K mg) (B : Tb K mg base) : CalX P w K mg base CX0 8 "_law_arc_right" (sp_l_arc_right K) [] := by
  obtain ⟨fd, F, ok⟩ := f_l_arc_right (P := P) (w := w) (base := base) T B
  exact ⟨_, fd, p_l_arc_right, [], ok, gl_l_arc_right T, F.kp, FunD.bindsN F fun _ _ _ _ _ _ us hl => match us, hl with | [_, _, _, _, _], _ => rfl, .nil⟩
end
section
variable {P : Program} {w : World} {K : PySem.W.Frag} {mg : Str → Option Value} {base : Heap}
def sp_l_distance_right (K : PySem.W.Frag) : Sp := fun vs H Q E => ∃ (S : Addr) (s : Stg) (r a b : Int), vs = [.ref S, .int r, .int a, .int b] ∧ (SetAt K H S s) ∧ (s.ring = r) ∧ (Q (.bl true) H)
theorem us_l_distance_right {K : PySem.W.Frag} {H : Hp} {Q : VK} {E : XK} {S : Addr} {s : Stg} {r a b : Int} (hS : SetAt K H S s) (er : s.ring = r) (kk : Q (.bl true) H) : sp_l_distance_right K [.ref S, .int r, .int a, .int b] H Q E := ⟨_, _, _, _, _, rfl, hS, er, kk⟩
theorem f_l_distance_right (T : Cx K mg) (B : Tb K mg base) : ∃ fd, FunD K "_law_distance_right" "_law_distance_right" (defArgs s_l_distance_right) (defBody s_l_distance_right) (defScope s_l_distance_right) (d_l_distance_right.dvs K) (d_l_distance_right.kws K) (fAd K d_l_distance_right.at_) fd ∧ FnOk P w K mg base CX0 4 (fAd K d_l_distance_right.at_) fd p_l_distance_right (sp_l_distance_right K) := by
  have c_distance := c_distance (P := P) (w := w) (base := base) T B
  have c_l_whole := c_l_whole (P := P) (w := w) (base := base) T B
  obtain ⟨fd, F⟩ := T.says.def_ 20 (d := d_l_distance_right) rfl
  refine ⟨fd, F, fnD F sc_l_distance_right (fun vs H Q E h => by
    obtain ⟨_, _, _, _, _, rfl, _⟩ := h
    rfl) fun cdv A outer s H vs Q E hr h => ?_⟩
  have hu := hu_of hr
  obtain ⟨S, s, r, a, b, rfl, hS, er, kk⟩ := h
  refine ⟨_, (pss_cons (ps_set (i := 4) sc_l_distance_right.nd rfl (by first | exact Or.inl rfl | exact Or.inr rfl) (pe_cal c_distance hr (by decide) (by rfl) pass0 (pa_cons (pv 0) (pa_cons (pv 2) (pa_cons (pv 3) pa_nil))))) (pss_cons (ps_if (PW.pt (pw_or (pt_not (pt_val (pe_cal c_l_whole hr (by decide) (by rfl) pass0 (pa_cons (pv 4) pa_nil)))) (pw_or (pt_cmpR op_lt (pv 4) pe_int (nomark _)) (pw_or1 (pt_cmpR op_ge (pv 4) (pv 1) (nomark _)))))) (pss_one (ps_ret pe_bl)) pss_nil) (pss_cons (ps_set (i := 5) sc_l_distance_right.nd rfl (by first | exact Or.inl rfl | exact Or.inr rfl) (pe_op op_sub (pe_op op_sub (pv 3) (pv 2)) (pv 4))) (pss_one (ps_ret (pe_cmpR op_eq (pe_op op_mul (pe_op op_fdiv (pv 5) (pv 1)) (pv 1)) (pv 5) (nomark _))))))), ?_⟩
  rw [show L2.start n_l_distance_right [.ref S, .int r, .int a, .int b] = [some (.ref S), some (.int r), some (.int a), some (.int b), none, none] from rfl]
  try dsimp only [cxOf, Cx.nox, Cx.wish, List.map]

  have hR : Ring r := er ▸ hS.ok.ring
  have rp := hR.pos
  have r1 := hR.le
  wtm_at "rd"
  refine us_distance hS ?_
  rw [er]
  have m0 := Int.emod_nonneg (b - a) (show r ≠ 0 by omega)
  have m1 := Int.emod_lt_of_pos (b - a) rp
  wtm_at "rd"
  refine us_l_whole ?_
  wtm_at "rd"
  refine ite_d (fun h => absurd h (by omega)) (fun _ => ?_)
  wtm_at "rd"
  refine ite_d (fun h => absurd h (by omega)) (fun _ => ?_)
  wtm_at "rd"
  rw [gap_ok rp, decide_eq_true rfl]
  exact kk
theorem c_l_distance_right (T : Cx K mg) (B : Tb K mg base) : CalX P w K mg base CX0 4 "_law_distance_right" (sp_l_distance_right K) [] := by
  obtain ⟨fd, F, ok⟩ := f_l_distance_right (P := P) (w := w) (base := base) T B
  exact ⟨_, fd, p_l_distance_right, [], ok, gl_l_distance_right T, F.kp, FunD.bindsN F fun _ _ _ _ _ _ us hl => match us, hl with | [_, _, _, _], _ => rfl, .nil⟩
end
section
variable {P : Program} {w : World} {K : PySem.W.Frag} {mg : Str → Option Value} {base : Heap}
def sp_l_asked (K : PySem.W.Frag) : Sp := fun vs H Q E => ∃ (S l : Addr) (s : Stg) (r lo hi : Int) (xs : List Int), vs = [.ref S, .int r, .int lo, .int hi, .ref l] ∧ (SetAt K H S s) ∧ (s.ring = r) ∧ (Seats H l r xs) ∧ (LamX.Tabs (TT K) H) ∧ (∀ H1, Kt (TT K) [] H H1 → Q (.bl true) H1)
theorem us_l_asked {K : PySem.W.Frag} {H : Hp} {Q : VK} {E : XK} {S l : Addr} {s : Stg} {r lo hi : Int} {xs : List Int} (hS : SetAt K H S s) (er : s.ring = r) (hx : Seats H l r xs) (hT : LamX.Tabs (TT K) H) (kk : ∀ H1, Kt (TT K) [] H H1 → Q (.bl true) H1) : sp_l_asked K [.ref S, .int r, .int lo, .int hi, .ref l] H Q E := ⟨_, _, _, _, _, _, _, rfl, hS, er, hx, hT, kk⟩
theorem f_l_asked (T : Cx K mg) (B : Tb K mg base) : ∃ fd, FunD K "_law_asked" "_law_asked" (defArgs s_l_asked) (defBody s_l_asked) (defScope s_l_asked) (d_l_asked.dvs K) (d_l_asked.kws K) (fAd K d_l_asked.at_) fd ∧ FnOk P w K mg base CX0 9 (fAd K d_l_asked.at_) fd p_l_asked (sp_l_asked K) := by
  have c_l_first_right := c_l_first_right (P := P) (w := w) (base := base) T B
  have c_l_arc_right := c_l_arc_right (P := P) (w := w) (base := base) T B
  have c_l_distance_right := c_l_distance_right (P := P) (w := w) (base := base) T B
  obtain ⟨fd, F⟩ := T.says.def_ 21 (d := d_l_asked) rfl
  refine ⟨fd, F, fnD F sc_l_asked (fun vs H Q E h => by
    obtain ⟨_, _, _, _, _, _, _, rfl, _⟩ := h
    rfl) fun cdv A outer s H vs Q E hr h => ?_⟩
  have hu := hu_of hr
  obtain ⟨S, l, s, r, lo, hi, xs, rfl, hS, er, hx, hT, kk⟩ := h
  refine ⟨_, (pss_cons (ps_if (PW.pt (pw_or (pt_not (pt_val (pe_cal c_l_first_right hr (by decide) (by rfl) pass0 (pa_cons (pv 0) (pa_cons (pv 1) (pa_cons (pv 2) (pa_cons (pv 4) pa_nil))))))) (pw_or1 (pt_not (pt_val (pe_cal c_l_first_right hr (by decide) (by rfl) pass0 (pa_cons (pv 0) (pa_cons (pv 1) (pa_cons (pv 3) (pa_cons (pv 4) pa_nil)))))))))) (pss_one (ps_ret pe_bl)) pss_nil) (pss_cons (ps_if (pt_not (pt_val (pe_cal c_l_arc_right hr (by decide) (by rfl) pass0 (pa_cons (pv 0) (pa_cons (pv 1) (pa_cons (pv 2) (pa_cons (pv 3) (pa_cons (pv 4) pa_nil)))))))) (pss_one (ps_ret pe_bl)) pss_nil) (pss_cons (ps_for PassesOwn.never rfl (pi_list (pe_slice sl_list (pv 4) po_none (po_some pe_int))) (pg_name (i := 5) sc_l_asked.nd rfl (by first | exact Or.inl rfl | exact Or.inr rfl)) (pss_cons (ps_if (pt_not (pt_val (pe_cal c_l_distance_right hr (by decide) (by rfl) pass0 (pa_cons (pv 0) (pa_cons (pv 1) (pa_cons (pv 2) (pa_cons (pv 5) pa_nil))))))) (pss_one (ps_ret pe_bl)) pss_nil) (pss_one (ps_if (pt_not (pt_val (pe_cal c_l_distance_right hr (by decide) (by rfl) pass0 (pa_cons (pv 0) (pa_cons (pv 1) (pa_cons (pv 3) (pa_cons (pv 5) pa_nil))))))) (pss_one (ps_ret pe_bl)) pss_nil)))) (pss_one (ps_ret pe_bl))))), ?_⟩
  rw [show L2.start n_l_asked [.ref S, .int r, .int lo, .int hi, .ref l] = [some (.ref S), some (.int r), some (.int lo), some (.int hi), some (.ref l), none] from rfl]
  try dsimp only [cxOf, Cx.nox, Cx.wish, List.map]

  wtm_at "rd"
  refine us_l_first_right hS er hx hT fun H1 k1 => ?_
  wtm_at "rd"
  refine us_l_first_right (hS.kt k1) er (hx.kt k1) k1.2 fun H2 k2 => ?_
  have k2 := k1.trans k2
  wtm_at "rd"
  refine us_l_arc_right (hS.kt k2) er (hx.kt k2) k2.2 fun H3 k3 => ?_
  have k3 := k2.trans k3
  have hx3 := (hx.kt k3).at_
  have S3 := hS.kt k3
  wtm_at "rd"
  intro D hD
  have e1 : cutV (xs.map V.int) none (some 12) = (xs.take 12).map V.int := by
    have z := cut_to (xs := xs.map V.int) (k := 12)
    rw [← List.map_take] at z
    exact z
  rw [e1]
  have hD2 : upd H3 D (.lst ((xs.take 12).map V.int)) D = some (.lst ((xs.take 12).map V.int)) := upd_same
  have S4 := S3.k0 (Kp.new (o := .lst ((xs.take 12).map V.int)) hD)
  have k4 := k3.nw (o := .lst ((xs.take 12).map V.int)) hD
  generalize upd H3 D (.lst ((xs.take 12).map V.int)) = H4 at *
  wtm_at "rd"
  refine forL_ints (K := K) (xs.take 12) (fun i σ H5 => (∃ v5, σ = [some (.ref S), some (.int r), some (.int lo), some (.int hi), some (.ref l), v5]) ∧ H5 = H4) ⟨⟨_, rfl⟩, rfl⟩ (fun i σ H3 _ q => by rw [q.2]; exact SqL.of hD2) ?_ ?_
  · rintro i hi σ H5 ⟨⟨v5, rfl⟩, rfl⟩
    wtm_at "rd"
    refine us_l_distance_right S4 er ?_
    wtm_at "rd"
    refine us_l_distance_right S4 er ?_
    wtm_at "rd"
    exact ⟨⟨_, rfl⟩, rfl⟩
  · rintro σ H5 ⟨⟨v5, rfl⟩, rfl⟩
    wtm_at "rd"
    exact kk _ k4
theorem c_l_asked (T : Cx K mg) (B : Tb K mg base) : CalX P w K mg base CX0 9 "_law_asked" (sp_l_asked K) [] := by
  obtain ⟨fd, F, ok⟩ := f_l_asked (P := P) (w := w) (base := base) T B
  exact ⟨_, fd, p_l_asked, [], ok, gl_l_asked T, F.kp, FunD.bindsN F fun _ _ _ _ _ _ us hl => match us, hl with | [_, _, _, _, _], _ => rfl, .nil⟩
end
section
variable {P : Program} {w : World} {K : PySem.W.Frag} {mg : Str → Option Value} {base : Heap}
def sp_law (K : PySem.W.Frag) : Sp := fun vs H Q E => ∃ (a : Addr) (ns : List Int), vs = [.ref a] ∧ (SqL K H a (ns.map V.int)) ∧ (ns.length ≤ 63) ∧ (LamX.Tabs (TT K) H) ∧ (∀ H1, Q (.bl true) H1)
theorem us_law {K : PySem.W.Frag} {H : Hp} {Q : VK} {E : XK} {a : Addr} {ns : List Int} (hS : SqL K H a (ns.map V.int)) (hl : ns.length ≤ 63) (hT : LamX.Tabs (TT K) H) (kk : ∀ H1, Q (.bl true) H1) : sp_law K [.ref a] H Q E := ⟨_, _, rfl, hS, hl, hT, kk⟩
theorem f_law (T : Cx K mg) (B : Tb K mg base) : ∃ fd, FunD K "law" "law" (defArgs s_law) (defBody s_law) (defScope s_law) (d_law.dvs K) (d_law.kws K) (fAd K d_law.at_) fd ∧ FnOk P w K mg base CX0 10 (fAd K d_law.at_) fd p_law (sp_law K) := by
  have c_l_bag := c_l_bag (P := P) (w := w) (base := base) T B
  have c_l_pick := c_l_pick (P := P) (w := w) (base := base) T B
  have c_l_ring := c_l_ring (P := P) (w := w) (base := base) T B
  have c_l_place := c_l_place (P := P) (w := w) (base := base) T B
  have c_l_end := c_l_end (P := P) (w := w) (base := base) T B
  have c_l_held := c_l_held (P := P) (w := w) (base := base) T B
  have c_l_setting := c_l_setting (P := P) (w := w) (base := base) T B
  have c_l_asked := c_l_asked (P := P) (w := w) (base := base) T B
  have c_l_distance_right := c_l_distance_right (P := P) (w := w) (base := base) T B
  obtain ⟨fd, F⟩ := T.says.def_ 22 (d := d_law) rfl
  refine ⟨fd, F, fnD F sc_law (fun vs H Q E h => by
    obtain ⟨_, _, rfl, _⟩ := h
    rfl) fun cdv A outer s H vs Q E hr h => ?_⟩
  have hu := hu_of hr
  obtain ⟨a, ns, rfl, hS, hl, hT, kk⟩ := h
  refine ⟨_, (pss_cons (ps_set (i := 1) sc_law.nd rfl (by first | exact Or.inl rfl | exact Or.inr rfl) (pe_cal c_l_bag hr (by decide) (by rfl) pass0 (pa_cons (pv 0) pa_nil))) (pss_cons (ps_set (i := 2) sc_law.nd rfl (by first | exact Or.inl rfl | exact Or.inr rfl) (pe_op op_add pe_int (pe_cal c_l_pick hr (by decide) (by rfl) pass0 (pa_cons (pv 1) (pa_cons pe_int pa_nil))))) (C8.pss_cut (ps_if (pt_cmpR op_eq (pe_cal c_l_pick hr (by decide) (by rfl) pass0 (pa_cons (pv 1) (pa_cons pe_int pa_nil))) pe_int (nomark _)) (pss_one (ps_set (i := 2) sc_law.nd rfl (by first | exact Or.inl rfl | exact Or.inr rfl) (pe_op op_add pe_int (pe_cal c_l_pick hr (by decide) (by rfl) pass0 (pa_cons (pv 1) (pa_cons pe_int pa_nil)))))) pss_nil) (pss_cons (ps_set (i := 3) sc_law.nd rfl (by first | exact Or.inl rfl | exact Or.inr rfl) (pe_cal c_l_ring hr (by decide) (by rfl) pass0 (pa_cons (pv 2) pa_nil))) (pss_cons (ps_set (i := 4) sc_law.nd rfl (by first | exact Or.inl rfl | exact Or.inr rfl) (pe_cal c_l_place hr (by decide) (by rfl) pass0 (pa_cons (pv 1) (pa_cons (pv 3) pa_nil)))) (pss_cons (ps_set (i := 5) sc_law.nd rfl (by first | exact Or.inl rfl | exact Or.inr rfl) (pe_cal c_l_end hr (by decide) (by rfl) pass0 (pa_cons (pv 1) (pa_cons (pv 3) (pa_cons (pv 4) pa_nil))))) (pss_cons (ps_set (i := 6) sc_law.nd rfl (by first | exact Or.inl rfl | exact Or.inr rfl) (pe_cal c_l_held hr (by decide) (by rfl) pass0 (pa_cons (pv 1) (pa_cons (pv 3) pa_nil)))) (pss_cons (ps_set (i := 7) sc_law.nd rfl (by first | exact Or.inl rfl | exact Or.inr rfl) (pe_cal c_l_held hr (by decide) (by rfl) pass0 (pa_cons (pv 1) (pa_cons (pv 3) pa_nil)))) (pss_cons (ps_set (i := 8) sc_law.nd rfl (by first | exact Or.inl rfl | exact Or.inr rfl) (pe_cal c_l_pick hr (by decide) (by rfl) pass0 (pa_cons (pv 1) (pa_cons (pv 3) pa_nil)))) (pss_cons (ps_set (i := 9) sc_law.nd rfl (by first | exact Or.inl rfl | exact Or.inr rfl) (pe_cal c_l_setting hr (by decide) (by rfl) pass0 (pa_cons (pv 1) (pa_cons (pv 2) pa_nil)))) (pss_cons (ps_set (i := 10) sc_law.nd rfl (by first | exact Or.inl rfl | exact Or.inr rfl) (pe_cal c_l_setting hr (by decide) (by rfl) pass0 (pa_cons (pv 1) (pa_cons (pe_callB (call_min2' rfl) (by rfl) (fr_min T) (by decide +kernel) (pa_cons pe_int (pa_cons (pe_op op_add (pv 2) pe_int) pa_nil))) pa_nil)))) (pss_cons (ps_set (i := 11) sc_law.nd rfl (by first | exact Or.inl rfl | exact Or.inr rfl) (pe_cal c_l_ring hr (by decide) (by rfl) pass0 (pa_cons (pe_callB (call_min2' rfl) (by rfl) (fr_min T) (by decide +kernel) (pa_cons pe_int (pa_cons (pe_op op_add (pv 2) pe_int) pa_nil))) pa_nil))) (pss_cons (ps_if (PW.pt (pw_or (pt_not (pt_val (pe_cal c_l_asked hr (by decide) (by rfl) pass0 (pa_cons (pv 9) (pa_cons (pv 3) (pa_cons (pv 4) (pa_cons (pv 5) (pa_cons (pv 6) pa_nil)))))))) (pw_or1 (pt_not (pt_val (pe_cal c_l_asked hr (by decide) (by rfl) pass0 (pa_cons (pv 10) (pa_cons (pv 11) (pa_cons (pv 4) (pa_cons (pv 5) (pa_cons (pv 6) pa_nil))))))))))) (pss_one (ps_ret pe_bl)) pss_nil) (pss_cons (ps_if (PW.pt (pw_or (pt_not (pt_val (pe_cal c_l_asked hr (by decide) (by rfl) pass0 (pa_cons (pv 9) (pa_cons (pv 3) (pa_cons (pv 5) (pa_cons (pv 4) (pa_cons (pv 6) pa_nil)))))))) (pw_or1 (pt_not (pt_val (pe_cal c_l_asked hr (by decide) (by rfl) pass0 (pa_cons (pv 9) (pa_cons (pv 3) (pa_cons (pv 4) (pa_cons (pv 5) (pa_cons (pv 7) pa_nil))))))))))) (pss_one (ps_ret pe_bl)) pss_nil) (pss_cons (ps_if (PW.pt (pw_or (pt_not (pt_val (pe_cal c_l_asked hr (by decide) (by rfl) pass0 (pa_cons (pv 9) (pa_cons (pv 3) (pa_cons (pv 4) (pa_cons (pv 5) (pa_cons (pe_lst pa_nil) pa_nil)))))))) (pw_or1 (pt_not (pt_val (pe_cal c_l_distance_right hr (by decide) (by rfl) pass0 (pa_cons (pv 9) (pa_cons (pv 3) (pa_cons (pv 4) (pa_cons (pv 8) pa_nil)))))))))) (pss_one (ps_ret pe_bl)) pss_nil) (pss_cons (ps_if (PW.pt (pw_or (pt_not (pt_val (pe_cal c_l_distance_right hr (by decide) (by rfl) pass0 (pa_cons (pv 9) (pa_cons (pv 3) (pa_cons (pv 4) (pa_cons (pv 5) pa_nil))))))) (pw_or1 (pt_not (pt_val (pe_cal c_l_distance_right hr (by decide) (by rfl) pass0 (pa_cons (pv 9) (pa_cons (pv 3) (pa_cons (pv 5) (pa_cons (pv 4) pa_nil)))))))))) (pss_one (ps_ret pe_bl)) pss_nil) (pss_one (ps_ret (pe_cal c_l_asked hr (by decide) (by rfl) pass0 (pa_cons (pv 9) (pa_cons (pv 3) (pa_cons (pv 4) (pa_cons (pv 5) (pa_cons (pe_revL (pv 6)) pa_nil)))))))))))))))))))))))), ?_⟩
  rw [show L2.start n_law [.ref a] = [some (.ref a), none, none, none, none, none, none, none, none, none, none, none] from rfl]
  try dsimp only [cxOf, Cx.nox, Cx.wish, List.map]

  wtm_at "rd"
  refine us_l_bag hS hl fun p c H1 B1 k1 np nc => ?_
  have t1 := tabs_kp hT k1 (fun _ z => by cases z)
  wtm_at "rd"
  refine us_l_pick B1 (by decide) (by decide) fun b1 H2 b10 b11 B2 k2 => ?_
  have t2 := B1.tabs t1 k2
  wtm_at "rd"
  refine rd_cut (fun σ H4 => ∃ b, σ = [some (.ref a), some (.ref p), some (.int b), none, none, none, none, none, none, none, none, none] ∧ 1 ≤ b ∧ b ≤ 8 ∧ Box H4 p c ∧ LamX.Tabs (TT K) H4) ?_ ?_
  · wtm_at "rd"
    refine us_l_pick B2 (by decide) (by decide) fun b2 H3 b20 b21 B3 k3 => ?_
    have t3 := B2.tabs t2 k3
    wtm_at "rd"
    refine ite_d (fun h => ?_) (fun h => ?_)
    · wtm_at "rd"
      refine us_l_pick B3 (by decide) (by decide) fun b3 H4 b30 b31 B4 k4 => ?_
      wtm_at "rd"
      exact ⟨_, rfl, by omega, by omega, B4, B3.tabs t3 k4⟩
    · wtm_at "rd"
      exact ⟨_, rfl, by omega, by omega, B3, t3⟩
  clear t2 k2 B2 b10 b11 t1 k1 B1
  rintro σ H1 ⟨b, rfl, b0, b8, B1, t1⟩
  wtm_at "rd"
  refine us_l_ring ⟨by omega, by omega⟩ ?_
  have hR : Ring (2 ^ b.toNat) := ring_pow b0 b8
  generalize hr1 : (2 : Int) ^ b.toNat = r at *
  have rp := hR.pos
  have r256 := hR.le
  wtm_at "rd"
  refine us_l_place B1 hR fun lo H2 B2 k2 => ?_
  have t2 := B1.tabs t1 k2
  wtm_at "rd"
  refine us_l_end B2 hR fun hi H3 B3 k3 => ?_
  have t3 := B2.tabs t2 k3
  wtm_at "rd"
  refine us_l_held B3 hR fun l xs H4 L4 B4 k4 nl => ?_
  have t4 := B3.tabs t3 k4
  have nlp := Ne.symm (B3.ne1 nl)
  wtm_at "rd"
  refine us_l_held B4 hR fun m ys H5 M5 B5 k5 nm => ?_
  have t5 := B4.tabs t4 k5
  have L5 := L4.kp k5 (by simpa using nlp)
  have nmp := Ne.symm (B4.ne1 nm)
  wtm_at "rd"
  refine us_l_pick B5 rp (by omega) fun seat H6 s0 s1 B6 k6 => ?_
  have t6 := B5.tabs t5 k6
  have L6 := L5.kp k6 (by simpa using nlp)
  have M6 := M5.kp k6 (by simpa using nmp)
  wtm_at "rd"
  refine us_l_setting B6 ⟨b0, b8⟩ fun N sN H7 hN eN B7 k7 => ?_
  rw [hr1] at eN
  have t7 := B6.tabs t6 k7
  have L7 := L6.kp k7 (by simpa using nlp)
  have M7 := M6.kp k7 (by simpa using nmp)
  have hmin : min 8 (b + 1) = if b = 8 then 8 else b + 1 := by
    rw [Int.min_def]
    split <;> split <;> omega
  have w0 : 1 ≤ min 8 (b + 1) := by rw [hmin]; split <;> omega
  have w8 : min 8 (b + 1) ≤ 8 := by rw [hmin]; split <;> omega
  have wb : b ≤ min 8 (b + 1) := by rw [hmin]; split <;> omega
  wtm_at "rd"
  refine us_l_setting B7 ⟨w0, w8⟩ fun W sW H8 hW eW B8 k8 => ?_
  have hRw : Ring (2 ^ (min 8 (b + 1)).toNat) := ring_pow w0 w8
  have t8 := B7.tabs t7 k8
  have L8 := L7.kp k8 (by simpa using nlp)
  have M8 := M7.kp k8 (by simpa using nmp)
  have N8 : SetAt K H8 N sN := hN.k1 k8 (by obtain ⟨xs, h, _⟩ := B7.at; exact hN.nelst h)
  wtm_at "rd"
  refine us_l_ring ⟨by omega, by omega⟩ ?_
  have hle : r ≤ 2 ^ (min 8 (b + 1)).toNat := by
    rw [← hr1]
    exact_mod_cast Nat.pow_le_pow_right (by decide) (by omega)
  have Lw : Seats H8 l (2 ^ (min 8 (b + 1)).toNat) xs := ⟨L8.at_, L8.nd, fun z hz => ⟨(L8.rng z hz).1, by have := (L8.rng z hz).2; omega⟩, L8.len⟩
  have up : ∀ {H : Hp}, Seats H l r xs → Seats H l (2 ^ (min 8 (b + 1)).toNat) xs := fun L => ⟨L.at_, L.nd, fun z hz => ⟨(L.rng z hz).1, by have := (L.rng z hz).2; omega⟩, L.len⟩
  clear Lw B8 k8 M7 L7 t7 k7 B7 M6 L6 t6 k6 B6 M5 L5 t5 k5 B5 L4 t4 k4 B4 B3 t3 k3 t2 k2 B2 t1 B1 hN nm nl
  wtm_at "rd"
  refine us_l_asked N8 eN L8 t8 fun H1 k1 => ?_
  wtm_at "rd"
  refine us_l_asked (hW.kt k1) eW (up (L8.kt k1)) k1.2 fun H2 k2 => ?_
  have k2 := k1.trans k2
  wtm_at "rd"
  refine us_l_asked (N8.kt k2) eN (L8.kt k2) k2.2 fun H3 k3 => ?_
  have k3 := k2.trans k3
  wtm_at "rd"
  refine us_l_asked (N8.kt k3) eN (M8.kt k3) k3.2 fun H4 k4 => ?_
  have k4 := k3.trans k4
  wtm_at "rd"
  refine ⟨sz1000 (by simp), fun e ne => ?_⟩
  have k5 := k4.nw (o := .lst []) ne
  wtm_at "rd"
  refine us_l_asked (xs := []) (N8.kt k5) eN ⟨upd_same, List.nodup_nil, (fun z hz => nomatch hz), by simp⟩ k5.2 fun H6 k6 => ?_
  have k6 := k5.trans k6
  wtm_at "rd"
  refine us_l_distance_right (N8.kt k6) eN ?_
  wtm_at "rd"
  refine us_l_distance_right (N8.kt k6) eN ?_
  wtm_at "rd"
  refine us_l_distance_right (N8.kt k6) eN ?_
  have L6 := (L8.kt k6).at_
  wtm_at "rd"
  intro D hD
  have k7 := k6.nw (o := .lst (xs.map V.int).reverse) hD
  wtm_at "rd"
  refine us_l_asked (xs := xs.reverse) (N8.kt k7) eN ⟨by rw [upd_same, List.map_reverse], (List.reverse_perm xs).nodup_iff.mpr L8.nd, fun z hz => L8.rng z (List.mem_reverse.mp hz), by rw [List.length_reverse]; exact L8.len⟩ k7.2 fun H8 k8 => ?_
  exact kk _
end

abbrev hk : PySem.W.Hook := hookP 6 fa fn gs tf ex
def ob (s : PySem.W.SharedT) : AlP := obsP 6 fa fn gs tf ex (HandSHeadRun.getT s)
theorem ob_eq (s : PySem.W.SharedT) : ob s = hk.obs s.abs := obsP_eq (HandSHeadRun.getT_eq s)
def names : List Str := (["_wall", "GroupError", "InvalidSetting", "whole", "Setting", "distance", "first_from", "arc", "_law_bag", "_law_mixed", "_law_wide", "_law_pick", "_law_whole", "_law_ring", "_law_setting", "_law_held", "_law_place", "_law_end", "_law_flags", "_law_walk", "_law_first_right", "_law_is_list", "_law_arc_right", "_law_distance_right", "_law_asked"] : List Str)
theorem run (w : World) : HandSHeadRun.RunEq R (PySem.W.view R.prog [28]) hk ob 6000 names w := by
  intro os
  kernel_rfl
theorem law_all {P : Program} {w : World} {K : PySem.W.Frag} {mg : Str → Option Value} (T : Cx K mg) :
    ∃ fd : FuncData, (∀ (s : Shared) (v : Value), BindsTo s fd ⟨[v], []⟩ [("_law_script", v)]) ∧ ∀ base : Heap, Tb K mg base → FnOk P w K mg base CX0 10 (ga K "law") fd ["_law_script"] (sp_law K) := by
  obtain ⟨fd, F⟩ := T.says.def_ 22 (d := d_law) rfl
  have b := FunD.bindsA (ps := ["_law_script"]) F fun _ _ _ _ _ _ us hl => match us, hl with | [_], _ => rfl
  refine ⟨fd, fun s v => b s [v] rfl, fun base B => ?_⟩
  obtain ⟨fd2, F2, ok⟩ := f_law (P := P) (w := w) (base := base) T B
  have e : fd2 = fd := by
    obtain ⟨oc, od, dV, kV, doc, pm, an, cdv, ct, osl, e1, l1, -⟩ := F.ex
    obtain ⟨oc2, od2, dV2, kV2, doc2, pm2, an2, cdv2, ct2, osl2, e2, l2, -⟩ := F2.ex
    rw [l1] at l2
    injection l2 with l3
    injection l3 with _ _ l4 _
    injection l4 with l5
    exact l5.symm
  subst e
  exact ok

end My

open PySem PySem.W PySem.Calls PyProof.Rows
set_option maxRecDepth 100000 in
set_option maxHeartbeats 0 in
theorem PySem.Challenge.cw_livingroll_k01_first_seat_and_arc_holds : PySem.Challenge.rw_livingroll_k01_first_seat_and_arc.Holds := by
  w_on; o_law
  refine HandSHeadRun.head_any (r := OpenLaw.row PySem.Challenge.rw_livingroll_k01_first_seat_and_arc) (q := view (OpenLaw.row PySem.Challenge.rw_livingroll_k01_first_seat_and_arc).prog [28]) (H := My.hk) (ob := My.ob) (M := 6000) (loose := My.names) (d := HandSHeadRun.topDef (OpenLaw.row PySem.Challenge.rw_livingroll_k01_first_seat_and_arc).prog 28) (kwd := []) My.ob_eq
    (by kernel_rfl) (fun s => by kernel_rfl) My.run (by kernel_rfl) (by kernel_rfl) (by kernel_rfl) (by rfl) (by first | assumption | decide +kernel) (by decide +kernel) ⟨rfl, rfl, rfl, rfl, rfl, by decide +kernel⟩ ?hw ?hc
  case hw => w_witness2
  case hc =>
    refine LamX.walk_ofTsE (l := PySem.Challenge.rw_livingroll_k01_first_seat_and_arc) (n := 63) (k := 10) (x := "_law_script") (CX := fun _ => L2.CX0) rfl (by decide) (by kernel_rfl) ⟨rfl, by decide, by decide⟩ ?F (fun _ _ _ _ _ z => z)
    intro w mg fa h Y G hmg0
    obtain ⟨K, KX, c⟩ := Y
    have hmg : mg ("law" : PySem.Str) = some (.ref fa) := by
      have e : (HandSHeadRun.topDef (OpenLaw.row PySem.Challenge.rw_livingroll_k01_first_seat_and_arc).prog 28).name = ("law" : PySem.Str) := by kernel_rfl
      rw [← e]
      exact hmg0
    have T : My.Cx K mg := ⟨c.x.t.d, c.x.more, h, KX, G⟩
    have e := hmg.symm.trans (My.gl_law T)
    cases e
    obtain ⟨fd, hb, hF⟩ := My.law_all (P := PySem.Challenge.pw_livingroll_k01_first_seat_and_arc) (w := w) T
    refine ⟨K, KX, fd, My.tf.map (He.cT K), My.sp_law K, fun p hp => ?_, fun p hp => ?_, fun p hp => ?_, hb, fun H a ns hl _ hH hS => ⟨a, ns, rfl, hS, hl, RD.tabs_nil (tf := My.tf) (K := K) rfl hH, fun _ => rfl⟩, fun base _ _ B => hF base ⟨B, fun d hd => c.get hd⟩⟩
    · obtain ⟨q, hq, rfl⟩ := List.mem_map.mp hp
      exact c.x.empty q hq
    · obtain ⟨q, hq, rfl⟩ := List.mem_map.mp hp
      exact c.x.out q hq
    · obtain ⟨q, hq, rfl⟩ := List.mem_map.mp hp
      exact PySem.W.codeHd_of_K KX (c.x.hd q hq)
