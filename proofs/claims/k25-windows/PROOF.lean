import PyProof.Rows.All
import Wide.All
import OpenK.AllK
import Wide.FinOn
import KE.KStateDown
import Lean
import HandS.ForMost
import HandS.Flow
import HandS.IsInst
import HandS.DictTup
import HandS.Codes
import HandS.Defaults
import HandS.Head0
import HandS.Head1
import HandS.Head2
import HandS.HeadEnd
import HandS.HeadHook1
import HandS.HeadHook2
import HandS.HeadHook3
import HandS.Conv
import HandS.Property
import KE.SortKeyHeap
import KE.KMinKey
import HandS.Lambda
import HandS.Sort
import HandS.HeadHook4
import HandS.HeadWalk
import HandS.Property
import HandS.Style
import HandS.MakeKwOnly
import HandS.Wide
import HandS.More
import HandS.DictComp
import HandS.DeepEq
import HandS.GenList
import HandS.Flow
import PyProof.LongRange
import HandS.SortInts
import HandS.SetFor
import PySem.Challenge.RW_livingroll_k25_whole_tour_windows
set_option Elab.async false
set_option linter.all false
set_option maxRecDepth 100000
set_option maxHeartbeats 4000000
/-! own layer: the head by facts, one lemma for each reading, a step tactic -/
namespace RD
open PySem PySem.Spec PyProof.Rows L2 He

/-! ### frames: what stays -/
def Kp (ps : List Addr) (H H' : Hp) : Prop := ∀ b o, H b = some o → b ∉ ps → H' b = some o
theorem Kp.refl {ps : List Addr} {H : Hp} : Kp ps H H := fun _ _ h _ => h
theorem Kp.trans {ps : List Addr} {H H1 H2 : Hp} (a : Kp ps H H1) (b : Kp ps H1 H2) : Kp ps H H2 := fun c o h n => b c o (a c o h n) n
theorem Kp.mono {ps qs : List Addr} {H H' : Hp} (a : Kp ps H H') (h : ∀ p, p ∈ ps → p ∈ qs) : Kp qs H H' := fun c o e n => a c o e fun m => n (h c m)
theorem Kp.of0 {qs : List Addr} {H H' : Hp} (a : Kp [] H H') : Kp qs H H' := fun c o e _ => a c o e (by simp)
theorem Kp.new {ps : List Addr} {H : Hp} {p : Addr} {o : HO} (h : H p = none) : Kp ps H (upd H p o) := fun b u e _ => by
  rw [upd_ne (ne_of_none e h)]
  exact e
theorem Kp.wr {ps : List Addr} {H H' : Hp} {p : Addr} {o : HO} (a : Kp ps H H') (h : p ∈ ps) : Kp ps H (upd H' p o) := fun b u e n => by
  have hb : b ≠ p := by
    intro z
    subst z
    exact n h
  rw [upd_ne hb]
  exact a b u e n
theorem Kp.nw {ps : List Addr} {H H' : Hp} {p : Addr} {o : HO} (a : Kp ps H H') (h : H' p = none) : Kp ps H (upd H' p o) := a.trans (Kp.new h)
/-- an object made behind H is written -/
theorem Kp.mine {ps : List Addr} {H H' : Hp} {p : Addr} {o : HO} (a : Kp ps H H') (h : H p = none) : Kp ps H (upd H' p o) := fun b u e n => by
  rw [upd_ne (ne_of_none e h)]
  exact a b u e n
theorem Kp.g0 {H H' : Hp} {b : Addr} {o : HO} (a : Kp [] H H') (e : H b = some o) : H' b = some o := a b o e (by simp)
theorem Kp.g1 {p : Addr} {H H' : Hp} {b : Addr} {o : HO} (a : Kp [p] H H') (n : b ≠ p) (e : H b = some o) : H' b = some o := a b o e (by simp [n])
theorem Kp.g2 {p q : Addr} {H H' : Hp} {b : Addr} {o : HO} (a : Kp [p, q] H H') (n : b ≠ p) (m : b ≠ q) (e : H b = some o) : H' b = some o := a b o e (by simp [n, m])
theorem Kp.g3 {p q r : Addr} {H H' : Hp} {b : Addr} {o : HO} (a : Kp [p, q, r] H H') (n : b ≠ p) (m : b ≠ q) (l : b ≠ r) (e : H b = some o) : H' b = some o := a b o e (by simp [n, m, l])
theorem Kp.back {ps : List Addr} {H H' : Hp} (a : Kp ps H H') {l : Addr} (h : H' l = none) (n : l ∉ ps) : H l = none := by
  cases q : H l with
  | none => rfl
  | some o =>
    rw [a l o q n] at h
    cases h
theorem Kp.via {ps qs : List Addr} {H H' H2 : Hp} (a : Kp ps H H') (b : Kp qs H' H2) (n : ∀ q, q ∈ qs → q ∈ ps ∨ H q = none) : Kp ps H H2 := fun c o e m => b c o (a c o e m) fun z => by
  rcases n c z with z | z
  · exact m z
  · rw [z] at e
    cases e
theorem Kp.via1 {ps : List Addr} {p : Addr} {H H' H2 : Hp} (a : Kp ps H H') (b : Kp [p] H' H2) (n : H p = none) : Kp ps H H2 := a.via b fun q hq => by
  rw [List.mem_singleton.mp hq]
  exact .inr n
theorem rd_kp {ps : List Addr} {H H' : Hp} {b : Addr} {u : HO} (a : Kp ps H H') (n : b ∉ ps) (h : Rd H b u) : Rd H' b u := by
  rcases h with h | ⟨o, h⟩
  · exact .inl (a _ _ h n)
  · exact .inr ⟨o, a _ _ h n⟩
theorem sl_kp {K : PySem.W.Frag} {ps : List Addr} {H H' : Hp} {b : Addr} {xs : List V} (a : Kp ps H H') (n : b ∉ ps) (h : SqL K H b xs) : SqL K H' b xs := by
  rcases h with h | h
  · exact .inl (rd_kp a n h)
  · exact .inr h
theorem st_kp {K : PySem.W.Frag} {ps : List Addr} {H H' : Hp} {b : Addr} {xs : List V} (a : Kp ps H H') (n : b ∉ ps) (h : SqT K H b xs) : SqT K H' b xs := by
  rcases h with h | h
  · exact .inl (rd_kp a n h)
  · exact .inr h
theorem sl_upd {K : PySem.W.Frag} {H : Hp} {b p : Addr} {o : HO} {xs : List V} (n : b ≠ p) (h : SqL K H b xs) : SqL K (upd H p o) b xs :=
  sl_kp (ps := [p]) (fun c u e m => by rw [upd_ne (by simpa using m)]; exact e) (by simpa using n) h
theorem st_upd {K : PySem.W.Frag} {H : Hp} {b p : Addr} {o : HO} {xs : List V} (n : b ≠ p) (h : SqT K H b xs) : SqT K (upd H p o) b xs :=
  st_kp (ps := [p]) (fun c u e m => by rw [upd_ne (by simpa using m)]; exact e) (by simpa using n) h
theorem hu_ne {H : Hp} {a b : Addr} {o u : HO} (n : b ≠ a) (e : H b = some u) : upd H a o b = some u := by
  rw [upd_ne n]
  exact e
theorem upd_is {H : Hp} {a : Addr} {o o' : HO} (e : o = o') : upd H a o a = some o' := by
  rw [e]
  exact upd_same
theorem ne_fresh {H : Hp} {a b : Addr} {o : HO} (h : upd H a o b = none) : a ≠ b := ne_of_none upd_same h
theorem hn_ne {H : Hp} {a b : Addr} {o : HO} (n : b ≠ a) (e : H b = none) : upd H a o b = none := by
  rw [upd_ne n]
  exact e

/-! ### readings, one lemma each -/
section
variable {K : PySem.W.Frag} {σ : L2.St} {H : Hp} {nx bk ct : L2.St → Hp → Prop} {rt : VK} {t u : TS} {te ta tb tc : TE} {tt tu : TT} {ar : TA} {Q : VK} {QB : Bool → Hp → Prop} {QA : List V → Hp → Prop} {v x y : V} {i j : Int}
abbrev En (nx : L2.St → Hp → Prop) (rt : VK) (bk ct : L2.St → Hp → Prop) : Ends := ⟨nx, rt, bk, ct⟩
theorem rd_seq (h : t ⟨u ⟨nx, rt, bk, ct⟩, rt, bk, ct⟩ σ H) : tSeq t u ⟨nx, rt, bk, ct⟩ σ H := h
theorem rd_next (h : nx σ H) : tNext ⟨nx, rt, bk, ct⟩ σ H := h
theorem rd_brk (h : bk σ H) : tBreak ⟨nx, rt, bk, ct⟩ σ H := h
theorem rd_cont (h : ct σ H) : tCont ⟨nx, rt, bk, ct⟩ σ H := h
theorem rd_asg {g : TG} (h : te σ H fun x H1 => g x σ H1 nx) : tAsg te g ⟨nx, rt, bk, ct⟩ σ H := h
theorem rd_ret (h : te σ H rt) : tRet te ⟨nx, rt, bk, ct⟩ σ H := h
theorem rd_retN (h : rt .non H) : tRetN ⟨nx, rt, bk, ct⟩ σ H := h
theorem rd_drop (h : te σ H fun _ H1 => nx σ H1) : tDrop te ⟨nx, rt, bk, ct⟩ σ H := h
theorem rd_ifS {D : Ends} (h : tt σ H fun b H1 => if b = true then t D σ H1 else u D σ H1) : tIfS tt t u D σ H := h
theorem rd_cut (M : L2.St → Hp → Prop) (h : t ⟨M, rt, bk, ct⟩ σ H) (k : ∀ σ' H', M σ' H' → u ⟨nx, rt, bk, ct⟩ σ' H') : C8.tCut t u ⟨nx, rt, bk, ct⟩ σ H := ⟨M, h, k⟩
theorem rd_gname {n : Nat} {Q : L2.St → Hp → Prop} (h : Q (σ.set n (some v)) H) : gName n v σ H Q := h
theorem rd_gsub {to ti : TE} {s : TSet} {Q : L2.St → Hp → Prop} (h : to σ H fun o H1 => ti σ H1 fun i H2 => s o i v H2 fun H3 => Q σ H3) : gSub to ti s v σ H Q := h
theorem rd_gtup {n : Nat} {g : TGs} {a : Addr} {xs : List V} {Q : L2.St → Hp → Prop} (h : SqT K H a xs) (e : xs.length = n) (q : g xs σ H Q) : gTup K n g (.ref a) σ H Q := ⟨a, xs, rfl, h, e, q⟩
theorem rd_gcons {g : TG} {gs : TGs} {r : List V} {Q : L2.St → Hp → Prop} (q : g v σ H fun σ' H' => gs r σ' H' Q) : gCons g gs (v :: r) σ H Q := ⟨v, r, rfl, q⟩
theorem rd_gnil {Q : L2.St → Hp → Prop} (q : Q σ H) : gNil [] σ H Q := ⟨rfl, q⟩
theorem rd_setL {p : Addr} {xs : List V} {k : Int} {j : Nat} {Q : Hp → Prop} (hp : H p = some (.lst xs)) (hj : ixN xs.length k = some j) (q : Q (upd H p (.lst (xs.set j v)))) : rSetL (.ref p) (.int k) v H Q := ⟨p, xs, k, j, rfl, rfl, hp, hj, q⟩
theorem rd_var {n : Nat} (e : σ[n]? = some (some v)) (h : Q v H) : tVar n σ H Q := ⟨v, e, h⟩
theorem rd_c (h : Q v H) : tC v σ H Q := h
theorem rd_op {r : R2} (h : ta σ H fun x H1 => tb σ H1 fun y H2 => r x y H2 Q) : tOp r ta tb σ H Q := h
theorem rd_un {r : V → Hp → VK → Prop} (h : ta σ H fun x H1 => r x H1 Q) : tUn r ta σ H Q := h
theorem rd_I0 {g : Int → Int → V} (h : Q (g i j) H) : rI0 g (.int i) (.int j) H Q := ⟨i, j, rfl, rfl, h⟩
theorem rd_I {C : Int → Int → Prop} {g : Int → Int → V} (c : C i j) (h : Q (g i j) H) : rI C g (.int i) (.int j) H Q := ⟨i, j, rfl, rfl, c, h⟩
theorem rd_U {g : Int → V} (h : Q (g i) H) : rU g (.int i) H Q := ⟨i, rfl, h⟩
theorem rd_eqI (h : Q (.bl (decide (i = j))) H) : rEq (.int i) (.int j) H Q := ⟨rfl, by
  rw [show decide (V.int i = V.int j) = decide (i = j) from decide_eq_decide.mpr ⟨fun e => V.int.inj e, fun e => congrArg V.int e⟩]
  exact h⟩
theorem rd_neI (h : Q (.bl (!decide (i = j))) H) : rNe (.int i) (.int j) H Q := ⟨rfl, by
  rw [show decide (V.int i = V.int j) = decide (i = j) from decide_eq_decide.mpr ⟨fun e => V.int.inj e, fun e => congrArg V.int e⟩]
  exact h⟩
theorem rd_eqS {a b : Str} (h : Q (.bl (decide (a = b))) H) : rEq (.str a) (.str b) H Q := ⟨rfl, by
  rw [show decide (V.str a = V.str b) = decide (a = b) from decide_eq_decide.mpr ⟨fun e => V.str.inj e, fun e => congrArg V.str e⟩]
  exact h⟩
theorem rd_neS {a b : Str} (h : Q (.bl (!decide (a = b))) H) : rNe (.str a) (.str b) H Q := ⟨rfl, by
  rw [show decide (V.str a = V.str b) = decide (a = b) from decide_eq_decide.mpr ⟨fun e => V.str.inj e, fun e => congrArg V.str e⟩]
  exact h⟩
theorem rd_eqB {a b : Bool} (h : Q (.bl (decide (a = b))) H) : rEq (.bl a) (.bl b) H Q := ⟨rfl, by
  rw [show decide (V.bl a = V.bl b) = decide (a = b) from decide_eq_decide.mpr ⟨fun e => V.bl.inj e, fun e => congrArg V.bl e⟩]
  exact h⟩
theorem rd_neB {a b : Bool} (h : Q (.bl (!decide (a = b))) H) : rNe (.bl a) (.bl b) H Q := ⟨rfl, by
  rw [show decide (V.bl a = V.bl b) = decide (a = b) from decide_eq_decide.mpr ⟨fun e => V.bl.inj e, fun e => congrArg V.bl e⟩]
  exact h⟩
theorem rd_eq (s : scal x y = true) (h : Q (.bl (decide (x = y))) H) : rEq x y H Q := ⟨s, h⟩
theorem rd_ne (s : scal x y = true) (h : Q (.bl (!decide (x = y))) H) : rNe x y H Q := ⟨s, h⟩
theorem rd_test (h : te σ H fun x H1 => ∃ k, x = .bl k ∧ QB k H1) : tTest te σ H QB := h
theorem rd_tB (h : te σ H fun x H1 => ∃ k, x = .bl k ∧ QB k H1) : tB te σ H QB := h
theorem rd_exb {b : Bool} {P : Bool → Prop} (h : P b) : ∃ k, V.bl b = V.bl k ∧ P k := ⟨b, rfl, h⟩
theorem rd_and (h : tt σ H fun c H1 => if c = true then tu σ H1 QB else QB false H1) : tAnd tt tu σ H QB := h
theorem rd_or (h : tt σ H fun c H1 => if c = true then QB true H1 else tu σ H1 QB) : tOr tt tu σ H QB := h
theorem rd_not (h : tt σ H fun c H1 => QB (!c) H1) : tNot tt σ H QB := h
theorem rd_andV (h : ta σ H fun x H1 => ∃ c, x = .bl c ∧ if c = true then tb σ H1 Q else Q (.bl false) H1) : tAndV ta tb σ H Q := h
theorem rd_orV (h : ta σ H fun x H1 => ∃ c, x = .bl c ∧ if c = true then Q (.bl true) H1 else tb σ H1 Q) : tOrV ta tb σ H Q := h
theorem rd_notV (h : ta σ H fun x H1 => ∃ c, x = .bl c ∧ Q (.bl (!c)) H1) : tNotV ta σ H Q := h
theorem rd_ifE (h : tt σ H fun c H1 => if c = true then ta σ H1 Q else tb σ H1 Q) : tIf tt ta tb σ H Q := h
theorem rd_isN (h : ta σ H fun x H1 => Q (.bl (decide (x = .non))) H1) : tIsN ta σ H Q := h
theorem rd_notN (h : ta σ H fun x H1 => Q (.bl (!decide (x = .non))) H1) : tNotN ta σ H Q := h
theorem rd_tru {b : Bool} {P : Bool → Prop} (e : TruV K x H b) (h : P b) : ∃ k, TruV K x H k ∧ P k := ⟨b, e, h⟩
theorem rd_CB {r : List V → Hp → VK → Prop} (h : ar σ H fun vs H1 => r vs H1 Q) : tCB r ar σ H Q := h
theorem rd_nil (h : QA [] H) : tNil σ H QA := h
theorem rd_cons {tr : TA} (h : ta σ H fun x H1 => tr σ H1 fun xs H2 => QA (x :: xs) H2) : tCons ta tr σ H QA := h
theorem rd_call {sp : Sp} {E : XK} (h : ar σ H fun vs H1 => sp vs H1 Q E) : tCall sp [] E ar σ H Q := by
  unfold tCall
  have e : (fun vs H1 => sp (vs ++ []) H1 Q E) = fun vs H1 => sp vs H1 Q E := by
    funext vs H1
    rw [List.append_nil]
  rw [e]
  exact h
theorem rd_make {C : Addr} {sp : Sp} {dvs : List V} {E : XK} (h : ar σ H fun vs H1 => ∀ x dx, H1 x = none → H1 dx = none → dx ≠ x → sp (.ref x :: (vs ++ dvs)) (upd (upd H1 dx (.own x)) x (.ins C dx [])) (fun v H2 => v = .non ∧ Q (.ref x) H2) E) : tMake C sp dvs E ar σ H Q := h
theorem rd_callD {sp : Sp} {dvs : List V} {E : XK} (h : ar σ H fun vs H1 => sp (vs ++ dvs) H1 Q E) : tCall sp dvs E ar σ H Q := h
theorem rd_tup (h : ar σ H fun xs H1 => xs.length ≤ sizeLine ∧ ∀ p, H1 p = none → Q (.ref p) (upd H1 p (.tup xs))) : tTup ar σ H Q := h
theorem rd_lst (h : ar σ H fun xs H1 => xs.length ≤ sizeLine ∧ ∀ p, H1 p = none → Q (.ref p) (upd H1 p (.lst xs))) : tLst ar σ H Q := h
theorem rd_ixL {p : Addr} {xs : List V} (h : SqL K H p xs) (a : atI xs i = some v) (q : Q v H) : rIxL K (.ref p) (.int i) H Q := ⟨p, xs, i, v, rfl, rfl, h, a, q⟩
theorem rd_ixT {p : Addr} {xs : List V} (h : SqT K H p xs) (a : atI xs i = some v) (q : Q v H) : rIxT K (.ref p) (.int i) H Q := ⟨p, xs, i, v, rfl, rfl, h, a, q⟩
theorem rd_fld {f : Str} {a C dx : Addr} {fs : List (Str × V)} {P : V → Hp → Prop} (h : H a = some (.ins C dx fs)) (c : Cls K C) (n : NoAttr K C f) (l : fs.lookup f = some v) (q : Q v H) :
    ∃ a' C' dx' fs' v', V.ref a = V.ref a' ∧ H a' = some (.ins C' dx' fs') ∧ Cls K C' ∧ NoAttr K C' f ∧ fs'.lookup f = some v' ∧ Q v' H := ⟨a, C, dx, fs, v, rfl, h, c, n, l, q⟩
theorem rd_meth {C : Addr} {m : Str} {sp : Sp} {E : XK} (h : ta σ H fun x H1 => ∃ a dx fs, x = .ref a ∧ H1 a = some (.ins C dx fs) ∧ fs.lookup m = none ∧ ar σ H1 fun vs H2 => sp (x :: vs) H2 Q E) : tMeth C m sp [] E ta ar σ H Q := by
  unfold tMeth
  have e : (fun (x : V) (H1 : Hp) => ∃ a dx fs, x = V.ref a ∧ H1 a = some (.ins C dx fs) ∧ fs.lookup m = none ∧ ar σ H1 fun vs H2 => sp (x :: (vs ++ [])) H2 Q E) =
      fun (x : V) (H1 : Hp) => ∃ a dx fs, x = V.ref a ∧ H1 a = some (.ins C dx fs) ∧ fs.lookup m = none ∧ ar σ H1 fun vs H2 => sp (x :: vs) H2 Q E := by
    funext x H1
    simp only [List.append_nil]
  rw [e]
  exact h
theorem rd_methX {C a dx : Addr} {m : Str} {fs : List (Str × V)} {R : Prop} (h : H a = some (.ins C dx fs)) (l : fs.lookup m = none) (q : R) : ∃ a' dx' fs', V.ref a = V.ref a' ∧ H a' = some (.ins C dx' fs') ∧ fs'.lookup m = none ∧ R := ⟨a, dx, fs, rfl, h, l, q⟩
theorem rd_bm {T : String} {r : V → List V → Hp → VK → Prop} (h : ta σ H fun x H1 => tyV K T x H1 ∧ ar σ H1 fun xs H2 => r x xs H2 Q) : tBM K T r ta ar σ H Q := h
theorem rd_bm0 {T : String} {r : V → List V → Hp → VK → Prop} (h : ta σ H fun x H1 => tyV K T x H1 ∧ r x [] H1 Q) : tBM0 K T r ta σ H Q := h
theorem ty_l {p : Addr} {xs : List V} {B : Prop} (h : SqL K H p xs) (q : B) : tyV K "list" (.ref p) H ∧ B := ⟨.inl ⟨rfl, xs, h⟩, q⟩
theorem rd_append {p : Addr} {xs : List V} (h : H p = some (.lst xs)) (l : xs.length < sizeLine) (q : Q .non (upd H p (.lst (xs ++ [v])))) : rAppend (.ref p) [v] H Q := ⟨p, xs, v, rfl, rfl, h, l, q⟩
/-! #### built-ins under names -/
def rInt1 : List V → Hp → VK → Prop := fun xs H Q => (∃ i, xs = [.int i] ∧ Q (.int i) H) ∨ ∃ k, xs = [.bl k] ∧ Q (.int (if k then 1 else 0)) H
theorem call_int1' {X : Cx} : CallR X (.type "int") rInt1 := call_int1
theorem rd_int1 (h : Q (.int i) H) : rInt1 [.int i] H Q := .inl ⟨i, rfl, h⟩
def rAbs : List V → Hp → VK → Prop := fun xs H Q => ∃ i, xs = [.int i] ∧ Q (.int (if i < 0 then -i else i)) H
theorem call_abs' {X : Cx} : CallR X (.builtin "abs") rAbs := call_abs
theorem rd_abs (h : Q (.int (i.natAbs : Int)) H) : rAbs [.int i] H Q := ⟨i, rfl, by
  rw [show (if i < 0 then -i else i) = (i.natAbs : Int) from by split <;> omega]
  exact h⟩
def rLenS (K : PySem.W.Frag) : List V → Hp → VK → Prop := fun xs H Q => ∃ p ys, xs = [.ref p] ∧ (SqL K H p ys ∨ SqT K H p ys) ∧ Q (.int ys.length) H
theorem call_lenS {X : Cx} : CallR X (.builtin "len") (rLenS X.K) := call_len_seq
theorem rd_lenL {p : Addr} {ys : List V} (h : SqL K H p ys) (q : Q (.int ys.length) H) : rLenS K [.ref p] H Q := ⟨p, ys, rfl, .inl h, q⟩
theorem rd_lenI {p : Addr} {ns : List Int} (h : SqL K H p (ns.map V.int)) (q : Q (.int ns.length) H) : rLenS K [.ref p] H Q := ⟨p, ns.map V.int, rfl, .inl h, by
  rw [List.length_map]
  exact q⟩
theorem rd_lenT {p : Addr} {ys : List V} (h : SqT K H p ys) (q : Q (.int ys.length) H) : rLenS K [.ref p] H Q := ⟨p, ys, rfl, .inr h, q⟩
def rMin2 : List V → Hp → VK → Prop := fun xs H Q => ∃ i j, xs = [.int i, .int j] ∧ Q (.int (if j < i then j else i)) H
theorem call_min2' {X : Cx} (hc : X.calm = true) : CallR X (.builtin "min") rMin2 := call_min2 hc
theorem rd_min2 (h : Q (.int (min i j)) H) : rMin2 [.int i, .int j] H Q := ⟨i, j, rfl, by
  rw [show (if j < i then j else i) = min i j from by split <;> omega]
  exact h⟩
def rMax2 : List V → Hp → VK → Prop := fun xs H Q => ∃ i j, xs = [.int i, .int j] ∧ Q (.int (if j > i then j else i)) H
theorem call_max2' {X : Cx} (hc : X.calm = true) : CallR X (.builtin "max") rMax2 := call_max2 hc
theorem rd_max2 (h : Q (.int (max i j)) H) : rMax2 [.int i, .int j] H Q := ⟨i, j, rfl, by
  rw [show (if j > i then j else i) = max i j from by split <;> omega]
  exact h⟩
def rListOf (K : PySem.W.Frag) : List V → Hp → VK → Prop := fun xs H Q => ∃ p ys, xs = [.ref p] ∧ (SqL K H p ys ∨ SqT K H p ys) ∧ ∀ l, H l = none → Q (.ref l) (upd H l (.lst ys))
theorem call_listOf {X : Cx} : CallR X (.type "list") (rListOf X.K) := call_list_of
theorem rd_listL {p : Addr} {ys : List V} (h : SqL K H p ys) (q : ∀ l, H l = none → Q (.ref l) (upd H l (.lst ys))) : rListOf K [.ref p] H Q := ⟨p, ys, rfl, .inl h, q⟩
/-- isinstance against one built-in class -/
theorem rd_isi {t : String} {c : String} {b : Bool} (ty : TyX K H x (.type t)) (e : kitB t c = some b) (h : Q (.bl b) H) : rIsi K [x, .ty c] H Q := ⟨x, .ty c, .type t, .type c, b, rfl, .ty c, ty, kit_ty e, h⟩

/-! ### loops -/
/-- what a for over the walk J asks -/
def ForG (J : It) (g : TG) (t : TS) (D : Ends) (σ : L2.St) (H : Hp) : Prop :=
  ∃ W : Nat → Nat → L2.St → Hp → Prop, (∃ m, W 0 m σ H) ∧ ∀ i m σ H, W i m σ H →
      (J.stop i H ∧ D.nx σ H) ∨ (J.go i H ∧ ∃ N : L2.St → Hp → Prop, (∀ σ' H', N σ' H' → ∃ m', m' < m ∧ W (i + 1) m' σ' H') ∧ ∀ x H', J.yld i H x H' → g x σ H' fun σ2 H2 => t { D with nx := N, ct := N, bk := D.nx } σ2 H2)
theorem rd_for {wi : TI} {g : TG} {D : Ends} (h : wi σ H fun J H1 => ForG J g t D σ H1) : tFor wi g t D σ H := h
theorem rd_iList {R : It → Hp → Prop} (h : te σ H fun x H1 => ∃ a, x = V.ref a ∧ (∃ xs, SqL K H1 a xs) ∧ R (Itl K a) H1) : iList K te σ H R := h
theorem rd_iTup {R : It → Hp → Prop} (h : te σ H fun x H1 => ∃ a, x = V.ref a ∧ (∃ xs, SqT K H1 a xs) ∧ R (Itt K a) H1) : iTup K te σ H R := h
theorem rd_iListX {p : Addr} {xs : List V} {R : Addr → Prop} (h : SqL K H p xs) (q : R p) : ∃ a, V.ref p = V.ref a ∧ (∃ xs, SqL K H a xs) ∧ R a := ⟨p, rfl, ⟨xs, h⟩, q⟩
theorem rd_iTupX {p : Addr} {xs : List V} {R : Addr → Prop} (h : SqT K H p xs) (q : R p) : ∃ a, V.ref p = V.ref a ∧ (∃ xs, SqT K H a xs) ∧ R a := ⟨p, rfl, ⟨xs, h⟩, q⟩
theorem rd_iRng1 {R : It → Hp → Prop} (h : ar σ H fun vs H1 => ∃ j : Int, vs = [.int j] ∧ -(2 ^ 62) ≤ j ∧ j < 2 ^ 62 ∧ R (Itr 0 j.toNat) H1) : iRng1 ar σ H R := h
theorem rd_iRng1X {R : Int → Prop} (h1 : -(2 ^ 62) ≤ j) (h2 : j < 2 ^ 62) (q : R j) : ∃ k : Int, [V.int j] = [V.int k] ∧ -(2 ^ 62) ≤ k ∧ k < 2 ^ 62 ∧ R k := ⟨j, rfl, h1, h2, q⟩
theorem rd_iRng2 {R : It → Hp → Prop} (h : ar σ H fun vs H1 => ∃ i j : Int, vs = [.int i, .int j] ∧ (-(2 ^ 62) ≤ i ∧ i < 2 ^ 62 ∧ -(2 ^ 62) ≤ j ∧ j < 2 ^ 62) ∧ R (Itr i (j - i).toNat) H1) : iRng2 ar σ H R := h
theorem rd_iRng2X {R : Int → Int → Prop} (h1 : -(2 ^ 62) ≤ i ∧ i < 2 ^ 62 ∧ -(2 ^ 62) ≤ j ∧ j < 2 ^ 62) (q : R i j) : ∃ k l : Int, [V.int i, V.int j] = [V.int k, V.int l] ∧ (-(2 ^ 62) ≤ k ∧ k < 2 ^ 62 ∧ -(2 ^ 62) ≤ l ∧ l < 2 ^ 62) ∧ R k l := ⟨i, j, rfl, h1, q⟩
/-- over a list that stays -/
theorem forL_by {a : Addr} {g : TG} (xs : List V) (Pv : Nat → L2.St → Hp → Prop) (h0 : Pv 0 σ H) (hl : ∀ i σ H, i ≤ xs.length → Pv i σ H → SqL K H a xs)
    (hs : ∀ i x σ H, xs[i]? = some x → Pv i σ H → g x σ H fun σ2 H2 => t ⟨Pv (i + 1), rt, nx, Pv (i + 1)⟩ σ2 H2) (hd : ∀ σ H, Pv xs.length σ H → nx σ H) : ForG (Itl K a) g t ⟨nx, rt, bk, ct⟩ σ H := for_list (K := K) Pv h0 hl hs hd
theorem forT_by {a : Addr} {g : TG} (xs : List V) (Pv : Nat → L2.St → Hp → Prop) (h0 : Pv 0 σ H) (hl : ∀ i σ H, i ≤ xs.length → Pv i σ H → SqT K H a xs)
    (hs : ∀ i x σ H, xs[i]? = some x → Pv i σ H → g x σ H fun σ2 H2 => t ⟨Pv (i + 1), rt, nx, Pv (i + 1)⟩ σ2 H2) (hd : ∀ σ H, Pv xs.length σ H → nx σ H) : ForG (Itt K a) g t ⟨nx, rt, bk, ct⟩ σ H := for_tup (K := K) Pv h0 hl hs hd
theorem forR_by {lo : Int} {n : Nat} {g : TG} (Pv : Nat → L2.St → Hp → Prop) (h0 : Pv 0 σ H)
    (hs : ∀ (i : Nat) σ H, i < n → Pv i σ H → g (.int (lo + i)) σ H fun σ2 H2 => t ⟨Pv (i + 1), rt, nx, Pv (i + 1)⟩ σ2 H2) (hd : ∀ σ H, Pv n σ H → nx σ H) : ForG (Itr lo n) g t ⟨nx, rt, bk, ct⟩ σ H := for_range Pv h0 hs hd
/-- the items one by one -/
theorem forL_ints {a : Addr} {g : TG} (ns : List Int) (Pv : Nat → L2.St → Hp → Prop) (h0 : Pv 0 σ H) (hl : ∀ i σ H, i ≤ ns.length → Pv i σ H → SqL K H a (ns.map V.int))
    (hs : ∀ (i : Nat) (h : i < ns.length) σ H, Pv i σ H → g (.int ns[i]) σ H fun σ2 H2 => t ⟨Pv (i + 1), rt, nx, Pv (i + 1)⟩ σ2 H2) (hd : ∀ σ H, Pv ns.length σ H → nx σ H) : ForG (Itl K a) g t ⟨nx, rt, bk, ct⟩ σ H :=
  forL_by (ns.map V.int) Pv h0 (fun i σ H hi p => hl i σ H (by simpa using hi) p) (fun i x σ H e p => by
    rw [List.getElem?_map] at e
    obtain ⟨z, hz, rfl⟩ := Option.map_eq_some_iff.mp e
    obtain ⟨h, rfl⟩ := List.getElem?_eq_some_iff.mp hz
    exact hs i h σ H p) (fun σ H p => hd σ H (by simpa using p))
theorem rd_while (Pv : L2.St → Hp → Prop) (μ : L2.St → Hp → Nat) (h0 : Pv σ H)
    (hs : ∀ σ H, Pv σ H → tt σ H fun b H1 => if b = true then t ⟨fun σ' H' => Pv σ' H' ∧ μ σ' H' < μ σ H, rt, nx, fun σ' H' => Pv σ' H' ∧ μ σ' H' < μ σ H⟩ σ H1 else nx σ H1)
    (mono : ∀ σ H Q Q', (∀ b H1, Q b H1 → Q' b H1) → tt σ H Q → tt σ H Q') : tWhile tt t ⟨nx, rt, bk, ct⟩ σ H := while_by Pv μ h0 hs mono
/-- a list comprehension -/
def LcG (J : It) (g : TG) (tt : TT) (te : TE) (vs : List Nat) (σ : L2.St) (D : Addr) (Qd : Hp → Prop) (H1 : Hp) : Prop :=
  ∃ W : Nat → Nat → Hp → Prop, (∃ m, W 0 m (upd H1 D (.lst []))) ∧ ∀ i m H, W i m H →
      (J.stop i H ∧ Qd H) ∨ (J.go i H ∧ ∃ Nx : Hp → Prop, (∀ H', Nx H' → ∃ m', m' < m ∧ W (i + 1) m' H') ∧ ∀ x H', J.yld i H x H' → g x (wipe σ vs) H' fun σ2 H2 => wipe σ2 vs = wipe σ vs ∧ tt σ2 H2 fun b H3 =>
        if b = true then te σ2 H3 fun y H4 => ∃ acc, H4 D = some (.lst acc) ∧ acc.length < sizeLine ∧ Nx (upd H4 D (.lst (acc ++ [y]))) else Nx H3)
theorem rd_lc {wi : TI} {g : TG} {vs : List Nat} (h : wi σ H fun J H1 => ∀ D, H1 D = none → LcG J g tt te vs σ D (fun H => Q (.ref D) H) H1) : tLc wi g tt te vs σ H Q := h
theorem lcL_by {a D : Addr} {g : TG} {vs : List Nat} {Qd : Hp → Prop} (xs : List V) (Pv : Nat → Hp → Prop) (h0 : Pv 0 (upd H D (.lst []))) (hl : ∀ i H, i ≤ xs.length → Pv i H → SqL K H a xs)
    (hs : ∀ i x H, xs[i]? = some x → Pv i H → g x (wipe σ vs) H fun σ2 H2 => wipe σ2 vs = wipe σ vs ∧ tt σ2 H2 fun b H3 =>
      if b = true then te σ2 H3 fun y H4 => ∃ acc, H4 D = some (.lst acc) ∧ acc.length < sizeLine ∧ Pv (i + 1) (upd H4 D (.lst (acc ++ [y]))) else Pv (i + 1) H3) (hd : ∀ H, Pv xs.length H → Qd H) : LcG (Itl K a) g tt te vs σ D Qd H := lc_list (K := K) Pv h0 hl hs hd
theorem lcR_by {lo : Int} {n : Nat} {D : Addr} {g : TG} {vs : List Nat} {Qd : Hp → Prop} (Pv : Nat → Hp → Prop) (h0 : Pv 0 (upd H D (.lst [])))
    (hs : ∀ (i : Nat) H, i < n → Pv i H → g (.int (lo + i)) (wipe σ vs) H fun σ2 H2 => wipe σ2 vs = wipe σ vs ∧ tt σ2 H2 fun b H3 =>
      if b = true then te σ2 H3 fun y H4 => ∃ acc, H4 D = some (.lst acc) ∧ acc.length < sizeLine ∧ Pv (i + 1) (upd H4 D (.lst (acc ++ [y]))) else Pv (i + 1) H3) (hd : ∀ H, Pv n H → Qd H) : LcG (Itr lo n) g tt te vs σ D Qd H := lc_range Pv h0 hs hd
theorem lcL_ints {a D : Addr} {g : TG} {vs : List Nat} {Qd : Hp → Prop} (ns : List Int) (Pv : Nat → Hp → Prop) (h0 : Pv 0 (upd H D (.lst []))) (hl : ∀ i H, i ≤ ns.length → Pv i H → SqL K H a (ns.map V.int))
    (hs : ∀ (i : Nat) (h : i < ns.length) H, Pv i H → g (.int ns[i]) (wipe σ vs) H fun σ2 H2 => wipe σ2 vs = wipe σ vs ∧ tt σ2 H2 fun b H3 =>
      if b = true then te σ2 H3 fun y H4 => ∃ acc, H4 D = some (.lst acc) ∧ acc.length < sizeLine ∧ Pv (i + 1) (upd H4 D (.lst (acc ++ [y]))) else Pv (i + 1) H3) (hd : ∀ H, Pv ns.length H → Qd H) : LcG (Itl K a) g tt te vs σ D Qd H :=
  lcL_by (ns.map V.int) Pv h0 (fun i H hi p => hl i H (by simpa using hi) p) (fun i x H e p => by
    rw [List.getElem?_map] at e
    obtain ⟨z, hz, rfl⟩ := Option.map_eq_some_iff.mp e
    obtain ⟨h, rfl⟩ := List.getElem?_eq_some_iff.mp hz
    exact hs i h H p) (fun H p => hd H (by simpa using p))
theorem rd_yes {QB : Bool → Hp → Prop} (h : QB true H) : tYes σ H QB := h
end

/-! ### callables in one piece -/
section
variable {P : Program} {w : World} {K : PySem.W.Frag} {mg : Str → Option Value} {base : Heap} {CX : CXT} {X : Cx} {k j : Nat} {C : Addr} {x m : Str} {sp : Sp} {dvs : List V} {E : XK} {p pos apos : Pos} {e o : Expr} {es : List Expr} {ta : TE} {t : TA}
structure CalX (P : Program) (w : World) (K : PySem.W.Frag) (mg : Str → Option Value) (base : Heap) (CX : CXT) (k : Nat) (x : Str) (sp : Sp) (dvs : List V) : Prop where
  ex : ∃ (f : Addr) (fd : FuncData) (ps : List Str) (ds : List Value), FnOk P w K mg base CX k f fd ps sp ∧ mg x = some (.ref f) ∧ PySem.W.keepIn K (.ref f) = true ∧ Binds K fd ps ds ∧ Vals dvs ds
structure MetX (P : Program) (w : World) (K : PySem.W.Frag) (mg : Str → Option Value) (base : Heap) (CX : CXT) (k : Nat) (C : Addr) (m : Str) (sp : Sp) (dvs : List V) : Prop where
  ex : ∃ (f : Addr) (fd : FuncData) (ps : List Str) (ds : List Value), Cls K C ∧ Meth K C m f ∧ FnOk P w K mg base CX k f fd ps sp ∧ Binds K fd ps ds ∧ Vals dvs ds
structure MakX (P : Program) (w : World) (K : PySem.W.Frag) (mg : Str → Option Value) (base : Heap) (CX : CXT) (k : Nat) (x : Str) (C : Addr) (sp : Sp) (dvs : List V) : Prop where
  ex : ∃ (f : Addr) (fd : FuncData) (ps : List Str) (ds : List Value), Mk K C f ∧ FnOk P w K mg base CX k f fd ps sp ∧ mg x = some (.ref C) ∧ Binds K fd ps ds ∧ Vals dvs ds
theorem pe_cal (c : CalX X.prog X.w X.K X.mg X.base CX k x sp dvs) (hr : Room j X.A) (hk : k ≤ j) (hg : Gl X x) (hx : Passes CX X E) (ha : PA X (e :: es) t)
    (hdb : (x == ("__debug__" : Str)) = false := by decide) (he : starEach (e :: es) X.env = (false, eval e X.env) :: starEach es X.env := by rfl) (hpl : (backTo pos (starEach es X.env)).any (·.1) = false := by rfl) :
    PE X (.Call (.Name x p) (e :: es) [] pos) (tCall sp dvs E t) := by
  obtain ⟨f, fd, ps, ds, F, hm, kp, b, d⟩ := c.ex
  exact pe_call F (hr.mono hk) hg hm kp b d hx ha hdb he hpl
theorem pe_mak (c : MakX X.prog X.w X.K X.mg X.base CX k x C sp dvs) (hr : Room j X.A) (hk : k + 1 ≤ j) (hg : Gl X x) (hx : Passes CX X E) (ha : PA X (e :: es) t)
    (hdb : (x == ("__debug__" : Str)) = false := by decide) (he : starEach (e :: es) X.env = (false, eval e X.env) :: starEach es X.env := by rfl) (hpl : (backTo pos (starEach es X.env)).any (·.1) = false := by rfl) :
    PE X (.Call (.Name x p) (e :: es) [] pos) (tMake C sp dvs E t) := by
  obtain ⟨f, fd, ps, ds, M, F, hm, b, d⟩ := c.ex
  exact pe_make M F (hr.mono hk) hg hm b d hx ha hdb he hpl
theorem pe_met {pl : Sem Bool} (c : MetX X.prog X.w X.K X.mg X.base CX k C m sp dvs) (hr : Room j X.A) (hk : k ≤ j) (hx : Passes CX X E) (he : PE X o ta) (ha : PA X (e :: es) t)
    (hst : starEach (e :: es) X.env = (false, eval e X.env) :: starEach es X.env := by rfl) (hpl : (backTo pos (starEach es X.env)).any (·.1) = false := by rfl)
    (ht : eval (.Call (.Attribute o m apos) (e :: es) [] pos) X.env = (do
      let ov ← eval o X.env
      standAt apos.atName
      let (f, first) ← holding [ov] (getMethod ov m pl)
      callWith pos f first (backTo pos (starEach (e :: es) X.env)) (backToKw pos (keywordEach [] X.env))) := by rfl) :
    PE X (.Call (.Attribute o m apos) (e :: es) [] pos) (tMeth C m sp dvs E ta t) := by
  obtain ⟨f, fd, ps, ds, cl, me, F, b, d⟩ := c.ex
  exact pe_meth he cl me F (hr.mono hk) b d hx ha hst hpl ht
end

/-! ### a def's promise by its body -/
section
variable {P : Program} {w : World} {K : PySem.W.Frag} {mg : Str → Option Value} {base : Heap} {CX : CXT} {x qual : Str} {params : Arguments} {body : List Stmt} {scope : Scope} {dvs : List V} {kws : List (Str × V)} {f : Addr} {fd : FuncData}
theorem fnD {N ps : List Str} {k : Nat} {sp : Sp} (F : FunD K x qual params body scope dvs kws f fd) (S : FnScope N ps scope) (len : ∀ vs H Q E, sp vs H Q E → vs.length = ps.length)
    (hbody : ∀ (cdv : Value) (A : Around) (outer : List Env) (s : Shared) (H : Hp) (vs : List V) (Q : VK) (E : XK), Room k (A.deeper (envOfC qual scope s.heap.objs.size f cdv)) → sp vs H Q E →
      ∃ t, PSs (cxOf CX0 P w K mg base N qual scope f cdv A outer s H E).nox body t ∧ t ⟨fun _ H' => Q .non H', Q, fun _ _ => False, fun _ _ => False⟩ (start N vs) H) : FnOk P w K mg base CX0 (k + 1) f fd ps sp :=
  F.ok S len fun cdv A outer s H vs Q E hr h => let ⟨t, h1, h2⟩ := hbody cdv A outer s H vs Q E hr h; ⟨t, h1.nox, h2⟩
end

/-! ### the head: facts of a top, one Bool more -/
abbrev AlM : Type := AlD × Bool
def obsM (n : Nat) (fa : List Fa) (fn : List DefD) (ex : PySem.W.Frag → Bool) (g : Addr → Option Obj) : AlM := (obsD fa fn (frG g (asD g n)), ex (frG g (asD g n)))
def hookM (n : Nat) (fa : List Fa) (fn : List DefD) (ex : PySem.W.Frag → Bool) : PySem.W.Hook where
  α := AlM
  obs := fun s => obsM n fa fn ex s.heap.get?
  val := fun _ => (valD fn, true)
  says := fun _ h => ∃ K : PySem.W.Frag, K.In h ∧ SaysD fa fn K ∧ ex K = true
  of := fun _ _ e => ⟨_, frG_in, congrArg (fun z : AlM => z.1) e, congrArg (fun z : AlM => z.2) e⟩
  keeps := fun _ _ _ ⟨K, hK, c, d⟩ k => ⟨K, PySem.W.Frag.In.keeps hK k, c, d⟩
theorem obsM_eq {n : Nat} {fa : List Fa} {fn : List DefD} {ex : PySem.W.Frag → Bool} {g : Addr → Option Obj} {s : Shared} (h : ∀ a, g a = s.heap.get? a) : obsM n fa fn ex g = (hookM n fa fn ex).obs s := by
  have e : g = s.heap.get? := funext h
  rw [e] <;> rfl
/-- what the defs lean on -/
structure Ctx (fa : List Fa) (fn : List DefD) (ex : PySem.W.Frag → Bool) (K : PySem.W.Frag) (mg : Str → Option Value) : Prop where
  says : SaysD fa fn K
  ex : ex K = true
  at_ : ∃ h, K.In h ∧ h.Ns mainGlobals mg
section
variable {fa : List Fa} {fn : List DefD} {ex : PySem.W.Frag → Bool} {K : PySem.W.Frag} {mg : Str → Option Value}
theorem Ctx.glo (T : Ctx fa fn ex K mg) (i : Nat) {x : Str} (h : fa[i]? = some (.glo x) := by rfl) : mg x = some (.ref (ga K x)) := let ⟨_, X, G⟩ := T.at_; glo_ok X G (T.says.fact i h)
theorem Ctx.fre (T : Ctx fa fn ex K mg) (i : Nat) {x : Str} (h : fa[i]? = some (.free x) := by rfl) : mg x = none := let ⟨_, X, G⟩ := T.at_; free_ok X G (T.says.fact i h)
theorem Ctx.cls (T : Ctx fa fn ex K mg) (i : Nat) {x : Str} (h : fa[i]? = some (.cls x) := by rfl) : Cls K (ga K x) := cls_ok (T.says.fact i h)
theorem Ctx.noat (T : Ctx fa fn ex K mg) (i : Nat) {x f : Str} (h : fa[i]? = some (.noat x f) := by rfl) : NoAttr K (ga K x) f := noat_ok (T.says.fact i h)
theorem Ctx.meth (T : Ctx fa fn ex K mg) (i : Nat) {x m : Str} (h : fa[i]? = some (.meth x m) := by rfl) : Meth K (ga K x) m (ma K (ga K x) m) := meth_ok (T.says.fact i h)
theorem Ctx.mkr (T : Ctx fa fn ex K mg) (i : Nat) {x : Str} (h : fa[i]? = some (.mkr x) := by rfl) : Mk K (ga K x) (ma K (ga K x) "__init__") := mkr_ok (T.says.fact i h)
theorem Ctx.int (T : Ctx fa fn ex K mg) (i : Nat) {x : Str} {z : Int} (h : fa[i]? = some (.int x z) := by rfl) : ∃ t, mg x = some (.int z t) := let ⟨_, X, G⟩ := T.at_; int_ok X G (T.says.fact i h)
theorem Ctx.str (T : Ctx fa fn ex K mg) (i : Nat) {x z : Str} (h : fa[i]? = some (.str x z) := by rfl) : ∃ t, mg x = some (.str z t) := let ⟨_, X, G⟩ := T.at_; str_ok X G (T.says.fact i h)
end
theorem pe_globC {X : Cx} {x : Str} {v : V} {pos : Pos} (hg : Gl X x) (h : ∃ u, X.mg x = some u ∧ RelV v u) (hd : (x == ("__debug__" : Str)) = false := by decide) : PE X (.Name x pos) (tC v) := let ⟨_, hm, r⟩ := h; pe_glob hg hm r hd

/-! ### small facts -/
theorem ite_d {p A B : Prop} [Decidable p] (h1 : p → A) (h2 : ¬ p → B) : if decide p = true then A else B := by
  by_cases h : p
  · rw [decide_eq_true h, if_pos rfl]
    exact h1 h
  · rw [decide_eq_false h, if_neg Bool.false_ne_true]
    exact h2 h
theorem ite_n {p A B : Prop} [Decidable p] (h1 : ¬ p → A) (h2 : p → B) : if (!decide p) = true then A else B := by
  by_cases h : p
  · rw [decide_eq_true h]
    exact iteF (h2 h)
  · rw [decide_eq_false h]
    exact iteT (h1 h)
theorem ite_b {b : Bool} {A B : Prop} (h1 : b = true → A) (h2 : b = false → B) : if b = true then A else B := by
  cases b
  · exact iteF (h2 rfl)
  · exact iteT (h1 rfl)
theorem ite_t {b : Bool} {A B : Prop} (e : b = true) (h : A) : if b = true then A else B := by
  subst e
  exact iteT h
theorem ite_f {b : Bool} {A B : Prop} (e : b = false) (h : B) : if b = true then A else B := by
  subst e
  exact iteF h
theorem atI_ints {ns : List Int} {i : Int} (h0 : 0 ≤ i) (h1 : i < ns.length) : atI (ns.map V.int) i = some (.int (ns.getD i.toNat 0)) := by
  obtain ⟨j, rfl⟩ := Int.eq_ofNat_of_zero_le h0
  refine atI_nat ?_
  have hj : j < ns.length := by omega
  rw [List.getElem?_map, List.getElem?_eq_getElem hj]
  simp [hj]
theorem take_map_succ {ns : List Int} {i : Nat} (h : i < ns.length) : (ns.take i).map V.int ++ [V.int ns[i]] = (ns.take (i + 1)).map V.int := by
  rw [List.take_succ_eq_append_getElem h, List.map_append]
  rfl
theorem sz1000 {n : Nat} (h : n ≤ 1000000) : n ≤ sizeLine := Nat.le_trans h (by decide)
theorem szlt {n : Nat} (h : n < 1000000) : n < sizeLine := Nat.lt_of_lt_of_le h (by decide)

/-! ### more readings -/
section
variable {K : PySem.W.Frag} {σ : L2.St} {H : Hp} {nx bk ct : L2.St → Hp → Prop} {rt : VK} {te ta tb tc : TE} {ar : TA} {Q : VK} {QB : Bool → Hp → Prop} {v x y z : V} {i j : Int}
theorem rd_sfld {f : Str} (h : tb σ H fun y H1 => ta σ H1 fun x H2 => ∃ a C dx fs, x = V.ref a ∧ H2 a = some (.ins C dx fs) ∧ Cls K C ∧ NoAttr K C f ∧ fs.length < 1000 ∧ nx σ (upd H2 a (.ins C dx (putF f y fs)))) : sFld K ta tb f ⟨nx, rt, bk, ct⟩ σ H := h
theorem rd_sfldX {f : Str} {a C dx : Addr} {fs : List (Str × V)} {R : Addr → Addr → Addr → List (Str × V) → Prop} (h : H a = some (.ins C dx fs)) (c : Cls K C) (n : NoAttr K C f) (l : fs.length < 1000) (q : R a C dx fs) :
    ∃ a' C' dx' fs', V.ref a = V.ref a' ∧ H a' = some (.ins C' dx' fs') ∧ Cls K C' ∧ NoAttr K C' f ∧ fs'.length < 1000 ∧ R a' C' dx' fs' := ⟨a, C, dx, fs, rfl, h, c, n, l, q⟩
theorem rd_tfld {f : Str} (h : ta σ H fun x H1 => ∃ a C dx fs v, x = V.ref a ∧ H1 a = some (.ins C dx fs) ∧ Cls K C ∧ NoAttr K C f ∧ fs.lookup f = some v ∧ Q v H1) : tFld K ta f σ H Q := h
theorem rd_fldX {f : Str} {a C dx : Addr} {fs : List (Str × V)} {R : V → Prop} (h : H a = some (.ins C dx fs)) (c : Cls K C) (n : NoAttr K C f) (l : fs.lookup f = some v) (q : R v) :
    ∃ a' C' dx' fs' v', V.ref a = V.ref a' ∧ H a' = some (.ins C' dx' fs') ∧ Cls K C' ∧ NoAttr K C' f ∧ fs'.lookup f = some v' ∧ R v' := ⟨a, C, dx, fs, v, rfl, h, c, n, l, q⟩
theorem rd_tcon {f : Str} (h : ta σ H fun x H1 => ∃ a C dx fs v u, x = V.ref a ∧ H1 a = some (.ins C dx fs) ∧ Cls K C ∧ Con K C f v u ∧ fs.lookup f = none ∧ Q v H1) : tCon K ta f σ H Q := h
theorem rd_conX {f : Str} {a C dx : Addr} {fs : List (Str × V)} {R : V → Prop} (h : H a = some (.ins C dx fs)) (c : Cls K C) (n : ∃ u, Con K C f v u) (l : fs.lookup f = none) (q : R v) :
    ∃ a' C' dx' fs' v' u, V.ref a = V.ref a' ∧ H a' = some (.ins C' dx' fs') ∧ Cls K C' ∧ Con K C' f v' u ∧ fs'.lookup f = none ∧ R v' := let ⟨u, n⟩ := n; ⟨a, C, dx, fs, v, u, rfl, h, c, n, l, q⟩
/-! isinstance -/
theorem rd_isi_ii (h : Q (.bl true) H) : rIsi K [.int i, .ty "int"] H Q := rd_isi (.base (.int i)) (by decide +kernel) h
theorem rd_isi_ib (h : Q (.bl false) H) : rIsi K [.int i, .ty "bool"] H Q := rd_isi (.base (.int i)) (by decide +kernel) h
theorem rd_isi_bb {b : Bool} (h : Q (.bl true) H) : rIsi K [.bl b, .ty "bool"] H Q := rd_isi (.base (.bl b)) (by decide +kernel) h
theorem rd_isi_bi {b : Bool} (h : Q (.bl true) H) : rIsi K [.bl b, .ty "int"] H Q := rd_isi (.base (.bl b)) (by decide +kernel) h
theorem rd_isi_ss {b : Str} (h : Q (.bl true) H) : rIsi K [.str b, .ty "str"] H Q := rd_isi (.base (.str b)) (by decide +kernel) h
theorem rd_isi_ll {a : Addr} {xs : List V} (e : H a = some (.lst xs)) (h : Q (.bl true) H) : rIsi K [.ref a, .ty "list"] H Q := rd_isi (.base (.lst e)) (by decide +kernel) h
theorem rd_isi_tt {a : Addr} {xs : List V} (e : H a = some (.tup xs)) (h : Q (.bl true) H) : rIsi K [.ref a, .ty "tuple"] H Q := rd_isi (.base (.tup e)) (by decide +kernel) h
/-! known tests -/
section
variable {A B : Prop}
theorem ite_nt (h : B) : if (!true) = true then A else B := iteF h
theorem ite_nf (h : A) : if (!false) = true then A else B := iteT h
theorem ite_in (h : B) : if decide (V.int i = V.non) = true then A else B := iteF h
theorem ite_rn {a : Addr} (h : B) : if decide (V.ref a = V.non) = true then A else B := iteF h
theorem ite_sn {a : Str} (h : B) : if decide (V.str a = V.non) = true then A else B := iteF h
theorem ite_bn {a : Bool} (h : B) : if decide (V.bl a = V.non) = true then A else B := by
  cases a <;> exact iteF h
theorem ite_nn (h : A) : if decide (V.non = V.non) = true then A else B := iteT h
theorem ite_xin (h : A) : if (!decide (V.int i = V.non)) = true then A else B := iteT h
theorem ite_xrn {a : Addr} (h : A) : if (!decide (V.ref a = V.non)) = true then A else B := iteT h
theorem ite_xnn (h : B) : if (!decide (V.non = V.non)) = true then A else B := iteF h
end
/-! dicts with tuple keys -/
theorem rd_dnewT (h : ∀ p, H p = none → Q (.ref p) (upd H p (.dT []))) : tDNewT σ H Q := h
theorem rd_dnewK (h : ∀ p, H p = none → Q (.ref p) (upd H p (.dK []))) : tDNewK σ H Q := h
theorem rd_dget2 (h : ta σ H fun x H1 => ∃ a, x = V.ref a ∧ IsD H1 a ∧ tb σ H1 fun y H2 => tc σ H2 fun z H3 => ∃ o, DGet H3 a y o ∧ Q (o.getD z) H3) : tDGet2 ta tb tc σ H Q := h
theorem rd_isdX {a : Addr} {R : Addr → Prop} (d : IsD H a) (q : R a) : ∃ a', V.ref a = V.ref a' ∧ IsD H a' ∧ R a' := ⟨a, rfl, d, q⟩
theorem isD_T {a : Addr} {kvs : List (List Key × V)} (e : H a = some (.dT kvs)) : IsD H a := .inr ⟨kvs, .inl e⟩
theorem isD_K {a : Addr} {kvs : List (Key × V)} (e : H a = some (.dK kvs)) : IsD H a := .inl ⟨kvs, .inl e⟩
theorem rd_dgX {a : Addr} {o : Option V} {R : Option V → Prop} (d : DGet H a y o) (q : R o) : ∃ o', DGet H a y o' ∧ R o' := ⟨o, d, q⟩
theorem dg_is {a b : Addr} {kvs : List (List Key × V)} {s : Int} {z : Str} (e : H a = some (.dT kvs)) (eb : H b = some (.tup [.int s, .str z])) : DGet H a (.ref b) (valV kvs [.inl s, .inr z]) := DGet.t (k := [.inl s, .inr z]) e eb
theorem rd_sdput (h : tc σ H fun v H1 => ta σ H1 fun x H2 => tb σ H2 fun y H3 => ∃ a H4, x = V.ref a ∧ DPut H3 a y v H4 ∧ nx σ H4) : sDPut ta tb tc ⟨nx, rt, bk, ct⟩ σ H := h
theorem rd_dpX {a : Addr} {H' : Hp} {R : Hp → Prop} (d : DPut H a y v H') (q : R H') : ∃ a' H4, V.ref a = V.ref a' ∧ DPut H a' y v H4 ∧ R H4 := ⟨a, H', rfl, d, q⟩
theorem dp_is {a b : Addr} {kvs : List (List Key × V)} {s : Int} {z : Str} (e : H a = some (.dT kvs)) (eb : H b = some (.tup [.int s, .str z])) (l : kvs.length < sizeLine) : DPut H a (.ref b) v (upd H a (.dT (putK kvs [.inl s, .inr z] v))) := DPut.t (k := [.inl s, .inr z]) e eb l
theorem ty_d {a : Addr} {kvs : List (List Key × V)} {B : Prop} (h : H a = some (.dT kvs)) (q : B) : tyV K "dict" (.ref a) H ∧ B := ⟨.inr (.inr (.inl ⟨rfl, .inr ⟨kvs, h⟩⟩)), q⟩
theorem ty_dK {a : Addr} {kvs : List (Key × V)} {B : Prop} (h : H a = some (.dK kvs)) (q : B) : tyV K "dict" (.ref a) H ∧ B := ⟨.inr (.inr (.inl ⟨rfl, .inl ⟨kvs, h⟩⟩)), q⟩
theorem rd_popT {a b : Addr} {kvs : List (List Key × V)} {s : Int} {t : Str} (e : H a = some (.dT kvs)) (eb : H b = some (.tup [.int s, .str t])) (q1 : ∀ v, valV kvs [.inl s, .inr t] = some v → Q v (upd H a (.dT (dropK kvs [.inl s, .inr t])))) (q2 : valV kvs [.inl s, .inr t] = none → Q x H) :
    DX.rPopT (.ref a) [.ref b, x] H Q := ⟨a, kvs, [.inl s, .inr t], b, x, rfl, rfl, e, eb, q1, q2⟩
theorem valV_drop {κ : Type} [DecidableEq κ] (k j : κ) : ∀ kvs : List (κ × V), valV (dropK kvs k) j = if j = k then none else valV kvs j
  | [] => by
    by_cases h : j = k
    · rw [if_pos h]
      rfl
    · rw [if_neg h]
      rfl
  | p :: r => by
    have ih := valV_drop k j r
    by_cases e : p.1 = k
    · rw [dropK_pos e, ih]
      by_cases h : j = k
      · rw [if_pos h, if_pos h]
      · rw [if_neg h, if_neg h, valV_neg (fun z => h (z.symm.trans e))]
    · rw [dropK_neg e]
      by_cases h : p.1 = j
      · rw [valV_pos h, if_neg (fun z => e (h.trans z)), valV_pos h]
      · rw [valV_neg h, ih, valV_neg h]
theorem putK_le {κ : Type} [DecidableEq κ] (kvs : List (κ × V)) (k : κ) (v : V) : (putK kvs k v).length ≤ kvs.length + 1 := by
  unfold putK
  split
  · rw [List.length_map]
    omega
  · rw [List.length_append]
    exact Nat.le_refl _
theorem rd_cat {a b : Addr} {xs ys : List V} (h1 : H a = some (.lst xs)) (h2 : H b = some (.lst ys)) (l : xs.length + ys.length ≤ sizeLine) (q : ∀ p, H p = none → Q (.ref p) (upd H p (.lst (xs ++ ys)))) : rCat (.ref a) (.ref b) H Q := ⟨a, b, xs, ys, rfl, rfl, h1, h2, l, q⟩
/-! list(range(..)) -/
theorem rd_lstRg {t : L2.St → Hp → (Int → Int → Hp → Prop) → Prop} (h : t σ H fun a b H1 => RgOk a b ∧ ∀ q, H1 q = none → Q (.ref q) (upd H1 q (.lst (rgV a b)))) : tLstRg t σ H Q := h
theorem rd_rg1 {R : Int → Int → Hp → Prop} (h : ta σ H fun x H1 => ∃ n, x = V.int n ∧ R 0 n H1) : tRg1 ta σ H R := h
theorem rd_rg2 {R : Int → Int → Hp → Prop} (h : ta σ H fun x H1 => tb σ H1 fun y H2 => ∃ i j, x = V.int i ∧ y = V.int j ∧ R i j H2) : tRg2 ta tb σ H R := h
theorem rd_inX {R : Int → Prop} (h : R i) : ∃ n, V.int i = V.int n ∧ R n := ⟨i, rfl, h⟩
theorem rd_inX2 {R : Int → Int → Prop} (h : R i j) : ∃ n m, V.int i = V.int n ∧ V.int j = V.int m ∧ R n m := ⟨i, j, rfl, rfl, h⟩
theorem rgV_0 (n : Int) : rgV 0 n = ((List.range n.toNat).map fun (i : Nat) => (i : Int)).map V.int := by
  unfold rgV
  rw [List.map_map, Int.sub_zero]
  congr 1
  funext i
  show V.int (0 + (i : Int)) = V.int (i : Int)
  rw [Int.zero_add]
end

/-! ### dicts with int and text keys, slices, more -/
section
variable {K : PySem.W.Frag} {σ : L2.St} {H : Hp} {nx bk ct : L2.St → Hp → Prop} {rt : VK} {t : TS} {te ta tb tc : TE} {tt : TT} {ar : TA} {Q : VK} {QB : Bool → Hp → Prop} {v x y z : V} {i j : Int}
theorem rd_din (h : ta σ H fun y H1 => tb σ H1 fun x H2 => ∃ a o, x = V.ref a ∧ DGet H2 a y o ∧ Q (.bl o.isSome) H2) : tDIn ta tb σ H Q := h
theorem rd_dnotin (h : ta σ H fun y H1 => tb σ H1 fun x H2 => ∃ a o, x = V.ref a ∧ DGet H2 a y o ∧ Q (.bl (!o.isSome)) H2) : tDNotIn ta tb σ H Q := h
theorem rd_dget (h : ta σ H fun x H1 => tb σ H1 fun y H2 => ∃ a v, x = V.ref a ∧ DGet H2 a y (some v) ∧ Q v H2) : tDGet ta tb σ H Q := h
theorem rd_dget1 (h : ta σ H fun x H1 => ∃ a, x = V.ref a ∧ IsD H1 a ∧ tb σ H1 fun y H2 => ∃ o, DGet H2 a y o ∧ Q (o.getD .non) H2) : tDGet1 ta tb σ H Q := h
theorem rd_dinX {a : Addr} {o : Option V} {R : Option V → Prop} (d : DGet H a y o) (q : R o) : ∃ a' o', V.ref a = V.ref a' ∧ DGet H a' y o' ∧ R o' := ⟨a, o, rfl, d, q⟩
theorem rd_dgetX {a : Addr} {R : V → Prop} (d : DGet H a y (some v)) (q : R v) : ∃ a' v', V.ref a = V.ref a' ∧ DGet H a' y (some v') ∧ R v' := ⟨a, v, rfl, d, q⟩
theorem dg_i {a : Addr} {kvs : List (Key × V)} (e : H a = some (.dK kvs)) : DGet H a (.int i) (valV kvs (.inl i)) := DGet.k (k := .inl i) e
theorem dg_s {a : Addr} {kvs : List (Key × V)} {s : Str} (e : H a = some (.dK kvs)) : DGet H a (.str s) (valV kvs (.inr s)) := DGet.k (k := .inr s) e
theorem dg_iv {a : Addr} {kvs : List (Key × V)} (e : H a = some (.dK kvs)) (l : valV kvs (.inl i) = some v) : DGet H a (.int i) (some v) := l ▸ dg_i e
theorem dg_sv {a : Addr} {kvs : List (Key × V)} {s : Str} (e : H a = some (.dK kvs)) (l : valV kvs (.inr s) = some v) : DGet H a (.str s) (some v) := l ▸ dg_s e
theorem dp_i {a : Addr} {kvs : List (Key × V)} (e : H a = some (.dK kvs)) (l : kvs.length < sizeLine) : DPut H a (.int i) v (upd H a (.dK (putK kvs (.inl i) v))) := DPut.k (k := .inl i) e l
theorem dp_s {a : Addr} {kvs : List (Key × V)} {s : Str} (e : H a = some (.dK kvs)) (l : kvs.length < sizeLine) : DPut H a (.str s) v (upd H a (.dK (putK kvs (.inr s) v))) := DPut.k (k := .inr s) e l
theorem rd_disp {trs : List (TE × TE)} (h : ∀ p, H p = none → tPairs trs σ (upd H p (.dK [])) fun ps H2 => H2 p = some (.dK []) ∧ ∃ kvs : List (Key × V), ps = kvs.map (fun kv => (kV kv.1, kv.2)) ∧ kvs.length ≤ 15 ∧ Q (.ref p) (upd H2 p (.dK (mergeK [] kvs)))) : tDisp trs σ H Q := h
theorem rd_pnil {R : List (V × V) → Hp → Prop} (h : R [] H) : tPairs [] σ H R := h
theorem rd_pcons {trs : List (TE × TE)} {R : List (V × V) → Hp → Prop} (h : ta σ H fun x H1 => tb σ H1 fun y H2 => tPairs trs σ H2 fun ps H3 => R ((x, y) :: ps) H3) : tPairs ((ta, tb) :: trs) σ H R := h
theorem rd_sl {r : V → Option Int → Option Int → Hp → VK → Prop} {tl th : TO} (h : te σ H fun x H1 => tl σ H1 fun l H2 => th σ H2 fun u H3 => r x l u H3 Q) : tSl r te tl th σ H Q := h
theorem rd_part {R : Option Int → Hp → Prop} (h : te σ H fun x H1 => ∃ i, x = V.int i ∧ R (some i) H1) : tPart te σ H R := h
theorem rd_nopart {R : Option Int → Hp → Prop} (h : R none H) : tNoPart σ H R := h
theorem rd_slL {a : Addr} {xs : List V} {lo hi : Option Int} (h : SqL K H a xs) (q : ∀ p, H p = none → Q (.ref p) (upd H p (.lst (cutV xs lo hi)))) : rSlL K (.ref a) lo hi H Q := ⟨a, xs, rfl, h, q⟩
theorem cut_to {xs : List V} {k : Nat} : cutV xs none (some (k : Int)) = xs.take k := by
  unfold cutV
  rw [HT.sIx_none, HT.sIx_nat, List.drop_zero, Nat.sub_zero, List.take_eq_take_iff]
  omega
theorem cut_from {xs : List V} {k : Nat} : cutV xs (some (k : Int)) none = xs.drop k := by
  unfold cutV
  rw [HT.sIx_none, HT.sIx_nat]
  by_cases h : k ≤ xs.length
  · rw [Nat.min_eq_left h, List.take_of_length_le (by rw [List.length_drop]; exact Nat.le_refl _)]
  · rw [Nat.min_eq_right (by omega), Nat.sub_self, List.take_zero, List.drop_of_length_le (by omega)]
theorem cut_all {xs : List V} : cutV xs none none = xs := by
  unfold cutV
  rw [HT.sIx_none, HT.sIx_none, List.drop_zero, Nat.sub_zero, List.take_length]
theorem rd_popAt {a : Addr} {xs : List V} {k : Nat} (h : H a = some (.lst xs)) (b1 : -(2 ^ 63) ≤ i) (b2 : i < 2 ^ 63) (s : seqIndex? i xs.length = some k) (g : xs[k]? = some v) (q : Q v (upd H a (.lst (xs.eraseIdx k)))) : rPopAt (.ref a) [.int i] H Q := ⟨a, xs, i, k, v, rfl, rfl, h, b1, b2, s, g, q⟩
theorem rd_clear {a : Addr} {xs : List V} (h : H a = some (.lst xs)) (q : Q .non (upd H a (.lst []))) : rClear (.ref a) [] H Q := ⟨a, xs, rfl, rfl, h, q⟩
theorem rd_aug {n : Nat} {ti : TIp} (e : σ[n]? = some (some x)) (h : te σ H fun y H1 => ti x y H1 fun z H2 => nx (σ.set n (some z)) H2) : tAug n te ti ⟨nx, rt, bk, ct⟩ σ H := ⟨x, e, h⟩
theorem rd_ipI {f : Int → Int → Int} (h : Q (.int (f i j)) H) : ipI f (.int i) (.int j) H Q := ⟨i, j, rfl, rfl, h⟩
theorem rd_whileM (W : Nat → L2.St → Hp → Prop) (m : Nat) (h0 : W m σ H)
    (hs : ∀ m σ H, W m σ H → tt σ H fun b H1 => if b = true then ∃ N : L2.St → Hp → Prop, (∀ σ' H', N σ' H' → ∃ m', m' < m ∧ W m' σ' H') ∧ t ⟨N, rt, nx, N⟩ σ H1 else nx σ H1) : tWhile tt t ⟨nx, rt, bk, ct⟩ σ H := ⟨W, ⟨m, h0⟩, hs⟩
theorem inV_ints (a : Int) : ∀ ns : List Int, inV (.int a) (ns.map V.int) = decide (a ∈ ns)
  | [] => rfl
  | b :: r => by
    have ih := inV_ints a r
    unfold inV at ih ⊢
    rw [List.map_cons, List.any_cons, ih]
    show ((b == a) || decide (a ∈ r)) = decide (a ∈ b :: r)
    by_cases h : b = a
    · subst h
      simp
    · have h2 : (b == a) = false := beq_eq_false_iff_ne.mpr h
      rw [h2, Bool.false_or]
      simp [List.mem_cons, Ne.symm h]
theorem flat_ints : ∀ ns : List Int, (ns.map V.int).all flatV = true
  | [] => rfl
  | _ :: r => by
    rw [List.map_cons, List.all_cons, flat_ints r]
    rfl
theorem rd_inI {p : Addr} {ns : List Int} (h : SqL K H p (ns.map V.int)) (q : Q (.bl (decide (i ∈ ns))) H) : rIn K false (.int i) (.ref p) H Q := ⟨p, ns.map V.int, rfl, .inl h, rfl, flat_ints ns, by
  rw [inV_ints]
  exact q⟩
theorem rd_notInI {p : Addr} {ns : List Int} (h : SqL K H p (ns.map V.int)) (q : Q (.bl (!decide (i ∈ ns))) H) : rIn K true (.int i) (.ref p) H Q := ⟨p, ns.map V.int, rfl, .inl h, rfl, flat_ints ns, by
  rw [inV_ints]
  exact q⟩
def rLenD : List V → Hp → VK → Prop := fun xs H Q => ∃ a kvs, xs = [V.ref a] ∧ H a = some (.dK kvs) ∧ Q (.int kvs.length) H
theorem call_lenD' {X : Cx} : CallR X (.builtin "len") rLenD := call_lenD
theorem rd_lenD {a : Addr} {kvs : List (Key × V)} (h : H a = some (.dK kvs)) (q : Q (.int kvs.length) H) : rLenD [.ref a] H Q := ⟨a, kvs, rfl, h, q⟩
/-! enumerate -/
theorem rd_iEnum {R : It → Hp → Prop} (h : ar σ H fun vs H1 => ∃ a xs, vs = [V.ref a] ∧ SqL K H1 a xs ∧ R (Ite K a) H1) : iEnum K ar σ H R := h
theorem rd_iEnumX {p : Addr} {xs : List V} {R : Addr → Prop} (h : SqL K H p xs) (q : R p) : ∃ a xs, [V.ref p] = [V.ref a] ∧ SqL K H a xs ∧ R a := ⟨p, xs, rfl, h, q⟩
theorem forE_by {a : Addr} {g : TG} (xs : List V) (Pv : Nat → L2.St → Hp → Prop) (h0 : Pv 0 σ H) (hl : ∀ i σ H, i ≤ xs.length → Pv i σ H → SqL K H a xs)
    (hs : ∀ i x σ H T, xs[i]? = some x → Pv i σ H → H T = none → g (.ref T) σ (upd H T (.tup [.int (i : Nat), x])) fun σ2 H2 => t ⟨Pv (i + 1), rt, nx, Pv (i + 1)⟩ σ2 H2) (hd : ∀ σ H, Pv xs.length σ H → nx σ H) : ForG (Ite K a) g t ⟨nx, rt, bk, ct⟩ σ H := by
  refine ⟨fun i m σ H => m = xs.length - i ∧ i ≤ xs.length ∧ Pv i σ H, ⟨xs.length, by simp, Nat.zero_le _, h0⟩, ?_⟩
  rintro i m σ H ⟨rfl, hi, p⟩
  have q := hl i σ H hi p
  by_cases hlt : i < xs.length
  · refine .inr ⟨⟨xs, xs[i], q, by simp [hlt]⟩, Pv (i + 1), fun σ' H' p' => ⟨xs.length - (i + 1), by omega, rfl, hlt, p'⟩, fun x H' y => ?_⟩
    obtain ⟨T, z, rfl, nT, rfl, hz⟩ := y
    exact hs i z σ H T (hz xs q) p nT
  · have e : i = xs.length := by omega
    subst e
    exact .inl ⟨⟨xs, q, Nat.le_refl _⟩, hd σ H p⟩
/-! == of equal data, of int lists -/
theorem dp_ints : ∀ ns : List Int, DpAll K H (ns.map V.int) (ns.map PyData.int)
  | [] => .nil
  | x :: r => .cons (.int x) (dp_ints r)
theorem lay_ints : ∀ ns : List Int, PyData.canLayAll0 (ns.map PyData.int) = true
  | [] => by simp only [List.map_nil, PyData.canLayAll0]
  | x :: r => by simp only [List.map_cons, PyData.canLayAll0, PyData.canLay0, lay_ints r, Bool.and_self]
theorem depth_ints : ∀ ns : List Int, PyData.depthAll (ns.map PyData.int) ≤ 1
  | [] => by simp [PyData.depthAll]
  | x :: r => by
    have := depth_ints r
    simp only [List.map_cons, PyData.depthAll, PyData.depth]
    omega
theorem shaped_ints (ns : List Int) : SeqAt.shaped (.list (ns.map PyData.int)) = true :=
  Bool.and_eq_true_iff.mpr ⟨by simp only [PyData.canLay0, lay_ints], decide_eq_true (by
    have h := depth_ints ns
    simp only [PyData.depth]
    omega)⟩
theorem eqv_ints : ∀ ns ms : List Int, PyData.eqvAll (ns.map PyData.int) (ms.map PyData.int) = decide (ns = ms)
  | [], [] => by simp [PyData.eqvAll]
  | [], y :: m => by simp [PyData.eqvAll]
  | x :: r, [] => by simp [PyData.eqvAll]
  | x :: r, y :: m => by
    have ih := eqv_ints r m
    simp only [List.map_cons, PyData.eqvAll, PyData.eqv, ih]
    by_cases h : x = y
    · subst h
      simp
    · simp [h]
theorem rd_eqLI {p q : Addr} {ns ms : List Int} (h1 : SqL K H p (ns.map V.int)) (h2 : SqL K H q (ms.map V.int)) (k : Q (.bl (decide (ns = ms))) H) : rEqD K (.ref p) (.ref q) H Q :=
  ⟨.list (ns.map PyData.int), .list (ms.map PyData.int), .lst h1 (dp_ints ns), .lst h2 (dp_ints ms), shaped_ints ns, shaped_ints ms, by
    simp only [PyData.eqv, eqv_ints]
    exact k⟩
theorem rd_neLI {p q : Addr} {ns ms : List Int} (h1 : SqL K H p (ns.map V.int)) (h2 : SqL K H q (ms.map V.int)) (k : Q (.bl (!decide (ns = ms))) H) : rNeD K (.ref p) (.ref q) H Q :=
  ⟨.list (ns.map PyData.int), .list (ms.map PyData.int), .lst h1 (dp_ints ns), .lst h2 (dp_ints ms), shaped_ints ns, shaped_ints ms, by
    simp only [PyData.eqv, eqv_ints]
    exact k⟩
end

/-! ### the same rules with the written part named (within comprehensions) -/
section
variable {X : L2.Cx} {K : PySem.W.Frag}
theorem call_listOfK (h : X.K = K) : CallR X (.type "list") (rListOf K) := h ▸ call_listOf
theorem call_lenSK (h : X.K = K) : CallR X (.builtin "len") (rLenS K) := h ▸ call_lenS
theorem ix_listK (h : X.K = K) : IxR X (rIxL K) := h ▸ ix_list
theorem ix_tupK (h : X.K = K) : IxR X (rIxT K) := h ▸ ix_tup
theorem op_in_seqK (h : X.K = K) : OpR X (compareOp .In) (rIn K false) := h ▸ op_in_seq
theorem op_notIn_seqK (h : X.K = K) : OpR X (compareOp .NotIn) (rIn K true) := h ▸ op_notIn_seq
theorem call_isiK2 (h : X.K = K) : CallR X (.builtin "isinstance") (rIsi K) := h ▸ call_isi
theorem pe_fldK {e : Expr} {f : Str} {pos : Pos} {ta : TE} (h : X.K = K) (he : PE X e ta) (hb : attributeBase e f X.env (eval e X.env) = eval e X.env) : PE X (.Attribute e f pos) (tFld K ta f) := h ▸ pe_fld he hb
end
end RD

/-! own layer: sorted(xs, key=f) where f's calls keep the invariant (behind RD) -/
namespace RD
open PySem PySem.Spec PyProof.Rows L2 PySem.W
section
variable {X : Cx} {pins pf : List (Addr × Obj)} {σ : L2.St} {H : Hp} {s : Shared}
/-- what a key's call does -/
def KeyTurn (X : Cx) (A : Around) (σ : L2.St) (H : Hp) (pf : List (Addr × Obj)) (f : Value) (xs : List V) (key : V → Int) : Prop :=
  ∀ (pl : List (Addr × Obj)) (s1 : Shared) (H1 : Hp) (v : V) (u : Value), Inv X (pf ++ pl) σ H1 s1 → Kp [] H H1 → v ∈ xs → RelV v u →
    wpAny (model X.prog X.w) A (call f [u]) (fun z s2 => ∃ H2 t, Inv X (pf ++ pl) σ H2 s2 ∧ Kp [] H1 H2 ∧ z = .int (key v) t) (fun _ _ => False) s1
/-- what stands of an address of ours, whatever runs -/
def Own (X : Cx) (pn : List (Addr × Obj)) (b : Addr) : Prop :=
  b ≠ X.env.locals ∧ b ∉ X.fs ∧ (b ∈ X.ex ∨ X.s_0.heap.objs.size ≤ b) ∧ (∀ x c, X.env.cells.lookup x = some c → c ≠ b) ∧ ∀ p ∈ X.pn ++ pn, p.1 ≠ b
theorem Own.fresh {b : Addr} (I : Inv X pins σ H s) (hb : s.heap.objs.size ≤ b) : Own X pins b := by
  have q := I.fpOk (H' := H) hb (I.hok.fresh hb)
  exact ⟨q.2.1, q.2.2.1, q.2.2.2.1, q.2.2.2.2.1, q.2.2.2.2.2⟩
theorem Own.less {pn pm : List (Addr × Obj)} {b : Addr} (o : Own X pn b) (h : ∀ p, p ∈ pm → p ∈ pn) : Own X pm b :=
  ⟨o.1, o.2.1, o.2.2.1, o.2.2.2.1, fun p hp => o.2.2.2.2 p ((List.mem_append.mp hp).elim (fun z => List.mem_append_left _ z) fun z => List.mem_append_right _ (h p z))⟩
theorem inv_pin {b : Addr} {o : Obj} {pn : List (Addr × Obj)} (I : Inv X (pf ++ pn) σ H s) (w : Own X (pf ++ pn) b) (hn : H b = none) (e : s.heap.get? b = some o) (hc : ∀ v, o.data ≠ .cell v) : Inv X (pf ++ ((b, o) :: pn)) σ H s :=
  I.pins_of fun p hp => by
    rcases List.mem_append.mp hp with z | z
    · exact I.pin p (List.mem_append_right _ (List.mem_append_left _ z))
    · rcases List.mem_cons.mp z with z | z
      · rw [z]
        exact ⟨e, hn, w.1, w.2.1, hc⟩
      · exact I.pin p (List.mem_append_right _ (List.mem_append_right _ z))
theorem inv_unpin {q : Addr × Obj} {pn : List (Addr × Obj)} (I : Inv X (pf ++ (q :: pn)) σ H s) : Inv X (pf ++ pn) σ H s :=
  I.pins_of fun p hp => by
    rcases List.mem_append.mp hp with z | z
    · exact I.pin p (List.mem_append_right _ (List.mem_append_left _ z))
    · exact I.pin p (List.mem_append_right _ (List.mem_append_right _ (List.mem_cons_of_mem _ z)))
theorem inv_head {q : Addr × Obj} {pn : List (Addr × Obj)} (I : Inv X (pf ++ (q :: pn)) σ H s) : s.heap.get? q.1 = some q.2 ∧ H q.1 = none :=
  have z := I.pin q (List.mem_append_right _ (List.mem_append_right _ (.head _)))
  ⟨z.1, z.2.1⟩
/-- the object at b turns -/
theorem inv_turn {b : Addr} {pn : List (Addr × Obj)} {h' : Heap} {t' : Nat} (I : Inv X pn σ H s) (w : Own X pn b) (hn : H b = none) (k : ∀ c o, c ≠ b → s.heap.get? c = some o → h'.get? c = some o) : Inv X pn σ H { s with heap := h', toks := t' } :=
  I.turned k hn w.1 w.2.2.1 w.2.2.2.1 w.2.2.2.2
theorem ints_snoc {vs : List Value} {ns : List Int} {n : Int} {t : Tok} (h : IntsAre vs ns) : IntsAre (vs ++ [.int n t]) (ns ++ [n]) := by
  induction h with
  | nil => exact .cons n t .nil
  | cons m u _ ih => exact .cons m u ih
theorem each_ints {h : Heap} {vs : List Value} {ns : List Int} (e : IntsAre vs ns) : EachIs (fun v d => ∃ as, Reads h v d as) vs (ns.map PyData.int) := by
  induction e with
  | nil => exact .nil
  | cons n t _ ih => exact .cons ⟨[], .int n t⟩ ih
theorem each_vals {xs : List V} {us : List Value} (r : Vals xs us) : EachIs (fun u v => RelV v u) us xs := by
  induction r with
  | nil => exact .nil
  | cons a _ ih => exact .cons a ih
theorem vals_each {xs : List V} {us : List Value} (r : EachIs (fun u v => RelV v u) us xs) : Vals xs us := by
  induction r with
  | nil => exact .nil
  | cons a _ ih => exact .cons a ih
/-- a heap without the object at b -/
def gone (h : Heap) (b : Addr) : Heap := h.update b fun _ => { cls := .none, data := .freed }
theorem gone_at {h : Heap} {b : Addr} {o : Obj} (e : h.get? b = some o) : (gone h b).get? b = none := by
  cases q : (gone h b).get? b with
  | none => rfl
  | some u =>
    exfalso
    obtain ⟨e1, _⟩ := Heap.get?_some_iff.mp e
    obtain ⟨e2, e3⟩ := Heap.get?_some_iff.mp q
    have e4 : (gone h b).objs[b]? = some { cls := .none, data := .freed } := by
      unfold gone
      rw [Heap.objs_update_self, e1]
      rfl
    rw [e4] at e2
    cases e2
    cases e3
theorem gone_ne {h : Heap} {b c : Addr} (n : c ≠ b) : (gone h b).get? c = h.get? c := (Heap.SameBut.update h b _).2 c n
theorem key_end {A : Around} {key : V → Int} {xs : List V} {vs : List Value} {a kS : Addr} {kA : Array Value} {e e1 : Nat} {P : PySem.Fin → Shared → Prop} {E : Value → Shared → Prop} (I : Inv X (pf ++ ((kS, seqObj "list" kA e) :: (a, seqObj "list" #[] e1) :: pins)) σ H s)
    (wk : Own X (pf ++ ((a, seqObj "list" #[] e1) :: pins)) kS) (wa : Own X (pf ++ pins) a) (r : Vals xs vs) (hZ : vs.length ≤ sizeLine) (hu : A.units < cLine) (hk : IntsAre kA.toList (xs.map key))
    (h : ∀ s' out c, Inv X (pf ++ pins) σ H s' → s'.heap.get? a = some (seqObj "list" (List.toArray out) c) → Vals (xs.mergeSort fun p q => decide (key p ≤ key q)) out → P (.done (.ret .none)) s') :
    wpAny (model X.prog X.w) A (ksk_end a false vs.toArray e1 (.ref kS) kA) P E s := by
  have nk := inv_head I
  have na := inv_head (inv_unpin I)
  have hka : kS ≠ a := Ne.symm (wk.2.2.2.2 (a, seqObj "list" #[] e1) (List.mem_append_right _ (List.mem_append_right _ (.head _))))
  have hl : kA.size = vs.length := by
    have h1 := hk.length
    rw [Array.length_toList, List.length_map] at h1
    rw [h1]
    exact r.length
  have hE := each_ints (h := s.heap) hk
  have hkz : (xs.map key).map PyData.int = xs.map (fun v => PyData.int (key v)) := by rw [List.map_map]; rfl
  have hal : AllAlike (xs.map fun v => PyData.int (key v)) := AllAlike.of fun _ _ => by simp [alike]
  have hsk : Sortable (xs.map fun v => PyData.int (key v)) := Sortable.others fun _ => ⟨(fun z => by cases z), (fun _ z => by cases z)⟩
  rw [hkz] at hE
  refine keyH_end (κ := dataKind s.heap (xs.map fun v => PyData.int (key v))) (h₁ := gone s.heap kS) (fun b o hb q => ?_) (gone_at nk.1) nk.1 na.1 hka (SortsAt.data hE hal hsk fun d hd => ?_) hl hZ fun h' tk c kp hc => ?_
  · by_cases hbk : b = kS
    · rw [hbk, gone_at nk.1] at q
      cases q
    · rw [gone_ne hbk] at q
      exact q
  · obtain ⟨v, _, e⟩ := List.mem_map.mp hd
    rw [← e]
    simpa [PyData.depth] using hu
  · have I1 : Inv X (pf ++ ((a, seqObj "list" #[] e1) :: pins)) σ H { s with heap := gone s.heap kS, toks := s.toks } := inv_turn (inv_unpin I) wk nk.2 fun b o hb q => by
      rw [gone_ne hb]
      exact q
    have I2 : Inv X (pf ++ pins) σ H { s with heap := h', toks := tk } := inv_turn (s := { s with heap := gone s.heap kS, toks := s.toks }) (inv_unpin I1) wa na.2 fun b o hb q => kp b o hb q
    have ko : KeyedOut false (xs.map fun v => PyData.int (key v)) vs (sortVals (dataKind s.heap (xs.map fun v => PyData.int (key v))) false kA.toList vs) := ⟨s.heap, kA.toList, hal, rfl, hE⟩
    have eo := keyedOut_each (fun v => PyData.int (key v)) ko (each_vals r)
    rw [dataLe_int key] at eo
    exact h _ _ c I2 hc (vals_each eo)
/-- the keys' loop -/
theorem key_rest {A : Around} {f : Value} {key : V → Int} {xs : List V} {vs : List Value} {a kS : Addr} {e1 : Nat} {P : PySem.Fin → Shared → Prop} {E : Value → Shared → Prop} (T : KeyTurn X A σ H pf f xs key)
    (I : Inv X (pf ++ ((kS, seqObj "list" #[] 0) :: (a, seqObj "list" #[] e1) :: pins)) σ H s) (wk : Own X (pf ++ ((a, seqObj "list" #[] e1) :: pins)) kS) (wa : Own X (pf ++ pins) a) (r : Vals xs vs) (hZ : vs.length ≤ sizeLine) (hu : A.units < cLine)
    (h : ∀ H' s' out c, Inv X (pf ++ pins) σ H' s' → Kp [] H H' → H' a = none → s'.heap.get? a = some (seqObj "list" (List.toArray out) c) → Vals (xs.mergeSort fun p q => decide (key p ≤ key q)) out → P (.done (.ret .none)) s') :
    wpAny (model X.prog X.w) A (ksk_rest a f false vs.toArray e1 (.ref kS)) P E s := by
  unfold ksk_rest
  refine wpAny_bind (wpAny_rule ?_)
  rw [List.forIn_toArray]
  refine wpAny_bind (ksk_fold (fun i s' => ∃ H1 kA e, Inv X (pf ++ ((kS, seqObj "list" kA e) :: (a, seqObj "list" #[] e1) :: pins)) σ H1 s' ∧ Kp [] H H1 ∧ IntsAre kA.toList ((xs.take i).map key)) vs 0 s ⟨H, #[], 0, I, Kp.refl, .nil⟩ ?step ?done)
  case step =>
    rintro j u s' hx ⟨H1, kA, e, I1, k1, hk⟩
    rw [Nat.zero_add] at hk ⊢
    obtain ⟨hj, _⟩ := List.getElem?_eq_some_iff.mp hx
    obtain ⟨v, hv⟩ : ∃ v, xs[j]? = some v := ⟨_, List.getElem?_eq_getElem (by rw [r.length]; exact hj)⟩
    obtain ⟨u', hu', rv⟩ := Vals.get r hv
    rw [hx] at hu'
    cases hu'
    have hz : kA.size ≤ vs.length := by
      have h1 := hk.length
      rw [Array.length_toList, List.length_map, List.length_take] at h1
      omega
    refine wpAny_bind (wpAny_attempt (wpAny_mono (T _ s' H1 v u I1 k1 (List.mem_of_getElem? hv) rv) (fun z s2 he => ?_) fun _ _ hF => hF.elim))
    obtain ⟨H2, t, I2, k2, rfl⟩ := he
    have nk := inv_head I2
    obtain ⟨c2, hc2⟩ : ∃ c2, (s2.heap.update kS (Obj.mapSeq (·.push (.int (key v) t)))).get? kS = some (seqObj "list" (kA.push (.int (key v) t)) c2) := ⟨_, get?_update_seq nk.1 (·.push (.int (key v) t))⟩
    refine wpAny_bind (listUpdate_at nk.1 rfl ?_ (Nat.le_trans hz hZ) (Nat.le_trans (Nat.le_of_eq (Array.size_push ..)) (Nat.succ_le_succ (Nat.le_trans hz hZ))))
    have I3 : Inv X (pf ++ ((a, seqObj "list" #[] e1) :: pins)) σ H2 { s2 with heap := s2.heap.update kS (Obj.mapSeq (·.push (.int (key v) t))), toks := s2.toks } :=
      inv_turn (inv_unpin I2) wk nk.2 fun b o hb q => ((Heap.SameBut.update s2.heap kS _).2 b hb).trans q
    refine wpAny_pure ⟨rfl, H2, kA.push (.int (key v) t), c2, inv_pin I3 wk nk.2 hc2 (fun _ z => by cases z), k1.trans k2, ?_⟩
    rw [Array.toList_push, List.take_add_one, hv, List.map_append]
    exact ints_snoc hk
  case done =>
    rintro s' ⟨H1, kA, e, I1, k1, hk⟩
    rw [Nat.zero_add, ← r.length, List.take_length] at hk
    refine wpAny_bind (listItems_at (inv_head I1).1 rfl ?_)
    exact key_end (key := key) I1 wk wa r hZ hu hk fun s2 out c I2 hc ho => h H1 s2 out c I2 k1 (inv_head (inv_unpin I1)).2 hc ho
/-- xs.sort(key=f) of a list that nobody knows -/
theorem key_tree {A : Around} {f : Value} {key : V → Int} {xs : List V} {vs : List Value} {a : Addr} {n : Nat} {P : PySem.Fin → Shared → Prop} {E : Value → Shared → Prop} (T : KeyTurn X A σ H pf f xs key)
    (I : Inv X (pf ++ pins) σ H s) (wa : Own X (pf ++ pins) a) (na : H a = none) (ho : s.heap.get? a = some (seqObj "list" vs.toArray n)) (r : Vals xs vs) (hZ : vs.length ≤ sizeLine) (hu : A.units < cLine)
    (h : ∀ H' s' out c, Inv X (pf ++ pins) σ H' s' → Kp [] H H' → H' a = none → s'.heap.get? a = some (seqObj "list" (List.toArray out) c) → Vals (xs.mergeSort fun p q => decide (key p ≤ key q)) out → P (.done (.ret .none)) s') :
    wpAny (model X.prog X.w) A (ksk_tree a f false) P E s := by
  obtain ⟨e1, ho1⟩ : ∃ e1, (s.heap.update a (Obj.mapSeq fun _ => (#[] : Array Value))).get? a = some (seqObj "list" #[] e1) := ⟨_, get?_update_seq ho fun _ => #[]⟩
  have I1 : Inv X (pf ++ pins) σ H { s with heap := s.heap.update a (Obj.mapSeq fun _ => (#[] : Array Value)), toks := s.toks } := inv_turn I wa na fun b o hb q => ((Heap.SameBut.update s.heap a _).2 b hb).trans q
  have I2 := inv_pin I1 wa na ho1 (fun _ z => by cases z)
  have I3 : Inv X (pf ++ ((a, seqObj "list" #[] e1) :: pins)) σ H { s with heap := (s.heap.update a (Obj.mapSeq fun _ => (#[] : Array Value))).push (seqObj "tuple" vs.toArray 0), toks := s.toks } := I2.kept fun b o q => Heap.get?_push_of_some _ q
  have wk := Own.fresh I3 (Nat.le_refl _)
  have nk := I3.hok.fresh (Nat.le_refl _)
  have I4 : Inv X (pf ++ ((a, seqObj "list" #[] e1) :: pins)) σ H { s with heap := ((s.heap.update a (Obj.mapSeq fun _ => (#[] : Array Value))).push (seqObj "tuple" vs.toArray 0)).push (seqObj "list" #[] 0), toks := s.toks } := I3.kept fun b o q => Heap.get?_push_of_some _ q
  unfold ksk_tree
  refine wpAny_bind (listItems_at ho rfl ?_)
  refine wpAny_bind (listUpdate_at ho rfl ?_ (by rw [List.size_toArray]; exact hZ) (Nat.zero_le _))
  refine wpAny_bind (seqEpoch_at ho1 rfl ?_)
  refine wpAny_bind (wpAny_newTuple ?_ (by show vs.length ≤ _; exact hZ))
  refine wpAny_bind (wpAny_newList ?_ (Nat.zero_le _))
  refine wpAny_holding ?_
  exact key_rest T (inv_pin I4 wk nk (Heap.get?_push_size _ rfl) (fun _ z => by cases z)) wk wa r hZ hu h
/-- an object of ours becomes known -/
theorem inv_track {a : Addr} {o : HO} {pn : List (Addr × Obj)} (I : Inv X pn σ H s) (w : Own X pn a) (hn : H a = none) (ok : ObjOk X.prog X.w (upd H a o) s.heap a o) : Inv X pn σ (upd H a o) s := by
  have ne : ∀ b u, H b = some u → b ≠ a := fun b u e z => by
    rw [z, hn] at e
    cases e
  have up : ∀ b u, H b = some u → upd H a o b = some u := fun b u e => by rw [upd_ne (ne b u e)]; exact e
  exact I.step (h' := s.heap) (g' := s.gens) (d' := s.drawn) (t' := s.toks) (ch := [a]) (fun b hb => by
      rw [List.mem_singleton.mp hb]
      exact ⟨w.2.2.1, w.1, w.2.2.2.1, w.2.2.2.2⟩)
    (fun b u _ _ _ e _ => e) (fun b u _ _ _ e _ => ⟨u.slots, e⟩) (fun b u hb _ n => by
      rw [upd_ne (fun z => hb (List.mem_singleton.mpr z))]
      exact n)
    (fun b u _ e => ⟨u, e⟩) (fun b xs e => up b _ e) (fun b u v e => up b _ e) (fun b ps e => ⟨#[], by rw [up b _ e]; simp⟩) (fun m hm => hm)
    (fun b u e => by
      by_cases hb : b = a
      · rw [hb, upd_same] at e
        cases e
        rw [hb]
        exact ok
      · rw [upd_ne hb] at e
        exact (I.hok b u e).stay (fun c v _ q => q) (fun c q => up c _ q) fun c xs q => up c _ q) I.bare
/-- sorted(xs, key=f) -/
theorem sorted_key {f : Addr} {key : V → Int} {xs : List V} {l : Addr} {Q : VK} (T : KeyTurn X X.A.in1.in1 σ H pf (.ref f) xs key) (I : Inv X (pf ++ pins) σ H s) (hs : SqL X.K H l xs) (hu : X.A.units + 2 < cLine)
    (h : ∀ H' p, Kp [] H H' → H' p = none → Q (.ref p) (upd H' p (.lst (xs.mergeSort fun a b => decide (key a ≤ key b))))) :
    wpAny (model X.prog X.w) X.A (call (.builtin "sorted") [.ref l] [(Str.ofString "key", .ref f)]) (EP X (pf ++ pins) σ Q) X.xe s := by
  obtain ⟨its, rv, hl, hz⟩ := I.list hs
  have wa := Own.fresh I (b := s.heap.objs.size + 1) (Nat.le_succ _)
  have na : H (s.heap.objs.size + 1) = none := I.hok.fresh (Nat.le_succ _)
  refine sorted_of_sort hl.isList (by rw [← rv.length]; exact hz) (ksk_s1 _ _) (fun _ => ksk_l1 _ _) fun E' => ?_
  rw [ksk_t1]
  have I1 : Inv X (pf ++ pins) σ H { s with heap := copyHeap s.heap its, toks := s.toks } := I.kept fun b o q => copyHeap_old q
  refine key_tree (s := { s with heap := copyHeap s.heap its }) T I1 wa na (copyHeap_at s.heap its) rv (by rw [← rv.length]; exact hz) hu fun H' s' out c I2 k2 n2 hc ro => ⟨rfl, ?_⟩
  have hlen : (xs.mergeSort fun a b => decide (key a ≤ key b)).length ≤ sizeLine := by
    rw [List.length_mergeSort]
    exact hz
  exact ⟨.ref _, _, inv_track (o := .lst (xs.mergeSort fun a b => decide (key a ≤ key b))) I2 wa n2 ⟨hlen, out, c, ro, hc⟩, rfl, h H' _ k2 n2⟩
end
/-! ### a lambda with one parameter -/
structure Lam1 (sc scope : Scope) (p : Str) : Prop where
  kind : scope.kind = .function
  co : scope.isCoroutine = false
  gen : scope.isGenerator = false
  own : ∀ y ∈ scope.names, y.2 ≠ .cell
  par : scope.names.lookup p = some .local
  loc : ∀ {y}, y ≠ p → scope.names.lookup y ≠ some .local
  free : ∀ y ∈ scope.names, y.2 = .free → sc.names.lookup y.1 = some .cell ∨ sc.names.lookup y.1 = some .free
def lam1B (sc scope : Scope) (p : Str) : Bool :=
  decide (scope.kind = .function) && !scope.isCoroutine && !scope.isGenerator && decide (scope.names.lookup p = some .local) && scope.names.all fun y => !decide (y.2 = .cell) && (!decide (y.2 = .local) || decide (y.1 = p)) && (!decide (y.2 = .free) || decide (sc.names.lookup y.1 = some .cell) || decide (sc.names.lookup y.1 = some .free))
theorem lam1_by {sc scope : Scope} {p : Str} (h : lam1B sc scope p = true) : Lam1 sc scope p := by
  unfold lam1B at h
  simp only [Bool.and_eq_true, Bool.or_eq_true, Bool.not_eq_true', decide_eq_true_eq, decide_eq_false_iff_not, List.all_eq_true] at h
  obtain ⟨⟨⟨⟨h1, h2⟩, h3⟩, h5⟩, h4⟩ := h
  refine ⟨h1, h2, h3, fun y hy => (h4 y hy).1.1, h5, fun {y} n e => ?_, fun y hy e => ?_⟩
  · rcases (h4 _ (PySem.mem_of_lookup e)).1.2 with z | z
    · exact z rfl
    · exact n z
  rcases (h4 y hy).2 with (z | z) | z
  · exact absurd e z
  · exact .inl z
  · exact .inr z
theorem Lam1.has {X : Cx} {scope : Scope} {p : Str} (L : Lam1 X.env.scope scope p) (ok : X.Ok) : ∀ y ∈ scope.names, y.2 = .free → ∃ c, X.env.cells.lookup y.1 = some c := fun y hy e => by
  rcases L.free y hy e with k | k
  · exact ok.has _ (.inl k)
  · exact ok.has _ (.inr k)
/-- the context of the lambda's body -/
def lam1Cx (X : Cx) (A : Around) (s : Shared) (H : Hp) (N : List Str) (scope : Scope) (f c' : Addr) : Cx where
  prog := X.prog
  w := X.w
  K := X.K
  mg := X.mg
  base := X.base
  A := A.deeper (LamX.lamEnv X scope s.heap.objs.size f c')
  N := N
  s_0 := s
  H_0 := H
  env := LamX.lamEnv X scope s.heap.objs.size f c'
  outer := X.stack
  stack := LamX.lamEnv X scope s.heap.objs.size f c' :: X.stack
  ex := []
  fn := fun _ => false
  calm := true
  pn := []
  xe := fun _ _ => False
section
variable {X : Cx} {pins : List (Addr × Obj)} {σ σ' : L2.St} {H : Hp} {s : Shared}
/-- each name of the body that has a value: the parameter, or a name of the maker -/
def Caps (X : Cx) (σ : L2.St) (N : List Str) (σ' : L2.St) (p : Str) (v : V) : Prop :=
  σ'.length = N.length ∧ ∀ (i : Nat) (y : Str) (x : V), N[i]? = some y → σ'[i]? = some (some x) → (y = p ∧ x = v) ∨ (y ≠ p ∧ ∃ j : Nat, X.N[j]? = some y ∧ σ[j]? = some (some x))
theorem lam1_start {A : Around} {N : List Str} {scope : Scope} {p : Str} {v : V} {u : Value} {f c' : Addr} {h₁ : Heap} {tk : Nat} (I : Inv X pins σ H s) (L : Lam1 X.env.scope scope p) (hfr : A.frames = some X.stack) (hd : A.handled = none) (C : Caps X σ N σ' p v) (r : RelV v u)
    (hns : h₁.Ns s.heap.objs.size fun y => [(p, u)].reverse.lookup y) (kp : ∀ b o, s.heap.get? b = some o → h₁.get? b = some o) :
    Inv (lam1Cx X A s H N scope f c') [] σ' H { s with heap := h₁, toks := tk } := by
  have e0 := I.env0
  have hfree := L.has I.ok
  have cm : ∀ {y c}, (cloFrom X.env.cells scope.names []).lookup y = some c → X.env.cells.lookup y = some c := fun {y c} e => by
    rcases cloFrom_mem (PySem.mem_of_lookup e) with hm | ⟨h1, h2⟩
    · cases hm
    · obtain ⟨c1, hc⟩ := hfree _ h1 rfl
      have hc : X.env.cells.lookup y = some c1 := hc
      have e2 : c = c1 := by rw [h2, hc] <;> rfl
      rw [e2]
      exact hc
  have look : ∀ {y}, scope.names.lookup y = some .free → ∃ c, (cloFrom X.env.cells scope.names []).lookup y = some c := fun {y} hl =>
    mem_lookup (cloFrom_has (cells := X.env.cells) (acc := []) (PySem.mem_of_lookup hl))
  have cellK : ∀ {c : Addr} {z : Option Value}, s.heap.IsCell c z → h₁.IsCell c z := fun {c z} ⟨o, ho, hd⟩ => ⟨o, kp _ _ ho, hd⟩
  have noA : ∀ b : Addr, b ∉ (lam1Cx X A s H N scope f c').ex := fun b z => by cases z
  constructor
  case ok =>
    constructor
    case mod => exact e0.mod
    case kind => exact L.kind
    case glob => exact rfl
    case blt => exact rfl
    case above => exact Nat.le_refl _
    case inj => exact fun y z c e1 e2 => I.ok.inj y z c (cm e1) (cm e2)
    case has =>
      intro y hy
      have hy : scope.names.lookup y = some .cell ∨ scope.names.lookup y = some .free := hy
      rcases hy with hy | hy
      · exact absurd rfl (L.own _ (PySem.mem_of_lookup hy))
      · exact look hy
    case cab =>
      intro y c z _
      have z : false = true := z
      cases z
    case hd => exact fun _ => hd
    case frames => exact Around.frames_deeper hfr
    case stk => exact .inr ⟨rfl, rfl⟩
    case exf => exact fun b z => absurd z (noA b)
    case bs => exact e0.bs
    case bsz => exact e0.bsz
    case noex => exact fun b _ _ => noA b
    case exfs => exact fun b z => absurd z (noA b)
    case funs => exact e0.funs
    case frf => exact e0.frf
  case os => exact rfl
  case bare => exact e0.bare
  case base => exact Un.kept kp
  case loc =>
    refine ⟨_, hns, fun i y x e1 e2 e3 => ?_⟩
    rcases C.2 i y x e1 e2 with ⟨ey, ex⟩ | ⟨ny, j, j1, j2⟩
    · rw [ey, ex]
      exact ⟨u, r, .inl ⟨L.par, by simp⟩⟩
    · have e3 : Vis scope y := e3
      rcases e3 with k | k | k
      · exact absurd k (L.loc ny)
      · exact absurd rfl (L.own _ (PySem.mem_of_lookup k))
      · obtain ⟨m, hn, hl⟩ := I.loc
        have hvis : Vis X.env.scope y := (L.free _ (PySem.mem_of_lookup k) rfl).elim (fun k => .inr (.inl k)) (fun k => .inr (.inr k))
        obtain ⟨w', r', q⟩ := hl j y x j1 j2 hvis
        obtain ⟨c2, h2⟩ := look k
        refine ⟨w', r', .inr ⟨.inr k, c2, h2, ?_⟩⟩
        have c1 := cm h2
        rcases q with ⟨k', _⟩ | ⟨_, c3, e', z⟩
        · have k' : X.env.scope.names.lookup y = some .local := k'
          rcases L.free _ (PySem.mem_of_lookup k) rfl with k2 | k2 <;> rw [show X.env.scope.names.lookup y = _ from k2] at k' <;> cases k'
        · rw [c1] at e'
          cases e'
          exact cellK z
  case cell =>
    intro y c e
    obtain ⟨w', z⟩ := I.cell y c (cm e)
    exact ⟨w', cellK z⟩
  case free => exact e0.hok.fresh (Nat.le_refl _)
  case freeC => exact fun y c e => I.freeC y c (cm e)
  case pin => exact fun q hq => absurd (show q ∈ ([] : List (Addr × Obj)) ++ [] from hq) (by simp)
  case hok => exact e0.hok.kept kp
  case len => exact C.1
/-- the lambda as a key -/
theorem lam1_turn {A : Around} {k : Nat} {N : List Str} {scope : Scope} {p : Str} {f c' : Addr} {params : Arguments} {body : Expr} {pm ctv : Value} {xs : List V} {key : V → Int} {τ : V → L2.St} (L : Lam1 X.env.scope scope p) (hc : H c' = some (LamX.CodeO c' (X.env.qual ++ "<lambda>")))
    (hA : A.frames = some X.stack) (hr : Room (k + 1) A) (hbind : ∀ u, bindArgs (PySem.W.kla_fn "<lambda>" (X.env.qual ++ "<lambda>") params body scope (cloFrom X.env.cells scope.names []) pm (.ref c') ctv) ⟨[u], []⟩ = pure [(p, u)])
    (hC : ∀ v, v ∈ xs → Caps X σ N (τ v) p v)
    (hbody : ∀ (s : Shared) (H1 : Hp) (v : V), v ∈ xs → Kp [] H H1 → Room k (A.deeper (LamX.lamEnv X scope s.heap.objs.size f c')) → ∃ tb, PE (lam1Cx X A s H1 N scope f c') body tb ∧ tb (τ v) H1 fun x H2 => x = .int (key v) ∧ Kp [] H1 H2) :
    KeyTurn X A σ H [(f, PySem.W.kla_obj "<lambda>" (X.env.qual ++ "<lambda>") params body scope (cloFrom X.env.cells scope.names []) pm c' ctv)] (.ref f) xs key := by
  intro pl s1 H1 v u I1 k1 hv r
  have hf := (I1.pin _ (List.mem_append_right _ (List.mem_append_left _ (.head _)))).1
  obtain ⟨⟨oc, vs, t, hoc, hdc, hvc⟩, _, _⟩ := I1.hok c' _ (k1.g0 hc)
  have rc : codeAny (model X.prog X.w) A (.call (.ref f) ⟨[u], []⟩) (fun r s' => ∃ z, r = .ok (.ret z) ∧ CE X.stack X.prog X.w H1 s1 (fun x H2 => x = .int (key v) ∧ Kp [] H1 H2) z s') s1 := by
    refine PySem.W.kla_callFunE hr.depth hf rfl L.co L.gen rfl ⟨c', oc, vs, t, rfl, hoc, hdc, hvc⟩ ?_
    rw [hbind]
    refine wpAny_pure (wpAny_newFunctionEnv (fun y hy => L.own y hy) (fun y hy => ?_) (fun h₁ hns hsb => ⟨I1.nolimit.fresh _ hsb, ?_⟩) L.kind)
    · rw [List.mem_singleton.mp hy]
      exact L.par
    show codeAny _ _ (.expr body (LamX.lamEnv X scope s1.heap.objs.size f c')) _ _
    have kp : ∀ b o, s1.heap.get? b = some o → h₁.get? b = some o := fun b o e => hsb.extBut b o (Nat.ne_of_lt (Heap.lt_size e)) (Heap.get?_push_of_some _ e)
    have J : Inv (lam1Cx X A s1 H1 N scope f c') [] (τ v) H1 { s1 with heap := h₁, toks := s1.toks + [(p, u)].length } := lam1_start I1 L hA hr.hd (hC v hv) r hns kp
    obtain ⟨tb, hp, ht⟩ := hbody s1 H1 v hv k1 (hr.deeper _)
    refine PySem.W.kla_codeExpr (wpAny_mono (hp.run [] _ _ _ _ J ht) (fun z s' hq => ?_) fun e s' hq => (show False from hq).elim)
    obtain ⟨w', H', J', rv, q⟩ := hq
    exact ⟨z, rfl, w', H', J'.os, J'.bare, J'.base, J'.hok, rv, q⟩
  refine wpAny_call (codeAny_mono rc fun r s' hq => ?_)
  obtain ⟨z, rfl, ce⟩ := hq
  obtain ⟨x, H2, I2, rx, ex, k2⟩ := I1.after ce
  rw [ex] at rx
  obtain ⟨t', e⟩ := rx
  exact ⟨H2, t', I2, k2, e⟩
/-- a made function is pinned -/
theorem fn_pin {f : Addr} {o : Obj} {fd : FuncData} (I : Inv X pins σ H s) (hf : s.heap.get? f = some o) (hd : o.data = .func fd) (hn : H f = none) (hfr : f ∉ frs X.stack) : Inv X ([(f, o)] ++ pins) σ H s :=
  I.pins_of fun p hp => by
    rcases List.mem_append.mp hp with z | z
    · rw [List.mem_singleton.mp z]
      refine ⟨hf, hn, fun e => ?_, fun e => ?_, fun v e => ?_⟩
      · obtain ⟨m, ⟨ol, es, ep, ho, hdl, _⟩, _⟩ := I.loc
        have e : f = X.env.locals := e
        rw [← e, hf] at ho
        cases ho
        rw [hd] at hdl
        cases hdl
      · rcases I.ok.stk with k | ⟨k, _⟩
        · exact hfr (by rw [k]; exact e)
        · refine hfr ?_
          rw [k]
          unfold frs
          rw [List.filterMap_cons]
          have e : f ∈ frs X.outer := e
          unfold frs at e
          split
          · exact e
          · exact List.mem_cons_of_mem _ e
      · have e : o.data = .cell v := e
        rw [hd] at e
        cases e
    · exact I.pin p (List.mem_append_right _ z)
theorem ep_less {q : Addr × Obj} {Q : VK} {u : Value} {s' : Shared} (h : EP X ([q] ++ pins) σ Q u s') : EP X pins σ Q u s' := by
  obtain ⟨v, H', I, r, h⟩ := h
  exact ⟨v, H', I.pins_of fun p hp => I.pin p (List.mem_append_right _ (List.mem_append_right _ hp)), r, h⟩
/-- the names of the body, told by the maker's -/
def CapsN (N0 : List Str) (σ : L2.St) (N : List Str) (σ' : L2.St) (p : Str) (v : V) : Prop :=
  σ'.length = N.length ∧ ∀ (i : Nat) (y : Str) (x : V), N[i]? = some y → σ'[i]? = some (some x) → (y = p ∧ x = v) ∨ (y ≠ p ∧ ∃ j : Nat, N0[j]? = some y ∧ σ[j]? = some (some x))
theorem sq_ext {K : PySem.W.Frag} {H H' : Hp} {l : Addr} {xs : List V} (e : LamX.ExtN H H') (h : SqL K H l xs) : SqL K H' l xs := by
  rcases h with (h | ⟨o, h⟩) | h
  · exact .inl (.inl (e _ _ h fun ps z => by cases z))
  · exact .inl (.inr ⟨o, e _ _ h fun ps z => by cases z⟩)
  · exact .inr h
/-- sorted(e, key=lambda p: body) -/
def tSortKey (K : PySem.W.Frag) (T : List (Addr × Str)) (N0 N : List Str) (p : Str) (t : TA) (tb : TE) : TE := fun σ H Q => t σ H fun vs H1 => ∃ (l : Addr) (xs : List V) (key : V → Int) (τ : V → L2.St), vs = [.ref l] ∧ SqL K H1 l xs ∧ LamX.Tabs T H1 ∧
  (∀ v, v ∈ xs → CapsN N0 σ N (τ v) p v) ∧ ∀ H2, LamX.ExtN H1 H2 → LamX.Tabs T H2 → (∀ (H3 : Hp) (v : V), v ∈ xs → Kp [] H2 H3 → tb (τ v) H3 fun x H4 => x = .int (key v) ∧ Kp [] H3 H4) ∧
    ∀ (H3 : Hp) (q : Addr), Kp [] H2 H3 → H3 q = none → Q (.ref q) (upd H3 q (.lst (xs.mergeSort fun a b => decide (key a ≤ key b))))
theorem pe_sortKey {T : List (Addr × Str)} {N : List Str} {k : Nat} {c P : Addr} {scope : Scope} {p : Str} {params : Arguments} {e body : Expr} {t : TA} {tb : TE} {p1 kpos lpos pos : Pos} (hg : Gl X "sorted") (hm : X.mg "sorted" = none) (ha : PA X [e] t)
    (TB : LamX.TabB X.base X.mg c P) (hcode : X.env.code = .ref c) (hmT : (P, X.env.qual ++ "<lambda>") ∈ T) (huT : ∀ p ∈ T, p.1 = P → p.2 = X.env.qual ++ "<lambda>") (hr : Room (k + 3) X.A) (L : Lam1 X.env.scope scope p) (hdef : defaultsOf params X.env = ([], []))
    (hbind : ∀ (q : Str) (cl : List (Str × Addr)) (pm cv ctv u : Value), bindArgs (PySem.W.kla_fn "<lambda>" q params body scope cl pm cv ctv) ⟨[u], []⟩ = pure [(p, u)])
    (hbody : ∀ (s : Shared) (H : Hp) (f c' : Addr), Room k (X.A.in1.in1.deeper (LamX.lamEnv X scope s.heap.objs.size f c')) → PE (lam1Cx X X.A.in1.in1 s H N scope f c') body tb)
    (he : backTo pos (starEach [e] X.env) = (false, eval e X.env) :: backTo pos (starEach [] X.env) := by rfl) (hpl : (backTo pos (starEach [e] X.env)).any (·.1) = false := by rfl) :
    PE X (.Call (.Name "sorted" p1) [e] [⟨some "key", .Lambda params body scope lpos, kpos⟩] pos) (tSortKey X.K T X.N N p t tb) := by
  refine ⟨fun pins s σ H Q I h => ?_⟩
  refine wpAny_Call_Name_kw (ld_blt I hg hm (show bootBuiltins "sorted" = some (.builtin "sorted") by rfl) ?_ (by decide) (by decide))
  refine PyProof.Rows.callWith_kw (thn (ha.run pos pins s σ H _ I h) fun us s1 ⟨vs, H1, I1, r1, q1⟩ => ?_) he hpl rfl rfl
  obtain ⟨l, xs, key, τ, rfl, hs, hT, hC, q⟩ := q1
  obtain rfl := Vals.ref1 r1
  show wpAny _ _ (evalAll ((do let v ← eval (.Lambda params body scope lpos) X.env; standAt pos; pure v) :: [])) _ _ s1
  refine wpAny_evalAll_cons (wpAny_bind (LamX.lam_make2 I1 TB hcode hmT huT hT hdef (L.has I1.ok) fun f c' pm ctv H2 s2 I2 eN T2 hf hfn hfr hco => wpAny_bind (wpAny_standAt (wpAny_pure (wpAny_evalAll_nil ?_)))))
  obtain ⟨hb, hq⟩ := q H2 eN T2
  show wpAny _ _ (call (.builtin "sorted") [.ref l] [(Str.ofString "key", .ref f)]) _ _ s2
  refine wpAny_mono (sorted_key (lam1_turn L hco I2.ok.frames hr.in1.in1 (fun u => hbind _ _ _ _ _ u) hC fun s H3 v hv k3 hr3 => ⟨tb, hbody s H3 f c' hr3, hb H3 v hv k3⟩) (fn_pin I2 hf rfl hfn hfr) (sq_ext eN hs) (by have := hr.units; omega) hq) (fun u s' h => ep_less h) fun _ _ h => h
end
end RD
namespace RD
open PySem PySem.Spec PyProof.Rows L2 PySem.W
section
variable {X : Cx} {pins pf : List (Addr × Obj)} {σ : L2.St} {H : Hp} {s : Shared}
theorem Own.cons {pn : List (Addr × Obj)} {q : Addr × Obj} {b : Addr} (w : Own X (pf ++ pn) b) (n : q.1 ≠ b) : Own X (pf ++ (q :: pn)) b :=
  ⟨w.1, w.2.1, w.2.2.1, w.2.2.2.1, fun p hp => by
    rcases List.mem_append.mp hp with z | z
    · exact w.2.2.2.2 p (List.mem_append_left _ z)
    · rcases List.mem_append.mp z with z | z
      · exact w.2.2.2.2 p (List.mem_append_right _ (List.mem_append_left _ z))
      · rcases List.mem_cons.mp z with z | z
        · rw [z]
          exact n
        · exact w.2.2.2.2 p (List.mem_append_right _ (List.mem_append_right _ z))⟩
/-- the first of the least -/
def Least (xs : List V) (key : V → Int) (i : Nat) (b : V) : Prop := xs[i]? = some b ∧ ∀ (j : Nat) (z : V), xs[j]? = some z → key b ≤ key z ∧ (j < i → key b < key z)
theorem min_loop {A : Around} {f : Addr} {key : V → Int} {xs : List V} {l Ia S : Addr} {kw : List (Str × Value)} {R : Result → Shared → Prop} (hh : A.handled = none) (T : KeyTurn X A.in1 σ H pf (.ref f) xs key) (hs : SqL X.K H l xs) (hlI : l ≠ Ia) (hSI : S ≠ Ia)
    (wS : Own X (pf ++ pins) S) (wI : Own X (pf ++ pins) Ia)
    (hR : ∀ H2 s2 i b vb, Inv X (pf ++ pins) σ H2 s2 → Kp [] H H2 → Least xs key i b → RelV b vb → R (.ok (.ret vb)) s2) :
    ∀ (r j i : Nat) (s1 : Shared) (H1 : Hp) (b : V) (vb : Value) (tb : Tok) (c : Nat) (oI : Obj), xs.length - (j + 1) = r → j + 1 ≤ xs.length → Inv X (pf ++ ((S, seqObj "list" #[vb, .int (key b) tb] c) :: (Ia, oI) :: pins)) σ H1 s1 → Kp [] H H1 → s1.heap.IsListIter Ia l (j + 1) →
      xs[i]? = some b → RelV b vb → i ≤ j → (∀ (j' : Nat) (z : V), j' ≤ j → xs[j']? = some z → key b ≤ key z ∧ (j' < i → key b < key z)) →
      codeAny (model X.prog X.w) A (.builtin "min.loop" ⟨[.ref Ia, .ref f, .ref S], kw⟩) R s1 := by
  have hname : (toString "min" ++ toString ".loop" : String) = "min.loop" := by decide
  intro r
  induction r with
  | zero =>
    intro j i s1 H1 b vb tb c oI hr hj I1 k1 hit hb rb hij hbest
    have hin : j + 1 = xs.length := by omega
    have nS := inv_head I1
    have nI := inv_head (inv_unpin I1)
    obtain ⟨its, rv, hl, hz⟩ := I1.list (sl_kp k1 (by simp) hs)
    have W := Walks.list (prog := X.prog) (w := X.w) (A := A.in1) hh Ia l hlI its.toArray
    have hsz : its.toArray.size = xs.length := by rw [List.size_toArray, rv.length]
    refine codeAny_builtin (id := "min.loop") PySem.F.entry_min_loop ?_
    rw [Around.under_plainId PySem.F.plain_min_loop _]
    show wpAny (model X.prog X.w) A.in1 (seqItems? (.ref S) >>= _) _ _ _
    refine wpAny_bind (wpAny_seqItems (s := s1) nS.1 rfl ?_)
    show wpAny (model X.prog X.w) A.in1 (tryCatch (pyNext (.ref Ia)) _ >>= _) _ _ _
    refine wpAny_bind (wpAny_tryCatch (W.done s1 _ _ ⟨by rw [hsz, ← hin]; exact hit, hl.isList⟩ fun h' tk' hk' => ?_))
    have hS' := hk' S _ (by simpa using hSI) nS.1
    have I2 : Inv X (pf ++ ((S, seqObj "list" #[vb, .int (key b) tb] c) :: pins)) σ H1 { s1 with heap := h', toks := tk' } :=
      inv_pin (inv_turn (inv_unpin (inv_unpin I1)) wI nI.2 fun a o ha q => hk' a o (by simpa using ha) q) wS nS.2 hS' (fun _ z => by cases z)
    have I3 : Inv X (pf ++ pins) σ H1 { s1 with heap := h'.update S (Obj.mapSeq fun _ => (#[] : Array Value)), toks := tk' } :=
      inv_turn (s := { s1 with heap := h', toks := tk' }) (inv_unpin I2) wS nS.2 fun a o ha q => ((Heap.SameBut.update h' S _).2 a ha).trans q
    show wpAny (model X.prog X.w) A.in1 (updateSeq S (fun _ => #[]) >>= _) _ _ _
    refine wpAny_bind (wpAny_updateSeq hS' rfl (wpAny_bind (wpAny_letGo (wpAny_pure ?_))))
    exact hR H1 _ i b vb I3 k1 ⟨hb, fun j' z hz' => hbest j' z (by have := (List.getElem?_eq_some_iff.mp hz').1; omega) hz'⟩ rb
  | succ r ih =>
    intro j i s1 H1 b vb tb c oI hr hj I1 k1 hit hb rb hij hbest
    have hlt : j + 1 < xs.length := by omega
    have nS := inv_head I1
    have nI := inv_head (inv_unpin I1)
    obtain ⟨its, rv, hl, hz⟩ := I1.list (sl_kp k1 (by simp) hs)
    have W := Walks.list (prog := X.prog) (w := X.w) (A := A.in1) hh Ia l hlI its.toArray
    have hsz : its.toArray.size = xs.length := by rw [List.size_toArray, rv.length]
    refine codeAny_builtin (id := "min.loop") PySem.F.entry_min_loop ?_
    rw [Around.under_plainId PySem.F.plain_min_loop _]
    show wpAny (model X.prog X.w) A.in1 (seqItems? (.ref S) >>= _) _ _ _
    refine wpAny_bind (wpAny_seqItems (s := s1) nS.1 rfl ?_)
    show wpAny (model X.prog X.w) A.in1 (tryCatch (pyNext (.ref Ia)) _ >>= _) _ _ _
    refine wpAny_bind (wpAny_tryCatch (W.item (j + 1) s1 _ _ (by rw [hsz]; exact hlt) ⟨hit, hl.isList⟩ fun u h' tk' hP hst' hk' => ?_))
    have hu : its[j + 1]? = some u := by simpa using hP
    obtain ⟨x, hx⟩ : ∃ x, xs[j + 1]? = some x := ⟨_, List.getElem?_eq_getElem hlt⟩
    obtain ⟨u', hu', rx⟩ := Vals.get rv hx
    rw [hu] at hu'
    cases hu'
    obtain ⟨oI', hoI', hoc, hod⟩ := id hst'.1
    have hS' := hk' S _ (by simpa using hSI) nS.1
    have I2 : Inv X (pf ++ ((S, seqObj "list" #[vb, .int (key b) tb] c) :: (Ia, oI') :: pins)) σ H1 { s1 with heap := h', toks := tk' } :=
      inv_pin (inv_pin (inv_turn (inv_unpin (inv_unpin I1)) wI nI.2 fun a o ha q => hk' a o (by simpa using ha) q) wI nI.2 hoI' (fun v z => by rw [hod] at z; cases z)) (wS.cons hSI.symm) nS.2 hS' (fun _ z => by cases z)
    show wpAny (model X.prog X.w) A.in1 (tryCatch (holding [u] (call (.ref f) [u])) _ >>= _) _ _ _
    refine wpAny_bind (wpAny_tryCatch (wpAny_holding (wpAny_mono (T _ _ H1 x u I2 k1 (List.mem_of_getElem? hx) rx) (fun z s2 he => ?_) fun _ _ hF => hF.elim)))
    obtain ⟨H2, t2, I3, k2, rfl⟩ := he
    have nS2 := inv_head I3
    have nI2 := inv_head (inv_unpin I3)
    have hit2 : s2.heap.IsListIter Ia l (j + 1 + 1) := ⟨oI', nI2.1, hoc, hod⟩
    show wpAny (model X.prog X.w) A.in1 (tryCatch (holding [u, .int (key x) t2] (richCompare .Lt (.int (key x) t2) (.int (key b) tb) >>= _)) _ >>= _) _ _ _
    refine wpAny_bind (wpAny_tryCatch (wpAny_holding (wpAny_bind (CmpOf.ints_lt (prog := X.prog) (w := X.w) (A := A.in1) (P := fun i v => ∃ t, v = .int (if i = 0 then key x else key b) t) (fun i => if i = 0 then key x else key b) (fun i v h => h) 0 1 _ _ _ _ _ ⟨t2, rfl⟩ ⟨tb, rfl⟩ ?_))))
    refine wpAny_bind (wpAny_holding (wpAny_truthy_bool ?_))
    refine wpAny_bind (wpAny_letGo (wpAny_pure ?_))
    have hxb : ∀ (j' : Nat) (z : V), j' ≤ j + 1 → xs[j']? = some z → j' ≤ j ∨ z = x := fun j' z h1 h2 => by
      by_cases e : j' = j + 1
      · rw [e, hx] at h2
        exact .inr (Option.some.inj h2).symm
      · exact .inl (by omega)
    by_cases hbt : key x < key b
    · obtain ⟨c2, hc2⟩ : ∃ c2, (s2.heap.update S (Obj.mapSeq fun _ => #[u, .int (key x) t2])).get? S = some (seqObj "list" #[u, .int (key x) t2] c2) := ⟨_, get?_update_seq nS2.1 fun _ => #[u, .int (key x) t2]⟩
      have I4 : Inv X (pf ++ ((Ia, oI') :: pins)) σ H2 { s2 with heap := s2.heap.update S (Obj.mapSeq fun _ => #[u, .int (key x) t2]), toks := s2.toks } :=
        inv_turn (inv_unpin I3) (wS.cons hSI.symm) nS2.2 fun a o ha q => ((Heap.SameBut.update s2.heap S _).2 a ha).trans q
      simp only [if_true, if_neg (Nat.succ_ne_zero 0), hbt, decide_true]
      refine wpAny_bind (wpAny_updateSeq nS2.1 rfl (wpAny_bind (wpAny_letGo ?_)))
      rw [hname]
      refine wpAny_pure ⟨plainId_quiet PySem.F.plain_min_loop _, ih (j + 1) (j + 1) _ H2 x u t2 c2 oI' (by omega) hlt (inv_pin I4 (wS.cons hSI.symm) nS2.2 hc2 (fun _ z => by cases z)) (k1.trans k2) ?_ hx rx (Nat.le_refl _) fun j' z hj' hz' => ?_⟩
      · exact ⟨oI', ((Heap.SameBut.update s2.heap S _).2 Ia hSI.symm).trans nI2.1, hoc, hod⟩
      · rcases hxb j' z hj' hz' with e | e
        · have h1 := (hbest j' z e hz').1
          exact ⟨by omega, fun _ => by omega⟩
        · rw [e]
          refine ⟨Int.le_refl _, fun hlt' => ?_⟩
          have h1 := hbest j' z (by omega) hz'
          rw [e] at h1
          omega
    · simp only [if_true, if_neg (Nat.succ_ne_zero 0), hbt, decide_false, Bool.false_eq_true, if_false]
      refine wpAny_bind (wpAny_letGo ?_)
      rw [hname]
      refine wpAny_pure ⟨plainId_quiet PySem.F.plain_min_loop _, ih (j + 1) i _ H2 b vb tb c oI' (by omega) hlt I3 (k1.trans k2) hit2 hb rb (by omega) fun j' z hj' hz' => ?_⟩
      rcases hxb j' z hj' hz' with e | e
      · exact hbest j' z e hz'
      · rw [e]
        refine ⟨by omega, fun hlt' => ?_⟩
        have h1 := hbest j' z (by omega) hz'
        rw [e] at h1
        exact h1.2 hlt'
theorem min_args (a v u : Value) : argsOk "min" ⟨[a], [(Str.ofString "key", v), (Str.ofString "default", u)]⟩ := by unfold argsOk; kernel_rfl
/-- min(xs, key=f, default=None) -/
theorem min_key {f : Addr} {key : V → Int} {xs : List V} {l : Addr} {Q : VK} (hh : X.A.handled = none) (T : KeyTurn X X.A.in1 σ H pf (.ref f) xs key) (I : Inv X (pf ++ pins) σ H s) (hs : SqL X.K H l xs) (h1 : xs = [] → Q .non H)
    (h2 : ∀ H' i b, Kp [] H H' → Least xs key i b → Q b H') :
    wpAny (model X.prog X.w) X.A (call (.builtin "min") [.ref l] [(Str.ofString "key", .ref f), (Str.ofString "default", .none)]) (EP X (pf ++ pins) σ Q) X.xe s := by
  have hname : (toString "min" ++ toString ".loop" : String) = "min.loop" := by decide
  obtain ⟨its, rv, hl, hz⟩ := I.list hs
  have hll : l < s.heap.objs.size := by
    obtain ⟨ol, hol, _⟩ := hl.isList
    exact Heap.lt_size hol
  refine kmk_tree PySem.F.kind_min PySem.F.plain_min PySem.F.entry_min (min_args _ _ _) ?_
  show wpAny (model X.prog X.w) X.A.in1 (Builtin.Builtins.bindParams "min" ["key", "default"] 0 ⟨[], [(Str.ofString "key", .ref f), (Str.ofString "default", .none)]⟩ >>= _) _ _ s
  refine wpAny_bind (wpAny_of_eq (show Builtin.Builtins.bindParams "min" ["key", "default"] 0 ⟨[], [(Str.ofString "key", .ref f), (Str.ofString "default", .none)]⟩ = pure [some (.ref f), some .none] from rfl) ?_)
  refine wpAny_bind (wpAny_pure (wpAny_bind (wpAny_pyIter_list hl.isList ?_)))
  refine wpAny_bind (wpAny_newList (items := []) ?_ (Nat.zero_le _))
  rw [hname]
  have hS : (s.heap.push { cls := .type "list_iterator", data := .fields #[.ref l, .int 0 0] }).objs.size = s.heap.objs.size + 1 := size_push' ..
  have wI := Own.fresh I (Nat.le_refl _)
  have nI : H s.heap.objs.size = none := I.hok.fresh (Nat.le_refl _)
  have wS : Own X (pf ++ pins) (s.heap.push { cls := .type "list_iterator", data := .fields #[.ref l, .int 0 0] }).objs.size := Own.fresh I (by rw [hS]; exact Nat.le_succ _)
  have nS : H (s.heap.push { cls := .type "list_iterator", data := .fields #[.ref l, .int 0 0] }).objs.size = none := I.hok.fresh (by rw [hS]; exact Nat.le_succ _)
  have hSI : (s.heap.push { cls := .type "list_iterator", data := .fields #[.ref l, .int 0 0] }).objs.size ≠ s.heap.objs.size := by
    rw [hS]
    exact Nat.succ_ne_self _
  have I1 : Inv X (pf ++ pins) σ H { s with heap := (s.heap.push { cls := .type "list_iterator", data := .fields #[.ref l, .int 0 0] }).push (seqObj "list" #[] 0), toks := s.toks } :=
    I.kept fun b o q => Heap.get?_push_of_some _ (Heap.get?_push_of_some _ q)
  have gI : ((s.heap.push { cls := .type "list_iterator", data := .fields #[.ref l, .int 0 0] }).push (seqObj "list" #[] 0)).get? s.heap.objs.size = some { cls := .type "list_iterator", data := .fields #[.ref l, .int 0 0] } := Heap.get?_push_of_some _ (Heap.get?_push_size _ rfl)
  have gS : ((s.heap.push { cls := .type "list_iterator", data := .fields #[.ref l, .int 0 0] }).push (seqObj "list" #[] 0)).get? (s.heap.push { cls := .type "list_iterator", data := .fields #[.ref l, .int 0 0] }).objs.size = some (seqObj "list" #[] 0) := Heap.get?_push_size _ rfl
  refine wpAny_pure ⟨plainId_quiet PySem.F.plain_min_loop _, ?_⟩
  show codeAny _ _ (.builtin "min.loop" ⟨[.ref s.heap.objs.size, .ref f, .ref _], [("default", .none)]⟩) _ { s with heap := (s.heap.push { cls := .type "list_iterator", data := .fields #[.ref l, .int 0 0] }).push (seqObj "list" #[] 0), toks := s.toks }
  generalize (s.heap.push { cls := .type "list_iterator", data := .fields #[.ref l, .int 0 0] }).push (seqObj "list" #[] 0) = h0 at I1 gI gS ⊢
  generalize (s.heap.push { cls := .type "list_iterator", data := .fields #[.ref l, .int 0 0] }).objs.size = S at *
  obtain ⟨its, rv, hl, hz⟩ := I1.list hs
  have W := Walks.list (prog := X.prog) (w := X.w) (A := X.A.in1) hh s.heap.objs.size l (Nat.ne_of_lt hll) its.toArray
  have hsz : its.toArray.size = xs.length := by rw [List.size_toArray, rv.length]
  refine codeAny_builtin (id := "min.loop") PySem.F.entry_min_loop ?_
  rw [Around.under_plainId PySem.F.plain_min_loop _]
  show wpAny (model X.prog X.w) X.A.in1 (seqItems? (.ref S) >>= _) _ _ _
  refine wpAny_bind (wpAny_seqItems gS rfl ?_)
  show wpAny (model X.prog X.w) X.A.in1 (tryCatch (pyNext (.ref s.heap.objs.size)) _ >>= _) _ _ _
  cases xs with
  | nil =>
    refine wpAny_bind (wpAny_tryCatch (W.done { s with heap := h0, toks := s.toks } _ _ ⟨by rw [hsz]; exact ⟨_, gI, rfl, rfl⟩, hl.isList⟩ fun h' tk' hk' => ?_))
    refine wpAny_bind (wpAny_rule (wpAny_pure ?_))
    exact ⟨.non, H, inv_turn (s := { s with heap := h0, toks := s.toks }) I1 wI nI fun a o ha q => hk' a o (by simpa using ha) q, rfl, h1 rfl⟩
  | cons x xs =>
    refine wpAny_bind (wpAny_tryCatch (W.item 0 { s with heap := h0, toks := s.toks } _ _ (by rw [hsz]; exact Nat.succ_pos _) ⟨⟨_, gI, rfl, rfl⟩, hl.isList⟩ fun u h' tk' hP hst' hk' => ?_))
    have hu : its[0]? = some u := by simpa using hP
    have hx : (x :: xs)[0]? = some x := rfl
    obtain ⟨u', hu', rx⟩ := Vals.get rv hx
    rw [hu] at hu'
    cases hu'
    obtain ⟨oI', hoI', hoc, hod⟩ := id hst'.1
    have hS' := hk' S _ (by simpa using hSI) gS
    have I2 : Inv X (pf ++ ((S, seqObj "list" #[] 0) :: (s.heap.objs.size, oI') :: pins)) σ H { s with heap := h', toks := tk' } :=
      inv_pin (inv_pin (inv_turn (s := { s with heap := h0, toks := s.toks }) I1 wI nI fun a o ha q => hk' a o (by simpa using ha) q) wI nI hoI' (fun v z => by rw [hod] at z; cases z)) (wS.cons hSI.symm) nS hS' (fun _ z => by cases z)
    show wpAny (model X.prog X.w) X.A.in1 (tryCatch (holding [u] (call (.ref f) [u])) _ >>= _) _ _ _
    refine wpAny_bind (wpAny_tryCatch (wpAny_holding (wpAny_mono (T _ _ H x u I2 Kp.refl (.head _) rx) (fun z s2 he => ?_) fun _ _ hF => hF.elim)))
    obtain ⟨H2, t2, I3, k2, rfl⟩ := he
    have nS2 := inv_head I3
    have nI2 := inv_head (inv_unpin I3)
    obtain ⟨c2, hc2⟩ : ∃ c2, (s2.heap.update S (Obj.mapSeq fun _ => #[u, .int (key x) t2])).get? S = some (seqObj "list" #[u, .int (key x) t2] c2) := ⟨_, get?_update_seq nS2.1 fun _ => #[u, .int (key x) t2]⟩
    have I4 : Inv X (pf ++ ((s.heap.objs.size, oI') :: pins)) σ H2 { s2 with heap := s2.heap.update S (Obj.mapSeq fun _ => #[u, .int (key x) t2]), toks := s2.toks } :=
      inv_turn (inv_unpin I3) (wS.cons hSI.symm) nS2.2 fun a o ha q => ((Heap.SameBut.update s2.heap S _).2 a ha).trans q
    show wpAny (model X.prog X.w) X.A.in1 (updateSeq S (fun _ => #[u, .int (key x) t2]) >>= _) _ _ _
    refine wpAny_bind (wpAny_updateSeq nS2.1 rfl ?_)
    rw [hname]
    refine wpAny_pure ⟨plainId_quiet PySem.F.plain_min_loop _, min_loop (xs := x :: xs) hh T hs (Nat.ne_of_lt hll) hSI wS wI (fun H3 s3 i b vb I5 k3 hb rb => ⟨b, H3, I5, rb, h2 H3 i b k3 hb⟩) _ 0 0 _ H2 x u t2 c2 oI' rfl (Nat.succ_pos _) (inv_pin I4 (wS.cons hSI.symm) nS2.2 hc2 (fun _ z => by cases z)) k2
      ⟨oI', ((Heap.SameBut.update s2.heap S _).2 _ hSI.symm).trans nI2.1, hoc, hod⟩ hx rx (Nat.le_refl _) fun j' z hj' hz' => ?_⟩
    have e : j' = 0 := by omega
    rw [e] at hz'
    cases hz'
    exact ⟨Int.le_refl _, fun q => by omega⟩
/-- min(e, key=lambda p: body, default=None) -/
def tMinKey (K : PySem.W.Frag) (T : List (Addr × Str)) (N0 N : List Str) (p : Str) (t : TA) (tb : TE) : TE := fun σ H Q => t σ H fun vs H1 => ∃ (l : Addr) (xs : List V) (key : V → Int) (τ : V → L2.St), vs = [.ref l] ∧ SqL K H1 l xs ∧ LamX.Tabs T H1 ∧
  (∀ v, v ∈ xs → CapsN N0 σ N (τ v) p v) ∧ ∀ H2, LamX.ExtN H1 H2 → LamX.Tabs T H2 → (∀ (H3 : Hp) (v : V), v ∈ xs → Kp [] H2 H3 → tb (τ v) H3 fun x H4 => x = .int (key v) ∧ Kp [] H3 H4) ∧
    (xs = [] → Q .non H2) ∧ ∀ (H3 : Hp) (i : Nat) (b : V), Kp [] H2 H3 → Least xs key i b → Q b H3
theorem pe_minKey {T : List (Addr × Str)} {N : List Str} {k : Nat} {c P : Addr} {scope : Scope} {p : Str} {params : Arguments} {e body : Expr} {t : TA} {tb : TE} {p1 kpos lpos dpos npos pos : Pos} {jn : Nat} (hg : Gl X "min") (hm : X.mg "min" = none) (ha : PA X [e] t)
    (TB : LamX.TabB X.base X.mg c P) (hcode : X.env.code = .ref c) (hmT : (P, X.env.qual ++ "<lambda>") ∈ T) (huT : ∀ p ∈ T, p.1 = P → p.2 = X.env.qual ++ "<lambda>") (hr : Room (k + 3) X.A) (L : Lam1 X.env.scope scope p) (hdef : defaultsOf params X.env = ([], []))
    (hbind : ∀ (q : Str) (cl : List (Str × Addr)) (pm cv ctv u : Value), bindArgs (PySem.W.kla_fn "<lambda>" q params body scope cl pm cv ctv) ⟨[u], []⟩ = pure [(p, u)])
    (hbody : ∀ (s : Shared) (H : Hp) (f c' : Addr), Room k (X.A.in1.deeper (LamX.lamEnv X scope s.heap.objs.size f c')) → PE (lam1Cx X X.A.in1 s H N scope f c') body tb)
    (he : backTo pos (starEach [e] X.env) = (false, eval e X.env) :: backTo pos (starEach [] X.env) := by rfl) (hpl : (backTo pos (starEach [e] X.env)).any (·.1) = false := by rfl) :
    PE X (.Call (.Name "min" p1) [e] [⟨some "key", .Lambda params body scope lpos, kpos⟩, ⟨some "default", .Constant .none jn npos, dpos⟩] pos) (tMinKey X.K T X.N N p t tb) := by
  refine ⟨fun pins s σ H Q I h => ?_⟩
  refine wpAny_Call_Name_kw (ld_blt I hg hm (show bootBuiltins "min" = some (.builtin "min") by rfl) ?_ (by decide) (by decide))
  refine PyProof.Rows.callWith_kw (thn (ha.run pos pins s σ H _ I h) fun us s1 ⟨vs, H1, I1, r1, q1⟩ => ?_) he hpl rfl rfl
  obtain ⟨l, xs, key, τ, rfl, hs, hT, hC, q⟩ := q1
  obtain rfl := Vals.ref1 r1
  show wpAny _ _ (evalAll [(do let v ← eval (.Lambda params body scope lpos) X.env; standAt pos; pure v), (do let v ← eval (.Constant .none jn npos) X.env; standAt pos; pure v)]) _ _ s1
  refine wpAny_evalAll_cons (wpAny_bind (LamX.lam_make2 I1 TB hcode hmT huT hT hdef (L.has I1.ok) fun f c' pm ctv H2 s2 I2 eN T2 hf hfn hfr hco => wpAny_bind (wpAny_standAt (wpAny_pure ?_))))
  obtain ⟨hb, hq0, hq⟩ := q H2 eN T2
  have I3 := fn_pin I2 hf rfl hfn hfr
  refine wpAny_evalAll_cons (wpAny_bind (thn ((pe_non (X := X)).run _ s2 σ H2 (fun (x : V) (H3 : Hp) => x = V.non ∧ H3 = H2) I3 ⟨rfl, rfl⟩) fun u s3 ⟨v, H3, I4, rv, ev, eH⟩ => wpAny_bind (wpAny_standAt (wpAny_pure (wpAny_evalAll_nil ?_)))))
  rw [ev] at rv
  rw [eH] at I4
  obtain rfl : u = Value.none := rv
  show wpAny _ _ (call (.builtin "min") [.ref l] [(Str.ofString "key", .ref f), (Str.ofString "default", .none)]) _ _ s3
  refine wpAny_mono (min_key hr.hd (lam1_turn L hco I2.ok.frames hr.in1 (fun u => hbind _ _ _ _ _ u) hC fun s H3 v hv k3 hr3 => ⟨tb, hbody s H3 f c' (hr3.mono (Nat.le_succ _)), hb H3 v hv k3⟩) I4 (sq_ext eN hs) hq0 hq) (fun u s' h => ep_less h) fun _ _ h => h
end
end RD
/-! ### the head of a law whose defs make lambdas -/
namespace RD
open PySem PySem.Spec PyProof.Rows L2 He
section
variable {P : Program} {w : World} {K : PySem.W.Frag} {mg : Str → Option Value} {base : Heap} {CX : CXT} {x qual : Str} {params : Arguments} {body : List Stmt} {scope : Scope} {dvs : List V} {kws : List (Str × V)} {fd : FuncData}
/-- a def whose code object is told -/
theorem fnDc {at_ : Str × Option Str} {N ps : List Str} {k : Nat} {sp : Sp} (F : FunD K x qual params body scope dvs kws (fAd K at_) fd) (S : FnScope N ps scope) (len : ∀ vs H Q E, sp vs H Q E → vs.length = ps.length)
    (hbody : ∀ (A : Around) (outer : List Env) (s : Shared) (H : Hp) (vs : List V) (Q : VK) (E : XK), Room k (A.deeper (envOfC qual scope s.heap.objs.size (fAd K at_) (.ref (codeOf K at_)))) → sp vs H Q E →
      ∃ t, PSs (cxOf CX0 P w K mg base N qual scope (fAd K at_) (.ref (codeOf K at_)) A outer s H E).nox body t ∧ t ⟨fun _ H' => Q .non H', Q, fun _ _ => False, fun _ _ => False⟩ (start N vs) H) : FnOk P w K mg base CX0 (k + 1) (fAd K at_) fd ps sp := by
  obtain ⟨oc, od, dV, kV, doc, pm, an, cdv, ct, osl, e0, lk, hcd, _, _⟩ := F.ex
  obtain ⟨c, hc⟩ := codeIn_ref hcd
  have e : cdv = .ref (codeOf K at_) := by
    rw [hc]
    refine congrArg Value.ref (codeOf_eq lk ?_).symm
    rw [e0]
    exact hc
  subst e0
  subst e
  exact fn_of lk hcd S len fun A outer s H vs Q E hr hsp => let ⟨t, h1, h2⟩ := hbody A outer s H vs Q E hr hsp; ⟨t, h1.nox, h2⟩
end
/-- the tables at the law's entry -/
theorem tabs_nil {tf : List He.Defn} {K : PySem.W.Frag} {T : List (Addr × Str)} {H : Hp} (e : T.map (·.1) = tf.map fun p => (He.cT K p).2) (h : ∀ p ∈ tf.map (He.cT K), H p.2 = some (.tbl #[])) : LamX.Tabs T H := fun p hp => by
  have hm : p.1 ∈ tf.map fun p => (He.cT K p).2 := e ▸ List.mem_map_of_mem hp
  obtain ⟨q, hq, e2⟩ := List.mem_map.mp hm
  refine LamX.TabS.nil ?_
  rw [← e2]
  exact h _ (List.mem_map_of_mem hq)
end RD
/-! ### frames where tables of lambdas may grow -/
namespace RD
open PySem PySem.Spec PyProof.Rows L2 He
def NoTbl (o : HO) : Prop := ∀ t, o ≠ .tbl t
def Kt (T : List (Addr × Str)) (ps : List Addr) (H H' : Hp) : Prop := (∀ b o, H b = some o → NoTbl o → b ∉ ps → H' b = some o) ∧ LamX.Tabs T H'
section
variable {T : List (Addr × Str)} {ps : List Addr} {H H' H'' : Hp} {p q b : Addr} {o : HO}
theorem Kt.refl (h : LamX.Tabs T H) : Kt T ps H H := ⟨fun _ _ e _ _ => e, h⟩
theorem Kt.trans (a : Kt T ps H H') (b : Kt T ps H' H'') : Kt T ps H H'' := ⟨fun c o e n m => b.1 c o (a.1 c o e n m) n m, b.2⟩
theorem Kt.g0 (a : Kt T [] H H') (n : NoTbl o) (e : H b = some o) : H' b = some o := a.1 b o e n (by simp)
theorem Kt.g1 (a : Kt T [p] H H') (n : NoTbl o) (m : b ≠ p) (e : H b = some o) : H' b = some o := a.1 b o e n (by simp [m])
theorem Kt.of0 (a : Kt T [] H H') : Kt T ps H H' := ⟨fun c o e n _ => a.1 c o e n (by simp), a.2⟩
/-- q is none of the things that stand (tables left out) -/
def Frn (H : Hp) (q : Addr) : Prop := ∀ b o, H b = some o → NoTbl o → b ≠ q
theorem Kt.frn (a : Kt T [] H H') {l : Addr} (h : H' l = none) : Frn H l := fun b o e n z => by
  rw [z] at e
  rw [a.g0 n e] at h
  cases h
theorem Frn.kt {l : Addr} (h : Frn H' l) (a : Kt T [] H H') : Frn H l := fun b o e n => h b o (a.g0 n e) n
theorem Frn.kp {l : Addr} (h : Frn H' l) (a : Kp [] H H') : Frn H l := fun b o e n => h b o (a.g0 e) n
theorem Frn.of {l : Addr} (h : H l = none) : Frn H l := fun b o e _ => ne_of_none e h
theorem Kt.ext (a : LamX.ExtN H H') (t : LamX.Tabs T H') : Kt T ps H H' := ⟨fun b o e n _ => a b o e n, t⟩
/-- what a table and its code objects are not -/
def Plain : HO → Prop
  | .tbl _ => False
  | .ext _ => False
  | _ => True
theorem Plain.noTbl (h : Plain o) : NoTbl o := by
  intro t z
  rw [z] at h
  exact h
theorem tabs_kp (h : LamX.Tabs T H) (k : Kp ps H H') (n : ∀ p, p ∈ ps → ∃ o, H p = some o ∧ Plain o) : LamX.Tabs T H' := fun p hp => by
  obtain ⟨tb, h1, h2, h3⟩ := h p hp
  have ne : ∀ b o, H b = some o → ¬ Plain o → b ∉ ps := fun b o e m z => by
    obtain ⟨o', e', w⟩ := n b z
    rw [e] at e'
    cases e'
    exact m w
  refine ⟨tb, k _ _ h1 (ne _ _ h1 (fun z => z)), h2, fun pos cv e => ?_⟩
  obtain ⟨c, e1, e2⟩ := h3 pos cv e
  exact ⟨c, e1, k _ _ e2 (ne _ _ e2 (fun z => z))⟩
theorem Kt.kp (h : LamX.Tabs T H) (k : Kp ps H H') (n : ∀ p, p ∈ ps → ∃ o, H p = some o ∧ Plain o) : Kt T ps H H' := ⟨fun c o e _ m => k c o e m, tabs_kp h k n⟩
theorem Kt.kp0 (h : LamX.Tabs T H) (k : Kp [] H H') : Kt T ps H H' := ⟨fun c o e _ _ => k c o e (by simp), tabs_kp h k (fun _ z => by cases z)⟩
theorem Kt.kp1 (h : LamX.Tabs T H) (k : Kp [p] H H') (e : H p = some o) (w : Plain o) : Kt T [p] H H' := Kt.kp h k fun q hq => by
  rw [List.mem_singleton.mp hq]
  exact ⟨o, e, w⟩
theorem Kt.new (h : LamX.Tabs T H) (e : H p = none) : Kt T ps H (upd H p o) := Kt.kp0 h (Kp.new e)
theorem Kt.wr {u : HO} (a : Kt T ps H H') (h : p ∈ ps) (e : H' p = some u) (w : Plain u) : Kt T ps H (upd H' p o) :=
  ⟨fun c v ev n m => by
    have hc : c ≠ p := fun z => m (z ▸ h)
    rw [upd_ne hc]
    exact a.1 c v ev n m, tabs_kp a.2 (Kp.refl.wr (ps := [p]) (by simp)) fun q hq => by
    rw [List.mem_singleton.mp hq]
    exact ⟨u, e, w⟩⟩
theorem Kt.nw (a : Kt T ps H H') (e : H' p = none) : Kt T ps H (upd H' p o) := a.trans (Kt.new a.2 e)
end
/-! ### a class made with keywords -/
theorem vals_at {xs : List V} {us : List Value} (i : Nat) (h : Vals xs us) : Vals (xs[i]?).toList (us[i]?).toList := by
  cases e : xs[i]? with
  | none => rw [h.none_of e]; exact .nil
  | some x =>
    obtain ⟨u, e2, r⟩ := h.get e
    rw [e2]
    exact .cons r .nil
structure MakKX (P : Program) (w : World) (K : PySem.W.Frag) (mg : Str → Option Value) (base : Heap) (CX : CXT) (k : Nat) (x : Str) (C : Addr) (sp : Sp) (n : Nat) (ks : List Str) (gV : List V → List V → List V) : Prop where
  ex : ∃ (f : Addr) (fd : FuncData) (ps : List Str) (g : List Value → List Value → List Value), Mk K C f ∧ FnOk P w K mg base CX k f fd ps sp ∧ mg x = some (.ref C) ∧ KBn K fd ps (n + 1) ks g gV
theorem pe_makKX {X : Cx} {CX : CXT} {k j n : Nat} {C : Addr} {x : Str} {sp : Sp} {E : XK} {ks : List Str} {gV : List V → List V → List V} {p pos : Pos} {e : Expr} {es : List Expr} {kws : List Keyword} {t tk : TA} (c : MakKX X.prog X.w X.K X.mg X.base CX k x C sp n ks gV) (hr : Room j X.A) (hk : k + 1 ≤ j) (hg : Gl X x) (hx : Passes CX X E) (ha : PA X (e :: es) t) (hkw : PK X kws tk)
    (hall : (backToKw pos (keywordEach kws X.env)).all (·.1.isSome) = true := by rfl) (hks : (backToKw pos (keywordEach kws X.env)).filterMap (·.1) = ks := by rfl) (hdb : (x == ("__debug__" : Str)) = false := by decide)
    (he : starEach (e :: es) X.env = (false, eval e X.env) :: starEach es X.env := by rfl) (hpl : ((backTo pos (starEach (e :: es) X.env)).any (·.1) || (backToKw pos (keywordEach kws X.env)).any (·.1.isNone)) = false := by rfl) :
    PE X (.Call (.Name x p) (e :: es) kws pos) (tMakeK C n ks.length sp gV E t tk) := by
  obtain ⟨f, fd, ps, g, M, F, hm, hb⟩ := c.ex
  exact pe_makeK M F (hr.mono hk) hg hm hb hx ha hkw hall hks hdb he hpl
theorem rd_makeK {σ : L2.St} {H : Hp} {Q : VK} {C : Addr} {n m : Nat} {sp : Sp} {gV : List V → List V → List V} {E : XK} {t tk : TA} (h : t σ H fun vs H1 => tk σ H1 fun zs H2 => vs.length = n ∧ zs.length = m ∧ ∀ x dx, H2 x = none → H2 dx = none → dx ≠ x →
    sp (gV (.ref x :: vs) zs) (upd (upd H2 dx (.own x)) x (.ins C dx [])) (fun v H3 => v = .non ∧ Q (.ref x) H3) E) : tMakeK C n m sp gV E t tk σ H Q := h
/-! ### more readings -/
section
variable {K : PySem.W.Frag} {σ : L2.St} {H : Hp} {Q : VK} {ta : TE}
theorem rd_prop {C : Addr} {sp : Sp} {E : XK} (h : ta σ H fun x H1 => ∃ a dx fs, x = V.ref a ∧ H1 a = some (.ins C dx fs) ∧ sp [.ref a] H1 Q E) : tProp C sp [] E ta σ H Q := h
theorem rd_propX {C a dx : Addr} {fs : List (Str × V)} {R : Addr → Prop} (h : H a = some (.ins C dx fs)) (q : R a) : ∃ a' dx' fs', V.ref a = V.ref a' ∧ H a' = some (.ins C dx' fs') ∧ R a' := ⟨a, dx, fs, rfl, h, q⟩
theorem rd_revL {te : TE} (h : te σ H fun x H1 => ∃ a xs, x = V.ref a ∧ SqL K H1 a xs ∧ ∀ p, H1 p = none → Q (.ref p) (upd H1 p (.lst xs.reverse))) : tRevL K te σ H Q := h
theorem rd_revLX {a : Addr} {xs : List V} {R : List V → Prop} (h : SqL K H a xs) (q : R xs) : ∃ a' ys, V.ref a = V.ref a' ∧ SqL K H a' ys ∧ R ys := ⟨a, xs, rfl, h, q⟩
end
end RD
namespace RD
open PySem PySem.Spec PyProof.Rows L2 He
/-! ### comprehensions that only look -/
theorem filter_take {α : Type} {p : α → Bool} {ns : List α} {i : Nat} (h : i < ns.length) : (ns.take (i + 1)).filter p = (ns.take i).filter p ++ (if p ns[i] = true then [ns[i]] else []) := by
  rw [List.take_succ_eq_append_getElem h, List.filter_append]
  congr 1
  cases e : p ns[i] <;> simp [e]
section
variable {K : PySem.W.Frag} {σ : L2.St} {H : Hp} {te : TE} {tt : TT}
theorem lcF_ints {a D : Addr} {g : TG} {vs : List Nat} {Qd : Hp → Prop} (ns : List Int) (p : Int → Bool) (f : Int → V) (hS : SqL K H a (ns.map V.int)) (hD : H D = none) (hl : ns.length < 1000000)
    (hs : ∀ (i : Nat) (h : i < ns.length) H1 (E : VK) (N : Hp → Prop), Kp [] H H1 → (∀ H4, Kp [] H1 H4 → p ns[i] = true → E (f ns[i]) H4) → (∀ H3, Kp [] H1 H3 → p ns[i] = false → N H3) → g (.int ns[i]) (wipe σ vs) H1 fun σ2 H2 => wipe σ2 vs = wipe σ vs ∧ tt σ2 H2 fun b H3 => if b = true then te σ2 H3 E else N H3)
    (hd : ∀ H', Kp [] H H' → H' D = some (.lst ((ns.filter p).map f)) → Qd H') : LcG (Itl K a) g tt te vs σ D Qd H := by
  refine lcL_ints ns (fun i H' => H' D = some (.lst (((ns.take i).filter p).map f)) ∧ Kp [] H H') ⟨upd_same, Kp.new hD⟩ (fun i H' _ q => sl_kp q.2 (by simp) hS) (fun i hi H' q => ?_) (fun H' q => ?_)
  · refine hs i hi H' _ _ q.2 (fun H4 k4 hp => ?_) (fun H3 k3 hp => ?_)
    · have fl : (((ns.take i).filter p).map f).length < sizeLine := szlt (by
        rw [List.length_map]
        have h1 := List.length_filter_le p (ns.take i)
        rw [List.length_take] at h1
        omega)
      refine ⟨_, k4.g0 q.1, fl, ?_, Kp.mine (q.2.trans k4) hD⟩
      rw [upd_same, filter_take hi, if_pos hp, List.map_append]
      rfl
    · refine ⟨?_, q.2.trans k3⟩
      rw [filter_take hi, if_neg (by rw [hp]; exact Bool.false_ne_true), List.append_nil]
      exact k3.g0 q.1
  · rw [List.take_length] at q
    exact hd H' q.2 q.1
theorem lcF_range {lo : Int} {n : Nat} {D : Addr} {g : TG} {vs : List Nat} {Qd : Hp → Prop} (p : Nat → Bool) (f : Nat → V) (hD : H D = none) (hl : n < 1000000)
    (hs : ∀ (i : Nat) (h : i < n) H1 (E : VK) (N : Hp → Prop), Kp [] H H1 → (∀ H4, Kp [] H1 H4 → p i = true → E (f i) H4) → (∀ H3, Kp [] H1 H3 → p i = false → N H3) → g (.int (lo + i)) (wipe σ vs) H1 fun σ2 H2 => wipe σ2 vs = wipe σ vs ∧ tt σ2 H2 fun b H3 => if b = true then te σ2 H3 E else N H3)
    (hd : ∀ H', Kp [] H H' → H' D = some (.lst (((List.range n).filter p).map f)) → Qd H') : LcG (Itr lo n) g tt te vs σ D Qd H := by
  refine lcR_by (fun i H' => H' D = some (.lst (((List.range i).filter p).map f)) ∧ Kp [] H H') ⟨upd_same, Kp.new hD⟩ (fun i H' hi q => ?_) (fun H' q => hd H' q.2 q.1)
  have er : (List.range (i + 1)).filter p = (List.range i).filter p ++ (if p i = true then [i] else []) := by
    rw [List.range_succ, List.filter_append]
    congr 1
    cases e : p i <;> simp [e]
  refine hs i hi H' _ _ q.2 (fun H4 k4 hp => ?_) (fun H3 k3 hp => ?_)
  · have fl : (((List.range i).filter p).map f).length < sizeLine := szlt (by
      rw [List.length_map]
      have h1 := List.length_filter_le p (List.range i)
      rw [List.length_range] at h1
      omega)
    refine ⟨_, k4.g0 q.1, fl, ?_, Kp.mine (q.2.trans k4) hD⟩
    rw [upd_same, er, if_pos hp, List.map_append]
    rfl
  · refine ⟨?_, q.2.trans k3⟩
    rw [er, if_neg (by rw [hp]; exact Bool.false_ne_true), List.append_nil]
    exact k3.g0 q.1
end
def keyV (f : Int → Int) : V → Int
  | .int i => f i
  | _ => 0
theorem sort_keyV (f : Int → Int) (ns : List Int) : ((ns.map V.int).mergeSort fun a b => decide (keyV f a ≤ keyV f b)) = (ns.mergeSort fun a b => decide (f a ≤ f b)).map V.int :=
  (List.map_mergeSort (f := V.int) (r := fun a b => decide (f a ≤ f b)) (s := fun a b => decide (keyV f a ≤ keyV f b)) fun _ _ _ _ => rfl).symm
end RD
namespace RD
open PySem PySem.Spec PyProof.Rows L2 He
section
variable {K : PySem.W.Frag} {σ : L2.St} {H : Hp} {T : List (Addr × Str)} {N0 N : List Str} {p : Str} {t : TA} {tb : TE} {Q : VK}
theorem rd_sortKey (h : t σ H fun vs H1 => ∃ (l : Addr) (xs : List V) (key : V → Int) (τ : V → L2.St), vs = [.ref l] ∧ SqL K H1 l xs ∧ LamX.Tabs T H1 ∧
  (∀ v, v ∈ xs → CapsN N0 σ N (τ v) p v) ∧ ∀ H2, LamX.ExtN H1 H2 → LamX.Tabs T H2 → (∀ (H3 : Hp) (v : V), v ∈ xs → Kp [] H2 H3 → tb (τ v) H3 fun x H4 => x = .int (key v) ∧ Kp [] H3 H4) ∧
    ∀ (H3 : Hp) (q : Addr), Kp [] H2 H3 → H3 q = none → Q (.ref q) (upd H3 q (.lst (xs.mergeSort fun a b => decide (key a ≤ key b))))) : tSortKey K T N0 N p t tb σ H Q := h
theorem rd_minKey (h : t σ H fun vs H1 => ∃ (l : Addr) (xs : List V) (key : V → Int) (τ : V → L2.St), vs = [.ref l] ∧ SqL K H1 l xs ∧ LamX.Tabs T H1 ∧
  (∀ v, v ∈ xs → CapsN N0 σ N (τ v) p v) ∧ ∀ H2, LamX.ExtN H1 H2 → LamX.Tabs T H2 → (∀ (H3 : Hp) (v : V), v ∈ xs → Kp [] H2 H3 → tb (τ v) H3 fun x H4 => x = .int (key v) ∧ Kp [] H3 H4) ∧
    (xs = [] → Q .non H2) ∧ ∀ (H3 : Hp) (i : Nat) (b : V), Kp [] H2 H3 → Least xs key i b → Q b H3) : tMinKey K T N0 N p t tb σ H Q := h
/-- of a list of ints, at the key f -/
theorem rd_sortI {D : Addr} (f : Int → Int) (ns : List Int) (τ : Int → L2.St) (hS : SqL K H D (ns.map V.int)) (hT : LamX.Tabs T H) (hC : ∀ n, CapsN N0 σ N (τ n) p (.int n))
    (hb : ∀ (H3 : Hp) (n : Int) (Q' : VK), n ∈ ns → Kt T [] H H3 → Q' (.int (f n)) H3 → tb (τ n) H3 Q')
    (hq : ∀ (H3 : Hp) (q : Addr), Kt T [] H H3 → H3 q = none → Q (.ref q) (upd H3 q (.lst ((ns.mergeSort fun a b => decide (f a ≤ f b)).map V.int)))) :
    ∃ (l : Addr) (xs : List V) (key : V → Int) (τ : V → L2.St), [V.ref D] = [.ref l] ∧ SqL K H l xs ∧ LamX.Tabs T H ∧
      (∀ v, v ∈ xs → CapsN N0 σ N (τ v) p v) ∧ ∀ H2, LamX.ExtN H H2 → LamX.Tabs T H2 → (∀ (H3 : Hp) (v : V), v ∈ xs → Kp [] H2 H3 → tb (τ v) H3 fun x H4 => x = .int (key v) ∧ Kp [] H3 H4) ∧
        ∀ (H3 : Hp) (q : Addr), Kp [] H2 H3 → H3 q = none → Q (.ref q) (upd H3 q (.lst (xs.mergeSort fun a b => decide (key a ≤ key b)))) := by
  refine ⟨D, _, keyV f, fun v => match v with | .int n => τ n | _ => [], rfl, hS, hT, fun v hv => ?_, fun H2 e2 t2 => ⟨fun H3 v hv k3 => ?_, fun H3 q k3 nq => ?_⟩⟩
  · obtain ⟨n, _, rfl⟩ := List.mem_map.mp hv
    exact hC n
  · obtain ⟨n, hn, rfl⟩ := List.mem_map.mp hv
    exact hb H3 n _ hn ((Kt.ext e2 t2).trans (Kt.kp0 t2 k3)) ⟨rfl, Kp.refl⟩
  · rw [sort_keyV]
    exact hq H3 q ((Kt.ext e2 t2).trans (Kt.kp0 t2 k3)) nq
theorem rd_minI {D : Addr} (f : Int → Int) (ns : List Int) (τ : Int → L2.St) (hS : SqL K H D (ns.map V.int)) (hT : LamX.Tabs T H) (hC : ∀ n, CapsN N0 σ N (τ n) p (.int n))
    (hb : ∀ (H3 : Hp) (n : Int) (Q' : VK), n ∈ ns → Kt T [] H H3 → Q' (.int (f n)) H3 → tb (τ n) H3 Q')
    (h0 : ∀ (H3 : Hp), ns = [] → Kt T [] H H3 → Q .non H3)
    (h1 : ∀ (H3 : Hp) (i : Nat) (b : Int), Kt T [] H H3 → ns[i]? = some b → (∀ (j : Nat) (z : Int), ns[j]? = some z → f b ≤ f z ∧ (j < i → f b < f z)) → Q (.int b) H3) :
    ∃ (l : Addr) (xs : List V) (key : V → Int) (τ : V → L2.St), [V.ref D] = [.ref l] ∧ SqL K H l xs ∧ LamX.Tabs T H ∧
      (∀ v, v ∈ xs → CapsN N0 σ N (τ v) p v) ∧ ∀ H2, LamX.ExtN H H2 → LamX.Tabs T H2 → (∀ (H3 : Hp) (v : V), v ∈ xs → Kp [] H2 H3 → tb (τ v) H3 fun x H4 => x = .int (key v) ∧ Kp [] H3 H4) ∧
        (xs = [] → Q .non H2) ∧ ∀ (H3 : Hp) (i : Nat) (b : V), Kp [] H2 H3 → Least xs key i b → Q b H3 := by
  refine ⟨D, _, keyV f, fun v => match v with | .int n => τ n | _ => [], rfl, hS, hT, fun v hv => ?_, fun H2 e2 t2 => ⟨fun H3 v hv k3 => ?_, fun e => ?_, fun H3 i b k3 hl => ?_⟩⟩
  · obtain ⟨n, _, rfl⟩ := List.mem_map.mp hv
    exact hC n
  · obtain ⟨n, hn, rfl⟩ := List.mem_map.mp hv
    exact hb H3 n _ hn ((Kt.ext e2 t2).trans (Kt.kp0 t2 k3)) ⟨rfl, Kp.refl⟩
  · exact h0 H2 (List.map_eq_nil_iff.mp e) (Kt.ext e2 t2)
  · obtain ⟨e1, e3⟩ := hl
    rw [List.getElem?_map] at e1
    obtain ⟨n, hn, rfl⟩ := Option.map_eq_some_iff.mp e1
    refine h1 H3 i n ((Kt.ext e2 t2).trans (Kt.kp0 t2 k3)) hn fun j z hz => ?_
    exact e3 j (.int z) (by rw [List.getElem?_map, hz]; rfl)
end
end RD
namespace RD
open PySem PySem.Spec PyProof.Rows L2 He
/-! ### wide divisors, fields that are added to, least of a list -/
theorem wide60 {i j : Int} (h0 : 0 < j) (h1 : j < 1152921504606846976) : CDivW i j := wide_div (b := 60) h0 (by omega) (by decide) (by decide)
theorem ixN_at {n : Nat} {i : Int} (h0 : 0 ≤ i) (h1 : i < n) : ixN n i = some i.toNat := by
  unfold ixN
  rw [if_pos h0, if_pos h1]
section
variable {K : PySem.W.Frag} {σ : L2.St} {H : Hp} {nx bk ct : L2.St → Hp → Prop} {rt : VK} {ta tv : TE} {Q : VK} {v : V} {i j : Int}
theorem rd_sfldaug {rd : V → V → Hp → VK → Prop} {f : Str} (h : ta σ H fun x H1 => ∃ a C dx fs v, x = .ref a ∧ H1 a = some (.ins C dx fs) ∧ Cls K C ∧ NoAttr K C f ∧ fs.lookup f = some v ∧
  tv σ H1 fun y H2 => rd v y H2 fun z H3 => ∃ dx' fs', H3 a = some (.ins C dx' fs') ∧ fs'.length < 1000 ∧ nx σ (upd H3 a (.ins C dx' (putF f z fs')))) : sFldAug K ta tv rd f ⟨nx, rt, bk, ct⟩ σ H := h
theorem rd_sfldaugX {f : Str} {a C dx : Addr} {fs : List (Str × V)} {R : Addr → Addr → V → Prop} (h : H a = some (.ins C dx fs)) (c : Cls K C) (n : NoAttr K C f) (l : fs.lookup f = some v) (q : R a C v) :
    ∃ a' C' dx' fs' v', V.ref a = V.ref a' ∧ H a' = some (.ins C' dx' fs') ∧ Cls K C' ∧ NoAttr K C' f ∧ fs'.lookup f = some v' ∧ R a' C' v' := ⟨a, C, dx, fs, v, rfl, h, c, n, l, q⟩
theorem rd_insX {a C dx : Addr} {fs : List (Str × V)} {R : Addr → List (Str × V) → Prop} (h : H a = some (.ins C dx fs)) (l : fs.length < 1000) (q : R dx fs) : ∃ dx' fs', H a = some (.ins C dx' fs') ∧ fs'.length < 1000 ∧ R dx' fs' := ⟨dx, fs, h, l, q⟩
theorem rd_addI (h : Q (.int (i + j)) H) : rAdd (.int i) (.int j) H Q := ⟨i, j, rfl, rfl, h⟩
theorem rd_subI (h : Q (.int (i - j)) H) : rSub (.int i) (.int j) H Q := ⟨i, j, rfl, rfl, h⟩
theorem rd_minL {a : Addr} {ns : List Int} (h : SqL K H a (ns.map V.int)) (l : 0 < ns.length) (q : ∀ m, m ∈ ns → (∀ y, y ∈ ns → m ≤ y) → Q (.int m) H) : rMin K [.ref a] H Q := ⟨a, ns, rfl, h, l, q⟩
end
/-- an optional int -/
abbrev ov : Option Int → V
  | none => .non
  | some i => .int i
theorem ov_non {o : Option Int} : decide (ov o = V.non) = o.isNone := by
  cases o with
  | none => rfl
  | some i => exact decide_eq_false (by intro z; cases z)
/-- the first on the way from a place on -/
def FirstOf (r place : Int) (xs : List Int) : Option Int → Prop
  | none => xs = []
  | some b => b ∈ xs ∧ ∀ z, z ∈ xs → (b - place) % r ≤ (z - place) % r
end RD
namespace RD
open PySem PySem.Spec PyProof.Rows L2 He
/-! ### look-ups whose value comes out plain -/
def lookV {κ : Type} [DecidableEq κ] : List (κ × V) → κ → Option V
  | [], _ => none
  | (a, v) :: r, k => if a = k then some v else lookV r k
theorem lookV_eq {κ : Type} [DecidableEq κ] (k : κ) : ∀ kvs : List (κ × V), valV kvs k = lookV kvs k
  | [] => rfl
  | (a, v) :: r => by
    unfold lookV
    by_cases h : a = k
    · rw [if_pos h]
      exact valV_pos h
    · rw [if_neg h, valV_neg h]
      exact lookV_eq k r
theorem dg_sl {H : Hp} {a : Addr} {v : V} {kvs : List (Key × V)} {s : Str} (e : H a = some (.dK kvs)) (l : lookV kvs (.inr s) = some v) : DGet H a (.str s) (some v) := dg_sv e ((lookV_eq _ _).trans l)
theorem Kt.mine {T : List (Addr × Str)} {ps : List Addr} {H H' : Hp} {p : Addr} {o u : HO} (a : Kt T ps H H') (f : Frn H p) (e : H' p = some u) (w : Plain u) : Kt T ps H (upd H' p o) :=
  ⟨fun c v ev n m => by
    rw [upd_ne (f c v ev n)]
    exact a.1 c v ev n m, tabs_kp a.2 (Kp.refl.wr (ps := [p]) (by simp)) fun q hq => by
    rw [List.mem_singleton.mp hq]
    exact ⟨u, e, w⟩⟩
theorem Kt.mono {T : List (Addr × Str)} {ps qs : List Addr} {H H' : Hp} (a : Kt T ps H H') (h : ∀ p, p ∈ ps → p ∈ qs) : Kt T qs H H' := ⟨fun c o e n m => a.1 c o e n fun z => m (h c z), a.2⟩
theorem Kt.kpP {T : List (Addr × Str)} {ps qs : List Addr} {H H' H2 : Hp} (a : Kt T ps H H') (k : Kp qs H' H2) (n : ∀ p, p ∈ qs → p ∈ ps ∧ ∃ o, H' p = some o ∧ Plain o) : Kt T ps H H2 := a.trans ((Kt.kp a.2 k fun p hp => (n p hp).2).mono fun p hp => (n p hp).1)
end RD
namespace RD
open PySem PySem.Spec PyProof.Rows L2 He
theorem rd_sumL {K : PySem.W.Frag} {H : Hp} {Q : VK} {a : Addr} {ns : List Int} (h : SqL K H a (ns.map V.int)) (q : Q (.int ns.sum) H) : rSum K [.ref a] H Q := ⟨a, ns, rfl, h, q⟩
end RD
namespace RD
open PySem PySem.Spec PyProof.Rows L2 He
/-! ### defs called with keywords, dicts of ints, dict comprehensions -/
structure CalKX (P : Program) (w : World) (K : PySem.W.Frag) (mg : Str → Option Value) (base : Heap) (CX : CXT) (k : Nat) (x : Str) (sp : Sp) (n : Nat) (ks : List Str) (gV : List V → List V → List V) : Prop where
  ex : ∃ (f : Addr) (fd : FuncData) (ps : List Str) (g : List Value → List Value → List Value), FnOk P w K mg base CX k f fd ps sp ∧ mg x = some (.ref f) ∧ PySem.W.keepIn K (.ref f) = true ∧ KBn K fd ps n ks g gV
theorem pe_calKX {X : Cx} {CX : CXT} {k j n : Nat} {x : Str} {sp : Sp} {E : XK} {ks : List Str} {gV : List V → List V → List V} {p pos : Pos} {e : Expr} {es : List Expr} {kws : List Keyword} {t tk : TA} (c : CalKX X.prog X.w X.K X.mg X.base CX k x sp n ks gV) (hr : Room j X.A) (hk : k ≤ j) (hg : Gl X x) (hx : Passes CX X E) (ha : PA X (e :: es) t) (hkw : PK X kws tk)
    (hall : (backToKw pos (keywordEach kws X.env)).all (·.1.isSome) = true := by rfl) (hks : (backToKw pos (keywordEach kws X.env)).filterMap (·.1) = ks := by rfl) (hdb : (x == ("__debug__" : Str)) = false := by decide)
    (he : starEach (e :: es) X.env = (false, eval e X.env) :: starEach es X.env := by rfl) (hpl : ((backTo pos (starEach (e :: es) X.env)).any (·.1) || (backToKw pos (keywordEach kws X.env)).any (·.1.isNone)) = false := by rfl) :
    PE X (.Call (.Name x p) (e :: es) kws pos) (tCallN n ks.length sp gV E t tk) := by
  obtain ⟨f, fd, ps, g, F, hm, kp, hb⟩ := c.ex
  exact pe_callN F (hr.mono hk) hg hm kp hb hx ha hkw hall hks hdb he hpl
/-- a dict with int keys, by the keys and a function -/
def dmap (xs : List Int) (f : Int → V) : List (Key × V) := xs.map fun x => (Sum.inl x, f x)
def fset {α : Type} (f : Int → α) (a : Int) (v : α) : Int → α := fun x => if x = a then v else f x
theorem dmap_val {f : Int → V} (a : Int) : ∀ xs : List Int, valV (dmap xs f) (.inl a) = if a ∈ xs then some (f a) else none
  | [] => rfl
  | x :: r => by
    have ih := dmap_val (f := f) a r
    unfold dmap at ih ⊢
    rw [List.map_cons]
    by_cases h : x = a
    · subst h
      rw [valV_pos rfl, if_pos (.head _)]
    · rw [valV_neg (fun e => h (Sum.inl.inj e)), ih]
      by_cases h2 : a ∈ r
      · rw [if_pos h2, if_pos (List.mem_cons_of_mem _ h2)]
      · rw [if_neg h2, if_neg (by simp [h2, Ne.symm h])]
theorem dmap_in {f : Int → V} {a : Int} {xs : List Int} (h : a ∈ xs) : valV (dmap xs f) (.inl a) = some (f a) := by rw [dmap_val, if_pos h]
theorem dmap_out {f : Int → V} {a : Int} {xs : List Int} (h : a ∉ xs) : valV (dmap xs f) (.inl a) = none := by rw [dmap_val, if_neg h]
theorem dmap_congr {f g : Int → V} {xs : List Int} (h : ∀ x, x ∈ xs → f x = g x) : dmap xs f = dmap xs g := List.map_congr_left fun x hx => by rw [h x hx]
theorem dmap_new {f : Int → V} {a : Int} {v : V} {xs : List Int} (h : a ∉ xs) : putK (dmap xs f) (.inl a) v = dmap (xs ++ [a]) (fset f a v) := by
  rw [putK_new _ (dmap_out h)]
  unfold dmap
  rw [List.map_append]
  congr 1
  · refine List.map_congr_left fun x hx => ?_
    unfold fset
    rw [if_neg (show ¬ x = a from fun e => h (e ▸ hx))]
  · unfold fset
    simp
theorem dmap_old {f : Int → V} {a : Int} {v : V} {xs : List Int} (h : a ∈ xs) : putK (dmap xs f) (.inl a) v = dmap xs (fset f a v) := by
  unfold putK dmap
  have e : ((xs.map fun x => ((Sum.inl x : Key), f x)).any fun p => decide (p.1 = Sum.inl a)) = true := by
    rw [List.any_eq_true]
    exact ⟨_, List.mem_map_of_mem h, decide_eq_true rfl⟩
  rw [if_pos (by simpa using e), List.map_map]
  refine List.map_congr_left fun x _ => ?_
  unfold fset
  by_cases hx : x = a
  · subst hx
    simp
  · simp [hx]
theorem dmap_len {f : Int → V} {xs : List Int} : (dmap xs f).length = xs.length := List.length_map _
theorem pickI {d : Int} (ns : List Int) (h0 : 0 ≤ d) (h1 : d < ns.length) : ∃ n, n ∈ ns ∧ atI (ns.map V.int) d = some (.int n) := by
  have h : d.toNat < ns.length := by omega
  refine ⟨ns[d.toNat], List.getElem_mem h, ?_⟩
  rw [atI_ints h0 h1, List.getD_eq_getElem?_getD, List.getElem?_eq_getElem h]
  rfl
end RD
namespace RD
open PySem PySem.Spec PyProof.Rows L2 He
section
variable {K : PySem.W.Frag} {σ : L2.St} {H : Hp} {tt : TT} {tk tv : TE} {Q : VK}
/-- what a dict comprehension over J asks -/
def DcG (J : It) (g : TG) (tt : TT) (tk tv : TE) (vs : List Nat) (σ : L2.St) (D : Addr) (Qd : Hp → Prop) (H1 : Hp) : Prop :=
  ∃ W : Nat → Nat → Hp → Prop, (∃ m, W 0 m (upd H1 D (.dK []))) ∧ ∀ i m H, W i m H →
  (J.stop i H ∧ Qd H) ∨ (J.go i H ∧ ∃ Nx : Hp → Prop, (∀ H', Nx H' → ∃ m', m' < m ∧ W (i + 1) m' H') ∧ ∀ x H', J.yld i H x H' → g x (wipe σ vs) H' fun σ2 H2 => wipe σ2 vs = wipe σ vs ∧ tt σ2 H2 fun b H3 =>
    if b = true then tk σ2 H3 fun y H4 => tv σ2 H4 fun z H5 => ∃ kvs k, y = kV k ∧ H5 D = some (.dK kvs) ∧ kvs.length < sizeLine ∧ Nx (upd H5 D (.dK (putK kvs k z))) else Nx H3)
theorem rd_dc {wi : TI} {g : TG} {vs : List Nat} (h : wi σ H fun J H1 => ∀ D, H1 D = none → DcG J g tt tk tv vs σ D (fun H => Q (.ref D) H) H1) : tDc wi g tt tk tv vs σ H Q := h
theorem dcL_ints {a D : Addr} {g : TG} {vs : List Nat} {Qd : Hp → Prop} (ns : List Int) (Pv : Nat → Hp → Prop) (h0 : Pv 0 (upd H D (.dK []))) (hl : ∀ i H, i ≤ ns.length → Pv i H → SqL K H a (ns.map V.int))
    (hs : ∀ (i : Nat) (h : i < ns.length) H, Pv i H → g (.int ns[i]) (wipe σ vs) H fun σ2 H2 => wipe σ2 vs = wipe σ vs ∧ tt σ2 H2 fun b H3 =>
      if b = true then tk σ2 H3 fun y H4 => tv σ2 H4 fun z H5 => ∃ kvs k, y = kV k ∧ H5 D = some (.dK kvs) ∧ kvs.length < sizeLine ∧ Pv (i + 1) (upd H5 D (.dK (putK kvs k z))) else Pv (i + 1) H3) (hd : ∀ H, Pv ns.length H → Qd H) : DcG (Itl K a) g tt tk tv vs σ D Qd H := by
  refine ⟨fun i m H => m = ns.length - i ∧ i ≤ ns.length ∧ Pv i H, ⟨ns.length, by simp, Nat.zero_le _, h0⟩, ?_⟩
  rintro i m H ⟨rfl, hi, p⟩
  have q := hl i H hi p
  by_cases hlt : i < ns.length
  · have e : (ns.map V.int)[i]? = some (.int ns[i]) := by
      rw [List.getElem?_map, List.getElem?_eq_getElem hlt]
      rfl
    refine .inr ⟨⟨_, _, q, e⟩, Pv (i + 1), fun H' p' => ⟨ns.length - (i + 1), by omega, rfl, hlt, p'⟩, fun x H' y => ?_⟩
    obtain ⟨rfl, hz⟩ := y
    have ex := hz _ q
    rw [e] at ex
    cases ex
    exact hs i hlt _ p
  · have e : i = ns.length := by omega
    subst e
    exact .inl ⟨⟨_, q, by rw [List.length_map]; exact Nat.le_refl _⟩, hd H p⟩
theorem rd_dictD {a : Addr} {kvs : List (Key × V)} (h : H a = some (.dK kvs)) (q : ∀ p, H p = none → Q (.ref p) (upd H p (.dK kvs))) : (∃ (a' : Addr) (kvs' : List (Key × V)), [V.ref a] = [.ref a'] ∧ Rd H a' (.dK kvs') ∧ ∀ p, H p = none → Q (.ref p) (upd H p (.dK kvs'))) := ⟨a, kvs, rfl, .inl h, q⟩
theorem dg_ii {a b : Addr} {kvs : List (List Key × V)} {s z : Int} (e : H a = some (.dT kvs)) (eb : H b = some (.tup [.int s, .int z])) : DGet H a (.ref b) (valV kvs [.inl s, .inl z]) := DGet.t (k := [.inl s, .inl z]) e eb
theorem dp_ii {a b : Addr} {kvs : List (List Key × V)} {s z : Int} {v : V} (e : H a = some (.dT kvs)) (eb : H b = some (.tup [.int s, .int z])) (l : kvs.length < sizeLine) : DPut H a (.ref b) v (upd H a (.dT (putK kvs [.inl s, .inl z] v))) := DPut.t (k := [.inl s, .inl z]) e eb l
end
/-- a table of numbers by two ints -/
structure Tab2 (H : Hp) (d : Addr) (g : Int → Int → Int) (m : Nat) : Prop where
  ex : ∃ kvs : List (List Key × V), H d = some (.dT kvs) ∧ kvs.length ≤ m ∧ ∀ s z, (valV kvs [.inl s, .inl z]).getD (.int 0) = .int (g s z)
theorem Tab2.kp {H H' : Hp} {d : Addr} {f : Int → Int → Int} {m : Nat} {ps : List Addr} (B : Tab2 H d f m) (k : Kp ps H H') (n : d ∉ ps) : Tab2 H' d f m := by
  obtain ⟨kvs, h1, h2, h3⟩ := B.ex
  exact ⟨kvs, k _ _ h1 n, h2, h3⟩
theorem Tab2.mono {H : Hp} {d : Addr} {f : Int → Int → Int} {m m' : Nat} (B : Tab2 H d f m) (h : m ≤ m') : Tab2 H d f m' := by
  obtain ⟨kvs, h1, h2, h3⟩ := B.ex
  exact ⟨kvs, h1, Nat.le_trans h2 h, h3⟩
theorem key2_iff {s a z b : Int} : ([Sum.inl a, Sum.inl b] : List Key) = [Sum.inl s, Sum.inl z] ↔ a = s ∧ b = z := by
  constructor
  · intro e
    injection e with e1 e2
    injection e2 with e3 _
    exact ⟨Sum.inl.inj e1, Sum.inl.inj e3⟩
  · rintro ⟨rfl, rfl⟩
    rfl
theorem tab2_put {kvs : List (List Key × V)} {f : Int → Int → Int} {s z v : Int} (h : ∀ s z, (valV kvs [.inl s, .inl z]).getD (.int 0) = .int (f s z)) :
    ∀ a b, (valV (putK kvs [.inl s, .inl z] (.int v)) [.inl a, .inl b]).getD (.int 0) = .int (if a = s ∧ b = z then v else f a b) := by
  intro a b
  rw [valV_put]
  by_cases e : a = s ∧ b = z
  · rw [if_pos e, if_pos (key2_iff.mpr e)]
    rfl
  · rw [if_neg e, if_neg (fun q => e (key2_iff.mp q))]
    exact h a b
end RD

/-! own layer: getters of properties in the head -/
namespace RD
open PySem PySem.Spec PyProof.Rows L2 He
/-- the property object of the class's name, its getter -/
def prA (K : PySem.W.Frag) (c f : Str) : Addr := ma K (ga K c) f
def prG (K : PySem.W.Frag) (c f : Str) : Addr := match PySem.W.recIn K (prA K c f) "property" with
  | some (.ref g :: _) => g
  | _ => 0
def propB (K : PySem.W.Frag) (c f : Str) : Bool :=
  eqO (PySem.W.findIn K (.ref (ga K c)) f) (some (some (.ref (prA K c f)))) && (eqO (PySem.W.specialIn K (.ref (prA K c f)) "__get__") (some (some (.builtin "property.__get__"))) && (decide (PySem.W.takesIn K (.ref (prA K c f)) = some true) && (match PySem.W.recIn K (prA K c f) "property" with
    | some (.ref g :: _) => decide (g = prG K c f)
    | _ => false)))
theorem propB_ok {K : PySem.W.Frag} {c f : Str} (h : propB K c f = true) : PropOf K (ga K c) f (prA K c f) (prG K c f) := by
  obtain ⟨h1, h2⟩ := ba h
  obtain ⟨h3, h4⟩ := ba h2
  obtain ⟨h5, h6⟩ := ba h4
  refine ⟨eqO_ok h1, eqO_ok h3, of_decide_eq_true h5, ?_⟩
  cases e : PySem.W.recIn K (prA K c f) "property" with
  | none =>
    rw [e] at h6
    cases h6
  | some l =>
    rw [e] at h6
    cases l with
    | nil => cases h6
    | cons v r =>
      cases v with
      | ref g =>
        have h7 : g = prG K c f := of_decide_eq_true h6
        exact ⟨r, by rw [h7]⟩
      | _ => cases h6
/-- a property's getter: its class and name, and the def -/
structure GetD where
  cls : Str
  fld : Str
  name : Str
  qual : Str
  params : Arguments
  body : List Stmt
  scope : Scope
def GetD.seen (K : PySem.W.Frag) (d : GetD) : FnW := match K.lookup (prG K d.cls d.fld) with
  | some ⟨_, _, .func fd, _⟩ => some (fd.name, fd.qualname, fd.params, fd.body, fd.scope, fd.globals, fd.closure, fd.builtins)
  | _ => none
def GetD.val (d : GetD) : FnW := some (d.name, d.qual, d.params, .stmts d.body, d.scope, mainGlobals, [], builtinsNs)
def GetD.ok (K : PySem.W.Frag) (d : GetD) : Bool := propB K d.cls d.fld && (PySem.W.keepIn K (.ref (prG K d.cls d.fld)) && (match K.lookup (prG K d.cls d.fld) with
  | some ⟨_, _, .func fd, _⟩ => PySem.W.codeIn K fd.code d.qual && (dflB K fd.defaults [] && kwdB K fd.kwdefaults [])
  | _ => false))
theorem GetD.funD {K : PySem.W.Frag} {d : GetD} (e : d.seen K = d.val) (c : d.ok K = true) : PropOf K (ga K d.cls) d.fld (prA K d.cls d.fld) (prG K d.cls d.fld) ∧ ∃ fd, FunD K d.name d.qual d.params d.body d.scope [] [] (prG K d.cls d.fld) fd := by
  obtain ⟨c0, c1⟩ := ba c
  obtain ⟨kp, c2⟩ := ba c1
  refine ⟨propB_ok c0, ?_⟩
  unfold GetD.seen at e
  cases q : K.lookup (prG K d.cls d.fld) with
  | none =>
    rw [q] at c2
    cases c2
  | some o =>
    obtain ⟨oc, od, dt, osl⟩ := o
    rw [q] at c2 e
    cases dt with
    | func fd =>
      obtain ⟨n1, n2, n3, n4, n5, n6, n7, n8, n9, n10, n11, n12, n13, n14, n15⟩ := fd
      have e2 : (some (n1, n2, n3, n4, n5, n6, n7, n15) : FnW) = some (d.name, d.qual, d.params, .stmts d.body, d.scope, mainGlobals, [], builtinsNs) := e
      injection e2 with e2
      simp only [Prod.mk.injEq] at e2
      obtain ⟨a1, a2, a3, a4, a5, a6, a7, a8⟩ := e2
      subst a1 a2 a3 a4 a5 a6 a7 a8
      have c3 : (PySem.W.codeIn K n13 d.qual && (dflB K n8 [] && kwdB K n9 [])) = true := c2
      obtain ⟨k1, k2⟩ := ba c3
      obtain ⟨k3, k4⟩ := ba k2
      exact ⟨_, ⟨oc, od, n8, n9, n10, n11, n12, n13, n14, osl, rfl, q, k1, dflB_ok k3, kwdB_ok k4⟩, kp⟩
    | _ => cases c2
/-- the head of a law with properties and tables -/
abbrev AlP : Type := AlX × (Bool × List FnW)
def obsP (n : Nat) (fa : List Fa) (fn : List DefD) (gs : List GetD) (tf : List Defn) (ex : PySem.W.Frag → Bool) (g : Addr → Option Obj) : AlP := (obsX n fa fn [] tf ex g, (gs.all (GetD.ok (frT g (asD g n))), gs.map (GetD.seen (frT g (asD g n)))))
structure SaysP (fa : List Fa) (fn : List DefD) (gs : List GetD) (tf : List Defn) (ex : PySem.W.Frag → Bool) (w : World) (h : Heap) (K : PySem.W.Frag) : Prop where
  x : SaysX fa fn [] tf ex w h K
  ok : gs.all (GetD.ok K) = true
  seen : gs.map (GetD.seen K) = gs.map GetD.val
def hookP (n : Nat) (fa : List Fa) (fn : List DefD) (gs : List GetD) (tf : List Defn) (ex : PySem.W.Frag → Bool) : PySem.W.Hook where
  α := AlP
  obs := fun s => obsP n fa fn gs tf ex s.heap.get?
  val := fun w => (valX fn [] w, (true, gs.map GetD.val))
  says := fun w h => ∃ K : PySem.W.Frag, K.In h ∧ SaysP fa fn gs tf ex w h K
  of := fun _ _ e => ⟨_, frT_in, saysX_of (congrArg (fun z : AlP => z.1) e), congrArg (fun z : AlP => z.2.1) e, congrArg (fun z : AlP => z.2.2) e⟩
  keeps := fun _ _ _ ⟨K, hK, c⟩ k => ⟨K, PySem.W.Frag.In.keeps hK k, ⟨⟨c.x.t, c.x.more, c.x.hd, c.x.out, fun p hp => k _ _ (c.x.empty p hp)⟩, c.ok, c.seen⟩⟩
theorem obsP_eq {n : Nat} {fa : List Fa} {fn : List DefD} {gs : List GetD} {tf : List Defn} {ex : PySem.W.Frag → Bool} {g : Addr → Option Obj} {s : Shared} (h : ∀ a, g a = s.heap.get? a) : obsP n fa fn gs tf ex g = (hookP n fa fn gs tf ex).obs s := by
  have e : g = s.heap.get? := funext h
  rw [e] <;> rfl
theorem SaysP.get {fa : List Fa} {fn : List DefD} {gs : List GetD} {tf : List Defn} {ex : PySem.W.Frag → Bool} {w : World} {h : Heap} {K : PySem.W.Frag} (c : SaysP fa fn gs tf ex w h K) {d : GetD} (hd : d ∈ gs) :
    PropOf K (ga K d.cls) d.fld (prA K d.cls d.fld) (prG K d.cls d.fld) ∧ ∃ fd, FunD K d.name d.qual d.params d.body d.scope [] [] (prG K d.cls d.fld) fd := by
  obtain ⟨i, hi, e⟩ := List.mem_iff_getElem.mp hd
  have e1 := congrArg (fun l : List FnW => l[i]?) c.seen
  have e2 : gs[i]? = some d := by rw [List.getElem?_eq_getElem hi, e]
  simp only [List.getElem?_map, e2, Option.map_some, Option.some.injEq] at e1
  exact GetD.funD e1 (List.all_eq_true.mp c.ok d hd)
/-- a property in one piece -/
structure PrpX (P : Program) (w : World) (K : PySem.W.Frag) (mg : Str → Option Value) (base : Heap) (CX : CXT) (k : Nat) (C : Addr) (f : Str) (sp : Sp) : Prop where
  ex : ∃ (p g : Addr) (fd : FuncData) (ps : List Str), Cls K C ∧ PropOf K C f p g ∧ FnOk P w K mg base CX k g fd ps sp ∧ Binds K fd ps []
theorem pe_prpX {X : Cx} {CX : CXT} {k j : Nat} {C : Addr} {f : Str} {sp : Sp} {E : XK} {e : Expr} {pos : Pos} {ta : TE} (c : PrpX X.prog X.w X.K X.mg X.base CX k C f sp) (hr : Room j X.A) (hk : k + 1 ≤ j) (hx : Passes CX X.nox E) (he : PE X e ta)
    (hab : attributeBase e f X.env (eval e X.env) = eval e X.env := by rfl) : PE X (.Attribute e f pos) (tProp C sp [] E ta) := by
  obtain ⟨p, g, fd, ps, cl, hp, F, b⟩ := c.ex
  exact pe_prop he cl hp F (hr.mono hk) b .nil hx hab
end RD

namespace L2
open PySem PySem.Spec PyProof.Rows GenW

section
variable {M : Model} {A : Around} {R : GenEnd} {Y : Protocol} {n : Nat} {s₀ : Shared} {c : Code} {fs : List Frame} {s : Shared} {env : Env}
  {K : Flow → Sem PySem.Fin} {J : Value → Sem PySem.Fin} {gd : Bool → Bool} {lv : List Value → List Value}
theorem seg_For {tg iter : Expr} {body : List Stmt} {pos : Pos}
    (h : wpAny M (A.over c fs) (eval iter env) (fun x s₁ => wpAny M (A.over c fs) (pyIter x) (fun it s₂ => ∀ p, Seg M A R Y n s₀ (.forLoop tg it body [] env) (M.den (.forLoop tg it body [] env))
      (.ret (fun r => ((match r with | .ok f => (.pure f : Sem Flow) | .error e => .raise e).onRaise (cameBack env)).wrap K J gd lv) none (gd false) (lv []) c p [] :: fs) s₂) (fun x s' => Seg M A R Y n s₀ c (J x) fs s') s₁) (fun x s' => Seg M A R Y n s₀ c (J x) fs s') s)
    (hs : ∀ x, foldedSetIterable iter env x = pure x) :
    Seg M A R Y n s₀ c ((exec (.For tg iter body [] pos) env).wrap K J gd lv) fs s := by
  rw [exec_For]
  refine seg_bind_wrap (wpAny_standAt ?_)
  refine seg_bind_wrap (wpAny_mono h (fun x s₁ h₁ => ?_) fun _ _ h' => h')
  refine seg_bind_wrap (wpAny_of_eq (hs x) ?_)
  refine seg_bind_wrap (wpAny_standAt ?_)
  refine seg_bind_wrap (wpAny_holding (wpAny_mono h₁ (fun it s₂ h₂ => ?_) fun _ _ h' => h'))
  exact seg_call h₂
end
section
variable {prog : Program} {w : World} {A : Around} {R : GenEnd} {Y : Protocol} {n : Nat} {s₀ : Shared} {fs : List Frame} {s : Shared} {env : Env}
theorem seg_forLoop {tg : Expr} {it : Value} {body : List Stmt}
    (h : wpAny (model prog w) (A.over (.forLoop tg it body [] env) fs) (pyNext it) (fun r s₁ => match r with
      | none => Seg (model prog w) A R Y n s₀ (.forLoop tg it body [] env) (.pure (.again (.block [] env))) fs s₁
      | some v => wpAny (model prog w) (A.over (.forLoop tg it body [] env) fs) (letOwnedTupleGo tg it v) (fun _ s₂ => wpAny (model prog w) (A.over (.forLoop tg it body [] env) fs) (assign tg env v) (fun _ s₃ =>
          Seg (model prog w) A R Y n s₀ (.forLoop tg it body [] env) ((execs body env).wrap (fun f => match f with
            | .next | .cont => .pure (.again (.forLoop tg it body [] env))
            | .brk => .pure (.done .next)
            | .ret v => .pure (.done (.ret v))) (fun e => (do noteFrame e env; theTreesLotGoes e : Sem Unit).wrap (fun _ => .raise e) .raise id id) id id) fs s₃)
          (fun x s' => Seg (model prog w) A R Y n s₀ (.forLoop tg it body [] env) ((do noteFrame x env; theTreesLotGoes x : Sem Unit).wrap (fun _ => .raise x) .raise id id) fs s') s₂)
        (fun x s' => Seg (model prog w) A R Y n s₀ (.forLoop tg it body [] env) ((do noteFrame x env; theTreesLotGoes x : Sem Unit).wrap (fun _ => .raise x) .raise id id) fs s') s₁)
      (fun x s' => Seg (model prog w) A R Y n s₀ (.forLoop tg it body [] env) ((do noteFrame x env; theTreesLotGoes x : Sem Unit).wrap (fun _ => .raise x) .raise id id) fs s') s) :
    Seg (model prog w) A R Y n s₀ (.forLoop tg it body [] env) ((model prog w).den (.forLoop tg it body [] env)) fs s := by
  have ex : ∀ e : Value, ((do noteFrame e env; theTreesLotGoes e : Sem Unit) >>= fun _ => (Sem.raise e : Sem PySem.Fin)) = (do noteFrame e env; theTreesLotGoes e : Sem Unit).wrap (fun _ => .raise e) .raise id id := fun e => Sem.bind_eq_wrap _ _
  show Seg _ A R Y n s₀ _ ((forTurn tg it body [] env).onRaise (fun x => do noteFrame x env; theTreesLotGoes x)) fs s
  unfold forTurn
  rw [Sem.onRaise_eq_wrap]
  refine seg_bind_wrap (wpAny_standAt ?_)
  refine seg_bind_wrap (wpAny_onRaise (wpAny_mono h (fun r s₁ h₁ => ?_) fun x s' hx => wpAny_standAt ?_))
  · cases r with
    | none => exact h₁
    | some v =>
      refine seg_bind_wrap (wpAny_mono h₁ (fun _ s₂ h₂ => ?_) fun x s' hx => ?_)
      · refine seg_bind_wrap (wpAny_mono h₂ (fun _ s₃ h₃ => ?_) fun x s' hx => ?_)
        · rw [Sem.bind_eq_wrap', Sem.wrap_wrap]
          refine Eq.mp (congrArg (fun t => Seg _ A R Y n s₀ _ t fs s₃) (Sem.wrap_congr (execs body env) _ _ (fun f => ?_) (fun e => ?_)).symm) h₃
          · cases f <;> rfl
          · exact ex e
        · rw [← ex] at hx
          exact hx
      · rw [← ex] at hx
        exact hx
  · rw [← ex] at hx
    exact hx
end
/-- W: the invariant by the turn, a measure and what is out; N: what the body is to reach -/
def tGFor (wi : TI) (g : TG) (tb : TGn) : TGn := fun D ys σ H => wi σ H fun J H1 => ∃ W : Nat → Nat → List V → St → Hp → Prop, (∃ m, W 0 m ys σ H1) ∧ ∀ i m ys σ H, W i m ys σ H →
  (J.stop i H ∧ D.nx ys σ H) ∨ (J.go i H ∧ ∃ N : List V → St → Hp → Prop, (∀ ys' σ' H', N ys' σ' H' → ∃ m', m' < m ∧ W (i + 1) m' ys' σ' H') ∧ ∀ x H', J.yld i H x H' → g x σ H' fun σ2 H2 => tb { D with nx := N, ct := N, bk := D.nx } ys σ2 H2)
section
variable {X : Cx}
theorem gs_for {tg iter : Expr} {body : List Stmt} {wi : TI} {g : TG} {tb : TGn} {pos : Pos} (hp : PassesOwn (model X.prog X.w) X.A X.env X.xe) (hc : X.calm = true) (hi : PI X tg iter wi) (hg : PG X tg g) (hb : GSs X body tb)
    (hs : ∀ x, foldedSetIterable iter X.env x = pure x := by intro _; rfl) : GS X (.For tg iter body [] pos) (tGFor wi g tb) := by
  refine ⟨fun A S ip R n ys s₀ c fs K J gd lv s σ H D g0 hn k hI ht => ?_⟩
  obtain ⟨acc, cc, r, I⟩ := hI
  refine seg_For ?_ hs
  rw [g0.over]
  refine wpAny_mono (hi.run _ s σ H _ I ht) (fun v s1 h1 => wpAny_mono h1 (fun itv s2 h2 p => ?_) fun x s' hx => k.exc n s₀ x s' hx) fun x s' hx => k.exc n s₀ x s' hx
  obtain ⟨it, fp, tn, Jt, H2, e, I2, T, st2, f2, W, ⟨m0, w0⟩, turn⟩ := h2
  subst e
  have gl := fun (kk : Result → Sem PySem.Fin) => gc_loop (k := kk) (c' := .forLoop tg (.ref it) body [] X.env) (l := lv []) (kp := []) (p := p) g0 rfl rfl
  have fS : S ∉ fp := fun hS => (f2 S hS).2.2.2.2.2 (S, lstObj acc cc) (List.mem_append_right _ List.mem_cons_self) rfl
  have fip : ∀ b ∈ fp, ∀ q ∈ ip, q.1 ≠ b := fun b hb q hq => (f2 b hb).2.2.2.2.2 q (List.mem_append_right _ (List.mem_cons_of_mem _ hq))
  have stat : ∀ {H' : Hp} {acc' : Array Value} {c' : Nat}, (∀ b ∈ fp, H' b = none) → ∀ b ∈ fp, FpOk X ((S, lstObj acc' c') :: ip) H' b := fun hn b hb => by
    obtain ⟨q1, q2, q3, q4, q5, q6⟩ := f2 b hb
    refine ⟨hn b hb, q2, q3, q4, q5, fun q hq => ?_⟩
    rcases List.mem_append.mp hq with hq | hq
    · exact q6 q (List.mem_append_left _ hq)
    · rcases List.mem_cons.mp hq with rfl | hq
      · exact fun z => fS (by rw [show S = b from z]; exact hb)
      · exact q6 q (List.mem_append_right _ (List.mem_cons_of_mem _ hq))
  have loop : ∀ (m i n : Nat) (ys : List V) (s₀ s : Shared) (σ : St) (H : Hp), n + ys.length = sizeLine → W i m ys σ H → tn i s.heap → (∀ b ∈ fp, H b = none) → GI X S ip ys σ H s →
      Seg (model X.prog X.w) A R (GY X S) n s₀ (.forLoop tg (.ref it) body [] X.env) ((model X.prog X.w).den (.forLoop tg (.ref it) body [] X.env))
        (.ret (fun r => ((match r with | .ok f => (.pure f : Sem Flow) | .error e => .raise e).onRaise (cameBack X.env)).wrap K J gd lv) none (gd false) (lv []) c p [] :: fs) s := by
    intro m
    induction m using Nat.strongRecOn with
    | ind m ih =>
      intro i n ys s₀ s σ H hn w htn hfp hI
      have ee : ∀ (n : Nat) (s₀ : Shared) (x : Value) (s' : Shared), X.xe x s' → Seg (model X.prog X.w) A R (GY X S) n s₀ (.forLoop tg (.ref it) body [] X.env)
          ((do noteFrame x X.env; theTreesLotGoes x : Sem Unit).wrap (fun _ => .raise x) .raise id id)
          (.ret (fun r => ((match r with | .ok f => (.pure f : Sem Flow) | .error e => .raise e).onRaise (cameBack X.env)).wrap K J gd lv) none (gd false) (lv []) c p [] :: fs) s' := fun n s₀ x s' hx => by
        refine seg_wrap ?_
        rw [(gl _).over]
        refine wpAny_bind (wpAny_mono (hp x s' hx) (fun _ s'' hcb => wpAny_theTreesLotGoes ?_) fun y s'' hcb => ?_)
        · exact seg_leaf (.error x) (seg_cameBack g0 k hcb)
        · exact seg_leaf (.error y) (seg_cameBack g0 k hcb)
      refine seg_forLoop ?_
      rw [(gl _).over]
      obtain ⟨acc, cc, r, I⟩ := hI
      rcases turn i m ys σ H w with ⟨stop, qn⟩ | ⟨go, N, hN, step⟩
      · refine wpAny_mono (T.done X rfl rfl rfl hc i _ s σ H X.xe I (stat hfp) htn stop) (fun r' s4 h4 => ?_) fun x s' hx => ee n s₀ x s' hx
        obtain ⟨rfl, I4⟩ := h4
        refine seg_again rfl ?_
        exact seg_leaf (.ok .next) (k.ok n ys s₀ s4 .next hn ⟨σ, H, ⟨acc, cc, r, I4⟩, qn⟩)
      · refine wpAny_mono (T.item X rfl rfl rfl hc i _ s σ H X.xe I (stat hfp) htn go) (fun r' s4 h4 => ?_) fun x s' hx => ee n s₀ x s' hx
        obtain ⟨u, rfl, h4⟩ := h4
        refine wpAny_mono h4 (fun _ s5 h5 => ?_) fun x s' hx => ee n s₀ x s' hx
        obtain ⟨x, H5, I5, r5, y5, st5, fr5⟩ := h5
        have I5' := I5.pinned (stat fr5) (T.obj _ _ st5)
        refine wpAny_mono (hg.run _ s5 σ H5 x u _ I5' r5 (step x H5 y5)) (fun _ s6 h6 => ?_) fun x s' hx => ee n s₀ x s' hx
        obtain ⟨σ6, H6, I6, q6⟩ := h6
        have gl6 : GC X S (ip ++ pinsAt fp s5.heap) A (.forLoop tg (.ref it) body [] X.env) (.ret (fun r => ((match r with | .ok f => (.pure f : Sem Flow) | .error e => .raise e).onRaise (cameBack X.env)).wrap K J gd lv) none (gd false) (lv []) c p [] :: fs) id := by
          obtain ⟨a1, a2, a3, a4, a5, a6, a7⟩ := gl (fun r => ((match r with | .ok f => (.pure f : Sem Flow) | .error e => .raise e).onRaise (cameBack X.env)).wrap K J gd lv)
          refine ⟨a1, fun q hq => ?_, a3, a4, a5, a6, a7⟩
          rcases List.mem_append.mp hq with hq | hq
          · exact a2 q hq
          · exact fun z => fS (by rw [← z]; exact (of_pinsAt hq).1)
        have back : ∀ {ys' : List V} {σ7 : St} {H7 : Hp} {s7 : Shared}, GI X S (ip ++ pinsAt fp s5.heap) ys' σ7 H7 s7 → GI X S ip ys' σ7 H7 s7 := fun {ys' σ7 H7 s7} h => by
          obtain ⟨acc7, c7, r7, I7⟩ := h
          exact ⟨acc7, c7, r7, Inv.unpinned (pl := pinsAt fp s5.heap) I7⟩
        refine hb.run A S (ip ++ pinsAt fp s5.heap) R n ys s₀ _ _ _ _ id id s6 σ6 H6 { D with nx := N, ct := N, bk := D.nx } gl6 hn ⟨fun n' ys' s₀' s7 f hn' hs => ?_, fun n' s₀' x s7 hx => ee n' s₀' x s7 hx⟩ ⟨acc, cc, r, I6⟩ q6
        have again : ∀ {σ7 : St} {H7 : Hp}, GI X S (ip ++ pinsAt fp s5.heap) ys' σ7 H7 s7 → N ys' σ7 H7 → Seg (model X.prog X.w) A R (GY X S) n' s₀' (.forLoop tg (.ref it) body [] X.env) ((model X.prog X.w).den (.forLoop tg (.ref it) body [] X.env))
            (.ret (fun r => ((match r with | .ok f => (.pure f : Sem Flow) | .error e => .raise e).onRaise (cameBack X.env)).wrap K J gd lv) none (gd false) (lv []) c p [] :: fs) s7 := fun {σ7 H7} I7 n7 => by
          obtain ⟨m', hm, w7⟩ := hN ys' σ7 H7 n7
          have I8 := I7
          obtain ⟨acc7, c7, r7, I7⟩ := I7
          have pin7 := fun b hb o e => I7.pin (b, o) (List.mem_append_right _ (List.mem_cons_of_mem _ (List.mem_append_right _ (mem_pinsAt (fp := fp) (h := s5.heap) hb e))))
          refine ih m' hm (i + 1) n' ys' s₀' s7 σ7 H7 hn' w7 (T.keep _ _ _ st5 fun b hb o e => (pin7 b hb o e).1) (fun b hb => ?_) (back I8)
          obtain ⟨o, e, d⟩ := T.obj _ _ st5 b hb
          exact (pin7 b hb o e).2.1
        cases f with
        | next => obtain ⟨σ7, H7, I7, n7⟩ := hs; exact seg_again rfl (again I7 n7)
        | cont => obtain ⟨σ7, H7, I7, n7⟩ := hs; exact seg_again rfl (again I7 n7)
        | brk => obtain ⟨σ7, H7, I7, q7⟩ := hs; exact seg_leaf (.ok .next) (k.ok n' ys' s₀' s7 .next hn' ⟨σ7, H7, back I7, q7⟩)
        | ret v => obtain ⟨x7, σ7, H7, I7, r7, q7⟩ := hs; exact seg_leaf (.ok (.ret v)) (k.ok n' ys' s₀' s7 (.ret v) hn' ⟨x7, σ7, H7, back I7, r7, q7⟩)
  exact loop m0 0 n ys s₀ s2 σ H2 hn w0 st2 (fun b hb => (f2 b hb).1) ⟨acc, cc, r, I2⟩
end
end L2

/-! ### ranges of any size -/
namespace L2
open PySem PySem.Spec PyProof.Rows
theorem turn_long {P : Program} {w : World} {K : PySem.W.Frag} {tg : Expr} (it : Addr) (lo : Int) (n : Nat) : Turn P w K tg (Itr lo n) [it] it (fun i h => IsLongIter h it (lo + (i : Nat) * 1) ((n : Int) - (i : Nat)) 1) where
  mem := by simp
  obj := fun i h st b hb => by
    have e : b = it := by simpa using hb
    subst e
    exact ⟨_, st, fun v z => by
      have z' : Data.fields _ = Data.cell v := z
      cases z'⟩
  keep := fun i h h' st k => k it (by simp) _ st
  item := by
    intro X hP hw hK hc i pins s σ H E I hf st hg
    subst hP hw hK
    obtain ⟨f0, f1, f2, f3, f4, f5⟩ := hf it (by simp)
    have W := Walks.longrange (prog := X.prog) (w := X.w) (I.ok.hd hc) it lo 1 n
    refine W.item i s _ _ hg st fun v h' tk hv st' kk => ?_
    obtain ⟨t, rfl⟩ := hv
    have I1 : Inv X pins σ H { s with heap := h', toks := tk } := I.turned (fun b o hb e => kk b o (by simpa using hb) e) f0 f1 f3 f4 f5
    refine ⟨_, rfl, go_of (s := { s with heap := h', toks := tk }) (n := "longrange_iterator") st' rfl rfl (by decide) ⟨.int (lo + i), H, I1, ⟨t, ?_⟩, ⟨rfl, rfl⟩, st', fun b hb => (hf b hb).1⟩⟩
    rw [Int.mul_one]
  done := by
    intro X hP hw hK hc i pins s σ H E I hf st hg
    subst hP hw hK
    obtain ⟨f0, f1, f2, f3, f4, f5⟩ := hf it (by simp)
    exact wpAny_pyNext_long_end (I.ok.hd hc) st (by have : n ≤ i := hg; omega) fun h' eb => ⟨rfl, I.turned (t' := s.toks) (fun b o hb e => eb b o hb e) f0 f1 f3 f4 f5⟩
  self := fun _ _ _ _ _ st h => wpAny_pyIter_longiter st h
section
variable {X : Cx} {tg : Expr}
theorem range_itB {pins : List (Addr × Obj)} {σ : St} {H : Hp} {s : Shared} {R : It → Hp → Prop} {E : Value → Shared → Prop} {lo hi : Int} {t u v : Tok} {tk : Nat} (I : Inv X pins σ H s)
    (q : R (Itr lo (hi - lo).toNat) H) : wpAny (model X.prog X.w) X.A (pyIter (.ref s.heap.objs.size)) (PIE X pins σ tg R) E { s with heap := s.heap.push { cls := .type "range", data := .fields #[.int lo t, .int hi u, .int 1 v] }, toks := tk } := by
  have e1 : lo + ((0 : Nat) : Int) * 1 = lo := by simp
  have e2 : (((hi - lo).toNat : Nat) : Int) - ((0 : Nat) : Int) = Builtin.Range.rangeSize lo hi 1 := by rw [rangeSize_one]; split <;> omega
  have I1 : Inv X pins σ H { s with heap := s.heap.push { cls := .type "range", data := .fields #[.int lo t, .int hi u, .int 1 v] }, toks := tk } := I.kept fun b o e => Heap.get?_push_of_some _ e
  cases hs : Builtin.Range.small lo hi 1 with
  | true =>
    refine wpAny_pyIter_range (IsRange.new ..) hs ?_
    refine ⟨(s.heap.push { cls := .type "range", data := .fields #[.int lo t, .int hi u, .int 1 v] }).objs.size, [(s.heap.push { cls := .type "range", data := .fields #[.int lo t, .int hi u, .int 1 v] }).objs.size], _, _, H, rfl,
      I1.kept (t' := tk) fun b o e => Heap.get?_push_of_some _ e, turn_range _ lo (hi - lo).toNat, ?_, fun b hb => ?_, q⟩
    · show IsRangeIter _ _ (lo + ((0 : Nat) : Int) * 1) ((((hi - lo).toNat : Nat) : Int) - ((0 : Nat) : Int)) 1
      rw [e1, e2]
      exact Heap.get?_push_size _ rfl
    · have e : b = (s.heap.push { cls := .type "range", data := .fields #[.int lo t, .int hi u, .int 1 v] }).objs.size := by simpa using hb
      subst e
      exact I1.fpOk (Nat.le_refl _) (I1.hok.fresh (Nat.le_refl _))
  | false =>
    refine wpAny_pyIter_longrange (IsRange.new ..) hs ?_
    refine ⟨(s.heap.push { cls := .type "range", data := .fields #[.int lo t, .int hi u, .int 1 v] }).objs.size, [(s.heap.push { cls := .type "range", data := .fields #[.int lo t, .int hi u, .int 1 v] }).objs.size], _, _, H, rfl,
      I1.kept (t' := tk) fun b o e => Heap.get?_push_of_some _ e, turn_long _ lo (hi - lo).toNat, ?_, fun b hb => ?_, q⟩
    · show IsLongIter _ _ (lo + ((0 : Nat) : Int) * 1) ((((hi - lo).toNat : Nat) : Int) - ((0 : Nat) : Int)) 1
      rw [e1, e2]
      exact Heap.get?_push_size _ rfl
    · have e : b = (s.heap.push { cls := .type "range", data := .fields #[.int lo t, .int hi u, .int 1 v] }).objs.size := by simpa using hb
      subst e
      exact I1.fpOk (Nat.le_refl _) (I1.hok.fresh (Nat.le_refl _))
def iRng2B (ta : TA) : TI := fun σ H R => ta σ H fun vs H1 => ∃ i j : Int, vs = [.int i, .int j] ∧ R (Itr i (j - i).toNat) H1
theorem pi_range2B {a b : Expr} {ta : TA} {p pos : Pos} (hg : Gl X "range") (hm : X.mg "range" = none) (ha : PA X [a, b] ta) (hs : starEach [a, b] X.env = [(false, eval a X.env), (false, eval b X.env)] := by rfl) (hs2 : starEach [b] X.env = [(false, eval b X.env)] := by rfl) :
    PI X tg (.Call (.Name "range" p) [a, b] [] pos) (iRng2B ta) := by
  refine ⟨fun pins s σ H R I h => ?_⟩
  refine Call_ (ld_blt I hg hm boot_range (PyProof.Rows.callWith_type1 (thn (ha.run pos pins s σ H _ I h) fun us s1 ⟨vs, H1, I1, r1, q1⟩ => ?_) (by rw [hs, hs2]) (by rw [hs2]; rfl)))
  obtain ⟨i, j, e, q⟩ := q1
  subst e
  cases r1 with
  | cons r rr =>
    cases rr with
    | cons r' rr =>
      cases rr
      obtain ⟨t, rfl⟩ := r
      obtain ⟨t', rfl⟩ := r'
      exact call_range_2 (range_itB I1 q)
end
end L2

namespace RD
open PySem PySem.Spec PyProof.Rows L2 C8 GenW
section
variable {P : Program} {w : World} {K : PySem.W.Frag} {mg : Str → Option Value} {base : Heap} {x qual : Str} {scope : Scope} {params : Arguments} {body : List Stmt} {f : Addr} {fd : FuncData} {dvs : List V} {kws : List (Str × V)}
/-- a generator def's promise from its body -/
theorem fnGD {N ps : List Str} {k : Nat} {sp : SpG} (F : FunD K x qual params body scope dvs kws f fd) (S : GScope N ps scope) (len : ∀ vs H Q E, sp vs H Q E → vs.length = ps.length)
    (hbody : ∀ (cdv : Value) (A : Around) (outer : List Env) (s : Shared) (H : Hp) (vs : List V) (Q : List V → Hp → Prop) (E : XK) (pn : List (Addr × Obj)), Room k (A.deeper (envOfC qual scope s.heap.objs.size f cdv)) → sp vs H Q E →
      ∃ t, GSs (gcxOf P w K mg base N qual scope f cdv A outer s H E pn) body t ∧ t ⟨fun ys _ H' => Q ys H', fun ys v H' => v = .non ∧ Q ys H', fun _ _ _ => False, fun _ _ _ => False⟩ [] (start N vs) H) : GFn P w K mg base (k + 1) f fd ps sp := by
  obtain ⟨oc, od, dV, kV, doc, pm, an, cdv, ct, osl, rfl, lk, hcd, _, _⟩ := F.ex
  exact gfn_of lk hcd S len fun A outer s H vs Q E pn hr hsp => hbody cdv A outer s H vs Q E pn hr hsp
structure GalX (P : Program) (w : World) (K : PySem.W.Frag) (mg : Str → Option Value) (base : Heap) (k : Nat) (x : Str) (sp : SpG) (dvs : List V) : Prop where
  ex : ∃ (f : Addr) (fd : FuncData) (ps : List Str) (ds : List Value), GFn P w K mg base k f fd ps sp ∧ mg x = some (.ref f) ∧ PySem.W.keepIn K (.ref f) = true ∧ Binds K fd ps ds ∧ Vals dvs ds
end
theorem passG {P : Program} {w : World} {X : Cx} : Passes (CX P w) X C8.E0 := fun _ _ _ _ _ _ _ c => by
  obtain ⟨_, _, _, _, _, _, _, _, _, _, _, _, h⟩ := c
  exact h.elim
section
variable {X : Cx} {k j : Nat} {x : Str} {sp : SpG} {dvs : List V} {e : Expr} {es : List Expr} {t : TA} {p p2 pos pos2 : Pos}
theorem pe_listGal (c : GalX X.prog X.w X.K X.mg X.base k x sp dvs) (hr : Room j X.A) (hk : k + 3 ≤ j) (hg : Gl X x) (hgl : Gl X "list") (hml : X.mg "list" = none) (ha : PA X (e :: es) t)
    (hdb : (x == ("__debug__" : Str)) = false := by decide) (he : starEach (e :: es) X.env = (false, eval e X.env) :: starEach es X.env := by rfl) (hpl : (backTo pos2 (starEach es X.env)).any (·.1) = false := by rfl)
    (he2 : starEach [Expr.Call (.Name x p2) (e :: es) [] pos2] X.env = (false, eval (.Call (.Name x p2) (e :: es) [] pos2) X.env) :: starEach [] X.env := by rfl) :
    PE X (.Call (.Name "list" p) [.Call (.Name x p2) (e :: es) [] pos2] [] pos) (tListG (tCallG sp dvs C8.E0 t)) := by
  obtain ⟨f, fd, ps, ds, F, hm, kp, b, d⟩ := c.ex
  exact pe_listG (k := k) (pgen_call F (hr.mono (by omega)) hg hm kp b d ha hdb he hpl) passG (fun _ _ _ h => h.elim) (hr.mono hk) hgl hml (by decide +kernel) (by decide) (by decide) he2
end
section
variable {K : PySem.W.Frag} {σ : L2.St} {H : Hp} {nx : List V → L2.St → Hp → Prop} {rt : List V → VK} {bk ct : List V → L2.St → Hp → Prop} {ys : List V}
theorem rd_gthen {t u : TGn} (h : t ⟨fun ys' σ' H' => u ⟨nx, rt, bk, ct⟩ ys' σ' H', rt, bk, ct⟩ ys σ H) : tGThen t u ⟨nx, rt, bk, ct⟩ ys σ H := h
theorem rd_gplain {t : TS} (h : t ⟨fun σ H => nx ys σ H, fun v H => rt ys v H, fun σ H => bk ys σ H, fun σ H => ct ys σ H⟩ σ H) : tPlain t ⟨nx, rt, bk, ct⟩ ys σ H := h
theorem rd_gend (h : nx ys σ H) : tG0 ⟨nx, rt, bk, ct⟩ ys σ H := h
theorem rd_gyield {te : TE} (hl : ys.length < sizeLine) (h : te σ H fun x H1 => nx (ys ++ [x]) σ H1) : tGYield te ⟨nx, rt, bk, ct⟩ ys σ H := ⟨hl, h⟩
def GForG (J : It) (g : TG) (t : TGn) (D : GEnds) (ys : List V) (σ : L2.St) (H1 : Hp) : Prop := ∃ W : Nat → Nat → List V → L2.St → Hp → Prop, (∃ m, W 0 m ys σ H1) ∧ ∀ i m ys σ H, W i m ys σ H →
  (J.stop i H ∧ D.nx ys σ H) ∨ (J.go i H ∧ ∃ N : List V → L2.St → Hp → Prop, (∀ ys' σ' H', N ys' σ' H' → ∃ m', m' < m ∧ W (i + 1) m' ys' σ' H') ∧ ∀ x H', J.yld i H x H' → g x σ H' fun σ2 H2 => t { D with nx := N, ct := N, bk := D.nx } ys σ2 H2)
theorem rd_gfor {wi : TI} {g : TG} {t : TGn} {D : GEnds} (h : wi σ H fun J H1 => GForG J g t D ys σ H1) : tGFor wi g t D ys σ H := h
theorem gforR_by {lo : Int} {n : Nat} {g : TG} {t : TGn} (Pv : Nat → List V → L2.St → Hp → Prop) (h0 : Pv 0 ys σ H)
    (hs : ∀ (i : Nat) ys σ H, i < n → Pv i ys σ H → g (.int (lo + i)) σ H fun σ2 H2 => t ⟨Pv (i + 1), rt, nx, Pv (i + 1)⟩ ys σ2 H2) (hd : ∀ ys σ H, Pv n ys σ H → nx ys σ H) : GForG (Itr lo n) g t ⟨nx, rt, bk, ct⟩ ys σ H := by
  refine ⟨fun i m ys σ H => m = n - i ∧ i ≤ n ∧ Pv i ys σ H, ⟨n, by simp, Nat.zero_le _, h0⟩, ?_⟩
  rintro i m ys σ H ⟨rfl, hi, p⟩
  by_cases hlt : i < n
  · refine .inr ⟨hlt, Pv (i + 1), fun ys' σ' H' p' => ⟨n - (i + 1), by omega, rfl, hlt, p'⟩, fun x H' y => ?_⟩
    obtain ⟨e, y⟩ := y
    subst e
    subst y
    exact hs i ys σ _ hlt p
  · have e : i = n := by omega
    subst e
    exact .inl ⟨Nat.le_refl _, hd ys σ H p⟩
end
end RD

namespace RD
open PySem PySem.Spec PyProof.Rows L2 C8 GenW
section
variable {K : PySem.W.Frag} {σ : L2.St} {H : Hp} {Q : VK}
theorem rd_iRng2B {ar : TA} {R : It → Hp → Prop} (h : ar σ H fun vs H1 => ∃ i j : Int, vs = [.int i, .int j] ∧ R (Itr i (j - i).toNat) H1) : iRng2B ar σ H R := h
theorem rd_sortedI {a : Addr} {ns : List Int} (h : H a = some (.lst (ns.map V.int))) (q : ∀ (os : List Int) (p : Addr), os.Perm ns → os.Pairwise (· ≤ ·) → H p = none → Q (.ref p) (upd H p (.lst (os.map V.int)))) : rSortedI K [.ref a] H Q := ⟨a, ns, rfl, SqL.of h, q⟩
theorem rd_listG {tg : TGen} (h : tg σ H fun out H2 => ∀ p, H2 p = none → Q (.ref p) (upd H2 p (.lst out))) : tListG tg σ H Q := h
theorem rd_callG {sp : SpG} {dvs : List V} {E : XK} {t : TA} {c : List V → Hp → Prop} (h : t σ H fun vs H1 => sp (vs ++ dvs) H1 c E) : tCallG sp dvs E t σ H c := h
end
theorem sort_uniq {a b : List Int} (p : a.Perm b) (h1 : a.Pairwise (· ≤ ·)) (h2 : b.Pairwise (· ≤ ·)) : a = b := List.Perm.eq_of_pairwise (fun _ _ _ _ => Int.le_antisymm) h1 h2 p
end RD

/-! ### walks over a dict that stays -/
namespace RD
open PySem PySem.Spec PyProof.Rows L2 C8 GenW
section
variable {K : PySem.W.Frag} {σ : L2.St} {H : Hp} {Q : VK} {nx : L2.St → Hp → Prop} {rt : VK} {bk ct : L2.St → Hp → Prop} {te : TE} {tt : TT} {t : TS}
theorem rd_lockS {d : Addr} {u : HO} (h : H d = some u) (mu : Mut (some u)) (k : ∀ od, t ⟨fun σ' H' => H' d = some (.frz od u) ∧ nx σ' (upd H' d u), fun v H' => H' d = some (.frz od u) ∧ rt v (upd H' d u), fun σ' H' => H' d = some (.frz od u) ∧ bk σ' (upd H' d u), fun σ' H' => H' d = some (.frz od u) ∧ ct σ' (upd H' d u)⟩ σ (upd H d (.frz od u))) : tLock t ⟨nx, rt, bk, ct⟩ σ H := ⟨d, u, h, mu, k⟩
theorem rd_lockE {d : Addr} {u : HO} (h : H d = some u) (mu : Mut (some u)) (k : ∀ od, te σ (upd H d (.frz od u)) fun v H' => H' d = some (.frz od u) ∧ Q v (upd H' d u)) : tLockE te σ H Q := ⟨d, u, h, mu, k⟩
theorem rd_iKeys {td : TE} {R : It → Hp → Prop} (h : td σ H fun x H1 => ∃ d o, x = .ref d ∧ ((∃ kvs, H1 d = some (.frz o (.dK kvs)) ∧ R (Itk d o kvs) H1) ∨ ∃ kvs, H1 d = some (.frz o (.dT kvs)) ∧ R (Itkt d o kvs) H1)) : iKeys td σ H R := h
theorem rd_iKeysX {d : Addr} {o : Obj} {kvs : List (Key × V)} {R : It → Prop} {B : Addr → Obj → Prop} (h : H d = some (.frz o (.dK kvs))) (q : R (Itk d o kvs)) : ∃ d' o', V.ref d = V.ref d' ∧ ((∃ kvs, H d' = some (.frz o' (.dK kvs)) ∧ R (Itk d' o' kvs)) ∨ B d' o') := ⟨d, o, rfl, .inl ⟨kvs, h, q⟩⟩
theorem forD_by {d : Addr} {o : Obj} {g : TG} (xs : List Int) (f : Int → V) (Pv : Nat → L2.St → Hp → Prop) (h0 : Pv 0 σ H) (hl : ∀ i σ H, i ≤ xs.length → Pv i σ H → H d = some (.frz o (.dK (dmap xs f))))
    (hs : ∀ (i : Nat) (h : i < xs.length) σ H, Pv i σ H → g (.int xs[i]) σ H fun σ2 H2 => t ⟨Pv (i + 1), rt, nx, Pv (i + 1)⟩ σ2 H2) (hd : ∀ σ H, Pv xs.length σ H → nx σ H) : ForG (Itk d o (dmap xs f)) g t ⟨nx, rt, bk, ct⟩ σ H := by
  refine ⟨fun i m σ H => m = xs.length - i ∧ i ≤ xs.length ∧ Pv i σ H, ⟨xs.length, by simp, Nat.zero_le _, h0⟩, ?_⟩
  rintro i m σ H ⟨rfl, hi, p⟩
  have q := hl i σ H hi p
  by_cases hlt : i < xs.length
  · refine .inr ⟨⟨q, by rw [dmap_len]; exact hlt⟩, Pv (i + 1), fun σ' H' p' => ⟨xs.length - (i + 1), by omega, rfl, hlt, p'⟩, fun x H' y => ?_⟩
    obtain ⟨e, k, v, h1, h2⟩ := y
    subst e
    have h3 : (dmap xs f)[i]? = some (.inl xs[i], f xs[i]) := by
      unfold dmap
      rw [List.getElem?_map, List.getElem?_eq_getElem hlt]
      rfl
    rw [h3] at h1
    cases h1
    subst h2
    exact hs i hlt σ _ p
  · have e : i = xs.length := by omega
    subst e
    exact .inl ⟨⟨q, by rw [dmap_len]; exact Nat.le_refl _⟩, hd σ H p⟩
theorem lcD_by {a D : Addr} {o : Obj} {g : TG} {vs : List Nat} {Qd : Hp → Prop} (xs : List Int) (f : Int → V) (Pv : Nat → Hp → Prop) (h0 : Pv 0 (upd H D (.lst []))) (hl : ∀ i H, i ≤ xs.length → Pv i H → H a = some (.frz o (.dK (dmap xs f))))
    (hs : ∀ (i : Nat) (h : i < xs.length) H, Pv i H → g (.int xs[i]) (wipe σ vs) H fun σ2 H2 => wipe σ2 vs = wipe σ vs ∧ tt σ2 H2 fun b H3 =>
      if b = true then te σ2 H3 fun y H4 => ∃ acc, H4 D = some (.lst acc) ∧ acc.length < sizeLine ∧ Pv (i + 1) (upd H4 D (.lst (acc ++ [y]))) else Pv (i + 1) H3) (hd : ∀ H, Pv xs.length H → Qd H) : LcG (Itk a o (dmap xs f)) g tt te vs σ D Qd H := by
  refine ⟨fun i m H => m = xs.length - i ∧ i ≤ xs.length ∧ Pv i H, ⟨xs.length, by simp, Nat.zero_le _, h0⟩, ?_⟩
  rintro i m H ⟨rfl, hi, p⟩
  have q := hl i H hi p
  by_cases hlt : i < xs.length
  · refine .inr ⟨⟨q, by rw [dmap_len]; exact hlt⟩, Pv (i + 1), fun H' p' => ⟨xs.length - (i + 1), by omega, rfl, hlt, p'⟩, fun x H' y => ?_⟩
    obtain ⟨e, k, v, h1, h2⟩ := y
    subst e
    have h3 : (dmap xs f)[i]? = some (.inl xs[i], f xs[i]) := by
      unfold dmap
      rw [List.getElem?_map, List.getElem?_eq_getElem hlt]
      rfl
    rw [h3] at h1
    cases h1
    subst h2
    exact hs i hlt _ p
  · have e : i = xs.length := by omega
    subst e
    exact .inl ⟨⟨q, by rw [dmap_len]; exact Nat.le_refl _⟩, hd H p⟩
theorem rd_listD {a : Addr} {kvs : List (Key × V)} (h : H a = some (.dK kvs)) (q : ∀ p, H p = none → Q (.ref p) (upd H p (.lst (kvs.map fun kv => kV kv.1)))) : ∃ (a' : Addr) (kvs : List (Key × V)), [V.ref a] = [.ref a'] ∧ Rd H a' (.dK kvs) ∧ ∀ p, H p = none → Q (.ref p) (upd H p (.lst (kvs.map fun kv => kV kv.1))) := ⟨a, kvs, rfl, .inl h, q⟩
theorem rd_anyL {a : Addr} {bs : List Bool} (h : H a = some (.lst (bs.map V.bl))) (q : Q (.bl (bs.any id)) H) : rAny K [.ref a] H Q := ⟨a, bs, rfl, SqL.of h, q⟩
theorem dmap_keys {xs : List Int} {f : Int → V} : ((dmap xs f).map fun kv => kV kv.1) = xs.map V.int := by
  unfold dmap
  rw [List.map_map]
  rfl
/-- behind a lock -/
theorem kp_lock {ps : List Addr} {H H2 : Hp} {d : Addr} {u : HO} {od : Obj} (h : H d = some u) (k : Kp ps (upd H d (.frz od u)) H2) : Kp ps H (upd H2 d u) := fun b o hb hn => by
  by_cases e : b = d
  · subst e
    rw [h] at hb
    rw [upd_same]
    exact hb
  · rw [upd_ne e]
    exact k b o (by rw [upd_ne e]; exact hb) hn
end
end RD

namespace RD
open PySem PySem.Spec PyProof.Rows L2 C8 GenW
section
variable {X : Cx} {CX : CXT} {k j : Nat} {C : Addr} {m : Str} {sp : Sp} {dvs : List V} {E : XK} {o : Expr} {ta : TE} {apos pos : Pos}
theorem pe_met0 {pl : Sem Bool} (c : MetX X.prog X.w X.K X.mg X.base CX k C m sp dvs) (hr : Room j X.A) (hk : k ≤ j) (hx : Passes CX X E) (he : PE X o ta)
    (ht : eval (.Call (.Attribute o m apos) [] [] pos) X.env = (do
      let ov ← eval o X.env
      standAt apos.atName
      let (f, first) ← holding [ov] (getMethod ov m pl)
      callWith pos f first (backTo pos (starEach [] X.env)) (backToKw pos (keywordEach [] X.env))) := by rfl) :
    PE X (.Call (.Attribute o m apos) [] [] pos) (tMeth C m sp dvs E ta tNil) := by
  obtain ⟨f, fd, ps, ds, cl, me, F, b, d⟩ := c.ex
  exact pe_meth0 he cl me F (hr.mono hk) b d hx ht
end
end RD

/-! own layer: texts, dicts of tuples (behind MORE) -/
namespace RD
open PySem PySem.Spec PyProof.Rows L2 He
section
variable {K : PySem.W.Frag} {w : World} {σ : L2.St} {H : Hp} {nx bk ct : L2.St → Hp → Prop} {rt : VK} {t : TS} {te ta tb tc to : TE} {tt : TT} {ar : TA} {Q : VK} {v x y z : V} {i j : Int}
/-! texts -/
def rLenStr : List V → Hp → VK → Prop := fun xs H Q => ∃ z : Str, xs = [.str z] ∧ z.length ≤ sizeLine ∧ Q (.int z.length) H
theorem call_lenStr {X : Cx} : CallR X (.builtin "len") rLenStr := call_len_str
theorem rd_lenStr {z : Str} (l : z.length ≤ sizeLine) (q : Q (.int z.length) H) : rLenStr [.str z] H Q := ⟨z, rfl, l, q⟩
theorem rd_ixS {z : Str} {c : Nat} (l : z.length ≤ sizeLine) (a : atI z.cps.toList i = some c) (q : Q (.str ⟨#[c]⟩) H) : rIxS (.str z) (.int i) H Q := ⟨z, i, c, rfl, rfl, l, a, q⟩
def rAddS : R2 := fun x y H Q => ∃ i j, x = .str i ∧ y = .str j ∧ i.length + j.length ≤ sizeLine ∧ Q (.str (i ++ j)) H
theorem op_addS {X : Cx} : OpR X (binaryOp .Add) rAddS := op_add_str
theorem rd_addS {a b : Str} (l : a.length + b.length ≤ sizeLine) (q : Q (.str (a ++ b)) H) : rAddS (.str a) (.str b) H Q := ⟨a, b, rfl, rfl, l, q⟩
theorem rd_slS {z : Str} {lo hi : Option Int} (l : z.length ≤ sizeLine) (q : Q (.str (cutS z lo hi)) H) : rSlS (.str z) lo hi H Q := ⟨z, rfl, l, q⟩
def rInSign : R2 := fun x y H Q => ∃ (c : Nat) (z : Str), x = .str ⟨#[c]⟩ ∧ y = .str z ∧ Q (.bl (decide (c ∈ z.cps.toList))) H
theorem op_inSign {X : Cx} : OpR X (compareOp .In) rInSign := op_in_sign
theorem rd_inSign {c : Nat} {z : Str} (q : Q (.bl (decide (c ∈ z.cps.toList))) H) : rInSign (.str ⟨#[c]⟩) (.str z) H Q := ⟨c, z, rfl, rfl, q⟩
theorem rd_iStr {R : It → Hp → Prop} (h : te σ H fun v H1 => ∃ x, v = .str x ∧ R (Its x) H1) : iStr te σ H R := h
theorem rd_iStrX {x : Str} {R : Str → Prop} (q : R x) : ∃ y, V.str x = V.str y ∧ R y := ⟨x, rfl, q⟩
theorem forS_by {z : Str} {g : TG} (Pv : Nat → L2.St → Hp → Prop) (h0 : Pv 0 σ H)
    (hs : ∀ (i : Nat) c σ H, z.cps.toList[i]? = some c → Pv i σ H → g (.str ⟨#[c]⟩) σ H fun σ2 H2 => t ⟨Pv (i + 1), rt, nx, Pv (i + 1)⟩ σ2 H2) (hd : ∀ σ H, Pv z.cps.size σ H → nx σ H) : ForG (Its z) g t ⟨nx, rt, bk, ct⟩ σ H := by
  refine ⟨fun i m σ H => m = z.cps.size - i ∧ i ≤ z.cps.size ∧ Pv i σ H, ⟨z.cps.size, by simp, Nat.zero_le _, h0⟩, ?_⟩
  rintro i m σ H ⟨rfl, hi, p⟩
  by_cases hlt : i < z.cps.size
  · refine .inr ⟨hlt, Pv (i + 1), fun σ' H' p' => ⟨z.cps.size - (i + 1), by omega, rfl, hlt, p'⟩, fun x H' y => ?_⟩
    obtain ⟨rfl, c, hc, rfl⟩ := y
    exact hs i c σ _ (by rw [Array.getElem?_toList]; exact hc) p
  · have e : i = z.cps.size := by omega
    subst e
    exact .inl ⟨Nat.le_refl _, hd σ H p⟩
theorem lcS_by {z : Str} {D : Addr} {g : TG} {vs : List Nat} {Qd : Hp → Prop} (Pv : Nat → Hp → Prop) (h0 : Pv 0 (upd H D (.lst [])))
    (hs : ∀ (i : Nat) c H, z.cps.toList[i]? = some c → Pv i H → g (.str ⟨#[c]⟩) (wipe σ vs) H fun σ2 H2 => wipe σ2 vs = wipe σ vs ∧ tt σ2 H2 fun b H3 =>
      if b = true then te σ2 H3 fun y H4 => ∃ acc, H4 D = some (.lst acc) ∧ acc.length < sizeLine ∧ Pv (i + 1) (upd H4 D (.lst (acc ++ [y]))) else Pv (i + 1) H3) (hd : ∀ H, Pv z.cps.size H → Qd H) : LcG (Its z) g tt te vs σ D Qd H := by
  refine ⟨fun i m H => m = z.cps.size - i ∧ i ≤ z.cps.size ∧ Pv i H, ⟨z.cps.size, by simp, Nat.zero_le _, h0⟩, ?_⟩
  rintro i m H ⟨rfl, hi, p⟩
  by_cases hlt : i < z.cps.size
  · refine .inr ⟨hlt, Pv (i + 1), fun H' p' => ⟨z.cps.size - (i + 1), by omega, rfl, hlt, p'⟩, fun x H' y => ?_⟩
    obtain ⟨rfl, c, hc, rfl⟩ := y
    exact hs i c _ (by rw [Array.getElem?_toList]; exact hc) p
  · have e : i = z.cps.size := by omega
    subst e
    exact .inl ⟨Nat.le_refl _, hd H p⟩
/-- [.. for c in text]: only looks -/
theorem lcF_str {z : Str} {D : Addr} {g : TG} {vs : List Nat} {Qd : Hp → Prop} (f : Nat → V) (hD : H D = none) (hl : z.cps.size < 1000000)
    (hs : ∀ (i : Nat) c, z.cps.toList[i]? = some c → ∀ H1 (E : VK) (N : Hp → Prop), Kp [] H H1 → (∀ H4, Kp [] H1 H4 → E (f c) H4) → g (.str ⟨#[c]⟩) (wipe σ vs) H1 fun σ2 H2 => wipe σ2 vs = wipe σ vs ∧ tt σ2 H2 fun b H3 => if b = true then te σ2 H3 E else N H3)
    (hd : ∀ H', Kp [] H H' → H' D = some (.lst (z.cps.toList.map f)) → Qd H') : LcG (Its z) g tt te vs σ D Qd H := by
  refine lcS_by (fun i H' => H' D = some (.lst ((z.cps.toList.take i).map f)) ∧ Kp [] H H') ⟨upd_same, Kp.new hD⟩ (fun i c H' hc q => ?_) (fun H' q => ?_)
  · obtain ⟨h1, h2⟩ := List.getElem?_eq_some_iff.mp hc
    refine hs i c hc H' _ _ q.2 (fun H4 k4 => ?_)
    refine ⟨_, k4.g0 q.1, szlt ?_, ?_, Kp.mine (q.2.trans k4) hD⟩
    · rw [List.length_map, List.length_take]
      rw [Array.length_toList] at h1
      omega
    · rw [upd_same, List.take_succ_eq_append_getElem h1, h2, List.map_append]
      rfl
  · rw [List.take_of_length_le (by simp)] at q
    exact hd H' q.2 q.1
def rJoin (K : PySem.W.Frag) : V → List V → Hp → VK → Prop := fun x xs H Q => ∃ a p, ∃ ys : List Str, x = .str a ∧ xs = [.ref p] ∧ (SqL K H p (ys.map V.str) ∨ SqT K H p (ys.map V.str)) ∧ (ys.map (·.length)).sum + ys.length * a.length ≤ 16777216 ∧ Q (.str (Txt.join a ys)) H
theorem pe_join' {X : Cx} {o e : Expr} {apos pos : Pos} (ho : PE X o to) (he : PE X e te) (hs : starEach [e] X.env = [(false, eval e X.env)] := by rfl) (hbase : attributeBase o "join" X.env (eval o X.env) = eval o X.env := by rfl) (hline : (apos.endLine == pos.line) = true := by rfl) :
    PE X (.Call (.Attribute o "join" apos) [e] [] pos) (tM1 (rJoin X.K) to te) := pe_join ho he hs hbase hline
theorem rd_m1 {r : V → List V → Hp → VK → Prop} (h : to σ H fun x H1 => (∃ a, x = .str a) ∧ te σ H1 fun y H2 => r x [y] H2 Q) : tM1 r to te σ H Q := h
theorem rd_m1X {a : Str} {B : Prop} (q : B) : (∃ a', V.str a = V.str a') ∧ B := ⟨⟨a, rfl⟩, q⟩
theorem rd_join {a : Str} {p : Addr} {ys : List Str} (h : H p = some (.lst (ys.map V.str))) (l : (ys.map (·.length)).sum + ys.length * a.length ≤ 16777216) (q : Q (.str (Str.join a ys)) H) : rJoin K (.str a) [.ref p] H Q := ⟨a, p, ys, rfl, rfl, .inl (SqL.of h), l, by
  rw [TL.join_eq]
  exact q⟩
theorem joinL1 : ∀ cs : List Nat, TL.joinL [] (cs.map fun c => [c]) = cs
  | [] => rfl
  | [c] => rfl
  | c :: d :: r => by
    have ih := joinL1 (d :: r)
    show [c] ++ ([] ++ TL.joinL [] ((d :: r).map fun c => [c])) = _
    rw [ih]
    rfl
theorem join1 (cs : List Nat) : Str.join (⟨#[]⟩ : Str) (cs.map fun c => (⟨#[c]⟩ : Str)) = ⟨cs.toArray⟩ := by
  have e := SX.join_S [] (cs.map fun c => [c])
  rw [joinL1, TL.join_eq, List.map_map] at e
  exact e
theorem rd_all {a : Addr} {bs : List Bool} (h : H a = some (.lst (bs.map V.bl))) (q : Q (.bl (bs.all id)) H) : rAll K [.ref a] H Q := ⟨a, bs, rfl, SqL.of h, q⟩
theorem inV_strs (a : Str) : ∀ ns : List Str, inV (.str a) (ns.map V.str) = decide (a ∈ ns)
  | [] => rfl
  | b :: r => by
    have ih := inV_strs a r
    unfold inV at ih ⊢
    rw [List.map_cons, List.any_cons, ih]
    show ((b == a) || decide (a ∈ r)) = decide (a ∈ b :: r)
    by_cases h : b = a
    · subst h
      simp
    · have h2 : (b == a) = false := beq_eq_false_iff_ne.mpr h
      rw [h2, Bool.false_or]
      simp [List.mem_cons, Ne.symm h]
theorem flat_strs : ∀ ns : List Str, (ns.map V.str).all flatV = true
  | [] => rfl
  | _ :: r => by
    rw [List.map_cons, List.all_cons, flat_strs r]
    rfl
theorem rd_inTS {p : Addr} {ns : List Str} {s : Str} (h : SqT K H p (ns.map V.str)) (q : Q (.bl (decide (s ∈ ns))) H) : rIn K false (.str s) (.ref p) H Q := ⟨p, ns.map V.str, rfl, .inr h, rfl, flat_strs ns, by
  rw [inV_strs]
  exact q⟩
theorem rd_indexS {a : Addr} {ns : List Str} {s : Str} {j : Nat} (h : SqL K H a (ns.map V.str)) (e : ns[j]? = some s) (no : ∀ m z, m < j → ns[m]? = some z → z ≠ s) (q : Q (.int (j : Nat)) H) : rIndex K (.ref a) [.str s] H Q :=
  ⟨a, ns.map V.str, .str s, j, .str s, rfl, rfl, h, rfl, flat_strs ns, by rw [List.getElem?_map, e]; rfl, by show (s == s) = true; exact beq_self_eq_true s, fun m z' hm hz => by
    rw [List.getElem?_map] at hz
    obtain ⟨z, h1, rfl⟩ := Option.map_eq_some_iff.mp hz
    show (z == s) = false
    exact beq_eq_false_iff_ne.mpr (no m z hm h1), q⟩
theorem rd_int1b {b : Bool} (h : Q (.int (if b then 1 else 0)) H) : rInt1 [.bl b] H Q := .inr ⟨b, rfl, h⟩
theorem rd_dpop2 (h : ta σ H fun x H1 => ∃ a, x = .ref a ∧ IsD H1 a ∧ tb σ H1 fun y H2 => tc σ H2 fun z H3 => ∃ kvs k, H3 a = some (.dK kvs) ∧ y = kV k ∧
  (∀ v, valV kvs k = some v → Q v (upd H3 a (.dK (dropK kvs k)))) ∧ (valV kvs k = none → Q z H3)) : tDPop2 ta tb tc σ H Q := h
theorem rd_dpopI {a : Addr} {kvs : List (Key × V)} {R1 : List (Key × V) → Key → Prop} (e : H a = some (.dK kvs)) (q : R1 kvs (.inl i)) : ∃ kvs k, H a = some (.dK kvs) ∧ V.int i = kV k ∧ R1 kvs k := ⟨kvs, .inl i, e, rfl, q⟩
theorem rd_ixKD {p : Addr} {s : Str} (h : KDct K w p s v) (q : Q v H) : rIxD K w (.ref p) (.str s) H Q := ⟨p, s, v, rfl, rfl, h, q⟩
theorem kdct_of {a : Addr} {es : Array DictEntry} {n : Nat} {kvs : List (Str × Dv)} (D : KDict K w a es n) (h : valsB K a kvs = true) {s : Str} {d : Dv} (m : (s, d) ∈ kvs) : KDct K w a s (d.v K) := by
  obtain ⟨u, e, r⟩ := valsB_ok h m
  exact ⟨es, n, u, D.at_, D.lit, e, r⟩
end
section
variable {X : L2.Cx} {CX : CXT} {k j : Nat} {x : Str} {sp : Sp} {dvs : List V} {E : XK} {p pos : Pos} {C : Addr}
theorem pe_cal0 (c : CalX X.prog X.w X.K X.mg X.base CX k x sp dvs) (hr : Room j X.A) (hk : k ≤ j) (hg : Gl X x) (hx : Passes CX X E) (hdb : (x == ("__debug__" : Str)) = false := by decide) : PE X (.Call (.Name x p) [] [] pos) (tCall sp dvs E tNil) := by
  obtain ⟨f, fd, ps, ds, F, hm, kp, b, d⟩ := c.ex
  exact pe_call0 F (hr.mono hk) hg hm kp b d hx hdb
theorem pe_mak0 (c : MakX X.prog X.w X.K X.mg X.base CX k x C sp dvs) (hr : Room j X.A) (hk : k + 1 ≤ j) (hg : Gl X x) (hx : Passes CX X E) (hdb : (x == ("__debug__" : Str)) = false := by decide) : PE X (.Call (.Name x p) [] [] pos) (tMake C sp dvs E tNil) := by
  obtain ⟨f, fd, ps, ds, M, F, hm, b, d⟩ := c.ex
  exact pe_make0 M F (hr.mono hk) hg hm b d hx hdb
end
/-! ### a walk over a list or a tuple; ranges with a step; chains -/
section
variable {X : L2.Cx} {K : PySem.W.Frag} {σ : L2.St} {H : Hp} {te ta tb tc : TE} {ar : TA} {Q : VK}
def iSeq (K : PySem.W.Frag) (te : TE) : TI := fun σ H R => te σ H fun x H1 => ∃ a, x = .ref a ∧ (((∃ xs, SqL K H1 a xs) ∧ R (Itl K a) H1) ∨ ((∃ xs, SqT K H1 a xs) ∧ R (Itt K a) H1))
theorem pi_seq {tg l : Expr} (hl : PE X l te) : PI X tg l (iSeq X.K te) := by
  refine ⟨fun pins s σ H R I h => ?_⟩
  refine thn (hl.run pins s σ H _ I h) fun v s1 ⟨x, H1, I1, r1, q1⟩ => ?_
  obtain ⟨a, e, h | h⟩ := q1
  · obtain ⟨⟨xs, hq⟩, q⟩ := h
    subst e
    cases r1
    obtain ⟨its, rv, p, hz⟩ := I1.list hq
    refine wpAny_pyIter_list p.isList ?_
    refine ⟨s1.heap.objs.size, [s1.heap.objs.size], _, _, H1, rfl, I1.kept (t' := s1.toks) fun b o e => Heap.get?_push_of_some _ e, turn_list a _, ⟨_, Heap.get?_push_size _ rfl, rfl, rfl⟩, fun b hb => ?_, q⟩
    have e : b = s1.heap.objs.size := by simpa using hb
    subst e
    exact I1.fpOk (Nat.le_refl _) (I1.hok.fresh (Nat.le_refl _))
  · obtain ⟨⟨xs, hq⟩, q⟩ := h
    subst e
    cases r1
    obtain ⟨its, rv, p, hz⟩ := I1.tuple hq
    refine wpAny_pyIter_tuple (show s1.heap.IsTuple a its.toArray from p) ?_
    refine ⟨s1.heap.objs.size, [s1.heap.objs.size], _, _, H1, rfl, I1.kept (t' := s1.toks) fun b o e => Heap.get?_push_of_some _ e, turn_tuple a _, ⟨_, Heap.get?_push_size _ rfl, rfl, rfl⟩, fun b hb => ?_, q⟩
    have e : b = s1.heap.objs.size := by simpa using hb
    subst e
    exact I1.fpOk (Nat.le_refl _) (I1.hok.fresh (Nat.le_refl _))
theorem rd_iSeq {R : It → Hp → Prop} (h : te σ H fun x H1 => ∃ a, x = V.ref a ∧ (((∃ xs, SqL K H1 a xs) ∧ R (Itl K a) H1) ∨ ((∃ xs, SqT K H1 a xs) ∧ R (Itt K a) H1))) : iSeq K te σ H R := h
theorem rd_iSeqL {p : Addr} {xs : List V} {A : Addr → Prop} {B : Addr → Prop} (h : SqL K H p xs) (q : A p) : ∃ a, V.ref p = V.ref a ∧ (((∃ xs, SqL K H a xs) ∧ A a) ∨ ((∃ xs, SqT K H a xs) ∧ B a)) := ⟨p, rfl, .inl ⟨⟨xs, h⟩, q⟩⟩
theorem rd_iSeqT {p : Addr} {xs : List V} {A : Addr → Prop} {B : Addr → Prop} (h : SqT K H p xs) (q : B p) : ∃ a, V.ref p = V.ref a ∧ (((∃ xs, SqL K H a xs) ∧ A a) ∨ ((∃ xs, SqT K H a xs) ∧ B a)) := ⟨p, rfl, .inr ⟨⟨xs, h⟩, q⟩⟩
theorem rd_chain {r r' : R2} (h : ta σ H fun x H1 => tb σ H1 fun y H2 => r x y H2 fun z H3 => ∃ k, z = V.bl k ∧ (if k = true then tc σ H3 fun w' H4 => r' y w' H4 Q else Q (.bl false) H3)) : tChain r r' ta tb tc σ H Q := h
theorem rd_iRng3 {R : It → Hp → Prop} (h : ar σ H fun vs H1 => ∃ (i j c : Int) (n : Nat), vs = [V.int i, V.int j, V.int c] ∧ RgC i j c n ∧ R (Itc i c n) H1) : iRng3 ar σ H R := h
theorem rd_iRng3X {i j c : Int} {n : Nat} {R : Int → Int → Nat → Prop} (h : RgC i j c n) (q : R i c n) : ∃ (i' j' c' : Int) (n' : Nat), [V.int i, V.int j, V.int c] = [V.int i', V.int j', V.int c'] ∧ RgC i' j' c' n' ∧ R i' c' n' := ⟨i, j, c, n, rfl, h, q⟩
end
/-! ### a tuple at a told place (a default ()) -/
def tupA (K : PySem.W.Frag) (a : Addr) (vs : List Dv) : Bool := match K.lookup a with
  | some ⟨.type c, _, .seq its _, _⟩ => decide (c = "tuple") && (decide (its.size ≤ sizeLine) && relAll (vs.map (Dv.v K)) its.toList)
  | _ => false
theorem tupA_ok {K : PySem.W.Frag} {a : Addr} {vs : List Dv} (h : tupA K a vs = true) (H : Hp) : SqT K H a (vs.map (Dv.v K)) := by
  unfold tupA at h
  cases q : K.lookup a with
  | none =>
    rw [q] at h
    cases h
  | some o =>
    obtain ⟨oc, od, dt, osl⟩ := o
    rw [q] at h
    cases oc with
    | type c =>
      cases dt with
      | seq its n =>
        obtain ⟨h1, h2⟩ := ba (show (decide (c = "tuple") && (decide (its.size ≤ sizeLine) && relAll (vs.map (Dv.v K)) its.toList)) = true from h)
        obtain ⟨h3, h4⟩ := ba h2
        exact .inr ⟨_, its, n, q, congrArg Value.type (of_decide_eq_true h1), rfl, of_decide_eq_true h3, relAll_ok h4⟩
      | _ => cases h
    | _ => cases dt <;> cases h
/-! ### dicts of tuples under int keys -/
section
variable {α : Type}
def kvT (key : α → Int) (xs : List (Addr × α)) : List (Key × V) := xs.map fun p => ((.inl (key p.2) : Key), V.ref p.1)
def fdT (key : α → Int) (xs : List (Addr × α)) (k : Int) : Option (Addr × α) := xs.find? fun p => decide (key p.2 = k)
def ptT (key : α → Int) (xs : List (Addr × α)) (p : Addr × α) : List (Addr × α) := if (xs.any fun q => decide (key q.2 = key p.2)) = true then xs.map (fun q => if key q.2 = key p.2 then p else q) else xs ++ [p]
def dpT (key : α → Int) (xs : List (Addr × α)) (k : Int) : List (Addr × α) := xs.filter fun p => decide (key p.2 ≠ k)
def fdS (key : α → Int) (ys : List α) (k : Int) : Option α := ys.find? fun y => decide (key y = k)
def ptS (key : α → Int) (ys : List α) (y : α) : List α := if (ys.any fun q => decide (key q = key y)) = true then ys.map (fun q => if key q = key y then y else q) else ys ++ [y]
def dpS (key : α → Int) (ys : List α) (k : Int) : List α := ys.filter fun y => decide (key y ≠ k)
theorem inl_iff {a b : Int} : ((.inl a : Key) = .inl b) ↔ a = b := ⟨fun e => Sum.inl.inj e, fun e => by rw [e]⟩
theorem kvT_val (key : α → Int) (k : Int) : ∀ xs : List (Addr × α), valV (kvT key xs) (.inl k) = (fdT key xs k).map fun p => V.ref p.1
  | [] => rfl
  | p :: r => by
    have ih := kvT_val key k r
    by_cases h : key p.2 = k
    · show valV (((.inl (key p.2) : Key), V.ref p.1) :: kvT key r) (.inl k) = _
      rw [valV_pos (inl_iff.mpr h)]
      unfold fdT
      rw [List.find?_cons, decide_eq_true h]
      rfl
    · show valV (((.inl (key p.2) : Key), V.ref p.1) :: kvT key r) (.inl k) = _
      rw [valV_neg (fun e => h (inl_iff.mp e)), ih]
      unfold fdT
      rw [List.find?_cons, decide_eq_false h]
theorem kvT_put (key : α → Int) (xs : List (Addr × α)) (p : Addr × α) : putK (kvT key xs) (.inl (key p.2)) (.ref p.1) = kvT key (ptT key xs p) := by
  have e : ((kvT key xs).any fun kv => decide (kv.1 = (.inl (key p.2) : Key))) = xs.any fun q => decide (key q.2 = key p.2) := by
    unfold kvT
    rw [List.any_map]
    congr 1
    funext q
    exact decide_eq_decide.mpr inl_iff
  unfold putK ptT
  rw [e]
  by_cases h : (xs.any fun q => decide (key q.2 = key p.2)) = true
  · rw [if_pos h, if_pos h]
    unfold kvT
    rw [List.map_map, List.map_map]
    refine List.map_congr_left fun q _ => ?_
    show (if (.inl (key q.2) : Key) = .inl (key p.2) then ((.inl (key q.2) : Key), V.ref p.1) else (.inl (key q.2), V.ref q.1)) = _
    by_cases z : key q.2 = key p.2
    · rw [if_pos (inl_iff.mpr z)]
      show _ = ((.inl (key (if key q.2 = key p.2 then p else q).2) : Key), V.ref (if key q.2 = key p.2 then p else q).1)
      rw [if_pos z, z]
    · rw [if_neg (fun e => z (inl_iff.mp e))]
      show _ = ((.inl (key (if key q.2 = key p.2 then p else q).2) : Key), V.ref (if key q.2 = key p.2 then p else q).1)
      rw [if_neg z]
  · rw [if_neg h, if_neg h]
    unfold kvT
    rw [List.map_append]
    rfl
theorem kvT_drop (key : α → Int) (k : Int) (xs : List (Addr × α)) : dropK (kvT key xs) (.inl k) = kvT key (dpT key xs k) := by
  unfold dropK kvT dpT
  rw [List.filter_map]
  congr 1
  refine List.filter_congr fun q _ => ?_
  exact decide_eq_decide.mpr (not_congr inl_iff)
theorem kvT_keys (key : α → Int) (xs : List (Addr × α)) : ((kvT key xs).map fun kv => kV kv.1) = ((xs.map (·.2)).map key).map V.int := by
  unfold kvT
  rw [List.map_map, List.map_map, List.map_map]
  rfl
theorem kvT_len (key : α → Int) (xs : List (Addr × α)) : (kvT key xs).length = xs.length := List.length_map _
theorem fdT_some {key : α → Int} {xs : List (Addr × α)} {k : Int} {p : Addr × α} (h : fdT key xs k = some p) : p ∈ xs ∧ key p.2 = k := ⟨List.mem_of_find?_eq_some h, by
  have := List.find?_some (p := fun p : Addr × α => decide (key p.2 = k)) h
  exact of_decide_eq_true this⟩
theorem fdT_snd (key : α → Int) (k : Int) : ∀ xs : List (Addr × α), (fdT key xs k).map (·.2) = fdS key (xs.map (·.2)) k
  | [] => rfl
  | p :: r => by
    have ih := fdT_snd key k r
    unfold fdT fdS at ih ⊢
    rw [List.map_cons, List.find?_cons, List.find?_cons]
    cases decide (key p.2 = k) with
    | true => rfl
    | false => exact ih
theorem ptT_snd (key : α → Int) (xs : List (Addr × α)) (p : Addr × α) : (ptT key xs p).map (·.2) = ptS key (xs.map (·.2)) p.2 := by
  unfold ptT ptS
  have e : ((xs.map (·.2)).any fun q => decide (key q = key p.2)) = xs.any fun q => decide (key q.2 = key p.2) := by
    rw [List.any_map]
    rfl
  rw [e]
  by_cases h : (xs.any fun q => decide (key q.2 = key p.2)) = true
  · rw [if_pos h, if_pos h, List.map_map, List.map_map]
    refine List.map_congr_left fun q _ => ?_
    show (if key q.2 = key p.2 then p else q).2 = if key q.2 = key p.2 then p.2 else q.2
    by_cases z : key q.2 = key p.2
    · rw [if_pos z, if_pos z]
    · rw [if_neg z, if_neg z]
  · rw [if_neg h, if_neg h, List.map_append]
    rfl
theorem dpT_snd (key : α → Int) (k : Int) (xs : List (Addr × α)) : (dpT key xs k).map (·.2) = dpS key (xs.map (·.2)) k := by
  unfold dpT dpS
  rw [List.filter_map]
  rfl
theorem ptT_mem {key : α → Int} {xs : List (Addr × α)} {p q : Addr × α} (h : q ∈ ptT key xs p) : q = p ∨ q ∈ xs := by
  unfold ptT at h
  by_cases z : (xs.any fun q => decide (key q.2 = key p.2)) = true
  · rw [if_pos z] at h
    obtain ⟨r, hr, e⟩ := List.mem_map.mp h
    by_cases z2 : key r.2 = key p.2
    · rw [if_pos z2] at e
      exact .inl e.symm
    · rw [if_neg z2] at e
      exact .inr (e ▸ hr)
  · rw [if_neg z] at h
    rcases List.mem_append.mp h with h | h
    · exact .inr h
    · exact .inl (List.mem_singleton.mp h)
theorem ptT_len (key : α → Int) (xs : List (Addr × α)) (p : Addr × α) : (ptT key xs p).length ≤ xs.length + 1 := by
  unfold ptT
  split
  · rw [List.length_map]
    omega
  · rw [List.length_append]
    exact Nat.le_refl _
theorem dpT_len (key : α → Int) (k : Int) (xs : List (Addr × α)) : (dpT key xs k).length ≤ xs.length := List.length_filter_le _ _
theorem dpT_none {key : α → Int} {k : Int} {xs : List (Addr × α)} (h : fdT key xs k = none) : dpT key xs k = xs := by
  refine List.filter_eq_self.mpr fun p hp => ?_
  have := List.find?_eq_none.mp h p hp
  exact decide_eq_true fun z => this (decide_eq_true z)
/-- at d: a dict from int keys to tuples -/
structure TD (key : α → Int) (tup : α → List V) (H : Hp) (d : Addr) (xs : List (Addr × α)) : Prop where
  at_ : H d = some (.dK (kvT key xs))
  ob : ∀ p, p ∈ xs → H p.1 = some (.tup (tup p.2))
def NoT (H : Hp) (ps : List Addr) : Prop := ∀ q, q ∈ ps → ∀ vs, H q ≠ some (.tup vs)
variable {key : α → Int} {tup : α → List V} {H H' : Hp} {d : Addr} {xs : List (Addr × α)} {ps : List Addr}
theorem NoT.n {q : Addr} {vs : List V} (h : NoT H ps) (e : H q = some (.tup vs)) : q ∉ ps := fun m => h q m vs e
theorem TD.kp (B : TD key tup H d xs) (k : Kp ps H H') (n : d ∉ ps) (t : NoT H ps) : TD key tup H' d xs := ⟨k _ _ B.at_ n, fun p hp => k _ _ (B.ob p hp) (t.n (B.ob p hp))⟩
theorem TD.k0 (B : TD key tup H d xs) (k : Kp [] H H') : TD key tup H' d xs := B.kp k (by simp) (fun q hq => by cases hq)
theorem TD.put (B : TD key tup H d xs) {p : Addr × α} (h : H p.1 = some (.tup (tup p.2))) : TD key tup (upd H d (.dK (kvT key (ptT key xs p)))) d (ptT key xs p) := by
  have o : ∀ q vs, H q = some (.tup vs) → upd H d (.dK (kvT key (ptT key xs p))) q = some (.tup vs) := fun q vs e => hu_ne (ne_of e B.at_ (by intro z; cases z)) e
  refine ⟨upd_same, fun q hq => ?_⟩
  rcases ptT_mem hq with rfl | m
  · exact o _ _ h
  · exact o _ _ (B.ob q m)
theorem TD.drop (B : TD key tup H d xs) {k : Int} : TD key tup (upd H d (.dK (kvT key (dpT key xs k)))) d (dpT key xs k) :=
  ⟨upd_same, fun q hq => hu_ne (ne_of (B.ob q (List.mem_filter.mp hq).1) B.at_ (by intro z; cases z)) (B.ob q (List.mem_filter.mp hq).1)⟩
theorem TD.find (B : TD key tup H d xs) {k : Int} {p : Addr × α} (h : fdT key xs k = some p) : H p.1 = some (.tup (tup p.2)) := B.ob p (fdT_some h).1
end
/-! ### ascending lists -/
def srt (l : List Int) : List Int := l.mergeSort fun a b => decide (a ≤ b)
theorem srt_perm (l : List Int) : (srt l).Perm l := List.mergeSort_perm _ _
theorem srt_le (l : List Int) : (srt l).Pairwise (· ≤ ·) := (List.pairwise_mergeSort (le := fun a b : Int => decide (a ≤ b)) (fun a b c h1 h2 => decide_eq_true (Int.le_trans (of_decide_eq_true h1) (of_decide_eq_true h2))) (fun a b => by
  by_cases h : a ≤ b
  · simp [h]
  · simp [h]
    omega) l).imp fun h => of_decide_eq_true h
theorem srt_is {os l : List Int} (p : os.Perm l) (s : os.Pairwise (· ≤ ·)) : os = srt l := sort_uniq (p.trans (srt_perm l).symm) s (srt_le l)
end RD

namespace My
open PySem PySem.Spec PyProof.Rows L2 He RD
open PySem PySem.Spec PyProof.Rows L2 He RD
def top (i : Nat) : Stmt := PySem.Challenge.pw_livingroll_k25_whole_tour_windows.main.body.getD i (.Pass ⟨0, 0, 0, 0⟩)
abbrev R : PySem.W.OpenRow := PySem.W.OpenLaw.row PySem.Challenge.rw_livingroll_k25_whole_tour_windows
abbrev s_l_box : Stmt := (top 12)
abbrev n_l_box : List Str := ["_law_script", "_law_cells", "_law_cell"]
abbrev p_l_box : List Str := ["_law_script"]
theorem sc_l_box : FnScope n_l_box p_l_box (defScope s_l_box) := ⟨rfl, rfl, rfl, by decide +kernel, rfl, by decide +kernel, by decide +kernel⟩
def d_l_box : DefD := ⟨("_law_box", none), "_law_box", "_law_box", defArgs s_l_box, defBody s_l_box, defScope s_l_box, [], []⟩
abbrev s_l_draw : Stmt := (top 13)
abbrev n_l_draw : List Str := ["_law_box_here", "_law_top", "_law_digit", "_law_cells", "_law_place", "_law_cell", "_law_mixed"]
abbrev p_l_draw : List Str := ["_law_box_here", "_law_top"]
theorem sc_l_draw : FnScope n_l_draw p_l_draw (defScope s_l_draw) := ⟨rfl, rfl, rfl, by decide +kernel, rfl, by decide +kernel, by decide +kernel⟩
def d_l_draw : DefD := ⟨("_law_draw", none), "_law_draw", "_law_draw", defArgs s_l_draw, defBody s_l_draw, defScope s_l_draw, [], []⟩
abbrev s_l_bits : Stmt := (top 14)
abbrev n_l_bits : List Str := ["_law_box_here", "_law_way"]
abbrev p_l_bits : List Str := ["_law_box_here"]
theorem sc_l_bits : FnScope n_l_bits p_l_bits (defScope s_l_bits) := ⟨rfl, rfl, rfl, by decide +kernel, rfl, by decide +kernel, by decide +kernel⟩
def d_l_bits : DefD := ⟨("_law_bits", none), "_law_bits", "_law_bits", defArgs s_l_bits, defBody s_l_bits, defScope s_l_bits, [], []⟩
abbrev s_l_patience : Stmt := (top 15)
abbrev n_l_patience : List Str := ["_law_box_here", "_law_way"]
abbrev p_l_patience : List Str := ["_law_box_here"]
theorem sc_l_patience : FnScope n_l_patience p_l_patience (defScope s_l_patience) := ⟨rfl, rfl, rfl, by decide +kernel, rfl, by decide +kernel, by decide +kernel⟩
def d_l_patience : DefD := ⟨("_law_patience", none), "_law_patience", "_law_patience", defArgs s_l_patience, defBody s_l_patience, defScope s_l_patience, [], []⟩
abbrev s_whole : Stmt := (top 5)
abbrev n_whole : List Str := ["value", "low", "high"]
abbrev p_whole : List Str := ["value", "low", "high"]
theorem sc_whole : FnScope n_whole p_whole (defScope s_whole) := ⟨rfl, rfl, rfl, by decide +kernel, rfl, by decide +kernel, by decide +kernel⟩
def d_whole : DefD := ⟨("whole", none), "whole", "whole", defArgs s_whole, defBody s_whole, defScope s_whole, [], []⟩
abbrev s_Setting_init : Stmt := (inClass (top 6) 5)
abbrev n_Setting_init : List Str := ["self", "bits", "patience", "room", "grace", "helpers"]
abbrev p_Setting_init : List Str := ["self", "bits", "patience", "room", "grace", "helpers"]
theorem sc_Setting_init : FnScope n_Setting_init p_Setting_init (defScope s_Setting_init) := ⟨rfl, rfl, rfl, by decide +kernel, rfl, by decide +kernel, by decide +kernel⟩
def d_Setting_init : DefD := ⟨("Setting", some "__init__"), "__init__", "Setting.__init__", defArgs s_Setting_init, defBody s_Setting_init, defScope s_Setting_init, [], [("grace", .int 6), ("helpers", .int 1)]⟩
abbrev s_Setting_seats : Stmt := (inClass (top 6) 7)
abbrev n_Setting_seats : List Str := ["self"]
abbrev p_Setting_seats : List Str := ["self"]
theorem sc_Setting_seats : FnScope n_Setting_seats p_Setting_seats (defScope s_Setting_seats) := ⟨rfl, rfl, rfl, by decide +kernel, rfl, by decide +kernel, by decide +kernel⟩
def g_Setting_seats : GetD := ⟨"Setting", "seats", "seats", "Setting.seats", defArgs s_Setting_seats, defBody s_Setting_seats, defScope s_Setting_seats⟩
abbrev s_distance : Stmt := (top 7)
abbrev n_distance : List Str := ["setting", "seat", "other"]
abbrev p_distance : List Str := ["setting", "seat", "other"]
theorem sc_distance : FnScope n_distance p_distance (defScope s_distance) := ⟨rfl, rfl, rfl, by decide +kernel, rfl, by decide +kernel, by decide +kernel⟩
def d_distance : DefD := ⟨("distance", none), "distance", "distance", defArgs s_distance, defBody s_distance, defScope s_distance, [], []⟩
abbrev s_first_from : Stmt := (top 8)
abbrev n_first_from : List Str := ["setting", "place", "held"]
abbrev p_first_from : List Str := ["setting", "place", "held"]
theorem sc_first_from : FnScope n_first_from p_first_from (defScope s_first_from) := ⟨rfl, rfl, rfl, by decide +kernel, rfl, by decide +kernel, by decide +kernel⟩
def d_first_from : DefD := ⟨("first_from", none), "first_from", "first_from", defArgs s_first_from, defBody s_first_from, defScope s_first_from, [], []⟩
abbrev s_Tour_init : Stmt := (inClass (top 10) 0)
abbrev n_Tour_init : List Str := ["self", "setting", "seat", "behind"]
abbrev p_Tour_init : List Str := ["self", "setting", "seat", "behind"]
theorem sc_Tour_init : FnScope n_Tour_init p_Tour_init (defScope s_Tour_init) := ⟨rfl, rfl, rfl, by decide +kernel, rfl, by decide +kernel, by decide +kernel⟩
def d_Tour_init : DefD := ⟨("Tour", some "__init__"), "__init__", "Tour.__init__", defArgs s_Tour_init, defBody s_Tour_init, defScope s_Tour_init, [], [("behind", .non)]⟩
abbrev s_Tour_aim : Stmt := (inClass (top 10) 1)
abbrev n_Tour_aim : List Str := ["self", "names"]
abbrev p_Tour_aim : List Str := ["self", "names"]
theorem sc_Tour_aim : FnScope n_Tour_aim p_Tour_aim (defScope s_Tour_aim) := ⟨rfl, rfl, rfl, by decide +kernel, rfl, by decide +kernel, by decide +kernel⟩
def d_Tour_aim : DefD := ⟨("Tour", some "aim"), "aim", "Tour.aim", defArgs s_Tour_aim, defBody s_Tour_aim, defScope s_Tour_aim, [], []⟩
abbrev s_Tour_report : Stmt := (inClass (top 10) 2)
abbrev n_Tour_report : List Str := ["self", "success"]
abbrev p_Tour_report : List Str := ["self", "success"]
theorem sc_Tour_report : FnScope n_Tour_report p_Tour_report (defScope s_Tour_report) := ⟨rfl, rfl, rfl, by decide +kernel, rfl, by decide +kernel, by decide +kernel⟩
def d_Tour_report : DefD := ⟨("Tour", some "report"), "report", "Tour.report", defArgs s_Tour_report, defBody s_Tour_report, defScope s_Tour_report, [], []⟩
abbrev s_l_flags : Stmt := (top 16)
abbrev n_l_flags : List Str := ["_law_box_here", "_law_ring", "_law_own", "_law_way", "_law_chunk", "_law_flags_here", "_law_spot"]
abbrev p_l_flags : List Str := ["_law_box_here", "_law_ring", "_law_own"]
theorem sc_l_flags : FnScope n_l_flags p_l_flags (defScope s_l_flags) := ⟨rfl, rfl, rfl, by decide +kernel, rfl, by decide +kernel, by decide +kernel⟩
def d_l_flags : DefD := ⟨("_law_flags", none), "_law_flags", "_law_flags", defArgs s_l_flags, defBody s_l_flags, defScope s_l_flags, [], []⟩
abbrev s_l_first : Stmt := (top 17)
abbrev n_l_first : List Str := ["_law_ring", "_law_place", "_law_names_here", "_law_ahead", "_law_spot"]
abbrev p_l_first : List Str := ["_law_ring", "_law_place", "_law_names_here"]
theorem sc_l_first : FnScope n_l_first p_l_first (defScope s_l_first) := ⟨rfl, rfl, rfl, by decide +kernel, rfl, by decide +kernel, by decide +kernel⟩
def d_l_first : DefD := ⟨("_law_first", none), "_law_first", "_law_first", defArgs s_l_first, defBody s_l_first, defScope s_l_first, [], []⟩
abbrev s_l_pool : Stmt := (top 18)
abbrev n_l_pool : List Str := ["_law_box_here", "_law_ring", "_law_own", "_law_large", "_law_flags_here", "_law_place", "_law_cap", "_law_met", "_law_pool_here", "_law_k", "_law_spot"]
abbrev p_l_pool : List Str := ["_law_box_here", "_law_ring", "_law_own", "_law_large"]
theorem sc_l_pool : FnScope n_l_pool p_l_pool (defScope s_l_pool) := ⟨rfl, rfl, rfl, by decide +kernel, rfl, by decide +kernel, by decide +kernel⟩
def d_l_pool : DefD := ⟨("_law_pool", none), "_law_pool", "_law_pool", defArgs s_l_pool, defBody s_l_pool, defScope s_l_pool, [], []⟩
abbrev s_l_tour : Stmt := (top 19)
abbrev n_l_tour : List Str := ["_law_box_here", "_law_setting", "_law_ring", "_law_own", "_law_way", "_law_last"]
abbrev p_l_tour : List Str := ["_law_box_here", "_law_setting", "_law_ring", "_law_own"]
theorem sc_l_tour : FnScope n_l_tour p_l_tour (defScope s_l_tour) := ⟨rfl, rfl, rfl, by decide +kernel, rfl, by decide +kernel, by decide +kernel⟩
def d_l_tour : DefD := ⟨("_law_tour", none), "_law_tour", "_law_tour", defArgs s_l_tour, defBody s_l_tour, defScope s_l_tour, [], []⟩
abbrev s_l_names : Stmt := (top 20)
abbrev n_l_names : List Str := ["_law_box_here", "_law_style", "_law_pool_here", "_law_loose", "_law_here", "_law_now", "_law_way", "_law_k", "_law_place", "_law_j"]
abbrev p_l_names : List Str := ["_law_box_here", "_law_style", "_law_pool_here", "_law_loose", "_law_here", "_law_now"]
theorem sc_l_names : FnScope n_l_names p_l_names (defScope s_l_names) := ⟨rfl, rfl, rfl, by decide +kernel, rfl, by decide +kernel, by decide +kernel⟩
def d_l_names : DefD := ⟨("_law_names", none), "_law_names", "_law_names", defArgs s_l_names, defBody s_l_names, defScope s_l_names, [], []⟩
abbrev s_l_played : Stmt := (top 21)
abbrev n_l_played : List Str := ["_law_box_here", "_law_tour_here", "_law_pool_here", "_law_patience_here", "_law_style", "_law_result", "_law_loose", "_law_marks", "_law_hard", "_law_many", "_law_here", "_law_now", "_law_rows", "_law_k", "_law_names_here", "_law_passed", "_law_spot", "_law_j"]
abbrev p_l_played : List Str := ["_law_box_here", "_law_tour_here", "_law_pool_here", "_law_patience_here"]
theorem sc_l_played : FnScope n_l_played p_l_played (defScope s_l_played) := ⟨rfl, rfl, rfl, by decide +kernel, rfl, by decide +kernel, by decide +kernel⟩
def d_l_played : DefD := ⟨("_law_played", none), "_law_played", "_law_played", defArgs s_l_played, defBody s_l_played, defScope s_l_played, [], []⟩
abbrev s_l_visits : Stmt := (top 22)
abbrev n_l_visits : List Str := ["_law_rows", "_law_patience_here", "_law_found", "_law_begun", "_law_spot", "_law_bad", "_law_k", "_law_row"]
abbrev p_l_visits : List Str := ["_law_rows", "_law_patience_here"]
theorem sc_l_visits : FnScope n_l_visits p_l_visits (defScope s_l_visits) := ⟨rfl, rfl, rfl, by decide +kernel, rfl, by decide +kernel, by decide +kernel⟩
def d_l_visits : DefD := ⟨("_law_visits", none), "_law_visits", "_law_visits", defArgs s_l_visits, defBody s_l_visits, defScope s_l_visits, [], []⟩
abbrev s_l_tried : Stmt := (top 23)
abbrev n_l_tried : List Str := ["_law_rows", "_law_spot", "_law_patience_here", "_law_bad", "_law_row"]
abbrev p_l_tried : List Str := ["_law_rows", "_law_spot", "_law_patience_here"]
theorem sc_l_tried : FnScope n_l_tried p_l_tried (defScope s_l_tried) := ⟨rfl, rfl, rfl, by decide +kernel, rfl, by decide +kernel, by decide +kernel⟩
def d_l_tried : DefD := ⟨("_law_tried", none), "_law_tried", "_law_tried", defArgs s_l_tried, defBody s_l_tried, defScope s_l_tried, [], []⟩
abbrev s_l_window : Stmt := (top 24)
abbrev n_l_window : List Str := ["_law_rows", "_law_visits_here", "_law_start", "_law_patience_here", "_law_seen", "_law_stay", "_law_checked", "_law_k", "_law_names_here", "_law_length", "_law_spot", "_law_visited", "_law_visit"]
abbrev p_l_window : List Str := ["_law_rows", "_law_visits_here", "_law_start", "_law_patience_here"]
theorem sc_l_window : FnScope n_l_window p_l_window (defScope s_l_window) := ⟨rfl, rfl, rfl, by decide +kernel, rfl, by decide +kernel, by decide +kernel⟩
def d_l_window : DefD := ⟨("_law_window", none), "_law_window", "_law_window", defArgs s_l_window, defBody s_l_window, defScope s_l_window, [], []⟩
abbrev s_law : Stmt := (top 25)
abbrev n_law : List Str := ["_law_script", "_law_box_here", "_law_large", "_law_bits_here", "_law_ring", "_law_own", "_law_pool_here", "_law_patience_here", "_law_setting", "_law_made", "_law_rows", "_law_tries", "_law_visits_here", "_law_start", "_law_row"]
abbrev p_law : List Str := ["_law_script"]
theorem sc_law : FnScope n_law p_law (defScope s_law) := ⟨rfl, rfl, rfl, by decide +kernel, rfl, by decide +kernel, by decide +kernel⟩
def d_law : DefD := ⟨("law", none), "law", "law", defArgs s_law, defBody s_law, defScope s_law, [], []⟩
def fn : List DefD := [d_l_box, d_l_draw, d_l_bits, d_l_patience, d_whole, d_Setting_init, d_distance, d_first_from, d_Tour_init, d_Tour_aim, d_Tour_report, d_l_flags, d_l_first, d_l_pool, d_l_tour, d_l_names, d_l_played, d_l_visits, d_l_tried, d_l_window, d_law]
def fa : List Fa := [.free "abs", .free "bool", .free "int", .free "isinstance", .free "len", .free "list", .free "min", .free "range", .free "sorted", .glo "_law_box", .glo "_law_draw", .glo "_law_bits", .glo "_law_patience", .glo "whole", .glo "distance", .glo "first_from", .meth "Tour" "aim", .meth "Tour" "report", .glo "_law_flags", .glo "_law_first", .glo "_law_pool", .glo "_law_tour", .glo "_law_names", .glo "_law_played", .glo "_law_visits", .glo "_law_tried", .glo "_law_window", .glo "law", .glo "Setting", .cls "Setting", .mkr "Setting", .noat "Setting" "bits", .noat "Setting" "patience", .noat "Setting" "room", .noat "Setting" "grace", .noat "Setting" "helpers", .glo "Tour", .cls "Tour", .mkr "Tour", .noat "Tour" "current", .noat "Tour" "failed", .noat "Tour" "_setting", .noat "Tour" "_last", .noat "Tour" "_running"]
def ex (K : PySem.W.Frag) : Bool := conB K "Setting" "MOST_BITS" (.int 8) && (conB K "Setting" "MOST_PATIENCE" (.int 6) && (conB K "Setting" "MOST_ROOM" (.int 64) && (conB K "Setting" "MOST_GRACE" (.int 200) && (conB K "Setting" "MOST_HELPERS" (.int 3)))))
def tf : List He.Defn := [d_first_from.at_]
def gs : List GetD := [g_Setting_seats]
abbrev TT (K : PySem.W.Frag) : List (Addr × Str) := [((He.cT K d_first_from.at_).2, "first_from.<locals>.<lambda>")]
structure Tb (K : PySem.W.Frag) (mg : Str → Option Value) (base : Heap) : Prop where
  t : ∀ p, p ∈ tf.map (He.cT K) → LamX.TabB base mg p.1 p.2
  g : ∀ d, d ∈ gs → PropOf K (ga K d.cls) d.fld (prA K d.cls d.fld) (prG K d.cls d.fld) ∧ ∃ fd, FunD K d.name d.qual d.params d.body d.scope [] [] (prG K d.cls d.fld) fd
abbrev Cx (K : PySem.W.Frag) (mg : Str → Option Value) : Prop := RD.Ctx fa fn ex K mg
section
variable {K : PySem.W.Frag} {mg : Str → Option Value}
theorem fr_abs (T : Cx K mg) : mg "abs" = none := T.fre 0
theorem fr_bool (T : Cx K mg) : mg "bool" = none := T.fre 1
theorem fr_int (T : Cx K mg) : mg "int" = none := T.fre 2
theorem fr_isinstance (T : Cx K mg) : mg "isinstance" = none := T.fre 3
theorem fr_len (T : Cx K mg) : mg "len" = none := T.fre 4
theorem fr_list (T : Cx K mg) : mg "list" = none := T.fre 5
theorem fr_min (T : Cx K mg) : mg "min" = none := T.fre 6
theorem fr_range (T : Cx K mg) : mg "range" = none := T.fre 7
theorem fr_sorted (T : Cx K mg) : mg "sorted" = none := T.fre 8
theorem gl_l_box (T : Cx K mg) : mg "_law_box" = some (.ref (ga K "_law_box")) := T.glo 9
theorem gl_l_draw (T : Cx K mg) : mg "_law_draw" = some (.ref (ga K "_law_draw")) := T.glo 10
theorem gl_l_bits (T : Cx K mg) : mg "_law_bits" = some (.ref (ga K "_law_bits")) := T.glo 11
theorem gl_l_patience (T : Cx K mg) : mg "_law_patience" = some (.ref (ga K "_law_patience")) := T.glo 12
theorem gl_whole (T : Cx K mg) : mg "whole" = some (.ref (ga K "whole")) := T.glo 13
theorem gl_distance (T : Cx K mg) : mg "distance" = some (.ref (ga K "distance")) := T.glo 14
theorem gl_first_from (T : Cx K mg) : mg "first_from" = some (.ref (ga K "first_from")) := T.glo 15
theorem mt_Tour_aim (T : Cx K mg) : Meth K (ga K "Tour") "aim" (ma K (ga K "Tour") "aim") := T.meth 16
theorem mt_Tour_report (T : Cx K mg) : Meth K (ga K "Tour") "report" (ma K (ga K "Tour") "report") := T.meth 17
theorem gl_l_flags (T : Cx K mg) : mg "_law_flags" = some (.ref (ga K "_law_flags")) := T.glo 18
theorem gl_l_first (T : Cx K mg) : mg "_law_first" = some (.ref (ga K "_law_first")) := T.glo 19
theorem gl_l_pool (T : Cx K mg) : mg "_law_pool" = some (.ref (ga K "_law_pool")) := T.glo 20
theorem gl_l_tour (T : Cx K mg) : mg "_law_tour" = some (.ref (ga K "_law_tour")) := T.glo 21
theorem gl_l_names (T : Cx K mg) : mg "_law_names" = some (.ref (ga K "_law_names")) := T.glo 22
theorem gl_l_played (T : Cx K mg) : mg "_law_played" = some (.ref (ga K "_law_played")) := T.glo 23
theorem gl_l_visits (T : Cx K mg) : mg "_law_visits" = some (.ref (ga K "_law_visits")) := T.glo 24
theorem gl_l_tried (T : Cx K mg) : mg "_law_tried" = some (.ref (ga K "_law_tried")) := T.glo 25
theorem gl_l_window (T : Cx K mg) : mg "_law_window" = some (.ref (ga K "_law_window")) := T.glo 26
theorem gl_law (T : Cx K mg) : mg "law" = some (.ref (ga K "law")) := T.glo 27
theorem gl_Setting (T : Cx K mg) : mg "Setting" = some (.ref (ga K "Setting")) := T.glo 28
theorem cl_Setting (T : Cx K mg) : Cls K (ga K "Setting") := T.cls 29
theorem mk_Setting (T : Cx K mg) : Mk K (ga K "Setting") (ma K (ga K "Setting") "__init__") := T.mkr 30
theorem na_Setting_bits (T : Cx K mg) : NoAttr K (ga K "Setting") "bits" := T.noat 31
theorem na_Setting_patience (T : Cx K mg) : NoAttr K (ga K "Setting") "patience" := T.noat 32
theorem na_Setting_room (T : Cx K mg) : NoAttr K (ga K "Setting") "room" := T.noat 33
theorem na_Setting_grace (T : Cx K mg) : NoAttr K (ga K "Setting") "grace" := T.noat 34
theorem na_Setting_helpers (T : Cx K mg) : NoAttr K (ga K "Setting") "helpers" := T.noat 35
theorem gl_Tour (T : Cx K mg) : mg "Tour" = some (.ref (ga K "Tour")) := T.glo 36
theorem cl_Tour (T : Cx K mg) : Cls K (ga K "Tour") := T.cls 37
theorem mk_Tour (T : Cx K mg) : Mk K (ga K "Tour") (ma K (ga K "Tour") "__init__") := T.mkr 38
theorem na_Tour_current (T : Cx K mg) : NoAttr K (ga K "Tour") "current" := T.noat 39
theorem na_Tour_failed (T : Cx K mg) : NoAttr K (ga K "Tour") "failed" := T.noat 40
theorem na_Tour__setting (T : Cx K mg) : NoAttr K (ga K "Tour") "_setting" := T.noat 41
theorem na_Tour__last (T : Cx K mg) : NoAttr K (ga K "Tour") "_last" := T.noat 42
theorem na_Tour__running (T : Cx K mg) : NoAttr K (ga K "Tour") "_running" := T.noat 43
end

/-- the drawing box: at p the list of the cells' list and three ints -/
structure Box (H : Hp) (p c : Addr) : Prop where
  ex : ∃ (ns : List Int) (a b d : Int), H p = some (.lst [.ref c, .int a, .int b, .int d]) ∧ H c = some (.lst (ns.map V.int)) ∧ ns ≠ [] ∧ ns.length ≤ 63
  ne : c ≠ p
theorem Box.kp {H H' : Hp} {p c : Addr} {ps : List Addr} (B : Box H p c) (k : Kp ps H H') (n1 : p ∉ ps) (n2 : c ∉ ps) : Box H' p c := by
  obtain ⟨⟨ns, a, b, d, h1, h2, h3, h4⟩, ne⟩ := B
  exact ⟨⟨ns, a, b, d, k _ _ h1 n1, k _ _ h2 n2, h3, h4⟩, ne⟩
theorem Box.k0 {H H' : Hp} {p c : Addr} (B : Box H p c) (k : Kp [] H H') : Box H' p c := B.kp k (by simp) (by simp)
theorem Box.k1 {H H' : Hp} {p c q : Addr} (B : Box H p c) (k : Kp [q] H H') (n1 : p ≠ q) (n2 : c ≠ q) : Box H' p c := B.kp k (by simp [n1]) (by simp [n2])
theorem Box.new {H : Hp} {p c q : Addr} {o : HO} (B : Box H p c) (k : H q = none) : Box (upd H q o) p c := B.k0 (Kp.new k)
theorem Box.kt {H H' : Hp} {p c : Addr} {TT : List (Addr × Str)} (B : Box H p c) (k : Kt TT [] H H') : Box H' p c := by
  obtain ⟨⟨ns, a, b, d, h1, h2, h3, h4⟩, ne⟩ := B
  exact ⟨⟨ns, a, b, d, k.g0 (by intro _ z; cases z) h1, k.g0 (by intro _ z; cases z) h2, h3, h4⟩, ne⟩
theorem Box.at {H : Hp} {p c : Addr} (B : Box H p c) : ∃ xs, H p = some (.lst xs) ∧ H c ≠ none := by
  obtain ⟨⟨ns, a, b, d, h1, h2, h3, h4⟩, ne⟩ := B
  exact ⟨_, h1, by rw [h2]; simp⟩
theorem Box.tabs {H H' : Hp} {p c : Addr} {TT : List (Addr × Str)} (B : Box H p c) (h : LamX.Tabs TT H) (k : Kp [p] H H') : LamX.Tabs TT H' := by
  obtain ⟨⟨ns, a, b, d, h1, h2, h3, h4⟩, ne⟩ := B
  exact tabs_kp h k fun q hq => by
    rw [List.mem_singleton.mp hq]
    exact ⟨_, h1, trivial⟩
theorem Box.ne1 {H : Hp} {p c q : Addr} (B : Box H p c) (k : H q = none) : p ≠ q := by
  obtain ⟨xs, h, _⟩ := B.at
  exact ne_of_none h k
theorem Box.ne2 {H : Hp} {p c q : Addr} (B : Box H p c) (k : H q = none) : c ≠ q := by
  obtain ⟨⟨ns, a, b, d, h1, h2, h3, h4⟩, ne⟩ := B
  exact ne_of_none h2 k

/-- the numbers of a setting -/
structure Stg where
  bits : Int
  pat : Int
  room : Int
  grace : Int
  hel : Int
structure Stg.Ok (s : Stg) : Prop where
  b0 : 1 ≤ s.bits
  b1 : s.bits ≤ 8
  p0 : 1 ≤ s.pat
  p1 : s.pat ≤ 6
  r0 : 1 ≤ s.room
  r1 : s.room ≤ 64
  g0 : 1 ≤ s.grace
  g1 : s.grace ≤ 200
  h0 : 0 ≤ s.hel
  h1 : s.hel ≤ 3
@[irreducible] def Stg.ring (s : Stg) : Int := 2 ^ s.bits.toNat
theorem Stg.ring_eq (s : Stg) : s.ring = 2 ^ s.bits.toNat := by
  unfold Stg.ring
  rfl
def Stg.fs (s : Stg) : List (Str × V) := [(("bits" : Str), .int s.bits), (("patience" : Str), .int s.pat), (("room" : Str), .int s.room), (("grace" : Str), .int s.grace), (("helpers" : Str), .int s.hel)]
theorem Stg.Ok.ring {s : Stg} (h : s.Ok) : s.ring = 2 ∨ s.ring = 4 ∨ s.ring = 8 ∨ s.ring = 16 ∨ s.ring = 32 ∨ s.ring = 64 ∨ s.ring = 128 ∨ s.ring = 256 := by
  have h0 := h.b0
  have h1 := h.b1
  have e : s.bits = 1 ∨ s.bits = 2 ∨ s.bits = 3 ∨ s.bits = 4 ∨ s.bits = 5 ∨ s.bits = 6 ∨ s.bits = 7 ∨ s.bits = 8 := by omega
  rw [Stg.ring_eq]
  rcases e with e | e | e | e | e | e | e | e <;> rw [e] <;> decide
theorem Stg.Ok.r2 {s : Stg} (h : s.Ok) : 2 ≤ s.ring := by
  have := h.ring
  omega
theorem Stg.Ok.r256 {s : Stg} (h : s.Ok) : s.ring ≤ 256 := by
  have := h.ring
  omega
/-- a setting stands at p -/
structure SetAt (K : PySem.W.Frag) (H : Hp) (p : Addr) (s : Stg) : Prop where
  ex : ∃ dx : Addr, H p = some (.ins (ga K "Setting") dx s.fs)
  ok : s.Ok
theorem SetAt.kp {K : PySem.W.Frag} {H H' : Hp} {p : Addr} {s : Stg} {ps : List Addr} (S : SetAt K H p s) (k : Kp ps H H') (n : p ∉ ps) : SetAt K H' p s := by
  obtain ⟨⟨dx, h⟩, ok⟩ := S
  exact ⟨⟨dx, k _ _ h n⟩, ok⟩
theorem SetAt.k0 {K : PySem.W.Frag} {H H' : Hp} {p : Addr} {s : Stg} (S : SetAt K H p s) (k : Kp [] H H') : SetAt K H' p s := S.kp k (by simp)
theorem SetAt.k1 {K : PySem.W.Frag} {H H' : Hp} {p q : Addr} {s : Stg} (S : SetAt K H p s) (k : Kp [q] H H') (n : p ≠ q) : SetAt K H' p s := S.kp k (by simp [n])
theorem SetAt.kt {K : PySem.W.Frag} {H H' : Hp} {p : Addr} {s : Stg} {TT : List (Addr × Str)} (S : SetAt K H p s) (k : Kt TT [] H H') : SetAt K H' p s := by
  obtain ⟨⟨dx, h⟩, ok⟩ := S
  exact ⟨⟨dx, k.g0 (by intro _ z; cases z) h⟩, ok⟩
theorem SetAt.nelst {K : PySem.W.Frag} {H : Hp} {p q : Addr} {s : Stg} {xs : List V} (S : SetAt K H p s) (h : H q = some (.lst xs)) : p ≠ q := by
  obtain ⟨⟨dx, e⟩, ok⟩ := S
  exact ne_of e h (by intro z; cases z)

theorem SetAt.neins {K : PySem.W.Frag} {H : Hp} {p q C dx : Addr} {s : Stg} {f : Str} {v : V} {fs : List (Str × V)} (S : SetAt K H p s) (h : H q = some (.ins C dx ((f, v) :: fs))) (n : f ≠ "bits") : p ≠ q := by
  obtain ⟨⟨dx, e⟩, ok⟩ := S
  refine ne_of e h fun z => ?_
  injection z with _ _ e1
  injection e1 with e2 _
  injection e2 with e3
  exact n e3.symm
theorem SetAt.neins' {K : PySem.W.Frag} {H : Hp} {p q C dx : Addr} {s : Stg} (S : SetAt K H p s) (h : H q = some (.ins C dx [])) : p ≠ q := by
  obtain ⟨⟨dx, e⟩, ok⟩ := S
  refine ne_of e h fun z => ?_
  injection z with _ _ e1
  cases e1
theorem SetAt.nedK {K : PySem.W.Frag} {H : Hp} {p q : Addr} {s : Stg} {xs : List (Key × V)} (S : SetAt K H p s) (h : H q = some (.dK xs)) : p ≠ q := by
  obtain ⟨⟨dx, e⟩, ok⟩ := S
  exact ne_of e h (by intro z; cases z)
theorem con_MOST_BITS {K : PySem.W.Frag} {mg : Str → Option Value} (T : Cx K mg) : ∃ u, Con K (ga K "Setting") "MOST_BITS" (.int 8) u := conB_ok (v := .int 8) (ba T.ex).1
theorem con_MOST_PATIENCE {K : PySem.W.Frag} {mg : Str → Option Value} (T : Cx K mg) : ∃ u, Con K (ga K "Setting") "MOST_PATIENCE" (.int 6) u := conB_ok (v := .int 6) (ba (ba T.ex).2).1
theorem con_MOST_ROOM {K : PySem.W.Frag} {mg : Str → Option Value} (T : Cx K mg) : ∃ u, Con K (ga K "Setting") "MOST_ROOM" (.int 64) u := conB_ok (v := .int 64) (ba (ba (ba T.ex).2).2).1
theorem con_MOST_GRACE {K : PySem.W.Frag} {mg : Str → Option Value} (T : Cx K mg) : ∃ u, Con K (ga K "Setting") "MOST_GRACE" (.int 200) u := conB_ok (v := .int 200) (ba (ba (ba (ba T.ex).2).2).2).1
theorem con_MOST_HELPERS {K : PySem.W.Frag} {mg : Str → Option Value} (T : Cx K mg) : ∃ u, Con K (ga K "Setting") "MOST_HELPERS" (.int 3) u := conB_ok (v := .int 3) (ba (ba (ba (ba T.ex).2).2).2).2

def Ring (r : Int) : Prop := r = 2 ∨ r = 4 ∨ r = 8 ∨ r = 16 ∨ r = 32 ∨ r = 64 ∨ r = 128 ∨ r = 256
theorem Ring.pos {r : Int} (hr : Ring r) : 0 < r := by
  rcases hr with rfl | rfl | rfl | rfl | rfl | rfl | rfl | rfl <;> omega
theorem Ring.le {r : Int} (hr : Ring r) : r ≤ 256 := by
  rcases hr with rfl | rfl | rfl | rfl | rfl | rfl | rfl | rfl <;> omega
theorem Ring.two {r : Int} (hr : Ring r) : 2 ≤ r := by
  rcases hr with rfl | rfl | rfl | rfl | rfl | rfl | rfl | rfl <;> omega
theorem key_inj {r a b c : Int} (hr : Ring r) (a0 : 0 ≤ a) (a1 : a < r) (b0 : 0 ≤ b) (b1 : b < r) (h : (a - c) % r = (b - c) % r) : a = b := by
  rcases hr with rfl | rfl | rfl | rfl | rfl | rfl | rfl | rfl <;> omega
theorem key_to {r a c : Int} (hr : Ring r) (a0 : 0 ≤ a) (a1 : a < r) : (c + (a - c) % r) % r = a := by
  rcases hr with rfl | rfl | rfl | rfl | rfl | rfl | rfl | rfl <;> omega

theorem atI_bls {bs : List Bool} {i : Int} (h0 : 0 ≤ i) (h1 : i < bs.length) : atI (bs.map V.bl) i = some (.bl (bs.getD i.toNat false)) := by
  obtain ⟨j, rfl⟩ := Int.eq_ofNat_of_zero_le h0
  refine atI_nat ?_
  have hj : j < bs.length := by omega
  rw [List.getElem?_map, List.getElem?_eq_getElem hj]
  simp [hj]

theorem lamU_first_from {K : PySem.W.Frag} {mg : Str → Option Value} (T : Cx K mg) : ∀ p ∈ TT K, p.1 = (He.cT K d_first_from.at_).2 → p.2 = "first_from.<locals>.<lambda>" := fun p hp _ => by rw [List.mem_singleton.mp hp]
theorem first_uniq {r place : Int} {xs : List Int} {a b : Option Int} (hr : Ring r) (hx : ∀ z, z ∈ xs → 0 ≤ z ∧ z < r) (ha : FirstOf r place xs a) (hb : FirstOf r place xs b) : a = b := by
  cases a with
  | none =>
    cases b with
    | none => rfl
    | some b =>
      have e : xs = [] := ha
      rw [e] at hb
      cases hb.1
  | some a =>
    cases b with
    | none =>
      have e : xs = [] := hb
      rw [e] at ha
      cases ha.1
    | some b =>
      have h1 := ha.2 b hb.1
      have h2 := hb.2 a ha.1
      have a1 := hx a ha.1
      have b1 := hx b hb.1
      rw [key_inj (c := place) hr a1.1 a1.2 b1.1 b1.2 (by omega)]
/-- what a tour holds beside its setting -/
structure Mo where
  last : Int
  now : Option Int
  run : Bool
  bad : Int
structure Mo.Ok (m : Mo) (r : Int) : Prop where
  now : ∀ n, m.now = some n → 0 ≤ n ∧ n < r
  run : m.run = true → ∃ n, m.now = some n
/-- an aim -/
def AimR (r : Int) (m : Mo) (xs : List Int) (m' : Mo) : Prop :=
  (m.run = true ∧ (∃ n, m.now = some n ∧ n ∈ xs) ∧ m' = m) ∨ (¬ (m.run = true ∧ ∃ n, m.now = some n ∧ n ∈ xs) ∧ ∃ o, FirstOf r (m.last + 1) xs o ∧ m' = ⟨o.getD m.last, o, o.isSome, 0⟩)
theorem AimR.uniq {r : Int} {m a b : Mo} {xs : List Int} (hr : Ring r) (hx : ∀ z, z ∈ xs → 0 ≤ z ∧ z < r) (ha : AimR r m xs a) (hb : AimR r m xs b) : a = b := by
  rcases ha with ⟨h1, h2, rfl⟩ | ⟨h1, o, h2, rfl⟩
  · rcases hb with ⟨h3, h4, rfl⟩ | ⟨h3, o, h4, rfl⟩
    · rfl
    · exact absurd ⟨h1, h2⟩ h3
  · rcases hb with ⟨h3, h4, rfl⟩ | ⟨h3, o', h4, rfl⟩
    · exact absurd ⟨h3, h4⟩ h1
    · rw [first_uniq hr hx h2 h4]
theorem AimR.ok {r : Int} {m a : Mo} {xs : List Int} (hm : m.Ok r) (hx : ∀ z, z ∈ xs → 0 ≤ z ∧ z < r) (ha : AimR r m xs a) : a.Ok r := by
  rcases ha with ⟨h1, h2, rfl⟩ | ⟨h1, o, h2, rfl⟩
  · exact hm
  · refine ⟨fun n e => ?_, fun e => ?_⟩
    · have e : o = some n := e
      rw [e] at h2
      exact hx n h2.1
    · exact Option.isSome_iff_exists.mp e
theorem AimR.run {r : Int} {m a : Mo} {xs : List Int} (ha : AimR r m xs a) (h : a.now ≠ none) : a.run = true := by
  rcases ha with ⟨h1, h2, rfl⟩ | ⟨h1, o, h2, rfl⟩
  · exact h1
  · cases o with
    | none => exact absurd rfl h
    | some b => rfl
/-- a report -/
def repM (pat : Int) (m : Mo) (b : Bool) : Mo := if m.run = true then (if b = true then { m with run := false } else { m with bad := m.bad + 1, run := decide (m.bad + 1 < pat) }) else m
theorem repM_ok {pat r : Int} {m : Mo} {b : Bool} (h : m.Ok r) : (repM pat m b).Ok r := by
  unfold repM
  split
  · rename_i hr
    split
    · exact ⟨h.now, fun e => by cases e⟩
    · exact ⟨h.now, fun e => h.run hr⟩
  · exact h
/-- a tour at t, a state of the law at s with its flags at F -/
def TourAt (K : PySem.W.Frag) (H : Hp) (t S : Addr) (m : Mo) : Prop := ∃ dx, H t = some (.ins (ga K "Tour") dx [(("current" : Str), ov m.now), (("failed" : Str), .int m.bad), (("_setting" : Str), .ref S), (("_last" : Str), .int m.last), (("_running" : Str), .bl m.run)])
def stK (r pat own : Int) (m : Mo) (F : Addr) : List (Key × V) := [(.inr "ring", .int r), (.inr "patience", .int pat), (.inr "own", .int own), (.inr "last", .int m.last), (.inr "now", ov m.now), (.inr "open", .bl m.run), (.inr "bad", .int m.bad), (.inr "flags", .ref F)]
theorem stk_ring {r pat own : Int} {m : Mo} {F : Addr} : valV (stK r pat own m F) (.inr "ring") = some (.int r) := rfl
theorem stk_patience {r pat own : Int} {m : Mo} {F : Addr} : valV (stK r pat own m F) (.inr "patience") = some (.int pat) := rfl
theorem stk_own {r pat own : Int} {m : Mo} {F : Addr} : valV (stK r pat own m F) (.inr "own") = some (.int own) := rfl
theorem stk_last {r pat own : Int} {m : Mo} {F : Addr} : valV (stK r pat own m F) (.inr "last") = some (.int m.last) := rfl
theorem stk_now {r pat own : Int} {m : Mo} {F : Addr} : valV (stK r pat own m F) (.inr "now") = some (ov m.now) := rfl
theorem stk_open {r pat own : Int} {m : Mo} {F : Addr} : valV (stK r pat own m F) (.inr "open") = some (.bl m.run) := rfl
theorem stk_bad {r pat own : Int} {m : Mo} {F : Addr} : valV (stK r pat own m F) (.inr "bad") = some (.int m.bad) := rfl
theorem stk_flags {r pat own : Int} {m : Mo} {F : Addr} : valV (stK r pat own m F) (.inr "flags") = some (.ref F) := rfl
theorem put_last {r pat own v : Int} {m : Mo} {F : Addr} : putK (stK r pat own m F) (.inr "last") (.int v) = stK r pat own { m with last := v } F := rfl
theorem put_now {r pat own : Int} {v : Option Int} {m : Mo} {F : Addr} : putK (stK r pat own m F) (.inr "now") (ov v) = stK r pat own { m with now := v } F := rfl
theorem put_open {r pat own : Int} {v : Bool} {m : Mo} {F : Addr} : putK (stK r pat own m F) (.inr "open") (.bl v) = stK r pat own { m with run := v } F := rfl
theorem put_bad {r pat own v : Int} {m : Mo} {F : Addr} : putK (stK r pat own m F) (.inr "bad") (.int v) = stK r pat own { m with bad := v } F := rfl
theorem put_flags {r pat own : Int} {m : Mo} {F G : Addr} : putK (stK r pat own m F) (.inr "flags") (.ref G) = stK r pat own m G := rfl
theorem stk_len {r pat own : Int} {m : Mo} {F : Addr} : (stK r pat own m F).length < sizeLine := szlt (Nat.le_of_ble_eq_true rfl)
def StAt (H : Hp) (s F : Addr) (r pat own : Int) (m : Mo) : Prop := H s = some (.dK (stK r pat own m F))
def FlAt (H : Hp) (F : Addr) (r : Int) : Prop := ∃ bs : List Bool, H F = some (.lst (bs.map V.bl)) ∧ bs.length = r.toNat
theorem FlAt.kp {H H' : Hp} {F : Addr} {r : Int} {ps : List Addr} (h : FlAt H F r) (k : Kp ps H H') (n : F ∉ ps) : FlAt H' F r := by
  obtain ⟨bs, h1, h2⟩ := h
  exact ⟨bs, k _ _ h1 n, h2⟩
theorem TourAt.kp {K : PySem.W.Frag} {H H' : Hp} {t S : Addr} {m : Mo} {ps : List Addr} (h : TourAt K H t S m) (k : Kp ps H H') (n : t ∉ ps) : TourAt K H' t S m := by
  obtain ⟨dx, h⟩ := h
  exact ⟨dx, k _ _ h n⟩
/-- a report as the law follows it -/
def folM (pat : Int) (m : Mo) (b : Bool) : Mo := ⟨m.last, m.now, if b = true ∨ pat ≤ (if b = true then m.bad else m.bad + 1) then false else m.run, if b = true then m.bad else m.bad + 1⟩
theorem fol_rep {pat : Int} {m : Mo} {b : Bool} (h : m.run = true) : folM pat m b = repM pat m b := by
  obtain ⟨last, now, run, bad⟩ := m
  obtain rfl : run = true := h
  cases b with
  | true => rfl
  | false =>
    unfold folM repM
    by_cases h : bad + 1 < pat
    · simp [h, show ¬ pat ≤ bad + 1 by omega]
    · simp [h, show pat ≤ bad + 1 by omega]
structure Pair (K : PySem.W.Frag) (H : Hp) (t s F S : Addr) (st : Stg) (own : Int) (m : Mo) : Prop where
  tour : TourAt K H t S m
  state : StAt H s F st.ring st.pat own m
  fl : FlAt H F st.ring
  set : SetAt K H S st
  own : 0 ≤ own ∧ own < st.ring
  ok : m.Ok st.ring
def fu {α : Type} (f : Bool → α) (w : Bool) (x : α) : Bool → α := fun v => if v = w then x else f v
theorem fu_same {α : Type} {f : Bool → α} {w : Bool} {x : α} : fu f w x w = x := if_pos rfl
theorem fu_ne {α : Type} {f : Bool → α} {w v : Bool} {x : α} (h : v ≠ w) : fu f w x v = f v := if_neg h
structure Wd (K : PySem.W.Frag) (T : List (Addr × Str)) (H : Hp) (p c Ts Ss : Addr) (t s F S : Bool → Addr) (st : Bool → Stg) (own : Bool → Int) (m : Bool → Mo) : Prop where
  box : Box H p c
  tabs : LamX.Tabs T H
  hT : H Ts = some (.lst [.ref (t false), .ref (t true)])
  hS : H Ss = some (.lst [.ref (s false), .ref (s true)])
  pr : ∀ w, Pair K H (t w) (s w) (F w) (S w) (st w) (own w) (m w)
  tt : ∀ v w, v ≠ w → t v ≠ t w
  ss : ∀ v w, v ≠ w → s v ≠ s w
  ff : ∀ v w, v ≠ w → F v ≠ F w
  fp : ∀ w, F w ≠ p ∧ F w ≠ c
theorem ref_bls {x : Addr} {r : List V} {bs : List Bool} : HO.lst (V.ref x :: r) ≠ HO.lst (bs.map V.bl) := by
  intro z
  injection z with z
  cases bs with
  | nil => cases z
  | cons b bs =>
    injection z with z _
    cases z
theorem Wd.step {K : PySem.W.Frag} {T : List (Addr × Str)} {H H' : Hp} {p c Ts Ss F' : Addr} {t s F S : Bool → Addr} {st : Bool → Stg} {own : Bool → Int} {m : Bool → Mo} {m' : Mo} (W : Wd K T H p c Ts Ss t s F S st own m) (w : Bool)
    (k : Kt T [p, s w, F w, t w] H H') (b : Box H' p c) (q : Pair K H' (t w) (s w) F' (S w) (st w) (own w) m') (hF : F' = F w ∨ Frn H F') : Wd K T H' p c Ts Ss t s (fu F w F') S st own (fu m w m') := by
  obtain ⟨⟨ns, x1, x2, x3, hp, hc, _⟩, npc⟩ := W.box
  obtain ⟨dw, tw⟩ := (W.pr w).tour
  have sw : H (s w) = _ := (W.pr w).state
  obtain ⟨bw, Fw, lw⟩ := (W.pr w).fl
  have nT : ∀ o, NoTbl (.lst o) := fun o t z => by cases z
  have oth : ∀ v, v ≠ w → Pair K H' (t v) (s v) (F v) (S v) (st v) (own v) (m v) := fun v hv => by
    obtain ⟨h1, h2, h3, h4, h5, h6⟩ := W.pr v
    obtain ⟨dv, tv⟩ := h1
    have sv : H (s v) = _ := h2
    obtain ⟨bv, Fv, lv⟩ := h3
    obtain ⟨⟨ds, Sv⟩, ok⟩ := id h4
    refine ⟨⟨dv, k.1 _ _ tv (fun _ z => by cases z) ?_⟩, k.1 _ _ sv (fun _ z => by cases z) ?_, ⟨bv, k.1 _ _ Fv (nT _) ?_, lv⟩, ⟨⟨ds, k.1 _ _ Sv (fun _ z => by cases z) ?_⟩, ok⟩, h5, h6⟩
    · simp only [List.mem_cons, List.not_mem_nil, or_false, not_or]
      exact ⟨ne_of tv hp (by intro z; cases z), ne_of tv sw (by intro z; cases z), ne_of tv Fw (by intro z; cases z), W.tt v w hv⟩
    · simp only [List.mem_cons, List.not_mem_nil, or_false, not_or]
      exact ⟨ne_of sv hp (by intro z; cases z), W.ss v w hv, ne_of sv Fw (by intro z; cases z), ne_of sv tw (by intro z; cases z)⟩
    · simp only [List.mem_cons, List.not_mem_nil, or_false, not_or]
      exact ⟨(W.fp v).1, ne_of Fv sw (by intro z; cases z), W.ff v w hv, ne_of Fv tw (by intro z; cases z)⟩
    · simp only [List.mem_cons, List.not_mem_nil, or_false, not_or]
      exact ⟨h4.nelst hp, h4.nedK sw, h4.nelst Fw, h4.neins tw (by decide)⟩
  have lst : ∀ (a x y : Addr), H a = some (.lst [.ref x, .ref y]) → H' a = some (.lst [.ref x, .ref y]) := fun a x y e => by
    refine k.1 _ _ e (nT _) ?_
    simp only [List.mem_cons, List.not_mem_nil, or_false, not_or]
    exact ⟨ne_of e hp (by intro z; cases z), ne_of e sw (by intro z; cases z), ne_of e Fw ref_bls, ne_of e tw (by intro z; cases z)⟩
  refine ⟨b, k.2, lst _ _ _ W.hT, lst _ _ _ W.hS, fun v => ?_, W.tt, W.ss, fun u v huv => ?_, fun v => ?_⟩
  · by_cases hv : v = w
    · rw [hv, fu_same, fu_same]
      exact q
    · rw [fu_ne hv, fu_ne hv]
      exact oth v hv
  · by_cases hv : v = w
    · have hu : u ≠ w := fun z => huv (z.trans hv.symm)
      rw [hv, fu_same, fu_ne hu]
      obtain ⟨bu, Fu, _⟩ := (W.pr u).fl
      rcases hF with e | f
      · rw [e]
        exact W.ff u w hu
      · exact f _ _ Fu (nT _)
    · rw [fu_ne hv]
      by_cases hu : u = w
      · rw [hu, fu_same]
        obtain ⟨bu, Fv, _⟩ := (W.pr v).fl
        rcases hF with e | f
        · rw [e]
          exact W.ff w v (Ne.symm hv)
        · exact Ne.symm (f _ _ Fv (nT _))
      · rw [fu_ne hu]
        exact W.ff u v huv
  · by_cases hv : v = w
    · rw [hv, fu_same]
      rcases hF with e | f
      · rw [e]
        exact W.fp w
      · exact ⟨Ne.symm (f _ _ hp (nT _)), Ne.symm (f _ _ hc (nT _))⟩
    · rw [fu_ne hv]
      exact W.fp v
theorem Pair.kp {K : PySem.W.Frag} {H H' : Hp} {t s F S : Addr} {st : Stg} {own : Int} {m : Mo} {ps : List Addr} (P : Pair K H t s F S st own m) (k : Kp ps H H') (n1 : t ∉ ps) (n2 : s ∉ ps) (n3 : F ∉ ps) (n4 : S ∉ ps) : Pair K H' t s F S st own m := by
  obtain ⟨q1, q2, q3, q4, q5, q6⟩ := P
  exact ⟨q1.kp k n1, k _ _ q2 n2, q3.kp k n3, q4.kp k n4, q5, q6⟩
theorem Wd.draw {K : PySem.W.Frag} {T : List (Addr × Str)} {H H' : Hp} {p c Ts Ss : Addr} {t s F S : Bool → Addr} {st : Bool → Stg} {own : Bool → Int} {m : Bool → Mo} (W : Wd K T H p c Ts Ss t s F S st own m) (k : Kp [p] H H') (b : Box H' p c) : Wd K T H' p c Ts Ss t s F S st own m := by
  obtain ⟨⟨ns, x1, x2, x3, hp, hc, _⟩, npc⟩ := W.box
  refine ⟨b, W.box.tabs W.tabs k, k.g1 (ne_of W.hT hp (by intro z; cases z)) W.hT, k.g1 (ne_of W.hS hp (by intro z; cases z)) W.hS, fun v => ?_, W.tt, W.ss, W.ff, W.fp⟩
  obtain ⟨dv, tv⟩ := (W.pr v).tour
  have sv : H (s v) = _ := (W.pr v).state
  exact (W.pr v).kp k (by simpa using ne_of tv hp (by intro z; cases z)) (by simpa using ne_of sv hp (by intro z; cases z)) (by simpa using (W.fp v).1) (by simpa using (W.pr v).set.nelst hp)
theorem Box.ktp {H H' : Hp} {p c : Addr} {TT : List (Addr × Str)} {ps : List Addr} (B : Box H p c) (k : Kt TT ps H H') (n1 : p ∉ ps) (n2 : c ∉ ps) : Box H' p c := by
  obtain ⟨⟨ns, a, b, d, h1, h2, h3, h4⟩, ne⟩ := B
  exact ⟨⟨ns, a, b, d, k.1 _ _ h1 (by intro _ z; cases z) n1, k.1 _ _ h2 (by intro _ z; cases z) n2, h3, h4⟩, ne⟩
/-- the tour and then the state at w are changed -/
theorem Wd.both {K : PySem.W.Frag} {T : List (Addr × Str)} {H H1 H2 : Hp} {p c Ts Ss : Addr} {t s F S : Bool → Addr} {st : Bool → Stg} {own : Bool → Int} {m : Bool → Mo} (W : Wd K T H p c Ts Ss t s F S st own m) (w : Bool) {m' : Mo}
    (k1 : Kt T [t w] H H1) (T1 : TourAt K H1 (t w) (S w) m') (k2 : Kp [s w] H1 H2) (S2 : StAt H2 (s w) (F w) (st w).ring (st w).pat (own w) m') (ok : m'.Ok (st w).ring) : Wd K T H2 p c Ts Ss t s (fu F w (F w)) S st own (fu m w m') := by
  obtain ⟨⟨ns, x1, x2, x3, hp, hc, _⟩, npc⟩ := W.box
  obtain ⟨dw, tw⟩ := (W.pr w).tour
  have sw : H (s w) = _ := (W.pr w).state
  obtain ⟨bw, Fw, lw⟩ := (W.pr w).fl
  obtain ⟨⟨ds, Sw⟩, okS⟩ := id (W.pr w).set
  obtain ⟨d1, tw1⟩ := T1
  have sw1 := k1.g1 (by intro _ z; cases z) (ne_of sw tw (by intro z; cases z)) sw
  have Fw1 := k1.g1 (by intro _ z; cases z) (ne_of Fw tw (by intro z; cases z)) Fw
  have Sw1 := k1.g1 (by intro _ z; cases z) ((W.pr w).set.neins tw (by decide)) Sw
  have hp1 := k1.g1 (by intro _ z; cases z) (ne_of hp tw (by intro z; cases z)) hp
  have hc1 := k1.g1 (by intro _ z; cases z) (ne_of hc tw (by intro z; cases z)) hc
  have k3 : Kt T [p, s w, F w, t w] H H2 := (k1.mono (by simp)).kpP k2 fun q hq => by
    rw [List.mem_singleton.mp hq]
    exact ⟨by simp, _, sw1, trivial⟩
  refine W.step w k3 (((W.box.ktp k1 ?_ ?_)).k1 k2 ?_ ?_) ⟨⟨d1, k2.g1 ?_ tw1⟩, S2, ⟨bw, k2.g1 ?_ Fw1, lw⟩, ⟨⟨ds, k2.g1 ?_ Sw1⟩, okS⟩, (W.pr w).own, ok⟩ (.inl rfl)
  · simpa using ne_of hp tw (by intro z; cases z)
  · simpa using ne_of hc tw (by intro z; cases z)
  · exact ne_of hp1 sw1 (by intro z; cases z)
  · exact ne_of hc1 sw1 (by intro z; cases z)
  · exact ne_of tw1 sw1 (by intro z; cases z)
  · exact ne_of Fw1 sw1 (by intro z; cases z)
  · exact ne_of Sw1 sw1 (by intro z; cases z)
structure NGood (H : Hp) (p c s F : Addr) (H2 : Hp) (F1 : Addr) (r pat own : Int) (m : Mo) : Prop where
  st : StAt H2 s F1 r pat own m
  fl : FlAt H2 F1 r
  g1 : F1 = F ∨ H F1 = none
  g2 : F1 ≠ p ∧ F1 ≠ c
  box : Box H2 p c
  k : Kp [p, s, F] H H2
  f : ∃ o, H2 F = some o
theorem pick2 {i : Int} (h0 : 0 ≤ i) (h1 : i < 2) : ∃ w : Bool, ∀ f : Bool → Addr, atI [V.ref (f false), V.ref (f true)] i = some (.ref (f w)) := by
  have e : i = 0 ∨ i = 1 := by omega
  rcases e with rfl | rfl
  · exact ⟨false, fun f => rfl⟩
  · exact ⟨true, fun f => rfl⟩
/-! windows of a tour -/
/-- a row starts anew -/
def Fresh (N : Nat → List Int) (st : Nat → Mo) (k : Nat) : Prop := ¬ ((st k).run = true ∧ ∃ n, (st k).now = some n ∧ n ∈ N k)
structure Play (r pat : Int) (m : Nat) (N : Nat → List Int) (st ai : Nat → Mo) (b : Nat → Bool) : Prop where
  aim : ∀ k, k < m → AimR r (st k) (N k) (ai k)
  rep : ∀ k, k < m → st (k + 1) = if N k = [] then ai k else repM pat (ai k) (b k)
  ini : (st 0).run = false
  rng : ∀ k, k < m → ∀ z, z ∈ N k → 0 ≤ z ∧ z < r
  pat : 1 ≤ pat
section
variable {r pat : Int} {m : Nat} {N : Nat → List Int} {st ai : Nat → Mo} {b : Nat → Bool}
theorem Play.nonempty (P : Play r pat m N st ai b) {k : Nat} (hk : k < m) (n : N k ≠ []) : ∃ y, (ai k).now = some y ∧ y ∈ N k ∧ (ai k).run = true := by
  rcases P.aim k hk with ⟨h1, ⟨y, h2, h3⟩, h4⟩ | ⟨h1, o, h2, h4⟩
  · rw [h4]
    exact ⟨y, h2, h3, h1⟩
  · cases o with
    | none => exact absurd h2 n
    | some y =>
      rw [h4]
      exact ⟨y, rfl, h2.1, rfl⟩
theorem Play.empty (P : Play r pat m N st ai b) {k : Nat} (hk : k < m) (n : N k = []) : (ai k).now = none ∧ (ai k).run = false := by
  rcases P.aim k hk with ⟨h1, ⟨y, h2, h3⟩, h4⟩ | ⟨h1, o, h2, h4⟩
  · rw [n] at h3
    cases h3
  · cases o with
    | none =>
      rw [h4]
      exact ⟨rfl, rfl⟩
    | some y =>
      have := h2.1
      rw [n] at this
      cases this
/-- a tour that runs is at its last seat, with some tries behind it -/
theorem Play.inv (P : Play r pat m N st ai b) : ∀ k, k ≤ m → (st k).run = true → (st k).now = some (st k).last ∧ 1 ≤ (st k).bad ∧ (st k).bad < pat
  | 0, _, h => by
    rw [P.ini] at h
    cases h
  | k + 1, hk, h => by
    have ih := P.inv k (by omega)
    have e := P.rep k (by omega)
    by_cases n : N k = []
    · rw [if_pos n] at e
      have := (P.empty (by omega) n).2
      rw [e, this] at h
      cases h
    · rw [if_neg n] at e
      obtain ⟨y, h1, h2, h3⟩ := P.nonempty (by omega) n
      have i1 : (ai k).now = some (ai k).last ∧ 0 ≤ (ai k).bad ∧ (ai k).bad < pat := by
        rcases P.aim k (by omega) with ⟨q1, q2, q3⟩ | ⟨q1, o, q2, q3⟩
        · rw [q3]
          obtain ⟨a, b, c⟩ := ih q1
          exact ⟨a, by omega, c⟩
        · cases o with
          | none => exact absurd q2 n
          | some y =>
            rw [q3]
            have := P.pat
            exact ⟨rfl, Int.le_refl _, by show (0 : Int) < pat; omega⟩
      rw [e] at h ⊢
      unfold repM at h ⊢
      rw [if_pos h3] at h ⊢
      cases hb : b k with
      | true =>
        rw [hb] at h
        cases h
      | false =>
        rw [hb] at h
        rw [if_neg Bool.false_ne_true] at h ⊢
        have h := of_decide_eq_true h
        exact ⟨i1.1, by show 1 ≤ (ai k).bad + 1; omega, h⟩
/-- behind an aim -/
theorem Play.aiv (P : Play r pat m N st ai b) {k : Nat} (hk : k < m) (n : N k ≠ []) : (ai k).now = some (ai k).last ∧ 0 ≤ (ai k).bad ∧ (ai k).bad < pat ∧ (Fresh N st k → (ai k).bad = 0) ∧ (¬ Fresh N st k → ai k = st k ∧ 1 ≤ (ai k).bad) := by
  rcases P.aim k hk with ⟨q1, q2, q3⟩ | ⟨q1, o, q2, q3⟩
  · obtain ⟨a, b, c⟩ := P.inv k (by omega) q1
    rw [q3]
    exact ⟨a, by omega, c, fun f => absurd ⟨q1, q2⟩ f, fun _ => ⟨rfl, b⟩⟩
  · cases o with
    | none => exact absurd q2 n
    | some y =>
      rw [q3]
      have := P.pat
      exact ⟨rfl, Int.le_refl _, by show (0 : Int) < pat; omega, fun _ => rfl, fun f => absurd (show Fresh N st k from q1) f⟩
/-- a visit that is under way: how it goes on up to row K -/
theorem Play.visit (P : Play r pat m N st ai b) {K : Nat} (hK : K ≤ m) : ∀ (c j : Nat) (y : Int), (pat - (ai j).bad).toNat ≤ c → j < K → (∀ i, j ≤ i → i < K → N i ≠ []) → (ai j).now = some y → ∃ e : Nat, 1 ≤ e ∧ (e : Int) ≤ pat - (ai j).bad
      ∧ (∀ t, t < e → j + t < K → (ai (j + t)).now = some y ∧ (0 < t → ¬ Fresh N st (j + t)))
      ∧ (j + e < K → Fresh N st (j + e) ∧ (st (j + e)).last = y)
      ∧ ((∀ i, j ≤ i → i < K → y ∈ N i) → j + e ≤ K → (st (j + e)).run = false ∧ (b (j + e - 1) = true ∨ (e : Int) = pat - (ai j).bad))
  | 0, j, y, hc, hj, hn, hy => by
    have := (P.aiv (show j < m by omega) (hn j (Nat.le_refl _) hj)).2.2.1
    omega
  | c + 1, j, y, hc, hj, hn, hy => by
    have hjm : j < m := by omega
    have nj := hn j (Nat.le_refl _) hj
    obtain ⟨a1, a2, a3, -, -⟩ := P.aiv hjm nj
    obtain ⟨y', h1, h2, h3⟩ := P.nonempty hjm nj
    have ly : (ai j).last = y := by
      rw [a1] at hy
      exact Option.some.inj hy
    have e := P.rep j hjm
    rw [if_neg nj] at e
    unfold repM at e
    rw [if_pos h3] at e
    have one : ∀ t, t < 1 → j + t < K → (ai (j + t)).now = some y ∧ (0 < t → ¬ Fresh N st (j + t)) := fun t ht _ => by
      have : t = 0 := by omega
      subst this
      exact ⟨hy, fun z => by omega⟩
    have stop : (st (j + 1)).run = false → (st (j + 1)).last = y → (b j = true ∨ (1 : Int) = pat - (ai j).bad) → ∃ e : Nat, 1 ≤ e ∧ (e : Int) ≤ pat - (ai j).bad
      ∧ (∀ t, t < e → j + t < K → (ai (j + t)).now = some y ∧ (0 < t → ¬ Fresh N st (j + t)))
      ∧ (j + e < K → Fresh N st (j + e) ∧ (st (j + e)).last = y)
      ∧ ((∀ i, j ≤ i → i < K → y ∈ N i) → j + e ≤ K → (st (j + e)).run = false ∧ (b (j + e - 1) = true ∨ (e : Int) = pat - (ai j).bad)) := fun s1 s2 s3 =>
      ⟨1, by omega, by omega, one, fun _ => ⟨(fun f => by rw [s1] at f; cases f.1), s2⟩, fun _ _ => ⟨s1, s3⟩⟩
    cases hb : b j with
    | true =>
      rw [hb, if_pos rfl] at e
      exact stop (by rw [e]) (by rw [e]; exact ly) (.inl hb)
    | false =>
      rw [hb, if_neg Bool.false_ne_true] at e
      by_cases hp : (ai j).bad + 1 < pat
      · by_cases hin : j + 1 < K ∧ y ∉ N (j + 1)
        · refine ⟨1, by omega, by omega, one, fun _ => ⟨fun f => ?_, by rw [e]; exact ly⟩, fun hall _ => absurd (hall (j + 1) (by omega) hin.1) hin.2⟩
          obtain ⟨n, n1, n2⟩ := f.2
          rw [e] at n1
          have n1 : (ai j).now = some n := n1
          rw [hy] at n1
          injection n1 with n1
          exact hin.2 (n1 ▸ n2)
        · by_cases hK2 : j + 1 < K
          · have yin : y ∈ N (j + 1) := Classical.byContradiction fun c => hin ⟨hK2, c⟩
            have nf : ¬ Fresh N st (j + 1) := fun f => f (by
              rw [e]
              exact ⟨decide_eq_true hp, y, hy, yin⟩)
            have n2 : N (j + 1) ≠ [] := hn _ (by omega) hK2
            obtain ⟨-, -, -, -, q⟩ := P.aiv (show j + 1 < m by omega) n2
            obtain ⟨q1, q2⟩ := q nf
            have eb : (ai (j + 1)).bad = (ai j).bad + 1 := by rw [q1, e]
            have en : (ai (j + 1)).now = some y := by rw [q1, e]; exact hy
            obtain ⟨e', g1, g2, g3, g4, g5⟩ := P.visit hK c (j + 1) y (by omega) hK2 (fun i h1 h2 => hn i (by omega) h2) en
            refine ⟨e' + 1, by omega, by omega, fun t ht htK => ?_, fun h => ?_, fun hall h => ?_⟩
            · cases t with
              | zero => exact ⟨hy, fun z => by omega⟩
              | succ t =>
                have g := g3 t (by omega) (by omega)
                rw [show j + 1 + t = j + (t + 1) by omega] at g
                refine ⟨g.1, fun _ => ?_⟩
                by_cases ht0 : 0 < t
                · exact g.2 ht0
                · have : t = 0 := by omega
                  subst this
                  exact nf
            · have g := g4 (by omega)
              rw [show j + 1 + e' = j + (e' + 1) by omega] at g
              exact g
            · have g := g5 (fun i h1 h2 => hall i (by omega) h2) (by omega)
              rw [show j + 1 + e' = j + (e' + 1) by omega] at g
              refine ⟨g.1, ?_⟩
              rcases g.2 with g | g
              · exact .inl g
              · exact .inr (by omega)
          · -- the window's end
            refine ⟨2, by omega, by omega, fun t ht htK => ?_, fun h => absurd h (by omega), fun _ h => absurd h (by omega)⟩
            have : t = 0 := by omega
            subst this
            exact ⟨hy, fun z => by omega⟩
      · exact stop (by rw [e]; exact decide_eq_false hp) (by rw [e]; exact ly) (.inr (by omega))
/-- how many of the seen seats lie ahead of s -/
def ahead (r s : Int) (U : List Int) (l : Int) : Nat := (U.filter fun z => decide ((z - (l + 1)) % r < (s - (l + 1)) % r)).length
theorem ahead_lt {r s : Int} {U : List Int} {l : Int} (hs : s ∈ U) : ahead r s U l + 1 ≤ U.length := by
  unfold ahead
  have h : (U.filter fun z => decide ((z - (l + 1)) % r < (s - (l + 1)) % r)).length < U.length := by
    refine List.length_filter_lt_length_iff_exists.mpr ⟨s, hs, ?_⟩
    simp
  omega
theorem ahead_drop {r s y l : Int} {U : List Int} (hr : Ring r) (nd : U.Nodup) (hU : ∀ z, z ∈ U → 0 ≤ z ∧ z < r) (hs : 0 ≤ s ∧ s < r) (hy : y ∈ U) (h : (y - (l + 1)) % r < (s - (l + 1)) % r) : ahead r s U y + 1 ≤ ahead r s U l := by
  unfold ahead
  have y1 := hU y hy
  have nd1 : (y :: U.filter fun z => decide ((z - (y + 1)) % r < (s - (y + 1)) % r)).Nodup := List.nodup_cons.mpr ⟨fun m => by
    have := (List.mem_filter.mp m).2
    have := of_decide_eq_true this
    rcases hr with rfl | rfl | rfl | rfl | rfl | rfl | rfl | rfl <;> omega, nd.filter _⟩
  have := List.Nodup.length_le_of_subset nd1 (l₂ := U.filter fun z => decide ((z - (l + 1)) % r < (s - (l + 1)) % r)) fun z hz => by
    rcases List.mem_cons.mp hz with rfl | hz
    · exact List.mem_filter.mpr ⟨hy, decide_eq_true h⟩
    · obtain ⟨z1, z2⟩ := List.mem_filter.mp hz
      have z2 := of_decide_eq_true z2
      have z3 := hU z z1
      refine List.mem_filter.mpr ⟨z1, decide_eq_true ?_⟩
      rcases hr with rfl | rfl | rfl | rfl | rfl | rfl | rfl | rfl <;> omega
  simpa using this
theorem ahead_own {r s y : Int} {U : List Int} (hr : Ring r) (nd : U.Nodup) (hU : ∀ z, z ∈ U → 0 ≤ z ∧ z < r) (hs : s ∈ U) (hy : y ∈ U) (n : y ≠ s) : ahead r s U y + 2 ≤ U.length := by
  unfold ahead
  have y1 := hU y hy
  have s1 := hU s hs
  have nd1 : (y :: s :: U.filter fun z => decide ((z - (y + 1)) % r < (s - (y + 1)) % r)).Nodup := by
    refine List.nodup_cons.mpr ⟨fun m => ?_, List.nodup_cons.mpr ⟨fun m => ?_, nd.filter _⟩⟩
    · rcases List.mem_cons.mp m with m | m
      · exact n m
      · have := of_decide_eq_true (List.mem_filter.mp m).2
        rcases hr with rfl | rfl | rfl | rfl | rfl | rfl | rfl | rfl <;> omega
    · have := of_decide_eq_true (List.mem_filter.mp m).2
      omega
  have := List.Nodup.length_le_of_subset nd1 (l₂ := U) fun z hz => by
    rcases List.mem_cons.mp hz with rfl | hz
    · exact hy
    · rcases List.mem_cons.mp hz with rfl | hz
      · exact hs
      · exact (List.mem_filter.mp hz).1
  simpa using this
/-- a fresh aim comes to s -/
theorem Play.reach (P : Play r pat m N st ai b) (hr : Ring r) {K : Nat} (hK : K ≤ m) {A : Nat} {s : Int} {U : List Int} (nd : U.Nodup) (hU : ∀ z, z ∈ U → 0 ≤ z ∧ z < r) (hN : ∀ i, A ≤ i → i < K → s ∈ N i ∧ ∀ z, z ∈ N i → z ∈ U) :
    ∀ (c j : Nat), A ≤ j → Fresh N st j → ahead r s U (st j).last ≤ c → (j : Int) + c * pat < K → ∃ i : Nat, j ≤ i ∧ (i : Int) ≤ j + c * pat ∧ Fresh N st i ∧ (ai i).now = some s
  | c, j, hA, hf, hc, hj => by
    have hp := P.pat
    have cp : 0 ≤ (c : Int) * pat := Int.mul_nonneg (by omega) (by omega)
    have hjK : j < K := by omega
    have hjm : j < m := by omega
    obtain ⟨sN, sub⟩ := hN j hA hjK
    have s1 := P.rng j hjm s sN
    have nj : N j ≠ [] := fun e => by
      rw [e] at sN
      cases sN
    rcases P.aim j hjm with ⟨q1, q2, q3⟩ | ⟨q1, o, q2, q3⟩
    · exact absurd ⟨q1, q2⟩ hf
    · cases o with
      | none => exact absurd q2 nj
      | some y =>
        have ey : (ai j).now = some y := by rw [q3]
        by_cases hys : y = s
        · exact ⟨j, Nat.le_refl _, by omega, hf, by rw [ey, hys]⟩
        · have y1 := P.rng j hjm y q2.1
          have lt : (y - ((st j).last + 1)) % r < (s - ((st j).last + 1)) % r := by
            have h1 := q2.2 s sN
            have h2 : (y - ((st j).last + 1)) % r ≠ (s - ((st j).last + 1)) % r := fun e => hys (key_inj hr y1.1 y1.2 s1.1 s1.2 e)
            omega
          have dr := ahead_drop hr nd hU s1 (sub y q2.1) lt
          cases c with
          | zero => omega
          | succ c =>
            have cp2 : 0 ≤ (c : Int) * pat := Int.mul_nonneg (by omega) (by omega)
            have ec : ((c + 1 : Nat) : Int) * pat = (c : Int) * pat + pat := by
              rw [Int.natCast_add, Int.add_mul]
              omega
            obtain ⟨e, g1, g2, g3, g4, -⟩ := P.visit hK _ j y (Nat.le_refl _) hjK (fun i h1 h2 e => by
              have := (hN i (by omega) h2).1
              rw [e] at this
              cases this) ey
            have b0 := (P.aiv hjm nj).2.1
            obtain ⟨f1, f2⟩ := g4 (by omega)
            obtain ⟨i, i1, i2, i3, i4⟩ := P.reach hr hK nd hU hN c (j + e) (by omega) f1 (by rw [f2]; omega) (by omega)
            exact ⟨i, by omega, by omega, i3, i4⟩
/-- a fresh row soon -/
theorem Play.soon (P : Play r pat m N st ai b) {K : Nat} (hK : K ≤ m) {A : Nat} (hA : (A : Int) + pat - 1 < K) (hn : ∀ i, A ≤ i → i < K → N i ≠ []) : ∃ f : Nat, A ≤ f ∧ (f : Int) ≤ A + pat - 1 ∧ Fresh N st f := by
  have hp := P.pat
  by_cases hf : Fresh N st A
  · exact ⟨A, Nat.le_refl _, by omega, hf⟩
  · have nA := hn A (Nat.le_refl _) (by omega)
    obtain ⟨y, h1, h2, h3⟩ := P.nonempty (show A < m by omega) nA
    obtain ⟨a1, a2, a3, -, a5⟩ := P.aiv (show A < m by omega) nA
    obtain ⟨-, a6⟩ := a5 hf
    obtain ⟨e, g1, g2, g3, g4, -⟩ := P.visit hK _ A y (Nat.le_refl _) (by omega) hn h1
    exact ⟨A + e, by omega, by omega, (g4 (by omega)).1⟩
/-- the longer window has a whole visit -/
theorem Play.whole (P : Play r pat m N st ai b) (hr : Ring r) {A K : Nat} (hK : K ≤ m) (hA : A < K) {s : Int} {U : List Int} (nd : U.Nodup) (hU : ∀ z, z ∈ U → 0 ≤ z ∧ z < r) (hN : ∀ i, A ≤ i → i < K → s ∈ N i ∧ ∀ z, z ∈ N i → z ∈ U) (hL : ((U.length : Int) + 1) * pat - 1 ≤ K - A) :
    ∃ i e : Nat, A ≤ i ∧ 1 ≤ e ∧ i + e ≤ K ∧ Fresh N st i ∧ (∀ t, t < e → (ai (i + t)).now = some s ∧ (0 < t → ¬ Fresh N st (i + t))) ∧ (st (i + e)).run = false := by
  have hp := P.pat
  have hsU : s ∈ U := (hN A (Nat.le_refl _) hA).2 _ (hN A (Nat.le_refl _) hA).1
  have n1 := List.length_pos_of_mem hsU
  have hn : ∀ i, A ≤ i → i < K → N i ≠ [] := fun i h1 h2 e => by
    have := (hN i h1 h2).1
    rw [e] at this
    cases this
  have en : ((U.length : Int) + 1) * pat = ((U.length - 1 : Nat) : Int) * pat + pat + pat := by
    rw [show (U.length : Int) + 1 = ((U.length - 1 : Nat) : Int) + 1 + 1 by omega, Int.add_mul, Int.add_mul]
    omega
  have cp : 0 ≤ ((U.length - 1 : Nat) : Int) * pat := Int.mul_nonneg (by omega) (by omega)
  obtain ⟨f, f1, f2, f3⟩ := P.soon hK (A := A) (by omega) hn
  have al := ahead_lt (r := r) (l := (st f).last) hsU
  obtain ⟨i, i1, i2, i3, i4⟩ := P.reach hr hK nd hU hN (U.length - 1) f f1 f3 (by omega) (by omega)
  have b0 := (P.aiv (show i < m by omega) (hn i (by omega) (by omega))).2.2.2.1 i3
  obtain ⟨e, g1, g2, g3, g4, g5⟩ := P.visit hK _ i s (Nat.le_refl _) (by omega) (fun j h1 h2 => hn j (by omega) h2) i4
  obtain ⟨w1, w2⟩ := g5 (fun j h1 h2 => (hN j (by omega) h2).1) (by omega)
  exact ⟨i, e, by omega, g1, by omega, i3, fun t ht => g3 t ht (by omega), w1⟩
/-- the tries at s from row A to row K -/
def tries (ai : Nat → Mo) (s : Int) (A L : Nat) : Nat := ((List.range L).filter fun t => decide ((ai (A + t)).now = some s)).length
theorem tries_two {s : Int} {A L e1 d e2 : Nat} (h0 : e1 ≤ d) (h1 : d + e2 ≤ L) (h2 : ∀ t, t < e1 → (ai (A + t)).now = some s) (h3 : ∀ t, t < e2 → (ai (A + d + t)).now = some s) : e1 + e2 ≤ tries ai s A L := by
  have nd : (List.range e1 ++ (List.range e2).map (d + ·)).Nodup := List.nodup_append.mpr ⟨List.nodup_range, List.pairwise_map.mpr (List.nodup_range.imp fun h e => h (by omega)), fun x hx y hy e => by
    have h4 := List.mem_range.mp hx
    obtain ⟨z, -, rfl⟩ := List.mem_map.mp hy
    omega⟩
  have := List.Nodup.length_le_of_subset nd (l₂ := (List.range L).filter fun t => decide ((ai (A + t)).now = some s)) fun x hx => by
    rcases List.mem_append.mp hx with hx | hx
    · have h4 := List.mem_range.mp hx
      exact List.mem_filter.mpr ⟨List.mem_range.mpr (by omega), decide_eq_true (h2 x h4)⟩
    · obtain ⟨z, hz, rfl⟩ := List.mem_map.mp hx
      have h4 := List.mem_range.mp hz
      exact List.mem_filter.mpr ⟨List.mem_range.mpr (by omega), decide_eq_true (by rw [← Nat.add_assoc]; exact h3 z h4)⟩
  unfold tries
  simpa using this
/-- the shorter window has tried s -/
theorem Play.tried (P : Play r pat m N st ai b) (hr : Ring r) {A K : Nat} (hK : K ≤ m) (hA : A < K) {s : Int} {U : List Int} (nd : U.Nodup) (hU : ∀ z, z ∈ U → 0 ≤ z ∧ z < r) (hN : ∀ i, A ≤ i → i < K → s ∈ N i ∧ ∀ z, z ∈ N i → z ∈ U) (hL : (U.length : Int) * pat ≤ K - A) :
    (∃ j, A ≤ j ∧ j < K ∧ (ai j).now = some s ∧ b j = true) ∨ pat ≤ (tries ai s A (K - A) : Int) := by
  have hp := P.pat
  have hsU : s ∈ U := (hN A (Nat.le_refl _) hA).2 _ (hN A (Nat.le_refl _) hA).1
  have n1 := List.length_pos_of_mem hsU
  have hn : ∀ i, A ≤ i → i < K → N i ≠ [] := fun i h1 h2 e => by
    have := (hN i h1 h2).1
    rw [e] at this
    cases this
  have hall : ∀ i, A ≤ i → i < K → s ∈ N i := fun i h1 h2 => (hN i h1 h2).1
  have en : (U.length : Int) * pat = ((U.length - 1 : Nat) : Int) * pat + pat := by
    rw [show (U.length : Int) = ((U.length - 1 : Nat) : Int) + 1 by omega, Int.add_mul]
    omega
  have cp : 0 ≤ ((U.length - 1 : Nat) : Int) * pat := Int.mul_nonneg (by omega) (by omega)
  -- a fresh visit of s at i that fits
  have fit : ∀ i : Nat, A ≤ i → Fresh N st i → (ai i).now = some s → (i : Int) + pat ≤ K → (∃ j, A ≤ j ∧ j < K ∧ (ai j).now = some s ∧ b j = true) ∨ pat ≤ (tries ai s A (K - A) : Int) := fun i h1 h2 h3 h4 => by
    have b0 := (P.aiv (show i < m by omega) (hn i (by omega) (by omega))).2.2.2.1 h2
    obtain ⟨e, g1, g2, g3, g4, g5⟩ := P.visit hK _ i s (Nat.le_refl _) (by omega) (fun j h1 h2 => hn j (by omega) h2) h3
    obtain ⟨w1, w2⟩ := g5 (fun j h1 h2 => hall j (by omega) h2) (by omega)
    rcases w2 with w2 | w2
    · have := (g3 (e - 1) (by omega) (by omega)).1
      exact .inl ⟨i + e - 1, by omega, by omega, by rw [show i + e - 1 = i + (e - 1) by omega]; exact this, w2⟩
    · refine .inr ?_
      have := tries_two (ai := ai) (s := s) (A := A) (L := K - A) (e1 := 0) (d := i - A) (e2 := e) (by omega) (by omega) (fun t ht => by omega) (fun t ht => by
        rw [show A + (i - A) + t = i + t by omega]
        exact (g3 t ht (by omega)).1)
      omega
  by_cases hf : Fresh N st A
  · have al := ahead_lt (r := r) (l := (st A).last) hsU
    obtain ⟨i, i1, i2, i3, i4⟩ := P.reach hr hK nd hU hN (U.length - 1) A (Nat.le_refl _) hf (by omega) (by omega)
    exact fit i i1 i3 i4 (by omega)
  · have nA := hn A (Nat.le_refl _) hA
    obtain ⟨y, h1, h2, h3⟩ := P.nonempty (show A < m by omega) nA
    obtain ⟨a1, a2, a3, -, a5⟩ := P.aiv (show A < m by omega) nA
    obtain ⟨-, a6⟩ := a5 hf
    obtain ⟨e, g1, g2, g3, g4, g5⟩ := P.visit hK _ A y (Nat.le_refl _) hA hn h1
    obtain ⟨f1, f2⟩ := g4 (by omega)
    have yU := (hN A (Nat.le_refl _) hA).2 y h2
    by_cases hy : y = s
    · subst hy
      obtain ⟨w1, w2⟩ := g5 hall (by omega)
      rcases w2 with w2 | w2
      · have := (g3 (e - 1) (by omega) (by omega)).1
        exact .inl ⟨A + e - 1, by omega, by omega, by rw [show A + e - 1 = A + (e - 1) by omega]; exact this, w2⟩
      · have al := ahead_lt (r := r) (l := (st (A + e)).last) hsU
        obtain ⟨i, i1, i2, i3, i4⟩ := P.reach hr hK nd hU hN (U.length - 1) (A + e) (by omega) f1 (by omega) (by omega)
        by_cases hfit : (i : Int) + pat ≤ K
        · exact fit i (by omega) i3 i4 hfit
        · have b0 := (P.aiv (show i < m by omega) (hn i (by omega) (by omega))).2.2.2.1 i3
          obtain ⟨e2, k1, k2, k3, k4, k5⟩ := P.visit hK _ i y (Nat.le_refl _) (by omega) (fun j h1 h2 => hn j (by omega) h2) i4
          by_cases he2 : i + e2 ≤ K
          · obtain ⟨w3, w4⟩ := k5 (fun j h1 h2 => hall j (by omega) h2) he2
            rcases w4 with w4 | w4
            · have := (k3 (e2 - 1) (by omega) (by omega)).1
              exact .inl ⟨i + e2 - 1, by omega, by omega, by rw [show i + e2 - 1 = i + (e2 - 1) by omega]; exact this, w4⟩
            · omega
          · refine .inr ?_
            have := tries_two (ai := ai) (s := y) (A := A) (L := K - A) (e1 := e) (d := i - A) (e2 := K - i) (by omega) (by omega) (fun t ht => (g3 t ht (by omega)).1) (fun t ht => by
              rw [show A + (i - A) + t = i + t by omega]
              exact (k3 t (by omega) (by omega)).1)
            omega
    · have ao := ahead_own hr nd hU hsU yU hy
      have e2 : ((U.length - 1 : Nat) : Int) * pat = ((U.length - 2 : Nat) : Int) * pat + pat := by
        rw [show ((U.length - 1 : Nat) : Int) = ((U.length - 2 : Nat) : Int) + 1 by omega, Int.add_mul]
        omega
      have cp2 : 0 ≤ ((U.length - 2 : Nat) : Int) * pat := Int.mul_nonneg (by omega) (by omega)
      obtain ⟨i, i1, i2, i3, i4⟩ := P.reach hr hK nd hU hN (U.length - 2) (A + e) (by omega) f1 (by rw [f2]; omega) (by omega)
      exact fit i (by omega) i3 i4 (by omega)
end

/-- a row of the play -/
structure Rw where
  t : Addr
  l : Addr
  ns : List Int
  o : Option Int
  p : Bool
def RwAt (H : Hp) (w : Rw) : Prop := H w.t = some (.tup [.ref w.l, ov w.o, .bl w.p]) ∧ H w.l = some (.lst (w.ns.map V.int))
structure RowsAt (H : Hp) (q : Addr) (ws : List Rw) : Prop where
  at_ : H q = some (.lst (ws.map fun w => V.ref w.t))
  ob : ∀ w, w ∈ ws → RwAt H w
/-- the rows tell a play -/
structure Told (r pat : Int) (last : Int) (ws : List Rw) (N : Nat → List Int) (st ai : Nat → Mo) (b : Nat → Bool) : Prop where
  P : Play r pat ws.length N st ai b
  row : ∀ k w, ws[k]? = some w → w.ns = N k ∧ w.o = (ai k).now ∧ w.p = b k
  nd : ∀ k, k < ws.length → (N k).Nodup ∧ (N k).length ≤ 20
  last : (st 0).last = last
  pb : ∀ k, k < ws.length → N k = [] → b k = false
/-- a pool of seats -/
structure Pool (r : Int) (xs : List Int) : Prop where
  nd : xs.Nodup
  rng : ∀ z, z ∈ xs → 0 ≤ z ∧ z < r
  len : 1 ≤ xs.length ∧ xs.length ≤ 20
def onB (N : Nat → List Int) (st : Nat → Mo) (k : Nat) : Bool := (st k).run && (match (st k).now with | some n => decide (n ∈ N k) | none => false)
theorem onB_iff {N : Nat → List Int} {st : Nat → Mo} {k : Nat} : onB N st k = false ↔ Fresh N st k := by
  unfold onB Fresh
  cases h : (st k).run with
  | false => simp
  | true =>
    cases e : (st k).now with
    | none => simp
    | some n => simp
/-- where the visit of a row began -/
def visF (N : Nat → List Int) (st : Nat → Mo) : Nat → Nat
  | 0 => 0
  | k + 1 => if onB N st (k + 1) = true then visF N st k else k + 1
theorem visF_le {N : Nat → List Int} {st : Nat → Mo} : ∀ k, visF N st k ≤ k
  | 0 => Nat.le_refl _
  | k + 1 => by
    unfold visF
    split
    · have := visF_le (N := N) (st := st) k
      omega
    · exact Nat.le_refl _
theorem visF_fresh {N : Nat → List Int} {st : Nat → Mo} {k : Nat} (h : Fresh N st k) : visF N st k = k := by
  cases k with
  | zero => rfl
  | succ k =>
    unfold visF
    rw [onB_iff.mpr h]
    rfl
theorem visF_on {N : Nat → List Int} {st : Nat → Mo} {i : Nat} (h : Fresh N st i) : ∀ e, (∀ t, t < e → 0 < t → ¬ Fresh N st (i + t)) → 0 < e → visF N st (i + e - 1) = i
  | 0, _, h0 => by omega
  | 1, _, _ => by
    rw [show i + 1 - 1 = i by omega]
    exact visF_fresh h
  | e + 2, hn, _ => by
    have ih := visF_on h (e + 1) (fun t h1 h2 => hn t (by omega) h2) (by omega)
    rw [show i + (e + 2) - 1 = (i + (e + 1) - 1) + 1 by omega]
    unfold visF
    have : onB N st (i + (e + 1) - 1 + 1) = true := by
      cases c : onB N st (i + (e + 1) - 1 + 1) with
      | true => rfl
      | false =>
        have f := onB_iff.mp c
        rw [show i + (e + 1) - 1 + 1 = i + (e + 1) by omega] at f
        exact absurd f (hn (e + 1) (by omega) (by omega))
    rw [this, if_pos rfl, ih]


abbrev hk : PySem.W.Hook := hookP 6 fa fn gs tf ex
def ob (s : PySem.W.SharedT) : AlP := obsP 6 fa fn gs tf ex (HandSHeadRun.getT s)
theorem ob_eq (s : PySem.W.SharedT) : ob s = hk.obs s.abs := obsP_eq (HandSHeadRun.getT_eq s)
def names : List Str := (["_wall", "GroupError", "InvalidSetting", "whole", "Setting", "distance", "first_from", "Tour", "_law_box", "_law_draw", "_law_bits", "_law_patience", "_law_flags", "_law_first", "_law_pool", "_law_tour", "_law_names", "_law_played", "_law_visits", "_law_tried", "_law_window"] : List Str)
theorem run (w : World) : HandSHeadRun.RunEq R (PySem.W.view R.prog [25]) hk ob 6000 names w := by
  intro os
  kernel_rfl

local macro_rules | `(tactic| wtm_at "look") => `(tactic| fail "no rule")
local macro_rules | `(tactic| wtm_at "ne") => `(tactic| first
  | with_reducible assumption
  | ((with_reducible refine' Ne.symm ?h); (case h => with_reducible assumption))
  | ((with_reducible refine' ne_fresh ?n); (case n => with_reducible assumption))
  | ((with_reducible refine' Ne.symm (ne_fresh ?n)); (case n => with_reducible assumption))
  | ((refine' ne_of_none ?h ?n); (case n => with_reducible assumption); (case h => wtm_at "hp"))
  | ((refine' Ne.symm (ne_of_none ?h ?n)); (case n => with_reducible assumption); (case h => wtm_at "hp"))
  | fail "no rule")
local macro_rules | `(tactic| wtm_at "hp") => `(tactic| first
  | with_reducible assumption
  | with_reducible exact upd_same
  | ((with_reducible refine' upd_is ?e); (case e => exact rfl))
  | ((with_reducible refine' hu_ne ?n ?e); (case n => wtm_at "ne"); (case e => wtm_at "hp"))
  | ((with_reducible refine' Kp.g0 ?k ?e); (case k => with_reducible assumption); (case e => wtm_at "hp"))
  | ((with_reducible refine' Kp.g1 ?k ?n ?e); (case k => with_reducible assumption); (case n => wtm_at "ne"); (case e => wtm_at "hp"))
  | ((with_reducible refine' Kp.g2 ?k ?n ?m ?e); (case k => with_reducible assumption); (case n => wtm_at "ne"); (case m => wtm_at "ne"); (case e => wtm_at "hp"))
  | ((with_reducible refine' Kp.g3 ?k ?n ?m ?l ?e); (case k => with_reducible assumption); (case n => wtm_at "ne"); (case m => wtm_at "ne"); (case l => wtm_at "ne"); (case e => wtm_at "hp"))
  | fail "no rule")
local macro_rules | `(tactic| wtm_at "sq") => `(tactic| first
  | with_reducible assumption
  | wtm_at "sqx"
  | ((refine' SqL.of ?e); (case e => wtm_at "hp"))
  | ((refine' SqT.of ?e); (case e => wtm_at "hp"))
  | fail "no rule")
local macro_rules | `(tactic| wtm_at "at") => `(tactic| first
  | exact rfl
  | assumption
  | ((refine' atI_ints ?a ?b); (case a => omega); (case b => omega))
  | fail "no rule")
local macro_rules | `(tactic| wtm_at "cc") => `(tactic| first
  | with_reducible assumption
  | omega
  | exact rfl
  | decide
  | ((refine' ⟨?a, ?b⟩); (case a => omega); (case b => omega))
  | ((refine' Or.inr ⟨?a, ?b⟩); (case a => omega); (case b => omega))
  | ((refine' Or.inl ⟨?a, ?b⟩); (case a => omega); (case b => omega))
  | ((refine' ⟨?a, ?b, ?c⟩); (case a => first | omega | decide | fail "num"); (case b => first | omega | decide | fail "num"); (case c => first | omega | decide | fail "num"))
  | fail "no rule")
local macro_rules | `(tactic| wtm_at "sz") => `(tactic| first
  | assumption
  | ((refine' szlt ?h); (case h => (simp; omega)))
  | ((refine' szlt ?h); (case h => omega))
  | ((refine' szlt ?h); (case h => exact Nat.le_of_ble_eq_true rfl))
  | ((refine' sz1000 ?h); (case h => (simp; done)))
  | ((refine' sz1000 ?h); (case h => omega))
  | fail "no rule")
local macro_rules | `(tactic| wtm_at "dg") => `(tactic| first
  | ((refine' dg_is ?a ?b); (case a => wtm_at "hp"); (case b => wtm_at "hp"))
  | ((refine' dg_i ?a); (case a => wtm_at "hp"))
  | ((refine' dg_s ?a); (case a => wtm_at "hp"))
  | fail "no rule")
local macro_rules | `(tactic| wtm_at "dgv") => `(tactic| first
  | ((refine' dg_sv ?a ?b); (case a => wtm_at "hp"); (case b => first | assumption | wtm_at "look" | exact rfl | fail "look"))
  | ((refine' dg_iv ?a ?b); (case a => wtm_at "hp"); (case b => first | assumption | wtm_at "look" | exact rfl | fail "look"))
  | fail "no rule")
local macro_rules | `(tactic| wtm_at "dp") => `(tactic| first
  | ((refine' dp_is ?a ?b ?c); (case a => wtm_at "hp"); (case b => wtm_at "hp"); (case c => wtm_at "sz"))
  | ((refine' dp_i ?a ?c); (case a => wtm_at "hp"); (case c => wtm_at "sz"))
  | ((refine' dp_s ?a ?c); (case a => wtm_at "hp"); (case c => wtm_at "sz"))
  | fail "no rule")
local macro_rules | `(tactic| wtm_at "rd1") => `(tactic| first
  | with_reducible refine' rd_seq ?_
  | with_reducible refine' rd_asg ?_
  | ((with_reducible refine' rd_var ?e ?_); (case e => exact rfl))
  | with_reducible refine' rd_c ?_
  | with_reducible refine' rd_op ?_
  | with_reducible refine' rd_gname ?_
  | with_reducible refine' rd_CB ?_
  | with_reducible refine' rd_cons ?_
  | with_reducible refine' rd_nil ?_
  | with_reducible refine' rd_ret ?_
  | with_reducible refine' rd_drop ?_
  | with_reducible refine' rd_ifS ?_
  | with_reducible refine' rd_test ?_
  | with_reducible refine' rd_exb ?_
  | with_reducible refine' rd_call ?_
  | with_reducible refine' rd_I0 ?_
  | ((with_reducible refine' rd_I ?c ?_); (case c => wtm_at "cc"))
  | ((with_reducible refine' rd_ixL ?h ?a ?_); (case h => wtm_at "sq"); (case a => wtm_at "at"))
  | ((with_reducible refine' rd_ixT ?h ?a ?_); (case h => wtm_at "sq"); (case a => wtm_at "at"))
  | with_reducible refine' rd_int1 ?_
  | with_reducible refine' rd_abs ?_
  | ((with_reducible refine' rd_lenI ?h ?_); (case h => wtm_at "sq"))
  | ((with_reducible refine' rd_lenL ?h ?_); (case h => wtm_at "sq"))
  | ((with_reducible refine' rd_lenT ?h ?_); (case h => wtm_at "sq"))
  | with_reducible refine' rd_eqI ?_
  | with_reducible refine' rd_neI ?_
  | with_reducible refine' rd_eqS ?_
  | with_reducible refine' rd_neS ?_
  | with_reducible refine' rd_eqB ?_
  | with_reducible refine' rd_neB ?_
  | with_reducible refine' rd_and ?_
  | with_reducible refine' rd_or ?_
  | with_reducible refine' rd_not ?_
  | with_reducible refine' rd_tB ?_
  | with_reducible refine' rd_gsub ?_
  | ((with_reducible refine' rd_setL ?h ?j ?_); (case h => wtm_at "hp"); (case j => exact rfl))
  | with_reducible refine' rd_next ?_
  | with_reducible refine' rd_un ?_
  | with_reducible refine' rd_U ?_
  | with_reducible refine' rd_tup ?_
  | with_reducible refine' rd_lst ?_
  | with_reducible refine' rd_bm ?_
  | with_reducible refine' rd_bm0 ?_
  | with_reducible refine' rd_meth ?_
  | with_reducible refine' rd_make ?_
  | with_reducible refine' rd_iTup ?_
  | ((with_reducible refine' rd_iTupX ?h ?_); (case h => wtm_at "sq"))
  | with_reducible refine' rd_for ?_
  | with_reducible refine' rd_iList ?_
  | ((with_reducible refine' rd_iListX ?h ?_); (case h => wtm_at "sq"))
  | with_reducible refine' rd_iRng1 ?_
  | ((with_reducible refine' rd_iRng1X ?h1 ?h2 ?_); (case h1 => wtm_at "cc"); (case h2 => wtm_at "cc"))
  | ((with_reducible refine' rd_iRng2X ?h1 ?_); (case h1 => ((refine' ⟨?a, ?b, ?c, ?d⟩); (case a => omega); (case b => omega); (case c => omega); (case d => omega))))
  | with_reducible refine' rd_iRng2 ?_
  | with_reducible refine' rd_lc ?_
  | with_reducible refine' rd_yes ?_
  | with_reducible refine' rd_andV ?_
  | with_reducible refine' rd_orV ?_
  | with_reducible refine' rd_notV ?_
  | with_reducible refine' rd_ifE ?_
  | with_reducible refine' rd_isN ?_
  | with_reducible refine' rd_notN ?_
  | with_reducible refine' rd_min2 ?_
  | with_reducible refine' rd_max2 ?_
  | with_reducible refine' rd_retN ?_
  | with_reducible refine' rd_brk ?_
  | with_reducible refine' rd_cont ?_
  | with_reducible refine' rd_tfld ?_
  | ((with_reducible refine' rd_fldX ?h ?c ?n ?l ?_); (case h => wtm_at "hp"); (case c => wtm_at "cls"); (case n => wtm_at "noat"); (case l => exact rfl))
  | with_reducible refine' rd_sfld ?_
  | ((with_reducible refine' rd_sfldX ?h ?c ?n ?l ?_); (case h => wtm_at "hp"); (case c => wtm_at "cls"); (case n => wtm_at "noat"); (case l => first | decide | exact Nat.le_of_ble_eq_true rfl | fail "len"))
  | with_reducible refine' rd_tcon ?_
  | ((with_reducible refine' rd_conX ?h ?c ?n ?l ?_); (case h => wtm_at "hp"); (case c => wtm_at "cls"); (case n => wtm_at "con"); (case l => exact rfl))
  | ((with_reducible refine' rd_methX ?h ?l ?_); (case h => wtm_at "hp"); (case l => exact rfl))
  | with_reducible refine' rd_isi_ii ?_
  | with_reducible refine' rd_isi_ib ?_
  | with_reducible refine' rd_isi_bb ?_
  | with_reducible refine' rd_isi_bi ?_
  | with_reducible refine' rd_isi_ss ?_
  | ((with_reducible refine' rd_isi_ll ?h ?_); (case h => wtm_at "hp"))
  | ((with_reducible refine' rd_isi_tt ?h ?_); (case h => wtm_at "hp"))
  | with_reducible refine' iteT ?_
  | with_reducible refine' iteF ?_
  | with_reducible refine' ite_nt ?_
  | with_reducible refine' ite_nf ?_
  | with_reducible refine' ite_in ?_
  | with_reducible refine' ite_rn ?_
  | with_reducible refine' ite_sn ?_
  | with_reducible refine' ite_bn ?_
  | with_reducible refine' ite_nn ?_
  | with_reducible refine' ite_xin ?_
  | with_reducible refine' ite_xrn ?_
  | with_reducible refine' ite_xnn ?_
  | with_reducible refine' rd_dget2 ?_
  | ((with_reducible refine' rd_isdX ?h ?_); (case h => first | ((refine' isD_T ?e); (case e => wtm_at "hp")) | ((refine' isD_K ?e); (case e => wtm_at "hp"))))
  | ((with_reducible refine' rd_dgX ?h ?_); (case h => wtm_at "dg"))
  | with_reducible refine' rd_sdput ?_
  | ((with_reducible refine' rd_dpX ?h ?_); (case h => wtm_at "dp"))
  | ((with_reducible refine' ty_l ?h ?_); (case h => wtm_at "sq"))
  | ((with_reducible refine' ty_d ?h ?_); (case h => wtm_at "hp"))
  | ((with_reducible refine' ty_dK ?h ?_); (case h => wtm_at "hp"))
  | ((with_reducible refine' rd_append ?h ?l ?_); (case h => wtm_at "hp"); (case l => wtm_at "sz"))
  | with_reducible refine' rd_lstRg ?_
  | with_reducible refine' rd_rg1 ?_
  | with_reducible refine' rd_rg2 ?_
  | with_reducible refine' rd_inX ?_
  | with_reducible refine' rd_inX2 ?_
  | ((with_reducible refine' rd_listL ?h ?_); (case h => wtm_at "sq"))
  | ((with_reducible refine' rd_gtup ?h ?l ?_); (case h => wtm_at "sq"); (case l => exact rfl))
  | with_reducible refine' rd_gcons ?_
  | with_reducible refine' rd_gnil ?_
  | with_reducible refine' rd_din ?_
  | with_reducible refine' rd_dnotin ?_
  | with_reducible refine' rd_dget ?_
  | with_reducible refine' rd_dget1 ?_
  | ((with_reducible refine' rd_dinX ?h ?_); (case h => wtm_at "dg"))
  | ((with_reducible refine' rd_dgetX ?h ?_); (case h => wtm_at "dgv"))
  | with_reducible refine' rd_pnil ?_
  | with_reducible refine' rd_pcons ?_
  | with_reducible refine' rd_sl ?_
  | with_reducible refine' rd_part ?_
  | with_reducible refine' rd_nopart ?_
  | ((with_reducible refine' rd_slL ?h ?_); (case h => wtm_at "sq"))
  | ((with_reducible refine' rd_clear ?h ?_); (case h => wtm_at "hp"))
  | ((with_reducible refine' rd_aug ?e ?_); (case e => exact rfl))
  | with_reducible refine' rd_ipI ?_
  | ((with_reducible refine' rd_inI ?h ?_); (case h => wtm_at "sq"))
  | ((with_reducible refine' rd_notInI ?h ?_); (case h => wtm_at "sq"))
  | ((with_reducible refine' rd_lenD ?h ?_); (case h => wtm_at "hp"))
  | with_reducible refine' rd_iEnum ?_
  | ((with_reducible refine' rd_iEnumX ?h ?_); (case h => wtm_at "sq"))
  | ((with_reducible refine' rd_eqLI ?h1 ?h2 ?_); (case h1 => wtm_at "sq"); (case h2 => wtm_at "sq"))
  | ((with_reducible refine' rd_neLI ?h1 ?h2 ?_); (case h1 => wtm_at "sq"); (case h2 => wtm_at "sq"))
  | fail "no rule")
local macro_rules | `(tactic| wtm_at "rd") => `(tactic| repeat wtm_at "rd1")
local macro_rules | `(tactic| wtm_at "hn") => `(tactic| first
  | with_reducible assumption
  | ((with_reducible refine' hn_ne ?n ?e); (case n => wtm_at "ne"); (case e => wtm_at "hn"))
  | ((refine' Kp.back ?k ?e ?n); (case k => with_reducible assumption); (case e => with_reducible assumption); (case n => first | with_reducible assumption | (simp; done) | fail "mem"))
  | fail "no rule")
local macro_rules | `(tactic| wtm_at "kp") => `(tactic| first
  | exact Kp.refl
  | with_reducible assumption
  | ((with_reducible refine' Kp.of0 ?k); (case k => with_reducible assumption))
  | ((with_reducible refine' Kp.wr ?a ?h); (case h => (simp; done)); (case a => wtm_at "kp"))
  | ((with_reducible refine' Kp.nw ?a ?h); (case h => wtm_at "hn"); (case a => wtm_at "kp"))
  | ((with_reducible refine' Kp.mine ?a ?h); (case h => wtm_at "hn"); (case a => wtm_at "kp"))
  | ((with_reducible refine' Kp.via1 ?a ?b ?n); (case b => with_reducible assumption); (case n => wtm_at "hn"); (case a => wtm_at "kp"))
  | ((with_reducible refine' Kp.trans ?a ?b); (case b => first | with_reducible assumption | ((with_reducible refine' Kp.of0 ?k); (case k => with_reducible assumption)) | fail "kp"); (case a => wtm_at "kp"))
  | fail "no rule")
local macro_rules | `(tactic| wtm_at "rd1") => `(tactic| first
  | with_reducible refine' rd_prop ?_
  | ((with_reducible refine' rd_propX ?h ?_); (case h => wtm_at "hp"))
  | with_reducible refine' rd_revL ?_
  | ((with_reducible refine' rd_revLX ?h ?_); (case h => wtm_at "sq"))
  | with_reducible refine' rd_makeK ?_
  | with_reducible refine' rd_sortKey ?_
  | with_reducible refine' rd_sfldaug ?_
  | ((with_reducible refine' rd_sfldaugX ?h ?c ?n ?l ?_); (case h => wtm_at "hp"); (case c => wtm_at "cls"); (case n => wtm_at "noat"); (case l => exact rfl))
  | ((with_reducible refine' rd_insX ?h ?l ?_); (case h => wtm_at "hp"); (case l => first | decide | exact Nat.le_of_ble_eq_true rfl | fail "len"))
  | with_reducible refine' rd_addI ?_
  | with_reducible refine' rd_subI ?_
  | with_reducible refine' rd_disp ?_
  | with_reducible refine' rd_dc ?_
  | ((with_reducible refine' rd_dictD ?h ?_); (case h => wtm_at "hp"))
  | with_reducible refine' rd_minKey ?_
  | fail "no rule")
local macro_rules | `(tactic| wtm_at "hp") => `(tactic| first
  | ((with_reducible refine' Kt.g0 ?k ?n ?e); (case k => with_reducible assumption); (case n => (intro _ z; cases z)); (case e => wtm_at "hp"))
  | ((with_reducible refine' Kt.g1 ?k ?n ?m ?e); (case k => with_reducible assumption); (case n => (intro _ z; cases z)); (case m => wtm_at "ne"); (case e => wtm_at "hp"))
  | fail "no rule")
local macro_rules | `(tactic| wtm_at "cc") => `(tactic| first
  | ((refine' wide60 ?a ?b); (case a => omega); (case b => omega))
  | fail "no rule")
local macro_rules | `(tactic| wtm_at "kt") => `(tactic| first
  | with_reducible assumption
  | ((with_reducible refine' Kt.of0 ?k); (case k => with_reducible assumption))
  | ((with_reducible refine' Kt.wr ?a ?h ?e ?w); (case h => (simp; done)); (case e => wtm_at "hp"); (case w => exact trivial); (case a => wtm_at "kt"))
  | ((with_reducible refine' Kt.nw ?a ?e); (case e => wtm_at "hn"); (case a => wtm_at "kt"))
  | fail "no rule")
local macro_rules | `(tactic| wtm_at "dgv") => `(tactic| first
  | ((refine' dg_sl ?a ?b); (case a => wtm_at "hp"); (case b => exact rfl))
  | fail "no rule")
local macro_rules | `(tactic| wtm_at "dg") => `(tactic| first
  | ((refine' dg_ii ?a ?b); (case a => wtm_at "hp"); (case b => wtm_at "hp"))
  | fail "no rule")
local macro_rules | `(tactic| wtm_at "dp") => `(tactic| first
  | ((refine' dp_ii ?a ?b ?c); (case a => wtm_at "hp"); (case b => wtm_at "hp"); (case c => wtm_at "sz"))
  | fail "no rule")
local macro_rules | `(tactic| wtm_at "kd") => `(tactic| fail "no rule")
local macro_rules | `(tactic| wtm_at "rd1") => `(tactic| first
  | ((with_reducible refine' rd_lenStr ?h ?_); (case h => first | assumption | ((refine' sz1000 ?h); (case h => first | omega | exact Nat.le_of_ble_eq_true rfl | fail "len")) | fail "len"))
  | with_reducible refine' rd_inSign ?_
  | with_reducible refine' rd_iStr ?_
  | with_reducible refine' rd_iStrX ?_
  | with_reducible refine' rd_chain ?_
  | with_reducible refine' rd_iRng3 ?_
  | with_reducible refine' rd_iSeq ?_
  | ((with_reducible refine' rd_iSeqL ?h ?_); (case h => wtm_at "sq"))
  | with_reducible refine' rd_m1 ?_
  | with_reducible refine' rd_m1X ?_
  | with_reducible refine' rd_int1b ?_
  | with_reducible refine' rd_dpop2 ?_
  | ((with_reducible refine' rd_dpopI ?h ?_); (case h => wtm_at "hp"))
  | ((with_reducible refine' rd_ixKD ?h ?_); (case h => wtm_at "kd"))
  | ((with_reducible refine' rd_inTS ?h ?_); (case h => wtm_at "sq"))
  | fail "no rule")

local macro_rules | `(tactic| wtm_at "sqx") => `(tactic| fail "no rule")
local macro_rules | `(tactic| wtm_at "con") => `(tactic| first | exact con_MOST_BITS (by assumption) | exact con_MOST_PATIENCE (by assumption) | exact con_MOST_ROOM (by assumption) | exact con_MOST_GRACE (by assumption) | exact con_MOST_HELPERS (by assumption))
local macro_rules | `(tactic| wtm_at "cls") => `(tactic| first | exact cl_Setting (by assumption) | exact cl_Tour (by assumption))
local macro_rules | `(tactic| wtm_at "noat") => `(tactic| first | exact na_Setting_bits (by assumption) | exact na_Setting_patience (by assumption) | exact na_Setting_room (by assumption) | exact na_Setting_grace (by assumption) | exact na_Setting_helpers (by assumption) | exact na_Tour_current (by assumption) | exact na_Tour_failed (by assumption) | exact na_Tour__setting (by assumption) | exact na_Tour__last (by assumption) | exact na_Tour__running (by assumption))
section
variable {P : Program} {w : World} {K : PySem.W.Frag} {mg : Str → Option Value} {base : Heap}
def sp_l_box (K : PySem.W.Frag) : Sp := fun vs H Q E => ∃ (a : Addr) (ns : List Int), vs = [.ref a] ∧ (SqL K H a (ns.map V.int)) ∧ (ns.length ≤ 63) ∧ (∀ p c H1, Box H1 p c → Kp [] H H1 → H p = none → H c = none → Q (.ref p) H1)
theorem us_l_box {K : PySem.W.Frag} {H : Hp} {Q : VK} {E : XK} {a : Addr} {ns : List Int} (hS : SqL K H a (ns.map V.int)) (hl : ns.length ≤ 63) (kk : ∀ p c H1, Box H1 p c → Kp [] H H1 → H p = none → H c = none → Q (.ref p) H1) : sp_l_box K [.ref a] H Q E := ⟨_, _, rfl, hS, hl, kk⟩
theorem f_l_box (T : Cx K mg) (B : Tb K mg base) : ∃ fd, FunD K "_law_box" "_law_box" (defArgs s_l_box) (defBody s_l_box) (defScope s_l_box) (d_l_box.dvs K) (d_l_box.kws K) (fAd K d_l_box.at_) fd ∧ FnOk P w K mg base CX0 1 (fAd K d_l_box.at_) fd p_l_box (sp_l_box K) := by
  obtain ⟨fd, F⟩ := T.says.def_ 0 (d := d_l_box) rfl
  refine ⟨fd, F, fnD F sc_l_box (fun vs H Q E h => by
    obtain ⟨_, _, rfl, _⟩ := h
    rfl) fun cdv A outer s H vs Q E hr h => ?_⟩
  have hu := hu_of hr
  obtain ⟨a, ns, rfl, hS, hl, kk⟩ := h
  refine ⟨_, (pss_cons (ps_setLc (i := 1) (own := [("_law_cell", 2)]) (g := (gName 2)) (tt := tYes) rfl sc_l_box.nd rfl rfl (sw_true rfl rfl rfl (by decide +kernel)) (pi_list (pv 0)) (blkOk_by (own := [("_law_cell", 2)]) (N := n_l_box) (sc := defScope s_l_box) (by decide +kernel)) (fun _ _ _ _ _ => (pg_name (i := 2) sc_l_box.nd rfl (by first | exact Or.inl rfl | exact Or.inr rfl))) (fun _ _ _ _ _ => pts_nil) (fun _ _ _ _ _ => (pe_callTy call_int1' (by rfl) (fr_int T) (by decide +kernel) (pa_cons (pv 2) pa_nil)))) (pss_cons (ps_if (pt_cmpR op_eq (pe_callB call_lenS (by rfl) (fr_len T) (by decide +kernel) (pa_cons (pv 1) pa_nil)) pe_int (nomark _)) (pss_one (ps_set (i := 1) sc_l_box.nd rfl (by first | exact Or.inl rfl | exact Or.inr rfl) (pe_lst (pa_cons pe_int pa_nil)))) pss_nil) (pss_one (ps_ret (pe_lst (pa_cons (pv 1) (pa_cons pe_int (pa_cons pe_int (pa_cons pe_int pa_nil))))))))), ?_⟩
  rw [show L2.start n_l_box [.ref a] = [some (.ref a), none, none] from rfl]
  try dsimp only [cxOf, Cx.nox, Cx.wish, List.map]

  wtm_at "rd"
  intro D hD
  refine lcL_ints ns (fun i H' => H' D = some (.lst ((ns.take i).map V.int)) ∧ Kp [] H H') ⟨upd_same, Kp.new hD⟩ (fun i H' _ p => sl_kp p.2 (by simp) hS) (fun i hi H' p => ?_) (fun H' p => ?_)
  · obtain ⟨p1, p2⟩ := p
    wtm_at "rd"
    refine ⟨rfl, ?_⟩
    wtm_at "rd"
    refine ⟨_, p1, szlt (by simp; omega), ?_, Kp.mine p2 hD⟩
    rw [upd_same, take_map_succ hi]
  · obtain ⟨p1, p2⟩ := p
    rw [List.take_length] at p1
    wtm_at "rd"
    refine ite_d (fun h => ?_) (fun h => ?_)
    · wtm_at "rd"
      refine ⟨sz1000 (by simp), fun c nc => ?_⟩
      wtm_at "rd"
      refine ⟨sz1000 (by simp), fun p np => ?_⟩
      refine kk p c _ ⟨⟨[0], 0, 0, 0, upd_same, by wtm_at "hp", by simp, by simp⟩, by wtm_at "ne"⟩ ((p2.nw nc).nw np) ?_ ?_
      · exact Kp.back (p2.nw nc) np (by simp)
      · exact Kp.back p2 nc (by simp)
    · wtm_at "rd"
      refine ⟨sz1000 (by simp), fun p np => ?_⟩
      refine kk p D _ ⟨⟨ns, 0, 0, 0, upd_same, by wtm_at "hp", ?_, hl⟩, by wtm_at "ne"⟩ (p2.nw np) ?_ hD
      · intro e
        subst e
        exact h rfl
      · exact Kp.back p2 np (by simp)
theorem c_l_box (T : Cx K mg) (B : Tb K mg base) : CalX P w K mg base CX0 1 "_law_box" (sp_l_box K) [] := by
  obtain ⟨fd, F, ok⟩ := f_l_box (P := P) (w := w) (base := base) T B
  exact ⟨_, fd, p_l_box, [], ok, gl_l_box T, F.kp, FunD.bindsN F fun _ _ _ _ _ _ us hl => match us, hl with | [_], _ => rfl, .nil⟩
end
section
variable {P : Program} {w : World} {K : PySem.W.Frag} {mg : Str → Option Value} {base : Heap}
def sp_l_draw (K : PySem.W.Frag) : Sp := fun vs H Q E => ∃ (p c : Addr) (top : Int), vs = [.ref p, .int top] ∧ (Box H p c) ∧ (0 < top) ∧ (top < 1152921504606846976) ∧ (∀ n H1, 0 ≤ n → n < top → Box H1 p c → Kp [p] H H1 → Q (.int n) H1)
theorem us_l_draw {K : PySem.W.Frag} {H : Hp} {Q : VK} {E : XK} {p c : Addr} {top : Int} (hB : Box H p c) (ht0 : 0 < top) (ht1 : top < 1152921504606846976) (kk : ∀ n H1, 0 ≤ n → n < top → Box H1 p c → Kp [p] H H1 → Q (.int n) H1) : sp_l_draw K [.ref p, .int top] H Q E := ⟨_, _, _, rfl, hB, ht0, ht1, kk⟩
theorem f_l_draw (T : Cx K mg) (B : Tb K mg base) : ∃ fd, FunD K "_law_draw" "_law_draw" (defArgs s_l_draw) (defBody s_l_draw) (defScope s_l_draw) (d_l_draw.dvs K) (d_l_draw.kws K) (fAd K d_l_draw.at_) fd ∧ FnOk P w K mg base CX0 1 (fAd K d_l_draw.at_) fd p_l_draw (sp_l_draw K) := by
  obtain ⟨fd, F⟩ := T.says.def_ 1 (d := d_l_draw) rfl
  refine ⟨fd, F, fnD F sc_l_draw (fun vs H Q E h => by
    obtain ⟨_, _, _, rfl, _⟩ := h
    rfl) fun cdv A outer s H vs Q E hr h => ?_⟩
  have hu := hu_of hr
  obtain ⟨p, c, top, rfl, hB, ht0, ht1, kk⟩ := h
  refine ⟨_, (pss_cons (ps_asg (pe_op op_add (pe_callTy call_int1' (by rfl) (fr_int T) (by decide +kernel) (pa_cons (pe_ix ix_list (pv 0) pe_int (fun _ _ => rfl)) pa_nil)) pe_int) (pg_sub (pv 0) pe_int set_list)) (pss_cons (ps_if (pt_cmpR op_gt (pe_ix ix_list (pv 0) pe_int (fun _ _ => rfl)) pe_int (nomark _)) (pss_cons (ps_set (i := 2) sc_l_draw.nd rfl (by first | exact Or.inl rfl | exact Or.inr rfl) (pe_op op_mod (pe_callTy call_int1' (by rfl) (fr_int T) (by decide +kernel) (pa_cons (pe_ix ix_list (pv 0) pe_int (fun _ _ => rfl)) pa_nil)) (pv 1))) (pss_cons (ps_asg (pe_op op_fdivW (pe_callTy call_int1' (by rfl) (fr_int T) (by decide +kernel) (pa_cons (pe_ix ix_list (pv 0) pe_int (fun _ _ => rfl)) pa_nil)) (pv 1)) (pg_sub (pv 0) pe_int set_list)) (pss_one (ps_ret (pv 2))))) pss_nil) (pss_cons (ps_set (i := 3) sc_l_draw.nd rfl (by first | exact Or.inl rfl | exact Or.inr rfl) (pe_ix ix_list (pv 0) pe_int (fun _ _ => rfl))) (pss_cons (ps_set (i := 4) sc_l_draw.nd rfl (by first | exact Or.inl rfl | exact Or.inr rfl) (pe_callTy call_int1' (by rfl) (fr_int T) (by decide +kernel) (pa_cons (pe_ix ix_list (pv 0) pe_int (fun _ _ => rfl)) pa_nil))) (pss_cons (ps_asg (pe_op op_add (pv 4) pe_int) (pg_sub (pv 0) pe_int set_list)) (pss_cons (ps_set (i := 5) sc_l_draw.nd rfl (by first | exact Or.inl rfl | exact Or.inr rfl) (pe_callTy call_int1' (by rfl) (fr_int T) (by decide +kernel) (pa_cons (pe_ix ix_list (pv 3) (pe_op op_mod (pv 4) (pe_callB call_lenS (by rfl) (fr_len T) (by decide +kernel) (pa_cons (pv 3) pa_nil))) (fun _ _ => rfl)) pa_nil))) (pss_cons (ps_if (PW.pt (pw_and (pt_cmpR op_lt (pv 4) (pe_callB call_lenS (by rfl) (fr_len T) (by decide +kernel) (pa_cons (pv 3) pa_nil)) (nomark _)) (pw_and1 (pt_cmpR op_ge (pe_callB call_abs' (by rfl) (fr_abs T) (by decide +kernel) (pa_cons (pv 5) pa_nil)) (pe_op op_pow pe_int pe_int) (nomark _))))) (pss_cons (ps_asg (pe_op op_fdivW (pe_callB call_abs' (by rfl) (fr_abs T) (by decide +kernel) (pa_cons (pv 5) pa_nil)) (pv 1)) (pg_sub (pv 0) pe_int set_list)) (pss_one (ps_ret (pe_op op_mod (pe_callTy call_int1' (by rfl) (fr_int T) (by decide +kernel) (pa_cons (pe_callB call_abs' (by rfl) (fr_abs T) (by decide +kernel) (pa_cons (pv 5) pa_nil)) pa_nil)) (pv 1))))) pss_nil) (pss_cons (ps_set (i := 6) sc_l_draw.nd rfl (by first | exact Or.inl rfl | exact Or.inr rfl) (pe_op op_mod (pe_callTy call_int1' (by rfl) (fr_int T) (by decide +kernel) (pa_cons (pe_op op_add (pe_op op_add (pe_op op_mul (pv 5) pe_int) (pe_op op_mul (pe_ix ix_list (pv 0) pe_int (fun _ _ => rfl)) pe_int)) pe_int) pa_nil)) pe_int)) (pss_cons (ps_set (i := 6) sc_l_draw.nd rfl (by first | exact Or.inl rfl | exact Or.inr rfl) (pe_op op_mod (pe_callTy call_int1' (by rfl) (fr_int T) (by decide +kernel) (pa_cons (pe_op op_add (pe_op op_mul (pv 6) (pv 6)) (pe_op op_mul (pe_ix ix_list (pv 0) pe_int (fun _ _ => rfl)) pe_int)) pa_nil)) pe_int)) (pss_cons (ps_set (i := 6) sc_l_draw.nd rfl (by first | exact Or.inl rfl | exact Or.inr rfl) (pe_op op_mod (pe_callTy call_int1' (by rfl) (fr_int T) (by decide +kernel) (pa_cons (pe_op op_add (pe_op op_mul (pv 6) (pv 6)) (pe_op op_fdiv (pv 6) pe_int)) pa_nil)) pe_int)) (pss_one (ps_ret (pe_op op_mod (pe_callTy call_int1' (by rfl) (fr_int T) (by decide +kernel) (pa_cons (pe_op op_fdiv (pv 6) pe_int) pa_nil)) (pv 1)))))))))))))), ?_⟩
  rw [show L2.start n_l_draw [.ref p, .int top] = [some (.ref p), some (.int top), none, none, none, none, none] from rfl]
  try dsimp only [cxOf, Cx.nox, Cx.wish, List.map]

  obtain ⟨⟨ns, a, b, d, h1, h2, h3, h4⟩, ne⟩ := hB
  have hl : 0 < ns.length := List.length_pos_iff.mpr h3
  have m1 := Int.emod_nonneg a (show (ns.length : Int) ≠ 0 by omega)
  have m2 := Int.emod_lt_of_pos a (show (0 : Int) < ns.length by omega)
  wtm_at "rd"
  refine ite_d (fun h => ?_) (fun h => ?_)
  · wtm_at "rd"
    exact kk _ _ (Int.emod_nonneg _ (by omega)) (Int.emod_lt_of_pos _ ht0) ⟨⟨ns, a, _, _, upd_same, by wtm_at "hp", h3, h4⟩, ne⟩ ((Kp.refl.wr (by simp)).wr (by simp))
  · wtm_at "rd"
    refine ite_d (fun h5 => ?_) (fun h5 => ?_)
    · wtm_at "rd"
      refine ite_d (fun h6 => ?_) (fun h6 => ?_)
      · wtm_at "rd"
        exact kk _ _ (Int.emod_nonneg _ (by omega)) (Int.emod_lt_of_pos _ ht0) ⟨⟨ns, _, _, _, upd_same, by wtm_at "hp", h3, h4⟩, ne⟩ (((Kp.refl.wr (by simp)).wr (by simp)).wr (by simp))
      · wtm_at "rd"
        exact kk _ _ (Int.emod_nonneg _ (by omega)) (Int.emod_lt_of_pos _ ht0) ⟨⟨ns, _, _, _, upd_same, by wtm_at "hp", h3, h4⟩, ne⟩ ((Kp.refl.wr (by simp)).wr (by simp))
    · wtm_at "rd"
      exact kk _ _ (Int.emod_nonneg _ (by omega)) (Int.emod_lt_of_pos _ ht0) ⟨⟨ns, _, _, _, upd_same, by wtm_at "hp", h3, h4⟩, ne⟩ ((Kp.refl.wr (by simp)).wr (by simp))
theorem c_l_draw (T : Cx K mg) (B : Tb K mg base) : CalX P w K mg base CX0 1 "_law_draw" (sp_l_draw K) [] := by
  obtain ⟨fd, F, ok⟩ := f_l_draw (P := P) (w := w) (base := base) T B
  exact ⟨_, fd, p_l_draw, [], ok, gl_l_draw T, F.kp, FunD.bindsN F fun _ _ _ _ _ _ us hl => match us, hl with | [_, _], _ => rfl, .nil⟩
end
section
variable {P : Program} {w : World} {K : PySem.W.Frag} {mg : Str → Option Value} {base : Heap}
def sp_l_bits (K : PySem.W.Frag) : Sp := fun vs H Q E => ∃ (p c : Addr), vs = [.ref p] ∧ (Box H p c) ∧ (∀ n H1, 1 ≤ n → n ≤ 8 → Box H1 p c → Kp [p] H H1 → Q (.int n) H1)
theorem us_l_bits {K : PySem.W.Frag} {H : Hp} {Q : VK} {E : XK} {p c : Addr} (hB : Box H p c) (kk : ∀ n H1, 1 ≤ n → n ≤ 8 → Box H1 p c → Kp [p] H H1 → Q (.int n) H1) : sp_l_bits K [.ref p] H Q E := ⟨_, _, rfl, hB, kk⟩
theorem f_l_bits (T : Cx K mg) (B : Tb K mg base) : ∃ fd, FunD K "_law_bits" "_law_bits" (defArgs s_l_bits) (defBody s_l_bits) (defScope s_l_bits) (d_l_bits.dvs K) (d_l_bits.kws K) (fAd K d_l_bits.at_) fd ∧ FnOk P w K mg base CX0 2 (fAd K d_l_bits.at_) fd p_l_bits (sp_l_bits K) := by
  have c_l_draw := c_l_draw (P := P) (w := w) (base := base) T B
  obtain ⟨fd, F⟩ := T.says.def_ 2 (d := d_l_bits) rfl
  refine ⟨fd, F, fnD F sc_l_bits (fun vs H Q E h => by
    obtain ⟨_, _, rfl, _⟩ := h
    rfl) fun cdv A outer s H vs Q E hr h => ?_⟩
  have hu := hu_of hr
  obtain ⟨p, c, rfl, hB, kk⟩ := h
  refine ⟨_, (pss_cons (ps_set (i := 1) sc_l_bits.nd rfl (by first | exact Or.inl rfl | exact Or.inr rfl) (pe_cal c_l_draw hr (by decide) (by rfl) pass0 (pa_cons (pv 0) (pa_cons pe_int pa_nil)))) (pss_cons (ps_if (pt_cmpR op_lt (pv 1) pe_int (nomark _)) (pss_one (ps_ret pe_int)) pss_nil) (pss_cons (ps_if (pt_cmpR op_lt (pv 1) pe_int (nomark _)) (pss_one (ps_ret pe_int)) pss_nil) (pss_one (ps_ret (pe_op op_add pe_int (pe_cal c_l_draw hr (by decide) (by rfl) pass0 (pa_cons (pv 0) (pa_cons pe_int pa_nil))))))))), ?_⟩
  rw [show L2.start n_l_bits [.ref p] = [some (.ref p), none] from rfl]
  try dsimp only [cxOf, Cx.nox, Cx.wish, List.map]

  wtm_at "rd"
  refine us_l_draw hB (by decide) (by decide) fun n H1 n0 n1 B1 k1 => ?_
  wtm_at "rd"
  refine ite_d (fun h => ?_) (fun h => ?_)
  · wtm_at "rd"
    exact kk _ _ (by decide) (by decide) B1 k1
  · wtm_at "rd"
    refine ite_d (fun h => ?_) (fun h => ?_)
    · wtm_at "rd"
      exact kk _ _ (by decide) (by decide) B1 k1
    · wtm_at "rd"
      refine us_l_draw B1 (by decide) (by decide) fun n2 H2 n20 n21 B2 k2 => ?_
      wtm_at "rd"
      exact kk _ _ (by omega) (by omega) B2 (k1.trans k2)
theorem c_l_bits (T : Cx K mg) (B : Tb K mg base) : CalX P w K mg base CX0 2 "_law_bits" (sp_l_bits K) [] := by
  obtain ⟨fd, F, ok⟩ := f_l_bits (P := P) (w := w) (base := base) T B
  exact ⟨_, fd, p_l_bits, [], ok, gl_l_bits T, F.kp, FunD.bindsN F fun _ _ _ _ _ _ us hl => match us, hl with | [_], _ => rfl, .nil⟩
end
section
variable {P : Program} {w : World} {K : PySem.W.Frag} {mg : Str → Option Value} {base : Heap}
def sp_l_patience (K : PySem.W.Frag) : Sp := fun vs H Q E => ∃ (p c : Addr), vs = [.ref p] ∧ (Box H p c) ∧ (∀ n H1, 1 ≤ n → n ≤ 6 → Box H1 p c → Kp [p] H H1 → Q (.int n) H1)
theorem us_l_patience {K : PySem.W.Frag} {H : Hp} {Q : VK} {E : XK} {p c : Addr} (hB : Box H p c) (kk : ∀ n H1, 1 ≤ n → n ≤ 6 → Box H1 p c → Kp [p] H H1 → Q (.int n) H1) : sp_l_patience K [.ref p] H Q E := ⟨_, _, rfl, hB, kk⟩
theorem f_l_patience (T : Cx K mg) (B : Tb K mg base) : ∃ fd, FunD K "_law_patience" "_law_patience" (defArgs s_l_patience) (defBody s_l_patience) (defScope s_l_patience) (d_l_patience.dvs K) (d_l_patience.kws K) (fAd K d_l_patience.at_) fd ∧ FnOk P w K mg base CX0 2 (fAd K d_l_patience.at_) fd p_l_patience (sp_l_patience K) := by
  have c_l_draw := c_l_draw (P := P) (w := w) (base := base) T B
  obtain ⟨fd, F⟩ := T.says.def_ 3 (d := d_l_patience) rfl
  refine ⟨fd, F, fnD F sc_l_patience (fun vs H Q E h => by
    obtain ⟨_, _, rfl, _⟩ := h
    rfl) fun cdv A outer s H vs Q E hr h => ?_⟩
  have hu := hu_of hr
  obtain ⟨p, c, rfl, hB, kk⟩ := h
  refine ⟨_, (pss_cons (ps_set (i := 1) sc_l_patience.nd rfl (by first | exact Or.inl rfl | exact Or.inr rfl) (pe_cal c_l_draw hr (by decide) (by rfl) pass0 (pa_cons (pv 0) (pa_cons pe_int pa_nil)))) (pss_cons (ps_if (pt_cmpR op_lt (pv 1) pe_int (nomark _)) (pss_one (ps_ret pe_int)) pss_nil) (pss_cons (ps_if (pt_cmpR op_lt (pv 1) pe_int (nomark _)) (pss_one (ps_ret pe_int)) pss_nil) (pss_one (ps_ret (pe_op op_add pe_int (pe_cal c_l_draw hr (by decide) (by rfl) pass0 (pa_cons (pv 0) (pa_cons pe_int pa_nil))))))))), ?_⟩
  rw [show L2.start n_l_patience [.ref p] = [some (.ref p), none] from rfl]
  try dsimp only [cxOf, Cx.nox, Cx.wish, List.map]

  wtm_at "rd"
  refine us_l_draw hB (by decide) (by decide) fun n H1 n0 n1 B1 k1 => ?_
  wtm_at "rd"
  refine ite_d (fun h => ?_) (fun h => ?_)
  · wtm_at "rd"
    exact kk _ _ (by decide) (by decide) B1 k1
  · wtm_at "rd"
    refine ite_d (fun h => ?_) (fun h => ?_)
    · wtm_at "rd"
      exact kk _ _ (by decide) (by decide) B1 k1
    · wtm_at "rd"
      refine us_l_draw B1 (by decide) (by decide) fun n2 H2 n20 n21 B2 k2 => ?_
      wtm_at "rd"
      exact kk _ _ (by omega) (by omega) B2 (k1.trans k2)
theorem c_l_patience (T : Cx K mg) (B : Tb K mg base) : CalX P w K mg base CX0 2 "_law_patience" (sp_l_patience K) [] := by
  obtain ⟨fd, F, ok⟩ := f_l_patience (P := P) (w := w) (base := base) T B
  exact ⟨_, fd, p_l_patience, [], ok, gl_l_patience T, F.kp, FunD.bindsN F fun _ _ _ _ _ _ us hl => match us, hl with | [_], _ => rfl, .nil⟩
end
section
variable {P : Program} {w : World} {K : PySem.W.Frag} {mg : Str → Option Value} {base : Heap}
def sp_whole (K : PySem.W.Frag) : Sp := fun vs H Q E => ∃ (v lo hi : Int), vs = [.int v, .int lo, .int hi] ∧ (Q (.bl (decide (lo ≤ v) && decide (v ≤ hi))) H)
theorem us_whole {K : PySem.W.Frag} {H : Hp} {Q : VK} {E : XK} {v lo hi : Int}  (kk : Q (.bl (decide (lo ≤ v) && decide (v ≤ hi))) H) : sp_whole K [.int v, .int lo, .int hi] H Q E := ⟨_, _, _, rfl, kk⟩
theorem f_whole (T : Cx K mg) (B : Tb K mg base) : ∃ fd, FunD K "whole" "whole" (defArgs s_whole) (defBody s_whole) (defScope s_whole) (d_whole.dvs K) (d_whole.kws K) (fAd K d_whole.at_) fd ∧ FnOk P w K mg base CX0 1 (fAd K d_whole.at_) fd p_whole (sp_whole K) := by
  obtain ⟨fd, F⟩ := T.says.def_ 4 (d := d_whole) rfl
  refine ⟨fd, F, fnD F sc_whole (fun vs H Q E h => by
    obtain ⟨_, _, _, rfl, _⟩ := h
    rfl) fun cdv A outer s H vs Q E hr h => ?_⟩
  have hu := hu_of hr
  obtain ⟨v, lo, hi, rfl, kk⟩ := h
  refine ⟨_, (pss_cons (ps_if (PW.pt (pw_or (pt_not (pt_val (pe_callB call_isi (by rfl) (fr_isinstance T) (by decide +kernel) (pa_cons (pv 0) (pa_cons (pe_bltn (v := .ty "int") (by rfl) (fr_int T) (by decide +kernel) rfl) pa_nil))))) (pw_or1 (pt_val (pe_callB call_isi (by rfl) (fr_isinstance T) (by decide +kernel) (pa_cons (pv 0) (pa_cons (pe_bltn (v := .ty "bool") (by rfl) (fr_bool T) (by decide +kernel) rfl) pa_nil))))))) (pss_one (ps_ret pe_bl)) pss_nil) (pss_one (ps_ret (pe_and (pe_cmpR op_le (pv 1) (pv 0) (nomark _)) (pe_one (pe_or (pe_cmp (pc_isN (pv 2))) (pe_one (pe_cmpR op_le (pv 0) (pv 2) (nomark _))))))))), ?_⟩
  rw [show L2.start n_whole [.int v, .int lo, .int hi] = [some (.int v), some (.int lo), some (.int hi)] from rfl]
  try dsimp only [cxOf, Cx.nox, Cx.wish, List.map]

  wtm_at "rd"
  refine ite_d (fun h => ?_) (fun h => ?_)
  · wtm_at "rd"
    rw [decide_eq_true h, Bool.true_and] at kk
    exact kk
  · rw [decide_eq_false h, Bool.false_and] at kk
    exact kk
theorem c_whole (T : Cx K mg) (B : Tb K mg base) : CalX P w K mg base CX0 1 "whole" (sp_whole K) [] := by
  obtain ⟨fd, F, ok⟩ := f_whole (P := P) (w := w) (base := base) T B
  exact ⟨_, fd, p_whole, [], ok, gl_whole T, F.kp, FunD.bindsN F fun _ _ _ _ _ _ us hl => match us, hl with | [_, _, _], _ => rfl, .nil⟩
end
section
variable {P : Program} {w : World} {K : PySem.W.Frag} {mg : Str → Option Value} {base : Heap}
def sp_Setting_init (K : PySem.W.Frag) : Sp := fun vs H Q E => ∃ (p dx : Addr) (s : Stg), vs = [.ref p, .int s.bits, .int s.pat, .int s.room, .int s.grace, .int s.hel] ∧ (H p = some (.ins (ga K "Setting") dx [])) ∧ (s.Ok) ∧ (∀ H1, SetAt K H1 p s → Kp [p] H H1 → Q .non H1)
theorem us_Setting_init {K : PySem.W.Frag} {H : Hp} {Q : VK} {E : XK} {p dx : Addr} {s : Stg} (hp : H p = some (.ins (ga K "Setting") dx [])) (ok : s.Ok) (kk : ∀ H1, SetAt K H1 p s → Kp [p] H H1 → Q .non H1) : sp_Setting_init K [.ref p, .int s.bits, .int s.pat, .int s.room, .int s.grace, .int s.hel] H Q E := ⟨_, _, _, rfl, hp, ok, kk⟩
theorem f_Setting_init (T : Cx K mg) (B : Tb K mg base) : ∃ fd, FunD K "__init__" "Setting.__init__" (defArgs s_Setting_init) (defBody s_Setting_init) (defScope s_Setting_init) (d_Setting_init.dvs K) (d_Setting_init.kws K) (fAd K d_Setting_init.at_) fd ∧ FnOk P w K mg base CX0 2 (fAd K d_Setting_init.at_) fd p_Setting_init (sp_Setting_init K) := by
  have c_whole := c_whole (P := P) (w := w) (base := base) T B
  obtain ⟨fd, F⟩ := T.says.def_ 5 (d := d_Setting_init) rfl
  refine ⟨fd, F, fnD F sc_Setting_init (fun vs H Q E h => by
    obtain ⟨_, _, _, rfl, _⟩ := h
    rfl) fun cdv A outer s H vs Q E hr h => ?_⟩
  have hu := hu_of hr
  obtain ⟨p, dx, s, rfl, hp, ok, kk⟩ := h
  refine ⟨_, (pss_cons (ps_if (pt_not (pt_val (pe_cal c_whole hr (by decide) (by rfl) pass0 (pa_cons (pv 1) (pa_cons pe_int (pa_cons (pe_con (pv 0) rfl) pa_nil)))))) (pss_one ps_never) pss_nil) (pss_cons (ps_if (pt_not (pt_val (pe_cal c_whole hr (by decide) (by rfl) pass0 (pa_cons (pv 2) (pa_cons pe_int (pa_cons (pe_con (pv 0) rfl) pa_nil)))))) (pss_one ps_never) pss_nil) (pss_cons (ps_if (pt_not (pt_val (pe_cal c_whole hr (by decide) (by rfl) pass0 (pa_cons (pv 3) (pa_cons pe_int (pa_cons (pe_con (pv 0) rfl) pa_nil)))))) (pss_one ps_never) pss_nil) (pss_cons (ps_if (pt_not (pt_val (pe_cal c_whole hr (by decide) (by rfl) pass0 (pa_cons (pv 4) (pa_cons pe_int (pa_cons (pe_con (pv 0) rfl) pa_nil)))))) (pss_one ps_never) pss_nil) (pss_cons (ps_if (pt_not (pt_val (pe_cal c_whole hr (by decide) (by rfl) pass0 (pa_cons (pv 5) (pa_cons pe_int (pa_cons (pe_con (pv 0) rfl) pa_nil)))))) (pss_one ps_never) pss_nil) (pss_cons (ps_fld (pv 0) (pv 1) rfl) (pss_cons (ps_fld (pv 0) (pv 2) rfl) (pss_cons (ps_fld (pv 0) (pv 3) rfl) (pss_cons (ps_fld (pv 0) (pv 4) rfl) (pss_one (ps_fld (pv 0) (pv 5) rfl))))))))))), ?_⟩
  rw [show L2.start n_Setting_init [.ref p, .int s.bits, .int s.pat, .int s.room, .int s.grace, .int s.hel] = [some (.ref p), some (.int s.bits), some (.int s.pat), some (.int s.room), some (.int s.grace), some (.int s.hel)] from rfl]
  try dsimp only [cxOf, Cx.nox, Cx.wish, List.map]

  obtain ⟨b0, b1, p0, p1, r0, r1, g0, g1, h0, h1⟩ := id ok
  wtm_at "rd"
  refine us_whole ?_
  wtm_at "rd"
  refine ite_f (by simp; omega) ?_
  wtm_at "rd"
  refine us_whole ?_
  wtm_at "rd"
  refine ite_f (by simp; omega) ?_
  wtm_at "rd"
  refine us_whole ?_
  wtm_at "rd"
  refine ite_f (by simp; omega) ?_
  wtm_at "rd"
  refine us_whole ?_
  wtm_at "rd"
  refine ite_f (by simp; omega) ?_
  wtm_at "rd"
  refine us_whole ?_
  wtm_at "rd"
  refine ite_f (by simp; omega) ?_
  wtm_at "rd"
  exact kk _ ⟨⟨dx, upd_same⟩, ok⟩ (by wtm_at "kp")
theorem c_Setting_init (T : Cx K mg) (B : Tb K mg base) : MakX P w K mg base CX0 2 "Setting" (ga K "Setting") (sp_Setting_init K) [.int 6, .int 1] := by
  obtain ⟨fd, F, ok⟩ := f_Setting_init (P := P) (w := w) (base := base) T B
  obtain ⟨ds, hv, hb⟩ := FunD.binds0 (ps := p_Setting_init) F 4 (fun e => by cases e) rfl fun _ _ _ _ _ _ us ks hu hk => match us, ks, hu, hk with | [_, _, _, _], [_, _], _, _ => ⟨_, _, _, _, _, _, rfl, rfl, ⟨_, _, _, _, _, _, rfl, rfl, rfl⟩⟩
  exact ⟨_, fd, p_Setting_init, ds, mk_Setting T, ok, gl_Setting T, hb, hv⟩
end
section
variable {P : Program} {w : World} {K : PySem.W.Frag} {mg : Str → Option Value} {base : Heap}
def sp_Setting_seats (K : PySem.W.Frag) : Sp := fun vs H Q E => ∃ (p : Addr) (s : Stg), vs = [.ref p] ∧ (SetAt K H p s) ∧ (Q (.int s.ring) H)
theorem us_Setting_seats {K : PySem.W.Frag} {H : Hp} {Q : VK} {E : XK} {p : Addr} {s : Stg} (hS : SetAt K H p s) (kk : Q (.int s.ring) H) : sp_Setting_seats K [.ref p] H Q E := ⟨_, _, rfl, hS, kk⟩
theorem f_Setting_seats (T : Cx K mg) (B : Tb K mg base) : ∃ fd, FunD K "seats" "Setting.seats" (defArgs s_Setting_seats) (defBody s_Setting_seats) (defScope s_Setting_seats) [] [] (prG K "Setting" "seats") fd ∧ FnOk P w K mg base CX0 1 (prG K "Setting" "seats") fd p_Setting_seats (sp_Setting_seats K) := by
  obtain ⟨hP, fd, F⟩ := B.g g_Setting_seats (.head _)
  refine ⟨fd, F, fnD F sc_Setting_seats (fun vs H Q E h => by
    obtain ⟨_, _, rfl, _⟩ := h
    rfl) fun cdv A outer s H vs Q E hr h => ?_⟩
  have hu := hu_of hr
  obtain ⟨p, s, rfl, hS, kk⟩ := h
  refine ⟨_, (pss_one (ps_ret (pe_op op_shl pe_int (pe_fld (pv 0) rfl)))), ?_⟩
  rw [show L2.start n_Setting_seats [.ref p] = [some (.ref p)] from rfl]
  try dsimp only [cxOf, Cx.nox, Cx.wish, List.map]

  obtain ⟨⟨dx, hp⟩, ok⟩ := hS
  have b0 := ok.b0
  have b1 := ok.b1
  wtm_at "rd"
  show Q (.int (1 * 2 ^ s.bits.toNat)) H
  rw [Int.one_mul, ← Stg.ring_eq]
  exact kk
theorem c_Setting_seats (T : Cx K mg) (B : Tb K mg base) : PrpX P w K mg base CX0 1 (ga K "Setting") "seats" (sp_Setting_seats K) := by
  obtain ⟨fd, F, ok⟩ := f_Setting_seats (P := P) (w := w) (base := base) T B
  obtain ⟨hP, -⟩ := B.g g_Setting_seats (.head _)
  exact ⟨_, _, fd, p_Setting_seats, cl_Setting T, hP, ok, FunD.bindsN F fun _ _ _ _ _ _ us hl => match us, hl with | [_], _ => rfl⟩
end
section
variable {P : Program} {w : World} {K : PySem.W.Frag} {mg : Str → Option Value} {base : Heap}
def sp_distance (K : PySem.W.Frag) : Sp := fun vs H Q E => ∃ (p : Addr) (s : Stg) (a b : Int), vs = [.ref p, .int a, .int b] ∧ (SetAt K H p s) ∧ (Q (.int ((b - a) % s.ring)) H)
theorem us_distance {K : PySem.W.Frag} {H : Hp} {Q : VK} {E : XK} {p : Addr} {s : Stg} {a b : Int} (hS : SetAt K H p s) (kk : Q (.int ((b - a) % s.ring)) H) : sp_distance K [.ref p, .int a, .int b] H Q E := ⟨_, _, _, _, rfl, hS, kk⟩
theorem f_distance (T : Cx K mg) (B : Tb K mg base) : ∃ fd, FunD K "distance" "distance" (defArgs s_distance) (defBody s_distance) (defScope s_distance) (d_distance.dvs K) (d_distance.kws K) (fAd K d_distance.at_) fd ∧ FnOk P w K mg base CX0 3 (fAd K d_distance.at_) fd p_distance (sp_distance K) := by
  have c_Setting_seats := c_Setting_seats (P := P) (w := w) (base := base) T B
  obtain ⟨fd, F⟩ := T.says.def_ 6 (d := d_distance) rfl
  refine ⟨fd, F, fnD F sc_distance (fun vs H Q E h => by
    obtain ⟨_, _, _, _, rfl, _⟩ := h
    rfl) fun cdv A outer s H vs Q E hr h => ?_⟩
  have hu := hu_of hr
  obtain ⟨p, s, a, b, rfl, hS, kk⟩ := h
  refine ⟨_, (pss_one (ps_ret (pe_op op_mod (pe_op op_sub (pv 2) (pv 1)) (pe_prpX c_Setting_seats hr (by decide) pass0 (pv 0))))), ?_⟩
  rw [show L2.start n_distance [.ref p, .int a, .int b] = [some (.ref p), some (.int a), some (.int b)] from rfl]
  try dsimp only [cxOf, Cx.nox, Cx.wish, List.map]

  obtain ⟨⟨dx, hp⟩, ok⟩ := id hS
  have r2 := ok.r2
  wtm_at "rd"
  refine us_Setting_seats hS ?_
  wtm_at "rd"
  exact kk
theorem c_distance (T : Cx K mg) (B : Tb K mg base) : CalX P w K mg base CX0 3 "distance" (sp_distance K) [] := by
  obtain ⟨fd, F, ok⟩ := f_distance (P := P) (w := w) (base := base) T B
  exact ⟨_, fd, p_distance, [], ok, gl_distance T, F.kp, FunD.bindsN F fun _ _ _ _ _ _ us hl => match us, hl with | [_, _, _], _ => rfl, .nil⟩
end
section
variable {P : Program} {w : World} {K : PySem.W.Frag} {mg : Str → Option Value} {base : Heap}
def sp_first_from (K : PySem.W.Frag) : Sp := fun vs H Q E => ∃ (S l : Addr) (s : Stg) (place : Int) (xs : List Int), vs = [.ref S, .int place, .ref l] ∧ (SetAt K H S s) ∧ (SqL K H l (xs.map V.int)) ∧ (LamX.Tabs (TT K) H) ∧ (∀ o H1, Kt (TT K) [] H H1 → FirstOf s.ring place xs o → Q (ov o) H1)
theorem us_first_from {K : PySem.W.Frag} {H : Hp} {Q : VK} {E : XK} {S l : Addr} {s : Stg} {place : Int} {xs : List Int} (hS : SetAt K H S s) (hl : SqL K H l (xs.map V.int)) (hT : LamX.Tabs (TT K) H) (kk : ∀ o H1, Kt (TT K) [] H H1 → FirstOf s.ring place xs o → Q (ov o) H1) : sp_first_from K [.ref S, .int place, .ref l] H Q E := ⟨_, _, _, _, _, rfl, hS, hl, hT, kk⟩
theorem f_first_from (T : Cx K mg) (B : Tb K mg base) : ∃ fd, FunD K "first_from" "first_from" (defArgs s_first_from) (defBody s_first_from) (defScope s_first_from) (d_first_from.dvs K) (d_first_from.kws K) (fAd K d_first_from.at_) fd ∧ FnOk P w K mg base CX0 7 (fAd K d_first_from.at_) fd p_first_from (sp_first_from K) := by
  have c_distance := c_distance (P := P) (w := w) (base := base) T B
  obtain ⟨fd, F⟩ := T.says.def_ 7 (d := d_first_from) rfl
  refine ⟨fd, F, fnDc F sc_first_from (fun vs H Q E h => by
    obtain ⟨_, _, _, _, _, rfl, _⟩ := h
    rfl) fun A outer s H vs Q E hr h => ?_⟩
  have hu := hu_of hr
  obtain ⟨S, l, s, place, xs, rfl, hS, hl, hT, kk⟩ := h
  refine ⟨_, (pss_one (ps_ret (pe_minKey (T := TT K) (N := ["setting", "place", "seat"]) (k := 3) (p := "seat") (by rfl) (fr_min T) (pa_cons (pv 2) pa_nil) (B.t _ (List.mem_map_of_mem (.head _))) rfl (.head _) (lamU_first_from T) (hr.mono (by decide)) (lam1_by (by rfl)) (by rfl) (fun _ _ _ _ _ _ => by rfl) (fun s H f c' hr => (pe_cal c_distance hr (by decide) (by rfl) pass0 (pa_cons (pv 0) (pa_cons (pv 1) (pa_cons (pv 2) pa_nil)))))))), ?_⟩
  rw [show L2.start n_first_from [.ref S, .int place, .ref l] = [some (.ref S), some (.int place), some (.ref l)] from rfl]
  try dsimp only [cxOf, Cx.nox, Cx.wish, List.map]

  wtm_at "rd"
  refine rd_minI (fun x => (x - place) % s.ring) xs (fun n => [some (.ref S), some (.int place), some (.int n)]) hl hT (fun n => ⟨rfl, fun i y x e1 e2 => ?_⟩) (fun H3 n Q' hn k3 q => ?_) (fun H3 e k3 => ?_) (fun H3 i b k3 hb hm => ?_)
  · rcases i with _ | _ | _ | i
    · cases e1; cases e2; exact .inr ⟨by decide, 0, rfl, rfl⟩
    · cases e1; cases e2; exact .inr ⟨by decide, 1, rfl, rfl⟩
    · cases e1; cases e2; exact .inl ⟨rfl, rfl⟩
    · cases e1
  · wtm_at "rd"
    exact us_distance (hS.kt k3) q
  · exact kk none H3 k3 e
  · refine kk (some b) H3 k3 ⟨List.mem_of_getElem? hb, fun z hz => ?_⟩
    obtain ⟨j, hj⟩ := List.mem_iff_getElem?.mp hz
    exact (hm j z hj).1
theorem c_first_from (T : Cx K mg) (B : Tb K mg base) : CalX P w K mg base CX0 7 "first_from" (sp_first_from K) [] := by
  obtain ⟨fd, F, ok⟩ := f_first_from (P := P) (w := w) (base := base) T B
  exact ⟨_, fd, p_first_from, [], ok, gl_first_from T, F.kp, FunD.bindsN F fun _ _ _ _ _ _ us hl => match us, hl with | [_, _, _], _ => rfl, .nil⟩
end
section
variable {P : Program} {w : World} {K : PySem.W.Frag} {mg : Str → Option Value} {base : Heap}
def sp_Tour_init (K : PySem.W.Frag) : Sp := fun vs H Q E => ∃ (t S dx : Addr) (seat : Int) (beh : Option Int), vs = [.ref t, .ref S, .int seat, ov beh] ∧ (H t = some (.ins (ga K "Tour") dx [])) ∧ (∀ H1, TourAt K H1 t S ⟨beh.getD seat, none, false, 0⟩ → Kp [t] H H1 → Q .non H1)
theorem us_Tour_init {K : PySem.W.Frag} {H : Hp} {Q : VK} {E : XK} {t S dx : Addr} {seat : Int} {beh : Option Int} (hp : H t = some (.ins (ga K "Tour") dx [])) (kk : ∀ H1, TourAt K H1 t S ⟨beh.getD seat, none, false, 0⟩ → Kp [t] H H1 → Q .non H1) : sp_Tour_init K [.ref t, .ref S, .int seat, ov beh] H Q E := ⟨_, _, _, _, _, rfl, hp, kk⟩
theorem f_Tour_init (T : Cx K mg) (B : Tb K mg base) : ∃ fd, FunD K "__init__" "Tour.__init__" (defArgs s_Tour_init) (defBody s_Tour_init) (defScope s_Tour_init) (d_Tour_init.dvs K) (d_Tour_init.kws K) (fAd K d_Tour_init.at_) fd ∧ FnOk P w K mg base CX0 1 (fAd K d_Tour_init.at_) fd p_Tour_init (sp_Tour_init K) := by
  obtain ⟨fd, F⟩ := T.says.def_ 8 (d := d_Tour_init) rfl
  refine ⟨fd, F, fnD F sc_Tour_init (fun vs H Q E h => by
    obtain ⟨_, _, _, _, _, rfl, _⟩ := h
    rfl) fun cdv A outer s H vs Q E hr h => ?_⟩
  have hu := hu_of hr
  obtain ⟨t, S, dx, seat, beh, rfl, hp, kk⟩ := h
  refine ⟨_, (pss_cons (ps_fld (pv 0) pe_non rfl) (pss_cons (ps_fld (pv 0) pe_int rfl) (pss_cons (ps_fld (pv 0) (pv 1) rfl) (pss_cons (ps_fld (pv 0) (pe_ifExp (pt_cmp (pc_isN (pv 3))) (pv 2) (pv 3)) rfl) (pss_one (ps_fld (pv 0) pe_bl rfl)))))), ?_⟩
  rw [show L2.start n_Tour_init [.ref t, .ref S, .int seat, ov beh] = [some (.ref t), some (.ref S), some (.int seat), some (ov beh)] from rfl]
  try dsimp only [cxOf, Cx.nox, Cx.wish, List.map]

  cases beh with
  | none =>
    wtm_at "rd"
    exact kk _ ⟨dx, upd_same⟩ (by wtm_at "kp")
  | some b =>
    wtm_at "rd"
    exact kk _ ⟨dx, upd_same⟩ (by wtm_at "kp")
theorem c_Tour_init (T : Cx K mg) (B : Tb K mg base) : MakX P w K mg base CX0 1 "Tour" (ga K "Tour") (sp_Tour_init K) [.non] := by
  obtain ⟨fd, F, ok⟩ := f_Tour_init (P := P) (w := w) (base := base) T B
  obtain ⟨ds, hv, hb⟩ := FunD.binds0 (ps := p_Tour_init) F 3 (fun e => by cases e) rfl fun _ _ _ _ _ _ us ks hu hk => match us, ks, hu, hk with | [_, _, _], [_], _, _ => ⟨_, _, _, _, _, _, rfl, rfl, rfl⟩
  exact ⟨_, fd, p_Tour_init, ds, mk_Tour T, ok, gl_Tour T, hb, hv⟩
def kg_Tour_init_behind {α : Type} : List α → List α → List α → List α := fun us mz zs => us ++ (zs[0]?).toList
theorem kr_Tour_init_behind {vs mz zs : List V} {us mv ws : List Value} (r1 : Vals vs us) (r2 : Vals mz mv) (r3 : Vals zs ws) : Vals (kg_Tour_init_behind vs mz zs) (kg_Tour_init_behind us mv ws) := (Vals.append r1 (vals_at 0 r3))
theorem c_Tour_init_behind (T : Cx K mg) (B : Tb K mg base) : MakKX P w K mg base CX0 1 "Tour" (ga K "Tour") (sp_Tour_init K) 2 ["behind"] (fun vs zs => kg_Tour_init_behind vs [] zs) := by
  obtain ⟨fd, F, ok⟩ := f_Tour_init (P := P) (w := w) (base := base) T B
  obtain ⟨mv, hb⟩ := FunD.kbinds0 (ps := p_Tour_init) F 3 ["behind"] [] kg_Tour_init_behind (fun e => by cases e) (fun q hq => nomatch hq) kr_Tour_init_behind fun _ _ _ _ _ _ us mv ws hu hm hw => match us, mv, ws, hu, hm, hw with | [_, _, _], [], [_], _, _, _ => rfl
  exact ⟨_, fd, p_Tour_init, _, mk_Tour T, ok, gl_Tour T, hb⟩
end
section
variable {P : Program} {w : World} {K : PySem.W.Frag} {mg : Str → Option Value} {base : Heap}
def sp_Tour_aim (K : PySem.W.Frag) : Sp := fun vs H Q E => ∃ (t S l : Addr) (s : Stg) (m : Mo) (xs : List Int), vs = [.ref t, .ref l] ∧ (TourAt K H t S m) ∧ (SetAt K H S s) ∧ (m.run = true → ∃ n, m.now = some n) ∧ (SqL K H l (xs.map V.int)) ∧ (LamX.Tabs (TT K) H) ∧ (∀ H1 m', Kt (TT K) [t] H H1 → TourAt K H1 t S m' → AimR s.ring m xs m' → Q (ov m'.now) H1)
theorem us_Tour_aim {K : PySem.W.Frag} {H : Hp} {Q : VK} {E : XK} {t S l : Addr} {s : Stg} {m : Mo} {xs : List Int} (hA : TourAt K H t S m) (hS : SetAt K H S s) (hrun : m.run = true → ∃ n, m.now = some n) (hl : SqL K H l (xs.map V.int)) (hT : LamX.Tabs (TT K) H) (kk : ∀ H1 m', Kt (TT K) [t] H H1 → TourAt K H1 t S m' → AimR s.ring m xs m' → Q (ov m'.now) H1) : sp_Tour_aim K [.ref t, .ref l] H Q E := ⟨_, _, _, _, _, _, rfl, hA, hS, hrun, hl, hT, kk⟩
theorem f_Tour_aim (T : Cx K mg) (B : Tb K mg base) : ∃ fd, FunD K "aim" "Tour.aim" (defArgs s_Tour_aim) (defBody s_Tour_aim) (defScope s_Tour_aim) (d_Tour_aim.dvs K) (d_Tour_aim.kws K) (fAd K d_Tour_aim.at_) fd ∧ FnOk P w K mg base CX0 8 (fAd K d_Tour_aim.at_) fd p_Tour_aim (sp_Tour_aim K) := by
  have c_first_from := c_first_from (P := P) (w := w) (base := base) T B
  obtain ⟨fd, F⟩ := T.says.def_ 9 (d := d_Tour_aim) rfl
  refine ⟨fd, F, fnD F sc_Tour_aim (fun vs H Q E h => by
    obtain ⟨_, _, _, _, _, _, rfl, _⟩ := h
    rfl) fun cdv A outer s H vs Q E hr h => ?_⟩
  have hu := hu_of hr
  obtain ⟨t, S, l, s, m, xs, rfl, hA, hS, hrun, hl, hT, kk⟩ := h
  refine ⟨_, (C8.pss_cut (ps_if (PW.pt (pw_and (pt_val (pe_fld (pv 0) rfl)) (pw_and1 (pt_cmpR op_in_seq (pe_fld (pv 0) rfl) (pv 1) rfl)))) (pss_one (ps_ret (pe_fld (pv 0) rfl))) pss_nil) (pss_cons (ps_fld (pv 0) (pe_cal c_first_from hr (by decide) (by rfl) pass0 (pa_cons (pe_fld (pv 0) rfl) (pa_cons (pe_op op_add (pe_fld (pv 0) rfl) pe_int) (pa_cons (pv 1) pa_nil)))) rfl) (pss_cons (ps_fld (pv 0) pe_int rfl) (pss_cons (ps_fld (pv 0) (pe_cmp (pc_notN (pe_fld (pv 0) rfl))) rfl) (pss_cons (ps_if (pt_val (pe_fld (pv 0) rfl)) (pss_one (ps_fld (pv 0) (pe_fld (pv 0) rfl) rfl)) pss_nil) (pss_one (ps_ret (pe_fld (pv 0) rfl)))))))), ?_⟩
  rw [show L2.start n_Tour_aim [.ref t, .ref l] = [some (.ref t), some (.ref l)] from rfl]
  try dsimp only [cxOf, Cx.nox, Cx.wish, List.map]

  obtain ⟨last, now, run, bad⟩ := m
  obtain ⟨dx, hA⟩ := hA
  dsimp only at hA
  have nSt : S ≠ t := hS.neins hA (by decide)
  wtm_at "rd"
  refine rd_cut (fun σ H1 => σ = [some (.ref t), some (.ref l)] ∧ H1 = H ∧ ¬ (run = true ∧ ∃ n, now = some n ∧ n ∈ xs)) ?_ ?_
  · wtm_at "rd"
    refine ite_b (fun h => ?_) (fun h => ?_)
    · obtain ⟨n, e⟩ := hrun h
      obtain rfl : now = some n := e
      wtm_at "rd"
      refine ite_d (fun h2 => ?_) (fun h2 => ?_)
      · wtm_at "rd"
        exact kk H ⟨last, some n, run, bad⟩ (Kt.refl hT) ⟨dx, hA⟩ (.inl ⟨h, ⟨n, rfl, h2⟩, rfl⟩)
      · wtm_at "rd"
        refine ⟨rfl, rfl, fun z => ?_⟩
        obtain ⟨n', e, q⟩ := z.2
        cases e
        exact h2 q
    · wtm_at "rd"
      refine ⟨rfl, rfl, fun z => ?_⟩
      rw [h] at z
      cases z.1
  · rintro σ H1 ⟨rfl, rfl, hc⟩
    wtm_at "rd"
    refine us_first_from hS hl hT fun o H2 k2 ho => ?_
    have hA2 := k2.g0 (by intro _ z; cases z) hA
    have kt := Kt.of0 (ps := [t]) k2
    cases o with
    | none =>
      wtm_at "rd"
      exact kk _ ⟨last, none, false, 0⟩ (by wtm_at "kt") ⟨dx, upd_same⟩ (.inr ⟨hc, none, ho, rfl⟩)
    | some b =>
      wtm_at "rd"
      exact kk _ ⟨b, some b, true, 0⟩ (by wtm_at "kt") ⟨dx, upd_same⟩ (.inr ⟨hc, some b, ho, rfl⟩)
theorem c_Tour_aim (T : Cx K mg) (B : Tb K mg base) : MetX P w K mg base CX0 8 (ga K "Tour") "aim" (sp_Tour_aim K) [] := by
  obtain ⟨fd, F, ok⟩ := f_Tour_aim (P := P) (w := w) (base := base) T B
  exact ⟨_, fd, p_Tour_aim, [], cl_Tour T, mt_Tour_aim T, ok, FunD.bindsN F fun _ _ _ _ _ _ us hl => match us, hl with | [_, _], _ => rfl, .nil⟩
end
section
variable {P : Program} {w : World} {K : PySem.W.Frag} {mg : Str → Option Value} {base : Heap}
def sp_Tour_report (K : PySem.W.Frag) : Sp := fun vs H Q E => ∃ (t S : Addr) (s : Stg) (m : Mo) (b : Bool), vs = [.ref t, .bl b] ∧ (TourAt K H t S m) ∧ (SetAt K H S s) ∧ (∀ H1, TourAt K H1 t S (repM s.pat m b) → Kp [t] H H1 → Q .non H1)
theorem us_Tour_report {K : PySem.W.Frag} {H : Hp} {Q : VK} {E : XK} {t S : Addr} {s : Stg} {m : Mo} {b : Bool} (hA : TourAt K H t S m) (hS : SetAt K H S s) (kk : ∀ H1, TourAt K H1 t S (repM s.pat m b) → Kp [t] H H1 → Q .non H1) : sp_Tour_report K [.ref t, .bl b] H Q E := ⟨_, _, _, _, _, rfl, hA, hS, kk⟩
theorem f_Tour_report (T : Cx K mg) (B : Tb K mg base) : ∃ fd, FunD K "report" "Tour.report" (defArgs s_Tour_report) (defBody s_Tour_report) (defScope s_Tour_report) (d_Tour_report.dvs K) (d_Tour_report.kws K) (fAd K d_Tour_report.at_) fd ∧ FnOk P w K mg base CX0 1 (fAd K d_Tour_report.at_) fd p_Tour_report (sp_Tour_report K) := by
  obtain ⟨fd, F⟩ := T.says.def_ 10 (d := d_Tour_report) rfl
  refine ⟨fd, F, fnD F sc_Tour_report (fun vs H Q E h => by
    obtain ⟨_, _, _, _, _, rfl, _⟩ := h
    rfl) fun cdv A outer s H vs Q E hr h => ?_⟩
  have hu := hu_of hr
  obtain ⟨t, S, s, m, b, rfl, hA, hS, kk⟩ := h
  refine ⟨_, (pss_cons (ps_if (pt_not (pt_val (pe_fld (pv 0) rfl))) (pss_one ps_retN) pss_nil) (pss_cons (ps_if (pt_val (pv 1)) (pss_cons (ps_fld (pv 0) pe_bl rfl) (pss_one ps_retN)) pss_nil) (pss_cons (ps_fldaug (pv 0) pe_int in_add) (pss_one (ps_if (pt_cmpR op_ge (pe_fld (pv 0) rfl) (pe_fld (pe_fld (pv 0) rfl) rfl) (nomark _)) (pss_one (ps_fld (pv 0) pe_bl rfl)) pss_nil))))), ?_⟩
  rw [show L2.start n_Tour_report [.ref t, .bl b] = [some (.ref t), some (.bl b)] from rfl]
  try dsimp only [cxOf, Cx.nox, Cx.wish, List.map]

  obtain ⟨last, now, run, bad⟩ := m
  obtain ⟨dx, hA⟩ := hA
  dsimp only at hA
  have nSt : S ≠ t := hS.neins hA (by decide)
  obtain ⟨dS, hS1⟩ := hS.ex
  cases run with
  | false =>
    wtm_at "rd"
    exact kk H ⟨dx, hA⟩ Kp.refl
  | true =>
    cases b with
    | true =>
      wtm_at "rd"
      exact kk _ ⟨dx, upd_same⟩ (by wtm_at "kp")
    | false =>
      wtm_at "rd"
      refine ite_d (fun h => ?_) (fun h => ?_)
      · wtm_at "rd"
        refine kk _ ⟨dx, ?_⟩ (by wtm_at "kp")
        rw [upd_same]
        show _ = some (HO.ins _ _ [_, _, _, _, (_, V.bl (decide (bad + 1 < s.pat)))])
        rw [decide_eq_false (by omega)]
        rfl
      · wtm_at "rd"
        refine kk _ ⟨dx, ?_⟩ (by wtm_at "kp")
        rw [upd_same]
        show _ = some (HO.ins _ _ [_, _, _, _, (_, V.bl (decide (bad + 1 < s.pat)))])
        rw [decide_eq_true (by omega)]
        rfl
theorem c_Tour_report (T : Cx K mg) (B : Tb K mg base) : MetX P w K mg base CX0 1 (ga K "Tour") "report" (sp_Tour_report K) [] := by
  obtain ⟨fd, F, ok⟩ := f_Tour_report (P := P) (w := w) (base := base) T B
  exact ⟨_, fd, p_Tour_report, [], cl_Tour T, mt_Tour_report T, ok, FunD.bindsN F fun _ _ _ _ _ _ us hl => match us, hl with | [_, _], _ => rfl, .nil⟩
end
section
variable {P : Program} {w : World} {K : PySem.W.Frag} {mg : Str → Option Value} {base : Heap}
def sp_l_flags (K : PySem.W.Frag) : Sp := fun vs H Q E => ∃ (p c : Addr) (r own : Int), vs = [.ref p, .int r, .int own] ∧ (Box H p c) ∧ (Ring r) ∧ (∀ (q : Addr) H1, FlAt H1 q r → Box H1 p c → H q = none → Kp [p] H H1 → Q (.ref q) H1)
theorem us_l_flags {K : PySem.W.Frag} {H : Hp} {Q : VK} {E : XK} {p c : Addr} {r own : Int} (hB : Box H p c) (hR : Ring r) (kk : ∀ (q : Addr) H1, FlAt H1 q r → Box H1 p c → H q = none → Kp [p] H H1 → Q (.ref q) H1) : sp_l_flags K [.ref p, .int r, .int own] H Q E := ⟨_, _, _, _, rfl, hB, hR, kk⟩
theorem f_l_flags (T : Cx K mg) (B : Tb K mg base) : ∃ fd, FunD K "_law_flags" "_law_flags" (defArgs s_l_flags) (defBody s_l_flags) (defScope s_l_flags) (d_l_flags.dvs K) (d_l_flags.kws K) (fAd K d_l_flags.at_) fd ∧ FnOk P w K mg base CX0 2 (fAd K d_l_flags.at_) fd p_l_flags (sp_l_flags K) := by
  have c_l_draw := c_l_draw (P := P) (w := w) (base := base) T B
  obtain ⟨fd, F⟩ := T.says.def_ 11 (d := d_l_flags) rfl
  refine ⟨fd, F, fnD F sc_l_flags (fun vs H Q E h => by
    obtain ⟨_, _, _, _, rfl, _⟩ := h
    rfl) fun cdv A outer s H vs Q E hr h => ?_⟩
  have hu := hu_of hr
  obtain ⟨p, c, r, own, rfl, hB, hR, kk⟩ := h
  refine ⟨_, (pss_cons (ps_set (i := 3) sc_l_flags.nd rfl (by first | exact Or.inl rfl | exact Or.inr rfl) (pe_cal c_l_draw hr (by decide) (by rfl) pass0 (pa_cons (pv 0) (pa_cons pe_int pa_nil)))) (pss_cons (ps_set (i := 4) sc_l_flags.nd rfl (by first | exact Or.inl rfl | exact Or.inr rfl) pe_int) (pss_cons (ps_set (i := 5) sc_l_flags.nd rfl (by first | exact Or.inl rfl | exact Or.inr rfl) (pe_lst pa_nil)) (pss_cons (ps_for PassesOwn.never rfl (pi_range1 (by rfl) (fr_range T) (pa_cons (pv 1) pa_nil)) (pg_name (i := 6) sc_l_flags.nd rfl (by first | exact Or.inl rfl | exact Or.inr rfl)) (C8.pss_cut (ps_if (pt_cmpR op_eq (pe_op op_mod (pv 6) pe_int) pe_int (nomark _)) (pss_cons (ps_set (i := 4) sc_l_flags.nd rfl (by first | exact Or.inl rfl | exact Or.inr rfl) (pe_cal c_l_draw hr (by decide) (by rfl) pass0 (pa_cons (pv 0) (pa_cons pe_int pa_nil)))) (pss_cons (ps_if (pt_cmpR op_eq (pv 3) pe_int (nomark _)) (pss_one (ps_set (i := 4) sc_l_flags.nd rfl (by first | exact Or.inl rfl | exact Or.inr rfl) (pe_op op_and (pv 4) (pe_cal c_l_draw hr (by decide) (by rfl) pass0 (pa_cons (pv 0) (pa_cons pe_int pa_nil)))))) pss_nil) (pss_one (ps_if (pt_cmpR op_eq (pv 3) pe_int (nomark _)) (pss_one (ps_set (i := 4) sc_l_flags.nd rfl (by first | exact Or.inl rfl | exact Or.inr rfl) pe_int)) pss_nil)))) pss_nil) (pss_one (ps_expr (pe_bm PySem.F.plainAttrs_list PySem.F.slot_list_append PySem.F.type_list_append mt_append (pv 5) (pa_cons (pe_and (pe_cmpR op_eq (pe_op op_mod (pe_callTy call_int1' (by rfl) (fr_int T) (by decide +kernel) (pa_cons (pe_op op_shr (pv 4) (pe_op op_mod (pv 6) pe_int)) pa_nil)) pe_int) pe_int (nomark _)) (pe_one (pe_cmpR op_ne (pv 6) (pv 2) (nomark _)))) pa_nil)))))) (pss_one (ps_ret (pv 5))))))), ?_⟩
  rw [show L2.start n_l_flags [.ref p, .int r, .int own] = [some (.ref p), some (.int r), some (.int own), none, none, none, none] from rfl]
  try dsimp only [cxOf, Cx.nox, Cx.wish, List.map]

  have r0 := hR.pos
  have r1 := hR.le
  wtm_at "rd"
  refine us_l_draw hB (by decide) (by decide) fun way H1 n10 n11 B1 k1 => ?_
  wtm_at "rd"
  refine ⟨sz1000 (by simp), fun q nq => ?_⟩
  have nq0 : H q = none := k1.back nq (by
    have := B1.ne1 nq
    simpa using Ne.symm this)
  have B2 : Box (upd H1 q (.lst [])) p c := B1.new nq
  have k2 : Kp [p] H (upd H1 q (.lst [])) := k1.nw nq
  wtm_at "rd"
  refine forR_by (fun i σ H2 => (∃ ch v5, σ = [some (.ref p), some (.int r), some (.int own), some (.int way), some (.int ch), some (.ref q), v5]) ∧ (∃ bs : List Bool, bs.length = i ∧ H2 q = some (.lst (bs.map V.bl))) ∧ Box H2 p c ∧ Kp [p] H H2) ⟨⟨_, _, rfl⟩, ⟨[], rfl, upd_same⟩, B2, k2⟩ ?_ ?_
  · rintro i σ H2 hi ⟨⟨ch, v5, rfl⟩, ⟨bs, hbs, hq⟩, B2, k2⟩
    wtm_at "rd"
    refine rd_cut (fun σ H3 => (∃ ch, σ = [some (.ref p), some (.int r), some (.int own), some (.int way), some (.int ch), some (.ref q), some (.int (0 + (i : Int)))]) ∧ H3 q = some (.lst (bs.map V.bl)) ∧ Box H3 p c ∧ Kp [p] H H3) ?_ ?_
    · have npq : p ≠ q := (B1.ne1 nq)
      wtm_at "rd"
      refine ite_d (fun h => ?_) (fun h => ?_)
      · wtm_at "rd"
        refine us_l_draw B2 (by decide) (by decide) fun c1 H3 c10 c11 B3 k3 => ?_
        have hq3 := k3.g1 (Ne.symm npq) hq
        wtm_at "rd"
        refine ite_d (fun h => ?_) (fun h => ?_)
        · subst h
          wtm_at "rd"
          refine us_l_draw B3 (by decide) (by decide) fun c2 H4 c20 c21 B4 k4 => ?_
          have hq4 := k4.g1 (Ne.symm npq) hq3
          wtm_at "rd"
          refine ite_d (fun h => absurd h (by decide)) (fun _ => ?_)
          wtm_at "rd"
          exact ⟨⟨_, rfl⟩, hq4, B4, (k2.trans k3).trans k4⟩
        · wtm_at "rd"
          refine ite_d (fun h => ?_) (fun h => ?_)
          · wtm_at "rd"
            exact ⟨⟨_, rfl⟩, hq3, B3, k2.trans k3⟩
          · wtm_at "rd"
            exact ⟨⟨_, rfl⟩, hq3, B3, k2.trans k3⟩
      · wtm_at "rd"
        exact ⟨⟨_, rfl⟩, hq, B2, k2⟩
    · rintro σ H3 ⟨⟨ch, rfl⟩, hq3, B3, k3⟩
      have sl : (bs.map V.bl).length < sizeLine := szlt (by rw [List.length_map]; omega)
      have m0 := Int.emod_nonneg (0 + (i : Int)) (show (16 : Int) ≠ 0 by decide)
      have fin : ∀ b : Bool, (∃ ch' v5, ([some (.ref p), some (.int r), some (.int own), some (.int way), some (.int ch), some (.ref q), some (.int (0 + (i : Int)))] : L2.St) = [some (.ref p), some (.int r), some (.int own), some (.int way), some (.int ch'), some (.ref q), v5]) ∧
          (∃ cs : List Bool, cs.length = i + 1 ∧ upd H3 q (.lst (bs.map V.bl ++ [.bl b])) q = some (.lst (cs.map V.bl))) ∧ Box (upd H3 q (.lst (bs.map V.bl ++ [.bl b]))) p c ∧ Kp [p] H (upd H3 q (.lst (bs.map V.bl ++ [.bl b]))) := fun b => by
        refine ⟨⟨_, _, rfl⟩, ⟨bs ++ [b], by rw [List.length_append, hbs]; rfl, by rw [upd_same, List.map_append]; rfl⟩, B3.k1 (q := q) (Kp.refl.wr (by simp)) (B1.ne1 nq) (B1.ne2 nq), k3.mine nq0⟩
      wtm_at "rd"
      refine ite_d (fun h => ?_) (fun h => ?_)
      · wtm_at "rd"
        exact fin _
      · wtm_at "rd"
        exact fin _
  · rintro σ H2 ⟨⟨ch, v5, rfl⟩, ⟨bs, hbs, hq⟩, B2, k2⟩
    wtm_at "rd"
    exact kk q _ ⟨bs, hq, hbs⟩ B2 nq0 k2
theorem c_l_flags (T : Cx K mg) (B : Tb K mg base) : CalX P w K mg base CX0 2 "_law_flags" (sp_l_flags K) [] := by
  obtain ⟨fd, F, ok⟩ := f_l_flags (P := P) (w := w) (base := base) T B
  exact ⟨_, fd, p_l_flags, [], ok, gl_l_flags T, F.kp, FunD.bindsN F fun _ _ _ _ _ _ us hl => match us, hl with | [_, _, _], _ => rfl, .nil⟩
end
section
variable {P : Program} {w : World} {K : PySem.W.Frag} {mg : Str → Option Value} {base : Heap}
def sp_l_first (K : PySem.W.Frag) : Sp := fun vs H Q E => ∃ (l : Addr) (r place : Int) (xs : List Int), vs = [.int r, .int place, .ref l] ∧ (Ring r) ∧ (SqL K H l (xs.map V.int)) ∧ (∀ z, z ∈ xs → 0 ≤ z ∧ z < r) ∧ (0 < xs.length ∧ xs.length ≤ 1000) ∧ (∀ b H1, FirstOf r place xs (some b) → Kp [] H H1 → Q (.int b) H1)
theorem us_l_first {K : PySem.W.Frag} {H : Hp} {Q : VK} {E : XK} {l : Addr} {r place : Int} {xs : List Int} (hR : Ring r) (hl : SqL K H l (xs.map V.int)) (hx : ∀ z, z ∈ xs → 0 ≤ z ∧ z < r) (hn : 0 < xs.length ∧ xs.length ≤ 1000) (kk : ∀ b H1, FirstOf r place xs (some b) → Kp [] H H1 → Q (.int b) H1) : sp_l_first K [.int r, .int place, .ref l] H Q E := ⟨_, _, _, _, rfl, hR, hl, hx, hn, kk⟩
theorem f_l_first (T : Cx K mg) (B : Tb K mg base) : ∃ fd, FunD K "_law_first" "_law_first" (defArgs s_l_first) (defBody s_l_first) (defScope s_l_first) (d_l_first.dvs K) (d_l_first.kws K) (fAd K d_l_first.at_) fd ∧ FnOk P w K mg base CX0 1 (fAd K d_l_first.at_) fd p_l_first (sp_l_first K) := by
  obtain ⟨fd, F⟩ := T.says.def_ 12 (d := d_l_first) rfl
  refine ⟨fd, F, fnD F sc_l_first (fun vs H Q E h => by
    obtain ⟨_, _, _, _, rfl, _⟩ := h
    rfl) fun cdv A outer s H vs Q E hr h => ?_⟩
  have hu := hu_of hr
  obtain ⟨l, r, place, xs, rfl, hR, hl, hx, hn, kk⟩ := h
  refine ⟨_, (pss_cons (ps_set (i := 3) sc_l_first.nd rfl (by first | exact Or.inl rfl | exact Or.inr rfl) (pe_callB (cr_min rfl) (by rfl) (fr_min T) (by decide +kernel) (pa_cons (pe_lc (own := [("_law_spot", 4)]) (g := (gName 4)) (tt := tYes) rfl sc_l_first.nd (pi_list (pv 2)) (blkOk_by (own := [("_law_spot", 4)]) (N := n_l_first) (sc := defScope s_l_first) (by decide +kernel)) (fun _ _ _ _ _ => (pg_name (i := 4) sc_l_first.nd rfl (by first | exact Or.inl rfl | exact Or.inr rfl))) (fun _ _ _ _ _ => pts_nil) (fun _ _ _ _ _ => (pe_op op_mod (pe_callTy call_int1' (by rfl) (fr_int T) (by decide +kernel) (pa_cons (pe_op op_sub (pv 4) (pv 1)) pa_nil)) (pv 0)))) pa_nil))) (pss_one (ps_ret (pe_op op_mod (pe_callTy call_int1' (by rfl) (fr_int T) (by decide +kernel) (pa_cons (pe_op op_add (pv 1) (pv 3)) pa_nil)) (pv 0))))), ?_⟩
  rw [show L2.start n_l_first [.int r, .int place, .ref l] = [some (.int r), some (.int place), some (.ref l), none, none] from rfl]
  try dsimp only [cxOf, Cx.nox, Cx.wish, List.map]

  have r0 := hR.pos
  wtm_at "rd"
  intro D hD
  refine lcF_ints xs (fun _ => true) (fun x => V.int ((x - place) % r)) hl hD (by omega) (fun i h H1 E N k1 hE hN => ?_) (fun H1 k1 hD1 => ?_)
  · wtm_at "rd"
    refine ⟨rfl, ?_⟩
    wtm_at "rd"
    exact hE _ Kp.refl rfl
  · rw [List.filter_eq_self.mpr (fun _ _ => rfl)] at hD1
    have hD2 : H1 D = some (.lst ((xs.map fun x => (x - place) % r).map V.int)) := by
      rw [hD1, List.map_map]
      rfl
    wtm_at "rd"
    refine rd_minL (SqL.of hD2) (by rw [List.length_map]; exact hn.1) fun m hm hle => ?_
    obtain ⟨x, hxm, rfl⟩ := List.mem_map.mp hm
    have x1 := hx x hxm
    wtm_at "rd"
    rw [key_to hR x1.1 x1.2]
    exact kk x H1 ⟨hxm, fun z hz => hle _ (List.mem_map_of_mem hz)⟩ k1
theorem c_l_first (T : Cx K mg) (B : Tb K mg base) : CalX P w K mg base CX0 1 "_law_first" (sp_l_first K) [] := by
  obtain ⟨fd, F, ok⟩ := f_l_first (P := P) (w := w) (base := base) T B
  exact ⟨_, fd, p_l_first, [], ok, gl_l_first T, F.kp, FunD.bindsN F fun _ _ _ _ _ _ us hl => match us, hl with | [_, _, _], _ => rfl, .nil⟩
end
section
variable {P : Program} {w : World} {K : PySem.W.Frag} {mg : Str → Option Value} {base : Heap}

theorem St25.met {r pl : Int} (hR : Ring r) : ((List.range r.toNat).map fun (k : Nat) => (pl + (k : Int)) % r).Nodup := by
  refine List.pairwise_map.mpr ((List.nodup_range (n := r.toNat)).imp_of_mem fun {a b} ha hb n e => n ?_)
  have a1 := List.mem_range.mp ha
  have b1 := List.mem_range.mp hb
  rcases hR with rfl | rfl | rfl | rfl | rfl | rfl | rfl | rfl <;> omega

def sp_l_pool (K : PySem.W.Frag) : Sp := fun vs H Q E => ∃ (p c : Addr) (r own : Int) (m : Bool), vs = [.ref p, .int r, .int own, .bl m] ∧ (Box H p c) ∧ (Ring r) ∧ (0 ≤ own ∧ own < r) ∧ (∀ q xs H1, Pool r xs → H1 q = some (.lst (xs.map V.int)) → H q = none → Box H1 p c → Kp [p] H H1 → Q (.ref q) H1)
theorem us_l_pool {K : PySem.W.Frag} {H : Hp} {Q : VK} {E : XK} {p c : Addr} {r own : Int} {m : Bool} (hB : Box H p c) (hR : Ring r) (ho : 0 ≤ own ∧ own < r) (kk : ∀ q xs H1, Pool r xs → H1 q = some (.lst (xs.map V.int)) → H q = none → Box H1 p c → Kp [p] H H1 → Q (.ref q) H1) : sp_l_pool K [.ref p, .int r, .int own, .bl m] H Q E := ⟨_, _, _, _, _, rfl, hB, hR, ho, kk⟩
theorem f_l_pool (T : Cx K mg) (B : Tb K mg base) : ∃ fd, FunD K "_law_pool" "_law_pool" (defArgs s_l_pool) (defBody s_l_pool) (defScope s_l_pool) (d_l_pool.dvs K) (d_l_pool.kws K) (fAd K d_l_pool.at_) fd ∧ FnOk P w K mg base CX0 3 (fAd K d_l_pool.at_) fd p_l_pool (sp_l_pool K) := by
  have c_l_draw := c_l_draw (P := P) (w := w) (base := base) T B
  have c_l_flags := c_l_flags (P := P) (w := w) (base := base) T B
  obtain ⟨fd, F⟩ := T.says.def_ 13 (d := d_l_pool) rfl
  refine ⟨fd, F, fnD F sc_l_pool (fun vs H Q E h => by
    obtain ⟨_, _, _, _, _, rfl, _⟩ := h
    rfl) fun cdv A outer s H vs Q E hr h => ?_⟩
  have hu := hu_of hr
  obtain ⟨p, c, r, own, m, rfl, hB, hR, ho, kk⟩ := h
  refine ⟨_, (pss_cons (ps_set (i := 4) sc_l_pool.nd rfl (by first | exact Or.inl rfl | exact Or.inr rfl) (pe_cal c_l_flags hr (by decide) (by rfl) pass0 (pa_cons (pv 0) (pa_cons (pv 1) (pa_cons (pv 2) pa_nil))))) (pss_cons (ps_set (i := 5) sc_l_pool.nd rfl (by first | exact Or.inl rfl | exact Or.inr rfl) (pe_cal c_l_draw hr (by decide) (by rfl) pass0 (pa_cons (pv 0) (pa_cons (pv 1) pa_nil)))) (pss_cons (ps_set (i := 6) sc_l_pool.nd rfl (by first | exact Or.inl rfl | exact Or.inr rfl) (pe_op op_add pe_int (pe_cal c_l_draw hr (by decide) (by rfl) pass0 (pa_cons (pv 0) (pa_cons pe_int pa_nil))))) (C8.pss_cut (ps_if (pt_val (pv 3)) (pss_one (ps_set (i := 6) sc_l_pool.nd rfl (by first | exact Or.inl rfl | exact Or.inr rfl) (pe_op op_add pe_int (pe_cal c_l_draw hr (by decide) (by rfl) pass0 (pa_cons (pv 0) (pa_cons pe_int pa_nil)))))) pss_nil) (pss_cons (ps_setLc (i := 7) (own := [("_law_k", 9)]) (g := (gName 9)) (tt := tYes) rfl sc_l_pool.nd rfl rfl (sw_true rfl rfl rfl (by decide +kernel)) (pi_range1 (by rfl) (fr_range T) (pa_cons (pv 1) pa_nil)) (blkOk_by (own := [("_law_k", 9)]) (N := n_l_pool) (sc := defScope s_l_pool) (by decide +kernel)) (fun _ _ _ _ _ => (pg_name (i := 9) sc_l_pool.nd rfl (by first | exact Or.inl rfl | exact Or.inr rfl))) (fun _ _ _ _ _ => pts_nil) (fun _ _ _ _ _ => (pe_op op_mod (pe_callTy call_int1' (by rfl) (fr_int T) (by decide +kernel) (pa_cons (pe_op op_add (pv 5) (pv 9)) pa_nil)) (pv 1)))) (pss_cons (ps_set (i := 8) sc_l_pool.nd rfl (by first | exact Or.inl rfl | exact Or.inr rfl) (pe_slice sl_list (pe_lc (own := [("_law_spot", 10)]) (g := (gName 10)) rfl sc_l_pool.nd (pi_list (pv 7)) (blkOk_by (own := [("_law_spot", 10)]) (N := n_l_pool) (sc := defScope s_l_pool) (by decide +kernel)) (fun _ _ _ _ _ => (pg_name (i := 10) sc_l_pool.nd rfl (by first | exact Or.inl rfl | exact Or.inr rfl))) (fun _ _ _ _ _ => (pts_one (pt_val (pe_ix (ix_listK (K := K) rfl) (pv 4) (pv 10) (fun _ _ => rfl))))) (fun _ _ _ _ _ => (pv 10))) po_none (po_some (pv 6)))) (C8.pss_cut (ps_if (pt_cmpR op_lt (pe_callB call_lenS (by rfl) (fr_len T) (by decide +kernel) (pa_cons (pv 8) pa_nil)) pe_int (nomark _)) (pss_one (ps_set (i := 8) sc_l_pool.nd rfl (by first | exact Or.inl rfl | exact Or.inr rfl) (pe_slice sl_list (pe_lc (own := [("_law_spot", 10)]) (g := (gName 10)) rfl sc_l_pool.nd (pi_list (pv 7)) (blkOk_by (own := [("_law_spot", 10)]) (N := n_l_pool) (sc := defScope s_l_pool) (by decide +kernel)) (fun _ _ _ _ _ => (pg_name (i := 10) sc_l_pool.nd rfl (by first | exact Or.inl rfl | exact Or.inr rfl))) (fun _ _ _ _ _ => (pts_one (pt_cmpR op_ne (pv 10) (pv 2) (nomark _)))) (fun _ _ _ _ _ => (pv 10))) po_none (po_some (pv 6))))) pss_nil) (pss_one (ps_ret (pe_callB cr_sortedI (by rfl) (fr_sorted T) (by decide +kernel) (pa_cons (pv 8) pa_nil))))))))))), ?_⟩
  rw [show L2.start n_l_pool [.ref p, .int r, .int own, .bl m] = [some (.ref p), some (.int r), some (.int own), some (.bl m), none, none, none, none, none, none, none] from rfl]
  try dsimp only [cxOf, Cx.nox, Cx.wish, List.map]

  have r0 := hR.two
  have r1 := hR.le
  wtm_at "rd"
  refine us_l_flags hB hR fun q H1 F1 B1 nq k1 => ?_
  have nqp := Ne.symm (hB.ne1 nq)
  wtm_at "rd"
  refine us_l_draw B1 (by omega) (by omega) fun pl H2 pl0 pl1 B2 k2 => ?_
  have F2 := F1.kp k2 (by simpa using nqp)
  wtm_at "rd"
  refine us_l_draw B2 (by decide) (by decide) fun n3 H3 n30 n31 B3 k3 => ?_
  have F3 := F2.kp k3 (by simpa using nqp)
  have k13 := (k1.trans k2).trans k3
  wtm_at "rd"
  refine rd_cut (fun σ H4 => (∃ cap : Int, σ = [some (.ref p), some (.int r), some (.int own), some (.bl m), some (.ref q), some (.int pl), some (.int cap), none, none, none, none] ∧ 1 ≤ cap ∧ cap ≤ 20) ∧ FlAt H4 q r ∧ Box H4 p c ∧ Kp [p] H H4) ?_ ?_
  · cases m with
    | true =>
      wtm_at "rd"
      refine us_l_draw B3 (by decide) (by decide) fun n4 H4 n40 n41 B4 k4 => ?_
      wtm_at "rd"
      exact ⟨⟨_, rfl, by omega, by omega⟩, F3.kp k4 (by simpa using nqp), B4, k13.trans k4⟩
    | false =>
      wtm_at "rd"
      exact ⟨⟨_, rfl, by omega, by omega⟩, F3, B3, k13⟩
  clear F1 F2 F3 k1 k2 k3 k13 B1 B2 B3
  rintro σ H4 ⟨⟨cap, rfl, c0, c1⟩, F4, B4, k4⟩
  obtain ⟨bs, hF, hbl⟩ := F4
  wtm_at "rd"
  intro D nD
  refine lcF_range (lo := 0) (n := r.toNat) (fun _ => true) (fun k => V.int ((pl + (k : Int)) % r)) nD (by omega) (fun j hj H5 E N k5 hE hN => ?_) (fun H5 k5 hD5 => ?_)
  · wtm_at "rd"
    refine ⟨rfl, ?_⟩
    wtm_at "rd"
    simp only [Int.zero_add]
    exact hE _ Kp.refl rfl
  have mnd := St25.met (pl := pl) hR
  obtain ⟨mt, hmt⟩ : ∃ mt, mt = (List.range r.toNat).map fun (k : Nat) => (pl + (k : Int)) % r := ⟨_, rfl⟩
  have hD5 : H5 D = some (.lst (mt.map V.int)) := by
    rw [hD5, List.filter_eq_self.mpr (fun _ _ => rfl), hmt, List.map_map]
    rfl
  have mr : ∀ z, z ∈ mt → 0 ≤ z ∧ z < r := fun z hz => by
    rw [hmt] at hz
    obtain ⟨k, -, rfl⟩ := List.mem_map.mp hz
    exact ⟨Int.emod_nonneg _ (by omega), Int.emod_lt_of_pos _ (by omega)⟩
  have ml : mt.length = r.toNat := by rw [hmt, List.length_map, List.length_range]
  rw [← hmt] at mnd
  clear hmt
  have hF5 := k5.g0 hF
  have B5 := B4.k0 k5
  have k5 := k4.trans k5.of0
  have cut : ∀ xs : List Int, cutV (xs.map V.int) none (some cap) = (xs.take cap.toNat).map V.int := fun xs => by
    obtain ⟨n, rfl⟩ := Int.eq_ofNat_of_zero_le (show 0 ≤ cap by omega)
    rw [cut_to, ← List.map_take]
    rfl
  wtm_at "rd"
  intro D2 nD2
  refine lcF_ints mt (fun x => bs.getD x.toNat false) V.int (SqL.of hD5) nD2 (by omega) (fun i hi H6 E N k6 hE hN => ?_) (fun H6 k6 hD6 => ?_)
  · have hF6 := k6.g0 hF5
    have x1 := mr mt[i] (List.getElem_mem hi)
    have hat := atI_bls (bs := bs) (i := mt[i]) x1.1 (by omega)
    wtm_at "rd"
    refine ⟨rfl, ?_⟩
    wtm_at "rd"
    refine ite_b (fun h => ?_) (fun h => ?_)
    · wtm_at "rd"
      exact hE _ Kp.refl h
    · exact hN _ Kp.refl h
  have hm6 := k6.g0 hD5
  have B6 := B5.k0 k6
  have k6 := k5.trans k6.of0
  wtm_at "rd"
  intro p7 n7
  rw [cut]
  have k7 := k6.nw (o := .lst (((mt.filter fun x => bs.getD x.toNat false).take cap.toNat).map V.int)) n7
  have h7 : upd H6 p7 (.lst (((mt.filter fun x => bs.getD x.toNat false).take cap.toNat).map V.int)) p7 = some (.lst (((mt.filter fun x => bs.getD x.toNat false).take cap.toNat).map V.int)) := upd_same
  have hm7 := (Kp.new (ps := []) (o := .lst (((mt.filter fun x => bs.getD x.toNat false).take cap.toNat).map V.int)) n7).g0 hm6
  have B7 := B6.new (o := .lst (((mt.filter fun x => bs.getD x.toNat false).take cap.toNat).map V.int)) n7
  have pn : ((mt.filter fun x => bs.getD x.toNat false).take cap.toNat).Nodup := (List.take_sublist _ _).nodup (mnd.filter _)
  have pr : ∀ z, z ∈ (mt.filter fun x => bs.getD x.toNat false).take cap.toNat → 0 ≤ z ∧ z < r := fun z hz => mr z (List.mem_filter.mp (List.mem_of_mem_take hz)).1
  have pl20 : ((mt.filter fun x => bs.getD x.toNat false).take cap.toNat).length ≤ 20 := by rw [List.length_take]; omega
  generalize (mt.filter fun x => bs.getD x.toNat false).take cap.toNat = po at *
  generalize upd H6 p7 (.lst (po.map V.int)) = H7 at *
  wtm_at "rd"
  refine rd_cut (fun σ H8 => (∃ (p8 : Addr) (po : List Int), σ = [some (.ref p), some (.int r), some (.int own), some (.bl m), some (.ref q), some (.int pl), some (.int cap), some (.ref D), some (.ref p8), none, none] ∧ Pool r po ∧ H8 p8 = some (.lst (po.map V.int))) ∧ Box H8 p c ∧ Kp [p] H H8) ?_ ?_
  · wtm_at "rd"
    refine ite_d (fun h => ?_) (fun h => ?_)
    · wtm_at "rd"
      intro D9 nD9
      refine lcF_ints mt (fun x => !decide (x = own)) V.int (SqL.of hm7) nD9 (by omega) (fun i hi H9 E N k9 hE hN => ?_) (fun H9 k9 hD9 => ?_)
      · wtm_at "rd"
        refine ⟨rfl, ?_⟩
        wtm_at "rd"
        refine ite_n (fun h => ?_) (fun h => ?_)
        · wtm_at "rd"
          exact hE _ Kp.refl (by simp [h])
        · exact hN _ Kp.refl (by simp [h])
      · have B9 := B7.k0 k9
        have k9 := k7.trans k9.of0
        wtm_at "rd"
        intro p10 n10
        rw [cut]
        refine ⟨⟨p10, _, rfl, ⟨(List.take_sublist _ _).nodup (mnd.filter _), fun z hz => mr z (List.mem_filter.mp (List.mem_of_mem_take hz)).1, ?_⟩, upd_same⟩, B9.new n10, k9.nw n10⟩
        rw [List.length_take]
        refine ⟨?_, by omega⟩
        have : 1 ≤ (mt.filter fun x => !decide (x = own)).length := by
          have h1 : mt.length ≤ (own :: mt.filter fun x => !decide (x = own)).length := List.Nodup.length_le_of_subset mnd fun z hz => by
            by_cases e : z = own
            · rw [e]
              exact List.mem_cons_self
            · exact List.mem_cons_of_mem _ (List.mem_filter.mpr ⟨hz, by simp [e]⟩)
          rw [List.length_cons] at h1
          omega
        omega
    · wtm_at "rd"
      exact ⟨⟨p7, po, rfl, ⟨pn, pr, by omega, pl20⟩, h7⟩, B7, k7⟩
  clear pn pr pl20 h7 hm7 k7 B7
  rintro σ H8 ⟨⟨p8, po, rfl, P8, h8⟩, B8, k8⟩
  wtm_at "rd"
  refine rd_sortedI h8 fun os o op os2 no => ?_
  refine kk o os _ ⟨op.nodup_iff.mpr P8.nd, fun z hz => P8.rng z (op.subset hz), by rw [op.length_eq]; exact P8.len⟩ upd_same (k8.back no ?_) (B8.new no) (k8.nw no)
  simpa using Ne.symm (B8.ne1 no)
theorem c_l_pool (T : Cx K mg) (B : Tb K mg base) : CalX P w K mg base CX0 3 "_law_pool" (sp_l_pool K) [] := by
  obtain ⟨fd, F, ok⟩ := f_l_pool (P := P) (w := w) (base := base) T B
  exact ⟨_, fd, p_l_pool, [], ok, gl_l_pool T, F.kp, FunD.bindsN F fun _ _ _ _ _ _ us hl => match us, hl with | [_, _, _, _], _ => rfl, .nil⟩
end
section
variable {P : Program} {w : World} {K : PySem.W.Frag} {mg : Str → Option Value} {base : Heap}
def sp_l_tour (K : PySem.W.Frag) : Sp := fun vs H Q E => ∃ (p c S : Addr) (s : Stg) (own : Int), vs = [.ref p, .ref S, .int s.ring, .int own] ∧ (Box H p c) ∧ (SetAt K H S s) ∧ (∀ q t last H1, H1 q = some (.tup [.ref t, .int last]) → TourAt K H1 t S ⟨last, none, false, 0⟩ → H t = none → Box H1 p c → Kp [p] H H1 → Q (.ref q) H1)
theorem us_l_tour {K : PySem.W.Frag} {H : Hp} {Q : VK} {E : XK} {p c S : Addr} {s : Stg} {own : Int} (hB : Box H p c) (hS : SetAt K H S s) (kk : ∀ q t last H1, H1 q = some (.tup [.ref t, .int last]) → TourAt K H1 t S ⟨last, none, false, 0⟩ → H t = none → Box H1 p c → Kp [p] H H1 → Q (.ref q) H1) : sp_l_tour K [.ref p, .ref S, .int s.ring, .int own] H Q E := ⟨_, _, _, _, _, rfl, hB, hS, kk⟩
theorem f_l_tour (T : Cx K mg) (B : Tb K mg base) : ∃ fd, FunD K "_law_tour" "_law_tour" (defArgs s_l_tour) (defBody s_l_tour) (defScope s_l_tour) (d_l_tour.dvs K) (d_l_tour.kws K) (fAd K d_l_tour.at_) fd ∧ FnOk P w K mg base CX0 3 (fAd K d_l_tour.at_) fd p_l_tour (sp_l_tour K) := by
  have c_l_draw := c_l_draw (P := P) (w := w) (base := base) T B
  have c_Tour_init := c_Tour_init (P := P) (w := w) (base := base) T B
  have c_Tour_init_behind := c_Tour_init_behind (P := P) (w := w) (base := base) T B
  obtain ⟨fd, F⟩ := T.says.def_ 14 (d := d_l_tour) rfl
  refine ⟨fd, F, fnD F sc_l_tour (fun vs H Q E h => by
    obtain ⟨_, _, _, _, _, rfl, _⟩ := h
    rfl) fun cdv A outer s H vs Q E hr h => ?_⟩
  have hu := hu_of hr
  obtain ⟨p, c, S, s, own, rfl, hB, hS, kk⟩ := h
  refine ⟨_, (pss_cons (ps_set (i := 4) sc_l_tour.nd rfl (by first | exact Or.inl rfl | exact Or.inr rfl) (pe_cal c_l_draw hr (by decide) (by rfl) pass0 (pa_cons (pv 0) (pa_cons pe_int pa_nil)))) (pss_cons (ps_if (pt_cmpR op_eq (pv 4) pe_int (nomark _)) (pss_one (ps_ret (pe_tup (pa_cons (pe_mak c_Tour_init hr (by decide) (by rfl) pass0 (pa_cons (pv 1) (pa_cons (pv 3) pa_nil))) (pa_cons (pv 3) pa_nil))))) pss_nil) (pss_cons (ps_if (pt_cmpR op_eq (pv 4) pe_int (nomark _)) (pss_one (ps_ret (pe_tup (pa_cons (pe_makKX c_Tour_init_behind hr (by decide) (by rfl) pass0 (pa_cons (pv 1) (pa_cons (pv 3) pa_nil)) (pk_cons pe_non pk_nil)) (pa_cons (pv 3) pa_nil))))) pss_nil) (pss_cons (ps_set (i := 5) sc_l_tour.nd rfl (by first | exact Or.inl rfl | exact Or.inr rfl) (pe_cal c_l_draw hr (by decide) (by rfl) pass0 (pa_cons (pv 0) (pa_cons (pv 2) pa_nil)))) (C8.pss_cut (ps_if (pt_cmpR op_eq (pv 4) pe_int (nomark _)) (pss_one (ps_set (i := 5) sc_l_tour.nd rfl (by first | exact Or.inl rfl | exact Or.inr rfl) (pe_op op_mul (pv 5) (pe_cal c_l_draw hr (by decide) (by rfl) pass0 (pa_cons (pv 0) (pa_cons pe_int pa_nil)))))) pss_nil) (C8.pss_cut (ps_if (pt_cmpR op_eq (pv 4) pe_int (nomark _)) (pss_one (ps_set (i := 5) sc_l_tour.nd rfl (by first | exact Or.inl rfl | exact Or.inr rfl) (pe_op op_sub (pv 5) (pv 2)))) pss_nil) (C8.pss_cut (ps_if (pt_cmpR op_eq (pv 4) pe_int (nomark _)) (pss_one (ps_set (i := 5) sc_l_tour.nd rfl (by first | exact Or.inl rfl | exact Or.inr rfl) (pe_op op_mul (pe_op op_add (pv 5) (pe_op op_mul (pv 2) (pe_cal c_l_draw hr (by decide) (by rfl) pass0 (pa_cons (pv 0) (pa_cons (pe_op op_pow pe_int pe_int) pa_nil))))) (pe_op op_sub pe_int (pe_op op_mul pe_int (pe_cal c_l_draw hr (by decide) (by rfl) pass0 (pa_cons (pv 0) (pa_cons pe_int pa_nil)))))))) pss_nil) (pss_one (ps_ret (pe_tup (pa_cons (pe_makKX c_Tour_init_behind hr (by decide) (by rfl) pass0 (pa_cons (pv 1) (pa_cons (pv 3) pa_nil)) (pk_cons (pv 5) pk_nil)) (pa_cons (pv 5) pa_nil)))))))))))), ?_⟩
  rw [show L2.start n_l_tour [.ref p, .ref S, .int s.ring, .int own] = [some (.ref p), some (.ref S), some (.int s.ring), some (.int own), none, none] from rfl]
  try dsimp only [cxOf, Cx.nox, Cx.wish, List.map]

  wtm_at "rd"
  have r2 := hS.ok.r2
  have r256 := hS.ok.r256
  refine us_l_draw hB (by decide) (by decide) fun w H1 w0 w1 B1 k1 => ?_
  wtm_at "rd"
  refine ite_d (fun h => ?_) (fun h => ?_)
  · wtm_at "rd"
    intro x dx nx ndx ne
    have nx2 : upd H1 dx (.own x) x = none := hn_ne (Ne.symm ne) nx
    refine us_Tour_init (beh := none) upd_same fun Hz Tz kz => ⟨rfl, ?_⟩
    have kx : Kp [] H1 Hz := fun b o hb hn => kz _ _ (((Kp.new (ps := []) ndx).nw nx2) _ _ hb hn) (by simpa using ne_of_none hb nx)
    have nx0 : H x = none := k1.back nx (by have := B1.ne1 nx; simpa using Ne.symm this)
    have Bz := B1.k0 kx
    have kz := k1.trans kx.of0
    wtm_at "rd"
    refine ⟨sz1000 (by simp), fun t nt => ?_⟩
    refine kk t x _ _ upd_same ?_ nx0 (Bz.new nt) (kz.nw nt)
    obtain ⟨dy, ty⟩ := Tz
    exact ⟨dy, hu_ne (ne_of_none ty nt) ty⟩
  wtm_at "rd"
  refine ite_d (fun h2 => ?_) (fun h2 => ?_)
  · wtm_at "rd"
    refine ⟨rfl, rfl, fun x dx nx ndx ne => ?_⟩
    have nx2 : upd H1 dx (.own x) x = none := hn_ne (Ne.symm ne) nx
    refine us_Tour_init (beh := none) upd_same fun Hz Tz kz => ⟨rfl, ?_⟩
    have kx : Kp [] H1 Hz := fun b o hb hn => kz _ _ (((Kp.new (ps := []) ndx).nw nx2) _ _ hb hn) (by simpa using ne_of_none hb nx)
    have nx0 : H x = none := k1.back nx (by have := B1.ne1 nx; simpa using Ne.symm this)
    have Bz := B1.k0 kx
    have kz := k1.trans kx.of0
    wtm_at "rd"
    refine ⟨sz1000 (by simp), fun t nt => ?_⟩
    refine kk t x _ _ upd_same ?_ nx0 (Bz.new nt) (kz.nw nt)
    obtain ⟨dy, ty⟩ := Tz
    exact ⟨dy, hu_ne (ne_of_none ty nt) ty⟩
  wtm_at "rd"
  refine us_l_draw B1 (by omega) (by omega) fun L H2 L0 L1 B2 k2 => ?_
  have k12 := k1.trans k2
  wtm_at "rd"
  refine rd_cut (fun σ H3 => (∃ L : Int, σ = [some (.ref p), some (.ref S), some (.int s.ring), some (.int own), some (.int w), some (.int L)]) ∧ Box H3 p c ∧ Kp [p] H H3) ?_ ?_
  · wtm_at "rd"
    refine ite_d (fun h3 => ?_) (fun h3 => ?_)
    · wtm_at "rd"
      refine us_l_draw B2 (by decide) (by decide) fun n4 H4 n40 n41 B4 k4 => ?_
      wtm_at "rd"
      exact ⟨⟨_, rfl⟩, B4, k12.trans k4⟩
    · wtm_at "rd"
      exact ⟨⟨_, rfl⟩, B2, k12⟩
  clear L0 L1 k2 k12 B2
  rintro σ H3 ⟨⟨L, rfl⟩, B3, k3⟩
  wtm_at "rd"
  refine rd_cut (fun σ H3 => (∃ L : Int, σ = [some (.ref p), some (.ref S), some (.int s.ring), some (.int own), some (.int w), some (.int L)]) ∧ Box H3 p c ∧ Kp [p] H H3) ?_ ?_
  · wtm_at "rd"
    refine ite_d (fun h3 => ?_) (fun h3 => ?_)
    · wtm_at "rd"
      exact ⟨⟨_, rfl⟩, B3, k3⟩
    · wtm_at "rd"
      exact ⟨⟨_, rfl⟩, B3, k3⟩
  clear k3 B3 L
  rintro σ H3 ⟨⟨L, rfl⟩, B3, k3⟩
  wtm_at "rd"
  refine rd_cut (fun σ H3 => (∃ L : Int, σ = [some (.ref p), some (.ref S), some (.int s.ring), some (.int own), some (.int w), some (.int L)]) ∧ Box H3 p c ∧ Kp [p] H H3) ?_ ?_
  · wtm_at "rd"
    refine ite_d (fun h3 => ?_) (fun h3 => ?_)
    · wtm_at "rd"
      refine us_l_draw B3 (by decide) (by decide) fun n4 H4 n40 n41 B4 k4 => ?_
      wtm_at "rd"
      refine us_l_draw B4 (by decide) (by decide) fun n5 H5 n50 n51 B5 k5 => ?_
      wtm_at "rd"
      exact ⟨⟨_, rfl⟩, B5, (k3.trans k4).trans k5⟩
    · wtm_at "rd"
      exact ⟨⟨_, rfl⟩, B3, k3⟩
  clear k3 B3 L
  rintro σ H3 ⟨⟨L, rfl⟩, B3, k3⟩
  wtm_at "rd"
  refine ⟨rfl, rfl, fun x dx nx ndx ne => ?_⟩
  have nx2 : upd H3 dx (.own x) x = none := hn_ne (Ne.symm ne) nx
  refine us_Tour_init (beh := some L) upd_same fun Hz Tz kz => ⟨rfl, ?_⟩
  have kx : Kp [] H3 Hz := fun b o hb hn => kz _ _ (((Kp.new (ps := []) ndx).nw nx2) _ _ hb hn) (by simpa using ne_of_none hb nx)
  have nx0 : H x = none := k3.back nx (by have := B3.ne1 nx; simpa using Ne.symm this)
  have Bz := B3.k0 kx
  have kz := k3.trans kx.of0
  wtm_at "rd"
  refine ⟨sz1000 (by simp), fun t nt => ?_⟩
  refine kk t x _ _ upd_same ?_ nx0 (Bz.new nt) (kz.nw nt)
  obtain ⟨dy, ty⟩ := Tz
  exact ⟨dy, hu_ne (ne_of_none ty nt) ty⟩
theorem c_l_tour (T : Cx K mg) (B : Tb K mg base) : CalX P w K mg base CX0 3 "_law_tour" (sp_l_tour K) [] := by
  obtain ⟨fd, F, ok⟩ := f_l_tour (P := P) (w := w) (base := base) T B
  exact ⟨_, fd, p_l_tour, [], ok, gl_l_tour T, F.kp, FunD.bindsN F fun _ _ _ _ _ _ us hl => match us, hl with | [_, _, _, _], _ => rfl, .nil⟩
end
section
variable {P : Program} {w : World} {K : PySem.W.Frag} {mg : Str → Option Value} {base : Heap}

structure NmS (H0 H1 : Hp) (p c a l h : Addr) (xs : List Int) (ls hs : List Bool) : Prop where
  at_ : H1 h = some (.lst (hs.map V.bl))
  len : hs.length = xs.length
  ha : H1 a = some (.lst (xs.map V.int))
  hl : H1 l = some (.lst (ls.map V.bl))
  box : Box H1 p c
  k : Kp [p, h] H0 H1
theorem NmS.draw {H0 H1 H2 : Hp} {p c a l h : Addr} {xs : List Int} {ls hs : List Bool} (S : NmS H0 H1 p c a l h xs ls hs) (k : Kp [p] H1 H2) (b : Box H2 p c) (n1 : h ≠ p) (n2 : a ≠ p) (n3 : l ≠ p) : NmS H0 H2 p c a l h xs ls hs :=
  ⟨k.g1 n1 S.at_, S.len, k.g1 n2 S.ha, k.g1 n3 S.hl, b, S.k.trans (k.mono (by simp))⟩
theorem NmS.set {H0 H1 : Hp} {p c a l h : Addr} {xs : List Int} {ls hs : List Bool} (S : NmS H0 H1 p c a l h xs ls hs) {j : Nat} {v : Bool} (n1 : h ≠ p ∧ h ≠ c ∧ h ≠ a ∧ h ≠ l) : NmS H0 (upd H1 h (.lst ((hs.map V.bl).set j (.bl v)))) p c a l h xs ls (hs.set j v) :=
  ⟨by rw [upd_same, List.map_set], by rw [List.length_set]; exact S.len, (upd_ne (Ne.symm n1.2.2.1)).trans S.ha, (upd_ne (Ne.symm n1.2.2.2)).trans S.hl, S.box.k1 (q := h) (Kp.refl.wr (by simp)) (Ne.symm n1.1) (Ne.symm n1.2.1), S.k.wr (by simp)⟩
theorem rd_indexI {K : PySem.W.Frag} {H : Hp} {Q : VK} {a : Addr} {ns : List Int} {s : Int} {j : Nat} (h : SqL K H a (ns.map V.int)) (e : ns[j]? = some s) (no : ∀ m z, m < j → ns[m]? = some z → z ≠ s) (q : Q (.int (j : Nat)) H) : rIndex K (.ref a) [.int s] H Q :=
  ⟨a, ns.map V.int, .int s, j, .int s, rfl, rfl, h, rfl, flat_ints ns, by rw [List.getElem?_map, e]; rfl, by show (s == s) = true; exact beq_self_eq_true s, fun m z' hm hz => by
    rw [List.getElem?_map] at hz
    obtain ⟨z, h1, rfl⟩ := Option.map_eq_some_iff.mp hz
    show (z == s) = false
    exact beq_eq_false_iff_ne.mpr (no m z hm h1), q⟩
theorem getD_at {xs : List Int} {j : Nat} (h : j < xs.length) : xs.getD j 0 = xs[j] := by
  rw [List.getD_eq_getElem?_getD, List.getElem?_eq_getElem h]
  rfl
theorem nd_inj {xs : List Int} (nd : xs.Nodup) {i j : Nat} (hi : i < xs.length) (hj : j < xs.length) (e : xs[i] = xs[j]) : i = j := by
  rcases Nat.lt_trichotomy i j with h | h | h
  · exact absurd e (List.pairwise_iff_getElem.mp nd i j hi hj h)
  · exact h
  · exact absurd e.symm (List.pairwise_iff_getElem.mp nd j i hj hi h)
theorem inV_none : ∀ xs : List Int, inV .non (xs.map V.int) = false
  | [] => rfl
  | x :: r => by
    have := inV_none r
    unfold inV at this ⊢
    rw [List.map_cons, List.any_cons, this]
    rfl
theorem first_ix {ns : List Int} {s : Int} (h : s ∈ ns) : ∃ j : Nat, j < ns.length ∧ ns[j]? = some s ∧ ∀ m z, m < j → ns[m]? = some z → z ≠ s := by
  refine ⟨ns.findIdx (· == s), List.findIdx_lt_length_of_exists ⟨s, h, by simp⟩, ?_, fun m z hm hz e => ?_⟩
  · rw [List.getElem?_eq_getElem (List.findIdx_lt_length_of_exists ⟨s, h, by simp⟩)]
    congr 1
    simpa using List.findIdx_getElem (xs := ns) (p := (· == s)) (w := List.findIdx_lt_length_of_exists ⟨s, h, by simp⟩)
  · obtain ⟨hm2, rfl⟩ := List.getElem?_eq_some_iff.mp hz
    have := List.not_of_lt_findIdx hm
    simp [e] at this

def sp_l_names (K : PySem.W.Frag) : Sp := fun vs H Q E => ∃ (p c a l h : Addr) (sty : Int) (xs : List Int) (ls hs : List Bool) (o : Option Int), vs = [.ref p, .int sty, .ref a, .ref l, .ref h, ov o] ∧ (Box H p c) ∧ (H a = some (.lst (xs.map V.int))) ∧ (H l = some (.lst (ls.map V.bl))) ∧ (H h = some (.lst (hs.map V.bl))) ∧ (xs.Nodup ∧ 1 ≤ xs.length ∧ xs.length ≤ 20) ∧ (ls.length = xs.length) ∧ (hs.length = xs.length) ∧ (h ≠ p ∧ h ≠ c ∧ h ≠ a ∧ h ≠ l) ∧ (a ≠ p ∧ l ≠ p) ∧ (∀ q (ns : List Int) (hs2 : List Bool) H1, ns.Nodup → (∀ z, z ∈ ns → z ∈ xs) → H1 q = some (.lst (ns.map V.int)) → H q = none → hs2.length = xs.length → H1 h = some (.lst (hs2.map V.bl)) → Box H1 p c → Kp [p, h] H H1 → Q (.ref q) H1)
theorem us_l_names {K : PySem.W.Frag} {H : Hp} {Q : VK} {E : XK} {p c a l h : Addr} {sty : Int} {xs : List Int} {ls hs : List Bool} {o : Option Int} (hB : Box H p c) (ha : H a = some (.lst (xs.map V.int))) (hl : H l = some (.lst (ls.map V.bl))) (hh : H h = some (.lst (hs.map V.bl))) (hx : xs.Nodup ∧ 1 ≤ xs.length ∧ xs.length ≤ 20) (el : ls.length = xs.length) (eh : hs.length = xs.length) (hne : h ≠ p ∧ h ≠ c ∧ h ≠ a ∧ h ≠ l) (fne : a ≠ p ∧ l ≠ p) (kk : ∀ q (ns : List Int) (hs2 : List Bool) H1, ns.Nodup → (∀ z, z ∈ ns → z ∈ xs) → H1 q = some (.lst (ns.map V.int)) → H q = none → hs2.length = xs.length → H1 h = some (.lst (hs2.map V.bl)) → Box H1 p c → Kp [p, h] H H1 → Q (.ref q) H1) : sp_l_names K [.ref p, .int sty, .ref a, .ref l, .ref h, ov o] H Q E := ⟨_, _, _, _, _, _, _, _, _, _, rfl, hB, ha, hl, hh, hx, el, eh, hne, fne, kk⟩
theorem f_l_names (T : Cx K mg) (B : Tb K mg base) : ∃ fd, FunD K "_law_names" "_law_names" (defArgs s_l_names) (defBody s_l_names) (defScope s_l_names) (d_l_names.dvs K) (d_l_names.kws K) (fAd K d_l_names.at_) fd ∧ FnOk P w K mg base CX0 2 (fAd K d_l_names.at_) fd p_l_names (sp_l_names K) := by
  have c_l_draw := c_l_draw (P := P) (w := w) (base := base) T B
  obtain ⟨fd, F⟩ := T.says.def_ 15 (d := d_l_names) rfl
  refine ⟨fd, F, fnD F sc_l_names (fun vs H Q E h => by
    obtain ⟨_, _, _, _, _, _, _, _, _, _, rfl, _⟩ := h
    rfl) fun cdv A outer s H vs Q E hr h => ?_⟩
  have hu := hu_of hr
  obtain ⟨p, c, a, l, h, sty, xs, ls, hs, o, rfl, hB, ha, hl, hh, hx, el, eh, hne, fne, kk⟩ := h
  refine ⟨_, (C8.pss_cut (ps_if (pt_cmpR op_gt (pv 1) pe_int (nomark _)) (pss_cons (ps_set (i := 6) sc_l_names.nd rfl (by first | exact Or.inl rfl | exact Or.inr rfl) (pe_cal c_l_draw hr (by decide) (by rfl) pass0 (pa_cons (pv 0) (pa_cons pe_int pa_nil)))) (C8.pss_cut (ps_if (pt_cmpR op_lt (pv 6) pe_int (nomark _)) (pss_cons (ps_set (i := 7) sc_l_names.nd rfl (by first | exact Or.inl rfl | exact Or.inr rfl) (pe_cal c_l_draw hr (by decide) (by rfl) pass0 (pa_cons (pv 0) (pa_cons (pe_callB call_lenS (by rfl) (fr_len T) (by decide +kernel) (pa_cons (pv 2) pa_nil)) pa_nil)))) (pss_one (ps_asg (pe_or (pe_not (pe_ix ix_list (pv 4) (pv 7) (fun _ _ => rfl))) (pe_one (pe_not (pe_ix ix_list (pv 3) (pv 7) (fun _ _ => rfl))))) (pg_sub (pv 4) (pv 7) set_list)))) pss_nil) (C8.pss_cut (ps_if (PW.pt (pw_and (PW.pt (pw_or (pt_cmpR op_eq (pv 6) pe_int (nomark _)) (pw_or1 (pt_cmpR op_eq (pv 6) pe_int (nomark _))))) (pw_and1 (pt_cmpR op_in_seq (pv 5) (pv 2) rfl)))) (pss_cons (ps_set (i := 8) sc_l_names.nd rfl (by first | exact Or.inl rfl | exact Or.inr rfl) (pe_bm PySem.F.plainAttrs_list PySem.F.slot_list_index PySem.F.type_list_index mt_index (pv 2) (pa_cons (pv 5) pa_nil))) (pss_one (ps_asg (pe_not (pe_ix ix_list (pv 3) (pv 8) (fun _ _ => rfl))) (pg_sub (pv 4) (pv 8) set_list)))) pss_nil) (pss_one (ps_if (PW.pt (pw_and (pt_cmpR op_eq (pv 6) pe_int (nomark _)) (pw_and1 (pt_cmpR op_eq (pv 1) pe_int (nomark _))))) (pss_one (ps_ret (pe_lst pa_nil))) pss_nil))))) pss_nil) (pss_one (ps_ret (pe_lc (own := [("_law_j", 9)]) (g := (gName 9)) rfl sc_l_names.nd (pi_range1 (by rfl) (fr_range T) (pa_cons (pe_callB call_lenS (by rfl) (fr_len T) (by decide +kernel) (pa_cons (pv 2) pa_nil)) pa_nil)) (blkOk_by (own := [("_law_j", 9)]) (N := n_l_names) (sc := defScope s_l_names) (by decide +kernel)) (fun _ _ _ _ _ => (pg_name (i := 9) sc_l_names.nd rfl (by first | exact Or.inl rfl | exact Or.inr rfl))) (fun _ _ _ _ _ => (pts_one (pt_val (pe_ix (ix_listK (K := K) rfl) (pv 4) (pv 9) (fun _ _ => rfl))))) (fun _ _ _ _ _ => (pe_ix (ix_listK (K := K) rfl) (pv 2) (pv 9) (fun _ _ => rfl))))))), ?_⟩
  rw [show L2.start n_l_names [.ref p, .int sty, .ref a, .ref l, .ref h, ov o] = [some (.ref p), some (.int sty), some (.ref a), some (.ref l), some (.ref h), some (ov o), none, none, none, none] from rfl]
  try dsimp only [cxOf, Cx.nox, Cx.wish, List.map]

  have S0 : NmS H H p c a l h xs ls hs := ⟨hh, eh, ha, hl, hB, Kp.refl⟩
  have hhe := hne.1
  wtm_at "rd"
  refine rd_cut (fun σ H1 => (∃ v6 v7 v8, σ = [some (.ref p), some (.int sty), some (.ref a), some (.ref l), some (.ref h), some (ov o), v6, v7, v8, none]) ∧ ∃ hs2, NmS H H1 p c a l h xs ls hs2) ?_ ?_
  · wtm_at "rd"
    refine ite_d (fun h1 => ?_) (fun h1 => ?_)
    · wtm_at "rd"
      refine us_l_draw S0.box (by decide) (by decide) fun way H1 w0 w1 B1 k1 => ?_
      have S1 := S0.draw k1 B1 hne.1 fne.1 fne.2
      clear k1 B1
      wtm_at "rd"
      refine rd_cut (fun σ H2 => (∃ v7, σ = [some (.ref p), some (.int sty), some (.ref a), some (.ref l), some (.ref h), some (ov o), some (.int way), v7, none, none]) ∧ ∃ hs2, NmS H H2 p c a l h xs ls hs2) ?_ ?_
      · wtm_at "rd"
        refine ite_d (fun h2 => ?_) (fun h2 => ?_)
        · have ha1 := S1.ha
          wtm_at "rd"
          refine us_l_draw S1.box (by omega) (by omega) fun k H2 k0 k1 B2 k2 => ?_
          have S2 := S1.draw k2 B2 hne.1 fne.1 fne.2
          have hl2 := S2.hl
          have hh2 := S2.at_
          have hat := atI_bls (bs := hs) (i := k) k0 (by omega)
          have lat := atI_bls (bs := ls) (i := k) k0 (by omega)
          have hix : ixN (hs.map V.bl).length k = some k.toNat := ixN_at k0 (by rw [List.length_map]; omega)
          wtm_at "rd"
          refine ite_b (fun h3 => ?_) (fun h3 => ?_)
          · wtm_at "rd"
            refine rd_setL hh2 hix ?_
            exact ⟨⟨_, rfl⟩, _, S2.set hne⟩
          · wtm_at "rd"
            refine rd_setL hh2 hix ?_
            exact ⟨⟨_, rfl⟩, _, S2.set hne⟩
        · wtm_at "rd"
          exact ⟨⟨_, rfl⟩, _, S1⟩
      clear S1
      rintro σ H2 ⟨⟨v7, rfl⟩, hs2, S2⟩
      wtm_at "rd"
      refine rd_cut (fun σ H2 => (∃ v8, σ = [some (.ref p), some (.int sty), some (.ref a), some (.ref l), some (.ref h), some (ov o), some (.int way), v7, v8, none]) ∧ ∃ hs2, NmS H H2 p c a l h xs ls hs2) ?_ ?_
      · have ha2 := S2.ha
        have hl2 := S2.hl
        have hh2 := S2.at_
        have el2 := S2.len
        wtm_at "rd"
        refine ite_d (fun h2 => ?_) (fun h2 => ?_)
        · first
          | rw [if_pos rfl]
          | skip
          wtm_at "rd"
          cases o with
          | none =>
            refine ⟨a, xs.map V.int, rfl, .inl (SqL.of ha2), rfl, flat_ints _, ?_⟩
            refine ⟨_, rfl, ?_⟩
            rw [inV_none xs, if_neg Bool.false_ne_true]
            exact ⟨⟨_, rfl⟩, _, S2⟩
          | some x =>
            refine rd_inI (SqL.of ha2) ?_
            refine ⟨_, rfl, ?_⟩
            refine ite_d (fun h4 => ?_) (fun h4 => ?_)
            · obtain ⟨j, j1, j2, j3⟩ := first_ix h4
              wtm_at "rd"
              refine rd_indexI (SqL.of ha2) j2 j3 ?_
              have lat := atI_bls (bs := ls) (i := (j : Int)) (by omega) (by omega)
              have hix : ixN (hs2.map V.bl).length (j : Int) = some (j : Int).toNat := ixN_at (by omega) (by rw [List.length_map]; omega)
              wtm_at "rd"
              refine rd_setL hh2 hix ?_
              exact ⟨⟨_, rfl⟩, _, S2.set hne⟩
            · exact ⟨⟨_, rfl⟩, _, S2⟩
        · wtm_at "rd"
          refine ite_d (fun h2 => ?_) (fun h2 => ?_)
          · first
            | rw [if_pos rfl]
            | skip
            wtm_at "rd"
            cases o with
            | none =>
              refine ⟨a, xs.map V.int, rfl, .inl (SqL.of ha2), rfl, flat_ints _, ?_⟩
              refine ⟨_, rfl, ?_⟩
              rw [inV_none xs, if_neg Bool.false_ne_true]
              exact ⟨⟨_, rfl⟩, _, S2⟩
            | some x =>
              refine rd_inI (SqL.of ha2) ?_
              refine ⟨_, rfl, ?_⟩
              refine ite_d (fun h4 => ?_) (fun h4 => ?_)
              · obtain ⟨j, j1, j2, j3⟩ := first_ix h4
                wtm_at "rd"
                refine rd_indexI (SqL.of ha2) j2 j3 ?_
                have lat := atI_bls (bs := ls) (i := (j : Int)) (by omega) (by omega)
                have hix : ixN (hs2.map V.bl).length (j : Int) = some (j : Int).toNat := ixN_at (by omega) (by rw [List.length_map]; omega)
                wtm_at "rd"
                refine rd_setL hh2 hix ?_
                exact ⟨⟨_, rfl⟩, _, S2.set hne⟩
              · exact ⟨⟨_, rfl⟩, _, S2⟩
          · exact ⟨⟨_, rfl⟩, _, S2⟩
      rintro σ H3 ⟨⟨v8, rfl⟩, hs3, S3⟩
      wtm_at "rd"
      refine ite_d (fun h2 => ?_) (fun h2 => ?_)
      · wtm_at "rd"
        refine ite_d (fun h3 => ?_) (fun h3 => ?_)
        · wtm_at "rd"
          refine ⟨sz1000 (by simp), fun t nt => ?_⟩
          have nDh : h ≠ t := ne_of_none S3.at_ nt
          refine kk t [] hs3 _ List.nodup_nil (fun z hz => by cases hz) upd_same (S3.k.back nt ?_) S3.len (hu_ne nDh S3.at_) (S3.box.new nt) (S3.k.nw nt)
          simp only [List.mem_cons, List.not_mem_nil, or_false, not_or]
          exact ⟨Ne.symm (S3.box.ne1 nt), Ne.symm nDh⟩
        · wtm_at "rd"
          exact ⟨⟨_, _, _, rfl⟩, _, S3⟩
      · exact ⟨⟨_, _, _, rfl⟩, _, S3⟩
    · wtm_at "rd"
      exact ⟨⟨_, _, _, rfl⟩, _, S0⟩
  rintro σ H2 ⟨⟨v6, v7, v8, rfl⟩, hs2, S2⟩
  have ha2 := S2.ha
  have hh2 := S2.at_
  have el2 := S2.len
  wtm_at "rd"
  intro D nD
  refine lcF_range (lo := 0) (n := (xs.length : Int).toNat) (fun j => hs2.getD j false) (fun j => V.int (xs.getD j 0)) nD (by omega) (fun j hj H4 E N k4 hE hN => ?_) (fun H4 k4 hD4 => ?_)
  · have hat : atI (hs2.map V.bl) (0 + (j : Int)) = some (.bl (hs2.getD j false)) := by
      have z := atI_bls (bs := hs2) (i := 0 + (j : Int)) (by omega) (by omega)
      rw [show (0 + (j : Int)).toNat = j by omega] at z
      exact z
    have xat : atI (xs.map V.int) (0 + (j : Int)) = some (.int (xs.getD j 0)) := by
      rw [Int.zero_add]
      refine atI_nat ?_
      rw [List.getElem?_map, List.getElem?_eq_getElem (by omega), getD_at (by omega)]
      rfl
    have hh4 := k4.g0 hh2
    have ha4 := k4.g0 ha2
    wtm_at "rd"
    refine ⟨rfl, ?_⟩
    wtm_at "rd"
    refine ite_b (fun h => ?_) (fun h => ?_)
    · wtm_at "rd"
      exact hE _ Kp.refl h
    · exact hN _ Kp.refl h
  · have nDp := S2.box.ne1 nD
    have nDh : h ≠ D := ne_of_none hh2 nD
    have e : ∀ zs : List Nat, (∀ z, z ∈ zs → z < xs.length) → zs.Nodup → (zs.map fun j => xs.getD j 0).Nodup := fun zs hz hn => List.pairwise_map.mpr (hn.imp_of_mem fun {x y} hx' hy ne e => ne (by
      rw [getD_at (hz x hx'), getD_at (hz y hy)] at e
      exact nd_inj hx.1 _ _ e))
    refine kk D (((List.range (xs.length : Int).toNat).filter fun j => hs2.getD j false).map fun j => xs.getD j 0) hs2 H4 ?_ (fun z hz => ?_) ?_ (S2.k.back nD ?_) el2 (k4.g0 hh2) (S2.box.k0 k4) (S2.k.trans k4.of0)
    · refine e _ (fun z hz => ?_) (List.nodup_range.filter _)
      have := List.mem_range.mp (List.mem_filter.mp hz).1
      omega
    · obtain ⟨j, hj, rfl⟩ := List.mem_map.mp hz
      have := List.mem_range.mp (List.mem_filter.mp hj).1
      rw [getD_at (by omega)]
      exact List.getElem_mem _
    · rw [hD4, List.map_map]
      rfl
    · simp only [List.mem_cons, List.not_mem_nil, or_false, not_or]
      exact ⟨Ne.symm nDp, Ne.symm nDh⟩
theorem c_l_names (T : Cx K mg) (B : Tb K mg base) : CalX P w K mg base CX0 2 "_law_names" (sp_l_names K) [] := by
  obtain ⟨fd, F, ok⟩ := f_l_names (P := P) (w := w) (base := base) T B
  exact ⟨_, fd, p_l_names, [], ok, gl_l_names T, F.kp, FunD.bindsN F fun _ _ _ _ _ _ us hl => match us, hl with | [_, _, _, _, _, _], _ => rfl, .nil⟩
end
section
variable {P : Program} {w : World} {K : PySem.W.Frag} {mg : Str → Option Value} {base : Heap}

theorem Kt_via {T : List (Addr × Str)} {ps qs : List Addr} {H H' H2 : Hp} (a : Kt T ps H H') (k : Kt T qs H' H2) (n : ∀ p, p ∈ qs → p ∈ ps ∨ Frn H p) : Kt T ps H H2 :=
  ⟨fun c o e nt m => k.1 c o (a.1 c o e nt m) nt fun z => by
    rcases n c z with z | z
    · exact m z
    · exact z c o e nt rfl, k.2⟩
def Cd (o : HO) : Prop := (∃ xs, o = .tup xs) ∨ (∃ ns : List Int, o = .lst (ns.map V.int))
theorem Cd.nt {o : HO} (h : Cd o) : NoTbl o := by
  rcases h with ⟨xs, rfl⟩ | ⟨ns, rfl⟩
  · intro _ z
    cases z
  · intro _ z
    cases z
theorem Cd.box {o : HO} (h : Cd o) {c : Addr} {r : List V} : o ≠ .lst (.ref c :: r) := by
  rcases h with ⟨xs, rfl⟩ | ⟨ns, rfl⟩
  · intro z
    cases z
  · intro z
    cases ns with
    | nil => cases z
    | cons n ns => cases z
theorem Cd.bls {o : HO} (h : Cd o) {bs : List Bool} (hb : 0 < bs.length) : o ≠ .lst (bs.map V.bl) := by
  rcases h with ⟨xs, rfl⟩ | ⟨ns, rfl⟩
  · intro z
    cases z
  · intro z
    cases bs with
    | nil => cases hb
    | cons b bs =>
      cases ns with
      | nil => cases z
      | cons n ns => cases z
theorem Cd.ins {o : HO} (h : Cd o) {C d : Addr} {f : List (Str × V)} : o ≠ .ins C d f := by
  rcases h with ⟨xs, rfl⟩ | ⟨ns, rfl⟩
  · intro z
    cases z
  · intro z
    cases z
theorem Cd.ints (ns : List Int) : Cd (.lst (ns.map V.int)) := .inr ⟨ns, rfl⟩
theorem Cd.tup (xs : List V) : Cd (.tup xs) := .inl ⟨xs, rfl⟩
theorem RowsAt.cd {H H2 : Hp} {q : Addr} {ws : List Rw} (R : RowsAt H q ws) (f : ∀ b o, Cd o → H b = some o → H2 b = some o) (hq : H2 q = H q) : RowsAt H2 q ws :=
  ⟨hq.trans R.at_, fun w hw => ⟨f _ _ (Cd.tup _) (R.ob w hw).1, f _ _ (Cd.ints _) (R.ob w hw).2⟩⟩
structure Nes (p c t a l h g q : Addr) : Prop where
  hp : h ≠ p
  hc : h ≠ c
  ha : h ≠ a
  hl : h ≠ l
  hg : h ≠ g
  ap : a ≠ p
  lp : l ≠ p
  qp : q ≠ p
  qh : q ≠ h
  qt : q ≠ t
  qa : q ≠ a
  ql : q ≠ l
  qg : q ≠ g
  qc : q ≠ c
/-- what stands while the play goes on: a the pool, l who is loose, h who is here, g who is hard -/
structure PlS (K : PySem.W.Frag) (H0 H : Hp) (p c t S a l h g : Addr) (s : Stg) (xs : List Int) (hs : List Bool) : Prop where
  box : Box H p c
  set : SetAt K H S s
  a_ : H a = some (.lst (xs.map V.int))
  g_ : ∃ ys : List Int, H g = some (.lst (ys.map V.int)) ∧ ys.length ≤ 20
  l_ : ∃ ls : List Bool, H l = some (.lst (ls.map V.bl)) ∧ ls.length = xs.length
  h_ : H h = some (.lst (hs.map V.bl))
  hl : hs.length = xs.length
  k : Kt (TT K) [p, t] H0 H
  fh : Frn H0 h
  x0 : 0 < xs.length
theorem PlS.go {K : PySem.W.Frag} {H0 H H' : Hp} {p c t S a l h g q : Addr} {s : Stg} {xs : List Int} {hs hs' : List Bool} {m : Mo} {ps : List Addr} (P : PlS K H0 H p c t S a l h g s xs hs) (T : TourAt K H t S m) (ne : Nes p c t a l h g q)
    (k : Kt (TT K) ps H H') (sub : ∀ x, x ∈ ps → x = p ∨ x = h ∨ x = t) (b' : Box H' p c) (h' : H' h = some (.lst (hs'.map V.bl))) (l' : hs'.length = xs.length) : PlS K H0 H' p c t S a l h g s xs hs' ∧ (∀ ws, RowsAt H q ws → RowsAt H' q ws) ∧ (∀ b o, Cd o → H b = some o → H' b = some o) := by
  obtain ⟨⟨z1, z2, z3, z4, hp, hc, -⟩, -⟩ := id P.box
  obtain ⟨d, hT⟩ := T
  have f : ∀ b o, Cd o → H b = some o → H' b = some o := fun b o hc e => k.1 b o e hc.nt fun z => by
    rcases sub b z with rfl | rfl | rfl
    · rw [hp] at e
      exact hc.box (Option.some.inj e).symm
    · rw [P.h_] at e
      exact hc.bls (by rw [P.hl]; exact P.x0) (Option.some.inj e).symm
    · rw [hT] at e
      exact hc.ins (Option.some.inj e).symm
  obtain ⟨ys, hg, lg⟩ := P.g_
  obtain ⟨ls, hl, ll⟩ := P.l_
  obtain ⟨dS, hS⟩ := P.set.ex
  refine ⟨⟨b', ⟨⟨dS, k.1 _ _ hS (by intro _ z; cases z) fun z => ?_⟩, P.set.ok⟩, f _ _ (Cd.ints _) P.a_, ⟨ys, f _ _ (Cd.ints _) hg, lg⟩, ⟨ls, k.1 _ _ hl (by intro _ z; cases z) fun z => ?_, ll⟩, h', l', Kt_via P.k k fun x hx => ?_, P.fh, P.x0⟩, fun ws R => R.cd f ?_, f⟩
  · rcases sub _ z with e | e | e
    · exact P.set.nelst hp e
    · exact P.set.nelst P.h_ e
    · exact P.set.neins hT (by decide) e
  · rcases sub _ z with z | z | z
    · exact ne.lp z
    · exact ne.hl z.symm
    · rw [z, hT] at hl
      cases hl
  · rcases sub _ hx with rfl | rfl | rfl
    · exact .inl (by simp)
    · exact .inr P.fh
    · exact .inl (by simp)
  · rw [R.at_]
    refine k.1 _ _ R.at_ (by intro _ z; cases z) fun z => ?_
    rcases sub _ z with z | z | z
    · exact ne.qp z
    · exact ne.qh z
    · exact ne.qt z
theorem TourAt.kt {K : PySem.W.Frag} {H H' : Hp} {t S : Addr} {m : Mo} {ps : List Addr} (T : TourAt K H t S m) (k : Kt (TT K) ps H H') (n : t ∉ ps) : TourAt K H' t S m := by
  obtain ⟨d, h⟩ := T
  exact ⟨d, k.1 _ _ h (by intro _ z; cases z) n⟩
theorem PlS.goN {K : PySem.W.Frag} {H0 H H' : Hp} {p c t S a l h g q : Addr} {s : Stg} {xs : List Int} {hs : List Bool} {m : Mo} (P : PlS K H0 H p c t S a l h g s xs hs) (T : TourAt K H t S m) (ne : Nes p c t a l h g q)
    (k : Kp [] H H') : PlS K H0 H' p c t S a l h g s xs hs ∧ (∀ ws, RowsAt H q ws → RowsAt H' q ws) ∧ (∀ b o, Cd o → H b = some o → H' b = some o) :=
  P.go T ne (Kt.kp0 (ps := []) P.k.2 k) (by simp) (P.box.k0 k) (k.g0 P.h_) P.hl
theorem PlS.goP {K : PySem.W.Frag} {H0 H H' : Hp} {p c t S a l h g q : Addr} {s : Stg} {xs : List Int} {hs : List Bool} {m : Mo} (P : PlS K H0 H p c t S a l h g s xs hs) (T : TourAt K H t S m) (ne : Nes p c t a l h g q)
    (k : Kp [p] H H') (b' : Box H' p c) : PlS K H0 H' p c t S a l h g s xs hs ∧ (∀ ws, RowsAt H q ws → RowsAt H' q ws) ∧ (∀ b o, Cd o → H b = some o → H' b = some o) ∧ TourAt K H' t S m := by
  obtain ⟨xs0, hp, -⟩ := P.box.at
  have kt := Kt.kp1 P.k.2 k hp trivial
  obtain ⟨r1, r2, r3⟩ := P.go T ne kt (by simp) b' (k.g1 ne.hp P.h_) P.hl
  refine ⟨r1, r2, r3, T.kt kt ?_⟩
  obtain ⟨d, hT⟩ := T
  simpa using ne_of hT hp (by intro z; cases z)
theorem PlS.goH {K : PySem.W.Frag} {H0 H H' : Hp} {p c t S a l h g q : Addr} {s : Stg} {xs : List Int} {hs hs' : List Bool} {m : Mo} (P : PlS K H0 H p c t S a l h g s xs hs) (T : TourAt K H t S m) (ne : Nes p c t a l h g q)
    (k : Kp [p, h] H H') (b' : Box H' p c) (h' : H' h = some (.lst (hs'.map V.bl))) (l' : hs'.length = xs.length) : PlS K H0 H' p c t S a l h g s xs hs' ∧ (∀ ws, RowsAt H q ws → RowsAt H' q ws) ∧ (∀ b o, Cd o → H b = some o → H' b = some o) ∧ TourAt K H' t S m := by
  obtain ⟨xs0, hp, -⟩ := P.box.at
  have hh := P.h_
  have kt : Kt (TT K) [p, h] H H' := Kt.kp P.k.2 k fun x hx => by
    simp only [List.mem_cons, List.not_mem_nil, or_false] at hx
    rcases hx with rfl | rfl
    · exact ⟨_, hp, trivial⟩
    · exact ⟨_, hh, trivial⟩
  obtain ⟨r1, r2, r3⟩ := P.go T ne kt (by simp) b' h' l'
  refine ⟨r1, r2, r3, T.kt kt ?_⟩
  obtain ⟨d, hT⟩ := T
  simp only [List.mem_cons, List.not_mem_nil, or_false, not_or]
  exact ⟨ne_of hT hp (by intro z; cases z), ne_of hT hh (by intro z; cases z)⟩
theorem PlS.goT {K : PySem.W.Frag} {H0 H H' : Hp} {p c t S a l h g q : Addr} {s : Stg} {xs : List Int} {hs : List Bool} {m : Mo} (P : PlS K H0 H p c t S a l h g s xs hs) (T : TourAt K H t S m) (ne : Nes p c t a l h g q)
    (k : Kt (TT K) [t] H H') : PlS K H0 H' p c t S a l h g s xs hs ∧ (∀ ws, RowsAt H q ws → RowsAt H' q ws) ∧ (∀ b o, Cd o → H b = some o → H' b = some o) := by
  obtain ⟨⟨z1, z2, z3, z4, hp, hc, -⟩, -⟩ := id P.box
  have hh := P.h_
  obtain ⟨d, hT⟩ := id T
  refine P.go T ne k (by simp) (P.box.ktp k ?_ ?_) (k.1 _ _ hh (by intro _ z; cases z) ?_) P.hl
  · simpa using ne_of hp hT (by intro z; cases z)
  · simpa using ne_of hc hT (by intro z; cases z)
  · simpa using ne_of hh hT (by intro z; cases z)
theorem PlS.app {K : PySem.W.Frag} {H0 H : Hp} {p c t S a l h g q : Addr} {s : Stg} {xs : List Int} {hs : List Bool} {m : Mo} (P : PlS K H0 H p c t S a l h g s xs hs) (T : TourAt K H t S m) (ne : Nes p c t a l h g q) (fq : Frn H0 q) {xs0 : List V} (hq : H q = some (.lst xs0)) {ys0 : List V} :
    PlS K H0 (upd H q (.lst ys0)) p c t S a l h g s xs hs ∧ TourAt K (upd H q (.lst ys0)) t S m := by
  obtain ⟨ys, hg, lg⟩ := P.g_
  obtain ⟨ls, hl, ll⟩ := P.l_
  obtain ⟨d, hT⟩ := T
  exact ⟨⟨P.box.k1 (q := q) (Kp.refl.wr (by simp)) (Ne.symm ne.qp) (Ne.symm ne.qc), P.set.k1 (q := q) (Kp.refl.wr (by simp)) (P.set.nelst hq), hu_ne (Ne.symm ne.qa) P.a_, ⟨ys, hu_ne (Ne.symm ne.qg) hg, lg⟩, ⟨ls, hu_ne (Ne.symm ne.ql) hl, ll⟩, hu_ne (Ne.symm ne.qh) P.h_, P.hl, P.k.mine fq hq trivial, P.fh, P.x0⟩, ⟨d, hu_ne (Ne.symm ne.qt) hT⟩⟩
theorem RowsAt.app {H : Hp} {q : Addr} {ws : List Rw} (R : RowsAt H q ws) {w : Rw} (hw : RwAt H w) (n : w.l ≠ q) : RowsAt (upd H q (.lst (ws.map (fun w => V.ref w.t) ++ [.ref w.t]))) q (ws ++ [w]) := by
  refine ⟨by rw [upd_same, List.map_append]; rfl, fun v hv => ?_⟩
  have hq := R.at_
  rcases List.mem_append.mp hv with hv | hv
  · obtain ⟨h1, h2⟩ := R.ob v hv
    refine ⟨hu_ne (ne_of h1 hq (by intro z; cases z)) h1, hu_ne (ne_of h2 hq ?_) h2⟩
    cases ws with
    | nil => cases hv
    | cons w0 ws => exact (Cd.ints _).box
  · rw [List.mem_singleton.mp hv]
    exact ⟨hu_ne (ne_of hw.1 hq (by intro z; cases z)) hw.1, hu_ne n hw.2⟩
theorem AimR.some_ {r : Int} {m a : Mo} {xs : List Int} (ha : AimR r m xs a) (n : xs ≠ []) : ∃ y, a.now = some y ∧ y ∈ xs := by
  rcases ha with ⟨h1, ⟨y, h2, h3⟩, h4⟩ | ⟨h1, o, h2, h4⟩
  · rw [h4]
    exact ⟨y, h2, h3⟩
  · cases o with
    | none => exact absurd h2 n
    | some y =>
      rw [h4]
      exact ⟨y, rfl, h2.1⟩
theorem AimR.none_ {r : Int} {m a : Mo} (ha : AimR r m [] a) : a.now = none := by
  rcases ha with ⟨h1, ⟨y, h2, h3⟩, h4⟩ | ⟨h1, o, h2, h4⟩
  · cases h3
  · cases o with
    | none => rw [h4]
    | some y => cases h2.1
theorem lcL_dr {α : Type} {K : PySem.W.Frag} {σ : L2.St} {H : Hp} {te : TE} {tt : L2.TT} {a D : Addr} {g : TG} {vs : List Nat} {Qd : Hp → Prop} (f : α → V) (xs : List Int) {p c : Addr} (hS : H a = some (.lst (xs.map V.int))) (hB : Box H p c) (ap : a ≠ p) (hD : H D = none) (hl : xs.length < 1000000)
    (hs : ∀ (i : Nat) (h : i < xs.length) H1 (E : VK) (N : Hp → Prop), Box H1 p c → Kp [p] H H1 → (∀ x H4, Box H4 p c → Kp [p] H1 H4 → E (f x) H4) → g (.int xs[i]) (wipe σ vs) H1 fun σ2 H2 => wipe σ2 vs = wipe σ vs ∧ tt σ2 H2 fun b H3 => if b = true then te σ2 H3 E else N H3)
    (hd : ∀ H' (ys : List α), ys.length = xs.length → H' D = some (.lst (ys.map f)) → Box H' p c → Kp [p] H H' → Qd H') : LcG (Itl K a) g tt te vs σ D Qd H := by
  have nDp : D ≠ p := Ne.symm (hB.ne1 hD)
  refine lcL_ints xs (fun i H' => (∃ ys : List α, ys.length = i ∧ H' D = some (.lst (ys.map f))) ∧ Box H' p c ∧ Kp [p] H H') ⟨⟨[], rfl, upd_same⟩, hB.new hD, Kp.new hD⟩ (fun i H' _ q => SqL.of (q.2.2.g1 ap hS)) (fun i hi H' q => ?_) (fun H' q => ?_)
  · obtain ⟨⟨ys, y1, y2⟩, B, k⟩ := q
    refine hs i hi H' _ _ B k (fun x H4 B4 k4 => ?_)
    exact ⟨_, k4.g1 nDp y2, szlt (by rw [List.length_map]; omega), ⟨ys ++ [x], by rw [List.length_append, y1]; rfl, by rw [upd_same, List.map_append]; rfl⟩, B4.k1 (q := D) (Kp.refl.wr (by simp)) (Ne.symm nDp) (hB.ne2 hD), (k.trans k4).mine hD⟩
  · obtain ⟨⟨ys, y1, y2⟩, B, k⟩ := q
    exact hd H' ys y1 y2 B k
theorem Told.snoc {r pat last : Int} {ws : List Rw} {N : Nat → List Int} {st ai : Nat → Mo} {b : Nat → Bool} (W : Told r pat last ws N st ai b) {w : Rw} {m m' m2 : Mo} (hm : st ws.length = m) (ha : AimR r m w.ns m') (ho : w.o = m'.now) (hb : w.ns = [] → w.p = false)
    (nd : w.ns.Nodup ∧ w.ns.length ≤ 20) (rng : ∀ z, z ∈ w.ns → 0 ≤ z ∧ z < r) (h2 : m2 = if w.ns = [] then m' else repM pat m' w.p) :
    ∃ N2 st2 ai2 b2, Told r pat last (ws ++ [w]) N2 st2 ai2 b2 ∧ st2 (ws.length + 1) = m2 := by
  have l1 : (ws ++ [w]).length = ws.length + 1 := by rw [List.length_append]; rfl
  refine ⟨fun k => if k = ws.length then w.ns else N k, fun k => if k = ws.length + 1 then m2 else st k, fun k => if k = ws.length then m' else ai k, fun k => if k = ws.length then w.p else b k, ⟨⟨fun k hk => ?_, fun k hk => ?_, ?_, fun k hk => ?_, W.P.pat⟩, fun k w' e => ?_, fun k hk => ?_, ?_, fun k hk => ?_⟩, if_pos rfl⟩
  · rw [l1] at hk
    try dsimp only
    rw [if_neg (show ¬ k = ws.length + 1 by omega)]
    by_cases e : k = ws.length
    · subst e
      rw [if_pos rfl, if_pos rfl, hm]
      exact ha
    · rw [if_neg e, if_neg e]
      exact W.P.aim k (by omega)
  · rw [l1] at hk
    try dsimp only
    by_cases e : k = ws.length
    · subst e
      rw [if_pos rfl, if_pos rfl, if_pos rfl, if_pos rfl]
      exact h2
    · rw [if_neg e, if_neg e, if_neg e, if_neg (show ¬ k + 1 = ws.length + 1 by omega)]
      exact W.P.rep k (by omega)
  · try dsimp only
    rw [if_neg (show ¬ 0 = ws.length + 1 by omega)]
    exact W.P.ini
  · rw [l1] at hk
    try dsimp only
    by_cases e : k = ws.length
    · rw [if_pos e]
      exact rng
    · rw [if_neg e]
      exact W.P.rng k (by omega)
  · try dsimp only
    by_cases c : k < ws.length
    · rw [List.getElem?_append_left c] at e
      have c2 : ¬ k = ws.length := by omega
      rw [if_neg c2, if_neg c2, if_neg c2]
      exact W.row k w' e
    · obtain ⟨hk, -⟩ := List.getElem?_eq_some_iff.mp e
      rw [l1] at hk
      have c2 : k = ws.length := by omega
      rw [c2, List.getElem?_append_right (Nat.le_refl _), Nat.sub_self] at e
      have e2 : w = w' := Option.some.inj e
      rw [if_pos c2, if_pos c2, if_pos c2, ← e2]
      exact ⟨rfl, ho, rfl⟩
  · rw [l1] at hk
    try dsimp only
    by_cases e : k = ws.length
    · rw [if_pos e]
      exact nd
    · rw [if_neg e]
      exact W.nd k (by omega)
  · try dsimp only
    rw [if_neg (show ¬ 0 = ws.length + 1 by omega)]
    exact W.last
  · rw [l1] at hk
    try dsimp only
    by_cases e : k = ws.length
    · rw [if_pos e, if_pos e]
      exact hb
    · rw [if_neg e, if_neg e]
      exact W.pb k (by omega)
theorem Told.nil {r pat last : Int} (h : 1 ≤ pat) : Told r pat last [] (fun _ => []) (fun _ => ⟨last, none, false, 0⟩) (fun _ => ⟨last, none, false, 0⟩) (fun _ => false) :=
  ⟨⟨fun k hk => absurd hk (Nat.not_lt_zero k), fun k hk => absurd hk (Nat.not_lt_zero k), rfl, fun k hk => absurd hk (Nat.not_lt_zero k), h⟩, fun k w e => by simp at e, fun k hk => absurd hk (Nat.not_lt_zero k), rfl, fun k hk => absurd hk (Nat.not_lt_zero k)⟩

def sp_l_played (K : PySem.W.Frag) : Sp := fun vs H Q E => ∃ (p c t S a : Addr) (s : Stg) (last : Int) (xs : List Int), vs = [.ref p, .ref t, .ref a, .int s.pat] ∧ (Box H p c) ∧ (SetAt K H S s) ∧ (TourAt K H t S ⟨last, none, false, 0⟩) ∧ (H a = some (.lst (xs.map V.int))) ∧ (Pool s.ring xs) ∧ (LamX.Tabs (TT K) H) ∧ (∀ q ws N st ai b H1, Told s.ring s.pat last ws N st ai b → ws.length ≤ 90 → RowsAt H1 q ws → Kt (TT K) [p, t] H H1 → Q (.ref q) H1)
theorem us_l_played {K : PySem.W.Frag} {H : Hp} {Q : VK} {E : XK} {p c t S a : Addr} {s : Stg} {last : Int} {xs : List Int} (hB : Box H p c) (hS : SetAt K H S s) (hA : TourAt K H t S ⟨last, none, false, 0⟩) (ha : H a = some (.lst (xs.map V.int))) (hx : Pool s.ring xs) (hT : LamX.Tabs (TT K) H) (kk : ∀ q ws N st ai b H1, Told s.ring s.pat last ws N st ai b → ws.length ≤ 90 → RowsAt H1 q ws → Kt (TT K) [p, t] H H1 → Q (.ref q) H1) : sp_l_played K [.ref p, .ref t, .ref a, .int s.pat] H Q E := ⟨_, _, _, _, _, _, _, _, rfl, hB, hS, hA, ha, hx, hT, kk⟩
theorem f_l_played (T : Cx K mg) (B : Tb K mg base) : ∃ fd, FunD K "_law_played" "_law_played" (defArgs s_l_played) (defBody s_l_played) (defScope s_l_played) (d_l_played.dvs K) (d_l_played.kws K) (fAd K d_l_played.at_) fd ∧ FnOk P w K mg base CX0 10 (fAd K d_l_played.at_) fd p_l_played (sp_l_played K) := by
  have c_l_draw := c_l_draw (P := P) (w := w) (base := base) T B
  have c_l_names := c_l_names (P := P) (w := w) (base := base) T B
  have c_Tour_aim := c_Tour_aim (P := P) (w := w) (base := base) T B
  have c_Tour_report := c_Tour_report (P := P) (w := w) (base := base) T B
  obtain ⟨fd, F⟩ := T.says.def_ 16 (d := d_l_played) rfl
  refine ⟨fd, F, fnD F sc_l_played (fun vs H Q E h => by
    obtain ⟨_, _, _, _, _, _, _, _, rfl, _⟩ := h
    rfl) fun cdv A outer s H vs Q E hr h => ?_⟩
  have hu := hu_of hr
  obtain ⟨p, c, t, S, a, s, last, xs, rfl, hB, hS, hA, ha, hx, hT, kk⟩ := h
  refine ⟨_, (pss_cons (ps_set (i := 4) sc_l_played.nd rfl (by first | exact Or.inl rfl | exact Or.inr rfl) (pe_cal c_l_draw hr (by decide) (by rfl) pass0 (pa_cons (pv 0) (pa_cons pe_int pa_nil)))) (pss_cons (ps_set (i := 5) sc_l_played.nd rfl (by first | exact Or.inl rfl | exact Or.inr rfl) (pe_cal c_l_draw hr (by decide) (by rfl) pass0 (pa_cons (pv 0) (pa_cons pe_int pa_nil)))) (pss_cons (ps_setLc (i := 6) (own := [("_law_spot", 16)]) (g := (gName 16)) (tt := tYes) rfl sc_l_played.nd rfl rfl (sw_true rfl rfl rfl (by decide +kernel)) (pi_list (pv 2)) (blkOk_by (own := [("_law_spot", 16)]) (N := n_l_played) (sc := defScope s_l_played) (by decide +kernel)) (fun _ _ _ _ _ => (pg_name (i := 16) sc_l_played.nd rfl (by first | exact Or.inl rfl | exact Or.inr rfl))) (fun _ _ _ _ _ => pts_nil) (fun _ _ _ _ _ => (pe_or (pe_cmpR op_eq (pv 4) pe_int (nomark _)) (pe_one (pe_cmpR op_eq (pe_cal c_l_draw hr (by decide) (by rfl) pass0 (pa_cons (pv 0) (pa_cons pe_int pa_nil))) pe_int (nomark _)))))) (pss_cons (ps_set (i := 7) sc_l_played.nd rfl (by first | exact Or.inl rfl | exact Or.inr rfl) (pe_lc (own := [("_law_spot", 16)]) (g := (gName 16)) (tt := tYes) rfl sc_l_played.nd (pi_list (pv 2)) (blkOk_by (own := [("_law_spot", 16)]) (N := n_l_played) (sc := defScope s_l_played) (by decide +kernel)) (fun _ _ _ _ _ => (pg_name (i := 16) sc_l_played.nd rfl (by first | exact Or.inl rfl | exact Or.inr rfl))) (fun _ _ _ _ _ => pts_nil) (fun _ _ _ _ _ => (pe_cal c_l_draw hr (by decide) (by rfl) pass0 (pa_cons (pv 0) (pa_cons pe_int pa_nil)))))) (pss_cons (ps_setLc (i := 8) (own := [("_law_j", 17)]) (g := (gName 17)) rfl sc_l_played.nd rfl rfl (sw_true rfl rfl rfl (by decide +kernel)) (pi_range1 (by rfl) (fr_range T) (pa_cons (pe_callB call_lenS (by rfl) (fr_len T) (by decide +kernel) (pa_cons (pv 2) pa_nil)) pa_nil)) (blkOk_by (own := [("_law_j", 17)]) (N := n_l_played) (sc := defScope s_l_played) (by decide +kernel)) (fun _ _ _ _ _ => (pg_name (i := 17) sc_l_played.nd rfl (by first | exact Or.inl rfl | exact Or.inr rfl))) (fun _ _ _ _ _ => (pts_one (pt_cmpR op_eq (pe_ix (ix_listK (K := K) rfl) (pv 7) (pv 17) (fun _ _ => rfl)) pe_int (nomark _)))) (fun _ _ _ _ _ => (pe_ix (ix_listK (K := K) rfl) (pv 2) (pv 17) (fun _ _ => rfl)))) (pss_cons (ps_set (i := 9) sc_l_played.nd rfl (by first | exact Or.inl rfl | exact Or.inr rfl) (pe_callB (call_min2' rfl) (by rfl) (fr_min T) (by decide +kernel) (pa_cons pe_int (pa_cons (pe_op op_add (pe_op op_mul (pe_op op_mul pe_int (pe_op op_add (pe_callB call_lenS (by rfl) (fr_len T) (by decide +kernel) (pa_cons (pv 2) pa_nil)) pe_int)) (pv 3)) (pe_cal c_l_draw hr (by decide) (by rfl) pass0 (pa_cons (pv 0) (pa_cons pe_int pa_nil)))) pa_nil)))) (pss_cons (ps_setLc (i := 10) (own := [("_law_spot", 16)]) (g := (gName 16)) (tt := tYes) rfl sc_l_played.nd rfl rfl (sw_true rfl rfl rfl (by decide +kernel)) (pi_list (pv 2)) (blkOk_by (own := [("_law_spot", 16)]) (N := n_l_played) (sc := defScope s_l_played) (by decide +kernel)) (fun _ _ _ _ _ => (pg_name (i := 16) sc_l_played.nd rfl (by first | exact Or.inl rfl | exact Or.inr rfl))) (fun _ _ _ _ _ => pts_nil) (fun _ _ _ _ _ => pe_bl)) (pss_cons (ps_set (i := 11) sc_l_played.nd rfl (by first | exact Or.inl rfl | exact Or.inr rfl) pe_non) (pss_cons (ps_set (i := 12) sc_l_played.nd rfl (by first | exact Or.inl rfl | exact Or.inr rfl) (pe_lst pa_nil)) (pss_cons (ps_for PassesOwn.never rfl (pi_range1 (by rfl) (fr_range T) (pa_cons (pv 9) pa_nil)) (pg_name (i := 13) sc_l_played.nd rfl (by first | exact Or.inl rfl | exact Or.inr rfl)) (pss_cons (ps_set (i := 14) sc_l_played.nd rfl (by first | exact Or.inl rfl | exact Or.inr rfl) (pe_cal c_l_names hr (by decide) (by rfl) pass0 (pa_cons (pv 0) (pa_cons (pv 4) (pa_cons (pv 2) (pa_cons (pv 6) (pa_cons (pv 10) (pa_cons (pv 11) pa_nil)))))))) (pss_cons (ps_set (i := 11) sc_l_played.nd rfl (by first | exact Or.inl rfl | exact Or.inr rfl) (pe_met c_Tour_aim hr (by decide) pass0 (pv 1) (pa_cons (pe_callTy call_listOf (by rfl) (fr_list T) (by decide +kernel) (pa_cons (pv 14) pa_nil)) pa_nil))) (pss_cons (ps_set (i := 15) sc_l_played.nd rfl (by first | exact Or.inl rfl | exact Or.inr rfl) pe_bl) (C8.pss_cut (ps_if (pt_cmpR op_eq (pe_callB call_lenS (by rfl) (fr_len T) (by decide +kernel) (pa_cons (pv 14) pa_nil)) pe_int (nomark _)) (pss_one (ps_if (pt_cmp (pc_notN (pv 11))) (pss_one (ps_ret pe_non)) pss_nil)) (pss_cons (ps_if (PW.pt (pw_or (pt_not (pt_val (pe_callB call_isi (by rfl) (fr_isinstance T) (by decide +kernel) (pa_cons (pv 11) (pa_cons (pe_bltn (v := .ty "int") (by rfl) (fr_int T) (by decide +kernel) rfl) pa_nil))))) (pw_or (pt_val (pe_callB call_isi (by rfl) (fr_isinstance T) (by decide +kernel) (pa_cons (pv 11) (pa_cons (pe_bltn (v := .ty "bool") (by rfl) (fr_bool T) (by decide +kernel) rfl) pa_nil)))) (pw_or1 (pt_cmpR op_notIn_seq (pv 11) (pv 14) rfl))))) (pss_one (ps_ret pe_non)) pss_nil) (C8.pss_cut (ps_set (i := 15) sc_l_played.nd rfl (by first | exact Or.inl rfl | exact Or.inr rfl) (pe_or (pe_cmpR op_eq (pv 5) pe_int (nomark _)) (pe_one (pe_and (pe_cmpR op_eq (pv 5) pe_int (nomark _)) (pe_one (pe_cmpR op_notIn_seq (pv 11) (pv 8) rfl)))))) (C8.pss_cut (ps_if (pt_cmpR op_eq (pv 5) pe_int (nomark _)) (pss_one (ps_set (i := 15) sc_l_played.nd rfl (by first | exact Or.inl rfl | exact Or.inr rfl) (pe_cmpR op_eq (pe_cal c_l_draw hr (by decide) (by rfl) pass0 (pa_cons (pv 0) (pa_cons pe_int pa_nil))) pe_int (nomark _)))) pss_nil) (pss_one (ps_expr (pe_met c_Tour_report hr (by decide) pass0 (pv 1) (pa_cons (pv 15) pa_nil)))))))) (pss_one (ps_expr (pe_bm PySem.F.plainAttrs_list PySem.F.slot_list_append PySem.F.type_list_append mt_append (pv 12) (pa_cons (pe_tup (pa_cons (pv 14) (pa_cons (pv 11) (pa_cons (pv 15) pa_nil)))) pa_nil))))))))) (pss_one (ps_ret (pv 12))))))))))))), ?_⟩
  rw [show L2.start n_l_played [.ref p, .ref t, .ref a, .int s.pat] = [some (.ref p), some (.ref t), some (.ref a), some (.int s.pat), none, none, none, none, none, none, none, none, none, none, none, none, none, none] from rfl]
  try dsimp only [cxOf, Cx.nox, Cx.wish, List.map]

  have p0 := hS.ok.p0
  have p1 := hS.ok.p1
  have xl := hx.len
  obtain ⟨⟨z1, z2, z3, z4, hp0, hc0, -⟩, -⟩ := id hB
  have ap : a ≠ p := ne_of ha hp0 (Cd.ints xs).box
  wtm_at "rd"
  refine us_l_draw hB (by decide) (by decide) fun sty H1 y0 y1 B1 k1 => ?_
  have ha1 := k1.g1 ap ha
  wtm_at "rd"
  refine us_l_draw B1 (by decide) (by decide) fun res H2 e0 e1 B2 k2 => ?_
  have ha2 := k2.g1 ap ha1
  have k2 := k1.trans k2
  clear B1 ha1 k1
  wtm_at "rd"
  intro L nL
  refine lcL_dr V.bl xs ha2 B2 ap nL (by omega) (fun i hi H3 E N B3 k3 hE => ?_) (fun H3 ls ll hL B3 k3 => ?_)
  · wtm_at "rd"
    refine ⟨rfl, ?_⟩
    wtm_at "rd"
    refine ite_d (fun h => ?_) (fun h => ?_)
    · exact hE _ _ B3 Kp.refl
    · wtm_at "rd"
      refine us_l_draw B3 (by decide) (by decide) fun x H4 x0 x1 B4 k4 => ?_
      wtm_at "rd"
      exact hE _ _ B4 k4
  have ha3 := k3.g1 ap ha2
  have kL := k2.trans k3
  have nLp : L ≠ p := Ne.symm (B2.ne1 nL)
  have nLa : L ≠ a := Ne.symm (ne_of_none ha2 nL)
  have nLc : L ≠ c := Ne.symm (B2.ne2 nL)
  have fL : H L = none := k2.back nL (by simpa using nLp)
  wtm_at "rd"
  intro M nM
  refine lcL_dr V.int xs ha3 B3 ap nM (by omega) (fun i hi H4 E N B4 k4 hE => ?_) (fun H4 ms lm hM B4 k4 => ?_)
  · wtm_at "rd"
    refine ⟨rfl, ?_⟩
    wtm_at "rd"
    refine us_l_draw B4 (by decide) (by decide) fun x H5 x0 x1 B5 k5 => ?_
    exact hE _ _ B5 k5
  have ha4 := k4.g1 ap ha3
  have hL4 := k4.g1 nLp hL
  have k4 := kL.trans k4
  clear kL k3 k2 B3 B2 ha3 ha2 hL
  wtm_at "rd"
  intro G nG
  refine lcF_range (lo := 0) (n := (xs.length : Int).toNat) (fun j => decide (ms.getD j 0 = 1)) (fun j => V.int (xs.getD j 0)) nG (by omega) (fun j hj H5 E N k5 hE hN => ?_) (fun H5 k5 hG => ?_)
  · have hat : atI (ms.map V.int) (0 + (j : Int)) = some (.int (ms.getD j 0)) := by
      rw [Int.zero_add]
      refine atI_nat ?_
      rw [List.getElem?_map, List.getElem?_eq_getElem (by omega), getD_at (by omega)]
      rfl
    have xat : atI (xs.map V.int) (0 + (j : Int)) = some (.int (xs.getD j 0)) := by
      rw [Int.zero_add]
      refine atI_nat ?_
      rw [List.getElem?_map, List.getElem?_eq_getElem (by omega), getD_at (by omega)]
      rfl
    have hM5 := k5.g0 hM
    have ha5 := k5.g0 ha4
    wtm_at "rd"
    refine ⟨rfl, ?_⟩
    wtm_at "rd"
    refine ite_d (fun h => ?_) (fun h => ?_)
    · wtm_at "rd"
      exact hE _ Kp.refl (decide_eq_true h)
    · exact hN _ Kp.refl (decide_eq_false h)
  have nGp : G ≠ p := Ne.symm (B4.ne1 nG)
  have nGa : G ≠ a := Ne.symm (ne_of_none ha4 nG)
  have nGL : G ≠ L := Ne.symm (ne_of_none hL4 nG)
  obtain ⟨gs, hG, lg⟩ : ∃ gs : List Int, H5 G = some (.lst (gs.map V.int)) ∧ gs.length ≤ 20 := ⟨((List.range (xs.length : Int).toNat).filter fun j => decide (ms.getD j 0 = 1)).map fun j => xs.getD j 0, by rw [hG, List.map_map]; rfl, by
    rw [List.length_map]
    have z := List.length_filter_le (fun j => decide (ms.getD j 0 = 1)) (List.range (xs.length : Int).toNat)
    rw [List.length_range] at z
    omega⟩
  have ha5 := k5.g0 ha4
  have hL5 := k5.g0 hL4
  have B5 := B4.k0 k5
  have k5 := k4.trans k5.of0
  clear k4 B4 hL4 ha4 hM
  wtm_at "rd"
  refine us_l_draw B5 (by decide) (by decide) fun x H6 x0 x1 B6 k6 => ?_
  have ha6 := k6.g1 ap ha5
  have hL6 := k6.g1 nLp hL5
  have hG6 := k6.g1 nGp hG
  have k6 := k5.trans k6
  clear k5 B5 hL5 ha5 hG
  wtm_at "rd"
  have m90 : min 90 (2 * ((xs.length : Int) + 1) * s.pat + x) ≤ 90 := Int.min_le_left _ _
  have m0 : 0 ≤ min 90 (2 * ((xs.length : Int) + 1) * s.pat + x) := by
    have := Int.mul_nonneg (show 0 ≤ 2 * ((xs.length : Int) + 1) by omega) (show 0 ≤ s.pat by omega)
    omega
  generalize min 90 (2 * ((xs.length : Int) + 1) * s.pat + x) = many at *
  intro Hh nH
  refine lcF_ints xs (fun _ => true) (fun _ => V.bl true) (SqL.of ha6) nH (by omega) (fun i hi H7 E N k7 hE hN => ?_) (fun H7 k7 hH => ?_)
  · wtm_at "rd"
    refine ⟨rfl, ?_⟩
    wtm_at "rd"
    exact hE _ Kp.refl rfl
  have nHp : Hh ≠ p := Ne.symm (B6.ne1 nH)
  have nHc : Hh ≠ c := Ne.symm (B6.ne2 nH)
  have nHa : Hh ≠ a := Ne.symm (ne_of_none ha6 nH)
  have nHL : Hh ≠ L := Ne.symm (ne_of_none hL6 nH)
  have nHG : Hh ≠ G := Ne.symm (ne_of_none hG6 nH)
  have fH : H Hh = none := k6.back nH (by simpa using nHp)
  rw [List.filter_eq_self.mpr (fun _ _ => rfl)] at hH
  have hH : H7 Hh = some (.lst ((xs.map fun _ => true).map V.bl)) := by
    rw [hH, List.map_map]
    rfl
  have ha7 := k7.g0 ha6
  have hL7 := k7.g0 hL6
  have hG7 := k7.g0 hG6
  have B7 := B6.k0 k7
  have k7 := k6.trans k7.of0
  clear k6 B6 hL6 ha6 hG6
  wtm_at "rd"
  refine ⟨sz1000 (by simp), fun q nq => ?_⟩
  obtain ⟨dT, hA⟩ := hA
  obtain ⟨dS, hSx⟩ := id hS.ex
  have ktp : t ≠ p := ne_of hA hp0 (by intro z; cases z)
  have kSp : S ≠ p := hS.nelst hp0
  have hA7 := k7.g1 ktp hA
  have hS7 := hS.k1 k7 kSp
  have ne : Nes p c t a L Hh G q := ⟨nHp, nHc, nHa, nHL, nHG, ap, nLp, Ne.symm (B7.ne1 nq), Ne.symm (ne_of_none hH nq), Ne.symm (ne_of_none hA7 nq), Ne.symm (ne_of_none ha7 nq), Ne.symm (ne_of_none hL7 nq), Ne.symm (ne_of_none hG7 nq), Ne.symm (B7.ne2 nq)⟩
  have fq : Frn H q := Frn.of (k7.back nq (by simpa using ne.qp))
  have k8 : Kp [p] H (upd H7 q (.lst [])) := k7.nw nq
  have P8 : PlS K H (upd H7 q (.lst [])) p c t S a L Hh G s xs (xs.map fun _ => true) :=
    ⟨B7.new nq, hS7.k0 (Kp.new nq), hu_ne (Ne.symm ne.qa) ha7, ⟨gs, hu_ne (Ne.symm ne.qg) hG7, lg⟩, ⟨ls, hu_ne (Ne.symm ne.ql) hL7, ll⟩, hu_ne (Ne.symm ne.qh) hH, by rw [List.length_map], (Kt.kp1 hT k8 hp0 trivial).mono (by simp), Frn.of fH, by omega⟩
  have T8 : TourAt K (upd H7 q (.lst [])) t S ⟨last, none, false, 0⟩ := ⟨dT, hu_ne (Ne.symm ne.qt) hA7⟩
  have R8 : RowsAt (upd H7 q (.lst [])) q [] := ⟨upd_same, fun w hw => by cases hw⟩
  generalize upd H7 q (.lst []) = H8 at *
  clear k8 hS7 hA7 nq hSx hA kSp ktp k7 B7 hG7 hL7 ha7 fH nHG nHL nHa nHp nHc hH nH lg nGL nGa nGp fL nLc nLa nLp lm ll
  wtm_at "rd"
  refine forR_by (fun i σ H8 => (∃ o v13 v14 v15, σ = [some (.ref p), some (.ref t), some (.ref a), some (.int s.pat), some (.int sty), some (.int res), some (.ref L), some (.ref M), some (.ref G), some (.int many), some (.ref Hh), some (ov o), some (.ref q), v13, v14, v15, none, none])
    ∧ ∃ hs ws N st ai b m, ws.length = i ∧ st ws.length = m ∧ Told s.ring s.pat last ws N st ai b ∧ RowsAt H8 q ws ∧ TourAt K H8 t S m ∧ PlS K H H8 p c t S a L Hh G s xs hs) ⟨⟨none, _, _, _, rfl⟩, _, [], _, _, _, _, _, rfl, rfl, Told.nil p0, R8, T8, P8⟩ ?_ ?_
  · clear P8 T8 R8
    rintro i σ H8 hi ⟨⟨o, v13, v14, v15, rfl⟩, hs, ws, N, st, ai, b, m, rfl, hm, W, R, T1, P1⟩
    obtain ⟨ls, hl1, ll⟩ := P1.l_
    have hh1 := P1.h_
    have ha1 := P1.a_
    wtm_at "rd"
    refine us_l_names P1.box ha1 hl1 hh1 ⟨hx.nd, hx.len⟩ ll P1.hl ⟨ne.hp, ne.hc, ne.ha, ne.hl⟩ ⟨ne.ap, ne.lp⟩ fun n ns hs2 H2 nd sub hn nn l2 hh2 B2 k2 => ?_
    obtain ⟨P2, R2, -, T2⟩ := P1.goH T1 ne k2 B2 hh2 l2
    have R2 := R2 ws R
    have nqn : q ≠ n := ne_of_none R.at_ nn
    clear hl1 hh1 ha1 P1 T1 R B2 k2 hh2 l2
    obtain ⟨d2, hT2⟩ := id T2
    have nsl : ns.length ≤ 20 := Nat.le_trans (List.Nodup.length_le_of_subset nd sub) hx.len.2
    wtm_at "rd"
    intro hd nhd
    have k3 : Kp [] H2 (upd H2 hd (.lst (ns.map V.int))) := Kp.new nhd
    have hh3 : upd H2 hd (.lst (ns.map V.int)) hd = some (.lst (ns.map V.int)) := upd_same
    have hn3 := k3.g0 hn
    obtain ⟨P3, R3, -⟩ := P2.goN T2 ne k3
    have R3 := R3 ws R2
    have T3 : TourAt K (upd H2 hd (.lst (ns.map V.int))) t S m := ⟨d2, k3.g0 hT2⟩
    generalize upd H2 hd (.lst (ns.map V.int)) = H3 at *
    clear P2 R2 T2 hT2 k3 nhd hn
    wtm_at "rd"
    have hrun : m.run = true → ∃ n, m.now = some n := fun h => by
      rw [← hm] at h ⊢
      exact ⟨_, (W.P.inv ws.length (Nat.le_refl _) h).1⟩
    refine us_Tour_aim T3 P3.set hrun (SqL.of hh3) P3.k.2 fun H4 m' k4 T4 A4 => ?_
    obtain ⟨P4, R4, f4⟩ := P3.goT T3 ne k4
    have R4 := R4 ws R3
    have hn4 := f4 _ _ (Cd.ints _) hn3
    clear P3 R3 T3 f4 hn3 hh3 k4 hrun
    wtm_at "rd"
    refine rd_cut (fun σ H5 => ∃ bp m2, σ = [some (.ref p), some (.ref t), some (.ref a), some (.int s.pat), some (.int sty), some (.int res), some (.ref L), some (.ref M), some (.ref G), some (.int many), some (.ref Hh), some (ov m'.now), some (.ref q), some (.int (0 + (ws.length : Int))), some (.ref n), some (.bl bp), none, none] ∧ (ns = [] → bp = false) ∧ m2 = (if ns = [] then m' else repM s.pat m' bp) ∧ TourAt K H5 t S m2 ∧ PlS K H H5 p c t S a L Hh G s xs hs2 ∧ RowsAt H5 q ws ∧ H5 n = some (.lst (ns.map V.int))) ?_ ?_
    · wtm_at "rd"
      refine ite_d (fun h => ?_) (fun h => ?_)
      · have e : ns = [] := List.eq_nil_of_length_eq_zero (by omega)
        have nw : m'.now = none := by
          rw [e] at A4
          exact A4.none_
        rw [nw]
        wtm_at "rd"
        exact ⟨false, _, rfl, fun _ => rfl, (if_pos e).symm, T4, P4, R4, hn4⟩
      · have e : ns ≠ [] := fun e => h (by rw [e]; rfl)
        obtain ⟨y, hy, yin⟩ := A4.some_ e
        rw [hy]
        wtm_at "rd"
        refine ite_n (fun h => absurd yin h) (fun _ => ?_)
        wtm_at "rd"
        refine rd_cut (fun σ H5 => H5 = H4 ∧ ∃ bp, σ = [some (.ref p), some (.ref t), some (.ref a), some (.int s.pat), some (.int sty), some (.int res), some (.ref L), some (.ref M), some (.ref G), some (.int many), some (.ref Hh), some (ov (some y)), some (.ref q), some (.int (0 + (ws.length : Int))), some (.ref n), some (.bl bp), none, none]) ?_ ?_
        · wtm_at "rd"
          refine ite_d (fun h => ?_) (fun h => ?_)
          · exact ⟨rfl, _, rfl⟩
          · wtm_at "rd"
            refine ite_d (fun h => ?_) (fun h => ?_)
            · obtain ⟨ys, hg4, -⟩ := P4.g_
              wtm_at "rd"
              exact ⟨rfl, _, rfl⟩
            · exact ⟨rfl, _, rfl⟩
        rintro σ H5 ⟨rfl, bp, rfl⟩
        wtm_at "rd"
        refine rd_cut (fun σ H6 => (∃ bp, σ = [some (.ref p), some (.ref t), some (.ref a), some (.int s.pat), some (.int sty), some (.int res), some (.ref L), some (.ref M), some (.ref G), some (.int many), some (.ref Hh), some (ov (some y)), some (.ref q), some (.int (0 + (ws.length : Int))), some (.ref n), some (.bl bp), none, none]) ∧ TourAt K H6 t S m' ∧ PlS K H H6 p c t S a L Hh G s xs hs2 ∧ RowsAt H6 q ws ∧ H6 n = some (.lst (ns.map V.int))) ?_ ?_
        · wtm_at "rd"
          refine ite_d (fun h => ?_) (fun h => ?_)
          · wtm_at "rd"
            refine us_l_draw P4.box (by decide) (by decide) fun x H6 x0 x1 B6 k6 => ?_
            obtain ⟨P6, R6, f6, T6⟩ := P4.goP T4 ne k6 B6
            wtm_at "rd"
            exact ⟨⟨_, rfl⟩, T6, P6, R6 _ R4, f6 _ _ (Cd.ints _) hn4⟩
          · wtm_at "rd"
            exact ⟨⟨_, rfl⟩, T4, P4, R4, hn4⟩
        clear P4 R4 hn4 T4
        rintro σ H6 ⟨⟨bp, rfl⟩, T6, P6, R6, hn6⟩
        obtain ⟨d6, hT6⟩ := id T6
        wtm_at "rd"
        refine us_Tour_report T6 P6.set fun H7 T7 k7 => ?_
        obtain ⟨P7, R7, f7⟩ := P6.goT T6 ne (Kt.kp1 P6.k.2 k7 hT6 trivial)
        wtm_at "rd"
        exact ⟨_, _, rfl, fun z => absurd z e, (if_neg e).symm, T7, P7, R7 _ R6, f7 _ _ (Cd.ints _) hn6⟩
    · rintro σ H5 ⟨bp, m2, rfl, hbp, em, T5, P5, R5, hn5⟩
      have hq5 := R5.at_
      wtm_at "rd"
      refine ⟨sz1000 (by simp), fun T nT => ?_⟩
      obtain ⟨P6, R6, f6⟩ := P5.goN T5 ne (Kp.new (o := .tup [.ref n, ov m'.now, .bl bp]) nT)
      have R6 := R6 _ R5
      obtain ⟨d5, hT5⟩ := T5
      have T6 : TourAt K (upd H5 T (.tup [.ref n, ov m'.now, .bl bp])) t S m2 := ⟨d5, hu_ne (ne_of_none hT5 nT) hT5⟩
      have hn6 := f6 _ _ (Cd.ints _) hn5
      have hT6 : upd H5 T (.tup [.ref n, ov m'.now, .bl bp]) T = some (.tup [.ref n, ov m'.now, .bl bp]) := upd_same
      generalize upd H5 T (.tup [.ref n, ov m'.now, .bl bp]) = H6 at *
      have hq6 := R6.at_
      have sl : (ws.map fun w => V.ref w.t).length < sizeLine := szlt (by rw [List.length_map]; omega)
      wtm_at "rd"
      obtain ⟨P7, T7⟩ := P6.app T6 ne fq hq6 (ys0 := (ws.map fun w => V.ref w.t) ++ [.ref T])
      have R7 := R6.app (w := ⟨T, n, ns, m'.now, bp⟩) ⟨hT6, hn6⟩ (Ne.symm nqn)
      obtain ⟨N2, st2, ai2, b2, W2, e2⟩ := W.snoc (w := ⟨T, n, ns, m'.now, bp⟩) hm A4 rfl hbp ⟨nd, nsl⟩ (fun z hz => hx.rng z (sub z hz)) em
      have l2 : (ws ++ [(⟨T, n, ns, m'.now, bp⟩ : Rw)]).length = ws.length + 1 := by rw [List.length_append]; rfl
      exact ⟨⟨_, _, _, _, rfl⟩, hs2, _, N2, st2, ai2, b2, m2, l2, by rw [l2]; exact e2, W2, R7, T7, P7⟩
  · rintro σ H8 ⟨⟨o, v13, v14, v15, rfl⟩, hs, ws, N, st, ai, b, m, lw, hm, W, R, T1, P1⟩
    wtm_at "rd"
    exact kk q ws N st ai b H8 W (by omega) R P1.k
theorem c_l_played (T : Cx K mg) (B : Tb K mg base) : CalX P w K mg base CX0 10 "_law_played" (sp_l_played K) [] := by
  obtain ⟨fd, F, ok⟩ := f_l_played (P := P) (w := w) (base := base) T B
  exact ⟨_, fd, p_l_played, [], ok, gl_l_played T, F.kp, FunD.bindsN F fun _ _ _ _ _ _ us hl => match us, hl with | [_, _, _, _], _ => rfl, .nil⟩
end
section
variable {P : Program} {w : World} {K : PySem.W.Frag} {mg : Str → Option Value} {base : Heap}

/-- what the walk over the rows holds at row i -/
structure Vs (H0 H : Hp) (v q : Addr) (ws : List Rw) (i : Nat) (N : Nat → List Int) (st ai : Nat → Mo) (vs : List Addr) : Prop where
  at_ : H v = some (.lst (vs.map V.ref))
  len : vs.length ≤ i
  typ : ∀ z, z ∈ vs → ∃ x y u : Int, H z = some (.tup [.int x, .int y, .int u])
  all : ∀ k s, k < i → N k ≠ [] → (st (k + 1)).run = false → (ai k).now = some s → ∃ z, z ∈ vs ∧ H z = some (.tup [.int (visF N st k : Nat), .int (k : Nat), .int s])
  k : Kp [] H0 H
  f : H0 v = none
theorem Vs.none_ {H0 H : Hp} {v q : Addr} {ws : List Rw} {i : Nat} {N : Nat → List Int} {st ai : Nat → Mo} {vs : List Addr} (V : Vs H0 H v q ws i N st ai vs) (h : N i = [] ∨ (st (i + 1)).run = true) : Vs H0 H v q ws (i + 1) N st ai vs :=
  ⟨V.at_, Nat.le_succ_of_le V.len, V.typ, fun k s hk hn hr hs => by
    by_cases e : k = i
    · subst e
      rcases h with h | h
      · exact absurd h hn
      · rw [h] at hr
        cases hr
    · exact V.all k s (by omega) hn hr hs, V.k, V.f⟩
theorem Vs.some_ {H0 H : Hp} {v q : Addr} {ws : List Rw} {i : Nat} {N : Nat → List Int} {st ai : Nat → Mo} {vs : List Addr} (W : Vs H0 H v q ws i N st ai vs) {z : Addr} {y : Int} (hz : H z = none) (hy : (ai i).now = some y) :
    Vs H0 (upd (upd H z (.tup [.int (visF N st i : Nat), .int (0 + (i : Int)), .int y])) v (.lst (vs.map V.ref ++ [.ref z]))) v q ws (i + 1) N st ai (vs ++ [z]) := by
  have hv := W.at_
  have nz : v ≠ z := ne_of_none hv hz
  have old : ∀ x o, H x = some o → x ≠ v → upd (upd H z (.tup [.int (visF N st i : Nat), .int (0 + (i : Int)), .int y])) v (.lst (vs.map V.ref ++ [.ref z])) x = some o := fun x o e n => hu_ne n (hu_ne (ne_of_none e hz) e)
  have new : upd (upd H z (.tup [.int (visF N st i : Nat), .int (0 + (i : Int)), .int y])) v (.lst (vs.map V.ref ++ [.ref z])) z = some (.tup [.int (visF N st i : Nat), .int (i : Nat), .int y]) := by
    rw [hu_ne (Ne.symm nz) upd_same, Int.zero_add]
  refine ⟨by rw [upd_same, List.map_append]; rfl, by rw [List.length_append]; exact Nat.succ_le_succ W.len, fun x hx => ?_, fun k s hk hn hr hs => ?_, (W.k.nw hz).mine W.f, W.f⟩
  · rcases List.mem_append.mp hx with hx | hx
    · obtain ⟨a, b, c, e⟩ := W.typ x hx
      exact ⟨a, b, c, old _ _ e (ne_of e hv (by intro z; cases z))⟩
    · rw [List.mem_singleton.mp hx]
      exact ⟨_, _, _, new⟩
  · by_cases e : k = i
    · subst e
      rw [hy] at hs
      cases hs
      exact ⟨z, List.mem_append_right _ List.mem_cons_self, new⟩
    · obtain ⟨x, hx, e⟩ := W.all k s (by omega) hn hr hs
      exact ⟨x, List.mem_append_left _ hx, old _ _ e (ne_of e hv (by intro z; cases z))⟩
def spotO (m : Mo) : Option Int := if m.run = true then m.now else none

def sp_l_visits (K : PySem.W.Frag) : Sp := fun vs H Q E => ∃ (q : Addr) (r pat last : Int) (ws : List Rw) (N : Nat → List Int) (st ai : Nat → Mo) (b : Nat → Bool), vs = [.ref q, .int pat] ∧ (RowsAt H q ws) ∧ (Told r pat last ws N st ai b) ∧ (ws.length ≤ 90) ∧ (∀ v (vs : List Addr) H1, H1 v = some (.lst (vs.map V.ref)) → vs.length ≤ 90 → (∀ z, z ∈ vs → ∃ x y u : Int, H1 z = some (.tup [.int x, .int y, .int u])) → (∀ k s, k < ws.length → N k ≠ [] → (st (k + 1)).run = false → (ai k).now = some s → ∃ z, z ∈ vs ∧ H1 z = some (.tup [.int (visF N st k : Nat), .int (k : Nat), .int s])) → Kp [] H H1 → Q (.ref v) H1)
theorem us_l_visits {K : PySem.W.Frag} {H : Hp} {Q : VK} {E : XK} {q : Addr} {r pat last : Int} {ws : List Rw} {N : Nat → List Int} {st ai : Nat → Mo} {b : Nat → Bool} (hW : RowsAt H q ws) (hP : Told r pat last ws N st ai b) (hl : ws.length ≤ 90) (kk : ∀ v (vs : List Addr) H1, H1 v = some (.lst (vs.map V.ref)) → vs.length ≤ 90 → (∀ z, z ∈ vs → ∃ x y u : Int, H1 z = some (.tup [.int x, .int y, .int u])) → (∀ k s, k < ws.length → N k ≠ [] → (st (k + 1)).run = false → (ai k).now = some s → ∃ z, z ∈ vs ∧ H1 z = some (.tup [.int (visF N st k : Nat), .int (k : Nat), .int s])) → Kp [] H H1 → Q (.ref v) H1) : sp_l_visits K [.ref q, .int pat] H Q E := ⟨_, _, _, _, _, _, _, _, _, rfl, hW, hP, hl, kk⟩
theorem f_l_visits (T : Cx K mg) (B : Tb K mg base) : ∃ fd, FunD K "_law_visits" "_law_visits" (defArgs s_l_visits) (defBody s_l_visits) (defScope s_l_visits) (d_l_visits.dvs K) (d_l_visits.kws K) (fAd K d_l_visits.at_) fd ∧ FnOk P w K mg base CX0 1 (fAd K d_l_visits.at_) fd p_l_visits (sp_l_visits K) := by
  obtain ⟨fd, F⟩ := T.says.def_ 17 (d := d_l_visits) rfl
  refine ⟨fd, F, fnD F sc_l_visits (fun vs H Q E h => by
    obtain ⟨_, _, _, _, _, _, _, _, _, rfl, _⟩ := h
    rfl) fun cdv A outer s H vs Q E hr h => ?_⟩
  have hu := hu_of hr
  obtain ⟨q, r, pat, last, ws, N, st, ai, b, rfl, hW, hP, hl, kk⟩ := h
  refine ⟨_, (pss_cons (ps_set (i := 2) sc_l_visits.nd rfl (by first | exact Or.inl rfl | exact Or.inr rfl) (pe_lst pa_nil)) (pss_cons (ps_set (i := 3) sc_l_visits.nd rfl (by first | exact Or.inl rfl | exact Or.inr rfl) pe_int) (pss_cons (ps_set (i := 4) sc_l_visits.nd rfl (by first | exact Or.inl rfl | exact Or.inr rfl) pe_non) (pss_cons (ps_set (i := 5) sc_l_visits.nd rfl (by first | exact Or.inl rfl | exact Or.inr rfl) pe_int) (pss_cons (ps_for PassesOwn.never rfl (pi_range1 (by rfl) (fr_range T) (pa_cons (pe_callB call_lenS (by rfl) (fr_len T) (by decide +kernel) (pa_cons (pv 0) pa_nil)) pa_nil)) (pg_name (i := 6) sc_l_visits.nd rfl (by first | exact Or.inl rfl | exact Or.inr rfl)) (pss_cons (ps_set (i := 7) sc_l_visits.nd rfl (by first | exact Or.inl rfl | exact Or.inr rfl) (pe_ix ix_list (pv 0) (pv 6) (fun _ _ => rfl))) (pss_one (ps_if (pt_cmp (pc_isN (pe_ix ix_tup (pv 7) pe_int (fun _ _ => rfl)))) (pss_one (ps_set (i := 4) sc_l_visits.nd rfl (by first | exact Or.inl rfl | exact Or.inr rfl) pe_non)) (C8.pss_cut (ps_if (PW.pt (pw_or (pt_cmp (pc_isN (pv 4))) (pw_or1 (pt_cmpR op_ne (pe_ix ix_tup (pv 7) pe_int (fun _ _ => rfl)) (pv 4) (nomark _))))) (pss_cons (ps_set (i := 3) sc_l_visits.nd rfl (by first | exact Or.inl rfl | exact Or.inr rfl) (pv 6)) (pss_cons (ps_set (i := 4) sc_l_visits.nd rfl (by first | exact Or.inl rfl | exact Or.inr rfl) (pe_ix ix_tup (pv 7) pe_int (fun _ _ => rfl))) (pss_one (ps_set (i := 5) sc_l_visits.nd rfl (by first | exact Or.inl rfl | exact Or.inr rfl) pe_int)))) pss_nil) (pss_cons (ps_set (i := 5) sc_l_visits.nd rfl (by first | exact Or.inl rfl | exact Or.inr rfl) (pe_op op_add (pv 5) (pe_callTy call_int1' (by rfl) (fr_int T) (by decide +kernel) (pa_cons (pe_not (pe_ix ix_tup (pv 7) pe_int (fun _ _ => rfl))) pa_nil)))) (pss_one (ps_if (PW.pt (pw_or (pt_val (pe_ix ix_tup (pv 7) pe_int (fun _ _ => rfl))) (pw_or1 (pt_cmpR op_eq (pv 5) (pv 1) (nomark _))))) (pss_cons (ps_expr (pe_bm PySem.F.plainAttrs_list PySem.F.slot_list_append PySem.F.type_list_append mt_append (pv 2) (pa_cons (pe_tup (pa_cons (pv 3) (pa_cons (pv 6) (pa_cons (pv 4) pa_nil)))) pa_nil))) (pss_one (ps_set (i := 4) sc_l_visits.nd rfl (by first | exact Or.inl rfl | exact Or.inr rfl) pe_non))) pss_nil)))))))) (pss_one (ps_ret (pv 2)))))))), ?_⟩
  rw [show L2.start n_l_visits [.ref q, .int pat] = [some (.ref q), some (.int pat), none, none, none, none, none, none] from rfl]
  try dsimp only [cxOf, Cx.nox, Cx.wish, List.map]

  have hq := hW.at_
  wtm_at "rd"
  refine ⟨sz1000 (by simp), fun v nv => ?_⟩
  have V0 : Vs H (upd H v (.lst [])) v q ws 0 N st ai [] := ⟨upd_same, Nat.le_refl _, fun z hz => (by cases hz), fun k s hk => absurd hk (Nat.not_lt_zero k), Kp.new nv, nv⟩
  generalize upd H v (.lst []) = H1 at *
  have hq1 := V0.k.g0 hq
  have lq : (ws.map fun w => V.ref w.t).length = ws.length := List.length_map ..
  have s0 : spotO (st 0) = none := by
    unfold spotO
    rw [hP.P.ini, if_neg Bool.false_ne_true]
  wtm_at "rd"
  refine forR_by (fun i σ Hx => ∃ (vs : List Addr) (bg bd : Int) (v6 v7 : Option V), σ = [some (.ref q), some (.int pat), some (.ref v), some (.int bg), some (ov (spotO (st i))), some (.int bd), v6, v7] ∧ Vs H Hx v q ws i N st ai vs ∧ ((st i).run = true → 0 < i ∧ bg = (visF N st (i - 1) : Nat) ∧ bd = (st i).bad)) ⟨[], 0, 0, none, none, by rw [s0]; rfl, V0, fun h => by rw [hP.P.ini] at h; cases h⟩ ?_ ?_
  · clear V0
    rintro i σ Hx hi ⟨vs, bg, bd, v6, v7, rfl, V1, hrun⟩
    have hiw : i < ws.length := by omega
    have hqx := V1.k.g0 hq
    have hvx := V1.at_
    have hat : atI (ws.map fun w => V.ref w.t) (0 + (i : Int)) = some (.ref ws[i].t) := by
      rw [Int.zero_add]
      refine atI_nat ?_
      rw [List.getElem?_map, List.getElem?_eq_getElem hiw]
      rfl
    have ht := V1.k.g0 (hW.ob _ (List.getElem_mem hiw)).1
    obtain ⟨eN, eo, ep⟩ := hP.row i _ (List.getElem?_eq_getElem hiw)
    rw [eo, ep] at ht
    have hrep := hP.P.rep i hiw
    by_cases hN : N i = []
    · obtain ⟨a1, a2⟩ := hP.P.empty hiw hN
      rw [a1] at ht
      wtm_at "rd"
      rw [if_pos hN] at hrep
      have r2 : (st (i + 1)).run = false := by rw [hrep]; exact a2
      have e2 : spotO (st (i + 1)) = none := by
        unfold spotO
        rw [r2, if_neg Bool.false_ne_true]
      exact ⟨vs, bg, bd, _, _, by rw [e2]; rfl, V1.none_ (.inl hN), fun h => by rw [r2] at h; cases h⟩
    · obtain ⟨y, a1, a2, a3⟩ := hP.P.nonempty hiw hN
      rw [a1] at ht
      rw [if_neg hN] at hrep
      obtain ⟨b1, b2, b3, b4, b5⟩ := hP.P.aiv hiw hN
      wtm_at "rd"
      refine rd_cut (fun σ H2 => H2 = Hx ∧ σ = [some (.ref q), some (.int pat), some (.ref v), some (.int (visF N st i : Nat)), some (.int y), some (.int (ai i).bad), some (.int (0 + (i : Int))), some (.ref ws[i].t)]) ?_ ?_
      · by_cases hf : Fresh N st i
        · rw [visF_fresh hf, b4 hf]
          unfold spotO
          cases er : (st i).run with
          | false =>
            rw [if_neg Bool.false_ne_true]
            wtm_at "rd"
            exact ⟨rfl, by rw [Int.zero_add]; rfl⟩
          | true =>
            obtain ⟨c1, -, -⟩ := hP.P.inv i (by omega) er
            rw [if_pos rfl, c1]
            have ny : y ≠ (st i).last := fun e => hf ⟨er, _, c1, e ▸ a2⟩
            wtm_at "rd"
            refine ite_n (fun _ => ?_) (fun h => absurd h ny)
            wtm_at "rd"
            exact ⟨rfl, by rw [Int.zero_add]; rfl⟩
        · obtain ⟨d1, d2⟩ := b5 hf
          have er : (st i).run = true := by rw [← d1]; exact a3
          obtain ⟨e1, e2, e3⟩ := hrun er
          have es : spotO (st i) = some y := by
            unfold spotO
            rw [if_pos er, ← d1]
            exact a1
          have ev : visF N st i = visF N st (i - 1) := by
            obtain ⟨k, rfl⟩ : ∃ k, i = k + 1 := ⟨i - 1, by omega⟩
            show (if onB N st (k + 1) = true then visF N st k else k + 1) = _
            rw [if_pos]
            · rfl
            · cases c : onB N st (k + 1) with
              | true => rfl
              | false => exact absurd (onB_iff.mp c) hf
          rw [es]
          wtm_at "rd"
          refine ite_n (fun h => absurd rfl h) (fun _ => ?_)
          wtm_at "rd"
          exact ⟨rfl, by rw [ev, ← e2, d1, ← e3]; rfl⟩
      · rintro σ H2 ⟨rfl, rfl⟩
        wtm_at "rd"
        refine ite_b (fun hb => ?_) (fun hb => ?_)
        · rw [if_pos rfl]
          have r2 : (st (i + 1)).run = false := by
            rw [hrep]
            unfold repM
            rw [if_pos a3]
            rw [hb, if_pos rfl]
          have e2 : spotO (st (i + 1)) = none := by
            unfold spotO
            rw [r2, if_neg Bool.false_ne_true]
          wtm_at "rd"
          refine ⟨sz1000 (by simp), fun z nz => ?_⟩
          have hv2 : upd H2 z (.tup [.int (visF N st i : Nat), .int (0 + (i : Int)), .int y]) v = some (.lst (vs.map V.ref)) := hu_ne (ne_of_none hvx nz) hvx
          have sl : (vs.map V.ref).length < sizeLine := szlt (by rw [List.length_map]; have := V1.len; omega)
          wtm_at "rd"
          exact ⟨_, _, _, _, _, by rw [e2]; rfl, V1.some_ nz a1, fun h => by rw [r2] at h; cases h⟩
        · wtm_at "rd"
          rw [hb]
          refine ite_d (fun hp => ?_) (fun hp => ?_)
          · have r2 : (st (i + 1)).run = false := by
              rw [hrep]
              unfold repM
              rw [if_pos a3]
              rw [hb, if_neg Bool.false_ne_true]
              have hp2 : (ai i).bad + 1 = pat := hp
              exact decide_eq_false (by omega)
            have e2 : spotO (st (i + 1)) = none := by
              unfold spotO
              rw [r2, if_neg Bool.false_ne_true]
            wtm_at "rd"
            refine ⟨sz1000 (by simp), fun z nz => ?_⟩
            have hv2 : upd H2 z (.tup [.int (visF N st i : Nat), .int (0 + (i : Int)), .int y]) v = some (.lst (vs.map V.ref)) := hu_ne (ne_of_none hvx nz) hvx
            have sl : (vs.map V.ref).length < sizeLine := szlt (by rw [List.length_map]; have := V1.len; omega)
            wtm_at "rd"
            exact ⟨_, _, _, _, _, by rw [e2]; rfl, V1.some_ nz a1, fun h => by rw [r2] at h; cases h⟩
          · have hp2 : (ai i).bad + 1 < pat := by
              have : ¬ (ai i).bad + 1 = pat := hp
              omega
            have h3 : st (i + 1) = { ai i with bad := (ai i).bad + 1, run := true } := by
              rw [hrep]
              unfold repM
              rw [if_pos a3, hb, if_neg Bool.false_ne_true, decide_eq_true hp2]
            have e2 : spotO (st (i + 1)) = some y := by
              unfold spotO
              rw [h3, if_pos rfl]
              exact a1
            exact ⟨_, _, _, _, _, by rw [e2]; rfl, V1.none_ (.inr (by rw [h3])), fun _ => ⟨by omega, by rw [Nat.add_sub_cancel], by rw [h3]; rfl⟩⟩
  · rintro σ Hx ⟨vs, bg, bd, v6, v7, rfl, V1, hrun⟩
    wtm_at "rd"
    have e : ((ws.map fun w => V.ref w.t).length : Int).toNat = ws.length := by rw [lq]; rfl
    rw [e] at V1
    exact kk v vs Hx V1.at_ (Nat.le_trans V1.len hl) V1.typ V1.all V1.k
theorem c_l_visits (T : Cx K mg) (B : Tb K mg base) : CalX P w K mg base CX0 1 "_law_visits" (sp_l_visits K) [] := by
  obtain ⟨fd, F, ok⟩ := f_l_visits (P := P) (w := w) (base := base) T B
  exact ⟨_, fd, p_l_visits, [], ok, gl_l_visits T, F.kp, FunD.bindsN F fun _ _ _ _ _ _ us hl => match us, hl with | [_, _], _ => rfl, .nil⟩
end
section
variable {P : Program} {w : World} {K : PySem.W.Frag} {mg : Str → Option Value} {base : Heap}

theorem rd_eqOI {H : Hp} {Q : VK} {a : Int} {b : Option Int} (q : Q (.bl (decide (b = some a))) H) : rEq (ov b) (.int a) H Q := by
  cases b with
  | none => exact rd_eq rfl (by simpa [ov] using q)
  | some b => exact rd_eqI (by
      have e : decide (b = a) = decide (some b = some a) := by
        by_cases h : b = a
        · rw [h]; simp
        · rw [decide_eq_false h, decide_eq_false (by intro z; injection z with z; exact h z)]
      rw [e]
      exact q)

def sp_l_tried (K : PySem.W.Frag) : Sp := fun vs H Q E => ∃ (q : Addr) (pat s : Int) (ws : List Rw), vs = [.ref q, .int s, .int pat] ∧ (RowsAt H q ws) ∧ (ws.length ≤ 90) ∧ ((∃ w, w ∈ ws ∧ w.o = some s ∧ w.p = true) ∨ pat ≤ ((ws.filter fun w => decide (w.o = some s)).length : Int)) ∧ (Q (.bl true) H)
theorem us_l_tried {K : PySem.W.Frag} {H : Hp} {Q : VK} {E : XK} {q : Addr} {pat s : Int} {ws : List Rw} (hW : RowsAt H q ws) (hl : ws.length ≤ 90) (hc : (∃ w, w ∈ ws ∧ w.o = some s ∧ w.p = true) ∨ pat ≤ ((ws.filter fun w => decide (w.o = some s)).length : Int)) (kk : Q (.bl true) H) : sp_l_tried K [.ref q, .int s, .int pat] H Q E := ⟨_, _, _, _, rfl, hW, hl, hc, kk⟩
theorem f_l_tried (T : Cx K mg) (B : Tb K mg base) : ∃ fd, FunD K "_law_tried" "_law_tried" (defArgs s_l_tried) (defBody s_l_tried) (defScope s_l_tried) (d_l_tried.dvs K) (d_l_tried.kws K) (fAd K d_l_tried.at_) fd ∧ FnOk P w K mg base CX0 1 (fAd K d_l_tried.at_) fd p_l_tried (sp_l_tried K) := by
  obtain ⟨fd, F⟩ := T.says.def_ 18 (d := d_l_tried) rfl
  refine ⟨fd, F, fnD F sc_l_tried (fun vs H Q E h => by
    obtain ⟨_, _, _, _, rfl, _⟩ := h
    rfl) fun cdv A outer s H vs Q E hr h => ?_⟩
  have hu := hu_of hr
  obtain ⟨q, pat, s, ws, rfl, hW, hl, hc, kk⟩ := h
  refine ⟨_, (pss_cons (ps_set (i := 3) sc_l_tried.nd rfl (by first | exact Or.inl rfl | exact Or.inr rfl) pe_int) (pss_cons (ps_for PassesOwn.never rfl (pi_list (pv 0)) (pg_name (i := 4) sc_l_tried.nd rfl (by first | exact Or.inl rfl | exact Or.inr rfl)) (pss_one (ps_if (pt_cmpR op_eq (pe_ix ix_tup (pv 4) pe_int (fun _ _ => rfl)) (pv 1) (nomark _)) (pss_cons (ps_if (pt_val (pe_ix ix_tup (pv 4) pe_int (fun _ _ => rfl))) (pss_one (ps_ret pe_bl)) pss_nil) (pss_one (ps_set (i := 3) sc_l_tried.nd rfl (by first | exact Or.inl rfl | exact Or.inr rfl) (pe_op op_add (pv 3) pe_int)))) pss_nil))) (pss_one (ps_ret (pe_cmpR op_ge (pv 3) (pv 2) (nomark _)))))), ?_⟩
  rw [show L2.start n_l_tried [.ref q, .int s, .int pat] = [some (.ref q), some (.int s), some (.int pat), none, none] from rfl]
  try dsimp only [cxOf, Cx.nox, Cx.wish, List.map]

  have hq := hW.at_
  wtm_at "rd"
  refine forL_by (K := K) (ws.map fun w => V.ref w.t) (fun i σ Hx => (∃ v4, σ = [some (.ref q), some (.int s), some (.int pat), some (.int (((ws.take i).filter fun w => decide (w.o = some s)).length : Nat)), v4]) ∧ Hx = H ∧ ∀ w, w ∈ ws.take i → w.o = some s → w.p = false) ⟨⟨_, rfl⟩, rfl, by simp⟩ (fun i σ Hx _ z => z.2.1 ▸ SqL.of hq) ?_ ?_
  · rintro i x σ Hx hi ⟨⟨v4, rfl⟩, rfl, hn⟩
    rw [List.getElem?_map] at hi
    obtain ⟨w, hw, rfl⟩ := Option.map_eq_some_iff.mp hi
    obtain ⟨hi2, rfl⟩ := List.getElem?_eq_some_iff.mp hw
    obtain ⟨e1, -⟩ := hW.ob _ (List.getElem_mem hi2)
    wtm_at "rd"
    refine rd_eqOI ?_
    wtm_at "rd"
    have ft := filter_take (p := fun w : Rw => decide (w.o = some s)) hi2
    refine ite_b (fun h => ?_) (fun h => ?_)
    · have ho : ws[i].o = some s := of_decide_eq_true h
      wtm_at "rd"
      refine ite_b (fun h2 => ?_) (fun h2 => ?_)
      · wtm_at "rd"
        exact kk
      · wtm_at "rd"
        refine ⟨⟨some (V.ref ws[i].t), ?_⟩, rfl, fun w hw h3 => ?_⟩
        · rw [ft, if_pos h, List.length_append]
          rfl
        · rw [List.take_succ_eq_append_getElem hi2] at hw
          rcases List.mem_append.mp hw with hw | hw
          · exact hn w hw h3
          · rw [List.mem_singleton.mp hw]
            exact h2
    · have ho : ¬ ws[i].o = some s := of_decide_eq_false h
      wtm_at "rd"
      refine ⟨⟨some (V.ref ws[i].t), ?_⟩, rfl, fun w hw h3 => ?_⟩
      · rw [ft, if_neg (by rw [h]; exact Bool.false_ne_true), List.append_nil]
        rfl
      · rw [List.take_succ_eq_append_getElem hi2] at hw
        rcases List.mem_append.mp hw with hw | hw
        · exact hn w hw h3
        · rw [List.mem_singleton.mp hw] at h3
          exact absurd h3 ho
  · rintro σ Hx ⟨⟨v4, rfl⟩, rfl, hn⟩
    rw [List.length_map, List.take_length] at hn ⊢
    have hc2 : pat ≤ ((ws.filter fun w => decide (w.o = some s)).length : Int) := by
      rcases hc with ⟨w, h1, h2, h3⟩ | hc
      · rw [hn w h1 h2] at h3
        cases h3
      · exact hc
    wtm_at "rd"
    rw [decide_eq_true hc2]
    exact kk
theorem c_l_tried (T : Cx K mg) (B : Tb K mg base) : CalX P w K mg base CX0 1 "_law_tried" (sp_l_tried K) [] := by
  obtain ⟨fd, F, ok⟩ := f_l_tried (P := P) (w := w) (base := base) T B
  exact ⟨_, fd, p_l_tried, [], ok, gl_l_tried T, F.kp, FunD.bindsN F fun _ _ _ _ _ _ us hl => match us, hl with | [_, _, _], _ => rfl, .nil⟩
end
section
variable {P : Program} {w : World} {K : PySem.W.Frag} {mg : Str → Option Value} {base : Heap}

/-- the seats seen and the seats that stayed, from row A on up to row K -/
structure Win (r : Int) (N : Nat → List Int) (A K : Nat) (U Y : List Int) : Prop where
  nd : U.Nodup
  rng : ∀ z, z ∈ U → 0 ≤ z ∧ z < r
  u : ∀ j, A ≤ j → j < K → ∀ z, z ∈ N j → z ∈ U
  y : ∀ j, A ≤ j → j < K → ∀ z, z ∈ Y → z ∈ N j
  yl : Y.length ≤ 20
theorem Win.len {r : Int} {N : Nat → List Int} {A K : Nat} {U Y : List Int} (W : Win r N A K U Y) (hR : Ring r) : U.length ≤ 256 := by
  have r1 := hR.le
  have := List.Nodup.length_le_of_subset W.nd (l₂ := (List.range 256).map Int.ofNat) fun z hz => by
    have := W.rng z hz
    exact List.mem_map.mpr ⟨z.toNat, List.mem_range.mpr (by omega), by show ((z.toNat : Nat) : Int) = z; omega⟩
  simpa using this
theorem Win.same {r : Int} {N : Nat → List Int} {A K : Nat} {U Y : List Int} (W : Win r N A K U Y) (h : A < K) (e : N K = N (K - 1)) : Win r N A (K + 1) U Y := by
  refine ⟨W.nd, W.rng, fun j h1 h2 z hz => ?_, fun j h1 h2 z hz => ?_, W.yl⟩
  · by_cases c : j < K
    · exact W.u j h1 c z hz
    · have : j = K := by omega
      rw [this, e] at hz
      exact W.u (K - 1) (by omega) (by omega) z hz
  · by_cases c : j < K
    · exact W.y j h1 c z hz
    · have : j = K := by omega
      rw [this, e]
      exact W.y (K - 1) (by omega) (by omega) z hz
theorem Win.more {r : Int} {N : Nat → List Int} {A K : Nat} {U Y : List Int} (W : Win r N A K U Y) (nd : (N K).Nodup) (rng : ∀ z, z ∈ N K → 0 ≤ z ∧ z < r) : Win r N A (K + 1) (U ++ (N K).filter fun x => !decide (x ∈ U)) (Y.filter fun x => decide (x ∈ N K)) := by
  refine ⟨List.nodup_append.mpr ⟨W.nd, nd.filter _, fun x hx y hy e => ?_⟩, fun z hz => ?_, fun j h1 h2 z hz => ?_, fun j h1 h2 z hz => ?_, Nat.le_trans (List.length_filter_le _ _) W.yl⟩
  · have := (List.mem_filter.mp hy).2
    rw [← e] at this
    simp [hx] at this
  · rcases List.mem_append.mp hz with hz | hz
    · exact W.rng z hz
    · exact rng z (List.mem_filter.mp hz).1
  · by_cases c : j < K
    · exact List.mem_append_left _ (W.u j h1 c z hz)
    · have : j = K := by omega
      rw [this] at hz
      by_cases m : z ∈ U
      · exact List.mem_append_left _ m
      · exact List.mem_append_right _ (List.mem_filter.mpr ⟨hz, by simp [m]⟩)
  · obtain ⟨z1, z2⟩ := List.mem_filter.mp hz
    by_cases c : j < K
    · exact W.y j h1 c z z1
    · have : j = K := by omega
      rw [this]
      exact of_decide_eq_true z2
theorem cut_in {xs : List V} {a b : Nat} (h : b ≤ xs.length) (h2 : a ≤ b) : cutV xs (some (a : Int)) (some (b : Int)) = (xs.drop a).take (b - a) := by
  unfold cutV
  rw [HT.sIx_nat, HT.sIx_nat, Nat.min_eq_left h, Nat.min_eq_left (Nat.le_trans h2 h)]
theorem tries_rows {r pat last : Int} {ws : List Rw} {N : Nat → List Int} {st ai : Nat → Mo} {b : Nat → Bool} (W : Told r pat last ws N st ai b) {A L : Nat} (h : A + L ≤ ws.length) (s : Int) : (((ws.drop A).take L).filter fun w => decide (w.o = some s)).length = tries ai s A L := by
  have e : (((ws.drop A).take L).map fun w => w.o) = (List.range L).map fun t => (ai (A + t)).now := by
    apply List.ext_getElem?
    intro t
    rw [List.getElem?_map, List.getElem?_map]
    by_cases c : t < L
    · rw [List.getElem?_take_of_lt c, List.getElem?_drop, List.getElem?_range c, List.getElem?_eq_getElem (show A + t < ws.length by omega)]
      exact congrArg some (W.row (A + t) _ (List.getElem?_eq_getElem (by omega))).2.1
    · rw [List.getElem?_eq_none (by rw [List.length_take]; omega), List.getElem?_eq_none (by rw [List.length_range]; omega)]
      rfl
  unfold tries
  have f1 : (((ws.drop A).take L).filter fun w => decide (w.o = some s)).length = ((((ws.drop A).take L).map fun w => w.o).filter fun o => decide (o = some s)).length := by
    rw [List.filter_map, List.length_map]
    rfl
  rw [f1, e, List.filter_map, List.length_map]
  rfl
theorem lcF_pick {α : Type} {K : PySem.W.Frag} {σ : L2.St} {H : Hp} {te : TE} {tt : L2.TT} {a D : Addr} {g : TG} {vs : List Nat} {Qd : Hp → Prop} (ns : List α) (u : α → V) (p : α → Bool) (f : α → V) (hS : SqL K H a (ns.map u)) (hD : H D = none) (hl : ns.length < 1000000)
    (hs : ∀ (i : Nat) (h : i < ns.length) H1 (E : VK) (N : Hp → Prop), Kp [] H H1 → (∀ H4, Kp [] H1 H4 → p ns[i] = true → E (f ns[i]) H4) → (∀ H3, Kp [] H1 H3 → p ns[i] = false → N H3) → g (u ns[i]) (wipe σ vs) H1 fun σ2 H2 => wipe σ2 vs = wipe σ vs ∧ tt σ2 H2 fun b H3 => if b = true then te σ2 H3 E else N H3)
    (hd : ∀ H', Kp [] H H' → H' D = some (.lst ((ns.filter p).map f)) → Qd H') : LcG (Itl K a) g tt te vs σ D Qd H := by
  refine lcL_by (ns.map u) (fun i H' => H' D = some (.lst (((ns.take i).filter p).map f)) ∧ Kp [] H H') ⟨upd_same, Kp.new hD⟩ (fun i H' _ q => sl_kp q.2 (by simp) hS) (fun i x H' hx q => ?_) (fun H' q => ?_)
  · rw [List.getElem?_map] at hx
    obtain ⟨y, hy, rfl⟩ := Option.map_eq_some_iff.mp hx
    obtain ⟨hi, rfl⟩ := List.getElem?_eq_some_iff.mp hy
    refine hs i hi H' _ _ q.2 (fun H4 k4 hp => ?_) (fun H3 k3 hp => ?_)
    · refine ⟨_, k4.g0 q.1, szlt (by
        rw [List.length_map]
        have h1 := List.length_filter_le p (ns.take i)
        rw [List.length_take] at h1
        omega), ?_, Kp.mine (q.2.trans k4) hD⟩
      rw [upd_same, filter_take hi, if_pos hp, List.map_append]
      rfl
    · refine ⟨?_, q.2.trans k3⟩
      rw [filter_take hi, if_neg (by rw [hp]; exact Bool.false_ne_true), List.append_nil]
      exact k3.g0 q.1
  · rw [List.length_map, List.take_length] at q
    exact hd H' q.2 q.1

def sp_l_window (K : PySem.W.Frag) : Sp := fun vs H Q E => ∃ (q v : Addr) (r pat last : Int) (k0 : Nat) (ws : List Rw) (zs : List Addr) (N : Nat → List Int) (st ai : Nat → Mo) (b : Nat → Bool), vs = [.ref q, .ref v, .int k0, .int pat] ∧ (Ring r) ∧ (RowsAt H q ws) ∧ (Told r pat last ws N st ai b) ∧ (ws.length ≤ 90) ∧ (pat ≤ 6) ∧ (H v = some (.lst (zs.map V.ref))) ∧ (zs.length ≤ 90) ∧ (∀ z, z ∈ zs → ∃ x y u : Int, H z = some (.tup [.int x, .int y, .int u])) ∧ (∀ k s, k < ws.length → N k ≠ [] → (st (k + 1)).run = false → (ai k).now = some s → ∃ z, z ∈ zs ∧ H z = some (.tup [.int (visF N st k : Nat), .int (k : Nat), .int s])) ∧ (k0 < ws.length) ∧ (∀ H1, Kp [] H H1 → Q (.bl true) H1)
theorem us_l_window {K : PySem.W.Frag} {H : Hp} {Q : VK} {E : XK} {q v : Addr} {r pat last : Int} {k0 : Nat} {ws : List Rw} {zs : List Addr} {N : Nat → List Int} {st ai : Nat → Mo} {b : Nat → Bool} (hR : Ring r) (hW : RowsAt H q ws) (hP : Told r pat last ws N st ai b) (hl : ws.length ≤ 90) (hp : pat ≤ 6) (hv : H v = some (.lst (zs.map V.ref))) (vl : zs.length ≤ 90) (vt : ∀ z, z ∈ zs → ∃ x y u : Int, H z = some (.tup [.int x, .int y, .int u])) (vc : ∀ k s, k < ws.length → N k ≠ [] → (st (k + 1)).run = false → (ai k).now = some s → ∃ z, z ∈ zs ∧ H z = some (.tup [.int (visF N st k : Nat), .int (k : Nat), .int s])) (hA : k0 < ws.length) (kk : ∀ H1, Kp [] H H1 → Q (.bl true) H1) : sp_l_window K [.ref q, .ref v, .int k0, .int pat] H Q E := ⟨_, _, _, _, _, _, _, _, _, _, _, _, rfl, hR, hW, hP, hl, hp, hv, vl, vt, vc, hA, kk⟩
theorem f_l_window (T : Cx K mg) (B : Tb K mg base) : ∃ fd, FunD K "_law_window" "_law_window" (defArgs s_l_window) (defBody s_l_window) (defScope s_l_window) (d_l_window.dvs K) (d_l_window.kws K) (fAd K d_l_window.at_) fd ∧ FnOk P w K mg base CX0 3 (fAd K d_l_window.at_) fd p_l_window (sp_l_window K) := by
  have c_l_tried := c_l_tried (P := P) (w := w) (base := base) T B
  obtain ⟨fd, F⟩ := T.says.def_ 19 (d := d_l_window) rfl
  refine ⟨fd, F, fnD F sc_l_window (fun vs H Q E h => by
    obtain ⟨_, _, _, _, _, _, _, _, _, _, _, _, rfl, _⟩ := h
    rfl) fun cdv A outer s H vs Q E hr h => ?_⟩
  have hu := hu_of hr
  obtain ⟨q, v, r, pat, last, k0, ws, zs, N, st, ai, b, rfl, hR, hW, hP, hl, hp, hv, vl, vt, vc, hA, kk⟩ := h
  refine ⟨_, (pss_cons (ps_set (i := 4) sc_l_window.nd rfl (by first | exact Or.inl rfl | exact Or.inr rfl) (pe_callTy call_listOf (by rfl) (fr_list T) (by decide +kernel) (pa_cons (pe_ix ix_tup (pe_ix ix_list (pv 0) (pv 2) (fun _ _ => rfl)) pe_int (fun _ _ => rfl)) pa_nil))) (pss_cons (ps_set (i := 5) sc_l_window.nd rfl (by first | exact Or.inl rfl | exact Or.inr rfl) (pe_callTy call_listOf (by rfl) (fr_list T) (by decide +kernel) (pa_cons (pv 4) pa_nil))) (pss_cons (ps_set (i := 6) sc_l_window.nd rfl (by first | exact Or.inl rfl | exact Or.inr rfl) pe_bl) (pss_cons (ps_for PassesOwn.never rfl (pi_range2 (by rfl) (fr_range T) (pa_cons (pv 2) (pa_cons (pe_callB call_lenS (by rfl) (fr_len T) (by decide +kernel) (pa_cons (pv 0) pa_nil)) pa_nil))) (pg_name (i := 7) sc_l_window.nd rfl (by first | exact Or.inl rfl | exact Or.inr rfl)) (pss_cons (ps_set (i := 8) sc_l_window.nd rfl (by first | exact Or.inl rfl | exact Or.inr rfl) (pe_ix ix_tup (pe_ix ix_list (pv 0) (pv 7) (fun _ _ => rfl)) pe_int (fun _ _ => rfl))) (C8.pss_cut (ps_if (PW.pt (pw_and (pt_cmpR op_gt (pv 7) (pv 2) (nomark _)) (pw_and1 (pt_cmpR (op_neD hr.units) (pv 8) (pe_ix ix_tup (pe_ix ix_list (pv 0) (pe_op op_sub (pv 7) pe_int) (fun _ _ => rfl)) pe_int (fun _ _ => rfl)) (nomark _))))) (pss_cons (ps_set (i := 4) sc_l_window.nd rfl (by first | exact Or.inl rfl | exact Or.inr rfl) (pe_op op_cat (pv 4) (pe_lc (own := [("_law_spot", 10)]) (g := (gName 10)) rfl sc_l_window.nd (pi_list (pv 8)) (blkOk_by (own := [("_law_spot", 10)]) (N := n_l_window) (sc := defScope s_l_window) (by decide +kernel)) (fun _ _ _ _ _ => (pg_name (i := 10) sc_l_window.nd rfl (by first | exact Or.inl rfl | exact Or.inr rfl))) (fun _ _ _ _ _ => (pts_one (pt_cmpR (op_notIn_seqK (K := K) rfl) (pv 10) (pv 4) rfl))) (fun _ _ _ _ _ => (pv 10))))) (pss_one (ps_setLc (i := 5) (own := [("_law_spot", 10)]) (g := (gName 10)) rfl sc_l_window.nd rfl rfl (sw_true rfl rfl rfl (by decide +kernel)) (pi_list (pv 5)) (blkOk_by (own := [("_law_spot", 10)]) (N := n_l_window) (sc := defScope s_l_window) (by decide +kernel)) (fun _ _ _ _ _ => (pg_name (i := 10) sc_l_window.nd rfl (by first | exact Or.inl rfl | exact Or.inr rfl))) (fun _ _ _ _ _ => (pts_one (pt_cmpR (op_in_seqK (K := K) rfl) (pv 10) (pv 8) rfl))) (fun _ _ _ _ _ => (pv 10))))) pss_nil) (pss_cons (ps_if (pt_cmpR op_eq (pe_callB call_lenS (by rfl) (fr_len T) (by decide +kernel) (pa_cons (pv 5) pa_nil)) pe_int (nomark _)) (pss_one (ps_ret pe_bl)) pss_nil) (pss_cons (ps_set (i := 9) sc_l_window.nd rfl (by first | exact Or.inl rfl | exact Or.inr rfl) (pe_op op_add (pe_op op_sub (pv 7) (pv 2)) pe_int)) (C8.pss_cut (ps_if (PW.pt (pw_and (pt_not (pt_val (pv 6))) (pw_and1 (pt_cmpR op_ge (pv 9) (pe_op op_mul (pe_callB call_lenS (by rfl) (fr_len T) (by decide +kernel) (pa_cons (pv 4) pa_nil)) (pv 3)) (nomark _))))) (pss_cons (ps_set (i := 6) sc_l_window.nd rfl (by first | exact Or.inl rfl | exact Or.inr rfl) pe_bl) (pss_one (ps_for PassesOwn.never rfl (pi_list (pv 5)) (pg_name (i := 10) sc_l_window.nd rfl (by first | exact Or.inl rfl | exact Or.inr rfl)) (pss_one (ps_if (pt_not (pt_val (pe_cal c_l_tried hr (by decide) (by rfl) pass0 (pa_cons (pe_slice sl_list (pv 0) (po_some (pv 2)) (po_some (pe_op op_add (pv 7) pe_int))) (pa_cons (pv 10) (pa_cons (pv 3) pa_nil)))))) (pss_one (ps_ret pe_bl)) pss_nil))))) pss_nil) (pss_one (ps_if (pt_cmpR op_ge (pv 9) (pe_op op_sub (pe_op op_mul (pe_op op_add (pe_callB call_lenS (by rfl) (fr_len T) (by decide +kernel) (pa_cons (pv 4) pa_nil)) pe_int) (pv 3)) pe_int) (nomark _)) (pss_cons (ps_set (i := 11) sc_l_window.nd rfl (by first | exact Or.inl rfl | exact Or.inr rfl) (pe_lc (own := [("_law_visit", 12)]) (g := (gName 12)) rfl sc_l_window.nd (pi_list (pv 1)) (blkOk_by (own := [("_law_visit", 12)]) (N := n_l_window) (sc := defScope s_l_window) (by decide +kernel)) (fun _ _ _ _ _ => (pg_name (i := 12) sc_l_window.nd rfl (by first | exact Or.inl rfl | exact Or.inr rfl))) (fun _ _ _ _ _ => (pts_one (PW.pt (pw_and (pt_cmpR op_ge (pe_ix (ix_tupK (K := K) rfl) (pv 12) pe_int (fun _ _ => rfl)) (pv 2) (nomark _)) (pw_and1 (pt_cmpR op_le (pe_ix (ix_tupK (K := K) rfl) (pv 12) pe_int (fun _ _ => rfl)) (pv 7) (nomark _))))))) (fun _ _ _ _ _ => (pe_ix (ix_tupK (K := K) rfl) (pv 12) pe_int (fun _ _ => rfl))))) (pss_one (ps_ret (pe_cmpR op_eq (pe_callB call_lenS (by rfl) (fr_len T) (by decide +kernel) (pa_cons (pe_lc (own := [("_law_spot", 10)]) (g := (gName 10)) rfl sc_l_window.nd (pi_list (pv 5)) (blkOk_by (own := [("_law_spot", 10)]) (N := n_l_window) (sc := defScope s_l_window) (by decide +kernel)) (fun _ _ _ _ _ => (pg_name (i := 10) sc_l_window.nd rfl (by first | exact Or.inl rfl | exact Or.inr rfl))) (fun _ _ _ _ _ => (pts_one (pt_cmpR (op_notIn_seqK (K := K) rfl) (pv 10) (pv 11) rfl))) (fun _ _ _ _ _ => (pv 10))) pa_nil)) pe_int (nomark _))))) pss_nil)))))))) (pss_one (ps_ret pe_bl)))))), ?_⟩
  rw [show L2.start n_l_window [.ref q, .ref v, .int k0, .int pat] = [some (.ref q), some (.ref v), some (.int k0), some (.int pat), none, none, none, none, none, none, none, none, none] from rfl]
  try dsimp only [cxOf, Cx.nox, Cx.wish, List.map]

  have hq := hW.at_
  have lq : (ws.map fun w => V.ref w.t).length = ws.length := List.length_map ..
  have hat : ∀ {k : Int} (j : Nat) (hj : j < ws.length), k = (j : Int) → atI (ws.map fun w => V.ref w.t) k = some (.ref ws[j].t) := fun {k} j hj e => by
    rw [e]
    refine atI_nat ?_
    rw [List.getElem?_map, List.getElem?_eq_getElem hj]
    rfl
  have rowN : ∀ j (hj : j < ws.length), ws[j].ns = N j := fun j hj => (hP.row j _ (List.getElem?_eq_getElem hj)).1
  have h0 := hat k0 hA rfl
  obtain ⟨t0, l0⟩ := hW.ob _ (List.getElem_mem hA)
  rw [rowN k0 hA] at l0
  have n20 := (hP.nd k0 hA).2
  wtm_at "rd"
  intro S0 nS0
  wtm_at "rd"
  intro Y0 nY0
  wtm_at "rd"
  have kS : Kp [] H (upd (upd H S0 (.lst ((N k0).map V.int))) Y0 (.lst ((N k0).map V.int))) := (Kp.new nS0).nw nY0
  have hS0 : upd (upd H S0 (.lst ((N k0).map V.int))) Y0 (.lst ((N k0).map V.int)) S0 = some (.lst ((N k0).map V.int)) := hu_ne (ne_fresh nY0) upd_same
  have hY0 : upd (upd H S0 (.lst ((N k0).map V.int))) Y0 (.lst ((N k0).map V.int)) Y0 = some (.lst ((N k0).map V.int)) := upd_same
  generalize upd (upd H S0 (.lst ((N k0).map V.int))) Y0 (.lst ((N k0).map V.int)) = H1 at *
  have Wn0 : Win r N k0 (k0 + max 0 1) (N k0) (N k0) := ⟨(hP.nd k0 hA).1, hP.P.rng k0 hA, fun j h1 h2 z hz => by
    have : j = k0 := by omega
    rw [← this]
    exact hz, fun j h1 h2 z hz => by
    have : j = k0 := by omega
    rw [this]
    exact hz, n20⟩
  refine forR_by (fun i σ Hx => ∃ (s4 s5 : Addr) (ck : Bool) (v7 v8 v9 v10 : Option V) (U Y : List Int), σ = [some (.ref q), some (.ref v), some (.int (k0 : Nat)), some (.int pat), some (.ref s4), some (.ref s5), some (.bl ck), v7, v8, v9, v10, none, none] ∧ Hx s4 = some (.lst (U.map V.int)) ∧ Hx s5 = some (.lst (Y.map V.int)) ∧ Kp [] H Hx ∧ Win r N k0 (k0 + max i 1) U Y) ⟨_, _, _, _, _, _, _, _, _, rfl, hS0, hY0, kS, Wn0⟩ ?_ ?_
  · clear hS0 hY0 kS Wn0 nY0 nS0
    rintro i σ Hx hi ⟨s4, s5, ck, v7, v8, v9, v10, U, Y, rfl, hs4, hs5, kx, Wn⟩
    have hk : k0 + i < ws.length := by omega
    have hkat := hat (k := (k0 : Int) + (i : Int)) (k0 + i) hk (by omega)
    obtain ⟨tk, lk⟩ := hW.ob _ (List.getElem_mem hk)
    rw [rowN _ hk] at lk
    have tk := kx.g0 tk
    have lk := kx.g0 lk
    have hqx := kx.g0 hq
    have nk20 := (hP.nd _ hk).2
    have u256 := Wn.len hR
    have y20 := Wn.yl
    wtm_at "rd"
    refine rd_cut (fun σ H2 => ∃ (s4 s5 : Addr) (U Y : List Int), σ = [some (.ref q), some (.ref v), some (.int (k0 : Nat)), some (.int pat), some (.ref s4), some (.ref s5), some (.bl ck), some (.int ((k0 : Int) + (i : Int))), some (.ref ws[k0 + i].l), v9, v10, none, none] ∧ H2 s4 = some (.lst (U.map V.int)) ∧ H2 s5 = some (.lst (Y.map V.int)) ∧ Kp [] H H2 ∧ Win r N k0 (k0 + i + 1) U Y) ?_ ?_
    · wtm_at "rd"
      refine ite_d (fun h => ?_) (fun h => ?_)
      · have hk1 : k0 + i - 1 < ws.length := by omega
        have hkat1 := hat (k := (k0 : Int) + (i : Int) - 1) (k0 + i - 1) hk1 (by omega)
        obtain ⟨tk1, lk1⟩ := hW.ob _ (List.getElem_mem hk1)
        rw [rowN _ hk1] at lk1
        have tk1 := kx.g0 tk1
        have lk1 := kx.g0 lk1
        rw [show k0 + max i 1 = k0 + i by omega] at Wn
        wtm_at "rd"
        refine ite_n (fun h2 => ?_) (fun h2 => ?_)
        · wtm_at "rd"
          intro D nD
          refine lcF_ints (N (k0 + i)) (fun x => !decide (x ∈ U)) V.int (SqL.of lk) nD (by omega) (fun j hj H3 E Nn k3 hE hN => ?_) (fun H3 k3 hD => ?_)
          · have hs43 := k3.g0 hs4
            wtm_at "rd"
            refine ⟨rfl, ?_⟩
            wtm_at "rd"
            refine ite_n (fun h => ?_) (fun h => ?_)
            · wtm_at "rd"
              exact hE _ Kp.refl (by simp [h])
            · exact hN _ Kp.refl (by simp [h])
          have hs43 := k3.g0 hs4
          have hs53 := k3.g0 hs5
          have lk3 := k3.g0 lk
          have k3 := kx.trans k3
          have fl : ((N (k0 + i)).filter fun x => !decide (x ∈ U)).length ≤ 20 := Nat.le_trans (List.length_filter_le _ _) nk20
          wtm_at "rd"
          refine rd_cat hs43 hD (sz1000 (by rw [List.length_map, List.length_map]; omega)) fun C nC => ?_
          have k4 := k3.nw (o := .lst (U.map V.int ++ ((N (k0 + i)).filter fun x => !decide (x ∈ U)).map V.int)) nC
          have hC : upd H3 C (.lst (U.map V.int ++ ((N (k0 + i)).filter fun x => !decide (x ∈ U)).map V.int)) C = some (.lst ((U ++ (N (k0 + i)).filter fun x => !decide (x ∈ U)).map V.int)) := by rw [upd_same, List.map_append]
          have hs54 := (Kp.new (o := .lst (U.map V.int ++ ((N (k0 + i)).filter fun x => !decide (x ∈ U)).map V.int)) nC : Kp [] H3 _).g0 hs53
          have lk4 := (Kp.new (o := .lst (U.map V.int ++ ((N (k0 + i)).filter fun x => !decide (x ∈ U)).map V.int)) nC : Kp [] H3 _).g0 lk3
          generalize upd H3 C (.lst (U.map V.int ++ ((N (k0 + i)).filter fun x => !decide (x ∈ U)).map V.int)) = H4 at *
          wtm_at "rd"
          intro D2 nD2
          refine lcF_ints Y (fun x => decide (x ∈ N (k0 + i))) V.int (SqL.of hs54) nD2 (by omega) (fun j hj H5 E Nn k5 hE hN => ?_) (fun H5 k5 hD2 => ?_)
          · have lk5 := k5.g0 lk4
            wtm_at "rd"
            refine ⟨rfl, ?_⟩
            wtm_at "rd"
            refine ite_d (fun h => ?_) (fun h => ?_)
            · wtm_at "rd"
              exact hE _ Kp.refl (decide_eq_true h)
            · exact hN _ Kp.refl (decide_eq_false h)
          wtm_at "rd"
          exact ⟨_, _, _, _, rfl, k5.g0 hC, hD2, k4.trans k5, Wn.more (hP.nd _ hk).1 (hP.P.rng _ hk)⟩
        · exact ⟨_, _, _, _, rfl, hs4, hs5, kx, Wn.same (by omega) h2⟩
      · have i0 : i = 0 := by omega
        subst i0
        exact ⟨_, _, _, _, rfl, hs4, hs5, kx, Wn⟩
    clear Wn hs4 hs5 kx tk lk hqx u256 y20 s4 s5 U Y
    rintro σ H2 ⟨s4, s5, U, Y, rfl, hs4, hs5, kx, Wn⟩
    have u256 := Wn.len hR
    have y20 := Wn.yl
    wtm_at "rd"
    refine ite_d (fun h => ?_) (fun h => ?_)
    · wtm_at "rd"
      exact kk _ kx
    wtm_at "rd"
    refine rd_cut (fun σ H3 => (∃ (ck : Bool) (v10 : Option V), σ = [some (.ref q), some (.ref v), some (.int (k0 : Nat)), some (.int pat), some (.ref s4), some (.ref s5), some (.bl ck), some (.int ((k0 : Int) + (i : Int))), some (.ref ws[k0 + i].l), some (.int ((k0 : Int) + (i : Int) - (k0 : Int) + 1)), v10, none, none]) ∧ Kp [] H2 H3) ?_ ?_
    · wtm_at "rd"
      cases ck with
      | true =>
        wtm_at "rd"
        exact ⟨⟨_, _, rfl⟩, Kp.refl⟩
      | false =>
        wtm_at "rd"
        refine ite_d (fun h2 => ?_) (fun h2 => ?_)
        · wtm_at "rd"
          refine forL_ints Y (fun j σ H3 => (∃ v10 : Option V, σ = [some (.ref q), some (.ref v), some (.int (k0 : Nat)), some (.int pat), some (.ref s4), some (.ref s5), some (.bl true), some (.int ((k0 : Int) + (i : Int))), some (.ref ws[k0 + i].l), some (.int ((k0 : Int) + (i : Int) - (k0 : Int) + 1)), v10, none, none]) ∧ Kp [] H2 H3) ⟨⟨_, rfl⟩, Kp.refl⟩ (fun j σ H3 _ z => SqL.of (z.2.g0 hs5)) ?_ ?_
          · rintro j hj σ H3 ⟨⟨v10, rfl⟩, k3⟩
            have k03 := kx.trans k3
            have hq3 := k03.g0 hq
            wtm_at "rd"
            intro D nD
            have cw : cutV (ws.map fun w => V.ref w.t) (some (k0 : Int)) (some ((k0 : Int) + (i : Int) + 1)) = ((ws.drop k0).take (i + 1)).map fun w => V.ref w.t := by
              rw [show (k0 : Int) + (i : Int) + 1 = ((k0 + i + 1 : Nat) : Int) by omega, cut_in (by omega) (by omega), List.map_take, List.map_drop, show k0 + i + 1 - k0 = i + 1 by omega]
            rw [cw]
            have RW : RowsAt (upd H3 D (.lst (((ws.drop k0).take (i + 1)).map fun w => V.ref w.t))) D ((ws.drop k0).take (i + 1)) := ⟨upd_same, fun w hw => by
              obtain ⟨a1, a2⟩ := hW.ob w (List.mem_of_mem_drop (List.mem_of_mem_take hw))
              have a1 := k03.g0 a1
              have a2 := k03.g0 a2
              exact ⟨hu_ne (ne_of_none a1 nD) a1, hu_ne (ne_of_none a2 nD) a2⟩⟩
            wtm_at "rd"
            refine us_l_tried RW (by rw [List.length_take, List.length_drop]; omega) ?_ ?_
            · rcases hP.P.tried hR (A := k0) (K := k0 + i + 1) (s := Y[j]) (by omega) (by omega) Wn.nd Wn.rng (fun j' g1 g2 => ⟨Wn.y j' g1 g2 _ (List.getElem_mem hj), Wn.u j' g1 g2⟩) (by
                have := h2
                omega) with ⟨j', g1, g2, g3, g4⟩ | ht
              · refine .inl ⟨ws[j'], ?_, ?_, ?_⟩
                · refine List.mem_iff_getElem?.mpr ⟨j' - k0, ?_⟩
                  rw [List.getElem?_take_of_lt (by omega), List.getElem?_drop, show k0 + (j' - k0) = j' by omega]
                  exact List.getElem?_eq_getElem (by omega)
                · rw [(hP.row j' _ (List.getElem?_eq_getElem (by omega))).2.1]
                  exact g3
                · rw [(hP.row j' _ (List.getElem?_eq_getElem (by omega))).2.2]
                  exact g4
              · refine .inr ?_
                rw [tries_rows hP (by omega)]
                rw [show k0 + i + 1 - k0 = i + 1 by omega] at ht
                exact ht
            · wtm_at "rd"
              exact ⟨⟨_, rfl⟩, k3.nw nD⟩
          · rintro σ H3 ⟨⟨v10, rfl⟩, k3⟩
            exact ⟨⟨true, _, rfl⟩, k3⟩
        · exact ⟨⟨_, _, rfl⟩, Kp.refl⟩
    rintro σ H3 ⟨⟨ck2, v102, rfl⟩, k3⟩
    have hs43 := k3.g0 hs4
    have hs53 := k3.g0 hs5
    have kx := kx.trans k3
    have p1 := hP.P.pat
    wtm_at "rd"
    refine ite_d (fun h2 => ?_) (fun h2 => ?_)
    · obtain ⟨g, hg⟩ : ∃ g : Addr → Int × Int × Int, ∀ z, z ∈ zs → H z = some (.tup [.int (g z).1, .int (g z).2.1, .int (g z).2.2]) := Classical.axiomOfChoice (r := fun z (t : Int × Int × Int) => z ∈ zs → H z = some (.tup [.int t.1, .int t.2.1, .int t.2.2])) fun z => by
        by_cases hz : z ∈ zs
        · obtain ⟨x, y, u, e⟩ := vt z hz
          exact ⟨(x, y, u), fun _ => e⟩
        · exact ⟨(0, 0, 0), fun m => absurd m hz⟩
      have hv3 := kx.g0 hv
      wtm_at "rd"
      intro D nD
      refine lcF_pick zs V.ref (fun z => decide ((k0 : Int) ≤ (g z).1) && decide ((g z).2.1 ≤ (k0 : Int) + (i : Int))) (fun z => V.int (g z).2.2) (SqL.of hv3) nD (by omega) (fun j hj H4 E Nn k4 hE hN => ?_) (fun H4 k4 hD => ?_)
      · have hz := k4.g0 (kx.g0 (hg zs[j] (List.getElem_mem hj)))
        wtm_at "rd"
        refine ⟨rfl, ?_⟩
        wtm_at "rd"
        refine ite_d (fun h5 => ?_) (fun h5 => ?_)
        · wtm_at "rd"
          refine ite_d (fun h6 => ?_) (fun h6 => ?_)
          · wtm_at "rd"
            exact hE _ Kp.refl (by rw [decide_eq_true h5, decide_eq_true h6]; rfl)
          · exact hN _ Kp.refl (by rw [decide_eq_true h5, decide_eq_false h6]; rfl)
        · exact hN _ Kp.refl (by rw [decide_eq_false h5]; rfl)
      have hD : H4 D = some (.lst (((zs.filter fun z => decide ((k0 : Int) ≤ (g z).1) && decide ((g z).2.1 ≤ (k0 : Int) + (i : Int))).map fun z => (g z).2.2).map V.int)) := by
        rw [hD, List.map_map]
        rfl
      have hs54 := k4.g0 hs53
      wtm_at "rd"
      intro D2 nD2
      refine lcF_ints Y (fun x => !decide (x ∈ ((zs.filter fun z => decide ((k0 : Int) ≤ (g z).1) && decide ((g z).2.1 ≤ (k0 : Int) + (i : Int))).map fun z => (g z).2.2))) V.int (SqL.of hs54) nD2 (by omega) (fun j hj H5 E Nn k5 hE hN => ?_) (fun H5 k5 hD2 => ?_)
      · have hD5 := k5.g0 hD
        wtm_at "rd"
        refine ⟨rfl, ?_⟩
        wtm_at "rd"
        refine ite_n (fun h => ?_) (fun h => ?_)
        · wtm_at "rd"
          exact hE _ Kp.refl (by simp only [decide_eq_false h]; rfl)
        · exact hN _ Kp.refl (by simp only [decide_eq_true h]; rfl)
      have e : (Y.filter fun x => !decide (x ∈ ((zs.filter fun z => decide ((k0 : Int) ≤ (g z).1) && decide ((g z).2.1 ≤ (k0 : Int) + (i : Int))).map fun z => (g z).2.2))) = [] := List.filter_eq_nil_iff.mpr fun x hx => by
        obtain ⟨i0, e0, w1, w2, w3, w4, w5, w6⟩ := hP.P.whole hR (A := k0) (K := k0 + i + 1) (s := x) (by omega) (by omega) Wn.nd Wn.rng (fun j' g1 g2 => ⟨Wn.y j' g1 g2 _ hx, Wn.u j' g1 g2⟩) (by
          have := h2
          omega)
        have hNn : N (i0 + e0 - 1) ≠ [] := fun z => by
          have := Wn.y (i0 + e0 - 1) (by omega) (by omega) x hx
          rw [z] at this
          cases this
        obtain ⟨z, z1, z2⟩ := vc (i0 + e0 - 1) x (by omega) hNn (by rw [show i0 + e0 - 1 + 1 = i0 + e0 by omega]; exact w6) (by
          have := (w5 (e0 - 1) (by omega)).1
          rw [show i0 + (e0 - 1) = i0 + e0 - 1 by omega] at this
          exact this)
        rw [visF_on w4 e0 (fun t t1 t2 => (w5 t t1).2 t2) w2, hg z z1] at z2
        have z3 : (g z).1 = (i0 : Int) ∧ (g z).2.1 = ((i0 + e0 - 1 : Nat) : Int) ∧ (g z).2.2 = x := by
          injection z2 with z2
          injection z2 with z2
          injection z2 with y1 z2
          injection z2 with y2 z2
          injection z2 with y3 z2
          injection y1 with y1
          injection y2 with y2
          injection y3 with y3
          exact ⟨y1, y2, y3⟩
        have m : x ∈ ((zs.filter fun z => decide ((k0 : Int) ≤ (g z).1) && decide ((g z).2.1 ≤ (k0 : Int) + (i : Int))).map fun z => (g z).2.2) := List.mem_map.mpr ⟨z, List.mem_filter.mpr ⟨z1, by
          rw [decide_eq_true (show (k0 : Int) ≤ (g z).1 by omega), decide_eq_true (show (g z).2.1 ≤ (k0 : Int) + (i : Int) by omega)]
          rfl⟩, z3.2.2⟩
        rw [decide_eq_true m]
        exact Bool.false_ne_true
      rw [e] at hD2
      have hD2 : H5 D2 = some (.lst []) := hD2
      wtm_at "rd"
      exact kk _ ((kx.trans k4).trans k5)
    · refine ⟨_, _, _, _, _, _, _, _, _, rfl, hs43, hs53, kx, ?_⟩
      rw [show k0 + max (i + 1) 1 = k0 + i + 1 by omega]
      exact Wn
  · rintro σ Hx ⟨s4, s5, ck, v7, v8, v9, v10, U, Y, rfl, hs4, hs5, kx, Wn⟩
    wtm_at "rd"
    exact kk _ kx
theorem c_l_window (T : Cx K mg) (B : Tb K mg base) : CalX P w K mg base CX0 3 "_law_window" (sp_l_window K) [] := by
  obtain ⟨fd, F, ok⟩ := f_l_window (P := P) (w := w) (base := base) T B
  exact ⟨_, fd, p_l_window, [], ok, gl_l_window T, F.kp, FunD.bindsN F fun _ _ _ _ _ _ us hl => match us, hl with | [_, _, _, _], _ => rfl, .nil⟩
end
section
variable {P : Program} {w : World} {K : PySem.W.Frag} {mg : Str → Option Value} {base : Heap}

theorem ring_bits {b : Int} (h0 : 1 ≤ b) (h1 : b ≤ 8) : Ring (1 * 2 ^ b.toNat) := by
  have e : b = 1 ∨ b = 2 ∨ b = 3 ∨ b = 4 ∨ b = 5 ∨ b = 6 ∨ b = 7 ∨ b = 8 := by omega
  unfold Ring
  rcases e with e | e | e | e | e | e | e | e <;> rw [e] <;> decide
theorem Play.quiet {r pat : Int} {m : Nat} {N : Nat → List Int} {st ai : Nat → Mo} {b : Nat → Bool} (P : Play r pat m N st ai b) : ∀ k, k ≤ m → (∀ j, j < k → (ai j).now = none) → (st k).run = false ∧ (st k).last = (st 0).last
  | 0, _, _ => ⟨P.ini, rfl⟩
  | k + 1, hk, h => by
    obtain ⟨i1, i2⟩ := P.quiet k (by omega) (fun j hj => h j (by omega))
    have hN : N k = [] := Classical.byContradiction fun n => by
      obtain ⟨y, e, -, -⟩ := P.nonempty (show k < m by omega) n
      rw [h k (by omega)] at e
      cases e
    have e := P.rep k (by omega)
    rw [if_pos hN] at e
    rw [e]
    rcases P.aim k (by omega) with ⟨h1, h2, h3⟩ | ⟨h1, o, h2, h3⟩
    · rw [i1] at h1
      cases h1
    · cases o with
      | none =>
        rw [h3]
        exact ⟨rfl, i2⟩
      | some y =>
        have := h2.1
        rw [hN] at this
        cases this
/-- the first try -/
theorem Told.first {r pat last : Int} {ws : List Rw} {N : Nat → List Int} {st ai : Nat → Mo} {b : Nat → Bool} (W : Told r pat last ws N st ai b) {w : Rw} {rest : List Rw} (h : ws.filter (fun w => w.o.isSome) = w :: rest) :
    ∃ y, w.o = some y ∧ FirstOf r (last + 1) w.ns (some y) ∧ (∀ z, z ∈ w.ns → 0 ≤ z ∧ z < r) ∧ 0 < w.ns.length ∧ w.ns.length ≤ 20 ∧ w ∈ ws := by
  obtain ⟨pre, post, e, hpre, hw⟩ : ∃ pre post, ws = pre ++ w :: post ∧ (∀ v, v ∈ pre → v.o = none) ∧ w.o.isSome = true := by
    clear W
    induction ws with
    | nil => cases h
    | cons v ws ih =>
      by_cases c : v.o.isSome = true
      · rw [List.filter_cons, if_pos c] at h
        injection h with h1 h2
        subst h1
        exact ⟨[], ws, rfl, (fun v hv => by cases hv), c⟩
      · rw [List.filter_cons, if_neg c] at h
        obtain ⟨pre, post, e, h1, h2⟩ := ih h
        refine ⟨v :: pre, post, by rw [e]; rfl, fun u hu => ?_, h2⟩
        rcases List.mem_cons.mp hu with rfl | hu
        · simpa using c
        · exact h1 u hu
  have hk : pre.length < ws.length := by
    rw [e, List.length_append, List.length_cons]
    omega
  have ew : ws[pre.length]? = some w := by
    rw [e, List.getElem?_append_right (Nat.le_refl _), Nat.sub_self]
    rfl
  obtain ⟨r1, r2, r3⟩ := W.row _ _ ew
  obtain ⟨q1, q2⟩ := W.P.quiet pre.length (by omega) fun j hj => by
    have ej : ws[j]? = some pre[j] := by
      rw [e, List.getElem?_append_left hj]
      exact List.getElem?_eq_getElem hj
    rw [← (W.row _ _ ej).2.1]
    exact hpre _ (List.getElem_mem hj)
  obtain ⟨y, hy⟩ := Option.isSome_iff_exists.mp hw
  have mem : w ∈ ws := by
    rw [e]
    exact List.mem_append_right _ List.mem_cons_self
  rcases W.P.aim _ hk with ⟨h1, h2, h3⟩ | ⟨h1, o, h2, h3⟩
  · rw [q1] at h1
    cases h1
  · have eo : o = some y := by
      rw [h3] at r2
      rw [← hy, r2]
    subst eo
    rw [q2, W.last, ← r1] at h2
    exact ⟨y, hy, h2, fun z hz => W.P.rng _ hk z (by rw [← r1]; exact hz), List.length_pos_of_mem h2.1, by rw [r1]; exact (W.nd _ hk).2, mem⟩

def sp_law (K : PySem.W.Frag) : Sp := fun vs H Q E => ∃ (a : Addr) (ns : List Int), vs = [.ref a] ∧ (SqL K H a (ns.map V.int)) ∧ (ns.length ≤ 63) ∧ (LamX.Tabs (TT K) H) ∧ (∀ H1, Q (.bl true) H1)
theorem us_law {K : PySem.W.Frag} {H : Hp} {Q : VK} {E : XK} {a : Addr} {ns : List Int} (hS : SqL K H a (ns.map V.int)) (hl : ns.length ≤ 63) (hT : LamX.Tabs (TT K) H) (kk : ∀ H1, Q (.bl true) H1) : sp_law K [.ref a] H Q E := ⟨_, _, rfl, hS, hl, hT, kk⟩
theorem f_law (T : Cx K mg) (B : Tb K mg base) : ∃ fd, FunD K "law" "law" (defArgs s_law) (defBody s_law) (defScope s_law) (d_law.dvs K) (d_law.kws K) (fAd K d_law.at_) fd ∧ FnOk P w K mg base CX0 14 (fAd K d_law.at_) fd p_law (sp_law K) := by
  have c_l_box := c_l_box (P := P) (w := w) (base := base) T B
  have c_l_draw := c_l_draw (P := P) (w := w) (base := base) T B
  have c_l_bits := c_l_bits (P := P) (w := w) (base := base) T B
  have c_l_pool := c_l_pool (P := P) (w := w) (base := base) T B
  have c_l_patience := c_l_patience (P := P) (w := w) (base := base) T B
  have c_l_tour := c_l_tour (P := P) (w := w) (base := base) T B
  have c_l_played := c_l_played (P := P) (w := w) (base := base) T B
  have c_l_first := c_l_first (P := P) (w := w) (base := base) T B
  have c_l_visits := c_l_visits (P := P) (w := w) (base := base) T B
  have c_l_window := c_l_window (P := P) (w := w) (base := base) T B
  have c_Setting_init := c_Setting_init (P := P) (w := w) (base := base) T B
  obtain ⟨fd, F⟩ := T.says.def_ 20 (d := d_law) rfl
  refine ⟨fd, F, fnD F sc_law (fun vs H Q E h => by
    obtain ⟨_, _, rfl, _⟩ := h
    rfl) fun cdv A outer s H vs Q E hr h => ?_⟩
  have hu := hu_of hr
  obtain ⟨a, ns, rfl, hS, hl, hT, kk⟩ := h
  refine ⟨_, (pss_cons (ps_set (i := 1) sc_law.nd rfl (by first | exact Or.inl rfl | exact Or.inr rfl) (pe_cal c_l_box hr (by decide) (by rfl) pass0 (pa_cons (pv 0) pa_nil))) (pss_cons (ps_set (i := 2) sc_law.nd rfl (by first | exact Or.inl rfl | exact Or.inr rfl) (pe_cmpR op_eq (pe_cal c_l_draw hr (by decide) (by rfl) pass0 (pa_cons (pv 1) (pa_cons pe_int pa_nil))) pe_int (nomark _))) (pss_cons (ps_set (i := 3) sc_law.nd rfl (by first | exact Or.inl rfl | exact Or.inr rfl) (pe_cal c_l_bits hr (by decide) (by rfl) pass0 (pa_cons (pv 1) pa_nil))) (C8.pss_cut (ps_if (pt_val (pv 2)) (pss_one (ps_set (i := 3) sc_law.nd rfl (by first | exact Or.inl rfl | exact Or.inr rfl) (pe_op op_add pe_int (pe_cal c_l_draw hr (by decide) (by rfl) pass0 (pa_cons (pv 1) (pa_cons pe_int pa_nil)))))) pss_nil) (pss_cons (ps_set (i := 4) sc_law.nd rfl (by first | exact Or.inl rfl | exact Or.inr rfl) (pe_op op_shl pe_int (pv 3))) (pss_cons (ps_set (i := 5) sc_law.nd rfl (by first | exact Or.inl rfl | exact Or.inr rfl) (pe_cal c_l_draw hr (by decide) (by rfl) pass0 (pa_cons (pv 1) (pa_cons (pv 4) pa_nil)))) (pss_cons (ps_set (i := 6) sc_law.nd rfl (by first | exact Or.inl rfl | exact Or.inr rfl) (pe_cal c_l_pool hr (by decide) (by rfl) pass0 (pa_cons (pv 1) (pa_cons (pv 4) (pa_cons (pv 5) (pa_cons (pv 2) pa_nil)))))) (pss_cons (ps_set (i := 7) sc_law.nd rfl (by first | exact Or.inl rfl | exact Or.inr rfl) (pe_cal c_l_patience hr (by decide) (by rfl) pass0 (pa_cons (pv 1) pa_nil))) (C8.pss_cut (ps_if (pt_cmpR op_gt (pe_callB call_lenS (by rfl) (fr_len T) (by decide +kernel) (pa_cons (pv 6) pa_nil)) pe_int (nomark _)) (pss_one (ps_set (i := 7) sc_law.nd rfl (by first | exact Or.inl rfl | exact Or.inr rfl) (pe_op op_add pe_int (pe_op op_mod (pe_callTy call_int1' (by rfl) (fr_int T) (by decide +kernel) (pa_cons (pv 7) pa_nil)) pe_int)))) pss_nil) (pss_cons (ps_set (i := 8) sc_law.nd rfl (by first | exact Or.inl rfl | exact Or.inr rfl) (pe_mak c_Setting_init hr (by decide) (by rfl) pass0 (pa_cons (pv 3) (pa_cons (pv 7) (pa_cons (pe_op op_add pe_int (pe_cal c_l_draw hr (by decide) (by rfl) pass0 (pa_cons (pv 1) (pa_cons pe_int pa_nil)))) pa_nil))))) (pss_cons (ps_set (i := 9) sc_law.nd rfl (by first | exact Or.inl rfl | exact Or.inr rfl) (pe_cal c_l_tour hr (by decide) (by rfl) pass0 (pa_cons (pv 1) (pa_cons (pv 8) (pa_cons (pv 4) (pa_cons (pv 5) pa_nil)))))) (pss_cons (ps_set (i := 10) sc_law.nd rfl (by first | exact Or.inl rfl | exact Or.inr rfl) (pe_cal c_l_played hr (by decide) (by rfl) pass0 (pa_cons (pv 1) (pa_cons (pe_ix ix_tup (pv 9) pe_int (fun _ _ => rfl)) (pa_cons (pv 6) (pa_cons (pv 7) pa_nil)))))) (pss_cons (ps_if (pt_cmp (pc_isN (pv 10))) (pss_one (ps_ret pe_bl)) pss_nil) (pss_cons (ps_setLc (i := 11) (own := [("_law_row", 14)]) (g := (gName 14)) rfl sc_law.nd rfl rfl (sw_true rfl rfl rfl (by decide +kernel)) (pi_list (pv 10)) (blkOk_by (own := [("_law_row", 14)]) (N := n_law) (sc := defScope s_law) (by decide +kernel)) (fun _ _ _ _ _ => (pg_name (i := 14) sc_law.nd rfl (by first | exact Or.inl rfl | exact Or.inr rfl))) (fun _ _ _ _ _ => (pts_one (pt_cmp (pc_notN (pe_ix (ix_tupK (K := K) rfl) (pv 14) pe_int (fun _ _ => rfl)))))) (fun _ _ _ _ _ => (pv 14))) (C8.pss_cut (ps_if (PW.pt (pw_and (pt_cmpR op_gt (pe_callB call_lenS (by rfl) (fr_len T) (by decide +kernel) (pa_cons (pv 11) pa_nil)) pe_int (nomark _)) (pw_and1 (pt_cmpR op_ne (pe_ix ix_tup (pe_ix ix_list (pv 11) pe_int (fun _ _ => rfl)) pe_int (fun _ _ => rfl)) (pe_cal c_l_first hr (by decide) (by rfl) pass0 (pa_cons (pv 4) (pa_cons (pe_op op_add (pe_ix ix_tup (pv 9) pe_int (fun _ _ => rfl)) pe_int) (pa_cons (pe_ix ix_tup (pe_ix ix_list (pv 11) pe_int (fun _ _ => rfl)) pe_int (fun _ _ => rfl)) pa_nil)))) (nomark _))))) (pss_one (ps_ret pe_bl)) pss_nil) (pss_cons (ps_set (i := 12) sc_law.nd rfl (by first | exact Or.inl rfl | exact Or.inr rfl) (pe_cal c_l_visits hr (by decide) (by rfl) pass0 (pa_cons (pv 10) (pa_cons (pv 7) pa_nil)))) (pss_cons (ps_for PassesOwn.never rfl (pi_range1 (by rfl) (fr_range T) (pa_cons (pe_callB call_lenS (by rfl) (fr_len T) (by decide +kernel) (pa_cons (pv 10) pa_nil)) pa_nil)) (pg_name (i := 13) sc_law.nd rfl (by first | exact Or.inl rfl | exact Or.inr rfl)) (pss_one (ps_if (pt_not (pt_val (pe_cal c_l_window hr (by decide) (by rfl) pass0 (pa_cons (pv 10) (pa_cons (pv 12) (pa_cons (pv 13) (pa_cons (pv 7) pa_nil))))))) (pss_one (ps_ret pe_bl)) pss_nil))) (pss_one (ps_ret pe_bl))))))))))))))))))), ?_⟩
  rw [show L2.start n_law [.ref a] = [some (.ref a), none, none, none, none, none, none, none, none, none, none, none, none, none, none] from rfl]
  try dsimp only [cxOf, Cx.nox, Cx.wish, List.map]

  wtm_at "rd"
  refine us_l_box hS hl fun p c H1 B1 k1 np nc => ?_
  have t1 := tabs_kp hT k1 (fun _ z => by cases z)
  wtm_at "rd"
  refine us_l_draw B1 (by decide) (by decide) fun lg H2 g0 g1 B2 k2 => ?_
  have t2 := B1.tabs t1 k2
  wtm_at "rd"
  refine us_l_bits B2 fun b0 H3 b00 b01 B3 k3 => ?_
  have t3 := B2.tabs t2 k3
  wtm_at "rd"
  refine rd_cut (fun σ H4 => (∃ bits : Int, σ = [some (.ref a), some (.ref p), some (.bl (decide (lg = 0))), some (.int bits), none, none, none, none, none, none, none, none, none, none, none] ∧ 1 ≤ bits ∧ bits ≤ 8) ∧ Box H4 p c ∧ LamX.Tabs (TT K) H4) ?_ ?_
  · wtm_at "rd"
    refine ite_d (fun h => ?_) (fun h => ?_)
    · wtm_at "rd"
      refine us_l_draw B3 (by decide) (by decide) fun x H4 x0 x1 B4 k4 => ?_
      wtm_at "rd"
      exact ⟨⟨_, rfl, by omega, by omega⟩, B4, B3.tabs t3 k4⟩
    · wtm_at "rd"
      exact ⟨⟨_, rfl, by omega, by omega⟩, B3, t3⟩
  clear t1 t2 t3 k1 k2 k3 B1 B2 B3 hT hS b00 b01 b0
  rintro σ H4 ⟨⟨bits, rfl, b0, b1⟩, B4, t4⟩
  wtm_at "rd"
  have hR := ring_bits b0 b1
  obtain ⟨r, er⟩ : ∃ r : Int, r = 1 * 2 ^ bits.toNat := ⟨_, rfl⟩
  rw [← er] at hR ⊢
  have r2 := hR.two
  have r256 := hR.le
  refine us_l_draw B4 (by omega) (by omega) fun own H5 o0 o1 B5 k5 => ?_
  have t5 := B4.tabs t4 k5
  wtm_at "rd"
  refine us_l_pool B5 hR ⟨o0, o1⟩ fun q xs H6 P6 hq6 nq B6 k6 => ?_
  have t6 := B5.tabs t5 k6
  wtm_at "rd"
  refine us_l_patience B6 fun pa H7 pa0 pa1 B7 k7 => ?_
  have t7 := B6.tabs t6 k7
  have nqp : q ≠ p := Ne.symm (B5.ne1 nq)
  have hq7 := k7.g1 nqp hq6
  clear B4 t4 k5 t5 B5 k6 t6 hq6 k7 B6 nq
  have x20 := P6.len
  wtm_at "rd"
  refine rd_cut (fun σ H8 => H8 = H7 ∧ ∃ pat : Int, σ = [some (.ref a), some (.ref p), some (.bl (decide (lg = 0))), some (.int bits), some (.int r), some (.int own), some (.ref q), some (.int pat), none, none, none, none, none, none, none] ∧ 1 ≤ pat ∧ pat ≤ 6) ?_ ?_
  · wtm_at "rd"
    refine ite_d (fun h => ?_) (fun h => ?_)
    · wtm_at "rd"
      have m0 := Int.emod_nonneg pa (show (2 : Int) ≠ 0 by decide)
      have m1 := Int.emod_lt_of_pos pa (show (0 : Int) < 2 by decide)
      exact ⟨rfl, _, rfl, by omega, by omega⟩
    · exact ⟨rfl, _, rfl, by omega, by omega⟩
  rintro σ H8 ⟨rfl, pat, rfl, p0, p1⟩
  wtm_at "rd"
  refine us_l_draw B7 (by decide) (by decide) fun room H9 r0 r1 B9 k9 => ?_
  have t9 := B7.tabs t7 k9
  have hq9 := k9.g1 nqp hq7
  clear B7 t7 hq7 k9
  wtm_at "rd"
  intro S dS nS ndS neS
  have nS2 : upd H9 dS (.own S) S = none := hn_ne (Ne.symm neS) nS
  have k10 : Kp [] H9 (upd (upd H9 dS (.own S)) S (.ins (ga K "Setting") dS [])) := (Kp.new ndS).nw nS2
  have hS10 : upd (upd H9 dS (.own S)) S (.ins (ga K "Setting") dS []) S = some (.ins (ga K "Setting") dS []) := upd_same
  have B10 := B9.k0 k10
  have t10 := tabs_kp t9 k10 (fun _ z => by cases z)
  have hq10 := k10.g0 hq9
  have nSp := B9.ne1 nS
  have nSc := B9.ne2 nS
  generalize upd (upd H9 dS (.own S)) S (.ins (ga K "Setting") dS []) = H10 at *
  refine us_Setting_init (s := ⟨bits, pat, 1 + room, 6, 1⟩) hS10 ⟨b0, b1, p0, p1, by show 1 ≤ 1 + room; omega, by show 1 + room ≤ 64; omega, by show (1 : Int) ≤ 6; decide, by show (6 : Int) ≤ 200; decide, by show (0 : Int) ≤ 1; decide, by show (1 : Int) ≤ 3; decide⟩ fun H11 S11 k11 => ⟨rfl, ?_⟩
  have B11 := B10.k1 k11 nSp nSc
  have t11 := tabs_kp t10 k11 (fun x hx => by
    rw [List.mem_singleton.mp hx]
    exact ⟨_, hS10, trivial⟩)
  have hq11 := k11.g1 (ne_of hq10 hS10 (by intro z; cases z)) hq10
  clear B9 t9 hq9 nS2 k10 B10 t10 hq10 nSp nSc hS10 k11 nS ndS neS
  have e1 : r = Stg.ring ⟨bits, pat, 1 + room, 6, 1⟩ := by rw [er, Int.one_mul, Stg.ring_eq]
  have e2 : pat = Stg.pat ⟨bits, pat, 1 + room, 6, 1⟩ := rfl
  clear er
  generalize (⟨bits, pat, 1 + room, 6, 1⟩ : Stg) = s at *
  subst e1
  subst e2
  wtm_at "rd"
  refine us_l_tour B11 S11 fun m t last H12 hm T12 nt B12 k12 => ?_
  obtain ⟨⟨z1, z2, z3, z4, hp11, -, -⟩, -⟩ := id B11
  obtain ⟨⟨y1, y2, y3, y4, hp12, -, -⟩, -⟩ := id B12
  have S12 := S11.k1 k12 (S11.nelst hp11)
  have hq12 := k12.g1 nqp hq11
  have t12 := B11.tabs t11 k12
  have T12' := T12
  obtain ⟨dT, hT12⟩ := T12'
  clear B11 t11 S11 hq11 k12 nt hp11
  wtm_at "rd"
  refine us_l_played B12 S12 T12 hq12 P6 t12 fun rq ws N st ai b H13 W l90 R k13 => ?_
  have hm13 := k13.1 _ _ hm (by intro _ z; cases z) (by
    simp only [List.mem_cons, List.not_mem_nil, or_false, not_or]
    exact ⟨ne_of hm hp12 (by intro z; cases z), ne_of hm hT12 (by intro z; cases z)⟩)
  clear k13 hT12 T12 hm hp12 B12 S12 t12 hq12
  have hr13 := R.at_
  have lr : (ws.map fun w => V.ref w.t).length = ws.length := List.length_map ..
  have p1 := s
  wtm_at "rd"
  intro D nD
  refine lcF_pick ws (fun w => V.ref w.t) (fun w => w.o.isSome) (fun w => V.ref w.t) (SqL.of hr13) nD (by omega) (fun i hi H14 E Nn k14 hE hN => ?_) (fun H14 k14 hD => ?_)
  · have ht := k14.g0 (R.ob _ (List.getElem_mem hi)).1
    cases ho : ws[i].o with
    | none =>
      rw [ho] at ht
      wtm_at "rd"
      refine ⟨rfl, ?_⟩
      wtm_at "rd"
      exact hN _ Kp.refl (by rw [ho]; rfl)
    | some y =>
      rw [ho] at ht
      wtm_at "rd"
      refine ⟨rfl, ?_⟩
      wtm_at "rd"
      exact hE _ Kp.refl (by rw [ho]; rfl)
  have hm14 := k14.g0 hm13
  have hr14 := k14.g0 hr13
  have R14 : RowsAt H14 rq ws := ⟨hr14, fun w hw => ⟨k14.g0 (R.ob w hw).1, k14.g0 (R.ob w hw).2⟩⟩
  clear hm13 hr13 R k14 nD
  wtm_at "rd"
  refine rd_cut (fun σ H15 => σ = [some (.ref a), some (.ref p), some (.bl (decide (lg = 0))), some (.int bits), some (.int s.ring), some (.int own), some (.ref q), some (.int s.pat), some (.ref S), some (.ref m), some (.ref rq), some (.ref D), none, none, none] ∧ RowsAt H15 rq ws) ?_ ?_
  · cases ef : ws.filter fun w => w.o.isSome with
    | nil =>
      rw [ef] at hD
      wtm_at "rd"
      refine ite_d (fun h => absurd h (by simp)) (fun _ => ?_)
      exact ⟨rfl, R14⟩
    | cons w rest =>
      rw [ef] at hD
      obtain ⟨y, hy, f1, f2, f3, f4, f5⟩ := W.first ef
      obtain ⟨g1, g2⟩ := R14.ob w f5
      rw [hy] at g1
      have hat : atI ((w :: rest).map fun w => V.ref w.t) 0 = some (.ref w.t) := by
        have z : ((w :: rest).map fun w => V.ref w.t)[0]? = some (.ref w.t) := rfl
        simpa using atI_nat z
      wtm_at "rd"
      refine ite_d (fun _ => ?_) (fun h => absurd (show (0 : Int) < _ by rw [List.length_map, List.length_cons]; omega) h)
      wtm_at "rd"
      refine us_l_first hR (SqL.of g2) f2 ⟨f3, by omega⟩ fun y2 H15 u1 k15 => ?_
      obtain rfl : y = y2 := Option.some.inj (first_uniq hR f2 f1 u1)
      wtm_at "rd"
      refine ite_n (fun h => absurd rfl h) (fun _ => ?_)
      exact ⟨rfl, k15.g0 hr14, fun w hw => ⟨k15.g0 (R14.ob w hw).1, k15.g0 (R14.ob w hw).2⟩⟩
  clear R14 hr14 hm14 hD
  rintro σ H15 ⟨rfl, R15⟩
  wtm_at "rd"
  refine us_l_visits R15 W l90 fun v vs H16 hv lv tv av k16 => ?_
  have hr16 := k16.g0 R15.at_
  have R16 : RowsAt H16 rq ws := ⟨hr16, fun w hw => ⟨k16.g0 (R15.ob w hw).1, k16.g0 (R15.ob w hw).2⟩⟩
  clear R15 k16
  wtm_at "rd"
  refine forR_by (fun i σ Hx => (∃ v13, σ = [some (.ref a), some (.ref p), some (.bl (decide (lg = 0))), some (.int bits), some (.int s.ring), some (.int own), some (.ref q), some (.int s.pat), some (.ref S), some (.ref m), some (.ref rq), some (.ref D), some (.ref v), v13, none]) ∧ Kp [] H16 Hx) ⟨⟨_, rfl⟩, Kp.refl⟩ ?_ ?_
  · rintro i σ Hx hi ⟨⟨v13, rfl⟩, kx⟩
    have Rx : RowsAt Hx rq ws := ⟨kx.g0 hr16, fun w hw => ⟨kx.g0 (R16.ob w hw).1, kx.g0 (R16.ob w hw).2⟩⟩
    wtm_at "rd"
    rw [Int.zero_add]
    refine us_l_window hR Rx W l90 ‹_› (kx.g0 hv) lv (fun z hz => ?_) (fun k z h1 h2 h3 h4 => ?_) (by omega) fun H17 k17 => ?_
    · obtain ⟨x, y, u, e⟩ := tv z hz
      exact ⟨x, y, u, kx.g0 e⟩
    · obtain ⟨u, h5, h6⟩ := av k z h1 h2 h3 h4
      exact ⟨u, h5, kx.g0 h6⟩
    · wtm_at "rd"
      exact ⟨⟨_, rfl⟩, kx.trans k17⟩
  · rintro σ Hx ⟨⟨v13, rfl⟩, kx⟩
    wtm_at "rd"
    exact kk _
end
theorem law_all {P : Program} {w : World} {K : PySem.W.Frag} {mg : Str → Option Value} (T : Cx K mg) :
    ∃ fd : FuncData, (∀ (s : Shared) (v : Value), BindsTo s fd ⟨[v], []⟩ [("_law_script", v)]) ∧ ∀ base : Heap, Tb K mg base → FnOk P w K mg base CX0 14 (ga K "law") fd ["_law_script"] (sp_law K) := by
  obtain ⟨fd, F⟩ := T.says.def_ 20 (d := d_law) rfl
  have b := FunD.bindsA (ps := ["_law_script"]) F fun _ _ _ _ _ _ us hl => match us, hl with | [_], _ => rfl
  refine ⟨fd, fun s v => b s [v] rfl, fun base B => ?_⟩
  obtain ⟨fd2, F2, ok⟩ := f_law (P := P) (w := w) (base := base) T B
  have e : fd2 = fd := by
    obtain ⟨oc, od, dV, kV, doc, pm, an, cdv, ct, osl, e1, l1, -⟩ := F.ex
    obtain ⟨oc2, od2, dV2, kV2, doc2, pm2, an2, cdv2, ct2, osl2, e2, l2, -⟩ := F2.ex
    rw [l1] at l2
    injection l2 with l3
    injection l3 with _ _ l4 _
    injection l4 with l5
    exact l5.symm
  subst e
  exact ok

end My

open PySem PySem.W PySem.Calls PyProof.Rows
set_option maxRecDepth 100000 in
set_option maxHeartbeats 0 in
theorem PySem.Challenge.cw_livingroll_k25_whole_tour_windows_holds : PySem.Challenge.rw_livingroll_k25_whole_tour_windows.Holds := by
  w_on; o_law
  refine HandSHeadRun.head_any (r := OpenLaw.row PySem.Challenge.rw_livingroll_k25_whole_tour_windows) (q := view (OpenLaw.row PySem.Challenge.rw_livingroll_k25_whole_tour_windows).prog [25]) (H := My.hk) (ob := My.ob) (M := 6000) (loose := My.names) (d := HandSHeadRun.topDef (OpenLaw.row PySem.Challenge.rw_livingroll_k25_whole_tour_windows).prog 25) (kwd := []) My.ob_eq
    (by kernel_rfl) (fun s => by kernel_rfl) My.run (by kernel_rfl) (by kernel_rfl) (by kernel_rfl) (by rfl) (by first | assumption | decide +kernel) (by decide +kernel) ⟨rfl, rfl, rfl, rfl, rfl, by decide +kernel⟩ ?hw ?hc
  case hw => w_witness2
  case hc =>
    refine LamX.walk_ofTsE (l := PySem.Challenge.rw_livingroll_k25_whole_tour_windows) (n := 63) (k := 14) (x := "_law_script") (CX := fun _ => L2.CX0) rfl (by decide) (by kernel_rfl) ⟨rfl, by decide, by decide⟩ ?F (fun _ _ _ _ _ z => z)
    intro w mg fa h Y G hmg0
    obtain ⟨K, KX, c⟩ := Y
    have hmg : mg ("law" : PySem.Str) = some (.ref fa) := by
      have e : (HandSHeadRun.topDef (OpenLaw.row PySem.Challenge.rw_livingroll_k25_whole_tour_windows).prog 25).name = ("law" : PySem.Str) := by kernel_rfl
      rw [← e]
      exact hmg0
    have T : My.Cx K mg := ⟨c.x.t.d, c.x.more, h, KX, G⟩
    have e := hmg.symm.trans (My.gl_law T)
    cases e
    obtain ⟨fd, hb, hF⟩ := My.law_all (P := PySem.Challenge.pw_livingroll_k25_whole_tour_windows) (w := w) T
    refine ⟨K, KX, fd, My.tf.map (He.cT K), My.sp_law K, fun p hp => ?_, fun p hp => ?_, fun p hp => ?_, hb, fun H a ns hl _ hH hS => ⟨a, ns, rfl, hS, hl, RD.tabs_nil (tf := My.tf) (K := K) rfl hH, fun _ => rfl⟩, fun base _ _ B => hF base ⟨B, fun d hd => c.get hd⟩⟩
    · obtain ⟨q, hq, rfl⟩ := List.mem_map.mp hp
      exact c.x.empty q hq
    · obtain ⟨q, hq, rfl⟩ := List.mem_map.mp hp
      exact c.x.out q hq
    · obtain ⟨q, hq, rfl⟩ := List.mem_map.mp hp
      exact PySem.W.codeHd_of_K KX (c.x.hd q hq)
