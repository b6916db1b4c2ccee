import PyProof.Rows.All
import Wide.All
import OpenK.AllK
import Wide.FinOn
import KE.KStateDown
import Lean
import HandS.ForMost
import HandS.Flow
import HandS.IsInst
import HandS.DictTup
import HandS.Codes
import HandS.Defaults
import HandS.Head0
import HandS.Head1
import HandS.Head2
import HandS.HeadEnd
import HandS.HeadHook1
import HandS.HeadHook2
import HandS.HeadHook3
import HandS.Conv
import HandS.Property
import KE.SortKeyHeap
import KE.KMinKey
import HandS.Lambda
import HandS.Sort
import HandS.HeadHook4
import HandS.HeadWalk
import HandS.Property
import HandS.Style
import HandS.MakeKwOnly
import HandS.Wide
import HandS.More
import HandS.DictComp
import HandS.DeepEq
import KE.KExcSuper
import HandS.ExcOwn
import HandS.CallSlots
import HandS.ExcIs
import HandS.ExcField
import HandS.HeadWalk
import HandS.WordsExc
import KE.DataFind
import HandS.Deep
import HandS.GenList
import HandS.Flow
import PyProof.LongRange
import HandS.SortInts
import HandS.SetFor
import PySem.Challenge.RW_livingroll_k32_whole_reconcile_stripes
set_option Elab.async false
set_option linter.all false
set_option maxRecDepth 100000
set_option maxHeartbeats 4000000
/-! own layer: the head by facts, one lemma for each reading, a step tactic -/
namespace RD
open PySem PySem.Spec PyProof.Rows L2 He

/-! ### frames: what stays -/
def Kp (ps : List Addr) (H H' : Hp) : Prop := ∀ b o, H b = some o → b ∉ ps → H' b = some o
theorem Kp.refl {ps : List Addr} {H : Hp} : Kp ps H H := fun _ _ h _ => h
theorem Kp.trans {ps : List Addr} {H H1 H2 : Hp} (a : Kp ps H H1) (b : Kp ps H1 H2) : Kp ps H H2 := fun c o h n => b c o (a c o h n) n
theorem Kp.mono {ps qs : List Addr} {H H' : Hp} (a : Kp ps H H') (h : ∀ p, p ∈ ps → p ∈ qs) : Kp qs H H' := fun c o e n => a c o e fun m => n (h c m)
theorem Kp.of0 {qs : List Addr} {H H' : Hp} (a : Kp [] H H') : Kp qs H H' := fun c o e _ => a c o e (by simp)
theorem Kp.new {ps : List Addr} {H : Hp} {p : Addr} {o : HO} (h : H p = none) : Kp ps H (upd H p o) := fun b u e _ => by
  rw [upd_ne (ne_of_none e h)]
  exact e
theorem Kp.wr {ps : List Addr} {H H' : Hp} {p : Addr} {o : HO} (a : Kp ps H H') (h : p ∈ ps) : Kp ps H (upd H' p o) := fun b u e n => by
  have hb : b ≠ p := by
    intro z
    subst z
    exact n h
  rw [upd_ne hb]
  exact a b u e n
theorem Kp.nw {ps : List Addr} {H H' : Hp} {p : Addr} {o : HO} (a : Kp ps H H') (h : H' p = none) : Kp ps H (upd H' p o) := a.trans (Kp.new h)
/-- an object made behind H is written -/
theorem Kp.mine {ps : List Addr} {H H' : Hp} {p : Addr} {o : HO} (a : Kp ps H H') (h : H p = none) : Kp ps H (upd H' p o) := fun b u e n => by
  rw [upd_ne (ne_of_none e h)]
  exact a b u e n
theorem Kp.g0 {H H' : Hp} {b : Addr} {o : HO} (a : Kp [] H H') (e : H b = some o) : H' b = some o := a b o e (by simp)
theorem Kp.g1 {p : Addr} {H H' : Hp} {b : Addr} {o : HO} (a : Kp [p] H H') (n : b ≠ p) (e : H b = some o) : H' b = some o := a b o e (by simp [n])
theorem Kp.g2 {p q : Addr} {H H' : Hp} {b : Addr} {o : HO} (a : Kp [p, q] H H') (n : b ≠ p) (m : b ≠ q) (e : H b = some o) : H' b = some o := a b o e (by simp [n, m])
theorem Kp.g3 {p q r : Addr} {H H' : Hp} {b : Addr} {o : HO} (a : Kp [p, q, r] H H') (n : b ≠ p) (m : b ≠ q) (l : b ≠ r) (e : H b = some o) : H' b = some o := a b o e (by simp [n, m, l])
theorem Kp.back {ps : List Addr} {H H' : Hp} (a : Kp ps H H') {l : Addr} (h : H' l = none) (n : l ∉ ps) : H l = none := by
  cases q : H l with
  | none => rfl
  | some o =>
    rw [a l o q n] at h
    cases h
theorem Kp.via {ps qs : List Addr} {H H' H2 : Hp} (a : Kp ps H H') (b : Kp qs H' H2) (n : ∀ q, q ∈ qs → q ∈ ps ∨ H q = none) : Kp ps H H2 := fun c o e m => b c o (a c o e m) fun z => by
  rcases n c z with z | z
  · exact m z
  · rw [z] at e
    cases e
theorem Kp.via1 {ps : List Addr} {p : Addr} {H H' H2 : Hp} (a : Kp ps H H') (b : Kp [p] H' H2) (n : H p = none) : Kp ps H H2 := a.via b fun q hq => by
  rw [List.mem_singleton.mp hq]
  exact .inr n
theorem rd_kp {ps : List Addr} {H H' : Hp} {b : Addr} {u : HO} (a : Kp ps H H') (n : b ∉ ps) (h : Rd H b u) : Rd H' b u := by
  rcases h with h | ⟨o, h⟩
  · exact .inl (a _ _ h n)
  · exact .inr ⟨o, a _ _ h n⟩
theorem sl_kp {K : PySem.W.Frag} {ps : List Addr} {H H' : Hp} {b : Addr} {xs : List V} (a : Kp ps H H') (n : b ∉ ps) (h : SqL K H b xs) : SqL K H' b xs := by
  rcases h with h | h
  · exact .inl (rd_kp a n h)
  · exact .inr h
theorem st_kp {K : PySem.W.Frag} {ps : List Addr} {H H' : Hp} {b : Addr} {xs : List V} (a : Kp ps H H') (n : b ∉ ps) (h : SqT K H b xs) : SqT K H' b xs := by
  rcases h with h | h
  · exact .inl (rd_kp a n h)
  · exact .inr h
theorem sl_upd {K : PySem.W.Frag} {H : Hp} {b p : Addr} {o : HO} {xs : List V} (n : b ≠ p) (h : SqL K H b xs) : SqL K (upd H p o) b xs :=
  sl_kp (ps := [p]) (fun c u e m => by rw [upd_ne (by simpa using m)]; exact e) (by simpa using n) h
theorem st_upd {K : PySem.W.Frag} {H : Hp} {b p : Addr} {o : HO} {xs : List V} (n : b ≠ p) (h : SqT K H b xs) : SqT K (upd H p o) b xs :=
  st_kp (ps := [p]) (fun c u e m => by rw [upd_ne (by simpa using m)]; exact e) (by simpa using n) h
theorem hu_ne {H : Hp} {a b : Addr} {o u : HO} (n : b ≠ a) (e : H b = some u) : upd H a o b = some u := by
  rw [upd_ne n]
  exact e
theorem upd_is {H : Hp} {a : Addr} {o o' : HO} (e : o = o') : upd H a o a = some o' := by
  rw [e]
  exact upd_same
theorem ne_fresh {H : Hp} {a b : Addr} {o : HO} (h : upd H a o b = none) : a ≠ b := ne_of_none upd_same h
theorem hn_ne {H : Hp} {a b : Addr} {o : HO} (n : b ≠ a) (e : H b = none) : upd H a o b = none := by
  rw [upd_ne n]
  exact e

/-! ### readings, one lemma each -/
section
variable {K : PySem.W.Frag} {σ : L2.St} {H : Hp} {nx bk ct : L2.St → Hp → Prop} {rt : VK} {t u : TS} {te ta tb tc : TE} {tt tu : TT} {ar : TA} {Q : VK} {QB : Bool → Hp → Prop} {QA : List V → Hp → Prop} {v x y : V} {i j : Int}
abbrev En (nx : L2.St → Hp → Prop) (rt : VK) (bk ct : L2.St → Hp → Prop) : Ends := ⟨nx, rt, bk, ct⟩
theorem rd_seq (h : t ⟨u ⟨nx, rt, bk, ct⟩, rt, bk, ct⟩ σ H) : tSeq t u ⟨nx, rt, bk, ct⟩ σ H := h
theorem rd_next (h : nx σ H) : tNext ⟨nx, rt, bk, ct⟩ σ H := h
theorem rd_brk (h : bk σ H) : tBreak ⟨nx, rt, bk, ct⟩ σ H := h
theorem rd_cont (h : ct σ H) : tCont ⟨nx, rt, bk, ct⟩ σ H := h
theorem rd_asg {g : TG} (h : te σ H fun x H1 => g x σ H1 nx) : tAsg te g ⟨nx, rt, bk, ct⟩ σ H := h
theorem rd_ret (h : te σ H rt) : tRet te ⟨nx, rt, bk, ct⟩ σ H := h
theorem rd_retN (h : rt .non H) : tRetN ⟨nx, rt, bk, ct⟩ σ H := h
theorem rd_drop (h : te σ H fun _ H1 => nx σ H1) : tDrop te ⟨nx, rt, bk, ct⟩ σ H := h
theorem rd_ifS {D : Ends} (h : tt σ H fun b H1 => if b = true then t D σ H1 else u D σ H1) : tIfS tt t u D σ H := h
theorem rd_cut (M : L2.St → Hp → Prop) (h : t ⟨M, rt, bk, ct⟩ σ H) (k : ∀ σ' H', M σ' H' → u ⟨nx, rt, bk, ct⟩ σ' H') : C8.tCut t u ⟨nx, rt, bk, ct⟩ σ H := ⟨M, h, k⟩
theorem rd_gname {n : Nat} {Q : L2.St → Hp → Prop} (h : Q (σ.set n (some v)) H) : gName n v σ H Q := h
theorem rd_gsub {to ti : TE} {s : TSet} {Q : L2.St → Hp → Prop} (h : to σ H fun o H1 => ti σ H1 fun i H2 => s o i v H2 fun H3 => Q σ H3) : gSub to ti s v σ H Q := h
theorem rd_gtup {n : Nat} {g : TGs} {a : Addr} {xs : List V} {Q : L2.St → Hp → Prop} (h : SqT K H a xs) (e : xs.length = n) (q : g xs σ H Q) : gTup K n g (.ref a) σ H Q := ⟨a, xs, rfl, h, e, q⟩
theorem rd_gcons {g : TG} {gs : TGs} {r : List V} {Q : L2.St → Hp → Prop} (q : g v σ H fun σ' H' => gs r σ' H' Q) : gCons g gs (v :: r) σ H Q := ⟨v, r, rfl, q⟩
theorem rd_gnil {Q : L2.St → Hp → Prop} (q : Q σ H) : gNil [] σ H Q := ⟨rfl, q⟩
theorem rd_setL {p : Addr} {xs : List V} {k : Int} {j : Nat} {Q : Hp → Prop} (hp : H p = some (.lst xs)) (hj : ixN xs.length k = some j) (q : Q (upd H p (.lst (xs.set j v)))) : rSetL (.ref p) (.int k) v H Q := ⟨p, xs, k, j, rfl, rfl, hp, hj, q⟩
theorem rd_var {n : Nat} (e : σ[n]? = some (some v)) (h : Q v H) : tVar n σ H Q := ⟨v, e, h⟩
theorem rd_c (h : Q v H) : tC v σ H Q := h
theorem rd_op {r : R2} (h : ta σ H fun x H1 => tb σ H1 fun y H2 => r x y H2 Q) : tOp r ta tb σ H Q := h
theorem rd_un {r : V → Hp → VK → Prop} (h : ta σ H fun x H1 => r x H1 Q) : tUn r ta σ H Q := h
theorem rd_I0 {g : Int → Int → V} (h : Q (g i j) H) : rI0 g (.int i) (.int j) H Q := ⟨i, j, rfl, rfl, h⟩
theorem rd_I {C : Int → Int → Prop} {g : Int → Int → V} (c : C i j) (h : Q (g i j) H) : rI C g (.int i) (.int j) H Q := ⟨i, j, rfl, rfl, c, h⟩
theorem rd_U {g : Int → V} (h : Q (g i) H) : rU g (.int i) H Q := ⟨i, rfl, h⟩
theorem rd_eqI (h : Q (.bl (decide (i = j))) H) : rEq (.int i) (.int j) H Q := ⟨rfl, by
  rw [show decide (V.int i = V.int j) = decide (i = j) from decide_eq_decide.mpr ⟨fun e => V.int.inj e, fun e => congrArg V.int e⟩]
  exact h⟩
theorem rd_neI (h : Q (.bl (!decide (i = j))) H) : rNe (.int i) (.int j) H Q := ⟨rfl, by
  rw [show decide (V.int i = V.int j) = decide (i = j) from decide_eq_decide.mpr ⟨fun e => V.int.inj e, fun e => congrArg V.int e⟩]
  exact h⟩
theorem rd_eqS {a b : Str} (h : Q (.bl (decide (a = b))) H) : rEq (.str a) (.str b) H Q := ⟨rfl, by
  rw [show decide (V.str a = V.str b) = decide (a = b) from decide_eq_decide.mpr ⟨fun e => V.str.inj e, fun e => congrArg V.str e⟩]
  exact h⟩
theorem rd_neS {a b : Str} (h : Q (.bl (!decide (a = b))) H) : rNe (.str a) (.str b) H Q := ⟨rfl, by
  rw [show decide (V.str a = V.str b) = decide (a = b) from decide_eq_decide.mpr ⟨fun e => V.str.inj e, fun e => congrArg V.str e⟩]
  exact h⟩
theorem rd_eqB {a b : Bool} (h : Q (.bl (decide (a = b))) H) : rEq (.bl a) (.bl b) H Q := ⟨rfl, by
  rw [show decide (V.bl a = V.bl b) = decide (a = b) from decide_eq_decide.mpr ⟨fun e => V.bl.inj e, fun e => congrArg V.bl e⟩]
  exact h⟩
theorem rd_neB {a b : Bool} (h : Q (.bl (!decide (a = b))) H) : rNe (.bl a) (.bl b) H Q := ⟨rfl, by
  rw [show decide (V.bl a = V.bl b) = decide (a = b) from decide_eq_decide.mpr ⟨fun e => V.bl.inj e, fun e => congrArg V.bl e⟩]
  exact h⟩
theorem rd_eq (s : scal x y = true) (h : Q (.bl (decide (x = y))) H) : rEq x y H Q := ⟨s, h⟩
theorem rd_ne (s : scal x y = true) (h : Q (.bl (!decide (x = y))) H) : rNe x y H Q := ⟨s, h⟩
theorem rd_test (h : te σ H fun x H1 => ∃ k, x = .bl k ∧ QB k H1) : tTest te σ H QB := h
theorem rd_tB (h : te σ H fun x H1 => ∃ k, x = .bl k ∧ QB k H1) : tB te σ H QB := h
theorem rd_exb {b : Bool} {P : Bool → Prop} (h : P b) : ∃ k, V.bl b = V.bl k ∧ P k := ⟨b, rfl, h⟩
theorem rd_and (h : tt σ H fun c H1 => if c = true then tu σ H1 QB else QB false H1) : tAnd tt tu σ H QB := h
theorem rd_or (h : tt σ H fun c H1 => if c = true then QB true H1 else tu σ H1 QB) : tOr tt tu σ H QB := h
theorem rd_not (h : tt σ H fun c H1 => QB (!c) H1) : tNot tt σ H QB := h
theorem rd_andV (h : ta σ H fun x H1 => ∃ c, x = .bl c ∧ if c = true then tb σ H1 Q else Q (.bl false) H1) : tAndV ta tb σ H Q := h
theorem rd_orV (h : ta σ H fun x H1 => ∃ c, x = .bl c ∧ if c = true then Q (.bl true) H1 else tb σ H1 Q) : tOrV ta tb σ H Q := h
theorem rd_notV (h : ta σ H fun x H1 => ∃ c, x = .bl c ∧ Q (.bl (!c)) H1) : tNotV ta σ H Q := h
theorem rd_ifE (h : tt σ H fun c H1 => if c = true then ta σ H1 Q else tb σ H1 Q) : tIf tt ta tb σ H Q := h
theorem rd_isN (h : ta σ H fun x H1 => Q (.bl (decide (x = .non))) H1) : tIsN ta σ H Q := h
theorem rd_notN (h : ta σ H fun x H1 => Q (.bl (!decide (x = .non))) H1) : tNotN ta σ H Q := h
theorem rd_tru {b : Bool} {P : Bool → Prop} (e : TruV K x H b) (h : P b) : ∃ k, TruV K x H k ∧ P k := ⟨b, e, h⟩
theorem rd_CB {r : List V → Hp → VK → Prop} (h : ar σ H fun vs H1 => r vs H1 Q) : tCB r ar σ H Q := h
theorem rd_nil (h : QA [] H) : tNil σ H QA := h
theorem rd_cons {tr : TA} (h : ta σ H fun x H1 => tr σ H1 fun xs H2 => QA (x :: xs) H2) : tCons ta tr σ H QA := h
theorem rd_call {sp : Sp} {E : XK} (h : ar σ H fun vs H1 => sp vs H1 Q E) : tCall sp [] E ar σ H Q := by
  unfold tCall
  have e : (fun vs H1 => sp (vs ++ []) H1 Q E) = fun vs H1 => sp vs H1 Q E := by
    funext vs H1
    rw [List.append_nil]
  rw [e]
  exact h
theorem rd_make {C : Addr} {sp : Sp} {dvs : List V} {E : XK} (h : ar σ H fun vs H1 => ∀ x dx, H1 x = none → H1 dx = none → dx ≠ x → sp (.ref x :: (vs ++ dvs)) (upd (upd H1 dx (.own x)) x (.ins C dx [])) (fun v H2 => v = .non ∧ Q (.ref x) H2) E) : tMake C sp dvs E ar σ H Q := h
theorem rd_callD {sp : Sp} {dvs : List V} {E : XK} (h : ar σ H fun vs H1 => sp (vs ++ dvs) H1 Q E) : tCall sp dvs E ar σ H Q := h
theorem rd_tup (h : ar σ H fun xs H1 => xs.length ≤ sizeLine ∧ ∀ p, H1 p = none → Q (.ref p) (upd H1 p (.tup xs))) : tTup ar σ H Q := h
theorem rd_lst (h : ar σ H fun xs H1 => xs.length ≤ sizeLine ∧ ∀ p, H1 p = none → Q (.ref p) (upd H1 p (.lst xs))) : tLst ar σ H Q := h
theorem rd_ixL {p : Addr} {xs : List V} (h : SqL K H p xs) (a : atI xs i = some v) (q : Q v H) : rIxL K (.ref p) (.int i) H Q := ⟨p, xs, i, v, rfl, rfl, h, a, q⟩
theorem rd_ixT {p : Addr} {xs : List V} (h : SqT K H p xs) (a : atI xs i = some v) (q : Q v H) : rIxT K (.ref p) (.int i) H Q := ⟨p, xs, i, v, rfl, rfl, h, a, q⟩
theorem rd_fld {f : Str} {a C dx : Addr} {fs : List (Str × V)} {P : V → Hp → Prop} (h : H a = some (.ins C dx fs)) (c : Cls K C) (n : NoAttr K C f) (l : fs.lookup f = some v) (q : Q v H) :
    ∃ a' C' dx' fs' v', V.ref a = V.ref a' ∧ H a' = some (.ins C' dx' fs') ∧ Cls K C' ∧ NoAttr K C' f ∧ fs'.lookup f = some v' ∧ Q v' H := ⟨a, C, dx, fs, v, rfl, h, c, n, l, q⟩
theorem rd_meth {C : Addr} {m : Str} {sp : Sp} {E : XK} (h : ta σ H fun x H1 => ∃ a dx fs, x = .ref a ∧ H1 a = some (.ins C dx fs) ∧ fs.lookup m = none ∧ ar σ H1 fun vs H2 => sp (x :: vs) H2 Q E) : tMeth C m sp [] E ta ar σ H Q := by
  unfold tMeth
  have e : (fun (x : V) (H1 : Hp) => ∃ a dx fs, x = V.ref a ∧ H1 a = some (.ins C dx fs) ∧ fs.lookup m = none ∧ ar σ H1 fun vs H2 => sp (x :: (vs ++ [])) H2 Q E) =
      fun (x : V) (H1 : Hp) => ∃ a dx fs, x = V.ref a ∧ H1 a = some (.ins C dx fs) ∧ fs.lookup m = none ∧ ar σ H1 fun vs H2 => sp (x :: vs) H2 Q E := by
    funext x H1
    simp only [List.append_nil]
  rw [e]
  exact h
theorem rd_methX {C a dx : Addr} {m : Str} {fs : List (Str × V)} {R : Prop} (h : H a = some (.ins C dx fs)) (l : fs.lookup m = none) (q : R) : ∃ a' dx' fs', V.ref a = V.ref a' ∧ H a' = some (.ins C dx' fs') ∧ fs'.lookup m = none ∧ R := ⟨a, dx, fs, rfl, h, l, q⟩
theorem rd_bm {T : String} {r : V → List V → Hp → VK → Prop} (h : ta σ H fun x H1 => tyV K T x H1 ∧ ar σ H1 fun xs H2 => r x xs H2 Q) : tBM K T r ta ar σ H Q := h
theorem rd_bm0 {T : String} {r : V → List V → Hp → VK → Prop} (h : ta σ H fun x H1 => tyV K T x H1 ∧ r x [] H1 Q) : tBM0 K T r ta σ H Q := h
theorem ty_l {p : Addr} {xs : List V} {B : Prop} (h : SqL K H p xs) (q : B) : tyV K "list" (.ref p) H ∧ B := ⟨.inl ⟨rfl, xs, h⟩, q⟩
theorem rd_append {p : Addr} {xs : List V} (h : H p = some (.lst xs)) (l : xs.length < sizeLine) (q : Q .non (upd H p (.lst (xs ++ [v])))) : rAppend (.ref p) [v] H Q := ⟨p, xs, v, rfl, rfl, h, l, q⟩
/-! #### built-ins under names -/
def rInt1 : List V → Hp → VK → Prop := fun xs H Q => (∃ i, xs = [.int i] ∧ Q (.int i) H) ∨ ∃ k, xs = [.bl k] ∧ Q (.int (if k then 1 else 0)) H
theorem call_int1' {X : Cx} : CallR X (.type "int") rInt1 := call_int1
theorem rd_int1 (h : Q (.int i) H) : rInt1 [.int i] H Q := .inl ⟨i, rfl, h⟩
def rAbs : List V → Hp → VK → Prop := fun xs H Q => ∃ i, xs = [.int i] ∧ Q (.int (if i < 0 then -i else i)) H
theorem call_abs' {X : Cx} : CallR X (.builtin "abs") rAbs := call_abs
theorem rd_abs (h : Q (.int (i.natAbs : Int)) H) : rAbs [.int i] H Q := ⟨i, rfl, by
  rw [show (if i < 0 then -i else i) = (i.natAbs : Int) from by split <;> omega]
  exact h⟩
def rLenS (K : PySem.W.Frag) : List V → Hp → VK → Prop := fun xs H Q => ∃ p ys, xs = [.ref p] ∧ (SqL K H p ys ∨ SqT K H p ys) ∧ Q (.int ys.length) H
theorem call_lenS {X : Cx} : CallR X (.builtin "len") (rLenS X.K) := call_len_seq
theorem rd_lenL {p : Addr} {ys : List V} (h : SqL K H p ys) (q : Q (.int ys.length) H) : rLenS K [.ref p] H Q := ⟨p, ys, rfl, .inl h, q⟩
theorem rd_lenI {p : Addr} {ns : List Int} (h : SqL K H p (ns.map V.int)) (q : Q (.int ns.length) H) : rLenS K [.ref p] H Q := ⟨p, ns.map V.int, rfl, .inl h, by
  rw [List.length_map]
  exact q⟩
theorem rd_lenT {p : Addr} {ys : List V} (h : SqT K H p ys) (q : Q (.int ys.length) H) : rLenS K [.ref p] H Q := ⟨p, ys, rfl, .inr h, q⟩
def rMin2 : List V → Hp → VK → Prop := fun xs H Q => ∃ i j, xs = [.int i, .int j] ∧ Q (.int (if j < i then j else i)) H
theorem call_min2' {X : Cx} (hc : X.calm = true) : CallR X (.builtin "min") rMin2 := call_min2 hc
theorem rd_min2 (h : Q (.int (min i j)) H) : rMin2 [.int i, .int j] H Q := ⟨i, j, rfl, by
  rw [show (if j < i then j else i) = min i j from by split <;> omega]
  exact h⟩
def rMax2 : List V → Hp → VK → Prop := fun xs H Q => ∃ i j, xs = [.int i, .int j] ∧ Q (.int (if j > i then j else i)) H
theorem call_max2' {X : Cx} (hc : X.calm = true) : CallR X (.builtin "max") rMax2 := call_max2 hc
theorem rd_max2 (h : Q (.int (max i j)) H) : rMax2 [.int i, .int j] H Q := ⟨i, j, rfl, by
  rw [show (if j > i then j else i) = max i j from by split <;> omega]
  exact h⟩
def rListOf (K : PySem.W.Frag) : List V → Hp → VK → Prop := fun xs H Q => ∃ p ys, xs = [.ref p] ∧ (SqL K H p ys ∨ SqT K H p ys) ∧ ∀ l, H l = none → Q (.ref l) (upd H l (.lst ys))
theorem call_listOf {X : Cx} : CallR X (.type "list") (rListOf X.K) := call_list_of
theorem rd_listL {p : Addr} {ys : List V} (h : SqL K H p ys) (q : ∀ l, H l = none → Q (.ref l) (upd H l (.lst ys))) : rListOf K [.ref p] H Q := ⟨p, ys, rfl, .inl h, q⟩
/-- isinstance against one built-in class -/
theorem rd_isi {t : String} {c : String} {b : Bool} (ty : TyX K H x (.type t)) (e : kitB t c = some b) (h : Q (.bl b) H) : rIsi K [x, .ty c] H Q := ⟨x, .ty c, .type t, .type c, b, rfl, .ty c, ty, kit_ty e, h⟩

/-! ### loops -/
/-- what a for over the walk J asks -/
def ForG (J : It) (g : TG) (t : TS) (D : Ends) (σ : L2.St) (H : Hp) : Prop :=
  ∃ W : Nat → Nat → L2.St → Hp → Prop, (∃ m, W 0 m σ H) ∧ ∀ i m σ H, W i m σ H →
      (J.stop i H ∧ D.nx σ H) ∨ (J.go i H ∧ ∃ N : L2.St → Hp → Prop, (∀ σ' H', N σ' H' → ∃ m', m' < m ∧ W (i + 1) m' σ' H') ∧ ∀ x H', J.yld i H x H' → g x σ H' fun σ2 H2 => t { D with nx := N, ct := N, bk := D.nx } σ2 H2)
theorem rd_for {wi : TI} {g : TG} {D : Ends} (h : wi σ H fun J H1 => ForG J g t D σ H1) : tFor wi g t D σ H := h
theorem rd_iList {R : It → Hp → Prop} (h : te σ H fun x H1 => ∃ a, x = V.ref a ∧ (∃ xs, SqL K H1 a xs) ∧ R (Itl K a) H1) : iList K te σ H R := h
theorem rd_iTup {R : It → Hp → Prop} (h : te σ H fun x H1 => ∃ a, x = V.ref a ∧ (∃ xs, SqT K H1 a xs) ∧ R (Itt K a) H1) : iTup K te σ H R := h
theorem rd_iListX {p : Addr} {xs : List V} {R : Addr → Prop} (h : SqL K H p xs) (q : R p) : ∃ a, V.ref p = V.ref a ∧ (∃ xs, SqL K H a xs) ∧ R a := ⟨p, rfl, ⟨xs, h⟩, q⟩
theorem rd_iTupX {p : Addr} {xs : List V} {R : Addr → Prop} (h : SqT K H p xs) (q : R p) : ∃ a, V.ref p = V.ref a ∧ (∃ xs, SqT K H a xs) ∧ R a := ⟨p, rfl, ⟨xs, h⟩, q⟩
theorem rd_iRng1 {R : It → Hp → Prop} (h : ar σ H fun vs H1 => ∃ j : Int, vs = [.int j] ∧ -(2 ^ 62) ≤ j ∧ j < 2 ^ 62 ∧ R (Itr 0 j.toNat) H1) : iRng1 ar σ H R := h
theorem rd_iRng1X {R : Int → Prop} (h1 : -(2 ^ 62) ≤ j) (h2 : j < 2 ^ 62) (q : R j) : ∃ k : Int, [V.int j] = [V.int k] ∧ -(2 ^ 62) ≤ k ∧ k < 2 ^ 62 ∧ R k := ⟨j, rfl, h1, h2, q⟩
theorem rd_iRng2 {R : It → Hp → Prop} (h : ar σ H fun vs H1 => ∃ i j : Int, vs = [.int i, .int j] ∧ (-(2 ^ 62) ≤ i ∧ i < 2 ^ 62 ∧ -(2 ^ 62) ≤ j ∧ j < 2 ^ 62) ∧ R (Itr i (j - i).toNat) H1) : iRng2 ar σ H R := h
theorem rd_iRng2X {R : Int → Int → Prop} (h1 : -(2 ^ 62) ≤ i ∧ i < 2 ^ 62 ∧ -(2 ^ 62) ≤ j ∧ j < 2 ^ 62) (q : R i j) : ∃ k l : Int, [V.int i, V.int j] = [V.int k, V.int l] ∧ (-(2 ^ 62) ≤ k ∧ k < 2 ^ 62 ∧ -(2 ^ 62) ≤ l ∧ l < 2 ^ 62) ∧ R k l := ⟨i, j, rfl, h1, q⟩
/-- over a list that stays -/
theorem forL_by {a : Addr} {g : TG} (xs : List V) (Pv : Nat → L2.St → Hp → Prop) (h0 : Pv 0 σ H) (hl : ∀ i σ H, i ≤ xs.length → Pv i σ H → SqL K H a xs)
    (hs : ∀ i x σ H, xs[i]? = some x → Pv i σ H → g x σ H fun σ2 H2 => t ⟨Pv (i + 1), rt, nx, Pv (i + 1)⟩ σ2 H2) (hd : ∀ σ H, Pv xs.length σ H → nx σ H) : ForG (Itl K a) g t ⟨nx, rt, bk, ct⟩ σ H := for_list (K := K) Pv h0 hl hs hd
theorem forT_by {a : Addr} {g : TG} (xs : List V) (Pv : Nat → L2.St → Hp → Prop) (h0 : Pv 0 σ H) (hl : ∀ i σ H, i ≤ xs.length → Pv i σ H → SqT K H a xs)
    (hs : ∀ i x σ H, xs[i]? = some x → Pv i σ H → g x σ H fun σ2 H2 => t ⟨Pv (i + 1), rt, nx, Pv (i + 1)⟩ σ2 H2) (hd : ∀ σ H, Pv xs.length σ H → nx σ H) : ForG (Itt K a) g t ⟨nx, rt, bk, ct⟩ σ H := for_tup (K := K) Pv h0 hl hs hd
theorem forR_by {lo : Int} {n : Nat} {g : TG} (Pv : Nat → L2.St → Hp → Prop) (h0 : Pv 0 σ H)
    (hs : ∀ (i : Nat) σ H, i < n → Pv i σ H → g (.int (lo + i)) σ H fun σ2 H2 => t ⟨Pv (i + 1), rt, nx, Pv (i + 1)⟩ σ2 H2) (hd : ∀ σ H, Pv n σ H → nx σ H) : ForG (Itr lo n) g t ⟨nx, rt, bk, ct⟩ σ H := for_range Pv h0 hs hd
/-- the items one by one -/
theorem forL_ints {a : Addr} {g : TG} (ns : List Int) (Pv : Nat → L2.St → Hp → Prop) (h0 : Pv 0 σ H) (hl : ∀ i σ H, i ≤ ns.length → Pv i σ H → SqL K H a (ns.map V.int))
    (hs : ∀ (i : Nat) (h : i < ns.length) σ H, Pv i σ H → g (.int ns[i]) σ H fun σ2 H2 => t ⟨Pv (i + 1), rt, nx, Pv (i + 1)⟩ σ2 H2) (hd : ∀ σ H, Pv ns.length σ H → nx σ H) : ForG (Itl K a) g t ⟨nx, rt, bk, ct⟩ σ H :=
  forL_by (ns.map V.int) Pv h0 (fun i σ H hi p => hl i σ H (by simpa using hi) p) (fun i x σ H e p => by
    rw [List.getElem?_map] at e
    obtain ⟨z, hz, rfl⟩ := Option.map_eq_some_iff.mp e
    obtain ⟨h, rfl⟩ := List.getElem?_eq_some_iff.mp hz
    exact hs i h σ H p) (fun σ H p => hd σ H (by simpa using p))
theorem rd_while (Pv : L2.St → Hp → Prop) (μ : L2.St → Hp → Nat) (h0 : Pv σ H)
    (hs : ∀ σ H, Pv σ H → tt σ H fun b H1 => if b = true then t ⟨fun σ' H' => Pv σ' H' ∧ μ σ' H' < μ σ H, rt, nx, fun σ' H' => Pv σ' H' ∧ μ σ' H' < μ σ H⟩ σ H1 else nx σ H1)
    (mono : ∀ σ H Q Q', (∀ b H1, Q b H1 → Q' b H1) → tt σ H Q → tt σ H Q') : tWhile tt t ⟨nx, rt, bk, ct⟩ σ H := while_by Pv μ h0 hs mono
/-- a list comprehension -/
def LcG (J : It) (g : TG) (tt : TT) (te : TE) (vs : List Nat) (σ : L2.St) (D : Addr) (Qd : Hp → Prop) (H1 : Hp) : Prop :=
  ∃ W : Nat → Nat → Hp → Prop, (∃ m, W 0 m (upd H1 D (.lst []))) ∧ ∀ i m H, W i m H →
      (J.stop i H ∧ Qd H) ∨ (J.go i H ∧ ∃ Nx : Hp → Prop, (∀ H', Nx H' → ∃ m', m' < m ∧ W (i + 1) m' H') ∧ ∀ x H', J.yld i H x H' → g x (wipe σ vs) H' fun σ2 H2 => wipe σ2 vs = wipe σ vs ∧ tt σ2 H2 fun b H3 =>
        if b = true then te σ2 H3 fun y H4 => ∃ acc, H4 D = some (.lst acc) ∧ acc.length < sizeLine ∧ Nx (upd H4 D (.lst (acc ++ [y]))) else Nx H3)
theorem rd_lc {wi : TI} {g : TG} {vs : List Nat} (h : wi σ H fun J H1 => ∀ D, H1 D = none → LcG J g tt te vs σ D (fun H => Q (.ref D) H) H1) : tLc wi g tt te vs σ H Q := h
theorem lcL_by {a D : Addr} {g : TG} {vs : List Nat} {Qd : Hp → Prop} (xs : List V) (Pv : Nat → Hp → Prop) (h0 : Pv 0 (upd H D (.lst []))) (hl : ∀ i H, i ≤ xs.length → Pv i H → SqL K H a xs)
    (hs : ∀ i x H, xs[i]? = some x → Pv i H → g x (wipe σ vs) H fun σ2 H2 => wipe σ2 vs = wipe σ vs ∧ tt σ2 H2 fun b H3 =>
      if b = true then te σ2 H3 fun y H4 => ∃ acc, H4 D = some (.lst acc) ∧ acc.length < sizeLine ∧ Pv (i + 1) (upd H4 D (.lst (acc ++ [y]))) else Pv (i + 1) H3) (hd : ∀ H, Pv xs.length H → Qd H) : LcG (Itl K a) g tt te vs σ D Qd H := lc_list (K := K) Pv h0 hl hs hd
theorem lcR_by {lo : Int} {n : Nat} {D : Addr} {g : TG} {vs : List Nat} {Qd : Hp → Prop} (Pv : Nat → Hp → Prop) (h0 : Pv 0 (upd H D (.lst [])))
    (hs : ∀ (i : Nat) H, i < n → Pv i H → g (.int (lo + i)) (wipe σ vs) H fun σ2 H2 => wipe σ2 vs = wipe σ vs ∧ tt σ2 H2 fun b H3 =>
      if b = true then te σ2 H3 fun y H4 => ∃ acc, H4 D = some (.lst acc) ∧ acc.length < sizeLine ∧ Pv (i + 1) (upd H4 D (.lst (acc ++ [y]))) else Pv (i + 1) H3) (hd : ∀ H, Pv n H → Qd H) : LcG (Itr lo n) g tt te vs σ D Qd H := lc_range Pv h0 hs hd
theorem lcL_ints {a D : Addr} {g : TG} {vs : List Nat} {Qd : Hp → Prop} (ns : List Int) (Pv : Nat → Hp → Prop) (h0 : Pv 0 (upd H D (.lst []))) (hl : ∀ i H, i ≤ ns.length → Pv i H → SqL K H a (ns.map V.int))
    (hs : ∀ (i : Nat) (h : i < ns.length) H, Pv i H → g (.int ns[i]) (wipe σ vs) H fun σ2 H2 => wipe σ2 vs = wipe σ vs ∧ tt σ2 H2 fun b H3 =>
      if b = true then te σ2 H3 fun y H4 => ∃ acc, H4 D = some (.lst acc) ∧ acc.length < sizeLine ∧ Pv (i + 1) (upd H4 D (.lst (acc ++ [y]))) else Pv (i + 1) H3) (hd : ∀ H, Pv ns.length H → Qd H) : LcG (Itl K a) g tt te vs σ D Qd H :=
  lcL_by (ns.map V.int) Pv h0 (fun i H hi p => hl i H (by simpa using hi) p) (fun i x H e p => by
    rw [List.getElem?_map] at e
    obtain ⟨z, hz, rfl⟩ := Option.map_eq_some_iff.mp e
    obtain ⟨h, rfl⟩ := List.getElem?_eq_some_iff.mp hz
    exact hs i h H p) (fun H p => hd H (by simpa using p))
theorem rd_yes {QB : Bool → Hp → Prop} (h : QB true H) : tYes σ H QB := h
end

/-! ### callables in one piece -/
section
variable {P : Program} {w : World} {K : PySem.W.Frag} {mg : Str → Option Value} {base : Heap} {CX : CXT} {X : Cx} {k j : Nat} {C : Addr} {x m : Str} {sp : Sp} {dvs : List V} {E : XK} {p pos apos : Pos} {e o : Expr} {es : List Expr} {ta : TE} {t : TA}
structure CalX (P : Program) (w : World) (K : PySem.W.Frag) (mg : Str → Option Value) (base : Heap) (CX : CXT) (k : Nat) (x : Str) (sp : Sp) (dvs : List V) : Prop where
  ex : ∃ (f : Addr) (fd : FuncData) (ps : List Str) (ds : List Value), FnOk P w K mg base CX k f fd ps sp ∧ mg x = some (.ref f) ∧ PySem.W.keepIn K (.ref f) = true ∧ Binds K fd ps ds ∧ Vals dvs ds
structure MetX (P : Program) (w : World) (K : PySem.W.Frag) (mg : Str → Option Value) (base : Heap) (CX : CXT) (k : Nat) (C : Addr) (m : Str) (sp : Sp) (dvs : List V) : Prop where
  ex : ∃ (f : Addr) (fd : FuncData) (ps : List Str) (ds : List Value), Cls K C ∧ Meth K C m f ∧ FnOk P w K mg base CX k f fd ps sp ∧ Binds K fd ps ds ∧ Vals dvs ds
structure MakX (P : Program) (w : World) (K : PySem.W.Frag) (mg : Str → Option Value) (base : Heap) (CX : CXT) (k : Nat) (x : Str) (C : Addr) (sp : Sp) (dvs : List V) : Prop where
  ex : ∃ (f : Addr) (fd : FuncData) (ps : List Str) (ds : List Value), Mk K C f ∧ FnOk P w K mg base CX k f fd ps sp ∧ mg x = some (.ref C) ∧ Binds K fd ps ds ∧ Vals dvs ds
theorem pe_cal (c : CalX X.prog X.w X.K X.mg X.base CX k x sp dvs) (hr : Room j X.A) (hk : k ≤ j) (hg : Gl X x) (hx : Passes CX X E) (ha : PA X (e :: es) t)
    (hdb : (x == ("__debug__" : Str)) = false := by decide) (he : starEach (e :: es) X.env = (false, eval e X.env) :: starEach es X.env := by rfl) (hpl : (backTo pos (starEach es X.env)).any (·.1) = false := by rfl) :
    PE X (.Call (.Name x p) (e :: es) [] pos) (tCall sp dvs E t) := by
  obtain ⟨f, fd, ps, ds, F, hm, kp, b, d⟩ := c.ex
  exact pe_call F (hr.mono hk) hg hm kp b d hx ha hdb he hpl
theorem pe_mak (c : MakX X.prog X.w X.K X.mg X.base CX k x C sp dvs) (hr : Room j X.A) (hk : k + 1 ≤ j) (hg : Gl X x) (hx : Passes CX X E) (ha : PA X (e :: es) t)
    (hdb : (x == ("__debug__" : Str)) = false := by decide) (he : starEach (e :: es) X.env = (false, eval e X.env) :: starEach es X.env := by rfl) (hpl : (backTo pos (starEach es X.env)).any (·.1) = false := by rfl) :
    PE X (.Call (.Name x p) (e :: es) [] pos) (tMake C sp dvs E t) := by
  obtain ⟨f, fd, ps, ds, M, F, hm, b, d⟩ := c.ex
  exact pe_make M F (hr.mono hk) hg hm b d hx ha hdb he hpl
theorem pe_met {pl : Sem Bool} (c : MetX X.prog X.w X.K X.mg X.base CX k C m sp dvs) (hr : Room j X.A) (hk : k ≤ j) (hx : Passes CX X E) (he : PE X o ta) (ha : PA X (e :: es) t)
    (hst : starEach (e :: es) X.env = (false, eval e X.env) :: starEach es X.env := by rfl) (hpl : (backTo pos (starEach es X.env)).any (·.1) = false := by rfl)
    (ht : eval (.Call (.Attribute o m apos) (e :: es) [] pos) X.env = (do
      let ov ← eval o X.env
      standAt apos.atName
      let (f, first) ← holding [ov] (getMethod ov m pl)
      callWith pos f first (backTo pos (starEach (e :: es) X.env)) (backToKw pos (keywordEach [] X.env))) := by rfl) :
    PE X (.Call (.Attribute o m apos) (e :: es) [] pos) (tMeth C m sp dvs E ta t) := by
  obtain ⟨f, fd, ps, ds, cl, me, F, b, d⟩ := c.ex
  exact pe_meth he cl me F (hr.mono hk) b d hx ha hst hpl ht
end

/-! ### a def's promise by its body -/
section
variable {P : Program} {w : World} {K : PySem.W.Frag} {mg : Str → Option Value} {base : Heap} {CX : CXT} {x qual : Str} {params : Arguments} {body : List Stmt} {scope : Scope} {dvs : List V} {kws : List (Str × V)} {f : Addr} {fd : FuncData}
theorem fnD {N ps : List Str} {k : Nat} {sp : Sp} (F : FunD K x qual params body scope dvs kws f fd) (S : FnScope N ps scope) (len : ∀ vs H Q E, sp vs H Q E → vs.length = ps.length)
    (hbody : ∀ (cdv : Value) (A : Around) (outer : List Env) (s : Shared) (H : Hp) (vs : List V) (Q : VK) (E : XK), Room k (A.deeper (envOfC qual scope s.heap.objs.size f cdv)) → sp vs H Q E →
      ∃ t, PSs (cxOf CX0 P w K mg base N qual scope f cdv A outer s H E).nox body t ∧ t ⟨fun _ H' => Q .non H', Q, fun _ _ => False, fun _ _ => False⟩ (start N vs) H) : FnOk P w K mg base CX0 (k + 1) f fd ps sp :=
  F.ok S len fun cdv A outer s H vs Q E hr h => let ⟨t, h1, h2⟩ := hbody cdv A outer s H vs Q E hr h; ⟨t, h1.nox, h2⟩
end

/-! ### the head: facts of a top, one Bool more -/
abbrev AlM : Type := AlD × Bool
def obsM (n : Nat) (fa : List Fa) (fn : List DefD) (ex : PySem.W.Frag → Bool) (g : Addr → Option Obj) : AlM := (obsD fa fn (frG g (asD g n)), ex (frG g (asD g n)))
def hookM (n : Nat) (fa : List Fa) (fn : List DefD) (ex : PySem.W.Frag → Bool) : PySem.W.Hook where
  α := AlM
  obs := fun s => obsM n fa fn ex s.heap.get?
  val := fun _ => (valD fn, true)
  says := fun _ h => ∃ K : PySem.W.Frag, K.In h ∧ SaysD fa fn K ∧ ex K = true
  of := fun _ _ e => ⟨_, frG_in, congrArg (fun z : AlM => z.1) e, congrArg (fun z : AlM => z.2) e⟩
  keeps := fun _ _ _ ⟨K, hK, c, d⟩ k => ⟨K, PySem.W.Frag.In.keeps hK k, c, d⟩
theorem obsM_eq {n : Nat} {fa : List Fa} {fn : List DefD} {ex : PySem.W.Frag → Bool} {g : Addr → Option Obj} {s : Shared} (h : ∀ a, g a = s.heap.get? a) : obsM n fa fn ex g = (hookM n fa fn ex).obs s := by
  have e : g = s.heap.get? := funext h
  rw [e] <;> rfl
/-- what the defs lean on -/
structure Ctx (fa : List Fa) (fn : List DefD) (ex : PySem.W.Frag → Bool) (K : PySem.W.Frag) (mg : Str → Option Value) : Prop where
  says : SaysD fa fn K
  ex : ex K = true
  at_ : ∃ h, K.In h ∧ h.Ns mainGlobals mg
section
variable {fa : List Fa} {fn : List DefD} {ex : PySem.W.Frag → Bool} {K : PySem.W.Frag} {mg : Str → Option Value}
theorem Ctx.glo (T : Ctx fa fn ex K mg) (i : Nat) {x : Str} (h : fa[i]? = some (.glo x) := by rfl) : mg x = some (.ref (ga K x)) := let ⟨_, X, G⟩ := T.at_; glo_ok X G (T.says.fact i h)
theorem Ctx.fre (T : Ctx fa fn ex K mg) (i : Nat) {x : Str} (h : fa[i]? = some (.free x) := by rfl) : mg x = none := let ⟨_, X, G⟩ := T.at_; free_ok X G (T.says.fact i h)
theorem Ctx.cls (T : Ctx fa fn ex K mg) (i : Nat) {x : Str} (h : fa[i]? = some (.cls x) := by rfl) : Cls K (ga K x) := cls_ok (T.says.fact i h)
theorem Ctx.noat (T : Ctx fa fn ex K mg) (i : Nat) {x f : Str} (h : fa[i]? = some (.noat x f) := by rfl) : NoAttr K (ga K x) f := noat_ok (T.says.fact i h)
theorem Ctx.meth (T : Ctx fa fn ex K mg) (i : Nat) {x m : Str} (h : fa[i]? = some (.meth x m) := by rfl) : Meth K (ga K x) m (ma K (ga K x) m) := meth_ok (T.says.fact i h)
theorem Ctx.mkr (T : Ctx fa fn ex K mg) (i : Nat) {x : Str} (h : fa[i]? = some (.mkr x) := by rfl) : Mk K (ga K x) (ma K (ga K x) "__init__") := mkr_ok (T.says.fact i h)
theorem Ctx.int (T : Ctx fa fn ex K mg) (i : Nat) {x : Str} {z : Int} (h : fa[i]? = some (.int x z) := by rfl) : ∃ t, mg x = some (.int z t) := let ⟨_, X, G⟩ := T.at_; int_ok X G (T.says.fact i h)
theorem Ctx.str (T : Ctx fa fn ex K mg) (i : Nat) {x z : Str} (h : fa[i]? = some (.str x z) := by rfl) : ∃ t, mg x = some (.str z t) := let ⟨_, X, G⟩ := T.at_; str_ok X G (T.says.fact i h)
end
theorem pe_globC {X : Cx} {x : Str} {v : V} {pos : Pos} (hg : Gl X x) (h : ∃ u, X.mg x = some u ∧ RelV v u) (hd : (x == ("__debug__" : Str)) = false := by decide) : PE X (.Name x pos) (tC v) := let ⟨_, hm, r⟩ := h; pe_glob hg hm r hd

/-! ### small facts -/
theorem ite_d {p A B : Prop} [Decidable p] (h1 : p → A) (h2 : ¬ p → B) : if decide p = true then A else B := by
  by_cases h : p
  · rw [decide_eq_true h, if_pos rfl]
    exact h1 h
  · rw [decide_eq_false h, if_neg Bool.false_ne_true]
    exact h2 h
theorem ite_n {p A B : Prop} [Decidable p] (h1 : ¬ p → A) (h2 : p → B) : if (!decide p) = true then A else B := by
  by_cases h : p
  · rw [decide_eq_true h]
    exact iteF (h2 h)
  · rw [decide_eq_false h]
    exact iteT (h1 h)
theorem ite_b {b : Bool} {A B : Prop} (h1 : b = true → A) (h2 : b = false → B) : if b = true then A else B := by
  cases b
  · exact iteF (h2 rfl)
  · exact iteT (h1 rfl)
theorem ite_t {b : Bool} {A B : Prop} (e : b = true) (h : A) : if b = true then A else B := by
  subst e
  exact iteT h
theorem ite_f {b : Bool} {A B : Prop} (e : b = false) (h : B) : if b = true then A else B := by
  subst e
  exact iteF h
theorem atI_ints {ns : List Int} {i : Int} (h0 : 0 ≤ i) (h1 : i < ns.length) : atI (ns.map V.int) i = some (.int (ns.getD i.toNat 0)) := by
  obtain ⟨j, rfl⟩ := Int.eq_ofNat_of_zero_le h0
  refine atI_nat ?_
  have hj : j < ns.length := by omega
  rw [List.getElem?_map, List.getElem?_eq_getElem hj]
  simp [hj]
theorem take_map_succ {ns : List Int} {i : Nat} (h : i < ns.length) : (ns.take i).map V.int ++ [V.int ns[i]] = (ns.take (i + 1)).map V.int := by
  rw [List.take_succ_eq_append_getElem h, List.map_append]
  rfl
theorem sz1000 {n : Nat} (h : n ≤ 1000000) : n ≤ sizeLine := Nat.le_trans h (by decide)
theorem szlt {n : Nat} (h : n < 1000000) : n < sizeLine := Nat.lt_of_lt_of_le h (by decide)

/-! ### more readings -/
section
variable {K : PySem.W.Frag} {σ : L2.St} {H : Hp} {nx bk ct : L2.St → Hp → Prop} {rt : VK} {te ta tb tc : TE} {ar : TA} {Q : VK} {QB : Bool → Hp → Prop} {v x y z : V} {i j : Int}
theorem rd_sfld {f : Str} (h : tb σ H fun y H1 => ta σ H1 fun x H2 => ∃ a C dx fs, x = V.ref a ∧ H2 a = some (.ins C dx fs) ∧ Cls K C ∧ NoAttr K C f ∧ fs.length < 1000 ∧ nx σ (upd H2 a (.ins C dx (putF f y fs)))) : sFld K ta tb f ⟨nx, rt, bk, ct⟩ σ H := h
theorem rd_sfldX {f : Str} {a C dx : Addr} {fs : List (Str × V)} {R : Addr → Addr → Addr → List (Str × V) → Prop} (h : H a = some (.ins C dx fs)) (c : Cls K C) (n : NoAttr K C f) (l : fs.length < 1000) (q : R a C dx fs) :
    ∃ a' C' dx' fs', V.ref a = V.ref a' ∧ H a' = some (.ins C' dx' fs') ∧ Cls K C' ∧ NoAttr K C' f ∧ fs'.length < 1000 ∧ R a' C' dx' fs' := ⟨a, C, dx, fs, rfl, h, c, n, l, q⟩
theorem rd_tfld {f : Str} (h : ta σ H fun x H1 => ∃ a C dx fs v, x = V.ref a ∧ H1 a = some (.ins C dx fs) ∧ Cls K C ∧ NoAttr K C f ∧ fs.lookup f = some v ∧ Q v H1) : tFld K ta f σ H Q := h
theorem rd_fldX {f : Str} {a C dx : Addr} {fs : List (Str × V)} {R : V → Prop} (h : H a = some (.ins C dx fs)) (c : Cls K C) (n : NoAttr K C f) (l : fs.lookup f = some v) (q : R v) :
    ∃ a' C' dx' fs' v', V.ref a = V.ref a' ∧ H a' = some (.ins C' dx' fs') ∧ Cls K C' ∧ NoAttr K C' f ∧ fs'.lookup f = some v' ∧ R v' := ⟨a, C, dx, fs, v, rfl, h, c, n, l, q⟩
theorem rd_tcon {f : Str} (h : ta σ H fun x H1 => ∃ a C dx fs v u, x = V.ref a ∧ H1 a = some (.ins C dx fs) ∧ Cls K C ∧ Con K C f v u ∧ fs.lookup f = none ∧ Q v H1) : tCon K ta f σ H Q := h
theorem rd_conX {f : Str} {a C dx : Addr} {fs : List (Str × V)} {R : V → Prop} (h : H a = some (.ins C dx fs)) (c : Cls K C) (n : ∃ u, Con K C f v u) (l : fs.lookup f = none) (q : R v) :
    ∃ a' C' dx' fs' v' u, V.ref a = V.ref a' ∧ H a' = some (.ins C' dx' fs') ∧ Cls K C' ∧ Con K C' f v' u ∧ fs'.lookup f = none ∧ R v' := let ⟨u, n⟩ := n; ⟨a, C, dx, fs, v, u, rfl, h, c, n, l, q⟩
/-! isinstance -/
theorem rd_isi_ii (h : Q (.bl true) H) : rIsi K [.int i, .ty "int"] H Q := rd_isi (.base (.int i)) (by decide +kernel) h
theorem rd_isi_ib (h : Q (.bl false) H) : rIsi K [.int i, .ty "bool"] H Q := rd_isi (.base (.int i)) (by decide +kernel) h
theorem rd_isi_bb {b : Bool} (h : Q (.bl true) H) : rIsi K [.bl b, .ty "bool"] H Q := rd_isi (.base (.bl b)) (by decide +kernel) h
theorem rd_isi_bi {b : Bool} (h : Q (.bl true) H) : rIsi K [.bl b, .ty "int"] H Q := rd_isi (.base (.bl b)) (by decide +kernel) h
theorem rd_isi_ss {b : Str} (h : Q (.bl true) H) : rIsi K [.str b, .ty "str"] H Q := rd_isi (.base (.str b)) (by decide +kernel) h
theorem rd_isi_ll {a : Addr} {xs : List V} (e : H a = some (.lst xs)) (h : Q (.bl true) H) : rIsi K [.ref a, .ty "list"] H Q := rd_isi (.base (.lst e)) (by decide +kernel) h
theorem rd_isi_tt {a : Addr} {xs : List V} (e : H a = some (.tup xs)) (h : Q (.bl true) H) : rIsi K [.ref a, .ty "tuple"] H Q := rd_isi (.base (.tup e)) (by decide +kernel) h
/-! known tests -/
section
variable {A B : Prop}
theorem ite_nt (h : B) : if (!true) = true then A else B := iteF h
theorem ite_nf (h : A) : if (!false) = true then A else B := iteT h
theorem ite_in (h : B) : if decide (V.int i = V.non) = true then A else B := iteF h
theorem ite_rn {a : Addr} (h : B) : if decide (V.ref a = V.non) = true then A else B := iteF h
theorem ite_sn {a : Str} (h : B) : if decide (V.str a = V.non) = true then A else B := iteF h
theorem ite_bn {a : Bool} (h : B) : if decide (V.bl a = V.non) = true then A else B := by
  cases a <;> exact iteF h
theorem ite_nn (h : A) : if decide (V.non = V.non) = true then A else B := iteT h
theorem ite_xin (h : A) : if (!decide (V.int i = V.non)) = true then A else B := iteT h
theorem ite_xrn {a : Addr} (h : A) : if (!decide (V.ref a = V.non)) = true then A else B := iteT h
theorem ite_xnn (h : B) : if (!decide (V.non = V.non)) = true then A else B := iteF h
end
/-! dicts with tuple keys -/
theorem rd_dnewT (h : ∀ p, H p = none → Q (.ref p) (upd H p (.dT []))) : tDNewT σ H Q := h
theorem rd_dnewK (h : ∀ p, H p = none → Q (.ref p) (upd H p (.dK []))) : tDNewK σ H Q := h
theorem rd_dget2 (h : ta σ H fun x H1 => ∃ a, x = V.ref a ∧ IsD H1 a ∧ tb σ H1 fun y H2 => tc σ H2 fun z H3 => ∃ o, DGet H3 a y o ∧ Q (o.getD z) H3) : tDGet2 ta tb tc σ H Q := h
theorem rd_isdX {a : Addr} {R : Addr → Prop} (d : IsD H a) (q : R a) : ∃ a', V.ref a = V.ref a' ∧ IsD H a' ∧ R a' := ⟨a, rfl, d, q⟩
theorem isD_T {a : Addr} {kvs : List (List Key × V)} (e : H a = some (.dT kvs)) : IsD H a := .inr ⟨kvs, .inl e⟩
theorem isD_K {a : Addr} {kvs : List (Key × V)} (e : H a = some (.dK kvs)) : IsD H a := .inl ⟨kvs, .inl e⟩
theorem rd_dgX {a : Addr} {o : Option V} {R : Option V → Prop} (d : DGet H a y o) (q : R o) : ∃ o', DGet H a y o' ∧ R o' := ⟨o, d, q⟩
theorem dg_is {a b : Addr} {kvs : List (List Key × V)} {s : Int} {z : Str} (e : H a = some (.dT kvs)) (eb : H b = some (.tup [.int s, .str z])) : DGet H a (.ref b) (valV kvs [.inl s, .inr z]) := DGet.t (k := [.inl s, .inr z]) e eb
theorem rd_sdput (h : tc σ H fun v H1 => ta σ H1 fun x H2 => tb σ H2 fun y H3 => ∃ a H4, x = V.ref a ∧ DPut H3 a y v H4 ∧ nx σ H4) : sDPut ta tb tc ⟨nx, rt, bk, ct⟩ σ H := h
theorem rd_dpX {a : Addr} {H' : Hp} {R : Hp → Prop} (d : DPut H a y v H') (q : R H') : ∃ a' H4, V.ref a = V.ref a' ∧ DPut H a' y v H4 ∧ R H4 := ⟨a, H', rfl, d, q⟩
theorem dp_is {a b : Addr} {kvs : List (List Key × V)} {s : Int} {z : Str} (e : H a = some (.dT kvs)) (eb : H b = some (.tup [.int s, .str z])) (l : kvs.length < sizeLine) : DPut H a (.ref b) v (upd H a (.dT (putK kvs [.inl s, .inr z] v))) := DPut.t (k := [.inl s, .inr z]) e eb l
theorem ty_d {a : Addr} {kvs : List (List Key × V)} {B : Prop} (h : H a = some (.dT kvs)) (q : B) : tyV K "dict" (.ref a) H ∧ B := ⟨.inr (.inr (.inl ⟨rfl, .inr ⟨kvs, h⟩⟩)), q⟩
theorem ty_dK {a : Addr} {kvs : List (Key × V)} {B : Prop} (h : H a = some (.dK kvs)) (q : B) : tyV K "dict" (.ref a) H ∧ B := ⟨.inr (.inr (.inl ⟨rfl, .inl ⟨kvs, h⟩⟩)), q⟩
theorem rd_popT {a b : Addr} {kvs : List (List Key × V)} {s : Int} {t : Str} (e : H a = some (.dT kvs)) (eb : H b = some (.tup [.int s, .str t])) (q1 : ∀ v, valV kvs [.inl s, .inr t] = some v → Q v (upd H a (.dT (dropK kvs [.inl s, .inr t])))) (q2 : valV kvs [.inl s, .inr t] = none → Q x H) :
    DX.rPopT (.ref a) [.ref b, x] H Q := ⟨a, kvs, [.inl s, .inr t], b, x, rfl, rfl, e, eb, q1, q2⟩
theorem valV_drop {κ : Type} [DecidableEq κ] (k j : κ) : ∀ kvs : List (κ × V), valV (dropK kvs k) j = if j = k then none else valV kvs j
  | [] => by
    by_cases h : j = k
    · rw [if_pos h]
      rfl
    · rw [if_neg h]
      rfl
  | p :: r => by
    have ih := valV_drop k j r
    by_cases e : p.1 = k
    · rw [dropK_pos e, ih]
      by_cases h : j = k
      · rw [if_pos h, if_pos h]
      · rw [if_neg h, if_neg h, valV_neg (fun z => h (z.symm.trans e))]
    · rw [dropK_neg e]
      by_cases h : p.1 = j
      · rw [valV_pos h, if_neg (fun z => e (h.trans z)), valV_pos h]
      · rw [valV_neg h, ih, valV_neg h]
theorem putK_le {κ : Type} [DecidableEq κ] (kvs : List (κ × V)) (k : κ) (v : V) : (putK kvs k v).length ≤ kvs.length + 1 := by
  unfold putK
  split
  · rw [List.length_map]
    omega
  · rw [List.length_append]
    exact Nat.le_refl _
theorem rd_cat {a b : Addr} {xs ys : List V} (h1 : H a = some (.lst xs)) (h2 : H b = some (.lst ys)) (l : xs.length + ys.length ≤ sizeLine) (q : ∀ p, H p = none → Q (.ref p) (upd H p (.lst (xs ++ ys)))) : rCat (.ref a) (.ref b) H Q := ⟨a, b, xs, ys, rfl, rfl, h1, h2, l, q⟩
/-! list(range(..)) -/
theorem rd_lstRg {t : L2.St → Hp → (Int → Int → Hp → Prop) → Prop} (h : t σ H fun a b H1 => RgOk a b ∧ ∀ q, H1 q = none → Q (.ref q) (upd H1 q (.lst (rgV a b)))) : tLstRg t σ H Q := h
theorem rd_rg1 {R : Int → Int → Hp → Prop} (h : ta σ H fun x H1 => ∃ n, x = V.int n ∧ R 0 n H1) : tRg1 ta σ H R := h
theorem rd_rg2 {R : Int → Int → Hp → Prop} (h : ta σ H fun x H1 => tb σ H1 fun y H2 => ∃ i j, x = V.int i ∧ y = V.int j ∧ R i j H2) : tRg2 ta tb σ H R := h
theorem rd_inX {R : Int → Prop} (h : R i) : ∃ n, V.int i = V.int n ∧ R n := ⟨i, rfl, h⟩
theorem rd_inX2 {R : Int → Int → Prop} (h : R i j) : ∃ n m, V.int i = V.int n ∧ V.int j = V.int m ∧ R n m := ⟨i, j, rfl, rfl, h⟩
theorem rgV_0 (n : Int) : rgV 0 n = ((List.range n.toNat).map fun (i : Nat) => (i : Int)).map V.int := by
  unfold rgV
  rw [List.map_map, Int.sub_zero]
  congr 1
  funext i
  show V.int (0 + (i : Int)) = V.int (i : Int)
  rw [Int.zero_add]
end

/-! ### dicts with int and text keys, slices, more -/
section
variable {K : PySem.W.Frag} {σ : L2.St} {H : Hp} {nx bk ct : L2.St → Hp → Prop} {rt : VK} {t : TS} {te ta tb tc : TE} {tt : TT} {ar : TA} {Q : VK} {QB : Bool → Hp → Prop} {v x y z : V} {i j : Int}
theorem rd_din (h : ta σ H fun y H1 => tb σ H1 fun x H2 => ∃ a o, x = V.ref a ∧ DGet H2 a y o ∧ Q (.bl o.isSome) H2) : tDIn ta tb σ H Q := h
theorem rd_dnotin (h : ta σ H fun y H1 => tb σ H1 fun x H2 => ∃ a o, x = V.ref a ∧ DGet H2 a y o ∧ Q (.bl (!o.isSome)) H2) : tDNotIn ta tb σ H Q := h
theorem rd_dget (h : ta σ H fun x H1 => tb σ H1 fun y H2 => ∃ a v, x = V.ref a ∧ DGet H2 a y (some v) ∧ Q v H2) : tDGet ta tb σ H Q := h
theorem rd_dget1 (h : ta σ H fun x H1 => ∃ a, x = V.ref a ∧ IsD H1 a ∧ tb σ H1 fun y H2 => ∃ o, DGet H2 a y o ∧ Q (o.getD .non) H2) : tDGet1 ta tb σ H Q := h
theorem rd_dinX {a : Addr} {o : Option V} {R : Option V → Prop} (d : DGet H a y o) (q : R o) : ∃ a' o', V.ref a = V.ref a' ∧ DGet H a' y o' ∧ R o' := ⟨a, o, rfl, d, q⟩
theorem rd_dgetX {a : Addr} {R : V → Prop} (d : DGet H a y (some v)) (q : R v) : ∃ a' v', V.ref a = V.ref a' ∧ DGet H a' y (some v') ∧ R v' := ⟨a, v, rfl, d, q⟩
theorem dg_i {a : Addr} {kvs : List (Key × V)} (e : H a = some (.dK kvs)) : DGet H a (.int i) (valV kvs (.inl i)) := DGet.k (k := .inl i) e
theorem dg_s {a : Addr} {kvs : List (Key × V)} {s : Str} (e : H a = some (.dK kvs)) : DGet H a (.str s) (valV kvs (.inr s)) := DGet.k (k := .inr s) e
theorem dg_iv {a : Addr} {kvs : List (Key × V)} (e : H a = some (.dK kvs)) (l : valV kvs (.inl i) = some v) : DGet H a (.int i) (some v) := l ▸ dg_i e
theorem dg_sv {a : Addr} {kvs : List (Key × V)} {s : Str} (e : H a = some (.dK kvs)) (l : valV kvs (.inr s) = some v) : DGet H a (.str s) (some v) := l ▸ dg_s e
theorem dp_i {a : Addr} {kvs : List (Key × V)} (e : H a = some (.dK kvs)) (l : kvs.length < sizeLine) : DPut H a (.int i) v (upd H a (.dK (putK kvs (.inl i) v))) := DPut.k (k := .inl i) e l
theorem dp_s {a : Addr} {kvs : List (Key × V)} {s : Str} (e : H a = some (.dK kvs)) (l : kvs.length < sizeLine) : DPut H a (.str s) v (upd H a (.dK (putK kvs (.inr s) v))) := DPut.k (k := .inr s) e l
theorem rd_disp {trs : List (TE × TE)} (h : ∀ p, H p = none → tPairs trs σ (upd H p (.dK [])) fun ps H2 => H2 p = some (.dK []) ∧ ∃ kvs : List (Key × V), ps = kvs.map (fun kv => (kV kv.1, kv.2)) ∧ kvs.length ≤ 15 ∧ Q (.ref p) (upd H2 p (.dK (mergeK [] kvs)))) : tDisp trs σ H Q := h
theorem rd_pnil {R : List (V × V) → Hp → Prop} (h : R [] H) : tPairs [] σ H R := h
theorem rd_pcons {trs : List (TE × TE)} {R : List (V × V) → Hp → Prop} (h : ta σ H fun x H1 => tb σ H1 fun y H2 => tPairs trs σ H2 fun ps H3 => R ((x, y) :: ps) H3) : tPairs ((ta, tb) :: trs) σ H R := h
theorem rd_sl {r : V → Option Int → Option Int → Hp → VK → Prop} {tl th : TO} (h : te σ H fun x H1 => tl σ H1 fun l H2 => th σ H2 fun u H3 => r x l u H3 Q) : tSl r te tl th σ H Q := h
theorem rd_part {R : Option Int → Hp → Prop} (h : te σ H fun x H1 => ∃ i, x = V.int i ∧ R (some i) H1) : tPart te σ H R := h
theorem rd_nopart {R : Option Int → Hp → Prop} (h : R none H) : tNoPart σ H R := h
theorem rd_slL {a : Addr} {xs : List V} {lo hi : Option Int} (h : SqL K H a xs) (q : ∀ p, H p = none → Q (.ref p) (upd H p (.lst (cutV xs lo hi)))) : rSlL K (.ref a) lo hi H Q := ⟨a, xs, rfl, h, q⟩
theorem cut_to {xs : List V} {k : Nat} : cutV xs none (some (k : Int)) = xs.take k := by
  unfold cutV
  rw [HT.sIx_none, HT.sIx_nat, List.drop_zero, Nat.sub_zero, List.take_eq_take_iff]
  omega
theorem cut_from {xs : List V} {k : Nat} : cutV xs (some (k : Int)) none = xs.drop k := by
  unfold cutV
  rw [HT.sIx_none, HT.sIx_nat]
  by_cases h : k ≤ xs.length
  · rw [Nat.min_eq_left h, List.take_of_length_le (by rw [List.length_drop]; exact Nat.le_refl _)]
  · rw [Nat.min_eq_right (by omega), Nat.sub_self, List.take_zero, List.drop_of_length_le (by omega)]
theorem cut_all {xs : List V} : cutV xs none none = xs := by
  unfold cutV
  rw [HT.sIx_none, HT.sIx_none, List.drop_zero, Nat.sub_zero, List.take_length]
theorem rd_popAt {a : Addr} {xs : List V} {k : Nat} (h : H a = some (.lst xs)) (b1 : -(2 ^ 63) ≤ i) (b2 : i < 2 ^ 63) (s : seqIndex? i xs.length = some k) (g : xs[k]? = some v) (q : Q v (upd H a (.lst (xs.eraseIdx k)))) : rPopAt (.ref a) [.int i] H Q := ⟨a, xs, i, k, v, rfl, rfl, h, b1, b2, s, g, q⟩
theorem rd_clear {a : Addr} {xs : List V} (h : H a = some (.lst xs)) (q : Q .non (upd H a (.lst []))) : rClear (.ref a) [] H Q := ⟨a, xs, rfl, rfl, h, q⟩
theorem rd_aug {n : Nat} {ti : TIp} (e : σ[n]? = some (some x)) (h : te σ H fun y H1 => ti x y H1 fun z H2 => nx (σ.set n (some z)) H2) : tAug n te ti ⟨nx, rt, bk, ct⟩ σ H := ⟨x, e, h⟩
theorem rd_ipI {f : Int → Int → Int} (h : Q (.int (f i j)) H) : ipI f (.int i) (.int j) H Q := ⟨i, j, rfl, rfl, h⟩
theorem rd_whileM (W : Nat → L2.St → Hp → Prop) (m : Nat) (h0 : W m σ H)
    (hs : ∀ m σ H, W m σ H → tt σ H fun b H1 => if b = true then ∃ N : L2.St → Hp → Prop, (∀ σ' H', N σ' H' → ∃ m', m' < m ∧ W m' σ' H') ∧ t ⟨N, rt, nx, N⟩ σ H1 else nx σ H1) : tWhile tt t ⟨nx, rt, bk, ct⟩ σ H := ⟨W, ⟨m, h0⟩, hs⟩
theorem inV_ints (a : Int) : ∀ ns : List Int, inV (.int a) (ns.map V.int) = decide (a ∈ ns)
  | [] => rfl
  | b :: r => by
    have ih := inV_ints a r
    unfold inV at ih ⊢
    rw [List.map_cons, List.any_cons, ih]
    show ((b == a) || decide (a ∈ r)) = decide (a ∈ b :: r)
    by_cases h : b = a
    · subst h
      simp
    · have h2 : (b == a) = false := beq_eq_false_iff_ne.mpr h
      rw [h2, Bool.false_or]
      simp [List.mem_cons, Ne.symm h]
theorem flat_ints : ∀ ns : List Int, (ns.map V.int).all flatV = true
  | [] => rfl
  | _ :: r => by
    rw [List.map_cons, List.all_cons, flat_ints r]
    rfl
theorem rd_inI {p : Addr} {ns : List Int} (h : SqL K H p (ns.map V.int)) (q : Q (.bl (decide (i ∈ ns))) H) : rIn K false (.int i) (.ref p) H Q := ⟨p, ns.map V.int, rfl, .inl h, rfl, flat_ints ns, by
  rw [inV_ints]
  exact q⟩
theorem rd_notInI {p : Addr} {ns : List Int} (h : SqL K H p (ns.map V.int)) (q : Q (.bl (!decide (i ∈ ns))) H) : rIn K true (.int i) (.ref p) H Q := ⟨p, ns.map V.int, rfl, .inl h, rfl, flat_ints ns, by
  rw [inV_ints]
  exact q⟩
def rLenD : List V → Hp → VK → Prop := fun xs H Q => ∃ a kvs, xs = [V.ref a] ∧ H a = some (.dK kvs) ∧ Q (.int kvs.length) H
theorem call_lenD' {X : Cx} : CallR X (.builtin "len") rLenD := call_lenD
theorem rd_lenD {a : Addr} {kvs : List (Key × V)} (h : H a = some (.dK kvs)) (q : Q (.int kvs.length) H) : rLenD [.ref a] H Q := ⟨a, kvs, rfl, h, q⟩
/-! enumerate -/
theorem rd_iEnum {R : It → Hp → Prop} (h : ar σ H fun vs H1 => ∃ a xs, vs = [V.ref a] ∧ SqL K H1 a xs ∧ R (Ite K a) H1) : iEnum K ar σ H R := h
theorem rd_iEnumX {p : Addr} {xs : List V} {R : Addr → Prop} (h : SqL K H p xs) (q : R p) : ∃ a xs, [V.ref p] = [V.ref a] ∧ SqL K H a xs ∧ R a := ⟨p, xs, rfl, h, q⟩
theorem forE_by {a : Addr} {g : TG} (xs : List V) (Pv : Nat → L2.St → Hp → Prop) (h0 : Pv 0 σ H) (hl : ∀ i σ H, i ≤ xs.length → Pv i σ H → SqL K H a xs)
    (hs : ∀ i x σ H T, xs[i]? = some x → Pv i σ H → H T = none → g (.ref T) σ (upd H T (.tup [.int (i : Nat), x])) fun σ2 H2 => t ⟨Pv (i + 1), rt, nx, Pv (i + 1)⟩ σ2 H2) (hd : ∀ σ H, Pv xs.length σ H → nx σ H) : ForG (Ite K a) g t ⟨nx, rt, bk, ct⟩ σ H := by
  refine ⟨fun i m σ H => m = xs.length - i ∧ i ≤ xs.length ∧ Pv i σ H, ⟨xs.length, by simp, Nat.zero_le _, h0⟩, ?_⟩
  rintro i m σ H ⟨rfl, hi, p⟩
  have q := hl i σ H hi p
  by_cases hlt : i < xs.length
  · refine .inr ⟨⟨xs, xs[i], q, by simp [hlt]⟩, Pv (i + 1), fun σ' H' p' => ⟨xs.length - (i + 1), by omega, rfl, hlt, p'⟩, fun x H' y => ?_⟩
    obtain ⟨T, z, rfl, nT, rfl, hz⟩ := y
    exact hs i z σ H T (hz xs q) p nT
  · have e : i = xs.length := by omega
    subst e
    exact .inl ⟨⟨xs, q, Nat.le_refl _⟩, hd σ H p⟩
/-! == of equal data, of int lists -/
theorem dp_ints : ∀ ns : List Int, DpAll K H (ns.map V.int) (ns.map PyData.int)
  | [] => .nil
  | x :: r => .cons (.int x) (dp_ints r)
theorem lay_ints : ∀ ns : List Int, PyData.canLayAll0 (ns.map PyData.int) = true
  | [] => by simp only [List.map_nil, PyData.canLayAll0]
  | x :: r => by simp only [List.map_cons, PyData.canLayAll0, PyData.canLay0, lay_ints r, Bool.and_self]
theorem depth_ints : ∀ ns : List Int, PyData.depthAll (ns.map PyData.int) ≤ 1
  | [] => by simp [PyData.depthAll]
  | x :: r => by
    have := depth_ints r
    simp only [List.map_cons, PyData.depthAll, PyData.depth]
    omega
theorem shaped_ints (ns : List Int) : SeqAt.shaped (.list (ns.map PyData.int)) = true :=
  Bool.and_eq_true_iff.mpr ⟨by simp only [PyData.canLay0, lay_ints], decide_eq_true (by
    have h := depth_ints ns
    simp only [PyData.depth]
    omega)⟩
theorem eqv_ints : ∀ ns ms : List Int, PyData.eqvAll (ns.map PyData.int) (ms.map PyData.int) = decide (ns = ms)
  | [], [] => by simp [PyData.eqvAll]
  | [], y :: m => by simp [PyData.eqvAll]
  | x :: r, [] => by simp [PyData.eqvAll]
  | x :: r, y :: m => by
    have ih := eqv_ints r m
    simp only [List.map_cons, PyData.eqvAll, PyData.eqv, ih]
    by_cases h : x = y
    · subst h
      simp
    · simp [h]
theorem rd_eqLI {p q : Addr} {ns ms : List Int} (h1 : SqL K H p (ns.map V.int)) (h2 : SqL K H q (ms.map V.int)) (k : Q (.bl (decide (ns = ms))) H) : rEqD K (.ref p) (.ref q) H Q :=
  ⟨.list (ns.map PyData.int), .list (ms.map PyData.int), .lst h1 (dp_ints ns), .lst h2 (dp_ints ms), shaped_ints ns, shaped_ints ms, by
    simp only [PyData.eqv, eqv_ints]
    exact k⟩
theorem rd_neLI {p q : Addr} {ns ms : List Int} (h1 : SqL K H p (ns.map V.int)) (h2 : SqL K H q (ms.map V.int)) (k : Q (.bl (!decide (ns = ms))) H) : rNeD K (.ref p) (.ref q) H Q :=
  ⟨.list (ns.map PyData.int), .list (ms.map PyData.int), .lst h1 (dp_ints ns), .lst h2 (dp_ints ms), shaped_ints ns, shaped_ints ms, by
    simp only [PyData.eqv, eqv_ints]
    exact k⟩
end

/-! ### the same rules with the written part named (within comprehensions) -/
section
variable {X : L2.Cx} {K : PySem.W.Frag}
theorem call_listOfK (h : X.K = K) : CallR X (.type "list") (rListOf K) := h ▸ call_listOf
theorem call_lenSK (h : X.K = K) : CallR X (.builtin "len") (rLenS K) := h ▸ call_lenS
theorem ix_listK (h : X.K = K) : IxR X (rIxL K) := h ▸ ix_list
theorem ix_tupK (h : X.K = K) : IxR X (rIxT K) := h ▸ ix_tup
theorem op_in_seqK (h : X.K = K) : OpR X (compareOp .In) (rIn K false) := h ▸ op_in_seq
theorem op_notIn_seqK (h : X.K = K) : OpR X (compareOp .NotIn) (rIn K true) := h ▸ op_notIn_seq
theorem call_isiK2 (h : X.K = K) : CallR X (.builtin "isinstance") (rIsi K) := h ▸ call_isi
theorem pe_fldK {e : Expr} {f : Str} {pos : Pos} {ta : TE} (h : X.K = K) (he : PE X e ta) (hb : attributeBase e f X.env (eval e X.env) = eval e X.env) : PE X (.Attribute e f pos) (tFld K ta f) := h ▸ pe_fld he hb
end
end RD

/-! own layer: sorted(xs, key=f) where f's calls keep the invariant (behind RD) -/
namespace RD
open PySem PySem.Spec PyProof.Rows L2 PySem.W
section
variable {X : Cx} {pins pf : List (Addr × Obj)} {σ : L2.St} {H : Hp} {s : Shared}
/-- what a key's call does -/
def KeyTurn (X : Cx) (A : Around) (σ : L2.St) (H : Hp) (pf : List (Addr × Obj)) (f : Value) (xs : List V) (key : V → Int) : Prop :=
  ∀ (pl : List (Addr × Obj)) (s1 : Shared) (H1 : Hp) (v : V) (u : Value), Inv X (pf ++ pl) σ H1 s1 → Kp [] H H1 → v ∈ xs → RelV v u →
    wpAny (model X.prog X.w) A (call f [u]) (fun z s2 => ∃ H2 t, Inv X (pf ++ pl) σ H2 s2 ∧ Kp [] H1 H2 ∧ z = .int (key v) t) (fun _ _ => False) s1
/-- what stands of an address of ours, whatever runs -/
def Own (X : Cx) (pn : List (Addr × Obj)) (b : Addr) : Prop :=
  b ≠ X.env.locals ∧ b ∉ X.fs ∧ (b ∈ X.ex ∨ X.s_0.heap.objs.size ≤ b) ∧ (∀ x c, X.env.cells.lookup x = some c → c ≠ b) ∧ ∀ p ∈ X.pn ++ pn, p.1 ≠ b
theorem Own.fresh {b : Addr} (I : Inv X pins σ H s) (hb : s.heap.objs.size ≤ b) : Own X pins b := by
  have q := I.fpOk (H' := H) hb (I.hok.fresh hb)
  exact ⟨q.2.1, q.2.2.1, q.2.2.2.1, q.2.2.2.2.1, q.2.2.2.2.2⟩
theorem Own.less {pn pm : List (Addr × Obj)} {b : Addr} (o : Own X pn b) (h : ∀ p, p ∈ pm → p ∈ pn) : Own X pm b :=
  ⟨o.1, o.2.1, o.2.2.1, o.2.2.2.1, fun p hp => o.2.2.2.2 p ((List.mem_append.mp hp).elim (fun z => List.mem_append_left _ z) fun z => List.mem_append_right _ (h p z))⟩
theorem inv_pin {b : Addr} {o : Obj} {pn : List (Addr × Obj)} (I : Inv X (pf ++ pn) σ H s) (w : Own X (pf ++ pn) b) (hn : H b = none) (e : s.heap.get? b = some o) (hc : ∀ v, o.data ≠ .cell v) : Inv X (pf ++ ((b, o) :: pn)) σ H s :=
  I.pins_of fun p hp => by
    rcases List.mem_append.mp hp with z | z
    · exact I.pin p (List.mem_append_right _ (List.mem_append_left _ z))
    · rcases List.mem_cons.mp z with z | z
      · rw [z]
        exact ⟨e, hn, w.1, w.2.1, hc⟩
      · exact I.pin p (List.mem_append_right _ (List.mem_append_right _ z))
theorem inv_unpin {q : Addr × Obj} {pn : List (Addr × Obj)} (I : Inv X (pf ++ (q :: pn)) σ H s) : Inv X (pf ++ pn) σ H s :=
  I.pins_of fun p hp => by
    rcases List.mem_append.mp hp with z | z
    · exact I.pin p (List.mem_append_right _ (List.mem_append_left _ z))
    · exact I.pin p (List.mem_append_right _ (List.mem_append_right _ (List.mem_cons_of_mem _ z)))
theorem inv_head {q : Addr × Obj} {pn : List (Addr × Obj)} (I : Inv X (pf ++ (q :: pn)) σ H s) : s.heap.get? q.1 = some q.2 ∧ H q.1 = none :=
  have z := I.pin q (List.mem_append_right _ (List.mem_append_right _ (.head _)))
  ⟨z.1, z.2.1⟩
/-- the object at b turns -/
theorem inv_turn {b : Addr} {pn : List (Addr × Obj)} {h' : Heap} {t' : Nat} (I : Inv X pn σ H s) (w : Own X pn b) (hn : H b = none) (k : ∀ c o, c ≠ b → s.heap.get? c = some o → h'.get? c = some o) : Inv X pn σ H { s with heap := h', toks := t' } :=
  I.turned k hn w.1 w.2.2.1 w.2.2.2.1 w.2.2.2.2
theorem ints_snoc {vs : List Value} {ns : List Int} {n : Int} {t : Tok} (h : IntsAre vs ns) : IntsAre (vs ++ [.int n t]) (ns ++ [n]) := by
  induction h with
  | nil => exact .cons n t .nil
  | cons m u _ ih => exact .cons m u ih
theorem each_ints {h : Heap} {vs : List Value} {ns : List Int} (e : IntsAre vs ns) : EachIs (fun v d => ∃ as, Reads h v d as) vs (ns.map PyData.int) := by
  induction e with
  | nil => exact .nil
  | cons n t _ ih => exact .cons ⟨[], .int n t⟩ ih
theorem each_vals {xs : List V} {us : List Value} (r : Vals xs us) : EachIs (fun u v => RelV v u) us xs := by
  induction r with
  | nil => exact .nil
  | cons a _ ih => exact .cons a ih
theorem vals_each {xs : List V} {us : List Value} (r : EachIs (fun u v => RelV v u) us xs) : Vals xs us := by
  induction r with
  | nil => exact .nil
  | cons a _ ih => exact .cons a ih
/-- a heap without the object at b -/
def gone (h : Heap) (b : Addr) : Heap := h.update b fun _ => { cls := .none, data := .freed }
theorem gone_at {h : Heap} {b : Addr} {o : Obj} (e : h.get? b = some o) : (gone h b).get? b = none := by
  cases q : (gone h b).get? b with
  | none => rfl
  | some u =>
    exfalso
    obtain ⟨e1, _⟩ := Heap.get?_some_iff.mp e
    obtain ⟨e2, e3⟩ := Heap.get?_some_iff.mp q
    have e4 : (gone h b).objs[b]? = some { cls := .none, data := .freed } := by
      unfold gone
      rw [Heap.objs_update_self, e1]
      rfl
    rw [e4] at e2
    cases e2
    cases e3
theorem gone_ne {h : Heap} {b c : Addr} (n : c ≠ b) : (gone h b).get? c = h.get? c := (Heap.SameBut.update h b _).2 c n
theorem key_end {A : Around} {key : V → Int} {xs : List V} {vs : List Value} {a kS : Addr} {kA : Array Value} {e e1 : Nat} {P : PySem.Fin → Shared → Prop} {E : Value → Shared → Prop} (I : Inv X (pf ++ ((kS, seqObj "list" kA e) :: (a, seqObj "list" #[] e1) :: pins)) σ H s)
    (wk : Own X (pf ++ ((a, seqObj "list" #[] e1) :: pins)) kS) (wa : Own X (pf ++ pins) a) (r : Vals xs vs) (hZ : vs.length ≤ sizeLine) (hu : A.units < cLine) (hk : IntsAre kA.toList (xs.map key))
    (h : ∀ s' out c, Inv X (pf ++ pins) σ H s' → s'.heap.get? a = some (seqObj "list" (List.toArray out) c) → Vals (xs.mergeSort fun p q => decide (key p ≤ key q)) out → P (.done (.ret .none)) s') :
    wpAny (model X.prog X.w) A (ksk_end a false vs.toArray e1 (.ref kS) kA) P E s := by
  have nk := inv_head I
  have na := inv_head (inv_unpin I)
  have hka : kS ≠ a := Ne.symm (wk.2.2.2.2 (a, seqObj "list" #[] e1) (List.mem_append_right _ (List.mem_append_right _ (.head _))))
  have hl : kA.size = vs.length := by
    have h1 := hk.length
    rw [Array.length_toList, List.length_map] at h1
    rw [h1]
    exact r.length
  have hE := each_ints (h := s.heap) hk
  have hkz : (xs.map key).map PyData.int = xs.map (fun v => PyData.int (key v)) := by rw [List.map_map]; rfl
  have hal : AllAlike (xs.map fun v => PyData.int (key v)) := AllAlike.of fun _ _ => by simp [alike]
  have hsk : Sortable (xs.map fun v => PyData.int (key v)) := Sortable.others fun _ => ⟨(fun z => by cases z), (fun _ z => by cases z)⟩
  rw [hkz] at hE
  refine keyH_end (κ := dataKind s.heap (xs.map fun v => PyData.int (key v))) (h₁ := gone s.heap kS) (fun b o hb q => ?_) (gone_at nk.1) nk.1 na.1 hka (SortsAt.data hE hal hsk fun d hd => ?_) hl hZ fun h' tk c kp hc => ?_
  · by_cases hbk : b = kS
    · rw [hbk, gone_at nk.1] at q
      cases q
    · rw [gone_ne hbk] at q
      exact q
  · obtain ⟨v, _, e⟩ := List.mem_map.mp hd
    rw [← e]
    simpa [PyData.depth] using hu
  · have I1 : Inv X (pf ++ ((a, seqObj "list" #[] e1) :: pins)) σ H { s with heap := gone s.heap kS, toks := s.toks } := inv_turn (inv_unpin I) wk nk.2 fun b o hb q => by
      rw [gone_ne hb]
      exact q
    have I2 : Inv X (pf ++ pins) σ H { s with heap := h', toks := tk } := inv_turn (s := { s with heap := gone s.heap kS, toks := s.toks }) (inv_unpin I1) wa na.2 fun b o hb q => kp b o hb q
    have ko : KeyedOut false (xs.map fun v => PyData.int (key v)) vs (sortVals (dataKind s.heap (xs.map fun v => PyData.int (key v))) false kA.toList vs) := ⟨s.heap, kA.toList, hal, rfl, hE⟩
    have eo := keyedOut_each (fun v => PyData.int (key v)) ko (each_vals r)
    rw [dataLe_int key] at eo
    exact h _ _ c I2 hc (vals_each eo)
/-- the keys' loop -/
theorem key_rest {A : Around} {f : Value} {key : V → Int} {xs : List V} {vs : List Value} {a kS : Addr} {e1 : Nat} {P : PySem.Fin → Shared → Prop} {E : Value → Shared → Prop} (T : KeyTurn X A σ H pf f xs key)
    (I : Inv X (pf ++ ((kS, seqObj "list" #[] 0) :: (a, seqObj "list" #[] e1) :: pins)) σ H s) (wk : Own X (pf ++ ((a, seqObj "list" #[] e1) :: pins)) kS) (wa : Own X (pf ++ pins) a) (r : Vals xs vs) (hZ : vs.length ≤ sizeLine) (hu : A.units < cLine)
    (h : ∀ H' s' out c, Inv X (pf ++ pins) σ H' s' → Kp [] H H' → H' a = none → s'.heap.get? a = some (seqObj "list" (List.toArray out) c) → Vals (xs.mergeSort fun p q => decide (key p ≤ key q)) out → P (.done (.ret .none)) s') :
    wpAny (model X.prog X.w) A (ksk_rest a f false vs.toArray e1 (.ref kS)) P E s := by
  unfold ksk_rest
  refine wpAny_bind (wpAny_rule ?_)
  rw [List.forIn_toArray]
  refine wpAny_bind (ksk_fold (fun i s' => ∃ H1 kA e, Inv X (pf ++ ((kS, seqObj "list" kA e) :: (a, seqObj "list" #[] e1) :: pins)) σ H1 s' ∧ Kp [] H H1 ∧ IntsAre kA.toList ((xs.take i).map key)) vs 0 s ⟨H, #[], 0, I, Kp.refl, .nil⟩ ?step ?done)
  case step =>
    rintro j u s' hx ⟨H1, kA, e, I1, k1, hk⟩
    rw [Nat.zero_add] at hk ⊢
    obtain ⟨hj, _⟩ := List.getElem?_eq_some_iff.mp hx
    obtain ⟨v, hv⟩ : ∃ v, xs[j]? = some v := ⟨_, List.getElem?_eq_getElem (by rw [r.length]; exact hj)⟩
    obtain ⟨u', hu', rv⟩ := Vals.get r hv
    rw [hx] at hu'
    cases hu'
    have hz : kA.size ≤ vs.length := by
      have h1 := hk.length
      rw [Array.length_toList, List.length_map, List.length_take] at h1
      omega
    refine wpAny_bind (wpAny_attempt (wpAny_mono (T _ s' H1 v u I1 k1 (List.mem_of_getElem? hv) rv) (fun z s2 he => ?_) fun _ _ hF => hF.elim))
    obtain ⟨H2, t, I2, k2, rfl⟩ := he
    have nk := inv_head I2
    obtain ⟨c2, hc2⟩ : ∃ c2, (s2.heap.update kS (Obj.mapSeq (·.push (.int (key v) t)))).get? kS = some (seqObj "list" (kA.push (.int (key v) t)) c2) := ⟨_, get?_update_seq nk.1 (·.push (.int (key v) t))⟩
    refine wpAny_bind (listUpdate_at nk.1 rfl ?_ (Nat.le_trans hz hZ) (Nat.le_trans (Nat.le_of_eq (Array.size_push ..)) (Nat.succ_le_succ (Nat.le_trans hz hZ))))
    have I3 : Inv X (pf ++ ((a, seqObj "list" #[] e1) :: pins)) σ H2 { s2 with heap := s2.heap.update kS (Obj.mapSeq (·.push (.int (key v) t))), toks := s2.toks } :=
      inv_turn (inv_unpin I2) wk nk.2 fun b o hb q => ((Heap.SameBut.update s2.heap kS _).2 b hb).trans q
    refine wpAny_pure ⟨rfl, H2, kA.push (.int (key v) t), c2, inv_pin I3 wk nk.2 hc2 (fun _ z => by cases z), k1.trans k2, ?_⟩
    rw [Array.toList_push, List.take_add_one, hv, List.map_append]
    exact ints_snoc hk
  case done =>
    rintro s' ⟨H1, kA, e, I1, k1, hk⟩
    rw [Nat.zero_add, ← r.length, List.take_length] at hk
    refine wpAny_bind (listItems_at (inv_head I1).1 rfl ?_)
    exact key_end (key := key) I1 wk wa r hZ hu hk fun s2 out c I2 hc ho => h H1 s2 out c I2 k1 (inv_head (inv_unpin I1)).2 hc ho
/-- xs.sort(key=f) of a list that nobody knows -/
theorem key_tree {A : Around} {f : Value} {key : V → Int} {xs : List V} {vs : List Value} {a : Addr} {n : Nat} {P : PySem.Fin → Shared → Prop} {E : Value → Shared → Prop} (T : KeyTurn X A σ H pf f xs key)
    (I : Inv X (pf ++ pins) σ H s) (wa : Own X (pf ++ pins) a) (na : H a = none) (ho : s.heap.get? a = some (seqObj "list" vs.toArray n)) (r : Vals xs vs) (hZ : vs.length ≤ sizeLine) (hu : A.units < cLine)
    (h : ∀ H' s' out c, Inv X (pf ++ pins) σ H' s' → Kp [] H H' → H' a = none → s'.heap.get? a = some (seqObj "list" (List.toArray out) c) → Vals (xs.mergeSort fun p q => decide (key p ≤ key q)) out → P (.done (.ret .none)) s') :
    wpAny (model X.prog X.w) A (ksk_tree a f false) P E s := by
  obtain ⟨e1, ho1⟩ : ∃ e1, (s.heap.update a (Obj.mapSeq fun _ => (#[] : Array Value))).get? a = some (seqObj "list" #[] e1) := ⟨_, get?_update_seq ho fun _ => #[]⟩
  have I1 : Inv X (pf ++ pins) σ H { s with heap := s.heap.update a (Obj.mapSeq fun _ => (#[] : Array Value)), toks := s.toks } := inv_turn I wa na fun b o hb q => ((Heap.SameBut.update s.heap a _).2 b hb).trans q
  have I2 := inv_pin I1 wa na ho1 (fun _ z => by cases z)
  have I3 : Inv X (pf ++ ((a, seqObj "list" #[] e1) :: pins)) σ H { s with heap := (s.heap.update a (Obj.mapSeq fun _ => (#[] : Array Value))).push (seqObj "tuple" vs.toArray 0), toks := s.toks } := I2.kept fun b o q => Heap.get?_push_of_some _ q
  have wk := Own.fresh I3 (Nat.le_refl _)
  have nk := I3.hok.fresh (Nat.le_refl _)
  have I4 : Inv X (pf ++ ((a, seqObj "list" #[] e1) :: pins)) σ H { s with heap := ((s.heap.update a (Obj.mapSeq fun _ => (#[] : Array Value))).push (seqObj "tuple" vs.toArray 0)).push (seqObj "list" #[] 0), toks := s.toks } := I3.kept fun b o q => Heap.get?_push_of_some _ q
  unfold ksk_tree
  refine wpAny_bind (listItems_at ho rfl ?_)
  refine wpAny_bind (listUpdate_at ho rfl ?_ (by rw [List.size_toArray]; exact hZ) (Nat.zero_le _))
  refine wpAny_bind (seqEpoch_at ho1 rfl ?_)
  refine wpAny_bind (wpAny_newTuple ?_ (by show vs.length ≤ _; exact hZ))
  refine wpAny_bind (wpAny_newList ?_ (Nat.zero_le _))
  refine wpAny_holding ?_
  exact key_rest T (inv_pin I4 wk nk (Heap.get?_push_size _ rfl) (fun _ z => by cases z)) wk wa r hZ hu h
/-- an object of ours becomes known -/
theorem inv_track {a : Addr} {o : HO} {pn : List (Addr × Obj)} (I : Inv X pn σ H s) (w : Own X pn a) (hn : H a = none) (ok : ObjOk X.prog X.w (upd H a o) s.heap a o) : Inv X pn σ (upd H a o) s := by
  have ne : ∀ b u, H b = some u → b ≠ a := fun b u e z => by
    rw [z, hn] at e
    cases e
  have up : ∀ b u, H b = some u → upd H a o b = some u := fun b u e => by rw [upd_ne (ne b u e)]; exact e
  exact I.step (h' := s.heap) (g' := s.gens) (d' := s.drawn) (t' := s.toks) (ch := [a]) (fun b hb => by
      rw [List.mem_singleton.mp hb]
      exact ⟨w.2.2.1, w.1, w.2.2.2.1, w.2.2.2.2⟩)
    (fun b u _ _ _ e _ => e) (fun b u _ _ _ e _ => ⟨u.slots, e⟩) (fun b u hb _ n => by
      rw [upd_ne (fun z => hb (List.mem_singleton.mpr z))]
      exact n)
    (fun b u _ e => ⟨u, e⟩) (fun b xs e => up b _ e) (fun b u v e => up b _ e) (fun b ps e => ⟨#[], by rw [up b _ e]; simp⟩) (fun m hm => hm)
    (fun b u e => by
      by_cases hb : b = a
      · rw [hb, upd_same] at e
        cases e
        rw [hb]
        exact ok
      · rw [upd_ne hb] at e
        exact (I.hok b u e).stay (fun c v _ q => q) (fun c q => up c _ q) fun c xs q => up c _ q) I.bare
/-- sorted(xs, key=f) -/
theorem sorted_key {f : Addr} {key : V → Int} {xs : List V} {l : Addr} {Q : VK} (T : KeyTurn X X.A.in1.in1 σ H pf (.ref f) xs key) (I : Inv X (pf ++ pins) σ H s) (hs : SqL X.K H l xs) (hu : X.A.units + 2 < cLine)
    (h : ∀ H' p, Kp [] H H' → H' p = none → Q (.ref p) (upd H' p (.lst (xs.mergeSort fun a b => decide (key a ≤ key b))))) :
    wpAny (model X.prog X.w) X.A (call (.builtin "sorted") [.ref l] [(Str.ofString "key", .ref f)]) (EP X (pf ++ pins) σ Q) X.xe s := by
  obtain ⟨its, rv, hl, hz⟩ := I.list hs
  have wa := Own.fresh I (b := s.heap.objs.size + 1) (Nat.le_succ _)
  have na : H (s.heap.objs.size + 1) = none := I.hok.fresh (Nat.le_succ _)
  refine sorted_of_sort hl.isList (by rw [← rv.length]; exact hz) (ksk_s1 _ _) (fun _ => ksk_l1 _ _) fun E' => ?_
  rw [ksk_t1]
  have I1 : Inv X (pf ++ pins) σ H { s with heap := copyHeap s.heap its, toks := s.toks } := I.kept fun b o q => copyHeap_old q
  refine key_tree (s := { s with heap := copyHeap s.heap its }) T I1 wa na (copyHeap_at s.heap its) rv (by rw [← rv.length]; exact hz) hu fun H' s' out c I2 k2 n2 hc ro => ⟨rfl, ?_⟩
  have hlen : (xs.mergeSort fun a b => decide (key a ≤ key b)).length ≤ sizeLine := by
    rw [List.length_mergeSort]
    exact hz
  exact ⟨.ref _, _, inv_track (o := .lst (xs.mergeSort fun a b => decide (key a ≤ key b))) I2 wa n2 ⟨hlen, out, c, ro, hc⟩, rfl, h H' _ k2 n2⟩
end
/-! ### a lambda with one parameter -/
structure Lam1 (sc scope : Scope) (p : Str) : Prop where
  kind : scope.kind = .function
  co : scope.isCoroutine = false
  gen : scope.isGenerator = false
  own : ∀ y ∈ scope.names, y.2 ≠ .cell
  par : scope.names.lookup p = some .local
  loc : ∀ {y}, y ≠ p → scope.names.lookup y ≠ some .local
  free : ∀ y ∈ scope.names, y.2 = .free → sc.names.lookup y.1 = some .cell ∨ sc.names.lookup y.1 = some .free
def lam1B (sc scope : Scope) (p : Str) : Bool :=
  decide (scope.kind = .function) && !scope.isCoroutine && !scope.isGenerator && decide (scope.names.lookup p = some .local) && scope.names.all fun y => !decide (y.2 = .cell) && (!decide (y.2 = .local) || decide (y.1 = p)) && (!decide (y.2 = .free) || decide (sc.names.lookup y.1 = some .cell) || decide (sc.names.lookup y.1 = some .free))
theorem lam1_by {sc scope : Scope} {p : Str} (h : lam1B sc scope p = true) : Lam1 sc scope p := by
  unfold lam1B at h
  simp only [Bool.and_eq_true, Bool.or_eq_true, Bool.not_eq_true', decide_eq_true_eq, decide_eq_false_iff_not, List.all_eq_true] at h
  obtain ⟨⟨⟨⟨h1, h2⟩, h3⟩, h5⟩, h4⟩ := h
  refine ⟨h1, h2, h3, fun y hy => (h4 y hy).1.1, h5, fun {y} n e => ?_, fun y hy e => ?_⟩
  · rcases (h4 _ (PySem.mem_of_lookup e)).1.2 with z | z
    · exact z rfl
    · exact n z
  rcases (h4 y hy).2 with (z | z) | z
  · exact absurd e z
  · exact .inl z
  · exact .inr z
theorem Lam1.has {X : Cx} {scope : Scope} {p : Str} (L : Lam1 X.env.scope scope p) (ok : X.Ok) : ∀ y ∈ scope.names, y.2 = .free → ∃ c, X.env.cells.lookup y.1 = some c := fun y hy e => by
  rcases L.free y hy e with k | k
  · exact ok.has _ (.inl k)
  · exact ok.has _ (.inr k)
/-- the context of the lambda's body -/
def lam1Cx (X : Cx) (A : Around) (s : Shared) (H : Hp) (N : List Str) (scope : Scope) (f c' : Addr) : Cx where
  prog := X.prog
  w := X.w
  K := X.K
  mg := X.mg
  base := X.base
  A := A.deeper (LamX.lamEnv X scope s.heap.objs.size f c')
  N := N
  s_0 := s
  H_0 := H
  env := LamX.lamEnv X scope s.heap.objs.size f c'
  outer := X.stack
  stack := LamX.lamEnv X scope s.heap.objs.size f c' :: X.stack
  ex := []
  fn := fun _ => false
  calm := true
  pn := []
  xe := fun _ _ => False
section
variable {X : Cx} {pins : List (Addr × Obj)} {σ σ' : L2.St} {H : Hp} {s : Shared}
/-- each name of the body that has a value: the parameter, or a name of the maker -/
def Caps (X : Cx) (σ : L2.St) (N : List Str) (σ' : L2.St) (p : Str) (v : V) : Prop :=
  σ'.length = N.length ∧ ∀ (i : Nat) (y : Str) (x : V), N[i]? = some y → σ'[i]? = some (some x) → (y = p ∧ x = v) ∨ (y ≠ p ∧ ∃ j : Nat, X.N[j]? = some y ∧ σ[j]? = some (some x))
theorem lam1_start {A : Around} {N : List Str} {scope : Scope} {p : Str} {v : V} {u : Value} {f c' : Addr} {h₁ : Heap} {tk : Nat} (I : Inv X pins σ H s) (L : Lam1 X.env.scope scope p) (hfr : A.frames = some X.stack) (hd : A.handled = none) (C : Caps X σ N σ' p v) (r : RelV v u)
    (hns : h₁.Ns s.heap.objs.size fun y => [(p, u)].reverse.lookup y) (kp : ∀ b o, s.heap.get? b = some o → h₁.get? b = some o) :
    Inv (lam1Cx X A s H N scope f c') [] σ' H { s with heap := h₁, toks := tk } := by
  have e0 := I.env0
  have hfree := L.has I.ok
  have cm : ∀ {y c}, (cloFrom X.env.cells scope.names []).lookup y = some c → X.env.cells.lookup y = some c := fun {y c} e => by
    rcases cloFrom_mem (PySem.mem_of_lookup e) with hm | ⟨h1, h2⟩
    · cases hm
    · obtain ⟨c1, hc⟩ := hfree _ h1 rfl
      have hc : X.env.cells.lookup y = some c1 := hc
      have e2 : c = c1 := by rw [h2, hc] <;> rfl
      rw [e2]
      exact hc
  have look : ∀ {y}, scope.names.lookup y = some .free → ∃ c, (cloFrom X.env.cells scope.names []).lookup y = some c := fun {y} hl =>
    mem_lookup (cloFrom_has (cells := X.env.cells) (acc := []) (PySem.mem_of_lookup hl))
  have cellK : ∀ {c : Addr} {z : Option Value}, s.heap.IsCell c z → h₁.IsCell c z := fun {c z} ⟨o, ho, hd⟩ => ⟨o, kp _ _ ho, hd⟩
  have noA : ∀ b : Addr, b ∉ (lam1Cx X A s H N scope f c').ex := fun b z => by cases z
  constructor
  case ok =>
    constructor
    case mod => exact e0.mod
    case kind => exact L.kind
    case glob => exact rfl
    case blt => exact rfl
    case above => exact Nat.le_refl _
    case inj => exact fun y z c e1 e2 => I.ok.inj y z c (cm e1) (cm e2)
    case has =>
      intro y hy
      have hy : scope.names.lookup y = some .cell ∨ scope.names.lookup y = some .free := hy
      rcases hy with hy | hy
      · exact absurd rfl (L.own _ (PySem.mem_of_lookup hy))
      · exact look hy
    case cab =>
      intro y c z _
      have z : false = true := z
      cases z
    case hd => exact fun _ => hd
    case frames => exact Around.frames_deeper hfr
    case stk => exact .inr ⟨rfl, rfl⟩
    case exf => exact fun b z => absurd z (noA b)
    case bs => exact e0.bs
    case bsz => exact e0.bsz
    case noex => exact fun b _ _ => noA b
    case exfs => exact fun b z => absurd z (noA b)
    case funs => exact e0.funs
    case frf => exact e0.frf
  case os => exact rfl
  case bare => exact e0.bare
  case base => exact Un.kept kp
  case loc =>
    refine ⟨_, hns, fun i y x e1 e2 e3 => ?_⟩
    rcases C.2 i y x e1 e2 with ⟨ey, ex⟩ | ⟨ny, j, j1, j2⟩
    · rw [ey, ex]
      exact ⟨u, r, .inl ⟨L.par, by simp⟩⟩
    · have e3 : Vis scope y := e3
      rcases e3 with k | k | k
      · exact absurd k (L.loc ny)
      · exact absurd rfl (L.own _ (PySem.mem_of_lookup k))
      · obtain ⟨m, hn, hl⟩ := I.loc
        have hvis : Vis X.env.scope y := (L.free _ (PySem.mem_of_lookup k) rfl).elim (fun k => .inr (.inl k)) (fun k => .inr (.inr k))
        obtain ⟨w', r', q⟩ := hl j y x j1 j2 hvis
        obtain ⟨c2, h2⟩ := look k
        refine ⟨w', r', .inr ⟨.inr k, c2, h2, ?_⟩⟩
        have c1 := cm h2
        rcases q with ⟨k', _⟩ | ⟨_, c3, e', z⟩
        · have k' : X.env.scope.names.lookup y = some .local := k'
          rcases L.free _ (PySem.mem_of_lookup k) rfl with k2 | k2 <;> rw [show X.env.scope.names.lookup y = _ from k2] at k' <;> cases k'
        · rw [c1] at e'
          cases e'
          exact cellK z
  case cell =>
    intro y c e
    obtain ⟨w', z⟩ := I.cell y c (cm e)
    exact ⟨w', cellK z⟩
  case free => exact e0.hok.fresh (Nat.le_refl _)
  case freeC => exact fun y c e => I.freeC y c (cm e)
  case pin => exact fun q hq => absurd (show q ∈ ([] : List (Addr × Obj)) ++ [] from hq) (by simp)
  case hok => exact e0.hok.kept kp
  case len => exact C.1
/-- the lambda as a key -/
theorem lam1_turn {A : Around} {k : Nat} {N : List Str} {scope : Scope} {p : Str} {f c' : Addr} {params : Arguments} {body : Expr} {pm ctv : Value} {xs : List V} {key : V → Int} {τ : V → L2.St} (L : Lam1 X.env.scope scope p) (hc : H c' = some (LamX.CodeO c' (X.env.qual ++ "<lambda>")))
    (hA : A.frames = some X.stack) (hr : Room (k + 1) A) (hbind : ∀ u, bindArgs (PySem.W.kla_fn "<lambda>" (X.env.qual ++ "<lambda>") params body scope (cloFrom X.env.cells scope.names []) pm (.ref c') ctv) ⟨[u], []⟩ = pure [(p, u)])
    (hC : ∀ v, v ∈ xs → Caps X σ N (τ v) p v)
    (hbody : ∀ (s : Shared) (H1 : Hp) (v : V), v ∈ xs → Kp [] H H1 → Room k (A.deeper (LamX.lamEnv X scope s.heap.objs.size f c')) → ∃ tb, PE (lam1Cx X A s H1 N scope f c') body tb ∧ tb (τ v) H1 fun x H2 => x = .int (key v) ∧ Kp [] H1 H2) :
    KeyTurn X A σ H [(f, PySem.W.kla_obj "<lambda>" (X.env.qual ++ "<lambda>") params body scope (cloFrom X.env.cells scope.names []) pm c' ctv)] (.ref f) xs key := by
  intro pl s1 H1 v u I1 k1 hv r
  have hf := (I1.pin _ (List.mem_append_right _ (List.mem_append_left _ (.head _)))).1
  obtain ⟨⟨oc, vs, t, hoc, hdc, hvc⟩, _, _⟩ := I1.hok c' _ (k1.g0 hc)
  have rc : codeAny (model X.prog X.w) A (.call (.ref f) ⟨[u], []⟩) (fun r s' => ∃ z, r = .ok (.ret z) ∧ CE X.stack X.prog X.w H1 s1 (fun x H2 => x = .int (key v) ∧ Kp [] H1 H2) z s') s1 := by
    refine PySem.W.kla_callFunE hr.depth hf rfl L.co L.gen rfl ⟨c', oc, vs, t, rfl, hoc, hdc, hvc⟩ ?_
    rw [hbind]
    refine wpAny_pure (wpAny_newFunctionEnv (fun y hy => L.own y hy) (fun y hy => ?_) (fun h₁ hns hsb => ⟨I1.nolimit.fresh _ hsb, ?_⟩) L.kind)
    · rw [List.mem_singleton.mp hy]
      exact L.par
    show codeAny _ _ (.expr body (LamX.lamEnv X scope s1.heap.objs.size f c')) _ _
    have kp : ∀ b o, s1.heap.get? b = some o → h₁.get? b = some o := fun b o e => hsb.extBut b o (Nat.ne_of_lt (Heap.lt_size e)) (Heap.get?_push_of_some _ e)
    have J : Inv (lam1Cx X A s1 H1 N scope f c') [] (τ v) H1 { s1 with heap := h₁, toks := s1.toks + [(p, u)].length } := lam1_start I1 L hA hr.hd (hC v hv) r hns kp
    obtain ⟨tb, hp, ht⟩ := hbody s1 H1 v hv k1 (hr.deeper _)
    refine PySem.W.kla_codeExpr (wpAny_mono (hp.run [] _ _ _ _ J ht) (fun z s' hq => ?_) fun e s' hq => (show False from hq).elim)
    obtain ⟨w', H', J', rv, q⟩ := hq
    exact ⟨z, rfl, w', H', J'.os, J'.bare, J'.base, J'.hok, rv, q⟩
  refine wpAny_call (codeAny_mono rc fun r s' hq => ?_)
  obtain ⟨z, rfl, ce⟩ := hq
  obtain ⟨x, H2, I2, rx, ex, k2⟩ := I1.after ce
  rw [ex] at rx
  obtain ⟨t', e⟩ := rx
  exact ⟨H2, t', I2, k2, e⟩
/-- a made function is pinned -/
theorem fn_pin {f : Addr} {o : Obj} {fd : FuncData} (I : Inv X pins σ H s) (hf : s.heap.get? f = some o) (hd : o.data = .func fd) (hn : H f = none) (hfr : f ∉ frs X.stack) : Inv X ([(f, o)] ++ pins) σ H s :=
  I.pins_of fun p hp => by
    rcases List.mem_append.mp hp with z | z
    · rw [List.mem_singleton.mp z]
      refine ⟨hf, hn, fun e => ?_, fun e => ?_, fun v e => ?_⟩
      · obtain ⟨m, ⟨ol, es, ep, ho, hdl, _⟩, _⟩ := I.loc
        have e : f = X.env.locals := e
        rw [← e, hf] at ho
        cases ho
        rw [hd] at hdl
        cases hdl
      · rcases I.ok.stk with k | ⟨k, _⟩
        · exact hfr (by rw [k]; exact e)
        · refine hfr ?_
          rw [k]
          unfold frs
          rw [List.filterMap_cons]
          have e : f ∈ frs X.outer := e
          unfold frs at e
          split
          · exact e
          · exact List.mem_cons_of_mem _ e
      · have e : o.data = .cell v := e
        rw [hd] at e
        cases e
    · exact I.pin p (List.mem_append_right _ z)
theorem ep_less {q : Addr × Obj} {Q : VK} {u : Value} {s' : Shared} (h : EP X ([q] ++ pins) σ Q u s') : EP X pins σ Q u s' := by
  obtain ⟨v, H', I, r, h⟩ := h
  exact ⟨v, H', I.pins_of fun p hp => I.pin p (List.mem_append_right _ (List.mem_append_right _ hp)), r, h⟩
/-- the names of the body, told by the maker's -/
def CapsN (N0 : List Str) (σ : L2.St) (N : List Str) (σ' : L2.St) (p : Str) (v : V) : Prop :=
  σ'.length = N.length ∧ ∀ (i : Nat) (y : Str) (x : V), N[i]? = some y → σ'[i]? = some (some x) → (y = p ∧ x = v) ∨ (y ≠ p ∧ ∃ j : Nat, N0[j]? = some y ∧ σ[j]? = some (some x))
theorem sq_ext {K : PySem.W.Frag} {H H' : Hp} {l : Addr} {xs : List V} (e : LamX.ExtN H H') (h : SqL K H l xs) : SqL K H' l xs := by
  rcases h with (h | ⟨o, h⟩) | h
  · exact .inl (.inl (e _ _ h fun ps z => by cases z))
  · exact .inl (.inr ⟨o, e _ _ h fun ps z => by cases z⟩)
  · exact .inr h
/-- sorted(e, key=lambda p: body) -/
def tSortKey (K : PySem.W.Frag) (T : List (Addr × Str)) (N0 N : List Str) (p : Str) (t : TA) (tb : TE) : TE := fun σ H Q => t σ H fun vs H1 => ∃ (l : Addr) (xs : List V) (key : V → Int) (τ : V → L2.St), vs = [.ref l] ∧ SqL K H1 l xs ∧ LamX.Tabs T H1 ∧
  (∀ v, v ∈ xs → CapsN N0 σ N (τ v) p v) ∧ ∀ H2, LamX.ExtN H1 H2 → LamX.Tabs T H2 → (∀ (H3 : Hp) (v : V), v ∈ xs → Kp [] H2 H3 → tb (τ v) H3 fun x H4 => x = .int (key v) ∧ Kp [] H3 H4) ∧
    ∀ (H3 : Hp) (q : Addr), Kp [] H2 H3 → H3 q = none → Q (.ref q) (upd H3 q (.lst (xs.mergeSort fun a b => decide (key a ≤ key b))))
theorem pe_sortKey {T : List (Addr × Str)} {N : List Str} {k : Nat} {c P : Addr} {scope : Scope} {p : Str} {params : Arguments} {e body : Expr} {t : TA} {tb : TE} {p1 kpos lpos pos : Pos} (hg : Gl X "sorted") (hm : X.mg "sorted" = none) (ha : PA X [e] t)
    (TB : LamX.TabB X.base X.mg c P) (hcode : X.env.code = .ref c) (hmT : (P, X.env.qual ++ "<lambda>") ∈ T) (huT : ∀ p ∈ T, p.1 = P → p.2 = X.env.qual ++ "<lambda>") (hr : Room (k + 3) X.A) (L : Lam1 X.env.scope scope p) (hdef : defaultsOf params X.env = ([], []))
    (hbind : ∀ (q : Str) (cl : List (Str × Addr)) (pm cv ctv u : Value), bindArgs (PySem.W.kla_fn "<lambda>" q params body scope cl pm cv ctv) ⟨[u], []⟩ = pure [(p, u)])
    (hbody : ∀ (s : Shared) (H : Hp) (f c' : Addr), Room k (X.A.in1.in1.deeper (LamX.lamEnv X scope s.heap.objs.size f c')) → PE (lam1Cx X X.A.in1.in1 s H N scope f c') body tb)
    (he : backTo pos (starEach [e] X.env) = (false, eval e X.env) :: backTo pos (starEach [] X.env) := by rfl) (hpl : (backTo pos (starEach [e] X.env)).any (·.1) = false := by rfl) :
    PE X (.Call (.Name "sorted" p1) [e] [⟨some "key", .Lambda params body scope lpos, kpos⟩] pos) (tSortKey X.K T X.N N p t tb) := by
  refine ⟨fun pins s σ H Q I h => ?_⟩
  refine wpAny_Call_Name_kw (ld_blt I hg hm (show bootBuiltins "sorted" = some (.builtin "sorted") by rfl) ?_ (by decide) (by decide))
  refine PyProof.Rows.callWith_kw (thn (ha.run pos pins s σ H _ I h) fun us s1 ⟨vs, H1, I1, r1, q1⟩ => ?_) he hpl rfl rfl
  obtain ⟨l, xs, key, τ, rfl, hs, hT, hC, q⟩ := q1
  obtain rfl := Vals.ref1 r1
  show wpAny _ _ (evalAll ((do let v ← eval (.Lambda params body scope lpos) X.env; standAt pos; pure v) :: [])) _ _ s1
  refine wpAny_evalAll_cons (wpAny_bind (LamX.lam_make2 I1 TB hcode hmT huT hT hdef (L.has I1.ok) fun f c' pm ctv H2 s2 I2 eN T2 hf hfn hfr hco => wpAny_bind (wpAny_standAt (wpAny_pure (wpAny_evalAll_nil ?_)))))
  obtain ⟨hb, hq⟩ := q H2 eN T2
  show wpAny _ _ (call (.builtin "sorted") [.ref l] [(Str.ofString "key", .ref f)]) _ _ s2
  refine wpAny_mono (sorted_key (lam1_turn L hco I2.ok.frames hr.in1.in1 (fun u => hbind _ _ _ _ _ u) hC fun s H3 v hv k3 hr3 => ⟨tb, hbody s H3 f c' hr3, hb H3 v hv k3⟩) (fn_pin I2 hf rfl hfn hfr) (sq_ext eN hs) (by have := hr.units; omega) hq) (fun u s' h => ep_less h) fun _ _ h => h
end
end RD
namespace RD
open PySem PySem.Spec PyProof.Rows L2 PySem.W
section
variable {X : Cx} {pins pf : List (Addr × Obj)} {σ : L2.St} {H : Hp} {s : Shared}
theorem Own.cons {pn : List (Addr × Obj)} {q : Addr × Obj} {b : Addr} (w : Own X (pf ++ pn) b) (n : q.1 ≠ b) : Own X (pf ++ (q :: pn)) b :=
  ⟨w.1, w.2.1, w.2.2.1, w.2.2.2.1, fun p hp => by
    rcases List.mem_append.mp hp with z | z
    · exact w.2.2.2.2 p (List.mem_append_left _ z)
    · rcases List.mem_append.mp z with z | z
      · exact w.2.2.2.2 p (List.mem_append_right _ (List.mem_append_left _ z))
      · rcases List.mem_cons.mp z with z | z
        · rw [z]
          exact n
        · exact w.2.2.2.2 p (List.mem_append_right _ (List.mem_append_right _ z))⟩
/-- the first of the least -/
def Least (xs : List V) (key : V → Int) (i : Nat) (b : V) : Prop := xs[i]? = some b ∧ ∀ (j : Nat) (z : V), xs[j]? = some z → key b ≤ key z ∧ (j < i → key b < key z)
theorem min_loop {A : Around} {f : Addr} {key : V → Int} {xs : List V} {l Ia S : Addr} {kw : List (Str × Value)} {R : Result → Shared → Prop} (hh : A.handled = none) (T : KeyTurn X A.in1 σ H pf (.ref f) xs key) (hs : SqL X.K H l xs) (hlI : l ≠ Ia) (hSI : S ≠ Ia)
    (wS : Own X (pf ++ pins) S) (wI : Own X (pf ++ pins) Ia)
    (hR : ∀ H2 s2 i b vb, Inv X (pf ++ pins) σ H2 s2 → Kp [] H H2 → Least xs key i b → RelV b vb → R (.ok (.ret vb)) s2) :
    ∀ (r j i : Nat) (s1 : Shared) (H1 : Hp) (b : V) (vb : Value) (tb : Tok) (c : Nat) (oI : Obj), xs.length - (j + 1) = r → j + 1 ≤ xs.length → Inv X (pf ++ ((S, seqObj "list" #[vb, .int (key b) tb] c) :: (Ia, oI) :: pins)) σ H1 s1 → Kp [] H H1 → s1.heap.IsListIter Ia l (j + 1) →
      xs[i]? = some b → RelV b vb → i ≤ j → (∀ (j' : Nat) (z : V), j' ≤ j → xs[j']? = some z → key b ≤ key z ∧ (j' < i → key b < key z)) →
      codeAny (model X.prog X.w) A (.builtin "min.loop" ⟨[.ref Ia, .ref f, .ref S], kw⟩) R s1 := by
  have hname : (toString "min" ++ toString ".loop" : String) = "min.loop" := by decide
  intro r
  induction r with
  | zero =>
    intro j i s1 H1 b vb tb c oI hr hj I1 k1 hit hb rb hij hbest
    have hin : j + 1 = xs.length := by omega
    have nS := inv_head I1
    have nI := inv_head (inv_unpin I1)
    obtain ⟨its, rv, hl, hz⟩ := I1.list (sl_kp k1 (by simp) hs)
    have W := Walks.list (prog := X.prog) (w := X.w) (A := A.in1) hh Ia l hlI its.toArray
    have hsz : its.toArray.size = xs.length := by rw [List.size_toArray, rv.length]
    refine codeAny_builtin (id := "min.loop") PySem.F.entry_min_loop ?_
    rw [Around.under_plainId PySem.F.plain_min_loop _]
    show wpAny (model X.prog X.w) A.in1 (seqItems? (.ref S) >>= _) _ _ _
    refine wpAny_bind (wpAny_seqItems (s := s1) nS.1 rfl ?_)
    show wpAny (model X.prog X.w) A.in1 (tryCatch (pyNext (.ref Ia)) _ >>= _) _ _ _
    refine wpAny_bind (wpAny_tryCatch (W.done s1 _ _ ⟨by rw [hsz, ← hin]; exact hit, hl.isList⟩ fun h' tk' hk' => ?_))
    have hS' := hk' S _ (by simpa using hSI) nS.1
    have I2 : Inv X (pf ++ ((S, seqObj "list" #[vb, .int (key b) tb] c) :: pins)) σ H1 { s1 with heap := h', toks := tk' } :=
      inv_pin (inv_turn (inv_unpin (inv_unpin I1)) wI nI.2 fun a o ha q => hk' a o (by simpa using ha) q) wS nS.2 hS' (fun _ z => by cases z)
    have I3 : Inv X (pf ++ pins) σ H1 { s1 with heap := h'.update S (Obj.mapSeq fun _ => (#[] : Array Value)), toks := tk' } :=
      inv_turn (s := { s1 with heap := h', toks := tk' }) (inv_unpin I2) wS nS.2 fun a o ha q => ((Heap.SameBut.update h' S _).2 a ha).trans q
    show wpAny (model X.prog X.w) A.in1 (updateSeq S (fun _ => #[]) >>= _) _ _ _
    refine wpAny_bind (wpAny_updateSeq hS' rfl (wpAny_bind (wpAny_letGo (wpAny_pure ?_))))
    exact hR H1 _ i b vb I3 k1 ⟨hb, fun j' z hz' => hbest j' z (by have := (List.getElem?_eq_some_iff.mp hz').1; omega) hz'⟩ rb
  | succ r ih =>
    intro j i s1 H1 b vb tb c oI hr hj I1 k1 hit hb rb hij hbest
    have hlt : j + 1 < xs.length := by omega
    have nS := inv_head I1
    have nI := inv_head (inv_unpin I1)
    obtain ⟨its, rv, hl, hz⟩ := I1.list (sl_kp k1 (by simp) hs)
    have W := Walks.list (prog := X.prog) (w := X.w) (A := A.in1) hh Ia l hlI its.toArray
    have hsz : its.toArray.size = xs.length := by rw [List.size_toArray, rv.length]
    refine codeAny_builtin (id := "min.loop") PySem.F.entry_min_loop ?_
    rw [Around.under_plainId PySem.F.plain_min_loop _]
    show wpAny (model X.prog X.w) A.in1 (seqItems? (.ref S) >>= _) _ _ _
    refine wpAny_bind (wpAny_seqItems (s := s1) nS.1 rfl ?_)
    show wpAny (model X.prog X.w) A.in1 (tryCatch (pyNext (.ref Ia)) _ >>= _) _ _ _
    refine wpAny_bind (wpAny_tryCatch (W.item (j + 1) s1 _ _ (by rw [hsz]; exact hlt) ⟨hit, hl.isList⟩ fun u h' tk' hP hst' hk' => ?_))
    have hu : its[j + 1]? = some u := by simpa using hP
    obtain ⟨x, hx⟩ : ∃ x, xs[j + 1]? = some x := ⟨_, List.getElem?_eq_getElem hlt⟩
    obtain ⟨u', hu', rx⟩ := Vals.get rv hx
    rw [hu] at hu'
    cases hu'
    obtain ⟨oI', hoI', hoc, hod⟩ := id hst'.1
    have hS' := hk' S _ (by simpa using hSI) nS.1
    have I2 : Inv X (pf ++ ((S, seqObj "list" #[vb, .int (key b) tb] c) :: (Ia, oI') :: pins)) σ H1 { s1 with heap := h', toks := tk' } :=
      inv_pin (inv_pin (inv_turn (inv_unpin (inv_unpin I1)) wI nI.2 fun a o ha q => hk' a o (by simpa using ha) q) wI nI.2 hoI' (fun v z => by rw [hod] at z; cases z)) (wS.cons hSI.symm) nS.2 hS' (fun _ z => by cases z)
    show wpAny (model X.prog X.w) A.in1 (tryCatch (holding [u] (call (.ref f) [u])) _ >>= _) _ _ _
    refine wpAny_bind (wpAny_tryCatch (wpAny_holding (wpAny_mono (T _ _ H1 x u I2 k1 (List.mem_of_getElem? hx) rx) (fun z s2 he => ?_) fun _ _ hF => hF.elim)))
    obtain ⟨H2, t2, I3, k2, rfl⟩ := he
    have nS2 := inv_head I3
    have nI2 := inv_head (inv_unpin I3)
    have hit2 : s2.heap.IsListIter Ia l (j + 1 + 1) := ⟨oI', nI2.1, hoc, hod⟩
    show wpAny (model X.prog X.w) A.in1 (tryCatch (holding [u, .int (key x) t2] (richCompare .Lt (.int (key x) t2) (.int (key b) tb) >>= _)) _ >>= _) _ _ _
    refine wpAny_bind (wpAny_tryCatch (wpAny_holding (wpAny_bind (CmpOf.ints_lt (prog := X.prog) (w := X.w) (A := A.in1) (P := fun i v => ∃ t, v = .int (if i = 0 then key x else key b) t) (fun i => if i = 0 then key x else key b) (fun i v h => h) 0 1 _ _ _ _ _ ⟨t2, rfl⟩ ⟨tb, rfl⟩ ?_))))
    refine wpAny_bind (wpAny_holding (wpAny_truthy_bool ?_))
    refine wpAny_bind (wpAny_letGo (wpAny_pure ?_))
    have hxb : ∀ (j' : Nat) (z : V), j' ≤ j + 1 → xs[j']? = some z → j' ≤ j ∨ z = x := fun j' z h1 h2 => by
      by_cases e : j' = j + 1
      · rw [e, hx] at h2
        exact .inr (Option.some.inj h2).symm
      · exact .inl (by omega)
    by_cases hbt : key x < key b
    · obtain ⟨c2, hc2⟩ : ∃ c2, (s2.heap.update S (Obj.mapSeq fun _ => #[u, .int (key x) t2])).get? S = some (seqObj "list" #[u, .int (key x) t2] c2) := ⟨_, get?_update_seq nS2.1 fun _ => #[u, .int (key x) t2]⟩
      have I4 : Inv X (pf ++ ((Ia, oI') :: pins)) σ H2 { s2 with heap := s2.heap.update S (Obj.mapSeq fun _ => #[u, .int (key x) t2]), toks := s2.toks } :=
        inv_turn (inv_unpin I3) (wS.cons hSI.symm) nS2.2 fun a o ha q => ((Heap.SameBut.update s2.heap S _).2 a ha).trans q
      simp only [if_true, if_neg (Nat.succ_ne_zero 0), hbt, decide_true]
      refine wpAny_bind (wpAny_updateSeq nS2.1 rfl (wpAny_bind (wpAny_letGo ?_)))
      rw [hname]
      refine wpAny_pure ⟨plainId_quiet PySem.F.plain_min_loop _, ih (j + 1) (j + 1) _ H2 x u t2 c2 oI' (by omega) hlt (inv_pin I4 (wS.cons hSI.symm) nS2.2 hc2 (fun _ z => by cases z)) (k1.trans k2) ?_ hx rx (Nat.le_refl _) fun j' z hj' hz' => ?_⟩
      · exact ⟨oI', ((Heap.SameBut.update s2.heap S _).2 Ia hSI.symm).trans nI2.1, hoc, hod⟩
      · rcases hxb j' z hj' hz' with e | e
        · have h1 := (hbest j' z e hz').1
          exact ⟨by omega, fun _ => by omega⟩
        · rw [e]
          refine ⟨Int.le_refl _, fun hlt' => ?_⟩
          have h1 := hbest j' z (by omega) hz'
          rw [e] at h1
          omega
    · simp only [if_true, if_neg (Nat.succ_ne_zero 0), hbt, decide_false, Bool.false_eq_true, if_false]
      refine wpAny_bind (wpAny_letGo ?_)
      rw [hname]
      refine wpAny_pure ⟨plainId_quiet PySem.F.plain_min_loop _, ih (j + 1) i _ H2 b vb tb c oI' (by omega) hlt I3 (k1.trans k2) hit2 hb rb (by omega) fun j' z hj' hz' => ?_⟩
      rcases hxb j' z hj' hz' with e | e
      · exact hbest j' z e hz'
      · rw [e]
        refine ⟨by omega, fun hlt' => ?_⟩
        have h1 := hbest j' z (by omega) hz'
        rw [e] at h1
        exact h1.2 hlt'
theorem min_args (a v u : Value) : argsOk "min" ⟨[a], [(Str.ofString "key", v), (Str.ofString "default", u)]⟩ := by unfold argsOk; kernel_rfl
/-- min(xs, key=f, default=None) -/
theorem min_key {f : Addr} {key : V → Int} {xs : List V} {l : Addr} {Q : VK} (hh : X.A.handled = none) (T : KeyTurn X X.A.in1 σ H pf (.ref f) xs key) (I : Inv X (pf ++ pins) σ H s) (hs : SqL X.K H l xs) (h1 : xs = [] → Q .non H)
    (h2 : ∀ H' i b, Kp [] H H' → Least xs key i b → Q b H') :
    wpAny (model X.prog X.w) X.A (call (.builtin "min") [.ref l] [(Str.ofString "key", .ref f), (Str.ofString "default", .none)]) (EP X (pf ++ pins) σ Q) X.xe s := by
  have hname : (toString "min" ++ toString ".loop" : String) = "min.loop" := by decide
  obtain ⟨its, rv, hl, hz⟩ := I.list hs
  have hll : l < s.heap.objs.size := by
    obtain ⟨ol, hol, _⟩ := hl.isList
    exact Heap.lt_size hol
  refine kmk_tree PySem.F.kind_min PySem.F.plain_min PySem.F.entry_min (min_args _ _ _) ?_
  show wpAny (model X.prog X.w) X.A.in1 (Builtin.Builtins.bindParams "min" ["key", "default"] 0 ⟨[], [(Str.ofString "key", .ref f), (Str.ofString "default", .none)]⟩ >>= _) _ _ s
  refine wpAny_bind (wpAny_of_eq (show Builtin.Builtins.bindParams "min" ["key", "default"] 0 ⟨[], [(Str.ofString "key", .ref f), (Str.ofString "default", .none)]⟩ = pure [some (.ref f), some .none] from rfl) ?_)
  refine wpAny_bind (wpAny_pure (wpAny_bind (wpAny_pyIter_list hl.isList ?_)))
  refine wpAny_bind (wpAny_newList (items := []) ?_ (Nat.zero_le _))
  rw [hname]
  have hS : (s.heap.push { cls := .type "list_iterator", data := .fields #[.ref l, .int 0 0] }).objs.size = s.heap.objs.size + 1 := size_push' ..
  have wI := Own.fresh I (Nat.le_refl _)
  have nI : H s.heap.objs.size = none := I.hok.fresh (Nat.le_refl _)
  have wS : Own X (pf ++ pins) (s.heap.push { cls := .type "list_iterator", data := .fields #[.ref l, .int 0 0] }).objs.size := Own.fresh I (by rw [hS]; exact Nat.le_succ _)
  have nS : H (s.heap.push { cls := .type "list_iterator", data := .fields #[.ref l, .int 0 0] }).objs.size = none := I.hok.fresh (by rw [hS]; exact Nat.le_succ _)
  have hSI : (s.heap.push { cls := .type "list_iterator", data := .fields #[.ref l, .int 0 0] }).objs.size ≠ s.heap.objs.size := by
    rw [hS]
    exact Nat.succ_ne_self _
  have I1 : Inv X (pf ++ pins) σ H { s with heap := (s.heap.push { cls := .type "list_iterator", data := .fields #[.ref l, .int 0 0] }).push (seqObj "list" #[] 0), toks := s.toks } :=
    I.kept fun b o q => Heap.get?_push_of_some _ (Heap.get?_push_of_some _ q)
  have gI : ((s.heap.push { cls := .type "list_iterator", data := .fields #[.ref l, .int 0 0] }).push (seqObj "list" #[] 0)).get? s.heap.objs.size = some { cls := .type "list_iterator", data := .fields #[.ref l, .int 0 0] } := Heap.get?_push_of_some _ (Heap.get?_push_size _ rfl)
  have gS : ((s.heap.push { cls := .type "list_iterator", data := .fields #[.ref l, .int 0 0] }).push (seqObj "list" #[] 0)).get? (s.heap.push { cls := .type "list_iterator", data := .fields #[.ref l, .int 0 0] }).objs.size = some (seqObj "list" #[] 0) := Heap.get?_push_size _ rfl
  refine wpAny_pure ⟨plainId_quiet PySem.F.plain_min_loop _, ?_⟩
  show codeAny _ _ (.builtin "min.loop" ⟨[.ref s.heap.objs.size, .ref f, .ref _], [("default", .none)]⟩) _ { s with heap := (s.heap.push { cls := .type "list_iterator", data := .fields #[.ref l, .int 0 0] }).push (seqObj "list" #[] 0), toks := s.toks }
  generalize (s.heap.push { cls := .type "list_iterator", data := .fields #[.ref l, .int 0 0] }).push (seqObj "list" #[] 0) = h0 at I1 gI gS ⊢
  generalize (s.heap.push { cls := .type "list_iterator", data := .fields #[.ref l, .int 0 0] }).objs.size = S at *
  obtain ⟨its, rv, hl, hz⟩ := I1.list hs
  have W := Walks.list (prog := X.prog) (w := X.w) (A := X.A.in1) hh s.heap.objs.size l (Nat.ne_of_lt hll) its.toArray
  have hsz : its.toArray.size = xs.length := by rw [List.size_toArray, rv.length]
  refine codeAny_builtin (id := "min.loop") PySem.F.entry_min_loop ?_
  rw [Around.under_plainId PySem.F.plain_min_loop _]
  show wpAny (model X.prog X.w) X.A.in1 (seqItems? (.ref S) >>= _) _ _ _
  refine wpAny_bind (wpAny_seqItems gS rfl ?_)
  show wpAny (model X.prog X.w) X.A.in1 (tryCatch (pyNext (.ref s.heap.objs.size)) _ >>= _) _ _ _
  cases xs with
  | nil =>
    refine wpAny_bind (wpAny_tryCatch (W.done { s with heap := h0, toks := s.toks } _ _ ⟨by rw [hsz]; exact ⟨_, gI, rfl, rfl⟩, hl.isList⟩ fun h' tk' hk' => ?_))
    refine wpAny_bind (wpAny_rule (wpAny_pure ?_))
    exact ⟨.non, H, inv_turn (s := { s with heap := h0, toks := s.toks }) I1 wI nI fun a o ha q => hk' a o (by simpa using ha) q, rfl, h1 rfl⟩
  | cons x xs =>
    refine wpAny_bind (wpAny_tryCatch (W.item 0 { s with heap := h0, toks := s.toks } _ _ (by rw [hsz]; exact Nat.succ_pos _) ⟨⟨_, gI, rfl, rfl⟩, hl.isList⟩ fun u h' tk' hP hst' hk' => ?_))
    have hu : its[0]? = some u := by simpa using hP
    have hx : (x :: xs)[0]? = some x := rfl
    obtain ⟨u', hu', rx⟩ := Vals.get rv hx
    rw [hu] at hu'
    cases hu'
    obtain ⟨oI', hoI', hoc, hod⟩ := id hst'.1
    have hS' := hk' S _ (by simpa using hSI) gS
    have I2 : Inv X (pf ++ ((S, seqObj "list" #[] 0) :: (s.heap.objs.size, oI') :: pins)) σ H { s with heap := h', toks := tk' } :=
      inv_pin (inv_pin (inv_turn (s := { s with heap := h0, toks := s.toks }) I1 wI nI fun a o ha q => hk' a o (by simpa using ha) q) wI nI hoI' (fun v z => by rw [hod] at z; cases z)) (wS.cons hSI.symm) nS hS' (fun _ z => by cases z)
    show wpAny (model X.prog X.w) X.A.in1 (tryCatch (holding [u] (call (.ref f) [u])) _ >>= _) _ _ _
    refine wpAny_bind (wpAny_tryCatch (wpAny_holding (wpAny_mono (T _ _ H x u I2 Kp.refl (.head _) rx) (fun z s2 he => ?_) fun _ _ hF => hF.elim)))
    obtain ⟨H2, t2, I3, k2, rfl⟩ := he
    have nS2 := inv_head I3
    have nI2 := inv_head (inv_unpin I3)
    obtain ⟨c2, hc2⟩ : ∃ c2, (s2.heap.update S (Obj.mapSeq fun _ => #[u, .int (key x) t2])).get? S = some (seqObj "list" #[u, .int (key x) t2] c2) := ⟨_, get?_update_seq nS2.1 fun _ => #[u, .int (key x) t2]⟩
    have I4 : Inv X (pf ++ ((s.heap.objs.size, oI') :: pins)) σ H2 { s2 with heap := s2.heap.update S (Obj.mapSeq fun _ => #[u, .int (key x) t2]), toks := s2.toks } :=
      inv_turn (inv_unpin I3) (wS.cons hSI.symm) nS2.2 fun a o ha q => ((Heap.SameBut.update s2.heap S _).2 a ha).trans q
    show wpAny (model X.prog X.w) X.A.in1 (updateSeq S (fun _ => #[u, .int (key x) t2]) >>= _) _ _ _
    refine wpAny_bind (wpAny_updateSeq nS2.1 rfl ?_)
    rw [hname]
    refine wpAny_pure ⟨plainId_quiet PySem.F.plain_min_loop _, min_loop (xs := x :: xs) hh T hs (Nat.ne_of_lt hll) hSI wS wI (fun H3 s3 i b vb I5 k3 hb rb => ⟨b, H3, I5, rb, h2 H3 i b k3 hb⟩) _ 0 0 _ H2 x u t2 c2 oI' rfl (Nat.succ_pos _) (inv_pin I4 (wS.cons hSI.symm) nS2.2 hc2 (fun _ z => by cases z)) k2
      ⟨oI', ((Heap.SameBut.update s2.heap S _).2 _ hSI.symm).trans nI2.1, hoc, hod⟩ hx rx (Nat.le_refl _) fun j' z hj' hz' => ?_⟩
    have e : j' = 0 := by omega
    rw [e] at hz'
    cases hz'
    exact ⟨Int.le_refl _, fun q => by omega⟩
/-- min(e, key=lambda p: body, default=None) -/
def tMinKey (K : PySem.W.Frag) (T : List (Addr × Str)) (N0 N : List Str) (p : Str) (t : TA) (tb : TE) : TE := fun σ H Q => t σ H fun vs H1 => ∃ (l : Addr) (xs : List V) (key : V → Int) (τ : V → L2.St), vs = [.ref l] ∧ SqL K H1 l xs ∧ LamX.Tabs T H1 ∧
  (∀ v, v ∈ xs → CapsN N0 σ N (τ v) p v) ∧ ∀ H2, LamX.ExtN H1 H2 → LamX.Tabs T H2 → (∀ (H3 : Hp) (v : V), v ∈ xs → Kp [] H2 H3 → tb (τ v) H3 fun x H4 => x = .int (key v) ∧ Kp [] H3 H4) ∧
    (xs = [] → Q .non H2) ∧ ∀ (H3 : Hp) (i : Nat) (b : V), Kp [] H2 H3 → Least xs key i b → Q b H3
theorem pe_minKey {T : List (Addr × Str)} {N : List Str} {k : Nat} {c P : Addr} {scope : Scope} {p : Str} {params : Arguments} {e body : Expr} {t : TA} {tb : TE} {p1 kpos lpos dpos npos pos : Pos} {jn : Nat} (hg : Gl X "min") (hm : X.mg "min" = none) (ha : PA X [e] t)
    (TB : LamX.TabB X.base X.mg c P) (hcode : X.env.code = .ref c) (hmT : (P, X.env.qual ++ "<lambda>") ∈ T) (huT : ∀ p ∈ T, p.1 = P → p.2 = X.env.qual ++ "<lambda>") (hr : Room (k + 3) X.A) (L : Lam1 X.env.scope scope p) (hdef : defaultsOf params X.env = ([], []))
    (hbind : ∀ (q : Str) (cl : List (Str × Addr)) (pm cv ctv u : Value), bindArgs (PySem.W.kla_fn "<lambda>" q params body scope cl pm cv ctv) ⟨[u], []⟩ = pure [(p, u)])
    (hbody : ∀ (s : Shared) (H : Hp) (f c' : Addr), Room k (X.A.in1.deeper (LamX.lamEnv X scope s.heap.objs.size f c')) → PE (lam1Cx X X.A.in1 s H N scope f c') body tb)
    (he : backTo pos (starEach [e] X.env) = (false, eval e X.env) :: backTo pos (starEach [] X.env) := by rfl) (hpl : (backTo pos (starEach [e] X.env)).any (·.1) = false := by rfl) :
    PE X (.Call (.Name "min" p1) [e] [⟨some "key", .Lambda params body scope lpos, kpos⟩, ⟨some "default", .Constant .none jn npos, dpos⟩] pos) (tMinKey X.K T X.N N p t tb) := by
  refine ⟨fun pins s σ H Q I h => ?_⟩
  refine wpAny_Call_Name_kw (ld_blt I hg hm (show bootBuiltins "min" = some (.builtin "min") by rfl) ?_ (by decide) (by decide))
  refine PyProof.Rows.callWith_kw (thn (ha.run pos pins s σ H _ I h) fun us s1 ⟨vs, H1, I1, r1, q1⟩ => ?_) he hpl rfl rfl
  obtain ⟨l, xs, key, τ, rfl, hs, hT, hC, q⟩ := q1
  obtain rfl := Vals.ref1 r1
  show wpAny _ _ (evalAll [(do let v ← eval (.Lambda params body scope lpos) X.env; standAt pos; pure v), (do let v ← eval (.Constant .none jn npos) X.env; standAt pos; pure v)]) _ _ s1
  refine wpAny_evalAll_cons (wpAny_bind (LamX.lam_make2 I1 TB hcode hmT huT hT hdef (L.has I1.ok) fun f c' pm ctv H2 s2 I2 eN T2 hf hfn hfr hco => wpAny_bind (wpAny_standAt (wpAny_pure ?_))))
  obtain ⟨hb, hq0, hq⟩ := q H2 eN T2
  have I3 := fn_pin I2 hf rfl hfn hfr
  refine wpAny_evalAll_cons (wpAny_bind (thn ((pe_non (X := X)).run _ s2 σ H2 (fun (x : V) (H3 : Hp) => x = V.non ∧ H3 = H2) I3 ⟨rfl, rfl⟩) fun u s3 ⟨v, H3, I4, rv, ev, eH⟩ => wpAny_bind (wpAny_standAt (wpAny_pure (wpAny_evalAll_nil ?_)))))
  rw [ev] at rv
  rw [eH] at I4
  obtain rfl : u = Value.none := rv
  show wpAny _ _ (call (.builtin "min") [.ref l] [(Str.ofString "key", .ref f), (Str.ofString "default", .none)]) _ _ s3
  refine wpAny_mono (min_key hr.hd (lam1_turn L hco I2.ok.frames hr.in1 (fun u => hbind _ _ _ _ _ u) hC fun s H3 v hv k3 hr3 => ⟨tb, hbody s H3 f c' (hr3.mono (Nat.le_succ _)), hb H3 v hv k3⟩) I4 (sq_ext eN hs) hq0 hq) (fun u s' h => ep_less h) fun _ _ h => h
end
end RD
/-! ### the head of a law whose defs make lambdas -/
namespace RD
open PySem PySem.Spec PyProof.Rows L2 He
section
variable {P : Program} {w : World} {K : PySem.W.Frag} {mg : Str → Option Value} {base : Heap} {CX : CXT} {x qual : Str} {params : Arguments} {body : List Stmt} {scope : Scope} {dvs : List V} {kws : List (Str × V)} {fd : FuncData}
/-- a def whose code object is told -/
theorem fnDc {at_ : Str × Option Str} {N ps : List Str} {k : Nat} {sp : Sp} (F : FunD K x qual params body scope dvs kws (fAd K at_) fd) (S : FnScope N ps scope) (len : ∀ vs H Q E, sp vs H Q E → vs.length = ps.length)
    (hbody : ∀ (A : Around) (outer : List Env) (s : Shared) (H : Hp) (vs : List V) (Q : VK) (E : XK), Room k (A.deeper (envOfC qual scope s.heap.objs.size (fAd K at_) (.ref (codeOf K at_)))) → sp vs H Q E →
      ∃ t, PSs (cxOf CX0 P w K mg base N qual scope (fAd K at_) (.ref (codeOf K at_)) A outer s H E).nox body t ∧ t ⟨fun _ H' => Q .non H', Q, fun _ _ => False, fun _ _ => False⟩ (start N vs) H) : FnOk P w K mg base CX0 (k + 1) (fAd K at_) fd ps sp := by
  obtain ⟨oc, od, dV, kV, doc, pm, an, cdv, ct, osl, e0, lk, hcd, _, _⟩ := F.ex
  obtain ⟨c, hc⟩ := codeIn_ref hcd
  have e : cdv = .ref (codeOf K at_) := by
    rw [hc]
    refine congrArg Value.ref (codeOf_eq lk ?_).symm
    rw [e0]
    exact hc
  subst e0
  subst e
  exact fn_of lk hcd S len fun A outer s H vs Q E hr hsp => let ⟨t, h1, h2⟩ := hbody A outer s H vs Q E hr hsp; ⟨t, h1.nox, h2⟩
end
/-- the tables at the law's entry -/
theorem tabs_nil {tf : List He.Defn} {K : PySem.W.Frag} {T : List (Addr × Str)} {H : Hp} (e : T.map (·.1) = tf.map fun p => (He.cT K p).2) (h : ∀ p ∈ tf.map (He.cT K), H p.2 = some (.tbl #[])) : LamX.Tabs T H := fun p hp => by
  have hm : p.1 ∈ tf.map fun p => (He.cT K p).2 := e ▸ List.mem_map_of_mem hp
  obtain ⟨q, hq, e2⟩ := List.mem_map.mp hm
  refine LamX.TabS.nil ?_
  rw [← e2]
  exact h _ (List.mem_map_of_mem hq)
end RD
/-! ### frames where tables of lambdas may grow -/
namespace RD
open PySem PySem.Spec PyProof.Rows L2 He
def NoTbl (o : HO) : Prop := ∀ t, o ≠ .tbl t
def Kt (T : List (Addr × Str)) (ps : List Addr) (H H' : Hp) : Prop := (∀ b o, H b = some o → NoTbl o → b ∉ ps → H' b = some o) ∧ LamX.Tabs T H'
section
variable {T : List (Addr × Str)} {ps : List Addr} {H H' H'' : Hp} {p q b : Addr} {o : HO}
theorem Kt.refl (h : LamX.Tabs T H) : Kt T ps H H := ⟨fun _ _ e _ _ => e, h⟩
theorem Kt.trans (a : Kt T ps H H') (b : Kt T ps H' H'') : Kt T ps H H'' := ⟨fun c o e n m => b.1 c o (a.1 c o e n m) n m, b.2⟩
theorem Kt.g0 (a : Kt T [] H H') (n : NoTbl o) (e : H b = some o) : H' b = some o := a.1 b o e n (by simp)
theorem Kt.g1 (a : Kt T [p] H H') (n : NoTbl o) (m : b ≠ p) (e : H b = some o) : H' b = some o := a.1 b o e n (by simp [m])
theorem Kt.of0 (a : Kt T [] H H') : Kt T ps H H' := ⟨fun c o e n _ => a.1 c o e n (by simp), a.2⟩
/-- q is none of the things that stand (tables left out) -/
def Frn (H : Hp) (q : Addr) : Prop := ∀ b o, H b = some o → NoTbl o → b ≠ q
theorem Kt.frn (a : Kt T [] H H') {l : Addr} (h : H' l = none) : Frn H l := fun b o e n z => by
  rw [z] at e
  rw [a.g0 n e] at h
  cases h
theorem Frn.kt {l : Addr} (h : Frn H' l) (a : Kt T [] H H') : Frn H l := fun b o e n => h b o (a.g0 n e) n
theorem Frn.kp {l : Addr} (h : Frn H' l) (a : Kp [] H H') : Frn H l := fun b o e n => h b o (a.g0 e) n
theorem Frn.of {l : Addr} (h : H l = none) : Frn H l := fun b o e _ => ne_of_none e h
theorem Kt.ext (a : LamX.ExtN H H') (t : LamX.Tabs T H') : Kt T ps H H' := ⟨fun b o e n _ => a b o e n, t⟩
/-- what a table and its code objects are not -/
def Plain : HO → Prop
  | .tbl _ => False
  | .ext _ => False
  | _ => True
theorem Plain.noTbl (h : Plain o) : NoTbl o := by
  intro t z
  rw [z] at h
  exact h
theorem tabs_kp (h : LamX.Tabs T H) (k : Kp ps H H') (n : ∀ p, p ∈ ps → ∃ o, H p = some o ∧ Plain o) : LamX.Tabs T H' := fun p hp => by
  obtain ⟨tb, h1, h2, h3⟩ := h p hp
  have ne : ∀ b o, H b = some o → ¬ Plain o → b ∉ ps := fun b o e m z => by
    obtain ⟨o', e', w⟩ := n b z
    rw [e] at e'
    cases e'
    exact m w
  refine ⟨tb, k _ _ h1 (ne _ _ h1 (fun z => z)), h2, fun pos cv e => ?_⟩
  obtain ⟨c, e1, e2⟩ := h3 pos cv e
  exact ⟨c, e1, k _ _ e2 (ne _ _ e2 (fun z => z))⟩
theorem Kt.kp (h : LamX.Tabs T H) (k : Kp ps H H') (n : ∀ p, p ∈ ps → ∃ o, H p = some o ∧ Plain o) : Kt T ps H H' := ⟨fun c o e _ m => k c o e m, tabs_kp h k n⟩
theorem Kt.kp0 (h : LamX.Tabs T H) (k : Kp [] H H') : Kt T ps H H' := ⟨fun c o e _ _ => k c o e (by simp), tabs_kp h k (fun _ z => by cases z)⟩
theorem Kt.kp1 (h : LamX.Tabs T H) (k : Kp [p] H H') (e : H p = some o) (w : Plain o) : Kt T [p] H H' := Kt.kp h k fun q hq => by
  rw [List.mem_singleton.mp hq]
  exact ⟨o, e, w⟩
theorem Kt.new (h : LamX.Tabs T H) (e : H p = none) : Kt T ps H (upd H p o) := Kt.kp0 h (Kp.new e)
theorem Kt.wr {u : HO} (a : Kt T ps H H') (h : p ∈ ps) (e : H' p = some u) (w : Plain u) : Kt T ps H (upd H' p o) :=
  ⟨fun c v ev n m => by
    have hc : c ≠ p := fun z => m (z ▸ h)
    rw [upd_ne hc]
    exact a.1 c v ev n m, tabs_kp a.2 (Kp.refl.wr (ps := [p]) (by simp)) fun q hq => by
    rw [List.mem_singleton.mp hq]
    exact ⟨u, e, w⟩⟩
theorem Kt.nw (a : Kt T ps H H') (e : H' p = none) : Kt T ps H (upd H' p o) := a.trans (Kt.new a.2 e)
end
/-! ### a class made with keywords -/
theorem vals_at {xs : List V} {us : List Value} (i : Nat) (h : Vals xs us) : Vals (xs[i]?).toList (us[i]?).toList := by
  cases e : xs[i]? with
  | none => rw [h.none_of e]; exact .nil
  | some x =>
    obtain ⟨u, e2, r⟩ := h.get e
    rw [e2]
    exact .cons r .nil
structure MakKX (P : Program) (w : World) (K : PySem.W.Frag) (mg : Str → Option Value) (base : Heap) (CX : CXT) (k : Nat) (x : Str) (C : Addr) (sp : Sp) (n : Nat) (ks : List Str) (gV : List V → List V → List V) : Prop where
  ex : ∃ (f : Addr) (fd : FuncData) (ps : List Str) (g : List Value → List Value → List Value), Mk K C f ∧ FnOk P w K mg base CX k f fd ps sp ∧ mg x = some (.ref C) ∧ KBn K fd ps (n + 1) ks g gV
theorem pe_makKX {X : Cx} {CX : CXT} {k j n : Nat} {C : Addr} {x : Str} {sp : Sp} {E : XK} {ks : List Str} {gV : List V → List V → List V} {p pos : Pos} {e : Expr} {es : List Expr} {kws : List Keyword} {t tk : TA} (c : MakKX X.prog X.w X.K X.mg X.base CX k x C sp n ks gV) (hr : Room j X.A) (hk : k + 1 ≤ j) (hg : Gl X x) (hx : Passes CX X E) (ha : PA X (e :: es) t) (hkw : PK X kws tk)
    (hall : (backToKw pos (keywordEach kws X.env)).all (·.1.isSome) = true := by rfl) (hks : (backToKw pos (keywordEach kws X.env)).filterMap (·.1) = ks := by rfl) (hdb : (x == ("__debug__" : Str)) = false := by decide)
    (he : starEach (e :: es) X.env = (false, eval e X.env) :: starEach es X.env := by rfl) (hpl : ((backTo pos (starEach (e :: es) X.env)).any (·.1) || (backToKw pos (keywordEach kws X.env)).any (·.1.isNone)) = false := by rfl) :
    PE X (.Call (.Name x p) (e :: es) kws pos) (tMakeK C n ks.length sp gV E t tk) := by
  obtain ⟨f, fd, ps, g, M, F, hm, hb⟩ := c.ex
  exact pe_makeK M F (hr.mono hk) hg hm hb hx ha hkw hall hks hdb he hpl
theorem rd_makeK {σ : L2.St} {H : Hp} {Q : VK} {C : Addr} {n m : Nat} {sp : Sp} {gV : List V → List V → List V} {E : XK} {t tk : TA} (h : t σ H fun vs H1 => tk σ H1 fun zs H2 => vs.length = n ∧ zs.length = m ∧ ∀ x dx, H2 x = none → H2 dx = none → dx ≠ x →
    sp (gV (.ref x :: vs) zs) (upd (upd H2 dx (.own x)) x (.ins C dx [])) (fun v H3 => v = .non ∧ Q (.ref x) H3) E) : tMakeK C n m sp gV E t tk σ H Q := h
/-! ### more readings -/
section
variable {K : PySem.W.Frag} {σ : L2.St} {H : Hp} {Q : VK} {ta : TE}
theorem rd_prop {C : Addr} {sp : Sp} {E : XK} (h : ta σ H fun x H1 => ∃ a dx fs, x = V.ref a ∧ H1 a = some (.ins C dx fs) ∧ sp [.ref a] H1 Q E) : tProp C sp [] E ta σ H Q := h
theorem rd_propX {C a dx : Addr} {fs : List (Str × V)} {R : Addr → Prop} (h : H a = some (.ins C dx fs)) (q : R a) : ∃ a' dx' fs', V.ref a = V.ref a' ∧ H a' = some (.ins C dx' fs') ∧ R a' := ⟨a, dx, fs, rfl, h, q⟩
theorem rd_revL {te : TE} (h : te σ H fun x H1 => ∃ a xs, x = V.ref a ∧ SqL K H1 a xs ∧ ∀ p, H1 p = none → Q (.ref p) (upd H1 p (.lst xs.reverse))) : tRevL K te σ H Q := h
theorem rd_revLX {a : Addr} {xs : List V} {R : List V → Prop} (h : SqL K H a xs) (q : R xs) : ∃ a' ys, V.ref a = V.ref a' ∧ SqL K H a' ys ∧ R ys := ⟨a, xs, rfl, h, q⟩
end
end RD
namespace RD
open PySem PySem.Spec PyProof.Rows L2 He
/-! ### comprehensions that only look -/
theorem filter_take {α : Type} {p : α → Bool} {ns : List α} {i : Nat} (h : i < ns.length) : (ns.take (i + 1)).filter p = (ns.take i).filter p ++ (if p ns[i] = true then [ns[i]] else []) := by
  rw [List.take_succ_eq_append_getElem h, List.filter_append]
  congr 1
  cases e : p ns[i] <;> simp [e]
section
variable {K : PySem.W.Frag} {σ : L2.St} {H : Hp} {te : TE} {tt : TT}
theorem lcF_ints {a D : Addr} {g : TG} {vs : List Nat} {Qd : Hp → Prop} (ns : List Int) (p : Int → Bool) (f : Int → V) (hS : SqL K H a (ns.map V.int)) (hD : H D = none) (hl : ns.length < 1000000)
    (hs : ∀ (i : Nat) (h : i < ns.length) H1 (E : VK) (N : Hp → Prop), Kp [] H H1 → (∀ H4, Kp [] H1 H4 → p ns[i] = true → E (f ns[i]) H4) → (∀ H3, Kp [] H1 H3 → p ns[i] = false → N H3) → g (.int ns[i]) (wipe σ vs) H1 fun σ2 H2 => wipe σ2 vs = wipe σ vs ∧ tt σ2 H2 fun b H3 => if b = true then te σ2 H3 E else N H3)
    (hd : ∀ H', Kp [] H H' → H' D = some (.lst ((ns.filter p).map f)) → Qd H') : LcG (Itl K a) g tt te vs σ D Qd H := by
  refine lcL_ints ns (fun i H' => H' D = some (.lst (((ns.take i).filter p).map f)) ∧ Kp [] H H') ⟨upd_same, Kp.new hD⟩ (fun i H' _ q => sl_kp q.2 (by simp) hS) (fun i hi H' q => ?_) (fun H' q => ?_)
  · refine hs i hi H' _ _ q.2 (fun H4 k4 hp => ?_) (fun H3 k3 hp => ?_)
    · have fl : (((ns.take i).filter p).map f).length < sizeLine := szlt (by
        rw [List.length_map]
        have h1 := List.length_filter_le p (ns.take i)
        rw [List.length_take] at h1
        omega)
      refine ⟨_, k4.g0 q.1, fl, ?_, Kp.mine (q.2.trans k4) hD⟩
      rw [upd_same, filter_take hi, if_pos hp, List.map_append]
      rfl
    · refine ⟨?_, q.2.trans k3⟩
      rw [filter_take hi, if_neg (by rw [hp]; exact Bool.false_ne_true), List.append_nil]
      exact k3.g0 q.1
  · rw [List.take_length] at q
    exact hd H' q.2 q.1
theorem lcF_range {lo : Int} {n : Nat} {D : Addr} {g : TG} {vs : List Nat} {Qd : Hp → Prop} (p : Nat → Bool) (f : Nat → V) (hD : H D = none) (hl : n < 1000000)
    (hs : ∀ (i : Nat) (h : i < n) H1 (E : VK) (N : Hp → Prop), Kp [] H H1 → (∀ H4, Kp [] H1 H4 → p i = true → E (f i) H4) → (∀ H3, Kp [] H1 H3 → p i = false → N H3) → g (.int (lo + i)) (wipe σ vs) H1 fun σ2 H2 => wipe σ2 vs = wipe σ vs ∧ tt σ2 H2 fun b H3 => if b = true then te σ2 H3 E else N H3)
    (hd : ∀ H', Kp [] H H' → H' D = some (.lst (((List.range n).filter p).map f)) → Qd H') : LcG (Itr lo n) g tt te vs σ D Qd H := by
  refine lcR_by (fun i H' => H' D = some (.lst (((List.range i).filter p).map f)) ∧ Kp [] H H') ⟨upd_same, Kp.new hD⟩ (fun i H' hi q => ?_) (fun H' q => hd H' q.2 q.1)
  have er : (List.range (i + 1)).filter p = (List.range i).filter p ++ (if p i = true then [i] else []) := by
    rw [List.range_succ, List.filter_append]
    congr 1
    cases e : p i <;> simp [e]
  refine hs i hi H' _ _ q.2 (fun H4 k4 hp => ?_) (fun H3 k3 hp => ?_)
  · have fl : (((List.range i).filter p).map f).length < sizeLine := szlt (by
      rw [List.length_map]
      have h1 := List.length_filter_le p (List.range i)
      rw [List.length_range] at h1
      omega)
    refine ⟨_, k4.g0 q.1, fl, ?_, Kp.mine (q.2.trans k4) hD⟩
    rw [upd_same, er, if_pos hp, List.map_append]
    rfl
  · refine ⟨?_, q.2.trans k3⟩
    rw [er, if_neg (by rw [hp]; exact Bool.false_ne_true), List.append_nil]
    exact k3.g0 q.1
end
def keyV (f : Int → Int) : V → Int
  | .int i => f i
  | _ => 0
theorem sort_keyV (f : Int → Int) (ns : List Int) : ((ns.map V.int).mergeSort fun a b => decide (keyV f a ≤ keyV f b)) = (ns.mergeSort fun a b => decide (f a ≤ f b)).map V.int :=
  (List.map_mergeSort (f := V.int) (r := fun a b => decide (f a ≤ f b)) (s := fun a b => decide (keyV f a ≤ keyV f b)) fun _ _ _ _ => rfl).symm
end RD
namespace RD
open PySem PySem.Spec PyProof.Rows L2 He
section
variable {K : PySem.W.Frag} {σ : L2.St} {H : Hp} {T : List (Addr × Str)} {N0 N : List Str} {p : Str} {t : TA} {tb : TE} {Q : VK}
theorem rd_sortKey (h : t σ H fun vs H1 => ∃ (l : Addr) (xs : List V) (key : V → Int) (τ : V → L2.St), vs = [.ref l] ∧ SqL K H1 l xs ∧ LamX.Tabs T H1 ∧
  (∀ v, v ∈ xs → CapsN N0 σ N (τ v) p v) ∧ ∀ H2, LamX.ExtN H1 H2 → LamX.Tabs T H2 → (∀ (H3 : Hp) (v : V), v ∈ xs → Kp [] H2 H3 → tb (τ v) H3 fun x H4 => x = .int (key v) ∧ Kp [] H3 H4) ∧
    ∀ (H3 : Hp) (q : Addr), Kp [] H2 H3 → H3 q = none → Q (.ref q) (upd H3 q (.lst (xs.mergeSort fun a b => decide (key a ≤ key b))))) : tSortKey K T N0 N p t tb σ H Q := h
theorem rd_minKey (h : t σ H fun vs H1 => ∃ (l : Addr) (xs : List V) (key : V → Int) (τ : V → L2.St), vs = [.ref l] ∧ SqL K H1 l xs ∧ LamX.Tabs T H1 ∧
  (∀ v, v ∈ xs → CapsN N0 σ N (τ v) p v) ∧ ∀ H2, LamX.ExtN H1 H2 → LamX.Tabs T H2 → (∀ (H3 : Hp) (v : V), v ∈ xs → Kp [] H2 H3 → tb (τ v) H3 fun x H4 => x = .int (key v) ∧ Kp [] H3 H4) ∧
    (xs = [] → Q .non H2) ∧ ∀ (H3 : Hp) (i : Nat) (b : V), Kp [] H2 H3 → Least xs key i b → Q b H3) : tMinKey K T N0 N p t tb σ H Q := h
/-- of a list of ints, at the key f -/
theorem rd_sortI {D : Addr} (f : Int → Int) (ns : List Int) (τ : Int → L2.St) (hS : SqL K H D (ns.map V.int)) (hT : LamX.Tabs T H) (hC : ∀ n, CapsN N0 σ N (τ n) p (.int n))
    (hb : ∀ (H3 : Hp) (n : Int) (Q' : VK), n ∈ ns → Kt T [] H H3 → Q' (.int (f n)) H3 → tb (τ n) H3 Q')
    (hq : ∀ (H3 : Hp) (q : Addr), Kt T [] H H3 → H3 q = none → Q (.ref q) (upd H3 q (.lst ((ns.mergeSort fun a b => decide (f a ≤ f b)).map V.int)))) :
    ∃ (l : Addr) (xs : List V) (key : V → Int) (τ : V → L2.St), [V.ref D] = [.ref l] ∧ SqL K H l xs ∧ LamX.Tabs T H ∧
      (∀ v, v ∈ xs → CapsN N0 σ N (τ v) p v) ∧ ∀ H2, LamX.ExtN H H2 → LamX.Tabs T H2 → (∀ (H3 : Hp) (v : V), v ∈ xs → Kp [] H2 H3 → tb (τ v) H3 fun x H4 => x = .int (key v) ∧ Kp [] H3 H4) ∧
        ∀ (H3 : Hp) (q : Addr), Kp [] H2 H3 → H3 q = none → Q (.ref q) (upd H3 q (.lst (xs.mergeSort fun a b => decide (key a ≤ key b)))) := by
  refine ⟨D, _, keyV f, fun v => match v with | .int n => τ n | _ => [], rfl, hS, hT, fun v hv => ?_, fun H2 e2 t2 => ⟨fun H3 v hv k3 => ?_, fun H3 q k3 nq => ?_⟩⟩
  · obtain ⟨n, _, rfl⟩ := List.mem_map.mp hv
    exact hC n
  · obtain ⟨n, hn, rfl⟩ := List.mem_map.mp hv
    exact hb H3 n _ hn ((Kt.ext e2 t2).trans (Kt.kp0 t2 k3)) ⟨rfl, Kp.refl⟩
  · rw [sort_keyV]
    exact hq H3 q ((Kt.ext e2 t2).trans (Kt.kp0 t2 k3)) nq
theorem rd_minI {D : Addr} (f : Int → Int) (ns : List Int) (τ : Int → L2.St) (hS : SqL K H D (ns.map V.int)) (hT : LamX.Tabs T H) (hC : ∀ n, CapsN N0 σ N (τ n) p (.int n))
    (hb : ∀ (H3 : Hp) (n : Int) (Q' : VK), n ∈ ns → Kt T [] H H3 → Q' (.int (f n)) H3 → tb (τ n) H3 Q')
    (h0 : ∀ (H3 : Hp), ns = [] → Kt T [] H H3 → Q .non H3)
    (h1 : ∀ (H3 : Hp) (i : Nat) (b : Int), Kt T [] H H3 → ns[i]? = some b → (∀ (j : Nat) (z : Int), ns[j]? = some z → f b ≤ f z ∧ (j < i → f b < f z)) → Q (.int b) H3) :
    ∃ (l : Addr) (xs : List V) (key : V → Int) (τ : V → L2.St), [V.ref D] = [.ref l] ∧ SqL K H l xs ∧ LamX.Tabs T H ∧
      (∀ v, v ∈ xs → CapsN N0 σ N (τ v) p v) ∧ ∀ H2, LamX.ExtN H H2 → LamX.Tabs T H2 → (∀ (H3 : Hp) (v : V), v ∈ xs → Kp [] H2 H3 → tb (τ v) H3 fun x H4 => x = .int (key v) ∧ Kp [] H3 H4) ∧
        (xs = [] → Q .non H2) ∧ ∀ (H3 : Hp) (i : Nat) (b : V), Kp [] H2 H3 → Least xs key i b → Q b H3 := by
  refine ⟨D, _, keyV f, fun v => match v with | .int n => τ n | _ => [], rfl, hS, hT, fun v hv => ?_, fun H2 e2 t2 => ⟨fun H3 v hv k3 => ?_, fun e => ?_, fun H3 i b k3 hl => ?_⟩⟩
  · obtain ⟨n, _, rfl⟩ := List.mem_map.mp hv
    exact hC n
  · obtain ⟨n, hn, rfl⟩ := List.mem_map.mp hv
    exact hb H3 n _ hn ((Kt.ext e2 t2).trans (Kt.kp0 t2 k3)) ⟨rfl, Kp.refl⟩
  · exact h0 H2 (List.map_eq_nil_iff.mp e) (Kt.ext e2 t2)
  · obtain ⟨e1, e3⟩ := hl
    rw [List.getElem?_map] at e1
    obtain ⟨n, hn, rfl⟩ := Option.map_eq_some_iff.mp e1
    refine h1 H3 i n ((Kt.ext e2 t2).trans (Kt.kp0 t2 k3)) hn fun j z hz => ?_
    exact e3 j (.int z) (by rw [List.getElem?_map, hz]; rfl)
end
end RD
namespace RD
open PySem PySem.Spec PyProof.Rows L2 He
/-! ### wide divisors, fields that are added to, least of a list -/
theorem wide60 {i j : Int} (h0 : 0 < j) (h1 : j < 1152921504606846976) : CDivW i j := wide_div (b := 60) h0 (by omega) (by decide) (by decide)
theorem ixN_at {n : Nat} {i : Int} (h0 : 0 ≤ i) (h1 : i < n) : ixN n i = some i.toNat := by
  unfold ixN
  rw [if_pos h0, if_pos h1]
section
variable {K : PySem.W.Frag} {σ : L2.St} {H : Hp} {nx bk ct : L2.St → Hp → Prop} {rt : VK} {ta tv : TE} {Q : VK} {v : V} {i j : Int}
theorem rd_sfldaug {rd : V → V → Hp → VK → Prop} {f : Str} (h : ta σ H fun x H1 => ∃ a C dx fs v, x = .ref a ∧ H1 a = some (.ins C dx fs) ∧ Cls K C ∧ NoAttr K C f ∧ fs.lookup f = some v ∧
  tv σ H1 fun y H2 => rd v y H2 fun z H3 => ∃ dx' fs', H3 a = some (.ins C dx' fs') ∧ fs'.length < 1000 ∧ nx σ (upd H3 a (.ins C dx' (putF f z fs')))) : sFldAug K ta tv rd f ⟨nx, rt, bk, ct⟩ σ H := h
theorem rd_sfldaugX {f : Str} {a C dx : Addr} {fs : List (Str × V)} {R : Addr → Addr → V → Prop} (h : H a = some (.ins C dx fs)) (c : Cls K C) (n : NoAttr K C f) (l : fs.lookup f = some v) (q : R a C v) :
    ∃ a' C' dx' fs' v', V.ref a = V.ref a' ∧ H a' = some (.ins C' dx' fs') ∧ Cls K C' ∧ NoAttr K C' f ∧ fs'.lookup f = some v' ∧ R a' C' v' := ⟨a, C, dx, fs, v, rfl, h, c, n, l, q⟩
theorem rd_insX {a C dx : Addr} {fs : List (Str × V)} {R : Addr → List (Str × V) → Prop} (h : H a = some (.ins C dx fs)) (l : fs.length < 1000) (q : R dx fs) : ∃ dx' fs', H a = some (.ins C dx' fs') ∧ fs'.length < 1000 ∧ R dx' fs' := ⟨dx, fs, h, l, q⟩
theorem rd_addI (h : Q (.int (i + j)) H) : rAdd (.int i) (.int j) H Q := ⟨i, j, rfl, rfl, h⟩
theorem rd_subI (h : Q (.int (i - j)) H) : rSub (.int i) (.int j) H Q := ⟨i, j, rfl, rfl, h⟩
theorem rd_minL {a : Addr} {ns : List Int} (h : SqL K H a (ns.map V.int)) (l : 0 < ns.length) (q : ∀ m, m ∈ ns → (∀ y, y ∈ ns → m ≤ y) → Q (.int m) H) : rMin K [.ref a] H Q := ⟨a, ns, rfl, h, l, q⟩
end
/-- an optional int -/
abbrev ov : Option Int → V
  | none => .non
  | some i => .int i
theorem ov_non {o : Option Int} : decide (ov o = V.non) = o.isNone := by
  cases o with
  | none => rfl
  | some i => exact decide_eq_false (by intro z; cases z)
/-- the first on the way from a place on -/
def FirstOf (r place : Int) (xs : List Int) : Option Int → Prop
  | none => xs = []
  | some b => b ∈ xs ∧ ∀ z, z ∈ xs → (b - place) % r ≤ (z - place) % r
end RD
namespace RD
open PySem PySem.Spec PyProof.Rows L2 He
/-! ### look-ups whose value comes out plain -/
def lookV {κ : Type} [DecidableEq κ] : List (κ × V) → κ → Option V
  | [], _ => none
  | (a, v) :: r, k => if a = k then some v else lookV r k
theorem lookV_eq {κ : Type} [DecidableEq κ] (k : κ) : ∀ kvs : List (κ × V), valV kvs k = lookV kvs k
  | [] => rfl
  | (a, v) :: r => by
    unfold lookV
    by_cases h : a = k
    · rw [if_pos h]
      exact valV_pos h
    · rw [if_neg h, valV_neg h]
      exact lookV_eq k r
theorem dg_sl {H : Hp} {a : Addr} {v : V} {kvs : List (Key × V)} {s : Str} (e : H a = some (.dK kvs)) (l : lookV kvs (.inr s) = some v) : DGet H a (.str s) (some v) := dg_sv e ((lookV_eq _ _).trans l)
theorem Kt.mine {T : List (Addr × Str)} {ps : List Addr} {H H' : Hp} {p : Addr} {o u : HO} (a : Kt T ps H H') (f : Frn H p) (e : H' p = some u) (w : Plain u) : Kt T ps H (upd H' p o) :=
  ⟨fun c v ev n m => by
    rw [upd_ne (f c v ev n)]
    exact a.1 c v ev n m, tabs_kp a.2 (Kp.refl.wr (ps := [p]) (by simp)) fun q hq => by
    rw [List.mem_singleton.mp hq]
    exact ⟨u, e, w⟩⟩
theorem Kt.mono {T : List (Addr × Str)} {ps qs : List Addr} {H H' : Hp} (a : Kt T ps H H') (h : ∀ p, p ∈ ps → p ∈ qs) : Kt T qs H H' := ⟨fun c o e n m => a.1 c o e n fun z => m (h c z), a.2⟩
theorem Kt.kpP {T : List (Addr × Str)} {ps qs : List Addr} {H H' H2 : Hp} (a : Kt T ps H H') (k : Kp qs H' H2) (n : ∀ p, p ∈ qs → p ∈ ps ∧ ∃ o, H' p = some o ∧ Plain o) : Kt T ps H H2 := a.trans ((Kt.kp a.2 k fun p hp => (n p hp).2).mono fun p hp => (n p hp).1)
end RD
namespace RD
open PySem PySem.Spec PyProof.Rows L2 He
theorem rd_sumL {K : PySem.W.Frag} {H : Hp} {Q : VK} {a : Addr} {ns : List Int} (h : SqL K H a (ns.map V.int)) (q : Q (.int ns.sum) H) : rSum K [.ref a] H Q := ⟨a, ns, rfl, h, q⟩
end RD
namespace RD
open PySem PySem.Spec PyProof.Rows L2 He
/-! ### defs called with keywords, dicts of ints, dict comprehensions -/
structure CalKX (P : Program) (w : World) (K : PySem.W.Frag) (mg : Str → Option Value) (base : Heap) (CX : CXT) (k : Nat) (x : Str) (sp : Sp) (n : Nat) (ks : List Str) (gV : List V → List V → List V) : Prop where
  ex : ∃ (f : Addr) (fd : FuncData) (ps : List Str) (g : List Value → List Value → List Value), FnOk P w K mg base CX k f fd ps sp ∧ mg x = some (.ref f) ∧ PySem.W.keepIn K (.ref f) = true ∧ KBn K fd ps n ks g gV
theorem pe_calKX {X : Cx} {CX : CXT} {k j n : Nat} {x : Str} {sp : Sp} {E : XK} {ks : List Str} {gV : List V → List V → List V} {p pos : Pos} {e : Expr} {es : List Expr} {kws : List Keyword} {t tk : TA} (c : CalKX X.prog X.w X.K X.mg X.base CX k x sp n ks gV) (hr : Room j X.A) (hk : k ≤ j) (hg : Gl X x) (hx : Passes CX X E) (ha : PA X (e :: es) t) (hkw : PK X kws tk)
    (hall : (backToKw pos (keywordEach kws X.env)).all (·.1.isSome) = true := by rfl) (hks : (backToKw pos (keywordEach kws X.env)).filterMap (·.1) = ks := by rfl) (hdb : (x == ("__debug__" : Str)) = false := by decide)
    (he : starEach (e :: es) X.env = (false, eval e X.env) :: starEach es X.env := by rfl) (hpl : ((backTo pos (starEach (e :: es) X.env)).any (·.1) || (backToKw pos (keywordEach kws X.env)).any (·.1.isNone)) = false := by rfl) :
    PE X (.Call (.Name x p) (e :: es) kws pos) (tCallN n ks.length sp gV E t tk) := by
  obtain ⟨f, fd, ps, g, F, hm, kp, hb⟩ := c.ex
  exact pe_callN F (hr.mono hk) hg hm kp hb hx ha hkw hall hks hdb he hpl
/-- a dict with int keys, by the keys and a function -/
def dmap (xs : List Int) (f : Int → V) : List (Key × V) := xs.map fun x => (Sum.inl x, f x)
def fset {α : Type} (f : Int → α) (a : Int) (v : α) : Int → α := fun x => if x = a then v else f x
theorem dmap_val {f : Int → V} (a : Int) : ∀ xs : List Int, valV (dmap xs f) (.inl a) = if a ∈ xs then some (f a) else none
  | [] => rfl
  | x :: r => by
    have ih := dmap_val (f := f) a r
    unfold dmap at ih ⊢
    rw [List.map_cons]
    by_cases h : x = a
    · subst h
      rw [valV_pos rfl, if_pos (.head _)]
    · rw [valV_neg (fun e => h (Sum.inl.inj e)), ih]
      by_cases h2 : a ∈ r
      · rw [if_pos h2, if_pos (List.mem_cons_of_mem _ h2)]
      · rw [if_neg h2, if_neg (by simp [h2, Ne.symm h])]
theorem dmap_in {f : Int → V} {a : Int} {xs : List Int} (h : a ∈ xs) : valV (dmap xs f) (.inl a) = some (f a) := by rw [dmap_val, if_pos h]
theorem dmap_out {f : Int → V} {a : Int} {xs : List Int} (h : a ∉ xs) : valV (dmap xs f) (.inl a) = none := by rw [dmap_val, if_neg h]
theorem dmap_congr {f g : Int → V} {xs : List Int} (h : ∀ x, x ∈ xs → f x = g x) : dmap xs f = dmap xs g := List.map_congr_left fun x hx => by rw [h x hx]
theorem dmap_new {f : Int → V} {a : Int} {v : V} {xs : List Int} (h : a ∉ xs) : putK (dmap xs f) (.inl a) v = dmap (xs ++ [a]) (fset f a v) := by
  rw [putK_new _ (dmap_out h)]
  unfold dmap
  rw [List.map_append]
  congr 1
  · refine List.map_congr_left fun x hx => ?_
    unfold fset
    rw [if_neg (show ¬ x = a from fun e => h (e ▸ hx))]
  · unfold fset
    simp
theorem dmap_old {f : Int → V} {a : Int} {v : V} {xs : List Int} (h : a ∈ xs) : putK (dmap xs f) (.inl a) v = dmap xs (fset f a v) := by
  unfold putK dmap
  have e : ((xs.map fun x => ((Sum.inl x : Key), f x)).any fun p => decide (p.1 = Sum.inl a)) = true := by
    rw [List.any_eq_true]
    exact ⟨_, List.mem_map_of_mem h, decide_eq_true rfl⟩
  rw [if_pos (by simpa using e), List.map_map]
  refine List.map_congr_left fun x _ => ?_
  unfold fset
  by_cases hx : x = a
  · subst hx
    simp
  · simp [hx]
theorem dmap_len {f : Int → V} {xs : List Int} : (dmap xs f).length = xs.length := List.length_map _
theorem pickI {d : Int} (ns : List Int) (h0 : 0 ≤ d) (h1 : d < ns.length) : ∃ n, n ∈ ns ∧ atI (ns.map V.int) d = some (.int n) := by
  have h : d.toNat < ns.length := by omega
  refine ⟨ns[d.toNat], List.getElem_mem h, ?_⟩
  rw [atI_ints h0 h1, List.getD_eq_getElem?_getD, List.getElem?_eq_getElem h]
  rfl
end RD
namespace RD
open PySem PySem.Spec PyProof.Rows L2 He
section
variable {K : PySem.W.Frag} {σ : L2.St} {H : Hp} {tt : TT} {tk tv : TE} {Q : VK}
/-- what a dict comprehension over J asks -/
def DcG (J : It) (g : TG) (tt : TT) (tk tv : TE) (vs : List Nat) (σ : L2.St) (D : Addr) (Qd : Hp → Prop) (H1 : Hp) : Prop :=
  ∃ W : Nat → Nat → Hp → Prop, (∃ m, W 0 m (upd H1 D (.dK []))) ∧ ∀ i m H, W i m H →
  (J.stop i H ∧ Qd H) ∨ (J.go i H ∧ ∃ Nx : Hp → Prop, (∀ H', Nx H' → ∃ m', m' < m ∧ W (i + 1) m' H') ∧ ∀ x H', J.yld i H x H' → g x (wipe σ vs) H' fun σ2 H2 => wipe σ2 vs = wipe σ vs ∧ tt σ2 H2 fun b H3 =>
    if b = true then tk σ2 H3 fun y H4 => tv σ2 H4 fun z H5 => ∃ kvs k, y = kV k ∧ H5 D = some (.dK kvs) ∧ kvs.length < sizeLine ∧ Nx (upd H5 D (.dK (putK kvs k z))) else Nx H3)
theorem rd_dc {wi : TI} {g : TG} {vs : List Nat} (h : wi σ H fun J H1 => ∀ D, H1 D = none → DcG J g tt tk tv vs σ D (fun H => Q (.ref D) H) H1) : tDc wi g tt tk tv vs σ H Q := h
theorem dcL_ints {a D : Addr} {g : TG} {vs : List Nat} {Qd : Hp → Prop} (ns : List Int) (Pv : Nat → Hp → Prop) (h0 : Pv 0 (upd H D (.dK []))) (hl : ∀ i H, i ≤ ns.length → Pv i H → SqL K H a (ns.map V.int))
    (hs : ∀ (i : Nat) (h : i < ns.length) H, Pv i H → g (.int ns[i]) (wipe σ vs) H fun σ2 H2 => wipe σ2 vs = wipe σ vs ∧ tt σ2 H2 fun b H3 =>
      if b = true then tk σ2 H3 fun y H4 => tv σ2 H4 fun z H5 => ∃ kvs k, y = kV k ∧ H5 D = some (.dK kvs) ∧ kvs.length < sizeLine ∧ Pv (i + 1) (upd H5 D (.dK (putK kvs k z))) else Pv (i + 1) H3) (hd : ∀ H, Pv ns.length H → Qd H) : DcG (Itl K a) g tt tk tv vs σ D Qd H := by
  refine ⟨fun i m H => m = ns.length - i ∧ i ≤ ns.length ∧ Pv i H, ⟨ns.length, by simp, Nat.zero_le _, h0⟩, ?_⟩
  rintro i m H ⟨rfl, hi, p⟩
  have q := hl i H hi p
  by_cases hlt : i < ns.length
  · have e : (ns.map V.int)[i]? = some (.int ns[i]) := by
      rw [List.getElem?_map, List.getElem?_eq_getElem hlt]
      rfl
    refine .inr ⟨⟨_, _, q, e⟩, Pv (i + 1), fun H' p' => ⟨ns.length - (i + 1), by omega, rfl, hlt, p'⟩, fun x H' y => ?_⟩
    obtain ⟨rfl, hz⟩ := y
    have ex := hz _ q
    rw [e] at ex
    cases ex
    exact hs i hlt _ p
  · have e : i = ns.length := by omega
    subst e
    exact .inl ⟨⟨_, q, by rw [List.length_map]; exact Nat.le_refl _⟩, hd H p⟩
theorem rd_dictD {a : Addr} {kvs : List (Key × V)} (h : H a = some (.dK kvs)) (q : ∀ p, H p = none → Q (.ref p) (upd H p (.dK kvs))) : (∃ (a' : Addr) (kvs' : List (Key × V)), [V.ref a] = [.ref a'] ∧ Rd H a' (.dK kvs') ∧ ∀ p, H p = none → Q (.ref p) (upd H p (.dK kvs'))) := ⟨a, kvs, rfl, .inl h, q⟩
theorem dg_ii {a b : Addr} {kvs : List (List Key × V)} {s z : Int} (e : H a = some (.dT kvs)) (eb : H b = some (.tup [.int s, .int z])) : DGet H a (.ref b) (valV kvs [.inl s, .inl z]) := DGet.t (k := [.inl s, .inl z]) e eb
theorem dp_ii {a b : Addr} {kvs : List (List Key × V)} {s z : Int} {v : V} (e : H a = some (.dT kvs)) (eb : H b = some (.tup [.int s, .int z])) (l : kvs.length < sizeLine) : DPut H a (.ref b) v (upd H a (.dT (putK kvs [.inl s, .inl z] v))) := DPut.t (k := [.inl s, .inl z]) e eb l
end
/-- a table of numbers by two ints -/
structure Tab2 (H : Hp) (d : Addr) (g : Int → Int → Int) (m : Nat) : Prop where
  ex : ∃ kvs : List (List Key × V), H d = some (.dT kvs) ∧ kvs.length ≤ m ∧ ∀ s z, (valV kvs [.inl s, .inl z]).getD (.int 0) = .int (g s z)
theorem Tab2.kp {H H' : Hp} {d : Addr} {f : Int → Int → Int} {m : Nat} {ps : List Addr} (B : Tab2 H d f m) (k : Kp ps H H') (n : d ∉ ps) : Tab2 H' d f m := by
  obtain ⟨kvs, h1, h2, h3⟩ := B.ex
  exact ⟨kvs, k _ _ h1 n, h2, h3⟩
theorem Tab2.mono {H : Hp} {d : Addr} {f : Int → Int → Int} {m m' : Nat} (B : Tab2 H d f m) (h : m ≤ m') : Tab2 H d f m' := by
  obtain ⟨kvs, h1, h2, h3⟩ := B.ex
  exact ⟨kvs, h1, Nat.le_trans h2 h, h3⟩
theorem key2_iff {s a z b : Int} : ([Sum.inl a, Sum.inl b] : List Key) = [Sum.inl s, Sum.inl z] ↔ a = s ∧ b = z := by
  constructor
  · intro e
    injection e with e1 e2
    injection e2 with e3 _
    exact ⟨Sum.inl.inj e1, Sum.inl.inj e3⟩
  · rintro ⟨rfl, rfl⟩
    rfl
theorem tab2_put {kvs : List (List Key × V)} {f : Int → Int → Int} {s z v : Int} (h : ∀ s z, (valV kvs [.inl s, .inl z]).getD (.int 0) = .int (f s z)) :
    ∀ a b, (valV (putK kvs [.inl s, .inl z] (.int v)) [.inl a, .inl b]).getD (.int 0) = .int (if a = s ∧ b = z then v else f a b) := by
  intro a b
  rw [valV_put]
  by_cases e : a = s ∧ b = z
  · rw [if_pos e, if_pos (key2_iff.mpr e)]
    rfl
  · rw [if_neg e, if_neg (fun q => e (key2_iff.mp q))]
    exact h a b
end RD

/-! own layer: getters of properties in the head -/
namespace RD
open PySem PySem.Spec PyProof.Rows L2 He
/-- the property object of the class's name, its getter -/
def prA (K : PySem.W.Frag) (c f : Str) : Addr := ma K (ga K c) f
def prG (K : PySem.W.Frag) (c f : Str) : Addr := match PySem.W.recIn K (prA K c f) "property" with
  | some (.ref g :: _) => g
  | _ => 0
def propB (K : PySem.W.Frag) (c f : Str) : Bool :=
  eqO (PySem.W.findIn K (.ref (ga K c)) f) (some (some (.ref (prA K c f)))) && (eqO (PySem.W.specialIn K (.ref (prA K c f)) "__get__") (some (some (.builtin "property.__get__"))) && (decide (PySem.W.takesIn K (.ref (prA K c f)) = some true) && (match PySem.W.recIn K (prA K c f) "property" with
    | some (.ref g :: _) => decide (g = prG K c f)
    | _ => false)))
theorem propB_ok {K : PySem.W.Frag} {c f : Str} (h : propB K c f = true) : PropOf K (ga K c) f (prA K c f) (prG K c f) := by
  obtain ⟨h1, h2⟩ := ba h
  obtain ⟨h3, h4⟩ := ba h2
  obtain ⟨h5, h6⟩ := ba h4
  refine ⟨eqO_ok h1, eqO_ok h3, of_decide_eq_true h5, ?_⟩
  cases e : PySem.W.recIn K (prA K c f) "property" with
  | none =>
    rw [e] at h6
    cases h6
  | some l =>
    rw [e] at h6
    cases l with
    | nil => cases h6
    | cons v r =>
      cases v with
      | ref g =>
        have h7 : g = prG K c f := of_decide_eq_true h6
        exact ⟨r, by rw [h7]⟩
      | _ => cases h6
/-- a property's getter: its class and name, and the def -/
structure GetD where
  cls : Str
  fld : Str
  name : Str
  qual : Str
  params : Arguments
  body : List Stmt
  scope : Scope
def GetD.seen (K : PySem.W.Frag) (d : GetD) : FnW := match K.lookup (prG K d.cls d.fld) with
  | some ⟨_, _, .func fd, _⟩ => some (fd.name, fd.qualname, fd.params, fd.body, fd.scope, fd.globals, fd.closure, fd.builtins)
  | _ => none
def GetD.val (d : GetD) : FnW := some (d.name, d.qual, d.params, .stmts d.body, d.scope, mainGlobals, [], builtinsNs)
def GetD.ok (K : PySem.W.Frag) (d : GetD) : Bool := propB K d.cls d.fld && (PySem.W.keepIn K (.ref (prG K d.cls d.fld)) && (match K.lookup (prG K d.cls d.fld) with
  | some ⟨_, _, .func fd, _⟩ => PySem.W.codeIn K fd.code d.qual && (dflB K fd.defaults [] && kwdB K fd.kwdefaults [])
  | _ => false))
theorem GetD.funD {K : PySem.W.Frag} {d : GetD} (e : d.seen K = d.val) (c : d.ok K = true) : PropOf K (ga K d.cls) d.fld (prA K d.cls d.fld) (prG K d.cls d.fld) ∧ ∃ fd, FunD K d.name d.qual d.params d.body d.scope [] [] (prG K d.cls d.fld) fd := by
  obtain ⟨c0, c1⟩ := ba c
  obtain ⟨kp, c2⟩ := ba c1
  refine ⟨propB_ok c0, ?_⟩
  unfold GetD.seen at e
  cases q : K.lookup (prG K d.cls d.fld) with
  | none =>
    rw [q] at c2
    cases c2
  | some o =>
    obtain ⟨oc, od, dt, osl⟩ := o
    rw [q] at c2 e
    cases dt with
    | func fd =>
      obtain ⟨n1, n2, n3, n4, n5, n6, n7, n8, n9, n10, n11, n12, n13, n14, n15⟩ := fd
      have e2 : (some (n1, n2, n3, n4, n5, n6, n7, n15) : FnW) = some (d.name, d.qual, d.params, .stmts d.body, d.scope, mainGlobals, [], builtinsNs) := e
      injection e2 with e2
      simp only [Prod.mk.injEq] at e2
      obtain ⟨a1, a2, a3, a4, a5, a6, a7, a8⟩ := e2
      subst a1 a2 a3 a4 a5 a6 a7 a8
      have c3 : (PySem.W.codeIn K n13 d.qual && (dflB K n8 [] && kwdB K n9 [])) = true := c2
      obtain ⟨k1, k2⟩ := ba c3
      obtain ⟨k3, k4⟩ := ba k2
      exact ⟨_, ⟨oc, od, n8, n9, n10, n11, n12, n13, n14, osl, rfl, q, k1, dflB_ok k3, kwdB_ok k4⟩, kp⟩
    | _ => cases c2
/-- the head of a law with properties and tables -/
abbrev AlP : Type := AlX × (Bool × List FnW)
def obsP (n : Nat) (fa : List Fa) (fn : List DefD) (gs : List GetD) (tf : List Defn) (ex : PySem.W.Frag → Bool) (g : Addr → Option Obj) : AlP := (obsX n fa fn [] tf ex g, (gs.all (GetD.ok (frT g (asD g n))), gs.map (GetD.seen (frT g (asD g n)))))
structure SaysP (fa : List Fa) (fn : List DefD) (gs : List GetD) (tf : List Defn) (ex : PySem.W.Frag → Bool) (w : World) (h : Heap) (K : PySem.W.Frag) : Prop where
  x : SaysX fa fn [] tf ex w h K
  ok : gs.all (GetD.ok K) = true
  seen : gs.map (GetD.seen K) = gs.map GetD.val
def hookP (n : Nat) (fa : List Fa) (fn : List DefD) (gs : List GetD) (tf : List Defn) (ex : PySem.W.Frag → Bool) : PySem.W.Hook where
  α := AlP
  obs := fun s => obsP n fa fn gs tf ex s.heap.get?
  val := fun w => (valX fn [] w, (true, gs.map GetD.val))
  says := fun w h => ∃ K : PySem.W.Frag, K.In h ∧ SaysP fa fn gs tf ex w h K
  of := fun _ _ e => ⟨_, frT_in, saysX_of (congrArg (fun z : AlP => z.1) e), congrArg (fun z : AlP => z.2.1) e, congrArg (fun z : AlP => z.2.2) e⟩
  keeps := fun _ _ _ ⟨K, hK, c⟩ k => ⟨K, PySem.W.Frag.In.keeps hK k, ⟨⟨c.x.t, c.x.more, c.x.hd, c.x.out, fun p hp => k _ _ (c.x.empty p hp)⟩, c.ok, c.seen⟩⟩
theorem obsP_eq {n : Nat} {fa : List Fa} {fn : List DefD} {gs : List GetD} {tf : List Defn} {ex : PySem.W.Frag → Bool} {g : Addr → Option Obj} {s : Shared} (h : ∀ a, g a = s.heap.get? a) : obsP n fa fn gs tf ex g = (hookP n fa fn gs tf ex).obs s := by
  have e : g = s.heap.get? := funext h
  rw [e] <;> rfl
theorem SaysP.get {fa : List Fa} {fn : List DefD} {gs : List GetD} {tf : List Defn} {ex : PySem.W.Frag → Bool} {w : World} {h : Heap} {K : PySem.W.Frag} (c : SaysP fa fn gs tf ex w h K) {d : GetD} (hd : d ∈ gs) :
    PropOf K (ga K d.cls) d.fld (prA K d.cls d.fld) (prG K d.cls d.fld) ∧ ∃ fd, FunD K d.name d.qual d.params d.body d.scope [] [] (prG K d.cls d.fld) fd := by
  obtain ⟨i, hi, e⟩ := List.mem_iff_getElem.mp hd
  have e1 := congrArg (fun l : List FnW => l[i]?) c.seen
  have e2 : gs[i]? = some d := by rw [List.getElem?_eq_getElem hi, e]
  simp only [List.getElem?_map, e2, Option.map_some, Option.some.injEq] at e1
  exact GetD.funD e1 (List.all_eq_true.mp c.ok d hd)
/-- a property in one piece -/
structure PrpX (P : Program) (w : World) (K : PySem.W.Frag) (mg : Str → Option Value) (base : Heap) (CX : CXT) (k : Nat) (C : Addr) (f : Str) (sp : Sp) : Prop where
  ex : ∃ (p g : Addr) (fd : FuncData) (ps : List Str), Cls K C ∧ PropOf K C f p g ∧ FnOk P w K mg base CX k g fd ps sp ∧ Binds K fd ps []
theorem pe_prpX {X : Cx} {CX : CXT} {k j : Nat} {C : Addr} {f : Str} {sp : Sp} {E : XK} {e : Expr} {pos : Pos} {ta : TE} (c : PrpX X.prog X.w X.K X.mg X.base CX k C f sp) (hr : Room j X.A) (hk : k + 1 ≤ j) (hx : Passes CX X.nox E) (he : PE X e ta)
    (hab : attributeBase e f X.env (eval e X.env) = eval e X.env := by rfl) : PE X (.Attribute e f pos) (tProp C sp [] E ta) := by
  obtain ⟨p, g, fd, ps, cl, hp, F, b⟩ := c.ex
  exact pe_prop he cl hp F (hr.mono hk) b .nil hx hab
end RD

/-! own layer: own exceptions over an own base over ValueError, whose __init__ says super().__init__(text) and sets one field (or none) -/
namespace PySem
namespace ErrX
open PySem.W PySem.Calls PyProof.Rows PySem.HandSPX
/-! ### the text of __init__ -/
def eA1 (f : Str) (p1 p2 : Pos) : Arguments := { posonlyargs := [], args := [{ arg := "self", annotation := none, pos := p1 }, { arg := f, annotation := none, pos := p2 }], vararg := none, kwonlyargs := [], kw_defaults := [], kwarg := none, defaults := [] }
def eSup (txt : Str) (r1 r2 r3 r4 r5 r6 : Pos) : Stmt := .Expr (.Call (.Attribute (.Call (.Name "super" r1) [] [] r2) "__init__" r3) [.Constant (.str txt) 0 r4] [] r5) r6
def eB1 (f txt : Str) (r1 r2 r3 r4 r5 r6 q1 q2 q3 q4 : Pos) : List Stmt := [eSup txt r1 r2 r3 r4 r5 r6, .Assign [.Attribute (.Name "self" q1) f q2] (.Name f q3) q4]
def eS1 (f : Str) : Scope := { kind := .function, names := [(PySem.Str.ofString "self", .local), (f, .local), (PySem.Str.ofString "__class__", .free), (PySem.Str.ofString "super", .globalImplicit)], isGenerator := false, isCoroutine := false, more := [] }
/-- what the written part says of the class x, at C, its field f -/
structure ErrT (P : Program) (K : Frag) (mg : Str → Option Value) (x f : Str) (C : Addr) : Prop where
  gC : mg x = some (.ref C)
  gS : mg "super" = none
  top : (P.main.scope.names.lookup ("super" : Str)).isSome = false
  f1 : (f == ("self" : Str)) = false
  f2 : (("self" : Str) == f) = false
  f3 : (("super" : Str) == f) = false
  f4 : (("__class__" : Str) == f) = false
  f5 : (f == ("__debug__" : Str)) = false
  cls : ∃ nm q N bs bm sn sub ab col dd k0 k1 k2 k3 k5, K.lookup C = some (excClassObj nm q C N bs bm true sn sub ab col dd k0 k1 k2 k3 k5 "ValueError.__new__") ∧ refsVE bm = true
  sa : findIn K (.ref C) "__setattr__" = some (some (.builtin "object.__setattr__"))
  noN : findIn K (.ref C) f = some none
  kC : keepIn K (.ref C) = true
  exC : subIn K (.ref C) (.type "BaseException") = some true
  tyC : typeIn K (.ref C) = some (.type "type")
  slf : mroIn K C (.ref C) = some true
  veC : subIn K (.ref C) (.type "ValueError") = some true
  sup : ks_superIn K C C "__init__" = some (some (.builtin "ValueError.__init__"))
  st : nsIn K cStatics "thirdparty.any" = some none
  fn : ∃ (fI cc cda : Addr) (oc : Value) (od : Option Addr) (doc pm : Value) (an : Option Addr) (ct : Value) (osl : Array (Option Value)) (qual txt : Str) (p1 p2 r1 r2 r3 r4 r5 r6 q1 q2 q3 q4 : Pos),
    findIn K (.ref C) "__init__" = some (some (.ref fI)) ∧ typeIn K (.ref fI) = some (.type "function") ∧ (r3.endLine == r5.line) = true ∧
    K.lookup fI = some ⟨oc, od, .func (ksFn "__init__" qual (eA1 f p1 p2) (eB1 f txt r1 r2 r3 r4 r5 r6 q1 q2 q3 q4) (eS1 f) .none .none doc pm an (.ref cda) ct cc), osl⟩ ∧ codeIn K (.ref cda) qual = true ∧
    (∃ ccl cdd vs ccs file tf, K.lookup cda = some ⟨ccl, cdd, .fields vs, ccs⟩ ∧ vs[2]? = some (.str file tf) ∧ ((P.main.file : Str) == file) = true) ∧ ∃ cl cld csl, K.lookup cc = some ⟨cl, cld, .cell (some (.ref C)), csl⟩
theorem one_size (v : Value) : [v].length ≤ sizeLine := by
  rw [sizeLine_eq]
  exact (by decide : 1 ≤ 16777216)
/-- what __init__ leaves of a fresh exception at x -/
structure InitEnd (h h' : Heap) (x C dx : Addr) (f : Str) (v : Value) : Prop where
  keep : ∀ b o, b ≠ x → h.get? b = some o → h'.get? b = some o
  obj : ∃ t1 : Addr, h'.get? x = some { cls := .ref C, dict := some dx, data := .fields #[.ref t1, .none, .none, .none, .bool false, .none] }
  dbig : h.objs.size ≤ dx
  dne : dx ≠ x
  ns : h'.Ns1 dx (fun y => if y = f then some v else none)
/-- a made exception -/
structure OwnMade (h h' : Heap) (e C d : Addr) (f : Str) (v : Value) : Prop where
  keep : ∀ b o, h.get? b = some o → h'.get? b = some o
  new : h.objs.size ≤ e
  obj : ∃ oe vs, h'.get? e = some oe ∧ oe.cls = .ref C ∧ oe.dict = some d ∧ oe.data = .fields vs ∧ vs[1]? = some .none
  dbig : h.objs.size ≤ d
  dne : d ≠ e
  ns : h'.Ns1 d (fun y => if y = f then some v else none)
section
variable {prog : Program} {w : World} {A : Around} {E : Value → Shared → Prop} {R : Result → Shared → Prop} {s : Shared} {K : Frag} {mg : Str → Option Value} {x f : Str} {C : Addr}
theorem sup_eval {o : Expr} {m txt : Str} {r3 r4 r5 : Pos} {env : Env} (hl : (r3.endLine == r5.line) = true) : eval (.Call (.Attribute o m r3) [.Constant (.str txt) 0 r4] [] r5) env = (do
      let ov ← attributeBase o m env (eval o env)
      standAt r3.atName
      let (f, first) ← holding [ov] (getMethod ov m (L2.plainOf o env))
      callWith r5 f first (backTo r5 (starEach [.Constant (.str txt) 0 r4] env)) []) := by
  show (do
      let ov ← attributeBase o m env (eval o env)
      standAt r3.atName
      methodCall o m r3 r5 env ov 1 (backTo r5 (starEach [.Constant (.str txt) 0 r4] env)) []) = _
  have e : ∀ ov, methodCall o m r3 r5 env ov 1 (backTo r5 (starEach [.Constant (.str txt) 0 r4] env)) [] = _ := fun ov => L2.mcall_line (n := 1) (by rfl) hl
  simp only [e]
/-- super().__init__(text) -/
theorem sup_init {name : Str} {scope : Scope} {body : List Stmt} {fI cc cda L e t0 : Addr} {txt : Str} {r1 r2 r3 r4 r5 r6 : Pos} {fd : FuncData} {of : Obj} {p1 : Pos} {as : List Arg} {Q : Flow → Shared → Prop} {h : Heap} {g : Array GenState} {d : Drawn} {t : Nat} {os : OsState} {m : Str → Option Value} {vs : Array Value} {file : Str} {tf : Tok} {occ : Obj}
    (hks : scope.names.lookup ("super" : Str) = some .globalImplicit) (hkc : scope.names.lookup ("__class__" : Str) = some .free) (hka : scope.names.lookup ("self" : Str) = some .local) (hk : scope.kind = .function) (hin : interactive (ksEnv name scope L fI (.ref cda) cc) = false) (hl : (r3.endLine == r5.line) = true)
    (gS : mg "super" = none) (top : (prog.main.scope.names.lookup ("super" : Str)).isSome = false) (slf : mroIn K C (.ref C) = some true) (veC : subIn K (.ref C) (.type "ValueError") = some true)
    (sup : ks_superIn K C C "__init__" = some (some (.builtin "ValueError.__init__"))) (st : nsIn K cStatics "thirdparty.any" = some none)
    (hcls : ∃ nm q N bs bm sn sub ab col dd k0 k1 k2 k3 k5, K.lookup C = some (excClassObj nm q C N bs bm true sn sub ab col dd k0 k1 k2 k3 k5 "ValueError.__new__") ∧ refsVE bm = true)
    (X : K.In h) (hg : h.Ns mainGlobals mg) (hb : ∃ mb, h.Ns builtinsNs mb ∧ mb "super" = bootBuiltins "super")
    (hf : h.get? fI = some of) (hfd : of.data = .func fd) (hp : fd.params = { posonlyargs := [], args := { arg := "self", annotation := none, pos := p1 } :: as, vararg := none, kwonlyargs := [], kw_defaults := [], kwarg := none, defaults := [] })
    (hcc : h.get? cda = some occ) (hoc : occ.data = .fields vs) (hvs : vs[2]? = some (.str file tf)) (hfile : ((prog.main.file : Str) == file) = true) (hcell : h.IsCell cc (some (.ref C)))
    (hns : h.Ns L m) (hm : m "self" = some (.ref e)) (he : h.get? e = some (excO C t0)) (heL : e ≠ L)
    (hq : ∀ h' tk t1, (∀ b o, b ≠ e → h.get? b = some o → h'.get? b = some o) → h'.get? e = some (excO C t1) → Q .next ⟨h', g, d, tk, os⟩) :
    _root_.PySem.wpAt (model prog w) A (.func body (ksEnv name scope L fI (.ref cda) cc)) (exec (eSup txt r1 r2 r3 r4 r5 r6) (ksEnv name scope L fI (.ref cda) cc)) Q E ⟨h, g, d, t, os⟩ := by
  obtain ⟨nm, q, N, bs, bm, sn, sub, ab, col, dd, k0, k1, k2, k3, k5, hC, hbm⟩ := hcls
  have hcl : clsIn K C = some { name := nm, bases := bs, mro := .ref C :: bm, ns := N, qualname := q, hasDict := true, slotNames := sn, subclasses := sub, abstract := ab, collection := col, hasDel := false } := by unfold clsIn; rw [hC] <;> rfl
  obtain ⟨mb, hbn, hbs⟩ := hb
  have hCo : h.get? C = some (excClassObj nm q C N bs bm true sn sub ab col dd k0 k1 k2 k3 k5 "ValueError.__new__") := X _ _ hC
  have hne : e ≠ C := fun z => by
    rw [z, hCo] at he
    cases he
  unfold eSup
  refine ks_wpAt_Expr_any (ks_wpAt_MethodCall ?_ (sup_eval hl)) hin
  refine ks_wpAt_super_base (env := ksEnv name scope L fI (.ref cda) cc) (ar := { arg := "self", annotation := none, pos := p1 }) hks hkc (by decide) rfl hf hfd (by rw [hp] <;> rfl) rfl hcc hoc hvs hfile top ?_
  refine ks_loadName_global hk hks (loadGlobal_builtin (env := ksEnv name scope L fI (.ref cda) cc) hg gS hbn (hbs.trans (by rfl)) ⟨rfl, ?_⟩)
  refine wpAny_loadName_free hk hkc rfl hcell ?_
  refine wpAny_loadName_local hk hka hns hm ?_
  refine ks_wpAny_isType_cls hCo rfl ⟨rfl, ?_⟩
  refine ks_wpAny_call_super hCo rfl he rfl (fun c z => by cases z) (looks_mroIn X slf) (fun h1 e1 k => ?_)
  have X1 : K.In h1 := X.keeps k
  have he1 := k _ _ he
  have I1 : InstAt h1 e (excO C t0) C none := ⟨he1, rfl, rfl, trivial⟩
  have hI : Looks (model prog w) h1 (isInstance (.ref e) (.type "ValueError")) true := I1.type.andThen (looks_subIn X1 veC)
  have hal : alongIn K "__init__" ((((Value.ref C :: bm).dropWhile (· != .ref C)).drop 1)) = some (some (.builtin "ValueError.__init__")) := by
    have z := sup
    unfold ks_superIn at z
    rw [hcl] at z
    exact z
  refine kxs_getMethod kxs_ValueError (l₀ := Value.ref C :: bm) e1 (looks_opaque X1 st) (fun A Q E s k q => wpAny_bind ((looks_clsIn X1 hcl) A _ E s k (wpAny_pure q))) rfl X1 hal hI hne (by decide) ?_
  have k2 : ∀ b o, h1.get? b = some o → (h1.push (kxs_mw "ValueError.__init__" e)).get? b = some o := fun b o z => Heap.get?_push_of_some _ z
  have hu : (h1.push (kxs_mw "ValueError.__init__" e)).get? h1.objs.size = some (kxs_mw "ValueError.__init__" e) := Heap.get?_push_at rfl rfl
  refine kxs_callWith (i := "ValueError.__init__") (x := e) (by rfl) (Calls.evalArgs_plain (Calls.spliced_cons (Calls.Constant_str (k := 0) (pos := r4) ?_)))
  refine Calls.spliced_nil ⟨hu, ?_⟩
  show wpAny _ _ (call (.ref h1.objs.size) [.str txt _]) _ _ _
  have he2 := k2 _ _ he1
  have hC2 := k2 _ _ (k _ _ hCo)
  refine wpAny_call (codeAny_of_tree ?_)
  show wpAny _ _ (callAny (.ref h1.objs.size) ⟨[.str txt _], []⟩) _ _ _
  simp only [callAny]
  refine wpAny_bind (wpAny_load hu ?_)
  simp only [kxs_mw, show (Value.type "method-wrapper" == Value.type "method" || Value.type "method-wrapper" == Value.type "builtin_function_or_method" || Value.type "method-wrapper" == Value.type "method-wrapper") = true by decide, if_true]
  refine KFB.if_so (by decide) ?_
  refine wpAny_bind (check_bound_init F.excBase_ValueError.toExcCallFacts hC2 he2 rfl ?_)
  refine wpAny_bind (wpAny_pure (wpAny_pure ?_))
  refine ⟨plainId_quiet F.excBase_ValueError.init.plain _, codeAny_builtin F.excBase_ValueError.initEntry ?_⟩
  refine exc_init_tree (cls := .ref C) (t0 := t0) (dv := none) (c2 := .none) (c3 := .none) (b4 := .bool false) he2 (one_size _) fun h3 k3 e3 _ => ?_
  exact hq h3 _ _ (fun b o hbe z => k3 b o hbe (k2 _ _ (k _ _ z))) e3
theorem ldK {name : Str} {scope : Scope} {L a cc : Addr} {cd : Value} {M : Model} {m : Str → Option Value} {y : Str} {pos : Pos} {v : Value} {Q : Value → Shared → Prop} (hn : s.heap.Ns L m) (hv : m y = some v) (h : Q v s)
    (hk : scope.kind = .function) (hl : scope.names.lookup y = some .local) (hd : (y == ("__debug__" : Str)) = false) :
    wpAny M A (eval (.Name y pos) (ksEnv name scope L a cd cc)) Q E s := wpAny_Name (wpAny_loadName_local (env := ksEnv name scope L a cd cc) hk hl hn hv h) hd
theorem err_init (T : ErrT prog K mg x f C) {fI e t0 : Addr} {v : Value} (hi : findIn K (.ref C) "__init__" = some (some (.ref fI))) (X : K.In s.heap) (hg : s.heap.Ns mainGlobals mg) (hb : ∃ mb, s.heap.Ns builtinsNs mb ∧ mb "super" = bootBuiltins "super") (hlim : s.heap.NoLimit) (hx : s.heap.get? e = some (excO C t0)) (nx : K.lookup e = none)
    (hroom : A.depth < recursionLimit) (hq : ∀ h' tk dx, InitEnd s.heap h' e C dx f v → R (.ok (.ret .none)) { s with heap := h', toks := tk }) :
    codeAny (model prog w) A (.call (.ref fI) ⟨[.ref e, v], []⟩) R s := by
  obtain ⟨fI', cc, cda, oc, od, doc, pm, an, ct, osl, qual, txt, p1, p2, r1, r2, r3, r4, r5, r6, q1, q2, q3, q4, hi', tI, hl, ho, hcd, ⟨ccl, cdd, vs, ccs, file, tf, hcda, hvs, hfile⟩, cl, cld, csl, hcell⟩ := T.fn
  rw [hi] at hi'
  cases hi'
  obtain ⟨nm, q, N, bs, bm, sn, sub, ab, col, dd, k0, k1, k2, k3, k5, hC, hbm⟩ := id T.cls
  have hcl : clsIn K C = some { name := nm, bases := bs, mro := .ref C :: bm, ns := N, qualname := q, hasDict := true, slotNames := sn, subclasses := sub, abstract := ab, collection := col, hasDel := false } := by unfold clsIn; rw [hC] <;> rfl
  obtain ⟨b1, b2, b3, b4, b5⟩ := (⟨T.f1, T.f2, T.f3, T.f4, T.f5⟩ : (f == ("self" : Str)) = false ∧ (("self" : Str) == f) = false ∧ (("super" : Str) == f) = false ∧ (("__class__" : Str) == f) = false ∧ (f == ("__debug__" : Str)) = false)
  have lf : (eS1 f).names.lookup f = some .local := by
    show List.lookup f [(PySem.Str.ofString "self", NameKind.local), (f, .local), _, _] = _
    simp [List.lookup, b1]
  have ls : (eS1 f).names.lookup ("super" : Str) = some .globalImplicit := by
    show List.lookup ("super" : Str) [(("self" : Str), NameKind.local), (f, .local), (("__class__" : Str), .free), (("super" : Str), .globalImplicit)] = _
    have e1 : (("super" : Str) == ("self" : Str)) = false := by decide
    have e2 : (("super" : Str) == ("__class__" : Str)) = false := by decide
    simp [List.lookup, b3, e1, e2]
  have lc : (eS1 f).names.lookup ("__class__" : Str) = some .free := by
    show List.lookup ("__class__" : Str) [(("self" : Str), NameKind.local), (f, .local), (("__class__" : Str), .free), (("super" : Str), .globalImplicit)] = _
    have e1 : (("__class__" : Str) == ("self" : Str)) = false := by decide
    simp [List.lookup, b4, e1]
  have lse : (eS1 f).names.lookup ("self" : Str) = some .local := rfl
  have bd : bindArgs (ksFn "__init__" qual (eA1 f p1 p2) (eB1 f txt r1 r2 r3 r4 r5 r6 q1 q2 q3 q4) (eS1 f) .none .none doc pm an (.ref cda) ct cc) ⟨[.ref e, v], []⟩ = pure [(("self" : Str), .ref e), (f, v)] := by
    have z1 : (List.lookup ("self" : Str) [(("self" : Str), Value.ref e), (f, v)]).isNone = false := by simp [List.lookup]
    have z2 : (List.lookup f [(("self" : Str), Value.ref e), (f, v)]).isNone = false := by simp [List.lookup, b1]
    unfold bindArgs
    simp [eA1, seqItems?, z1, z2, List.lookup, b1]
    rfl
  refine ks_codeAny_call_defAt (fd := ksFn "__init__" qual (eA1 f p1 p2) (eB1 f txt r1 r2 r3 r4 r5 r6 q1 q2 q3 q4) (eS1 f) .none .none doc pm an (.ref cda) ct cc) (body := eB1 f txt r1 r2 r3 r4 r5 r6 q1 q2 q3 q4) (binds := [(("self" : Str), .ref e), (f, v)]) hroom (X _ _ ho) rfl hlim (codeRec_of X hcd) rfl (BindsTo.of_eq bd)
    (fun y hy => ?_) (fun y hy => ?_) (fun h₁ hns hk₁ => ?_) rfl rfl rfl
  · have hy : y ∈ [(("self" : Str), NameKind.local), (f, .local), (("__class__" : Str), .free), (("super" : Str), .globalImplicit)] := hy
    simp only [List.mem_cons, List.not_mem_nil, or_false] at hy
    rcases hy with rfl | rfl | rfl | rfl <;> (intro z; cases z)
  · simp only [List.mem_cons, List.not_mem_nil, or_false] at hy
    rcases hy with rfl | rfl
    · exact lse
    · exact lf
  have X₁ : K.In h₁ := X.keeps hk₁
  have ms : ([(("self" : Str), Value.ref e), (f, v)] : List (Str × Value)).reverse.lookup ("self" : Str) = some (.ref e) := by
    show List.lookup ("self" : Str) [(f, v), (("self" : Str), Value.ref e)] = _
    simp [List.lookup, b2]
  have mf : ([(("self" : Str), Value.ref e), (f, v)] : List (Str × Value)).reverse.lookup f = some v := by
    show List.lookup f [(f, v), (("self" : Str), Value.ref e)] = _
    simp [List.lookup]
  have hxL : e ≠ s.heap.objs.size := Nat.ne_of_lt (Heap.lt_size hx)
  obtain ⟨mb, hb1, hb2⟩ := hb
  refine ks_wpAt_execs_cons (sup_init (K := K) (mg := mg) (C := C) (fd := ksFn "__init__" qual (eA1 f p1 p2) (eB1 f txt r1 r2 r3 r4 r5 r6 q1 q2 q3 q4) (eS1 f) .none .none doc pm an (.ref cda) ct cc) ls lc lse rfl rfl hl T.gS T.top T.slf T.veC T.sup T.st T.cls X₁ (hg.keeps hk₁) ⟨mb, hb1.keeps hk₁, hb2⟩ (hk₁ _ _ (X _ _ ho)) rfl rfl (hk₁ _ _ (X _ _ hcda)) rfl hvs hfile ⟨_, hk₁ _ _ (X _ _ hcell), rfl⟩ hns ms (hk₁ _ _ hx) hxL fun h2 tk2 t1 kp2 he2 => ?_)
  have hns2 : h2.Ns s.heap.objs.size fun y => ([(("self" : Str), Value.ref e), (f, v)] : List (Str × Value)).reverse.lookup y := by
    obtain ⟨oL, es, ep, hL, r⟩ := hns
    exact ⟨oL, es, ep, kp2 _ _ (Ne.symm hxL) hL, r⟩
  have X2 : K.In h2 := fun a o z => kp2 a o (fun y => by rw [y, nx] at z; cases z) (X₁ _ _ z)
  show _root_.PySem.wpAt _ _ _ (execs _ _) _ _ _
  refine wpAt_of_wpAny (wpAny_execs_cons (plainObj_wpAny_Assign_Attribute ?_))
  refine ldK (v := v) hns2 mf (ldK (v := .ref e) hns2 ms ?_ rfl lse (by decide)) rfl lf b5
  refine set_plain X2 (ox := excO C t1) (od := none) ⟨he2, rfl, rfl, trivial⟩ T.sa ?_
  refine exc_osa X2 he2 hcl (show refsVE (.ref C :: bm) = true from hbm) rfl T.noN (fun h₃ tk₃ dx k₃ dn dne hx₃ hn₃ => ?_)
  show wpAny _ _ (execs _ _) _ _ _
  have z : s.heap.objs.size < h₁.objs.size := hns.lt
  have z2 : s.heap.objs.size < h2.objs.size := hns2.lt
  exact wpAny_execs_nil (hq h₃ tk₃ dx ⟨fun b o hb y => k₃ b o hb (kp2 b o hb (hk₁ b o y)), ⟨t1, hx₃⟩, Nat.le_of_lt (Nat.lt_of_lt_of_le z2 dn), dne, hn₃⟩)
theorem err_made (T : ErrT prog K mg x f C) {v : Value} (X : K.In s.heap) (hg : s.heap.Ns mainGlobals mg) (hb : ∃ mb, s.heap.Ns builtinsNs mb ∧ mb "super" = bootBuiltins "super") (hlim : s.heap.NoLimit) (hroom : A.depth + 1 < recursionLimit)
    (hq : ∀ h' tk e d, OwnMade s.heap h' e C d f v → R (.ok (.ret (.ref e))) { s with heap := h', toks := tk }) :
    codeAny (model prog w) A (.call (.ref C) ⟨[v], []⟩) R s := by
  obtain ⟨nm, q, N, bs, bm, sn, sub, ab, col, dd, k0, k1, k2, k3, k5, hC, hbm⟩ := T.cls
  obtain ⟨fI, cc, cda, oc, od, doc, pm, an, ct, osl, qual, txt, p1, p2, r1, r2, r3, r4, r5, r6, q1, q2, q3, q4, hi, tI, -⟩ := T.fn
  obtain ⟨hp, g, dr, tk, os⟩ := s
  have k : ∀ b o, hp.get? b = some o → ((hp.push (kdv_tup [v])).push (excO C hp.objs.size)).get? b = some o := fun b o e => Heap.get?_push_of_some _ (Heap.get?_push_of_some _ e)
  have hget : ((hp.push (kdv_tup [v])).push (excO C hp.objs.size)).get? (hp.objs.size + 1) = some (excO C hp.objs.size) := by heap_get
  have hnx : K.lookup (hp.objs.size + 1) = none := by
    cases e : K.lookup (hp.objs.size + 1) with
    | none => rfl
    | some o =>
      have z : hp.get? (hp.objs.size + 1) = some o := X _ _ e
      exact absurd (Nat.lt_of_succ_lt (Heap.lt_size z)) (Nat.lt_irrefl _)
  obtain ⟨mb, hb1, hb2⟩ := hb
  refine call_own F.excBase_ValueError (fun X => refsVE_contains X bm hbm) (X _ _ hC) (looks_findIn X hi) (fun self => bind_fn X self tI) (one_size v) ?_
  refine err_init (s := ⟨(hp.push (kdv_tup [v])).push (excO C hp.objs.size), g, dr, tk, os⟩) T hi (X.keeps k) (hg.keeps k) ⟨mb, hb1.keeps k, hb2⟩ (hlim.keeps k) hget hnx ?_ fun h' tk' dx ⟨k', ⟨t1, hx⟩, dn, dne, hns⟩ => ?_
  · show A.depth + 1 < recursionLimit
    exact hroom
  · have old : ∀ b o, hp.get? b = some o → h'.get? b = some o := fun b o e => k' b o (Nat.ne_of_lt (Nat.lt_succ_of_lt (Heap.lt_size e))) (k b o e)
    have z : hp.objs.size + 1 + 1 ≤ dx := by
      first
        | (simpa only [Heap.size_push] using dn)
        | exact dn
        | (have q := dn; rw [Heap.size_push, Heap.size_push] at q; exact q)
    exact ⟨rfl, hq h' tk' (hp.objs.size + 1) dx ⟨old, Nat.le_succ _, ⟨_, _, hx, rfl, rfl, rfl, rfl⟩, Nat.le_trans (Nat.le_trans (Nat.le_succ _) (Nat.le_succ _)) z, dne, hns⟩⟩
end
end ErrX
end PySem

namespace RD
open PySem PySem.Spec PyProof.Rows L2 He
theorem relO_one {f : Str} {v : V} {v' : Value} (r : RelV v v') (g : Str) : RelO (List.lookup g [(f, v)]) (if g = f then some v' else none) := by
  by_cases hw : g = f
  · subst hw
    rw [if_pos rfl]
    have q : List.lookup g [(g, v)] = some v := by simp [List.lookup]
    rw [q]
    exact r
  · rw [if_neg hw]
    have qw : (g == f) = false := by simpa using hw
    have q2 : List.lookup g [(f, v)] = none := by simp [List.lookup, qw]
    rw [q2]
    trivial
section
variable {X : Cx} {C : Addr} {x f : Str}
/-- x(e) -/
def tMkE (C : Addr) (f : Str) (ta : TA) : L2.St → Hp → XK → Prop := fun σ H Q => ta σ H fun vs H1 => ∃ v, vs = [v] ∧ ∀ d, H1 d = none → Q (.ref C) (some d) (upd H1 d (.xd [(f, v)]))
theorem pmk_err {a : Expr} {ta : TA} {p pos : Pos} {k : Nat} (T : PySem.ErrX.ErrT X.prog X.K X.mg x f C) (hr : Room k X.A) (ha : PA X [a] ta) (hg : Gl X x) (hdb : (x == ("__debug__" : Str)) = false := by decide)
    (he : starEach (a :: []) X.env = (false, eval a X.env) :: starEach [] X.env := by rfl) (hpl : (backTo pos (starEach [] X.env)).any (·.1) = false := by rfl) :
    PMk X (.Call (.Name x p) [a] [] pos) (tMkE C f ta) := by
  intro pins s σ H Q I h
  refine wpAny_Call_Name_kw (ld_glob I hg T.gC ?_ hdb)
  refine PySem.W.callWith_K (h₀ := X.base) I.ok.mod.kin T.kC (thn (ha.run pos pins s σ H _ I h) fun us s1 hh => ?_) he hpl
  obtain ⟨vs, H1, I1, r1, v, ev, q1⟩ := hh
  subst ev
  refine ⟨I1.kIn, ?_⟩
  cases r1 with
  | cons rv rn =>
    rename_i v' us'
    cases rn
    show wpAny _ _ (call (.ref C) [v']) _ _ _
    have hlim := I1.nolimit
    have hg1 := I1.mod.glob.keeps I1.bk
    obtain ⟨mb, hb1, hb2⟩ := I1.mod.blt
    have hb1 := hb1.keeps I1.bk
    have hb2 := hb2 "super" (by decide)
    obtain ⟨hp, g, dr, tk, os⟩ := s1
    refine wpAny_call (PySem.ErrX.err_made T I1.kIn hg1 ⟨mb, hb1, hb2⟩ hlim (by have := hr.dp; omega) fun h' tk' e d M => ?_)
    show MkP X pins σ Q (.ref e) ⟨h', g, dr, tk', os⟩
    obtain ⟨oe, fv, hoe, hc, hd, hdat, h1⟩ := M.obj
    have hns := M.ns
    obtain ⟨G', g1, g2⟩ := restrict h' fun b => decide (b ≠ e)
    have gk : ∀ b, b ≠ e → G'.get? b = h'.get? b := fun b hb => g1 b (decide_eq_true hb)
    have ge : G'.get? e = none := g2 e (by simp)
    have old : ∀ b o, hp.get? b = some o → G'.get? b = some o := fun b o q => (gk b (Nat.ne_of_lt (Nat.lt_of_lt_of_le (Heap.lt_size q) M.new))).trans (M.keep b o q)
    have ob : ObjOk X.prog X.w (upd H1 d (.xd [(f, v)])) G' d (.xd [(f, v)]) :=
      ⟨_, hns.at (fun o q => (gk d M.dne).trans q), fun g => relO_one rv g⟩
    have J : Inv X pins σ (upd H1 d (.xd [(f, v)])) ⟨G', g, dr, tk', os⟩ := I1.laid (t' := tk') old M.dbig ob
    refine ⟨e, oe, fv, ⟨G', g, dr, tk', os⟩, _, .ref C, some d, rfl, J, fun b o q => ?_, ge, hoe, ⟨hc, hd⟩, hdat, h1, ?_, rfl, I1.bare, raises_own T.exC T.tyC, q1 d (I1.hok.fresh M.dbig)⟩
    · by_cases hb : b = e
      · have q' : G'.get? b = some o := q
        rw [hb, ge] at q'; cases q'
      · exact (gk b hb).symm.trans q
    · rw [upd_ne (Ne.symm M.dne)]
      exact I1.hok.fresh M.new
/-- raise x(e) -/
def tRaiseE (C : Addr) (f : Str) (W : WX) (ta : TA) : TS := fun _ σ H => tMkE C f ta σ H fun cls d H' => W cls d σ H'
theorem ps_raiseE {a : Expr} {ta : TA} {W : WX} {p pos pos2 : Pos} {k : Nat} (hc : X.calm = true) (T : PySem.ErrX.ErrT X.prog X.K X.mg x f C) (hr : Room k X.A) (tk : Takes X W) (ha : PA X [a] ta) (hg : Gl X x) (hdb : (x == ("__debug__" : Str)) = false := by decide)
    (he : starEach (a :: []) X.env = (false, eval a X.env) :: starEach [] X.env := by rfl) (hpl : (backTo pos (starEach [] X.env)).any (·.1) = false := by rfl) :
    PS X (.Raise (some (.Call (.Name x p) [a] [] pos)) none pos2) (tRaiseE C f W ta) := ps_raise hc tk (pmk_err T hr ha hg hdb he hpl)
end
end RD

namespace PySem
namespace ErrX
open PySem.W PySem.Calls PyProof.Rows PySem.Spec
section
variable {prog : Program} {w : World} {A : Around} {E : Value → Shared → Prop} {s : Shared} {K : Frag} {x D : Addr} {ox : Obj} {od : Option Obj}
theorem findObj_dataO {C : Addr} {name : Str} {a g : Value} (hc : (clsIn K C).isSome = true) (ha : findIn K (.ref C) name = some (some a)) (hg : specialIn K a "__get__" = some (some g)) (ht : takesIn K a = some true) : findObj K C od name = some (.bind g a) := by
  obtain ⟨cd, hc⟩ := Option.isSome_iff_exists.mp hc
  unfold findObj
  rw [hc, Option.bind_some, ha, Option.bind_some]
  simp [hg, ht]
/-- the class asked of an exception that may have a dict -/
theorem cls_of_exc {Q : Option Value → Shared → Prop} (T : L2.ExcC K D) (X : K.In s.heap) (I : InstAt s.heap x ox D od) (h : Q (some (.ref D)) { s with toks := s.toks + 1 }) : wpAny (model prog w) A (getAttr? (.ref x) "__class__") Q E s := by
  have hf : findObj K D od "__class__" = some (.bind (.builtin "getset_descriptor.__get__") (.builtin "object.__class__")) := findObj_dataO (by obtain ⟨cd, hc, _⟩ := any_some T.hd; rw [hc]; rfl) T.ha T.hn T.ht
  obtain ⟨hp, g, d, t, os⟩ := s
  have L0 := I.type (M := model prog w)
  have L1 := looks_findIn (M := model prog w) X T.hg
  have L2 := looks_findIn (M := model prog w) X T.hk
  have L3 := looks_find (M := model prog w) X I hf
  have sub : Looks (model prog w) hp (isInstance (.ref x) (.type "BaseException")) true := L0.andThen (looks_subIn X T.hs)
  have hx0 : (false && onTheHeap (Value.builtin "BaseException.__getattribute__")) = false := rfl
  have hx2 : (Value.builtin "BaseException.__getattribute__" == Value.builtin "object.__getattribute__") = false := by decide +kernel
  have hx1 : (onTheHeap (Value.ref D) && Value.builtin "BaseException.__getattribute__" == Value.builtin "object.__getattribute__") = false := by rw [hx2]; rfl
  unfold getAttr? getAttrBy? getAttrBy
  refine wpAny_bind (wpAny_mkText (wpAny_bind (wpAny_attempt (wpAny_holding (wpAny_bind (L0.at (wpAny_bind (L1.at ?_))))))))
  show wpAny _ _ (if (onTheHeap (Value.ref D) && Value.builtin "BaseException.__getattribute__" == Value.builtin "object.__getattribute__") = true then _ else _) _ _ _
  rw [hx1, if_neg Bool.false_ne_true]
  unfold getAttrByItsOwn hookBefore
  refine wpAny_bind ?_
  rw [if_pos (show onTheHeap (Value.ref D) = true from rfl)]
  refine L2.at ?_
  refine wpAny_bind (wpAny_attempt (wpAny_holding ?_))
  unfold callGetattribute
  rw [hx0, if_neg Bool.false_ne_true]
  unfold boundAndCalled
  rw [PySem.F.excAttr_ValueError.ga.bind (.ref x)]
  refine wpAny_bind (wpAny_pure ?_)
  show wpAny _ _ (call (.builtin "BaseException.__getattribute__") [.ref x, .str "__class__" t]) _ _ _
  refine wpAny_call (codeAny_call_builtin PySem.F.excAttr_ValueError.ga.plain PySem.F.entry_bexc_ga ?_)
  refine @check_slot (model prog w) _ _ ⟨hp, g, d, t + 1, os⟩ "BaseException.__getattribute__" "BaseException" "__getattribute__" (.ref x) [.str "__class__" t] [] _ (by decide +kernel) (by decide +kernel) sub (PySem.F.args_bexc_ga (.ref x) (.str "__class__" t)) ?_
  unfold Builtin.«object.__getattribute__»
  refine wpAny_bind (wpAny_of_eq (a := ((Value.ref x : Value), [Value.str "__class__" t])) (by first | rfl | (simp only [slotArgs]; rfl)) ?_)
  refine wpAny_bind (wpAny_pure (wpAny_bind (L0.at (wpAny_bind (L3.at ?_)))))
  show wpAny _ _ (holding [Value.builtin "object.__class__"] (call (.builtin "getset_descriptor.__get__") [.builtin "object.__class__", .ref x, .ref D]) >>= ret) _ _ _
  refine wpAny_bind (wpAny_holding (wpAny_call (class_get (s := ⟨hp, g, d, t + 1, os⟩) (ox := ox) (od := od) X I T.hm ?_)))
  refine wpAny_pure ?_
  show wpAny _ _ (handedOut (.ref D)) _ _ _
  rw [handedOut_of (v := .ref D) rfl]
  first
    | exact wpAny_pure (wpAny_pure h)
    | exact wpAny_pure h
    | exact wpAny_pure (wpAny_bind (wpAny_pure (wpAny_pure h)))
theorem kitx_err (T : L2.ExcC K D) : KitX K (.ref x) (.ref D) (fun h => InstAt h x ox D od) where
  ty := fun _ _ _ I => I.type
  it := fun _ _ X _ => by
    obtain ⟨cdD, hcD, _⟩ := any_some T.hd
    unfold clsIn at hcD
    split at hcD
    · rename_i c' d' cd' sl' ho
      intro A' Q' E' s' k q
      unfold isType loadHead
      exact wpAny_bind (wpAny_loadPart (k _ _ (X _ _ ho)) (wpAny_pure q))
    · cases hcD
  ne := fun h tp dd its n sl X htp => by
    obtain ⟨cdD, hcD, _⟩ := any_some T.hd
    refine Bool.eq_false_iff.mpr fun q => ?_
    have e : D = tp := Value.ref.inj (beq_iff_eq.mp q)
    subst e
    unfold clsIn at hcD
    split at hcD
    · rename_i c' d' cd' sl' ho
      have z := (X _ _ ho).symm.trans htp
      cases z
    · cases hcD
  ca := fun X I k => cls_of_exc T X I k
end
end ErrX
end PySem
namespace RD
open PySem PySem.Spec PyProof.Rows L2 He
section
variable {X : Cx}
/-- isinstance(e, c), e the exception that the suite holds; its dict known -/
def rIsX (K : PySem.W.Frag) (a : Addr) (cls : Value) (d : Option Addr) : List V → Hp → VK → Prop := fun xs H Q => ∃ (D : Addr) (c : V) (cv : Value) (b : Bool), cls = .ref D ∧ ExcC K D ∧ xs = [.ref a, c] ∧ (d = none ∨ ∃ (dd : Addr) (fs : List (Str × V)), d = some dd ∧ H dd = some (.xd fs)) ∧ (∀ u, RelV c u → u = cv) ∧ PySem.W.kitOne K (.ref D) cv = some b ∧ Q (.bl b) H
theorem call_isX {a : Addr} {cls : Value} {oe : Obj} {d : Option Addr} {pn : List (Addr × Obj)} (hz : Zc cls d oe) (hf : ∃ vs, oe.data = .fields vs) : CallR (X.suite a ((a, oe) :: pn)) (.builtin "isinstance") (rIsX X.K a cls d) := by
  intro pins s σ H xs us Q I r h
  obtain ⟨D, c, cv, b, rfl, C, rfl, hd, hcv, e, q⟩ := h
  cases r with
  | cons rx rr =>
    cases rr with
    | cons rt rr =>
      cases rr
      cases rx
      have ec := hcv _ rt
      subst ec
      obtain ⟨hget, _⟩ := I.pin (a, oe) (List.mem_append.mpr (.inl List.mem_cons_self))
      obtain ⟨vs, hv⟩ := hf
      obtain ⟨od, J⟩ : ∃ od, PySem.W.InstAt s.heap a oe D od := by
        obtain ⟨oc, odd, oda, osl⟩ := oe
        obtain ⟨h1, h2⟩ := hz
        dsimp only at h1 h2 hv
        subst h1 h2 hv
        rcases hd with hd | ⟨dd, fs, hd, hx⟩
        · subst hd
          exact ⟨none, hget, rfl, rfl, trivial⟩
        · subst hd
          have hx : ObjOk X.prog X.w H s.heap dd (.xd fs) := I.hok dd _ hx
          obtain ⟨mA, hns, hr⟩ := hx
          obtain ⟨o, ho, _⟩ := lookIn_ns hns
          exact ⟨some o, hget, rfl, rfl, ho⟩
      exact PySem.W.kia_one (PySem.ErrX.kitx_err C) I.kIn J e (fun z => nomatch z) fun tk => ⟨.bl b, H, I.kept (t' := tk) fun _ _ z => z, rfl, q⟩
/-- e.f, e the exception that the suite holds -/
def tXe (K : PySem.W.Frag) (a : Addr) (cls : Value) (d : Option Addr) (f : Str) (te : TE) : TE := fun σ H Q => te σ H fun x H1 => ∃ (C dd : Addr) (fs : List (Str × V)) (v : V), x = .ref a ∧ cls = .ref C ∧ XfC K C ∧ PySem.W.findIn K (.ref C) f = some none ∧ d = some dd ∧ H1 dd = some (.xd fs) ∧ fs.lookup f = some v ∧ Q v H1
theorem pe_xe {a : Addr} {oe : Obj} {cls : Value} {d : Option Addr} {pn : List (Addr × Obj)} {e : Expr} {te : TE} {pos : Pos} {n : Str} (hz : Zc cls d oe) (hf : ∃ vs, oe.data = .fields vs) (he : PE (X.suite a ((a, oe) :: pn)) e te) (hb : attributeBase e n X.env (eval e X.env) = eval e X.env := by rfl) :
    PE (X.suite a ((a, oe) :: pn)) (.Attribute e n pos) (tXe X.K a cls d n te) := by
  refine ⟨fun pins s σ H Q I h => ?_⟩
  refine attr_of hb (thn (he.run pins s σ H _ I h) fun u s1 hh => ?_)
  obtain ⟨x, H1, I1, rx, C, dd, fs, v, ex, ec, T, hno, ed, ea, l, q⟩ := hh
  subst ex
  obtain rfl : u = Value.ref a := rx
  subst ec
  subst ed
  obtain ⟨ha, _⟩ := I1.pin (a, oe) (List.mem_append_left _ List.mem_cons_self)
  obtain ⟨vs, hd⟩ := hf
  have hx : ObjOk X.prog X.w H1 s1.heap dd (.xd fs) := I1.hok dd _ ea
  obtain ⟨mA, hns, hr⟩ := hx
  obtain ⟨od, ho, hl⟩ := lookIn_ns hns
  obtain ⟨u, hu, ru⟩ := RelO.some_of (v := v) (o := mA n) (by rw [← l]; exact hr n)
  have J : PySem.W.InstAt s1.heap a oe C (some od) := ⟨ha, hz.1, by unfold PySem.W.notCls; rw [hd] <;> rfl, by rw [hz.2]; exact ho⟩
  exact PySem.HandSPX.exc_get I1.kIn J T.ga T.gg T.exC (PySem.W.findObj_own T.hdC hno rfl (by rw [hl, hu])) (handed_of ru) ⟨v, H1, I1.tok _, ru, q⟩
end
/-! ### calls whose errors are wished for at the slots -/
section
variable {X : Cx} {CX : CXT} {k j : Nat} {C : Addr} {x m : Str} {sp : Sp} {dvs : List V} {E : L2.St → XK} {p pos apos : Pos} {e o : Expr} {es : List Expr} {ta : TE} {t : TA}
theorem pe_calS (c : CalX X.prog X.w X.K X.mg X.base CX k x sp dvs) (hr : Room j X.A) (hk : k ≤ j) (hg : Gl X x) (hx : ∀ σ, PassesAt CX X σ (E σ)) (ha : PA X (e :: es) t)
    (hdb : (x == ("__debug__" : Str)) = false := by decide) (he : starEach (e :: es) X.env = (false, eval e X.env) :: starEach es X.env := by rfl) (hpl : (backTo pos (starEach es X.env)).any (·.1) = false := by rfl) :
    PE X (.Call (.Name x p) (e :: es) [] pos) (tCallSD sp dvs E t) := by
  obtain ⟨f, fd, ps, ds, F, hm, kp, b, d⟩ := c.ex
  exact pe_callSD F (hr.mono hk) hg hm kp b d hx ha hdb he hpl
def tMetS (C : Addr) (m : Str) (sp : Sp) (dvs : List V) (E : L2.St → XK) (ta : TE) (t : TA) : TE := fun σ H Q => ta σ H fun x H1 => ∃ a dx fs, x = .ref a ∧ H1 a = some (.ins C dx fs) ∧ fs.lookup m = none ∧ t σ H1 fun vs H2 => sp (x :: (vs ++ dvs)) H2 Q (E σ)
theorem pe_metS {pl : Sem Bool} (c : MetX X.prog X.w X.K X.mg X.base CX k C m sp dvs) (hr : Room j X.A) (hk : k ≤ j) (hx : ∀ σ, PassesAt CX X σ (E σ)) (he : PE X o ta) (ha : PA X (e :: es) t)
    (hst : starEach (e :: es) X.env = (false, eval e X.env) :: starEach es X.env := by rfl) (hpl : (backTo pos (starEach es X.env)).any (·.1) = false := by rfl)
    (ht : eval (.Call (.Attribute o m apos) (e :: es) [] pos) X.env = (do
      let ov ← eval o X.env
      standAt apos.atName
      let (f, first) ← holding [ov] (getMethod ov m pl)
      callWith pos f first (backTo pos (starEach (e :: es) X.env)) (backToKw pos (keywordEach [] X.env))) := by rfl) :
    PE X (.Call (.Attribute o m apos) (e :: es) [] pos) (tMetS C m sp dvs E ta t) := by
  obtain ⟨f, fd, ps, ds, cl, me, F, b, d⟩ := c.ex
  refine ⟨fun pins s σ H Q I h => ?_⟩
  refine PySem.W.methodCall_KW (pl := pl) (thn (he.run pins s σ H _ I h) fun u s1 ⟨x, H1, I1, rx, a, dx, fs, ex, ea, l, q⟩ => ?_) ht
  subst ex
  obtain rfl : u = Value.ref a := rx
  refine getmeth_ok I1 ea cl me l ?_
  refine PySem.W.callWith_K (first := [.ref a]) (h₀ := X.base) I.ok.mod.kin me.kp (thn (ha.run pos pins s1 σ H1 _ I1 q) fun us s2 ⟨vs, H2, I2, r, q2⟩ => ⟨I2.kIn, ?_⟩) hst hpl
  exact run_fnSD (us := .ref a :: us) (vs := .ref a :: vs) F (hr.mono hk) b d (hx σ) I2 (.cons rfl r) q2
theorem pe_metS0 {pl : Sem Bool} (c : MetX X.prog X.w X.K X.mg X.base CX k C m sp dvs) (hr : Room j X.A) (hk : k ≤ j) (hx : ∀ σ, PassesAt CX X σ (E σ)) (he : PE X o ta)
    (ht : eval (.Call (.Attribute o m apos) [] [] pos) X.env = (do
      let ov ← eval o X.env
      standAt apos.atName
      let (f, first) ← holding [ov] (getMethod ov m pl)
      callWith pos f first (backTo pos (starEach [] X.env)) (backToKw pos (keywordEach [] X.env))) := by rfl) :
    PE X (.Call (.Attribute o m apos) [] [] pos) (tMetS C m sp dvs E ta tNil) := by
  obtain ⟨f, fd, ps, ds, cl, me, F, b, d⟩ := c.ex
  refine ⟨fun pins s σ H Q I h => ?_⟩
  refine PySem.W.methodCall_KW (pl := pl) (thn (he.run pins s σ H _ I h) fun u s1 ⟨x, H1, I1, rx, a, dx, fs, ex, ea, l, q⟩ => ?_) ht
  subst ex
  obtain rfl : u = Value.ref a := rx
  refine getmeth_ok I1 ea cl me l ?_
  exact PySem.W.callWith_K0 (first := [.ref a]) I1.kIn me.kp (run_fnSD (us := [.ref a]) (vs := [.ref a]) F (hr.mono hk) b d (hx σ) I1 (.cons rfl .nil) q)
end
/-- a def that may raise: its promise by its body -/
theorem fnDX {P : Program} {w : World} {K : PySem.W.Frag} {mg : Str → Option Value} {base : Heap} {x qual : Str} {params : Arguments} {body : List Stmt} {scope : Scope} {dvs : List V} {kws : List (Str × V)} {f : Addr} {fd : FuncData} {N ps : List Str} {k : Nat} {sp : Sp} (F : FunD K x qual params body scope dvs kws f fd) (S : FnScope N ps scope) (len : ∀ vs H Q E, sp vs H Q E → vs.length = ps.length)
    (hbody : ∀ (cdv : Value) (A : Around) (outer : List Env) (s : Shared) (H : Hp) (vs : List V) (Q : VK) (E : XK), Room k (A.deeper (envOfC qual scope s.heap.objs.size f cdv)) → sp vs H Q E →
      ∃ t, PSs (cxOf (L2.CX P w) P w K mg base N qual scope f cdv A outer s H E) body t ∧ t ⟨fun _ H' => Q .non H', Q, fun _ _ => False, fun _ _ => False⟩ (start N vs) H) : FnOk P w K mg base (L2.CX P w) (k + 1) f fd ps sp :=
  F.ok S len fun cdv A outer s H vs Q E hr h => let ⟨t, h1, h2⟩ := hbody cdv A outer s H vs Q E hr h; ⟨t, h1, h2⟩
/-- what isinstance and except ask of the class -/
structure ErrS (K : PySem.W.Frag) (ys : List Str) (x : Str) : Prop where
  xc : ExcC K (ga K x)
  xf : XfC K (ga K x)
  kit : ∀ y, y ∈ ys → PySem.W.kitOne K (.ref (ga K x)) (.ref (ga K y)) = some (decide (y = x) || decide (y = "GroupError"))
  exm : ∀ y, y ∈ ys → PySem.W.exmOne K (.ref (ga K x)) (.ref (ga K y)) = some (decide (y = x) || decide (y = "GroupError"))
  kve : PySem.W.kitOne K (.ref (ga K x)) (.type "ValueError") = some true
  glo : ∀ y, y ∈ ys → PySem.W.nsIn K mainGlobals y = some (some (.ref (ga K y)))
/-! ### readings -/
section
variable {K : PySem.W.Frag} {σ : L2.St} {H : Hp} {nx bk ct : L2.St → Hp → Prop} {rt : VK} {t : TS} {te ta : TE} {ar : TA} {Q : VK} {v x : V} {W : WX} {C : Addr} {f : Str} {D : Ends}
theorem rd_raiseE (h : ar σ H fun vs H1 => ∃ v, vs = [v] ∧ ∀ d, H1 d = none → W (.ref C) (some d) σ (upd H1 d (.xd [(f, v)]))) : tRaiseE C f W ar D σ H := h
theorem rd_raiseX {P : V → Addr → Prop} (q : ∀ d, H d = none → P v d) : ∃ v', [v] = [v'] ∧ ∀ d, H d = none → P v' d := ⟨v, rfl, q⟩
theorem rd_calS {sp : Sp} {E : L2.St → XK} (h : ar σ H fun vs H1 => sp vs H1 Q (E σ)) : tCallSD sp [] E ar σ H Q := by
  unfold tCallSD
  have e : (fun vs H1 => sp (vs ++ []) H1 Q (E σ)) = fun vs H1 => sp vs H1 Q (E σ) := by
    funext vs H1
    rw [List.append_nil]
  rw [e]
  exact h
theorem rd_metS {m : Str} {sp : Sp} {E : L2.St → XK} (h : ta σ H fun x H1 => ∃ a dx fs, x = .ref a ∧ H1 a = some (.ins C dx fs) ∧ fs.lookup m = none ∧ ar σ H1 fun vs H2 => sp (x :: vs) H2 Q (E σ)) : tMetS C m sp [] E ta ar σ H Q := by
  unfold tMetS
  have e : (fun (x : V) (H1 : Hp) => ∃ a dx fs, x = V.ref a ∧ H1 a = some (.ins C dx fs) ∧ fs.lookup m = none ∧ ar σ H1 fun vs H2 => sp (x :: (vs ++ [])) H2 Q (E σ)) =
      fun (x : V) (H1 : Hp) => ∃ a dx fs, x = V.ref a ∧ H1 a = some (.ins C dx fs) ∧ fs.lookup m = none ∧ ar σ H1 fun vs H2 => sp (x :: vs) H2 Q (E σ) := by
    funext x H1
    simp only [List.append_nil]
  rw [e]
  exact h
/-- what flies is of the class x; the clause names y -/
theorem rd_wAs {ys : List Str} {y : Str} {i : Nat} {ts : Addr → Value → Option Addr → TS} {Wout : WX} {d : Option Addr} {x : Str} {b : Bool} (S : ErrS K ys x) (hy : y ∈ ys) (e : (decide (y = x) || decide (y = "GroupError")) = b)
    (q1 : b = true → ∀ a, H a = none → ts a (.ref (ga K x)) d ⟨fun σ' H' => nx (σ'.set i none) H', rt, fun σ' H' => bk (σ'.set i none) H', fun σ' H' => ct (σ'.set i none) H'⟩ (σ.set i (some (.ref a))) H) (q2 : b = false → Wout (.ref (ga K x)) d σ H) :
    wAs K (.ref (ga K y)) i ts Wout ⟨nx, rt, bk, ct⟩ (.ref (ga K x)) d σ H := ⟨b, e ▸ S.exm y hy, q1, q2⟩
theorem rd_isX {ys : List Str} {x y : Str} {a dd : Addr} {fs : List (Str × V)} {b : Bool} (S : ErrS K ys x) (hy : y ∈ ys) (hd : H dd = some (.xd fs)) (e : (decide (y = x) || decide (y = "GroupError")) = b) (q : Q (.bl b) H) : rIsX K a (.ref (ga K x)) (some dd) [.ref a, .ref (ga K y)] H Q :=
  ⟨ga K x, .ref (ga K y), .ref (ga K y), b, rfl, S.xc, rfl, .inr ⟨dd, fs, rfl, hd⟩, fun u r => r, e ▸ S.kit y hy, q⟩
theorem rd_isXt {ys : List Str} {x y : Str} {a dd : Addr} {fs : List (Str × V)} (S : ErrS K ys x) (hy : y ∈ ys) (hd : H dd = some (.xd fs)) (e : (decide (y = x) || decide (y = "GroupError")) = true) (q : Q (.bl true) H) : rIsX K a (.ref (ga K x)) (some dd) [.ref a, .ref (ga K y)] H Q := rd_isX S hy hd e q
theorem rd_isXf {ys : List Str} {x y : Str} {a dd : Addr} {fs : List (Str × V)} (S : ErrS K ys x) (hy : y ∈ ys) (hd : H dd = some (.xd fs)) (e : (decide (y = x) || decide (y = "GroupError")) = false) (q : Q (.bl false) H) : rIsX K a (.ref (ga K x)) (some dd) [.ref a, .ref (ga K y)] H Q := rd_isX S hy hd e q
theorem rd_isXv {ys : List Str} {x : Str} {a dd : Addr} {fs : List (Str × V)} (S : ErrS K ys x) (hd : H dd = some (.xd fs)) (q : Q (.bl true) H) : rIsX K a (.ref (ga K x)) (some dd) [.ref a, .ty "ValueError"] H Q :=
  ⟨ga K x, .ty "ValueError", .type "ValueError", true, rfl, S.xc, rfl, .inr ⟨dd, fs, rfl, hd⟩, fun u r => r, S.kve, q⟩
theorem rd_xe {x f : Str} {a : Addr} {d : Option Addr} (h : te σ H fun z H1 => ∃ (C dd : Addr) (fs : List (Str × V)) (v : V), z = .ref a ∧ (.ref (ga K x) : Value) = .ref C ∧ XfC K C ∧ PySem.W.findIn K (.ref C) f = some none ∧ d = some dd ∧ H1 dd = some (.xd fs) ∧ fs.lookup f = some v ∧ Q v H1) : tXe K a (.ref (ga K x)) d f te σ H Q := h
theorem rd_xeX {ys : List Str} {x f : Str} {a dd : Addr} {fs : List (Str × V)} {R : V → Prop} (S : ErrS K ys x) (n : PySem.W.findIn K (.ref (ga K x)) f = some none) (hd : H dd = some (.xd fs)) (l : fs.lookup f = some v) (q : R v) :
    ∃ (C dd' : Addr) (fs : List (Str × V)) (v : V), V.ref a = .ref a ∧ (.ref (ga K x) : Value) = .ref C ∧ XfC K C ∧ PySem.W.findIn K (.ref C) f = some none ∧ some dd = some dd' ∧ H dd' = some (.xd fs) ∧ fs.lookup f = some v ∧ R v := ⟨ga K x, dd, fs, v, rfl, rfl, S.xf, n, rfl, hd, l, q⟩
end
end RD

/-! ### the head: error classes, tables with text keys -/
namespace RD
open PySem PySem.Spec PyProof.Rows L2 He
open PySem.W (findIn nsIn subIn typeIn keepIn mroIn kitOne exmOne codeIn clsIn ks_superIn)
structure ErrD where
  name : Str
  fld : Str
  txt : Str
  qual : Str
  params : Arguments
  body : List Stmt
  scope : Scope
abbrev FnE : Type := Option (Str × Str × Arguments × FuncBody × Scope × Addr × List Str × Addr)
def ErrD.seen (K : PySem.W.Frag) (d : ErrD) : FnE := match K.lookup (ma K (ga K d.name) "__init__") with
  | some ⟨_, _, .func fd, _⟩ => some (fd.name, fd.qualname, fd.params, fd.body, fd.scope, fd.globals, fd.closure.map (·.1), fd.builtins)
  | _ => none
def ErrD.val (d : ErrD) : FnE := some ("__init__", d.qual, d.params, .stmts d.body, d.scope, mainGlobals, ["__class__"], builtinsNs)
def excClsB (K : PySem.W.Frag) (C : Addr) : Bool := match K.lookup C with
  | some ⟨.type c, _, .cls cd, sl⟩ => decide (c = "type") && (match cd.mro, sl.toList with
    | .ref C' :: bm, [_, _, _, _, some (.builtin n), _] => decide (C' = C) && (decide (n = "ValueError.__new__") && (!cd.hasDel && (cd.hasDict && PySem.HandSPX.refsVE bm)))
    | _, _ => false)
  | _ => false
theorem excClsB_ok {K : PySem.W.Frag} {C : Addr} (h : excClsB K C = true) : ∃ nm q N bs bm sn sub ab col dd k0 k1 k2 k3 k5, K.lookup C = some (excClassObj nm q C N bs bm true sn sub ab col dd k0 k1 k2 k3 k5 "ValueError.__new__") ∧ PySem.HandSPX.refsVE bm = true := by
  unfold excClsB at h
  split at h
  · rename_i c dd cd sl ho
    obtain ⟨h0, h⟩ := ba h
    split at h
    · rename_i C' bm k0 k1 k2 k3 n k5 hm hs
      obtain ⟨h1, h⟩ := ba h
      obtain ⟨h2, h⟩ := ba h
      obtain ⟨h3, h⟩ := ba h
      obtain ⟨h4, h5⟩ := ba h
      have h3' : cd.hasDel = false := by simpa using h3
      clear h3
      obtain ⟨nm, bs, mro, ns, qn, hd, sn, sub, ab, col, del⟩ := cd
      have e0 := of_decide_eq_true h0
      have e1 := of_decide_eq_true h1
      have e2 := of_decide_eq_true h2
      dsimp only at hm h3' h4
      subst hm h3' h4 e0 e1 e2
      have hsl : sl = #[k0, k1, k2, k3, some (.builtin "ValueError.__new__"), k5] := by
        obtain ⟨l⟩ := sl
        simp only at hs
        rw [hs]
      subst hsl
      exact ⟨nm, qn, ns, bs, bm, sn, sub, ab, col, dd, k0, k1, k2, k3, k5, ho, h5⟩
    · cases h
  · cases h
def isNon : Value → Bool
  | .none => true
  | _ => false
theorem isNon_ok {v : Value} (h : isNon v = true) : v = .none := by
  cases v <;> first | rfl | cases h
def fileB (P : Program) (K : PySem.W.Frag) (cd : Value) : Bool := match cd with
  | .ref c => (match K.lookup c with
    | some ⟨_, _, .fields vs, _⟩ => (match (vs[2]? : Option Value) with
      | some (Value.str file _) => (P.main.file == file)
      | _ => false)
    | _ => false)
  | _ => false
theorem fileB_ok {P : Program} {K : PySem.W.Frag} {cd : Value} (h : fileB P K cd = true) : ∃ cda, cd = .ref cda ∧ ∃ ccl cdd vs ccs file tf, K.lookup cda = some ⟨ccl, cdd, .fields vs, ccs⟩ ∧ vs[2]? = some (.str file tf) ∧ ((P.main.file : Str) == file) = true := by
  unfold fileB at h
  split at h
  · rename_i c
    split at h
    · rename_i ccl cdd vs ccs ho
      split at h
      · rename_i file tf hv
        exact ⟨c, rfl, ccl, cdd, vs, ccs, file, tf, ho, hv, h⟩
      · cases h
    · cases h
  · cases h
def cellB (K : PySem.W.Frag) (cl : List (Str × Addr)) (C : Addr) : Bool := match cl with
  | [(_, c)] => (match K.lookup c with
    | some ⟨_, _, .cell (some (.ref D)), _⟩ => decide (D = C)
    | _ => false)
  | _ => false
theorem cellB_ok {K : PySem.W.Frag} {cl : List (Str × Addr)} {C : Addr} (h : cellB K cl C = true) : ∃ x c, cl = [(x, c)] ∧ ∃ k d s, K.lookup c = some ⟨k, d, .cell (some (.ref C)), s⟩ := by
  unfold cellB at h
  split at h
  · rename_i x c
    split at h
    · rename_i k d D s ho
      have e := of_decide_eq_true h
      subst e
      exact ⟨x, c, rfl, k, d, s, ho⟩
    · cases h
  · cases h
def errSB (K : PySem.W.Frag) (ys : List Str) (x : Str) : Bool :=
  xfB K (ga K x) && (eqO (findIn K (.ref (ga K x)) "__class__") (some (some (.builtin "object.__class__"))) && (eqO (PySem.W.specialIn K (.builtin "object.__class__") "__get__") (some (some (.builtin "getset_descriptor.__get__"))) && (decide (PySem.W.takesIn K (.builtin "object.__class__") = some true) && (decide (mroIn K (ga K x) (.type "object") = some true) &&
    (decide (kitOne K (.ref (ga K x)) (.type "ValueError") = some true) && ys.all fun y => decide (kitOne K (.ref (ga K x)) (.ref (ga K y)) = some (decide (y = x) || decide (y = "GroupError"))) && (decide (exmOne K (.ref (ga K x)) (.ref (ga K y)) = some (decide (y = x) || decide (y = "GroupError"))) && eqO (nsIn K mainGlobals y) (some (some (.ref (ga K y))))))))))
theorem errSB_ok {K : PySem.W.Frag} {ys : List Str} {x : Str} (h : errSB K ys x = true) : ErrS K ys x := by
  obtain ⟨h1, h⟩ := ba h
  obtain ⟨h2, h⟩ := ba h
  obtain ⟨h3, h⟩ := ba h
  obtain ⟨h4, h⟩ := ba h
  obtain ⟨h5, h⟩ := ba h
  obtain ⟨h6, h⟩ := ba h
  have X := xfB_ok h1
  have k := fun y hy => ba (List.all_eq_true.mp h y hy)
  exact ⟨⟨X.ga, X.gg, X.exC, X.hdC, eqO_ok h2, eqO_ok h3, of_decide_eq_true h4, of_decide_eq_true h5⟩, X, fun y hy => of_decide_eq_true (k y hy).1, fun y hy => of_decide_eq_true (ba (k y hy).2).1, of_decide_eq_true h6, fun y hy => eqO_ok (ba (k y hy).2).2⟩
def ErrD.ok (P : Program) (K : PySem.W.Frag) (ys : List Str) (d : ErrD) : Bool :=
  errSB K ys d.name && (eqO (nsIn K mainGlobals d.name) (some (some (.ref (ga K d.name)))) && (eqO (nsIn K mainGlobals "super") (some none) && (!(P.main.scope.names.lookup ("super" : Str)).isSome && (excClsB K (ga K d.name) && (eqO (findIn K (.ref (ga K d.name)) "__setattr__") (some (some (.builtin "object.__setattr__"))) &&
  (eqO (findIn K (.ref (ga K d.name)) d.fld) (some none) && (keepIn K (.ref (ga K d.name)) && (decide (typeIn K (.ref (ga K d.name)) = some (.type "type")) && (decide (mroIn K (ga K d.name) (.ref (ga K d.name)) = some true) && (decide (subIn K (.ref (ga K d.name)) (.type "ValueError") = some true) &&
  (eqO (ks_superIn K (ga K d.name) (ga K d.name) "__init__") (some (some (.builtin "ValueError.__init__"))) && (eqO (nsIn K cStatics "thirdparty.any") (some none) && (eqO (findIn K (.ref (ga K d.name)) "__init__") (some (some (.ref (ma K (ga K d.name) "__init__")))) && (decide (typeIn K (.ref (ma K (ga K d.name) "__init__")) = some (.type "function")) &&
  (match K.lookup (ma K (ga K d.name) "__init__") with
    | some ⟨_, _, .func fd, _⟩ => isNon fd.defaults && (isNon fd.kwdefaults && (codeIn K fd.code d.qual && (fileB P K fd.code && cellB K fd.closure (ga K d.name))))
    | _ => false)))))))))))))))
/-- the text of __init__ is of the known form -/
structure ErrF (d : ErrD) : Prop where
  f1 : (d.fld == ("self" : Str)) = false
  f2 : (("self" : Str) == d.fld) = false
  f3 : (("super" : Str) == d.fld) = false
  f4 : (("__class__" : Str) == d.fld) = false
  f5 : (d.fld == ("__debug__" : Str)) = false
  form : ∃ p1 p2 r1 r2 r3 r4 r5 r6 q1 q2 q3 q4, d.params = ErrX.eA1 d.fld p1 p2 ∧ d.body = ErrX.eB1 d.fld d.txt r1 r2 r3 r4 r5 r6 q1 q2 q3 q4 ∧ d.scope = ErrX.eS1 d.fld ∧ (r3.endLine == r5.line) = true
theorem ErrD.errT {P : Program} {K : PySem.W.Frag} {mg : Str → Option Value} {ys : List Str} {d : ErrD} {h : Heap} (X : K.In h) (G : h.Ns mainGlobals mg) (F : ErrF d) (e : d.seen K = d.val) (c : d.ok P K ys = true) : ErrX.ErrT P K mg d.name d.fld (ga K d.name) ∧ ErrS K ys d.name := by
  obtain ⟨h0, c⟩ := ba c
  obtain ⟨h1, c⟩ := ba c
  obtain ⟨h2, c⟩ := ba c
  obtain ⟨h3, c⟩ := ba c
  obtain ⟨h4, c⟩ := ba c
  obtain ⟨h5, c⟩ := ba c
  obtain ⟨h6, c⟩ := ba c
  obtain ⟨h7, c⟩ := ba c
  obtain ⟨h8, c⟩ := ba c
  obtain ⟨h9, c⟩ := ba c
  obtain ⟨h10, c⟩ := ba c
  obtain ⟨h11, c⟩ := ba c
  obtain ⟨h12, c⟩ := ba c
  obtain ⟨h13, c⟩ := ba c
  obtain ⟨h14, c⟩ := ba c
  have S := errSB_ok h0
  refine ⟨⟨PySem.W.mg_of X G (eqO_ok h1), PySem.W.mg_none_of X G (eqO_ok h2), by simpa using h3, F.f1, F.f2, F.f3, F.f4, F.f5, excClsB_ok h4, eqO_ok h5, eqO_ok h6, h7, S.xf.exC, of_decide_eq_true h8, of_decide_eq_true h9, of_decide_eq_true h10, eqO_ok h11, eqO_ok h12, ?_⟩, S⟩
  obtain ⟨p1, p2, r1, r2, r3, r4, r5, r6, q1, q2, q3, q4, g1, g2, g3, g4⟩ := F.form
  unfold ErrD.seen at e
  cases q : K.lookup (ma K (ga K d.name) "__init__") with
  | none =>
    rw [q] at c
    cases c
  | some o =>
    obtain ⟨oc, od, dt, osl⟩ := o
    rw [q] at c e
    cases dt with
    | func fd =>
      obtain ⟨n1, n2, n3, n4, n5, n6, n7, n8, n9, n10, n11, n12, n13, n14, n15⟩ := fd
      have e2 : (some (n1, n2, n3, n4, n5, n6, n7.map (·.1), n15) : FnE) = ErrD.val d := e
      unfold ErrD.val at e2
      injection e2 with e2
      simp only [Prod.mk.injEq] at e2
      obtain ⟨a1, a2, a3, a4, a5, a6, a7, a8⟩ := e2
      have c3 : (isNon n8 && (isNon n9 && (codeIn K n13 d.qual && (fileB P K n13 && cellB K n7 (ga K d.name))))) = true := c
      obtain ⟨k1, c3⟩ := ba c3
      obtain ⟨k2, c3⟩ := ba c3
      obtain ⟨k3, c3⟩ := ba c3
      obtain ⟨k4, k5⟩ := ba c3
      obtain ⟨cda, z1, z2⟩ := fileB_ok k4
      obtain ⟨y, cc, z3, z4⟩ := cellB_ok k5
      have z5 := isNon_ok k1
      have z6 := isNon_ok k2
      subst z3
      have z7 : y = "__class__" := by
        have z : ([y] : List Str) = ([("__class__" : Str)] : List Str) := a7
        injection z
      subst z7
      subst a1 a2 a3 a4 a5 a6 a8 z5 z6 z1
      rw [g1, g2, g3] at q
      exact ⟨_, cc, cda, oc, od, _, _, _, _, osl, _, _, p1, p2, r1, r2, r3, r4, r5, r6, q1, q2, q3, q4, eqO_ok h13, of_decide_eq_true h14, g4, q, k3, z2, z4⟩
    | _ => cases c
/-- the head with all of it -/
def goQ (g : Addr → Option Obj) : Nat → List Addr → List Addr → List Addr
  | 0, sn, _ => sn
  | n + 1, sn, fr => match ((fr.flatMap fun a => match g a with
      | some o => refsD o
      | none => []).filter fun a => !(sn.contains a)).eraseDups with
    | nw => goQ g n (sn ++ nw) nw
/-- what n steps of naming reach from the module's names -/
def asQ (g : Addr → Option Obj) (n : Nat) : List Addr := goQ g n [cStatics, mainGlobals] [mainGlobals]
abbrev AlQ : Type := AlX × (Bool × (List FnW × List FnE))
def obsQ (P : Program) (n : Nat) (fa : List Fa) (fn : List DefD) (gs : List GetD) (es : List ErrD) (ys : List Str) (ts : List Tab) (tf : List Defn) (ex : PySem.W.Frag → Bool) (g : Addr → Option Obj) : AlQ :=
  ((obsT fa fn ts (frT g (asQ g n)), ex (frT g (asQ g n)) && tabsB g tf (frT g (asQ g n))), (gs.all (GetD.ok (frT g (asQ g n))) && es.all (ErrD.ok P (frT g (asQ g n)) ys), (gs.map (GetD.seen (frT g (asQ g n))), es.map (ErrD.seen (frT g (asQ g n))))))
structure SaysQ (P : Program) (fa : List Fa) (fn : List DefD) (gs : List GetD) (es : List ErrD) (ys : List Str) (ts : List Tab) (tf : List Defn) (ex : PySem.W.Frag → Bool) (w : World) (h : Heap) (K : PySem.W.Frag) : Prop where
  x : SaysX fa fn ts tf ex w h K
  ok : gs.all (GetD.ok K) = true
  seen : gs.map (GetD.seen K) = gs.map GetD.val
  eok : es.all (ErrD.ok P K ys) = true
  eseen : es.map (ErrD.seen K) = es.map ErrD.val
theorem saysXQ {fa : List Fa} {fn : List DefD} {ts : List Tab} {tf : List Defn} {ex : PySem.W.Frag → Bool} {w : World} {h : Heap} {as : List Addr} (e1 : obsT fa fn ts (frT h.get? as) = valT fn ts w) (e2 : (ex (frT h.get? as) && tabsB h.get? tf (frT h.get? as)) = true) : SaysX fa fn ts tf ex w h (frT h.get? as) := by
  obtain ⟨h1, h2⟩ := ba e2
  have key : ∀ p ∈ tf, PySem.W.codeHdIn (frT h.get? as) (cT (frT h.get? as) p).1 (cT (frT h.get? as) p).2 = true ∧ ∃ o, h.get? (cT (frT h.get? as) p).2 = some o ∧ emptyTab o = true := fun p hp => by
    obtain ⟨h3, h4⟩ := ba (List.all_eq_true.mp h2 p hp)
    refine ⟨h3, ?_⟩
    cases q : h.get? (cT (frT h.get? as) p).2 with
    | none =>
      rw [q] at h4
      cases h4
    | some o =>
      rw [q] at h4
      exact ⟨o, rfl, h4⟩
  exact ⟨e1, h1, fun p hp => (key p hp).1, fun p hp => by
    obtain ⟨_, o, q, z⟩ := key p hp
    exact frT_none q z, fun p hp => by
    obtain ⟨_, o, q, z⟩ := key p hp
    rw [q, emptyTab_eq z]⟩
theorem saysQ_of {P : Program} {n : Nat} {fa : List Fa} {fn : List DefD} {gs : List GetD} {es : List ErrD} {ys : List Str} {ts : List Tab} {tf : List Defn} {ex : PySem.W.Frag → Bool} {w : World} {h : Heap} (e : obsQ P n fa fn gs es ys ts tf ex h.get? = (valX fn ts w, (true, (gs.map GetD.val, es.map ErrD.val)))) : SaysQ P fa fn gs es ys ts tf ex w h (frT h.get? (asQ h.get? n)) := by
  have e1 : obsT fa fn ts (frT h.get? (asQ h.get? n)) = valT fn ts w := congrArg (fun z : AlQ => z.1.1) e
  have e2 : (ex (frT h.get? (asQ h.get? n)) && tabsB h.get? tf (frT h.get? (asQ h.get? n))) = true := congrArg (fun z : AlQ => z.1.2) e
  have e3 : (gs.all (GetD.ok (frT h.get? (asQ h.get? n))) && es.all (ErrD.ok P (frT h.get? (asQ h.get? n)) ys)) = true := congrArg (fun z : AlQ => z.2.1) e
  obtain ⟨e4, e5⟩ := ba e3
  exact ⟨saysXQ e1 e2, e4, congrArg (fun z : AlQ => z.2.2.1) e, e5, congrArg (fun z : AlQ => z.2.2.2) e⟩
def hookQ (P : Program) (n : Nat) (fa : List Fa) (fn : List DefD) (gs : List GetD) (es : List ErrD) (ys : List Str) (ts : List Tab) (tf : List Defn) (ex : PySem.W.Frag → Bool) : PySem.W.Hook where
  α := AlQ
  obs := fun s => obsQ P n fa fn gs es ys ts tf ex s.heap.get?
  val := fun w => (valX fn ts w, (true, (gs.map GetD.val, es.map ErrD.val)))
  says := fun w h => ∃ K : PySem.W.Frag, K.In h ∧ SaysQ P fa fn gs es ys ts tf ex w h K
  of := fun _ _ e => ⟨_, frT_in, saysQ_of e⟩
  keeps := fun _ _ _ ⟨K, hK, c⟩ k => ⟨K, PySem.W.Frag.In.keeps hK k, ⟨⟨c.x.t, c.x.more, c.x.hd, c.x.out, fun p hp => k _ _ (c.x.empty p hp)⟩, c.ok, c.seen, c.eok, c.eseen⟩⟩
theorem obsQ_eq {P : Program} {n : Nat} {fa : List Fa} {fn : List DefD} {gs : List GetD} {es : List ErrD} {ys : List Str} {ts : List Tab} {tf : List Defn} {ex : PySem.W.Frag → Bool} {g : Addr → Option Obj} {s : Shared} (h : ∀ a, g a = s.heap.get? a) : obsQ P n fa fn gs es ys ts tf ex g = (hookQ P n fa fn gs es ys ts tf ex).obs s := by
  have e : g = s.heap.get? := funext h
  rw [e] <;> rfl
section
variable {P : Program} {fa : List Fa} {fn : List DefD} {gs : List GetD} {es : List ErrD} {ys : List Str} {ts : List Tab} {tf : List Defn} {ex : PySem.W.Frag → Bool} {w : World} {h : Heap} {K : PySem.W.Frag}
theorem SaysQ.get (c : SaysQ P fa fn gs es ys ts tf ex w h K) {d : GetD} (hd : d ∈ gs) :
    PropOf K (ga K d.cls) d.fld (prA K d.cls d.fld) (prG K d.cls d.fld) ∧ ∃ fd, FunD K d.name d.qual d.params d.body d.scope [] [] (prG K d.cls d.fld) fd := by
  obtain ⟨i, hi, e⟩ := List.mem_iff_getElem.mp hd
  have e1 := congrArg (fun l : List FnW => l[i]?) c.seen
  have e2 : gs[i]? = some d := by rw [List.getElem?_eq_getElem hi, e]
  simp only [List.getElem?_map, e2, Option.map_some, Option.some.injEq] at e1
  exact GetD.funD e1 (List.all_eq_true.mp c.ok d hd)
theorem SaysQ.err {mg : Str → Option Value} (c : SaysQ P fa fn gs es ys ts tf ex w h K) (X : K.In h) (G : h.Ns mainGlobals mg) {d : ErrD} (hd : d ∈ es) (F : ErrF d) : ErrX.ErrT P K mg d.name d.fld (ga K d.name) ∧ ErrS K ys d.name := by
  obtain ⟨i, hi, e⟩ := List.mem_iff_getElem.mp hd
  have e1 := congrArg (fun l : List FnE => l[i]?) c.eseen
  have e2 : es[i]? = some d := by rw [List.getElem?_eq_getElem hi, e]
  simp only [List.getElem?_map, e2, Option.map_some, Option.some.injEq] at e1
  exact ErrD.errT X G F e1 (List.all_eq_true.mp c.eok d hd)
theorem SaysQ.tabd (c : SaysQ P fa fn gs es ys ts tf ex w h K) {t : Tab} (ht : t ∈ ts) : ∃ es n, KDict K w (t.1 K) es n := by
  obtain ⟨i, hi, e⟩ := List.mem_iff_getElem.mp ht
  exact c.x.t.tab i (by rw [List.getElem?_eq_getElem hi, e])
end
end RD

/-! own layer: further rules (behind EXC) -/
namespace RD
open PySem PySem.Spec PyProof.Rows L2 He
section
variable {X : Cx}
/-- l.remove(x) of a list of data: the first item that is == x goes -/
def rRemD (K : PySem.W.Frag) : V → List V → Hp → VK → Prop := fun x vs H Q => ∃ (l : Addr) (xs : List V) (y : V) (d : PyData) (ds : List PyData) (j : Nat), x = .ref l ∧ vs = [y] ∧ H l = some (.lst xs) ∧ DpAll K H xs ds ∧ Dp K H y d ∧
  PyData.plainAll ds = true ∧ d.plain = true ∧ d.depth ≤ 60 ∧ PySem.SeqAt.dataPlace ds d = some j ∧ Q .non (upd H l (.lst (xs.eraseIdx j)))
theorem mt_remD (hu : X.A.units + 65 < cLine) : MtM X "list.remove" (rRemD X.K) := by
  intro pins s σ H x xs v us Q I rx rxs h
  obtain ⟨l, vs, y, d, ds, j, rfl, rfl, hH, hda, hy, pl, pd, dep, hp, q⟩ := h
  cases rx
  obtain ⟨u, rfl, ru⟩ := rxs.one
  obtain ⟨z, its, n, r, hl, e⟩ := I.lstM hH
  obtain ⟨bs, r1⟩ := Dp.reads I d y u hy ru
  obtain ⟨as, h4⟩ := Dp.readsAll I ds _ its hda r
  have hn : its.length = ds.length := SeqAt.ReadsAll.length ds its as h4
  refine PySem.SeqAt.remove_list_data (vs := its.toArray) ⟨_, e, rfl, n, rfl⟩ (show ReadsAll s.heap its.toArray.toList ds as from h4) r1 pl pd (by omega) hp (by rw [List.size_toArray]; omega) ?_
  have rr := r.eraseIdx j
  refine ⟨.non, _, I.lset (its' := its.eraseIdx j) (t' := s.toks) hH e ?_ rr ?_, rfl, q⟩
  · show its.toArray.eraseIdxIfInBounds j = (its.eraseIdx j).toArray
    rw [List.eraseIdxIfInBounds_toArray]
  · have z2 : (vs.eraseIdx j).length ≤ vs.length := List.length_eraseIdx_le vs j
    omega
end
def rIsNB : R2 := fun x y H Q => ∃ a b, x = .bl a ∧ y = .bl b ∧ Q (.bl (!decide (a = b))) H
theorem op_isNB {X : Cx} : OpR X (compareOp .IsNot) rIsNB := by
  intro pins s σ H x y v u Q I rx ry h
  obtain ⟨a, b, rfl, rfl, q⟩ := h
  cases rx
  cases ry
  refine wpAny_of_eq (show compareOp .IsNot (.bool a) (.bool b) = pure (.bool (!decide (a = b))) from ?_) ⟨.bl _, H, I, rfl, q⟩
  cases a <;> cases b <;> rfl
def rIsB' : R2 := fun x y H Q => ∃ a b, x = .bl a ∧ y = .bl b ∧ Q (.bl (decide (a = b))) H
theorem op_isB {X : Cx} : OpR X (compareOp .Is) rIsB' := by
  intro pins s σ H x y v u Q I rx ry h
  obtain ⟨a, b, rfl, rfl, q⟩ := h
  cases rx
  cases ry
  refine wpAny_of_eq (show compareOp .Is (.bool a) (.bool b) = pure (.bool (decide (a = b))) from ?_) ⟨.bl _, H, I, rfl, q⟩
  cases a <;> cases b <;> rfl
theorem rd_isNB {a b : Bool} {H : Hp} {Q : VK} (q : Q (.bl (!decide (a = b))) H) : rIsNB (.bl a) (.bl b) H Q := ⟨a, b, rfl, rfl, q⟩
theorem rd_isB {a b : Bool} {H : Hp} {Q : VK} (q : Q (.bl (decide (a = b))) H) : rIsB' (.bl a) (.bl b) H Q := ⟨a, b, rfl, rfl, q⟩
end RD
theorem _root_.L2.Room.units65 {k : Nat} {A : PySem.Around} (r : L2.Room k A) : A.units + 65 < PySem.cLine := by
  have := r.un
  omega

namespace L2
open PySem PySem.Spec PyProof.Rows GenW

section
variable {M : Model} {A : Around} {R : GenEnd} {Y : Protocol} {n : Nat} {s₀ : Shared} {c : Code} {fs : List Frame} {s : Shared} {env : Env}
  {K : Flow → Sem PySem.Fin} {J : Value → Sem PySem.Fin} {gd : Bool → Bool} {lv : List Value → List Value}
theorem seg_For {tg iter : Expr} {body : List Stmt} {pos : Pos}
    (h : wpAny M (A.over c fs) (eval iter env) (fun x s₁ => wpAny M (A.over c fs) (pyIter x) (fun it s₂ => ∀ p, Seg M A R Y n s₀ (.forLoop tg it body [] env) (M.den (.forLoop tg it body [] env))
      (.ret (fun r => ((match r with | .ok f => (.pure f : Sem Flow) | .error e => .raise e).onRaise (cameBack env)).wrap K J gd lv) none (gd false) (lv []) c p [] :: fs) s₂) (fun x s' => Seg M A R Y n s₀ c (J x) fs s') s₁) (fun x s' => Seg M A R Y n s₀ c (J x) fs s') s)
    (hs : ∀ x, foldedSetIterable iter env x = pure x) :
    Seg M A R Y n s₀ c ((exec (.For tg iter body [] pos) env).wrap K J gd lv) fs s := by
  rw [exec_For]
  refine seg_bind_wrap (wpAny_standAt ?_)
  refine seg_bind_wrap (wpAny_mono h (fun x s₁ h₁ => ?_) fun _ _ h' => h')
  refine seg_bind_wrap (wpAny_of_eq (hs x) ?_)
  refine seg_bind_wrap (wpAny_standAt ?_)
  refine seg_bind_wrap (wpAny_holding (wpAny_mono h₁ (fun it s₂ h₂ => ?_) fun _ _ h' => h'))
  exact seg_call h₂
end
section
variable {prog : Program} {w : World} {A : Around} {R : GenEnd} {Y : Protocol} {n : Nat} {s₀ : Shared} {fs : List Frame} {s : Shared} {env : Env}
theorem seg_forLoop {tg : Expr} {it : Value} {body : List Stmt}
    (h : wpAny (model prog w) (A.over (.forLoop tg it body [] env) fs) (pyNext it) (fun r s₁ => match r with
      | none => Seg (model prog w) A R Y n s₀ (.forLoop tg it body [] env) (.pure (.again (.block [] env))) fs s₁
      | some v => wpAny (model prog w) (A.over (.forLoop tg it body [] env) fs) (letOwnedTupleGo tg it v) (fun _ s₂ => wpAny (model prog w) (A.over (.forLoop tg it body [] env) fs) (assign tg env v) (fun _ s₃ =>
          Seg (model prog w) A R Y n s₀ (.forLoop tg it body [] env) ((execs body env).wrap (fun f => match f with
            | .next | .cont => .pure (.again (.forLoop tg it body [] env))
            | .brk => .pure (.done .next)
            | .ret v => .pure (.done (.ret v))) (fun e => (do noteFrame e env; theTreesLotGoes e : Sem Unit).wrap (fun _ => .raise e) .raise id id) id id) fs s₃)
          (fun x s' => Seg (model prog w) A R Y n s₀ (.forLoop tg it body [] env) ((do noteFrame x env; theTreesLotGoes x : Sem Unit).wrap (fun _ => .raise x) .raise id id) fs s') s₂)
        (fun x s' => Seg (model prog w) A R Y n s₀ (.forLoop tg it body [] env) ((do noteFrame x env; theTreesLotGoes x : Sem Unit).wrap (fun _ => .raise x) .raise id id) fs s') s₁)
      (fun x s' => Seg (model prog w) A R Y n s₀ (.forLoop tg it body [] env) ((do noteFrame x env; theTreesLotGoes x : Sem Unit).wrap (fun _ => .raise x) .raise id id) fs s') s) :
    Seg (model prog w) A R Y n s₀ (.forLoop tg it body [] env) ((model prog w).den (.forLoop tg it body [] env)) fs s := by
  have ex : ∀ e : Value, ((do noteFrame e env; theTreesLotGoes e : Sem Unit) >>= fun _ => (Sem.raise e : Sem PySem.Fin)) = (do noteFrame e env; theTreesLotGoes e : Sem Unit).wrap (fun _ => .raise e) .raise id id := fun e => Sem.bind_eq_wrap _ _
  show Seg _ A R Y n s₀ _ ((forTurn tg it body [] env).onRaise (fun x => do noteFrame x env; theTreesLotGoes x)) fs s
  unfold forTurn
  rw [Sem.onRaise_eq_wrap]
  refine seg_bind_wrap (wpAny_standAt ?_)
  refine seg_bind_wrap (wpAny_onRaise (wpAny_mono h (fun r s₁ h₁ => ?_) fun x s' hx => wpAny_standAt ?_))
  · cases r with
    | none => exact h₁
    | some v =>
      refine seg_bind_wrap (wpAny_mono h₁ (fun _ s₂ h₂ => ?_) fun x s' hx => ?_)
      · refine seg_bind_wrap (wpAny_mono h₂ (fun _ s₃ h₃ => ?_) fun x s' hx => ?_)
        · rw [Sem.bind_eq_wrap', Sem.wrap_wrap]
          refine Eq.mp (congrArg (fun t => Seg _ A R Y n s₀ _ t fs s₃) (Sem.wrap_congr (execs body env) _ _ (fun f => ?_) (fun e => ?_)).symm) h₃
          · cases f <;> rfl
          · exact ex e
        · rw [← ex] at hx
          exact hx
      · rw [← ex] at hx
        exact hx
  · rw [← ex] at hx
    exact hx
end
/-- W: the invariant by the turn, a measure and what is out; N: what the body is to reach -/
def tGFor (wi : TI) (g : TG) (tb : TGn) : TGn := fun D ys σ H => wi σ H fun J H1 => ∃ W : Nat → Nat → List V → St → Hp → Prop, (∃ m, W 0 m ys σ H1) ∧ ∀ i m ys σ H, W i m ys σ H →
  (J.stop i H ∧ D.nx ys σ H) ∨ (J.go i H ∧ ∃ N : List V → St → Hp → Prop, (∀ ys' σ' H', N ys' σ' H' → ∃ m', m' < m ∧ W (i + 1) m' ys' σ' H') ∧ ∀ x H', J.yld i H x H' → g x σ H' fun σ2 H2 => tb { D with nx := N, ct := N, bk := D.nx } ys σ2 H2)
section
variable {X : Cx}
theorem gs_for {tg iter : Expr} {body : List Stmt} {wi : TI} {g : TG} {tb : TGn} {pos : Pos} (hp : PassesOwn (model X.prog X.w) X.A X.env X.xe) (hc : X.calm = true) (hi : PI X tg iter wi) (hg : PG X tg g) (hb : GSs X body tb)
    (hs : ∀ x, foldedSetIterable iter X.env x = pure x := by intro _; rfl) : GS X (.For tg iter body [] pos) (tGFor wi g tb) := by
  refine ⟨fun A S ip R n ys s₀ c fs K J gd lv s σ H D g0 hn k hI ht => ?_⟩
  obtain ⟨acc, cc, r, I⟩ := hI
  refine seg_For ?_ hs
  rw [g0.over]
  refine wpAny_mono (hi.run _ s σ H _ I ht) (fun v s1 h1 => wpAny_mono h1 (fun itv s2 h2 p => ?_) fun x s' hx => k.exc n s₀ x s' hx) fun x s' hx => k.exc n s₀ x s' hx
  obtain ⟨it, fp, tn, Jt, H2, e, I2, T, st2, f2, W, ⟨m0, w0⟩, turn⟩ := h2
  subst e
  have gl := fun (kk : Result → Sem PySem.Fin) => gc_loop (k := kk) (c' := .forLoop tg (.ref it) body [] X.env) (l := lv []) (kp := []) (p := p) g0 rfl rfl
  have fS : S ∉ fp := fun hS => (f2 S hS).2.2.2.2.2 (S, lstObj acc cc) (List.mem_append_right _ List.mem_cons_self) rfl
  have fip : ∀ b ∈ fp, ∀ q ∈ ip, q.1 ≠ b := fun b hb q hq => (f2 b hb).2.2.2.2.2 q (List.mem_append_right _ (List.mem_cons_of_mem _ hq))
  have stat : ∀ {H' : Hp} {acc' : Array Value} {c' : Nat}, (∀ b ∈ fp, H' b = none) → ∀ b ∈ fp, FpOk X ((S, lstObj acc' c') :: ip) H' b := fun hn b hb => by
    obtain ⟨q1, q2, q3, q4, q5, q6⟩ := f2 b hb
    refine ⟨hn b hb, q2, q3, q4, q5, fun q hq => ?_⟩
    rcases List.mem_append.mp hq with hq | hq
    · exact q6 q (List.mem_append_left _ hq)
    · rcases List.mem_cons.mp hq with rfl | hq
      · exact fun z => fS (by rw [show S = b from z]; exact hb)
      · exact q6 q (List.mem_append_right _ (List.mem_cons_of_mem _ hq))
  have loop : ∀ (m i n : Nat) (ys : List V) (s₀ s : Shared) (σ : St) (H : Hp), n + ys.length = sizeLine → W i m ys σ H → tn i s.heap → (∀ b ∈ fp, H b = none) → GI X S ip ys σ H s →
      Seg (model X.prog X.w) A R (GY X S) n s₀ (.forLoop tg (.ref it) body [] X.env) ((model X.prog X.w).den (.forLoop tg (.ref it) body [] X.env))
        (.ret (fun r => ((match r with | .ok f => (.pure f : Sem Flow) | .error e => .raise e).onRaise (cameBack X.env)).wrap K J gd lv) none (gd false) (lv []) c p [] :: fs) s := by
    intro m
    induction m using Nat.strongRecOn with
    | ind m ih =>
      intro i n ys s₀ s σ H hn w htn hfp hI
      have ee : ∀ (n : Nat) (s₀ : Shared) (x : Value) (s' : Shared), X.xe x s' → Seg (model X.prog X.w) A R (GY X S) n s₀ (.forLoop tg (.ref it) body [] X.env)
          ((do noteFrame x X.env; theTreesLotGoes x : Sem Unit).wrap (fun _ => .raise x) .raise id id)
          (.ret (fun r => ((match r with | .ok f => (.pure f : Sem Flow) | .error e => .raise e).onRaise (cameBack X.env)).wrap K J gd lv) none (gd false) (lv []) c p [] :: fs) s' := fun n s₀ x s' hx => by
        refine seg_wrap ?_
        rw [(gl _).over]
        refine wpAny_bind (wpAny_mono (hp x s' hx) (fun _ s'' hcb => wpAny_theTreesLotGoes ?_) fun y s'' hcb => ?_)
        · exact seg_leaf (.error x) (seg_cameBack g0 k hcb)
        · exact seg_leaf (.error y) (seg_cameBack g0 k hcb)
      refine seg_forLoop ?_
      rw [(gl _).over]
      obtain ⟨acc, cc, r, I⟩ := hI
      rcases turn i m ys σ H w with ⟨stop, qn⟩ | ⟨go, N, hN, step⟩
      · refine wpAny_mono (T.done X rfl rfl rfl hc i _ s σ H X.xe I (stat hfp) htn stop) (fun r' s4 h4 => ?_) fun x s' hx => ee n s₀ x s' hx
        obtain ⟨rfl, I4⟩ := h4
        refine seg_again rfl ?_
        exact seg_leaf (.ok .next) (k.ok n ys s₀ s4 .next hn ⟨σ, H, ⟨acc, cc, r, I4⟩, qn⟩)
      · refine wpAny_mono (T.item X rfl rfl rfl hc i _ s σ H X.xe I (stat hfp) htn go) (fun r' s4 h4 => ?_) fun x s' hx => ee n s₀ x s' hx
        obtain ⟨u, rfl, h4⟩ := h4
        refine wpAny_mono h4 (fun _ s5 h5 => ?_) fun x s' hx => ee n s₀ x s' hx
        obtain ⟨x, H5, I5, r5, y5, st5, fr5⟩ := h5
        have I5' := I5.pinned (stat fr5) (T.obj _ _ st5)
        refine wpAny_mono (hg.run _ s5 σ H5 x u _ I5' r5 (step x H5 y5)) (fun _ s6 h6 => ?_) fun x s' hx => ee n s₀ x s' hx
        obtain ⟨σ6, H6, I6, q6⟩ := h6
        have gl6 : GC X S (ip ++ pinsAt fp s5.heap) A (.forLoop tg (.ref it) body [] X.env) (.ret (fun r => ((match r with | .ok f => (.pure f : Sem Flow) | .error e => .raise e).onRaise (cameBack X.env)).wrap K J gd lv) none (gd false) (lv []) c p [] :: fs) id := by
          obtain ⟨a1, a2, a3, a4, a5, a6, a7⟩ := gl (fun r => ((match r with | .ok f => (.pure f : Sem Flow) | .error e => .raise e).onRaise (cameBack X.env)).wrap K J gd lv)
          refine ⟨a1, fun q hq => ?_, a3, a4, a5, a6, a7⟩
          rcases List.mem_append.mp hq with hq | hq
          · exact a2 q hq
          · exact fun z => fS (by rw [← z]; exact (of_pinsAt hq).1)
        have back : ∀ {ys' : List V} {σ7 : St} {H7 : Hp} {s7 : Shared}, GI X S (ip ++ pinsAt fp s5.heap) ys' σ7 H7 s7 → GI X S ip ys' σ7 H7 s7 := fun {ys' σ7 H7 s7} h => by
          obtain ⟨acc7, c7, r7, I7⟩ := h
          exact ⟨acc7, c7, r7, Inv.unpinned (pl := pinsAt fp s5.heap) I7⟩
        refine hb.run A S (ip ++ pinsAt fp s5.heap) R n ys s₀ _ _ _ _ id id s6 σ6 H6 { D with nx := N, ct := N, bk := D.nx } gl6 hn ⟨fun n' ys' s₀' s7 f hn' hs => ?_, fun n' s₀' x s7 hx => ee n' s₀' x s7 hx⟩ ⟨acc, cc, r, I6⟩ q6
        have again : ∀ {σ7 : St} {H7 : Hp}, GI X S (ip ++ pinsAt fp s5.heap) ys' σ7 H7 s7 → N ys' σ7 H7 → Seg (model X.prog X.w) A R (GY X S) n' s₀' (.forLoop tg (.ref it) body [] X.env) ((model X.prog X.w).den (.forLoop tg (.ref it) body [] X.env))
            (.ret (fun r => ((match r with | .ok f => (.pure f : Sem Flow) | .error e => .raise e).onRaise (cameBack X.env)).wrap K J gd lv) none (gd false) (lv []) c p [] :: fs) s7 := fun {σ7 H7} I7 n7 => by
          obtain ⟨m', hm, w7⟩ := hN ys' σ7 H7 n7
          have I8 := I7
          obtain ⟨acc7, c7, r7, I7⟩ := I7
          have pin7 := fun b hb o e => I7.pin (b, o) (List.mem_append_right _ (List.mem_cons_of_mem _ (List.mem_append_right _ (mem_pinsAt (fp := fp) (h := s5.heap) hb e))))
          refine ih m' hm (i + 1) n' ys' s₀' s7 σ7 H7 hn' w7 (T.keep _ _ _ st5 fun b hb o e => (pin7 b hb o e).1) (fun b hb => ?_) (back I8)
          obtain ⟨o, e, d⟩ := T.obj _ _ st5 b hb
          exact (pin7 b hb o e).2.1
        cases f with
        | next => obtain ⟨σ7, H7, I7, n7⟩ := hs; exact seg_again rfl (again I7 n7)
        | cont => obtain ⟨σ7, H7, I7, n7⟩ := hs; exact seg_again rfl (again I7 n7)
        | brk => obtain ⟨σ7, H7, I7, q7⟩ := hs; exact seg_leaf (.ok .next) (k.ok n' ys' s₀' s7 .next hn' ⟨σ7, H7, back I7, q7⟩)
        | ret v => obtain ⟨x7, σ7, H7, I7, r7, q7⟩ := hs; exact seg_leaf (.ok (.ret v)) (k.ok n' ys' s₀' s7 (.ret v) hn' ⟨x7, σ7, H7, back I7, r7, q7⟩)
  exact loop m0 0 n ys s₀ s2 σ H2 hn w0 st2 (fun b hb => (f2 b hb).1) ⟨acc, cc, r, I2⟩
end
end L2

/-! ### ranges of any size -/
namespace L2
open PySem PySem.Spec PyProof.Rows
theorem turn_long {P : Program} {w : World} {K : PySem.W.Frag} {tg : Expr} (it : Addr) (lo : Int) (n : Nat) : Turn P w K tg (Itr lo n) [it] it (fun i h => IsLongIter h it (lo + (i : Nat) * 1) ((n : Int) - (i : Nat)) 1) where
  mem := by simp
  obj := fun i h st b hb => by
    have e : b = it := by simpa using hb
    subst e
    exact ⟨_, st, fun v z => by
      have z' : Data.fields _ = Data.cell v := z
      cases z'⟩
  keep := fun i h h' st k => k it (by simp) _ st
  item := by
    intro X hP hw hK hc i pins s σ H E I hf st hg
    subst hP hw hK
    obtain ⟨f0, f1, f2, f3, f4, f5⟩ := hf it (by simp)
    have W := Walks.longrange (prog := X.prog) (w := X.w) (I.ok.hd hc) it lo 1 n
    refine W.item i s _ _ hg st fun v h' tk hv st' kk => ?_
    obtain ⟨t, rfl⟩ := hv
    have I1 : Inv X pins σ H { s with heap := h', toks := tk } := I.turned (fun b o hb e => kk b o (by simpa using hb) e) f0 f1 f3 f4 f5
    refine ⟨_, rfl, go_of (s := { s with heap := h', toks := tk }) (n := "longrange_iterator") st' rfl rfl (by decide) ⟨.int (lo + i), H, I1, ⟨t, ?_⟩, ⟨rfl, rfl⟩, st', fun b hb => (hf b hb).1⟩⟩
    rw [Int.mul_one]
  done := by
    intro X hP hw hK hc i pins s σ H E I hf st hg
    subst hP hw hK
    obtain ⟨f0, f1, f2, f3, f4, f5⟩ := hf it (by simp)
    exact wpAny_pyNext_long_end (I.ok.hd hc) st (by have : n ≤ i := hg; omega) fun h' eb => ⟨rfl, I.turned (t' := s.toks) (fun b o hb e => eb b o hb e) f0 f1 f3 f4 f5⟩
  self := fun _ _ _ _ _ st h => wpAny_pyIter_longiter st h
section
variable {X : Cx} {tg : Expr}
theorem range_itB {pins : List (Addr × Obj)} {σ : St} {H : Hp} {s : Shared} {R : It → Hp → Prop} {E : Value → Shared → Prop} {lo hi : Int} {t u v : Tok} {tk : Nat} (I : Inv X pins σ H s)
    (q : R (Itr lo (hi - lo).toNat) H) : wpAny (model X.prog X.w) X.A (pyIter (.ref s.heap.objs.size)) (PIE X pins σ tg R) E { s with heap := s.heap.push { cls := .type "range", data := .fields #[.int lo t, .int hi u, .int 1 v] }, toks := tk } := by
  have e1 : lo + ((0 : Nat) : Int) * 1 = lo := by simp
  have e2 : (((hi - lo).toNat : Nat) : Int) - ((0 : Nat) : Int) = Builtin.Range.rangeSize lo hi 1 := by rw [rangeSize_one]; split <;> omega
  have I1 : Inv X pins σ H { s with heap := s.heap.push { cls := .type "range", data := .fields #[.int lo t, .int hi u, .int 1 v] }, toks := tk } := I.kept fun b o e => Heap.get?_push_of_some _ e
  cases hs : Builtin.Range.small lo hi 1 with
  | true =>
    refine wpAny_pyIter_range (IsRange.new ..) hs ?_
    refine ⟨(s.heap.push { cls := .type "range", data := .fields #[.int lo t, .int hi u, .int 1 v] }).objs.size, [(s.heap.push { cls := .type "range", data := .fields #[.int lo t, .int hi u, .int 1 v] }).objs.size], _, _, H, rfl,
      I1.kept (t' := tk) fun b o e => Heap.get?_push_of_some _ e, turn_range _ lo (hi - lo).toNat, ?_, fun b hb => ?_, q⟩
    · show IsRangeIter _ _ (lo + ((0 : Nat) : Int) * 1) ((((hi - lo).toNat : Nat) : Int) - ((0 : Nat) : Int)) 1
      rw [e1, e2]
      exact Heap.get?_push_size _ rfl
    · have e : b = (s.heap.push { cls := .type "range", data := .fields #[.int lo t, .int hi u, .int 1 v] }).objs.size := by simpa using hb
      subst e
      exact I1.fpOk (Nat.le_refl _) (I1.hok.fresh (Nat.le_refl _))
  | false =>
    refine wpAny_pyIter_longrange (IsRange.new ..) hs ?_
    refine ⟨(s.heap.push { cls := .type "range", data := .fields #[.int lo t, .int hi u, .int 1 v] }).objs.size, [(s.heap.push { cls := .type "range", data := .fields #[.int lo t, .int hi u, .int 1 v] }).objs.size], _, _, H, rfl,
      I1.kept (t' := tk) fun b o e => Heap.get?_push_of_some _ e, turn_long _ lo (hi - lo).toNat, ?_, fun b hb => ?_, q⟩
    · show IsLongIter _ _ (lo + ((0 : Nat) : Int) * 1) ((((hi - lo).toNat : Nat) : Int) - ((0 : Nat) : Int)) 1
      rw [e1, e2]
      exact Heap.get?_push_size _ rfl
    · have e : b = (s.heap.push { cls := .type "range", data := .fields #[.int lo t, .int hi u, .int 1 v] }).objs.size := by simpa using hb
      subst e
      exact I1.fpOk (Nat.le_refl _) (I1.hok.fresh (Nat.le_refl _))
def iRng2B (ta : TA) : TI := fun σ H R => ta σ H fun vs H1 => ∃ i j : Int, vs = [.int i, .int j] ∧ R (Itr i (j - i).toNat) H1
theorem pi_range2B {a b : Expr} {ta : TA} {p pos : Pos} (hg : Gl X "range") (hm : X.mg "range" = none) (ha : PA X [a, b] ta) (hs : starEach [a, b] X.env = [(false, eval a X.env), (false, eval b X.env)] := by rfl) (hs2 : starEach [b] X.env = [(false, eval b X.env)] := by rfl) :
    PI X tg (.Call (.Name "range" p) [a, b] [] pos) (iRng2B ta) := by
  refine ⟨fun pins s σ H R I h => ?_⟩
  refine Call_ (ld_blt I hg hm boot_range (PyProof.Rows.callWith_type1 (thn (ha.run pos pins s σ H _ I h) fun us s1 ⟨vs, H1, I1, r1, q1⟩ => ?_) (by rw [hs, hs2]) (by rw [hs2]; rfl)))
  obtain ⟨i, j, e, q⟩ := q1
  subst e
  cases r1 with
  | cons r rr =>
    cases rr with
    | cons r' rr =>
      cases rr
      obtain ⟨t, rfl⟩ := r
      obtain ⟨t', rfl⟩ := r'
      exact call_range_2 (range_itB I1 q)
end
end L2

namespace RD
open PySem PySem.Spec PyProof.Rows L2 C8 GenW
section
variable {P : Program} {w : World} {K : PySem.W.Frag} {mg : Str → Option Value} {base : Heap} {x qual : Str} {scope : Scope} {params : Arguments} {body : List Stmt} {f : Addr} {fd : FuncData} {dvs : List V} {kws : List (Str × V)}
/-- a generator def's promise from its body -/
theorem fnGD {N ps : List Str} {k : Nat} {sp : SpG} (F : FunD K x qual params body scope dvs kws f fd) (S : GScope N ps scope) (len : ∀ vs H Q E, sp vs H Q E → vs.length = ps.length)
    (hbody : ∀ (cdv : Value) (A : Around) (outer : List Env) (s : Shared) (H : Hp) (vs : List V) (Q : List V → Hp → Prop) (E : XK) (pn : List (Addr × Obj)), Room k (A.deeper (envOfC qual scope s.heap.objs.size f cdv)) → sp vs H Q E →
      ∃ t, GSs (gcxOf P w K mg base N qual scope f cdv A outer s H E pn) body t ∧ t ⟨fun ys _ H' => Q ys H', fun ys v H' => v = .non ∧ Q ys H', fun _ _ _ => False, fun _ _ _ => False⟩ [] (start N vs) H) : GFn P w K mg base (k + 1) f fd ps sp := by
  obtain ⟨oc, od, dV, kV, doc, pm, an, cdv, ct, osl, rfl, lk, hcd, _, _⟩ := F.ex
  exact gfn_of lk hcd S len fun A outer s H vs Q E pn hr hsp => hbody cdv A outer s H vs Q E pn hr hsp
structure GalX (P : Program) (w : World) (K : PySem.W.Frag) (mg : Str → Option Value) (base : Heap) (k : Nat) (x : Str) (sp : SpG) (dvs : List V) : Prop where
  ex : ∃ (f : Addr) (fd : FuncData) (ps : List Str) (ds : List Value), GFn P w K mg base k f fd ps sp ∧ mg x = some (.ref f) ∧ PySem.W.keepIn K (.ref f) = true ∧ Binds K fd ps ds ∧ Vals dvs ds
end
theorem passG {P : Program} {w : World} {X : Cx} : Passes (CX P w) X C8.E0 := fun _ _ _ _ _ _ _ c => by
  obtain ⟨_, _, _, _, _, _, _, _, _, _, _, _, h⟩ := c
  exact h.elim
section
variable {X : Cx} {k j : Nat} {x : Str} {sp : SpG} {dvs : List V} {e : Expr} {es : List Expr} {t : TA} {p p2 pos pos2 : Pos}
theorem pe_listGal (c : GalX X.prog X.w X.K X.mg X.base k x sp dvs) (hr : Room j X.A) (hk : k + 3 ≤ j) (hg : Gl X x) (hgl : Gl X "list") (hml : X.mg "list" = none) (ha : PA X (e :: es) t)
    (hdb : (x == ("__debug__" : Str)) = false := by decide) (he : starEach (e :: es) X.env = (false, eval e X.env) :: starEach es X.env := by rfl) (hpl : (backTo pos2 (starEach es X.env)).any (·.1) = false := by rfl)
    (he2 : starEach [Expr.Call (.Name x p2) (e :: es) [] pos2] X.env = (false, eval (.Call (.Name x p2) (e :: es) [] pos2) X.env) :: starEach [] X.env := by rfl) :
    PE X (.Call (.Name "list" p) [.Call (.Name x p2) (e :: es) [] pos2] [] pos) (tListG (tCallG sp dvs C8.E0 t)) := by
  obtain ⟨f, fd, ps, ds, F, hm, kp, b, d⟩ := c.ex
  exact pe_listG (k := k) (pgen_call F (hr.mono (by omega)) hg hm kp b d ha hdb he hpl) passG (fun _ _ _ h => h.elim) (hr.mono hk) hgl hml (by decide +kernel) (by decide) (by decide) he2
end
section
variable {K : PySem.W.Frag} {σ : L2.St} {H : Hp} {nx : List V → L2.St → Hp → Prop} {rt : List V → VK} {bk ct : List V → L2.St → Hp → Prop} {ys : List V}
theorem rd_gthen {t u : TGn} (h : t ⟨fun ys' σ' H' => u ⟨nx, rt, bk, ct⟩ ys' σ' H', rt, bk, ct⟩ ys σ H) : tGThen t u ⟨nx, rt, bk, ct⟩ ys σ H := h
theorem rd_gplain {t : TS} (h : t ⟨fun σ H => nx ys σ H, fun v H => rt ys v H, fun σ H => bk ys σ H, fun σ H => ct ys σ H⟩ σ H) : tPlain t ⟨nx, rt, bk, ct⟩ ys σ H := h
theorem rd_gend (h : nx ys σ H) : tG0 ⟨nx, rt, bk, ct⟩ ys σ H := h
theorem rd_gyield {te : TE} (hl : ys.length < sizeLine) (h : te σ H fun x H1 => nx (ys ++ [x]) σ H1) : tGYield te ⟨nx, rt, bk, ct⟩ ys σ H := ⟨hl, h⟩
def GForG (J : It) (g : TG) (t : TGn) (D : GEnds) (ys : List V) (σ : L2.St) (H1 : Hp) : Prop := ∃ W : Nat → Nat → List V → L2.St → Hp → Prop, (∃ m, W 0 m ys σ H1) ∧ ∀ i m ys σ H, W i m ys σ H →
  (J.stop i H ∧ D.nx ys σ H) ∨ (J.go i H ∧ ∃ N : List V → L2.St → Hp → Prop, (∀ ys' σ' H', N ys' σ' H' → ∃ m', m' < m ∧ W (i + 1) m' ys' σ' H') ∧ ∀ x H', J.yld i H x H' → g x σ H' fun σ2 H2 => t { D with nx := N, ct := N, bk := D.nx } ys σ2 H2)
theorem rd_gfor {wi : TI} {g : TG} {t : TGn} {D : GEnds} (h : wi σ H fun J H1 => GForG J g t D ys σ H1) : tGFor wi g t D ys σ H := h
theorem gforR_by {lo : Int} {n : Nat} {g : TG} {t : TGn} (Pv : Nat → List V → L2.St → Hp → Prop) (h0 : Pv 0 ys σ H)
    (hs : ∀ (i : Nat) ys σ H, i < n → Pv i ys σ H → g (.int (lo + i)) σ H fun σ2 H2 => t ⟨Pv (i + 1), rt, nx, Pv (i + 1)⟩ ys σ2 H2) (hd : ∀ ys σ H, Pv n ys σ H → nx ys σ H) : GForG (Itr lo n) g t ⟨nx, rt, bk, ct⟩ ys σ H := by
  refine ⟨fun i m ys σ H => m = n - i ∧ i ≤ n ∧ Pv i ys σ H, ⟨n, by simp, Nat.zero_le _, h0⟩, ?_⟩
  rintro i m ys σ H ⟨rfl, hi, p⟩
  by_cases hlt : i < n
  · refine .inr ⟨hlt, Pv (i + 1), fun ys' σ' H' p' => ⟨n - (i + 1), by omega, rfl, hlt, p'⟩, fun x H' y => ?_⟩
    obtain ⟨e, y⟩ := y
    subst e
    subst y
    exact hs i ys σ _ hlt p
  · have e : i = n := by omega
    subst e
    exact .inl ⟨Nat.le_refl _, hd ys σ H p⟩
end
end RD

namespace RD
open PySem PySem.Spec PyProof.Rows L2 C8 GenW
section
variable {K : PySem.W.Frag} {σ : L2.St} {H : Hp} {Q : VK}
theorem rd_iRng2B {ar : TA} {R : It → Hp → Prop} (h : ar σ H fun vs H1 => ∃ i j : Int, vs = [.int i, .int j] ∧ R (Itr i (j - i).toNat) H1) : iRng2B ar σ H R := h
theorem rd_sortedI {a : Addr} {ns : List Int} (h : H a = some (.lst (ns.map V.int))) (q : ∀ (os : List Int) (p : Addr), os.Perm ns → os.Pairwise (· ≤ ·) → H p = none → Q (.ref p) (upd H p (.lst (os.map V.int)))) : rSortedI K [.ref a] H Q := ⟨a, ns, rfl, SqL.of h, q⟩
theorem rd_listG {tg : TGen} (h : tg σ H fun out H2 => ∀ p, H2 p = none → Q (.ref p) (upd H2 p (.lst out))) : tListG tg σ H Q := h
theorem rd_callG {sp : SpG} {dvs : List V} {E : XK} {t : TA} {c : List V → Hp → Prop} (h : t σ H fun vs H1 => sp (vs ++ dvs) H1 c E) : tCallG sp dvs E t σ H c := h
end
theorem sort_uniq {a b : List Int} (p : a.Perm b) (h1 : a.Pairwise (· ≤ ·)) (h2 : b.Pairwise (· ≤ ·)) : a = b := List.Perm.eq_of_pairwise (fun _ _ _ _ => Int.le_antisymm) h1 h2 p
end RD

/-! ### walks over a dict that stays -/
namespace RD
open PySem PySem.Spec PyProof.Rows L2 C8 GenW
section
variable {K : PySem.W.Frag} {σ : L2.St} {H : Hp} {Q : VK} {nx : L2.St → Hp → Prop} {rt : VK} {bk ct : L2.St → Hp → Prop} {te : TE} {tt : TT} {t : TS}
theorem rd_lockS {d : Addr} {u : HO} (h : H d = some u) (mu : Mut (some u)) (k : ∀ od, t ⟨fun σ' H' => H' d = some (.frz od u) ∧ nx σ' (upd H' d u), fun v H' => H' d = some (.frz od u) ∧ rt v (upd H' d u), fun σ' H' => H' d = some (.frz od u) ∧ bk σ' (upd H' d u), fun σ' H' => H' d = some (.frz od u) ∧ ct σ' (upd H' d u)⟩ σ (upd H d (.frz od u))) : tLock t ⟨nx, rt, bk, ct⟩ σ H := ⟨d, u, h, mu, k⟩
theorem rd_lockE {d : Addr} {u : HO} (h : H d = some u) (mu : Mut (some u)) (k : ∀ od, te σ (upd H d (.frz od u)) fun v H' => H' d = some (.frz od u) ∧ Q v (upd H' d u)) : tLockE te σ H Q := ⟨d, u, h, mu, k⟩
theorem rd_iKeys {td : TE} {R : It → Hp → Prop} (h : td σ H fun x H1 => ∃ d o, x = .ref d ∧ ((∃ kvs, H1 d = some (.frz o (.dK kvs)) ∧ R (Itk d o kvs) H1) ∨ ∃ kvs, H1 d = some (.frz o (.dT kvs)) ∧ R (Itkt d o kvs) H1)) : iKeys td σ H R := h
theorem rd_iKeysX {d : Addr} {o : Obj} {kvs : List (Key × V)} {R : It → Prop} {B : Addr → Obj → Prop} (h : H d = some (.frz o (.dK kvs))) (q : R (Itk d o kvs)) : ∃ d' o', V.ref d = V.ref d' ∧ ((∃ kvs, H d' = some (.frz o' (.dK kvs)) ∧ R (Itk d' o' kvs)) ∨ B d' o') := ⟨d, o, rfl, .inl ⟨kvs, h, q⟩⟩
theorem forD_by {d : Addr} {o : Obj} {g : TG} (xs : List Int) (f : Int → V) (Pv : Nat → L2.St → Hp → Prop) (h0 : Pv 0 σ H) (hl : ∀ i σ H, i ≤ xs.length → Pv i σ H → H d = some (.frz o (.dK (dmap xs f))))
    (hs : ∀ (i : Nat) (h : i < xs.length) σ H, Pv i σ H → g (.int xs[i]) σ H fun σ2 H2 => t ⟨Pv (i + 1), rt, nx, Pv (i + 1)⟩ σ2 H2) (hd : ∀ σ H, Pv xs.length σ H → nx σ H) : ForG (Itk d o (dmap xs f)) g t ⟨nx, rt, bk, ct⟩ σ H := by
  refine ⟨fun i m σ H => m = xs.length - i ∧ i ≤ xs.length ∧ Pv i σ H, ⟨xs.length, by simp, Nat.zero_le _, h0⟩, ?_⟩
  rintro i m σ H ⟨rfl, hi, p⟩
  have q := hl i σ H hi p
  by_cases hlt : i < xs.length
  · refine .inr ⟨⟨q, by rw [dmap_len]; exact hlt⟩, Pv (i + 1), fun σ' H' p' => ⟨xs.length - (i + 1), by omega, rfl, hlt, p'⟩, fun x H' y => ?_⟩
    obtain ⟨e, k, v, h1, h2⟩ := y
    subst e
    have h3 : (dmap xs f)[i]? = some (.inl xs[i], f xs[i]) := by
      unfold dmap
      rw [List.getElem?_map, List.getElem?_eq_getElem hlt]
      rfl
    rw [h3] at h1
    cases h1
    subst h2
    exact hs i hlt σ _ p
  · have e : i = xs.length := by omega
    subst e
    exact .inl ⟨⟨q, by rw [dmap_len]; exact Nat.le_refl _⟩, hd σ H p⟩
theorem lcD_by {a D : Addr} {o : Obj} {g : TG} {vs : List Nat} {Qd : Hp → Prop} (xs : List Int) (f : Int → V) (Pv : Nat → Hp → Prop) (h0 : Pv 0 (upd H D (.lst []))) (hl : ∀ i H, i ≤ xs.length → Pv i H → H a = some (.frz o (.dK (dmap xs f))))
    (hs : ∀ (i : Nat) (h : i < xs.length) H, Pv i H → g (.int xs[i]) (wipe σ vs) H fun σ2 H2 => wipe σ2 vs = wipe σ vs ∧ tt σ2 H2 fun b H3 =>
      if b = true then te σ2 H3 fun y H4 => ∃ acc, H4 D = some (.lst acc) ∧ acc.length < sizeLine ∧ Pv (i + 1) (upd H4 D (.lst (acc ++ [y]))) else Pv (i + 1) H3) (hd : ∀ H, Pv xs.length H → Qd H) : LcG (Itk a o (dmap xs f)) g tt te vs σ D Qd H := by
  refine ⟨fun i m H => m = xs.length - i ∧ i ≤ xs.length ∧ Pv i H, ⟨xs.length, by simp, Nat.zero_le _, h0⟩, ?_⟩
  rintro i m H ⟨rfl, hi, p⟩
  have q := hl i H hi p
  by_cases hlt : i < xs.length
  · refine .inr ⟨⟨q, by rw [dmap_len]; exact hlt⟩, Pv (i + 1), fun H' p' => ⟨xs.length - (i + 1), by omega, rfl, hlt, p'⟩, fun x H' y => ?_⟩
    obtain ⟨e, k, v, h1, h2⟩ := y
    subst e
    have h3 : (dmap xs f)[i]? = some (.inl xs[i], f xs[i]) := by
      unfold dmap
      rw [List.getElem?_map, List.getElem?_eq_getElem hlt]
      rfl
    rw [h3] at h1
    cases h1
    subst h2
    exact hs i hlt _ p
  · have e : i = xs.length := by omega
    subst e
    exact .inl ⟨⟨q, by rw [dmap_len]; exact Nat.le_refl _⟩, hd H p⟩
theorem rd_listD {a : Addr} {kvs : List (Key × V)} (h : H a = some (.dK kvs)) (q : ∀ p, H p = none → Q (.ref p) (upd H p (.lst (kvs.map fun kv => kV kv.1)))) : ∃ (a' : Addr) (kvs : List (Key × V)), [V.ref a] = [.ref a'] ∧ Rd H a' (.dK kvs) ∧ ∀ p, H p = none → Q (.ref p) (upd H p (.lst (kvs.map fun kv => kV kv.1))) := ⟨a, kvs, rfl, .inl h, q⟩
theorem rd_anyL {a : Addr} {bs : List Bool} (h : H a = some (.lst (bs.map V.bl))) (q : Q (.bl (bs.any id)) H) : rAny K [.ref a] H Q := ⟨a, bs, rfl, SqL.of h, q⟩
theorem dmap_keys {xs : List Int} {f : Int → V} : ((dmap xs f).map fun kv => kV kv.1) = xs.map V.int := by
  unfold dmap
  rw [List.map_map]
  rfl
/-- behind a lock -/
theorem kp_lock {ps : List Addr} {H H2 : Hp} {d : Addr} {u : HO} {od : Obj} (h : H d = some u) (k : Kp ps (upd H d (.frz od u)) H2) : Kp ps H (upd H2 d u) := fun b o hb hn => by
  by_cases e : b = d
  · subst e
    rw [h] at hb
    rw [upd_same]
    exact hb
  · rw [upd_ne e]
    exact k b o (by rw [upd_ne e]; exact hb) hn
end
end RD

namespace RD
open PySem PySem.Spec PyProof.Rows L2 C8 GenW
section
variable {X : Cx} {CX : CXT} {k j : Nat} {C : Addr} {m : Str} {sp : Sp} {dvs : List V} {E : XK} {o : Expr} {ta : TE} {apos pos : Pos}
theorem pe_met0 {pl : Sem Bool} (c : MetX X.prog X.w X.K X.mg X.base CX k C m sp dvs) (hr : Room j X.A) (hk : k ≤ j) (hx : Passes CX X E) (he : PE X o ta)
    (ht : eval (.Call (.Attribute o m apos) [] [] pos) X.env = (do
      let ov ← eval o X.env
      standAt apos.atName
      let (f, first) ← holding [ov] (getMethod ov m pl)
      callWith pos f first (backTo pos (starEach [] X.env)) (backToKw pos (keywordEach [] X.env))) := by rfl) :
    PE X (.Call (.Attribute o m apos) [] [] pos) (tMeth C m sp dvs E ta tNil) := by
  obtain ⟨f, fd, ps, ds, cl, me, F, b, d⟩ := c.ex
  exact pe_meth0 he cl me F (hr.mono hk) b d hx ht
end
end RD

/-! own layer: texts, dicts of tuples (behind MORE) -/
namespace RD
open PySem PySem.Spec PyProof.Rows L2 He
section
variable {K : PySem.W.Frag} {w : World} {σ : L2.St} {H : Hp} {nx bk ct : L2.St → Hp → Prop} {rt : VK} {t : TS} {te ta tb tc to : TE} {tt : TT} {ar : TA} {Q : VK} {v x y z : V} {i j : Int}
/-! texts -/
def rLenStr : List V → Hp → VK → Prop := fun xs H Q => ∃ z : Str, xs = [.str z] ∧ z.length ≤ sizeLine ∧ Q (.int z.length) H
theorem call_lenStr {X : Cx} : CallR X (.builtin "len") rLenStr := call_len_str
theorem rd_lenStr {z : Str} (l : z.length ≤ sizeLine) (q : Q (.int z.length) H) : rLenStr [.str z] H Q := ⟨z, rfl, l, q⟩
theorem rd_ixS {z : Str} {c : Nat} (l : z.length ≤ sizeLine) (a : atI z.cps.toList i = some c) (q : Q (.str ⟨#[c]⟩) H) : rIxS (.str z) (.int i) H Q := ⟨z, i, c, rfl, rfl, l, a, q⟩
def rAddS : R2 := fun x y H Q => ∃ i j, x = .str i ∧ y = .str j ∧ i.length + j.length ≤ sizeLine ∧ Q (.str (i ++ j)) H
theorem op_addS {X : Cx} : OpR X (binaryOp .Add) rAddS := op_add_str
theorem rd_addS {a b : Str} (l : a.length + b.length ≤ sizeLine) (q : Q (.str (a ++ b)) H) : rAddS (.str a) (.str b) H Q := ⟨a, b, rfl, rfl, l, q⟩
theorem rd_slS {z : Str} {lo hi : Option Int} (l : z.length ≤ sizeLine) (q : Q (.str (cutS z lo hi)) H) : rSlS (.str z) lo hi H Q := ⟨z, rfl, l, q⟩
def rInSign : R2 := fun x y H Q => ∃ (c : Nat) (z : Str), x = .str ⟨#[c]⟩ ∧ y = .str z ∧ Q (.bl (decide (c ∈ z.cps.toList))) H
theorem op_inSign {X : Cx} : OpR X (compareOp .In) rInSign := op_in_sign
theorem rd_inSign {c : Nat} {z : Str} (q : Q (.bl (decide (c ∈ z.cps.toList))) H) : rInSign (.str ⟨#[c]⟩) (.str z) H Q := ⟨c, z, rfl, rfl, q⟩
theorem rd_iStr {R : It → Hp → Prop} (h : te σ H fun v H1 => ∃ x, v = .str x ∧ R (Its x) H1) : iStr te σ H R := h
theorem rd_iStrX {x : Str} {R : Str → Prop} (q : R x) : ∃ y, V.str x = V.str y ∧ R y := ⟨x, rfl, q⟩
theorem forS_by {z : Str} {g : TG} (Pv : Nat → L2.St → Hp → Prop) (h0 : Pv 0 σ H)
    (hs : ∀ (i : Nat) c σ H, z.cps.toList[i]? = some c → Pv i σ H → g (.str ⟨#[c]⟩) σ H fun σ2 H2 => t ⟨Pv (i + 1), rt, nx, Pv (i + 1)⟩ σ2 H2) (hd : ∀ σ H, Pv z.cps.size σ H → nx σ H) : ForG (Its z) g t ⟨nx, rt, bk, ct⟩ σ H := by
  refine ⟨fun i m σ H => m = z.cps.size - i ∧ i ≤ z.cps.size ∧ Pv i σ H, ⟨z.cps.size, by simp, Nat.zero_le _, h0⟩, ?_⟩
  rintro i m σ H ⟨rfl, hi, p⟩
  by_cases hlt : i < z.cps.size
  · refine .inr ⟨hlt, Pv (i + 1), fun σ' H' p' => ⟨z.cps.size - (i + 1), by omega, rfl, hlt, p'⟩, fun x H' y => ?_⟩
    obtain ⟨rfl, c, hc, rfl⟩ := y
    exact hs i c σ _ (by rw [Array.getElem?_toList]; exact hc) p
  · have e : i = z.cps.size := by omega
    subst e
    exact .inl ⟨Nat.le_refl _, hd σ H p⟩
theorem lcS_by {z : Str} {D : Addr} {g : TG} {vs : List Nat} {Qd : Hp → Prop} (Pv : Nat → Hp → Prop) (h0 : Pv 0 (upd H D (.lst [])))
    (hs : ∀ (i : Nat) c H, z.cps.toList[i]? = some c → Pv i H → g (.str ⟨#[c]⟩) (wipe σ vs) H fun σ2 H2 => wipe σ2 vs = wipe σ vs ∧ tt σ2 H2 fun b H3 =>
      if b = true then te σ2 H3 fun y H4 => ∃ acc, H4 D = some (.lst acc) ∧ acc.length < sizeLine ∧ Pv (i + 1) (upd H4 D (.lst (acc ++ [y]))) else Pv (i + 1) H3) (hd : ∀ H, Pv z.cps.size H → Qd H) : LcG (Its z) g tt te vs σ D Qd H := by
  refine ⟨fun i m H => m = z.cps.size - i ∧ i ≤ z.cps.size ∧ Pv i H, ⟨z.cps.size, by simp, Nat.zero_le _, h0⟩, ?_⟩
  rintro i m H ⟨rfl, hi, p⟩
  by_cases hlt : i < z.cps.size
  · refine .inr ⟨hlt, Pv (i + 1), fun H' p' => ⟨z.cps.size - (i + 1), by omega, rfl, hlt, p'⟩, fun x H' y => ?_⟩
    obtain ⟨rfl, c, hc, rfl⟩ := y
    exact hs i c _ (by rw [Array.getElem?_toList]; exact hc) p
  · have e : i = z.cps.size := by omega
    subst e
    exact .inl ⟨Nat.le_refl _, hd H p⟩
/-- [.. for c in text]: only looks -/
theorem lcF_str {z : Str} {D : Addr} {g : TG} {vs : List Nat} {Qd : Hp → Prop} (f : Nat → V) (hD : H D = none) (hl : z.cps.size < 1000000)
    (hs : ∀ (i : Nat) c, z.cps.toList[i]? = some c → ∀ H1 (E : VK) (N : Hp → Prop), Kp [] H H1 → (∀ H4, Kp [] H1 H4 → E (f c) H4) → g (.str ⟨#[c]⟩) (wipe σ vs) H1 fun σ2 H2 => wipe σ2 vs = wipe σ vs ∧ tt σ2 H2 fun b H3 => if b = true then te σ2 H3 E else N H3)
    (hd : ∀ H', Kp [] H H' → H' D = some (.lst (z.cps.toList.map f)) → Qd H') : LcG (Its z) g tt te vs σ D Qd H := by
  refine lcS_by (fun i H' => H' D = some (.lst ((z.cps.toList.take i).map f)) ∧ Kp [] H H') ⟨upd_same, Kp.new hD⟩ (fun i c H' hc q => ?_) (fun H' q => ?_)
  · obtain ⟨h1, h2⟩ := List.getElem?_eq_some_iff.mp hc
    refine hs i c hc H' _ _ q.2 (fun H4 k4 => ?_)
    refine ⟨_, k4.g0 q.1, szlt ?_, ?_, Kp.mine (q.2.trans k4) hD⟩
    · rw [List.length_map, List.length_take]
      rw [Array.length_toList] at h1
      omega
    · rw [upd_same, List.take_succ_eq_append_getElem h1, h2, List.map_append]
      rfl
  · rw [List.take_of_length_le (by simp)] at q
    exact hd H' q.2 q.1
def rJoin (K : PySem.W.Frag) : V → List V → Hp → VK → Prop := fun x xs H Q => ∃ a p, ∃ ys : List Str, x = .str a ∧ xs = [.ref p] ∧ (SqL K H p (ys.map V.str) ∨ SqT K H p (ys.map V.str)) ∧ (ys.map (·.length)).sum + ys.length * a.length ≤ 16777216 ∧ Q (.str (Txt.join a ys)) H
theorem pe_join' {X : Cx} {o e : Expr} {apos pos : Pos} (ho : PE X o to) (he : PE X e te) (hs : starEach [e] X.env = [(false, eval e X.env)] := by rfl) (hbase : attributeBase o "join" X.env (eval o X.env) = eval o X.env := by rfl) (hline : (apos.endLine == pos.line) = true := by rfl) :
    PE X (.Call (.Attribute o "join" apos) [e] [] pos) (tM1 (rJoin X.K) to te) := pe_join ho he hs hbase hline
theorem rd_m1 {r : V → List V → Hp → VK → Prop} (h : to σ H fun x H1 => (∃ a, x = .str a) ∧ te σ H1 fun y H2 => r x [y] H2 Q) : tM1 r to te σ H Q := h
theorem rd_m1X {a : Str} {B : Prop} (q : B) : (∃ a', V.str a = V.str a') ∧ B := ⟨⟨a, rfl⟩, q⟩
theorem rd_join {a : Str} {p : Addr} {ys : List Str} (h : H p = some (.lst (ys.map V.str))) (l : (ys.map (·.length)).sum + ys.length * a.length ≤ 16777216) (q : Q (.str (Str.join a ys)) H) : rJoin K (.str a) [.ref p] H Q := ⟨a, p, ys, rfl, rfl, .inl (SqL.of h), l, by
  rw [TL.join_eq]
  exact q⟩
theorem joinL1 : ∀ cs : List Nat, TL.joinL [] (cs.map fun c => [c]) = cs
  | [] => rfl
  | [c] => rfl
  | c :: d :: r => by
    have ih := joinL1 (d :: r)
    show [c] ++ ([] ++ TL.joinL [] ((d :: r).map fun c => [c])) = _
    rw [ih]
    rfl
theorem join1 (cs : List Nat) : Str.join (⟨#[]⟩ : Str) (cs.map fun c => (⟨#[c]⟩ : Str)) = ⟨cs.toArray⟩ := by
  have e := SX.join_S [] (cs.map fun c => [c])
  rw [joinL1, TL.join_eq, List.map_map] at e
  exact e
theorem rd_all {a : Addr} {bs : List Bool} (h : H a = some (.lst (bs.map V.bl))) (q : Q (.bl (bs.all id)) H) : rAll K [.ref a] H Q := ⟨a, bs, rfl, SqL.of h, q⟩
theorem inV_strs (a : Str) : ∀ ns : List Str, inV (.str a) (ns.map V.str) = decide (a ∈ ns)
  | [] => rfl
  | b :: r => by
    have ih := inV_strs a r
    unfold inV at ih ⊢
    rw [List.map_cons, List.any_cons, ih]
    show ((b == a) || decide (a ∈ r)) = decide (a ∈ b :: r)
    by_cases h : b = a
    · subst h
      simp
    · have h2 : (b == a) = false := beq_eq_false_iff_ne.mpr h
      rw [h2, Bool.false_or]
      simp [List.mem_cons, Ne.symm h]
theorem flat_strs : ∀ ns : List Str, (ns.map V.str).all flatV = true
  | [] => rfl
  | _ :: r => by
    rw [List.map_cons, List.all_cons, flat_strs r]
    rfl
theorem rd_inTS {p : Addr} {ns : List Str} {s : Str} (h : SqT K H p (ns.map V.str)) (q : Q (.bl (decide (s ∈ ns))) H) : rIn K false (.str s) (.ref p) H Q := ⟨p, ns.map V.str, rfl, .inr h, rfl, flat_strs ns, by
  rw [inV_strs]
  exact q⟩
theorem rd_indexS {a : Addr} {ns : List Str} {s : Str} {j : Nat} (h : SqL K H a (ns.map V.str)) (e : ns[j]? = some s) (no : ∀ m z, m < j → ns[m]? = some z → z ≠ s) (q : Q (.int (j : Nat)) H) : rIndex K (.ref a) [.str s] H Q :=
  ⟨a, ns.map V.str, .str s, j, .str s, rfl, rfl, h, rfl, flat_strs ns, by rw [List.getElem?_map, e]; rfl, by show (s == s) = true; exact beq_self_eq_true s, fun m z' hm hz => by
    rw [List.getElem?_map] at hz
    obtain ⟨z, h1, rfl⟩ := Option.map_eq_some_iff.mp hz
    show (z == s) = false
    exact beq_eq_false_iff_ne.mpr (no m z hm h1), q⟩
theorem rd_int1b {b : Bool} (h : Q (.int (if b then 1 else 0)) H) : rInt1 [.bl b] H Q := .inr ⟨b, rfl, h⟩
theorem rd_dpop2 (h : ta σ H fun x H1 => ∃ a, x = .ref a ∧ IsD H1 a ∧ tb σ H1 fun y H2 => tc σ H2 fun z H3 => ∃ kvs k, H3 a = some (.dK kvs) ∧ y = kV k ∧
  (∀ v, valV kvs k = some v → Q v (upd H3 a (.dK (dropK kvs k)))) ∧ (valV kvs k = none → Q z H3)) : tDPop2 ta tb tc σ H Q := h
theorem rd_dpopI {a : Addr} {kvs : List (Key × V)} {R1 : List (Key × V) → Key → Prop} (e : H a = some (.dK kvs)) (q : R1 kvs (.inl i)) : ∃ kvs k, H a = some (.dK kvs) ∧ V.int i = kV k ∧ R1 kvs k := ⟨kvs, .inl i, e, rfl, q⟩
theorem rd_ixKD {p : Addr} {s : Str} (h : KDct K w p s v) (q : Q v H) : rIxD K w (.ref p) (.str s) H Q := ⟨p, s, v, rfl, rfl, h, q⟩
theorem kdct_of {a : Addr} {es : Array DictEntry} {n : Nat} {kvs : List (Str × Dv)} (D : KDict K w a es n) (h : valsB K a kvs = true) {s : Str} {d : Dv} (m : (s, d) ∈ kvs) : KDct K w a s (d.v K) := by
  obtain ⟨u, e, r⟩ := valsB_ok h m
  exact ⟨es, n, u, D.at_, D.lit, e, r⟩
end
section
variable {X : L2.Cx} {CX : CXT} {k j : Nat} {x : Str} {sp : Sp} {dvs : List V} {E : XK} {p pos : Pos} {C : Addr}
theorem pe_cal0 (c : CalX X.prog X.w X.K X.mg X.base CX k x sp dvs) (hr : Room j X.A) (hk : k ≤ j) (hg : Gl X x) (hx : Passes CX X E) (hdb : (x == ("__debug__" : Str)) = false := by decide) : PE X (.Call (.Name x p) [] [] pos) (tCall sp dvs E tNil) := by
  obtain ⟨f, fd, ps, ds, F, hm, kp, b, d⟩ := c.ex
  exact pe_call0 F (hr.mono hk) hg hm kp b d hx hdb
theorem pe_mak0 (c : MakX X.prog X.w X.K X.mg X.base CX k x C sp dvs) (hr : Room j X.A) (hk : k + 1 ≤ j) (hg : Gl X x) (hx : Passes CX X E) (hdb : (x == ("__debug__" : Str)) = false := by decide) : PE X (.Call (.Name x p) [] [] pos) (tMake C sp dvs E tNil) := by
  obtain ⟨f, fd, ps, ds, M, F, hm, b, d⟩ := c.ex
  exact pe_make0 M F (hr.mono hk) hg hm b d hx hdb
end
/-! ### a walk over a list or a tuple; ranges with a step; chains -/
section
variable {X : L2.Cx} {K : PySem.W.Frag} {σ : L2.St} {H : Hp} {te ta tb tc : TE} {ar : TA} {Q : VK}
def iSeq (K : PySem.W.Frag) (te : TE) : TI := fun σ H R => te σ H fun x H1 => ∃ a, x = .ref a ∧ (((∃ xs, SqL K H1 a xs) ∧ R (Itl K a) H1) ∨ ((∃ xs, SqT K H1 a xs) ∧ R (Itt K a) H1))
theorem pi_seq {tg l : Expr} (hl : PE X l te) : PI X tg l (iSeq X.K te) := by
  refine ⟨fun pins s σ H R I h => ?_⟩
  refine thn (hl.run pins s σ H _ I h) fun v s1 ⟨x, H1, I1, r1, q1⟩ => ?_
  obtain ⟨a, e, h | h⟩ := q1
  · obtain ⟨⟨xs, hq⟩, q⟩ := h
    subst e
    cases r1
    obtain ⟨its, rv, p, hz⟩ := I1.list hq
    refine wpAny_pyIter_list p.isList ?_
    refine ⟨s1.heap.objs.size, [s1.heap.objs.size], _, _, H1, rfl, I1.kept (t' := s1.toks) fun b o e => Heap.get?_push_of_some _ e, turn_list a _, ⟨_, Heap.get?_push_size _ rfl, rfl, rfl⟩, fun b hb => ?_, q⟩
    have e : b = s1.heap.objs.size := by simpa using hb
    subst e
    exact I1.fpOk (Nat.le_refl _) (I1.hok.fresh (Nat.le_refl _))
  · obtain ⟨⟨xs, hq⟩, q⟩ := h
    subst e
    cases r1
    obtain ⟨its, rv, p, hz⟩ := I1.tuple hq
    refine wpAny_pyIter_tuple (show s1.heap.IsTuple a its.toArray from p) ?_
    refine ⟨s1.heap.objs.size, [s1.heap.objs.size], _, _, H1, rfl, I1.kept (t' := s1.toks) fun b o e => Heap.get?_push_of_some _ e, turn_tuple a _, ⟨_, Heap.get?_push_size _ rfl, rfl, rfl⟩, fun b hb => ?_, q⟩
    have e : b = s1.heap.objs.size := by simpa using hb
    subst e
    exact I1.fpOk (Nat.le_refl _) (I1.hok.fresh (Nat.le_refl _))
theorem rd_iSeq {R : It → Hp → Prop} (h : te σ H fun x H1 => ∃ a, x = V.ref a ∧ (((∃ xs, SqL K H1 a xs) ∧ R (Itl K a) H1) ∨ ((∃ xs, SqT K H1 a xs) ∧ R (Itt K a) H1))) : iSeq K te σ H R := h
theorem rd_iSeqL {p : Addr} {xs : List V} {A : Addr → Prop} {B : Addr → Prop} (h : SqL K H p xs) (q : A p) : ∃ a, V.ref p = V.ref a ∧ (((∃ xs, SqL K H a xs) ∧ A a) ∨ ((∃ xs, SqT K H a xs) ∧ B a)) := ⟨p, rfl, .inl ⟨⟨xs, h⟩, q⟩⟩
theorem rd_iSeqT {p : Addr} {xs : List V} {A : Addr → Prop} {B : Addr → Prop} (h : SqT K H p xs) (q : B p) : ∃ a, V.ref p = V.ref a ∧ (((∃ xs, SqL K H a xs) ∧ A a) ∨ ((∃ xs, SqT K H a xs) ∧ B a)) := ⟨p, rfl, .inr ⟨⟨xs, h⟩, q⟩⟩
theorem rd_chain {r r' : R2} (h : ta σ H fun x H1 => tb σ H1 fun y H2 => r x y H2 fun z H3 => ∃ k, z = V.bl k ∧ (if k = true then tc σ H3 fun w' H4 => r' y w' H4 Q else Q (.bl false) H3)) : tChain r r' ta tb tc σ H Q := h
theorem rd_iRng3 {R : It → Hp → Prop} (h : ar σ H fun vs H1 => ∃ (i j c : Int) (n : Nat), vs = [V.int i, V.int j, V.int c] ∧ RgC i j c n ∧ R (Itc i c n) H1) : iRng3 ar σ H R := h
theorem rd_iRng3X {i j c : Int} {n : Nat} {R : Int → Int → Nat → Prop} (h : RgC i j c n) (q : R i c n) : ∃ (i' j' c' : Int) (n' : Nat), [V.int i, V.int j, V.int c] = [V.int i', V.int j', V.int c'] ∧ RgC i' j' c' n' ∧ R i' c' n' := ⟨i, j, c, n, rfl, h, q⟩
end
/-! ### a tuple at a told place (a default ()) -/
def tupA (K : PySem.W.Frag) (a : Addr) (vs : List Dv) : Bool := match K.lookup a with
  | some ⟨.type c, _, .seq its _, _⟩ => decide (c = "tuple") && (decide (its.size ≤ sizeLine) && relAll (vs.map (Dv.v K)) its.toList)
  | _ => false
theorem tupA_ok {K : PySem.W.Frag} {a : Addr} {vs : List Dv} (h : tupA K a vs = true) (H : Hp) : SqT K H a (vs.map (Dv.v K)) := by
  unfold tupA at h
  cases q : K.lookup a with
  | none =>
    rw [q] at h
    cases h
  | some o =>
    obtain ⟨oc, od, dt, osl⟩ := o
    rw [q] at h
    cases oc with
    | type c =>
      cases dt with
      | seq its n =>
        obtain ⟨h1, h2⟩ := ba (show (decide (c = "tuple") && (decide (its.size ≤ sizeLine) && relAll (vs.map (Dv.v K)) its.toList)) = true from h)
        obtain ⟨h3, h4⟩ := ba h2
        exact .inr ⟨_, its, n, q, congrArg Value.type (of_decide_eq_true h1), rfl, of_decide_eq_true h3, relAll_ok h4⟩
      | _ => cases h
    | _ => cases dt <;> cases h
/-! ### dicts of tuples under int keys -/
section
variable {α : Type}
def kvT (key : α → Int) (xs : List (Addr × α)) : List (Key × V) := xs.map fun p => ((.inl (key p.2) : Key), V.ref p.1)
def fdT (key : α → Int) (xs : List (Addr × α)) (k : Int) : Option (Addr × α) := xs.find? fun p => decide (key p.2 = k)
def ptT (key : α → Int) (xs : List (Addr × α)) (p : Addr × α) : List (Addr × α) := if (xs.any fun q => decide (key q.2 = key p.2)) = true then xs.map (fun q => if key q.2 = key p.2 then p else q) else xs ++ [p]
def dpT (key : α → Int) (xs : List (Addr × α)) (k : Int) : List (Addr × α) := xs.filter fun p => decide (key p.2 ≠ k)
def fdS (key : α → Int) (ys : List α) (k : Int) : Option α := ys.find? fun y => decide (key y = k)
def ptS (key : α → Int) (ys : List α) (y : α) : List α := if (ys.any fun q => decide (key q = key y)) = true then ys.map (fun q => if key q = key y then y else q) else ys ++ [y]
def dpS (key : α → Int) (ys : List α) (k : Int) : List α := ys.filter fun y => decide (key y ≠ k)
theorem inl_iff {a b : Int} : ((.inl a : Key) = .inl b) ↔ a = b := ⟨fun e => Sum.inl.inj e, fun e => by rw [e]⟩
theorem kvT_val (key : α → Int) (k : Int) : ∀ xs : List (Addr × α), valV (kvT key xs) (.inl k) = (fdT key xs k).map fun p => V.ref p.1
  | [] => rfl
  | p :: r => by
    have ih := kvT_val key k r
    by_cases h : key p.2 = k
    · show valV (((.inl (key p.2) : Key), V.ref p.1) :: kvT key r) (.inl k) = _
      rw [valV_pos (inl_iff.mpr h)]
      unfold fdT
      rw [List.find?_cons, decide_eq_true h]
      rfl
    · show valV (((.inl (key p.2) : Key), V.ref p.1) :: kvT key r) (.inl k) = _
      rw [valV_neg (fun e => h (inl_iff.mp e)), ih]
      unfold fdT
      rw [List.find?_cons, decide_eq_false h]
theorem kvT_put (key : α → Int) (xs : List (Addr × α)) (p : Addr × α) : putK (kvT key xs) (.inl (key p.2)) (.ref p.1) = kvT key (ptT key xs p) := by
  have e : ((kvT key xs).any fun kv => decide (kv.1 = (.inl (key p.2) : Key))) = xs.any fun q => decide (key q.2 = key p.2) := by
    unfold kvT
    rw [List.any_map]
    congr 1
    funext q
    exact decide_eq_decide.mpr inl_iff
  unfold putK ptT
  rw [e]
  by_cases h : (xs.any fun q => decide (key q.2 = key p.2)) = true
  · rw [if_pos h, if_pos h]
    unfold kvT
    rw [List.map_map, List.map_map]
    refine List.map_congr_left fun q _ => ?_
    show (if (.inl (key q.2) : Key) = .inl (key p.2) then ((.inl (key q.2) : Key), V.ref p.1) else (.inl (key q.2), V.ref q.1)) = _
    by_cases z : key q.2 = key p.2
    · rw [if_pos (inl_iff.mpr z)]
      show _ = ((.inl (key (if key q.2 = key p.2 then p else q).2) : Key), V.ref (if key q.2 = key p.2 then p else q).1)
      rw [if_pos z, z]
    · rw [if_neg (fun e => z (inl_iff.mp e))]
      show _ = ((.inl (key (if key q.2 = key p.2 then p else q).2) : Key), V.ref (if key q.2 = key p.2 then p else q).1)
      rw [if_neg z]
  · rw [if_neg h, if_neg h]
    unfold kvT
    rw [List.map_append]
    rfl
theorem kvT_drop (key : α → Int) (k : Int) (xs : List (Addr × α)) : dropK (kvT key xs) (.inl k) = kvT key (dpT key xs k) := by
  unfold dropK kvT dpT
  rw [List.filter_map]
  congr 1
  refine List.filter_congr fun q _ => ?_
  exact decide_eq_decide.mpr (not_congr inl_iff)
theorem kvT_keys (key : α → Int) (xs : List (Addr × α)) : ((kvT key xs).map fun kv => kV kv.1) = ((xs.map (·.2)).map key).map V.int := by
  unfold kvT
  rw [List.map_map, List.map_map, List.map_map]
  rfl
theorem kvT_len (key : α → Int) (xs : List (Addr × α)) : (kvT key xs).length = xs.length := List.length_map _
theorem fdT_some {key : α → Int} {xs : List (Addr × α)} {k : Int} {p : Addr × α} (h : fdT key xs k = some p) : p ∈ xs ∧ key p.2 = k := ⟨List.mem_of_find?_eq_some h, by
  have := List.find?_some (p := fun p : Addr × α => decide (key p.2 = k)) h
  exact of_decide_eq_true this⟩
theorem fdT_snd (key : α → Int) (k : Int) : ∀ xs : List (Addr × α), (fdT key xs k).map (·.2) = fdS key (xs.map (·.2)) k
  | [] => rfl
  | p :: r => by
    have ih := fdT_snd key k r
    unfold fdT fdS at ih ⊢
    rw [List.map_cons, List.find?_cons, List.find?_cons]
    cases decide (key p.2 = k) with
    | true => rfl
    | false => exact ih
theorem ptT_snd (key : α → Int) (xs : List (Addr × α)) (p : Addr × α) : (ptT key xs p).map (·.2) = ptS key (xs.map (·.2)) p.2 := by
  unfold ptT ptS
  have e : ((xs.map (·.2)).any fun q => decide (key q = key p.2)) = xs.any fun q => decide (key q.2 = key p.2) := by
    rw [List.any_map]
    rfl
  rw [e]
  by_cases h : (xs.any fun q => decide (key q.2 = key p.2)) = true
  · rw [if_pos h, if_pos h, List.map_map, List.map_map]
    refine List.map_congr_left fun q _ => ?_
    show (if key q.2 = key p.2 then p else q).2 = if key q.2 = key p.2 then p.2 else q.2
    by_cases z : key q.2 = key p.2
    · rw [if_pos z, if_pos z]
    · rw [if_neg z, if_neg z]
  · rw [if_neg h, if_neg h, List.map_append]
    rfl
theorem dpT_snd (key : α → Int) (k : Int) (xs : List (Addr × α)) : (dpT key xs k).map (·.2) = dpS key (xs.map (·.2)) k := by
  unfold dpT dpS
  rw [List.filter_map]
  rfl
theorem ptT_mem {key : α → Int} {xs : List (Addr × α)} {p q : Addr × α} (h : q ∈ ptT key xs p) : q = p ∨ q ∈ xs := by
  unfold ptT at h
  by_cases z : (xs.any fun q => decide (key q.2 = key p.2)) = true
  · rw [if_pos z] at h
    obtain ⟨r, hr, e⟩ := List.mem_map.mp h
    by_cases z2 : key r.2 = key p.2
    · rw [if_pos z2] at e
      exact .inl e.symm
    · rw [if_neg z2] at e
      exact .inr (e ▸ hr)
  · rw [if_neg z] at h
    rcases List.mem_append.mp h with h | h
    · exact .inr h
    · exact .inl (List.mem_singleton.mp h)
theorem ptT_len (key : α → Int) (xs : List (Addr × α)) (p : Addr × α) : (ptT key xs p).length ≤ xs.length + 1 := by
  unfold ptT
  split
  · rw [List.length_map]
    omega
  · rw [List.length_append]
    exact Nat.le_refl _
theorem dpT_len (key : α → Int) (k : Int) (xs : List (Addr × α)) : (dpT key xs k).length ≤ xs.length := List.length_filter_le _ _
theorem dpT_none {key : α → Int} {k : Int} {xs : List (Addr × α)} (h : fdT key xs k = none) : dpT key xs k = xs := by
  refine List.filter_eq_self.mpr fun p hp => ?_
  have := List.find?_eq_none.mp h p hp
  exact decide_eq_true fun z => this (decide_eq_true z)
/-- at d: a dict from int keys to tuples -/
structure TD (key : α → Int) (tup : α → List V) (H : Hp) (d : Addr) (xs : List (Addr × α)) : Prop where
  at_ : H d = some (.dK (kvT key xs))
  ob : ∀ p, p ∈ xs → H p.1 = some (.tup (tup p.2))
def NoT (H : Hp) (ps : List Addr) : Prop := ∀ q, q ∈ ps → ∀ vs, H q ≠ some (.tup vs)
variable {key : α → Int} {tup : α → List V} {H H' : Hp} {d : Addr} {xs : List (Addr × α)} {ps : List Addr}
theorem NoT.n {q : Addr} {vs : List V} (h : NoT H ps) (e : H q = some (.tup vs)) : q ∉ ps := fun m => h q m vs e
theorem TD.kp (B : TD key tup H d xs) (k : Kp ps H H') (n : d ∉ ps) (t : NoT H ps) : TD key tup H' d xs := ⟨k _ _ B.at_ n, fun p hp => k _ _ (B.ob p hp) (t.n (B.ob p hp))⟩
theorem TD.k0 (B : TD key tup H d xs) (k : Kp [] H H') : TD key tup H' d xs := B.kp k (by simp) (fun q hq => by cases hq)
theorem TD.put (B : TD key tup H d xs) {p : Addr × α} (h : H p.1 = some (.tup (tup p.2))) : TD key tup (upd H d (.dK (kvT key (ptT key xs p)))) d (ptT key xs p) := by
  have o : ∀ q vs, H q = some (.tup vs) → upd H d (.dK (kvT key (ptT key xs p))) q = some (.tup vs) := fun q vs e => hu_ne (ne_of e B.at_ (by intro z; cases z)) e
  refine ⟨upd_same, fun q hq => ?_⟩
  rcases ptT_mem hq with rfl | m
  · exact o _ _ h
  · exact o _ _ (B.ob q m)
theorem TD.drop (B : TD key tup H d xs) {k : Int} : TD key tup (upd H d (.dK (kvT key (dpT key xs k)))) d (dpT key xs k) :=
  ⟨upd_same, fun q hq => hu_ne (ne_of (B.ob q (List.mem_filter.mp hq).1) B.at_ (by intro z; cases z)) (B.ob q (List.mem_filter.mp hq).1)⟩
theorem TD.find (B : TD key tup H d xs) {k : Int} {p : Addr × α} (h : fdT key xs k = some p) : H p.1 = some (.tup (tup p.2)) := B.ob p (fdT_some h).1
end
/-! ### ascending lists -/
def srt (l : List Int) : List Int := l.mergeSort fun a b => decide (a ≤ b)
theorem srt_perm (l : List Int) : (srt l).Perm l := List.mergeSort_perm _ _
theorem srt_le (l : List Int) : (srt l).Pairwise (· ≤ ·) := (List.pairwise_mergeSort (le := fun a b : Int => decide (a ≤ b)) (fun a b c h1 h2 => decide_eq_true (Int.le_trans (of_decide_eq_true h1) (of_decide_eq_true h2))) (fun a b => by
  by_cases h : a ≤ b
  · simp [h]
  · simp [h]
    omega) l).imp fun h => of_decide_eq_true h
theorem srt_is {os l : List Int} (p : os.Perm l) (s : os.Pairwise (· ≤ ·)) : os = srt l := sort_uniq (p.trans (srt_perm l).symm) s (srt_le l)
end RD

namespace My
open PySem PySem.Spec PyProof.Rows L2 He RD
open PySem PySem.Spec PyProof.Rows L2 He RD
def top (i : Nat) : Stmt := PySem.Challenge.pw_livingroll_k32_whole_reconcile_stripes.main.body.getD i (.Pass ⟨0, 0, 0, 0⟩)
abbrev R : PySem.W.OpenRow := PySem.W.OpenLaw.row PySem.Challenge.rw_livingroll_k32_whole_reconcile_stripes
abbrev s_l_whole : Stmt := (top 34)
abbrev n_l_whole : List Str := ["_law_x"]
abbrev p_l_whole : List Str := ["_law_x"]
theorem sc_l_whole : FnScope n_l_whole p_l_whole (defScope s_l_whole) := ⟨rfl, rfl, rfl, by decide +kernel, rfl, by decide +kernel, by decide +kernel⟩
def d_l_whole : DefD := ⟨("_law_whole", none), "_law_whole", "_law_whole", defArgs s_l_whole, defBody s_l_whole, defScope s_l_whole, [], []⟩
abbrev s_l_box : Stmt := (top 35)
abbrev n_l_box : List Str := ["_law_script", "_law_cells", "_law_seed", "_law_cell"]
abbrev p_l_box : List Str := ["_law_script"]
theorem sc_l_box : FnScope n_l_box p_l_box (defScope s_l_box) := ⟨rfl, rfl, rfl, by decide +kernel, rfl, by decide +kernel, by decide +kernel⟩
def d_l_box : DefD := ⟨("_law_box", none), "_law_box", "_law_box", defArgs s_l_box, defBody s_l_box, defScope s_l_box, [], []⟩
abbrev s_l_mixed : Stmt := (top 36)
abbrev n_l_mixed : List Str := ["_law_seed", "_law_count", "_law_one", "_law_two"]
abbrev p_l_mixed : List Str := ["_law_seed", "_law_count"]
theorem sc_l_mixed : FnScope n_l_mixed p_l_mixed (defScope s_l_mixed) := ⟨rfl, rfl, rfl, by decide +kernel, rfl, by decide +kernel, by decide +kernel⟩
def d_l_mixed : DefD := ⟨("_law_mixed", none), "_law_mixed", "_law_mixed", defArgs s_l_mixed, defBody s_l_mixed, defScope s_l_mixed, [], []⟩
abbrev s_l_take : Stmt := (top 37)
abbrev n_l_take : List Str := ["_law_box_here", "_law_limit", "_law_cell", "_law_digit"]
abbrev p_l_take : List Str := ["_law_box_here", "_law_limit"]
theorem sc_l_take : FnScope n_l_take p_l_take (defScope s_l_take) := ⟨rfl, rfl, rfl, by decide +kernel, rfl, by decide +kernel, by decide +kernel⟩
def d_l_take : DefD := ⟨("_law_take", none), "_law_take", "_law_take", defArgs s_l_take, defBody s_l_take, defScope s_l_take, [], []⟩
abbrev s_l_base : Stmt := (top 38)
abbrev n_l_base : List Str := ["_law_box_here", "_law_pick", "_law_base_here", "_law_turn"]
abbrev p_l_base : List Str := ["_law_box_here"]
theorem sc_l_base : FnScope n_l_base p_l_base (defScope s_l_base) := ⟨rfl, rfl, rfl, by decide +kernel, rfl, by decide +kernel, by decide +kernel⟩
def d_l_base : DefD := ⟨("_law_base", none), "_law_base", "_law_base", defArgs s_l_base, defBody s_l_base, defScope s_l_base, [], []⟩
abbrev s_l_level : Stmt := (top 39)
abbrev n_l_level : List Str := ["_law_box_here", "_law_base_here", "_law_pick"]
abbrev p_l_level : List Str := ["_law_box_here", "_law_base_here"]
theorem sc_l_level : FnScope n_l_level p_l_level (defScope s_l_level) := ⟨rfl, rfl, rfl, by decide +kernel, rfl, by decide +kernel, by decide +kernel⟩
def d_l_level : DefD := ⟨("_law_level", none), "_law_level", "_law_level", defArgs s_l_level, defBody s_l_level, defScope s_l_level, [], []⟩
abbrev s_l_worth : Stmt := (top 40)
abbrev n_l_worth : List Str := ["_law_seat", "_law_age", "_law_salt", "_law_letters", "_law_start", "_law_k"]
abbrev p_l_worth : List Str := ["_law_seat", "_law_age", "_law_salt"]
theorem sc_l_worth : FnScope n_l_worth p_l_worth (defScope s_l_worth) := ⟨rfl, rfl, rfl, by decide +kernel, rfl, by decide +kernel, by decide +kernel⟩
def d_l_worth : DefD := ⟨("_law_worth", none), "_law_worth", "_law_worth", defArgs s_l_worth, defBody s_l_worth, defScope s_l_worth, [], []⟩
abbrev s_l_saying : Stmt := (top 41)
abbrev n_l_saying : List Str := ["_law_seat", "_law_level_here", "_law_salt", "_law_age", "_law_mark"]
abbrev p_l_saying : List Str := ["_law_seat", "_law_level_here", "_law_salt"]
theorem sc_l_saying : FnScope n_l_saying p_l_saying (defScope s_l_saying) := ⟨rfl, rfl, rfl, by decide +kernel, rfl, by decide +kernel, by decide +kernel⟩
def d_l_saying : DefD := ⟨("_law_saying", none), "_law_saying", "_law_saying", defArgs s_l_saying, defBody s_l_saying, defScope s_l_saying, [], []⟩
abbrev s_l_rows : Stmt := (top 42)
abbrev n_l_rows : List Str := ["_law_levels", "_law_salt", "_law_seat"]
abbrev p_l_rows : List Str := ["_law_levels", "_law_salt"]
theorem sc_l_rows : FnScope n_l_rows p_l_rows (defScope s_l_rows) := ⟨rfl, rfl, rfl, by decide +kernel, rfl, by decide +kernel, by decide +kernel⟩
def d_l_rows : DefD := ⟨("_law_rows", none), "_law_rows", "_law_rows", defArgs s_l_rows, defBody s_l_rows, defScope s_l_rows, [], []⟩
abbrev s_whole : Stmt := (top 9)
abbrev n_whole : List Str := ["value", "low", "high"]
abbrev p_whole : List Str := ["value", "low", "high"]
theorem sc_whole : FnScope n_whole p_whole (defScope s_whole) := ⟨rfl, rfl, rfl, by decide +kernel, rfl, by decide +kernel, by decide +kernel⟩
def d_whole : DefD := ⟨("whole", none), "whole", "whole", defArgs s_whole, defBody s_whole, defScope s_whole, [], []⟩
abbrev s_Setting_init : Stmt := (inClass (top 10) 5)
abbrev n_Setting_init : List Str := ["self", "bits", "patience", "room", "grace", "helpers"]
abbrev p_Setting_init : List Str := ["self", "bits", "patience", "room", "grace", "helpers"]
theorem sc_Setting_init : FnScope n_Setting_init p_Setting_init (defScope s_Setting_init) := ⟨rfl, rfl, rfl, by decide +kernel, rfl, by decide +kernel, by decide +kernel⟩
def d_Setting_init : DefD := ⟨("Setting", some "__init__"), "__init__", "Setting.__init__", defArgs s_Setting_init, defBody s_Setting_init, defScope s_Setting_init, [], [("grace", .int 6), ("helpers", .int 1)]⟩
abbrev s_Setting_seats : Stmt := (inClass (top 10) 7)
abbrev n_Setting_seats : List Str := ["self"]
abbrev p_Setting_seats : List Str := ["self"]
theorem sc_Setting_seats : FnScope n_Setting_seats p_Setting_seats (defScope s_Setting_seats) := ⟨rfl, rfl, rfl, by decide +kernel, rfl, by decide +kernel, by decide +kernel⟩
def g_Setting_seats : GetD := ⟨"Setting", "seats", "seats", "Setting.seats", defArgs s_Setting_seats, defBody s_Setting_seats, defScope s_Setting_seats⟩
abbrev s_is_worth : Stmt := (top 18)
abbrev n_is_worth : List Str := ["text", "sign"]
abbrev p_is_worth : List Str := ["text"]
theorem sc_is_worth : FnScope n_is_worth p_is_worth (defScope s_is_worth) := ⟨rfl, rfl, rfl, by decide +kernel, rfl, by decide +kernel, by decide +kernel⟩
def d_is_worth : DefD := ⟨("is_worth", none), "is_worth", "is_worth", defArgs s_is_worth, defBody s_is_worth, defScope s_is_worth, [], []⟩
abbrev s_life_ok : Stmt := (top 19)
abbrev n_life_ok : List Str := ["life"]
abbrev p_life_ok : List Str := ["life"]
theorem sc_life_ok : FnScope n_life_ok p_life_ok (defScope s_life_ok) := ⟨rfl, rfl, rfl, by decide +kernel, rfl, by decide +kernel, by decide +kernel⟩
def d_life_ok : DefD := ⟨("life_ok", none), "life_ok", "life_ok", defArgs s_life_ok, defBody s_life_ok, defScope s_life_ok, [], []⟩
abbrev s_is_saying : Stmt := (top 20)
abbrev n_is_saying : List Str := ["setting", "saying", "seat", "life", "mark", "worth"]
abbrev p_is_saying : List Str := ["setting", "saying"]
theorem sc_is_saying : FnScope n_is_saying p_is_saying (defScope s_is_saying) := ⟨rfl, rfl, rfl, by decide +kernel, rfl, by decide +kernel, by decide +kernel⟩
def d_is_saying : DefD := ⟨("is_saying", none), "is_saying", "is_saying", defArgs s_is_saying, defBody s_is_saying, defScope s_is_saying, [], []⟩
abbrev s_check_saying : Stmt := (top 21)
abbrev n_check_saying : List Str := ["setting", "saying"]
abbrev p_check_saying : List Str := ["setting", "saying"]
theorem sc_check_saying : FnScope n_check_saying p_check_saying (defScope s_check_saying) := ⟨rfl, rfl, rfl, by decide +kernel, rfl, by decide +kernel, by decide +kernel⟩
def d_check_saying : DefD := ⟨("check_saying", none), "check_saying", "check_saying", defArgs s_check_saying, defBody s_check_saying, defScope s_check_saying, [], []⟩
abbrev s_rank : Stmt := (top 22)
abbrev n_rank : List Str := ["saying"]
abbrev p_rank : List Str := ["saying"]
theorem sc_rank : FnScope n_rank p_rank (defScope s_rank) := ⟨rfl, rfl, rfl, by decide +kernel, rfl, by decide +kernel, by decide +kernel⟩
def d_rank : DefD := ⟨("rank", none), "rank", "rank", defArgs s_rank, defBody s_rank, defScope s_rank, [], []⟩
abbrev s__is_later : Stmt := (top 30)
abbrev n__is_later : List Str := ["rows", "saying"]
abbrev p__is_later : List Str := ["rows", "saying"]
theorem sc__is_later : FnScope n__is_later p__is_later (defScope s__is_later) := ⟨rfl, rfl, rfl, by decide +kernel, rfl, by decide +kernel, by decide +kernel⟩
def d__is_later : DefD := ⟨("_is_later", none), "_is_later", "_is_later", defArgs s__is_later, defBody s__is_later, defScope s__is_later, [], []⟩
abbrev s__latest_rows : Stmt := (top 31)
abbrev n__latest_rows : List Str := ["setting", "sayings", "rows", "saying"]
abbrev p__latest_rows : List Str := ["setting", "sayings"]
theorem sc__latest_rows : FnScope n__latest_rows p__latest_rows (defScope s__latest_rows) := ⟨rfl, rfl, rfl, by decide +kernel, rfl, by decide +kernel, by decide +kernel⟩
def d__latest_rows : DefD := ⟨("_latest_rows", none), "_latest_rows", "_latest_rows", defArgs s__latest_rows, defBody s__latest_rows, defScope s__latest_rows, [], []⟩
abbrev s_Book_init : Stmt := (inClass (top 32) 0)
abbrev n_Book_init : List Str := ["self", "setting", "sayings"]
abbrev p_Book_init : List Str := ["self", "setting", "sayings"]
theorem sc_Book_init : FnScope n_Book_init p_Book_init (defScope s_Book_init) := ⟨rfl, rfl, rfl, by decide +kernel, rfl, by decide +kernel, by decide +kernel⟩
def d_Book_init : DefD := ⟨("Book", some "__init__"), "__init__", "Book.__init__", defArgs s_Book_init, defBody s_Book_init, defScope s_Book_init, [.adr (He.dflAt (("Book", some "__init__")) 0)], []⟩
abbrev s_Book_take : Stmt := (inClass (top 32) 1)
abbrev n_Book_take : List Str := ["self", "saying"]
abbrev p_Book_take : List Str := ["self", "saying"]
theorem sc_Book_take : FnScope n_Book_take p_Book_take (defScope s_Book_take) := ⟨rfl, rfl, rfl, by decide +kernel, rfl, by decide +kernel, by decide +kernel⟩
def d_Book_take : DefD := ⟨("Book", some "take"), "take", "Book.take", defArgs s_Book_take, defBody s_Book_take, defScope s_Book_take, [], []⟩
abbrev s_Book_of : Stmt := (inClass (top 32) 2)
abbrev n_Book_of : List Str := ["self", "seat"]
abbrev p_Book_of : List Str := ["self", "seat"]
theorem sc_Book_of : FnScope n_Book_of p_Book_of (defScope s_Book_of) := ⟨rfl, rfl, rfl, by decide +kernel, rfl, by decide +kernel, by decide +kernel⟩
def d_Book_of : DefD := ⟨("Book", some "of"), "of", "Book.of", defArgs s_Book_of, defBody s_Book_of, defScope s_Book_of, [], []⟩
abbrev s_Book_held : Stmt := (inClass (top 32) 4)
abbrev n_Book_held : List Str := ["self"]
abbrev p_Book_held : List Str := ["self"]
theorem sc_Book_held : FnScope n_Book_held p_Book_held (defScope s_Book_held) := ⟨rfl, rfl, rfl, by decide +kernel, rfl, by decide +kernel, by decide +kernel⟩
def d_Book_held : DefD := ⟨("Book", some "held"), "held", "Book.held", defArgs s_Book_held, defBody s_Book_held, defScope s_Book_held, [], []⟩
abbrev s_Book_rows : Stmt := (inClass (top 32) 5)
abbrev n_Book_rows : List Str := ["self", "seat"]
abbrev p_Book_rows : List Str := ["self"]
theorem sc_Book_rows : FnScope n_Book_rows p_Book_rows (defScope s_Book_rows) := ⟨rfl, rfl, rfl, by decide +kernel, rfl, by decide +kernel, by decide +kernel⟩
def d_Book_rows : DefD := ⟨("Book", some "rows"), "rows", "Book.rows", defArgs s_Book_rows, defBody s_Book_rows, defScope s_Book_rows, [], []⟩
abbrev s_Book_rank_of : Stmt := (inClass (top 32) 3)
abbrev n_Book_rank_of : List Str := ["self", "seat"]
abbrev p_Book_rank_of : List Str := ["self", "seat"]
theorem sc_Book_rank_of : FnScope n_Book_rank_of p_Book_rank_of (defScope s_Book_rank_of) := ⟨rfl, rfl, rfl, by decide +kernel, rfl, by decide +kernel, by decide +kernel⟩
def d_Book_rank_of : DefD := ⟨("Book", some "rank_of"), "rank_of", "Book.rank_of", defArgs s_Book_rank_of, defBody s_Book_rank_of, defScope s_Book_rank_of, [], []⟩
abbrev s_l_book : Stmt := (top 43)
abbrev n_l_book : List Str := ["_law_setting", "_law_levels", "_law_salt", "_law_box_here", "_law_rows_here", "_law_cut"]
abbrev p_l_book : List Str := ["_law_setting", "_law_levels", "_law_salt", "_law_box_here"]
theorem sc_l_book : FnScope n_l_book p_l_book (defScope s_l_book) := ⟨rfl, rfl, rfl, by decide +kernel, rfl, by decide +kernel, by decide +kernel⟩
def d_l_book : DefD := ⟨("_law_book", none), "_law_book", "_law_book", defArgs s_l_book, defBody s_l_book, defScope s_l_book, [], []⟩
abbrev s_l_is_saying : Stmt := (top 44)
abbrev n_l_is_saying : List Str := ["_law_x"]
abbrev p_l_is_saying : List Str := ["_law_x"]
theorem sc_l_is_saying : FnScope n_l_is_saying p_l_is_saying (defScope s_l_is_saying) := ⟨rfl, rfl, rfl, by decide +kernel, rfl, by decide +kernel, by decide +kernel⟩
def d_l_is_saying : DefD := ⟨("_law_is_saying", none), "_law_is_saying", "_law_is_saying", defArgs s_l_is_saying, defBody s_l_is_saying, defScope s_l_is_saying, [], []⟩
abbrev s_l_same : Stmt := (top 45)
abbrev n_l_same : List Str := ["_law_found", "_law_rows_here", "_law_k"]
abbrev p_l_same : List Str := ["_law_found", "_law_rows_here"]
theorem sc_l_same : FnScope n_l_same p_l_same (defScope s_l_same) := ⟨rfl, rfl, rfl, by decide +kernel, rfl, by decide +kernel, by decide +kernel⟩
def d_l_same : DefD := ⟨("_law_same", none), "_law_same", "_law_same", defArgs s_l_same, defBody s_l_same, defScope s_l_same, [], []⟩
abbrev s_moments : Stmt := (top 3)
abbrev n_moments : List Str := ["book", "low", "width", "s0", "s1", "s2", "place", "value"]
abbrev p_moments : List Str := ["book", "low", "width"]
theorem sc_moments : FnScope n_moments p_moments (defScope s_moments) := ⟨rfl, rfl, rfl, by decide +kernel, rfl, by decide +kernel, by decide +kernel⟩
def d_moments : DefD := ⟨("moments", none), "moments", "moments", defArgs s_moments, defBody s_moments, defScope s_moments, [], []⟩
abbrev s_Side__own_sum : Stmt := (inClass (top 26) 8)
abbrev n_Side__own_sum : List Str := ["self", "low", "width", "s0", "s1", "s2"]
abbrev p_Side__own_sum : List Str := ["self", "low", "width"]
theorem sc_Side__own_sum : FnScope n_Side__own_sum p_Side__own_sum (defScope s_Side__own_sum) := ⟨rfl, rfl, rfl, by decide +kernel, rfl, by decide +kernel, by decide +kernel⟩
def d_Side__own_sum : DefD := ⟨("Side", some "_own_sum"), "_own_sum", "Side._own_sum", defArgs s_Side__own_sum, defBody s_Side__own_sum, defScope s_Side__own_sum, [], []⟩
abbrev s_halves : Stmt := (top 2)
abbrev n_halves : List Str := ["low", "width", "half"]
abbrev p_halves : List Str := ["low", "width"]
theorem sc_halves : FnScope n_halves p_halves (defScope s_halves) := ⟨rfl, rfl, rfl, by decide +kernel, rfl, by decide +kernel, by decide +kernel⟩
def d_halves : DefD := ⟨("halves", none), "halves", "halves", defArgs s_halves, defBody s_halves, defScope s_halves, [], []⟩
abbrev s_Side__answer_sum : Stmt := (inClass (top 26) 7)
abbrev n_Side__answer_sum : List Str := ["self", "low", "width", "half_low", "half_width", "held"]
abbrev p_Side__answer_sum : List Str := ["self", "low", "width"]
theorem sc_Side__answer_sum : FnScope n_Side__answer_sum p_Side__answer_sum (defScope s_Side__answer_sum) := ⟨rfl, rfl, rfl, by decide +kernel, rfl, by decide +kernel, by decide +kernel⟩
def d_Side__answer_sum : DefD := ⟨("Side", some "_answer_sum"), "_answer_sum", "Side._answer_sum", defArgs s_Side__answer_sum, defBody s_Side__answer_sum, defScope s_Side__answer_sum, [], []⟩
abbrev s_Side__accept : Stmt := (inClass (top 26) 6)
abbrev n_Side__accept : List Str := ["self", "saying", "taker"]
abbrev p_Side__accept : List Str := ["self", "saying"]
theorem sc_Side__accept : FnScope n_Side__accept p_Side__accept (defScope s_Side__accept) := ⟨rfl, rfl, rfl, by decide +kernel, rfl, by decide +kernel, by decide +kernel⟩
def d_Side__accept : DefD := ⟨("Side", some "_accept"), "_accept", "Side._accept", defArgs s_Side__accept, defBody s_Side__accept, defScope s_Side__accept, [], []⟩
abbrev s_Side__receive_saying : Stmt := (inClass (top 26) 5)
abbrev n_Side__receive_saying : List Str := ["self", "saying", "held"]
abbrev p_Side__receive_saying : List Str := ["self", "saying"]
theorem sc_Side__receive_saying : FnScope n_Side__receive_saying p_Side__receive_saying (defScope s_Side__receive_saying) := ⟨rfl, rfl, rfl, by decide +kernel, rfl, by decide +kernel, by decide +kernel⟩
def d_Side__receive_saying : DefD := ⟨("Side", some "_receive_saying"), "_receive_saying", "Side._receive_saying", defArgs s_Side__receive_saying, defBody s_Side__receive_saying, defScope s_Side__receive_saying, [], []⟩
abbrev s_Side_receive : Stmt := (inClass (top 26) 4)
abbrev n_Side_receive : List Str := ["self", "sayings", "sums", "taken", "saying", "low", "width", "s0", "s1", "s2"]
abbrev p_Side_receive : List Str := ["self", "sayings", "sums"]
theorem sc_Side_receive : FnScope n_Side_receive p_Side_receive (defScope s_Side_receive) := ⟨rfl, rfl, rfl, by decide +kernel, rfl, by decide +kernel, by decide +kernel⟩
def d_Side_receive : DefD := ⟨("Side", some "receive"), "receive", "Side.receive", defArgs s_Side_receive, defBody s_Side_receive, defScope s_Side_receive, [], []⟩
abbrev s_Side_init : Stmt := (inClass (top 26) 0)
abbrev n_Side_init : List Str := ["self", "setting", "book", "taker"]
abbrev p_Side_init : List Str := ["self", "setting", "book", "taker"]
theorem sc_Side_init : FnScope n_Side_init p_Side_init (defScope s_Side_init) := ⟨rfl, rfl, rfl, by decide +kernel, rfl, by decide +kernel, by decide +kernel⟩
def d_Side_init : DefD := ⟨("Side", some "__init__"), "__init__", "Side.__init__", defArgs s_Side_init, defBody s_Side_init, defScope s_Side_init, [.non], []⟩
abbrev s_Side_idle : Stmt := (inClass (top 26) 1)
abbrev n_Side_idle : List Str := ["self"]
abbrev p_Side_idle : List Str := ["self"]
theorem sc_Side_idle : FnScope n_Side_idle p_Side_idle (defScope s_Side_idle) := ⟨rfl, rfl, rfl, by decide +kernel, rfl, by decide +kernel, by decide +kernel⟩
def g_Side_idle : GetD := ⟨"Side", "idle", "idle", "Side.idle", defArgs s_Side_idle, defBody s_Side_idle, defScope s_Side_idle⟩
abbrev s_Side_begin : Stmt := (inClass (top 26) 2)
abbrev n_Side_begin : List Str := ["self", "stripe", "setting", "low", "high", "seat"]
abbrev p_Side_begin : List Str := ["self", "stripe"]
theorem sc_Side_begin : FnScope n_Side_begin p_Side_begin (defScope s_Side_begin) := ⟨rfl, rfl, rfl, by decide +kernel, rfl, by decide +kernel, by decide +kernel⟩
def d_Side_begin : DefD := ⟨("Side", some "begin"), "begin", "Side.begin", defArgs s_Side_begin, defBody s_Side_begin, defScope s_Side_begin, [], []⟩
abbrev s_Side_next_items : Stmt := (inClass (top 26) 3)
abbrev n_Side_next_items : List Str := ["self", "room", "batch", "sayings", "sums", "item"]
abbrev p_Side_next_items : List Str := ["self"]
theorem sc_Side_next_items : FnScope n_Side_next_items p_Side_next_items (defScope s_Side_next_items) := ⟨rfl, rfl, rfl, by decide +kernel, rfl, by decide +kernel, by decide +kernel⟩
def d_Side_next_items : DefD := ⟨("Side", some "next_items"), "next_items", "Side.next_items", defArgs s_Side_next_items, defBody s_Side_next_items, defScope s_Side_next_items, [], []⟩
abbrev s__hand_over : Stmt := (top 28)
abbrev n__hand_over : List Str := ["sender", "receiver", "sayings", "sums"]
abbrev p__hand_over : List Str := ["sender", "receiver"]
theorem sc__hand_over : FnScope n__hand_over p__hand_over (defScope s__hand_over) := ⟨rfl, rfl, rfl, by decide +kernel, rfl, by decide +kernel, by decide +kernel⟩
def d__hand_over : DefD := ⟨("_hand_over", none), "_hand_over", "_hand_over", defArgs s__hand_over, defBody s__hand_over, defScope s__hand_over, [], []⟩
abbrev s_Book_copy : Stmt := (inClass (top 32) 9)
abbrev n_Book_copy : List Str := ["self"]
abbrev p_Book_copy : List Str := ["self"]
theorem sc_Book_copy : FnScope n_Book_copy p_Book_copy (defScope s_Book_copy) := ⟨rfl, rfl, rfl, by decide +kernel, rfl, by decide +kernel, by decide +kernel⟩
def d_Book_copy : DefD := ⟨("Book", some "copy"), "copy", "Book.copy", defArgs s_Book_copy, defBody s_Book_copy, defScope s_Book_copy, [], []⟩
abbrev s_reconcile : Stmt := (top 27)
abbrev n_reconcile : List Str := ["setting", "book", "other", "stripe", "first", "second", "caller", "called", "sent"]
abbrev p_reconcile : List Str := ["setting", "book", "other", "stripe"]
theorem sc_reconcile : FnScope n_reconcile p_reconcile (defScope s_reconcile) := ⟨rfl, rfl, rfl, by decide +kernel, rfl, by decide +kernel, by decide +kernel⟩
def d_reconcile : DefD := ⟨("reconcile", none), "reconcile", "reconcile", defArgs s_reconcile, defBody s_reconcile, defScope s_reconcile, [], [("stripe", .int 0)]⟩
abbrev s_l_few : Stmt := (top 46)
abbrev n_l_few : List Str := ["_law_box_here", "_law_levels", "_law_base_here", "_law_other", "_law_turn", "_law_place", "_law_level_here"]
abbrev p_l_few : List Str := ["_law_box_here", "_law_levels", "_law_base_here"]
theorem sc_l_few : FnScope n_l_few p_l_few (defScope s_l_few) := ⟨rfl, rfl, rfl, by decide +kernel, rfl, by decide +kernel, by decide +kernel⟩
def d_l_few : DefD := ⟨("_law_few", none), "_law_few", "_law_few", defArgs s_l_few, defBody s_l_few, defScope s_l_few, [], []⟩
abbrev s_l_above : Stmt := (top 47)
abbrev n_l_above : List Str := ["_law_box_here", "_law_levels", "_law_base_here", "_law_other", "_law_level_here", "_law_rise"]
abbrev p_l_above : List Str := ["_law_box_here", "_law_levels", "_law_base_here"]
theorem sc_l_above : FnScope n_l_above p_l_above (defScope s_l_above) := ⟨rfl, rfl, rfl, by decide +kernel, rfl, by decide +kernel, by decide +kernel⟩
def d_l_above : DefD := ⟨("_law_above", none), "_law_above", "_law_above", defArgs s_l_above, defBody s_l_above, defScope s_l_above, [], []⟩
abbrev s_l_vector : Stmt := (top 48)
abbrev n_l_vector : List Str := ["_law_box_here", "_law_levels", "_law_base_here", "_law_many", "_law_one", "_law_two", "_law_gap", "_law_start", "_law_rise", "_law_place"]
abbrev p_l_vector : List Str := ["_law_box_here", "_law_levels", "_law_base_here"]
theorem sc_l_vector : FnScope n_l_vector p_l_vector (defScope s_l_vector) := ⟨rfl, rfl, rfl, by decide +kernel, rfl, by decide +kernel, by decide +kernel⟩
def d_l_vector : DefD := ⟨("_law_vector", none), "_law_vector", "_law_vector", defArgs s_l_vector, defBody s_l_vector, defScope s_l_vector, [], []⟩
abbrev s_l_pair : Stmt := (top 49)
abbrev n_l_pair : List Str := ["_law_box_here", "_law_levels", "_law_base_here", "_law_mode", "_law_one", "_law_two", "_law_level_here"]
abbrev p_l_pair : List Str := ["_law_box_here", "_law_levels", "_law_base_here"]
theorem sc_l_pair : FnScope n_l_pair p_l_pair (defScope s_l_pair) := ⟨rfl, rfl, rfl, by decide +kernel, rfl, by decide +kernel, by decide +kernel⟩
def d_l_pair : DefD := ⟨("_law_pair", none), "_law_pair", "_law_pair", defArgs s_l_pair, defBody s_l_pair, defScope s_l_pair, [], []⟩
abbrev s_l_bounded : Stmt := (top 52)
abbrev n_l_bounded : List Str := ["_law_letters", "_law_bits", "_law_room", "_law_differing"]
abbrev p_l_bounded : List Str := ["_law_letters", "_law_bits", "_law_room", "_law_differing"]
theorem sc_l_bounded : FnScope n_l_bounded p_l_bounded (defScope s_l_bounded) := ⟨rfl, rfl, rfl, by decide +kernel, rfl, by decide +kernel, by decide +kernel⟩
def d_l_bounded : DefD := ⟨("_law_bounded", none), "_law_bounded", "_law_bounded", defArgs s_l_bounded, defBody s_l_bounded, defScope s_l_bounded, [], []⟩
abbrev s_l_hold : Stmt := (top 51)
abbrev n_l_hold : List Str := ["_law_books", "_law_levels", "_law_salt", "_law_k"]
abbrev p_l_hold : List Str := ["_law_books", "_law_levels", "_law_salt"]
theorem sc_l_hold : FnScope n_l_hold p_l_hold (defScope s_l_hold) := ⟨rfl, rfl, rfl, by decide +kernel, rfl, by decide +kernel, by decide +kernel⟩
def d_l_hold : DefD := ⟨("_law_hold", none), "_law_hold", "_law_hold", defArgs s_l_hold, defBody s_l_hold, defScope s_l_hold, [], []⟩
abbrev s_l_read : Stmt := (top 50)
abbrev n_l_read : List Str := ["_law_book_here", "_law_own", "_law_both", "_law_salt", "_law_rows_here", "_law_levels", "_law_place", "_law_seat", "_law_level_here"]
abbrev p_l_read : List Str := ["_law_book_here", "_law_own", "_law_both", "_law_salt"]
theorem sc_l_read : FnScope n_l_read p_l_read (defScope s_l_read) := ⟨rfl, rfl, rfl, by decide +kernel, rfl, by decide +kernel, by decide +kernel⟩
def d_l_read : DefD := ⟨("_law_read", none), "_law_read", "_law_read", defArgs s_l_read, defBody s_l_read, defScope s_l_read, [], []⟩
abbrev s_l_must_join : Stmt := (top 53)
abbrev n_l_must_join : List Str := ["_law_levels", "_law_less", "_law_more", "_law_seat"]
abbrev p_l_must_join : List Str := ["_law_levels"]
theorem sc_l_must_join : FnScope n_l_must_join p_l_must_join (defScope s_l_must_join) := ⟨rfl, rfl, rfl, by decide +kernel, rfl, by decide +kernel, by decide +kernel⟩
def d_l_must_join : DefD := ⟨("_law_must_join", none), "_law_must_join", "_law_must_join", defArgs s_l_must_join, defBody s_l_must_join, defScope s_l_must_join, [], []⟩
abbrev s_l_results : Stmt := (top 54)
abbrev n_l_results : List Str := ["_law_found", "_law_levels", "_law_both", "_law_salt", "_law_part", "_law_room", "_law_known", "_law_k", "_law_now", "_law_seat"]
abbrev p_l_results : List Str := ["_law_found", "_law_levels", "_law_both", "_law_salt", "_law_part", "_law_room"]
theorem sc_l_results : FnScope n_l_results p_l_results (defScope s_l_results) := ⟨rfl, rfl, rfl, by decide +kernel, rfl, by decide +kernel, by decide +kernel⟩
def d_l_results : DefD := ⟨("_law_results", none), "_law_results", "_law_results", defArgs s_l_results, defBody s_l_results, defScope s_l_results, [], []⟩
abbrev s_l_left_out : Stmt := (top 55)
abbrev n_l_left_out : List Str := ["_law_setting", "_law_books", "_law_levels", "_law_both", "_law_salt", "_law_room", "_law_short", "_law_full", "_law_known"]
abbrev p_l_left_out : List Str := ["_law_setting", "_law_books", "_law_levels", "_law_both", "_law_salt", "_law_room"]
theorem sc_l_left_out : FnScope n_l_left_out p_l_left_out (defScope s_l_left_out) := ⟨rfl, rfl, rfl, by decide +kernel, rfl, by decide +kernel, by decide +kernel⟩
def d_l_left_out : DefD := ⟨("_law_left_out", none), "_law_left_out", "_law_left_out", defArgs s_l_left_out, defBody s_l_left_out, defScope s_l_left_out, [], []⟩
abbrev s_law : Stmt := (top 56)
abbrev n_law : List Str := ["_law_script", "_law_box_here", "_law_bits", "_law_many", "_law_free", "_law_room", "_law_setting", "_law_base_here", "_law_salt", "_law_levels", "_law_both", "_law_books", "_law_elder", "_law_kept", "_law_lanes", "_law_start", "_law_back", "_law_k", "_law_part", "_law_differing", "_law_found", "_law_known", "_law_seat", "_law_level_here", "_law_turn", "_law_at"]
abbrev p_law : List Str := ["_law_script"]
theorem sc_law : FnScope n_law p_law (defScope s_law) := ⟨rfl, rfl, rfl, by decide +kernel, rfl, by decide +kernel, by decide +kernel⟩
def d_law : DefD := ⟨("law", none), "law", "law", defArgs s_law, defBody s_law, defScope s_law, [], []⟩
def fn : List DefD := [d_l_whole, d_l_box, d_l_mixed, d_l_take, d_l_base, d_l_level, d_l_worth, d_l_saying, d_l_rows, d_whole, d_Setting_init, d_is_worth, d_life_ok, d_is_saying, d_check_saying, d_rank, d__is_later, d__latest_rows, d_Book_init, d_Book_take, d_Book_of, d_Book_held, d_Book_rows, d_Book_rank_of, d_l_book, d_l_is_saying, d_l_same, d_moments, d_Side__own_sum, d_halves, d_Side__answer_sum, d_Side__accept, d_Side__receive_saying, d_Side_receive, d_Side_init, d_Side_begin, d_Side_next_items, d__hand_over, d_Book_copy, d_reconcile, d_l_few, d_l_above, d_l_vector, d_l_pair, d_l_bounded, d_l_hold, d_l_read, d_l_must_join, d_l_results, d_l_left_out, d_law]
def fa : List Fa := [.free "abs", .free "all", .free "bool", .free "int", .free "isinstance", .free "len", .free "list", .free "max", .free "min", .free "range", .free "sorted", .free "str", .free "tuple", .glo "_law_whole", .glo "_law_box", .glo "_law_mixed", .glo "_law_take", .glo "_law_base", .glo "_law_level", .glo "_law_worth", .glo "_law_saying", .glo "_law_rows", .glo "whole", .glo "is_worth", .glo "life_ok", .glo "is_saying", .glo "check_saying", .glo "rank", .glo "_is_later", .glo "_latest_rows", .meth "Book" "take", .meth "Book" "of", .meth "Book" "held", .meth "Book" "rows", .meth "Book" "rank_of", .glo "_law_book", .glo "_law_is_saying", .glo "_law_same", .glo "moments", .meth "Side" "_own_sum", .glo "halves", .meth "Side" "_answer_sum", .meth "Side" "_accept", .meth "Side" "_receive_saying", .meth "Side" "receive", .meth "Side" "begin", .meth "Side" "next_items", .glo "_hand_over", .meth "Book" "copy", .glo "reconcile", .glo "_law_few", .glo "_law_above", .glo "_law_vector", .glo "_law_pair", .glo "_law_bounded", .glo "_law_hold", .glo "_law_read", .glo "_law_must_join", .glo "_law_results", .glo "_law_left_out", .glo "law", .glo "Book", .cls "Book", .mkr "Book", .noat "Book" "_setting", .noat "Book" "_rows", .glo "Setting", .cls "Setting", .mkr "Setting", .noat "Setting" "bits", .noat "Setting" "patience", .noat "Setting" "room", .noat "Setting" "grace", .noat "Setting" "helpers", .glo "Side", .cls "Side", .mkr "Side", .noat "Side" "_setting", .noat "Side" "_book", .noat "Side" "_taker", .noat "Side" "_queue", .glo "MARKS", .int "MOST_LIFE" 999999999999999999999999999999999999999999999999999999999999, .int "WORTH_LENGTH" 12, .str "WORTH_SIGNS" "abcdefghijklmnopqrstuvwxyz0123456789", .int "SAYING_PARTS" 4, .glo "GroupError", .glo "InvalidSetting", .glo "InvalidSaying", .glo "MARK_STEPS"]
def ex (K : PySem.W.Frag) : Bool := (tupA K (He.dflAt ("Book", some "__init__") 0 K) []) && ((valsB K (ga K "MARK_STEPS") [("alive", .int 1), ("suspect", .int 2), ("dead", .int 3), ("left", .int 4)] && tupB K "MARKS" [.str "alive", .str "suspect", .str "dead", .str "left"]) && (conB K "Setting" "MOST_BITS" (.int 8) && (conB K "Setting" "MOST_PATIENCE" (.int 6) && (conB K "Setting" "MOST_ROOM" (.int 64) && (conB K "Setting" "MOST_GRACE" (.int 200) && (conB K "Setting" "MOST_HELPERS" (.int 3)))))))
def ed_InvalidSetting : ErrD := ⟨"InvalidSetting", "field", "an invalid setting", "InvalidSetting.__init__", defArgs (inClass (top 6) 0), defBody (inClass (top 6) 0), defScope (inClass (top 6) 0)⟩
theorem ef_InvalidSetting : ErrF ed_InvalidSetting := ⟨by decide, by decide, by decide, by decide, by decide, ⟨_, _, _, _, _, _, _, _, _, _, _, _, rfl, rfl, rfl, rfl⟩⟩
def ed_InvalidSaying : ErrD := ⟨"InvalidSaying", "saying", "an invalid saying", "InvalidSaying.__init__", defArgs (inClass (top 7) 0), defBody (inClass (top 7) 0), defScope (inClass (top 7) 0)⟩
theorem ef_InvalidSaying : ErrF ed_InvalidSaying := ⟨by decide, by decide, by decide, by decide, by decide, ⟨_, _, _, _, _, _, _, _, _, _, _, _, rfl, rfl, rfl, rfl⟩⟩
def es : List ErrD := [ed_InvalidSetting, ed_InvalidSaying]
theorem efs : ∀ d, d ∈ es → ErrF d := fun d hd => by
  simp only [es, List.mem_cons, List.not_mem_nil, or_false] at hd
  rcases hd with rfl | rfl
  · exact ef_InvalidSetting
  · exact ef_InvalidSaying
def ys : List Str := ["GroupError", "InvalidSetting", "InvalidSaying"]
def tabs : List Tab := [((fun K => ga K "MARK_STEPS"), ["alive", "suspect", "dead", "left"])]
def gs : List GetD := [g_Setting_seats, g_Side_idle]
def tf : List He.Defn := []
abbrev TT (K : PySem.W.Frag) : List (Addr × Str) := []
structure Tb (P : Program) (w : World) (K : PySem.W.Frag) (mg : Str → Option Value) (base : Heap) : Prop where
  t : ∀ p, p ∈ tf.map (He.cT K) → LamX.TabB base mg p.1 p.2
  g : ∀ d, d ∈ gs → PropOf K (ga K d.cls) d.fld (prA K d.cls d.fld) (prG K d.cls d.fld) ∧ ∃ fd, FunD K d.name d.qual d.params d.body d.scope [] [] (prG K d.cls d.fld) fd
  e : ∀ d, d ∈ es → ErrX.ErrT P K mg d.name d.fld (ga K d.name) ∧ ErrS K ys d.name
  d : ∀ t, t ∈ tabs → ∃ es n, KDict K w (t.1 K) es n
theorem er_InvalidSetting {P : Program} {w : World} {K : PySem.W.Frag} {mg : Str → Option Value} {base : Heap} (B : Tb P w K mg base) : ErrX.ErrT P K mg "InvalidSetting" "field" (ga K "InvalidSetting") ∧ ErrS K ys "InvalidSetting" := B.e ed_InvalidSetting (.head _)
theorem er_InvalidSaying {P : Program} {w : World} {K : PySem.W.Frag} {mg : Str → Option Value} {base : Heap} (B : Tb P w K mg base) : ErrX.ErrT P K mg "InvalidSaying" "saying" (ga K "InvalidSaying") ∧ ErrS K ys "InvalidSaying" := B.e ed_InvalidSaying (.tail _ (.head _))
theorem td_MARK_STEPS {P : Program} {w : World} {K : PySem.W.Frag} {mg : Str → Option Value} {base : Heap} (B : Tb P w K mg base) : ∃ es n, KDict K w (ga K "MARK_STEPS") es n := B.d _ (.head _)
abbrev Cx (K : PySem.W.Frag) (mg : Str → Option Value) : Prop := RD.Ctx fa fn ex K mg
section
variable {K : PySem.W.Frag} {mg : Str → Option Value}
theorem fr_abs (T : Cx K mg) : mg "abs" = none := T.fre 0
theorem fr_all (T : Cx K mg) : mg "all" = none := T.fre 1
theorem fr_bool (T : Cx K mg) : mg "bool" = none := T.fre 2
theorem fr_int (T : Cx K mg) : mg "int" = none := T.fre 3
theorem fr_isinstance (T : Cx K mg) : mg "isinstance" = none := T.fre 4
theorem fr_len (T : Cx K mg) : mg "len" = none := T.fre 5
theorem fr_list (T : Cx K mg) : mg "list" = none := T.fre 6
theorem fr_max (T : Cx K mg) : mg "max" = none := T.fre 7
theorem fr_min (T : Cx K mg) : mg "min" = none := T.fre 8
theorem fr_range (T : Cx K mg) : mg "range" = none := T.fre 9
theorem fr_sorted (T : Cx K mg) : mg "sorted" = none := T.fre 10
theorem fr_str (T : Cx K mg) : mg "str" = none := T.fre 11
theorem fr_tuple (T : Cx K mg) : mg "tuple" = none := T.fre 12
theorem gl_l_whole (T : Cx K mg) : mg "_law_whole" = some (.ref (ga K "_law_whole")) := T.glo 13
theorem gl_l_box (T : Cx K mg) : mg "_law_box" = some (.ref (ga K "_law_box")) := T.glo 14
theorem gl_l_mixed (T : Cx K mg) : mg "_law_mixed" = some (.ref (ga K "_law_mixed")) := T.glo 15
theorem gl_l_take (T : Cx K mg) : mg "_law_take" = some (.ref (ga K "_law_take")) := T.glo 16
theorem gl_l_base (T : Cx K mg) : mg "_law_base" = some (.ref (ga K "_law_base")) := T.glo 17
theorem gl_l_level (T : Cx K mg) : mg "_law_level" = some (.ref (ga K "_law_level")) := T.glo 18
theorem gl_l_worth (T : Cx K mg) : mg "_law_worth" = some (.ref (ga K "_law_worth")) := T.glo 19
theorem gl_l_saying (T : Cx K mg) : mg "_law_saying" = some (.ref (ga K "_law_saying")) := T.glo 20
theorem gl_l_rows (T : Cx K mg) : mg "_law_rows" = some (.ref (ga K "_law_rows")) := T.glo 21
theorem gl_whole (T : Cx K mg) : mg "whole" = some (.ref (ga K "whole")) := T.glo 22
theorem gl_is_worth (T : Cx K mg) : mg "is_worth" = some (.ref (ga K "is_worth")) := T.glo 23
theorem gl_life_ok (T : Cx K mg) : mg "life_ok" = some (.ref (ga K "life_ok")) := T.glo 24
theorem gl_is_saying (T : Cx K mg) : mg "is_saying" = some (.ref (ga K "is_saying")) := T.glo 25
theorem gl_check_saying (T : Cx K mg) : mg "check_saying" = some (.ref (ga K "check_saying")) := T.glo 26
theorem gl_rank (T : Cx K mg) : mg "rank" = some (.ref (ga K "rank")) := T.glo 27
theorem gl__is_later (T : Cx K mg) : mg "_is_later" = some (.ref (ga K "_is_later")) := T.glo 28
theorem gl__latest_rows (T : Cx K mg) : mg "_latest_rows" = some (.ref (ga K "_latest_rows")) := T.glo 29
theorem mt_Book_take (T : Cx K mg) : Meth K (ga K "Book") "take" (ma K (ga K "Book") "take") := T.meth 30
theorem mt_Book_of (T : Cx K mg) : Meth K (ga K "Book") "of" (ma K (ga K "Book") "of") := T.meth 31
theorem mt_Book_held (T : Cx K mg) : Meth K (ga K "Book") "held" (ma K (ga K "Book") "held") := T.meth 32
theorem mt_Book_rows (T : Cx K mg) : Meth K (ga K "Book") "rows" (ma K (ga K "Book") "rows") := T.meth 33
theorem mt_Book_rank_of (T : Cx K mg) : Meth K (ga K "Book") "rank_of" (ma K (ga K "Book") "rank_of") := T.meth 34
theorem gl_l_book (T : Cx K mg) : mg "_law_book" = some (.ref (ga K "_law_book")) := T.glo 35
theorem gl_l_is_saying (T : Cx K mg) : mg "_law_is_saying" = some (.ref (ga K "_law_is_saying")) := T.glo 36
theorem gl_l_same (T : Cx K mg) : mg "_law_same" = some (.ref (ga K "_law_same")) := T.glo 37
theorem gl_moments (T : Cx K mg) : mg "moments" = some (.ref (ga K "moments")) := T.glo 38
theorem mt_Side__own_sum (T : Cx K mg) : Meth K (ga K "Side") "_own_sum" (ma K (ga K "Side") "_own_sum") := T.meth 39
theorem gl_halves (T : Cx K mg) : mg "halves" = some (.ref (ga K "halves")) := T.glo 40
theorem mt_Side__answer_sum (T : Cx K mg) : Meth K (ga K "Side") "_answer_sum" (ma K (ga K "Side") "_answer_sum") := T.meth 41
theorem mt_Side__accept (T : Cx K mg) : Meth K (ga K "Side") "_accept" (ma K (ga K "Side") "_accept") := T.meth 42
theorem mt_Side__receive_saying (T : Cx K mg) : Meth K (ga K "Side") "_receive_saying" (ma K (ga K "Side") "_receive_saying") := T.meth 43
theorem mt_Side_receive (T : Cx K mg) : Meth K (ga K "Side") "receive" (ma K (ga K "Side") "receive") := T.meth 44
theorem mt_Side_begin (T : Cx K mg) : Meth K (ga K "Side") "begin" (ma K (ga K "Side") "begin") := T.meth 45
theorem mt_Side_next_items (T : Cx K mg) : Meth K (ga K "Side") "next_items" (ma K (ga K "Side") "next_items") := T.meth 46
theorem gl__hand_over (T : Cx K mg) : mg "_hand_over" = some (.ref (ga K "_hand_over")) := T.glo 47
theorem mt_Book_copy (T : Cx K mg) : Meth K (ga K "Book") "copy" (ma K (ga K "Book") "copy") := T.meth 48
theorem gl_reconcile (T : Cx K mg) : mg "reconcile" = some (.ref (ga K "reconcile")) := T.glo 49
theorem gl_l_few (T : Cx K mg) : mg "_law_few" = some (.ref (ga K "_law_few")) := T.glo 50
theorem gl_l_above (T : Cx K mg) : mg "_law_above" = some (.ref (ga K "_law_above")) := T.glo 51
theorem gl_l_vector (T : Cx K mg) : mg "_law_vector" = some (.ref (ga K "_law_vector")) := T.glo 52
theorem gl_l_pair (T : Cx K mg) : mg "_law_pair" = some (.ref (ga K "_law_pair")) := T.glo 53
theorem gl_l_bounded (T : Cx K mg) : mg "_law_bounded" = some (.ref (ga K "_law_bounded")) := T.glo 54
theorem gl_l_hold (T : Cx K mg) : mg "_law_hold" = some (.ref (ga K "_law_hold")) := T.glo 55
theorem gl_l_read (T : Cx K mg) : mg "_law_read" = some (.ref (ga K "_law_read")) := T.glo 56
theorem gl_l_must_join (T : Cx K mg) : mg "_law_must_join" = some (.ref (ga K "_law_must_join")) := T.glo 57
theorem gl_l_results (T : Cx K mg) : mg "_law_results" = some (.ref (ga K "_law_results")) := T.glo 58
theorem gl_l_left_out (T : Cx K mg) : mg "_law_left_out" = some (.ref (ga K "_law_left_out")) := T.glo 59
theorem gl_law (T : Cx K mg) : mg "law" = some (.ref (ga K "law")) := T.glo 60
theorem gl_Book (T : Cx K mg) : mg "Book" = some (.ref (ga K "Book")) := T.glo 61
theorem cl_Book (T : Cx K mg) : Cls K (ga K "Book") := T.cls 62
theorem mk_Book (T : Cx K mg) : Mk K (ga K "Book") (ma K (ga K "Book") "__init__") := T.mkr 63
theorem na_Book__setting (T : Cx K mg) : NoAttr K (ga K "Book") "_setting" := T.noat 64
theorem na_Book__rows (T : Cx K mg) : NoAttr K (ga K "Book") "_rows" := T.noat 65
theorem gl_Setting (T : Cx K mg) : mg "Setting" = some (.ref (ga K "Setting")) := T.glo 66
theorem cl_Setting (T : Cx K mg) : Cls K (ga K "Setting") := T.cls 67
theorem mk_Setting (T : Cx K mg) : Mk K (ga K "Setting") (ma K (ga K "Setting") "__init__") := T.mkr 68
theorem na_Setting_bits (T : Cx K mg) : NoAttr K (ga K "Setting") "bits" := T.noat 69
theorem na_Setting_patience (T : Cx K mg) : NoAttr K (ga K "Setting") "patience" := T.noat 70
theorem na_Setting_room (T : Cx K mg) : NoAttr K (ga K "Setting") "room" := T.noat 71
theorem na_Setting_grace (T : Cx K mg) : NoAttr K (ga K "Setting") "grace" := T.noat 72
theorem na_Setting_helpers (T : Cx K mg) : NoAttr K (ga K "Setting") "helpers" := T.noat 73
theorem gl_Side (T : Cx K mg) : mg "Side" = some (.ref (ga K "Side")) := T.glo 74
theorem cl_Side (T : Cx K mg) : Cls K (ga K "Side") := T.cls 75
theorem mk_Side (T : Cx K mg) : Mk K (ga K "Side") (ma K (ga K "Side") "__init__") := T.mkr 76
theorem na_Side__setting (T : Cx K mg) : NoAttr K (ga K "Side") "_setting" := T.noat 77
theorem na_Side__book (T : Cx K mg) : NoAttr K (ga K "Side") "_book" := T.noat 78
theorem na_Side__taker (T : Cx K mg) : NoAttr K (ga K "Side") "_taker" := T.noat 79
theorem na_Side__queue (T : Cx K mg) : NoAttr K (ga K "Side") "_queue" := T.noat 80
theorem gl_MARKS (T : Cx K mg) : mg "MARKS" = some (.ref (ga K "MARKS")) := T.glo 81
theorem gl_MOST_LIFE (T : Cx K mg) : ∃ u, mg "MOST_LIFE" = some u ∧ RelV (.int 999999999999999999999999999999999999999999999999999999999999) u := let ⟨t, h⟩ := T.int (x := "MOST_LIFE") (z := 999999999999999999999999999999999999999999999999999999999999) 82; ⟨_, h, t, rfl⟩
theorem gl_WORTH_LENGTH (T : Cx K mg) : ∃ u, mg "WORTH_LENGTH" = some u ∧ RelV (.int 12) u := let ⟨t, h⟩ := T.int (x := "WORTH_LENGTH") (z := 12) 83; ⟨_, h, t, rfl⟩
theorem gl_WORTH_SIGNS (T : Cx K mg) : ∃ u, mg "WORTH_SIGNS" = some u ∧ RelV (.str "abcdefghijklmnopqrstuvwxyz0123456789") u := let ⟨t, h⟩ := T.str (x := "WORTH_SIGNS") (z := "abcdefghijklmnopqrstuvwxyz0123456789") 84; ⟨_, h, t, rfl⟩
theorem gl_SAYING_PARTS (T : Cx K mg) : ∃ u, mg "SAYING_PARTS" = some u ∧ RelV (.int 4) u := let ⟨t, h⟩ := T.int (x := "SAYING_PARTS") (z := 4) 85; ⟨_, h, t, rfl⟩
theorem gl_GroupError (T : Cx K mg) : mg "GroupError" = some (.ref (ga K "GroupError")) := T.glo 86
theorem gl_InvalidSetting (T : Cx K mg) : mg "InvalidSetting" = some (.ref (ga K "InvalidSetting")) := T.glo 87
theorem gl_InvalidSaying (T : Cx K mg) : mg "InvalidSaying" = some (.ref (ga K "InvalidSaying")) := T.glo 88
theorem gl_MARK_STEPS (T : Cx K mg) : mg "MARK_STEPS" = some (.ref (ga K "MARK_STEPS")) := T.glo 89
end

/-- the numbers of a setting -/
structure Stg where
  bits : Int
  pat : Int
  room : Int
  grace : Int
  hel : Int
structure Stg.Ok (s : Stg) : Prop where
  b0 : 1 ≤ s.bits
  b1 : s.bits ≤ 8
  p0 : 1 ≤ s.pat
  p1 : s.pat ≤ 6
  r0 : 1 ≤ s.room
  r1 : s.room ≤ 64
  g0 : 1 ≤ s.grace
  g1 : s.grace ≤ 200
  h0 : 0 ≤ s.hel
  h1 : s.hel ≤ 3
@[irreducible] def Stg.ring (s : Stg) : Int := 2 ^ s.bits.toNat
theorem Stg.ring_eq (s : Stg) : s.ring = 2 ^ s.bits.toNat := by
  unfold Stg.ring
  rfl
def Stg.fs (s : Stg) : List (Str × V) := [(("bits" : Str), .int s.bits), (("patience" : Str), .int s.pat), (("room" : Str), .int s.room), (("grace" : Str), .int s.grace), (("helpers" : Str), .int s.hel)]
theorem Stg.Ok.ring {s : Stg} (h : s.Ok) : s.ring = 2 ∨ s.ring = 4 ∨ s.ring = 8 ∨ s.ring = 16 ∨ s.ring = 32 ∨ s.ring = 64 ∨ s.ring = 128 ∨ s.ring = 256 := by
  have h0 := h.b0
  have h1 := h.b1
  have e : s.bits = 1 ∨ s.bits = 2 ∨ s.bits = 3 ∨ s.bits = 4 ∨ s.bits = 5 ∨ s.bits = 6 ∨ s.bits = 7 ∨ s.bits = 8 := by omega
  rw [Stg.ring_eq]
  rcases e with e | e | e | e | e | e | e | e <;> rw [e] <;> decide
theorem Stg.Ok.r2 {s : Stg} (h : s.Ok) : 2 ≤ s.ring := by
  have := h.ring
  omega
theorem Stg.Ok.r256 {s : Stg} (h : s.Ok) : s.ring ≤ 256 := by
  have := h.ring
  omega
/-- a setting stands at p -/
structure SetAt (K : PySem.W.Frag) (H : Hp) (p : Addr) (s : Stg) : Prop where
  ex : ∃ dx : Addr, H p = some (.ins (ga K "Setting") dx s.fs)
  ok : s.Ok
theorem SetAt.kp {K : PySem.W.Frag} {H H' : Hp} {p : Addr} {s : Stg} {ps : List Addr} (S : SetAt K H p s) (k : Kp ps H H') (n : p ∉ ps) : SetAt K H' p s := by
  obtain ⟨⟨dx, h⟩, ok⟩ := S
  exact ⟨⟨dx, k _ _ h n⟩, ok⟩
theorem SetAt.k0 {K : PySem.W.Frag} {H H' : Hp} {p : Addr} {s : Stg} (S : SetAt K H p s) (k : Kp [] H H') : SetAt K H' p s := S.kp k (by simp)
theorem SetAt.k1 {K : PySem.W.Frag} {H H' : Hp} {p q : Addr} {s : Stg} (S : SetAt K H p s) (k : Kp [q] H H') (n : p ≠ q) : SetAt K H' p s := S.kp k (by simp [n])
theorem SetAt.kt {K : PySem.W.Frag} {H H' : Hp} {p : Addr} {s : Stg} {TT : List (Addr × Str)} (S : SetAt K H p s) (k : Kt TT [] H H') : SetAt K H' p s := by
  obtain ⟨⟨dx, h⟩, ok⟩ := S
  exact ⟨⟨dx, k.g0 (by intro _ z; cases z) h⟩, ok⟩
theorem SetAt.nelst {K : PySem.W.Frag} {H : Hp} {p q : Addr} {s : Stg} {xs : List V} (S : SetAt K H p s) (h : H q = some (.lst xs)) : p ≠ q := by
  obtain ⟨⟨dx, e⟩, ok⟩ := S
  exact ne_of e h (by intro z; cases z)

theorem SetAt.neins {K : PySem.W.Frag} {H : Hp} {p q C dx : Addr} {s : Stg} {f : Str} {v : V} {fs : List (Str × V)} (S : SetAt K H p s) (h : H q = some (.ins C dx ((f, v) :: fs))) (n : f ≠ "bits") : p ≠ q := by
  obtain ⟨⟨dx, e⟩, ok⟩ := S
  refine ne_of e h fun z => ?_
  injection z with _ _ e1
  injection e1 with e2 _
  injection e2 with e3
  exact n e3.symm
theorem SetAt.neins' {K : PySem.W.Frag} {H : Hp} {p q C dx : Addr} {s : Stg} (S : SetAt K H p s) (h : H q = some (.ins C dx [])) : p ≠ q := by
  obtain ⟨⟨dx, e⟩, ok⟩ := S
  refine ne_of e h fun z => ?_
  injection z with _ _ e1
  cases e1
theorem SetAt.nedK {K : PySem.W.Frag} {H : Hp} {p q : Addr} {s : Stg} {xs : List (Key × V)} (S : SetAt K H p s) (h : H q = some (.dK xs)) : p ≠ q := by
  obtain ⟨⟨dx, e⟩, ok⟩ := S
  exact ne_of e h (by intro z; cases z)
theorem con_MOST_BITS {K : PySem.W.Frag} {mg : Str → Option Value} (T : Cx K mg) : ∃ u, Con K (ga K "Setting") "MOST_BITS" (.int 8) u := conB_ok (v := .int 8) (ba (ba (ba T.ex).2).2).1
theorem con_MOST_PATIENCE {K : PySem.W.Frag} {mg : Str → Option Value} (T : Cx K mg) : ∃ u, Con K (ga K "Setting") "MOST_PATIENCE" (.int 6) u := conB_ok (v := .int 6) (ba (ba (ba (ba T.ex).2).2).2).1
theorem con_MOST_ROOM {K : PySem.W.Frag} {mg : Str → Option Value} (T : Cx K mg) : ∃ u, Con K (ga K "Setting") "MOST_ROOM" (.int 64) u := conB_ok (v := .int 64) (ba (ba (ba (ba (ba T.ex).2).2).2).2).1
theorem con_MOST_GRACE {K : PySem.W.Frag} {mg : Str → Option Value} (T : Cx K mg) : ∃ u, Con K (ga K "Setting") "MOST_GRACE" (.int 200) u := conB_ok (v := .int 200) (ba (ba (ba (ba (ba (ba T.ex).2).2).2).2).2).1
theorem con_MOST_HELPERS {K : PySem.W.Frag} {mg : Str → Option Value} (T : Cx K mg) : ∃ u, Con K (ga K "Setting") "MOST_HELPERS" (.int 3) u := conB_ok (v := .int 3) (ba (ba (ba (ba (ba (ba T.ex).2).2).2).2).2).2

structure Sy where
  s : Int
  l : Int
  m : Str
  w : Str
  deriving DecidableEq
def Sy.tup (y : Sy) : List V := [.int y.s, .int y.l, .str y.m, .str y.w]
abbrev SyAt (H : Hp) (t : Addr) (y : Sy) : Prop := H t = some (.tup y.tup)
abbrev RowT (H : Hp) (d : Addr) (xs : List (Addr × Sy)) : Prop := TD Sy.s Sy.tup H d xs
def MK : List Str := ["alive", "suspect", "dead", "left"]
def stepM (m : Str) : Int := if m = ("alive" : Str) then 1 else if m = ("suspect" : Str) then 2 else if m = ("dead" : Str) then 3 else 4
def SIGNS : Str := "abcdefghijklmnopqrstuvwxyz0123456789"
def wOk (t : Str) : Bool := decide (t.length ≤ 12) && t.cps.toList.all fun c => decide (c ∈ SIGNS.cps.toList)
def MOST : Int := 10 ^ 60 - 1
def syOk (r : Int) (y : Sy) : Bool := ((decide (0 ≤ y.s) && decide (y.s ≤ r - 1)) && (decide (0 ≤ y.l) && decide (y.l ≤ MOST))) && (decide (y.m ∈ MK) && wOk y.w)
def rk (y : Sy) : Int := 4 * y.l + stepM y.m
def rkO : Option Sy → Int
  | none => 0
  | some y => rk y
def takeT (xs : List (Addr × Sy)) (p : Addr × Sy) : List (Addr × Sy) := if rkO ((fdT Sy.s xs p.2.s).map (·.2)) < rk p.2 then ptT Sy.s xs p else xs
theorem syOk_iff {r : Int} {y : Sy} : syOk r y = true ↔ (0 ≤ y.s ∧ y.s ≤ r - 1) ∧ (0 ≤ y.l ∧ y.l ≤ MOST) ∧ y.m ∈ MK ∧ wOk y.w = true := by
  unfold syOk
  simp only [Bool.and_eq_true, decide_eq_true_eq]
  constructor
  · rintro ⟨⟨a, b⟩, c, d⟩
    exact ⟨a, b, c, d⟩
  · rintro ⟨a, b, c, d⟩
    exact ⟨⟨a, b⟩, c, d⟩
theorem wOk_len {t : Str} (h : wOk t = true) : t.length ≤ 12 := of_decide_eq_true (Bool.and_eq_true_iff.mp h).1
theorem stepM_b {m : Str} (h : m ∈ MK) : 1 ≤ stepM m ∧ stepM m ≤ 4 := by
  unfold stepM
  split
  · omega
  · split
    · omega
    · split <;> omega
theorem rk_pos {y : Sy} (h : 0 ≤ y.l) (m : y.m ∈ MK) : 0 < rk y := by
  have := stepM_b m
  unfold rk
  omega
/-- a saying, or None -/
def IsY (H : Hp) (v : V) : Option Sy → Prop
  | none => v = .non
  | some y => ∃ t, v = .ref t ∧ SyAt H t y
theorem IsY.kp {H H' : Hp} {v : V} {o : Option Sy} (h : IsY H v o) (k : Kp [] H H') : IsY H' v o := by
  cases o with
  | none => exact h
  | some y =>
    obtain ⟨t, e, h⟩ := h
    exact ⟨t, e, k.g0 h⟩
/-- the list l holds these sayings -/
structure SyL (H : Hp) (l : Addr) (ps : List (Addr × Sy)) : Prop where
  at_ : H l = some (.lst (ps.map fun p => V.ref p.1))
  ob : ∀ p, p ∈ ps → SyAt H p.1 p.2
theorem SyL.k0 {H H' : Hp} {l : Addr} {ps : List (Addr × Sy)} (B : SyL H l ps) (k : Kp [] H H') : SyL H' l ps := ⟨k.g0 B.at_, fun p hp => k.g0 (B.ob p hp)⟩
theorem _root_.RD.TD.findY {H : Hp} {d : Addr} {xs : List (Addr × Sy)} (B : RowT H d xs) (k : Int) : IsY H (((valV (kvT Sy.s xs) (.inl k))).getD .non) ((fdT Sy.s xs k).map (·.2)) := by
  rw [kvT_val]
  cases e : fdT Sy.s xs k with
  | none => rfl
  | some p => exact ⟨p.1, rfl, B.find e⟩
theorem takeT_pos {xs : List (Addr × Sy)} {p : Addr × Sy} (h : rkO ((fdT Sy.s xs p.2.s).map (·.2)) < rk p.2) : takeT xs p = ptT Sy.s xs p := if_pos h
theorem takeT_neg {xs : List (Addr × Sy)} {p : Addr × Sy} (h : ¬ rkO ((fdT Sy.s xs p.2.s).map (·.2)) < rk p.2) : takeT xs p = xs := if_neg h
theorem takeT_mem {xs : List (Addr × Sy)} {p q : Addr × Sy} (h : q ∈ takeT xs p) : q = p ∨ q ∈ xs := by
  unfold takeT at h
  split at h
  · exact ptT_mem h
  · exact .inr h
theorem takeT_len (xs : List (Addr × Sy)) (p : Addr × Sy) : (takeT xs p).length ≤ xs.length + 1 := by
  unfold takeT
  split
  · exact ptT_len _ _ _
  · omega
theorem foldT_mem {q : Addr × Sy} : ∀ {ps xs : List (Addr × Sy)}, q ∈ ps.foldl takeT xs → q ∈ ps ∨ q ∈ xs
  | [], _, h => .inr h
  | p :: r, xs, h => by
    rcases foldT_mem (ps := r) (xs := takeT xs p) h with h | h
    · exact .inl (List.mem_cons_of_mem _ h)
    · rcases takeT_mem h with rfl | h
      · exact .inl (List.mem_cons_self ..)
      · exact .inr h
theorem foldT_len : ∀ (ps xs : List (Addr × Sy)), (ps.foldl takeT xs).length ≤ xs.length + ps.length
  | [], xs => by simp
  | p :: r, xs => by
    have h1 := foldT_len r (takeT xs p)
    have h2 := takeT_len xs p
    simp only [List.foldl_cons, List.length_cons]
    omega
theorem takeT_new {xs : List (Addr × Sy)} {p : Addr × Sy} (h : ∀ q, q ∈ xs → q.2.s ≠ p.2.s) (hp : 0 < rk p.2) : takeT xs p = xs ++ [p] := by
  have e : fdT Sy.s xs p.2.s = none := List.find?_eq_none.mpr fun q hq z => h q hq (of_decide_eq_true z)
  unfold takeT
  rw [e, if_pos (show rkO (Option.map (·.2) (none : Option (Addr × Sy))) < rk p.2 from hp)]
  unfold ptT
  rw [if_neg (fun z => by
    obtain ⟨q, hq, e⟩ := List.any_eq_true.mp z
    exact h q hq (of_decide_eq_true e))]
theorem foldT_new : ∀ (ps xs : List (Addr × Sy)), ((xs ++ ps).map fun p => p.2.s).Nodup → (∀ p, p ∈ ps → 0 < rk p.2) → ps.foldl takeT xs = xs ++ ps
  | [], xs, _, _ => by simp
  | p :: r, xs, h, hr => by
    have e : xs ++ p :: r = (xs ++ [p]) ++ r := by simp
    have h2 : ∀ q, q ∈ xs → q.2.s ≠ p.2.s := fun q hq z => by
      rw [List.map_append] at h
      have := (List.nodup_append.mp h).2.2 q.2.s (List.mem_map_of_mem hq) p.2.s (by simp)
      exact this z
    show r.foldl takeT (takeT xs p) = _
    rw [takeT_new h2 (hr p (List.mem_cons_self ..)), e]
    rw [e] at h
    exact foldT_new r (xs ++ [p]) h fun q hq => hr q (List.mem_cons_of_mem _ hq)
/-! the marks -/
theorem step_kd {P : Program} {w : World} {K : PySem.W.Frag} {mg : Str → Option Value} {base : Heap} (T : Cx K mg) (B : Tb P w K mg base) {m : Str} (h : m ∈ MK) : KDct K w (ga K "MARK_STEPS") m (.int (stepM m)) := by
  obtain ⟨es, n, D⟩ := td_MARK_STEPS B
  have e := (ba (ba (ba T.ex).2).1).1
  unfold MK at h
  simp only [List.mem_cons, List.not_mem_nil, or_false] at h
  rcases h with rfl | rfl | rfl | rfl
  · exact kdct_of D e (d := .int 1) (by simp)
  · exact kdct_of D e (d := .int 2) (by simp)
  · exact kdct_of D e (d := .int 3) (by simp)
  · exact kdct_of D e (d := .int 4) (by simp)
theorem tup_MARKS {K : PySem.W.Frag} {mg : Str → Option Value} (T : Cx K mg) (H : Hp) : SqT K H (ga K "MARKS") (MK.map V.str) := tupB_ok (vs := [.str "alive", .str "suspect", .str "dead", .str "left"]) (ba (ba (ba T.ex).2).1).2 H
/-! sayings as data -/
def dSy (y : Sy) : PyData := .tuple [.int y.s, .int y.l, .str y.m, .str y.w]
theorem dSy_eqv (a b : Sy) : PyData.eqv (dSy a) (dSy b) = decide (a = b) := by
  obtain ⟨a1, a2, a3, a4⟩ := a
  obtain ⟨b1, b2, b3, b4⟩ := b
  unfold dSy
  simp only [PyData.eqv, PyData.eqvAll, Bool.and_true, Sy.mk.injEq]
  by_cases h1 : a1 = b1 <;> by_cases h2 : a2 = b2 <;> by_cases h3 : a3 = b3 <;> by_cases h4 : a4 = b4 <;> simp [h1, h2, h3, h4]
theorem dSys_eqv : ∀ ps qs : List Sy, PyData.eqvAll (ps.map dSy) (qs.map dSy) = decide (ps = qs)
  | [], [] => by simp [PyData.eqvAll]
  | [], q :: qs => by simp [PyData.eqvAll]
  | p :: ps, [] => by simp [PyData.eqvAll]
  | p :: ps, q :: qs => by
    simp only [List.map_cons, PyData.eqvAll, dSy_eqv, dSys_eqv ps qs, List.cons.injEq]
    by_cases h1 : p = q <;> by_cases h2 : ps = qs <;> simp [h1, h2]
def Sy.T (y : Sy) : Prop := PyData.strOk y.m = true ∧ PyData.strOk y.w = true
theorem Sy.T.of {r : Int} {y : Sy} (h : syOk r y = true) : y.T := by
  obtain ⟨-, -, hm, hw⟩ := syOk_iff.mp h
  constructor
  · unfold MK at hm
    simp only [List.mem_cons, List.not_mem_nil, or_false] at hm
    rcases hm with e | e | e | e <;> rw [e] <;> decide +kernel
  · have h2 := (Bool.and_eq_true_iff.mp hw).2
    unfold PyData.strOk
    rw [← Array.all_toList, List.all_eq_true]
    intro c hc
    have h3 := of_decide_eq_true (List.all_eq_true.mp h2 c hc)
    have h4 : ∀ c, c ∈ SIGNS.cps.toList → decide (c < 0x110000) = true := by decide +kernel
    exact h4 c h3
theorem dSys_lay : ∀ ps : List Sy, (∀ p, p ∈ ps → p.T) → PyData.canLayAll0 (ps.map dSy) = true
  | [], _ => by simp [PyData.canLayAll0]
  | p :: r, h => by
    have h1 := h p (List.mem_cons_self ..)
    have h2 := dSys_lay r fun q hq => h q (List.mem_cons_of_mem _ hq)
    simp [PyData.canLayAll0, h2, dSy, PyData.canLay0, h1.1, h1.2]
theorem dSys_depth : ∀ ps : List Sy, PyData.depthAll (ps.map dSy) ≤ 2
  | [] => by simp [PyData.depthAll]
  | p :: r => by
    have := dSys_depth r
    simp only [List.map_cons, PyData.depthAll, dSy, PyData.depth]
    omega
theorem dSy_shaped {y : Sy} (h : y.T) : SeqAt.shaped (dSy y) = true := Bool.and_eq_true_iff.mpr ⟨by simp [dSy, PyData.canLay0, PyData.canLayAll0, h.1, h.2], decide_eq_true (by simp [dSy, PyData.depth, PyData.depthAll])⟩
theorem dSyL_shaped {ps : List Sy} (h : ∀ p, p ∈ ps → p.T) : SeqAt.shaped (.list (ps.map dSy)) = true := Bool.and_eq_true_iff.mpr ⟨by simp only [PyData.canLay0, dSys_lay ps h], decide_eq_true (by
  have := dSys_depth ps
  simp only [PyData.depth]
  omega)⟩
theorem dp_sy {K : PySem.W.Frag} {H : Hp} {t : Addr} {y : Sy} (h : SyAt H t y) : Dp K H (.ref t) (dSy y) := .tup (SqT.of h) (.cons (.int _) (.cons (.int _) (.cons (.str _) (.cons (.str _) .nil))))
theorem dp_sys {K : PySem.W.Frag} {H : Hp} : ∀ {ps : List (Addr × Sy)}, (∀ p, p ∈ ps → SyAt H p.1 p.2) → DpAll K H (ps.map fun p => V.ref p.1) ((ps.map (·.2)).map dSy)
  | [], _ => .nil
  | p :: r, h => .cons (dp_sy (h p (List.mem_cons_self ..))) (dp_sys fun q hq => h q (List.mem_cons_of_mem _ hq))
theorem rd_neSy {K : PySem.W.Frag} {H : Hp} {Q : VK} {a b : Addr} {x y : Sy} (h1 : SyAt H a x) (h2 : SyAt H b y) (t1 : x.T) (t2 : y.T) (q : Q (.bl (!decide (x = y))) H) : rNeD K (.ref a) (.ref b) H Q :=
  ⟨dSy x, dSy y, dp_sy h1, dp_sy h2, dSy_shaped t1, dSy_shaped t2, by
    rw [dSy_eqv]
    exact q⟩
theorem mem_snd {ps : List (Addr × Sy)} (h : ∀ p, p ∈ ps → p.2.T) : ∀ y, y ∈ ps.map (·.2) → y.T := fun y hy => by
  obtain ⟨p, hp, rfl⟩ := List.mem_map.mp hy
  exact h p hp
theorem rd_eqSyL {K : PySem.W.Frag} {H : Hp} {Q : VK} {a b : Addr} {ps qs : List (Addr × Sy)} (h1 : SyL H a ps) (h2 : SyL H b qs) (t1 : ∀ p, p ∈ ps → p.2.T) (t2 : ∀ p, p ∈ qs → p.2.T) (q : Q (.bl (decide (ps.map (·.2) = qs.map (·.2)))) H) : rEqD K (.ref a) (.ref b) H Q :=
  ⟨.list ((ps.map (·.2)).map dSy), .list ((qs.map (·.2)).map dSy), .lst (SqL.of h1.at_) (dp_sys h1.ob), .lst (SqL.of h2.at_) (dp_sys h2.ob), dSyL_shaped (mem_snd t1), dSyL_shaped (mem_snd t2), by
    simp only [PyData.eqv]
    rw [dSys_eqv]
    exact q⟩
theorem st_new {K : PySem.W.Frag} {H : Hp} {l d : Addr} {o : HO} {xs : List V} (nd : H d = none) (h : SqT K H l xs) : SqT K (upd H d o) l xs := by
  rcases h with h | h
  · rcases h with h | ⟨q, h⟩
    · exact .inl (.inl (hu_ne (ne_of_none h nd) h))
    · exact .inl (.inr ⟨q, hu_ne (ne_of_none h nd) h⟩)
  · exact .inr h
theorem st_ins {K : PySem.W.Frag} {H : Hp} {l b C dx : Addr} {fs : List (Str × V)} {o : HO} {xs : List V} (hb : H b = some (.ins C dx fs)) (h : SqT K H l xs) : SqT K (upd H b o) l xs := by
  rcases h with h | h
  · rcases h with h | ⟨q, h⟩
    · exact .inl (.inl (hu_ne (ne_of h hb (by intro z; cases z)) h))
    · exact .inl (.inr ⟨q, hu_ne (ne_of h hb (by intro z; cases z)) h⟩)
  · exact .inr h
/-- a list of sayings, or the empty tuple -/
def LsT (K : PySem.W.Frag) (H : Hp) (l : Addr) (ps : List (Addr × Sy)) : Prop := SyL H l ps ∨ (ps = [] ∧ SqT K H l [])
/-- a book -/
structure BookAt (K : PySem.W.Frag) (H : Hp) (b s d : Addr) (xs : List (Addr × Sy)) : Prop where
  ob : ∃ dx, H b = some (.ins (ga K "Book") dx [(("_setting" : Str), .ref s), (("_rows" : Str), .ref d)])
  ro : RowT H d xs
theorem BookAt.k0 {K : PySem.W.Frag} {H H' : Hp} {b s d : Addr} {xs : List (Addr × Sy)} (B : BookAt K H b s d xs) (k : Kp [] H H') : BookAt K H' b s d xs := by
  obtain ⟨⟨dx, h⟩, r⟩ := B
  exact ⟨⟨dx, k.g0 h⟩, r.k0 k⟩
def rowsL (xs : List (Addr × Sy)) : List (Addr × Sy) := (srt ((xs.map (·.2)).map Sy.s)).filterMap fun k => fdT Sy.s xs k
theorem fdT_key {α : Type} {key : α → Int} {xs : List (Addr × α)} {k : Int} (h : k ∈ (xs.map (·.2)).map key) : ∃ p, fdT key xs k = some p := by
  cases e : fdT key xs k with
  | some p => exact ⟨p, rfl⟩
  | none =>
    obtain ⟨y, hy, rfl⟩ := List.mem_map.mp h
    obtain ⟨p, hp, rfl⟩ := List.mem_map.mp hy
    exact absurd (decide_eq_true rfl) (List.find?_eq_none.mp e p hp)
theorem rowsL_take {xs : List (Addr × Sy)} {os : List Int} (h : ∀ k, k ∈ os → k ∈ (xs.map (·.2)).map Sy.s) {f : Int → Addr × Sy} (hf : ∀ k, k ∈ os → fdT Sy.s xs k = some (f k)) : os.filterMap (fun k => fdT Sy.s xs k) = os.map f := by
  induction os with
  | nil => rfl
  | cons k r ih => rw [List.filterMap_cons_some (hf k (List.mem_cons_self ..)), List.map_cons, ih (fun z hz => h z (List.mem_cons_of_mem _ hz)) fun z hz => hf z (List.mem_cons_of_mem _ hz)]

/-- the drawing box: at p the cells' list and four ints -/
structure Box (H : Hp) (p c : Addr) : Prop where
  ex : ∃ (ns : List Int) (a b d e : Int), H p = some (.lst [.ref c, .int a, .int b, .int d, .int e]) ∧ H c = some (.lst (ns.map V.int)) ∧ ns.length ≤ 63 ∧ 0 ≤ a
  ne : c ≠ p
theorem Box.kp {H H' : Hp} {p c : Addr} {ps : List Addr} (B : Box H p c) (k : Kp ps H H') (n1 : p ∉ ps) (n2 : c ∉ ps) : Box H' p c := by
  obtain ⟨⟨ns, a, b, d, e, h1, h2, h3⟩, ne⟩ := B
  exact ⟨⟨ns, a, b, d, e, k _ _ h1 n1, k _ _ h2 n2, h3⟩, ne⟩
theorem Box.k0 {H H' : Hp} {p c : Addr} (B : Box H p c) (k : Kp [] H H') : Box H' p c := B.kp k (by simp) (by simp)
theorem Box.new {H : Hp} {p c q : Addr} {o : HO} (B : Box H p c) (k : H q = none) : Box (upd H q o) p c := B.k0 (Kp.new k)
theorem Box.at {H : Hp} {p c : Addr} (B : Box H p c) : ∃ r, H p = some (.lst (.ref c :: r)) ∧ ∃ ns : List Int, H c = some (.lst (ns.map V.int)) := by
  obtain ⟨⟨ns, a, b, d, e, h1, h2, h3⟩, ne⟩ := B
  exact ⟨_, h1, ns, h2⟩
theorem Box.ne1 {H : Hp} {p c q : Addr} (B : Box H p c) (k : H q = none) : p ≠ q := by
  obtain ⟨r, h, _⟩ := B.at
  exact ne_of_none h k
theorem Box.ne2 {H : Hp} {p c q : Addr} (B : Box H p c) (k : H q = none) : c ≠ q := by
  obtain ⟨r, _, ns, h⟩ := B.at
  exact ne_of_none h k
theorem ne_ints {x : Addr} {r : List V} : ∀ ps : List Int, (ps.map V.int) ≠ V.ref x :: r
  | [], e => by cases e
  | p :: q, e => by
    injection e with e1 _
    cases e1
theorem Box.off {H : Hp} {p c q : Addr} {o : HO} (B : Box H p c) (h : H q = some o) (n : ∀ x r, o ≠ .lst (.ref x :: r)) : q ≠ p := by
  obtain ⟨r, e, _⟩ := B.at
  exact ne_of h e (n _ _)
theorem Box.offI {H : Hp} {p c q : Addr} {ns : List Int} (B : Box H p c) (h : H q = some (.lst (ns.map V.int))) : q ≠ p := B.off h fun x r z => by
  injection z with z
  exact ne_ints _ z
theorem Box.ofL {H : Hp} {p c D : Addr} {o : HO} (B : Box H p c) (n1 : p ≠ D) (n2 : c ≠ D) : Box (upd H D o) p c := by
  obtain ⟨⟨ns, a, b, d, e, h1, h2, h3⟩, ne⟩ := B
  exact ⟨⟨ns, a, b, d, e, hu_ne n1 h1, hu_ne n2 h2, h3⟩, ne⟩
/-! levels as sayings -/
def lets : List Nat := SIGNS.cps.toList
def wStart (s a z : Int) : Int := (s * 7 + a % 10007 * 5 + z) % 1009
def wF (s a z : Int) : Str := ⟨((List.range (wStart s a z % 13).toNat).map fun (k : Nat) => lets.getD ((wStart s a z * ((k : Int) + 3) + (k : Int) * (k : Int)) % 36).toNat 0).toArray⟩
def mkI (i : Int) : Str := if i = 0 then "alive" else if i = 1 then "suspect" else if i = 2 then "dead" else "left"
def syL (z : Int) (k L : Int) : Sy := ⟨k, (L - 1) / 4, mkI ((L - 1) % 4), wF k ((L - 1) / 4) z⟩
def yo (z : Int) (k L : Int) : Option Sy := if 0 < L then some (syL z k L) else none
theorem SyL.snoc {H : Hp} {F t : Addr} {ps : List (Addr × Sy)} {y : Sy} (B : SyL H F ps) (h : SyAt H t y) : SyL (upd H F (.lst ((ps.map fun p => V.ref p.1) ++ [.ref t]))) F (ps ++ [(t, y)]) := by
  refine ⟨by rw [upd_same, List.map_append]; rfl, fun p hp => ?_⟩
  have o : ∀ q z, SyAt H q z → SyAt (upd H F (.lst ((ps.map fun p => V.ref p.1) ++ [.ref t]))) q z := fun q z e => hu_ne (ne_of e B.at_ (by intro z; cases z)) e
  rcases List.mem_append.mp hp with m | m
  · exact o _ _ (B.ob p m)
  · rw [List.mem_singleton.mp m]
    exact o _ _ h
theorem made_kp {H H1 : Hp} {x dx C : Addr} (nx : H x = none) (ndx : H dx = none) (ne : dx ≠ x) (k : Kp [x] (upd (upd H dx (.own x)) x (.ins C dx [])) H1) : Kp [] H H1 :=
  ((Kp.new ndx).nw (hn_ne (Ne.symm ne) nx)).via1 k nx
theorem wOk_of {cs : List Nat} (h : cs.length ≤ 12) (hc : ∀ c, c ∈ cs → c ∈ SIGNS.cps.toList) : wOk ⟨cs.toArray⟩ = true := by
  unfold wOk
  rw [decide_eq_true (by simpa [Str.length] using h), Bool.true_and, List.all_eq_true]
  intro c hcm
  exact decide_eq_true (hc c (by simpa using hcm))
theorem lets_len : SIGNS.cps.toList.length = 36 := by decide +kernel
theorem lets_at {i : Int} (h0 : 0 ≤ i) (h1 : i < 36) : atI SIGNS.cps.toList i = some (lets.getD i.toNat 0) := by
  obtain ⟨j, rfl⟩ := Int.eq_ofNat_of_zero_le h0
  have hj : j < lets.length := by
    rw [show lets.length = 36 from lets_len]
    omega
  refine atI_nat ?_
  show lets[j]? = some (lets.getD ((j : Int).toNat) 0)
  rw [Int.toNat_natCast, List.getD_eq_getElem?_getD, List.getElem?_eq_getElem hj]
  rfl
theorem lets_mem {i : Nat} (h : i < 36) : lets.getD i 0 ∈ SIGNS.cps.toList := by
  have hj : i < lets.length := by
    rw [show lets.length = 36 from lets_len]
    exact h
  rw [List.getD_eq_getElem?_getD, List.getElem?_eq_getElem hj]
  exact List.getElem_mem hj
theorem wF_ok (s a z : Int) : wOk (wF s a z) = true := by
  unfold wF
  refine wOk_of ?_ fun c hc => ?_
  · rw [List.length_map, List.length_range]
    have := Int.emod_lt_of_pos (wStart s a z) (show (0 : Int) < 13 by decide)
    omega
  · obtain ⟨k, hk, rfl⟩ := List.mem_map.mp hc
    refine lets_mem ?_
    have h1 := Int.emod_lt_of_pos (wStart s a z * ((k : Int) + 3) + (k : Int) * (k : Int)) (show (0 : Int) < 36 by decide)
    have h2 := Int.emod_nonneg (wStart s a z * ((k : Int) + 3) + (k : Int) * (k : Int)) (show (36 : Int) ≠ 0 by decide)
    omega
theorem mkI_at {i : Int} (h0 : 0 ≤ i) (h1 : i < 4) : atI [V.str "alive", V.str "suspect", V.str "dead", V.str "left"] i = some (.str (mkI i)) ∧ mkI i ∈ MK ∧ stepM (mkI i) = i + 1 := by
  have : i = 0 ∨ i = 1 ∨ i = 2 ∨ i = 3 := by omega
  rcases this with rfl | rfl | rfl | rfl
  · exact ⟨rfl, by decide +kernel, by decide +kernel⟩
  · exact ⟨rfl, by decide +kernel, by decide +kernel⟩
  · exact ⟨rfl, by decide +kernel, by decide +kernel⟩
  · exact ⟨rfl, by decide +kernel, by decide +kernel⟩
theorem rk_syL (z k L : Int) : rk (syL z k L) = L := by
  have h := mkI_at (Int.emod_nonneg (L - 1) (show (4 : Int) ≠ 0 by decide)) (Int.emod_lt_of_pos (L - 1) (show (0 : Int) < 4 by decide))
  show 4 * ((L - 1) / 4) + stepM (mkI ((L - 1) % 4)) = L
  rw [h.2.2]
  omega
theorem rkO_yo {z k L : Int} (h : 0 ≤ L) : rkO (yo z k L) = L := by
  unfold yo
  split
  · exact rk_syL z k L
  · show (0 : Int) = L
    omega
theorem syL_ok {r z k L : Int} (k0 : 0 ≤ k) (k1 : k < r) (h : 0 < L) (h2 : L ≤ 4 * MOST) : syOk r (syL z k L) = true := by
  have m := mkI_at (Int.emod_nonneg (L - 1) (show (4 : Int) ≠ 0 by decide)) (Int.emod_lt_of_pos (L - 1) (show (0 : Int) < 4 by decide))
  exact syOk_iff.mpr ⟨⟨k0, by show k ≤ r - 1; omega⟩, ⟨by show 0 ≤ (L - 1) / 4; omega, by show (L - 1) / 4 ≤ MOST; omega⟩, m.2.1, wF_ok _ _ _⟩
def lv (Ls : List Int) (k : Nat) : Int := Ls.getD k 0
def rowsF (z : Int) (f : Nat → Int) (n : Nat) : List Sy := (List.range n).filterMap fun (k : Nat) => yo z k (f k)
theorem rowsF_succ (z : Int) (f : Nat → Int) (n : Nat) : rowsF z f (n + 1) = rowsF z f n ++ (yo z n (f n)).toList := by
  unfold rowsF
  rw [List.range_succ, List.filterMap_append]
  congr 1
theorem rowsF_len (z : Int) (f : Nat → Int) (n : Nat) : (rowsF z f n).length ≤ n := by
  unfold rowsF
  have := List.length_filterMap_le (fun k : Nat => yo z k (f k)) (List.range n)
  rwa [List.length_range] at this
theorem rowsF_mem {z : Int} {f : Nat → Int} {n : Nat} {y : Sy} (h : y ∈ rowsF z f n) : ∃ k : Nat, k < n ∧ 0 < f k ∧ y = syL z k (f k) := by
  unfold rowsF at h
  obtain ⟨k, hk, e⟩ := List.mem_filterMap.mp h
  unfold yo at e
  split at e
  · rename_i h
    exact ⟨k, List.mem_range.mp hk, h, (Option.some.inj e).symm⟩
  · cases e
theorem rowsF_keys (z : Int) (f : Nat → Int) : ∀ n : Nat, ((rowsF z f n).map Sy.s).Pairwise (· < ·) ∧ ∀ k, k ∈ (rowsF z f n).map Sy.s → k < (n : Int)
  | 0 => ⟨List.Pairwise.nil (R := fun a b : Int => a < b), fun k hk => nomatch (show k ∈ ([] : List Int) from hk)⟩
  | n + 1 => by
    obtain ⟨a, b⟩ := rowsF_keys z f n
    rw [rowsF_succ]
    unfold yo
    split
    · rw [Option.toList_some, List.map_append]
      refine ⟨List.pairwise_append.mpr ⟨a, by simp, fun x hx y hy => ?_⟩, fun k hk => ?_⟩
      · have := b x hx
        simp only [List.map_cons, List.map_nil, List.mem_singleton] at hy
        rw [hy]
        exact this
      · rcases List.mem_append.mp hk with h | h
        · have := b k h
          omega
        · simp only [List.map_cons, List.map_nil, List.mem_singleton] at h
          rw [h]
          show (n : Int) < ((n + 1 : Nat) : Int)
          omega
    · rw [Option.toList_none, List.append_nil]
      exact ⟨a, fun k hk => by have := b k hk; omega⟩
/-- a book whose ring has n seats and that tells Y -/
structure BkF (xs : List (Addr × Sy)) (n : Nat) (Y : Nat → Option Sy) : Prop where
  at_ : ∀ k : Nat, k < n → (fdT Sy.s xs k).map (·.2) = Y k
  nd : ((xs.map (·.2)).map Sy.s).Nodup
  rg : ∀ k, k ∈ (xs.map (·.2)).map Sy.s → 0 ≤ k ∧ k < (n : Int)
theorem filterMap_congr' {α β : Type} {f g : α → Option β} : ∀ {l : List α}, (∀ x, x ∈ l → f x = g x) → l.filterMap f = l.filterMap g
  | [], _ => rfl
  | x :: r, h => by
    rw [List.filterMap_cons, List.filterMap_cons, h x (List.mem_cons_self ..), filterMap_congr' fun y hy => h y (List.mem_cons_of_mem _ hy)]
theorem BkF.of {xs : List (Addr × Sy)} {n : Nat} {Y : Nat → Option Sy} (nd : ((xs.map (·.2)).map Sy.s).Nodup) (h : ∀ y, y ∈ xs.map (·.2) → ∃ k : Nat, k < n ∧ y.s = (k : Int) ∧ Y k = some y) (h2 : ∀ k : Nat, k < n → ∀ y, Y k = some y → y ∈ xs.map (·.2) ∧ y.s = (k : Int)) : BkF xs n Y := by
  refine ⟨fun k hk => ?_, nd, fun k hk => ?_⟩
  · rw [fdT_snd]
    cases e : fdS Sy.s (xs.map (·.2)) k with
    | some w =>
      have m := List.mem_of_find?_eq_some e
      have ws : w.s = (k : Int) := of_decide_eq_true (List.find?_some (p := fun y : Sy => decide (y.s = (k : Int))) e)
      obtain ⟨k2, q1, q2, q3⟩ := h w m
      have : k2 = k := by omega
      rw [← this, q3]
    | none =>
      cases f : Y k with
      | none => rfl
      | some y =>
        obtain ⟨m, ys⟩ := h2 k hk y f
        exact absurd (decide_eq_true ys) (List.find?_eq_none.mp e y m)
  · obtain ⟨y, hy, rfl⟩ := List.mem_map.mp hk
    obtain ⟨k2, q1, q2, q3⟩ := h y hy
    rw [q2]
    omega
/-- the rows of such a book -/
theorem BkF.rows {xs : List (Addr × Sy)} {n : Nat} {Y : Nat → Option Sy} (B : BkF xs n Y) (hY : ∀ k y, Y k = some y → y.s = (k : Int)) : (rowsL xs).map (·.2) = (List.range n).filterMap Y := by
  have e : srt ((xs.map (·.2)).map Sy.s) = ((List.range n).filter fun k => (Y k).isSome).map fun (k : Nat) => (k : Int) := by
    refine (srt_is ?_ ?_).symm
    · refine (List.perm_ext_iff_of_nodup ?_ B.nd).mpr fun a => ⟨fun ha => ?_, fun ha => ?_⟩
      · refine List.Pairwise.map _ (fun a b h => ?_) (List.Pairwise.filter _ List.nodup_range)
        intro z
        exact h (Int.ofNat.inj z)
      · obtain ⟨k, hk, rfl⟩ := List.mem_map.mp ha
        obtain ⟨h1, h2⟩ := List.mem_filter.mp hk
        have h3 := B.at_ k (List.mem_range.mp h1)
        rw [fdT_snd] at h3
        obtain ⟨y, hy⟩ := Option.isSome_iff_exists.mp h2
        rw [hy] at h3
        have m := List.mem_of_find?_eq_some h3
        have ys := hY k y hy
        rw [← ys]
        exact List.mem_map_of_mem m
      · obtain ⟨h0, h1⟩ := B.rg a ha
        obtain ⟨k, rfl⟩ := Int.eq_ofNat_of_zero_le h0
        obtain ⟨p, hp⟩ := fdT_key ha
        have h3 := B.at_ k (by omega)
        rw [hp] at h3
        refine List.mem_map.mpr ⟨k, List.mem_filter.mpr ⟨List.mem_range.mpr (by omega), ?_⟩, rfl⟩
        rw [← h3]
        rfl
    · refine List.Pairwise.map _ (fun a b h => ?_) (List.Pairwise.filter _ (List.pairwise_lt_range (n := n)))
      omega
  unfold rowsL
  rw [e, List.filterMap_map, List.map_filterMap, List.filterMap_filter]
  refine filterMap_congr' fun k hk => ?_
  have h3 := B.at_ k (List.mem_range.mp hk)
  show (if (Y k).isSome = true then (fdT Sy.s xs k).map (·.2) else none) = Y k
  rw [h3]
  cases Y k <;> rfl
/-! a saying written into a book -/
theorem fdT_put {α : Type} {key : α → Int} {k : Int} {p : Addr × α} (xs : List (Addr × α)) : fdT key (ptT key xs p) k = if key p.2 = k then some p else fdT key xs k := by
  unfold ptT
  by_cases z : (xs.any fun q => decide (key q.2 = key p.2)) = true
  · rw [if_pos z]
    induction xs with
    | nil => simp at z
    | cons q r ih =>
      unfold fdT at ih ⊢
      rw [List.map_cons, List.find?_cons, List.find?_cons]
      by_cases h : key q.2 = key p.2
      · rw [if_pos h]
        by_cases e : key p.2 = k
        · rw [decide_eq_true e, if_pos e]
        · rw [decide_eq_false e, if_neg e, decide_eq_false (fun z => e (h ▸ z))]
          show List.find? _ (List.map _ r) = List.find? _ r
          by_cases z2 : (r.any fun q => decide (key q.2 = key p.2)) = true
          · have := ih z2
            rw [if_neg e] at this
            exact this
          · congr 1
            refine (List.map_congr_left (g := id) fun q hq => if_neg fun z => z2 (List.any_eq_true.mpr ⟨q, hq, decide_eq_true z⟩)).trans (List.map_id _)
      · rw [if_neg h]
        have z2 : (r.any fun q => decide (key q.2 = key p.2)) = true := by
          rw [List.any_cons, decide_eq_false h, Bool.false_or] at z
          exact z
        by_cases e : key q.2 = k
        · rw [decide_eq_true e, if_neg (fun z => h (e.trans z.symm))]
        · rw [decide_eq_false e]
          exact ih z2
  · rw [if_neg z]
    unfold fdT
    rw [List.find?_append, List.find?_cons, List.find?_nil]
    by_cases e : key p.2 = k
    · rw [decide_eq_true e, if_pos e]
      have : List.find? (fun q => decide (key q.2 = k)) xs = none := List.find?_eq_none.mpr fun q hq h => z (List.any_eq_true.mpr ⟨q, hq, decide_eq_true (by
        rw [e]
        exact of_decide_eq_true h)⟩)
      rw [this]
      rfl
    · rw [decide_eq_false e, if_neg e, Option.or_none]
theorem keys_put {α : Type} {key : α → Int} {p : Addr × α} (xs : List (Addr × α)) : ((ptT key xs p).map (·.2)).map key = if (xs.any fun q => decide (key q.2 = key p.2)) = true then (xs.map (·.2)).map key else (xs.map (·.2)).map key ++ [key p.2] := by
  unfold ptT
  by_cases z : (xs.any fun q => decide (key q.2 = key p.2)) = true
  · rw [if_pos z, if_pos z, List.map_map, List.map_map, List.map_map]
    refine List.map_congr_left fun q hq => ?_
    show key (if key q.2 = key p.2 then p else q).2 = key q.2
    by_cases h : key q.2 = key p.2
    · rw [if_pos h]
      exact h.symm
    · rw [if_neg h]
  · rw [if_neg z, if_neg z, List.map_append, List.map_append]
    rfl
theorem BkF.put {xs : List (Addr × Sy)} {n : Nat} {Y : Nat → Option Sy} (B : BkF xs n Y) {p : Addr × Sy} {s : Nat} (hs : p.2.s = (s : Int)) (hn : s < n) : BkF (ptT Sy.s xs p) n (fun k => if k = s then some p.2 else Y k) := by
  refine ⟨fun k hk => ?_, ?_, fun k hk => ?_⟩
  · rw [fdT_put, hs]
    by_cases e : k = s
    · rw [if_pos (by rw [e]), if_pos e]
      rfl
    · rw [if_neg (fun z : (s : Int) = (k : Int) => e (by omega)), if_neg e]
      exact B.at_ k hk
  · rw [keys_put]
    by_cases z : (xs.any fun q => decide (q.2.s = p.2.s)) = true
    · rw [if_pos z]
      exact B.nd
    · rw [if_neg z]
      refine List.nodup_append.mpr ⟨B.nd, by simp, fun a ha b hb e => ?_⟩
      rw [List.mem_singleton.mp hb] at e
      obtain ⟨y, hy, rfl⟩ := List.mem_map.mp ha
      obtain ⟨q, hq, rfl⟩ := List.mem_map.mp hy
      exact z (List.any_eq_true.mpr ⟨q, hq, decide_eq_true e⟩)
  · rw [keys_put] at hk
    split at hk
    · exact B.rg k hk
    · rcases List.mem_append.mp hk with h | h
      · exact B.rg k h
      · rw [List.mem_singleton.mp h, hs]
        omega
theorem set_put {xs : List (Addr × Sy)} {j : Nat} (hj : j < xs.length) (nd : ((xs.map (·.2)).map Sy.s).Nodup) {p : Addr × Sy} (hs : p.2.s = xs[j].2.s) : xs.set j p = ptT Sy.s xs p := by
  have z : (xs.any fun q => decide (q.2.s = p.2.s)) = true := List.any_eq_true.mpr ⟨xs[j], List.getElem_mem hj, decide_eq_true hs.symm⟩
  unfold ptT
  rw [if_pos z]
  refine List.ext_getElem (by simp) fun i h1 h2 => ?_
  rw [List.getElem_set, List.getElem_map]
  have hi : i < xs.length := by simpa using h1
  by_cases e : j = i
  · subst e
    rw [if_pos rfl, if_pos hs.symm]
  · rw [if_neg e, if_neg fun q0 : xs[i].2.s = p.2.s => e ?_]
    have q := q0.trans hs
    have h : List.Pairwise (· ≠ ·) ((xs.map (·.2)).map Sy.s) := nd
    refine Classical.byContradiction fun ne => ?_
    have g : ∀ a b (ha : a < xs.length) (hb : b < xs.length), a < b → xs[a].2.s ≠ xs[b].2.s := fun a b ha hb hab => by
      have := List.pairwise_iff_getElem.mp h a b (by simpa using ha) (by simpa using hb) hab
      simpa using this
    rcases Nat.lt_or_ge i j with l | l
    · exact g i j hi hj l q
    · exact g j i hj hi (by omega) q.symm
theorem Box.off5 {H : Hp} {p c q : Addr} {xs : List V} (B : Box H p c) (h : H q = some (.lst xs)) (n : xs.length ≠ 5) : q ≠ p := by
  obtain ⟨⟨ns, a, b, d, e, h1, _⟩, _⟩ := B
  intro z
  subst z
  rw [h] at h1
  injection h1 with h1
  injection h1 with h1
  rw [h1] at n
  exact n rfl
theorem BookAt.kB {K : PySem.W.Frag} {H H' : Hp} {b s d p c : Addr} {xs : List (Addr × Sy)} (B : BookAt K H b s d xs) (X : Box H p c) (k : Kp [p] H H') : BookAt K H' b s d xs := by
  obtain ⟨⟨dx, h⟩, r⟩ := B
  exact ⟨⟨dx, k.g1 (X.off h fun _ _ z => by cases z) h⟩, ⟨k.g1 (X.off r.at_ fun _ _ z => by cases z) r.at_, fun q hq => k.g1 (X.off (r.ob q hq) fun _ _ z => by cases z) (r.ob q hq)⟩⟩
theorem SyL.kB {H H' : Hp} {l p c : Addr} {ps : List (Addr × Sy)} (B : SyL H l ps) (X : Box H p c) (n : l ≠ p) (k : Kp [p] H H') : SyL H' l ps := ⟨k.g1 n B.at_, fun q hq => k.g1 (X.off (B.ob q hq) fun _ _ z => by cases z) (B.ob q hq)⟩
theorem SetAt.kB {K : PySem.W.Frag} {H H' : Hp} {s p c : Addr} {st : Stg} (S : SetAt K H s st) (X : Box H p c) (k : Kp [p] H H') : SetAt K H' s st := S.k1 k (by
  obtain ⟨xs0, e0, _⟩ := X.at
  exact S.nelst e0)
abbrev look (xs : List (Addr × Sy)) (k : Int) : Option Sy := (fdT Sy.s xs k).map (·.2)
abbrev keysN (xs : List (Addr × Sy)) : Prop := ((xs.map (·.2)).map Sy.s).Nodup
def tkF (Y : Int → Option Sy) (y : Sy) : Int → Option Sy := fun k => if k = y.s ∧ rkO (Y k) < rk y then some y else Y k
theorem look_put (xs : List (Addr × Sy)) (p : Addr × Sy) (k : Int) : look (ptT Sy.s xs p) k = if k = p.2.s then some p.2 else look xs k := by
  unfold look
  rw [fdT_put]
  by_cases h : p.2.s = k
  · rw [if_pos h, if_pos h.symm]
    rfl
  · rw [if_neg h, if_neg (fun z => h z.symm)]
theorem look_take (xs : List (Addr × Sy)) (p : Addr × Sy) : look (takeT xs p) = tkF (look xs) p.2 := by
  funext k
  unfold tkF
  by_cases h : rkO (look xs p.2.s) < rk p.2
  · rw [takeT_pos h, look_put]
    by_cases e : k = p.2.s
    · rw [if_pos e, if_pos ⟨e, by rw [e]; exact h⟩]
    · rw [if_neg e, if_neg (fun z => e z.1)]
  · rw [takeT_neg h, if_neg]
    rintro ⟨e, z⟩
    rw [e] at z
    exact h z
theorem look_fold : ∀ (ps xs : List (Addr × Sy)), look (ps.foldl takeT xs) = (ps.map (·.2)).foldl tkF (look xs)
  | [], _ => rfl
  | p :: r, xs => by
    rw [List.foldl_cons, List.map_cons, List.foldl_cons, ← look_take]
    exact look_fold r (takeT xs p)
theorem look_mem {xs : List (Addr × Sy)} {k : Int} {y : Sy} (h : look xs k = some y) : y ∈ xs.map (·.2) ∧ y.s = k := by
  obtain ⟨p, hp, rfl⟩ := Option.map_eq_some_iff.mp h
  exact ⟨List.mem_map_of_mem (fdT_some hp).1, (fdT_some hp).2⟩
theorem look_of {xs : List (Addr × Sy)} (nd : keysN xs) {p : Addr × Sy} (hp : p ∈ xs) : fdT Sy.s xs p.2.s = some p := by
  induction xs with
  | nil => cases hp
  | cons q r ih =>
    unfold fdT
    rw [List.find?_cons]
    have nd' : (q.2.s :: (r.map (·.2)).map Sy.s).Nodup := nd
    rcases List.mem_cons.mp hp with rfl | m
    · rw [decide_eq_true rfl]
    · rw [decide_eq_false (fun e : q.2.s = p.2.s => (List.nodup_cons.mp nd').1 (by
        rw [e]
        exact List.mem_map_of_mem (List.mem_map_of_mem m)))]
      exact ih (List.nodup_cons.mp nd').2 m
theorem look_of' {xs : List (Addr × Sy)} (nd : keysN xs) {p : Addr × Sy} (hp : p ∈ xs) : look xs p.2.s = some p.2 := by
  unfold look
  rw [look_of nd hp]
  rfl
def isB (P : Sy → Prop) (Y : Int → Option Sy) : Prop := ∀ k, (Y k = none → ∀ z, P z → z.s ≠ k) ∧ ∀ y, Y k = some y → P y ∧ y.s = k ∧ ∀ z, P z → z.s = k → rk z ≤ rk y
theorem isB_nil : isB (fun _ => False) (fun _ => none) := fun k => ⟨fun _ z h => h.elim, fun y e => by cases e⟩
theorem isB.congr {P P' : Sy → Prop} {Y : Int → Option Sy} (h : isB P Y) (e : ∀ z, P z ↔ P' z) : isB P' Y := fun k => ⟨fun n z hz => (h k).1 n z ((e z).mpr hz), fun y hy => by
  obtain ⟨a, b, c⟩ := (h k).2 y hy
  exact ⟨(e y).mp a, b, fun z hz => c z ((e z).mpr hz)⟩⟩
theorem isB.tk {P : Sy → Prop} {Y : Int → Option Sy} {y : Sy} (h : isB P Y) (hy : 0 < rk y) : isB (fun z => P z ∨ z = y) (tkF Y y) := by
  intro k
  unfold tkF
  by_cases c : k = y.s ∧ rkO (Y k) < rk y
  · rw [if_pos c]
    refine ⟨fun e => by (cases e), fun w e => ?_⟩
    cases e
    refine ⟨.inr rfl, c.1.symm, fun z hz ez => ?_⟩
    rcases hz with hz | rfl
    · cases q : Y k with
      | none => exact absurd ez ((h k).1 q z hz)
      | some w =>
        have h1 := ((h k).2 w q).2.2 z hz ez
        have h2 := c.2
        rw [q] at h2
        have h2 : rk w < rk y := h2
        omega
    · exact Int.le_refl _
  · rw [if_neg c]
    refine ⟨fun e z hz => ?_, fun w e => ?_⟩
    · rcases hz with hz | rfl
      · exact (h k).1 e z hz
      · intro q
        exact c ⟨q.symm, by rw [e]; exact hy⟩
    · obtain ⟨a, b, d⟩ := (h k).2 w e
      refine ⟨.inl a, b, fun z hz ez => ?_⟩
      rcases hz with hz | rfl
      · exact d z hz ez
      · rw [e] at c
        have : ¬ rk w < rk z := fun q => c ⟨ez.symm, q⟩
        omega
theorem isB.fold : ∀ {ps : List Sy} {P : Sy → Prop} {Y : Int → Option Sy}, isB P Y → (∀ p, p ∈ ps → 0 < rk p) → isB (fun z => P z ∨ z ∈ ps) (ps.foldl tkF Y)
  | [], P, Y, h, _ => h.congr fun z => by simp
  | p :: r, P, Y, h, hp => by
    have := isB.fold (ps := r) (h.tk (hp p (List.mem_cons_self ..))) fun q hq => hp q (List.mem_cons_of_mem _ hq)
    refine this.congr fun z => ?_
    simp only [List.mem_cons]
    constructor
    · rintro ((a | b) | c)
      · exact .inl a
      · exact .inr (.inl b)
      · exact .inr (.inr c)
    · rintro (a | b | c)
      · exact .inl (.inl a)
      · exact .inl (.inr b)
      · exact .inr c
theorem isB_list {ps : List (Addr × Sy)} (h : ∀ p, p ∈ ps → 0 < rk p.2) : isB (fun z => z ∈ ps.map (·.2)) (look (ps.foldl takeT [])) := by
  rw [look_fold]
  have := isB_nil.fold (ps := ps.map (·.2)) fun y hy => by
    obtain ⟨p, hp, rfl⟩ := List.mem_map.mp hy
    exact h p hp
  exact this.congr fun z => ⟨fun q => q.resolve_left id, .inr⟩
def tieP (P : Sy → Prop) : Prop := ∀ a b, P a → P b → a.s = b.s → rk a = rk b → a = b
theorem isB.uniq {P : Sy → Prop} {Y Y' : Int → Option Sy} (t : tieP P) (h : isB P Y) (h' : isB P Y') : Y = Y' := by
  funext k
  cases e : Y k with
  | none =>
    cases e' : Y' k with
    | none => rfl
    | some w => exact absurd ((h' k).2 w e').2.1 ((h k).1 e w ((h' k).2 w e').1)
  | some y =>
    obtain ⟨a, b, c⟩ := (h k).2 y e
    cases e' : Y' k with
    | none => exact absurd b ((h' k).1 e' y a)
    | some w =>
      obtain ⟨a', b', c'⟩ := (h' k).2 w e'
      have h1 := c w a' b'
      have h2 := c' y a b
      rw [t y w a a' (b.trans b'.symm) (by omega)]
theorem isB_self {xs : List (Addr × Sy)} (nd : keysN xs) : isB (fun z => z ∈ xs.map (·.2)) (look xs) := by
  intro k
  refine ⟨fun e z hz q => ?_, fun y e => ?_⟩
  · obtain ⟨p, hp, rfl⟩ := List.mem_map.mp hz
    have h := look_of' nd hp
    rw [q, e] at h
    cases h
  · obtain ⟨a, b⟩ := look_mem e
    refine ⟨a, b, fun z hz q => ?_⟩
    obtain ⟨p, hp, rfl⟩ := List.mem_map.mp hz
    have := look_of' nd hp
    rw [q, e] at this
    rw [Option.some.inj this]
    exact Int.le_refl _
theorem keysN_put {xs : List (Addr × Sy)} (nd : keysN xs) (p : Addr × Sy) : keysN (ptT Sy.s xs p) := by
  unfold keysN
  rw [keys_put]
  by_cases z : (xs.any fun q => decide (q.2.s = p.2.s)) = true
  · rw [if_pos z]
    exact nd
  · rw [if_neg z]
    refine List.nodup_append.mpr ⟨nd, by simp, fun a ha b hb e => ?_⟩
    rw [List.mem_singleton.mp hb] at e
    obtain ⟨y, hy, rfl⟩ := List.mem_map.mp ha
    obtain ⟨q, hq, rfl⟩ := List.mem_map.mp hy
    exact z (List.any_eq_true.mpr ⟨q, hq, decide_eq_true e⟩)
theorem keysN_take {xs : List (Addr × Sy)} (nd : keysN xs) (p : Addr × Sy) : keysN (takeT xs p) := by
  unfold takeT
  split
  · exact keysN_put nd p
  · exact nd
theorem keysN_fold : ∀ {ps xs : List (Addr × Sy)}, keysN xs → keysN (ps.foldl takeT xs)
  | [], _, h => h
  | p :: r, _, h => keysN_fold (ps := r) (keysN_take h p)
theorem keysN_nil : keysN [] := List.nodup_nil
theorem keys_look {xs : List (Addr × Sy)} {k : Int} : k ∈ (xs.map (·.2)).map Sy.s ↔ look xs k ≠ none := by
  constructor
  · intro h e
    obtain ⟨p, hp⟩ := fdT_key h
    unfold look at e
    rw [hp] at e
    cases e
  · intro h
    cases e : look xs k with
    | none => exact absurd e h
    | some y =>
      obtain ⟨a, b⟩ := look_mem e
      rw [← b]
      exact List.mem_map_of_mem a
theorem srt_look {xs ys : List (Addr × Sy)} (n1 : keysN xs) (n2 : keysN ys) (h : look xs = look ys) : srt ((xs.map (·.2)).map Sy.s) = srt ((ys.map (·.2)).map Sy.s) := by
  refine srt_is ((srt_perm _).trans ((List.perm_ext_iff_of_nodup n1 n2).mpr fun k => ?_)) (srt_le _)
  rw [keys_look, keys_look, h]
theorem rows_look {xs ys : List (Addr × Sy)} (n1 : keysN xs) (n2 : keysN ys) (h : look xs = look ys) : (rowsL xs).map (·.2) = (rowsL ys).map (·.2) := by
  unfold rowsL
  rw [srt_look n1 n2 h, List.map_filterMap, List.map_filterMap]
  exact filterMap_congr' fun k _ => congrFun h k
theorem rowsL_len (xs : List (Addr × Sy)) : (rowsL xs).length = xs.length := by
  have hf : ∀ k, k ∈ srt ((xs.map (·.2)).map Sy.s) → fdT Sy.s xs k = some ((fdT Sy.s xs k).getD (0, ⟨0, 0, "", ""⟩)) := fun k hk => by
    obtain ⟨p, hp⟩ := fdT_key ((srt_perm _).mem_iff.mp hk)
    rw [hp]
    rfl
  unfold rowsL
  rw [rowsL_take (fun k hk => (srt_perm _).mem_iff.mp hk) hf, List.length_map, (srt_perm _).length_eq, List.length_map, List.length_map]
theorem rowsL_mem {xs : List (Addr × Sy)} {p : Addr × Sy} (h : p ∈ rowsL xs) : p ∈ xs ∧ fdT Sy.s xs p.2.s = some p := by
  unfold rowsL at h
  obtain ⟨k, hk, e⟩ := List.mem_filterMap.mp h
  have e2 := (fdT_some e).2
  exact ⟨(fdT_some e).1, by rw [e2]; exact e⟩
theorem mem_rowsL {xs : List (Addr × Sy)} (nd : keysN xs) {p : Addr × Sy} (h : p ∈ xs) : p ∈ rowsL xs := by
  unfold rowsL
  exact List.mem_filterMap.mpr ⟨p.2.s, (srt_perm _).mem_iff.mpr (List.mem_map_of_mem (List.mem_map_of_mem h)), look_of nd h⟩
theorem look_rows {xs : List (Addr × Sy)} (nd : keysN xs) (h : ∀ p, p ∈ xs → 0 < rk p.2) : look ((rowsL xs).foldl takeT []) = look xs := by
  refine isB.uniq (P := fun z => z ∈ xs.map (·.2)) (fun a b ha hb e _ => ?_) ((isB_list (ps := rowsL xs) fun p hp => h p (rowsL_mem hp).1).congr fun z => ?_) (isB_self nd)
  · obtain ⟨p, hp, rfl⟩ := List.mem_map.mp ha
    obtain ⟨q, hq, rfl⟩ := List.mem_map.mp hb
    have h1 := look_of' nd hp
    have h2 := look_of' nd hq
    have e : p.2.s = q.2.s := e
    rw [e, h2] at h1
    exact (Option.some.inj h1).symm
  · constructor
    · intro hz
      obtain ⟨p, hp, rfl⟩ := List.mem_map.mp hz
      exact List.mem_map_of_mem (rowsL_mem hp).1
    · intro hz
      obtain ⟨p, hp, rfl⟩ := List.mem_map.mp hz
      exact List.mem_map_of_mem (mem_rowsL nd hp)
theorem len_keys {xs : List (Addr × Sy)} {r : Int} (nd : keysN xs) (h : ∀ p, p ∈ xs → 0 ≤ p.2.s ∧ p.2.s < r) : (xs.length : Int) ≤ r ∨ xs = [] := by
  cases hx : xs with
  | nil => exact .inr rfl
  | cons p0 r0 =>
    left
    rw [← hx]
    have p0m : p0 ∈ xs := by rw [hx]; exact List.mem_cons_self ..
    have hr : 0 < r := by have := h p0 p0m; omega
    have sub : ∀ k, k ∈ (xs.map (·.2)).map Sy.s → k ∈ (List.range r.toNat).map fun (i : Nat) => (i : Int) := fun k hk => by
      obtain ⟨y, hy, rfl⟩ := List.mem_map.mp hk
      obtain ⟨p, hp, rfl⟩ := List.mem_map.mp hy
      have := h p hp
      exact List.mem_map.mpr ⟨p.2.s.toNat, List.mem_range.mpr (by omega), by omega⟩
    have := List.Nodup.length_le_of_subset nd sub
    simp only [List.length_map, List.length_range] at this
    omega
theorem ok_rk {R : Int} {y : Sy} (h : syOk R y = true) : 0 < rk y := by
  have := syOk_iff.mp h
  exact rk_pos this.2.1.1 this.2.2.1
theorem ok_len {R : Int} {xs : List (Addr × Sy)} (nd : keysN xs) (h : ∀ p, p ∈ xs → syOk R p.2 = true) (hR : R ≤ 256) : xs.length ≤ 256 := by
  rcases len_keys (r := R) nd fun p hp => by
    have := syOk_iff.mp (h p hp)
    omega with h | h
  · omega
  · rw [h]
    exact Nat.zero_le _
/-! ### moments -/
def S0 (f : Nat → Int) : Nat → Int
  | 0 => 0
  | w + 1 => S0 f w + f w
def S1 (f : Nat → Int) : Nat → Int
  | 0 => 0
  | w + 1 => S1 f w + f w * ((w : Int) + 1)
def S2 (f : Nat → Int) : Nat → Int
  | 0 => 0
  | w + 1 => S2 f w + f w * ((w : Int) + 1) * ((w : Int) + 1)
structure Mom where
  m0 : Int
  m1 : Int
  m2 : Int
  deriving DecidableEq
def mom (f : Nat → Int) (w : Nat) : Mom := ⟨S0 f w, S1 f w, S2 f w⟩
theorem S0_sub (f g : Nat → Int) : ∀ w, S0 (fun i => f i - g i) w = S0 f w - S0 g w
  | 0 => rfl
  | w + 1 => by
    have := S0_sub f g w
    simp only [S0]
    omega
theorem S1_sub (f g : Nat → Int) : ∀ w, S1 (fun i => f i - g i) w = S1 f w - S1 g w
  | 0 => rfl
  | w + 1 => by
    have := S1_sub f g w
    simp only [S1, this, Int.sub_mul]
    omega
theorem S2_sub (f g : Nat → Int) : ∀ w, S2 (fun i => f i - g i) w = S2 f w - S2 g w
  | 0 => rfl
  | w + 1 => by
    have := S2_sub f g w
    simp only [S2, this, Int.sub_mul]
    omega
theorem mom_congr {f g : Nat → Int} {w : Nat} (h : ∀ i, i < w → f i = g i) : mom f w = mom g w := by
  have h0 : ∀ v, v ≤ w → S0 f v = S0 g v ∧ S1 f v = S1 g v ∧ S2 f v = S2 g v := by
    intro v
    induction v with
    | zero => exact fun _ => ⟨rfl, rfl, rfl⟩
    | succ v ih =>
      intro hv
      obtain ⟨a, b, c⟩ := ih (by omega)
      simp only [S0, S1, S2, a, b, c, h v (by omega), and_self]
  obtain ⟨a, b, c⟩ := h0 w (Nat.le_refl _)
  unfold mom
  rw [a, b, c]
/-- the sum of d * (n - a) * (n - b) -/
def SP (d : Nat → Int) (a b : Int) : Nat → Int
  | 0 => 0
  | w + 1 => SP d a b w + d w * (((w : Int) + 1 - a) * ((w : Int) + 1 - b))
theorem SP_eq (d : Nat → Int) (a b : Int) : ∀ w, SP d a b w = S2 d w - (a + b) * S1 d w + a * b * S0 d w
  | 0 => by simp [SP, S0, S1, S2]
  | w + 1 => by
    have := SP_eq d a b w
    simp only [SP, S0, S1, S2, this]
    grind
theorem SP_one (d : Nat → Int) (a b : Int) (i : Nat) : ∀ w, (∀ j, j < w → j ≠ i → d j * (((j : Int) + 1 - a) * ((j : Int) + 1 - b)) = 0) → SP d a b w = if i < w then d i * (((i : Int) + 1 - a) * ((i : Int) + 1 - b)) else 0
  | 0, _ => by simp [SP]
  | w + 1, h => by
    have ih := SP_one d a b i w fun j hj => h j (by omega)
    simp only [SP, ih]
    by_cases e : w = i
    · subst e
      simp
    · rw [h w (by omega) e]
      by_cases z : i < w
      · rw [if_pos z, if_pos (by omega), Int.add_zero]
      · rw [if_neg z, if_neg (by omega)]
        rfl
theorem S0_nonneg {d : Nat → Int} : ∀ {w : Nat}, (∀ j, j < w → 0 ≤ d j) → 0 ≤ S0 d w ∧ (S0 d w = 0 → ∀ j, j < w → d j = 0)
  | 0, _ => ⟨Int.le_refl _, fun _ j hj => by omega⟩
  | w + 1, h => by
    obtain ⟨a, b⟩ := S0_nonneg (d := d) (w := w) fun j hj => h j (by omega)
    have hw := h w (by omega)
    simp only [S0]
    refine ⟨by omega, fun e j hj => ?_⟩
    by_cases z : j = w
    · subst z
      omega
    · exact b (by omega) j (by omega)
def cnt (p : Nat → Bool) : Nat → Int
  | 0 => 0
  | w + 1 => cnt p w + if p w then 1 else 0
theorem cnt_filter (p : Nat → Bool) : ∀ w, cnt p w = ((List.range w).filter p).length
  | 0 => rfl
  | w + 1 => by
    rw [List.range_succ, List.filter_append, List.length_append]
    have := cnt_filter p w
    simp only [cnt, this]
    cases h : p w <;> simp [h]
theorem cnt_add (f g : Nat → Int) : ∀ w, cnt (fun i => decide (f i < g i)) w + cnt (fun i => decide (g i < f i)) w = cnt (fun i => decide (f i ≠ g i)) w
  | 0 => rfl
  | w + 1 => by
    have ih := cnt_add f g w
    show (cnt (fun i => decide (f i < g i)) w + if decide (f w < g w) = true then (1 : Int) else 0) + (cnt (fun i => decide (g i < f i)) w + if decide (g w < f w) = true then (1 : Int) else 0) = cnt (fun i => decide (f i ≠ g i)) w + if decide (f w ≠ g w) = true then (1 : Int) else 0
    by_cases h1 : f w < g w
    · rw [decide_eq_true h1, decide_eq_false (show ¬ g w < f w by omega), decide_eq_true (show f w ≠ g w by omega), if_pos rfl, if_neg Bool.false_ne_true]
      omega
    · by_cases h2 : g w < f w
      · rw [decide_eq_false h1, decide_eq_true h2, decide_eq_true (show f w ≠ g w by omega), if_pos rfl, if_neg Bool.false_ne_true]
        omega
      · rw [decide_eq_false h1, decide_eq_false h2, decide_eq_false (show ¬ f w ≠ g w by omega), if_neg Bool.false_ne_true]
        omega
theorem cnt_zero {p : Nat → Bool} : ∀ {w : Nat}, cnt p w = 0 → ∀ j, j < w → p j = false
  | 0, _, j, hj => by omega
  | w + 1, h, j, hj => by
    have h0 : 0 ≤ cnt p w := by rw [cnt_filter]; omega
    simp only [cnt] at h
    cases z : p w with
    | true =>
      rw [z] at h
      simp at h
      omega
    | false =>
      rw [z] at h
      simp at h
      by_cases e : j = w
      · rw [e]
        exact z
      · exact cnt_zero h j (by omega)
theorem three {d : Nat → Int} {w : Nat} (h0 : S0 d w = 0) (h1 : S1 d w = 0) (h2 : S2 d w = 0) (c : cnt (fun i => decide (d i ≠ 0)) w ≤ 3) : ∀ j, j < w → d j = 0 := by
  have hp : ∀ a b, SP d a b w = 0 := fun a b => by
    rw [SP_eq, h0, h1, h2]
    simp
  rw [cnt_filter] at c
  have mem : ∀ j, j < w → d j ≠ 0 → j ∈ (List.range w).filter (fun i => decide (d i ≠ 0)) := fun j hj hd => List.mem_filter.mpr ⟨List.mem_range.mpr hj, decide_eq_true hd⟩
  intro i hi
  refine Classical.byContradiction fun hd => ?_
  have mi := mem i hi hd
  -- the others are among two places
  have hab : ∃ a b : Nat, a ≠ i ∧ b ≠ i ∧ ∀ j, j < w → j ≠ i → d j ≠ 0 → j = a ∨ j = b := by
    generalize (List.range w).filter (fun i => decide (d i ≠ 0)) = l at c mem mi
    match l, c, mem, mi with
    | [x], c, mem, mi =>
      have e := List.mem_singleton.mp mi
      refine ⟨i + 1, i + 1, by omega, by omega, fun j hj hn hd => absurd (List.mem_singleton.mp (mem j hj hd)) (by omega)⟩
    | [x, y], c, mem, mi =>
      by_cases e : i = x
      · subst e
        by_cases e2 : y = i
        · refine ⟨i + 1, i + 1, by omega, by omega, fun j hj hn hd => ?_⟩
          have := mem j hj hd
          simp at this
          omega
        · refine ⟨y, y, e2, e2, fun j hj hn hd => ?_⟩
          have := mem j hj hd
          simp at this
          omega
      · have e3 : i = y := by
          simp at mi
          omega
        refine ⟨x, x, by omega, by omega, fun j hj hn hd => ?_⟩
        have := mem j hj hd
        simp at this
        omega
    | [x, y, z], c, mem, mi =>
      have g : ∀ u v : Nat, (∀ j, j ∈ [x, y, z] → j = i ∨ j = u ∨ j = v) → ∃ a b : Nat, a ≠ i ∧ b ≠ i ∧ ∀ j, j < w → j ≠ i → d j ≠ 0 → j = a ∨ j = b := fun u v h => by
        refine ⟨if u = i then i + 1 else u, if v = i then i + 1 else v, ?_, ?_, fun j hj hn hd => ?_⟩
        · split <;> omega
        · split <;> omega
        · have := h j (mem j hj hd)
          rcases this with e | e | e
          · exact absurd e hn
          · left
            rw [if_neg (by omega)]
            exact e
          · right
            rw [if_neg (by omega)]
            exact e
      simp only [List.mem_cons, List.not_mem_nil, or_false] at mi
      rcases mi with e | e | e
      · exact g y z fun j hj => by
          simp only [List.mem_cons, List.not_mem_nil, or_false] at hj
          omega
      · exact g x z fun j hj => by
          simp only [List.mem_cons, List.not_mem_nil, or_false] at hj
          omega
      · exact g x y fun j hj => by
          simp only [List.mem_cons, List.not_mem_nil, or_false] at hj
          omega
    | _ :: _ :: _ :: _ :: _, c, _, _ => simp at c; omega
  obtain ⟨a, b, ha, hb, hall⟩ := hab
  have e := SP_one d ((a : Int) + 1) ((b : Int) + 1) i w fun j hj hn => by
    by_cases z : d j = 0
    · rw [z, Int.zero_mul]
    · rcases hall j hj hn z with e | e
      · rw [e, show ((a : Int) + 1 - ((a : Int) + 1)) = 0 by omega, Int.zero_mul, Int.mul_zero]
      · rw [e, show ((b : Int) + 1 - ((b : Int) + 1)) = 0 by omega, Int.mul_zero, Int.mul_zero]
  rw [hp, if_pos hi] at e
  have n1 : ((i : Int) + 1 - ((a : Int) + 1)) ≠ 0 := by omega
  have n2 : ((i : Int) + 1 - ((b : Int) + 1)) ≠ 0 := by omega
  exact Int.mul_ne_zero hd (Int.mul_ne_zero n1 n2) e.symm
/-- what the law asks of two rows of levels -/
theorem mom_law {f g : Nat → Int} {w : Nat} (c : cnt (fun i => decide (f i < g i)) w + cnt (fun i => decide (g i < f i)) w ≤ 3 ∨ cnt (fun i => decide (f i < g i)) w = 0 ∨ cnt (fun i => decide (g i < f i)) w = 0)
    (n : cnt (fun i => decide (f i < g i)) w + cnt (fun i => decide (g i < f i)) w ≠ 0) : mom f w ≠ mom g w := by
  intro e
  injection e with e0 e1 e2
  have z : ∀ j, j < w → f j - g j = 0 := by
    have d0 : S0 (fun i => f i - g i) w = 0 := by rw [S0_sub]; omega
    have d1 : S1 (fun i => f i - g i) w = 0 := by rw [S1_sub]; omega
    have d2 : S2 (fun i => f i - g i) w = 0 := by rw [S2_sub]; omega
    rcases c with c | c | c
    · refine three d0 d1 d2 ?_
      rw [cnt_add] at c
      have : (fun i => decide ((f i - g i) ≠ 0)) = fun i => decide (f i ≠ g i) := by
        funext i
        exact decide_eq_decide.mpr (by omega)
      rw [this]
      exact c
    · have := cnt_zero c
      exact (S0_nonneg fun j hj => by
        have := of_decide_eq_false (this j hj)
        omega).2 d0
    · have := cnt_zero c
      have d0' : S0 (fun i => g i - f i) w = 0 := by rw [S0_sub]; omega
      have := (S0_nonneg (d := fun i => g i - f i) (w := w) fun j hj => by
        have := of_decide_eq_false (this j hj)
        show 0 ≤ g j - f j
        omega).2 d0'
      intro j hj
      have := this j hj
      have h : g j - f j = 0 := this
      omega
  apply n
  rw [cnt_add]
  have : ∀ v, v ≤ w → cnt (fun i => decide (f i ≠ g i)) v = 0 := by
    intro v
    induction v with
    | zero => exact fun _ => rfl
    | succ v ih =>
      intro hv
      have h := z v (by omega)
      simp only [cnt, ih (by omega), show f v = g v by omega]
      simp
  exact this w (Nat.le_refl _)
theorem mom_same {f g : Nat → Int} {w : Nat} (n : cnt (fun i => decide (f i < g i)) w + cnt (fun i => decide (g i < f i)) w = 0) : mom f w = mom g w := by
  rw [cnt_add] at n
  have := cnt_zero n
  exact mom_congr fun i hi => by
    have := of_decide_eq_false (this i hi)
    omega
/-! ### the halving tree -/
def treeW (many w : Nat) : List (Nat × Nat) := (List.range (many / w)).map fun k => (k * w, w)
def tree (many t : Nat) : List (Nat × Nat) := (List.range t).flatMap fun i => treeW many (many / 2 ^ i)
theorem tree_succ (many t : Nat) : tree many (t + 1) = tree many t ++ treeW many (many / 2 ^ t) := by
  unfold tree
  rw [List.range_succ, List.flatMap_append]
  simp
/-- the law's nine turns -/
def meets (many : Nat) (P : Nat × Nat → Bool) : Nat → Bool
  | 0 => false
  | t + 1 => meets many P t || (treeW many (max 1 (many / 2 ^ t))).any P
theorem meets_tree {P : Nat × Nat → Bool} {b : Nat} (hb : b ≤ 8) : meets (2 ^ b) P 9 = (tree (2 ^ b) (b + 1)).any P := by
  have w : ∀ t, max 1 (2 ^ b / 2 ^ t) = if t ≤ b then 2 ^ b / 2 ^ t else 1 := fun t => by
    split
    · rename_i h
      rw [Nat.pow_div h (by decide)]
      have := Nat.one_le_two_pow (n := b - t)
      omega
    · rename_i h
      rw [Nat.div_eq_of_lt (Nat.pow_lt_pow_right (by decide) (by omega))]
      rfl
  have a : ∀ t, t ≤ b + 1 → meets (2 ^ b) P t = (tree (2 ^ b) t).any P := by
    intro t
    induction t with
    | zero => exact fun _ => rfl
    | succ t ih =>
      intro ht
      rw [tree_succ, List.any_append, meets, ih (by omega), w, if_pos (by omega)]
  have c : ∀ k, meets (2 ^ b) P (b + 1 + k) = (tree (2 ^ b) (b + 1)).any P := by
    intro k
    induction k with
    | zero => exact a _ (Nat.le_refl _)
    | succ k ih =>
      rw [show b + 1 + (k + 1) = (b + 1 + k) + 1 by omega, meets, ih, w, if_neg (by omega)]
      have e : (tree (2 ^ b) (b + 1)).any P = ((tree (2 ^ b) b).any P || (treeW (2 ^ b) 1).any P) := by
        rw [tree_succ, List.any_append, Nat.div_self (Nat.two_pow_pos b)]
      rw [e, Bool.or_assoc, Bool.or_self]
  have := c (8 - b)
  rwa [show b + 1 + (8 - b) = 9 by omega] at this
theorem tree_any_congr {P R : Nat × Nat → Bool} {many t : Nat} (h : ∀ low w, low + w ≤ many → P (low, w) = R (low, w)) : (tree many t).any P = (tree many t).any R := by
  have g : ∀ x, x ∈ tree many t → x.1 + x.2 ≤ many := fun x hx => by
    unfold tree treeW at hx
    obtain ⟨i, hi, hx⟩ := List.mem_flatMap.mp hx
    obtain ⟨k, hk, rfl⟩ := List.mem_map.mp hx
    have hk := List.mem_range.mp hk
    generalize many / 2 ^ i = v at hk
    show k * v + v ≤ many
    have h1 : (k + 1) * v ≤ many / v * v := Nat.mul_le_mul_right v (by omega)
    have h2 := Nat.div_mul_le_self many v
    rw [Nat.add_mul, Nat.one_mul] at h1
    omega
  generalize tree many t = l at g
  induction l with
  | nil => rfl
  | cons x r ih =>
    rw [List.any_cons, List.any_cons, h x.1 x.2 (g x (List.mem_cons_self ..)), ih fun y hy => g y (List.mem_cons_of_mem _ hy)]
theorem tree_single {many t s : Nat} (h : t ≥ 1) (e : many = 2 ^ (t - 1)) (hs : s < many) : (s, 1) ∈ tree many t := by
  obtain ⟨u, rfl⟩ : ∃ u, t = u + 1 := ⟨t - 1, by omega⟩
  rw [tree_succ]
  refine List.mem_append.mpr (.inr ?_)
  have : many / 2 ^ u = 1 := by
    rw [e, Nat.add_sub_cancel, Nat.div_self (Nat.two_pow_pos u)]
  rw [this]
  unfold treeW
  exact List.mem_map.mpr ⟨s, List.mem_range.mpr (by simpa using hs), by simp⟩
def bkm (xs : List (Addr × Sy)) (k : Int) : Int := rkO ((fdT Sy.s xs k).map (·.2))
abbrev MomAt (H : Hp) (t : Addr) (m : Mom) : Prop := H t = some (.tup [.int m.m0, .int m.m1, .int m.m2])
def dM (m : Mom) : PyData := .tuple [.int m.m0, .int m.m1, .int m.m2]
theorem dM_eqv (a b : Mom) : PyData.eqv (dM a) (dM b) = decide (a = b) := by
  obtain ⟨a1, a2, a3⟩ := a
  obtain ⟨b1, b2, b3⟩ := b
  unfold dM
  simp only [PyData.eqv, PyData.eqvAll, Bool.and_true, Mom.mk.injEq]
  by_cases h1 : a1 = b1 <;> by_cases h2 : a2 = b2 <;> by_cases h3 : a3 = b3 <;> simp [h1, h2, h3]
theorem dM_shaped (m : Mom) : SeqAt.shaped (dM m) = true := Bool.and_eq_true_iff.mpr ⟨by simp [dM, PyData.canLay0, PyData.canLayAll0], decide_eq_true (by simp [dM, PyData.depth, PyData.depthAll])⟩
theorem dp_M {K : PySem.W.Frag} {H : Hp} {t : Addr} {m : Mom} (h : MomAt H t m) : Dp K H (.ref t) (dM m) := .tup (SqT.of h) (.cons (.int _) (.cons (.int _) (.cons (.int _) .nil)))
theorem rd_eqM {K : PySem.W.Frag} {H : Hp} {Q : VK} {a b : Addr} {x y : Mom} (h1 : MomAt H a x) (h2 : MomAt H b y) (q : Q (.bl (decide (x = y))) H) : rEqD K (.ref a) (.ref b) H Q :=
  ⟨dM x, dM y, dp_M h1, dp_M h2, dM_shaped x, dM_shaped y, by
    rw [dM_eqv]
    exact q⟩
theorem rd_neM {K : PySem.W.Frag} {H : Hp} {Q : VK} {a b : Addr} {x y : Mom} (h1 : MomAt H a x) (h2 : MomAt H b y) (q : Q (.bl (!decide (x = y))) H) : rNeD K (.ref a) (.ref b) H Q :=
  ⟨dM x, dM y, dp_M h1, dp_M h2, dM_shaped x, dM_shaped y, by
    rw [dM_eqv]
    exact q⟩
/-! ### two sides that hand items over -/
inductive It where
  | say (y : Sy)
  | sum (low : Int) (w : Nat) (m : Mom)
  deriving DecidableEq
def mO (Y : Int → Option Sy) (low : Int) (w : Nat) : Mom := mom (fun i => rkO (Y (low + (i : Nat)))) w
def ownS (Y : Int → Option Sy) (low : Int) (w : Nat) : It := .sum low w (mO Y low w)
def ansS (Y : Int → Option Sy) (low : Int) (w : Nat) : List It :=
  if 1 < w then [ownS Y low (w / 2), ownS Y (low + ((w / 2 : Nat) : Int)) (w / 2)]
  else match Y low with
    | none => [ownS Y low 1]
    | some y => [.say y]
def ansI (Y : Int → Option Sy) : It → List It
  | .say y => if rk y < rkO (Y y.s) then (Y y.s).toList.map .say else []
  | .sum low w m => if mO Y low w = m then [] else ansS Y low w
def tkI (Y : Int → Option Sy) : It → Int → Option Sy
  | .say y => tkF Y y
  | .sum .. => Y
def isSay : It → Bool
  | .say _ => true
  | .sum .. => false
def rcv (Y : Int → Option Sy) (q : List It) : List It → (Int → Option Sy) × List It
  | [] => (Y, q)
  | it :: r => rcv (tkI Y it) (q ++ ansI Y it) r
theorem rcv_append (its js : List It) : ∀ (Y : Int → Option Sy) (q : List It), rcv Y q (its ++ js) = rcv (rcv Y q its).1 (rcv Y q its).2 js := by
  induction its with
  | nil => exact fun _ _ => rfl
  | cons a r ih => exact fun Y q => ih _ _
def srtI (l : List It) : List It := l.filter isSay ++ l.filter fun i => !isSay i
theorem srtI_mem {l : List It} {i : It} : i ∈ srtI l ↔ i ∈ l := by
  unfold srtI
  rw [List.mem_append, List.mem_filter, List.mem_filter]
  cases h : isSay i <;> simp
theorem ansI_len (Y : Int → Option Sy) (i : It) : (ansI Y i).length ≤ 2 := by
  cases i with
  | say y =>
    show (if rk y < rkO (Y y.s) then (Y y.s).toList.map It.say else []).length ≤ 2
    split
    · cases Y y.s <;> simp
    · simp
  | sum low w m =>
    show (if mO Y low w = m then [] else ansS Y low w).length ≤ 2
    split
    · simp
    · unfold ansS
      split
      · simp
      · split <;> simp
theorem rcv_len (its : List It) : ∀ (Y : Int → Option Sy) (q : List It), (rcv Y q its).2.length ≤ q.length + 2 * its.length := by
  induction its with
  | nil => exact fun _ _ => by simp [rcv]
  | cons a r ih =>
    intro Y q
    have h1 := ih (tkI Y a) (q ++ ansI Y a)
    have h2 := ansI_len Y a
    rw [List.length_append] at h1
    simp only [List.length_cons]
    show (rcv (tkI Y a) (q ++ ansI Y a) r).2.length ≤ _
    omega
/-- what both may come to -/
structure Jn (A0 B0 J : Int → Option Sy) : Prop where
  j : ∀ k, J k = A0 k ∨ J k = B0 k
  a : ∀ k, rkO (A0 k) ≤ rkO (J k)
  b : ∀ k, rkO (B0 k) ≤ rkO (J k)
  ta : ∀ k, rkO (A0 k) = rkO (J k) → A0 k = J k
  tb : ∀ k, rkO (B0 k) = rkO (J k) → B0 k = J k
  ka : ∀ k y, A0 k = some y → 0 < rk y ∧ y.s = k
  kb : ∀ k y, B0 k = some y → 0 < rk y ∧ y.s = k
theorem Jn.sw {A0 B0 J : Int → Option Sy} (h : Jn A0 B0 J) : Jn B0 A0 J := ⟨fun k => (h.j k).symm, h.b, h.a, h.tb, h.ta, h.kb, h.ka⟩
def dif (A0 B0 : Int → Option Sy) (k : Int) : Bool := decide (A0 k ≠ B0 k)
theorem dif_sw (A0 B0 : Int → Option Sy) : dif A0 B0 = dif B0 A0 := by
  funext k
  unfold dif
  exact decide_eq_decide.mpr ⟨Ne.symm, Ne.symm⟩
def cntD (D : Int → Bool) (low : Int) : Nat → Nat
  | 0 => 0
  | w + 1 => cntD D low w + if D (low + (w : Int)) then 1 else 0
theorem cntD_add (D : Int → Bool) (low : Int) (a : Nat) : ∀ b : Nat, cntD D low (a + b) = cntD D low a + cntD D (low + (a : Int)) b
  | 0 => rfl
  | b + 1 => by
    show cntD D low (a + b) + (if D (low + ((a + b : Nat) : Int)) then 1 else 0) = _
    rw [cntD_add D low a b]
    show _ = cntD D low a + (cntD D (low + (a : Int)) b + if D (low + (a : Int) + (b : Int)) then 1 else 0)
    rw [show low + ((a + b : Nat) : Int) = low + (a : Int) + (b : Int) by omega]
    omega
theorem cntD_pos {D : Int → Bool} {low k : Int} : ∀ {w : Nat}, low ≤ k → k < low + (w : Int) → D k = true → 1 ≤ cntD D low w
  | 0, h0, h1, _ => by omega
  | w + 1, h0, h1, hd => by
    show 1 ≤ cntD D low w + if D (low + (w : Int)) then 1 else 0
    by_cases e : k = low + (w : Int)
    · rw [← e, hd]
      simp
    · have := cntD_pos (D := D) (w := w) h0 (by omega) hd
      omega
theorem cntD_sub {D : Int → Bool} {low : Int} {a b n : Nat} (h : (a : Int) = low) (h2 : a + b ≤ n) : cntD D low b ≤ cntD D 0 n := by
  have e := cntD_add D 0 a b
  have e2 := cntD_add D 0 (a + b) (n - (a + b))
  rw [show a + b + (n - (a + b)) = n by omega] at e2
  rw [Int.zero_add, h] at e
  omega
theorem cntD_zero {D : Int → Bool} {low : Int} : ∀ {w : Nat}, (∀ k, D k = false) → cntD D low w = 0
  | 0, _ => rfl
  | w + 1, h => by
    show cntD D low w + (if D (low + (w : Int)) then 1 else 0) = 0
    rw [cntD_zero h, h]
    rfl
def wtI (J : Int → Option Sy) (D : Int → Bool) : It → Nat
  | .say y => if rk y < rkO (J y.s) then 2 else 1
  | .sum low w m => 1 + (if w = 1 ∧ m.m0 = 0 then 1 else 2 * w.log2 + 2) * cntD D low w
def wtL (J : Int → Option Sy) (D : Int → Bool) (l : List It) : Nat := (l.map (wtI J D)).sum
theorem wtL_append (J : Int → Option Sy) (D : Int → Bool) (l r : List It) : wtL J D (l ++ r) = wtL J D l + wtL J D r := by
  unfold wtL
  rw [List.map_append, List.sum_append]
theorem wtI_pos (J : Int → Option Sy) (D : Int → Bool) (i : It) : 1 ≤ wtI J D i := by
  cases i with
  | say y =>
    show 1 ≤ if rk y < rkO (J y.s) then 2 else 1
    split <;> omega
  | sum low w m =>
    show 1 ≤ 1 + _
    omega
theorem wtL_len (J : Int → Option Sy) (D : Int → Bool) : ∀ l : List It, l.length ≤ wtL J D l
  | [] => Nat.le_refl _
  | a :: r => by
    have h1 := wtI_pos J D a
    have h2 := wtL_len J D r
    show r.length + 1 ≤ wtI J D a + wtL J D r
    omega
theorem wtL_srt (J : Int → Option Sy) (D : Int → Bool) : ∀ l : List It, wtL J D (srtI l) = wtL J D l
  | [] => rfl
  | a :: r => by
    have ih := wtL_srt J D r
    unfold srtI at ih ⊢
    rw [wtL_append] at ih
    rw [wtL_append, List.filter_cons, List.filter_cons]
    show _ = wtI J D a + wtL J D r
    cases isSay a with
    | true =>
      rw [if_pos rfl, if_neg (by simp)]
      show wtI J D a + wtL J D _ + wtL J D _ = _
      omega
    | false =>
      rw [if_neg (by simp), if_pos (by simp)]
      show wtL J D _ + (wtI J D a + wtL J D _) = _
      omega
theorem srtI_len (l : List It) : (srtI l).length = l.length := by
  unfold srtI
  rw [List.length_append]
  induction l with
  | nil => rfl
  | cons a r ih =>
    rw [List.filter_cons, List.filter_cons]
    cases isSay a <;> simp <;> omega
def goodI (n : Int) (X0 J YX : Int → Option Sy) : It → Prop
  | .say y => (0 ≤ y.s ∧ y.s < n) ∧ 0 < rk y ∧ (some y = X0 y.s ∨ (some y = J y.s ∧ YX y.s = J y.s))
  | .sum low w m => (0 ≤ low ∧ low + (w : Int) ≤ n) ∧ (∃ j, w = 2 ^ j) ∧ ∃ Z : Int → Option Sy, (∀ k, Z k = X0 k ∨ (Z k = J k ∧ YX k = J k)) ∧ m = mO Z low w
def covI (P : Nat → Prop) (k : Int) : It → Prop
  | .say y => y.s = k
  | .sum low w _ => P w ∧ low ≤ k ∧ k < low + (w : Int)
/-- sums of such ranges tell books that differ -/
structure Sens (n : Int) (P : Nat → Prop) (A0 B0 J : Int → Option Sy) : Prop where
  s : ∀ (Z Z' : Int → Option Sy) (low : Int) (w : Nat), 0 ≤ low → low + (w : Int) ≤ n → P w → (∀ k, Z k = A0 k ∨ Z k = J k) → (∀ k, Z' k = B0 k ∨ Z' k = J k) → mO Z low w = mO Z' low w → ∀ k, low ≤ k → k < low + (w : Int) → Z k = Z' k
  h : ∀ w, P w → P (w / 2)
theorem Sens.sw {n : Int} {P : Nat → Prop} {A0 B0 J : Int → Option Sy} (S : Sens n P A0 B0 J) : Sens n P B0 A0 J :=
  ⟨fun Z Z' low w h0 h1 hp hz hz' e k k0 k1 => (S.s Z' Z low w h0 h1 hp hz' hz e.symm k k0 k1).symm, S.h⟩
structure IvT (n : Int) (P : Nat → Prop) (C : Int → Prop) (A0 B0 J Ya Yb : Int → Option Sy) (LA LB : List It) : Prop where
  va : ∀ k, Ya k = A0 k ∨ Ya k = J k
  vb : ∀ k, Yb k = B0 k ∨ Yb k = J k
  ga : ∀ i, i ∈ LA → goodI n A0 J Ya i
  gb : ∀ i, i ∈ LB → goodI n B0 J Yb i
  cv : ∀ k, C k → Ya k ≠ Yb k → (∃ i, i ∈ LA ∧ covI P k i) ∨ ∃ i, i ∈ LB ∧ covI P k i
section
variable {n : Int} {P : Nat → Prop} {C : Int → Prop} {A0 B0 J Ya Yb : Int → Option Sy} {LA LB : List It}
theorem IvT.sw (I : IvT n P C A0 B0 J Ya Yb LA LB) : IvT n P C B0 A0 J Yb Ya LB LA := ⟨I.vb, I.va, I.gb, I.ga, fun k hc h => (I.cv k hc (Ne.symm h)).symm⟩
theorem IvT.congr {LA' LB' : List It} (I : IvT n P C A0 B0 J Ya Yb LA LB) (ea : ∀ i, i ∈ LA ↔ i ∈ LA') (eb : ∀ i, i ∈ LB ↔ i ∈ LB') : IvT n P C A0 B0 J Ya Yb LA' LB' :=
  ⟨I.va, I.vb, fun i h => I.ga i ((ea i).mpr h), fun i h => I.gb i ((eb i).mpr h), fun k hc h => (I.cv k hc h).imp (fun ⟨i, h1, h2⟩ => ⟨i, (ea i).mp h1, h2⟩) fun ⟨i, h1, h2⟩ => ⟨i, (eb i).mp h1, h2⟩⟩
theorem Jn.kj (H : Jn A0 B0 J) {k : Int} {y : Sy} (h : J k = some y) : 0 < rk y ∧ y.s = k := by
  rcases H.j k with e | e
  · exact H.ka k y (e ▸ h)
  · exact H.kb k y (e ▸ h)
theorem Jn.le (H : Jn A0 B0 J) {k : Int} {o : Option Sy} (h : o = A0 k ∨ o = J k) : rkO o ≤ rkO (J k) := by
  rcases h with rfl | rfl
  · exact H.a k
  · exact Int.le_refl _
theorem Jn.tie (H : Jn A0 B0 J) {k : Int} {o : Option Sy} (h : o = A0 k ∨ o = J k) (e : rkO o = rkO (J k)) : o = J k := by
  rcases h with rfl | rfl
  · exact H.ta k e
  · rfl
/-- who is lower than the other has the old one, and the other has all -/
theorem Jn.low (H : Jn A0 B0 J) {k : Int} {x y : Option Sy} (hx : x = A0 k ∨ x = J k) (hy : y = B0 k ∨ y = J k) (h : rkO x < rkO y) : x = A0 k ∧ y = J k ∧ J k = B0 k ∧ A0 k ≠ B0 k := by
  have h1 := H.sw.le hy
  have h2 := H.le hx
  have e1 : x = A0 k := hx.resolve_right fun z => by
    rw [z] at h
    omega
  have ne : A0 k ≠ J k := fun z => by
    rw [e1, z] at h
    omega
  have e2 : J k = B0 k := (H.j k).resolve_left fun z => ne z.symm
  refine ⟨e1, ?_, e2, fun z => ne (z.trans e2.symm)⟩
  rcases hy with z | z
  · rw [z, e2]
  · exact z
theorem Jn.eq (H : Jn A0 B0 J) {k : Int} {x y : Option Sy} (hx : x = A0 k ∨ x = J k) (hy : y = B0 k ∨ y = J k) (h : rkO x = rkO y) : x = y := by
  have t1 : rkO x = rkO (J k) ∨ rkO y = rkO (J k) → x = y := fun z => by
    have e1 : rkO x = rkO (J k) := by
      rcases z with z | z
      · exact z
      · rw [h]
        exact z
    rw [H.tie hx e1, H.sw.tie hy (by rw [← h]; exact e1)]
  rcases hx with z | z
  · rcases hy with z2 | z2
    · rcases H.j k with e | e
      · exact t1 (.inl (by rw [z, e]))
      · exact t1 (.inr (by rw [z2, e]))
    · exact t1 (.inr (by rw [z2]))
  · exact t1 (.inl (by rw [z]))
theorem mO_congr {Z Z' : Int → Option Sy} {low : Int} {w : Nat} (h : ∀ k, low ≤ k → k < low + (w : Int) → Z k = Z' k) : mO Z low w = mO Z' low w := by
  unfold mO
  exact mom_congr fun i hi => by
    show rkO (Z (low + (i : Int))) = rkO (Z' (low + (i : Int)))
    rw [h _ (by omega) (by omega)]
theorem mO_ne {Z Z' : Int → Option Sy} {low : Int} {w : Nat} (h : mO Z low w ≠ mO Z' low w) : ∃ k, low ≤ k ∧ k < low + (w : Int) ∧ Z k ≠ Z' k :=
  Classical.byContradiction fun z => h (mO_congr fun k h0 h1 => Classical.byContradiction fun q => z ⟨k, h0, h1, q⟩)
theorem mO_one (Z : Int → Option Sy) (low : Int) : mO Z low 1 = ⟨rkO (Z low), rkO (Z low), rkO (Z low)⟩ := by
  show (⟨0 + rkO (Z (low + ((0 : Nat) : Int))), 0 + rkO (Z (low + ((0 : Nat) : Int))) * (((0 : Nat) : Int) + 1), 0 + rkO (Z (low + ((0 : Nat) : Int))) * (((0 : Nat) : Int) + 1) * (((0 : Nat) : Int) + 1)⟩ : Mom) = _
  simp
theorem log2_half {j : Nat} : (2 ^ (j + 1)).log2 = (2 ^ (j + 1) / 2).log2 + 1 := by
  rw [Nat.log2_two_pow, Nat.pow_succ, Nat.mul_div_cancel _ (by decide), Nat.log2_two_pow]
theorem wt_own_le (J Y : Int → Option Sy) (D : Int → Bool) (low : Int) (w : Nat) : wtI J D (ownS Y low w) ≤ 1 + (2 * w.log2 + 2) * cntD D low w := by
  show 1 + (if w = 1 ∧ (mO Y low w).m0 = 0 then 1 else 2 * w.log2 + 2) * cntD D low w ≤ _
  split
  · exact Nat.add_le_add_left (Nat.mul_le_mul_right _ (by omega)) 1
  · exact Nat.le_refl _
theorem IvT.step {i : It} (H : Jn A0 B0 J) (S : Sens n P A0 B0 J) (I : IvT n P C A0 B0 J Ya Yb (i :: LA) LB) :
    IvT n P C A0 B0 J Ya (tkI Yb i) LA (LB ++ ansI Yb i) ∧ wtL J (dif A0 B0) (ansI Yb i) + 1 ≤ wtI J (dif A0 B0) i := by
  have gi := I.ga i (List.mem_cons_self ..)
  have ga' : ∀ i, i ∈ LA → goodI n A0 J Ya i := fun x hx => I.ga x (List.mem_cons_of_mem _ hx)
  cases i with
  | say y =>
    obtain ⟨hr, hp, hy⟩ := gi
    have hyA : some y = A0 y.s ∨ some y = J y.s := hy.imp id And.left
    have hw : wtI J (dif A0 B0) (.say y) = if rk y < rkO (J y.s) then 2 else 1 := rfl
    have cv' : ∀ k, C k → k ≠ y.s → Ya k ≠ Yb k → (∃ i, i ∈ LA ∧ covI P k i) ∨ ∃ i, i ∈ LB ∧ covI P k i := fun k hc n h => by
      rcases I.cv k hc h with ⟨x, hx, c⟩ | h
      · rcases List.mem_cons.mp hx with rfl | hx
        · exact absurd (Eq.symm c) n
        · exact .inl ⟨x, hx, c⟩
      · exact .inr h
    by_cases h1 : rk y < rkO (Yb y.s)
    · obtain ⟨e1, e2, e3, e4⟩ := H.low (x := some y) hyA (I.vb y.s) h1
      have ea : ansI Yb (.say y) = (Yb y.s).toList.map .say := if_pos h1
      obtain ⟨z, hz⟩ : ∃ z, Yb y.s = some z := by
        cases q : Yb y.s with
        | none =>
          rw [q] at h1
          have h1 : rk y < 0 := h1
          omega
        | some z => exact ⟨z, rfl⟩
      have et : tkI Yb (.say y) = Yb := by
        funext k
        show (if k = y.s ∧ rkO (Yb k) < rk y then some y else Yb k) = Yb k
        rw [if_neg]
        rintro ⟨rfl, q⟩
        omega
      have zj : J y.s = some z := e2 ▸ hz
      obtain ⟨zp, zs⟩ := H.kj zj
      rw [ea, et, hz]
      refine ⟨⟨I.va, I.vb, ga', fun x hx => ?_, fun k hc hk => ?_⟩, ?_⟩
      · rcases List.mem_append.mp hx with hx | hx
        · exact I.gb x hx
        · obtain rfl : x = .say z := by simpa using hx
          refine ⟨by rw [zs]; exact hr, zp, .inr ⟨?_, ?_⟩⟩
          · rw [zs]
            exact zj.symm
          · rw [zs]
            exact e2
      · by_cases q : k = y.s
        · exact .inr ⟨.say z, by simp, zs.trans q.symm⟩
        · exact (cv' k hc q hk).imp id fun ⟨x, hx, c⟩ => ⟨x, List.mem_append_left _ hx, c⟩
      · rw [hw, if_pos (show rk y < rkO (J y.s) from e2 ▸ h1)]
        show wtI J (dif A0 B0) (.say z) + 0 + 1 ≤ 2
        have : wtI J (dif A0 B0) (.say z) = if rk z < rkO (J z.s) then 2 else 1 := rfl
        rw [this, zs, zj, if_neg (show ¬ rk z < rkO (some z) by
          show ¬ rk z < rk z
          omega)]
        omega
    · have ea : ansI Yb (.say y) = [] := if_neg h1
      rw [ea, List.append_nil]
      refine ⟨?_, ?_⟩
      rotate_left
      · show 0 + 1 ≤ _
        rw [hw]
        split <;> omega
      by_cases h2 : rkO (Yb y.s) < rk y
      · obtain ⟨e1, e2, e3, e4⟩ := H.sw.low (x := Yb y.s) (y := some y) (I.vb y.s) hyA h2
        have ya : Ya y.s = J y.s := by
          rcases hy with q | q
          · rcases I.va y.s with z | z
            · rw [z, ← q]
              exact e2
            · exact z
          · exact q.2
        have et : ∀ k, tkI Yb (.say y) k = if k = y.s then J y.s else Yb k := fun k => by
          show (if k = y.s ∧ rkO (Yb k) < rk y then some y else Yb k) = _
          by_cases q : k = y.s
          · subst q
            rw [if_pos ⟨rfl, h2⟩, if_pos rfl, e2]
          · rw [if_neg fun z => q z.1, if_neg q]
        refine ⟨I.va, fun k => ?_, ga', fun x hx => ?_, fun k hc hk => ?_⟩
        · rw [et]
          by_cases q : k = y.s
          · rw [if_pos q, q]
            exact .inr rfl
          · rw [if_neg q]
            exact I.vb k
        · have g := I.gb x hx
          cases x with
          | say z =>
            refine ⟨g.1, g.2.1, g.2.2.imp id fun q => ⟨q.1, ?_⟩⟩
            rw [et]
            by_cases e : z.s = y.s
            · rw [if_pos e, e]
            · rw [if_neg e]
              exact q.2
          | sum low w m =>
            obtain ⟨g1, g2, Z, g3, g4⟩ := g
            refine ⟨g1, g2, Z, fun k => (g3 k).imp id fun q => ⟨q.1, ?_⟩, g4⟩
            rw [et]
            by_cases e : k = y.s
            · rw [if_pos e, e]
            · rw [if_neg e]
              exact q.2
        · rw [et] at hk
          by_cases q : k = y.s
          · rw [if_pos q, q] at hk
            exact absurd ya hk
          · rw [if_neg q] at hk
            exact cv' k hc q hk
      · have et : tkI Yb (.say y) = Yb := by
          funext k
          show (if k = y.s ∧ rkO (Yb k) < rk y then some y else Yb k) = Yb k
          rw [if_neg]
          rintro ⟨rfl, q⟩
          exact h2 q
        rw [et]
        have er : rkO (some y) = rkO (Yb y.s) := by
          show rk y = _
          omega
        have e0 := H.eq (x := some y) hyA (I.vb y.s) er
        refine ⟨I.va, I.vb, ga', I.gb, fun k hc hk => ?_⟩
        by_cases q : k = y.s
        · subst q
          refine absurd ?_ hk
          rcases hy with q | q
          · rcases I.va y.s with z | z
            · rw [z, ← q, e0]
            · -- Ya is J: then both are J
              rw [z]
              rcases H.j y.s with e | e
              · rw [← e0, q, e]
              · rcases I.vb y.s with u | u
                · rw [u, e]
                · rw [u]
          · rw [q.2, ← q.1, e0]
        · exact cv' k hc q hk
  | sum low w m =>
    obtain ⟨⟨hl, hlw⟩, ⟨j, hj⟩, Z, hZ, hm⟩ := gi
    have hZ' : ∀ k, Z k = A0 k ∨ Z k = J k := fun k => (hZ k).imp id And.left
    have hw : wtI J (dif A0 B0) (.sum low w m) = 1 + (if w = 1 ∧ m.m0 = 0 then 1 else 2 * w.log2 + 2) * cntD (dif A0 B0) low w := rfl
    have et : tkI Yb (.sum low w m) = Yb := rfl
    rw [et]
    have cv' : ∀ k, C k → ¬ (P w ∧ low ≤ k ∧ k < low + (w : Int)) → Ya k ≠ Yb k → (∃ i, i ∈ LA ∧ covI P k i) ∨ ∃ i, i ∈ LB ∧ covI P k i := fun k hc n h => by
      rcases I.cv k hc h with ⟨x, hx, c⟩ | h
      · rcases List.mem_cons.mp hx with rfl | hx
        · exact absurd c n
        · exact .inl ⟨x, hx, c⟩
      · exact .inr h
    by_cases e : mO Yb low w = m
    · have ea : ansI Yb (.sum low w m) = [] := if_pos e
      rw [ea, List.append_nil]
      refine ⟨⟨I.va, I.vb, ga', I.gb, fun k hc hk => cv' k hc (fun c => hk ?_) hk⟩, by rw [hw]; show 0 + 1 ≤ 1 + _; omega⟩
      have ez : Z k = Yb k := S.s Z Yb low w hl hlw c.1 hZ' I.vb (by rw [← hm, e]) k c.2.1 c.2.2
      rcases hZ k with q | q
      · rcases I.va k with z | z
        · rw [z, ← q, ez]
        · rw [z]
          rcases H.j k with u | u
          · rw [u, ← q, ez]
          · rcases I.vb k with v | v
            · rw [v, u]
            · rw [v]
      · rw [q.2, ← q.1, ez]
    · have ea : ansI Yb (.sum low w m) = ansS Yb low w := if_neg e
      rw [ea]
      obtain ⟨k0, k1, k2, k3⟩ := mO_ne (Z := Z) (Z' := Yb) (low := low) (w := w) fun z => e (by rw [hm, z])
      have kd : A0 k0 ≠ B0 k0 := fun z => k3 (by
        have q : J k0 = A0 k0 := (H.j k0).elim id fun q => q.trans z.symm
        rw [(hZ' k0).elim id fun u => u.trans q, (I.vb k0).elim (fun u => u.trans z.symm) fun u => u.trans q])
      have hD : 1 ≤ cntD (dif A0 B0) low w := cntD_pos k1 k2 (decide_eq_true kd)
      have gown : ∀ (l : Int) (v : Nat), 0 ≤ l → l + (v : Int) ≤ n → (∃ j, v = 2 ^ j) → goodI n B0 J Yb (ownS Yb l v) := fun l v h0 h1 hv => ⟨⟨h0, h1⟩, hv, Yb, fun k => (I.vb k).imp id fun q => ⟨q, q⟩, rfl⟩
      by_cases w1 : 1 < w
      · have es : ansS Yb low w = [ownS Yb low (w / 2), ownS Yb (low + ((w / 2 : Nat) : Int)) (w / 2)] := if_pos w1
        rw [es]
        obtain ⟨i, rfl⟩ : ∃ i, j = i + 1 := by
          cases j with
          | zero => omega
          | succ i => exact ⟨i, rfl⟩
        have eh : w / 2 = 2 ^ i := by rw [hj, Nat.pow_succ, Nat.mul_div_cancel _ (by decide)]
        have e2 : w = w / 2 + w / 2 := by rw [eh, hj, Nat.pow_succ]; omega
        have el : w.log2 = (w / 2).log2 + 1 := by rw [hj]; exact log2_half
        refine ⟨⟨I.va, I.vb, ga', fun x hx => ?_, fun k hc hk => ?_⟩, ?_⟩
        · rcases List.mem_append.mp hx with hx | hx
          · exact I.gb x hx
          · simp only [List.mem_cons, List.not_mem_nil, or_false] at hx
            rcases hx with rfl | rfl
            · exact gown _ _ hl (by omega) ⟨i, eh⟩
            · exact gown _ _ (by omega) (by omega) ⟨i, eh⟩
        · by_cases c : P w ∧ low ≤ k ∧ k < low + (w : Int)
          · obtain ⟨c1, c2, c3⟩ := c
            by_cases q : k < low + ((w / 2 : Nat) : Int)
            · exact .inr ⟨ownS Yb low (w / 2), by simp, S.h w c1, c2, q⟩
            · exact .inr ⟨ownS Yb (low + ((w / 2 : Nat) : Int)) (w / 2), by simp, S.h w c1, by omega, by omega⟩
          · exact (cv' k hc c hk).imp id fun ⟨x, hx, c⟩ => ⟨x, List.mem_append_left _ hx, c⟩
        · rw [hw, if_neg (by omega)]
          have a1 := wt_own_le J Yb (dif A0 B0) low (w / 2)
          have a2 := wt_own_le J Yb (dif A0 B0) (low + ((w / 2 : Nat) : Int)) (w / 2)
          have a3 := cntD_add (dif A0 B0) low (w / 2) (w / 2)
          rw [← e2] at a3
          show wtI J (dif A0 B0) (ownS Yb low (w / 2)) + (wtI J (dif A0 B0) (ownS Yb (low + ((w / 2 : Nat) : Int)) (w / 2)) + 0) + 1 ≤ _
          rw [el, show 2 * ((w / 2).log2 + 1) + 2 = (2 * (w / 2).log2 + 2) + 2 by omega, Nat.add_mul, a3, Nat.mul_add]
          rw [a3] at hD
          omega
      · have ew : w = 1 := by
          have : 0 < w := by rw [hj]; exact Nat.two_pow_pos j
          omega
        subst ew
        have ek : k0 = low := by omega
        subst ek
        have eD : cntD (dif A0 B0) k0 1 = 1 := by
          have : cntD (dif A0 B0) k0 1 ≤ 1 := by
            show 0 + (if dif A0 B0 (k0 + ((0 : Nat) : Int)) then 1 else 0) ≤ 1
            split <;> omega
          omega
        have em : m.m0 = rkO (Z k0) := by rw [hm, mO_one]
        have hw2 : wtI J (dif A0 B0) (.sum k0 1 m) = 1 + if rkO (Z k0) = 0 then 1 else 2 := by
          rw [hw, eD, em, Nat.mul_one]
          by_cases z : rkO (Z k0) = 0
          · rw [if_pos ⟨rfl, z⟩, if_pos z]
          · rw [if_neg (fun q => z q.2), if_neg z]
            rfl
        cases q : Yb k0 with
        | none =>
          have es : ansS Yb k0 1 = [ownS Yb k0 1] := by
            unfold ansS
            rw [if_neg (by omega), q]
          rw [es]
          have z0 : rkO (Z k0) ≠ 0 := fun z => k3 (by
            have := H.eq (hZ' k0) (I.vb k0) (by rw [z, q]; rfl)
            exact this)
          refine ⟨⟨I.va, I.vb, ga', fun x hx => ?_, fun k hc hk => ?_⟩, ?_⟩
          · rcases List.mem_append.mp hx with hx | hx
            · exact I.gb x hx
            · obtain rfl := List.mem_singleton.mp hx
              exact gown _ _ hl hlw ⟨j, hj⟩
          · by_cases c : P 1 ∧ k0 ≤ k ∧ k < k0 + ((1 : Nat) : Int)
            · exact .inr ⟨ownS Yb k0 1, by simp, c⟩
            · exact (cv' k hc c hk).imp id fun ⟨x, hx, c⟩ => ⟨x, List.mem_append_left _ hx, c⟩
          · rw [hw2, if_neg z0]
            have : wtI J (dif A0 B0) (ownS Yb k0 1) = 2 := by
              show 1 + (if (1 : Nat) = 1 ∧ (mO Yb k0 1).m0 = 0 then 1 else 2 * (1 : Nat).log2 + 2) * cntD (dif A0 B0) k0 1 = 2
              rw [eD, mO_one, q, if_pos ⟨rfl, rfl⟩]
            show wtI J (dif A0 B0) (ownS Yb k0 1) + 0 + 1 ≤ _
            omega
        | some y =>
          have es : ansS Yb k0 1 = [.say y] := by
            unfold ansS
            rw [if_neg (by omega), q]
          rw [es]
          have hy : 0 < rk y ∧ y.s = k0 := by
            rcases I.vb k0 with u | u
            · exact H.kb _ _ (u ▸ q)
            · exact H.kj (u ▸ q)
          obtain ⟨yp, ys⟩ := hy
          refine ⟨⟨I.va, I.vb, ga', fun x hx => ?_, fun k hc hk => ?_⟩, ?_⟩
          · rcases List.mem_append.mp hx with hx | hx
            · exact I.gb x hx
            · obtain rfl := List.mem_singleton.mp hx
              refine ⟨by rw [ys]; exact ⟨hl, by omega⟩, yp, ?_⟩
              rw [ys]
              exact (I.vb k0).imp (fun u => by rw [← q, u]) fun u => ⟨by rw [← q, u], u⟩
          · by_cases c : P 1 ∧ k0 ≤ k ∧ k < k0 + ((1 : Nat) : Int)
            · exact .inr ⟨.say y, by simp, by show y.s = k; omega⟩
            · exact (cv' k hc c hk).imp id fun ⟨x, hx, c⟩ => ⟨x, List.mem_append_left _ hx, c⟩
          · rw [hw2]
            show (if rk y < rkO (J y.s) then 2 else 1) + 0 + 1 ≤ _
            by_cases z0 : rkO (Z k0) = 0
            · rw [if_pos z0]
              have := (H.low (x := Z k0) (y := some y) (hZ' k0) (q ▸ I.vb k0) (by
                rw [z0]
                exact yp)).2.1
              rw [ys, ← this, if_neg (show ¬ rk y < rkO (some y) by
                show ¬ rk y < rk y
                omega)]
              omega
            · rw [if_neg z0]
              split <;> omega
end
/-! ### rounds -/
structure TS where
  ya : Int → Option Sy
  yb : Int → Option Sy
  qa : List It
  qb : List It
def handA (room : Nat) (S : TS) : TS := ⟨S.ya, (rcv S.yb S.qb (srtI (S.qa.take room))).1, S.qa.drop room, (rcv S.yb S.qb (srtI (S.qa.take room))).2⟩
def handB (room : Nat) (S : TS) : TS := ⟨(rcv S.ya S.qa (srtI (S.qb.take room))).1, S.yb, (rcv S.ya S.qa (srtI (S.qb.take room))).2, S.qb.drop room⟩
def rnd (room : Nat) (S : TS) : TS := handB room (handA room S)
def itr (room : Nat) (S : TS) : Nat → TS
  | 0 => S
  | r + 1 => rnd room (itr room S r)
theorem itr_rnd (room : Nat) (S : TS) : ∀ r, itr room (rnd room S) r = itr room S (r + 1)
  | 0 => rfl
  | r + 1 => by
    show rnd room (itr room (rnd room S) r) = rnd room (itr room S (r + 1))
    rw [itr_rnd room S r]
def idleT (S : TS) : Prop := S.qa = [] ∧ S.qb = []
section
variable {n : Int} {P : Nat → Prop} {C : Int → Prop} {A0 B0 J Ya Yb : Int → Option Sy} {LA LB : List It}
theorem IvT.rcv (H : Jn A0 B0 J) (S : Sens n P A0 B0 J) : ∀ {its : List It} {Yb : Int → Option Sy} {LB : List It}, IvT n P C A0 B0 J Ya Yb (its ++ LA) LB →
    IvT n P C A0 B0 J Ya (rcv Yb LB its).1 LA (rcv Yb LB its).2 ∧ wtL J (dif A0 B0) (rcv Yb LB its).2 + its.length ≤ wtL J (dif A0 B0) its + wtL J (dif A0 B0) LB
  | [], Yb, LB, I => ⟨I, Nat.le_of_eq (Nat.add_comm _ _)⟩
  | i :: r, Yb, LB, I => by
    obtain ⟨I2, w2⟩ := IvT.step (LA := r ++ LA) H S I
    obtain ⟨I3, w3⟩ := IvT.rcv H S (its := r) I2
    refine ⟨I3, ?_⟩
    rw [wtL_append] at w3
    show wtL J (dif A0 B0) (My.rcv (tkI Yb i) (LB ++ ansI Yb i) r).2 + (r.length + 1) ≤ wtI J (dif A0 B0) i + wtL J (dif A0 B0) r + wtL J (dif A0 B0) LB
    omega
abbrev IvS (n : Int) (P : Nat → Prop) (C : Int → Prop) (A0 B0 J : Int → Option Sy) (S : TS) : Prop := IvT n P C A0 B0 J S.ya S.yb S.qa S.qb
def mu (J A0 B0 : Int → Option Sy) (S : TS) : Nat := wtL J (dif A0 B0) S.qa + wtL J (dif A0 B0) S.qb
theorem IvS.handA {room : Nat} {T : TS} (H : Jn A0 B0 J) (S : Sens n P A0 B0 J) (I : IvS n P C A0 B0 J T) : IvS n P C A0 B0 J (handA room T) ∧ mu J A0 B0 (handA room T) + (T.qa.take room).length ≤ mu J A0 B0 T := by
  have I2 : IvT n P C A0 B0 J T.ya T.yb (srtI (T.qa.take room) ++ T.qa.drop room) T.qb := IvT.congr I (fun i => by
    rw [List.mem_append, srtI_mem, ← List.mem_append, List.take_append_drop]) fun i => Iff.rfl
  obtain ⟨I3, w⟩ := IvT.rcv H S I2
  refine ⟨I3, ?_⟩
  rw [wtL_srt, srtI_len] at w
  have e : wtL J (dif A0 B0) (T.qa.take room) + wtL J (dif A0 B0) (T.qa.drop room) = wtL J (dif A0 B0) T.qa := by
    rw [← wtL_append, List.take_append_drop]
  show wtL J (dif A0 B0) (T.qa.drop room) + wtL J (dif A0 B0) (My.rcv T.yb T.qb (srtI (T.qa.take room))).2 + _ ≤ wtL J (dif A0 B0) T.qa + wtL J (dif A0 B0) T.qb
  omega
def swT (T : TS) : TS := ⟨T.yb, T.ya, T.qb, T.qa⟩
theorem handB_sw (room : Nat) (T : TS) : handB room T = swT (My.handA room (swT T)) := rfl
theorem mu_sw (T : TS) : mu J B0 A0 (swT T) = mu J A0 B0 T := by
  unfold mu swT
  rw [dif_sw B0 A0]
  exact Nat.add_comm _ _
theorem IvS.sw {T : TS} (I : IvS n P C A0 B0 J T) : IvS n P C B0 A0 J (swT T) := IvT.sw I
theorem IvS.rnd {room : Nat} {T : TS} (H : Jn A0 B0 J) (S : Sens n P A0 B0 J) (h : 1 ≤ room) (I : IvS n P C A0 B0 J T) : IvS n P C A0 B0 J (rnd room T) ∧ (¬ idleT T → mu J A0 B0 (rnd room T) + 1 ≤ mu J A0 B0 T) ∧ mu J A0 B0 (rnd room T) ≤ mu J A0 B0 T := by
  obtain ⟨I1, w1⟩ := IvS.handA (room := room) H S I
  obtain ⟨I2, w2⟩ := IvS.handA (room := room) H.sw S.sw (IvS.sw I1)
  have I3 := IvS.sw I2
  rw [mu_sw] at w2
  have e : mu J B0 A0 (My.handA room (swT (My.handA room T))) = mu J A0 B0 (My.rnd room T) := (mu_sw (J := J) (A0 := B0) (B0 := A0) _).symm
  rw [e] at w2
  refine ⟨I3, fun hi => ?_, by omega⟩
  by_cases ha : T.qa = []
  · have hb : T.qb ≠ [] := fun z => hi ⟨ha, z⟩
    have : 1 ≤ ((swT (My.handA room T)).qa.take room).length := by
      have e2 : (swT (My.handA room T)).qa = T.qb := by
        show (My.rcv T.yb T.qb (srtI (T.qa.take room))).2 = _
        rw [ha, List.take_nil]
        rfl
      rw [e2, List.length_take]
      have := List.length_pos_iff.mpr hb
      omega
    omega
  · have : 1 ≤ (T.qa.take room).length := by
      rw [List.length_take]
      have := List.length_pos_iff.mpr ha
      omega
    omega
/-- the talk ends -/
theorem IvS.ends {room : Nat} (H : Jn A0 B0 J) (S : Sens n P A0 B0 J) (h : 1 ≤ room) : ∀ (m : Nat) {T : TS}, IvS n P C A0 B0 J T → mu J A0 B0 T ≤ m →
    ∃ R, R ≤ mu J A0 B0 T ∧ idleT (itr room T R) ∧ (∀ r, r < R → ¬ idleT (itr room T r)) ∧ ∀ r, IvS n P C A0 B0 J (itr room T r) ∧ mu J A0 B0 (itr room T r) ≤ mu J A0 B0 T := by
  have all : ∀ {T : TS}, IvS n P C A0 B0 J T → ∀ r, IvS n P C A0 B0 J (itr room T r) ∧ mu J A0 B0 (itr room T r) ≤ mu J A0 B0 T := fun {T} I r => by
    induction r with
    | zero => exact ⟨I, Nat.le_refl _⟩
    | succ r ih =>
      obtain ⟨a, b, c⟩ := IvS.rnd (room := room) H S h ih.1
      exact ⟨a, Nat.le_trans c ih.2⟩
  intro m
  induction m with
  | zero =>
    intro T I hm
    have l1 := wtL_len J (dif A0 B0) T.qa
    have l2 := wtL_len J (dif A0 B0) T.qb
    have e : mu J A0 B0 T = wtL J (dif A0 B0) T.qa + wtL J (dif A0 B0) T.qb := rfl
    exact ⟨0, Nat.zero_le _, ⟨List.length_eq_zero_iff.mp (show T.qa.length = 0 by omega), List.length_eq_zero_iff.mp (show T.qb.length = 0 by omega)⟩, fun r hr => by omega, all I⟩
  | succ m ih =>
    intro T I hm
    by_cases hi : idleT T
    · exact ⟨0, Nat.zero_le _, hi, fun r hr => by omega, all I⟩
    · obtain ⟨I1, w1, -⟩ := IvS.rnd (room := room) H S h I
      have w1 := w1 hi
      obtain ⟨R, r1, r2, r3, r4⟩ := ih I1 (by omega)
      refine ⟨R + 1, by omega, by rw [← itr_rnd]; exact r2, fun r hr => ?_, all I⟩
      cases r with
      | zero => exact hi
      | succ r =>
        rw [← itr_rnd]
        exact r3 r (by omega)
/-- where both are silent, they agree on what is asked -/
theorem IvS.join {T : TS} (H : Jn A0 B0 J) (I : IvS n P C A0 B0 J T) (hi : idleT T) {k : Int} (hc : C k) : T.ya k = J k ∧ T.yb k = J k := by
  have e : T.ya k = T.yb k := Classical.byContradiction fun z => by
    rcases I.cv k hc z with ⟨i, hm, _⟩ | ⟨i, hm, _⟩
    · rw [hi.1] at hm
      cases hm
    · rw [hi.2] at hm
      cases hm
  have ej : T.ya k = J k := by
    rcases I.va k with q | q
    · rcases H.j k with u | u
      · rw [q, u]
      · rcases I.vb k with v | v
        · rw [e, v, u]
        · rw [e, v]
    · exact q
  exact ⟨ej, by rw [← e, ej]⟩
end
/-! the sums that begin it -/
def begL (Y : Int → Option Sy) (n : Nat) (lo hi : Nat) : List It := ownS Y 0 n :: (List.range (hi - lo)).map fun i => ownS Y ((lo : Int) + (i : Nat)) 1
theorem wt_leaves (J Y : Int → Option Sy) (D : Int → Bool) (lo : Int) : ∀ c : Nat, wtL J D ((List.range c).map fun i => ownS Y (lo + (i : Nat)) 1) ≤ c + 2 * cntD D lo c
  | 0 => Nat.le_refl _
  | c + 1 => by
    rw [List.range_succ, List.map_append, wtL_append]
    have ih := wt_leaves J Y D lo c
    have a := wt_own_le J Y D (lo + (c : Nat)) 1
    have e : cntD D (lo + (c : Nat)) 1 = if D (lo + (c : Nat)) then 1 else 0 := by
      show 0 + (if D (lo + (c : Nat) + ((0 : Nat) : Int)) then 1 else 0) = _
      rw [Nat.zero_add, show lo + (c : Nat) + ((0 : Nat) : Int) = lo + (c : Nat) by omega]
    have e2 : cntD D lo (c + 1) = cntD D lo c + if D (lo + (c : Nat)) then 1 else 0 := rfl
    have e3 : (2 * (1 : Nat).log2 + 2) = 2 := rfl
    rw [e3, e] at a
    show _ + (wtI J D (ownS Y (lo + (c : Nat)) 1) + 0) ≤ _
    omega
theorem mu_beg {A0 B0 J : Int → Option Sy} {b lo hi : Nat} (h : lo ≤ hi) (h2 : hi ≤ 2 ^ b) : mu J A0 B0 ⟨A0, B0, begL A0 (2 ^ b) lo hi, []⟩ ≤ 1 + (hi - lo) + (2 * b + 4) * cntD (dif A0 B0) 0 (2 ^ b) := by
  have a1 := wt_own_le J A0 (dif A0 B0) 0 (2 ^ b)
  rw [Nat.log2_two_pow] at a1
  have a2 := wt_leaves J A0 (dif A0 B0) lo (hi - lo)
  have a3 := cntD_sub (D := dif A0 B0) (low := (lo : Int)) (a := lo) (b := hi - lo) (n := 2 ^ b) rfl (by omega)
  show wtI J (dif A0 B0) (ownS A0 0 (2 ^ b)) + wtL J (dif A0 B0) ((List.range (hi - lo)).map fun i => ownS A0 ((lo : Int) + (i : Nat)) 1) + 0 ≤ _
  rw [show 2 * b + 4 = (2 * b + 2) + 2 by omega, Nat.add_mul (2 * b + 2) 2]
  omega
theorem IvS.beg {P : Nat → Prop} {C : Int → Prop} {A0 B0 J : Int → Option Sy} {b lo hi : Nat} (h : lo ≤ hi) (h2 : hi ≤ 2 ^ b) (hC : ∀ k, C k → 0 ≤ k ∧ k < ((2 ^ b : Nat) : Int) ∧ (P (2 ^ b) ∨ (P 1 ∧ (lo : Int) ≤ k ∧ k < (hi : Int)))) : IvS ((2 ^ b : Nat) : Int) P C A0 B0 J ⟨A0, B0, begL A0 (2 ^ b) lo hi, []⟩ := by
  have gown : ∀ (l : Int) (v : Nat), 0 ≤ l → l + (v : Int) ≤ ((2 ^ b : Nat) : Int) → (∃ j, v = 2 ^ j) → goodI ((2 ^ b : Nat) : Int) A0 J A0 (ownS A0 l v) := fun l v h0 h1 hv => ⟨⟨h0, h1⟩, hv, A0, fun k => .inl rfl, rfl⟩
  refine ⟨fun k => .inl rfl, fun k => .inl rfl, fun i hi' => ?_, (fun i hi => by cases hi), fun k hc _ => .inl ?_⟩
  · rcases List.mem_cons.mp hi' with rfl | hi'
    · exact gown 0 (2 ^ b) (Int.le_refl _) (by omega) ⟨b, rfl⟩
    · obtain ⟨q, hq, rfl⟩ := List.mem_map.mp hi'
      have := List.mem_range.mp hq
      exact gown _ 1 (by omega) (by omega) ⟨0, rfl⟩
  · obtain ⟨k0, k1, c⟩ := hC k hc
    rcases c with c | ⟨c1, c2, c3⟩
    · exact ⟨_, List.mem_cons_self .., c, k0, by omega⟩
    · refine ⟨ownS A0 ((lo : Int) + ((k.toNat - lo : Nat) : Int)) 1, List.mem_cons_of_mem _ (List.mem_map.mpr ⟨k.toNat - lo, List.mem_range.mpr (by omega), rfl⟩), c1, by omega, by omega⟩
/-! which sums tell -/
theorem sens_one {n : Int} {A0 B0 J : Int → Option Sy} (H : Jn A0 B0 J) : Sens n (fun w => w ≤ 1) A0 B0 J := by
  refine ⟨fun Z Z' low w h0 h1 hw hz hz' e k k0 k1 => ?_, fun w h => by omega⟩
  have ew : w = 1 := by omega
  subst ew
  have ek : k = low := by omega
  subst ek
  rw [mO_one, mO_one] at e
  injection e with e _ _
  exact H.eq (hz k) (hz' k) e
theorem cnt_le {p q : Nat → Bool} : ∀ {w : Nat}, (∀ i, i < w → p i = true → q i = true) → cnt p w ≤ cnt q w
  | 0, _ => Int.le_refl _
  | w + 1, h => by
    have ih := cnt_le (p := p) (q := q) (w := w) fun i hi => h i (by omega)
    have := h w (by omega)
    show cnt p w + (if p w then (1 : Int) else 0) ≤ cnt q w + if q w then 1 else 0
    cases e : p w with
    | false =>
      rw [if_neg (by simp)]
      split <;> omega
    | true =>
      rw [this e, if_pos rfl]
      omega
theorem cnt_nonneg (p : Nat → Bool) (w : Nat) : 0 ≤ cnt p w := by rw [cnt_filter]; omega
theorem cnt_shift (p : Nat → Bool) (a : Nat) : ∀ w : Nat, cnt (fun i => p (a + i)) w + cnt p a = cnt p (a + w)
  | 0 => by simp [cnt]
  | w + 1 => by
    have := cnt_shift p a w
    show cnt (fun i => p (a + i)) w + (if p (a + w) then (1 : Int) else 0) + cnt p a = cnt p (a + w) + if p (a + w) then 1 else 0
    omega
theorem cnt_sub (p : Nat → Bool) {a w n : Nat} (h : a + w ≤ n) : cnt (fun i => p (a + i)) w ≤ cnt p n := by
  have h1 := cnt_shift p a w
  have h2 := cnt_shift p (a + w) (n - (a + w))
  rw [show a + w + (n - (a + w)) = n by omega] at h2
  have := cnt_nonneg p a
  have := cnt_nonneg (fun i => p (a + w + i)) (n - (a + w))
  omega
def lessC (A0 B0 : Int → Option Sy) (n : Nat) : Int := cnt (fun i => decide (rkO (A0 (i : Int)) < rkO (B0 (i : Int)))) n
/-- few differ, or one side is ahead -/
def mustJ (A0 B0 : Int → Option Sy) (n : Nat) : Prop := lessC A0 B0 n + lessC B0 A0 n ≤ 3 ∨ lessC A0 B0 n = 0 ∨ lessC B0 A0 n = 0
theorem sens_all {n : Nat} {A0 B0 J : Int → Option Sy} (H : Jn A0 B0 J) (M : mustJ A0 B0 n) : Sens (n : Int) (fun _ => True) A0 B0 J := by
  refine ⟨fun Z Z' low w h0 h1 _ hz hz' e k k0 k1 => ?_, fun w _ => trivial⟩
  obtain ⟨a, rfl⟩ := Int.eq_ofNat_of_zero_le h0
  have haw : a + w ≤ n := by omega
  have c1 : cnt (fun i => decide (rkO (Z ((a : Int) + (i : Nat))) < rkO (Z' ((a : Int) + (i : Nat))))) w ≤ lessC A0 B0 n := by
    refine Int.le_trans (cnt_le (q := fun i => decide (rkO (A0 ((a + i : Nat) : Int)) < rkO (B0 ((a + i : Nat) : Int)))) fun i hi hlt => ?_) (cnt_sub (fun i => decide (rkO (A0 (i : Int)) < rkO (B0 (i : Int)))) haw)
    have hlt := of_decide_eq_true hlt
    obtain ⟨e1, e2, e3, e4⟩ := H.low (hz _) (hz' _) hlt
    rw [e1, e2, e3] at hlt
    exact decide_eq_true hlt
  have c2 : cnt (fun i => decide (rkO (Z' ((a : Int) + (i : Nat))) < rkO (Z ((a : Int) + (i : Nat))))) w ≤ lessC B0 A0 n := by
    refine Int.le_trans (cnt_le (q := fun i => decide (rkO (B0 ((a + i : Nat) : Int)) < rkO (A0 ((a + i : Nat) : Int)))) fun i hi hlt => ?_) (cnt_sub (fun i => decide (rkO (B0 (i : Int)) < rkO (A0 (i : Int)))) haw)
    have hlt := of_decide_eq_true hlt
    obtain ⟨e1, e2, e3, e4⟩ := H.sw.low (hz' _) (hz _) hlt
    rw [e1, e2, e3] at hlt
    exact decide_eq_true hlt
  have n1 := cnt_nonneg (fun i => decide (rkO (Z ((a : Int) + (i : Nat))) < rkO (Z' ((a : Int) + (i : Nat))))) w
  have n2 := cnt_nonneg (fun i => decide (rkO (Z' ((a : Int) + (i : Nat))) < rkO (Z ((a : Int) + (i : Nat))))) w
  have n3 : 0 ≤ lessC A0 B0 n := cnt_nonneg _ _
  have n4 : 0 ≤ lessC B0 A0 n := cnt_nonneg _ _
  have z := Classical.byContradiction fun q => @mom_law (fun i => rkO (Z ((a : Int) + (i : Nat)))) (fun i => rkO (Z' ((a : Int) + (i : Nat)))) w (by
    rcases M with m | m | m
    · left; omega
    · right; left; omega
    · right; right; omega) q e
  rw [cnt_add] at z
  have z := of_decide_eq_false (cnt_zero z (k - (a : Int)).toNat (by omega))
  rw [show (a : Int) + (((k - (a : Int)).toNat : Nat) : Int) = k by omega] at z
  exact H.eq (hz k) (hz' k) (Classical.not_not.mp z)
/-! equal books: nothing is answered -/
theorem rcv_quiet {Y : Int → Option Sy} : ∀ {its : List It} {q : List It}, (∀ i, i ∈ its → ∃ low w, i = ownS Y low w) → rcv Y q its = (Y, q)
  | [], q, _ => rfl
  | i :: r, q, h => by
    obtain ⟨low, w, rfl⟩ := h i (List.mem_cons_self ..)
    have e : ansI Y (ownS Y low w) = [] := if_pos rfl
    show rcv (tkI Y (ownS Y low w)) (q ++ ansI Y (ownS Y low w)) r = _
    rw [e, List.append_nil]
    exact rcv_quiet fun i hi => h i (List.mem_cons_of_mem _ hi)
theorem itr_quiet {Y : Int → Option Sy} {room : Nat} {l : List It} (h : ∀ i, i ∈ l → ∃ low w, i = ownS Y low w) : ∀ r, itr room ⟨Y, Y, l, []⟩ r = ⟨Y, Y, l.drop (room * r), []⟩
  | 0 => rfl
  | r + 1 => by
    show rnd room (itr room ⟨Y, Y, l, []⟩ r) = _
    rw [itr_quiet h r]
    have e : rcv Y [] (srtI ((l.drop (room * r)).take room)) = (Y, []) := rcv_quiet fun i hi => h i (List.mem_of_mem_drop (List.mem_of_mem_take (srtI_mem.mp hi)))
    show handB room (handA room ⟨Y, Y, l.drop (room * r), []⟩) = _
    have e2 : handA room ⟨Y, Y, l.drop (room * r), []⟩ = ⟨Y, Y, l.drop (room * (r + 1)), []⟩ := by
      show (⟨Y, (rcv Y [] (srtI ((l.drop (room * r)).take room))).1, (l.drop (room * r)).drop room, (rcv Y [] (srtI ((l.drop (room * r)).take room))).2⟩ : TS) = _
      rw [e, List.drop_drop, Nat.mul_succ]
    rw [e2]
    show (⟨(rcv Y (l.drop (room * (r + 1))) (srtI (([] : List It).take room))).1, Y, (rcv Y (l.drop (room * (r + 1))) (srtI (([] : List It).take room))).2, ([] : List It).drop room⟩ : TS) = _
    rw [List.take_nil, List.drop_nil]
    rfl
theorem quiet_rounds {Y : Int → Option Sy} {room n lo hi R : Nat} (hr : 1 ≤ room) (h : lo ≤ hi) (hi0 : idleT (itr room ⟨Y, Y, begL Y n lo hi, []⟩ R)) (hn : ∀ r, r < R → ¬ idleT (itr room ⟨Y, Y, begL Y n lo hi, []⟩ r)) : R = 1 + (hi - lo) / room := by
  have hq : ∀ i, i ∈ begL Y n lo hi → ∃ low w, i = ownS Y low w := fun i hi => by
    rcases List.mem_cons.mp hi with rfl | hi
    · exact ⟨_, _, rfl⟩
    · obtain ⟨q, _, rfl⟩ := List.mem_map.mp hi
      exact ⟨_, _, rfl⟩
  have hl : (begL Y n lo hi).length = hi - lo + 1 := by simp [begL]
  have idl : ∀ r, idleT (itr room ⟨Y, Y, begL Y n lo hi, []⟩ r) ↔ hi - lo + 1 ≤ room * r := fun r => by
    rw [itr_quiet hq r]
    unfold idleT
    show (begL Y n lo hi).drop (room * r) = [] ∧ ([] : List It) = [] ↔ _
    rw [List.drop_eq_nil_iff, hl]
    simp
  have h1 := (idl R).mp hi0
  generalize hi - lo = c at *
  have hd := Nat.div_add_mod c room
  have hm := Nat.mod_lt c hr
  have h2 : ¬ R < 1 + c / room := fun z => by
    have : room * R ≤ room * (c / room) := Nat.mul_le_mul_left _ (by omega)
    omega
  have h3 : ¬ 1 + c / room < R := fun z => hn _ z ((idl _).mpr (by
    rw [Nat.mul_add, Nat.mul_one]
    omega))
  omega
/-! levels as books -/
def YF (z : Int) (f : Nat → Int) (n : Nat) : Int → Option Sy := fun k => if 0 ≤ k ∧ k < (n : Int) then yo z k (f k.toNat) else none
def mx (f g : Nat → Int) : Nat → Int := fun k => max (f k) (g k)
theorem YF_in {z : Int} {f : Nat → Int} {n k : Nat} (h : k < n) : YF z f n k = yo z k (f k) := by
  unfold YF
  rw [if_pos ⟨by omega, by omega⟩, Int.toNat_natCast]
theorem YF_rk {z : Int} {f : Nat → Int} {n : Nat} (hf : ∀ k, 0 ≤ f k) (k : Int) : rkO (YF z f n k) = if 0 ≤ k ∧ k < (n : Int) then f k.toNat else 0 := by
  unfold YF
  split
  · exact rkO_yo (hf _)
  · rfl
theorem YF_congr {z : Int} {f g : Nat → Int} {n : Nat} (h : ∀ k, k < n → f k = g k) : YF z f n = YF z g n := by
  funext k
  unfold YF
  by_cases c : 0 ≤ k ∧ k < (n : Int)
  · rw [if_pos c, if_pos c, h k.toNat (by omega)]
  · rw [if_neg c, if_neg c]
theorem Jn_yf {z : Int} {f g : Nat → Int} {n : Nat} (hf : ∀ k, 0 ≤ f k) (hg : ∀ k, 0 ≤ g k) : Jn (YF z f n) (YF z g n) (YF z (mx f g) n) := by
  have hm : ∀ k, 0 ≤ mx f g k := fun k => by
    have := hf k
    show 0 ≤ max (f k) (g k)
    omega
  have ky : ∀ (h : Nat → Int) k y, YF z h n k = some y → 0 < rk y ∧ y.s = k := fun h k y e => by
    unfold YF at e
    split at e
    · unfold yo at e
      split at e
      · rename_i hp
        cases e
        exact ⟨by rw [rk_syL]; exact hp, rfl⟩
      · cases e
    · cases e
  refine ⟨fun k => ?_, fun k => ?_, fun k => ?_, fun k e => ?_, fun k e => ?_, ky f, ky g⟩
  · by_cases c : g k.toNat ≤ f k.toNat
    · left
      unfold YF
      rw [show mx f g k.toNat = f k.toNat from Int.max_eq_left c]
    · right
      unfold YF
      rw [show mx f g k.toNat = g k.toNat from Int.max_eq_right (by omega)]
  · rw [YF_rk hf, YF_rk hm]
    split
    · exact Int.le_max_left _ _
    · exact Int.le_refl _
  · rw [YF_rk hg, YF_rk hm]
    split
    · exact Int.le_max_right _ _
    · exact Int.le_refl _
  · rw [YF_rk hf, YF_rk hm] at e
    unfold YF
    split
    · rename_i c
      rw [if_pos c, if_pos c] at e
      rw [e]
    · rfl
  · rw [YF_rk hg, YF_rk hm] at e
    unfold YF
    split
    · rename_i c
      rw [if_pos c, if_pos c] at e
      rw [e]
    · rfl
theorem yo_inj {z k : Int} {a b : Int} (ha : 0 ≤ a) (hb : 0 ≤ b) (h : yo z k a = yo z k b) : a = b := by
  have h1 := rkO_yo (z := z) (k := k) ha
  have h2 := rkO_yo (z := z) (k := k) hb
  rw [← h1, ← h2, h]
def dcn (f g : Nat → Int) (n : Nat) : Int := cnt (fun i => decide (f i ≠ g i)) n
theorem cntD_yf {z : Int} {f g : Nat → Int} {n : Nat} (hf : ∀ k, 0 ≤ f k) (hg : ∀ k, 0 ≤ g k) : ∀ w, w ≤ n → (cntD (dif (YF z f n) (YF z g n)) 0 w : Int) = dcn f g w
  | 0, _ => rfl
  | w + 1, h => by
    have ih := cntD_yf (z := z) (n := n) hf hg w (by omega)
    unfold dcn at ih ⊢
    have e : dif (YF z f n) (YF z g n) (0 + (w : Int)) = decide (f w ≠ g w) := by
      unfold dif
      rw [Int.zero_add, YF_in (by omega), YF_in (by omega)]
      exact decide_eq_decide.mpr ⟨fun a b => a (by rw [b]), fun a b => a (yo_inj (hf w) (hg w) b)⟩
    show (((cntD (dif (YF z f n) (YF z g n)) 0 w + if dif (YF z f n) (YF z g n) (0 + (w : Int)) then 1 else 0 : Nat)) : Int) = cnt _ w + if decide (f w ≠ g w) then (1 : Int) else 0
    rw [e]
    by_cases c : f w ≠ g w
    · rw [decide_eq_true c, if_pos rfl, if_pos rfl]
      omega
    · rw [decide_eq_false c, if_neg (by simp), if_neg (by simp)]
      omega
theorem lessC_yf {z : Int} {f g : Nat → Int} {n : Nat} (hf : ∀ k, 0 ≤ f k) (hg : ∀ k, 0 ≤ g k) : lessC (YF z f n) (YF z g n) n = cnt (fun i => decide (f i < g i)) n := by
  have h : ∀ w, w ≤ n → cnt (fun i : Nat => decide (rkO (YF z f n (i : Int)) < rkO (YF z g n (i : Int)))) w = cnt (fun i => decide (f i < g i)) w := by
    intro w
    induction w with
    | zero => exact fun _ => rfl
    | succ w ih =>
      intro hw
      have ih := ih (by omega)
      show cnt (fun i : Nat => decide (rkO (YF z f n (i : Int)) < rkO (YF z g n (i : Int)))) w + (if decide (rkO (YF z f n ((w : Nat) : Int)) < rkO (YF z g n ((w : Nat) : Int))) then (1 : Int) else 0) = cnt (fun i => decide (f i < g i)) w + if decide (f w < g w) then (1 : Int) else 0
      rw [ih, YF_in (by omega), YF_in (by omega), rkO_yo (hf _), rkO_yo (hg _)]
  exact h n (Nat.le_refl _)
/-- few differ, or one is ahead -/
def mustL (f g : Nat → Int) (n : Nat) : Prop := cnt (fun i => decide (f i < g i)) n + cnt (fun i => decide (g i < f i)) n ≤ 3 ∨ cnt (fun i => decide (f i < g i)) n = 0 ∨ cnt (fun i => decide (g i < f i)) n = 0
theorem mustL_dcn {f g : Nat → Int} {n : Nat} (h : dcn f g n ≤ 3) : mustL f g n := .inl (by
  rw [cnt_add]
  exact h)
theorem cnt_false {p : Nat → Bool} : ∀ {w : Nat}, (∀ i, i < w → p i = false) → cnt p w = 0
  | 0, _ => rfl
  | w + 1, h => by
    have := cnt_false (p := p) (w := w) fun i hi => h i (by omega)
    show cnt p w + (if p w then (1 : Int) else 0) = 0
    rw [this, h w (by omega)]
    rfl
theorem mustL_up1 {f g : Nat → Int} {n : Nat} (h : ∀ k, g k ≤ f k) : mustL f g n := .inr (.inl (cnt_false fun i _ => decide_eq_false (by have := h i; omega)))
theorem mustL_up2 {f g : Nat → Int} {n : Nat} (h : ∀ k, f k ≤ g k) : mustL f g n := .inr (.inr (cnt_false fun i _ => decide_eq_false (by have := h i; omega)))
theorem cnt_one {p q : Nat → Bool} {k : Nat} : ∀ {w : Nat}, (∀ i, i ≠ k → p i = q i) → cnt p w ≤ cnt q w + (if k < w then 1 else 0)
  | 0, _ => by show (0 : Int) ≤ 0 + _; split <;> omega
  | w + 1, h => by
    have ih := cnt_one (p := p) (q := q) (w := w) h
    show cnt p w + (if p w then (1 : Int) else 0) ≤ cnt q w + (if q w then (1 : Int) else 0) + _
    by_cases e : w = k
    · subst e
      rw [if_neg (by omega)] at ih
      rw [if_pos (show w < w + 1 by omega)]
      split <;> split <;> omega
    · rw [h w e]
      generalize (if q w = true then (1 : Int) else 0) = x
      by_cases l : k < w
      · rw [if_pos l] at ih
        rw [if_pos (by omega)]
        omega
      · rw [if_neg l] at ih
        rw [if_neg (by omega)]
        omega
theorem dcn_one1 {f f' g : Nat → Int} {n k : Nat} (h : ∀ i, i ≠ k → f' i = f i) : dcn f' g n ≤ dcn f g n + 1 := by
  have := cnt_one (p := fun i => decide (f' i ≠ g i)) (q := fun i => decide (f i ≠ g i)) (k := k) (w := n) fun i hi => by
    show decide (f' i ≠ g i) = decide (f i ≠ g i)
    rw [h i hi]
  unfold dcn
  split at this <;> omega
theorem dcn_one2 {f g g' : Nat → Int} {n k : Nat} (h : ∀ i, i ≠ k → g' i = g i) : dcn f g' n ≤ dcn f g n + 1 := by
  have := cnt_one (p := fun i => decide (f i ≠ g' i)) (q := fun i => decide (f i ≠ g i)) (k := k) (w := n) fun i hi => by
    show decide (f i ≠ g' i) = decide (f i ≠ g i)
    rw [h i hi]
  unfold dcn
  split at this <;> omega
theorem dcn_self {f g : Nat → Int} {n : Nat} (h : ∀ i, f i = g i) : dcn f g n = 0 := cnt_false fun i _ => decide_eq_false (fun z => z (h i))
theorem dcn_zero {f g : Nat → Int} {n : Nat} (h : dcn f g n = 0) : ∀ i, i < n → f i = g i := fun i hi => by
  have := of_decide_eq_false (cnt_zero h i hi)
  exact Classical.not_not.mp this
/-! what a reconciling leaves -/
/-- R rounds, no more, then silence -/
def RecF (Y1 Y2 : Int → Option Sy) (n lo hi room R : Nat) : Prop := idleT (itr room ⟨Y1, Y2, begL Y1 n lo hi, []⟩ R) ∧ ∀ r, r < R → ¬ idleT (itr room ⟨Y1, Y2, begL Y1 n lo hi, []⟩ r)
theorem RecF.uniq {Y1 Y2 : Int → Option Sy} {n lo hi room R R' : Nat} (h : RecF Y1 Y2 n lo hi room R) (h' : RecF Y1 Y2 n lo hi room R') : R = R' := by
  rcases Nat.lt_trichotomy R R' with l | e | l
  · exact absurd h.1 (h'.2 R l)
  · exact e
  · exact absurd h'.1 (h.2 R' l)
section
variable {z : Int} {f g : Nat → Int} {b lo hi room : Nat}
theorem rec_one (hf : ∀ k, 0 ≤ f k) (hg : ∀ k, 0 ≤ g k) (h : lo ≤ hi) (h2 : hi ≤ 2 ^ b) (hr : 1 ≤ room) : ∃ R, RecF (YF z f (2 ^ b)) (YF z g (2 ^ b)) (2 ^ b) lo hi room R ∧ (R : Int) ≤ 1 + ((hi : Int) - lo) + (2 * b + 4) * dcn f g (2 ^ b) ∧
    ∀ r, IvS ((2 ^ b : Nat) : Int) (fun w => w ≤ 1) (fun k => (lo : Int) ≤ k ∧ k < (hi : Int)) (YF z f (2 ^ b)) (YF z g (2 ^ b)) (YF z (mx f g) (2 ^ b)) (itr room ⟨YF z f (2 ^ b), YF z g (2 ^ b), begL (YF z f (2 ^ b)) (2 ^ b) lo hi, []⟩ r) ∧
      ((itr room ⟨YF z f (2 ^ b), YF z g (2 ^ b), begL (YF z f (2 ^ b)) (2 ^ b) lo hi, []⟩ r).qa.length : Int) + (itr room ⟨YF z f (2 ^ b), YF z g (2 ^ b), begL (YF z f (2 ^ b)) (2 ^ b) lo hi, []⟩ r).qb.length ≤ 1 + ((hi : Int) - lo) + (2 * b + 4) * dcn f g (2 ^ b) := by
  have J := Jn_yf (z := z) (n := 2 ^ b) hf hg
  have S := sens_one (n := ((2 ^ b : Nat) : Int)) J
  have I : IvS ((2 ^ b : Nat) : Int) (fun w => w ≤ 1) (fun k => (lo : Int) ≤ k ∧ k < (hi : Int)) (YF z f (2 ^ b)) (YF z g (2 ^ b)) (YF z (mx f g) (2 ^ b)) ⟨YF z f (2 ^ b), YF z g (2 ^ b), begL (YF z f (2 ^ b)) (2 ^ b) lo hi, []⟩ := IvS.beg h h2 fun k hk => ⟨by omega, by omega, .inr ⟨Nat.le_refl _, hk.1, hk.2⟩⟩
  obtain ⟨R, r1, r2, r3, r4⟩ := IvS.ends J S hr _ I (Nat.le_refl _)
  have m := mu_beg (A0 := YF z f (2 ^ b)) (B0 := YF z g (2 ^ b)) (J := YF z (mx f g) (2 ^ b)) h h2
  have e := cntD_yf (z := z) hf hg (2 ^ b) (Nat.le_refl _)
  have m2 : (mu (YF z (mx f g) (2 ^ b)) (YF z f (2 ^ b)) (YF z g (2 ^ b)) ⟨YF z f (2 ^ b), YF z g (2 ^ b), begL (YF z f (2 ^ b)) (2 ^ b) lo hi, []⟩ : Int) ≤ 1 + ((hi : Int) - lo) + (2 * b + 4) * dcn f g (2 ^ b) := by
    rw [← e]
    have m' := Int.ofNat_le.mpr m
    simp only [Int.natCast_add, Int.natCast_mul] at m'
    rw [Int.ofNat_sub h] at m'
    exact m'
  refine ⟨R, ⟨r2, r3⟩, Int.le_trans (Int.ofNat_le.mpr r1) m2, fun r => ⟨(r4 r).1, ?_⟩⟩
  have w1 := wtL_len (YF z (mx f g) (2 ^ b)) (dif (YF z f (2 ^ b)) (YF z g (2 ^ b))) (itr room ⟨YF z f (2 ^ b), YF z g (2 ^ b), begL (YF z f (2 ^ b)) (2 ^ b) lo hi, []⟩ r).qa
  have w2 := wtL_len (YF z (mx f g) (2 ^ b)) (dif (YF z f (2 ^ b)) (YF z g (2 ^ b))) (itr room ⟨YF z f (2 ^ b), YF z g (2 ^ b), begL (YF z f (2 ^ b)) (2 ^ b) lo hi, []⟩ r).qb
  have w3 := (r4 r).2
  have w4 : mu (YF z (mx f g) (2 ^ b)) (YF z f (2 ^ b)) (YF z g (2 ^ b)) (itr room ⟨YF z f (2 ^ b), YF z g (2 ^ b), begL (YF z f (2 ^ b)) (2 ^ b) lo hi, []⟩ r) = wtL (YF z (mx f g) (2 ^ b)) (dif (YF z f (2 ^ b)) (YF z g (2 ^ b))) (itr room ⟨YF z f (2 ^ b), YF z g (2 ^ b), begL (YF z f (2 ^ b)) (2 ^ b) lo hi, []⟩ r).qa + wtL (YF z (mx f g) (2 ^ b)) (dif (YF z f (2 ^ b)) (YF z g (2 ^ b))) (itr room ⟨YF z f (2 ^ b), YF z g (2 ^ b), begL (YF z f (2 ^ b)) (2 ^ b) lo hi, []⟩ r).qb := rfl
  omega
/-- where few differ both come to the joint book -/
theorem rec_all (hf : ∀ k, 0 ≤ f k) (hg : ∀ k, 0 ≤ g k) (h : lo ≤ hi) (h2 : hi ≤ 2 ^ b) (hr : 1 ≤ room) (M : mustL f g (2 ^ b)) {R : Nat} (hR : RecF (YF z f (2 ^ b)) (YF z g (2 ^ b)) (2 ^ b) lo hi room R) :
    (itr room ⟨YF z f (2 ^ b), YF z g (2 ^ b), begL (YF z f (2 ^ b)) (2 ^ b) lo hi, []⟩ R).ya = YF z (mx f g) (2 ^ b) ∧ (itr room ⟨YF z f (2 ^ b), YF z g (2 ^ b), begL (YF z f (2 ^ b)) (2 ^ b) lo hi, []⟩ R).yb = YF z (mx f g) (2 ^ b) := by
  have J := Jn_yf (z := z) (n := 2 ^ b) hf hg
  have M' : mustJ (YF z f (2 ^ b)) (YF z g (2 ^ b)) (2 ^ b) := by
    unfold mustJ
    rw [lessC_yf hf hg, lessC_yf hg hf]
    exact M
  have S := sens_all J M'
  have I : IvS ((2 ^ b : Nat) : Int) (fun _ => True) (fun k => 0 ≤ k ∧ k < ((2 ^ b : Nat) : Int)) (YF z f (2 ^ b)) (YF z g (2 ^ b)) (YF z (mx f g) (2 ^ b)) ⟨YF z f (2 ^ b), YF z g (2 ^ b), begL (YF z f (2 ^ b)) (2 ^ b) lo hi, []⟩ := IvS.beg h h2 fun k hk => ⟨hk.1, hk.2, .inl trivial⟩
  obtain ⟨R', r1, r2, r3, r4⟩ := IvS.ends J S hr _ I (Nat.le_refl _)
  obtain rfl := hR.uniq ⟨r2, r3⟩
  have I' := (r4 R).1
  have out : ∀ k, ¬ (0 ≤ k ∧ k < ((2 ^ b : Nat) : Int)) → ∀ h : Nat → Int, YF z h (2 ^ b) k = none := fun k hk h => if_neg hk
  constructor
  · funext k
    by_cases c : 0 ≤ k ∧ k < ((2 ^ b : Nat) : Int)
    · exact (IvS.join J I' r2 c).1
    · rcases I'.va k with e | e
      · rw [e, out k c, out k c]
      · exact e
  · funext k
    by_cases c : 0 ≤ k ∧ k < ((2 ^ b : Nat) : Int)
    · exact (IvS.join J I' r2 c).2
    · rcases I'.vb k with e | e
      · rw [e, out k c, out k c]
      · exact e
theorem rec_quiet (hr : 1 ≤ room) (h : lo ≤ hi) {Y : Int → Option Sy} {n R : Nat} (hR : RecF Y Y n lo hi room R) : R = 1 + (hi - lo) / room := quiet_rounds hr h hR.1 hR.2
end

def It.tup : It → List V
  | .say y => y.tup
  | .sum low w m => [.int low, .int (w : Int), .int m.m0, .int m.m1, .int m.m2]
abbrev ItAt (H : Hp) (t : Addr) (i : It) : Prop := H t = some (.tup i.tup)
def okI (R : Int) : It → Prop
  | .say y => syOk R y = true
  | .sum low w m => 1 ≤ w ∧ w ≤ 256
/-- the list q holds these items -/
structure QL (H : Hp) (q : Addr) (ps : List (Addr × It)) : Prop where
  at_ : H q = some (.lst (ps.map fun p => V.ref p.1))
  ob : ∀ p, p ∈ ps → ItAt H p.1 p.2
theorem QL.k0 {H H' : Hp} {q : Addr} {ps : List (Addr × It)} (B : QL H q ps) (k : Kp [] H H') : QL H' q ps := ⟨k.g0 B.at_, fun p hp => k.g0 (B.ob p hp)⟩
theorem QL.snoc {H : Hp} {F t : Addr} {ps : List (Addr × It)} {i : It} (B : QL H F ps) (h : ItAt H t i) : QL (upd H F (.lst ((ps.map fun p => V.ref p.1) ++ [.ref t]))) F (ps ++ [(t, i)]) := by
  refine ⟨by rw [upd_same, List.map_append]; rfl, fun p hp => ?_⟩
  have o : ∀ (q : Addr) vs, H q = some (.tup vs) → upd H F (.lst ((ps.map fun p => V.ref p.1) ++ [.ref t])) q = some (.tup vs) := fun q vs e => hu_ne (ne_of e B.at_ (by intro z; cases z)) e
  rcases List.mem_append.mp hp with m | m
  · exact o _ _ (B.ob p m)
  · rw [List.mem_singleton.mp m]
    exact o _ _ h
/-- a book of this ring that tells Y -/
def BkT (K : PySem.W.Frag) (H : Hp) (b s d : Addr) (R : Int) (Y : Int → Option Sy) : Prop := ∃ xs, BookAt K H b s d xs ∧ look xs = Y ∧ keysN xs ∧ ∀ p, p ∈ xs → syOk R p.2 = true
structure SidAt (K : PySem.W.Frag) (H : Hp) (x s b d q : Addr) (v : V) (R : Int) (Y : Int → Option Sy) (L : List It) : Prop where
  ob : ∃ dx, H x = some (.ins (ga K "Side") dx [(("_setting" : Str), .ref s), (("_book" : Str), .ref b), (("_taker" : Str), v), (("_queue" : Str), .ref q)])
  bk : BkT K H b s d R Y
  qu : ∃ ps, QL H q ps ∧ ps.map (·.2) = L
  ok : ∀ i, i ∈ L → okI R i
section
variable {K : PySem.W.Frag} {H H' : Hp} {x s b d q x' s' b' d' q' : Addr} {v v' : V} {R : Int} {Y Y' : Int → Option Sy} {L L' : List It}
theorem BkT.k0 (B : BkT K H b s d R Y) (k : Kp [] H H') : BkT K H' b s d R Y := by
  obtain ⟨xs, h, r⟩ := B
  exact ⟨xs, h.k0 k, r⟩
theorem BkT.dk (B : BkT K H b s d R Y) : ∃ kv : List (Key × V), H d = some (.dK kv) := by
  obtain ⟨xs, h, r⟩ := B
  exact ⟨_, h.ro.at_⟩
theorem BkT.bo (B : BkT K H b s d R Y) : ∃ dx, H b = some (.ins (ga K "Book") dx [(("_setting" : Str), .ref s), (("_rows" : Str), .ref d)]) := by
  obtain ⟨xs, h, r⟩ := B
  exact h.ob
/-- writes: an object of four fields, a list, another dict -/
theorem BkT.kw {ps : List Addr} (B : BkT K H b s d R Y) (k : Kp ps H H') (h : ∀ p, p ∈ ps → (∃ l, H p = some (.lst l)) ∨ ((∃ kv : List (Key × V), H p = some (.dK kv)) ∧ p ≠ d) ∨ ∃ C dx f1 f2 f3 f4, H p = some (.ins C dx [f1, f2, f3, f4])) : BkT K H' b s d R Y := by
  obtain ⟨xs, ⟨⟨dx, h1⟩, h2⟩, r⟩ := B
  refine ⟨xs, ⟨⟨dx, k _ _ h1 fun m => ?_⟩, ⟨k _ _ h2.at_ fun m => ?_, fun p hp => k _ _ (h2.ob p hp) fun m => ?_⟩⟩, r⟩
  · rcases h _ m with ⟨l, e⟩ | ⟨⟨l, e⟩, _⟩ | ⟨C, dx', f1, f2, f3, f4, e⟩ <;> (rw [h1] at e; injection e with e; first | (injection e with _ _ e; injection e with _ e; injection e with _ e; cases e) | cases e)
  · rcases h _ m with ⟨l, e⟩ | ⟨_, n⟩ | ⟨C, dx', f1, f2, f3, f4, e⟩
    · rw [h2.at_] at e
      cases e
    · exact n rfl
    · rw [h2.at_] at e
      cases e
  · have h3 := h2.ob p hp
    rcases h _ m with ⟨l, e⟩ | ⟨⟨l, e⟩, _⟩ | ⟨C, dx', f1, f2, f3, f4, e⟩ <;> (rw [h3] at e; cases e)
theorem SidAt.k0 (B : SidAt K H x s b d q v R Y L) (k : Kp [] H H') : SidAt K H' x s b d q v R Y L := by
  obtain ⟨⟨dx, h1⟩, h2, ⟨ps, h3, h4⟩, h5⟩ := B
  exact ⟨⟨dx, k.g0 h1⟩, h2.k0 k, ⟨ps, h3.k0 k, h4⟩, h5⟩
theorem QL.kw {ps : List Addr} {its : List (Addr × It)} (B : QL H q its) (k : Kp ps H H') (n : q ∉ ps) (h : ∀ p, p ∈ ps → ∀ l, H p ≠ some (.tup l)) : QL H' q its :=
  ⟨k _ _ B.at_ n, fun p hp => k _ _ (B.ob p hp) fun m => h _ m _ (B.ob p hp)⟩
/-- the other side's writes -/
theorem SidAt.kw {ps : List Addr} (B : SidAt K H x s b d q v R Y L) (k : Kp ps H H') (h : ∀ p, p ∈ ps → ((∃ l, H p = some (.lst l)) ∧ p ≠ q) ∨ ((∃ kv : List (Key × V), H p = some (.dK kv)) ∧ p ≠ d) ∨ ((∃ C dx f1 f2 f3 f4, H p = some (.ins C dx [f1, f2, f3, f4])) ∧ p ≠ x)) : SidAt K H' x s b d q v R Y L := by
  obtain ⟨⟨dx, h1⟩, h2, ⟨qs, h3, h4⟩, h5⟩ := B
  refine ⟨⟨dx, k _ _ h1 fun m => ?_⟩, h2.kw k fun p hp => ?_, ⟨qs, h3.kw k (fun m => ?_) fun p hp l e => ?_, h4⟩, h5⟩
  · rcases h _ m with ⟨⟨l, e⟩, n⟩ | ⟨⟨l, e⟩, _⟩ | ⟨_, n⟩
    · rw [h1] at e
      cases e
    · rw [h1] at e
      cases e
    · exact n rfl
  · rcases h p hp with ⟨e, n⟩ | e | ⟨e, n⟩
    · exact .inl e
    · exact .inr (.inl e)
    · exact .inr (.inr e)
  · rcases h _ m with ⟨⟨l, e⟩, n⟩ | ⟨⟨l, e⟩, _⟩ | ⟨⟨C, dx', f1, f2, f3, f4, e⟩, n⟩
    · exact n rfl
    · rw [h3.at_] at e
      cases e
    · rw [h3.at_] at e
      cases e
  · rcases h p hp with ⟨⟨l, e'⟩, n⟩ | ⟨⟨l, e'⟩, _⟩ | ⟨⟨C, dx', f1, f2, f3, f4, e'⟩, n⟩ <;> (rw [e] at e'; cases e')
theorem SidAt.ins (B : SidAt K H x s b d q v R Y L) : ∃ C dx f1 f2 f3 f4, H x = some (.ins C dx [f1, f2, f3, f4]) := by
  obtain ⟨dx, h⟩ := B.ob
  exact ⟨_, _, _, _, _, _, h⟩
theorem SidAt.ql (B : SidAt K H x s b d q v R Y L) : ∃ l, H q = some (.lst l) := by
  obtain ⟨ps, h, _⟩ := B.qu
  exact ⟨_, h.at_⟩
end
theorem okI_own {R : Int} {Y : Int → Option Sy} {low : Int} {w : Nat} (h : 1 ≤ w) (h2 : w ≤ 256) : okI R (ownS Y low w) := ⟨h, h2⟩
theorem BkT.sy {K : PySem.W.Frag} {H : Hp} {b s d : Addr} {R : Int} {Y : Int → Option Sy} (B : BkT K H b s d R Y) {k : Int} {y : Sy} (h : Y k = some y) : syOk R y = true ∧ y.s = k := by
  obtain ⟨xs, h1, h2, h3, h4⟩ := B
  rw [← h2] at h
  obtain ⟨m, e⟩ := look_mem h
  obtain ⟨p, hp, rfl⟩ := List.mem_map.mp m
  exact ⟨h4 p hp, e⟩

section
variable {K : PySem.W.Frag} {H H' : Hp} {x s b d q t : Addr} {v : V} {R : Int} {Y : Int → Option Sy} {L : List It} {i : It}
/-- an item goes to the queue's end -/
theorem SidAt.app (B : SidAt K H x s b d q v R Y L) {ps : List (Addr × It)} (hq : QL H q ps) (e : ps.map (·.2) = L) (ht : ItAt H t i) (ok : okI R i) : SidAt K (upd H q (.lst ((ps.map fun p => V.ref p.1) ++ [.ref t]))) x s b d q v R Y (L ++ [i]) := by
  have k : Kp [q] H (upd H q (.lst ((ps.map fun p => V.ref p.1) ++ [.ref t]))) := Kp.refl.wr (by simp)
  obtain ⟨⟨dx, h1⟩, h2, -, h5⟩ := B
  refine ⟨⟨dx, k.g1 (ne_of h1 hq.at_ (by intro z; cases z)) h1⟩, h2.kw k fun p hp => .inl ?_, ⟨_, hq.snoc ht, ?_⟩, fun j hj => ?_⟩
  · rw [List.mem_singleton.mp hp]
    exact ⟨_, hq.at_⟩
  · rw [List.map_append, e]
    rfl
  · rcases List.mem_append.mp hj with m | m
    · exact h5 j m
    · rw [List.mem_singleton.mp m]
      exact ok
end

def takenL : (Int → Option Sy) → List It → List Sy
  | _, [] => []
  | Y, .say y :: r => (if rkO (Y y.s) < rk y then [y] else []) ++ takenL (tkF Y y) r
  | Y, .sum .. :: r => takenL Y r
theorem takenL_append : ∀ (l r : List It) (Y : Int → Option Sy) (q : List It), takenL Y (l ++ r) = takenL Y l ++ takenL (rcv Y q l).1 r
  | [], _, _, _ => rfl
  | .say y :: l, r, Y, q => by
    show (if rkO (Y y.s) < rk y then [y] else []) ++ takenL (tkF Y y) (l ++ r) = _
    rw [takenL_append l r (tkF Y y) (q ++ ansI Y (.say y))]
    show _ = ((if rkO (Y y.s) < rk y then [y] else []) ++ takenL (tkF Y y) l) ++ takenL (rcv (tkF Y y) (q ++ ansI Y (.say y)) l).1 r
    rw [List.append_assoc]
  | .sum low w m :: l, r, Y, q => takenL_append l r Y (q ++ ansI Y (.sum low w m))
theorem takenL_len : ∀ (l : List It) (Y : Int → Option Sy), (takenL Y l).length ≤ l.length
  | [], _ => Nat.le_refl _
  | .say y :: r, Y => by
    have := takenL_len r (tkF Y y)
    show ((if rkO (Y y.s) < rk y then [y] else []) ++ takenL (tkF Y y) r).length ≤ r.length + 1
    rw [List.length_append]
    split <;> simp <;> omega
  | .sum low w m :: r, Y => Nat.le_succ_of_le (takenL_len r Y)
theorem takenL_sum : ∀ (l : List It) (Y : Int → Option Sy), (∀ i, i ∈ l → isSay i = false) → takenL Y l = []
  | [], _, _ => rfl
  | .say y :: r, Y, h => nomatch h _ (List.mem_cons_self ..)
  | .sum low w m :: r, Y, h => takenL_sum r Y fun i hi => h i (List.mem_cons_of_mem _ hi)
theorem rcv_sumY : ∀ (l : List It) (Y : Int → Option Sy) (q : List It), (∀ i, i ∈ l → isSay i = false) → (rcv Y q l).1 = Y
  | [], _, _, _ => rfl
  | .say y :: r, Y, q, h => nomatch h _ (List.mem_cons_self ..)
  | .sum low w m :: r, Y, q, h => rcv_sumY r Y _ fun i hi => h i (List.mem_cons_of_mem _ hi)

theorem len45 : ∀ i : It, i.tup.length = if isSay i then 4 else 5
  | .say y => rfl
  | .sum low w m => rfl

/-- two sides talk -/
structure Two (K : PySem.W.Frag) (H : Hp) (x1 x2 s b1 b2 d1 d2 q1 q2 : Addr) (st : Stg) (T : TS) : Prop where
  a : SidAt K H x1 s b1 d1 q1 .non st.ring T.ya T.qa
  b : SidAt K H x2 s b2 d2 q2 .non st.ring T.yb T.qb
  se : SetAt K H s st
  nx : x1 ≠ x2
  nq : q1 ≠ q2
  nd : d1 ≠ d2
theorem SetAt.kw3 {K : PySem.W.Frag} {H H' : Hp} {x1 s b1 d1 q1 b2 d2 q2 x2 : Addr} {v w : V} {st : Stg} {R : Int} {Y1 Y2 : Int → Option Sy} {L1 L2 : List It} (S : SetAt K H s st) (A : SidAt K H x1 s b1 d1 q1 v R Y1 L1) (B : SidAt K H x2 s b2 d2 q2 w R Y2 L2) (k : Kp [x1, q2, d2] H H') : SetAt K H' s st := S.kp k (by
  obtain ⟨dx, h1⟩ := A.ob
  obtain ⟨l, h2⟩ := B.ql
  obtain ⟨kv, h3⟩ := B.bk.dk
  simp only [List.mem_cons, List.not_mem_nil, or_false, not_or]
  exact ⟨S.neins h1 (by decide), S.nelst h2, S.nedK h3⟩)
theorem ixN_at9 {n : Nat} {k : Int} (h0 : 0 ≤ k) (h1 : k < n) : ixN n k = some k.toNat := by
  obtain ⟨j, rfl⟩ := Int.eq_ofNat_of_zero_le h0
  unfold ixN
  rw [if_pos (by omega)]
  simp
  omega
def LvB (M : Int) (Ls : List Int) : Prop := ∀ x, x ∈ Ls → 0 ≤ x ∧ x ≤ M
theorem LvB.set {M : Int} {Ls : List Int} {k : Nat} {x : Int} (h : LvB M Ls) (h0 : 0 ≤ x) (h1 : x ≤ M) : LvB M (Ls.set k x) := fun y hy => by
  rcases List.mem_or_eq_of_mem_set hy with m | rfl
  · exact h y m
  · exact ⟨h0, h1⟩
theorem LvB.mono {M M' : Int} {Ls : List Int} (h : LvB M Ls) (e : M ≤ M') : LvB M' Ls := fun y hy => ⟨(h y hy).1, by have := (h y hy).2; omega⟩
theorem LvB.get {M : Int} {Ls : List Int} {k : Nat} (h : LvB M Ls) (hk : k < Ls.length) : 0 ≤ Ls.getD k 0 ∧ Ls.getD k 0 ≤ M := by
  rw [List.getD_eq_getElem?_getD, List.getElem?_eq_getElem hk]
  exact h _ (List.getElem_mem hk)

section
variable {M : Int}
theorem LvB.lv {Ls : List Int} {k : Nat} (h : LvB M Ls) : 0 ≤ lv Ls k := by
  by_cases z : k < Ls.length
  · exact (h.get z).1
  · unfold My.lv
    rw [List.getD_eq_getElem?_getD, List.getElem?_eq_none (by omega)]
    exact Int.le_refl _
end
theorem noI {x : Addr} {r : List V} {ns : List Int} : HO.lst (V.ref x :: r) ≠ HO.lst (ns.map V.int) := fun e => by
  injection e with e
  exact ne_ints ns e.symm
theorem lv_set {As : List Int} {s : Nat} {L : Int} (h : s < As.length) (k : Nat) : lv (As.set s L) k = if k = s then L else lv As k := by
  unfold lv
  rw [List.getD_eq_getElem?_getD, List.getD_eq_getElem?_getD, List.getElem?_set]
  by_cases e : k = s
  · rw [if_pos e, if_pos e.symm, if_pos h]
    rfl
  · rw [if_neg e, if_neg (fun z => e z.symm)]

theorem BkT.kB {K : PySem.W.Frag} {H H' : Hp} {b s d p c : Addr} {R : Int} {Y : Int → Option Sy} (B : BkT K H b s d R Y) (X : Box H p c) (k : Kp [p] H H') : BkT K H' b s d R Y := by
  obtain ⟨xs, h, r⟩ := B
  exact ⟨xs, h.kB X k, r⟩
theorem BkT.taken {K : PySem.W.Frag} {H H1 : Hp} {b s d t : Addr} {R : Int} {Y : Int → Option Sy} {xs : List (Addr × Sy)} {y : Sy} (B : BookAt K H b s d xs) (eY : look xs = Y) (nd : keysN xs) (ok : ∀ p, p ∈ xs → syOk R p.2 = true) (hy : syOk R y = true) (r1 : RowT H1 d (takeT xs (t, y))) (k1 : Kp [d] H H1) : BkT K H1 b s d R (tkF Y y) := by
  obtain ⟨dxb, hbo⟩ := B.ob
  refine ⟨_, ⟨⟨dxb, k1.g1 (ne_of hbo B.ro.at_ (by intro z; cases z)) hbo⟩, r1⟩, by rw [look_take, eY], keysN_take nd _, fun p hp => ?_⟩
  rcases takeT_mem hp with rfl | m
  · exact hy
  · exact ok p m
theorem BkT.rows {z : Int} {f : Nat → Int} {n : Nat} {xs : List (Addr × Sy)} (eY : look xs = YF z f n) (nd : keysN xs) : (rowsL xs).map (·.2) = rowsF z f n := by
  have B : BkF xs n (fun k => yo z k (f k)) := by
    refine ⟨fun k hk => ?_, nd, fun k hk => ?_⟩
    · show look xs k = _
      rw [eY, YF_in hk]
    · have h := keys_look.mp hk
      rw [eY] at h
      unfold YF at h
      split at h
      · rename_i c
        exact c
      · exact absurd rfl h
  exact B.rows fun k y hy => by
    unfold yo at hy
    split at hy
    · cases hy
      rfl
    · cases hy
theorem tk_yf {z L : Int} {f : Nat → Int} {g : Nat → Int} {n k : Nat} (hf : ∀ i, 0 ≤ f i) (hk : k < n) (h0 : f k < L) (hg : ∀ i, g i = if i = k then L else f i) : tkF (YF z f n) (syL z k L) = YF z g n := by
  funext i
  unfold tkF
  by_cases e : i = (k : Int)
  · subst e
    rw [if_pos ⟨rfl, by rw [YF_in hk, rkO_yo (hf _), rk_syL]; exact h0⟩, YF_in hk, hg, if_pos rfl]
    unfold yo
    rw [if_pos (by have := hf k; omega)]
  · rw [if_neg (fun q => e q.1)]
    unfold YF
    by_cases c : 0 ≤ i ∧ i < (n : Int)
    · rw [if_pos c, if_pos c, hg, if_neg (by omega)]
    · rw [if_neg c, if_neg c]
theorem YF_of {xs : List (Addr × Sy)} {z : Int} {f : Nat → Int} {n : Nat} (B : BkF xs n (fun k => yo z k (f k))) : look xs = YF z f n := by
  funext k
  by_cases c : 0 ≤ k ∧ k < (n : Int)
  · obtain ⟨j, rfl⟩ := Int.eq_ofNat_of_zero_le c.1
    rw [YF_in (by omega)]
    exact B.at_ j (by omega)
  · unfold YF
    rw [if_neg c]
    cases e : look xs k with
    | none => rfl
    | some y => exact absurd (B.rg k (keys_look.mpr (by rw [e]; simp))) c
/-- two books and their levels -/
structure Lb (K : PySem.W.Frag) (H : Hp) (bl ll b1 b2 s d1 d2 l1 l2 : Addr) (st : Stg) (z M : Int) (As Bs : List Int) (n : Nat) : Prop where
  bl : H bl = some (.lst [.ref b1, .ref b2])
  ll : H ll = some (.lst [.ref l1, .ref l2])
  k1 : BkT K H b1 s d1 st.ring (YF z (lv As) n)
  k2 : BkT K H b2 s d2 st.ring (YF z (lv Bs) n)
  a1 : H l1 = some (.lst (As.map V.int))
  a2 : H l2 = some (.lst (Bs.map V.int))
  se : SetAt K H s st
  n1 : As.length = n
  n2 : Bs.length = n
  nn : (n : Int) = st.ring
  g1 : LvB M As
  g2 : LvB M Bs
  nd : d1 ≠ d2
  nl : l1 ≠ l2
section
variable {K : PySem.W.Frag} {H H' : Hp} {bl ll b1 b2 s d1 d2 l1 l2 p c : Addr} {st : Stg} {z M M2 L : Int} {As Bs : List Int} {n k : Nat}
theorem Lb.k0 (T : Lb K H bl ll b1 b2 s d1 d2 l1 l2 st z M As Bs n) (k : Kp [] H H') : Lb K H' bl ll b1 b2 s d1 d2 l1 l2 st z M As Bs n :=
  ⟨k.g0 T.bl, k.g0 T.ll, T.k1.k0 k, T.k2.k0 k, k.g0 T.a1, k.g0 T.a2, T.se.k0 k, T.n1, T.n2, T.nn, T.g1, T.g2, T.nd, T.nl⟩
theorem Lb.kB (T : Lb K H bl ll b1 b2 s d1 d2 l1 l2 st z M As Bs n) (X : Box H p c) (k : Kp [p] H H') : Lb K H' bl ll b1 b2 s d1 d2 l1 l2 st z M As Bs n :=
  ⟨k.g1 (X.off5 T.bl (by simp)) T.bl, k.g1 (X.off5 T.ll (by simp)) T.ll, T.k1.kB X k, T.k2.kB X k, k.g1 (X.offI T.a1) T.a1, k.g1 (X.offI T.a2) T.a2, T.se.kB X k, T.n1, T.n2, T.nn, T.g1, T.g2, T.nd, T.nl⟩
theorem Lb.mono (T : Lb K H bl ll b1 b2 s d1 d2 l1 l2 st z M As Bs n) (h : M ≤ M2) : Lb K H bl ll b1 b2 s d1 d2 l1 l2 st z M2 As Bs n :=
  ⟨T.bl, T.ll, T.k1, T.k2, T.a1, T.a2, T.se, T.n1, T.n2, T.nn, T.g1.mono h, T.g2.mono h, T.nd, T.nl⟩
theorem Lb.put1 (T : Lb K H bl ll b1 b2 s d1 d2 l1 l2 st z M As Bs n) (kp : Kp [l1, d1] H H') (hl : H' l1 = some (.lst ((As.set k L).map V.int))) (hb : BkT K H' b1 s d1 st.ring (tkF (YF z (lv As) n) (syL z k L))) (hk : k < n) (h0 : lv As k < L) (hL : L ≤ M2) (hM : M ≤ M2) :
    Lb K H' bl ll b1 b2 s d1 d2 l1 l2 st z M2 (As.set k L) Bs n := by
  obtain ⟨kv, hd⟩ := T.k1.dk
  have hp : 0 ≤ lv As k := T.g1.lv
  have hse : SetAt K H' s st := T.se.kp kp (by
    simp only [List.mem_cons, List.not_mem_nil, or_false, not_or]
    exact ⟨T.se.nelst T.a1, T.se.nedK hd⟩)
  rw [tk_yf (f := lv As) (n := n) (g := lv (As.set k L)) (fun i => T.g1.lv) hk h0 (fun i => lv_set (by rw [T.n1]; exact hk) i)] at hb
  exact ⟨kp.g2 (ne_of T.bl T.a1 noI) (ne_of T.bl hd (by intro z; cases z)) T.bl, kp.g2 (ne_of T.ll T.a1 noI) (ne_of T.ll hd (by intro z; cases z)) T.ll,
    hb, T.k2.kw kp (fun p hp => by
      simp only [List.mem_cons, List.not_mem_nil, or_false] at hp
      rcases hp with rfl | rfl
      · exact .inl ⟨_, T.a1⟩
      · exact .inr (.inl ⟨⟨_, hd⟩, T.nd⟩)), hl, kp.g2 (Ne.symm T.nl) (ne_of T.a2 hd (by intro z; cases z)) T.a2, hse, by rw [List.length_set]; exact T.n1, T.n2, T.nn, (T.g1.mono hM).set (by omega) hL, T.g2.mono hM, T.nd, T.nl⟩
theorem Lb.put2 (T : Lb K H bl ll b1 b2 s d1 d2 l1 l2 st z M As Bs n) (kp : Kp [l2, d2] H H') (hl : H' l2 = some (.lst ((Bs.set k L).map V.int))) (hb : BkT K H' b2 s d2 st.ring (tkF (YF z (lv Bs) n) (syL z k L))) (hk : k < n) (h0 : lv Bs k < L) (hL : L ≤ M2) (hM : M ≤ M2) :
    Lb K H' bl ll b1 b2 s d1 d2 l1 l2 st z M2 As (Bs.set k L) n := by
  obtain ⟨kv, hd⟩ := T.k2.dk
  have hp : 0 ≤ lv Bs k := T.g2.lv
  have hse : SetAt K H' s st := T.se.kp kp (by
    simp only [List.mem_cons, List.not_mem_nil, or_false, not_or]
    exact ⟨T.se.nelst T.a2, T.se.nedK hd⟩)
  rw [tk_yf (f := lv Bs) (n := n) (g := lv (Bs.set k L)) (fun i => T.g2.lv) hk h0 (fun i => lv_set (by rw [T.n2]; exact hk) i)] at hb
  exact ⟨kp.g2 (ne_of T.bl T.a2 noI) (ne_of T.bl hd (by intro z; cases z)) T.bl, kp.g2 (ne_of T.ll T.a2 noI) (ne_of T.ll hd (by intro z; cases z)) T.ll,
    T.k1.kw kp (fun p hp => by
      simp only [List.mem_cons, List.not_mem_nil, or_false] at hp
      rcases hp with rfl | rfl
      · exact .inl ⟨_, T.a2⟩
      · exact .inr (.inl ⟨⟨_, hd⟩, Ne.symm T.nd⟩)), hb, kp.g2 T.nl (ne_of T.a1 hd (by intro z; cases z)) T.a1, hl, hse, T.n1, by rw [List.length_set]; exact T.n2, T.nn, T.g1.mono hM, (T.g2.mono hM).set (by omega) hL, T.nd, T.nl⟩
theorem Box.kL (B : Box H p c) (T : Lb K H bl ll b1 b2 s d1 d2 l1 l2 st z M As Bs n) (k : Kp [l1, l2, d1, d2] H H') (c1 : c ≠ l1) (c2 : c ≠ l2) : Box H' p c := by
  obtain ⟨kv1, hd1⟩ := T.k1.dk
  obtain ⟨kv2, hd2⟩ := T.k2.dk
  obtain ⟨r, e1, ns, e2⟩ := B.at
  refine B.kp k ?_ ?_
  · simp only [List.mem_cons, List.not_mem_nil, or_false, not_or]
    exact ⟨Ne.symm (B.offI T.a1), Ne.symm (B.offI T.a2), ne_of e1 hd1 (by intro z; cases z), ne_of e1 hd2 (by intro z; cases z)⟩
  · simp only [List.mem_cons, List.not_mem_nil, or_false, not_or]
    exact ⟨c1, c2, ne_of e2 hd1 (by intro z; cases z), ne_of e2 hd2 (by intro z; cases z)⟩
end
theorem Sy.T.syL {z k L : Int} : (syL z k L).T := by
  have h := mkI_at (Int.emod_nonneg (L - 1) (show (4 : Int) ≠ 0 by decide)) (Int.emod_lt_of_pos (L - 1) (show (0 : Int) < 4 by decide))
  exact Sy.T.of (r := 1) (y := ⟨0, 0, (My.syL z k L).m, (My.syL z k L).w⟩) (syOk_iff.mpr ⟨⟨Int.le_refl _, Int.le_refl _⟩, ⟨Int.le_refl _, by show (0 : Int) ≤ MOST; decide +kernel⟩, h.2.1, wF_ok _ _ _⟩)

theorem atI_lv {As : List Int} {k : Nat} (h : k < As.length) : atI (As.map V.int) (k : Int) = some (.int (lv As k)) := by
  refine atI_nat ?_
  unfold lv
  rw [List.getElem?_map, List.getElem?_eq_getElem h, List.getD_eq_getElem?_getD, List.getElem?_eq_getElem h]
  rfl
def mxL (As Bs : List Int) (n : Nat) : List Int := (List.range n).map fun i => max (lv As i) (lv Bs i)
theorem mxL_len (As Bs : List Int) (n : Nat) : (mxL As Bs n).length = n := by simp [mxL]
theorem mxL_lv {As Bs : List Int} {n k : Nat} (h : k < n) : lv (mxL As Bs n) k = mx (lv As) (lv Bs) k := by
  unfold mxL
  show (List.map _ (List.range n)).getD k 0 = _
  rw [List.getD_eq_getElem?_getD, List.getElem?_map, List.getElem?_range h]
  rfl

theorem dcn_le (f g : Nat → Int) (n : Nat) : 0 ≤ dcn f g n ∧ dcn f g n ≤ (n : Int) := by
  unfold dcn
  rw [cnt_filter]
  have := List.length_filter_le (fun i => decide (f i ≠ g i)) (List.range n)
  rw [List.length_range] at this
  omega
theorem mul20 {b : Nat} {D : Int} (hb : b ≤ 8) (h0 : 0 ≤ D) (h1 : D ≤ 256) : (2 * (b : Int) + 4) * D ≤ 20 * 256 :=
  Int.le_trans (Int.mul_le_mul_of_nonneg_right (show 2 * (b : Int) + 4 ≤ 20 by omega) h0) (Int.mul_le_mul_of_nonneg_left h1 (by decide))
theorem BkT.fr {K : PySem.W.Frag} {H : Hp} {b s d d' : Addr} {R : Int} {Y : Int → Option Sy} (B : BkT K H b s d R Y) (h : H d' = none) : d ≠ d' := by
  obtain ⟨kv, e⟩ := B.dk
  exact ne_of_none e h
/-- a book takes what it lacks -/
theorem BkT.wd {K : PySem.W.Frag} {H H1 : Hp} {b s d d' : Addr} {R : Int} {Y : Int → Option Sy} {kv : List (Key × V)} (B : BkT K H b s d R Y) (k : Kp [d'] H H1) (hd : H d' = some (.dK kv)) (n : d ≠ d') : BkT K H1 b s d R Y := B.kw k fun p hp => .inr (.inl (by
  rw [List.mem_singleton.mp hp]
  exact ⟨⟨_, hd⟩, Ne.symm n⟩))
/-- four books -/
structure Fo (K : PySem.W.Frag) (H : Hp) (fr s : Addr) (st : Stg) (z : Int) (n : Nat) (bs : List (Addr × Addr)) (fs : Nat → Nat → Int) : Prop where
  at_ : H fr = some (.lst (bs.map fun p => V.ref p.1))
  ln : bs.length = 4
  bk : ∀ i p, bs[i]? = some p → BkT K H p.1 s p.2 st.ring (YF z (fs i) n)
  nd : ∀ (i j : Nat) (p q : Addr × Addr), bs[i]? = some p → bs[j]? = some q → i ≠ j → p.2 ≠ q.2
section
variable {K : PySem.W.Frag} {H H' : Hp} {fr s p c : Addr} {st : Stg} {z L : Int} {n k : Nat} {bs : List (Addr × Addr)} {fs : Nat → Nat → Int}
theorem Fo.k0 (F : Fo K H fr s st z n bs fs) (k : Kp [] H H') : Fo K H' fr s st z n bs fs := ⟨k.g0 F.at_, F.ln, fun i p h => (F.bk i p h).k0 k, F.nd⟩
theorem Fo.kB (F : Fo K H fr s st z n bs fs) (X : Box H p c) (k : Kp [p] H H') : Fo K H' fr s st z n bs fs := ⟨k.g1 (X.off5 F.at_ (by rw [List.length_map, F.ln]; decide)) F.at_, F.ln, fun i p h => (F.bk i p h).kB X k, F.nd⟩
theorem Fo.get (F : Fo K H fr s st z n bs fs) {i : Nat} (h : i < 4) : ∃ q, bs[i]? = some q ∧ BkT K H q.1 s q.2 st.ring (YF z (fs i) n) := ⟨bs[i]'(by rw [F.ln]; exact h), List.getElem?_eq_getElem _, F.bk i _ (List.getElem?_eq_getElem _)⟩
/-- one of them is another one now -/
theorem Fo.put (F : Fo K H fr s st z n bs fs) {i : Nat} {q : Addr × Addr} {f' : Nat → Int} (hq : bs[i]? = some q) (kp : Kp [q.2] H H') (hb : BkT K H' q.1 s q.2 st.ring (YF z f' n)) : Fo K H' fr s st z n bs (fun j => if j = i then f' else fs j) := by
  obtain ⟨kv, hd⟩ := (F.bk i q hq).dk
  refine ⟨kp.g1 (ne_of F.at_ hd (by intro z; cases z)) F.at_, F.ln, fun j p h => ?_, F.nd⟩
  by_cases e : j = i
  · subst e
    rw [hq] at h
    cases h
    rw [if_pos rfl]
    exact hb
  · rw [if_neg e]
    exact (F.bk j p h).wd kp hd (F.nd j i p q h hq e)
end

theorem lane {b room : Nat} {pa : Int} (hb : b ≤ 8) (hr : 1 ≤ room ∧ room ≤ 64) (h0 : 0 ≤ pa) (h1 : pa < (((2 ^ b : Nat) : Int) + (room : Int) - 1) / (room : Int)) : ∃ part lo hi : Nat, pa = (part : Int) ∧ (lo : Int) = part * (room : Int) ∧ (hi : Int) = min (lo + (room : Int)) ((2 ^ b : Nat) : Int) ∧ lo ≤ 2 ^ b ∧ (part : Int) * (room : Int) ≤ 256 := by
  have h256 : 2 ^ b ≤ 256 := Nat.pow_le_pow_right (n := 2) (by decide) hb
  obtain ⟨part, rfl⟩ := Int.eq_ofNat_of_zero_le h0
  have h2 : ((part : Int) + 1) * (room : Int) ≤ (((2 ^ b : Nat) : Int) + (room : Int) - 1) :=
    Int.le_trans (Int.mul_le_mul_of_nonneg_right (by omega) (by omega)) (Int.ediv_mul_le _ (by omega))
  rw [Int.add_mul, Int.one_mul] at h2
  have e : ((part * room : Nat) : Int) = (part : Int) * (room : Int) := Int.natCast_mul ..
  refine ⟨part, part * room, min (part * room + room) (2 ^ b), rfl, e, by omega, by omega, by omega⟩
theorem lanes {b room : Nat} (hr : 1 ≤ room ∧ room ≤ 64) : 1 ≤ (((2 ^ b : Nat) : Int) + (room : Int) - 1) / (room : Int) := by
  have := Nat.two_pow_pos b
  exact Int.le_ediv_of_mul_le (by omega) (by omega)
theorem lanes2 {b room : Nat} (hb : b ≤ 8) (hr : 1 ≤ room ∧ room ≤ 64) : (((2 ^ b : Nat) : Int) + (room : Int) - 1) / (room : Int) ≤ 320 := by
  have h256 : 2 ^ b ≤ 256 := Nat.pow_le_pow_right (n := 2) (by decide) hb
  have hp := Nat.two_pow_pos b
  have h0 : (0 : Int) ≤ ((2 ^ b : Nat) : Int) + (room : Int) - 1 := by omega
  exact Int.le_trans (Int.ediv_le_self _ h0) (by omega)
/-! what a book may hold behind it: the old level or the joint one -/
structure Got (f j : Nat → Int) (n lo hi : Nat) (must : Prop) (h : Nat → Int) : Prop where
  nn : ∀ k, 0 ≤ h k
  o : ∀ k, k < n → h k = f k ∨ h k = j k
  s : ∀ k, lo ≤ k → k < hi → h k = j k
  m : must → ∀ k, k < n → h k = j k
theorem got_of {z : Int} {f j : Nat → Int} {n lo hi : Nat} {must : Prop} {Y : Int → Option Sy} (hf : ∀ k, 0 ≤ f k) (hj : ∀ k, 0 ≤ j k) (h2 : hi ≤ n) (va : ∀ k, Y k = YF z f n k ∨ Y k = YF z j n k) (s : ∀ k : Int, (lo : Int) ≤ k → k < (hi : Int) → Y k = YF z j n k) (m : must → Y = YF z j n) : ∃ h, Y = YF z h n ∧ Got f j n lo hi must h := by
  have e : ∀ (h : Nat → Int) (k : Nat), (∀ k, 0 ≤ h k) → k < n → rkO (YF z h n (k : Int)) = h k := fun h k hh hk => by rw [YF_in hk, rkO_yo (hh k)]
  refine ⟨fun k => if k < n then rkO (Y (k : Int)) else 0, ?_, fun k => ?_, fun k hk => ?_, fun k h0 h1 => ?_, fun hm k hk => ?_⟩
  · funext k
    by_cases c : 0 ≤ k ∧ k < (n : Int)
    · obtain ⟨i, rfl⟩ := Int.eq_ofNat_of_zero_le c.1
      have hi : i < n := by omega
      rw [YF_in hi]
      show _ = yo z i (if i < n then rkO (Y (i : Int)) else 0)
      rw [if_pos hi]
      rcases va i with q | q
      · rw [q, e f i hf hi, YF_in hi]
      · rw [q, e j i hj hi, YF_in hi]
    · have : ∀ h : Nat → Int, YF z h n k = none := fun h => if_neg c
      rw [this]
      rcases va k with q | q
      · rw [q, this]
      · rw [q, this]
  · show 0 ≤ if k < n then rkO (Y (k : Int)) else 0
    split
    · rename_i hk
      rcases va k with q | q
      · rw [q, e f k hf hk]
        exact hf k
      · rw [q, e j k hj hk]
        exact hj k
    · exact Int.le_refl _
  · show (if k < n then rkO (Y (k : Int)) else 0) = _ ∨ (if k < n then rkO (Y (k : Int)) else 0) = _
    rw [if_pos hk]
    rcases va k with q | q
    · left
      rw [q, e f k hf hk]
    · right
      rw [q, e j k hj hk]
  · show (if k < n then rkO (Y (k : Int)) else 0) = _
    rw [if_pos (by omega), s k (by omega) (by omega), e j k hj (by omega)]
  · show (if k < n then rkO (Y (k : Int)) else 0) = _
    rw [if_pos hk, m hm, e j k hj hk]
theorem rec_got {z : Int} {f g : Nat → Int} {b lo hi room R : Nat} (hf : ∀ k, 0 ≤ f k) (hg : ∀ k, 0 ≤ g k) (h : lo ≤ hi) (h2 : hi ≤ 2 ^ b) (hr : 1 ≤ room) (hR : RecF (YF z f (2 ^ b)) (YF z g (2 ^ b)) (2 ^ b) lo hi room R) :
    ∃ h1 h2, (itr room ⟨YF z f (2 ^ b), YF z g (2 ^ b), begL (YF z f (2 ^ b)) (2 ^ b) lo hi, []⟩ R).ya = YF z h1 (2 ^ b) ∧ (itr room ⟨YF z f (2 ^ b), YF z g (2 ^ b), begL (YF z f (2 ^ b)) (2 ^ b) lo hi, []⟩ R).yb = YF z h2 (2 ^ b) ∧
      Got f (mx f g) (2 ^ b) lo hi (mustL f g (2 ^ b)) h1 ∧ Got g (mx f g) (2 ^ b) lo hi (mustL f g (2 ^ b)) h2 := by
  have J := Jn_yf (z := z) (n := 2 ^ b) hf hg
  obtain ⟨R', hR', _, hI⟩ := rec_one (z := z) (b := b) hf hg h h2 hr
  obtain rfl := hR.uniq hR'
  have I := (hI R).1
  have gM : ∀ k, 0 ≤ mx f g k := fun k => by
    have := hf k
    show 0 ≤ max (f k) (g k)
    omega
  obtain ⟨h1, e1, G1⟩ := got_of (lo := lo) (hi := hi) (must := mustL f g (2 ^ b)) hf gM h2 I.va (fun k k0 k1 => (IvS.join J I hR.1 (k := k) ⟨k0, k1⟩).1) fun M => (rec_all hf hg h h2 hr M hR).1
  obtain ⟨h2', e2, G2⟩ := got_of (lo := lo) (hi := hi) (must := mustL f g (2 ^ b)) hg gM h2 I.vb (fun k k0 k1 => (IvS.join J I hR.1 (k := k) ⟨k0, k1⟩).2) fun M => (rec_all hf hg h h2 hr M hR).2
  exact ⟨h1, h2', e1, e2, G1, G2⟩
def mustB (f g : Nat → Int) (n : Nat) : Bool := decide (cnt (fun i => decide (f i < g i)) n + cnt (fun i => decide (g i < f i)) n ≤ 3) || (decide (cnt (fun i => decide (f i < g i)) n = 0) || decide (cnt (fun i => decide (g i < f i)) n = 0))
theorem mustB_iff {f g : Nat → Int} {n : Nat} : mustB f g n = true ↔ mustL f g n := by
  unfold mustB mustL
  simp only [Bool.or_eq_true, decide_eq_true_eq]
/-! rows read along the seats -/
theorem rowsF_at {z : Int} {h : Nat → Int} {n : Nat} : ∀ {d i : Nat}, i + d = n → 0 < d → ((rowsF z h n)[(rowsF z h i).length]?) = if 0 < h i then some (syL z i (h i)) else (rowsF z h n)[(rowsF z h (i + 1)).length]? := by
  have pre : ∀ i, i ≤ n → ∃ t, rowsF z h n = rowsF z h i ++ t := fun i hi => by
    obtain ⟨d, rfl⟩ := Nat.exists_eq_add_of_le hi
    clear hi
    induction d with
    | zero => exact ⟨[], by simp⟩
    | succ d ih =>
      obtain ⟨t, ht⟩ := ih
      refine ⟨t ++ (yo z (i + d : Nat) (h (i + d))).toList, ?_⟩
      rw [show i + (d + 1) = (i + d) + 1 by omega, rowsF_succ, ht, List.append_assoc]
  intro d i e hd
  by_cases c : 0 < h i
  · rw [if_pos c]
    obtain ⟨t, ht⟩ := pre (i + 1) (by omega)
    rw [ht, rowsF_succ]
    unfold yo
    rw [if_pos c]
    simp
  · rw [if_neg c, rowsF_succ]
    unfold yo
    rw [if_neg c]
    simp
theorem rowsF_after {z : Int} {h : Nat → Int} {n : Nat} {i : Nat} (hi : i ≤ n) {y : Sy} (e : (rowsF z h n)[(rowsF z h i).length]? = some y) : ∃ k : Nat, i ≤ k ∧ k < n ∧ 0 < h k ∧ y = syL z k (h k) := by
  obtain ⟨d, hd⟩ := Nat.exists_eq_add_of_le hi
  induction d generalizing i with
  | zero =>
    have : i = n := by omega
    subst this
    rw [List.getElem?_eq_none (Nat.le_refl _)] at e
    cases e
  | succ d ih =>
    rw [rowsF_at (d := d + 1) (by omega) (by omega)] at e
    split at e
    · rename_i c
      exact ⟨i, Nat.le_refl _, by omega, c, (Option.some.inj e).symm⟩
    · obtain ⟨k, h1, h2⟩ := ih (by omega) e (by omega)
      exact ⟨k, by omega, h2⟩
theorem rd_eqSy {K : PySem.W.Frag} {H : Hp} {Q : VK} {a b : Addr} {x y : Sy} (h1 : SyAt H a x) (h2 : SyAt H b y) (t1 : x.T) (t2 : y.T) (q : Q (.bl (decide (x = y))) H) : rEqD K (.ref a) (.ref b) H Q :=
  ⟨dSy x, dSy y, dp_sy h1, dp_sy h2, dSy_shaped t1, dSy_shaped t2, by
    rw [dSy_eqv]
    exact q⟩

theorem rec_pk {z : Int} {f g : Nat → Int} {b lo hi room : Nat} (hb : b ≤ 8) (hf : ∀ k, 0 ≤ f k) (hg : ∀ k, 0 ≤ g k) (h : lo ≤ hi) (h2 : hi ≤ 2 ^ b) (hr : 1 ≤ room ∧ room ≤ 64) (hw : (hi : Int) - lo ≤ room) : ∃ Rn, RecF (YF z f (2 ^ b)) (YF z g (2 ^ b)) (2 ^ b) lo hi room Rn ∧ (Rn : Int) ≤ 1 + (room : Int) + (2 * b + 4) * dcn f g (2 ^ b) ∧ 1 ≤ Rn ∧
    ∀ r, (itr room ⟨YF z f (2 ^ b), YF z g (2 ^ b), begL (YF z f (2 ^ b)) (2 ^ b) lo hi, []⟩ r).qa.length ≤ 50000 ∧ (itr room ⟨YF z f (2 ^ b), YF z g (2 ^ b), begL (YF z f (2 ^ b)) (2 ^ b) lo hi, []⟩ r).qb.length ≤ 50000 := by
  have h256 : 2 ^ b ≤ 256 := Nat.pow_le_pow_right (n := 2) (by decide) hb
  obtain ⟨Rn, hR, hRb, hI⟩ := rec_one (z := z) (b := b) hf hg h h2 hr.1
  have hD := dcn_le f g (2 ^ b)
  have hm := mul20 hb hD.1 (by omega)
  refine ⟨Rn, hR, by omega, ?_, fun r => ?_⟩
  · cases Rn with
    | zero => exact absurd hR.1.1 (by
        show ¬ begL (YF z f (2 ^ b)) (2 ^ b) lo hi = []
        exact List.cons_ne_nil _ _)
    | succ r => omega
  · have := (hI r).2
    omega
theorem lv_ext {As Bs : List Int} {n : Nat} (h1 : As.length = n) (h2 : Bs.length = n) (h : ∀ k, k < n → lv As k = lv Bs k) : As = Bs := by
  refine List.ext_getElem (by omega) fun k k1 k2 => ?_
  have := h k (by omega)
  unfold lv at this
  rwa [List.getD_eq_getElem?_getD, List.getD_eq_getElem?_getD, List.getElem?_eq_getElem k1, List.getElem?_eq_getElem k2] at this
theorem rd_neLL {K : PySem.W.Frag} {H : Hp} {Q : VK} {p q p1 p2 q1 q2 : Addr} {As Bs Cs Ds : List Int} (h1 : H p = some (.lst [.ref p1, .ref p2])) (h2 : H q = some (.lst [.ref q1, .ref q2])) (a1 : H p1 = some (.lst (As.map V.int))) (a2 : H p2 = some (.lst (Bs.map V.int))) (a3 : H q1 = some (.lst (Cs.map V.int))) (a4 : H q2 = some (.lst (Ds.map V.int))) (e1 : As = Cs) (e2 : Bs = Ds) (k : Q (.bl false) H) : rNeD K (.ref p) (.ref q) H Q := by
  subst e1 e2
  have sh : SeqAt.shaped (.list [.list (As.map PyData.int), .list (Bs.map PyData.int)]) = true := by
    have s1 := Bool.and_eq_true_iff.mp (shaped_ints As)
    have s2 := Bool.and_eq_true_iff.mp (shaped_ints Bs)
    have d1 := of_decide_eq_true s1.2
    have d2 := of_decide_eq_true s2.2
    have g : ∀ ns : List Int, PyData.depthAll (ns.map PyData.int) ≤ 1 := fun ns => by
      induction ns with
      | nil => simp [PyData.depthAll]
      | cons n r ih =>
        simp only [List.map_cons, PyData.depthAll, PyData.depth]
        omega
    have g1 := g As
    have g2 := g Bs
    refine Bool.and_eq_true_iff.mpr ⟨?_, decide_eq_true ?_⟩
    · simp only [PyData.canLay0, PyData.canLayAll0, Bool.and_true] at s1 s2 ⊢
      rw [s1.1, s2.1]
      rfl
    · simp only [PyData.depth, PyData.depthAll]
      omega
  exact ⟨.list [.list (As.map PyData.int), .list (Bs.map PyData.int)], .list [.list (As.map PyData.int), .list (Bs.map PyData.int)],
    .lst (SqL.of h1) (.cons (.lst (SqL.of a1) (dp_ints As)) (.cons (.lst (SqL.of a2) (dp_ints Bs)) .nil)), .lst (SqL.of h2) (.cons (.lst (SqL.of a3) (dp_ints As)) (.cons (.lst (SqL.of a4) (dp_ints Bs)) .nil)), sh, sh, by
      simp only [PyData.eqv, PyData.eqvAll, eqv_ints, decide_true, Bool.and_true]
      exact k⟩


abbrev hk : PySem.W.Hook := hookQ PySem.Challenge.pw_livingroll_k32_whole_reconcile_stripes 6 fa fn gs es ys tabs tf ex
def ob (s : PySem.W.SharedT) : AlQ := obsQ PySem.Challenge.pw_livingroll_k32_whole_reconcile_stripes 6 fa fn gs es ys tabs tf ex (HandSHeadRun.getT s)
theorem ob_eq (s : PySem.W.SharedT) : ob s = hk.obs s.abs := obsQ_eq (HandSHeadRun.getT_eq s)
def names : List Str := (["_wall", "halves", "moments", "GroupError", "InvalidSetting", "InvalidSaying", "whole", "Setting", "MARKS", "MARK_STEPS", "MOST_LIFE", "WORTH_LENGTH", "WORTH_SIGNS", "EMPTY_WORTH", "is_worth", "life_ok", "is_saying", "check_saying", "rank", "format_saying", "SAYING_PARTS", "Side", "reconcile", "_hand_over", "_is_later", "_latest_rows", "Book", "_law_whole", "_law_box", "_law_mixed"] : List Str) ++ (["_law_take", "_law_base", "_law_level", "_law_worth", "_law_saying", "_law_rows", "_law_book", "_law_is_saying", "_law_same", "_law_few", "_law_above", "_law_vector", "_law_pair", "_law_read", "_law_hold", "_law_bounded", "_law_must_join", "_law_results", "_law_left_out"] : List Str)
theorem run_t (w : World) (f : String → Bool) : HandSHeadRun.RunEq R (PySem.W.view R.prog [56]) hk ob 6000 names ⟨w.draws, { w.params with followText := fun s => bif s == "special-get-raises" then true else f s }⟩ := by
  intro os
  kernel_rfl
theorem run_f (w : World) (f : String → Bool) : HandSHeadRun.RunEq R (PySem.W.view R.prog [56]) hk ob 6000 names ⟨w.draws, { w.params with followText := fun s => bif s == "special-get-raises" then false else f s }⟩ := by
  intro os
  kernel_rfl
theorem run_b (b : Bool) (w : World) (f : String → Bool) : HandSHeadRun.RunEq R (PySem.W.view R.prog [56]) hk ob 6000 names ⟨w.draws, { w.params with followText := fun s => bif s == "special-get-raises" then b else f s }⟩ := by
  cases b
  · exact run_f w f
  · exact run_t w f
theorem run (w : World) : HandSHeadRun.RunEq R (PySem.W.view R.prog [56]) hk ob 6000 names w := by
  have e : w = ⟨w.draws, { w.params with followText := fun s => bif s == "special-get-raises" then w.params.followText "special-get-raises" else w.params.followText s }⟩ := by
    obtain ⟨d, p⟩ := w
    have h : (fun s => bif s == "special-get-raises" then p.followText "special-get-raises" else p.followText s) = p.followText := by
      funext s
      by_cases q : s = "special-get-raises"
      · rw [q]
        rfl
      · rw [show (s == "special-get-raises") = false from beq_eq_false_iff_ne.mpr q]
        rfl
    show (⟨d, p⟩ : World) = ⟨d, { p with followText := fun s => bif s == "special-get-raises" then p.followText "special-get-raises" else p.followText s }⟩
    rw [h]
  rw [e]
  exact run_b _ _ _

local macro_rules | `(tactic| wtm_at "look") => `(tactic| fail "no rule")
local macro_rules | `(tactic| wtm_at "ne") => `(tactic| first
  | with_reducible assumption
  | ((with_reducible refine' Ne.symm ?h); (case h => with_reducible assumption))
  | ((with_reducible refine' ne_fresh ?n); (case n => with_reducible assumption))
  | ((with_reducible refine' Ne.symm (ne_fresh ?n)); (case n => with_reducible assumption))
  | ((refine' ne_of_none ?h ?n); (case n => with_reducible assumption); (case h => wtm_at "hp"))
  | ((refine' Ne.symm (ne_of_none ?h ?n)); (case n => with_reducible assumption); (case h => wtm_at "hp"))
  | fail "no rule")
local macro_rules | `(tactic| wtm_at "hp") => `(tactic| first
  | with_reducible assumption
  | with_reducible exact upd_same
  | ((with_reducible refine' upd_is ?e); (case e => exact rfl))
  | ((with_reducible refine' hu_ne ?n ?e); (case n => wtm_at "ne"); (case e => wtm_at "hp"))
  | ((with_reducible refine' Kp.g0 ?k ?e); (case k => with_reducible assumption); (case e => wtm_at "hp"))
  | ((with_reducible refine' Kp.g1 ?k ?n ?e); (case k => with_reducible assumption); (case n => wtm_at "ne"); (case e => wtm_at "hp"))
  | ((with_reducible refine' Kp.g2 ?k ?n ?m ?e); (case k => with_reducible assumption); (case n => wtm_at "ne"); (case m => wtm_at "ne"); (case e => wtm_at "hp"))
  | ((with_reducible refine' Kp.g3 ?k ?n ?m ?l ?e); (case k => with_reducible assumption); (case n => wtm_at "ne"); (case m => wtm_at "ne"); (case l => wtm_at "ne"); (case e => wtm_at "hp"))
  | fail "no rule")
local macro_rules | `(tactic| wtm_at "sq") => `(tactic| first
  | with_reducible assumption
  | wtm_at "sqx"
  | ((refine' SqL.of ?e); (case e => wtm_at "hp"))
  | ((refine' SqT.of ?e); (case e => wtm_at "hp"))
  | fail "no rule")
local macro_rules | `(tactic| wtm_at "at") => `(tactic| first
  | exact rfl
  | assumption
  | ((refine' atI_ints ?a ?b); (case a => omega); (case b => omega))
  | fail "no rule")
local macro_rules | `(tactic| wtm_at "cc") => `(tactic| first
  | with_reducible assumption
  | omega
  | exact rfl
  | decide
  | ((refine' ⟨?a, ?b⟩); (case a => omega); (case b => omega))
  | ((refine' Or.inr ⟨?a, ?b⟩); (case a => omega); (case b => omega))
  | ((refine' Or.inl ⟨?a, ?b⟩); (case a => omega); (case b => omega))
  | ((refine' ⟨?a, ?b, ?c⟩); (case a => first | omega | decide | fail "num"); (case b => first | omega | decide | fail "num"); (case c => first | omega | decide | fail "num"))
  | fail "no rule")
local macro_rules | `(tactic| wtm_at "sz") => `(tactic| first
  | assumption
  | ((refine' szlt ?h); (case h => (simp; omega)))
  | ((refine' szlt ?h); (case h => omega))
  | ((refine' szlt ?h); (case h => exact Nat.le_of_ble_eq_true rfl))
  | ((refine' sz1000 ?h); (case h => (simp; done)))
  | ((refine' sz1000 ?h); (case h => omega))
  | fail "no rule")
local macro_rules | `(tactic| wtm_at "dg") => `(tactic| first
  | ((refine' dg_is ?a ?b); (case a => wtm_at "hp"); (case b => wtm_at "hp"))
  | ((refine' dg_i ?a); (case a => wtm_at "hp"))
  | ((refine' dg_s ?a); (case a => wtm_at "hp"))
  | fail "no rule")
local macro_rules | `(tactic| wtm_at "dgv") => `(tactic| first
  | ((refine' dg_sv ?a ?b); (case a => wtm_at "hp"); (case b => first | assumption | wtm_at "look" | exact rfl | fail "look"))
  | ((refine' dg_iv ?a ?b); (case a => wtm_at "hp"); (case b => first | assumption | wtm_at "look" | exact rfl | fail "look"))
  | fail "no rule")
local macro_rules | `(tactic| wtm_at "dp") => `(tactic| first
  | ((refine' dp_is ?a ?b ?c); (case a => wtm_at "hp"); (case b => wtm_at "hp"); (case c => wtm_at "sz"))
  | ((refine' dp_i ?a ?c); (case a => wtm_at "hp"); (case c => wtm_at "sz"))
  | ((refine' dp_s ?a ?c); (case a => wtm_at "hp"); (case c => wtm_at "sz"))
  | fail "no rule")
local macro_rules | `(tactic| wtm_at "rd1") => `(tactic| first
  | with_reducible refine' rd_seq ?_
  | with_reducible refine' rd_asg ?_
  | ((with_reducible refine' rd_var ?e ?_); (case e => exact rfl))
  | with_reducible refine' rd_c ?_
  | with_reducible refine' rd_op ?_
  | with_reducible refine' rd_gname ?_
  | with_reducible refine' rd_CB ?_
  | with_reducible refine' rd_cons ?_
  | with_reducible refine' rd_nil ?_
  | with_reducible refine' rd_ret ?_
  | with_reducible refine' rd_drop ?_
  | with_reducible refine' rd_ifS ?_
  | with_reducible refine' rd_test ?_
  | with_reducible refine' rd_exb ?_
  | with_reducible refine' rd_call ?_
  | with_reducible refine' rd_I0 ?_
  | ((with_reducible refine' rd_I ?c ?_); (case c => wtm_at "cc"))
  | ((with_reducible refine' rd_ixL ?h ?a ?_); (case h => wtm_at "sq"); (case a => wtm_at "at"))
  | ((with_reducible refine' rd_ixT ?h ?a ?_); (case h => wtm_at "sq"); (case a => wtm_at "at"))
  | with_reducible refine' rd_int1 ?_
  | with_reducible refine' rd_abs ?_
  | ((with_reducible refine' rd_lenI ?h ?_); (case h => wtm_at "sq"))
  | ((with_reducible refine' rd_lenL ?h ?_); (case h => wtm_at "sq"))
  | ((with_reducible refine' rd_lenT ?h ?_); (case h => wtm_at "sq"))
  | with_reducible refine' rd_eqI ?_
  | with_reducible refine' rd_neI ?_
  | with_reducible refine' rd_eqS ?_
  | with_reducible refine' rd_neS ?_
  | with_reducible refine' rd_eqB ?_
  | with_reducible refine' rd_neB ?_
  | with_reducible refine' rd_and ?_
  | with_reducible refine' rd_or ?_
  | with_reducible refine' rd_not ?_
  | with_reducible refine' rd_tB ?_
  | with_reducible refine' rd_gsub ?_
  | ((with_reducible refine' rd_setL ?h ?j ?_); (case h => wtm_at "hp"); (case j => exact rfl))
  | with_reducible refine' rd_next ?_
  | with_reducible refine' rd_un ?_
  | with_reducible refine' rd_U ?_
  | with_reducible refine' rd_tup ?_
  | with_reducible refine' rd_lst ?_
  | with_reducible refine' rd_bm ?_
  | with_reducible refine' rd_bm0 ?_
  | with_reducible refine' rd_meth ?_
  | with_reducible refine' rd_make ?_
  | with_reducible refine' rd_iTup ?_
  | ((with_reducible refine' rd_iTupX ?h ?_); (case h => wtm_at "sq"))
  | with_reducible refine' rd_for ?_
  | with_reducible refine' rd_iList ?_
  | ((with_reducible refine' rd_iListX ?h ?_); (case h => wtm_at "sq"))
  | with_reducible refine' rd_iRng1 ?_
  | ((with_reducible refine' rd_iRng1X ?h1 ?h2 ?_); (case h1 => wtm_at "cc"); (case h2 => wtm_at "cc"))
  | ((with_reducible refine' rd_iRng2X ?h1 ?_); (case h1 => ((refine' ⟨?a, ?b, ?c, ?d⟩); (case a => omega); (case b => omega); (case c => omega); (case d => omega))))
  | with_reducible refine' rd_iRng2 ?_
  | with_reducible refine' rd_lc ?_
  | with_reducible refine' rd_yes ?_
  | with_reducible refine' rd_andV ?_
  | with_reducible refine' rd_orV ?_
  | with_reducible refine' rd_notV ?_
  | with_reducible refine' rd_ifE ?_
  | with_reducible refine' rd_isN ?_
  | with_reducible refine' rd_notN ?_
  | with_reducible refine' rd_min2 ?_
  | with_reducible refine' rd_max2 ?_
  | with_reducible refine' rd_retN ?_
  | with_reducible refine' rd_brk ?_
  | with_reducible refine' rd_cont ?_
  | with_reducible refine' rd_tfld ?_
  | ((with_reducible refine' rd_fldX ?h ?c ?n ?l ?_); (case h => wtm_at "hp"); (case c => wtm_at "cls"); (case n => wtm_at "noat"); (case l => exact rfl))
  | with_reducible refine' rd_sfld ?_
  | ((with_reducible refine' rd_sfldX ?h ?c ?n ?l ?_); (case h => wtm_at "hp"); (case c => wtm_at "cls"); (case n => wtm_at "noat"); (case l => first | decide | exact Nat.le_of_ble_eq_true rfl | fail "len"))
  | with_reducible refine' rd_tcon ?_
  | ((with_reducible refine' rd_conX ?h ?c ?n ?l ?_); (case h => wtm_at "hp"); (case c => wtm_at "cls"); (case n => wtm_at "con"); (case l => exact rfl))
  | ((with_reducible refine' rd_methX ?h ?l ?_); (case h => wtm_at "hp"); (case l => exact rfl))
  | with_reducible refine' rd_isi_ii ?_
  | with_reducible refine' rd_isi_ib ?_
  | with_reducible refine' rd_isi_bb ?_
  | with_reducible refine' rd_isi_bi ?_
  | with_reducible refine' rd_isi_ss ?_
  | ((with_reducible refine' rd_isi_ll ?h ?_); (case h => wtm_at "hp"))
  | ((with_reducible refine' rd_isi_tt ?h ?_); (case h => wtm_at "hp"))
  | with_reducible refine' iteT ?_
  | with_reducible refine' iteF ?_
  | with_reducible refine' ite_nt ?_
  | with_reducible refine' ite_nf ?_
  | with_reducible refine' ite_in ?_
  | with_reducible refine' ite_rn ?_
  | with_reducible refine' ite_sn ?_
  | with_reducible refine' ite_bn ?_
  | with_reducible refine' ite_nn ?_
  | with_reducible refine' ite_xin ?_
  | with_reducible refine' ite_xrn ?_
  | with_reducible refine' ite_xnn ?_
  | with_reducible refine' rd_dget2 ?_
  | ((with_reducible refine' rd_isdX ?h ?_); (case h => first | ((refine' isD_T ?e); (case e => wtm_at "hp")) | ((refine' isD_K ?e); (case e => wtm_at "hp"))))
  | ((with_reducible refine' rd_dgX ?h ?_); (case h => wtm_at "dg"))
  | with_reducible refine' rd_sdput ?_
  | ((with_reducible refine' rd_dpX ?h ?_); (case h => wtm_at "dp"))
  | ((with_reducible refine' ty_l ?h ?_); (case h => wtm_at "sq"))
  | ((with_reducible refine' ty_d ?h ?_); (case h => wtm_at "hp"))
  | ((with_reducible refine' ty_dK ?h ?_); (case h => wtm_at "hp"))
  | ((with_reducible refine' rd_append ?h ?l ?_); (case h => wtm_at "hp"); (case l => wtm_at "sz"))
  | with_reducible refine' rd_lstRg ?_
  | with_reducible refine' rd_rg1 ?_
  | with_reducible refine' rd_rg2 ?_
  | with_reducible refine' rd_inX ?_
  | with_reducible refine' rd_inX2 ?_
  | ((with_reducible refine' rd_listL ?h ?_); (case h => wtm_at "sq"))
  | ((with_reducible refine' rd_gtup ?h ?l ?_); (case h => wtm_at "sq"); (case l => exact rfl))
  | with_reducible refine' rd_gcons ?_
  | with_reducible refine' rd_gnil ?_
  | with_reducible refine' rd_din ?_
  | with_reducible refine' rd_dnotin ?_
  | with_reducible refine' rd_dget ?_
  | with_reducible refine' rd_dget1 ?_
  | ((with_reducible refine' rd_dinX ?h ?_); (case h => wtm_at "dg"))
  | ((with_reducible refine' rd_dgetX ?h ?_); (case h => wtm_at "dgv"))
  | with_reducible refine' rd_pnil ?_
  | with_reducible refine' rd_pcons ?_
  | with_reducible refine' rd_sl ?_
  | with_reducible refine' rd_part ?_
  | with_reducible refine' rd_nopart ?_
  | ((with_reducible refine' rd_slL ?h ?_); (case h => wtm_at "sq"))
  | ((with_reducible refine' rd_clear ?h ?_); (case h => wtm_at "hp"))
  | ((with_reducible refine' rd_aug ?e ?_); (case e => exact rfl))
  | with_reducible refine' rd_ipI ?_
  | ((with_reducible refine' rd_inI ?h ?_); (case h => wtm_at "sq"))
  | ((with_reducible refine' rd_notInI ?h ?_); (case h => wtm_at "sq"))
  | ((with_reducible refine' rd_lenD ?h ?_); (case h => wtm_at "hp"))
  | with_reducible refine' rd_iEnum ?_
  | ((with_reducible refine' rd_iEnumX ?h ?_); (case h => wtm_at "sq"))
  | ((with_reducible refine' rd_eqLI ?h1 ?h2 ?_); (case h1 => wtm_at "sq"); (case h2 => wtm_at "sq"))
  | ((with_reducible refine' rd_neLI ?h1 ?h2 ?_); (case h1 => wtm_at "sq"); (case h2 => wtm_at "sq"))
  | fail "no rule")
local macro_rules | `(tactic| wtm_at "rd") => `(tactic| repeat wtm_at "rd1")
local macro_rules | `(tactic| wtm_at "hn") => `(tactic| first
  | with_reducible assumption
  | ((with_reducible refine' hn_ne ?n ?e); (case n => wtm_at "ne"); (case e => wtm_at "hn"))
  | ((refine' Kp.back ?k ?e ?n); (case k => with_reducible assumption); (case e => with_reducible assumption); (case n => first | with_reducible assumption | (simp; done) | fail "mem"))
  | fail "no rule")
local macro_rules | `(tactic| wtm_at "kp") => `(tactic| first
  | exact Kp.refl
  | with_reducible assumption
  | ((with_reducible refine' Kp.of0 ?k); (case k => with_reducible assumption))
  | ((with_reducible refine' Kp.wr ?a ?h); (case h => (simp; done)); (case a => wtm_at "kp"))
  | ((with_reducible refine' Kp.nw ?a ?h); (case h => wtm_at "hn"); (case a => wtm_at "kp"))
  | ((with_reducible refine' Kp.mine ?a ?h); (case h => wtm_at "hn"); (case a => wtm_at "kp"))
  | ((with_reducible refine' Kp.via1 ?a ?b ?n); (case b => with_reducible assumption); (case n => wtm_at "hn"); (case a => wtm_at "kp"))
  | ((with_reducible refine' Kp.trans ?a ?b); (case b => first | with_reducible assumption | ((with_reducible refine' Kp.of0 ?k); (case k => with_reducible assumption)) | fail "kp"); (case a => wtm_at "kp"))
  | fail "no rule")
local macro_rules | `(tactic| wtm_at "rd1") => `(tactic| first
  | with_reducible refine' rd_prop ?_
  | ((with_reducible refine' rd_propX ?h ?_); (case h => wtm_at "hp"))
  | with_reducible refine' rd_revL ?_
  | ((with_reducible refine' rd_revLX ?h ?_); (case h => wtm_at "sq"))
  | with_reducible refine' rd_makeK ?_
  | with_reducible refine' rd_sortKey ?_
  | with_reducible refine' rd_sfldaug ?_
  | ((with_reducible refine' rd_sfldaugX ?h ?c ?n ?l ?_); (case h => wtm_at "hp"); (case c => wtm_at "cls"); (case n => wtm_at "noat"); (case l => exact rfl))
  | ((with_reducible refine' rd_insX ?h ?l ?_); (case h => wtm_at "hp"); (case l => first | decide | exact Nat.le_of_ble_eq_true rfl | fail "len"))
  | with_reducible refine' rd_addI ?_
  | with_reducible refine' rd_subI ?_
  | with_reducible refine' rd_disp ?_
  | with_reducible refine' rd_dc ?_
  | ((with_reducible refine' rd_dictD ?h ?_); (case h => wtm_at "hp"))
  | with_reducible refine' rd_minKey ?_
  | fail "no rule")
local macro_rules | `(tactic| wtm_at "hp") => `(tactic| first
  | ((with_reducible refine' Kt.g0 ?k ?n ?e); (case k => with_reducible assumption); (case n => (intro _ z; cases z)); (case e => wtm_at "hp"))
  | ((with_reducible refine' Kt.g1 ?k ?n ?m ?e); (case k => with_reducible assumption); (case n => (intro _ z; cases z)); (case m => wtm_at "ne"); (case e => wtm_at "hp"))
  | fail "no rule")
local macro_rules | `(tactic| wtm_at "cc") => `(tactic| first
  | ((refine' wide60 ?a ?b); (case a => omega); (case b => omega))
  | fail "no rule")
local macro_rules | `(tactic| wtm_at "kt") => `(tactic| first
  | with_reducible assumption
  | ((with_reducible refine' Kt.of0 ?k); (case k => with_reducible assumption))
  | ((with_reducible refine' Kt.wr ?a ?h ?e ?w); (case h => (simp; done)); (case e => wtm_at "hp"); (case w => exact trivial); (case a => wtm_at "kt"))
  | ((with_reducible refine' Kt.nw ?a ?e); (case e => wtm_at "hn"); (case a => wtm_at "kt"))
  | fail "no rule")
local macro_rules | `(tactic| wtm_at "dgv") => `(tactic| first
  | ((refine' dg_sl ?a ?b); (case a => wtm_at "hp"); (case b => exact rfl))
  | fail "no rule")
local macro_rules | `(tactic| wtm_at "dg") => `(tactic| first
  | ((refine' dg_ii ?a ?b); (case a => wtm_at "hp"); (case b => wtm_at "hp"))
  | fail "no rule")
local macro_rules | `(tactic| wtm_at "dp") => `(tactic| first
  | ((refine' dp_ii ?a ?b ?c); (case a => wtm_at "hp"); (case b => wtm_at "hp"); (case c => wtm_at "sz"))
  | fail "no rule")
local macro_rules | `(tactic| wtm_at "errS") => `(tactic| fail "no rule")
local macro_rules | `(tactic| wtm_at "errN") => `(tactic| fail "no rule")
local macro_rules | `(tactic| wtm_at "rd1") => `(tactic| first
  | with_reducible refine' rd_raiseE ?_
  | with_reducible refine' rd_isNB ?_
  | with_reducible refine' rd_isB ?_
  | with_reducible refine' rd_raiseX ?_
  | with_reducible refine' rd_calS ?_
  | with_reducible refine' rd_metS ?_
  | with_reducible refine' rd_xe ?_
  | ((with_reducible refine' rd_xeX ?s ?n ?h ?l ?_); (case s => wtm_at "errS"); (case n => wtm_at "errN"); (case h => wtm_at "hp"); (case l => exact rfl))
  | ((with_reducible refine' rd_isXv ?s ?h ?_); (case s => wtm_at "errS"); (case h => wtm_at "hp"))
  | ((with_reducible refine' rd_isXt ?s ?m ?h ?e ?_); (case s => wtm_at "errS"); (case m => decide); (case h => wtm_at "hp"); (case e => decide))
  | ((with_reducible refine' rd_isXf ?s ?m ?h ?e ?_); (case s => wtm_at "errS"); (case m => decide); (case h => wtm_at "hp"); (case e => decide))
  | fail "no rule")
local macro_rules | `(tactic| wtm_at "kd") => `(tactic| fail "no rule")
local macro_rules | `(tactic| wtm_at "rd1") => `(tactic| first
  | ((with_reducible refine' rd_lenStr ?h ?_); (case h => first | assumption | ((refine' sz1000 ?h); (case h => first | omega | exact Nat.le_of_ble_eq_true rfl | fail "len")) | fail "len"))
  | with_reducible refine' rd_inSign ?_
  | with_reducible refine' rd_iStr ?_
  | with_reducible refine' rd_iStrX ?_
  | with_reducible refine' rd_chain ?_
  | with_reducible refine' rd_iRng3 ?_
  | with_reducible refine' rd_iSeq ?_
  | ((with_reducible refine' rd_iSeqL ?h ?_); (case h => wtm_at "sq"))
  | with_reducible refine' rd_m1 ?_
  | with_reducible refine' rd_m1X ?_
  | with_reducible refine' rd_int1b ?_
  | with_reducible refine' rd_dpop2 ?_
  | ((with_reducible refine' rd_dpopI ?h ?_); (case h => wtm_at "hp"))
  | ((with_reducible refine' rd_ixKD ?h ?_); (case h => wtm_at "kd"))
  | ((with_reducible refine' rd_inTS ?h ?_); (case h => wtm_at "sq"))
  | fail "no rule")

local macro_rules | `(tactic| wtm_at "sqx") => `(tactic| exact tup_MARKS (by assumption) _)
local macro_rules | `(tactic| wtm_at "kd") => `(tactic| exact step_kd (by assumption) (by assumption) (by assumption))
local macro_rules | `(tactic| wtm_at "con") => `(tactic| first | exact con_MOST_BITS (by assumption) | exact con_MOST_PATIENCE (by assumption) | exact con_MOST_ROOM (by assumption) | exact con_MOST_GRACE (by assumption) | exact con_MOST_HELPERS (by assumption))
local macro_rules | `(tactic| wtm_at "cls") => `(tactic| first | exact cl_Book (by assumption) | exact cl_Setting (by assumption) | exact cl_Side (by assumption))
local macro_rules | `(tactic| wtm_at "noat") => `(tactic| first | exact na_Book__setting (by assumption) | exact na_Book__rows (by assumption) | exact na_Setting_bits (by assumption) | exact na_Setting_patience (by assumption) | exact na_Setting_room (by assumption) | exact na_Setting_grace (by assumption) | exact na_Setting_helpers (by assumption) | exact na_Side__setting (by assumption) | exact na_Side__book (by assumption) | exact na_Side__taker (by assumption) | exact na_Side__queue (by assumption))
local macro_rules | `(tactic| wtm_at "errS") => `(tactic| first | exact (er_InvalidSetting (by assumption)).2 | exact (er_InvalidSaying (by assumption)).2)
local macro_rules | `(tactic| wtm_at "errN") => `(tactic| first | exact (er_InvalidSetting (by assumption)).1.noN | exact (er_InvalidSaying (by assumption)).1.noN)
section
variable {P : Program} {w : World} {K : PySem.W.Frag} {mg : Str → Option Value} {base : Heap}
def sp_l_whole (K : PySem.W.Frag) : Sp := fun vs H Q E => ∃ (v : Int), vs = [.int v] ∧ (Q (.bl true) H)
theorem us_l_whole {K : PySem.W.Frag} {H : Hp} {Q : VK} {E : XK} {v : Int}  (kk : Q (.bl true) H) : sp_l_whole K [.int v] H Q E := ⟨_, rfl, kk⟩
theorem f_l_whole (T : Cx K mg) (B : Tb P w K mg base) : ∃ fd, FunD K "_law_whole" "_law_whole" (defArgs s_l_whole) (defBody s_l_whole) (defScope s_l_whole) (d_l_whole.dvs K) (d_l_whole.kws K) (fAd K d_l_whole.at_) fd ∧ FnOk P w K mg base CX0 1 (fAd K d_l_whole.at_) fd p_l_whole (sp_l_whole K) := by
  obtain ⟨fd, F⟩ := T.says.def_ 0 (d := d_l_whole) rfl
  refine ⟨fd, F, fnD F sc_l_whole (fun vs H Q E h => by
    obtain ⟨_, rfl, _⟩ := h
    rfl) fun cdv A outer s H vs Q E hr h => ?_⟩
  have hu := hu_of hr
  obtain ⟨v, rfl, kk⟩ := h
  refine ⟨_, (pss_one (ps_ret (pe_and (pe_callB call_isi (by rfl) (fr_isinstance T) (by decide +kernel) (pa_cons (pv 0) (pa_cons (pe_bltn (v := .ty "int") (by rfl) (fr_int T) (by decide +kernel) rfl) pa_nil))) (pe_one (pe_not (pe_callB call_isi (by rfl) (fr_isinstance T) (by decide +kernel) (pa_cons (pv 0) (pa_cons (pe_bltn (v := .ty "bool") (by rfl) (fr_bool T) (by decide +kernel) rfl) pa_nil)))))))), ?_⟩
  rw [show L2.start n_l_whole [.int v] = [some (.int v)] from rfl]
  try dsimp only [cxOf, Cx.nox, Cx.wish, List.map]

  wtm_at "rd"
  exact kk
theorem c_l_whole (T : Cx K mg) (B : Tb P w K mg base) : CalX P w K mg base CX0 1 "_law_whole" (sp_l_whole K) [] := by
  obtain ⟨fd, F, ok⟩ := f_l_whole (P := P) (w := w) (base := base) T B
  exact ⟨_, fd, p_l_whole, [], ok, gl_l_whole T, F.kp, FunD.bindsN F fun _ _ _ _ _ _ us hl => match us, hl with | [_], _ => rfl, .nil⟩
end
section
variable {P : Program} {w : World} {K : PySem.W.Frag} {mg : Str → Option Value} {base : Heap}
def sp_l_box (K : PySem.W.Frag) : Sp := fun vs H Q E => ∃ (a : Addr) (ns : List Int), vs = [.ref a] ∧ (SqL K H a (ns.map V.int)) ∧ (ns.length ≤ 63) ∧ (∀ p c H1, Box H1 p c → Kp [] H H1 → H p = none → H c = none → Q (.ref p) H1)
theorem us_l_box {K : PySem.W.Frag} {H : Hp} {Q : VK} {E : XK} {a : Addr} {ns : List Int} (hS : SqL K H a (ns.map V.int)) (hl : ns.length ≤ 63) (kk : ∀ p c H1, Box H1 p c → Kp [] H H1 → H p = none → H c = none → Q (.ref p) H1) : sp_l_box K [.ref a] H Q E := ⟨_, _, rfl, hS, hl, kk⟩
theorem f_l_box (T : Cx K mg) (B : Tb P w K mg base) : ∃ fd, FunD K "_law_box" "_law_box" (defArgs s_l_box) (defBody s_l_box) (defScope s_l_box) (d_l_box.dvs K) (d_l_box.kws K) (fAd K d_l_box.at_) fd ∧ FnOk P w K mg base CX0 1 (fAd K d_l_box.at_) fd p_l_box (sp_l_box K) := by
  obtain ⟨fd, F⟩ := T.says.def_ 1 (d := d_l_box) rfl
  refine ⟨fd, F, fnD F sc_l_box (fun vs H Q E h => by
    obtain ⟨_, _, rfl, _⟩ := h
    rfl) fun cdv A outer s H vs Q E hr h => ?_⟩
  have hu := hu_of hr
  obtain ⟨a, ns, rfl, hS, hl, kk⟩ := h
  refine ⟨_, (pss_cons (ps_setLc (i := 1) (own := [("_law_cell", 3)]) (g := (gName 3)) (tt := tYes) rfl sc_l_box.nd rfl rfl (sw_true rfl rfl rfl (by decide +kernel)) (pi_list (pe_slice sl_list (pv 0) po_none (po_some pe_int))) (blkOk_by (own := [("_law_cell", 3)]) (N := n_l_box) (sc := defScope s_l_box) (by decide +kernel)) (fun _ _ _ _ _ => (pg_name (i := 3) sc_l_box.nd rfl (by first | exact Or.inl rfl | exact Or.inr rfl))) (fun _ _ _ _ _ => pts_nil) (fun _ _ _ _ _ => (pe_callTy call_int1' (by rfl) (fr_int T) (by decide +kernel) (pa_cons (pv 3) pa_nil)))) (pss_cons (ps_set (i := 2) sc_l_box.nd rfl (by first | exact Or.inl rfl | exact Or.inr rfl) pe_int) (pss_cons (ps_for PassesOwn.never rfl (pi_list (pv 1)) (pg_name (i := 3) sc_l_box.nd rfl (by first | exact Or.inl rfl | exact Or.inr rfl)) (pss_one (ps_set (i := 2) sc_l_box.nd rfl (by first | exact Or.inl rfl | exact Or.inr rfl) (pe_op op_mod (pe_callTy call_int1' (by rfl) (fr_int T) (by decide +kernel) (pa_cons (pe_op op_add (pe_op op_add (pe_op op_mul (pv 2) pe_int) (pe_op op_mul (pe_op op_mod (pe_callTy call_int1' (by rfl) (fr_int T) (by decide +kernel) (pa_cons (pv 3) pa_nil)) pe_int) pe_int)) pe_int) pa_nil)) pe_int)))) (pss_one (ps_ret (pe_lst (pa_cons (pv 1) (pa_cons pe_int (pa_cons pe_int (pa_cons (pv 2) (pa_cons pe_int pa_nil))))))))))), ?_⟩
  rw [show L2.start n_l_box [.ref a] = [some (.ref a), none, none, none] from rfl]
  try dsimp only [cxOf, Cx.nox, Cx.wish, List.map]

  wtm_at "rd"
  intro q nq
  have e : cutV (ns.map V.int) none (some 63) = (ns.take 63).map V.int := by
    rw [show (63 : Int) = ((63 : Nat) : Int) from rfl, cut_to, List.map_take]
  rw [e]
  have k0 : Kp [] H (upd H q (.lst ((ns.take 63).map V.int))) := Kp.new nq
  have hq : upd H q (.lst ((ns.take 63).map V.int)) q = some (.lst ((ns.take 63).map V.int)) := upd_same
  generalize upd H q (.lst ((ns.take 63).map V.int)) = H0 at k0 hq
  wtm_at "rd"
  intro D hD
  have hD0 : H D = none := k0.back hD (by simp)
  refine lcL_ints (ns.take 63) (fun i H' => H' D = some (.lst (((ns.take 63).take i).map V.int)) ∧ Kp [] H H' ∧ H' q = some (.lst ((ns.take 63).map V.int))) ⟨upd_same, k0.nw hD, hu_ne (ne_of_none hq hD) hq⟩ (fun i H' _ p => SqL.of p.2.2) (fun i hi H' p => ?_) (fun H' p => ?_)
  · obtain ⟨p1, p2, p3⟩ := p
    wtm_at "rd"
    refine ⟨rfl, ?_⟩
    wtm_at "rd"
    refine ⟨_, p1, szlt (by simp; omega), ?_, Kp.mine p2 hD0, hu_ne (ne_of_none hq hD) p3⟩
    rw [upd_same, take_map_succ hi]
  · obtain ⟨p1, p2, p3⟩ := p
    rw [List.take_length] at p1
    wtm_at "rd"
    refine forL_ints (K := K) (ns.take 63) (fun i σ H1 => (∃ (z : Int) (v : Option V), σ = [some (.ref a), some (.ref D), some (.int z), v]) ∧ H1 = H') ⟨⟨_, _, rfl⟩, rfl⟩ (fun i σ H1 _ q => by rw [q.2]; exact SqL.of p1) ?_ ?_
    · rintro i hi σ H1 ⟨⟨z, v, rfl⟩, rfl⟩
      wtm_at "rd"
      exact ⟨⟨_, _, rfl⟩, rfl⟩
    · rintro σ H1 ⟨⟨z, v, rfl⟩, rfl⟩
      wtm_at "rd"
      refine ⟨sz1000 (by simp), fun p np => ?_⟩
      exact kk p D _ ⟨⟨ns.take 63, 0, 0, z, 0, upd_same, hu_ne (ne_of_none p1 np) p1, by simp; omega, by omega⟩, ne_of_none p1 np⟩ (p2.nw np) (p2.back np (by simp)) hD0
theorem c_l_box (T : Cx K mg) (B : Tb P w K mg base) : CalX P w K mg base CX0 1 "_law_box" (sp_l_box K) [] := by
  obtain ⟨fd, F, ok⟩ := f_l_box (P := P) (w := w) (base := base) T B
  exact ⟨_, fd, p_l_box, [], ok, gl_l_box T, F.kp, FunD.bindsN F fun _ _ _ _ _ _ us hl => match us, hl with | [_], _ => rfl, .nil⟩
end
section
variable {P : Program} {w : World} {K : PySem.W.Frag} {mg : Str → Option Value} {base : Heap}
def sp_l_mixed (K : PySem.W.Frag) : Sp := fun vs H Q E => ∃ (a b : Int), vs = [.int a, .int b] ∧ (∀ n : Int, Q (.int n) H)
theorem us_l_mixed {K : PySem.W.Frag} {H : Hp} {Q : VK} {E : XK} {a b : Int}  (kk : ∀ n : Int, Q (.int n) H) : sp_l_mixed K [.int a, .int b] H Q E := ⟨_, _, rfl, kk⟩
theorem f_l_mixed (T : Cx K mg) (B : Tb P w K mg base) : ∃ fd, FunD K "_law_mixed" "_law_mixed" (defArgs s_l_mixed) (defBody s_l_mixed) (defScope s_l_mixed) (d_l_mixed.dvs K) (d_l_mixed.kws K) (fAd K d_l_mixed.at_) fd ∧ FnOk P w K mg base CX0 1 (fAd K d_l_mixed.at_) fd p_l_mixed (sp_l_mixed K) := by
  obtain ⟨fd, F⟩ := T.says.def_ 2 (d := d_l_mixed) rfl
  refine ⟨fd, F, fnD F sc_l_mixed (fun vs H Q E h => by
    obtain ⟨_, _, rfl, _⟩ := h
    rfl) fun cdv A outer s H vs Q E hr h => ?_⟩
  have hu := hu_of hr
  obtain ⟨a, b, rfl, kk⟩ := h
  refine ⟨_, (pss_cons (ps_set (i := 2) sc_l_mixed.nd rfl (by first | exact Or.inl rfl | exact Or.inr rfl) (pe_op op_mod (pe_callTy call_int1' (by rfl) (fr_int T) (by decide +kernel) (pa_cons (pe_op op_add (pe_op op_add (pe_op op_mul (pv 0) pe_int) (pe_op op_mul (pv 1) pe_int)) pe_int) pa_nil)) pe_int)) (pss_cons (ps_set (i := 3) sc_l_mixed.nd rfl (by first | exact Or.inl rfl | exact Or.inr rfl) (pe_op op_mod (pe_callTy call_int1' (by rfl) (fr_int T) (by decide +kernel) (pa_cons (pe_op op_add (pe_op op_add (pe_op op_mul (pv 2) (pv 2)) (pe_op op_mul (pv 1) pe_int)) (pv 0)) pa_nil)) pe_int)) (pss_one (ps_ret (pe_op op_fdiv (pe_op op_mod (pe_callTy call_int1' (by rfl) (fr_int T) (by decide +kernel) (pa_cons (pe_op op_add (pe_op op_add (pe_op op_mul (pv 3) pe_int) (pe_op op_mul (pv 2) pe_int)) (pv 1)) pa_nil)) pe_int) pe_int))))), ?_⟩
  rw [show L2.start n_l_mixed [.int a, .int b] = [some (.int a), some (.int b), none, none] from rfl]
  try dsimp only [cxOf, Cx.nox, Cx.wish, List.map]

  wtm_at "rd"
  exact kk _
theorem c_l_mixed (T : Cx K mg) (B : Tb P w K mg base) : CalX P w K mg base CX0 1 "_law_mixed" (sp_l_mixed K) [] := by
  obtain ⟨fd, F, ok⟩ := f_l_mixed (P := P) (w := w) (base := base) T B
  exact ⟨_, fd, p_l_mixed, [], ok, gl_l_mixed T, F.kp, FunD.bindsN F fun _ _ _ _ _ _ us hl => match us, hl with | [_, _], _ => rfl, .nil⟩
end
section
variable {P : Program} {w : World} {K : PySem.W.Frag} {mg : Str → Option Value} {base : Heap}
def sp_l_take (K : PySem.W.Frag) : Sp := fun vs H Q E => ∃ (p c : Addr) (top : Int), vs = [.ref p, .int top] ∧ (Box H p c) ∧ (0 < top) ∧ (top < 1073741824) ∧ (∀ n H1, 0 ≤ n → n < top → Box H1 p c → Kp [p] H H1 → Q (.int n) H1)
theorem us_l_take {K : PySem.W.Frag} {H : Hp} {Q : VK} {E : XK} {p c : Addr} {top : Int} (hB : Box H p c) (ht0 : 0 < top) (ht1 : top < 1073741824) (kk : ∀ n H1, 0 ≤ n → n < top → Box H1 p c → Kp [p] H H1 → Q (.int n) H1) : sp_l_take K [.ref p, .int top] H Q E := ⟨_, _, _, rfl, hB, ht0, ht1, kk⟩
theorem f_l_take (T : Cx K mg) (B : Tb P w K mg base) : ∃ fd, FunD K "_law_take" "_law_take" (defArgs s_l_take) (defBody s_l_take) (defScope s_l_take) (d_l_take.dvs K) (d_l_take.kws K) (fAd K d_l_take.at_) fd ∧ FnOk P w K mg base CX0 2 (fAd K d_l_take.at_) fd p_l_take (sp_l_take K) := by
  have c_l_mixed := c_l_mixed (P := P) (w := w) (base := base) T B
  obtain ⟨fd, F⟩ := T.says.def_ 3 (d := d_l_take) rfl
  refine ⟨fd, F, fnD F sc_l_take (fun vs H Q E h => by
    obtain ⟨_, _, _, rfl, _⟩ := h
    rfl) fun cdv A outer s H vs Q E hr h => ?_⟩
  have hu := hu_of hr
  obtain ⟨p, c, top, rfl, hB, ht0, ht1, kk⟩ := h
  refine ⟨_, (C8.pss_cut (ps_if (PW.pt (pw_and (pt_cmpR op_eq (pe_ix ix_list (pv 0) pe_int (fun _ _ => rfl)) pe_int (nomark _)) (pw_and1 (pt_cmpR op_lt (pe_ix ix_list (pv 0) pe_int (fun _ _ => rfl)) (pe_callB call_lenS (by rfl) (fr_len T) (by decide +kernel) (pa_cons (pe_ix ix_list (pv 0) pe_int (fun _ _ => rfl)) pa_nil)) (nomark _))))) (pss_cons (ps_set (i := 2) sc_l_take.nd rfl (by first | exact Or.inl rfl | exact Or.inr rfl) (pe_callB call_abs' (by rfl) (fr_abs T) (by decide +kernel) (pa_cons (pe_ix ix_list (pe_ix ix_list (pv 0) pe_int (fun _ _ => rfl)) (pe_ix ix_list (pv 0) pe_int (fun _ _ => rfl)) (fun _ _ => rfl)) pa_nil))) (pss_cons (ps_asg (pe_op op_add (pe_ix ix_list (pv 0) pe_int (fun _ _ => rfl)) pe_int) (pg_sub (pv 0) pe_int set_list)) (pss_one (ps_if (pt_cmpR op_ge (pv 2) (pe_op op_pow pe_int pe_int) (nomark _)) (pss_one (ps_asg (pv 2) (pg_sub (pv 0) pe_int set_list))) pss_nil)))) pss_nil) (pss_cons (ps_if (pt_cmpR op_gt (pe_ix ix_list (pv 0) pe_int (fun _ _ => rfl)) pe_int (nomark _)) (pss_cons (ps_set (i := 3) sc_l_take.nd rfl (by first | exact Or.inl rfl | exact Or.inr rfl) (pe_op op_mod (pe_callTy call_int1' (by rfl) (fr_int T) (by decide +kernel) (pa_cons (pe_ix ix_list (pv 0) pe_int (fun _ _ => rfl)) pa_nil)) (pv 1))) (pss_cons (ps_asg (pe_op op_fdiv (pe_ix ix_list (pv 0) pe_int (fun _ _ => rfl)) (pv 1)) (pg_sub (pv 0) pe_int set_list)) (pss_one (ps_ret (pv 3))))) pss_nil) (pss_cons (ps_asg (pe_op op_add (pe_ix ix_list (pv 0) pe_int (fun _ _ => rfl)) pe_int) (pg_sub (pv 0) pe_int set_list)) (pss_one (ps_ret (pe_op op_mod (pe_callTy call_int1' (by rfl) (fr_int T) (by decide +kernel) (pa_cons (pe_cal c_l_mixed hr (by decide) (by rfl) pass0 (pa_cons (pe_ix ix_list (pv 0) pe_int (fun _ _ => rfl)) (pa_cons (pe_ix ix_list (pv 0) pe_int (fun _ _ => rfl)) pa_nil))) pa_nil)) (pv 1))))))), ?_⟩
  rw [show L2.start n_l_take [.ref p, .int top] = [some (.ref p), some (.int top), none, none] from rfl]
  try dsimp only [cxOf, Cx.nox, Cx.wish, List.map]

  refine rd_cut (fun σ H1 => (∃ v2 v3, σ = [some (.ref p), some (.int top), v2, v3]) ∧ Box H1 p c ∧ Kp [p] H H1) ?_ ?_
  · obtain ⟨⟨ns, a, b, d, e, h1, h2, h3, h4⟩, ne⟩ := id hB
    wtm_at "rd"
    refine ite_d (fun hb => ?_) (fun hb => ?_)
    · wtm_at "rd"
      refine ite_d (fun ha => ?_) (fun ha => ?_)
      · wtm_at "rd"
        refine ite_d (fun hc => ?_) (fun hc => ?_)
        · wtm_at "rd"
          exact ⟨⟨_, _, rfl⟩, ⟨⟨ns, a + 1, _, d, e, upd_same, by wtm_at "hp", h3, by omega⟩, ne⟩, (Kp.refl.wr (by simp)).wr (by simp)⟩
        · wtm_at "rd"
          exact ⟨⟨_, _, rfl⟩, ⟨⟨ns, a + 1, b, d, e, upd_same, by wtm_at "hp", h3, by omega⟩, ne⟩, Kp.refl.wr (by simp)⟩
      · wtm_at "rd"
        exact ⟨⟨_, _, rfl⟩, hB, Kp.refl⟩
    · wtm_at "rd"
      exact ⟨⟨_, _, rfl⟩, hB, Kp.refl⟩
  · rintro σ H1 ⟨⟨v2, v3, rfl⟩, ⟨⟨ns, a, b, d, e, h1, h2, h3, h4⟩, ne⟩, k1⟩
    wtm_at "rd"
    refine ite_d (fun hb => ?_) (fun hb => ?_)
    · wtm_at "rd"
      exact kk _ _ (Int.emod_nonneg _ (by omega)) (Int.emod_lt_of_pos _ ht0) ⟨⟨ns, a, _, d, e, upd_same, by wtm_at "hp", h3, h4⟩, ne⟩ (k1.wr (by simp))
    · wtm_at "rd"
      refine us_l_mixed fun n => ?_
      wtm_at "rd"
      exact kk _ _ (Int.emod_nonneg _ (by omega)) (Int.emod_lt_of_pos _ ht0) ⟨⟨ns, a, b, d, _, upd_same, by wtm_at "hp", h3, h4⟩, ne⟩ (k1.wr (by simp))
theorem c_l_take (T : Cx K mg) (B : Tb P w K mg base) : CalX P w K mg base CX0 2 "_law_take" (sp_l_take K) [] := by
  obtain ⟨fd, F, ok⟩ := f_l_take (P := P) (w := w) (base := base) T B
  exact ⟨_, fd, p_l_take, [], ok, gl_l_take T, F.kp, FunD.bindsN F fun _ _ _ _ _ _ us hl => match us, hl with | [_, _], _ => rfl, .nil⟩
end
section
variable {P : Program} {w : World} {K : PySem.W.Frag} {mg : Str → Option Value} {base : Heap}
def sp_l_base (K : PySem.W.Frag) : Sp := fun vs H Q E => ∃ (p c : Addr), vs = [.ref p] ∧ (Box H p c) ∧ (∀ n H1, 3 ≤ n → n ≤ 1000000000000000000000000000000000000000000000000000000000 → Box H1 p c → Kp [p] H H1 → Q (.int n) H1)
theorem us_l_base {K : PySem.W.Frag} {H : Hp} {Q : VK} {E : XK} {p c : Addr} (hB : Box H p c) (kk : ∀ n H1, 3 ≤ n → n ≤ 1000000000000000000000000000000000000000000000000000000000 → Box H1 p c → Kp [p] H H1 → Q (.int n) H1) : sp_l_base K [.ref p] H Q E := ⟨_, _, rfl, hB, kk⟩
theorem f_l_base (T : Cx K mg) (B : Tb P w K mg base) : ∃ fd, FunD K "_law_base" "_law_base" (defArgs s_l_base) (defBody s_l_base) (defScope s_l_base) (d_l_base.dvs K) (d_l_base.kws K) (fAd K d_l_base.at_) fd ∧ FnOk P w K mg base CX0 3 (fAd K d_l_base.at_) fd p_l_base (sp_l_base K) := by
  have c_l_take := c_l_take (P := P) (w := w) (base := base) T B
  obtain ⟨fd, F⟩ := T.says.def_ 4 (d := d_l_base) rfl
  refine ⟨fd, F, fnD F sc_l_base (fun vs H Q E h => by
    obtain ⟨_, _, rfl, _⟩ := h
    rfl) fun cdv A outer s H vs Q E hr h => ?_⟩
  have hu := hu_of hr
  obtain ⟨p, c, rfl, hB, kk⟩ := h
  refine ⟨_, (pss_cons (ps_set (i := 1) sc_l_base.nd rfl (by first | exact Or.inl rfl | exact Or.inr rfl) (pe_cal c_l_take hr (by decide) (by rfl) pass0 (pa_cons (pv 0) (pa_cons pe_int pa_nil)))) (pss_cons (ps_if (pt_cmpR op_eq (pv 1) pe_int (nomark _)) (pss_one (ps_ret pe_int)) pss_nil) (pss_cons (ps_if (pt_cmpR op_lt (pv 1) pe_int (nomark _)) (pss_one (ps_ret (pe_op op_add pe_int (pe_cal c_l_take hr (by decide) (by rfl) pass0 (pa_cons (pv 0) (pa_cons pe_int pa_nil)))))) pss_nil) (pss_cons (ps_set (i := 2) sc_l_base.nd rfl (by first | exact Or.inl rfl | exact Or.inr rfl) pe_int) (pss_cons (ps_for PassesOwn.never rfl (pi_range1 (by rfl) (fr_range T) (pa_cons pe_int pa_nil)) (pg_name (i := 3) sc_l_base.nd rfl (by first | exact Or.inl rfl | exact Or.inr rfl)) (pss_one (ps_set (i := 2) sc_l_base.nd rfl (by first | exact Or.inl rfl | exact Or.inr rfl) (pe_op op_add (pe_op op_mul (pv 2) (pe_op op_pow pe_int pe_int)) (pe_cal c_l_take hr (by decide) (by rfl) pass0 (pa_cons (pv 0) (pa_cons (pe_op op_pow pe_int pe_int) pa_nil))))))) (pss_one (ps_ret (pe_op op_add (pv 2) pe_int)))))))), ?_⟩
  rw [show L2.start n_l_base [.ref p] = [some (.ref p), none, none, none] from rfl]
  try dsimp only [cxOf, Cx.nox, Cx.wish, List.map]

  wtm_at "rd"
  refine us_l_take hB (by decide) (by decide) fun pk H1 p0 p1 B1 k1 => ?_
  wtm_at "rd"
  refine ite_d (fun h => ?_) (fun h => ?_)
  · wtm_at "rd"
    exact kk _ _ (by decide) (by decide +kernel) B1 k1
  wtm_at "rd"
  refine ite_d (fun h => ?_) (fun h => ?_)
  · wtm_at "rd"
    refine us_l_take B1 (by decide) (by decide) fun n H2 n0 n1 B2 k2 => ?_
    wtm_at "rd"
    exact kk _ _ (by omega) (by omega) B2 (k1.trans k2)
  wtm_at "rd"
  refine forR_by (fun i σ H' => (∃ (m : Int) (v : Option V), σ = [some (.ref p), some (.int pk), some (.int m), v] ∧ 0 ≤ m ∧ m < (100000000 : Int) ^ i) ∧ Box H' p c ∧ Kp [p] H H') ⟨⟨0, _, rfl, by decide, by decide⟩, B1, k1⟩ ?_ ?_
  · rintro i σ H2 hi ⟨⟨m, v, rfl, m0, m1⟩, B2, k2⟩
    wtm_at "rd"
    refine rd_I (.inr ⟨by decide, by decide⟩) ?_
    wtm_at "rd"
    refine us_l_take (top := 100000000) B2 (by decide) (by decide) fun n H3 n0 n1 B3 k3 => ?_
    wtm_at "rd"
    refine ⟨⟨_, _, rfl, ?_, ?_⟩, B3, k2.trans k3⟩
    · show 0 ≤ m * 100000000 + n
      omega
    · show m * 100000000 + n < 100000000 ^ (i + 1)
      rw [Int.pow_succ]
      omega
  · rintro σ H2 ⟨⟨m, v, rfl, m0, m1⟩, B2, k2⟩
    have e : (100000000 : Int) ^ 7 = 100000000000000000000000000000000000000000000000000000000 := by decide +kernel
    have e2 : (7 : Int).toNat = 7 := rfl
    wtm_at "rd"
    exact kk _ _ (by omega) (by have m1 : m < (100000000 : Int) ^ 7 := m1; rw [e] at m1; omega) B2 k2
theorem c_l_base (T : Cx K mg) (B : Tb P w K mg base) : CalX P w K mg base CX0 3 "_law_base" (sp_l_base K) [] := by
  obtain ⟨fd, F, ok⟩ := f_l_base (P := P) (w := w) (base := base) T B
  exact ⟨_, fd, p_l_base, [], ok, gl_l_base T, F.kp, FunD.bindsN F fun _ _ _ _ _ _ us hl => match us, hl with | [_], _ => rfl, .nil⟩
end
section
variable {P : Program} {w : World} {K : PySem.W.Frag} {mg : Str → Option Value} {base : Heap}
def sp_l_level (K : PySem.W.Frag) : Sp := fun vs H Q E => ∃ (p c : Addr) (b : Int), vs = [.ref p, .int b] ∧ (Box H p c) ∧ (3 ≤ b) ∧ (∀ n H1, 0 ≤ n → n ≤ 4 * b + 4 → Box H1 p c → Kp [p] H H1 → Q (.int n) H1)
theorem us_l_level {K : PySem.W.Frag} {H : Hp} {Q : VK} {E : XK} {p c : Addr} {b : Int} (hB : Box H p c) (hb : 3 ≤ b) (kk : ∀ n H1, 0 ≤ n → n ≤ 4 * b + 4 → Box H1 p c → Kp [p] H H1 → Q (.int n) H1) : sp_l_level K [.ref p, .int b] H Q E := ⟨_, _, _, rfl, hB, hb, kk⟩
theorem f_l_level (T : Cx K mg) (B : Tb P w K mg base) : ∃ fd, FunD K "_law_level" "_law_level" (defArgs s_l_level) (defBody s_l_level) (defScope s_l_level) (d_l_level.dvs K) (d_l_level.kws K) (fAd K d_l_level.at_) fd ∧ FnOk P w K mg base CX0 3 (fAd K d_l_level.at_) fd p_l_level (sp_l_level K) := by
  have c_l_take := c_l_take (P := P) (w := w) (base := base) T B
  obtain ⟨fd, F⟩ := T.says.def_ 5 (d := d_l_level) rfl
  refine ⟨fd, F, fnD F sc_l_level (fun vs H Q E h => by
    obtain ⟨_, _, _, rfl, _⟩ := h
    rfl) fun cdv A outer s H vs Q E hr h => ?_⟩
  have hu := hu_of hr
  obtain ⟨p, c, b, rfl, hB, hb, kk⟩ := h
  refine ⟨_, (pss_cons (ps_set (i := 2) sc_l_level.nd rfl (by first | exact Or.inl rfl | exact Or.inr rfl) (pe_cal c_l_take hr (by decide) (by rfl) pass0 (pa_cons (pv 0) (pa_cons pe_int pa_nil)))) (pss_cons (ps_if (pt_cmpR op_lt (pv 2) pe_int (nomark _)) (pss_one (ps_ret pe_int)) pss_nil) (pss_cons (ps_if (pt_cmpR op_lt (pv 2) pe_int (nomark _)) (pss_one (ps_ret (pe_op op_sub (pv 2) pe_int))) pss_nil) (pss_one (ps_ret (pe_op op_sub (pe_op op_add (pe_op op_mul pe_int (pv 1)) (pv 2)) pe_int)))))), ?_⟩
  rw [show L2.start n_l_level [.ref p, .int b] = [some (.ref p), some (.int b), none] from rfl]
  try dsimp only [cxOf, Cx.nox, Cx.wish, List.map]

  wtm_at "rd"
  refine us_l_take hB (by decide) (by decide) fun pk H1 p0 p1 B1 k1 => ?_
  wtm_at "rd"
  refine ite_d (fun h => ?_) (fun h => ?_)
  · wtm_at "rd"
    exact kk _ _ (by omega) (by omega) B1 k1
  wtm_at "rd"
  refine ite_d (fun h => ?_) (fun h => ?_)
  · wtm_at "rd"
    exact kk _ _ (by omega) (by omega) B1 k1
  wtm_at "rd"
  exact kk _ _ (by omega) (by omega) B1 k1
theorem c_l_level (T : Cx K mg) (B : Tb P w K mg base) : CalX P w K mg base CX0 3 "_law_level" (sp_l_level K) [] := by
  obtain ⟨fd, F, ok⟩ := f_l_level (P := P) (w := w) (base := base) T B
  exact ⟨_, fd, p_l_level, [], ok, gl_l_level T, F.kp, FunD.bindsN F fun _ _ _ _ _ _ us hl => match us, hl with | [_, _], _ => rfl, .nil⟩
end
section
variable {P : Program} {w : World} {K : PySem.W.Frag} {mg : Str → Option Value} {base : Heap}
def sp_l_worth (K : PySem.W.Frag) : Sp := fun vs H Q E => ∃ (s a z : Int), vs = [.int s, .int a, .int z] ∧ (∀ H1, Kp [] H H1 → Q (.str (wF s a z)) H1)
theorem us_l_worth {K : PySem.W.Frag} {H : Hp} {Q : VK} {E : XK} {s a z : Int}  (kk : ∀ H1, Kp [] H H1 → Q (.str (wF s a z)) H1) : sp_l_worth K [.int s, .int a, .int z] H Q E := ⟨_, _, _, rfl, kk⟩
theorem f_l_worth (T : Cx K mg) (B : Tb P w K mg base) : ∃ fd, FunD K "_law_worth" "_law_worth" (defArgs s_l_worth) (defBody s_l_worth) (defScope s_l_worth) (d_l_worth.dvs K) (d_l_worth.kws K) (fAd K d_l_worth.at_) fd ∧ FnOk P w K mg base CX0 1 (fAd K d_l_worth.at_) fd p_l_worth (sp_l_worth K) := by
  obtain ⟨fd, F⟩ := T.says.def_ 6 (d := d_l_worth) rfl
  refine ⟨fd, F, fnD F sc_l_worth (fun vs H Q E h => by
    obtain ⟨_, _, _, rfl, _⟩ := h
    rfl) fun cdv A outer s H vs Q E hr h => ?_⟩
  have hu := hu_of hr
  obtain ⟨s, a, z, rfl, kk⟩ := h
  refine ⟨_, (pss_cons (ps_set (i := 3) sc_l_worth.nd rfl (by first | exact Or.inl rfl | exact Or.inr rfl) pe_str) (pss_cons (ps_set (i := 4) sc_l_worth.nd rfl (by first | exact Or.inl rfl | exact Or.inr rfl) (pe_op op_mod (pe_callTy call_int1' (by rfl) (fr_int T) (by decide +kernel) (pa_cons (pe_op op_add (pe_op op_add (pe_op op_mul (pv 0) pe_int) (pe_op op_mul (pe_op op_mod (pe_callTy call_int1' (by rfl) (fr_int T) (by decide +kernel) (pa_cons (pv 1) pa_nil)) pe_int) pe_int)) (pv 2)) pa_nil)) pe_int)) (pss_one (ps_ret (pe_join' pe_str (pe_lc (own := [("_law_k", 5)]) (g := (gName 5)) (tt := tYes) rfl sc_l_worth.nd (pi_range1 (by rfl) (fr_range T) (pa_cons (pe_op op_mod (pe_callTy call_int1' (by rfl) (fr_int T) (by decide +kernel) (pa_cons (pv 4) pa_nil)) pe_int) pa_nil)) (blkOk_by (own := [("_law_k", 5)]) (N := n_l_worth) (sc := defScope s_l_worth) (by decide +kernel)) (fun _ _ _ _ _ => (pg_name (i := 5) sc_l_worth.nd rfl (by first | exact Or.inl rfl | exact Or.inr rfl))) (fun _ _ _ _ _ => pts_nil) (fun _ _ _ _ _ => (pe_ix ix_str (pv 3) (pe_op op_mod (pe_callTy call_int1' (by rfl) (fr_int T) (by decide +kernel) (pa_cons (pe_op op_add (pe_op op_mul (pv 4) (pe_op op_add (pv 5) pe_int)) (pe_op op_mul (pv 5) (pv 5))) pa_nil)) pe_int) (fun _ _ => rfl))))))))), ?_⟩
  rw [show L2.start n_l_worth [.int s, .int a, .int z] = [some (.int s), some (.int a), some (.int z), none, none, none] from rfl]
  try dsimp only [cxOf, Cx.nox, Cx.wish, List.map]

  have e0 : (s * 7 + a % 10007 * 5 + z) % 1009 = wStart s a z := rfl
  have b0 := Int.emod_nonneg (s * 7 + a % 10007 * 5 + z) (show (1009 : Int) ≠ 0 by decide)
  have b1 := Int.emod_lt_of_pos (s * 7 + a % 10007 * 5 + z) (show (0 : Int) < 1009 by decide)
  wtm_at "rd"
  rw [e0] at b0 b1 ⊢
  have c0 := Int.emod_nonneg (wStart s a z) (show (13 : Int) ≠ 0 by decide)
  have c1 := Int.emod_lt_of_pos (wStart s a z) (show (0 : Int) < 13 by decide)
  wtm_at "rd"
  intro D nD
  refine lcF_range (fun _ => true) (fun (k : Nat) => V.str ⟨#[lets.getD ((wStart s a z * ((k : Int) + 3) + (k : Int) * (k : Int)) % 36).toNat 0]⟩) nD (by omega) (fun i h H1 E N k1 hE hN => ?_) (fun H1 k1 hD1 => ?_)
  · wtm_at "rd"
    refine ⟨rfl, ?_⟩
    wtm_at "rd"
    rw [Int.zero_add]
    refine rd_ixS (sz1000 (show SIGNS.length ≤ 1000000 by decide +kernel)) (lets_at (Int.emod_nonneg _ (by decide)) (Int.emod_lt_of_pos _ (by decide))) ?_
    exact hE _ Kp.refl rfl
  · wtm_at "rd"
    have en : (wStart s a z % 13).toNat ≤ 12 := by omega
    refine rd_join (ys := ((List.range (wStart s a z % 13).toNat).map fun (k : Nat) => lets.getD ((wStart s a z * ((k : Int) + 3) + (k : Int) * (k : Int)) % 36).toNat 0).map fun c => (⟨#[c]⟩ : Str)) ?_ ?_ ?_
    · rw [hD1, List.filter_eq_self.mpr (fun _ _ => rfl)]
      simp only [List.map_map]
      rfl
    · rw [show (("" : Str)).length = 0 from rfl, Nat.mul_zero, Nat.add_zero]
      simp only [List.map_map]
      rw [show (fun x : Str => x.length) ∘ (fun c => (⟨#[c]⟩ : Str)) ∘ (fun (k : Nat) => lets.getD ((wStart s a z * ((k : Int) + 3) + (k : Int) * (k : Int)) % 36).toNat 0) = fun _ => 1 from rfl, List.map_const', List.sum_replicate_nat, List.length_range]
      omega
    · rw [show ("" : Str) = (⟨#[]⟩ : Str) from rfl, join1]
      exact kk _ k1
theorem c_l_worth (T : Cx K mg) (B : Tb P w K mg base) : CalX P w K mg base CX0 1 "_law_worth" (sp_l_worth K) [] := by
  obtain ⟨fd, F, ok⟩ := f_l_worth (P := P) (w := w) (base := base) T B
  exact ⟨_, fd, p_l_worth, [], ok, gl_l_worth T, F.kp, FunD.bindsN F fun _ _ _ _ _ _ us hl => match us, hl with | [_, _, _], _ => rfl, .nil⟩
end
section
variable {P : Program} {w : World} {K : PySem.W.Frag} {mg : Str → Option Value} {base : Heap}
def sp_l_saying (K : PySem.W.Frag) : Sp := fun vs H Q E => ∃ (k L z : Int), vs = [.int k, .int L, .int z] ∧ (∀ t H1, SyAt H1 t (syL z k L) → Kp [] H H1 → Q (.ref t) H1)
theorem us_l_saying {K : PySem.W.Frag} {H : Hp} {Q : VK} {E : XK} {k L z : Int}  (kk : ∀ t H1, SyAt H1 t (syL z k L) → Kp [] H H1 → Q (.ref t) H1) : sp_l_saying K [.int k, .int L, .int z] H Q E := ⟨_, _, _, rfl, kk⟩
theorem f_l_saying (T : Cx K mg) (B : Tb P w K mg base) : ∃ fd, FunD K "_law_saying" "_law_saying" (defArgs s_l_saying) (defBody s_l_saying) (defScope s_l_saying) (d_l_saying.dvs K) (d_l_saying.kws K) (fAd K d_l_saying.at_) fd ∧ FnOk P w K mg base CX0 2 (fAd K d_l_saying.at_) fd p_l_saying (sp_l_saying K) := by
  have c_l_worth := c_l_worth (P := P) (w := w) (base := base) T B
  obtain ⟨fd, F⟩ := T.says.def_ 7 (d := d_l_saying) rfl
  refine ⟨fd, F, fnD F sc_l_saying (fun vs H Q E h => by
    obtain ⟨_, _, _, rfl, _⟩ := h
    rfl) fun cdv A outer s H vs Q E hr h => ?_⟩
  have hu := hu_of hr
  obtain ⟨k, L, z, rfl, kk⟩ := h
  refine ⟨_, (pss_cons (ps_set (i := 3) sc_l_saying.nd rfl (by first | exact Or.inl rfl | exact Or.inr rfl) (pe_op op_fdiv (pe_op op_sub (pv 1) pe_int) pe_int)) (pss_cons (ps_set (i := 4) sc_l_saying.nd rfl (by first | exact Or.inl rfl | exact Or.inr rfl) (pe_ix ix_tup (pe_tup (pa_cons pe_str (pa_cons pe_str (pa_cons pe_str (pa_cons pe_str pa_nil))))) (pe_op op_mod (pe_callTy call_int1' (by rfl) (fr_int T) (by decide +kernel) (pa_cons (pe_op op_sub (pv 1) pe_int) pa_nil)) pe_int) (fun _ _ => rfl))) (pss_one (ps_ret (pe_tup (pa_cons (pv 0) (pa_cons (pv 3) (pa_cons (pv 4) (pa_cons (pe_cal c_l_worth hr (by decide) (by rfl) pass0 (pa_cons (pv 0) (pa_cons (pv 3) (pa_cons (pv 2) pa_nil)))) pa_nil))))))))), ?_⟩
  rw [show L2.start n_l_saying [.int k, .int L, .int z] = [some (.int k), some (.int L), some (.int z), none, none] from rfl]
  try dsimp only [cxOf, Cx.nox, Cx.wish, List.map]

  wtm_at "rd"
  refine ⟨sz1000 (by simp), fun u nu => ?_⟩
  obtain ⟨ea, em, es⟩ := mkI_at (Int.emod_nonneg (L - 1) (show (4 : Int) ≠ 0 by decide)) (Int.emod_lt_of_pos (L - 1) (show (0 : Int) < 4 by decide))
  wtm_at "rd"
  refine us_l_worth fun H1 k1 => ?_
  wtm_at "rd"
  refine ⟨sz1000 (by simp), fun t nt => ?_⟩
  exact kk t _ upd_same (((Kp.new nu).trans k1).nw nt)
theorem c_l_saying (T : Cx K mg) (B : Tb P w K mg base) : CalX P w K mg base CX0 2 "_law_saying" (sp_l_saying K) [] := by
  obtain ⟨fd, F, ok⟩ := f_l_saying (P := P) (w := w) (base := base) T B
  exact ⟨_, fd, p_l_saying, [], ok, gl_l_saying T, F.kp, FunD.bindsN F fun _ _ _ _ _ _ us hl => match us, hl with | [_, _, _], _ => rfl, .nil⟩
end
section
variable {P : Program} {w : World} {K : PySem.W.Frag} {mg : Str → Option Value} {base : Heap}
def sp_l_rows (K : PySem.W.Frag) : Sp := fun vs H Q E => ∃ (l : Addr) (Ls : List Int) (z : Int), vs = [.ref l, .int z] ∧ (H l = some (.lst (Ls.map V.int))) ∧ (Ls.length ≤ 256) ∧ (∀ r ps H1, SyL H1 r ps → ps.map (·.2) = rowsF z (lv Ls) Ls.length → Kp [] H H1 → H r = none → Q (.ref r) H1)
theorem us_l_rows {K : PySem.W.Frag} {H : Hp} {Q : VK} {E : XK} {l : Addr} {Ls : List Int} {z : Int} (hl : H l = some (.lst (Ls.map V.int))) (hn : Ls.length ≤ 256) (kk : ∀ r ps H1, SyL H1 r ps → ps.map (·.2) = rowsF z (lv Ls) Ls.length → Kp [] H H1 → H r = none → Q (.ref r) H1) : sp_l_rows K [.ref l, .int z] H Q E := ⟨_, _, _, rfl, hl, hn, kk⟩
theorem f_l_rows (T : Cx K mg) (B : Tb P w K mg base) : ∃ fd, FunD K "_law_rows" "_law_rows" (defArgs s_l_rows) (defBody s_l_rows) (defScope s_l_rows) (d_l_rows.dvs K) (d_l_rows.kws K) (fAd K d_l_rows.at_) fd ∧ FnOk P w K mg base CX0 3 (fAd K d_l_rows.at_) fd p_l_rows (sp_l_rows K) := by
  have c_l_saying := c_l_saying (P := P) (w := w) (base := base) T B
  obtain ⟨fd, F⟩ := T.says.def_ 8 (d := d_l_rows) rfl
  refine ⟨fd, F, fnD F sc_l_rows (fun vs H Q E h => by
    obtain ⟨_, _, _, rfl, _⟩ := h
    rfl) fun cdv A outer s H vs Q E hr h => ?_⟩
  have hu := hu_of hr
  obtain ⟨l, Ls, z, rfl, hl, hn, kk⟩ := h
  refine ⟨_, (pss_one (ps_ret (pe_lc (own := [("_law_seat", 2)]) (g := (gName 2)) rfl sc_l_rows.nd (pi_range1 (by rfl) (fr_range T) (pa_cons (pe_callB call_lenS (by rfl) (fr_len T) (by decide +kernel) (pa_cons (pv 0) pa_nil)) pa_nil)) (blkOk_by (own := [("_law_seat", 2)]) (N := n_l_rows) (sc := defScope s_l_rows) (by decide +kernel)) (fun _ _ _ _ _ => (pg_name (i := 2) sc_l_rows.nd rfl (by first | exact Or.inl rfl | exact Or.inr rfl))) (fun _ _ _ _ _ => (pts_one (pt_cmpR op_gt (pe_ix (ix_listK (K := K) rfl) (pv 0) (pv 2) (fun _ _ => rfl)) pe_int (nomark _)))) (fun _ _ _ _ _ => (pe_cal c_l_saying hr (by decide) (by rfl) pass0 (pa_cons (pv 2) (pa_cons (pe_ix (ix_listK (K := K) rfl) (pv 0) (pv 2) (fun _ _ => rfl)) (pa_cons (pv 1) pa_nil)))))))), ?_⟩
  rw [show L2.start n_l_rows [.ref l, .int z] = [some (.ref l), some (.int z), none] from rfl]
  try dsimp only [cxOf, Cx.nox, Cx.wish, List.map]

  wtm_at "rd"
  intro D nD
  refine lcR_by (fun i H1 => (∃ ps, SyL H1 D ps ∧ ps.map (·.2) = rowsF z (lv Ls) i) ∧ Kp [] H H1) ⟨⟨[], ⟨upd_same, fun p hp => by cases hp⟩, rfl⟩, Kp.new nD⟩ (fun i H1 hi q => ?_) (fun H1 q => ?_)
  · obtain ⟨⟨ps, q1, q2⟩, k1⟩ := q
    have hi2 : i < Ls.length := by simpa using hi
    have hl1 := k1.g0 hl
    have ea : atI (Ls.map V.int) (0 + (i : Int)) = some (.int (lv Ls i)) := by
      rw [Int.zero_add]
      refine atI_nat ?_
      unfold lv
      rw [List.getElem?_map, List.getElem?_eq_getElem hi2, List.getD_eq_getElem?_getD, List.getElem?_eq_getElem hi2]
      rfl
    have len : (ps.map fun p => V.ref p.1).length < sizeLine := szlt (by
      rw [List.length_map]
      have h1 := congrArg List.length q2
      rw [List.length_map] at h1
      have h2 := rowsF_len z (lv Ls) i
      omega)
    wtm_at "rd"
    refine ⟨rfl, ?_⟩
    wtm_at "rd"
    refine ite_d (fun hp => ?_) (fun hp => ?_)
    · wtm_at "rd"
      refine us_l_saying fun t H2 ht k2 => ?_
      have q3 := q1.k0 k2
      refine ⟨_, q3.at_, len, ⟨ps ++ [(t, syL z (0 + (i : Int)) (lv Ls i))], q3.snoc ht, ?_⟩, (k1.trans k2).mine nD⟩
      rw [rowsF_succ, List.map_append, q2]
      unfold yo
      rw [if_pos hp, Int.zero_add]
      rfl
    · refine ⟨⟨ps, q1, ?_⟩, k1⟩
      rw [rowsF_succ, q2]
      unfold yo
      rw [if_neg hp]
      simp
  · obtain ⟨⟨ps, q1, q2⟩, k1⟩ := q
    have e : (Ls.map V.int).length = Ls.length := List.length_map _
    simp only [Int.toNat_natCast, List.length_map] at q2
    exact kk D ps H1 q1 q2 k1 nD
theorem c_l_rows (T : Cx K mg) (B : Tb P w K mg base) : CalX P w K mg base CX0 3 "_law_rows" (sp_l_rows K) [] := by
  obtain ⟨fd, F, ok⟩ := f_l_rows (P := P) (w := w) (base := base) T B
  exact ⟨_, fd, p_l_rows, [], ok, gl_l_rows T, F.kp, FunD.bindsN F fun _ _ _ _ _ _ us hl => match us, hl with | [_, _], _ => rfl, .nil⟩
end
section
variable {P : Program} {w : World} {K : PySem.W.Frag} {mg : Str → Option Value} {base : Heap}
def sp_whole (K : PySem.W.Frag) : Sp := fun vs H Q E => ∃ (v lo hi : Int), vs = [.int v, .int lo, .int hi] ∧ (Q (.bl (decide (lo ≤ v) && decide (v ≤ hi))) H)
theorem us_whole {K : PySem.W.Frag} {H : Hp} {Q : VK} {E : XK} {v lo hi : Int}  (kk : Q (.bl (decide (lo ≤ v) && decide (v ≤ hi))) H) : sp_whole K [.int v, .int lo, .int hi] H Q E := ⟨_, _, _, rfl, kk⟩
theorem f_whole (T : Cx K mg) (B : Tb P w K mg base) : ∃ fd, FunD K "whole" "whole" (defArgs s_whole) (defBody s_whole) (defScope s_whole) (d_whole.dvs K) (d_whole.kws K) (fAd K d_whole.at_) fd ∧ FnOk P w K mg base CX0 1 (fAd K d_whole.at_) fd p_whole (sp_whole K) := by
  obtain ⟨fd, F⟩ := T.says.def_ 9 (d := d_whole) rfl
  refine ⟨fd, F, fnD F sc_whole (fun vs H Q E h => by
    obtain ⟨_, _, _, rfl, _⟩ := h
    rfl) fun cdv A outer s H vs Q E hr h => ?_⟩
  have hu := hu_of hr
  obtain ⟨v, lo, hi, rfl, kk⟩ := h
  refine ⟨_, (pss_cons (ps_if (PW.pt (pw_or (pt_not (pt_val (pe_callB call_isi (by rfl) (fr_isinstance T) (by decide +kernel) (pa_cons (pv 0) (pa_cons (pe_bltn (v := .ty "int") (by rfl) (fr_int T) (by decide +kernel) rfl) pa_nil))))) (pw_or1 (pt_val (pe_callB call_isi (by rfl) (fr_isinstance T) (by decide +kernel) (pa_cons (pv 0) (pa_cons (pe_bltn (v := .ty "bool") (by rfl) (fr_bool T) (by decide +kernel) rfl) pa_nil))))))) (pss_one (ps_ret pe_bl)) pss_nil) (pss_one (ps_ret (pe_and (pe_cmpR op_le (pv 1) (pv 0) (nomark _)) (pe_one (pe_or (pe_cmp (pc_isN (pv 2))) (pe_one (pe_cmpR op_le (pv 0) (pv 2) (nomark _))))))))), ?_⟩
  rw [show L2.start n_whole [.int v, .int lo, .int hi] = [some (.int v), some (.int lo), some (.int hi)] from rfl]
  try dsimp only [cxOf, Cx.nox, Cx.wish, List.map]

  wtm_at "rd"
  refine ite_d (fun h => ?_) (fun h => ?_)
  · wtm_at "rd"
    rw [decide_eq_true h, Bool.true_and] at kk
    exact kk
  · rw [decide_eq_false h, Bool.false_and] at kk
    exact kk
theorem c_whole (T : Cx K mg) (B : Tb P w K mg base) : CalX P w K mg base CX0 1 "whole" (sp_whole K) [] := by
  obtain ⟨fd, F, ok⟩ := f_whole (P := P) (w := w) (base := base) T B
  exact ⟨_, fd, p_whole, [], ok, gl_whole T, F.kp, FunD.bindsN F fun _ _ _ _ _ _ us hl => match us, hl with | [_, _, _], _ => rfl, .nil⟩
end
section
variable {P : Program} {w : World} {K : PySem.W.Frag} {mg : Str → Option Value} {base : Heap}
def sp_Setting_init (K : PySem.W.Frag) : Sp := fun vs H Q E => ∃ (p dx : Addr) (s : Stg), vs = [.ref p, .int s.bits, .int s.pat, .int s.room, .int s.grace, .int s.hel] ∧ (H p = some (.ins (ga K "Setting") dx [])) ∧ (s.Ok) ∧ (∀ H1, SetAt K H1 p s → Kp [p] H H1 → Q .non H1)
theorem us_Setting_init {K : PySem.W.Frag} {H : Hp} {Q : VK} {E : XK} {p dx : Addr} {s : Stg} (hp : H p = some (.ins (ga K "Setting") dx [])) (ok : s.Ok) (kk : ∀ H1, SetAt K H1 p s → Kp [p] H H1 → Q .non H1) : sp_Setting_init K [.ref p, .int s.bits, .int s.pat, .int s.room, .int s.grace, .int s.hel] H Q E := ⟨_, _, _, rfl, hp, ok, kk⟩
theorem f_Setting_init (T : Cx K mg) (B : Tb P w K mg base) : ∃ fd, FunD K "__init__" "Setting.__init__" (defArgs s_Setting_init) (defBody s_Setting_init) (defScope s_Setting_init) (d_Setting_init.dvs K) (d_Setting_init.kws K) (fAd K d_Setting_init.at_) fd ∧ FnOk P w K mg base CX0 2 (fAd K d_Setting_init.at_) fd p_Setting_init (sp_Setting_init K) := by
  have c_whole := c_whole (P := P) (w := w) (base := base) T B
  obtain ⟨fd, F⟩ := T.says.def_ 10 (d := d_Setting_init) rfl
  refine ⟨fd, F, fnD F sc_Setting_init (fun vs H Q E h => by
    obtain ⟨_, _, _, rfl, _⟩ := h
    rfl) fun cdv A outer s H vs Q E hr h => ?_⟩
  have hu := hu_of hr
  obtain ⟨p, dx, s, rfl, hp, ok, kk⟩ := h
  refine ⟨_, (pss_cons (ps_if (pt_not (pt_val (pe_cal c_whole hr (by decide) (by rfl) pass0 (pa_cons (pv 1) (pa_cons pe_int (pa_cons (pe_con (pv 0) rfl) pa_nil)))))) (pss_one ps_never) pss_nil) (pss_cons (ps_if (pt_not (pt_val (pe_cal c_whole hr (by decide) (by rfl) pass0 (pa_cons (pv 2) (pa_cons pe_int (pa_cons (pe_con (pv 0) rfl) pa_nil)))))) (pss_one ps_never) pss_nil) (pss_cons (ps_if (pt_not (pt_val (pe_cal c_whole hr (by decide) (by rfl) pass0 (pa_cons (pv 3) (pa_cons pe_int (pa_cons (pe_con (pv 0) rfl) pa_nil)))))) (pss_one ps_never) pss_nil) (pss_cons (ps_if (pt_not (pt_val (pe_cal c_whole hr (by decide) (by rfl) pass0 (pa_cons (pv 4) (pa_cons pe_int (pa_cons (pe_con (pv 0) rfl) pa_nil)))))) (pss_one ps_never) pss_nil) (pss_cons (ps_if (pt_not (pt_val (pe_cal c_whole hr (by decide) (by rfl) pass0 (pa_cons (pv 5) (pa_cons pe_int (pa_cons (pe_con (pv 0) rfl) pa_nil)))))) (pss_one ps_never) pss_nil) (pss_cons (ps_fld (pv 0) (pv 1) rfl) (pss_cons (ps_fld (pv 0) (pv 2) rfl) (pss_cons (ps_fld (pv 0) (pv 3) rfl) (pss_cons (ps_fld (pv 0) (pv 4) rfl) (pss_one (ps_fld (pv 0) (pv 5) rfl))))))))))), ?_⟩
  rw [show L2.start n_Setting_init [.ref p, .int s.bits, .int s.pat, .int s.room, .int s.grace, .int s.hel] = [some (.ref p), some (.int s.bits), some (.int s.pat), some (.int s.room), some (.int s.grace), some (.int s.hel)] from rfl]
  try dsimp only [cxOf, Cx.nox, Cx.wish, List.map]

  obtain ⟨b0, b1, p0, p1, r0, r1, g0, g1, h0, h1⟩ := id ok
  wtm_at "rd"
  refine us_whole ?_
  wtm_at "rd"
  refine ite_f (by simp; omega) ?_
  wtm_at "rd"
  refine us_whole ?_
  wtm_at "rd"
  refine ite_f (by simp; omega) ?_
  wtm_at "rd"
  refine us_whole ?_
  wtm_at "rd"
  refine ite_f (by simp; omega) ?_
  wtm_at "rd"
  refine us_whole ?_
  wtm_at "rd"
  refine ite_f (by simp; omega) ?_
  wtm_at "rd"
  refine us_whole ?_
  wtm_at "rd"
  refine ite_f (by simp; omega) ?_
  wtm_at "rd"
  exact kk _ ⟨⟨dx, upd_same⟩, ok⟩ (by wtm_at "kp")
theorem c_Setting_init (T : Cx K mg) (B : Tb P w K mg base) : MakX P w K mg base CX0 2 "Setting" (ga K "Setting") (sp_Setting_init K) [.int 6, .int 1] := by
  obtain ⟨fd, F, ok⟩ := f_Setting_init (P := P) (w := w) (base := base) T B
  obtain ⟨ds, hv, hb⟩ := FunD.binds0 (ps := p_Setting_init) F 4 (fun e => by cases e) rfl fun _ _ _ _ _ _ us ks hu hk => match us, ks, hu, hk with | [_, _, _, _], [_, _], _, _ => ⟨_, _, _, _, _, _, rfl, rfl, ⟨_, _, _, _, _, _, rfl, rfl, rfl⟩⟩
  exact ⟨_, fd, p_Setting_init, ds, mk_Setting T, ok, gl_Setting T, hb, hv⟩
end
section
variable {P : Program} {w : World} {K : PySem.W.Frag} {mg : Str → Option Value} {base : Heap}
def sp_Setting_seats (K : PySem.W.Frag) : Sp := fun vs H Q E => ∃ (p : Addr) (s : Stg), vs = [.ref p] ∧ (SetAt K H p s) ∧ (Q (.int s.ring) H)
theorem us_Setting_seats {K : PySem.W.Frag} {H : Hp} {Q : VK} {E : XK} {p : Addr} {s : Stg} (hS : SetAt K H p s) (kk : Q (.int s.ring) H) : sp_Setting_seats K [.ref p] H Q E := ⟨_, _, rfl, hS, kk⟩
theorem f_Setting_seats (T : Cx K mg) (B : Tb P w K mg base) : ∃ fd, FunD K "seats" "Setting.seats" (defArgs s_Setting_seats) (defBody s_Setting_seats) (defScope s_Setting_seats) [] [] (prG K "Setting" "seats") fd ∧ FnOk P w K mg base CX0 1 (prG K "Setting" "seats") fd p_Setting_seats (sp_Setting_seats K) := by
  obtain ⟨hP, fd, F⟩ := B.g g_Setting_seats (.head _)
  refine ⟨fd, F, fnD F sc_Setting_seats (fun vs H Q E h => by
    obtain ⟨_, _, rfl, _⟩ := h
    rfl) fun cdv A outer s H vs Q E hr h => ?_⟩
  have hu := hu_of hr
  obtain ⟨p, s, rfl, hS, kk⟩ := h
  refine ⟨_, (pss_one (ps_ret (pe_op op_shl pe_int (pe_fld (pv 0) rfl)))), ?_⟩
  rw [show L2.start n_Setting_seats [.ref p] = [some (.ref p)] from rfl]
  try dsimp only [cxOf, Cx.nox, Cx.wish, List.map]

  obtain ⟨⟨dx, hp⟩, ok⟩ := hS
  have b0 := ok.b0
  have b1 := ok.b1
  wtm_at "rd"
  show Q (.int (1 * 2 ^ s.bits.toNat)) H
  rw [Int.one_mul, ← Stg.ring_eq]
  exact kk
theorem c_Setting_seats (T : Cx K mg) (B : Tb P w K mg base) : PrpX P w K mg base CX0 1 (ga K "Setting") "seats" (sp_Setting_seats K) := by
  obtain ⟨fd, F, ok⟩ := f_Setting_seats (P := P) (w := w) (base := base) T B
  obtain ⟨hP, -⟩ := B.g g_Setting_seats (.head _)
  exact ⟨_, _, fd, p_Setting_seats, cl_Setting T, hP, ok, FunD.bindsN F fun _ _ _ _ _ _ us hl => match us, hl with | [_], _ => rfl⟩
end
section
variable {P : Program} {w : World} {K : PySem.W.Frag} {mg : Str → Option Value} {base : Heap}
def sp_is_worth (K : PySem.W.Frag) : Sp := fun vs H Q E => ∃ (wt : Str), vs = [.str wt] ∧ (wt.length ≤ 1000000) ∧ (∀ H1, Kp [] H H1 → Q (.bl (wOk wt)) H1)
theorem us_is_worth {K : PySem.W.Frag} {H : Hp} {Q : VK} {E : XK} {wt : Str} (hl : wt.length ≤ 1000000) (kk : ∀ H1, Kp [] H H1 → Q (.bl (wOk wt)) H1) : sp_is_worth K [.str wt] H Q E := ⟨_, rfl, hl, kk⟩
theorem f_is_worth (T : Cx K mg) (B : Tb P w K mg base) : ∃ fd, FunD K "is_worth" "is_worth" (defArgs s_is_worth) (defBody s_is_worth) (defScope s_is_worth) (d_is_worth.dvs K) (d_is_worth.kws K) (fAd K d_is_worth.at_) fd ∧ FnOk P w K mg base CX0 1 (fAd K d_is_worth.at_) fd p_is_worth (sp_is_worth K) := by
  obtain ⟨fd, F⟩ := T.says.def_ 11 (d := d_is_worth) rfl
  refine ⟨fd, F, fnD F sc_is_worth (fun vs H Q E h => by
    obtain ⟨_, rfl, _⟩ := h
    rfl) fun cdv A outer s H vs Q E hr h => ?_⟩
  have hu := hu_of hr
  obtain ⟨wt, rfl, hl, kk⟩ := h
  refine ⟨_, (pss_cons (ps_if (PW.pt (pw_or (pt_not (pt_val (pe_callB call_isi (by rfl) (fr_isinstance T) (by decide +kernel) (pa_cons (pv 0) (pa_cons (pe_bltn (v := .ty "str") (by rfl) (fr_str T) (by decide +kernel) rfl) pa_nil))))) (pw_or1 (pt_cmpR op_gt (pe_callB call_lenStr (by rfl) (fr_len T) (by decide +kernel) (pa_cons (pv 0) pa_nil)) (pe_globC (by rfl) (gl_WORTH_LENGTH T)) (nomark _))))) (pss_one (ps_ret pe_bl)) pss_nil) (pss_one (ps_ret (pe_callB (cr_all rfl) (by rfl) (fr_all T) (by decide +kernel) (pa_cons (pe_lc (own := [("sign", 1)]) (g := (gName 1)) (tt := tYes) rfl sc_is_worth.nd (pi_str (pv 0)) (blkOk_by (own := [("sign", 1)]) (N := n_is_worth) (sc := defScope s_is_worth) (by decide +kernel)) (fun _ _ _ _ _ => (pg_name (i := 1) sc_is_worth.nd rfl (by first | exact Or.inl rfl | exact Or.inr rfl))) (fun _ _ _ _ _ => pts_nil) (fun _ _ _ _ _ => (pe_cmpR op_inSign (pv 1) (pe_globC (by rfl) (gl_WORTH_SIGNS T)) rfl))) pa_nil))))), ?_⟩
  rw [show L2.start n_is_worth [.str wt] = [some (.str wt), none] from rfl]
  try dsimp only [cxOf, Cx.nox, Cx.wish, List.map]

  wtm_at "rd"
  refine ite_d (fun h => ?_) (fun h => ?_)
  · wtm_at "rd"
    have e : wOk wt = false := by
      unfold wOk
      rw [decide_eq_false (by omega), Bool.false_and]
    rw [e] at kk
    exact kk _ Kp.refl
  · wtm_at "rd"
    intro D nD
    have hz : wt.cps.size < 1000000 := by
      have : wt.cps.size = wt.length := rfl
      omega
    refine lcF_str (fun c => V.bl (decide (c ∈ SIGNS.cps.toList))) nD hz (fun i c hc H1 E N k1 hE => ?_) (fun H1 k1 hD1 => ?_)
    · wtm_at "rd"
      refine ⟨rfl, ?_⟩
      wtm_at "rd"
      exact hE _ Kp.refl
    · wtm_at "rd"
      refine rd_all (bs := wt.cps.toList.map fun c => decide (c ∈ SIGNS.cps.toList)) (by rw [List.map_map]; exact hD1) ?_
      have e : wOk wt = (wt.cps.toList.map fun c => decide (c ∈ SIGNS.cps.toList)).all id := by
        unfold wOk
        rw [decide_eq_true (by omega), Bool.true_and, List.all_map]
        rfl
      rw [← e]
      exact kk _ k1
theorem c_is_worth (T : Cx K mg) (B : Tb P w K mg base) : CalX P w K mg base CX0 1 "is_worth" (sp_is_worth K) [] := by
  obtain ⟨fd, F, ok⟩ := f_is_worth (P := P) (w := w) (base := base) T B
  exact ⟨_, fd, p_is_worth, [], ok, gl_is_worth T, F.kp, FunD.bindsN F fun _ _ _ _ _ _ us hl => match us, hl with | [_], _ => rfl, .nil⟩
end
section
variable {P : Program} {w : World} {K : PySem.W.Frag} {mg : Str → Option Value} {base : Heap}
def sp_life_ok (K : PySem.W.Frag) : Sp := fun vs H Q E => ∃ (v : Int), vs = [.int v] ∧ (Q (.bl (decide (0 ≤ v) && decide (v ≤ MOST))) H)
theorem us_life_ok {K : PySem.W.Frag} {H : Hp} {Q : VK} {E : XK} {v : Int}  (kk : Q (.bl (decide (0 ≤ v) && decide (v ≤ MOST))) H) : sp_life_ok K [.int v] H Q E := ⟨_, rfl, kk⟩
theorem f_life_ok (T : Cx K mg) (B : Tb P w K mg base) : ∃ fd, FunD K "life_ok" "life_ok" (defArgs s_life_ok) (defBody s_life_ok) (defScope s_life_ok) (d_life_ok.dvs K) (d_life_ok.kws K) (fAd K d_life_ok.at_) fd ∧ FnOk P w K mg base CX0 2 (fAd K d_life_ok.at_) fd p_life_ok (sp_life_ok K) := by
  have c_whole := c_whole (P := P) (w := w) (base := base) T B
  obtain ⟨fd, F⟩ := T.says.def_ 12 (d := d_life_ok) rfl
  refine ⟨fd, F, fnD F sc_life_ok (fun vs H Q E h => by
    obtain ⟨_, rfl, _⟩ := h
    rfl) fun cdv A outer s H vs Q E hr h => ?_⟩
  have hu := hu_of hr
  obtain ⟨v, rfl, kk⟩ := h
  refine ⟨_, (pss_one (ps_ret (pe_cal c_whole hr (by decide) (by rfl) pass0 (pa_cons (pv 0) (pa_cons pe_int (pa_cons (pe_globC (by rfl) (gl_MOST_LIFE T)) pa_nil)))))), ?_⟩
  rw [show L2.start n_life_ok [.int v] = [some (.int v)] from rfl]
  try dsimp only [cxOf, Cx.nox, Cx.wish, List.map]

  wtm_at "rd"
  refine us_whole ?_
  exact kk
theorem c_life_ok (T : Cx K mg) (B : Tb P w K mg base) : CalX P w K mg base CX0 2 "life_ok" (sp_life_ok K) [] := by
  obtain ⟨fd, F, ok⟩ := f_life_ok (P := P) (w := w) (base := base) T B
  exact ⟨_, fd, p_life_ok, [], ok, gl_life_ok T, F.kp, FunD.bindsN F fun _ _ _ _ _ _ us hl => match us, hl with | [_], _ => rfl, .nil⟩
end
section
variable {P : Program} {w : World} {K : PySem.W.Frag} {mg : Str → Option Value} {base : Heap}
def sp_is_saying (K : PySem.W.Frag) : Sp := fun vs H Q E => ∃ (s t : Addr) (st : Stg) (y : Sy), vs = [.ref s, .ref t] ∧ (SetAt K H s st) ∧ (SyAt H t y) ∧ (y.w.length ≤ 1000000) ∧ (∀ H1, Kp [] H H1 → Q (.bl (syOk st.ring y)) H1)
theorem us_is_saying {K : PySem.W.Frag} {H : Hp} {Q : VK} {E : XK} {s t : Addr} {st : Stg} {y : Sy} (hS : SetAt K H s st) (ht : SyAt H t y) (hl : y.w.length ≤ 1000000) (kk : ∀ H1, Kp [] H H1 → Q (.bl (syOk st.ring y)) H1) : sp_is_saying K [.ref s, .ref t] H Q E := ⟨_, _, _, _, rfl, hS, ht, hl, kk⟩
theorem f_is_saying (T : Cx K mg) (B : Tb P w K mg base) : ∃ fd, FunD K "is_saying" "is_saying" (defArgs s_is_saying) (defBody s_is_saying) (defScope s_is_saying) (d_is_saying.dvs K) (d_is_saying.kws K) (fAd K d_is_saying.at_) fd ∧ FnOk P w K mg base CX0 4 (fAd K d_is_saying.at_) fd p_is_saying (sp_is_saying K) := by
  have c_Setting_seats := c_Setting_seats (P := P) (w := w) (base := base) T B
  have c_whole := c_whole (P := P) (w := w) (base := base) T B
  have c_life_ok := c_life_ok (P := P) (w := w) (base := base) T B
  have c_is_worth := c_is_worth (P := P) (w := w) (base := base) T B
  obtain ⟨fd, F⟩ := T.says.def_ 13 (d := d_is_saying) rfl
  refine ⟨fd, F, fnD F sc_is_saying (fun vs H Q E h => by
    obtain ⟨_, _, _, _, rfl, _⟩ := h
    rfl) fun cdv A outer s H vs Q E hr h => ?_⟩
  have hu := hu_of hr
  obtain ⟨s, t, st, y, rfl, hS, ht, hl, kk⟩ := h
  refine ⟨_, (pss_cons (ps_if (PW.pt (pw_or (pt_not (pt_val (pe_callB call_isi (by rfl) (fr_isinstance T) (by decide +kernel) (pa_cons (pv 1) (pa_cons (pe_bltn (v := .ty "tuple") (by rfl) (fr_tuple T) (by decide +kernel) rfl) pa_nil))))) (pw_or1 (pt_cmpR op_ne (pe_callB call_lenS (by rfl) (fr_len T) (by decide +kernel) (pa_cons (pv 1) pa_nil)) pe_int (nomark _))))) (pss_one (ps_ret pe_bl)) pss_nil) (pss_cons (ps_asg (pv 1) (pg_tup rfl (pgs_cons (pg_name (i := 2) sc_is_saying.nd rfl (by first | exact Or.inl rfl | exact Or.inr rfl)) (pgs_cons (pg_name (i := 3) sc_is_saying.nd rfl (by first | exact Or.inl rfl | exact Or.inr rfl)) (pgs_cons (pg_name (i := 4) sc_is_saying.nd rfl (by first | exact Or.inl rfl | exact Or.inr rfl)) (pgs_cons (pg_name (i := 5) sc_is_saying.nd rfl (by first | exact Or.inl rfl | exact Or.inr rfl)) pgs_nil)))))) (pss_cons (ps_if (PW.pt (pw_or (pt_not (pt_val (pe_cal c_whole hr (by decide) (by rfl) pass0 (pa_cons (pv 2) (pa_cons pe_int (pa_cons (pe_op op_sub (pe_prpX c_Setting_seats hr (by decide) pass0 (pv 0)) pe_int) pa_nil)))))) (pw_or1 (pt_not (pt_val (pe_cal c_life_ok hr (by decide) (by rfl) pass0 (pa_cons (pv 3) pa_nil))))))) (pss_one (ps_ret pe_bl)) pss_nil) (pss_one (ps_ret (pe_and (pe_callB call_isi (by rfl) (fr_isinstance T) (by decide +kernel) (pa_cons (pv 4) (pa_cons (pe_bltn (v := .ty "str") (by rfl) (fr_str T) (by decide +kernel) rfl) pa_nil))) (pe_and (pe_cmpR op_in_seq (pv 4) (pe_glob (v := .ref (ga K "MARKS")) (by rfl) (gl_MARKS T) rfl) rfl) (pe_one (pe_cal c_is_worth hr (by decide) (by rfl) pass0 (pa_cons (pv 5) pa_nil)))))))))), ?_⟩
  rw [show L2.start n_is_saying [.ref s, .ref t] = [some (.ref s), some (.ref t), none, none, none, none] from rfl]
  try dsimp only [cxOf, Cx.nox, Cx.wish, List.map]

  unfold SyAt Sy.tup at ht
  obtain ⟨⟨dx, hs⟩, ok⟩ := id hS
  wtm_at "rd"
  refine ite_n (fun h => absurd rfl h) (fun _ => ?_)
  wtm_at "rd"
  refine us_Setting_seats hS ?_
  wtm_at "rd"
  refine us_whole ?_
  unfold syOk at kk
  cases e1 : (decide (0 ≤ y.s) && decide (y.s ≤ st.ring - 1)) with
  | false =>
    rw [e1, Bool.false_and, Bool.false_and] at kk
    wtm_at "rd"
    exact kk _ Kp.refl
  | true =>
    rw [e1, Bool.true_and] at kk
    wtm_at "rd"
    refine us_life_ok ?_
    cases e2 : (decide (0 ≤ y.l) && decide (y.l ≤ MOST)) with
    | false =>
      rw [e2, Bool.false_and] at kk
      wtm_at "rd"
      exact kk _ Kp.refl
    | true =>
      rw [e2, Bool.true_and] at kk
      wtm_at "rd"
      refine ite_d (fun h => ?_) (fun h => ?_)
      · rw [decide_eq_true h, Bool.true_and] at kk
        wtm_at "rd"
        exact us_is_worth hl kk
      · rw [decide_eq_false h, Bool.false_and] at kk
        exact kk _ Kp.refl
theorem c_is_saying (T : Cx K mg) (B : Tb P w K mg base) : CalX P w K mg base CX0 4 "is_saying" (sp_is_saying K) [] := by
  obtain ⟨fd, F, ok⟩ := f_is_saying (P := P) (w := w) (base := base) T B
  exact ⟨_, fd, p_is_saying, [], ok, gl_is_saying T, F.kp, FunD.bindsN F fun _ _ _ _ _ _ us hl => match us, hl with | [_, _], _ => rfl, .nil⟩
end
section
variable {P : Program} {w : World} {K : PySem.W.Frag} {mg : Str → Option Value} {base : Heap}
def sp_check_saying (K : PySem.W.Frag) : Sp := fun vs H Q E => ∃ (s t : Addr) (st : Stg) (y : Sy), vs = [.ref s, .ref t] ∧ (SetAt K H s st) ∧ (SyAt H t y) ∧ (syOk st.ring y = true) ∧ (∀ H1, Kp [] H H1 → Q (.ref t) H1)
theorem us_check_saying {K : PySem.W.Frag} {H : Hp} {Q : VK} {E : XK} {s t : Addr} {st : Stg} {y : Sy} (hS : SetAt K H s st) (ht : SyAt H t y) (hy : syOk st.ring y = true) (kk : ∀ H1, Kp [] H H1 → Q (.ref t) H1) : sp_check_saying K [.ref s, .ref t] H Q E := ⟨_, _, _, _, rfl, hS, ht, hy, kk⟩
theorem f_check_saying (T : Cx K mg) (B : Tb P w K mg base) : ∃ fd, FunD K "check_saying" "check_saying" (defArgs s_check_saying) (defBody s_check_saying) (defScope s_check_saying) (d_check_saying.dvs K) (d_check_saying.kws K) (fAd K d_check_saying.at_) fd ∧ FnOk P w K mg base CX0 5 (fAd K d_check_saying.at_) fd p_check_saying (sp_check_saying K) := by
  have c_is_saying := c_is_saying (P := P) (w := w) (base := base) T B
  obtain ⟨fd, F⟩ := T.says.def_ 14 (d := d_check_saying) rfl
  refine ⟨fd, F, fnD F sc_check_saying (fun vs H Q E h => by
    obtain ⟨_, _, _, _, rfl, _⟩ := h
    rfl) fun cdv A outer s H vs Q E hr h => ?_⟩
  have hu := hu_of hr
  obtain ⟨s, t, st, y, rfl, hS, ht, hy, kk⟩ := h
  refine ⟨_, (pss_cons (ps_if (pt_not (pt_val (pe_cal c_is_saying hr (by decide) (by rfl) pass0 (pa_cons (pv 0) (pa_cons (pv 1) pa_nil))))) (pss_one ps_never) pss_nil) (pss_one (ps_ret (pv 1)))), ?_⟩
  rw [show L2.start n_check_saying [.ref s, .ref t] = [some (.ref s), some (.ref t)] from rfl]
  try dsimp only [cxOf, Cx.nox, Cx.wish, List.map]

  wtm_at "rd"
  refine us_is_saying hS ht (by
    have := wOk_len (syOk_iff.mp hy).2.2.2
    omega) fun H1 k1 => ?_
  rw [hy]
  wtm_at "rd"
  exact kk _ k1
theorem c_check_saying (T : Cx K mg) (B : Tb P w K mg base) : CalX P w K mg base CX0 5 "check_saying" (sp_check_saying K) [] := by
  obtain ⟨fd, F, ok⟩ := f_check_saying (P := P) (w := w) (base := base) T B
  exact ⟨_, fd, p_check_saying, [], ok, gl_check_saying T, F.kp, FunD.bindsN F fun _ _ _ _ _ _ us hl => match us, hl with | [_, _], _ => rfl, .nil⟩
end
section
variable {P : Program} {w : World} {K : PySem.W.Frag} {mg : Str → Option Value} {base : Heap}
def sp_rank (K : PySem.W.Frag) : Sp := fun vs H Q E => ∃ (v : V) (o : Option Sy), vs = [v] ∧ (IsY H v o) ∧ (∀ y, o = some y → y.m ∈ MK) ∧ (Q (.int (rkO o)) H)
theorem us_rank {K : PySem.W.Frag} {H : Hp} {Q : VK} {E : XK} {v : V} {o : Option Sy} (hv : IsY H v o) (hm : ∀ y, o = some y → y.m ∈ MK) (kk : Q (.int (rkO o)) H) : sp_rank K [v] H Q E := ⟨_, _, rfl, hv, hm, kk⟩
theorem f_rank (T : Cx K mg) (B : Tb P w K mg base) : ∃ fd, FunD K "rank" "rank" (defArgs s_rank) (defBody s_rank) (defScope s_rank) (d_rank.dvs K) (d_rank.kws K) (fAd K d_rank.at_) fd ∧ FnOk P w K mg base CX0 1 (fAd K d_rank.at_) fd p_rank (sp_rank K) := by
  obtain ⟨fd, F⟩ := T.says.def_ 15 (d := d_rank) rfl
  refine ⟨fd, F, fnD F sc_rank (fun vs H Q E h => by
    obtain ⟨_, _, rfl, _⟩ := h
    rfl) fun cdv A outer s H vs Q E hr h => ?_⟩
  have hu := hu_of hr
  obtain ⟨v, o, rfl, hv, hm, kk⟩ := h
  refine ⟨_, (pss_cons (ps_if (pt_cmp (pc_isN (pv 0))) (pss_one (ps_ret pe_int)) pss_nil) (pss_one (ps_ret (pe_op op_add (pe_op op_mul pe_int (pe_ix ix_tup (pv 0) pe_int (fun _ _ => rfl))) (pe_ix ix_kdict (pe_glob (v := .ref (ga K "MARK_STEPS")) (by rfl) (gl_MARK_STEPS T) rfl) (pe_ix ix_tup (pv 0) pe_int (fun _ _ => rfl)) (fun _ _ => rfl)))))), ?_⟩
  rw [show L2.start n_rank [v] = [some (v)] from rfl]
  try dsimp only [cxOf, Cx.nox, Cx.wish, List.map]

  cases o with
  | none =>
    obtain rfl : v = .non := hv
    wtm_at "rd"
    exact kk
  | some y =>
    obtain ⟨t, rfl, ht⟩ := hv
    unfold SyAt Sy.tup at ht
    have hm1 := hm y rfl
    wtm_at "rd"
    exact kk
theorem c_rank (T : Cx K mg) (B : Tb P w K mg base) : CalX P w K mg base CX0 1 "rank" (sp_rank K) [] := by
  obtain ⟨fd, F, ok⟩ := f_rank (P := P) (w := w) (base := base) T B
  exact ⟨_, fd, p_rank, [], ok, gl_rank T, F.kp, FunD.bindsN F fun _ _ _ _ _ _ us hl => match us, hl with | [_], _ => rfl, .nil⟩
end
section
variable {P : Program} {w : World} {K : PySem.W.Frag} {mg : Str → Option Value} {base : Heap}
def sp__is_later (K : PySem.W.Frag) : Sp := fun vs H Q E => ∃ (d t : Addr) (xs : List (Addr × Sy)) (y : Sy), vs = [.ref d, .ref t] ∧ (RowT H d xs) ∧ (∀ p, p ∈ xs → p.2.m ∈ MK) ∧ (SyAt H t y) ∧ (y.m ∈ MK) ∧ (Q (.bl (decide (rkO ((fdT Sy.s xs y.s).map (·.2)) < rk y))) H)
theorem us__is_later {K : PySem.W.Frag} {H : Hp} {Q : VK} {E : XK} {d t : Addr} {xs : List (Addr × Sy)} {y : Sy} (hd : RowT H d xs) (hx : ∀ p, p ∈ xs → p.2.m ∈ MK) (ht : SyAt H t y) (hm : y.m ∈ MK) (kk : Q (.bl (decide (rkO ((fdT Sy.s xs y.s).map (·.2)) < rk y))) H) : sp__is_later K [.ref d, .ref t] H Q E := ⟨_, _, _, _, rfl, hd, hx, ht, hm, kk⟩
theorem f__is_later (T : Cx K mg) (B : Tb P w K mg base) : ∃ fd, FunD K "_is_later" "_is_later" (defArgs s__is_later) (defBody s__is_later) (defScope s__is_later) (d__is_later.dvs K) (d__is_later.kws K) (fAd K d__is_later.at_) fd ∧ FnOk P w K mg base CX0 2 (fAd K d__is_later.at_) fd p__is_later (sp__is_later K) := by
  have c_rank := c_rank (P := P) (w := w) (base := base) T B
  obtain ⟨fd, F⟩ := T.says.def_ 16 (d := d__is_later) rfl
  refine ⟨fd, F, fnD F sc__is_later (fun vs H Q E h => by
    obtain ⟨_, _, _, _, rfl, _⟩ := h
    rfl) fun cdv A outer s H vs Q E hr h => ?_⟩
  have hu := hu_of hr
  obtain ⟨d, t, xs, y, rfl, hd, hx, ht, hm, kk⟩ := h
  refine ⟨_, (pss_one (ps_ret (pe_cmpR op_gt (pe_cal c_rank hr (by decide) (by rfl) pass0 (pa_cons (pv 1) pa_nil)) (pe_cal c_rank hr (by decide) (by rfl) pass0 (pa_cons (pe_dget1 hu (pv 0) (pe_ix ix_tup (pv 1) pe_int (fun _ _ => rfl)) ⟨rfl, rfl, rfl, rfl⟩) pa_nil)) (nomark _)))), ?_⟩
  rw [show L2.start n__is_later [.ref d, .ref t] = [some (.ref d), some (.ref t)] from rfl]
  try dsimp only [cxOf, Cx.nox, Cx.wish, List.map]

  have hd1 := hd.at_
  have ht1 := ht
  unfold SyAt Sy.tup at ht1
  wtm_at "rd"
  refine us_rank (o := some y) ⟨t, rfl, ht⟩ (fun z e => by
    cases e
    exact hm) ?_
  wtm_at "rd"
  refine us_rank (hd.findY y.s) (fun z e => ?_) ?_
  · obtain ⟨p, hp, rfl⟩ := Option.map_eq_some_iff.mp e
    exact hx p (fdT_some hp).1
  wtm_at "rd"
  exact kk
theorem c__is_later (T : Cx K mg) (B : Tb P w K mg base) : CalX P w K mg base CX0 2 "_is_later" (sp__is_later K) [] := by
  obtain ⟨fd, F, ok⟩ := f__is_later (P := P) (w := w) (base := base) T B
  exact ⟨_, fd, p__is_later, [], ok, gl__is_later T, F.kp, FunD.bindsN F fun _ _ _ _ _ _ us hl => match us, hl with | [_, _], _ => rfl, .nil⟩
end
section
variable {P : Program} {w : World} {K : PySem.W.Frag} {mg : Str → Option Value} {base : Heap}
def sp__latest_rows (K : PySem.W.Frag) : Sp := fun vs H Q E => ∃ (s l : Addr) (st : Stg) (ps : List (Addr × Sy)), vs = [.ref s, .ref l] ∧ (SetAt K H s st) ∧ (LsT K H l ps) ∧ (∀ p, p ∈ ps → syOk st.ring p.2 = true) ∧ (ps.length < 100000) ∧ (∀ d H1, RowT H1 d (ps.foldl takeT []) → Kp [] H H1 → H d = none → Q (.ref d) H1)
theorem us__latest_rows {K : PySem.W.Frag} {H : Hp} {Q : VK} {E : XK} {s l : Addr} {st : Stg} {ps : List (Addr × Sy)} (hS : SetAt K H s st) (hl : LsT K H l ps) (hy : ∀ p, p ∈ ps → syOk st.ring p.2 = true) (hn : ps.length < 100000) (kk : ∀ d H1, RowT H1 d (ps.foldl takeT []) → Kp [] H H1 → H d = none → Q (.ref d) H1) : sp__latest_rows K [.ref s, .ref l] H Q E := ⟨_, _, _, _, rfl, hS, hl, hy, hn, kk⟩
theorem f__latest_rows (T : Cx K mg) (B : Tb P w K mg base) : ∃ fd, FunD K "_latest_rows" "_latest_rows" (defArgs s__latest_rows) (defBody s__latest_rows) (defScope s__latest_rows) (d__latest_rows.dvs K) (d__latest_rows.kws K) (fAd K d__latest_rows.at_) fd ∧ FnOk P w K mg base CX0 6 (fAd K d__latest_rows.at_) fd p__latest_rows (sp__latest_rows K) := by
  have c_check_saying := c_check_saying (P := P) (w := w) (base := base) T B
  have c__is_later := c__is_later (P := P) (w := w) (base := base) T B
  obtain ⟨fd, F⟩ := T.says.def_ 17 (d := d__latest_rows) rfl
  refine ⟨fd, F, fnD F sc__latest_rows (fun vs H Q E h => by
    obtain ⟨_, _, _, _, rfl, _⟩ := h
    rfl) fun cdv A outer s H vs Q E hr h => ?_⟩
  have hu := hu_of hr
  obtain ⟨s, l, st, ps, rfl, hS, hl, hy, hn, kk⟩ := h
  refine ⟨_, (pss_cons (ps_set (i := 2) sc__latest_rows.nd rfl (by first | exact Or.inl rfl | exact Or.inr rfl) pe_dnewK) (pss_cons (ps_for PassesOwn.never rfl (pi_seq (pv 1)) (pg_name (i := 3) sc__latest_rows.nd rfl (by first | exact Or.inl rfl | exact Or.inr rfl)) (pss_cons (ps_expr (pe_cal c_check_saying hr (by decide) (by rfl) pass0 (pa_cons (pv 0) (pa_cons (pv 3) pa_nil)))) (pss_one (ps_if (pt_val (pe_cal c__is_later hr (by decide) (by rfl) pass0 (pa_cons (pv 2) (pa_cons (pv 3) pa_nil)))) (pss_one (ps_dput hu (pv 2) (pe_ix ix_tup (pv 3) pe_int (fun _ _ => rfl)) (pv 3) rfl)) pss_nil)))) (pss_one (ps_ret (pv 2))))), ?_⟩
  rw [show L2.start n__latest_rows [.ref s, .ref l] = [some (.ref s), some (.ref l), none, none] from rfl]
  try dsimp only [cxOf, Cx.nox, Cx.wish, List.map]

  wtm_at "rd"
  intro d nd
  rcases hl with hl | ⟨rfl, hl⟩
  rotate_left
  · wtm_at "rd"
    refine rd_iSeqT (st_new nd hl) ?_
    refine forT_by (K := K) [] (fun i σ H1 => (∃ v, σ = [some (.ref s), some (.ref l), some (.ref d), v]) ∧ H1 = upd H d (.dK [])) ⟨⟨_, rfl⟩, rfl⟩ (fun i σ H1 _ q => by rw [q.2]; exact st_new nd hl) (fun i x σ H1 hx => by simp at hx) ?_
    rintro σ H1 ⟨⟨v, rfl⟩, rfl⟩
    wtm_at "rd"
    exact kk d _ ⟨upd_same, fun p hp => by cases hp⟩ (Kp.new nd) nd
  have hl1 := hl.at_
  wtm_at "rd"
  refine forL_by (K := K) (ps.map fun p => V.ref p.1) (fun i σ H1 => (∃ v, σ = [some (.ref s), some (.ref l), some (.ref d), v]) ∧ RowT H1 d ((ps.take i).foldl takeT []) ∧ Kp [] H H1) ⟨⟨_, rfl⟩, ⟨upd_same, fun p hp => by cases hp⟩, Kp.new nd⟩ (fun i σ H1 _ q => SqL.of (q.2.2.g0 hl1)) ?_ ?_
  · rintro i x σ H1 hx ⟨⟨v, rfl⟩, q1, k1⟩
    rw [List.getElem?_map] at hx
    obtain ⟨p, hp, rfl⟩ := Option.map_eq_some_iff.mp hx
    obtain ⟨hi, ep⟩ := List.getElem?_eq_some_iff.mp hp
    have pm := List.mem_of_getElem? hp
    have ok := hy p pm
    wtm_at "rd"
    refine us_check_saying (hS.k0 k1) (k1.g0 (hl.ob p pm)) ok fun H2 k2 => ?_
    have k12 := k1.trans k2
    have q2 := q1.k0 k2
    have ht := k12.g0 (hl.ob p pm)
    wtm_at "rd"
    refine us__is_later q2 (fun z hz => ?_) ht (syOk_iff.mp ok).2.2.1 ?_
    · rcases foldT_mem hz with h | h
      · exact (syOk_iff.mp (hy z (List.mem_of_mem_take h))).2.2.1
      · cases h
    have eT : (ps.take (i + 1)).foldl takeT [] = takeT ((ps.take i).foldl takeT []) p := by
      rw [List.take_succ_eq_append_getElem hi, ep, List.foldl_append]
      rfl
    rw [eT]
    have hd2 := q2.at_
    have ht2 := ht
    unfold SyAt Sy.tup at ht2
    have len : (kvT Sy.s ((ps.take i).foldl takeT [])).length < sizeLine := szlt (by
      rw [kvT_len]
      have h1 := foldT_len (ps.take i) []
      rw [List.length_take] at h1
      simp only [List.length_nil] at h1
      omega)
    wtm_at "rd"
    refine ite_d (fun h => ?_) (fun h => ?_)
    · wtm_at "rd"
      refine ⟨⟨_, rfl⟩, ?_, k12.mine nd⟩
      have e := kvT_put Sy.s ((ps.take i).foldl takeT []) p
      rw [e, takeT_pos h]
      exact q2.put ht
    · refine ⟨⟨_, rfl⟩, ?_, k12⟩
      rw [takeT_neg h]
      exact q2
  · rintro σ H1 ⟨⟨v, rfl⟩, q1, k1⟩
    rw [List.length_map, List.take_length] at q1
    wtm_at "rd"
    exact kk d H1 q1 k1 nd
theorem c__latest_rows (T : Cx K mg) (B : Tb P w K mg base) : CalX P w K mg base CX0 6 "_latest_rows" (sp__latest_rows K) [] := by
  obtain ⟨fd, F, ok⟩ := f__latest_rows (P := P) (w := w) (base := base) T B
  exact ⟨_, fd, p__latest_rows, [], ok, gl__latest_rows T, F.kp, FunD.bindsN F fun _ _ _ _ _ _ us hl => match us, hl with | [_, _], _ => rfl, .nil⟩
end
section
variable {P : Program} {w : World} {K : PySem.W.Frag} {mg : Str → Option Value} {base : Heap}
def sp_Book_init (K : PySem.W.Frag) : Sp := fun vs H Q E => ∃ (b dx s l : Addr) (st : Stg) (ps : List (Addr × Sy)), vs = [.ref b, .ref s, .ref l] ∧ (H b = some (.ins (ga K "Book") dx [])) ∧ (SetAt K H s st) ∧ (LsT K H l ps) ∧ (∀ p, p ∈ ps → syOk st.ring p.2 = true) ∧ (ps.length < 100000) ∧ (∀ d H1, BookAt K H1 b s d (ps.foldl takeT []) → Kp [b] H H1 → H d = none → Q .non H1)
theorem us_Book_init {K : PySem.W.Frag} {H : Hp} {Q : VK} {E : XK} {b dx s l : Addr} {st : Stg} {ps : List (Addr × Sy)} (hb : H b = some (.ins (ga K "Book") dx [])) (hS : SetAt K H s st) (hl : LsT K H l ps) (hy : ∀ p, p ∈ ps → syOk st.ring p.2 = true) (hn : ps.length < 100000) (kk : ∀ d H1, BookAt K H1 b s d (ps.foldl takeT []) → Kp [b] H H1 → H d = none → Q .non H1) : sp_Book_init K [.ref b, .ref s, .ref l] H Q E := ⟨_, _, _, _, _, _, rfl, hb, hS, hl, hy, hn, kk⟩
theorem f_Book_init (T : Cx K mg) (B : Tb P w K mg base) : ∃ fd, FunD K "__init__" "Book.__init__" (defArgs s_Book_init) (defBody s_Book_init) (defScope s_Book_init) (d_Book_init.dvs K) (d_Book_init.kws K) (fAd K d_Book_init.at_) fd ∧ FnOk P w K mg base CX0 7 (fAd K d_Book_init.at_) fd p_Book_init (sp_Book_init K) := by
  have c__latest_rows := c__latest_rows (P := P) (w := w) (base := base) T B
  obtain ⟨fd, F⟩ := T.says.def_ 18 (d := d_Book_init) rfl
  refine ⟨fd, F, fnD F sc_Book_init (fun vs H Q E h => by
    obtain ⟨_, _, _, _, _, _, rfl, _⟩ := h
    rfl) fun cdv A outer s H vs Q E hr h => ?_⟩
  have hu := hu_of hr
  obtain ⟨b, dx, s, l, st, ps, rfl, hb, hS, hl, hy, hn, kk⟩ := h
  refine ⟨_, (pss_cons (ps_fld (pv 0) (pv 1) rfl) (pss_one (ps_fld (pv 0) (pe_cal c__latest_rows hr (by decide) (by rfl) pass0 (pa_cons (pv 1) (pa_cons (pv 2) pa_nil))) rfl))), ?_⟩
  rw [show L2.start n_Book_init [.ref b, .ref s, .ref l] = [some (.ref b), some (.ref s), some (.ref l)] from rfl]
  try dsimp only [cxOf, Cx.nox, Cx.wish, List.map]

  wtm_at "rd"
  have k0 : Kp [b] H (upd H b (.ins (ga K "Book") dx (putF "_setting" (.ref s) []))) := Kp.refl.wr (by simp)
  have hl2 : LsT K (upd H b (.ins (ga K "Book") dx (putF "_setting" (.ref s) []))) l ps := by
    rcases hl with hl | ⟨e, hl⟩
    · exact .inl ⟨k0.g1 (ne_of hl.at_ hb (by intro z; cases z)) hl.at_, fun p hp => k0.g1 (ne_of (hl.ob p hp) hb (by intro z; cases z)) (hl.ob p hp)⟩
    · exact .inr ⟨e, st_ins hb hl⟩
  refine us__latest_rows (hS.k1 k0 (hS.neins' hb)) hl2 hy hn fun d H1 r1 k1 nd => ?_
  have hb1 : H1 b = some (.ins (ga K "Book") dx (putF "_setting" (.ref s) [])) := k1.g0 upd_same
  wtm_at "rd"
  refine kk d _ ⟨⟨dx, upd_same⟩, ?_⟩ ((k0.trans k1.of0).wr (by simp)) (k0.back nd ?_)
  · exact ⟨hu_ne (ne_of r1.at_ hb1 (by intro z; cases z)) r1.at_, fun p hp => hu_ne (ne_of (r1.ob p hp) hb1 (by intro z; cases z)) (r1.ob p hp)⟩
  · intro z
    rw [List.mem_singleton.mp z, upd_same] at nd
    cases nd
theorem c_Book_init (T : Cx K mg) (B : Tb P w K mg base) : MakX P w K mg base CX0 7 "Book" (ga K "Book") (sp_Book_init K) [] := by
  obtain ⟨fd, F, ok⟩ := f_Book_init (P := P) (w := w) (base := base) T B
  obtain ⟨ds, hv, hb⟩ := FunD.binds1 (ps := p_Book_init) F 3 1 (fun e => by cases e) rfl fun _ _ _ _ _ _ _ us its hu hi => match us, its, hu, hi with | [_, _, _], [_], _, _ => ⟨_, rfl, rfl⟩
  exact ⟨_, fd, p_Book_init, ds, mk_Book T, ok, gl_Book T, hb, hv⟩
end
section
variable {P : Program} {w : World} {K : PySem.W.Frag} {mg : Str → Option Value} {base : Heap}
def sp_Book_take (K : PySem.W.Frag) : Sp := fun vs H Q E => ∃ (b s d t : Addr) (st : Stg) (xs : List (Addr × Sy)) (y : Sy), vs = [.ref b, .ref t] ∧ (BookAt K H b s d xs) ∧ (SetAt K H s st) ∧ (∀ p, p ∈ xs → p.2.m ∈ MK) ∧ (SyAt H t y) ∧ (syOk st.ring y = true) ∧ (xs.length < 100000) ∧ (∀ H1, RowT H1 d (takeT xs (t, y)) → Kp [d] H H1 → Q (.bl (decide (rkO ((fdT Sy.s xs y.s).map (·.2)) < rk y))) H1)
theorem us_Book_take {K : PySem.W.Frag} {H : Hp} {Q : VK} {E : XK} {b s d t : Addr} {st : Stg} {xs : List (Addr × Sy)} {y : Sy} (hB : BookAt K H b s d xs) (hS : SetAt K H s st) (hx : ∀ p, p ∈ xs → p.2.m ∈ MK) (ht : SyAt H t y) (hy : syOk st.ring y = true) (hn : xs.length < 100000) (kk : ∀ H1, RowT H1 d (takeT xs (t, y)) → Kp [d] H H1 → Q (.bl (decide (rkO ((fdT Sy.s xs y.s).map (·.2)) < rk y))) H1) : sp_Book_take K [.ref b, .ref t] H Q E := ⟨_, _, _, _, _, _, _, rfl, hB, hS, hx, ht, hy, hn, kk⟩
theorem f_Book_take (T : Cx K mg) (B : Tb P w K mg base) : ∃ fd, FunD K "take" "Book.take" (defArgs s_Book_take) (defBody s_Book_take) (defScope s_Book_take) (d_Book_take.dvs K) (d_Book_take.kws K) (fAd K d_Book_take.at_) fd ∧ FnOk P w K mg base CX0 6 (fAd K d_Book_take.at_) fd p_Book_take (sp_Book_take K) := by
  have c_check_saying := c_check_saying (P := P) (w := w) (base := base) T B
  have c__is_later := c__is_later (P := P) (w := w) (base := base) T B
  obtain ⟨fd, F⟩ := T.says.def_ 19 (d := d_Book_take) rfl
  refine ⟨fd, F, fnD F sc_Book_take (fun vs H Q E h => by
    obtain ⟨_, _, _, _, _, _, _, rfl, _⟩ := h
    rfl) fun cdv A outer s H vs Q E hr h => ?_⟩
  have hu := hu_of hr
  obtain ⟨b, s, d, t, st, xs, y, rfl, hB, hS, hx, ht, hy, hn, kk⟩ := h
  refine ⟨_, (pss_cons (ps_expr (pe_cal c_check_saying hr (by decide) (by rfl) pass0 (pa_cons (pe_fld (pv 0) rfl) (pa_cons (pv 1) pa_nil)))) (pss_cons (ps_if (pt_not (pt_val (pe_cal c__is_later hr (by decide) (by rfl) pass0 (pa_cons (pe_fld (pv 0) rfl) (pa_cons (pv 1) pa_nil))))) (pss_one (ps_ret pe_bl)) pss_nil) (pss_cons (ps_dput hu (pe_fld (pv 0) rfl) (pe_ix ix_tup (pv 1) pe_int (fun _ _ => rfl)) (pv 1) rfl) (pss_one (ps_ret pe_bl))))), ?_⟩
  rw [show L2.start n_Book_take [.ref b, .ref t] = [some (.ref b), some (.ref t)] from rfl]
  try dsimp only [cxOf, Cx.nox, Cx.wish, List.map]

  obtain ⟨⟨dx, hb⟩, hr⟩ := id hB
  wtm_at "rd"
  refine us_check_saying hS ht hy fun H1 k1 => ?_
  have hb1 := k1.g0 hb
  have hr1 := hr.k0 k1
  have ht1 := k1.g0 ht
  wtm_at "rd"
  refine us__is_later hr1 hx ht1 (syOk_iff.mp hy).2.2.1 ?_
  have hd1 := hr1.at_
  have ht2 := ht1
  unfold Sy.tup at ht2
  have len : (kvT Sy.s xs).length < sizeLine := szlt (by
    rw [kvT_len]
    omega)
  wtm_at "rd"
  refine ite_n (fun h => ?_) (fun h => ?_)
  · wtm_at "rd"
    rw [decide_eq_false h] at kk
    refine kk _ ?_ k1.of0
    rw [takeT_neg h]
    exact hr1
  · wtm_at "rd"
    rw [decide_eq_true h] at kk
    refine kk _ ?_ (k1.of0.wr (by simp))
    have e := kvT_put Sy.s xs (t, y)
    rw [e, takeT_pos h]
    exact hr1.put ht1
theorem c_Book_take (T : Cx K mg) (B : Tb P w K mg base) : MetX P w K mg base CX0 6 (ga K "Book") "take" (sp_Book_take K) [] := by
  obtain ⟨fd, F, ok⟩ := f_Book_take (P := P) (w := w) (base := base) T B
  exact ⟨_, fd, p_Book_take, [], cl_Book T, mt_Book_take T, ok, FunD.bindsN F fun _ _ _ _ _ _ us hl => match us, hl with | [_, _], _ => rfl, .nil⟩
end
section
variable {P : Program} {w : World} {K : PySem.W.Frag} {mg : Str → Option Value} {base : Heap}
def sp_Book_of (K : PySem.W.Frag) : Sp := fun vs H Q E => ∃ (b s d : Addr) (xs : List (Addr × Sy)) (k : Int), vs = [.ref b, .int k] ∧ (BookAt K H b s d xs) ∧ (∀ v, IsY H v ((fdT Sy.s xs k).map (·.2)) → Q v H)
theorem us_Book_of {K : PySem.W.Frag} {H : Hp} {Q : VK} {E : XK} {b s d : Addr} {xs : List (Addr × Sy)} {k : Int} (hB : BookAt K H b s d xs) (kk : ∀ v, IsY H v ((fdT Sy.s xs k).map (·.2)) → Q v H) : sp_Book_of K [.ref b, .int k] H Q E := ⟨_, _, _, _, _, rfl, hB, kk⟩
theorem f_Book_of (T : Cx K mg) (B : Tb P w K mg base) : ∃ fd, FunD K "of" "Book.of" (defArgs s_Book_of) (defBody s_Book_of) (defScope s_Book_of) (d_Book_of.dvs K) (d_Book_of.kws K) (fAd K d_Book_of.at_) fd ∧ FnOk P w K mg base CX0 1 (fAd K d_Book_of.at_) fd p_Book_of (sp_Book_of K) := by
  obtain ⟨fd, F⟩ := T.says.def_ 20 (d := d_Book_of) rfl
  refine ⟨fd, F, fnD F sc_Book_of (fun vs H Q E h => by
    obtain ⟨_, _, _, _, _, rfl, _⟩ := h
    rfl) fun cdv A outer s H vs Q E hr h => ?_⟩
  have hu := hu_of hr
  obtain ⟨b, s, d, xs, k, rfl, hB, kk⟩ := h
  refine ⟨_, (pss_one (ps_ret (pe_dget1 hu (pe_fld (pv 0) rfl) (pv 1) ⟨rfl, rfl, rfl, rfl⟩))), ?_⟩
  rw [show L2.start n_Book_of [.ref b, .int k] = [some (.ref b), some (.int k)] from rfl]
  try dsimp only [cxOf, Cx.nox, Cx.wish, List.map]

  obtain ⟨⟨dx, hb⟩, hr⟩ := id hB
  have hd := hr.at_
  wtm_at "rd"
  exact kk _ (hr.findY k)
theorem c_Book_of (T : Cx K mg) (B : Tb P w K mg base) : MetX P w K mg base CX0 1 (ga K "Book") "of" (sp_Book_of K) [] := by
  obtain ⟨fd, F, ok⟩ := f_Book_of (P := P) (w := w) (base := base) T B
  exact ⟨_, fd, p_Book_of, [], cl_Book T, mt_Book_of T, ok, FunD.bindsN F fun _ _ _ _ _ _ us hl => match us, hl with | [_, _], _ => rfl, .nil⟩
end
section
variable {P : Program} {w : World} {K : PySem.W.Frag} {mg : Str → Option Value} {base : Heap}
def sp_Book_held (K : PySem.W.Frag) : Sp := fun vs H Q E => ∃ (b s d : Addr) (xs : List (Addr × Sy)), vs = [.ref b] ∧ (BookAt K H b s d xs) ∧ (∀ r H1, H1 r = some (.lst ((srt ((xs.map (·.2)).map Sy.s)).map V.int)) → Kp [] H H1 → H r = none → Q (.ref r) H1)
theorem us_Book_held {K : PySem.W.Frag} {H : Hp} {Q : VK} {E : XK} {b s d : Addr} {xs : List (Addr × Sy)} (hB : BookAt K H b s d xs) (kk : ∀ r H1, H1 r = some (.lst ((srt ((xs.map (·.2)).map Sy.s)).map V.int)) → Kp [] H H1 → H r = none → Q (.ref r) H1) : sp_Book_held K [.ref b] H Q E := ⟨_, _, _, _, rfl, hB, kk⟩
theorem f_Book_held (T : Cx K mg) (B : Tb P w K mg base) : ∃ fd, FunD K "held" "Book.held" (defArgs s_Book_held) (defBody s_Book_held) (defScope s_Book_held) (d_Book_held.dvs K) (d_Book_held.kws K) (fAd K d_Book_held.at_) fd ∧ FnOk P w K mg base CX0 1 (fAd K d_Book_held.at_) fd p_Book_held (sp_Book_held K) := by
  obtain ⟨fd, F⟩ := T.says.def_ 21 (d := d_Book_held) rfl
  refine ⟨fd, F, fnD F sc_Book_held (fun vs H Q E h => by
    obtain ⟨_, _, _, _, rfl, _⟩ := h
    rfl) fun cdv A outer s H vs Q E hr h => ?_⟩
  have hu := hu_of hr
  obtain ⟨b, s, d, xs, rfl, hB, kk⟩ := h
  refine ⟨_, (pss_one (ps_ret (pe_callB cr_sortedI (by rfl) (fr_sorted T) (by decide +kernel) (pa_cons (pe_callTy (call_listD rfl) (by rfl) (fr_list T) (by decide +kernel) (pa_cons (pe_fld (pv 0) rfl) pa_nil)) pa_nil)))), ?_⟩
  rw [show L2.start n_Book_held [.ref b] = [some (.ref b)] from rfl]
  try dsimp only [cxOf, Cx.nox, Cx.wish, List.map]

  obtain ⟨⟨dx, hb⟩, hr⟩ := id hB
  have hd := hr.at_
  wtm_at "rd"
  refine ⟨d, _, rfl, .inl hd, fun l nl => ?_⟩
  wtm_at "rd"
  refine rd_sortedI (ns := (xs.map (·.2)).map Sy.s) (by rw [kvT_keys]; exact upd_same) fun os r o1 o2 nr => ?_
  rw [srt_is o1 o2]
  exact kk r _ upd_same ((Kp.new nl).nw nr) ((Kp.new (ps := []) nl).back nr (by simp))
theorem c_Book_held (T : Cx K mg) (B : Tb P w K mg base) : MetX P w K mg base CX0 1 (ga K "Book") "held" (sp_Book_held K) [] := by
  obtain ⟨fd, F, ok⟩ := f_Book_held (P := P) (w := w) (base := base) T B
  exact ⟨_, fd, p_Book_held, [], cl_Book T, mt_Book_held T, ok, FunD.bindsN F fun _ _ _ _ _ _ us hl => match us, hl with | [_], _ => rfl, .nil⟩
end
section
variable {P : Program} {w : World} {K : PySem.W.Frag} {mg : Str → Option Value} {base : Heap}
def sp_Book_rows (K : PySem.W.Frag) : Sp := fun vs H Q E => ∃ (b s d : Addr) (xs : List (Addr × Sy)), vs = [.ref b] ∧ (BookAt K H b s d xs) ∧ (xs.length < 100000) ∧ (∀ r H1, SyL H1 r (rowsL xs) → Kp [] H H1 → H r = none → Q (.ref r) H1)
theorem us_Book_rows {K : PySem.W.Frag} {H : Hp} {Q : VK} {E : XK} {b s d : Addr} {xs : List (Addr × Sy)} (hB : BookAt K H b s d xs) (hn : xs.length < 100000) (kk : ∀ r H1, SyL H1 r (rowsL xs) → Kp [] H H1 → H r = none → Q (.ref r) H1) : sp_Book_rows K [.ref b] H Q E := ⟨_, _, _, _, rfl, hB, hn, kk⟩
theorem f_Book_rows (T : Cx K mg) (B : Tb P w K mg base) : ∃ fd, FunD K "rows" "Book.rows" (defArgs s_Book_rows) (defBody s_Book_rows) (defScope s_Book_rows) (d_Book_rows.dvs K) (d_Book_rows.kws K) (fAd K d_Book_rows.at_) fd ∧ FnOk P w K mg base CX0 2 (fAd K d_Book_rows.at_) fd p_Book_rows (sp_Book_rows K) := by
  have c_Book_held := c_Book_held (P := P) (w := w) (base := base) T B
  obtain ⟨fd, F⟩ := T.says.def_ 22 (d := d_Book_rows) rfl
  refine ⟨fd, F, fnD F sc_Book_rows (fun vs H Q E h => by
    obtain ⟨_, _, _, _, rfl, _⟩ := h
    rfl) fun cdv A outer s H vs Q E hr h => ?_⟩
  have hu := hu_of hr
  obtain ⟨b, s, d, xs, rfl, hB, hn, kk⟩ := h
  refine ⟨_, (pss_one (ps_ret (pe_lc (own := [("seat", 1)]) (g := (gName 1)) (tt := tYes) rfl sc_Book_rows.nd (pi_list (pe_met0 c_Book_held hr (by decide) pass0 (pv 0))) (blkOk_by (own := [("seat", 1)]) (N := n_Book_rows) (sc := defScope s_Book_rows) (by decide +kernel)) (fun _ _ _ _ _ => (pg_name (i := 1) sc_Book_rows.nd rfl (by first | exact Or.inl rfl | exact Or.inr rfl))) (fun _ _ _ _ _ => pts_nil) (fun _ _ _ _ _ => (pe_dget hu (pe_fldK (K := K) rfl (pv 0) rfl) (pv 1) (fun _ _ => rfl)))))), ?_⟩
  rw [show L2.start n_Book_rows [.ref b] = [some (.ref b), none] from rfl]
  try dsimp only [cxOf, Cx.nox, Cx.wish, List.map]

  obtain ⟨⟨dx, hb⟩, hr⟩ := id hB
  have hd := hr.at_
  wtm_at "rd"
  refine us_Book_held hB fun l H1 hl k1 nl => ?_
  wtm_at "rd"
  intro D nD
  have hf : ∀ k, k ∈ srt ((xs.map (·.2)).map Sy.s) → fdT Sy.s xs k = some ((fdT Sy.s xs k).getD (b, ⟨0, 0, "", ""⟩)) := fun k hk => by
    obtain ⟨p, hp⟩ := fdT_key ((srt_perm _).mem_iff.mp hk)
    rw [hp]
    rfl
  have hle : (srt ((xs.map (·.2)).map Sy.s)).length = xs.length := by
    rw [(srt_perm _).length_eq, List.length_map, List.length_map]
  refine lcF_ints (srt ((xs.map (·.2)).map Sy.s)) (fun _ => true) (fun k => V.ref ((fdT Sy.s xs k).getD (b, ⟨0, 0, "", ""⟩)).1) (SqL.of hl) nD (by omega) (fun i h H2 E N k2 hE hN => ?_) (fun H2 k2 hD2 => ?_)
  · have hb2 := k2.g0 (k1.g0 hb)
    have hd2 := k2.g0 (k1.g0 hd)
    wtm_at "rd"
    refine ⟨rfl, ?_⟩
    wtm_at "rd"
    refine rd_dgetX (dg_iv (by wtm_at "hp") (by rw [kvT_val, hf _ (List.getElem_mem h)]; rfl)) ?_
    exact hE _ Kp.refl rfl
  · refine kk D _ ⟨?_, fun p hp => ?_⟩ (k1.trans k2) (k1.back nD (by simp))
    · rw [hD2]
      unfold rowsL
      rw [rowsL_take (fun k hk => (srt_perm _).mem_iff.mp hk) hf, List.filter_eq_self.mpr (fun _ _ => rfl)]
      simp only [List.map_map]
      rfl
    · unfold rowsL at hp
      obtain ⟨k, hk, e⟩ := List.mem_filterMap.mp hp
      exact k2.g0 (k1.g0 (hr.find e))
theorem c_Book_rows (T : Cx K mg) (B : Tb P w K mg base) : MetX P w K mg base CX0 2 (ga K "Book") "rows" (sp_Book_rows K) [] := by
  obtain ⟨fd, F, ok⟩ := f_Book_rows (P := P) (w := w) (base := base) T B
  exact ⟨_, fd, p_Book_rows, [], cl_Book T, mt_Book_rows T, ok, FunD.bindsN F fun _ _ _ _ _ _ us hl => match us, hl with | [_], _ => rfl, .nil⟩
end
section
variable {P : Program} {w : World} {K : PySem.W.Frag} {mg : Str → Option Value} {base : Heap}
def sp_Book_rank_of (K : PySem.W.Frag) : Sp := fun vs H Q E => ∃ (b s d : Addr) (xs : List (Addr × Sy)) (k : Int), vs = [.ref b, .int k] ∧ (BookAt K H b s d xs) ∧ (∀ p, p ∈ xs → p.2.m ∈ MK) ∧ (Q (.int (rkO ((fdT Sy.s xs k).map (·.2)))) H)
theorem us_Book_rank_of {K : PySem.W.Frag} {H : Hp} {Q : VK} {E : XK} {b s d : Addr} {xs : List (Addr × Sy)} {k : Int} (hB : BookAt K H b s d xs) (hx : ∀ p, p ∈ xs → p.2.m ∈ MK) (kk : Q (.int (rkO ((fdT Sy.s xs k).map (·.2)))) H) : sp_Book_rank_of K [.ref b, .int k] H Q E := ⟨_, _, _, _, _, rfl, hB, hx, kk⟩
theorem f_Book_rank_of (T : Cx K mg) (B : Tb P w K mg base) : ∃ fd, FunD K "rank_of" "Book.rank_of" (defArgs s_Book_rank_of) (defBody s_Book_rank_of) (defScope s_Book_rank_of) (d_Book_rank_of.dvs K) (d_Book_rank_of.kws K) (fAd K d_Book_rank_of.at_) fd ∧ FnOk P w K mg base CX0 2 (fAd K d_Book_rank_of.at_) fd p_Book_rank_of (sp_Book_rank_of K) := by
  have c_rank := c_rank (P := P) (w := w) (base := base) T B
  obtain ⟨fd, F⟩ := T.says.def_ 23 (d := d_Book_rank_of) rfl
  refine ⟨fd, F, fnD F sc_Book_rank_of (fun vs H Q E h => by
    obtain ⟨_, _, _, _, _, rfl, _⟩ := h
    rfl) fun cdv A outer s H vs Q E hr h => ?_⟩
  have hu := hu_of hr
  obtain ⟨b, s, d, xs, k, rfl, hB, hx, kk⟩ := h
  refine ⟨_, (pss_one (ps_ret (pe_cal c_rank hr (by decide) (by rfl) pass0 (pa_cons (pe_dget1 hu (pe_fld (pv 0) rfl) (pv 1) ⟨rfl, rfl, rfl, rfl⟩) pa_nil)))), ?_⟩
  rw [show L2.start n_Book_rank_of [.ref b, .int k] = [some (.ref b), some (.int k)] from rfl]
  try dsimp only [cxOf, Cx.nox, Cx.wish, List.map]

  obtain ⟨⟨dx, hb⟩, hr⟩ := id hB
  have hd := hr.at_
  wtm_at "rd"
  refine us_rank (hr.findY k) (fun z e => ?_) ?_
  · obtain ⟨p, hp, rfl⟩ := Option.map_eq_some_iff.mp e
    exact hx p (fdT_some hp).1
  exact kk
theorem c_Book_rank_of (T : Cx K mg) (B : Tb P w K mg base) : MetX P w K mg base CX0 2 (ga K "Book") "rank_of" (sp_Book_rank_of K) [] := by
  obtain ⟨fd, F, ok⟩ := f_Book_rank_of (P := P) (w := w) (base := base) T B
  exact ⟨_, fd, p_Book_rank_of, [], cl_Book T, mt_Book_rank_of T, ok, FunD.bindsN F fun _ _ _ _ _ _ us hl => match us, hl with | [_, _], _ => rfl, .nil⟩
end
section
variable {P : Program} {w : World} {K : PySem.W.Frag} {mg : Str → Option Value} {base : Heap}
def sp_l_book (K : PySem.W.Frag) : Sp := fun vs H Q E => ∃ (s l p c : Addr) (st : Stg) (Ls : List Int) (z : Int), vs = [.ref s, .ref l, .int z, .ref p] ∧ (Box H p c) ∧ (SetAt K H s st) ∧ (H l = some (.lst (Ls.map V.int))) ∧ ((Ls.length : Int) = st.ring) ∧ (∀ x, x ∈ Ls → x ≤ 4 * MOST) ∧ (∀ b d xs H1, BookAt K H1 b s d xs → BkF xs Ls.length (fun k => yo z k (lv Ls k)) → xs.length ≤ 256 → (∀ q, q ∈ xs → syOk st.ring q.2 = true) → Box H1 p c → Kp [p] H H1 → H b = none → H d = none → Q (.ref b) H1)
theorem us_l_book {K : PySem.W.Frag} {H : Hp} {Q : VK} {E : XK} {s l p c : Addr} {st : Stg} {Ls : List Int} {z : Int} (hB : Box H p c) (hS : SetAt K H s st) (hl : H l = some (.lst (Ls.map V.int))) (hn : (Ls.length : Int) = st.ring) (hL : ∀ x, x ∈ Ls → x ≤ 4 * MOST) (kk : ∀ b d xs H1, BookAt K H1 b s d xs → BkF xs Ls.length (fun k => yo z k (lv Ls k)) → xs.length ≤ 256 → (∀ q, q ∈ xs → syOk st.ring q.2 = true) → Box H1 p c → Kp [p] H H1 → H b = none → H d = none → Q (.ref b) H1) : sp_l_book K [.ref s, .ref l, .int z, .ref p] H Q E := ⟨_, _, _, _, _, _, _, rfl, hB, hS, hl, hn, hL, kk⟩
theorem f_l_book (T : Cx K mg) (B : Tb P w K mg base) : ∃ fd, FunD K "_law_book" "_law_book" (defArgs s_l_book) (defBody s_l_book) (defScope s_l_book) (d_l_book.dvs K) (d_l_book.kws K) (fAd K d_l_book.at_) fd ∧ FnOk P w K mg base CX0 9 (fAd K d_l_book.at_) fd p_l_book (sp_l_book K) := by
  have c_l_rows := c_l_rows (P := P) (w := w) (base := base) T B
  have c_l_take := c_l_take (P := P) (w := w) (base := base) T B
  have c_Book_init := c_Book_init (P := P) (w := w) (base := base) T B
  obtain ⟨fd, F⟩ := T.says.def_ 24 (d := d_l_book) rfl
  refine ⟨fd, F, fnD F sc_l_book (fun vs H Q E h => by
    obtain ⟨_, _, _, _, _, _, _, rfl, _⟩ := h
    rfl) fun cdv A outer s H vs Q E hr h => ?_⟩
  have hu := hu_of hr
  obtain ⟨s, l, p, c, st, Ls, z, rfl, hB, hS, hl, hn, hL, kk⟩ := h
  refine ⟨_, (pss_cons (ps_set (i := 4) sc_l_book.nd rfl (by first | exact Or.inl rfl | exact Or.inr rfl) (pe_cal c_l_rows hr (by decide) (by rfl) pass0 (pa_cons (pv 1) (pa_cons (pv 2) pa_nil)))) (pss_cons (ps_set (i := 5) sc_l_book.nd rfl (by first | exact Or.inl rfl | exact Or.inr rfl) (pe_cal c_l_take hr (by decide) (by rfl) pass0 (pa_cons (pv 3) (pa_cons (pe_op op_add (pe_callB call_lenS (by rfl) (fr_len T) (by decide +kernel) (pa_cons (pv 4) pa_nil)) pe_int) pa_nil)))) (pss_one (ps_ret (pe_mak c_Book_init hr (by decide) (by rfl) pass0 (pa_cons (pv 0) (pa_cons (pe_op op_cat (pe_slice sl_list (pv 4) (po_some (pv 5)) po_none) (pe_slice sl_list (pv 4) po_none (po_some (pv 5)))) pa_nil))))))), ?_⟩
  rw [show L2.start n_l_book [.ref s, .ref l, .int z, .ref p] = [some (.ref s), some (.ref l), some (.int z), some (.ref p), none, none] from rfl]
  try dsimp only [cxOf, Cx.nox, Cx.wish, List.map]

  have rm := hS.ok.r256
  wtm_at "rd"
  refine us_l_rows hl (by omega) fun r ps H1 P1 e1 k1 nr => ?_
  have B1 := hB.k0 k1
  have hr1 := P1.at_
  have pl : ps.length ≤ Ls.length := by
    have := congrArg List.length e1
    rw [List.length_map] at this
    have := rowsF_len z (lv Ls) Ls.length
    omega
  wtm_at "rd"
  rw [List.length_map]
  refine us_l_take B1 (by omega) (by omega) fun cu H2 c0 c1 B2 k2 => ?_
  have nrp : r ≠ p := by
    obtain ⟨xs0, e0, _⟩ := hB.at
    exact Ne.symm (ne_of_none e0 nr)
  have nd0 : H r = none := nr
  have P2 : SyL H2 r ps := ⟨k2.g1 nrp hr1, fun q hq => k2.g1 (B1.off (P1.ob q hq) fun _ _ z => by cases z) (P1.ob q hq)⟩
  have hr2 := P2.at_
  have S2 : SetAt K H2 s st := (hS.k0 k1).k1 k2 (by
    obtain ⟨xs0, e0, _⟩ := B1.at
    exact (hS.k0 k1).nelst e0)
  obtain ⟨n, rfl⟩ := Int.eq_ofNat_of_zero_le c0
  wtm_at "rd"
  intro q1 nq1
  rw [cut_from]
  have k3 : Kp [] H2 (upd H2 q1 (.lst ((ps.map fun p => V.ref p.1).drop n))) := Kp.new nq1
  have g1 : upd H2 q1 (.lst ((ps.map fun p => V.ref p.1).drop n)) q1 = some (.lst ((ps.map fun p => V.ref p.1).drop n)) := upd_same
  generalize upd H2 q1 (.lst ((ps.map fun p => V.ref p.1).drop n)) = H3 at k3 g1
  have hr3 := k3.g0 hr2
  wtm_at "rd"
  intro q2 nq2
  rw [cut_to]
  have k4 : Kp [] H3 (upd H3 q2 (.lst ((ps.map fun p => V.ref p.1).take n))) := Kp.new nq2
  have g2 : upd H3 q2 (.lst ((ps.map fun p => V.ref p.1).take n)) q2 = some (.lst ((ps.map fun p => V.ref p.1).take n)) := upd_same
  generalize upd H3 q2 (.lst ((ps.map fun p => V.ref p.1).take n)) = H4 at k4 g2
  refine rd_cat (k4.g0 g1) g2 (sz1000 (by rw [List.length_drop, List.length_take, List.length_map]; omega)) fun q3 nq3 => ?_
  have k5 : Kp [] H4 (upd H4 q3 (.lst ((ps.map fun p => V.ref p.1).drop n ++ (ps.map fun p => V.ref p.1).take n))) := Kp.new nq3
  have g3 : upd H4 q3 (.lst ((ps.map fun p => V.ref p.1).drop n ++ (ps.map fun p => V.ref p.1).take n)) q3 = some (.lst ((ps.drop n ++ ps.take n).map fun p => V.ref p.1)) := by
    rw [upd_same, List.map_append, List.map_drop, List.map_take]
  generalize upd H4 q3 (.lst ((ps.map fun p => V.ref p.1).drop n ++ (ps.map fun p => V.ref p.1).take n)) = H5 at k5 g3
  have k25 := (k3.trans k4).trans k5
  have P5 : SyL H5 q3 (ps.drop n ++ ps.take n) := ⟨g3, fun q hq => k25.g0 (P2.ob q (by
    rcases List.mem_append.mp hq with h | h
    · exact List.mem_of_mem_drop h
    · exact List.mem_of_mem_take h))⟩
  have S5 := S2.k0 k25
  have B5 := B2.k0 k25
  have pm : (ps.drop n ++ ps.take n).Perm ps := by
    have := List.perm_append_comm (l₁ := ps.drop n) (l₂ := ps.take n)
    rwa [List.take_append_drop] at this
  have ok : ∀ q, q ∈ ps.drop n ++ ps.take n → syOk st.ring q.2 = true := fun q hq => by
    have m := List.mem_map_of_mem (f := fun q : Addr × Sy => q.2) (pm.mem_iff.mp hq)
    rw [e1] at m
    obtain ⟨k, h1, h2, h3⟩ := rowsF_mem m
    rw [h3]
    refine syL_ok (by omega) (by omega) h2 ?_
    unfold lv
    rw [List.getD_eq_getElem?_getD, List.getElem?_eq_getElem h1]
    exact hL _ (List.getElem_mem h1)
  have nd : ((ps.map (·.2)).map Sy.s).Nodup := by
    rw [e1]
    exact (rowsF_keys z (lv Ls) Ls.length).1.imp fun h => Int.ne_of_lt h
  wtm_at "rd"
  intro b dx nb ndx ne
  have kk1 : Kp [] H5 (upd (upd H5 dx (.own b)) b (.ins (ga K "Book") dx [])) := (Kp.new ndx).nw (hn_ne (Ne.symm ne) nb)
  refine us_Book_init upd_same (S5.k0 kk1) (.inl ⟨kk1.g0 P5.at_, fun q hq => kk1.g0 (P5.ob q hq)⟩) ok (by rw [pm.length_eq]; omega) fun d H6 K6 k6 nd6 => ⟨rfl, ?_⟩
  have k56 := made_kp nb ndx ne k6
  have ef : (ps.drop n ++ ps.take n).foldl takeT [] = ps.drop n ++ ps.take n := by
    rw [foldT_new _ [] (by
      rw [List.nil_append]
      have := ((pm.map (·.2)).map Sy.s).nodup_iff.mpr nd
      rwa [List.map_map] at this) fun q hq => by
      have := syOk_iff.mp (ok q hq)
      exact rk_pos this.2.1.1 this.2.2.1]
    rfl
  rw [ef] at K6
  have kall : Kp [p] H H6 := ((k1.of0.trans k2).trans k25.of0).trans k56.of0
  have nb0 : H b = none := ((k1.of0.trans k2).trans k25.of0 : Kp [p] H H5).back nb fun m => B5.ne1 nb (List.mem_singleton.mp m).symm
  have nd5 : H5 d = none := kk1.back nd6 (by simp)
  have nd0 : H d = none := ((k1.of0.trans k2).trans k25.of0 : Kp [p] H H5).back nd5 fun m => B5.ne1 nd5 (List.mem_singleton.mp m).symm
  refine kk b d _ H6 K6 (BkF.of ?_ (fun y hy => ?_) (fun k hk y hy => ?_)) (by rw [pm.length_eq]; omega) ok (B5.k0 k56) kall nb0 nd0
  · exact ((pm.map (·.2)).map Sy.s).nodup_iff.mpr nd
  · have m := (pm.map (·.2)).mem_iff.mp hy
    rw [e1] at m
    obtain ⟨k, h1, h2, h3⟩ := rowsF_mem m
    refine ⟨k, h1, by rw [h3]; rfl, ?_⟩
    unfold yo
    rw [if_pos h2, h3]
  · refine ⟨(pm.map (·.2)).mem_iff.mpr ?_, ?_⟩
    · rw [e1]
      unfold rowsF
      exact List.mem_filterMap.mpr ⟨k, List.mem_range.mpr hk, hy⟩
    · have hy : yo z k (lv Ls k) = some y := hy
      unfold yo at hy
      split at hy
      · cases hy
        rfl
      · cases hy
theorem c_l_book (T : Cx K mg) (B : Tb P w K mg base) : CalX P w K mg base CX0 9 "_law_book" (sp_l_book K) [] := by
  obtain ⟨fd, F, ok⟩ := f_l_book (P := P) (w := w) (base := base) T B
  exact ⟨_, fd, p_l_book, [], ok, gl_l_book T, F.kp, FunD.bindsN F fun _ _ _ _ _ _ us hl => match us, hl with | [_, _, _, _], _ => rfl, .nil⟩
end
section
variable {P : Program} {w : World} {K : PySem.W.Frag} {mg : Str → Option Value} {base : Heap}
def sp_l_is_saying (K : PySem.W.Frag) : Sp := fun vs H Q E => ∃ (t : Addr) (y : Sy), vs = [.ref t] ∧ (SyAt H t y) ∧ (Q (.bl true) H)
theorem us_l_is_saying {K : PySem.W.Frag} {H : Hp} {Q : VK} {E : XK} {t : Addr} {y : Sy} (ht : SyAt H t y) (kk : Q (.bl true) H) : sp_l_is_saying K [.ref t] H Q E := ⟨_, _, rfl, ht, kk⟩
theorem f_l_is_saying (T : Cx K mg) (B : Tb P w K mg base) : ∃ fd, FunD K "_law_is_saying" "_law_is_saying" (defArgs s_l_is_saying) (defBody s_l_is_saying) (defScope s_l_is_saying) (d_l_is_saying.dvs K) (d_l_is_saying.kws K) (fAd K d_l_is_saying.at_) fd ∧ FnOk P w K mg base CX0 2 (fAd K d_l_is_saying.at_) fd p_l_is_saying (sp_l_is_saying K) := by
  have c_l_whole := c_l_whole (P := P) (w := w) (base := base) T B
  obtain ⟨fd, F⟩ := T.says.def_ 25 (d := d_l_is_saying) rfl
  refine ⟨fd, F, fnD F sc_l_is_saying (fun vs H Q E h => by
    obtain ⟨_, _, rfl, _⟩ := h
    rfl) fun cdv A outer s H vs Q E hr h => ?_⟩
  have hu := hu_of hr
  obtain ⟨t, y, rfl, ht, kk⟩ := h
  refine ⟨_, (pss_cons (ps_if (PW.pt (pw_or (pt_not (pt_val (pe_callB call_isi (by rfl) (fr_isinstance T) (by decide +kernel) (pa_cons (pv 0) (pa_cons (pe_bltn (v := .ty "tuple") (by rfl) (fr_tuple T) (by decide +kernel) rfl) pa_nil))))) (pw_or1 (pt_cmpR op_ne (pe_callB call_lenS (by rfl) (fr_len T) (by decide +kernel) (pa_cons (pv 0) pa_nil)) pe_int (nomark _))))) (pss_one (ps_ret pe_bl)) pss_nil) (pss_one (ps_ret (pe_and (pe_cal c_l_whole hr (by decide) (by rfl) pass0 (pa_cons (pe_ix ix_tup (pv 0) pe_int (fun _ _ => rfl)) pa_nil)) (pe_and (pe_cal c_l_whole hr (by decide) (by rfl) pass0 (pa_cons (pe_ix ix_tup (pv 0) pe_int (fun _ _ => rfl)) pa_nil)) (pe_and (pe_callB call_isi (by rfl) (fr_isinstance T) (by decide +kernel) (pa_cons (pe_ix ix_tup (pv 0) pe_int (fun _ _ => rfl)) (pa_cons (pe_bltn (v := .ty "str") (by rfl) (fr_str T) (by decide +kernel) rfl) pa_nil))) (pe_one (pe_callB call_isi (by rfl) (fr_isinstance T) (by decide +kernel) (pa_cons (pe_ix ix_tup (pv 0) pe_int (fun _ _ => rfl)) (pa_cons (pe_bltn (v := .ty "str") (by rfl) (fr_str T) (by decide +kernel) rfl) pa_nil)))))))))), ?_⟩
  rw [show L2.start n_l_is_saying [.ref t] = [some (.ref t)] from rfl]
  try dsimp only [cxOf, Cx.nox, Cx.wish, List.map]

  have ht1 : H t = some (.tup [.int y.s, .int y.l, .str y.m, .str y.w]) := ht
  wtm_at "rd"
  refine ite_n (fun h => absurd rfl h) (fun _ => ?_)
  wtm_at "rd"
  refine us_l_whole ?_
  wtm_at "rd"
  refine us_l_whole ?_
  wtm_at "rd"
  exact kk
theorem c_l_is_saying (T : Cx K mg) (B : Tb P w K mg base) : CalX P w K mg base CX0 2 "_law_is_saying" (sp_l_is_saying K) [] := by
  obtain ⟨fd, F, ok⟩ := f_l_is_saying (P := P) (w := w) (base := base) T B
  exact ⟨_, fd, p_l_is_saying, [], ok, gl_l_is_saying T, F.kp, FunD.bindsN F fun _ _ _ _ _ _ us hl => match us, hl with | [_], _ => rfl, .nil⟩
end
section
variable {P : Program} {w : World} {K : PySem.W.Frag} {mg : Str → Option Value} {base : Heap}
def sp_l_same (K : PySem.W.Frag) : Sp := fun vs H Q E => ∃ (r1 r2 : Addr) (ps qs : List (Addr × Sy)), vs = [.ref r1, .ref r2] ∧ (SyL H r1 ps) ∧ (SyL H r2 qs) ∧ (ps.map (·.2) = qs.map (·.2)) ∧ (∀ y, y ∈ qs.map (·.2) → y.T) ∧ (qs.length ≤ 10000) ∧ (Q (.bl true) H)
theorem us_l_same {K : PySem.W.Frag} {H : Hp} {Q : VK} {E : XK} {r1 r2 : Addr} {ps qs : List (Addr × Sy)} (h1 : SyL H r1 ps) (h2 : SyL H r2 qs) (he : ps.map (·.2) = qs.map (·.2)) (hT : ∀ y, y ∈ qs.map (·.2) → y.T) (hn : qs.length ≤ 10000) (kk : Q (.bl true) H) : sp_l_same K [.ref r1, .ref r2] H Q E := ⟨_, _, _, _, rfl, h1, h2, he, hT, hn, kk⟩
theorem f_l_same (T : Cx K mg) (B : Tb P w K mg base) : ∃ fd, FunD K "_law_same" "_law_same" (defArgs s_l_same) (defBody s_l_same) (defScope s_l_same) (d_l_same.dvs K) (d_l_same.kws K) (fAd K d_l_same.at_) fd ∧ FnOk P w K mg base CX0 3 (fAd K d_l_same.at_) fd p_l_same (sp_l_same K) := by
  have c_l_is_saying := c_l_is_saying (P := P) (w := w) (base := base) T B
  obtain ⟨fd, F⟩ := T.says.def_ 26 (d := d_l_same) rfl
  refine ⟨fd, F, fnD F sc_l_same (fun vs H Q E h => by
    obtain ⟨_, _, _, _, rfl, _⟩ := h
    rfl) fun cdv A outer s H vs Q E hr h => ?_⟩
  have hu := hu_of hr
  obtain ⟨r1, r2, ps, qs, rfl, h1, h2, he, hT, hn, kk⟩ := h
  refine ⟨_, (pss_cons (ps_if (PW.pt (pw_or (pt_not (pt_val (pe_callB call_isi (by rfl) (fr_isinstance T) (by decide +kernel) (pa_cons (pv 0) (pa_cons (pe_bltn (v := .ty "list") (by rfl) (fr_list T) (by decide +kernel) rfl) pa_nil))))) (pw_or1 (pt_cmpR op_ne (pe_callB call_lenS (by rfl) (fr_len T) (by decide +kernel) (pa_cons (pv 0) pa_nil)) (pe_callB call_lenS (by rfl) (fr_len T) (by decide +kernel) (pa_cons (pv 1) pa_nil)) (nomark _))))) (pss_one (ps_ret pe_bl)) pss_nil) (pss_cons (ps_for PassesOwn.never rfl (pi_range1 (by rfl) (fr_range T) (pa_cons (pe_callB call_lenS (by rfl) (fr_len T) (by decide +kernel) (pa_cons (pv 1) pa_nil)) pa_nil)) (pg_name (i := 2) sc_l_same.nd rfl (by first | exact Or.inl rfl | exact Or.inr rfl)) (pss_one (ps_if (PW.pt (pw_or (pt_not (pt_val (pe_cal c_l_is_saying hr (by decide) (by rfl) pass0 (pa_cons (pe_ix ix_list (pv 0) (pv 2) (fun _ _ => rfl)) pa_nil)))) (pw_or1 (pt_cmpR (op_neD hr.units) (pe_ix ix_list (pv 0) (pv 2) (fun _ _ => rfl)) (pe_ix ix_list (pv 1) (pv 2) (fun _ _ => rfl)) (nomark _))))) (pss_one (ps_ret pe_bl)) pss_nil))) (pss_one (ps_ret pe_bl)))), ?_⟩
  rw [show L2.start n_l_same [.ref r1, .ref r2] = [some (.ref r1), some (.ref r2), none] from rfl]
  try dsimp only [cxOf, Cx.nox, Cx.wish, List.map]

  have hl : ps.length = qs.length := by
    have := congrArg List.length he
    rwa [List.length_map, List.length_map] at this
  have g1 := h1.at_
  have g2 := h2.at_
  wtm_at "rd"
  refine ite_n (fun h => absurd (by rw [List.length_map, List.length_map, hl]) h) (fun _ => ?_)
  wtm_at "rd"
  refine rd_iRng1X (by omega) (by rw [List.length_map]; omega) ?_
  wtm_at "rd"
  refine forR_by (fun i σ H1 => (∃ v2, σ = [some (.ref r1), some (.ref r2), v2]) ∧ H1 = H) ⟨⟨_, rfl⟩, rfl⟩ ?_ ?_
  · rintro i σ H1 hi ⟨⟨v2, rfl⟩, rfl⟩
    rw [List.length_map] at hi
    have hi2 : i < qs.length := by omega
    have hi1 : i < ps.length := by omega
    have ea : atI (ps.map fun p => V.ref p.1) (0 + (i : Int)) = some (.ref ps[i].1) := by
      rw [Int.zero_add]
      exact atI_nat (by rw [List.getElem?_map, List.getElem?_eq_getElem hi1]; rfl)
    have eb : atI (qs.map fun p => V.ref p.1) (0 + (i : Int)) = some (.ref qs[i].1) := by
      rw [Int.zero_add]
      exact atI_nat (by rw [List.getElem?_map, List.getElem?_eq_getElem hi2]; rfl)
    have e2 : ps[i].2 = qs[i].2 := by
      have := congrArg (fun l => l[i]?) he
      simp only [List.getElem?_map, List.getElem?_eq_getElem hi1, List.getElem?_eq_getElem hi2, Option.map_some] at this
      exact Option.some.inj this
    have s1 := h1.ob ps[i] (List.getElem_mem hi1)
    have s2 := h2.ob qs[i] (List.getElem_mem hi2)
    have t2 : qs[i].2.T := hT _ (List.mem_map_of_mem (List.getElem_mem hi2))
    wtm_at "rd"
    refine us_l_is_saying s1 ?_
    wtm_at "rd"
    refine rd_neSy s1 s2 (e2 ▸ t2) t2 ?_
    rw [decide_eq_true e2]
    wtm_at "rd"
    exact ⟨⟨_, rfl⟩, rfl⟩
  · rintro σ H1 ⟨⟨v2, rfl⟩, rfl⟩
    wtm_at "rd"
    exact kk
theorem c_l_same (T : Cx K mg) (B : Tb P w K mg base) : CalX P w K mg base CX0 3 "_law_same" (sp_l_same K) [] := by
  obtain ⟨fd, F, ok⟩ := f_l_same (P := P) (w := w) (base := base) T B
  exact ⟨_, fd, p_l_same, [], ok, gl_l_same T, F.kp, FunD.bindsN F fun _ _ _ _ _ _ us hl => match us, hl with | [_, _], _ => rfl, .nil⟩
end
section
variable {P : Program} {w : World} {K : PySem.W.Frag} {mg : Str → Option Value} {base : Heap}
def sp_moments (K : PySem.W.Frag) : Sp := fun vs H Q E => ∃ (b s d : Addr) (xs : List (Addr × Sy)) (low : Int) (w : Nat), vs = [.ref b, .int low, .int w] ∧ (BookAt K H b s d xs) ∧ (∀ p, p ∈ xs → p.2.m ∈ MK) ∧ (w ≤ 256) ∧ (∀ t H1, MomAt H1 t (mom (fun i => bkm xs (low + i)) w) → Kp [] H H1 → H t = none → Q (.ref t) H1)
theorem us_moments {K : PySem.W.Frag} {H : Hp} {Q : VK} {E : XK} {b s d : Addr} {xs : List (Addr × Sy)} {low : Int} {w : Nat} (hB : BookAt K H b s d xs) (hx : ∀ p, p ∈ xs → p.2.m ∈ MK) (hw : w ≤ 256) (kk : ∀ t H1, MomAt H1 t (mom (fun i => bkm xs (low + i)) w) → Kp [] H H1 → H t = none → Q (.ref t) H1) : sp_moments K [.ref b, .int low, .int w] H Q E := ⟨_, _, _, _, _, _, rfl, hB, hx, hw, kk⟩
theorem f_moments (T : Cx K mg) (B : Tb P w K mg base) : ∃ fd, FunD K "moments" "moments" (defArgs s_moments) (defBody s_moments) (defScope s_moments) (d_moments.dvs K) (d_moments.kws K) (fAd K d_moments.at_) fd ∧ FnOk P w K mg base CX0 3 (fAd K d_moments.at_) fd p_moments (sp_moments K) := by
  have c_Book_rank_of := c_Book_rank_of (P := P) (w := w) (base := base) T B
  obtain ⟨fd, F⟩ := T.says.def_ 27 (d := d_moments) rfl
  refine ⟨fd, F, fnD F sc_moments (fun vs H Q E h => by
    obtain ⟨_, _, _, _, _, _, rfl, _⟩ := h
    rfl) fun cdv A outer s H vs Q E hr h => ?_⟩
  have hu := hu_of hr
  obtain ⟨b, s, d, xs, low, w, rfl, hB, hx, hw, kk⟩ := h
  refine ⟨_, (pss_cons (ps_set (i := 3) sc_moments.nd rfl (by first | exact Or.inl rfl | exact Or.inr rfl) pe_int) (pss_cons (ps_set (i := 4) sc_moments.nd rfl (by first | exact Or.inl rfl | exact Or.inr rfl) pe_int) (pss_cons (ps_set (i := 5) sc_moments.nd rfl (by first | exact Or.inl rfl | exact Or.inr rfl) pe_int) (pss_cons (ps_for PassesOwn.never rfl (pi_range2 (by rfl) (fr_range T) (pa_cons pe_int (pa_cons (pe_op op_add (pv 2) pe_int) pa_nil))) (pg_name (i := 6) sc_moments.nd rfl (by first | exact Or.inl rfl | exact Or.inr rfl)) (pss_cons (ps_set (i := 7) sc_moments.nd rfl (by first | exact Or.inl rfl | exact Or.inr rfl) (pe_met c_Book_rank_of hr (by decide) pass0 (pv 0) (pa_cons (pe_op op_sub (pe_op op_add (pv 1) (pv 6)) pe_int) pa_nil))) (pss_cons (ps_aug (i := 3) sc_moments.nd rfl (by first | exact Or.inl rfl | exact Or.inr rfl) (pv 7) ip_add) (pss_cons (ps_aug (i := 4) sc_moments.nd rfl (by first | exact Or.inl rfl | exact Or.inr rfl) (pe_op op_mul (pv 7) (pv 6)) ip_add) (pss_one (ps_aug (i := 5) sc_moments.nd rfl (by first | exact Or.inl rfl | exact Or.inr rfl) (pe_op op_mul (pe_op op_mul (pv 7) (pv 6)) (pv 6)) ip_add)))))) (pss_one (ps_ret (pe_tup (pa_cons (pv 3) (pa_cons (pv 4) (pa_cons (pv 5) pa_nil)))))))))), ?_⟩
  rw [show L2.start n_moments [.ref b, .int low, .int w] = [some (.ref b), some (.int low), some (.int w), none, none, none, none, none] from rfl]
  try dsimp only [cxOf, Cx.nox, Cx.wish, List.map]

  obtain ⟨dx, hb⟩ := hB.ob
  wtm_at "rd"
  refine forR_by (fun i σ H1 => (∃ v6 v7, σ = [some (.ref b), some (.int low), some (.int w), some (.int (S0 (fun i => bkm xs (low + i)) i)), some (.int (S1 (fun i => bkm xs (low + i)) i)), some (.int (S2 (fun i => bkm xs (low + i)) i)), v6, v7]) ∧ H1 = H) ⟨⟨_, _, rfl⟩, rfl⟩ ?_ ?_
  · rintro i σ H1 hi ⟨⟨v6, v7, rfl⟩, rfl⟩
    rw [Int.add_comm 1 (i : Int)]
    have hi2 : i < 256 := by omega
    wtm_at "rd"
    have e : low + ((i : Int) + 1) - 1 = low + i := by omega
    rw [e]
    refine us_Book_rank_of hB hx ?_
    wtm_at "rd"
    exact ⟨⟨_, _, rfl⟩, rfl⟩
  · rintro σ H1 ⟨⟨v6, v7, rfl⟩, rfl⟩
    wtm_at "rd"
    refine ⟨sz1000 (by simp), fun t nt => ?_⟩
    have e : (((w : Int) + 1) - 1).toNat = w := by omega
    rw [e] at *
    exact kk t _ upd_same (Kp.new nt) nt
theorem c_moments (T : Cx K mg) (B : Tb P w K mg base) : CalX P w K mg base CX0 3 "moments" (sp_moments K) [] := by
  obtain ⟨fd, F, ok⟩ := f_moments (P := P) (w := w) (base := base) T B
  exact ⟨_, fd, p_moments, [], ok, gl_moments T, F.kp, FunD.bindsN F fun _ _ _ _ _ _ us hl => match us, hl with | [_, _, _], _ => rfl, .nil⟩
end
section
variable {P : Program} {w : World} {K : PySem.W.Frag} {mg : Str → Option Value} {base : Heap}
def sp_Side__own_sum (K : PySem.W.Frag) : Sp := fun vs H Q E => ∃ (x s b d q : Addr) (v : V) (R : Int) (Y : Int → Option Sy) (L : List It) (low : Int) (w : Nat), vs = [.ref x, .int low, .int w] ∧ (SidAt K H x s b d q v R Y L) ∧ (w ≤ 256) ∧ (∀ t H1, ItAt H1 t (ownS Y low w) → Kp [] H H1 → H t = none → Q (.ref t) H1)
theorem us_Side__own_sum {K : PySem.W.Frag} {H : Hp} {Q : VK} {E : XK} {x s b d q : Addr} {v : V} {R : Int} {Y : Int → Option Sy} {L : List It} {low : Int} {w : Nat} (hA : SidAt K H x s b d q v R Y L) (hw : w ≤ 256) (kk : ∀ t H1, ItAt H1 t (ownS Y low w) → Kp [] H H1 → H t = none → Q (.ref t) H1) : sp_Side__own_sum K [.ref x, .int low, .int w] H Q E := ⟨_, _, _, _, _, _, _, _, _, _, _, rfl, hA, hw, kk⟩
theorem f_Side__own_sum (T : Cx K mg) (B : Tb P w K mg base) : ∃ fd, FunD K "_own_sum" "Side._own_sum" (defArgs s_Side__own_sum) (defBody s_Side__own_sum) (defScope s_Side__own_sum) (d_Side__own_sum.dvs K) (d_Side__own_sum.kws K) (fAd K d_Side__own_sum.at_) fd ∧ FnOk P w K mg base CX0 4 (fAd K d_Side__own_sum.at_) fd p_Side__own_sum (sp_Side__own_sum K) := by
  have c_moments := c_moments (P := P) (w := w) (base := base) T B
  obtain ⟨fd, F⟩ := T.says.def_ 28 (d := d_Side__own_sum) rfl
  refine ⟨fd, F, fnD F sc_Side__own_sum (fun vs H Q E h => by
    obtain ⟨_, _, _, _, _, _, _, _, _, _, _, rfl, _⟩ := h
    rfl) fun cdv A outer s H vs Q E hr h => ?_⟩
  have hu := hu_of hr
  obtain ⟨x, s, b, d, q, v, R, Y, L, low, w, rfl, hA, hw, kk⟩ := h
  refine ⟨_, (pss_cons (ps_asg (pe_cal c_moments hr (by decide) (by rfl) pass0 (pa_cons (pe_fld (pv 0) rfl) (pa_cons (pv 1) (pa_cons (pv 2) pa_nil)))) (pg_tup rfl (pgs_cons (pg_name (i := 3) sc_Side__own_sum.nd rfl (by first | exact Or.inl rfl | exact Or.inr rfl)) (pgs_cons (pg_name (i := 4) sc_Side__own_sum.nd rfl (by first | exact Or.inl rfl | exact Or.inr rfl)) (pgs_cons (pg_name (i := 5) sc_Side__own_sum.nd rfl (by first | exact Or.inl rfl | exact Or.inr rfl)) pgs_nil))))) (pss_one (ps_ret (pe_tup (pa_cons (pv 1) (pa_cons (pv 2) (pa_cons (pv 3) (pa_cons (pv 4) (pa_cons (pv 5) pa_nil))))))))), ?_⟩
  rw [show L2.start n_Side__own_sum [.ref x, .int low, .int w] = [some (.ref x), some (.int low), some (.int w), none, none, none] from rfl]
  try dsimp only [cxOf, Cx.nox, Cx.wish, List.map]

  obtain ⟨dx, hx⟩ := hA.ob
  obtain ⟨xs, B, e, nd, ok⟩ := hA.bk
  wtm_at "rd"
  refine us_moments B (fun p hp => (syOk_iff.mp (ok p hp)).2.2.1) hw fun t H1 ht k1 nt => ?_
  have ht1 : H1 t = some (.tup [.int (mO Y low w).m0, .int (mO Y low w).m1, .int (mO Y low w).m2]) := by
    rw [← e]
    exact ht
  wtm_at "rd"
  refine ⟨sz1000 (by simp), fun u nu => ?_⟩
  exact kk u _ upd_same (k1.nw nu) (k1.back nu (by simp))
theorem c_Side__own_sum (T : Cx K mg) (B : Tb P w K mg base) : MetX P w K mg base CX0 4 (ga K "Side") "_own_sum" (sp_Side__own_sum K) [] := by
  obtain ⟨fd, F, ok⟩ := f_Side__own_sum (P := P) (w := w) (base := base) T B
  exact ⟨_, fd, p_Side__own_sum, [], cl_Side T, mt_Side__own_sum T, ok, FunD.bindsN F fun _ _ _ _ _ _ us hl => match us, hl with | [_, _, _], _ => rfl, .nil⟩
end
section
variable {P : Program} {w : World} {K : PySem.W.Frag} {mg : Str → Option Value} {base : Heap}
def sp_halves (K : PySem.W.Frag) : Sp := fun vs H Q E => ∃ (low : Int) (w : Nat), vs = [.int low, .int w] ∧ (∀ t1 t2 t H1, H1 t1 = some (.tup [.int low, .int ((w / 2 : Nat) : Int)]) → H1 t2 = some (.tup [.int (low + ((w / 2 : Nat) : Int)), .int ((w / 2 : Nat) : Int)]) → H1 t = some (.tup [.ref t1, .ref t2]) → Kp [] H H1 → H t = none → Q (.ref t) H1)
theorem us_halves {K : PySem.W.Frag} {H : Hp} {Q : VK} {E : XK} {low : Int} {w : Nat}  (kk : ∀ t1 t2 t H1, H1 t1 = some (.tup [.int low, .int ((w / 2 : Nat) : Int)]) → H1 t2 = some (.tup [.int (low + ((w / 2 : Nat) : Int)), .int ((w / 2 : Nat) : Int)]) → H1 t = some (.tup [.ref t1, .ref t2]) → Kp [] H H1 → H t = none → Q (.ref t) H1) : sp_halves K [.int low, .int w] H Q E := ⟨_, _, rfl, kk⟩
theorem f_halves (T : Cx K mg) (B : Tb P w K mg base) : ∃ fd, FunD K "halves" "halves" (defArgs s_halves) (defBody s_halves) (defScope s_halves) (d_halves.dvs K) (d_halves.kws K) (fAd K d_halves.at_) fd ∧ FnOk P w K mg base CX0 1 (fAd K d_halves.at_) fd p_halves (sp_halves K) := by
  obtain ⟨fd, F⟩ := T.says.def_ 29 (d := d_halves) rfl
  refine ⟨fd, F, fnD F sc_halves (fun vs H Q E h => by
    obtain ⟨_, _, rfl, _⟩ := h
    rfl) fun cdv A outer s H vs Q E hr h => ?_⟩
  have hu := hu_of hr
  obtain ⟨low, w, rfl, kk⟩ := h
  refine ⟨_, (pss_cons (ps_set (i := 2) sc_halves.nd rfl (by first | exact Or.inl rfl | exact Or.inr rfl) (pe_op op_fdiv (pv 1) pe_int)) (pss_one (ps_ret (pe_tup (pa_cons (pe_tup (pa_cons (pv 0) (pa_cons (pv 2) pa_nil))) (pa_cons (pe_tup (pa_cons (pe_op op_add (pv 0) (pv 2)) (pa_cons (pv 2) pa_nil))) pa_nil)))))), ?_⟩
  rw [show L2.start n_halves [.int low, .int w] = [some (.int low), some (.int w), none] from rfl]
  try dsimp only [cxOf, Cx.nox, Cx.wish, List.map]

  wtm_at "rd"
  rw [show (w : Int) / 2 = ((w / 2 : Nat) : Int) from rfl]
  refine ⟨sz1000 (by simp), fun t1 n1 => ?_⟩
  wtm_at "rd"
  refine ⟨sz1000 (by simp), fun t2 n2 => ?_⟩
  wtm_at "rd"
  refine ⟨sz1000 (by simp), fun t n3 => ?_⟩
  exact kk t1 t2 t _ (by wtm_at "hp") (by wtm_at "hp") upd_same (((Kp.new n1).nw n2).nw n3) (((Kp.new (ps := []) n1).nw n2).back n3 (by simp))
theorem c_halves (T : Cx K mg) (B : Tb P w K mg base) : CalX P w K mg base CX0 1 "halves" (sp_halves K) [] := by
  obtain ⟨fd, F, ok⟩ := f_halves (P := P) (w := w) (base := base) T B
  exact ⟨_, fd, p_halves, [], ok, gl_halves T, F.kp, FunD.bindsN F fun _ _ _ _ _ _ us hl => match us, hl with | [_, _], _ => rfl, .nil⟩
end
section
variable {P : Program} {w : World} {K : PySem.W.Frag} {mg : Str → Option Value} {base : Heap}
def sp_Side__answer_sum (K : PySem.W.Frag) : Sp := fun vs H Q E => ∃ (x s b d q : Addr) (v : V) (R : Int) (Y : Int → Option Sy) (L : List It) (low : Int) (w : Nat), vs = [.ref x, .int low, .int w] ∧ (SidAt K H x s b d q v R Y L) ∧ (1 ≤ w ∧ w ≤ 256) ∧ (L.length ≤ 200000) ∧ (∀ H1, SidAt K H1 x s b d q v R Y (L ++ ansS Y low w) → Kp [q] H H1 → Q .non H1)
theorem us_Side__answer_sum {K : PySem.W.Frag} {H : Hp} {Q : VK} {E : XK} {x s b d q : Addr} {v : V} {R : Int} {Y : Int → Option Sy} {L : List It} {low : Int} {w : Nat} (hA : SidAt K H x s b d q v R Y L) (hw : 1 ≤ w ∧ w ≤ 256) (hL : L.length ≤ 200000) (kk : ∀ H1, SidAt K H1 x s b d q v R Y (L ++ ansS Y low w) → Kp [q] H H1 → Q .non H1) : sp_Side__answer_sum K [.ref x, .int low, .int w] H Q E := ⟨_, _, _, _, _, _, _, _, _, _, _, rfl, hA, hw, hL, kk⟩
theorem f_Side__answer_sum (T : Cx K mg) (B : Tb P w K mg base) : ∃ fd, FunD K "_answer_sum" "Side._answer_sum" (defArgs s_Side__answer_sum) (defBody s_Side__answer_sum) (defScope s_Side__answer_sum) (d_Side__answer_sum.dvs K) (d_Side__answer_sum.kws K) (fAd K d_Side__answer_sum.at_) fd ∧ FnOk P w K mg base CX0 5 (fAd K d_Side__answer_sum.at_) fd p_Side__answer_sum (sp_Side__answer_sum K) := by
  have c_halves := c_halves (P := P) (w := w) (base := base) T B
  have c_Side__own_sum := c_Side__own_sum (P := P) (w := w) (base := base) T B
  have c_Book_of := c_Book_of (P := P) (w := w) (base := base) T B
  obtain ⟨fd, F⟩ := T.says.def_ 30 (d := d_Side__answer_sum) rfl
  refine ⟨fd, F, fnD F sc_Side__answer_sum (fun vs H Q E h => by
    obtain ⟨_, _, _, _, _, _, _, _, _, _, _, rfl, _⟩ := h
    rfl) fun cdv A outer s H vs Q E hr h => ?_⟩
  have hu := hu_of hr
  obtain ⟨x, s, b, d, q, v, R, Y, L, low, w, rfl, hA, hw, hL, kk⟩ := h
  refine ⟨_, (pss_cons (ps_if (pt_cmpR op_gt (pv 2) pe_int (nomark _)) (pss_cons (ps_for PassesOwn.never rfl (pi_tup (pe_cal c_halves hr (by decide) (by rfl) pass0 (pa_cons (pv 1) (pa_cons (pv 2) pa_nil)))) (pg_tup rfl (pgs_cons (pg_name (i := 3) sc_Side__answer_sum.nd rfl (by first | exact Or.inl rfl | exact Or.inr rfl)) (pgs_cons (pg_name (i := 4) sc_Side__answer_sum.nd rfl (by first | exact Or.inl rfl | exact Or.inr rfl)) pgs_nil))) (pss_one (ps_expr (pe_bm PySem.F.plainAttrs_list PySem.F.slot_list_append PySem.F.type_list_append mt_append (pe_fld (pv 0) rfl) (pa_cons (pe_met c_Side__own_sum hr (by decide) pass0 (pv 0) (pa_cons (pv 3) (pa_cons (pv 4) pa_nil))) pa_nil))))) (pss_one ps_retN)) pss_nil) (pss_cons (ps_set (i := 5) sc_Side__answer_sum.nd rfl (by first | exact Or.inl rfl | exact Or.inr rfl) (pe_met c_Book_of hr (by decide) pass0 (pe_fld (pv 0) rfl) (pa_cons (pv 1) pa_nil))) (pss_one (ps_if (pt_cmp (pc_isN (pv 5))) (pss_one (ps_expr (pe_bm PySem.F.plainAttrs_list PySem.F.slot_list_append PySem.F.type_list_append mt_append (pe_fld (pv 0) rfl) (pa_cons (pe_met c_Side__own_sum hr (by decide) pass0 (pv 0) (pa_cons (pv 1) (pa_cons pe_int pa_nil))) pa_nil)))) (pss_one (ps_expr (pe_bm PySem.F.plainAttrs_list PySem.F.slot_list_append PySem.F.type_list_append mt_append (pe_fld (pv 0) rfl) (pa_cons (pv 5) pa_nil)))))))), ?_⟩
  rw [show L2.start n_Side__answer_sum [.ref x, .int low, .int w] = [some (.ref x), some (.int low), some (.int w), none, none, none] from rfl]
  try dsimp only [cxOf, Cx.nox, Cx.wish, List.map]

  obtain ⟨hw1, hw2⟩ := hw
  obtain ⟨dx, hx⟩ := hA.ob
  wtm_at "rd"
  refine ite_d (fun h => ?_) (fun h => ?_)
  · have hw : 1 < w := by omega
    wtm_at "rd"
    refine us_halves fun t1 t2 t H1 h1 h2 h3 k1 nt => ?_
    have A1 := hA.k0 k1
    wtm_at "rd"
    refine forT_by (K := K) [V.ref t1, V.ref t2] (fun i σ H2 => (∃ v3 v4 v5, σ = [some (.ref x), some (.int low), some (.int w), v3, v4, v5]) ∧ SidAt K H2 x s b d q v R Y (L ++ ([ownS Y low (w / 2), ownS Y (low + ((w / 2 : Nat) : Int)) (w / 2)]).take i) ∧ Kp [q] H1 H2) ⟨⟨_, _, _, rfl⟩, by rw [List.take_zero, List.append_nil]; exact A1, Kp.refl⟩ (fun i σ H2 _ p => .inl (.inl (p.2.2.g1 (by
      obtain ⟨l, hl⟩ := A1.ql
      exact ne_of h3 hl (by intro z; cases z)) h3))) ?_ ?_
    · rintro i y σ H2 hy ⟨⟨v3, v4, v5, rfl⟩, A2, k2⟩
      have hq : ∀ (u : Addr) vs, H1 u = some (.tup vs) → H2 u = some (.tup vs) := fun u vs e => k2.g1 (by
        obtain ⟨l, hl⟩ := A1.ql
        exact ne_of e hl (by intro z; cases z)) e
      have g1 := hq _ _ h1
      have g2 := hq _ _ h2
      obtain ⟨dx2, hx2⟩ := A2.ob
      obtain ⟨ps0, P0, -⟩ := A2.qu
      have hq0 := P0.at_
      have hi : i < 2 := (List.getElem?_eq_some_iff.mp hy).1
      have : i = 0 ∨ i = 1 := by omega
      rcases this with rfl | rfl
      · have e : y = .ref t1 := (Option.some.inj hy).symm
        subst e
        wtm_at "rd"
        refine us_Side__own_sum A2 (by omega) fun u H3 hu k3 nu => ?_
        have A3 := A2.k0 k3
        obtain ⟨ps, P, e⟩ := A3.qu
        have hqa := P.at_
        have len : (ps.map fun p => V.ref p.1).length < sizeLine := szlt (by
          have := congrArg List.length e
          rw [List.length_map] at this ⊢
          rw [this]
          simp
          omega)
        wtm_at "rd"
        refine ⟨⟨_, _, _, rfl⟩, ?_, (k2.trans k3.of0).wr (by simp)⟩
        have := A3.app P e hu (okI_own (by omega) (by omega))
        rw [List.take_zero, List.append_nil] at this
        exact this
      · have e : y = .ref t2 := (Option.some.inj hy).symm
        subst e
        wtm_at "rd"
        refine us_Side__own_sum A2 (by omega) fun u H3 hu k3 nu => ?_
        have A3 := A2.k0 k3
        obtain ⟨ps, P, e⟩ := A3.qu
        have hqa := P.at_
        have len : (ps.map fun p => V.ref p.1).length < sizeLine := szlt (by
          have := congrArg List.length e
          rw [List.length_map] at this ⊢
          rw [this]
          simp
          omega)
        wtm_at "rd"
        refine ⟨⟨_, _, _, rfl⟩, ?_, (k2.trans k3.of0).wr (by simp)⟩
        have := A3.app P e hu (okI_own (by omega) (by omega))
        rw [List.append_assoc] at this
        exact this
    · rintro σ H2 ⟨⟨v3, v4, v5, rfl⟩, A2, k2⟩
      wtm_at "rd"
      have e : ansS Y low w = [ownS Y low (w / 2), ownS Y (low + ((w / 2 : Nat) : Int)) (w / 2)] := if_pos hw
      rw [e] at kk
      exact kk _ A2 (k1.of0.trans k2)
  · have hw : w = 1 := by omega
    subst hw
    obtain ⟨xs, B, eY, nd, ok⟩ := hA.bk
    obtain ⟨dxb, hbo⟩ := B.ob
    wtm_at "rd"
    refine us_Book_of B fun hv hh => ?_
    have hh : IsY H hv (Y low) := by
      rw [← eY]
      exact hh
    cases eo : Y low with
    | none =>
      rw [eo] at hh
      obtain rfl : hv = .non := hh
      obtain ⟨ps0, P0, -⟩ := hA.qu
      have hq0 := P0.at_
      wtm_at "rd"
      refine us_Side__own_sum (w := 1) hA (by omega) fun u H3 hu k3 nu => ?_
      have A3 := hA.k0 k3
      obtain ⟨ps, P, e⟩ := A3.qu
      have hqa := P.at_
      have len : (ps.map fun p => V.ref p.1).length < sizeLine := szlt (by
        have := congrArg List.length e
        rw [List.length_map] at this ⊢
        omega)
      wtm_at "rd"
      have e2 : ansS Y low 1 = [ownS Y low 1] := by
        unfold ansS
        rw [if_neg (by omega), eo]
      rw [e2] at kk
      exact kk _ (A3.app P e hu (okI_own (by omega) (by omega))) (k3.of0.wr (by simp))
    | some y =>
      rw [eo] at hh
      obtain ⟨t, rfl, ht⟩ := hh
      obtain ⟨ps, P, e⟩ := hA.qu
      have hqa := P.at_
      have len : (ps.map fun p => V.ref p.1).length < sizeLine := szlt (by
        have := congrArg List.length e
        rw [List.length_map] at this ⊢
        omega)
      wtm_at "rd"
      have e2 : ansS Y low 1 = [.say y] := by
        unfold ansS
        rw [if_neg (by omega), eo]
      rw [e2] at kk
      exact kk _ (hA.app (i := .say y) P e ht (hA.bk.sy eo).1) (Kp.refl.wr (by simp))
theorem c_Side__answer_sum (T : Cx K mg) (B : Tb P w K mg base) : MetX P w K mg base CX0 5 (ga K "Side") "_answer_sum" (sp_Side__answer_sum K) [] := by
  obtain ⟨fd, F, ok⟩ := f_Side__answer_sum (P := P) (w := w) (base := base) T B
  exact ⟨_, fd, p_Side__answer_sum, [], cl_Side T, mt_Side__answer_sum T, ok, FunD.bindsN F fun _ _ _ _ _ _ us hl => match us, hl with | [_, _, _], _ => rfl, .nil⟩
end
section
variable {P : Program} {w : World} {K : PySem.W.Frag} {mg : Str → Option Value} {base : Heap}
def sp_Side__accept (K : PySem.W.Frag) : Sp := fun vs H Q E => ∃ (x s b d q : Addr) (st : Stg) (Y : Int → Option Sy) (L : List It) (t : Addr) (y : Sy), vs = [.ref x, .ref t] ∧ (SidAt K H x s b d q .non st.ring Y L) ∧ (SetAt K H s st) ∧ (SyAt H t y) ∧ (syOk st.ring y = true) ∧ (∀ H1, SidAt K H1 x s b d q .non st.ring (tkF Y y) L → Kp [d] H H1 → Q .non H1)
theorem us_Side__accept {K : PySem.W.Frag} {H : Hp} {Q : VK} {E : XK} {x s b d q : Addr} {st : Stg} {Y : Int → Option Sy} {L : List It} {t : Addr} {y : Sy} (hA : SidAt K H x s b d q .non st.ring Y L) (hS : SetAt K H s st) (ht : SyAt H t y) (hy : syOk st.ring y = true) (kk : ∀ H1, SidAt K H1 x s b d q .non st.ring (tkF Y y) L → Kp [d] H H1 → Q .non H1) : sp_Side__accept K [.ref x, .ref t] H Q E := ⟨_, _, _, _, _, _, _, _, _, _, rfl, hA, hS, ht, hy, kk⟩
theorem f_Side__accept (T : Cx K mg) (B : Tb P w K mg base) : ∃ fd, FunD K "_accept" "Side._accept" (defArgs s_Side__accept) (defBody s_Side__accept) (defScope s_Side__accept) (d_Side__accept.dvs K) (d_Side__accept.kws K) (fAd K d_Side__accept.at_) fd ∧ FnOk P w K mg base CX0 7 (fAd K d_Side__accept.at_) fd p_Side__accept (sp_Side__accept K) := by
  have c_Book_take := c_Book_take (P := P) (w := w) (base := base) T B
  obtain ⟨fd, F⟩ := T.says.def_ 31 (d := d_Side__accept) rfl
  refine ⟨fd, F, fnD F sc_Side__accept (fun vs H Q E h => by
    obtain ⟨_, _, _, _, _, _, _, _, _, _, rfl, _⟩ := h
    rfl) fun cdv A outer s H vs Q E hr h => ?_⟩
  have hu := hu_of hr
  obtain ⟨x, s, b, d, q, st, Y, L, t, y, rfl, hA, hS, ht, hy, kk⟩ := h
  refine ⟨_, (pss_cons (ps_set (i := 2) sc_Side__accept.nd rfl (by first | exact Or.inl rfl | exact Or.inr rfl) (pe_fld (pv 0) rfl)) (pss_one (ps_if (pt_cmp (pc_isN (pv 2))) (pss_one (ps_expr (pe_met c_Book_take hr (by decide) pass0 (pe_fld (pv 0) rfl) (pa_cons (pv 1) pa_nil)))) (pss_one ps_never)))), ?_⟩
  rw [show L2.start n_Side__accept [.ref x, .ref t] = [some (.ref x), some (.ref t), none] from rfl]
  try dsimp only [cxOf, Cx.nox, Cx.wish, List.map]

  have hr := hS.ok.r256
  obtain ⟨⟨dx, hx⟩, ⟨xs, B, eY, nd, ok⟩, ⟨ps, P, e⟩, okL⟩ := id hA
  have hd := B.ro.at_
  obtain ⟨dxb, hbo⟩ := B.ob
  wtm_at "rd"
  refine us_Book_take B hS (fun p hp => (syOk_iff.mp (ok p hp)).2.2.1) ht hy (by have := ok_len nd ok hr; omega) fun H1 r1 k1 => ?_
  wtm_at "rd"
  refine kk _ ⟨⟨dx, k1.g1 (ne_of hx hd (by intro z; cases z)) hx⟩, ⟨_, ⟨⟨dxb, k1.g1 (ne_of hbo hd (by intro z; cases z)) hbo⟩, r1⟩, by rw [look_take, eY], keysN_take nd _, fun p hp => ?_⟩, ⟨ps, ⟨k1.g1 (ne_of P.at_ hd (by intro z; cases z)) P.at_, fun p hp => k1.g1 (ne_of (P.ob p hp) hd (by intro z; cases z)) (P.ob p hp)⟩, e⟩, okL⟩ k1
  rcases takeT_mem hp with rfl | m
  · exact hy
  · exact ok p m
theorem c_Side__accept (T : Cx K mg) (B : Tb P w K mg base) : MetX P w K mg base CX0 7 (ga K "Side") "_accept" (sp_Side__accept K) [] := by
  obtain ⟨fd, F, ok⟩ := f_Side__accept (P := P) (w := w) (base := base) T B
  exact ⟨_, fd, p_Side__accept, [], cl_Side T, mt_Side__accept T, ok, FunD.bindsN F fun _ _ _ _ _ _ us hl => match us, hl with | [_, _], _ => rfl, .nil⟩
end
section
variable {P : Program} {w : World} {K : PySem.W.Frag} {mg : Str → Option Value} {base : Heap}
def sp_Side__receive_saying (K : PySem.W.Frag) : Sp := fun vs H Q E => ∃ (x s b d q : Addr) (st : Stg) (Y : Int → Option Sy) (L : List It) (t : Addr) (y : Sy), vs = [.ref x, .ref t] ∧ (SidAt K H x s b d q .non st.ring Y L) ∧ (SetAt K H s st) ∧ (SyAt H t y) ∧ (syOk st.ring y = true) ∧ (L.length ≤ 200000) ∧ (∀ H1, SidAt K H1 x s b d q .non st.ring (tkI Y (.say y)) (L ++ ansI Y (.say y)) → Kp [q, d] H H1 → Q (.bl (decide (rkO (Y y.s) < rk y))) H1)
theorem us_Side__receive_saying {K : PySem.W.Frag} {H : Hp} {Q : VK} {E : XK} {x s b d q : Addr} {st : Stg} {Y : Int → Option Sy} {L : List It} {t : Addr} {y : Sy} (hA : SidAt K H x s b d q .non st.ring Y L) (hS : SetAt K H s st) (ht : SyAt H t y) (hy : syOk st.ring y = true) (hL : L.length ≤ 200000) (kk : ∀ H1, SidAt K H1 x s b d q .non st.ring (tkI Y (.say y)) (L ++ ansI Y (.say y)) → Kp [q, d] H H1 → Q (.bl (decide (rkO (Y y.s) < rk y))) H1) : sp_Side__receive_saying K [.ref x, .ref t] H Q E := ⟨_, _, _, _, _, _, _, _, _, _, rfl, hA, hS, ht, hy, hL, kk⟩
theorem f_Side__receive_saying (T : Cx K mg) (B : Tb P w K mg base) : ∃ fd, FunD K "_receive_saying" "Side._receive_saying" (defArgs s_Side__receive_saying) (defBody s_Side__receive_saying) (defScope s_Side__receive_saying) (d_Side__receive_saying.dvs K) (d_Side__receive_saying.kws K) (fAd K d_Side__receive_saying.at_) fd ∧ FnOk P w K mg base CX0 8 (fAd K d_Side__receive_saying.at_) fd p_Side__receive_saying (sp_Side__receive_saying K) := by
  have c_Book_of := c_Book_of (P := P) (w := w) (base := base) T B
  have c_rank := c_rank (P := P) (w := w) (base := base) T B
  have c_Side__accept := c_Side__accept (P := P) (w := w) (base := base) T B
  obtain ⟨fd, F⟩ := T.says.def_ 32 (d := d_Side__receive_saying) rfl
  refine ⟨fd, F, fnD F sc_Side__receive_saying (fun vs H Q E h => by
    obtain ⟨_, _, _, _, _, _, _, _, _, _, rfl, _⟩ := h
    rfl) fun cdv A outer s H vs Q E hr h => ?_⟩
  have hu := hu_of hr
  obtain ⟨x, s, b, d, q, st, Y, L, t, y, rfl, hA, hS, ht, hy, hL, kk⟩ := h
  refine ⟨_, (pss_cons (ps_set (i := 2) sc_Side__receive_saying.nd rfl (by first | exact Or.inl rfl | exact Or.inr rfl) (pe_met c_Book_of hr (by decide) pass0 (pe_fld (pv 0) rfl) (pa_cons (pe_ix ix_tup (pv 1) pe_int (fun _ _ => rfl)) pa_nil))) (pss_cons (ps_if (pt_cmpR op_gt (pe_cal c_rank hr (by decide) (by rfl) pass0 (pa_cons (pv 1) pa_nil)) (pe_cal c_rank hr (by decide) (by rfl) pass0 (pa_cons (pv 2) pa_nil)) (nomark _)) (pss_cons (ps_expr (pe_met c_Side__accept hr (by decide) pass0 (pv 0) (pa_cons (pv 1) pa_nil))) (pss_one (ps_ret pe_bl))) pss_nil) (pss_cons (ps_if (pt_cmpR op_lt (pe_cal c_rank hr (by decide) (by rfl) pass0 (pa_cons (pv 1) pa_nil)) (pe_cal c_rank hr (by decide) (by rfl) pass0 (pa_cons (pv 2) pa_nil)) (nomark _)) (pss_one (ps_expr (pe_bm PySem.F.plainAttrs_list PySem.F.slot_list_append PySem.F.type_list_append mt_append (pe_fld (pv 0) rfl) (pa_cons (pv 2) pa_nil)))) pss_nil) (pss_one (ps_ret pe_bl))))), ?_⟩
  rw [show L2.start n_Side__receive_saying [.ref x, .ref t] = [some (.ref x), some (.ref t), none] from rfl]
  try dsimp only [cxOf, Cx.nox, Cx.wish, List.map]

  have hr := hS.ok.r256
  obtain ⟨⟨dx, hx⟩, ⟨xs, B, eY, nd, ok⟩, ⟨ps, P, e⟩, okL⟩ := id hA
  obtain ⟨dxb, hbo⟩ := B.ob
  have ht1 := ht
  unfold Sy.tup at ht1
  wtm_at "rd"
  refine us_Book_of B fun hv hh => ?_
  have hh : IsY H hv (Y y.s) := by
    rw [← eY]
    exact hh
  have hm : ∀ z, Y y.s = some z → z.m ∈ MK := fun z hz => (syOk_iff.mp (hA.bk.sy hz).1).2.2.1
  wtm_at "rd"
  refine us_rank (o := some y) ⟨t, rfl, ht⟩ (fun z q => by
    cases q
    exact (syOk_iff.mp hy).2.2.1) ?_
  wtm_at "rd"
  refine us_rank hh hm ?_
  wtm_at "rd"
  refine ite_d (fun h => ?_) (fun h => ?_)
  · have h : rkO (Y y.s) < rk y := h
    wtm_at "rd"
    refine us_Side__accept hA hS ht hy fun H1 A1 k1 => ?_
    wtm_at "rd"
    have ea : ansI Y (.say y) = [] := if_neg (by omega)
    rw [ea, List.append_nil, decide_eq_true h] at kk
    exact kk _ A1 (k1.mono fun p m => by simp [List.mem_singleton.mp m])
  · have h : ¬ rkO (Y y.s) < rk y := h
    have et : tkI Y (.say y) = Y := by
      funext k
      show (if k = y.s ∧ rkO (Y k) < rk y then some y else Y k) = Y k
      rw [if_neg]
      rintro ⟨rfl, z⟩
      exact h z
    rw [et, decide_eq_false h] at kk
    wtm_at "rd"
    refine us_rank (o := some y) ⟨t, rfl, ht⟩ (fun z q => by
      cases q
      exact (syOk_iff.mp hy).2.2.1) ?_
    wtm_at "rd"
    refine us_rank hh hm ?_
    wtm_at "rd"
    refine ite_d (fun h2 => ?_) (fun h2 => ?_)
    · have h2 : rk y < rkO (Y y.s) := h2
      obtain ⟨z, hz⟩ : ∃ z, Y y.s = some z := by
        cases c : Y y.s with
        | none =>
          rw [c] at h2
          have h3 : rk y < 0 := h2
          have := ok_rk hy
          omega
        | some z => exact ⟨z, rfl⟩
      rw [hz] at hh
      obtain ⟨u, rfl, hu⟩ := hh
      have hqa := P.at_
      have len : (ps.map fun p => V.ref p.1).length < sizeLine := szlt (by
        have := congrArg List.length e
        rw [List.length_map] at this ⊢
        omega)
      wtm_at "rd"
      have ea : ansI Y (.say y) = [.say z] := by
        show (if rk y < rkO (Y y.s) then (Y y.s).toList.map It.say else []) = _
        rw [if_pos h2, hz]
        rfl
      rw [ea] at kk
      exact kk _ (hA.app (i := .say z) P e hu (hA.bk.sy hz).1) (Kp.refl.wr (by simp))
    · have h2 : ¬ rk y < rkO (Y y.s) := h2
      have ea : ansI Y (.say y) = [] := if_neg h2
      rw [ea, List.append_nil] at kk
      wtm_at "rd"
      exact kk _ hA Kp.refl
theorem c_Side__receive_saying (T : Cx K mg) (B : Tb P w K mg base) : MetX P w K mg base CX0 8 (ga K "Side") "_receive_saying" (sp_Side__receive_saying K) [] := by
  obtain ⟨fd, F, ok⟩ := f_Side__receive_saying (P := P) (w := w) (base := base) T B
  exact ⟨_, fd, p_Side__receive_saying, [], cl_Side T, mt_Side__receive_saying T, ok, FunD.bindsN F fun _ _ _ _ _ _ us hl => match us, hl with | [_, _], _ => rfl, .nil⟩
end
section
variable {P : Program} {w : World} {K : PySem.W.Frag} {mg : Str → Option Value} {base : Heap}
def sp_Side_receive (K : PySem.W.Frag) : Sp := fun vs H Q E => ∃ (x s b d q : Addr) (st : Stg) (Y : Int → Option Sy) (L : List It) (r1 r2 : Addr) (ps qs : List (Addr × It)), vs = [.ref x, .ref r1, .ref r2] ∧ (SidAt K H x s b d q .non st.ring Y L) ∧ (SetAt K H s st) ∧ (QL H r1 ps) ∧ (QL H r2 qs) ∧ (r1 ≠ q ∧ r2 ≠ q) ∧ (∀ i, i ∈ ps.map (·.2) → isSay i = true ∧ okI st.ring i) ∧ (∀ i, i ∈ qs.map (·.2) → isSay i = false ∧ okI st.ring i) ∧ (L.length ≤ 100000 ∧ ps.length ≤ 10000 ∧ qs.length ≤ 10000) ∧ (∀ r ts H1, SyL H1 r ts → ts.map (·.2) = takenL Y (ps.map (·.2)) → SidAt K H1 x s b d q .non st.ring (rcv Y L (ps.map (·.2) ++ qs.map (·.2))).1 (rcv Y L (ps.map (·.2) ++ qs.map (·.2))).2 → Kp [q, d] H H1 → H r = none → Q (.ref r) H1)
theorem us_Side_receive {K : PySem.W.Frag} {H : Hp} {Q : VK} {E : XK} {x s b d q : Addr} {st : Stg} {Y : Int → Option Sy} {L : List It} {r1 r2 : Addr} {ps qs : List (Addr × It)} (hA : SidAt K H x s b d q .non st.ring Y L) (hS : SetAt K H s st) (h1 : QL H r1 ps) (h2 : QL H r2 qs) (n12 : r1 ≠ q ∧ r2 ≠ q) (o1 : ∀ i, i ∈ ps.map (·.2) → isSay i = true ∧ okI st.ring i) (o2 : ∀ i, i ∈ qs.map (·.2) → isSay i = false ∧ okI st.ring i) (hl : L.length ≤ 100000 ∧ ps.length ≤ 10000 ∧ qs.length ≤ 10000) (kk : ∀ r ts H1, SyL H1 r ts → ts.map (·.2) = takenL Y (ps.map (·.2)) → SidAt K H1 x s b d q .non st.ring (rcv Y L (ps.map (·.2) ++ qs.map (·.2))).1 (rcv Y L (ps.map (·.2) ++ qs.map (·.2))).2 → Kp [q, d] H H1 → H r = none → Q (.ref r) H1) : sp_Side_receive K [.ref x, .ref r1, .ref r2] H Q E := ⟨_, _, _, _, _, _, _, _, _, _, _, _, rfl, hA, hS, h1, h2, n12, o1, o2, hl, kk⟩
theorem f_Side_receive (T : Cx K mg) (B : Tb P w K mg base) : ∃ fd, FunD K "receive" "Side.receive" (defArgs s_Side_receive) (defBody s_Side_receive) (defScope s_Side_receive) (d_Side_receive.dvs K) (d_Side_receive.kws K) (fAd K d_Side_receive.at_) fd ∧ FnOk P w K mg base CX0 9 (fAd K d_Side_receive.at_) fd p_Side_receive (sp_Side_receive K) := by
  have c_Side__receive_saying := c_Side__receive_saying (P := P) (w := w) (base := base) T B
  have c_Side__answer_sum := c_Side__answer_sum (P := P) (w := w) (base := base) T B
  have c_moments := c_moments (P := P) (w := w) (base := base) T B
  obtain ⟨fd, F⟩ := T.says.def_ 33 (d := d_Side_receive) rfl
  refine ⟨fd, F, fnD F sc_Side_receive (fun vs H Q E h => by
    obtain ⟨_, _, _, _, _, _, _, _, _, _, _, _, rfl, _⟩ := h
    rfl) fun cdv A outer s H vs Q E hr h => ?_⟩
  have hu := hu_of hr
  obtain ⟨x, s, b, d, q, st, Y, L, r1, r2, ps, qs, rfl, hA, hS, h1, h2, n12, o1, o2, hl, kk⟩ := h
  refine ⟨_, (pss_cons (ps_set (i := 3) sc_Side_receive.nd rfl (by first | exact Or.inl rfl | exact Or.inr rfl) (pe_lst pa_nil)) (pss_cons (ps_for PassesOwn.never rfl (pi_list (pv 1)) (pg_name (i := 4) sc_Side_receive.nd rfl (by first | exact Or.inl rfl | exact Or.inr rfl)) (pss_one (ps_if (pt_val (pe_met c_Side__receive_saying hr (by decide) pass0 (pv 0) (pa_cons (pv 4) pa_nil))) (pss_one (ps_expr (pe_bm PySem.F.plainAttrs_list PySem.F.slot_list_append PySem.F.type_list_append mt_append (pv 3) (pa_cons (pv 4) pa_nil)))) pss_nil))) (pss_cons (ps_for PassesOwn.never rfl (pi_list (pv 2)) (pg_tup rfl (pgs_cons (pg_name (i := 5) sc_Side_receive.nd rfl (by first | exact Or.inl rfl | exact Or.inr rfl)) (pgs_cons (pg_name (i := 6) sc_Side_receive.nd rfl (by first | exact Or.inl rfl | exact Or.inr rfl)) (pgs_cons (pg_name (i := 7) sc_Side_receive.nd rfl (by first | exact Or.inl rfl | exact Or.inr rfl)) (pgs_cons (pg_name (i := 8) sc_Side_receive.nd rfl (by first | exact Or.inl rfl | exact Or.inr rfl)) (pgs_cons (pg_name (i := 9) sc_Side_receive.nd rfl (by first | exact Or.inl rfl | exact Or.inr rfl)) pgs_nil)))))) (pss_one (ps_if (pt_cmpR (op_neD hr.units) (pe_cal c_moments hr (by decide) (by rfl) pass0 (pa_cons (pe_fld (pv 0) rfl) (pa_cons (pv 5) (pa_cons (pv 6) pa_nil)))) (pe_tup (pa_cons (pv 7) (pa_cons (pv 8) (pa_cons (pv 9) pa_nil)))) (nomark _)) (pss_one (ps_expr (pe_met c_Side__answer_sum hr (by decide) pass0 (pv 0) (pa_cons (pv 5) (pa_cons (pv 6) pa_nil))))) pss_nil))) (pss_one (ps_ret (pv 3)))))), ?_⟩
  rw [show L2.start n_Side_receive [.ref x, .ref r1, .ref r2] = [some (.ref x), some (.ref r1), some (.ref r2), none, none, none, none, none, none, none] from rfl]
  try dsimp only [cxOf, Cx.nox, Cx.wish, List.map]

  obtain ⟨n1, n2⟩ := n12
  obtain ⟨hl1, hl2, hl3⟩ := hl
  wtm_at "rd"
  refine ⟨sz1000 (by simp), fun r nr => ?_⟩
  have rq : r ≠ q := by
    obtain ⟨l, h⟩ := hA.ql
    exact Ne.symm (ne_of_none h nr)
  have k0 : Kp [] H (upd H r (.lst [])) := Kp.new nr
  have hr0 : SyL (upd H r (.lst [])) r [] := ⟨upd_same, fun p hp => by cases hp⟩
  have A0 := hA.k0 k0
  have S0 := hS.k0 k0
  have Q1 := h1.k0 k0
  have Q2 := h2.k0 k0
  generalize upd H r (.lst []) = H0 at k0 hr0 A0 S0 Q1 Q2
  have r1r : r1 ≠ r := ne_of_none h1.at_ nr
  have r2r : r2 ≠ r := ne_of_none h2.at_ nr
  have dkv := A0.bk.dk
  obtain ⟨kv, hkv⟩ := dkv
  obtain ⟨ql, hql⟩ := A0.ql
  have fr : ∀ {Hx : Hp}, Kp [q, d, r] H0 Hx → QL Hx r1 ps ∧ QL Hx r2 qs ∧ SetAt K Hx s st := fun {Hx} k => by
    have nt : ∀ p, p ∈ [q, d, r] → ∀ l, H0 p ≠ some (.tup l) := fun p hp l e => by
      simp only [List.mem_cons, List.not_mem_nil, or_false] at hp
      rcases hp with rfl | rfl | rfl
      · rw [hql] at e
        cases e
      · rw [hkv] at e
        cases e
      · rw [hr0.at_] at e
        cases e
    refine ⟨Q1.kw k ?_ nt, Q2.kw k ?_ nt, S0.kp k ?_⟩
    · simp only [List.mem_cons, List.not_mem_nil, or_false, not_or]
      exact ⟨n1, ne_of Q1.at_ hkv (by intro z; cases z), r1r⟩
    · simp only [List.mem_cons, List.not_mem_nil, or_false, not_or]
      exact ⟨n2, ne_of Q2.at_ hkv (by intro z; cases z), r2r⟩
    · simp only [List.mem_cons, List.not_mem_nil, or_false, not_or]
      exact ⟨S0.nelst hql, S0.nedK hkv, S0.nelst hr0.at_⟩
  have len0 : ∀ i, i ≤ ps.length → (rcv Y L ((ps.take i).map (·.2))).2.length ≤ 150000 := fun i hi => by
    have := rcv_len ((ps.take i).map (·.2)) Y L
    rw [List.length_map, List.length_take] at this
    omega
  have gq1 := Q1.at_
  wtm_at "rd"
  refine forL_by (K := K) (ps.map fun p => V.ref p.1) (fun i σ H2 => (∃ v4 v5 v6 v7 v8 v9, σ = [some (.ref x), some (.ref r1), some (.ref r2), some (.ref r), v4, v5, v6, v7, v8, v9]) ∧ (∃ ts, SyL H2 r ts ∧ ts.map (·.2) = takenL Y ((ps.take i).map (·.2))) ∧ SidAt K H2 x s b d q .non st.ring (rcv Y L ((ps.take i).map (·.2))).1 (rcv Y L ((ps.take i).map (·.2))).2 ∧ Kp [q, d, r] H0 H2) ⟨⟨_, _, _, _, _, _, rfl⟩, ⟨[], hr0, rfl⟩, A0, Kp.refl⟩ (fun i σ H2 _ p => SqL.of (fr p.2.2.2).1.at_) ?_ ?_
  · rintro i z σ H2 hz ⟨⟨v4, v5, v6, v7, v8, v9, rfl⟩, ⟨ts, T2, eT⟩, A2, k2⟩
    rw [List.getElem?_map] at hz
    obtain ⟨p, hp, rfl⟩ := Option.map_eq_some_iff.mp hz
    obtain ⟨hi, ep⟩ := List.getElem?_eq_some_iff.mp hp
    have pm := List.mem_of_getElem? hp
    obtain ⟨Q1', Q2', S2⟩ := fr k2
    have hob := Q1'.ob p pm
    have hoi := o1 p.2 (List.mem_map_of_mem pm)
    have eR : (ps.take (i + 1)).map (·.2) = (ps.take i).map (·.2) ++ [p.2] := by
      rw [List.take_succ_eq_append_getElem hi, ep, List.map_append]
      rfl
    obtain ⟨pa, pi⟩ := p
    cases pi with
    | sum low w m => exact nomatch hoi.1
    | say y =>
      obtain ⟨dxr, hxr⟩ := A2.ob
      wtm_at "rd"
      refine us_Side__receive_saying A2 S2 hob hoi.2 (by have := len0 i (by omega); omega) fun H3 A3 k3 => ?_
      have eR2 : rcv Y L ((ps.take (i + 1)).map (·.2)) = (tkI (rcv Y L ((ps.take i).map (·.2))).1 (.say y), (rcv Y L ((ps.take i).map (·.2))).2 ++ ansI (rcv Y L ((ps.take i).map (·.2))).1 (.say y)) := by
        rw [eR, rcv_append]
        rfl
      have eT2 : takenL Y ((ps.take (i + 1)).map (·.2)) = takenL Y ((ps.take i).map (·.2)) ++ if rkO ((rcv Y L ((ps.take i).map (·.2))).1 y.s) < rk y then [y] else [] := by
        rw [eR, takenL_append _ _ Y L]
        show _ ++ ((if rkO ((rcv Y L ((ps.take i).map (·.2))).1 y.s) < rk y then [y] else []) ++ []) = _
        rw [List.append_nil]
      have kd : ∃ kv : List (Key × V), H2 d = some (.dK kv) := A2.bk.dk
      obtain ⟨kv2, hkv2⟩ := kd
      have T3 : SyL H3 r ts := ⟨k3.g2 rq (ne_of T2.at_ hkv2 (by intro z; cases z)) T2.at_, fun q' hq' => k3.g2 (by
        obtain ⟨l, hl⟩ := A2.ql
        exact ne_of (T2.ob q' hq') hl (by intro z; cases z)) (ne_of (T2.ob q' hq') hkv2 (by intro z; cases z)) (T2.ob q' hq')⟩
      have k23 : Kp [q, d, r] H0 H3 := k2.trans (k3.mono fun p' m => by
        simp only [List.mem_cons, List.not_mem_nil, or_false] at m ⊢
        exact m.imp id .inl)
      rw [eR2, eT2]
      wtm_at "rd"
      refine ite_d (fun h => ?_) (fun h => ?_)
      · have ht3 := T3.at_
        have len : (ts.map fun p => V.ref p.1).length < sizeLine := szlt (by
          have h1 := congrArg List.length eT
          have h2 := takenL_len ((ps.take i).map (·.2)) Y
          rw [List.length_map] at h1
          rw [List.length_map, List.length_take] at h2
          rw [List.length_map]
          omega)
        wtm_at "rd"
        have hu : SyAt H3 pa y := k3.g2 (by
          obtain ⟨l, hl⟩ := A2.ql
          exact ne_of hob hl (by intro z; cases z)) (ne_of hob hkv2 (by intro z; cases z)) hob
        refine ⟨⟨_, _, _, _, _, _, rfl⟩, ⟨ts ++ [(pa, y)], T3.snoc hu, ?_⟩, ?_, k23.wr (by simp)⟩
        · rw [List.map_append, eT, if_pos h]
          rfl
        · refine A3.kw (ps := [r]) (Kp.refl.wr (by simp)) fun p hp => .inl ?_
          rw [List.mem_singleton.mp hp]
          exact ⟨⟨_, ht3⟩, rq⟩
      · refine ⟨⟨_, _, _, _, _, _, rfl⟩, ⟨ts, T3, ?_⟩, A3, k23⟩
        rw [if_neg h, List.append_nil]
        exact eT
  · rintro σ H2 ⟨⟨v4, v5, v6, v7, v8, v9, rfl⟩, ⟨ts, T2, eT⟩, A2, k2⟩
    rw [List.length_map, List.take_length] at eT A2
    obtain ⟨Q1', Q2', S2⟩ := fr k2
    have len1 : ∀ i, i ≤ qs.length → (rcv (rcv Y L (ps.map (·.2))).1 (rcv Y L (ps.map (·.2))).2 ((qs.take i).map (·.2))).2.length ≤ 180000 := fun i hi => by
      have h1 := rcv_len ((qs.take i).map (·.2)) (rcv Y L (ps.map (·.2))).1 (rcv Y L (ps.map (·.2))).2
      have h2 := rcv_len (ps.map (·.2)) Y L
      rw [List.length_map] at h2
      rw [List.length_map, List.length_take] at h1
      omega
    have eYn : ∀ i, (rcv (rcv Y L (ps.map (·.2))).1 (rcv Y L (ps.map (·.2))).2 ((qs.take i).map (·.2))).1 = (rcv Y L (ps.map (·.2))).1 := fun i => rcv_sumY _ _ _ fun j hj => by
      obtain ⟨p, hp, rfl⟩ := List.mem_map.mp hj
      exact (o2 _ (List.mem_map_of_mem (List.mem_of_mem_take hp))).1
    have g2 := Q2'.at_
    rw [rcv_append] at kk
    generalize rcv Y L (ps.map (·.2)) = YL at *
    obtain ⟨Y1, L1⟩ := YL
    have A2 : SidAt K H2 x s b d q .non st.ring Y1 L1 := A2
    have eYn : ∀ i, (rcv Y1 L1 ((qs.take i).map (·.2))).1 = Y1 := eYn
    obtain ⟨kv2, hkv2⟩ := A2.bk.dk
    wtm_at "rd"
    refine forL_by (K := K) (qs.map fun p => V.ref p.1) (fun i σ H3 => (∃ v4 v5 v6 v7 v8 v9, σ = [some (.ref x), some (.ref r1), some (.ref r2), some (.ref r), v4, v5, v6, v7, v8, v9]) ∧ SidAt K H3 x s b d q .non st.ring Y1 (rcv Y1 L1 ((qs.take i).map (·.2))).2 ∧ Kp [q] H2 H3) ⟨⟨_, _, _, _, _, _, rfl⟩, A2, Kp.refl⟩ (fun i σ H3 _ p => SqL.of (p.2.2.g1 n2 g2)) ?_ ?_
    · rintro i z σ H3 hz ⟨⟨v4, v5, v6, v7, v8, v9, rfl⟩, A3, k3⟩
      rw [List.getElem?_map] at hz
      obtain ⟨p, hp, rfl⟩ := Option.map_eq_some_iff.mp hz
      obtain ⟨hi, ep⟩ := List.getElem?_eq_some_iff.mp hp
      have pm := List.mem_of_getElem? hp
      have hql2 : ∃ l, H2 q = some (.lst l) := A2.ql
      obtain ⟨l2, hl2⟩ := hql2
      have hob : H3 p.1 = some (.tup p.2.tup) := k3.g1 (ne_of (Q2'.ob p pm) hl2 (by intro z; cases z)) (Q2'.ob p pm)
      have hoi := o2 p.2 (List.mem_map_of_mem pm)
      have eR : (qs.take (i + 1)).map (·.2) = (qs.take i).map (·.2) ++ [p.2] := by
        rw [List.take_succ_eq_append_getElem hi, ep, List.map_append]
        rfl
      obtain ⟨pa, pi⟩ := p
      cases pi with
      | say y => exact nomatch hoi.1
      | sum low w m =>
        have eR2 : (rcv Y1 L1 ((qs.take (i + 1)).map (·.2))).2 = (rcv Y1 L1 ((qs.take i).map (·.2))).2 ++ ansI Y1 (.sum low w m) := by
          rw [eR, rcv_append]
          show (rcv Y1 L1 ((qs.take i).map (·.2))).2 ++ ansI (rcv Y1 L1 ((qs.take i).map (·.2))).1 (.sum low w m) = _
          rw [eYn]
        rw [eR2]
        have ll := len1 i (by omega)
        have ll : (rcv Y1 L1 ((qs.take i).map (·.2))).2.length ≤ 180000 := ll
        have hob : H3 pa = some (.tup [.int low, .int (w : Int), .int m.m0, .int m.m1, .int m.m2]) := hob
        have hw : 1 ≤ w ∧ w ≤ 256 := hoi.2
        obtain ⟨dx3, hx3⟩ := A3.ob
        obtain ⟨xs, B, eY, nd, ok⟩ := A3.bk
        wtm_at "rd"
        refine us_moments B (fun p hp => (syOk_iff.mp (ok p hp)).2.2.1) hw.2 fun t H4 ht k4 nt => ?_
        have ht1 : MomAt H4 t (mO Y1 low w) := by
          rw [← eY]
          exact ht
        wtm_at "rd"
        refine ⟨sz1000 (by simp), fun u nu => ?_⟩
        have A5 := (A3.k0 k4).k0 (Kp.new (o := .tup [.int m.m0, .int m.m1, .int m.m2]) nu)
        refine rd_neM (y := m) (hu_ne (ne_of_none ht1 nu) ht1) upd_same ?_
        have k45 : Kp [q] H2 (upd H4 u (.tup [.int m.m0, .int m.m1, .int m.m2])) := (k3.trans k4.of0).nw nu
        wtm_at "rd"
        refine ite_n (fun h => ?_) (fun h => ?_)
        · wtm_at "rd"
          refine us_Side__answer_sum A5 hw (by omega) fun H6 A6 k6 => ?_
          wtm_at "rd"
          have ea : ansI Y1 (.sum low w m) = ansS Y1 low w := if_neg h
          rw [ea]
          exact ⟨⟨_, _, _, _, _, _, rfl⟩, A6, k45.trans k6⟩
        · have ea : ansI Y1 (.sum low w m) = [] := if_pos h
          rw [ea, List.append_nil]
          exact ⟨⟨_, _, _, _, _, _, rfl⟩, A5, k45⟩
    · rintro σ H3 ⟨⟨v4, v5, v6, v7, v8, v9, rfl⟩, A3, k3⟩
      rw [List.length_map, List.take_length] at A3
      have eY := eYn qs.length
      rw [List.take_length] at eY
      wtm_at "rd"
      have A3 : SidAt K H3 x s b d q .non st.ring (rcv Y1 L1 (qs.map (·.2))).1 (rcv Y1 L1 (qs.map (·.2))).2 := by
        rw [eY]
        exact A3
      refine kk r ts H3 ⟨k3.g1 rq T2.at_, fun p hp => k3.g1 (by
        obtain ⟨l, hl⟩ := A2.ql
        exact ne_of (T2.ob p hp) hl (by intro z; cases z)) (T2.ob p hp)⟩ eT A3 (((k0.of0 : Kp [q, d] H H0).via k2 fun p hp => ?_).trans (k3.mono (by simp))) nr
      simp only [List.mem_cons, List.not_mem_nil, or_false] at hp ⊢
      rcases hp with rfl | rfl | rfl
      · exact .inl (.inl rfl)
      · exact .inl (.inr rfl)
      · exact .inr nr
theorem c_Side_receive (T : Cx K mg) (B : Tb P w K mg base) : MetX P w K mg base CX0 9 (ga K "Side") "receive" (sp_Side_receive K) [] := by
  obtain ⟨fd, F, ok⟩ := f_Side_receive (P := P) (w := w) (base := base) T B
  exact ⟨_, fd, p_Side_receive, [], cl_Side T, mt_Side_receive T, ok, FunD.bindsN F fun _ _ _ _ _ _ us hl => match us, hl with | [_, _, _], _ => rfl, .nil⟩
end
section
variable {P : Program} {w : World} {K : PySem.W.Frag} {mg : Str → Option Value} {base : Heap}
def sp_Side_init (K : PySem.W.Frag) : Sp := fun vs H Q E => ∃ (x dx s b : Addr) (v : V), vs = [.ref x, .ref s, .ref b, v] ∧ (H x = some (.ins (ga K "Side") dx [])) ∧ (∀ q H1, H1 x = some (.ins (ga K "Side") dx [(("_setting" : Str), .ref s), (("_book" : Str), .ref b), (("_taker" : Str), v), (("_queue" : Str), .ref q)]) → H1 q = some (.lst []) → Kp [x] H H1 → H q = none → Q .non H1)
theorem us_Side_init {K : PySem.W.Frag} {H : Hp} {Q : VK} {E : XK} {x dx s b : Addr} {v : V} (hx : H x = some (.ins (ga K "Side") dx [])) (kk : ∀ q H1, H1 x = some (.ins (ga K "Side") dx [(("_setting" : Str), .ref s), (("_book" : Str), .ref b), (("_taker" : Str), v), (("_queue" : Str), .ref q)]) → H1 q = some (.lst []) → Kp [x] H H1 → H q = none → Q .non H1) : sp_Side_init K [.ref x, .ref s, .ref b, v] H Q E := ⟨_, _, _, _, _, rfl, hx, kk⟩
theorem f_Side_init (T : Cx K mg) (B : Tb P w K mg base) : ∃ fd, FunD K "__init__" "Side.__init__" (defArgs s_Side_init) (defBody s_Side_init) (defScope s_Side_init) (d_Side_init.dvs K) (d_Side_init.kws K) (fAd K d_Side_init.at_) fd ∧ FnOk P w K mg base CX0 2 (fAd K d_Side_init.at_) fd p_Side_init (sp_Side_init K) := by
  obtain ⟨fd, F⟩ := T.says.def_ 34 (d := d_Side_init) rfl
  refine ⟨fd, F, fnD F sc_Side_init (fun vs H Q E h => by
    obtain ⟨_, _, _, _, _, rfl, _⟩ := h
    rfl) fun cdv A outer s H vs Q E hr h => ?_⟩
  have hu := hu_of hr
  obtain ⟨x, dx, s, b, v, rfl, hx, kk⟩ := h
  refine ⟨_, (pss_cons (ps_fld (pv 0) (pv 1) rfl) (pss_cons (ps_fld (pv 0) (pv 2) rfl) (pss_cons (ps_fld (pv 0) (pv 3) rfl) (pss_one (ps_fld (pv 0) (pe_lst pa_nil) rfl))))), ?_⟩
  rw [show L2.start n_Side_init [.ref x, .ref s, .ref b, v] = [some (.ref x), some (.ref s), some (.ref b), some (v)] from rfl]
  try dsimp only [cxOf, Cx.nox, Cx.wish, List.map]

  wtm_at "rd"
  refine ⟨sz1000 (by simp), fun q nq => ?_⟩
  have k1 : Kp [x] H (upd (upd (upd H x (.ins (ga K "Side") dx (putF "_setting" (.ref s) []))) x (.ins (ga K "Side") dx (putF "_book" (.ref b) (putF "_setting" (.ref s) [])))) x (.ins (ga K "Side") dx (putF "_taker" v (putF "_book" (.ref b) (putF "_setting" (.ref s) []))))) := ((Kp.refl.wr (by simp)).wr (by simp)).wr (by simp)
  have nqx : q ≠ x := fun e => by
    rw [e, upd_same] at nq
    cases nq
  wtm_at "rd"
  exact kk q _ upd_same (hu_ne nqx upd_same) ((k1.nw nq).wr (by simp)) (k1.back nq (by simp [nqx]))
theorem c_Side_init (T : Cx K mg) (B : Tb P w K mg base) : MakX P w K mg base CX0 2 "Side" (ga K "Side") (sp_Side_init K) [] := by
  obtain ⟨fd, F, ok⟩ := f_Side_init (P := P) (w := w) (base := base) T B
  obtain ⟨ds, hv, hb⟩ := FunD.binds1 (ps := p_Side_init) F 4 1 (fun e => by cases e) rfl fun _ _ _ _ _ _ _ us its hu hi => match us, its, hu, hi with | [_, _, _, _], [_], _, _ => ⟨_, rfl, rfl⟩
  exact ⟨_, fd, p_Side_init, ds, mk_Side T, ok, gl_Side T, hb, hv⟩
theorem c_Side_init_d1 (T : Cx K mg) (B : Tb P w K mg base) : MakX P w K mg base CX0 2 "Side" (ga K "Side") (sp_Side_init K) [V.non] := by
  obtain ⟨fd, F, ok⟩ := f_Side_init (P := P) (w := w) (base := base) T B
  obtain ⟨ds, hv, hb⟩ := FunD.binds1 (ps := p_Side_init) F 3 0 (fun e => by cases e) rfl fun _ _ _ _ _ _ _ us its hu hi => match us, its, hu, hi with | [_, _, _], [_], _, _ => ⟨_, rfl, rfl⟩
  exact ⟨_, fd, p_Side_init, ds, mk_Side T, ok, gl_Side T, hb, hv⟩
end
section
variable {P : Program} {w : World} {K : PySem.W.Frag} {mg : Str → Option Value} {base : Heap}
def sp_Side_idle (K : PySem.W.Frag) : Sp := fun vs H Q E => ∃ (x s b d q : Addr) (v : V) (R : Int) (Y : Int → Option Sy) (L : List It), vs = [.ref x] ∧ (SidAt K H x s b d q v R Y L) ∧ (Q (.bl (decide (L = []))) H)
theorem us_Side_idle {K : PySem.W.Frag} {H : Hp} {Q : VK} {E : XK} {x s b d q : Addr} {v : V} {R : Int} {Y : Int → Option Sy} {L : List It} (hA : SidAt K H x s b d q v R Y L) (kk : Q (.bl (decide (L = []))) H) : sp_Side_idle K [.ref x] H Q E := ⟨_, _, _, _, _, _, _, _, _, rfl, hA, kk⟩
theorem f_Side_idle (T : Cx K mg) (B : Tb P w K mg base) : ∃ fd, FunD K "idle" "Side.idle" (defArgs s_Side_idle) (defBody s_Side_idle) (defScope s_Side_idle) [] [] (prG K "Side" "idle") fd ∧ FnOk P w K mg base CX0 1 (prG K "Side" "idle") fd p_Side_idle (sp_Side_idle K) := by
  obtain ⟨hP, fd, F⟩ := B.g g_Side_idle (.tail _ (.head _))
  refine ⟨fd, F, fnD F sc_Side_idle (fun vs H Q E h => by
    obtain ⟨_, _, _, _, _, _, _, _, _, rfl, _⟩ := h
    rfl) fun cdv A outer s H vs Q E hr h => ?_⟩
  have hu := hu_of hr
  obtain ⟨x, s, b, d, q, v, R, Y, L, rfl, hA, kk⟩ := h
  refine ⟨_, (pss_one (ps_ret (pe_cmpR op_eq (pe_callB call_lenS (by rfl) (fr_len T) (by decide +kernel) (pa_cons (pe_fld (pv 0) rfl) pa_nil)) pe_int (nomark _)))), ?_⟩
  rw [show L2.start n_Side_idle [.ref x] = [some (.ref x)] from rfl]
  try dsimp only [cxOf, Cx.nox, Cx.wish, List.map]

  obtain ⟨dx, hx⟩ := hA.ob
  obtain ⟨ps, P, e⟩ := hA.qu
  have hq := P.at_
  wtm_at "rd"
  have : decide (((ps.map fun p => V.ref p.1).length : Int) = 0) = decide (L = []) := decide_eq_decide.mpr (by
    rw [← e]
    cases ps <;> simp <;> omega)
  rw [← this] at kk
  exact kk
theorem c_Side_idle (T : Cx K mg) (B : Tb P w K mg base) : PrpX P w K mg base CX0 1 (ga K "Side") "idle" (sp_Side_idle K) := by
  obtain ⟨fd, F, ok⟩ := f_Side_idle (P := P) (w := w) (base := base) T B
  obtain ⟨hP, -⟩ := B.g g_Side_idle (.tail _ (.head _))
  exact ⟨_, _, fd, p_Side_idle, cl_Side T, hP, ok, FunD.bindsN F fun _ _ _ _ _ _ us hl => match us, hl with | [_], _ => rfl⟩
end
section
variable {P : Program} {w : World} {K : PySem.W.Frag} {mg : Str → Option Value} {base : Heap}
def sp_Side_begin (K : PySem.W.Frag) : Sp := fun vs H Q E => ∃ (x s b d q : Addr) (st : Stg) (v : V) (Y : Int → Option Sy) (L : List It) (part n lo hi : Nat), vs = [.ref x, .int (part : Int)] ∧ (SidAt K H x s b d q v st.ring Y L) ∧ (SetAt K H s st) ∧ (st.ring = (n : Int)) ∧ ((lo : Int) = part * st.room) ∧ ((hi : Int) = min (lo + st.room) n) ∧ (lo ≤ n) ∧ (L.length ≤ 100000) ∧ (∀ H1, SidAt K H1 x s b d q v st.ring Y (L ++ begL Y n lo hi) → Kp [q] H H1 → Q .non H1)
theorem us_Side_begin {K : PySem.W.Frag} {H : Hp} {Q : VK} {E : XK} {x s b d q : Addr} {st : Stg} {v : V} {Y : Int → Option Sy} {L : List It} {part n lo hi : Nat} (hA : SidAt K H x s b d q v st.ring Y L) (hS : SetAt K H s st) (hn : st.ring = (n : Int)) (hlo : (lo : Int) = part * st.room) (hhi : (hi : Int) = min (lo + st.room) n) (hlt : lo ≤ n) (hL : L.length ≤ 100000) (kk : ∀ H1, SidAt K H1 x s b d q v st.ring Y (L ++ begL Y n lo hi) → Kp [q] H H1 → Q .non H1) : sp_Side_begin K [.ref x, .int (part : Int)] H Q E := ⟨_, _, _, _, _, _, _, _, _, _, _, _, _, rfl, hA, hS, hn, hlo, hhi, hlt, hL, kk⟩
theorem f_Side_begin (T : Cx K mg) (B : Tb P w K mg base) : ∃ fd, FunD K "begin" "Side.begin" (defArgs s_Side_begin) (defBody s_Side_begin) (defScope s_Side_begin) (d_Side_begin.dvs K) (d_Side_begin.kws K) (fAd K d_Side_begin.at_) fd ∧ FnOk P w K mg base CX0 5 (fAd K d_Side_begin.at_) fd p_Side_begin (sp_Side_begin K) := by
  have c_Setting_seats := c_Setting_seats (P := P) (w := w) (base := base) T B
  have c_Side__own_sum := c_Side__own_sum (P := P) (w := w) (base := base) T B
  obtain ⟨fd, F⟩ := T.says.def_ 35 (d := d_Side_begin) rfl
  refine ⟨fd, F, fnD F sc_Side_begin (fun vs H Q E h => by
    obtain ⟨_, _, _, _, _, _, _, _, _, _, _, _, _, rfl, _⟩ := h
    rfl) fun cdv A outer s H vs Q E hr h => ?_⟩
  have hu := hu_of hr
  obtain ⟨x, s, b, d, q, st, v, Y, L, part, n, lo, hi, rfl, hA, hS, hn, hlo, hhi, hlt, hL, kk⟩ := h
  refine ⟨_, (pss_cons (ps_set (i := 2) sc_Side_begin.nd rfl (by first | exact Or.inl rfl | exact Or.inr rfl) (pe_fld (pv 0) rfl)) (pss_cons (ps_expr (pe_bm PySem.F.plainAttrs_list PySem.F.slot_list_append PySem.F.type_list_append mt_append (pe_fld (pv 0) rfl) (pa_cons (pe_met c_Side__own_sum hr (by decide) pass0 (pv 0) (pa_cons pe_int (pa_cons (pe_prpX c_Setting_seats hr (by decide) pass0 (pv 2)) pa_nil))) pa_nil))) (pss_cons (ps_set (i := 3) sc_Side_begin.nd rfl (by first | exact Or.inl rfl | exact Or.inr rfl) (pe_op op_mul (pv 1) (pe_fld (pv 2) rfl))) (pss_cons (ps_set (i := 4) sc_Side_begin.nd rfl (by first | exact Or.inl rfl | exact Or.inr rfl) (pe_callB (call_min2' rfl) (by rfl) (fr_min T) (by decide +kernel) (pa_cons (pe_op op_add (pv 3) (pe_fld (pv 2) rfl)) (pa_cons (pe_prpX c_Setting_seats hr (by decide) pass0 (pv 2)) pa_nil)))) (pss_one (ps_for PassesOwn.never rfl (pi_range2 (by rfl) (fr_range T) (pa_cons (pv 3) (pa_cons (pv 4) pa_nil))) (pg_name (i := 5) sc_Side_begin.nd rfl (by first | exact Or.inl rfl | exact Or.inr rfl)) (pss_one (ps_expr (pe_bm PySem.F.plainAttrs_list PySem.F.slot_list_append PySem.F.type_list_append mt_append (pe_fld (pv 0) rfl) (pa_cons (pe_met c_Side__own_sum hr (by decide) pass0 (pv 0) (pa_cons (pv 5) (pa_cons pe_int pa_nil))) pa_nil)))))))))), ?_⟩
  rw [show L2.start n_Side_begin [.ref x, .int (part : Int)] = [some (.ref x), some (.int (part : Int)), none, none, none, none] from rfl]
  try dsimp only [cxOf, Cx.nox, Cx.wish, List.map]

  have h256 := hS.ok.r256
  have hr0 := hS.ok.r0
  have hr1 := hS.ok.r1
  have hr2 := hS.ok.r2
  obtain ⟨⟨dxs, hs⟩, -⟩ := id hS
  unfold Stg.fs at hs
  obtain ⟨dx, hx⟩ := hA.ob
  obtain ⟨ps0, P0, -⟩ := hA.qu
  have hq0 := P0.at_
  wtm_at "rd"
  refine us_Setting_seats hS ?_
  rw [hn]
  wtm_at "rd"
  refine us_Side__own_sum (low := 0) (w := n) hA (by omega) fun u H1 hu k1 nu => ?_
  have A1 := hA.k0 k1
  obtain ⟨ps, P, e⟩ := A1.qu
  have hqa := P.at_
  have len : (ps.map fun p => V.ref p.1).length < sizeLine := szlt (by
    have := congrArg List.length e
    rw [List.length_map] at this ⊢
    omega)
  wtm_at "rd"
  have A2 := A1.app P e hu (okI_own (by omega) (by omega))
  have hs1 := k1.g0 hs
  have hs2 := hu_ne (o := .lst ((ps.map fun p => V.ref p.1) ++ [.ref u])) (ne_of hs1 hqa (by intro z; cases z)) hs1
  have S2 : SetAt K (upd H1 q (.lst ((ps.map fun p => V.ref p.1) ++ [.ref u]))) s st := ⟨⟨dxs, hs2⟩, hS.ok⟩
  have k2 : Kp [q] H (upd H1 q (.lst ((ps.map fun p => V.ref p.1) ++ [.ref u]))) := k1.of0.wr (by simp)
  generalize upd H1 q (.lst ((ps.map fun p => V.ref p.1) ++ [.ref u])) = H2 at A2 hs2 S2 k2
  wtm_at "rd"
  rw [← hlo]
  refine us_Setting_seats S2 ?_
  rw [hn]
  wtm_at "rd"
  rw [← hhi]
  have hh : lo ≤ hi := by omega
  have hh2 : hi ≤ n := by omega
  wtm_at "rd"
  refine forR_by (fun i σ H3 => (∃ v5, σ = [some (.ref x), some (.int (part : Int)), some (.ref s), some (.int (lo : Int)), some (.int (hi : Int)), v5]) ∧ SidAt K H3 x s b d q v st.ring Y ((L ++ [ownS Y 0 n]) ++ (List.range i).map fun i => ownS Y ((lo : Int) + (i : Nat)) 1) ∧ Kp [q] H H3) ⟨⟨_, rfl⟩, by rw [List.range_zero, List.map_nil, List.append_nil]; exact A2, k2⟩ ?_ ?_
  · rintro i σ H3 hi2 ⟨⟨v5, rfl⟩, A3, k3⟩
    obtain ⟨dx3, hx3⟩ := A3.ob
    obtain ⟨ps3, P3, -⟩ := A3.qu
    have hq3 := P3.at_
    wtm_at "rd"
    refine us_Side__own_sum (w := 1) A3 (by omega) fun u2 H4 hu2 k4 nu2 => ?_
    have A4 := A3.k0 k4
    obtain ⟨ps4, P4, e4⟩ := A4.qu
    have hqa4 := P4.at_
    have len : (ps4.map fun p => V.ref p.1).length < sizeLine := szlt (by
      have := congrArg List.length e4
      rw [List.length_map] at this ⊢
      rw [List.length_append, List.length_append, List.length_map, List.length_range] at this
      simp only [List.length_cons, List.length_nil] at this
      omega)
    wtm_at "rd"
    refine ⟨⟨_, rfl⟩, ?_, (k3.trans k4.of0).wr (by simp)⟩
    have := A4.app P4 e4 hu2 (okI_own (by omega) (by omega))
    rw [List.range_succ, List.map_append, ← List.append_assoc]
    exact this
  · rintro σ H3 ⟨⟨v5, rfl⟩, A3, k3⟩
    wtm_at "rd"
    refine kk _ ?_ k3
    have en : ((hi : Int) - (lo : Int)).toNat = hi - lo := by omega
    rw [en, List.append_assoc] at A3
    exact A3
theorem c_Side_begin (T : Cx K mg) (B : Tb P w K mg base) : MetX P w K mg base CX0 5 (ga K "Side") "begin" (sp_Side_begin K) [] := by
  obtain ⟨fd, F, ok⟩ := f_Side_begin (P := P) (w := w) (base := base) T B
  exact ⟨_, fd, p_Side_begin, [], cl_Side T, mt_Side_begin T, ok, FunD.bindsN F fun _ _ _ _ _ _ us hl => match us, hl with | [_, _], _ => rfl, .nil⟩
end
section
variable {P : Program} {w : World} {K : PySem.W.Frag} {mg : Str → Option Value} {base : Heap}
def sp_Side_next_items (K : PySem.W.Frag) : Sp := fun vs H Q E => ∃ (x s b d q : Addr) (st : Stg) (v : V) (Y : Int → Option Sy) (L : List It) (room : Nat), vs = [.ref x] ∧ (SidAt K H x s b d q v st.ring Y L) ∧ (SetAt K H s st) ∧ (st.room = (room : Int)) ∧ (L.length ≤ 100000) ∧ (∀ t r1 r2 q' ps qs H1, H1 t = some (.tup [.ref r1, .ref r2]) → QL H1 r1 ps → QL H1 r2 qs → ps.map (·.2) = (L.take room).filter isSay → qs.map (·.2) = (L.take room).filter (fun i => !isSay i) → SidAt K H1 x s b d q' v st.ring Y (L.drop room) → Kp [x] H H1 → H q' = none → H r1 = none → H r2 = none → r1 ≠ q' ∧ r2 ≠ q' → Q (.ref t) H1)
theorem us_Side_next_items {K : PySem.W.Frag} {H : Hp} {Q : VK} {E : XK} {x s b d q : Addr} {st : Stg} {v : V} {Y : Int → Option Sy} {L : List It} {room : Nat} (hA : SidAt K H x s b d q v st.ring Y L) (hS : SetAt K H s st) (hRm : st.room = (room : Int)) (hL : L.length ≤ 100000) (kk : ∀ t r1 r2 q' ps qs H1, H1 t = some (.tup [.ref r1, .ref r2]) → QL H1 r1 ps → QL H1 r2 qs → ps.map (·.2) = (L.take room).filter isSay → qs.map (·.2) = (L.take room).filter (fun i => !isSay i) → SidAt K H1 x s b d q' v st.ring Y (L.drop room) → Kp [x] H H1 → H q' = none → H r1 = none → H r2 = none → r1 ≠ q' ∧ r2 ≠ q' → Q (.ref t) H1) : sp_Side_next_items K [.ref x] H Q E := ⟨_, _, _, _, _, _, _, _, _, _, rfl, hA, hS, hRm, hL, kk⟩
theorem f_Side_next_items (T : Cx K mg) (B : Tb P w K mg base) : ∃ fd, FunD K "next_items" "Side.next_items" (defArgs s_Side_next_items) (defBody s_Side_next_items) (defScope s_Side_next_items) (d_Side_next_items.dvs K) (d_Side_next_items.kws K) (fAd K d_Side_next_items.at_) fd ∧ FnOk P w K mg base CX0 2 (fAd K d_Side_next_items.at_) fd p_Side_next_items (sp_Side_next_items K) := by
  obtain ⟨fd, F⟩ := T.says.def_ 36 (d := d_Side_next_items) rfl
  refine ⟨fd, F, fnD F sc_Side_next_items (fun vs H Q E h => by
    obtain ⟨_, _, _, _, _, _, _, _, _, _, rfl, _⟩ := h
    rfl) fun cdv A outer s H vs Q E hr h => ?_⟩
  have hu := hu_of hr
  obtain ⟨x, s, b, d, q, st, v, Y, L, room, rfl, hA, hS, hRm, hL, kk⟩ := h
  refine ⟨_, (pss_cons (ps_set (i := 1) sc_Side_next_items.nd rfl (by first | exact Or.inl rfl | exact Or.inr rfl) (pe_fld (pe_fld (pv 0) rfl) rfl)) (pss_cons (ps_set (i := 2) sc_Side_next_items.nd rfl (by first | exact Or.inl rfl | exact Or.inr rfl) (pe_slice sl_list (pe_fld (pv 0) rfl) po_none (po_some (pv 1)))) (pss_cons (ps_fld (pv 0) (pe_slice sl_list (pe_fld (pv 0) rfl) (po_some (pv 1)) po_none) rfl) (pss_cons (ps_setLc (i := 3) (own := [("item", 5)]) (g := (gName 5)) rfl sc_Side_next_items.nd rfl rfl (sw_true rfl rfl rfl (by decide +kernel)) (pi_list (pv 2)) (blkOk_by (own := [("item", 5)]) (N := n_Side_next_items) (sc := defScope s_Side_next_items) (by decide +kernel)) (fun _ _ _ _ _ => (pg_name (i := 5) sc_Side_next_items.nd rfl (by first | exact Or.inl rfl | exact Or.inr rfl))) (fun _ _ _ _ _ => (pts_one (pt_cmpR op_eq (pe_callB (call_lenSK (K := K) rfl) (by rfl) (fr_len T) (by decide +kernel) (pa_cons (pv 5) pa_nil)) (pe_globC (by rfl) (gl_SAYING_PARTS T)) (nomark _)))) (fun _ _ _ _ _ => (pv 5))) (pss_cons (ps_setLc (i := 4) (own := [("item", 5)]) (g := (gName 5)) rfl sc_Side_next_items.nd rfl rfl (sw_true rfl rfl rfl (by decide +kernel)) (pi_list (pv 2)) (blkOk_by (own := [("item", 5)]) (N := n_Side_next_items) (sc := defScope s_Side_next_items) (by decide +kernel)) (fun _ _ _ _ _ => (pg_name (i := 5) sc_Side_next_items.nd rfl (by first | exact Or.inl rfl | exact Or.inr rfl))) (fun _ _ _ _ _ => (pts_one (pt_cmpR op_ne (pe_callB (call_lenSK (K := K) rfl) (by rfl) (fr_len T) (by decide +kernel) (pa_cons (pv 5) pa_nil)) (pe_globC (by rfl) (gl_SAYING_PARTS T)) (nomark _)))) (fun _ _ _ _ _ => (pv 5))) (pss_one (ps_ret (pe_tup (pa_cons (pv 3) (pa_cons (pv 4) pa_nil)))))))))), ?_⟩
  rw [show L2.start n_Side_next_items [.ref x] = [some (.ref x), none, none, none, none, none] from rfl]
  try dsimp only [cxOf, Cx.nox, Cx.wish, List.map]

  have hr1 := hS.ok.r1
  obtain ⟨⟨dxs, hs⟩, -⟩ := id hS
  unfold Stg.fs at hs
  obtain ⟨⟨dx, hx⟩, hbk, ⟨ps0, P, e⟩, okL⟩ := id hA
  have hq := P.at_
  have hl0 : ps0.length = L.length := by
    have := congrArg List.length e
    rwa [List.length_map] at this
  wtm_at "rd"
  rw [hRm]
  intro B nB
  rw [cut_to]
  have k1 : Kp [] H (upd H B (.lst ((ps0.map fun p => V.ref p.1).take room))) := Kp.new nB
  have gB : upd H B (.lst ((ps0.map fun p => V.ref p.1).take room)) B = some (.lst (((ps0.take room).map fun p => V.ref p.1))) := by rw [upd_same, List.map_take]
  generalize upd H B (.lst ((ps0.map fun p => V.ref p.1).take room)) = H1 at k1 gB
  have hx1 := k1.g0 hx
  have hq1 := k1.g0 hq
  wtm_at "rd"
  intro q' nq'
  rw [cut_from]
  have k2 : Kp [] H1 (upd H1 q' (.lst ((ps0.map fun p => V.ref p.1).drop room))) := Kp.new nq'
  have gq : upd H1 q' (.lst ((ps0.map fun p => V.ref p.1).drop room)) q' = some (.lst (((ps0.drop room).map fun p => V.ref p.1))) := by rw [upd_same, List.map_drop]
  have nBq : B ≠ q' := ne_of_none gB nq'
  generalize upd H1 q' (.lst ((ps0.map fun p => V.ref p.1).drop room)) = H2 at k2 gq
  have k12 := k1.trans k2
  have hx2 := k2.g0 hx1
  have gB2 := k2.g0 gB
  wtm_at "rd"
  have nqx : q' ≠ x := ne_of gq hx2 (by intro z; cases z)
  have nBx : B ≠ x := ne_of gB2 hx2 (by intro z; cases z)
  have hb2 := hbk.k0 k12
  have P2 := P.k0 k12
  have A3 : SidAt K (upd H2 x (.ins (ga K "Side") dx (putF "_queue" (.ref q') [(("_setting" : Str), .ref s), (("_book" : Str), .ref b), (("_taker" : Str), v), (("_queue" : Str), .ref q)]))) x s b d q' v st.ring Y (L.drop room) := by
    refine ⟨⟨dx, upd_same⟩, hb2.kw (ps := [x]) (Kp.refl.wr (by simp)) fun p hp => .inr (.inr ?_), ⟨ps0.drop room, ⟨hu_ne nqx gq, fun p hp => hu_ne (ne_of (P2.ob p (List.mem_of_mem_drop hp)) hx2 (by intro z; cases z)) (P2.ob p (List.mem_of_mem_drop hp))⟩, by rw [List.map_drop, e]⟩, fun i hi => okL i (List.mem_of_mem_drop hi)⟩
    rw [List.mem_singleton.mp hp]
    exact ⟨_, _, _, _, _, _, hx2⟩
  have gB3 := hu_ne (o := .ins (ga K "Side") dx (putF "_queue" (.ref q') [(("_setting" : Str), .ref s), (("_book" : Str), .ref b), (("_taker" : Str), v), (("_queue" : Str), .ref q)])) nBx gB2
  have ob3 : ∀ p, p ∈ ps0 → upd H2 x (.ins (ga K "Side") dx (putF "_queue" (.ref q') [(("_setting" : Str), .ref s), (("_book" : Str), .ref b), (("_taker" : Str), v), (("_queue" : Str), .ref q)])) p.1 = some (.tup p.2.tup) := fun p hp => hu_ne (ne_of (P2.ob p hp) hx2 (by intro z; cases z)) (P2.ob p hp)
  have k3 : Kp [x] H (upd H2 x (.ins (ga K "Side") dx (putF "_queue" (.ref q') [(("_setting" : Str), .ref s), (("_book" : Str), .ref b), (("_taker" : Str), v), (("_queue" : Str), .ref q)]))) := k12.of0.wr (by simp)
  generalize upd H2 x (.ins (ga K "Side") dx (putF "_queue" (.ref q') [(("_setting" : Str), .ref s), (("_book" : Str), .ref b), (("_taker" : Str), v), (("_queue" : Str), .ref q)])) = H3 at A3 gB3 ob3 k3
  have eb : (ps0.take room).map (·.2) = L.take room := by rw [List.map_take, e]
  have obs : ∀ p, p ∈ ps0.take room → H3 p.1 = some (.tup p.2.tup) := fun p hp => ob3 p (List.mem_of_mem_take hp)
  have lb : (ps0.take room).length ≤ 64 := by
    rw [List.length_take]
    omega
  generalize ps0.take room = bs at gB3 eb obs lb
  wtm_at "rd"
  intro D1 nD1
  have gbD1 := hu_ne (o := .lst []) (ne_of_none gB3 nD1) gB3
  refine lcL_by (K := K) (bs.map fun p => V.ref p.1) (fun i H' => H' D1 = some (.lst (((bs.take i).filter fun p => isSay p.2).map fun p => V.ref p.1)) ∧ Kp [] H3 H') ⟨upd_same, Kp.new nD1⟩ (fun i H' _ p => SqL.of (p.2.g0 gB3)) (fun i z H' hz p => ?_) (fun H4 p => ?_)
  · obtain ⟨p1, p2⟩ := p
    rw [List.getElem?_map] at hz
    obtain ⟨pp, hp, rfl⟩ := Option.map_eq_some_iff.mp hz
    obtain ⟨hi, ep⟩ := List.getElem?_eq_some_iff.mp hp
    have pm := List.mem_of_getElem? hp
    have hob : H' pp.1 = some (.tup pp.2.tup) := p2.g0 (obs pp pm)
    have hl45 := len45 pp.2
    have et : (bs.take (i + 1)).filter (fun p => isSay p.2) = (bs.take i).filter (fun p => isSay p.2) ++ if isSay pp.2 = true then [pp] else [] := by
      rw [List.take_succ_eq_append_getElem hi, ep, List.filter_append]
      cases h : isSay pp.2 <;> simp [h]
    have len : (((bs.take i).filter fun p => isSay p.2).map fun p => V.ref p.1).length < sizeLine := szlt (by
      have := List.length_filter_le (fun p : Addr × It => isSay p.2) (bs.take i)
      rw [List.length_take] at this
      rw [List.length_map]
      omega)
    wtm_at "rd"
    refine ⟨rfl, ?_⟩
    wtm_at "rd"
    rw [hl45]
    cases hs : isSay pp.2 with
    | true =>
      refine ite_t (by simp) ?_
      wtm_at "rd"
      refine ⟨_, p1, len, ?_, p2.mine nD1⟩
      rw [upd_same, et, hs, if_pos (show true = true from rfl), List.map_append]
      rfl
    | false =>
      refine ite_f (by simp) ?_
      refine ⟨?_, p2⟩
      rw [et, hs, if_neg (by simp), List.append_nil]
      exact p1
  obtain ⟨p1, p2⟩ := p
  rw [List.length_map, List.take_length] at p1

  have gB4 := p2.g0 gB3
  have obs4 : ∀ p, p ∈ bs → H4 p.1 = some (.tup p.2.tup) := fun p hp => p2.g0 (obs p hp)
  have kH4 := p2
  have gD1 := p1
  wtm_at "rd"
  intro D2 nD2
  have gbD2 := hu_ne (o := .lst []) (ne_of_none gB4 nD2) gB4
  refine lcL_by (K := K) (bs.map fun p => V.ref p.1) (fun i H' => H' D2 = some (.lst (((bs.take i).filter fun p => !isSay p.2).map fun p => V.ref p.1)) ∧ Kp [] H4 H') ⟨upd_same, Kp.new nD2⟩ (fun i H' _ p => SqL.of (p.2.g0 gB4)) (fun i z H' hz p => ?_) (fun H5 p => ?_)
  · obtain ⟨p1, p2⟩ := p
    rw [List.getElem?_map] at hz
    obtain ⟨pp, hp, rfl⟩ := Option.map_eq_some_iff.mp hz
    obtain ⟨hi, ep⟩ := List.getElem?_eq_some_iff.mp hp
    have pm := List.mem_of_getElem? hp
    have hob : H' pp.1 = some (.tup pp.2.tup) := p2.g0 (obs4 pp pm)
    have hl45 := len45 pp.2
    have et : (bs.take (i + 1)).filter (fun p => !isSay p.2) = (bs.take i).filter (fun p => !isSay p.2) ++ if (!isSay pp.2) = true then [pp] else [] := by
      rw [List.take_succ_eq_append_getElem hi, ep, List.filter_append]
      cases h : isSay pp.2 <;> simp [h]
    have len : (((bs.take i).filter fun p => !isSay p.2).map fun p => V.ref p.1).length < sizeLine := szlt (by
      have := List.length_filter_le (fun p : Addr × It => !isSay p.2) (bs.take i)
      rw [List.length_take] at this
      rw [List.length_map]
      omega)
    wtm_at "rd"
    refine ⟨rfl, ?_⟩
    wtm_at "rd"
    rw [hl45]
    cases hs : isSay pp.2 with
    | false =>
      refine ite_t (by simp) ?_
      wtm_at "rd"
      refine ⟨_, p1, len, ?_, p2.mine nD2⟩
      rw [upd_same, et, hs, if_pos (show (!false) = true from rfl), List.map_append]
      rfl
    | true =>
      refine ite_f (by simp) ?_
      refine ⟨?_, p2⟩
      rw [et, hs, if_neg (by simp), List.append_nil]
      exact p1
  obtain ⟨p1, p2⟩ := p
  rw [List.length_map, List.take_length] at p1

  wtm_at "rd"
  refine ⟨sz1000 (by simp), fun t nt => ?_⟩
  have k5 := (p2.nw nt : Kp [] H4 (upd H5 t (.tup [.ref D1, .ref D2])))
  have nq0 : H q' = none := k1.back nq' (by simp)
  have mf : ∀ f : It → Bool, (bs.filter fun p => f p.2).map (·.2) = (bs.map (·.2)).filter f := fun f => by
    rw [List.filter_map]
    rfl
  refine kk t D1 D2 q' (bs.filter fun p => isSay p.2) (bs.filter fun p => !isSay p.2) _ upd_same ⟨k5.g0 gD1, fun p hp => k5.g0 (obs4 p (List.mem_filter.mp hp).1)⟩ ⟨hu_ne (ne_of_none p1 nt) p1, fun p hp => k5.g0 (obs4 p (List.mem_filter.mp hp).1)⟩ (by rw [mf isSay, eb]) (by rw [mf (fun i => !isSay i), eb]) (A3.k0 (kH4.trans k5)) (k3.trans (kH4.trans k5).of0) nq0 ?_ ?_ ⟨?_, ?_⟩
  · exact k3.back nD1 fun m => by
      rw [List.mem_singleton.mp m] at nD1
      obtain ⟨dx3, h3⟩ := A3.ob
      rw [h3] at nD1
      cases nD1
  · have n4 := kH4.back nD2 (by simp)
    exact k3.back n4 fun m => by
      rw [List.mem_singleton.mp m] at n4
      obtain ⟨dx3, h3⟩ := A3.ob
      rw [h3] at n4
      cases n4
  · obtain ⟨l, h⟩ := A3.ql
    exact Ne.symm (ne_of_none h nD1)
  · obtain ⟨l, h⟩ := A3.ql
    exact Ne.symm (ne_of_none h (kH4.back nD2 (by simp)))
theorem c_Side_next_items (T : Cx K mg) (B : Tb P w K mg base) : MetX P w K mg base CX0 2 (ga K "Side") "next_items" (sp_Side_next_items K) [] := by
  obtain ⟨fd, F, ok⟩ := f_Side_next_items (P := P) (w := w) (base := base) T B
  exact ⟨_, fd, p_Side_next_items, [], cl_Side T, mt_Side_next_items T, ok, FunD.bindsN F fun _ _ _ _ _ _ us hl => match us, hl with | [_], _ => rfl, .nil⟩
end
section
variable {P : Program} {w : World} {K : PySem.W.Frag} {mg : Str → Option Value} {base : Heap}
def sp__hand_over (K : PySem.W.Frag) : Sp := fun vs H Q E => ∃ (x1 x2 s b1 d1 q1 b2 d2 q2 : Addr) (st : Stg) (Y1 Y2 : Int → Option Sy) (U1 U2 : List It) (room : Nat), vs = [.ref x1, .ref x2] ∧ (SidAt K H x1 s b1 d1 q1 .non st.ring Y1 U1) ∧ (SidAt K H x2 s b2 d2 q2 .non st.ring Y2 U2) ∧ (SetAt K H s st) ∧ (st.room = (room : Int)) ∧ (x1 ≠ x2 ∧ q1 ≠ q2 ∧ d1 ≠ d2) ∧ (U1.length ≤ 100000 ∧ U2.length ≤ 100000) ∧ (∀ q1' H1, SidAt K H1 x1 s b1 d1 q1' .non st.ring Y1 (U1.drop room) → SidAt K H1 x2 s b2 d2 q2 .non st.ring (rcv Y2 U2 (srtI (U1.take room))).1 (rcv Y2 U2 (srtI (U1.take room))).2 → q1' ≠ q2 → H q1' = none → Kp [x1, q2, d2] H H1 → Q .non H1)
theorem us__hand_over {K : PySem.W.Frag} {H : Hp} {Q : VK} {E : XK} {x1 x2 s b1 d1 q1 b2 d2 q2 : Addr} {st : Stg} {Y1 Y2 : Int → Option Sy} {U1 U2 : List It} {room : Nat} (hA : SidAt K H x1 s b1 d1 q1 .non st.ring Y1 U1) (hB : SidAt K H x2 s b2 d2 q2 .non st.ring Y2 U2) (hS : SetAt K H s st) (hRm : st.room = (room : Int)) (ne : x1 ≠ x2 ∧ q1 ≠ q2 ∧ d1 ≠ d2) (hL : U1.length ≤ 100000 ∧ U2.length ≤ 100000) (kk : ∀ q1' H1, SidAt K H1 x1 s b1 d1 q1' .non st.ring Y1 (U1.drop room) → SidAt K H1 x2 s b2 d2 q2 .non st.ring (rcv Y2 U2 (srtI (U1.take room))).1 (rcv Y2 U2 (srtI (U1.take room))).2 → q1' ≠ q2 → H q1' = none → Kp [x1, q2, d2] H H1 → Q .non H1) : sp__hand_over K [.ref x1, .ref x2] H Q E := ⟨_, _, _, _, _, _, _, _, _, _, _, _, _, _, _, rfl, hA, hB, hS, hRm, ne, hL, kk⟩
theorem f__hand_over (T : Cx K mg) (B : Tb P w K mg base) : ∃ fd, FunD K "_hand_over" "_hand_over" (defArgs s__hand_over) (defBody s__hand_over) (defScope s__hand_over) (d__hand_over.dvs K) (d__hand_over.kws K) (fAd K d__hand_over.at_) fd ∧ FnOk P w K mg base CX0 10 (fAd K d__hand_over.at_) fd p__hand_over (sp__hand_over K) := by
  have c_Side_next_items := c_Side_next_items (P := P) (w := w) (base := base) T B
  have c_Side_receive := c_Side_receive (P := P) (w := w) (base := base) T B
  obtain ⟨fd, F⟩ := T.says.def_ 37 (d := d__hand_over) rfl
  refine ⟨fd, F, fnD F sc__hand_over (fun vs H Q E h => by
    obtain ⟨_, _, _, _, _, _, _, _, _, _, _, _, _, _, _, rfl, _⟩ := h
    rfl) fun cdv A outer s H vs Q E hr h => ?_⟩
  have hu := hu_of hr
  obtain ⟨x1, x2, s, b1, d1, q1, b2, d2, q2, st, Y1, Y2, U1, U2, room, rfl, hA, hB, hS, hRm, ne, hL, kk⟩ := h
  refine ⟨_, (pss_cons (ps_asg (pe_met0 c_Side_next_items hr (by decide) pass0 (pv 0)) (pg_tup rfl (pgs_cons (pg_name (i := 2) sc__hand_over.nd rfl (by first | exact Or.inl rfl | exact Or.inr rfl)) (pgs_cons (pg_name (i := 3) sc__hand_over.nd rfl (by first | exact Or.inl rfl | exact Or.inr rfl)) pgs_nil)))) (pss_one (ps_expr (pe_met c_Side_receive hr (by decide) pass0 (pv 1) (pa_cons (pv 2) (pa_cons (pv 3) pa_nil)))))), ?_⟩
  rw [show L2.start n__hand_over [.ref x1, .ref x2] = [some (.ref x1), some (.ref x2), none, none] from rfl]
  try dsimp only [cxOf, Cx.nox, Cx.wish, List.map]

  obtain ⟨nx, nq, nd⟩ := ne
  obtain ⟨hL1, hL2⟩ := hL
  have hr1 := hS.ok.r1
  obtain ⟨dxa, hxa⟩ := hA.ob
  obtain ⟨dxb, hxb⟩ := hB.ob
  wtm_at "rd"
  refine us_Side_next_items hA hS hRm hL1 fun t r1 r2 q1' ps qs H1 ht Q1 Q2 e1 e2 A1 k1 nq' nr1 nr2 nrq => ?_
  have B1 := hB.kw k1 fun p hp => .inr (.inr (by
    rw [List.mem_singleton.mp hp]
    exact ⟨hA.ins, nx⟩))
  have S1 := hS.kp k1 (by
    obtain ⟨dx, h⟩ := hA.ob
    rw [List.mem_singleton]
    exact hS.neins h (by decide))
  have nr1q : r1 ≠ q2 := by
    obtain ⟨l, h⟩ := hB.ql
    exact Ne.symm (ne_of_none h nr1)
  have nr2q : r2 ≠ q2 := by
    obtain ⟨l, h⟩ := hB.ql
    exact Ne.symm (ne_of_none h nr2)
  have nq1q : q1' ≠ q2 := by
    obtain ⟨l, h⟩ := hB.ql
    exact Ne.symm (ne_of_none h nq')
  have mem : ∀ i, i ∈ ps.map (·.2) ++ qs.map (·.2) → i ∈ U1 := fun i hi => by
    rw [e1, e2] at hi
    rcases List.mem_append.mp hi with m | m
    · exact List.mem_of_mem_take (List.mem_filter.mp m).1
    · exact List.mem_of_mem_take (List.mem_filter.mp m).1
  have lps : ps.length ≤ 64 ∧ qs.length ≤ 64 := by
    have h1 := congrArg List.length e1
    have h2 := congrArg List.length e2
    rw [List.length_map] at h1 h2
    have h3 := List.length_filter_le isSay (U1.take room)
    have h4 := List.length_filter_le (fun i => !isSay i) (U1.take room)
    rw [List.length_take] at h3 h4
    omega
  obtain ⟨dxb1, hxb1⟩ := B1.ob
  wtm_at "rd"
  refine us_Side_receive B1 S1 Q1 Q2 ⟨nr1q, nr2q⟩ (fun i hi => ⟨?_, hA.ok i (mem i (List.mem_append_left _ hi))⟩) (fun i hi => ⟨?_, hA.ok i (mem i (List.mem_append_right _ hi))⟩) ⟨hL2, by omega, by omega⟩ fun r ts H2 T2 eT B2 k2 nr => ?_
  · rw [e1] at hi
    exact (List.mem_filter.mp hi).2
  · rw [e2] at hi
    simpa using (List.mem_filter.mp hi).2
  rw [e1, e2] at B2
  have A2 := A1.kw k2 fun p hp => by
    simp only [List.mem_cons, List.not_mem_nil, or_false] at hp
    rcases hp with rfl | rfl
    · exact .inl ⟨B1.ql, Ne.symm nq1q⟩
    · exact .inr (.inl ⟨B1.bk.dk, Ne.symm nd⟩)
  wtm_at "rd"
  exact kk q1' H2 A2 B2 nq1q nq' ((k1.mono (by simp)).trans (k2.mono (by simp)))
theorem c__hand_over (T : Cx K mg) (B : Tb P w K mg base) : CalX P w K mg base CX0 10 "_hand_over" (sp__hand_over K) [] := by
  obtain ⟨fd, F, ok⟩ := f__hand_over (P := P) (w := w) (base := base) T B
  exact ⟨_, fd, p__hand_over, [], ok, gl__hand_over T, F.kp, FunD.bindsN F fun _ _ _ _ _ _ us hl => match us, hl with | [_, _], _ => rfl, .nil⟩
end
section
variable {P : Program} {w : World} {K : PySem.W.Frag} {mg : Str → Option Value} {base : Heap}
def sp_Book_copy (K : PySem.W.Frag) : Sp := fun vs H Q E => ∃ (b s d : Addr) (st : Stg) (Y : Int → Option Sy), vs = [.ref b] ∧ (BkT K H b s d st.ring Y) ∧ (SetAt K H s st) ∧ (∀ b2 d2 H1, BkT K H1 b2 s d2 st.ring Y → Kp [] H H1 → H b2 = none → H d2 = none → Q (.ref b2) H1)
theorem us_Book_copy {K : PySem.W.Frag} {H : Hp} {Q : VK} {E : XK} {b s d : Addr} {st : Stg} {Y : Int → Option Sy} (hB : BkT K H b s d st.ring Y) (hS : SetAt K H s st) (kk : ∀ b2 d2 H1, BkT K H1 b2 s d2 st.ring Y → Kp [] H H1 → H b2 = none → H d2 = none → Q (.ref b2) H1) : sp_Book_copy K [.ref b] H Q E := ⟨_, _, _, _, _, rfl, hB, hS, kk⟩
theorem f_Book_copy (T : Cx K mg) (B : Tb P w K mg base) : ∃ fd, FunD K "copy" "Book.copy" (defArgs s_Book_copy) (defBody s_Book_copy) (defScope s_Book_copy) (d_Book_copy.dvs K) (d_Book_copy.kws K) (fAd K d_Book_copy.at_) fd ∧ FnOk P w K mg base CX0 9 (fAd K d_Book_copy.at_) fd p_Book_copy (sp_Book_copy K) := by
  have c_Book_rows := c_Book_rows (P := P) (w := w) (base := base) T B
  have c_Book_init := c_Book_init (P := P) (w := w) (base := base) T B
  obtain ⟨fd, F⟩ := T.says.def_ 38 (d := d_Book_copy) rfl
  refine ⟨fd, F, fnD F sc_Book_copy (fun vs H Q E h => by
    obtain ⟨_, _, _, _, _, rfl, _⟩ := h
    rfl) fun cdv A outer s H vs Q E hr h => ?_⟩
  have hu := hu_of hr
  obtain ⟨b, s, d, st, Y, rfl, hB, hS, kk⟩ := h
  refine ⟨_, (pss_one (ps_ret (pe_mak c_Book_init hr (by decide) (by rfl) pass0 (pa_cons (pe_fld (pv 0) rfl) (pa_cons (pe_met0 c_Book_rows hr (by decide) pass0 (pv 0)) pa_nil))))), ?_⟩
  rw [show L2.start n_Book_copy [.ref b] = [some (.ref b)] from rfl]
  try dsimp only [cxOf, Cx.nox, Cx.wish, List.map]

  have hr := hS.ok.r256
  obtain ⟨xs, B, eY, nd, ok⟩ := hB
  obtain ⟨dx, hb⟩ := B.ob
  have hn := ok_len nd ok hr
  wtm_at "rd"
  refine us_Book_rows B (by omega) fun r H1 S1 k1 n1 => ?_
  wtm_at "rd"
  intro b2 dx2 nb ndx ne
  have k2 : Kp [] H1 (upd (upd H1 dx2 (.own b2)) b2 (.ins (ga K "Book") dx2 [])) := (Kp.new ndx).nw (hn_ne (Ne.symm ne) nb)
  refine us_Book_init upd_same ((hS.k0 k1).k0 k2) (.inl (S1.k0 k2)) (fun p hp => ok p (rowsL_mem hp).1) (by rw [rowsL_len]; omega) fun d2 H3 K3 k3 nd3 => ⟨rfl, ?_⟩
  have k13 := made_kp nb ndx ne k3
  refine kk b2 d2 H3 ⟨_, K3, by rw [look_rows nd fun p hp => ok_rk (ok p hp), eY], keysN_fold keysN_nil, fun p hp => ?_⟩ (k1.trans k13) (k1.back nb (by simp)) (k1.back (k2.back nd3 (by simp)) (by simp))
  rcases foldT_mem hp with m | m
  · exact ok p (rowsL_mem m).1
  · cases m
theorem c_Book_copy (T : Cx K mg) (B : Tb P w K mg base) : MetX P w K mg base CX0 9 (ga K "Book") "copy" (sp_Book_copy K) [] := by
  obtain ⟨fd, F, ok⟩ := f_Book_copy (P := P) (w := w) (base := base) T B
  exact ⟨_, fd, p_Book_copy, [], cl_Book T, mt_Book_copy T, ok, FunD.bindsN F fun _ _ _ _ _ _ us hl => match us, hl with | [_], _ => rfl, .nil⟩
end
section
variable {P : Program} {w : World} {K : PySem.W.Frag} {mg : Str → Option Value} {base : Heap}
def sp_reconcile (K : PySem.W.Frag) : Sp := fun vs H Q E => ∃ (s b1 d1 b2 d2 : Addr) (st : Stg) (Y1 Y2 : Int → Option Sy) (part n lo hi room Rn : Nat), vs = [.ref s, .ref b1, .ref b2, .int (part : Int)] ∧ (BkT K H b1 s d1 st.ring Y1) ∧ (BkT K H b2 s d2 st.ring Y2) ∧ (SetAt K H s st) ∧ (st.ring = (n : Int)) ∧ (st.room = (room : Int)) ∧ ((lo : Int) = part * st.room) ∧ ((hi : Int) = min (lo + st.room) n) ∧ (lo ≤ n) ∧ (idleT (itr room ⟨Y1, Y2, begL Y1 n lo hi, []⟩ Rn)) ∧ (∀ r, r < Rn → ¬ idleT (itr room ⟨Y1, Y2, begL Y1 n lo hi, []⟩ r)) ∧ (∀ r, (itr room ⟨Y1, Y2, begL Y1 n lo hi, []⟩ r).qa.length ≤ 50000 ∧ (itr room ⟨Y1, Y2, begL Y1 n lo hi, []⟩ r).qb.length ≤ 50000) ∧ (∀ t c1 e1 c2 e2 H1, H1 t = some (.tup [.ref c1, .ref c2, .int (2 * (Rn : Int))]) → BkT K H1 c1 s e1 st.ring (itr room ⟨Y1, Y2, begL Y1 n lo hi, []⟩ Rn).ya → BkT K H1 c2 s e2 st.ring (itr room ⟨Y1, Y2, begL Y1 n lo hi, []⟩ Rn).yb → e1 ≠ e2 → c1 ≠ c2 → Kp [] H H1 → H t = none → H c1 = none → H e1 = none → H c2 = none → H e2 = none → Q (.ref t) H1)
theorem us_reconcile {K : PySem.W.Frag} {H : Hp} {Q : VK} {E : XK} {s b1 d1 b2 d2 : Addr} {st : Stg} {Y1 Y2 : Int → Option Sy} {part n lo hi room Rn : Nat} (hA : BkT K H b1 s d1 st.ring Y1) (hB : BkT K H b2 s d2 st.ring Y2) (hS : SetAt K H s st) (hn : st.ring = (n : Int)) (hRm : st.room = (room : Int)) (hlo : (lo : Int) = part * st.room) (hhi : (hi : Int) = min (lo + st.room) n) (hlt : lo ≤ n) (hI : idleT (itr room ⟨Y1, Y2, begL Y1 n lo hi, []⟩ Rn)) (hN : ∀ r, r < Rn → ¬ idleT (itr room ⟨Y1, Y2, begL Y1 n lo hi, []⟩ r)) (hQ : ∀ r, (itr room ⟨Y1, Y2, begL Y1 n lo hi, []⟩ r).qa.length ≤ 50000 ∧ (itr room ⟨Y1, Y2, begL Y1 n lo hi, []⟩ r).qb.length ≤ 50000) (kk : ∀ t c1 e1 c2 e2 H1, H1 t = some (.tup [.ref c1, .ref c2, .int (2 * (Rn : Int))]) → BkT K H1 c1 s e1 st.ring (itr room ⟨Y1, Y2, begL Y1 n lo hi, []⟩ Rn).ya → BkT K H1 c2 s e2 st.ring (itr room ⟨Y1, Y2, begL Y1 n lo hi, []⟩ Rn).yb → e1 ≠ e2 → c1 ≠ c2 → Kp [] H H1 → H t = none → H c1 = none → H e1 = none → H c2 = none → H e2 = none → Q (.ref t) H1) : sp_reconcile K [.ref s, .ref b1, .ref b2, .int (part : Int)] H Q E := ⟨_, _, _, _, _, _, _, _, _, _, _, _, _, _, rfl, hA, hB, hS, hn, hRm, hlo, hhi, hlt, hI, hN, hQ, kk⟩
theorem f_reconcile (T : Cx K mg) (B : Tb P w K mg base) : ∃ fd, FunD K "reconcile" "reconcile" (defArgs s_reconcile) (defBody s_reconcile) (defScope s_reconcile) (d_reconcile.dvs K) (d_reconcile.kws K) (fAd K d_reconcile.at_) fd ∧ FnOk P w K mg base CX0 12 (fAd K d_reconcile.at_) fd p_reconcile (sp_reconcile K) := by
  have c_Book_copy := c_Book_copy (P := P) (w := w) (base := base) T B
  have c_Side_init := c_Side_init (P := P) (w := w) (base := base) T B
  have c_Side_init_d1 := c_Side_init_d1 (P := P) (w := w) (base := base) T B
  have c_Side_begin := c_Side_begin (P := P) (w := w) (base := base) T B
  have c_Side_idle := c_Side_idle (P := P) (w := w) (base := base) T B
  have c__hand_over := c__hand_over (P := P) (w := w) (base := base) T B
  obtain ⟨fd, F⟩ := T.says.def_ 39 (d := d_reconcile) rfl
  refine ⟨fd, F, fnD F sc_reconcile (fun vs H Q E h => by
    obtain ⟨_, _, _, _, _, _, _, _, _, _, _, _, _, _, rfl, _⟩ := h
    rfl) fun cdv A outer s H vs Q E hr h => ?_⟩
  have hu := hu_of hr
  obtain ⟨s, b1, d1, b2, d2, st, Y1, Y2, part, n, lo, hi, room, Rn, rfl, hA, hB, hS, hn, hRm, hlo, hhi, hlt, hI, hN, hQ, kk⟩ := h
  refine ⟨_, (pss_cons (ps_set (i := 4) sc_reconcile.nd rfl (by first | exact Or.inl rfl | exact Or.inr rfl) (pe_met0 c_Book_copy hr (by decide) pass0 (pv 1))) (pss_cons (ps_set (i := 5) sc_reconcile.nd rfl (by first | exact Or.inl rfl | exact Or.inr rfl) (pe_met0 c_Book_copy hr (by decide) pass0 (pv 2))) (pss_cons (ps_set (i := 6) sc_reconcile.nd rfl (by first | exact Or.inl rfl | exact Or.inr rfl) (pe_mak c_Side_init_d1 hr (by decide) (by rfl) pass0 (pa_cons (pv 0) (pa_cons (pv 4) pa_nil)))) (pss_cons (ps_set (i := 7) sc_reconcile.nd rfl (by first | exact Or.inl rfl | exact Or.inr rfl) (pe_mak c_Side_init_d1 hr (by decide) (by rfl) pass0 (pa_cons (pv 0) (pa_cons (pv 5) pa_nil)))) (pss_cons (ps_expr (pe_met c_Side_begin hr (by decide) pass0 (pv 6) (pa_cons (pv 3) pa_nil))) (pss_cons (ps_set (i := 8) sc_reconcile.nd rfl (by first | exact Or.inl rfl | exact Or.inr rfl) pe_int) (pss_cons (ps_while PassesOwn.never (pt_not (PW.pt (pw_and (pt_val (pe_prpX c_Side_idle hr (by decide) pass0 (pv 6))) (pw_and1 (pt_val (pe_prpX c_Side_idle hr (by decide) pass0 (pv 7))))))) (pss_cons (ps_expr (pe_cal c__hand_over hr (by decide) (by rfl) pass0 (pa_cons (pv 6) (pa_cons (pv 7) pa_nil)))) (pss_cons (ps_expr (pe_cal c__hand_over hr (by decide) (by rfl) pass0 (pa_cons (pv 7) (pa_cons (pv 6) pa_nil)))) (pss_one (ps_aug (i := 8) sc_reconcile.nd rfl (by first | exact Or.inl rfl | exact Or.inr rfl) pe_int ip_add))))) (pss_one (ps_ret (pe_tup (pa_cons (pv 4) (pa_cons (pv 5) (pa_cons (pv 8) pa_nil))))))))))))), ?_⟩
  rw [show L2.start n_reconcile [.ref s, .ref b1, .ref b2, .int (part : Int)] = [some (.ref s), some (.ref b1), some (.ref b2), some (.int (part : Int)), none, none, none, none, none] from rfl]
  try dsimp only [cxOf, Cx.nox, Cx.wish, List.map]

  have hr1 := hS.ok.r1
  have hr0 := hS.ok.r0
  have h256 := hS.ok.r256
  obtain ⟨dxa, ha⟩ := hA.bo
  wtm_at "rd"
  refine us_Book_copy hA hS fun c1 e1 H1 C1 k1 nc1 ne1 => ?_
  have hB1 := hB.k0 k1
  obtain ⟨dxb, hb1⟩ := hB1.bo
  wtm_at "rd"
  refine us_Book_copy hB1 (hS.k0 k1) fun c2 e2 H2 C2 k2 nc2 ne2 => ?_
  have C12 := C1.k0 k2
  have k12 := k1.trans k2
  have ncc : c1 ≠ c2 := by
    obtain ⟨dx, h⟩ := C1.bo
    exact ne_of_none h nc2
  have nee : e1 ≠ e2 := by
    obtain ⟨kv, h⟩ := C1.dk
    exact ne_of_none h ne2
  have nc20 := k1.back nc2 (by simp)
  have ne20 := k1.back ne2 (by simp)
  wtm_at "rd"
  intro x1 dx1 nx1 ndx1 nex1
  have k3 : Kp [] H2 (upd (upd H2 dx1 (.own x1)) x1 (.ins (ga K "Side") dx1 [])) := (Kp.new ndx1).nw (hn_ne (Ne.symm nex1) nx1)
  refine us_Side_init upd_same fun q1 H4 hx1 hq1 k4 nq1 => ⟨rfl, ?_⟩
  have k24 := made_kp nx1 ndx1 nex1 k4
  have k04 := k12.trans k24
  have A4 : SidAt K H4 x1 s c1 e1 q1 .non st.ring Y1 [] := ⟨⟨dx1, hx1⟩, C12.k0 k24, ⟨[], ⟨hq1, fun p hp => by cases hp⟩, rfl⟩, fun i hi => by cases hi⟩
  wtm_at "rd"
  intro x2 dx2 nx2 ndx2 nex2
  have k5 : Kp [] H4 (upd (upd H4 dx2 (.own x2)) x2 (.ins (ga K "Side") dx2 [])) := (Kp.new ndx2).nw (hn_ne (Ne.symm nex2) nx2)
  refine us_Side_init upd_same fun q2 H6 hx2 hq2 k6 nq2 => ⟨rfl, ?_⟩
  have k46 := made_kp nx2 ndx2 nex2 k6
  have k06 := k04.trans k46
  have A6 := A4.k0 k46
  have B6 : SidAt K H6 x2 s c2 e2 q2 .non st.ring Y2 [] := ⟨⟨dx2, hx2⟩, (C2.k0 k24).k0 k46, ⟨[], ⟨hq2, fun p hp => by cases hp⟩, rfl⟩, fun i hi => by cases hi⟩
  have nxx : x1 ≠ x2 := ne_of_none hx1 nx2
  have nq24 : H4 q2 = none := k5.back nq2 (by simp)
  have nqq : q1 ≠ q2 := ne_of_none hq1 nq24
  have nx10 : H x1 = none := k12.back nx1 (by simp)
  have nq10 : H q1 = none := k12.back (k3.back nq1 (by simp)) (by simp)
  have nx20 : H x2 = none := k04.back nx2 (by simp)
  have nq20 : H q2 = none := k04.back nq24 (by simp)
  obtain ⟨dxa6, hxa6⟩ := A6.ob
  wtm_at "rd"
  refine us_Side_begin A6 (hS.k0 k06) hn hlo hhi hlt (by simp) fun H7 A7 k7 => ?_
  have T7 : Two K H7 x1 x2 s c1 c2 e1 e2 q1 q2 st ⟨Y1, Y2, begL Y1 n lo hi, []⟩ := ⟨A7, B6.kw k7 fun p hp => .inl (by
    rw [List.mem_singleton.mp hp]
    exact ⟨A6.ql, nqq⟩), (hS.k0 k06).k1 k7 (by
    obtain ⟨l, h⟩ := A6.ql
    exact (hS.k0 k06).nelst h), nxx, nqq, nee⟩
  have k07 : Kp [] H H7 := k06.via1 k7 nq10
  generalize (⟨Y1, Y2, begL Y1 n lo hi, []⟩ : TS) = T0 at *
  wtm_at "rd"
  refine rd_whileM (fun m σ H' => ∃ (r : Nat) (q1 q2 : Addr), r ≤ Rn ∧ m = Rn - r ∧ σ = [some (.ref s), some (.ref b1), some (.ref b2), some (.int (part : Int)), some (.ref c1), some (.ref c2), some (.ref x1), some (.ref x2), some (.int (2 * (r : Int)))] ∧ Two K H' x1 x2 s c1 c2 e1 e2 q1 q2 st (itr room T0 r) ∧ H q1 = none ∧ H q2 = none ∧ Kp [] H H') Rn ⟨0, q1, q2, Nat.zero_le _, rfl, rfl, T7, nq10, nq20, k07⟩ ?_
  rintro m σ H' ⟨r, q1, q2, hrR, rfl, rfl, T, n1, n2, k⟩
  obtain ⟨dxa7, hxa7⟩ := T.a.ob
  obtain ⟨dxb7, hxb7⟩ := T.b.ob
  wtm_at "rd"
  refine us_Side_idle T.a ?_
  have fin : idleT (itr room T0 r) → r = Rn := fun h => Classical.byContradiction fun z => hN r (by omega) h
  have go : ¬ idleT (itr room T0 r) → r < Rn := fun h => Classical.byContradiction fun z => h (by rw [show r = Rn by omega]; exact hI)
  cases ha : decide ((itr room T0 r).qa = []) with
  | false =>
    have lt := go fun z => of_decide_eq_false ha z.1
    refine ⟨_, rfl, ?_⟩
    rw [if_neg (by simp), if_pos (by simp)]
    refine ⟨fun σ H'' => ∃ (q1 q2 : Addr), σ = [some (.ref s), some (.ref b1), some (.ref b2), some (.int (part : Int)), some (.ref c1), some (.ref c2), some (.ref x1), some (.ref x2), some (.int (2 * ((r + 1 : Nat) : Int)))] ∧ Two K H'' x1 x2 s c1 c2 e1 e2 q1 q2 st (itr room T0 (r + 1)) ∧ H q1 = none ∧ H q2 = none ∧ Kp [] H H'', fun σ' H'' ⟨q1, q2, e, T, a, b, c⟩ => ⟨Rn - (r + 1), by omega, r + 1, q1, q2, by omega, rfl, e, T, a, b, c⟩, ?_⟩
    wtm_at "rd"
    refine us__hand_over T.a T.b T.se hRm ⟨T.nx, T.nq, T.nd⟩ ⟨by have := (hQ r).1; omega, by have := (hQ r).2; omega⟩ fun q1' Ha A1 B1 nqq' nq' kA => ?_
    have S1 := T.se.kw3 T.a T.b kA
    wtm_at "rd"
    refine us__hand_over B1 A1 S1 hRm ⟨Ne.symm T.nx, Ne.symm nqq', Ne.symm T.nd⟩ ⟨by
      have h1 := rcv_len (srtI ((itr room T0 r).qa.take room)) (itr room T0 r).yb (itr room T0 r).qb
      rw [srtI_len, List.length_take] at h1
      have := (hQ r).2
      omega, by
      have := (hQ r).1
      rw [List.length_drop]
      omega⟩ fun q2' Hb B2 A2 nqq2 nq2' kB => ?_
    have S2 := S1.kw3 B1 A1 kB
    wtm_at "rd"
    rw [show 2 * (r : Int) + 2 = 2 * ((r + 1 : Nat) : Int) by omega]
    have kA' := k.via kA fun p hp => .inr (by
      simp only [List.mem_cons, List.not_mem_nil, or_false] at hp
      rcases hp with rfl | rfl | rfl
      · exact nx10
      · exact n2
      · exact ne20)
    have n1' : H q1' = none := k.back nq' (by simp)
    have kB' := kA'.via kB fun p hp => .inr (by
      simp only [List.mem_cons, List.not_mem_nil, or_false] at hp
      rcases hp with rfl | rfl | rfl
      · exact nx20
      · exact n1'
      · exact ne1)
    exact ⟨q1', q2', rfl, ⟨A2, B2, S2, T.nx, Ne.symm nqq2, T.nd⟩, n1', kA'.back nq2' (by simp), kB'⟩
  | true =>
    refine ⟨_, rfl, ?_⟩
    rw [if_pos rfl]
    wtm_at "rd"
    refine us_Side_idle T.b ?_
    cases hb : decide ((itr room T0 r).qb = []) with
    | false =>
      have lt := go fun z => of_decide_eq_false hb z.2
      refine ⟨_, rfl, ?_⟩
      rw [if_pos (by simp)]
      refine ⟨fun σ H'' => ∃ (q1 q2 : Addr), σ = [some (.ref s), some (.ref b1), some (.ref b2), some (.int (part : Int)), some (.ref c1), some (.ref c2), some (.ref x1), some (.ref x2), some (.int (2 * ((r + 1 : Nat) : Int)))] ∧ Two K H'' x1 x2 s c1 c2 e1 e2 q1 q2 st (itr room T0 (r + 1)) ∧ H q1 = none ∧ H q2 = none ∧ Kp [] H H'', fun σ' H'' ⟨q1, q2, e, T, a, b, c⟩ => ⟨Rn - (r + 1), by omega, r + 1, q1, q2, by omega, rfl, e, T, a, b, c⟩, ?_⟩
      wtm_at "rd"
      refine us__hand_over T.a T.b T.se hRm ⟨T.nx, T.nq, T.nd⟩ ⟨by have := (hQ r).1; omega, by have := (hQ r).2; omega⟩ fun q1' Ha A1 B1 nqq' nq' kA => ?_
      have S1 := T.se.kw3 T.a T.b kA
      wtm_at "rd"
      refine us__hand_over B1 A1 S1 hRm ⟨Ne.symm T.nx, Ne.symm nqq', Ne.symm T.nd⟩ ⟨by
        have h1 := rcv_len (srtI ((itr room T0 r).qa.take room)) (itr room T0 r).yb (itr room T0 r).qb
        rw [srtI_len, List.length_take] at h1
        have := (hQ r).2
        omega, by
        have := (hQ r).1
        rw [List.length_drop]
        omega⟩ fun q2' Hb B2 A2 nqq2 nq2' kB => ?_
      have S2 := S1.kw3 B1 A1 kB
      wtm_at "rd"
      rw [show 2 * (r : Int) + 2 = 2 * ((r + 1 : Nat) : Int) by omega]
      have kA' := k.via kA fun p hp => .inr (by
        simp only [List.mem_cons, List.not_mem_nil, or_false] at hp
        rcases hp with rfl | rfl | rfl
        · exact nx10
        · exact n2
        · exact ne20)
      have n1' : H q1' = none := k.back nq' (by simp)
      have kB' := kA'.via kB fun p hp => .inr (by
        simp only [List.mem_cons, List.not_mem_nil, or_false] at hp
        rcases hp with rfl | rfl | rfl
        · exact nx20
        · exact n1'
        · exact ne1)
      exact ⟨q1', q2', rfl, ⟨A2, B2, S2, T.nx, Ne.symm nqq2, T.nd⟩, n1', kA'.back nq2' (by simp), kB'⟩
    | true =>
      have er := fin ⟨of_decide_eq_true ha, of_decide_eq_true hb⟩
      refine ⟨_, rfl, ?_⟩
      rw [if_neg (by simp)]
      wtm_at "rd"
      refine ⟨sz1000 (by simp), fun t nt => ?_⟩
      rw [← er] at kk
      exact kk t c1 e1 c2 e2 _ upd_same (T.a.bk.k0 (Kp.new nt)) (T.b.bk.k0 (Kp.new nt)) nee ncc (k.nw nt) (k.back nt (by simp)) nc1 ne1 nc20 ne20
theorem c_reconcile (T : Cx K mg) (B : Tb P w K mg base) : CalX P w K mg base CX0 12 "reconcile" (sp_reconcile K) [.int 0] := by
  obtain ⟨fd, F, ok⟩ := f_reconcile (P := P) (w := w) (base := base) T B
  obtain ⟨ds, hv, hb⟩ := FunD.binds0 (ps := p_reconcile) F 3 (fun e => by cases e) rfl fun _ _ _ _ _ _ us ks hu hk => match us, ks, hu, hk with | [_, _, _], [_], _, _ => ⟨_, _, _, _, _, _, rfl, rfl, rfl⟩
  exact ⟨_, fd, p_reconcile, ds, ok, gl_reconcile T, F.kp, hb, hv⟩
def kg_reconcile_stripe {α : Type} : List α → List α → List α → List α := fun us mz zs => us ++ (zs[0]?).toList
theorem kr_reconcile_stripe {vs mz zs : List V} {us mv ws : List Value} (r1 : Vals vs us) (r2 : Vals mz mv) (r3 : Vals zs ws) : Vals (kg_reconcile_stripe vs mz zs) (kg_reconcile_stripe us mv ws) := (Vals.append r1 (vals_at 0 r3))
theorem c_reconcile_stripe (T : Cx K mg) (B : Tb P w K mg base) : CalKX P w K mg base CX0 12 "reconcile" (sp_reconcile K) 3 ["stripe"] (fun vs zs => kg_reconcile_stripe vs [] zs) := by
  obtain ⟨fd, F, ok⟩ := f_reconcile (P := P) (w := w) (base := base) T B
  obtain ⟨mv, hb⟩ := FunD.kbinds0 (ps := p_reconcile) F 3 ["stripe"] [] kg_reconcile_stripe (fun e => by cases e) (fun q hq => nomatch hq) kr_reconcile_stripe fun _ _ _ _ _ _ us mv ws hu hm hw => match us, mv, ws, hu, hm, hw with | [_, _, _], [], [_], _, _, _ => rfl
  exact ⟨_, fd, p_reconcile, _, ok, gl_reconcile T, F.kp, hb⟩
end
section
variable {P : Program} {w : World} {K : PySem.W.Frag} {mg : Str → Option Value} {base : Heap}
def sp_l_few (K : PySem.W.Frag) : Sp := fun vs H Q E => ∃ (p c l : Addr) (Ls : List Int) (b M : Int), vs = [.ref p, .ref l, .int b] ∧ (Box H p c) ∧ (H l = some (.lst (Ls.map V.int))) ∧ (2 ≤ Ls.length ∧ Ls.length ≤ 256) ∧ (LvB M Ls) ∧ (3 ≤ b) ∧ (4 * b + 5 ≤ M) ∧ (∀ r (Rs : List Int) H1, H1 r = some (.lst (Rs.map V.int)) → Rs.length = Ls.length → LvB M Rs → Box H1 p c → Kp [p] H H1 → H r = none → Q (.ref r) H1)
theorem us_l_few {K : PySem.W.Frag} {H : Hp} {Q : VK} {E : XK} {p c l : Addr} {Ls : List Int} {b M : Int} (hB : Box H p c) (hl : H l = some (.lst (Ls.map V.int))) (hn : 2 ≤ Ls.length ∧ Ls.length ≤ 256) (hL : LvB M Ls) (hb : 3 ≤ b) (hM : 4 * b + 5 ≤ M) (kk : ∀ r (Rs : List Int) H1, H1 r = some (.lst (Rs.map V.int)) → Rs.length = Ls.length → LvB M Rs → Box H1 p c → Kp [p] H H1 → H r = none → Q (.ref r) H1) : sp_l_few K [.ref p, .ref l, .int b] H Q E := ⟨_, _, _, _, _, _, rfl, hB, hl, hn, hL, hb, hM, kk⟩
theorem f_l_few (T : Cx K mg) (B : Tb P w K mg base) : ∃ fd, FunD K "_law_few" "_law_few" (defArgs s_l_few) (defBody s_l_few) (defScope s_l_few) (d_l_few.dvs K) (d_l_few.kws K) (fAd K d_l_few.at_) fd ∧ FnOk P w K mg base CX0 4 (fAd K d_l_few.at_) fd p_l_few (sp_l_few K) := by
  have c_l_take := c_l_take (P := P) (w := w) (base := base) T B
  have c_l_level := c_l_level (P := P) (w := w) (base := base) T B
  obtain ⟨fd, F⟩ := T.says.def_ 40 (d := d_l_few) rfl
  refine ⟨fd, F, fnD F sc_l_few (fun vs H Q E h => by
    obtain ⟨_, _, _, _, _, _, rfl, _⟩ := h
    rfl) fun cdv A outer s H vs Q E hr h => ?_⟩
  have hu := hu_of hr
  obtain ⟨p, c, l, Ls, b, M, rfl, hB, hl, hn, hL, hb, hM, kk⟩ := h
  refine ⟨_, (pss_cons (ps_set (i := 3) sc_l_few.nd rfl (by first | exact Or.inl rfl | exact Or.inr rfl) (pe_callTy call_listOf (by rfl) (fr_list T) (by decide +kernel) (pa_cons (pv 1) pa_nil))) (pss_cons (ps_for PassesOwn.never rfl (pi_range1 (by rfl) (fr_range T) (pa_cons (pe_cal c_l_take hr (by decide) (by rfl) pass0 (pa_cons (pv 0) (pa_cons pe_int pa_nil))) pa_nil)) (pg_name (i := 4) sc_l_few.nd rfl (by first | exact Or.inl rfl | exact Or.inr rfl)) (pss_cons (ps_set (i := 5) sc_l_few.nd rfl (by first | exact Or.inl rfl | exact Or.inr rfl) (pe_cal c_l_take hr (by decide) (by rfl) pass0 (pa_cons (pv 0) (pa_cons (pe_callB call_lenS (by rfl) (fr_len T) (by decide +kernel) (pa_cons (pv 1) pa_nil)) pa_nil)))) (pss_cons (ps_set (i := 6) sc_l_few.nd rfl (by first | exact Or.inl rfl | exact Or.inr rfl) (pe_cal c_l_level hr (by decide) (by rfl) pass0 (pa_cons (pv 0) (pa_cons (pv 2) pa_nil)))) (pss_cons (ps_if (pt_cmpR op_eq (pv 6) (pe_ix ix_list (pv 1) (pv 5) (fun _ _ => rfl)) (nomark _)) (pss_one (ps_set (i := 6) sc_l_few.nd rfl (by first | exact Or.inl rfl | exact Or.inr rfl) (pe_op op_add (pv 6) pe_int))) pss_nil) (pss_one (ps_asg (pv 6) (pg_sub (pv 3) (pv 5) set_list))))))) (pss_one (ps_ret (pv 3))))), ?_⟩
  rw [show L2.start n_l_few [.ref p, .ref l, .int b] = [some (.ref p), some (.ref l), some (.int b), none, none, none, none] from rfl]
  try dsimp only [cxOf, Cx.nox, Cx.wish, List.map]

  have nlp := hB.offI hl
  wtm_at "rd"
  intro r nr
  have B1 := hB.new (o := .lst (Ls.map V.int)) nr
  have hl1 : upd H r (.lst (Ls.map V.int)) l = some (.lst (Ls.map V.int)) := hu_ne (ne_of_none hl nr) hl
  have nrp := Ne.symm (hB.ne1 nr)
  have nlr : l ≠ r := ne_of_none hl nr
  wtm_at "rd"
  refine us_l_take B1 (by decide) (by decide) fun tn H2 t0 t1 B2 k2 => ?_
  wtm_at "rd"
  refine forR_by (fun i σ H3 => (∃ v4 v5 v6, σ = [some (.ref p), some (.ref l), some (.int b), some (.ref r), v4, v5, v6]) ∧ (∃ Rs : List Int, H3 r = some (.lst (Rs.map V.int)) ∧ Rs.length = Ls.length ∧ LvB M Rs) ∧ Box H3 p c ∧ Kp [p] H H3) ⟨⟨_, _, _, rfl⟩, ⟨Ls, k2.g1 nrp upd_same, rfl, hL⟩, B2, (Kp.new nr).trans k2⟩ ?_ ?_
  · rintro i σ H3 hi ⟨⟨v4, v5, v6, rfl⟩, ⟨Rs, q1, q2, q3⟩, B3, k3⟩
    have hl3 := k3.g1 nlp hl
    wtm_at "rd"
    refine us_l_take B3 (by omega) (by omega) fun pc H4 p0 p1 B4 k4 => ?_
    wtm_at "rd"
    refine us_l_level B4 hb fun lvv H5 l0 l1 B5 k5 => ?_
    have k35 := k4.trans k5
    have hl5 := k35.g1 nlp hl3
    have hr5 := k35.g1 nrp q1
    have fin : ∀ x : Int, 0 ≤ x → x ≤ M → ((∃ v4 v5 v6, [some (V.ref p), some (.ref l), some (.int b), some (.ref r), some (.int (0 + (i : Int))), some (.int pc), some (.int x)] = [some (V.ref p), some (.ref l), some (.int b), some (.ref r), v4, v5, v6]) ∧ (∃ Rs' : List Int, upd H5 r (.lst ((Rs.map V.int).set pc.toNat (.int x))) r = some (.lst (Rs'.map V.int)) ∧ Rs'.length = Ls.length ∧ LvB M Rs') ∧ Box (upd H5 r (.lst ((Rs.map V.int).set pc.toNat (.int x)))) p c ∧ Kp [p] H (upd H5 r (.lst ((Rs.map V.int).set pc.toNat (.int x))))) := fun x x0 x1 =>
      ⟨⟨_, _, _, rfl⟩, ⟨Rs.set pc.toNat x, by rw [upd_same, List.map_set], by rw [List.length_set]; exact q2, q3.set x0 x1⟩, B5.ofL (Ne.symm nrp) (hB.ne2 nr), (k3.trans k35).mine nr⟩
    wtm_at "rd"
    refine ite_d (fun h => ?_) (fun h => ?_)
    · wtm_at "rd"
      refine rd_setL hr5 (ixN_at9 p0 (by rw [List.length_map]; omega)) ?_
      exact fin _ (by omega) (by omega)
    · wtm_at "rd"
      refine rd_setL hr5 (ixN_at9 p0 (by rw [List.length_map]; omega)) ?_
      exact fin _ l0 (by omega)
  · rintro σ H3 ⟨⟨v4, v5, v6, rfl⟩, ⟨Rs, q1, q2, q3⟩, B3, k3⟩
    wtm_at "rd"
    exact kk r Rs H3 q1 q2 q3 B3 k3 nr
theorem c_l_few (T : Cx K mg) (B : Tb P w K mg base) : CalX P w K mg base CX0 4 "_law_few" (sp_l_few K) [] := by
  obtain ⟨fd, F, ok⟩ := f_l_few (P := P) (w := w) (base := base) T B
  exact ⟨_, fd, p_l_few, [], ok, gl_l_few T, F.kp, FunD.bindsN F fun _ _ _ _ _ _ us hl => match us, hl with | [_, _, _], _ => rfl, .nil⟩
end
section
variable {P : Program} {w : World} {K : PySem.W.Frag} {mg : Str → Option Value} {base : Heap}
def sp_l_above (K : PySem.W.Frag) : Sp := fun vs H Q E => ∃ (p c l : Addr) (Ls : List Int) (b M : Int), vs = [.ref p, .ref l, .int b] ∧ (Box H p c) ∧ (H l = some (.lst (Ls.map V.int))) ∧ (2 ≤ Ls.length ∧ Ls.length ≤ 256) ∧ (LvB M Ls) ∧ (3 ≤ b) ∧ (3 ≤ b) ∧ (∀ r (Rs : List Int) H1, H1 r = some (.lst (Rs.map V.int)) → Rs.length = Ls.length → LvB (M + 4 * b + 5) Rs → Box H1 p c → Kp [p] H H1 → H r = none → Q (.ref r) H1)
theorem us_l_above {K : PySem.W.Frag} {H : Hp} {Q : VK} {E : XK} {p c l : Addr} {Ls : List Int} {b M : Int} (hB : Box H p c) (hl : H l = some (.lst (Ls.map V.int))) (hn : 2 ≤ Ls.length ∧ Ls.length ≤ 256) (hL : LvB M Ls) (hb : 3 ≤ b) (hM : 3 ≤ b) (kk : ∀ r (Rs : List Int) H1, H1 r = some (.lst (Rs.map V.int)) → Rs.length = Ls.length → LvB (M + 4 * b + 5) Rs → Box H1 p c → Kp [p] H H1 → H r = none → Q (.ref r) H1) : sp_l_above K [.ref p, .ref l, .int b] H Q E := ⟨_, _, _, _, _, _, rfl, hB, hl, hn, hL, hb, hM, kk⟩
theorem f_l_above (T : Cx K mg) (B : Tb P w K mg base) : ∃ fd, FunD K "_law_above" "_law_above" (defArgs s_l_above) (defBody s_l_above) (defScope s_l_above) (d_l_above.dvs K) (d_l_above.kws K) (fAd K d_l_above.at_) fd ∧ FnOk P w K mg base CX0 3 (fAd K d_l_above.at_) fd p_l_above (sp_l_above K) := by
  have c_l_take := c_l_take (P := P) (w := w) (base := base) T B
  obtain ⟨fd, F⟩ := T.says.def_ 41 (d := d_l_above) rfl
  refine ⟨fd, F, fnD F sc_l_above (fun vs H Q E h => by
    obtain ⟨_, _, _, _, _, _, rfl, _⟩ := h
    rfl) fun cdv A outer s H vs Q E hr h => ?_⟩
  have hu := hu_of hr
  obtain ⟨p, c, l, Ls, b, M, rfl, hB, hl, hn, hL, hb, hM, kk⟩ := h
  refine ⟨_, (pss_cons (ps_set (i := 3) sc_l_above.nd rfl (by first | exact Or.inl rfl | exact Or.inr rfl) (pe_lst pa_nil)) (pss_cons (ps_for PassesOwn.never rfl (pi_list (pv 1)) (pg_name (i := 4) sc_l_above.nd rfl (by first | exact Or.inl rfl | exact Or.inr rfl)) (pss_cons (ps_set (i := 5) sc_l_above.nd rfl (by first | exact Or.inl rfl | exact Or.inr rfl) (pe_cal c_l_take hr (by decide) (by rfl) pass0 (pa_cons (pv 0) (pa_cons pe_int pa_nil)))) (pss_one (ps_if (pt_cmpR op_eq (pv 5) pe_int (nomark _)) (pss_one (ps_expr (pe_bm PySem.F.plainAttrs_list PySem.F.slot_list_append PySem.F.type_list_append mt_append (pv 3) (pa_cons (pe_op op_add (pe_op op_add (pv 4) (pe_op op_mul pe_int (pv 2))) pe_int) pa_nil)))) (pss_one (ps_expr (pe_bm PySem.F.plainAttrs_list PySem.F.slot_list_append PySem.F.type_list_append mt_append (pv 3) (pa_cons (pe_op op_add (pv 4) (pe_callB (call_max2' rfl) (by rfl) (fr_max T) (by decide +kernel) (pa_cons pe_int (pa_cons (pe_op op_sub (pv 5) pe_int) pa_nil)))) pa_nil)))))))) (pss_one (ps_ret (pv 3))))), ?_⟩
  rw [show L2.start n_l_above [.ref p, .ref l, .int b] = [some (.ref p), some (.ref l), some (.int b), none, none, none] from rfl]
  try dsimp only [cxOf, Cx.nox, Cx.wish, List.map]

  have nlp := hB.offI hl
  wtm_at "rd"
  refine ⟨sz1000 (by simp), fun r nr => ?_⟩
  have nrp := Ne.symm (hB.ne1 nr)
  have hl1 : upd H r (.lst []) l = some (.lst (Ls.map V.int)) := hu_ne (ne_of_none hl nr) hl
  wtm_at "rd"
  refine forL_ints (K := K) Ls (fun i σ H3 => (∃ v4 v5, σ = [some (.ref p), some (.ref l), some (.int b), some (.ref r), v4, v5]) ∧ (∃ Rs : List Int, H3 r = some (.lst (Rs.map V.int)) ∧ Rs.length = i ∧ LvB (M + 4 * b + 5) Rs) ∧ Box H3 p c ∧ Kp [p] H H3) ⟨⟨_, _, rfl⟩, ⟨[], upd_same, rfl, fun x hx => by cases hx⟩, hB.new nr, Kp.new nr⟩ (fun i σ H3 _ q => SqL.of (q.2.2.2.g1 nlp hl)) ?_ ?_
  · rintro i hi σ H3 ⟨⟨v4, v5, rfl⟩, ⟨Rs, q1, q2, q3⟩, B3, k3⟩
    have hx := hL _ (List.getElem_mem hi)
    wtm_at "rd"
    refine us_l_take B3 (by decide) (by decide) fun ri H4 r0 r1 B4 k4 => ?_
    have hr4 := k4.g1 nrp q1
    have len : (Rs.map V.int).length < sizeLine := szlt (by rw [List.length_map]; omega)
    have fin : ∀ x : Int, 0 ≤ x → x ≤ M + 4 * b + 5 → ((∃ v4 v5, [some (V.ref p), some (.ref l), some (.int b), some (.ref r), some (.int Ls[i]), some (.int ri)] = [some (V.ref p), some (.ref l), some (.int b), some (.ref r), v4, v5]) ∧ (∃ Rs' : List Int, upd H4 r (.lst (Rs.map V.int ++ [.int x])) r = some (.lst (Rs'.map V.int)) ∧ Rs'.length = i + 1 ∧ LvB (M + 4 * b + 5) Rs') ∧ Box (upd H4 r (.lst (Rs.map V.int ++ [.int x]))) p c ∧ Kp [p] H (upd H4 r (.lst (Rs.map V.int ++ [.int x])))) := fun x x0 x1 =>
      ⟨⟨_, _, rfl⟩, ⟨Rs ++ [x], by rw [upd_same, List.map_append]; rfl, by rw [List.length_append, q2]; rfl, fun y hy => by
        rcases List.mem_append.mp hy with m | m
        · exact q3 y m
        · rw [List.mem_singleton.mp m]
          exact ⟨x0, x1⟩⟩, B4.ofL (Ne.symm nrp) (hB.ne2 nr), (k3.trans k4).mine nr⟩
    wtm_at "rd"
    refine ite_d (fun h => ?_) (fun h => ?_)
    · wtm_at "rd"
      exact fin _ (by omega) (by omega)
    · wtm_at "rd"
      exact fin _ (by omega) (by omega)
  · rintro σ H3 ⟨⟨v4, v5, rfl⟩, ⟨Rs, q1, q2, q3⟩, B3, k3⟩
    wtm_at "rd"
    exact kk r Rs H3 q1 q2 q3 B3 k3 nr
theorem c_l_above (T : Cx K mg) (B : Tb P w K mg base) : CalX P w K mg base CX0 3 "_law_above" (sp_l_above K) [] := by
  obtain ⟨fd, F, ok⟩ := f_l_above (P := P) (w := w) (base := base) T B
  exact ⟨_, fd, p_l_above, [], ok, gl_l_above T, F.kp, FunD.bindsN F fun _ _ _ _ _ _ us hl => match us, hl with | [_, _, _], _ => rfl, .nil⟩
end
section
variable {P : Program} {w : World} {K : PySem.W.Frag} {mg : Str → Option Value} {base : Heap}

structure V2 (H0 H : Hp) (p c l1 l2 : Addr) (As Bs : List Int) (n : Nat) (M : Int) : Prop where
  a : H l1 = some (.lst (As.map V.int))
  b : H l2 = some (.lst (Bs.map V.int))
  na : As.length = n
  nb : Bs.length = n
  ga : LvB M As
  gb : LvB M Bs
  bx : Box H p c
  k : Kp [p] H0 H
structure Fx (H0 : Hp) (p c l1 l2 : Addr) : Prop where
  ne : l1 ≠ l2
  n1 : H0 l1 = none
  n2 : H0 l2 = none
  p1 : l1 ≠ p
  p2 : l2 ≠ p
  c1 : c ≠ l1
  c2 : c ≠ l2
theorem V2.mono {H0 H : Hp} {p c l1 l2 : Addr} {As Bs : List Int} {n : Nat} {M M' : Int} (W : V2 H0 H p c l1 l2 As Bs n M) (e : M ≤ M') : V2 H0 H p c l1 l2 As Bs n M' := ⟨W.a, W.b, W.na, W.nb, W.ga.mono e, W.gb.mono e, W.bx, W.k⟩
theorem V2.setA {H0 H : Hp} {p c l1 l2 : Addr} {As Bs : List Int} {n : Nat} {M x : Int} {k : Nat} (W : V2 H0 H p c l1 l2 As Bs n M) (F : Fx H0 p c l1 l2) (x0 : 0 ≤ x) (x1 : x ≤ M) : V2 H0 (upd H l1 (.lst ((As.map V.int).set k (.int x)))) p c l1 l2 (As.set k x) Bs n M :=
  ⟨by rw [upd_same, List.map_set], hu_ne (Ne.symm F.ne) W.b, by rw [List.length_set]; exact W.na, W.nb, W.ga.set x0 x1, W.gb, W.bx.ofL (Ne.symm F.p1) F.c1, W.k.mine F.n1⟩
theorem V2.setB {H0 H : Hp} {p c l1 l2 : Addr} {As Bs : List Int} {n : Nat} {M x : Int} {k : Nat} (W : V2 H0 H p c l1 l2 As Bs n M) (F : Fx H0 p c l1 l2) (x0 : 0 ≤ x) (x1 : x ≤ M) : V2 H0 (upd H l2 (.lst ((Bs.map V.int).set k (.int x)))) p c l1 l2 As (Bs.set k x) n M :=
  ⟨hu_ne F.ne W.a, by rw [upd_same, List.map_set], W.na, by rw [List.length_set]; exact W.nb, W.ga, W.gb.set x0 x1, W.bx.ofL (Ne.symm F.p2) F.c2, W.k.mine F.n2⟩

def sp_l_vector (K : PySem.W.Frag) : Sp := fun vs H Q E => ∃ (p c l : Addr) (Ls : List Int) (b M : Int), vs = [.ref p, .ref l, .int b] ∧ (Box H p c) ∧ (H l = some (.lst (Ls.map V.int))) ∧ (2 ≤ Ls.length ∧ Ls.length ≤ 256) ∧ (LvB M Ls) ∧ (3 ≤ b) ∧ (∀ t l1 l2 (As Bs : List Int) H1, H1 t = some (.tup [.ref l1, .ref l2]) → H1 l1 = some (.lst (As.map V.int)) → H1 l2 = some (.lst (Bs.map V.int)) → As.length = Ls.length → Bs.length = Ls.length → LvB (M + 20 * b + 30) As → LvB (M + 20 * b + 30) Bs → l1 ≠ l2 → Box H1 p c → Kp [p] H H1 → H l1 = none → H l2 = none → Q (.ref t) H1)
theorem us_l_vector {K : PySem.W.Frag} {H : Hp} {Q : VK} {E : XK} {p c l : Addr} {Ls : List Int} {b M : Int} (hB : Box H p c) (hl : H l = some (.lst (Ls.map V.int))) (hn : 2 ≤ Ls.length ∧ Ls.length ≤ 256) (hL : LvB M Ls) (hb : 3 ≤ b) (kk : ∀ t l1 l2 (As Bs : List Int) H1, H1 t = some (.tup [.ref l1, .ref l2]) → H1 l1 = some (.lst (As.map V.int)) → H1 l2 = some (.lst (Bs.map V.int)) → As.length = Ls.length → Bs.length = Ls.length → LvB (M + 20 * b + 30) As → LvB (M + 20 * b + 30) Bs → l1 ≠ l2 → Box H1 p c → Kp [p] H H1 → H l1 = none → H l2 = none → Q (.ref t) H1) : sp_l_vector K [.ref p, .ref l, .int b] H Q E := ⟨_, _, _, _, _, _, rfl, hB, hl, hn, hL, hb, kk⟩
theorem f_l_vector (T : Cx K mg) (B : Tb P w K mg base) : ∃ fd, FunD K "_law_vector" "_law_vector" (defArgs s_l_vector) (defBody s_l_vector) (defScope s_l_vector) (d_l_vector.dvs K) (d_l_vector.kws K) (fAd K d_l_vector.at_) fd ∧ FnOk P w K mg base CX0 3 (fAd K d_l_vector.at_) fd p_l_vector (sp_l_vector K) := by
  have c_l_take := c_l_take (P := P) (w := w) (base := base) T B
  obtain ⟨fd, F⟩ := T.says.def_ 42 (d := d_l_vector) rfl
  refine ⟨fd, F, fnD F sc_l_vector (fun vs H Q E h => by
    obtain ⟨_, _, _, _, _, _, rfl, _⟩ := h
    rfl) fun cdv A outer s H vs Q E hr h => ?_⟩
  have hu := hu_of hr
  obtain ⟨p, c, l, Ls, b, M, rfl, hB, hl, hn, hL, hb, kk⟩ := h
  refine ⟨_, (pss_cons (ps_set (i := 3) sc_l_vector.nd rfl (by first | exact Or.inl rfl | exact Or.inr rfl) (pe_callB call_lenS (by rfl) (fr_len T) (by decide +kernel) (pa_cons (pv 1) pa_nil))) (pss_cons (ps_set (i := 4) sc_l_vector.nd rfl (by first | exact Or.inl rfl | exact Or.inr rfl) (pe_callTy call_listOf (by rfl) (fr_list T) (by decide +kernel) (pa_cons (pv 1) pa_nil))) (pss_cons (ps_set (i := 5) sc_l_vector.nd rfl (by first | exact Or.inl rfl | exact Or.inr rfl) (pe_callTy call_listOf (by rfl) (fr_list T) (by decide +kernel) (pa_cons (pv 1) pa_nil))) (pss_cons (ps_if (pt_cmpR op_lt (pv 3) pe_int (nomark _)) (pss_one (ps_ret (pe_tup (pa_cons (pv 4) (pa_cons (pv 5) pa_nil))))) pss_nil) (pss_cons (ps_set (i := 6) sc_l_vector.nd rfl (by first | exact Or.inl rfl | exact Or.inr rfl) (pe_op op_add pe_int (pe_cal c_l_take hr (by decide) (by rfl) pass0 (pa_cons (pv 0) (pa_cons (pe_op op_fdiv (pe_op op_sub (pv 3) pe_int) pe_int) pa_nil))))) (pss_cons (ps_set (i := 7) sc_l_vector.nd rfl (by first | exact Or.inl rfl | exact Or.inr rfl) (pe_cal c_l_take hr (by decide) (by rfl) pass0 (pa_cons (pv 0) (pa_cons (pe_op op_sub (pv 3) (pe_op op_mul pe_int (pv 6))) pa_nil)))) (pss_cons (ps_set (i := 8) sc_l_vector.nd rfl (by first | exact Or.inl rfl | exact Or.inr rfl) (pe_op op_add pe_int (pe_cal c_l_take hr (by decide) (by rfl) pass0 (pa_cons (pv 0) (pa_cons pe_int pa_nil))))) (C8.pss_cut (ps_if (pt_cmpR op_eq (pe_cal c_l_take hr (by decide) (by rfl) pass0 (pa_cons (pv 0) (pa_cons pe_int pa_nil))) pe_int (nomark _)) (pss_one (ps_set (i := 8) sc_l_vector.nd rfl (by first | exact Or.inl rfl | exact Or.inr rfl) (pe_op op_add (pv 8) (pe_op op_mul pe_int (pv 2))))) pss_nil) (C8.pss_cut (ps_if (PW.pt (pw_and (pt_cmpR op_gt (pv 3) pe_int (nomark _)) (pw_and1 (pt_cmpR op_eq (pe_cal c_l_take hr (by decide) (by rfl) pass0 (pa_cons (pv 0) (pa_cons pe_int pa_nil))) pe_int (nomark _))))) (pss_cons (ps_set (i := 6) sc_l_vector.nd rfl (by first | exact Or.inl rfl | exact Or.inr rfl) pe_int) (pss_cons (ps_set (i := 7) sc_l_vector.nd rfl (by first | exact Or.inl rfl | exact Or.inr rfl) (pe_op op_mul pe_int (pe_cal c_l_take hr (by decide) (by rfl) pass0 (pa_cons (pv 0) (pa_cons (pe_op op_fdiv (pv 3) pe_int) pa_nil))))) (pss_cons (ps_set (i := 9) sc_l_vector.nd rfl (by first | exact Or.inl rfl | exact Or.inr rfl) (pe_op op_mod (pe_callTy call_int1' (by rfl) (fr_int T) (by decide +kernel) (pa_cons (pe_op op_add (pe_op op_add (pv 7) pe_int) (pe_cal c_l_take hr (by decide) (by rfl) pass0 (pa_cons (pv 0) (pa_cons (pe_op op_sub (pv 3) pe_int) pa_nil)))) pa_nil)) (pv 3))) (pss_one (ps_asg (pe_op op_add (pe_op op_add (pe_ix ix_list (pv 5) (pv 9) (fun _ _ => rfl)) pe_int) (pe_cal c_l_take hr (by decide) (by rfl) pass0 (pa_cons (pv 0) (pa_cons pe_int pa_nil)))) (pg_sub (pv 5) (pv 9) set_list)))))) pss_nil) (pss_cons (ps_asg (pe_op op_add (pe_ix ix_list (pv 4) (pv 7) (fun _ _ => rfl)) (pv 8)) (pg_sub (pv 4) (pv 7) set_list)) (pss_cons (ps_asg (pe_op op_add (pe_ix ix_list (pv 5) (pe_op op_add (pv 7) (pv 6)) (fun _ _ => rfl)) (pe_op op_mul pe_int (pv 8))) (pg_sub (pv 5) (pe_op op_add (pv 7) (pv 6)) set_list)) (pss_cons (ps_asg (pe_op op_add (pe_ix ix_list (pv 4) (pe_op op_add (pv 7) (pe_op op_mul pe_int (pv 6))) (fun _ _ => rfl)) (pe_op op_mul pe_int (pv 8))) (pg_sub (pv 4) (pe_op op_add (pv 7) (pe_op op_mul pe_int (pv 6))) set_list)) (pss_cons (ps_asg (pe_op op_add (pe_ix ix_list (pv 5) (pe_op op_add (pv 7) (pe_op op_mul pe_int (pv 6))) (fun _ _ => rfl)) (pv 8)) (pg_sub (pv 5) (pe_op op_add (pv 7) (pe_op op_mul pe_int (pv 6))) set_list)) (pss_one (ps_ret (pe_tup (pa_cons (pv 4) (pa_cons (pv 5) pa_nil)))))))))))))))))), ?_⟩
  rw [show L2.start n_l_vector [.ref p, .ref l, .int b] = [some (.ref p), some (.ref l), some (.int b), none, none, none, none, none, none, none] from rfl]
  try dsimp only [cxOf, Cx.nox, Cx.wish, List.map]

  have nlp := hB.offI hl
  obtain ⟨hn1, hn2⟩ := hn
  wtm_at "rd"
  intro l1 nl1
  have k1 : Kp [] H (upd H l1 (.lst (Ls.map V.int))) := Kp.new nl1
  have g1 : upd H l1 (.lst (Ls.map V.int)) l1 = some (.lst (Ls.map V.int)) := upd_same
  have B1 := hB.k0 k1
  generalize upd H l1 (.lst (Ls.map V.int)) = H1 at k1 g1 B1
  have hl1 := k1.g0 hl
  wtm_at "rd"
  intro l2 nl2
  have k2 : Kp [] H1 (upd H1 l2 (.lst (Ls.map V.int))) := Kp.new nl2
  have g2 : upd H1 l2 (.lst (Ls.map V.int)) l2 = some (.lst (Ls.map V.int)) := upd_same
  have B2 := B1.k0 k2
  have ne12 : l1 ≠ l2 := ne_of_none g1 nl2
  generalize upd H1 l2 (.lst (Ls.map V.int)) = H2 at k2 g2 B2
  have g1b := k2.g0 g1
  have k02 := k1.trans k2
  have nl20 : H l2 = none := k1.back nl2 (by simp)
  have n1p := B2.offI g1b
  have n2p := B2.offI g2
  wtm_at "rd"
  refine ite_d (fun h4 => ?_) (fun h4 => ?_)
  · wtm_at "rd"
    refine ⟨sz1000 (by simp), fun t nt => ?_⟩
    exact kk t l1 l2 Ls Ls _ upd_same (hu_ne (ne_of_none g1b nt) g1b) (hu_ne (ne_of_none g2 nt) g2) rfl rfl (hL.mono (by omega)) (hL.mono (by omega)) ne12 (B2.new nt) (k02.nw nt).of0 nl1 nl20
  wtm_at "rd"
  refine us_l_take B2 (by omega) (by omega) fun ga H3 ga0 ga1 B3 k3 => ?_
  wtm_at "rd"
  refine us_l_take B3 (by omega) (by omega) fun st H4 st0 st1 B4 k4 => ?_
  wtm_at "rd"
  refine us_l_take B4 (by decide) (by decide) fun ri H5 ri0 ri1 B5 k5 => ?_
  have k25 : Kp [p] H2 H5 := (k3.trans k4).trans k5
  wtm_at "rd"
  refine rd_cut (fun σ H6 => (∃ re : Int, σ = [some (.ref p), some (.ref l), some (.int b), some (.int (Ls.length : Int)), some (.ref l1), some (.ref l2), some (.int (1 + ga)), some (.int st), some (.int re), none] ∧ 1 ≤ re ∧ re ≤ 4 + 4 * b) ∧ Box H6 p c ∧ Kp [p] H2 H6) ?_ ?_
  · wtm_at "rd"
    refine us_l_take B5 (by decide) (by decide) fun z H6 z0 z1 B6 k6 => ?_
    wtm_at "rd"
    refine ite_d (fun h => ?_) (fun h => ?_)
    · wtm_at "rd"
      exact ⟨⟨_, rfl, by omega, by omega⟩, B6, k25.trans k6⟩
    · wtm_at "rd"
      exact ⟨⟨_, rfl, by omega, by omega⟩, B6, k25.trans k6⟩
  rintro σ H6 ⟨⟨re, rfl, re0, re1⟩, B6, k6⟩
  refine rd_cut (fun σ H7 => (∃ (ga st : Int) (v9 : Option V), σ = [some (.ref p), some (.ref l), some (.int b), some (.int (Ls.length : Int)), some (.ref l1), some (.ref l2), some (.int ga), some (.int st), some (.int re), v9] ∧ 1 ≤ ga ∧ 0 ≤ st ∧ st + 3 * ga < Ls.length) ∧ (∃ Bs : List Int, H7 l2 = some (.lst (Bs.map V.int)) ∧ Bs.length = Ls.length ∧ LvB (M + 9) Bs) ∧ H7 l1 = some (.lst (Ls.map V.int)) ∧ Box H7 p c ∧ Kp [p] H H7) ?_ ?_
  · have hno : ∀ H7, Box H7 p c → Kp [p] H6 H7 → ((∃ (ga' st' : Int) (v9 : Option V), [some (V.ref p), some (.ref l), some (.int b), some (.int (Ls.length : Int)), some (.ref l1), some (.ref l2), some (.int (1 + ga)), some (.int st), some (.int re), none] = [some (V.ref p), some (.ref l), some (.int b), some (.int (Ls.length : Int)), some (.ref l1), some (.ref l2), some (.int ga'), some (.int st'), some (.int re), v9] ∧ 1 ≤ ga' ∧ 0 ≤ st' ∧ st' + 3 * ga' < Ls.length) ∧ (∃ Bs : List Int, H7 l2 = some (.lst (Bs.map V.int)) ∧ Bs.length = Ls.length ∧ LvB (M + 9) Bs) ∧ H7 l1 = some (.lst (Ls.map V.int)) ∧ Box H7 p c ∧ Kp [p] H H7) := fun H7 B7 k7 =>
      ⟨⟨_, _, _, rfl, by omega, st0, by omega⟩, ⟨Ls, (k6.trans k7).g1 n2p g2, rfl, hL.mono (by omega)⟩, (k6.trans k7).g1 n1p g1b, B7, k02.of0.trans (k6.trans k7)⟩
    wtm_at "rd"
    refine ite_d (fun h => ?_) (fun h => ?_)
    rotate_left
    · wtm_at "rd"
      exact hno H6 B6 Kp.refl
    wtm_at "rd"
    refine us_l_take B6 (by decide) (by decide) fun z H7 z0 z1 B7 k7 => ?_
    wtm_at "rd"
    refine ite_d (fun h => ?_) (fun h => ?_)
    rotate_left
    · wtm_at "rd"
      exact hno H7 B7 k7
    wtm_at "rd"
    refine us_l_take B7 (by omega) (by omega) fun sq H8 sq0 sq1 B8 k8 => ?_
    wtm_at "rd"
    refine us_l_take B8 (by omega) (by omega) fun pa H9 pa0 pa1 B9 k9 => ?_
    have k69 := (k7.trans k8).trans k9
    have h29 := (k6.trans k69).g1 n2p g2
    have pl0 := Int.emod_nonneg (4 * sq + 4 + pa) (show (Ls.length : Int) ≠ 0 by omega)
    have pl1 := Int.emod_lt_of_pos (4 * sq + 4 + pa) (show (0 : Int) < (Ls.length : Int) by omega)
    wtm_at "rd"
    generalize (4 * sq + 4 + pa) % (Ls.length : Int) = pl at pl0 pl1 ⊢
    obtain ⟨pn, rfl⟩ := Int.eq_ofNat_of_zero_le pl0
    have hg := hL.get (k := pn) (by omega)
    wtm_at "rd"
    refine us_l_take B9 (by decide) (by decide) fun ad H10 ad0 ad1 B10 k10 => ?_
    have h210 := k10.g1 n2p h29
    have h110 := (k6.trans (k69.trans k10)).g1 n1p g1b
    wtm_at "rd"
    refine rd_setL h210 (ixN_at9 pl0 (by rw [List.length_map]; exact pl1)) ?_
    exact ⟨⟨_, _, _, rfl, by omega, by omega, by omega⟩, ⟨Ls.set pn ((Ls.getD pn 0) + 1 + ad), by rw [upd_same, List.map_set]; rfl, by rw [List.length_set], (hL.mono (by omega)).set (by omega) (by omega)⟩, hu_ne ne12 h110, B10.ofL (Ne.symm n2p) (fun z => by
      obtain ⟨r, e1, ns, e2⟩ := B10.at
      exact hB.ne2 nl20 z), (k02.of0.trans (k6.trans (k69.trans k10))).mine nl20⟩
  rintro σ H7 ⟨⟨ga, st, v9, rfl, ga0, st0, hlt⟩, ⟨Bs, q1, q2, q3⟩, hA, B7, k7⟩
  have cn1 := hB.ne2 nl1
  have cn2 := hB.ne2 nl20
  have W0 : V2 H H7 p c l1 l2 Ls Bs Ls.length (M + 9) := ⟨hA, q1, rfl, q2, hL.mono (by omega), q3, B7, k7⟩
  have F : Fx H p c l1 l2 := ⟨ne12, nl1, nl20, n1p, n2p, cn1, cn2⟩
  have u0 := W0.ga.get (k := st.toNat) (by omega)
  have a0 := W0.a
  wtm_at "rd"
  refine rd_setL a0 (ixN_at9 (by omega) (by rw [List.length_map]; omega)) ?_
  have W1 := (W0.mono (M' := M + 13 + 4 * b) (by omega)).setA F (k := st.toNat) (x := Ls.getD st.toNat 0 + re) (by omega) (by omega)
  generalize Ls.set st.toNat (Ls.getD st.toNat 0 + re) = A1 at W1
  generalize upd H7 l1 (.lst ((Ls.map V.int).set st.toNat (.int (Ls.getD st.toNat 0 + re)))) = H8 at W1 ⊢
  have u1 := W1.gb.get (k := (st + ga).toNat) (by rw [W1.nb]; omega)
  have a1 := W1.a
  have b1 := W1.b
  have lb1 := W1.nb
  have la1 := W1.na
  wtm_at "rd"
  refine rd_setL b1 (ixN_at9 (by omega) (by rw [List.length_map]; omega)) ?_
  have W2 := (W1.mono (M' := M + 25 + 16 * b) (by omega)).setB F (k := (st + ga).toNat) (x := Bs.getD (st + ga).toNat 0 + 3 * re) (by omega) (by omega)
  generalize Bs.set (st + ga).toNat (Bs.getD (st + ga).toNat 0 + 3 * re) = C1 at W2
  generalize upd H8 l2 (.lst ((Bs.map V.int).set (st + ga).toNat (.int (Bs.getD (st + ga).toNat 0 + 3 * re)))) = H9 at W2 ⊢
  have u2 := W1.ga.get (k := (st + 2 * ga).toNat) (by rw [W1.na]; omega)
  have a2 := W2.a
  have b2 := W2.b
  have lb2 := W2.nb
  wtm_at "rd"
  refine rd_setL a2 (ixN_at9 (by omega) (by rw [List.length_map]; omega)) ?_
  have W3 := W2.setA F (k := (st + 2 * ga).toNat) (x := A1.getD (st + 2 * ga).toNat 0 + 3 * re) (by omega) (by omega)
  generalize A1.set (st + 2 * ga).toNat (A1.getD (st + 2 * ga).toNat 0 + 3 * re) = A2 at W3
  generalize upd H9 l1 (.lst ((A1.map V.int).set (st + 2 * ga).toNat (.int (A1.getD (st + 2 * ga).toNat 0 + 3 * re)))) = H10 at W3 ⊢
  have u3 := W3.gb.get (k := (st + 3 * ga).toNat) (by rw [W3.nb]; omega)
  have a3 := W3.a
  have b3 := W3.b
  have lb3 := W3.nb
  wtm_at "rd"
  refine rd_setL b3 (ixN_at9 (by omega) (by rw [List.length_map]; omega)) ?_
  have W4 := (W3.mono (M' := M + 30 + 20 * b) (by omega)).setB F (k := (st + 3 * ga).toNat) (x := C1.getD (st + 3 * ga).toNat 0 + re) (by omega) (by omega)
  generalize C1.set (st + 3 * ga).toNat (C1.getD (st + 3 * ga).toNat 0 + re) = C2 at W4
  generalize upd H10 l2 (.lst ((C1.map V.int).set (st + 3 * ga).toNat (.int (C1.getD (st + 3 * ga).toNat 0 + re)))) = H11 at W4 ⊢
  have a4 := W4.a
  have b4 := W4.b
  wtm_at "rd"
  refine ⟨sz1000 (by simp), fun t nt => ?_⟩
  exact kk t l1 l2 A2 C2 _ upd_same (hu_ne (ne_of_none a4 nt) a4) (hu_ne (ne_of_none b4 nt) b4) W4.na W4.nb (W4.ga.mono (by omega)) (W4.gb.mono (by omega)) ne12 (W4.bx.new nt) (W4.k.nw nt) nl1 nl20
theorem c_l_vector (T : Cx K mg) (B : Tb P w K mg base) : CalX P w K mg base CX0 3 "_law_vector" (sp_l_vector K) [] := by
  obtain ⟨fd, F, ok⟩ := f_l_vector (P := P) (w := w) (base := base) T B
  exact ⟨_, fd, p_l_vector, [], ok, gl_l_vector T, F.kp, FunD.bindsN F fun _ _ _ _ _ _ us hl => match us, hl with | [_, _, _], _ => rfl, .nil⟩
end
section
variable {P : Program} {w : World} {K : PySem.W.Frag} {mg : Str → Option Value} {base : Heap}
def sp_l_pair (K : PySem.W.Frag) : Sp := fun vs H Q E => ∃ (p c l : Addr) (Ls : List Int) (b M : Int), vs = [.ref p, .ref l, .int b] ∧ (Box H p c) ∧ (H l = some (.lst (Ls.map V.int))) ∧ (2 ≤ Ls.length ∧ Ls.length ≤ 256) ∧ (LvB M Ls) ∧ (3 ≤ b) ∧ (4 * b + 5 ≤ M) ∧ (∀ r l1 l2 (As Bs : List Int) H1, H1 r = some (.lst [.ref l1, .ref l2]) → H1 l1 = some (.lst (As.map V.int)) → H1 l2 = some (.lst (Bs.map V.int)) → As.length = Ls.length → Bs.length = Ls.length → LvB (M + 20 * b + 30) As → LvB (M + 20 * b + 30) Bs → l1 ≠ l2 → Box H1 p c → Kp [p] H H1 → H r = none → H l1 = none → H l2 = none → Q (.ref r) H1)
theorem us_l_pair {K : PySem.W.Frag} {H : Hp} {Q : VK} {E : XK} {p c l : Addr} {Ls : List Int} {b M : Int} (hB : Box H p c) (hl : H l = some (.lst (Ls.map V.int))) (hn : 2 ≤ Ls.length ∧ Ls.length ≤ 256) (hL : LvB M Ls) (hb : 3 ≤ b) (hM : 4 * b + 5 ≤ M) (kk : ∀ r l1 l2 (As Bs : List Int) H1, H1 r = some (.lst [.ref l1, .ref l2]) → H1 l1 = some (.lst (As.map V.int)) → H1 l2 = some (.lst (Bs.map V.int)) → As.length = Ls.length → Bs.length = Ls.length → LvB (M + 20 * b + 30) As → LvB (M + 20 * b + 30) Bs → l1 ≠ l2 → Box H1 p c → Kp [p] H H1 → H r = none → H l1 = none → H l2 = none → Q (.ref r) H1) : sp_l_pair K [.ref p, .ref l, .int b] H Q E := ⟨_, _, _, _, _, _, rfl, hB, hl, hn, hL, hb, hM, kk⟩
theorem f_l_pair (T : Cx K mg) (B : Tb P w K mg base) : ∃ fd, FunD K "_law_pair" "_law_pair" (defArgs s_l_pair) (defBody s_l_pair) (defScope s_l_pair) (d_l_pair.dvs K) (d_l_pair.kws K) (fAd K d_l_pair.at_) fd ∧ FnOk P w K mg base CX0 5 (fAd K d_l_pair.at_) fd p_l_pair (sp_l_pair K) := by
  have c_l_take := c_l_take (P := P) (w := w) (base := base) T B
  have c_l_few := c_l_few (P := P) (w := w) (base := base) T B
  have c_l_above := c_l_above (P := P) (w := w) (base := base) T B
  have c_l_level := c_l_level (P := P) (w := w) (base := base) T B
  have c_l_vector := c_l_vector (P := P) (w := w) (base := base) T B
  obtain ⟨fd, F⟩ := T.says.def_ 43 (d := d_l_pair) rfl
  refine ⟨fd, F, fnD F sc_l_pair (fun vs H Q E h => by
    obtain ⟨_, _, _, _, _, _, rfl, _⟩ := h
    rfl) fun cdv A outer s H vs Q E hr h => ?_⟩
  have hu := hu_of hr
  obtain ⟨p, c, l, Ls, b, M, rfl, hB, hl, hn, hL, hb, hM, kk⟩ := h
  refine ⟨_, (pss_cons (ps_set (i := 3) sc_l_pair.nd rfl (by first | exact Or.inl rfl | exact Or.inr rfl) (pe_cal c_l_take hr (by decide) (by rfl) pass0 (pa_cons (pv 0) (pa_cons pe_int pa_nil)))) (pss_cons (ps_set (i := 4) sc_l_pair.nd rfl (by first | exact Or.inl rfl | exact Or.inr rfl) (pe_callTy call_listOf (by rfl) (fr_list T) (by decide +kernel) (pa_cons (pv 1) pa_nil))) (pss_cons (ps_set (i := 5) sc_l_pair.nd rfl (by first | exact Or.inl rfl | exact Or.inr rfl) (pe_callTy call_listOf (by rfl) (fr_list T) (by decide +kernel) (pa_cons (pv 1) pa_nil))) (C8.pss_cut (ps_if (pt_cmpR op_eq (pv 3) pe_int (nomark _)) (pss_one (ps_set (i := 5) sc_l_pair.nd rfl (by first | exact Or.inl rfl | exact Or.inr rfl) (pe_cal c_l_few hr (by decide) (by rfl) pass0 (pa_cons (pv 0) (pa_cons (pv 1) (pa_cons (pv 2) pa_nil)))))) (pss_one (ps_if (pt_cmpR op_eq (pv 3) pe_int (nomark _)) (pss_one (ps_set (i := 5) sc_l_pair.nd rfl (by first | exact Or.inl rfl | exact Or.inr rfl) (pe_cal c_l_above hr (by decide) (by rfl) pass0 (pa_cons (pv 0) (pa_cons (pv 1) (pa_cons (pv 2) pa_nil)))))) (pss_one (ps_if (pt_cmpR op_lt (pv 3) pe_int (nomark _)) (pss_cons (ps_asg (pe_cal c_l_vector hr (by decide) (by rfl) pass0 (pa_cons (pv 0) (pa_cons (pv 1) (pa_cons (pv 2) pa_nil)))) (pg_tup rfl (pgs_cons (pg_name (i := 4) sc_l_pair.nd rfl (by first | exact Or.inl rfl | exact Or.inr rfl)) (pgs_cons (pg_name (i := 5) sc_l_pair.nd rfl (by first | exact Or.inl rfl | exact Or.inr rfl)) pgs_nil)))) (pss_one (ps_if (pt_cmpR op_eq (pv 3) pe_int (nomark _)) (pss_one (ps_set (i := 5) sc_l_pair.nd rfl (by first | exact Or.inl rfl | exact Or.inr rfl) (pe_cal c_l_few hr (by decide) (by rfl) pass0 (pa_cons (pv 0) (pa_cons (pv 5) (pa_cons (pv 2) pa_nil)))))) pss_nil))) (pss_one (ps_if (pt_cmpR op_lt (pv 3) pe_int (nomark _)) (pss_one (ps_setLc (i := 5) (own := [("_law_level_here", 6)]) (g := (gName 6)) (tt := tYes) rfl sc_l_pair.nd rfl rfl (sw_true rfl rfl rfl (by decide +kernel)) (pi_list (pv 1)) (blkOk_by (own := [("_law_level_here", 6)]) (N := n_l_pair) (sc := defScope s_l_pair) (by decide +kernel)) (fun _ _ _ _ _ => (pg_name (i := 6) sc_l_pair.nd rfl (by first | exact Or.inl rfl | exact Or.inr rfl))) (fun _ _ _ _ _ => pts_nil) (fun _ _ _ _ _ => (pe_cal c_l_level hr (by decide) (by rfl) pass0 (pa_cons (pv 0) (pa_cons (pv 2) pa_nil)))))) (pss_one (ps_setLc (i := 5) (own := [("_law_level_here", 6)]) (g := (gName 6)) (tt := tYes) rfl sc_l_pair.nd rfl rfl (sw_true rfl rfl rfl (by decide +kernel)) (pi_list (pv 1)) (blkOk_by (own := [("_law_level_here", 6)]) (N := n_l_pair) (sc := defScope s_l_pair) (by decide +kernel)) (fun _ _ _ _ _ => (pg_name (i := 6) sc_l_pair.nd rfl (by first | exact Or.inl rfl | exact Or.inr rfl))) (fun _ _ _ _ _ => pts_nil) (fun _ _ _ _ _ => pe_int)))))))))) (pss_cons (ps_if (pt_cmpR op_eq (pe_cal c_l_take hr (by decide) (by rfl) pass0 (pa_cons (pv 0) (pa_cons pe_int pa_nil))) pe_int (nomark _)) (pss_one (ps_ret (pe_lst (pa_cons (pv 5) (pa_cons (pv 4) pa_nil))))) pss_nil) (pss_one (ps_ret (pe_lst (pa_cons (pv 4) (pa_cons (pv 5) pa_nil)))))))))), ?_⟩
  rw [show L2.start n_l_pair [.ref p, .ref l, .int b] = [some (.ref p), some (.ref l), some (.int b), none, none, none, none] from rfl]
  try dsimp only [cxOf, Cx.nox, Cx.wish, List.map]

  have nlp := hB.offI hl
  obtain ⟨hn1, hn2⟩ := id hn
  wtm_at "rd"
  refine us_l_take hB (by decide) (by decide) fun mo H1 mo0 mo1 B1 k1 => ?_
  have hl1 := k1.g1 nlp hl
  wtm_at "rd"
  intro l1 nl1
  have k2 : Kp [] H1 (upd H1 l1 (.lst (Ls.map V.int))) := Kp.new nl1
  have g1 : upd H1 l1 (.lst (Ls.map V.int)) l1 = some (.lst (Ls.map V.int)) := upd_same
  have B2 := B1.k0 k2
  generalize upd H1 l1 (.lst (Ls.map V.int)) = H2 at k2 g1 B2
  have hl2 := k2.g0 hl1
  wtm_at "rd"
  intro l2 nl2
  have k3 : Kp [] H2 (upd H2 l2 (.lst (Ls.map V.int))) := Kp.new nl2
  have g2 : upd H2 l2 (.lst (Ls.map V.int)) l2 = some (.lst (Ls.map V.int)) := upd_same
  have B3 := B2.k0 k3
  have ne12 : l1 ≠ l2 := ne_of_none g1 nl2
  generalize upd H2 l2 (.lst (Ls.map V.int)) = H3 at k3 g2 B3
  have g1b := k3.g0 g1
  have hl3 := k3.g0 hl2
  have k13 : Kp [p] H H3 := (k1.trans k2.of0).trans k3.of0
  have bk : ∀ {q : Addr} {Hx : Hp}, Kp [p] H Hx → Box Hx p c → Hx q = none → H q = none := fun {q Hx} k B n => k.back n fun m => B.ne1 n (List.mem_singleton.mp m).symm
  have nl10 := bk k1 B1 nl1
  have nl20 := bk (k1.trans k2.of0) B2 nl2
  have n1p := B3.offI g1b
  have n2p := B3.offI g2
  refine rd_cut (fun σ H' => ∃ (r1 r2 : Addr) (v6 : Option V) (As Bs : List Int), σ = [some (.ref p), some (.ref l), some (.int b), some (.int mo), some (.ref r1), some (.ref r2), v6] ∧ V2 H H' p c r1 r2 As Bs Ls.length (M + 20 * b + 30) ∧ r1 ≠ r2 ∧ H r1 = none ∧ H r2 = none) ?_ ?_
  · have keep : ∀ (r2 : Addr) (Rs : List Int) (Hx : Hp), Hx r2 = some (.lst (Rs.map V.int)) → Rs.length = Ls.length → LvB (M + 20 * b + 30) Rs → Box Hx p c → Kp [p] H3 Hx → H3 r2 = none → ∀ v6 : Option V, ∃ (r1 r2' : Addr) (v6' : Option V) (As Bs : List Int), [some (V.ref p), some (.ref l), some (.int b), some (.int mo), some (.ref l1), some (.ref r2), v6] = [some (V.ref p), some (.ref l), some (.int b), some (.int mo), some (.ref r1), some (.ref r2'), v6'] ∧ V2 H Hx p c r1 r2' As Bs Ls.length (M + 20 * b + 30) ∧ r1 ≠ r2' ∧ H r1 = none ∧ H r2' = none := fun r2 Rs Hx e1 e2 e3 B k n v6 =>
      ⟨l1, r2, v6, Ls, Rs, rfl, ⟨k.g1 n1p g1b, e1, rfl, e2, hL.mono (by omega), e3, B, k13.trans k⟩, ne_of_none g1b n, nl10, bk k13 B3 n⟩
    wtm_at "rd"
    refine ite_d (fun h => ?_) (fun h => ?_)
    · wtm_at "rd"
      refine us_l_few B3 hl3 hn hL hb hM fun r2 Rs H4 e1 e2 e3 B4 k4 n4 => ?_
      wtm_at "rd"
      exact keep r2 Rs H4 e1 e2 (e3.mono (by omega)) B4 k4 n4 _
    wtm_at "rd"
    refine ite_d (fun h => ?_) (fun h => ?_)
    · wtm_at "rd"
      refine us_l_above B3 hl3 hn hL hb hb fun r2 Rs H4 e1 e2 e3 B4 k4 n4 => ?_
      wtm_at "rd"
      exact keep r2 Rs H4 e1 e2 (e3.mono (by omega)) B4 k4 n4 _
    wtm_at "rd"
    refine ite_d (fun h => ?_) (fun h => ?_)
    · wtm_at "rd"
      refine us_l_vector B3 hl3 hn hL hb fun t v1 v2 As Bs H4 et e1 e2 m1 m2 x1 x2 ne B4 k4 w1 w2 => ?_
      have v1p := B4.offI e1
      have v2p := B4.offI e2
      wtm_at "rd"
      have k5 : Kp [p] H4 H4 := Kp.refl
      have B5 := B4
      have e15 := e1
      have e25 := e2
      refine ite_d (fun h2 => ?_) (fun h2 => ?_)
      · wtm_at "rd"
        refine us_l_few (Ls := Bs) (M := M + 20 * b + 30) B5 e25 (by rw [m2]; exact hn) x2 hb (by omega) fun r2 Rs H6 f1 f2 f3 B6 k6 n6 => ?_
        wtm_at "rd"
        exact ⟨v1, r2, _, As, Rs, rfl, ⟨k6.g1 v1p e15, f1, m1, f2.trans m2, x1, f3, B6, ((k13.trans k4).trans k5).trans k6⟩, ne_of_none e15 n6, bk k13 B3 w1, bk ((k13.trans k4).trans k5) B5 n6⟩
      · wtm_at "rd"
        exact ⟨v1, v2, _, As, Bs, rfl, ⟨e15, e25, m1, m2, x1, x2, B5, (k13.trans k4).trans k5⟩, ne, bk k13 B3 w1, bk k13 B3 w2⟩
    wtm_at "rd"
    refine ite_d (fun h => ?_) (fun h => ?_)
    · wtm_at "rd"
      intro D nD
      have nDp : D ≠ p := fun z => B3.ne1 nD z.symm
      refine lcL_ints Ls (fun i H' => (∃ Rs : List Int, H' D = some (.lst (Rs.map V.int)) ∧ Rs.length = i ∧ LvB (M + 20 * b + 30) Rs) ∧ Box H' p c ∧ Kp [p] H3 H') ⟨⟨[], upd_same, rfl, fun x hx => by cases hx⟩, B3.new nD, Kp.new nD⟩ (fun i H' _ q => SqL.of (q.2.2.g1 nlp hl3)) (fun i hi H' q => ?_) (fun H' q => ?_)
      · obtain ⟨⟨Rs, q1, q2, q3⟩, B4, k4⟩ := q
        wtm_at "rd"
        refine ⟨rfl, ?_⟩
        wtm_at "rd"
        refine us_l_level B4 hb fun x H5 x0 x1 B5 k5 => ?_
        exact ⟨_, k5.g1 nDp q1, szlt (by rw [List.length_map]; omega), ⟨Rs ++ [x], by rw [upd_same, List.map_append]; rfl, by rw [List.length_append, q2]; rfl, fun y hy => by
          rcases List.mem_append.mp hy with m | m
          · exact q3 y m
          · rw [List.mem_singleton.mp m]
            exact ⟨x0, by omega⟩⟩, B5.ofL (B3.ne1 nD) (B3.ne2 nD), (k4.trans k5).mine nD⟩
      · obtain ⟨⟨Rs, q1, q2, q3⟩, B4, k4⟩ := q
        wtm_at "rd"
        exact keep D Rs H' q1 q2 q3 B4 k4 nD _
    wtm_at "rd"
    · wtm_at "rd"
      intro D nD
      refine lcL_ints Ls (fun i H' => (∃ Rs : List Int, H' D = some (.lst (Rs.map V.int)) ∧ Rs.length = i ∧ LvB (M + 20 * b + 30) Rs) ∧ Kp [] H3 H') ⟨⟨[], upd_same, rfl, fun x hx => by cases hx⟩, Kp.new nD⟩ (fun i H' _ q => SqL.of (q.2.g0 hl3)) (fun i hi H' q => ?_) (fun H' q => ?_)
      · obtain ⟨⟨Rs, q1, q2, q3⟩, k4⟩ := q
        wtm_at "rd"
        refine ⟨rfl, ?_⟩
        wtm_at "rd"
        exact ⟨_, q1, szlt (by rw [List.length_map]; omega), ⟨Rs ++ [0], by rw [upd_same, List.map_append]; rfl, by rw [List.length_append, q2]; rfl, fun y hy => by
          rcases List.mem_append.mp hy with m | m
          · exact q3 y m
          · rw [List.mem_singleton.mp m]
            have := (hL.get (k := 0) (by omega))
            exact ⟨Int.le_refl _, by omega⟩⟩, k4.mine nD⟩
      · obtain ⟨⟨Rs, q1, q2, q3⟩, k4⟩ := q
        wtm_at "rd"
        exact keep D Rs H' q1 q2 q3 (B3.k0 k4) k4.of0 nD _
  rintro σ H4 ⟨r1, r2, v6, As, Bs, rfl, W, ne, m1, m2⟩
  have h1p := W.bx.offI W.a
  have h2p := W.bx.offI W.b
  wtm_at "rd"
  refine us_l_take W.bx (by decide) (by decide) fun z H5 z0 z1 B5 k5 => ?_
  have a5 := k5.g1 h1p W.a
  have b5 := k5.g1 h2p W.b
  wtm_at "rd"
  refine ite_d (fun h => ?_) (fun h => ?_)
  · wtm_at "rd"
    refine ⟨sz1000 (by simp), fun r nr => ?_⟩
    exact kk r r2 r1 Bs As _ upd_same (hu_ne (ne_of_none b5 nr) b5) (hu_ne (ne_of_none a5 nr) a5) W.nb W.na W.gb W.ga (Ne.symm ne) (B5.new nr) ((W.k.trans k5).nw nr) (bk (W.k.trans k5) B5 nr) m2 m1
  · wtm_at "rd"
    refine ⟨sz1000 (by simp), fun r nr => ?_⟩
    exact kk r r1 r2 As Bs _ upd_same (hu_ne (ne_of_none a5 nr) a5) (hu_ne (ne_of_none b5 nr) b5) W.na W.nb W.ga W.gb ne (B5.new nr) ((W.k.trans k5).nw nr) (bk (W.k.trans k5) B5 nr) m1 m2
theorem c_l_pair (T : Cx K mg) (B : Tb P w K mg base) : CalX P w K mg base CX0 5 "_law_pair" (sp_l_pair K) [] := by
  obtain ⟨fd, F, ok⟩ := f_l_pair (P := P) (w := w) (base := base) T B
  exact ⟨_, fd, p_l_pair, [], ok, gl_l_pair T, F.kp, FunD.bindsN F fun _ _ _ _ _ _ us hl => match us, hl with | [_, _, _], _ => rfl, .nil⟩
end
section
variable {P : Program} {w : World} {K : PySem.W.Frag} {mg : Str → Option Value} {base : Heap}
def sp_l_bounded (K : PySem.W.Frag) : Sp := fun vs H Q E => ∃ (R : Nat) (bt rm D : Int), vs = [.int (2 * (R : Int)), .int bt, .int rm, .int D] ∧ (1 ≤ R) ∧ ((R : Int) ≤ 2 + rm + (2 * bt + 4) * D) ∧ (1 ≤ bt ∧ bt ≤ 8) ∧ (0 ≤ D ∧ D ≤ 256) ∧ (1 ≤ rm ∧ rm ≤ 64) ∧ (Q (.bl true) H)
theorem us_l_bounded {K : PySem.W.Frag} {H : Hp} {Q : VK} {E : XK} {R : Nat} {bt rm D : Int} (h1 : 1 ≤ R) (h2 : (R : Int) ≤ 2 + rm + (2 * bt + 4) * D) (h3 : 1 ≤ bt ∧ bt ≤ 8) (h4 : 0 ≤ D ∧ D ≤ 256) (h5 : 1 ≤ rm ∧ rm ≤ 64) (kk : Q (.bl true) H) : sp_l_bounded K [.int (2 * (R : Int)), .int bt, .int rm, .int D] H Q E := ⟨_, _, _, _, rfl, h1, h2, h3, h4, h5, kk⟩
theorem f_l_bounded (T : Cx K mg) (B : Tb P w K mg base) : ∃ fd, FunD K "_law_bounded" "_law_bounded" (defArgs s_l_bounded) (defBody s_l_bounded) (defScope s_l_bounded) (d_l_bounded.dvs K) (d_l_bounded.kws K) (fAd K d_l_bounded.at_) fd ∧ FnOk P w K mg base CX0 2 (fAd K d_l_bounded.at_) fd p_l_bounded (sp_l_bounded K) := by
  have c_l_whole := c_l_whole (P := P) (w := w) (base := base) T B
  obtain ⟨fd, F⟩ := T.says.def_ 44 (d := d_l_bounded) rfl
  refine ⟨fd, F, fnD F sc_l_bounded (fun vs H Q E h => by
    obtain ⟨_, _, _, _, rfl, _⟩ := h
    rfl) fun cdv A outer s H vs Q E hr h => ?_⟩
  have hu := hu_of hr
  obtain ⟨R, bt, rm, D, rfl, h1, h2, h3, h4, h5, kk⟩ := h
  refine ⟨_, (pss_cons (ps_if (PW.pt (pw_or (pt_not (pt_val (pe_cal c_l_whole hr (by decide) (by rfl) pass0 (pa_cons (pv 0) pa_nil)))) (pw_or (pt_cmpR op_lt (pv 0) pe_int (nomark _)) (pw_or1 (pt_cmpR op_ne (pe_op op_mod (pe_callTy call_int1' (by rfl) (fr_int T) (by decide +kernel) (pa_cons (pv 0) pa_nil)) pe_int) pe_int (nomark _)))))) (pss_one (ps_ret pe_bl)) pss_nil) (pss_one (ps_ret (pe_cmpR op_le (pv 0) (pe_op op_mul pe_int (pe_op op_add (pe_op op_add pe_int (pv 2)) (pe_op op_mul (pe_op op_add (pe_op op_mul pe_int (pv 1)) pe_int) (pv 3)))) (nomark _))))), ?_⟩
  rw [show L2.start n_l_bounded [.int (2 * (R : Int)), .int bt, .int rm, .int D] = [some (.int (2 * (R : Int))), some (.int bt), some (.int rm), some (.int D)] from rfl]
  try dsimp only [cxOf, Cx.nox, Cx.wish, List.map]

  have e2 : 2 * (R : Int) % 2 = 0 := by omega
  wtm_at "rd"
  refine us_l_whole ?_
  wtm_at "rd"
  refine ite_d (fun h => absurd h (by omega)) (fun _ => ?_)
  wtm_at "rd"
  refine ite_n (fun h => absurd e2 h) (fun _ => ?_)
  have m0 : 0 ≤ (2 * bt + 4) * D := Int.mul_nonneg (by omega) h4.1
  have m1 : (2 * bt + 4) * D ≤ 20 * 256 := Int.le_trans (Int.mul_le_mul_of_nonneg_right (show 2 * bt + 4 ≤ 20 by omega) h4.1) (Int.mul_le_mul_of_nonneg_left h4.2 (by decide))
  wtm_at "rd"
  generalize (2 * bt + 4) * D = m at *
  rw [decide_eq_true (by omega)]
  exact kk
theorem c_l_bounded (T : Cx K mg) (B : Tb P w K mg base) : CalX P w K mg base CX0 2 "_law_bounded" (sp_l_bounded K) [] := by
  obtain ⟨fd, F, ok⟩ := f_l_bounded (P := P) (w := w) (base := base) T B
  exact ⟨_, fd, p_l_bounded, [], ok, gl_l_bounded T, F.kp, FunD.bindsN F fun _ _ _ _ _ _ us hl => match us, hl with | [_, _, _, _], _ => rfl, .nil⟩
end
section
variable {P : Program} {w : World} {K : PySem.W.Frag} {mg : Str → Option Value} {base : Heap}
def sp_l_hold (K : PySem.W.Frag) : Sp := fun vs H Q E => ∃ (bl b1 b2 s d1 d2 : Addr) (R z : Int) (ll l1 l2 : Addr) (As Bs : List Int) (n : Nat), vs = [.ref bl, .ref ll, .int z] ∧ (H bl = some (.lst [.ref b1, .ref b2])) ∧ (BkT K H b1 s d1 R (YF z (lv As) n)) ∧ (BkT K H b2 s d2 R (YF z (lv Bs) n)) ∧ (R ≤ 256) ∧ (H ll = some (.lst [.ref l1, .ref l2])) ∧ (H l1 = some (.lst (As.map V.int))) ∧ (H l2 = some (.lst (Bs.map V.int))) ∧ (As.length = n) ∧ (Bs.length = n) ∧ (n ≤ 256) ∧ (∀ H1, Kp [] H H1 → Q (.bl true) H1)
theorem us_l_hold {K : PySem.W.Frag} {H : Hp} {Q : VK} {E : XK} {bl b1 b2 s d1 d2 : Addr} {R z : Int} {ll l1 l2 : Addr} {As Bs : List Int} {n : Nat} (hbl : H bl = some (.lst [.ref b1, .ref b2])) (hA : BkT K H b1 s d1 R (YF z (lv As) n)) (hB : BkT K H b2 s d2 R (YF z (lv Bs) n)) (hR : R ≤ 256) (h0 : H ll = some (.lst [.ref l1, .ref l2])) (h1 : H l1 = some (.lst (As.map V.int))) (h2 : H l2 = some (.lst (Bs.map V.int))) (n1 : As.length = n) (n2 : Bs.length = n) (hn : n ≤ 256) (kk : ∀ H1, Kp [] H H1 → Q (.bl true) H1) : sp_l_hold K [.ref bl, .ref ll, .int z] H Q E := ⟨_, _, _, _, _, _, _, _, _, _, _, _, _, _, rfl, hbl, hA, hB, hR, h0, h1, h2, n1, n2, hn, kk⟩
theorem f_l_hold (T : Cx K mg) (B : Tb P w K mg base) : ∃ fd, FunD K "_law_hold" "_law_hold" (defArgs s_l_hold) (defBody s_l_hold) (defScope s_l_hold) (d_l_hold.dvs K) (d_l_hold.kws K) (fAd K d_l_hold.at_) fd ∧ FnOk P w K mg base CX0 4 (fAd K d_l_hold.at_) fd p_l_hold (sp_l_hold K) := by
  have c_Book_rows := c_Book_rows (P := P) (w := w) (base := base) T B
  have c_l_rows := c_l_rows (P := P) (w := w) (base := base) T B
  have c_l_same := c_l_same (P := P) (w := w) (base := base) T B
  obtain ⟨fd, F⟩ := T.says.def_ 45 (d := d_l_hold) rfl
  refine ⟨fd, F, fnD F sc_l_hold (fun vs H Q E h => by
    obtain ⟨_, _, _, _, _, _, _, _, _, _, _, _, _, _, rfl, _⟩ := h
    rfl) fun cdv A outer s H vs Q E hr h => ?_⟩
  have hu := hu_of hr
  obtain ⟨bl, b1, b2, s, d1, d2, R, z, ll, l1, l2, As, Bs, n, rfl, hbl, hA, hB, hR, h0, h1, h2, n1, n2, hn, kk⟩ := h
  refine ⟨_, (pss_cons (ps_for PassesOwn.never rfl (pi_range1 (by rfl) (fr_range T) (pa_cons pe_int pa_nil)) (pg_name (i := 3) sc_l_hold.nd rfl (by first | exact Or.inl rfl | exact Or.inr rfl)) (pss_one (ps_if (pt_not (pt_val (pe_cal c_l_same hr (by decide) (by rfl) pass0 (pa_cons (pe_met0 c_Book_rows hr (by decide) pass0 (pe_ix ix_list (pv 0) (pv 3) (fun _ _ => rfl))) (pa_cons (pe_cal c_l_rows hr (by decide) (by rfl) pass0 (pa_cons (pe_ix ix_list (pv 1) (pv 3) (fun _ _ => rfl)) (pa_cons (pv 2) pa_nil))) pa_nil))))) (pss_one (ps_ret pe_bl)) pss_nil))) (pss_one (ps_ret pe_bl))), ?_⟩
  rw [show L2.start n_l_hold [.ref bl, .ref ll, .int z] = [some (.ref bl), some (.ref ll), some (.int z), none] from rfl]
  try dsimp only [cxOf, Cx.nox, Cx.wish, List.map]

  wtm_at "rd"
  refine forR_by (fun i σ H1 => (∃ v3, σ = [some (.ref bl), some (.ref ll), some (.int z), v3]) ∧ Kp [] H H1) ⟨⟨_, rfl⟩, Kp.refl⟩ ?_ ?_
  · rintro i σ H1 hi ⟨⟨v3, rfl⟩, k1⟩
    have hb1 := k1.g0 hbl
    have hi2 : i < 2 := hi
    have : i = 0 ∨ i = 1 := by omega
    rcases this with rfl | rfl
    · skip
      obtain ⟨xs, B, eY, nd, ok⟩ := (hA).k0 k1
      obtain ⟨dxb, hbo⟩ := B.ob
      have hx256 := ok_len nd ok hR
      wtm_at "rd"
      refine us_Book_rows B (by omega) fun r H2 S2 k2 _ => ?_
      have h02 := k2.g0 (k1.g0 h0)
      have h12 := k2.g0 (k1.g0 h1)
      wtm_at "rd"
      refine us_l_rows h12 (by omega) fun r2 ps H3 S3 e3 k3 _ => ?_
      rw [n1] at e3
      wtm_at "rd"
      refine us_l_same (S2.k0 k3) S3 ((BkT.rows eY nd).trans e3.symm) (fun y hy => ?_) (by
        have h1 := congrArg List.length e3
        rw [List.length_map] at h1
        have h2 := rowsF_len z (lv As) n
        omega) ?_
      · rw [e3] at hy
        obtain ⟨k, _, _, rfl⟩ := rowsF_mem hy
        exact Sy.T.syL
      · wtm_at "rd"
        exact ⟨⟨_, rfl⟩, (k1.trans k2).trans k3⟩
    · skip
      obtain ⟨xs, B, eY, nd, ok⟩ := (hB).k0 k1
      obtain ⟨dxb, hbo⟩ := B.ob
      have hx256 := ok_len nd ok hR
      wtm_at "rd"
      refine us_Book_rows B (by omega) fun r H2 S2 k2 _ => ?_
      have h02 := k2.g0 (k1.g0 h0)
      have h12 := k2.g0 (k1.g0 h2)
      wtm_at "rd"
      refine us_l_rows h12 (by omega) fun r2 ps H3 S3 e3 k3 _ => ?_
      rw [n2] at e3
      wtm_at "rd"
      refine us_l_same (S2.k0 k3) S3 ((BkT.rows eY nd).trans e3.symm) (fun y hy => ?_) (by
        have h1 := congrArg List.length e3
        rw [List.length_map] at h1
        have h2 := rowsF_len z (lv Bs) n
        omega) ?_
      · rw [e3] at hy
        obtain ⟨k, _, _, rfl⟩ := rowsF_mem hy
        exact Sy.T.syL
      · wtm_at "rd"
        exact ⟨⟨_, rfl⟩, (k1.trans k2).trans k3⟩
  · rintro σ H1 ⟨⟨v3, rfl⟩, k1⟩
    wtm_at "rd"
    exact kk _ k1
theorem c_l_hold (T : Cx K mg) (B : Tb P w K mg base) : CalX P w K mg base CX0 4 "_law_hold" (sp_l_hold K) [] := by
  obtain ⟨fd, F, ok⟩ := f_l_hold (P := P) (w := w) (base := base) T B
  exact ⟨_, fd, p_l_hold, [], ok, gl_l_hold T, F.kp, FunD.bindsN F fun _ _ _ _ _ _ us hl => match us, hl with | [_, _, _], _ => rfl, .nil⟩
end
section
variable {P : Program} {w : World} {K : PySem.W.Frag} {mg : Str → Option Value} {base : Heap}
def sp_l_read (K : PySem.W.Frag) : Sp := fun vs H Q E => ∃ (bk s d lo lj : Addr) (R z : Int) (h : Nat → Int) (As Js : List Int) (n : Nat), vs = [.ref bk, .ref lo, .ref lj, .int z] ∧ (BkT K H bk s d R (YF z h n)) ∧ (R ≤ 256) ∧ (H lo = some (.lst (As.map V.int))) ∧ (H lj = some (.lst (Js.map V.int))) ∧ (As.length = n) ∧ (Js.length = n) ∧ (n ≤ 256) ∧ (∀ k, k < n → 0 ≤ lv As k ∧ lv As k ≤ lv Js k ∧ (h k = lv As k ∨ h k = lv Js k)) ∧ (∀ r (Rs : List Int) H1, H1 r = some (.lst (Rs.map V.int)) → Rs.length = n → (∀ k, k < n → lv Rs k = h k) → Kp [] H H1 → H r = none → Q (.ref r) H1)
theorem us_l_read {K : PySem.W.Frag} {H : Hp} {Q : VK} {E : XK} {bk s d lo lj : Addr} {R z : Int} {h : Nat → Int} {As Js : List Int} {n : Nat} (hB : BkT K H bk s d R (YF z h n)) (hR : R ≤ 256) (h1 : H lo = some (.lst (As.map V.int))) (h2 : H lj = some (.lst (Js.map V.int))) (n1 : As.length = n) (n2 : Js.length = n) (hn : n ≤ 256) (hh : ∀ k, k < n → 0 ≤ lv As k ∧ lv As k ≤ lv Js k ∧ (h k = lv As k ∨ h k = lv Js k)) (kk : ∀ r (Rs : List Int) H1, H1 r = some (.lst (Rs.map V.int)) → Rs.length = n → (∀ k, k < n → lv Rs k = h k) → Kp [] H H1 → H r = none → Q (.ref r) H1) : sp_l_read K [.ref bk, .ref lo, .ref lj, .int z] H Q E := ⟨_, _, _, _, _, _, _, _, _, _, _, rfl, hB, hR, h1, h2, n1, n2, hn, hh, kk⟩
theorem f_l_read (T : Cx K mg) (B : Tb P w K mg base) : ∃ fd, FunD K "_law_read" "_law_read" (defArgs s_l_read) (defBody s_l_read) (defScope s_l_read) (d_l_read.dvs K) (d_l_read.kws K) (fAd K d_l_read.at_) fd ∧ FnOk P w K mg base CX0 4 (fAd K d_l_read.at_) fd p_l_read (sp_l_read K) := by
  have c_Book_rows := c_Book_rows (P := P) (w := w) (base := base) T B
  have c_l_saying := c_l_saying (P := P) (w := w) (base := base) T B
  have c_l_rows := c_l_rows (P := P) (w := w) (base := base) T B
  have c_l_same := c_l_same (P := P) (w := w) (base := base) T B
  obtain ⟨fd, F⟩ := T.says.def_ 46 (d := d_l_read) rfl
  refine ⟨fd, F, fnD F sc_l_read (fun vs H Q E h => by
    obtain ⟨_, _, _, _, _, _, _, _, _, _, _, rfl, _⟩ := h
    rfl) fun cdv A outer s H vs Q E hr h => ?_⟩
  have hu := hu_of hr
  obtain ⟨bk, s, d, lo, lj, R, z, h, As, Js, n, rfl, hB, hR, h1, h2, n1, n2, hn, hh, kk⟩ := h
  refine ⟨_, (pss_cons (ps_set (i := 4) sc_l_read.nd rfl (by first | exact Or.inl rfl | exact Or.inr rfl) (pe_met0 c_Book_rows hr (by decide) pass0 (pv 0))) (pss_cons (ps_if (pt_not (pt_val (pe_callB call_isi (by rfl) (fr_isinstance T) (by decide +kernel) (pa_cons (pv 4) (pa_cons (pe_bltn (v := .ty "list") (by rfl) (fr_list T) (by decide +kernel) rfl) pa_nil))))) (pss_one (ps_ret pe_non)) pss_nil) (pss_cons (ps_set (i := 5) sc_l_read.nd rfl (by first | exact Or.inl rfl | exact Or.inr rfl) (pe_lst pa_nil)) (pss_cons (ps_set (i := 6) sc_l_read.nd rfl (by first | exact Or.inl rfl | exact Or.inr rfl) pe_int) (pss_cons (ps_for PassesOwn.never rfl (pi_range1 (by rfl) (fr_range T) (pa_cons (pe_callB call_lenS (by rfl) (fr_len T) (by decide +kernel) (pa_cons (pv 1) pa_nil)) pa_nil)) (pg_name (i := 7) sc_l_read.nd rfl (by first | exact Or.inl rfl | exact Or.inr rfl)) (pss_cons (ps_set (i := 8) sc_l_read.nd rfl (by first | exact Or.inl rfl | exact Or.inr rfl) (pe_ix ix_list (pv 1) (pv 7) (fun _ _ => rfl))) (C8.pss_cut (ps_if (PW.pt (pw_and (pt_cmpR op_gt (pe_ix ix_list (pv 2) (pv 7) (fun _ _ => rfl)) (pv 8) (nomark _)) (pw_and (pt_cmpR op_lt (pv 6) (pe_callB call_lenS (by rfl) (fr_len T) (by decide +kernel) (pa_cons (pv 4) pa_nil)) (nomark _)) (pw_and1 (pt_cmpR (op_eqD hr.units) (pe_ix ix_list (pv 4) (pv 6) (fun _ _ => rfl)) (pe_cal c_l_saying hr (by decide) (by rfl) pass0 (pa_cons (pv 7) (pa_cons (pe_ix ix_list (pv 2) (pv 7) (fun _ _ => rfl)) (pa_cons (pv 3) pa_nil)))) (nomark _)))))) (pss_one (ps_set (i := 8) sc_l_read.nd rfl (by first | exact Or.inl rfl | exact Or.inr rfl) (pe_ix ix_list (pv 2) (pv 7) (fun _ _ => rfl)))) pss_nil) (pss_cons (ps_expr (pe_bm PySem.F.plainAttrs_list PySem.F.slot_list_append PySem.F.type_list_append mt_append (pv 5) (pa_cons (pv 8) pa_nil))) (pss_one (ps_if (pt_cmpR op_gt (pv 8) pe_int (nomark _)) (pss_one (ps_set (i := 6) sc_l_read.nd rfl (by first | exact Or.inl rfl | exact Or.inr rfl) (pe_op op_add (pv 6) pe_int))) pss_nil)))))) (pss_cons (ps_if (pt_not (pt_val (pe_cal c_l_same hr (by decide) (by rfl) pass0 (pa_cons (pv 4) (pa_cons (pe_cal c_l_rows hr (by decide) (by rfl) pass0 (pa_cons (pv 5) (pa_cons (pv 3) pa_nil))) pa_nil))))) (pss_one (ps_ret pe_non)) pss_nil) (pss_one (ps_ret (pv 5))))))))), ?_⟩
  rw [show L2.start n_l_read [.ref bk, .ref lo, .ref lj, .int z] = [some (.ref bk), some (.ref lo), some (.ref lj), some (.int z), none, none, none, none, none] from rfl]
  try dsimp only [cxOf, Cx.nox, Cx.wish, List.map]

  obtain ⟨xs, B, eY, nd, ok⟩ := hB
  obtain ⟨dxb, hbo⟩ := B.ob
  have hx := ok_len nd ok hR
  have er := BkT.rows eY nd
  have el : (rowsL xs).length = (rowsF z h n).length := by rw [← er, List.length_map]
  have el2 := rowsL_len xs
  wtm_at "rd"
  refine us_Book_rows B (by omega) fun r H1 S1 k1 nr => ?_
  have g1 := S1.at_
  wtm_at "rd"
  refine ⟨sz1000 (by simp), fun D nD => ?_⟩
  have g1D := hu_ne (o := .lst []) (ne_of_none g1 nD) g1
  have h11 := k1.g0 h1
  have h21 := k1.g0 h2
  have h1D := hu_ne (o := .lst []) (ne_of_none h11 nD) h11
  wtm_at "rd"
  rw [n1]
  have hrl : (rowsF z h n).length ≤ n := rowsF_len z h n
  refine forR_by (fun i σ H' => (∃ v7 v8 : Option V, σ = [some (.ref bk), some (.ref lo), some (.ref lj), some (.int z), some (.ref r), some (.ref D), some (.int ((rowsF z h i).length : Int)), v7, v8]) ∧ (∃ Rs : List Int, H' D = some (.lst (Rs.map V.int)) ∧ Rs.length = i ∧ ∀ k, k < i → lv Rs k = h k) ∧ Kp [] H1 H') ⟨⟨_, _, rfl⟩, ⟨[], upd_same, rfl, fun k hk => by omega⟩, Kp.new nD⟩ ?_ ?_
  · rintro i σ H2 hi ⟨⟨v7, v8, rfl⟩, ⟨Rs, q1, q2, q3⟩, k2⟩
    have hi : i < n := hi
    obtain ⟨u1, u2, u3⟩ := hh i hi
    have g2 := k2.g0 g1
    have h12 := k2.g0 h11
    have h22 := k2.g0 h21
    have a1 : atI (As.map V.int) (0 + (i : Int)) = some (.int (lv As i)) := by
      rw [Int.zero_add]
      exact atI_lv (by omega)
    have a2 : atI (Js.map V.int) (0 + (i : Int)) = some (.int (lv Js i)) := by
      rw [Int.zero_add]
      exact atI_lv (by omega)
    have hat := rowsF_at (z := z) (h := h) (n := n) (d := n - i) (i := i) (by omega) (by omega)
    wtm_at "rd"
    refine rd_cut (fun σ H3 => σ = [some (.ref bk), some (.ref lo), some (.ref lj), some (.int z), some (.ref r), some (.ref D), some (.int ((rowsF z h i).length : Int)), some (.int (0 + (i : Int))), some (.int (h i))] ∧ Kp [] H2 H3) ?_ ?_
    · have own : h i = lv As i → ∀ H3, Kp [] H2 H3 → ([some (.ref bk), some (.ref lo), some (.ref lj), some (.int z), some (.ref r), some (.ref D), some (.int ((rowsF z h i).length : Int)), some (.int (0 + (i : Int))), some (.int (lv As i))] : List (Option V)) = [some (.ref bk), some (.ref lo), some (.ref lj), some (.int z), some (.ref r), some (.ref D), some (.int ((rowsF z h i).length : Int)), some (.int (0 + (i : Int))), some (.int (h i))] ∧ Kp [] H2 H3 := fun e H3 k3 => ⟨by rw [e], k3⟩
      wtm_at "rd"
      refine ite_d (fun c1 => ?_) (fun c1 => ?_)
      rotate_left
      · wtm_at "rd"
        exact own (by omega) _ Kp.refl
      wtm_at "rd"
      refine ite_d (fun c2 => ?_) (fun c2 => ?_)
      rotate_left
      · wtm_at "rd"
        refine own (Classical.byContradiction fun z => ?_) _ Kp.refl
        have e : h i = lv Js i := u3.resolve_left z
        rw [if_pos (by omega)] at hat
        have := (List.getElem?_eq_some_iff.mp hat).1
        rw [List.length_map] at c2
        omega
      rw [List.length_map] at c2
      have c3 : (rowsF z h i).length < (rowsL xs).length := by omega
      have a3 : atI ((rowsL xs).map fun p => V.ref p.1) ((rowsF z h i).length : Int) = some (.ref (rowsL xs)[(rowsF z h i).length].1) := atI_nat (by rw [List.getElem?_map, List.getElem?_eq_getElem c3]; rfl)
      have ey : (rowsF z h n)[(rowsF z h i).length]? = some (rowsL xs)[(rowsF z h i).length].2 := by
        rw [← er, List.getElem?_map, List.getElem?_eq_getElem c3]
        rfl
      have ob := S1.ob _ (List.getElem_mem c3)
      generalize (rowsL xs)[(rowsF z h i).length] = p at a3 ey ob
      wtm_at "rd"
      refine us_l_saying fun t H3 ht k3 => ?_
      obtain ⟨k, w1, w2, w3, w4⟩ := rowsF_after (by omega) ey
      rw [Int.zero_add] at ht
      refine rd_eqSy (k3.g0 (k2.g0 ob)) ht (by rw [w4]; exact Sy.T.syL) Sy.T.syL ?_
      wtm_at "rd"
      refine ite_d (fun c4 => ?_) (fun c4 => ?_)
      · have h23 := k3.g0 h22
        wtm_at "rd"
        refine ⟨?_, k3⟩
        rw [w4] at c4
        have es : (k : Int) = (i : Int) := congrArg Sy.s c4
        have ek : k = i := by omega
        subst ek
        have erk := congrArg rk c4
        rw [rk_syL, rk_syL] at erk
        rw [erk]
        rfl
      · wtm_at "rd"
        refine own (Classical.byContradiction fun zz => c4 ?_) _ k3
        have e : h i = lv Js i := u3.resolve_left zz
        rw [if_pos (by omega), ey] at hat
        rw [Option.some.inj hat, e]
    rintro σ H3 ⟨rfl, k3⟩
    have q13 := k3.g0 q1
    have hRs : ∀ k, k < i + 1 → lv (Rs ++ [h i]) k = h k := fun k hk => by
      unfold lv
      rw [List.getD_eq_getElem?_getD]
      by_cases e : k = i
      · subst e
        rw [List.getElem?_append_right (by omega), q2, Nat.sub_self]
        rfl
      · rw [List.getElem?_append_left (by omega), ← List.getD_eq_getElem?_getD]
        exact q3 k (by omega)
    have len : (Rs.map V.int).length < sizeLine := szlt (by rw [List.length_map]; omega)
    wtm_at "rd"
    have kD : Kp [] H1 (upd H3 D (.lst (Rs.map V.int ++ [.int (h i)]))) := (k2.trans k3).mine nD
    have gD : upd H3 D (.lst (Rs.map V.int ++ [.int (h i)])) D = some (.lst ((Rs ++ [h i]).map V.int)) := by rw [upd_same, List.map_append]; rfl
    refine ite_d (fun c => ?_) (fun c => ?_)
    · wtm_at "rd"
      refine ⟨⟨some (.int (0 + (i : Int))), some (.int (h i)), ?_⟩, ⟨_, gD, by rw [List.length_append, q2]; rfl, hRs⟩, kD⟩
      rw [rowsF_succ, List.length_append]
      unfold yo
      rw [if_pos c]
      rfl
    · refine ⟨⟨some (.int (0 + (i : Int))), some (.int (h i)), ?_⟩, ⟨_, gD, by rw [List.length_append, q2]; rfl, hRs⟩, kD⟩
      rw [rowsF_succ, List.length_append]
      unfold yo
      rw [if_neg c]
      rfl
  · rintro σ H2 ⟨⟨v7, v8, rfl⟩, ⟨Rs, q1, q2, q3⟩, k2⟩
    have q2 : Rs.length = n := q2
    wtm_at "rd"
    refine us_l_rows q1 (by omega) fun r2 ps H3 S3 e3 k3 _ => ?_
    rw [q2] at e3
    have eF : rowsF z (lv Rs) n = rowsF z h n := by
      unfold rowsF
      exact filterMap_congr' fun k hk => by rw [q3 k (List.mem_range.mp hk)]
    rw [eF] at e3
    wtm_at "rd"
    refine us_l_same (S1.k0 (k2.trans k3)) S3 (er.trans e3.symm) (fun y hy => ?_) (by
      have h1 := congrArg List.length e3
      rw [List.length_map] at h1
      omega) ?_
    · rw [e3] at hy
      obtain ⟨k, _, _, rfl⟩ := rowsF_mem hy
      exact Sy.T.syL
    · wtm_at "rd"
      exact kk D Rs H3 (k3.g0 q1) q2 q3 ((k1.trans k2).trans k3) (k1.back nD (by simp))
theorem c_l_read (T : Cx K mg) (B : Tb P w K mg base) : CalX P w K mg base CX0 4 "_law_read" (sp_l_read K) [] := by
  obtain ⟨fd, F, ok⟩ := f_l_read (P := P) (w := w) (base := base) T B
  exact ⟨_, fd, p_l_read, [], ok, gl_l_read T, F.kp, FunD.bindsN F fun _ _ _ _ _ _ us hl => match us, hl with | [_, _, _, _], _ => rfl, .nil⟩
end
section
variable {P : Program} {w : World} {K : PySem.W.Frag} {mg : Str → Option Value} {base : Heap}
def sp_l_must_join (K : PySem.W.Frag) : Sp := fun vs H Q E => ∃ (ll l1 l2 : Addr) (As Bs : List Int) (n : Nat), vs = [.ref ll] ∧ (H ll = some (.lst [.ref l1, .ref l2])) ∧ (H l1 = some (.lst (As.map V.int))) ∧ (H l2 = some (.lst (Bs.map V.int))) ∧ (As.length = n) ∧ (Bs.length = n) ∧ (n ≤ 256) ∧ (Q (.bl (mustB (lv As) (lv Bs) n)) H)
theorem us_l_must_join {K : PySem.W.Frag} {H : Hp} {Q : VK} {E : XK} {ll l1 l2 : Addr} {As Bs : List Int} {n : Nat} (h0 : H ll = some (.lst [.ref l1, .ref l2])) (h1 : H l1 = some (.lst (As.map V.int))) (h2 : H l2 = some (.lst (Bs.map V.int))) (n1 : As.length = n) (n2 : Bs.length = n) (hn : n ≤ 256) (kk : Q (.bl (mustB (lv As) (lv Bs) n)) H) : sp_l_must_join K [.ref ll] H Q E := ⟨_, _, _, _, _, _, rfl, h0, h1, h2, n1, n2, hn, kk⟩
theorem f_l_must_join (T : Cx K mg) (B : Tb P w K mg base) : ∃ fd, FunD K "_law_must_join" "_law_must_join" (defArgs s_l_must_join) (defBody s_l_must_join) (defScope s_l_must_join) (d_l_must_join.dvs K) (d_l_must_join.kws K) (fAd K d_l_must_join.at_) fd ∧ FnOk P w K mg base CX0 1 (fAd K d_l_must_join.at_) fd p_l_must_join (sp_l_must_join K) := by
  obtain ⟨fd, F⟩ := T.says.def_ 47 (d := d_l_must_join) rfl
  refine ⟨fd, F, fnD F sc_l_must_join (fun vs H Q E h => by
    obtain ⟨_, _, _, _, _, _, rfl, _⟩ := h
    rfl) fun cdv A outer s H vs Q E hr h => ?_⟩
  have hu := hu_of hr
  obtain ⟨ll, l1, l2, As, Bs, n, rfl, h0, h1, h2, n1, n2, hn, kk⟩ := h
  refine ⟨_, (pss_cons (ps_set (i := 1) sc_l_must_join.nd rfl (by first | exact Or.inl rfl | exact Or.inr rfl) pe_int) (pss_cons (ps_set (i := 2) sc_l_must_join.nd rfl (by first | exact Or.inl rfl | exact Or.inr rfl) pe_int) (pss_cons (ps_for PassesOwn.never rfl (pi_range1 (by rfl) (fr_range T) (pa_cons (pe_callB call_lenS (by rfl) (fr_len T) (by decide +kernel) (pa_cons (pe_ix ix_list (pv 0) pe_int (fun _ _ => rfl)) pa_nil)) pa_nil)) (pg_name (i := 3) sc_l_must_join.nd rfl (by first | exact Or.inl rfl | exact Or.inr rfl)) (pss_cons (ps_set (i := 1) sc_l_must_join.nd rfl (by first | exact Or.inl rfl | exact Or.inr rfl) (pe_op op_add (pv 1) (pe_callTy call_int1' (by rfl) (fr_int T) (by decide +kernel) (pa_cons (pe_cmpR op_lt (pe_ix ix_list (pe_ix ix_list (pv 0) pe_int (fun _ _ => rfl)) (pv 3) (fun _ _ => rfl)) (pe_ix ix_list (pe_ix ix_list (pv 0) pe_int (fun _ _ => rfl)) (pv 3) (fun _ _ => rfl)) (nomark _)) pa_nil)))) (pss_one (ps_set (i := 2) sc_l_must_join.nd rfl (by first | exact Or.inl rfl | exact Or.inr rfl) (pe_op op_add (pv 2) (pe_callTy call_int1' (by rfl) (fr_int T) (by decide +kernel) (pa_cons (pe_cmpR op_gt (pe_ix ix_list (pe_ix ix_list (pv 0) pe_int (fun _ _ => rfl)) (pv 3) (fun _ _ => rfl)) (pe_ix ix_list (pe_ix ix_list (pv 0) pe_int (fun _ _ => rfl)) (pv 3) (fun _ _ => rfl)) (nomark _)) pa_nil))))))) (pss_one (ps_ret (pe_or (pe_cmpR op_le (pe_op op_add (pv 1) (pv 2)) pe_int (nomark _)) (pe_or (pe_cmpR op_eq (pv 1) pe_int (nomark _)) (pe_one (pe_cmpR op_eq (pv 2) pe_int (nomark _)))))))))), ?_⟩
  rw [show L2.start n_l_must_join [.ref ll] = [some (.ref ll), none, none, none] from rfl]
  try dsimp only [cxOf, Cx.nox, Cx.wish, List.map]

  wtm_at "rd"
  rw [n1]
  refine forR_by (fun i σ H1 => (∃ v3, σ = [some (.ref ll), some (.int (cnt (fun i => decide (lv As i < lv Bs i)) i)), some (.int (cnt (fun i => decide (lv Bs i < lv As i)) i)), v3]) ∧ H1 = H) ⟨⟨_, rfl⟩, rfl⟩ ?_ ?_
  · rintro i σ H1 hi ⟨⟨v3, rfl⟩, rfl⟩
    have hi : i < n := hi
    have a1 : atI (As.map V.int) (0 + (i : Int)) = some (.int (lv As i)) := by
      rw [Int.zero_add]
      exact atI_lv (by omega)
    have a2 : atI (Bs.map V.int) (0 + (i : Int)) = some (.int (lv Bs i)) := by
      rw [Int.zero_add]
      exact atI_lv (by omega)
    wtm_at "rd"
    exact ⟨⟨_, rfl⟩, rfl⟩
  · rintro σ H1 ⟨⟨v3, rfl⟩, rfl⟩
    unfold mustB at kk
    simp only [Int.toNat_natCast]
    generalize cnt (fun i => decide (lv As i < lv Bs i)) n = x at *
    generalize cnt (fun i => decide (lv Bs i < lv As i)) n = y at *
    wtm_at "rd"
    cases c1 : decide (x + y ≤ 3) with
    | true =>
      rw [c1] at kk
      wtm_at "rd"
      exact kk
    | false =>
      rw [c1] at kk
      wtm_at "rd"
      cases c2 : decide (x = 0) with
      | true =>
        rw [c2] at kk
        wtm_at "rd"
        exact kk
      | false =>
        rw [c2] at kk
        wtm_at "rd"
        exact kk
theorem c_l_must_join (T : Cx K mg) (B : Tb P w K mg base) : CalX P w K mg base CX0 1 "_law_must_join" (sp_l_must_join K) [] := by
  obtain ⟨fd, F, ok⟩ := f_l_must_join (P := P) (w := w) (base := base) T B
  exact ⟨_, fd, p_l_must_join, [], ok, gl_l_must_join T, F.kp, FunD.bindsN F fun _ _ _ _ _ _ us hl => match us, hl with | [_], _ => rfl, .nil⟩
end
section
variable {P : Program} {w : World} {K : PySem.W.Frag} {mg : Str → Option Value} {base : Heap}

theorem ni {ns : List Int} {x : Addr} {r : List V} : HO.lst (ns.map V.int) ≠ HO.lst (V.ref x :: r) := fun e => by
  injection e with e
  exact ne_ints ns e

def sp_l_results (K : PySem.W.Frag) : Sp := fun vs H Q E => ∃ (t c1 c2 s e1 e2 lj : Addr) (R z m : Int) (f1 f2 : Nat → Int) (ll l1 l2 : Addr) (As Bs : List Int) (n : Nat) (Js : List Int) (part lo hi room : Nat), vs = [.ref t, .ref ll, .ref lj, .int z, .int (part : Int), .int (room : Int)] ∧ (H t = some (.tup [.ref c1, .ref c2, .int m])) ∧ (BkT K H c1 s e1 R (YF z f1 n)) ∧ (BkT K H c2 s e2 R (YF z f2 n)) ∧ (R ≤ 256) ∧ (H ll = some (.lst [.ref l1, .ref l2])) ∧ (H l1 = some (.lst (As.map V.int))) ∧ (H l2 = some (.lst (Bs.map V.int))) ∧ (As.length = n) ∧ (Bs.length = n) ∧ (n ≤ 256) ∧ (H lj = some (.lst (Js.map V.int))) ∧ (Js.length = n) ∧ (∀ k, k < n → lv Js k = mx (lv As) (lv Bs) k) ∧ (∀ k, 0 ≤ lv As k) ∧ (∀ k, 0 ≤ lv Bs k) ∧ (Got (lv As) (mx (lv As) (lv Bs)) n lo hi (mustL (lv As) (lv Bs) n) f1) ∧ (Got (lv Bs) (mx (lv As) (lv Bs)) n lo hi (mustL (lv As) (lv Bs) n) f2) ∧ ((lo : Int) = part * (room : Int)) ∧ ((hi : Int) = min (n : Int) (lo + (room : Int))) ∧ (1 ≤ room ∧ room ≤ 64 ∧ lo ≤ n) ∧ (∀ r r1 r2 (As2 Bs2 : List Int) H1, H1 r = some (.lst [.ref r1, .ref r2]) → H1 r1 = some (.lst (As2.map V.int)) → H1 r2 = some (.lst (Bs2.map V.int)) → As2.length = n → Bs2.length = n → (∀ k, k < n → lv As2 k = f1 k) → (∀ k, k < n → lv Bs2 k = f2 k) → r1 ≠ r2 → Kp [] H H1 → H r = none → Q (.ref r) H1)
theorem us_l_results {K : PySem.W.Frag} {H : Hp} {Q : VK} {E : XK} {t c1 c2 s e1 e2 lj : Addr} {R z m : Int} {f1 f2 : Nat → Int} {ll l1 l2 : Addr} {As Bs : List Int} {n : Nat} {Js : List Int} {part lo hi room : Nat} (ht : H t = some (.tup [.ref c1, .ref c2, .int m])) (hA : BkT K H c1 s e1 R (YF z f1 n)) (hB : BkT K H c2 s e2 R (YF z f2 n)) (hR : R ≤ 256) (h0 : H ll = some (.lst [.ref l1, .ref l2])) (h1 : H l1 = some (.lst (As.map V.int))) (h2 : H l2 = some (.lst (Bs.map V.int))) (n1 : As.length = n) (n2 : Bs.length = n) (hn : n ≤ 256) (hj : H lj = some (.lst (Js.map V.int))) (n3 : Js.length = n) (hJ : ∀ k, k < n → lv Js k = mx (lv As) (lv Bs) k) (gAs : ∀ k, 0 ≤ lv As k) (gBs : ∀ k, 0 ≤ lv Bs k) (G1 : Got (lv As) (mx (lv As) (lv Bs)) n lo hi (mustL (lv As) (lv Bs) n) f1) (G2 : Got (lv Bs) (mx (lv As) (lv Bs)) n lo hi (mustL (lv As) (lv Bs) n) f2) (hlo : (lo : Int) = part * (room : Int)) (hhi : (hi : Int) = min (n : Int) (lo + (room : Int))) (hrm : 1 ≤ room ∧ room ≤ 64 ∧ lo ≤ n) (kk : ∀ r r1 r2 (As2 Bs2 : List Int) H1, H1 r = some (.lst [.ref r1, .ref r2]) → H1 r1 = some (.lst (As2.map V.int)) → H1 r2 = some (.lst (Bs2.map V.int)) → As2.length = n → Bs2.length = n → (∀ k, k < n → lv As2 k = f1 k) → (∀ k, k < n → lv Bs2 k = f2 k) → r1 ≠ r2 → Kp [] H H1 → H r = none → Q (.ref r) H1) : sp_l_results K [.ref t, .ref ll, .ref lj, .int z, .int (part : Int), .int (room : Int)] H Q E := ⟨_, _, _, _, _, _, _, _, _, _, _, _, _, _, _, _, _, _, _, _, _, _, _, rfl, ht, hA, hB, hR, h0, h1, h2, n1, n2, hn, hj, n3, hJ, gAs, gBs, G1, G2, hlo, hhi, hrm, kk⟩
theorem f_l_results (T : Cx K mg) (B : Tb P w K mg base) : ∃ fd, FunD K "_law_results" "_law_results" (defArgs s_l_results) (defBody s_l_results) (defScope s_l_results) (d_l_results.dvs K) (d_l_results.kws K) (fAd K d_l_results.at_) fd ∧ FnOk P w K mg base CX0 5 (fAd K d_l_results.at_) fd p_l_results (sp_l_results K) := by
  have c_l_read := c_l_read (P := P) (w := w) (base := base) T B
  have c_l_must_join := c_l_must_join (P := P) (w := w) (base := base) T B
  obtain ⟨fd, F⟩ := T.says.def_ 48 (d := d_l_results) rfl
  refine ⟨fd, F, fnD F sc_l_results (fun vs H Q E h => by
    obtain ⟨_, _, _, _, _, _, _, _, _, _, _, _, _, _, _, _, _, _, _, _, _, _, _, rfl, _⟩ := h
    rfl) fun cdv A outer s H vs Q E hr h => ?_⟩
  have hu := hu_of hr
  obtain ⟨t, c1, c2, s, e1, e2, lj, R, z, m, f1, f2, ll, l1, l2, As, Bs, n, Js, part, lo, hi, room, rfl, ht, hA, hB, hR, h0, h1, h2, n1, n2, hn, hj, n3, hJ, gAs, gBs, G1, G2, hlo, hhi, hrm, kk⟩ := h
  refine ⟨_, (pss_cons (ps_if (PW.pt (pw_or (pt_not (pt_val (pe_callB call_isi (by rfl) (fr_isinstance T) (by decide +kernel) (pa_cons (pv 0) (pa_cons (pe_bltn (v := .ty "tuple") (by rfl) (fr_tuple T) (by decide +kernel) rfl) pa_nil))))) (pw_or1 (pt_cmpR op_ne (pe_callB call_lenS (by rfl) (fr_len T) (by decide +kernel) (pa_cons (pv 0) pa_nil)) pe_int (nomark _))))) (pss_one (ps_ret (pe_lst pa_nil))) pss_nil) (pss_cons (ps_set (i := 6) sc_l_results.nd rfl (by first | exact Or.inl rfl | exact Or.inr rfl) (pe_lst pa_nil)) (pss_cons (ps_for PassesOwn.never rfl (pi_range1 (by rfl) (fr_range T) (pa_cons pe_int pa_nil)) (pg_name (i := 7) sc_l_results.nd rfl (by first | exact Or.inl rfl | exact Or.inr rfl)) (pss_cons (ps_set (i := 8) sc_l_results.nd rfl (by first | exact Or.inl rfl | exact Or.inr rfl) (pe_cal c_l_read hr (by decide) (by rfl) pass0 (pa_cons (pe_ix ix_tup (pv 0) (pv 7) (fun _ _ => rfl)) (pa_cons (pe_ix ix_list (pv 1) (pv 7) (fun _ _ => rfl)) (pa_cons (pv 2) (pa_cons (pv 3) pa_nil)))))) (pss_cons (ps_if (pt_cmp (pc_isN (pv 8))) (pss_one (ps_ret (pe_lst pa_nil))) pss_nil) (pss_cons (ps_for PassesOwn.never rfl (pi_range2 (by rfl) (fr_range T) (pa_cons (pe_op op_mul (pv 4) (pv 5)) (pa_cons (pe_callB (call_min2' rfl) (by rfl) (fr_min T) (by decide +kernel) (pa_cons (pe_callB call_lenS (by rfl) (fr_len T) (by decide +kernel) (pa_cons (pv 2) pa_nil)) (pa_cons (pe_op op_add (pe_op op_mul (pv 4) (pv 5)) (pv 5)) pa_nil))) pa_nil))) (pg_name (i := 9) sc_l_results.nd rfl (by first | exact Or.inl rfl | exact Or.inr rfl)) (pss_one (ps_if (pt_cmpR op_ne (pe_ix ix_list (pv 8) (pv 9) (fun _ _ => rfl)) (pe_ix ix_list (pv 2) (pv 9) (fun _ _ => rfl)) (nomark _)) (pss_one (ps_ret (pe_lst pa_nil))) pss_nil))) (C8.pss_cut (ps_if (PW.pt (pw_and (pt_val (pe_cal c_l_must_join hr (by decide) (by rfl) pass0 (pa_cons (pv 1) pa_nil))) (pw_and1 (pt_cmpR (op_neD hr.units) (pv 8) (pv 2) (nomark _))))) (pss_one (ps_ret (pe_lst pa_nil))) pss_nil) (pss_one (ps_expr (pe_bm PySem.F.plainAttrs_list PySem.F.slot_list_append PySem.F.type_list_append mt_append (pv 6) (pa_cons (pv 8) pa_nil))))))))) (pss_one (ps_ret (pv 6)))))), ?_⟩
  rw [show L2.start n_l_results [.ref t, .ref ll, .ref lj, .int z, .int (part : Int), .int (room : Int)] = [some (.ref t), some (.ref ll), some (.ref lj), some (.int z), some (.int (part : Int)), some (.int (room : Int)), none, none, none, none] from rfl]
  try dsimp only [cxOf, Cx.nox, Cx.wish, List.map]

  obtain ⟨hrm1, hrm2, hlt⟩ := hrm
  wtm_at "rd"
  refine ite_n (fun h => absurd rfl h) (fun _ => ?_)
  wtm_at "rd"
  refine ⟨sz1000 (by simp), fun D nD => ?_⟩
  wtm_at "rd"
  refine forR_by (fun i σ H' => (∃ v7 v8 v9, σ = [some (.ref t), some (.ref ll), some (.ref lj), some (.int z), some (.int (part : Int)), some (.int (room : Int)), some (.ref D), v7, v8, v9]) ∧ ((i = 0 ∧ H' D = some (.lst [])) ∨ (i = 1 ∧ ∃ r1 As2, H' D = some (.lst [.ref r1]) ∧ H' r1 = some (.lst ((As2 : List Int).map V.int)) ∧ As2.length = n ∧ ∀ k, k < n → lv As2 k = f1 k) ∨
      (i = 2 ∧ ∃ r1 As2 r2 Bs2, H' D = some (.lst [.ref r1, .ref r2]) ∧ H' r1 = some (.lst ((As2 : List Int).map V.int)) ∧ H' r2 = some (.lst ((Bs2 : List Int).map V.int)) ∧ As2.length = n ∧ Bs2.length = n ∧ (∀ k, k < n → lv As2 k = f1 k) ∧ (∀ k, k < n → lv Bs2 k = f2 k) ∧ r1 ≠ r2)) ∧ Kp [] H H') ⟨⟨_, _, _, rfl⟩, .inl ⟨rfl, upd_same⟩, Kp.new nD⟩ ?_ ?_
  · rintro i σ H2 hi ⟨⟨v7, v8, v9, rfl⟩, q, k2⟩
    have hi2 : i < 2 := hi
    rcases q with ⟨rfl, q⟩ | ⟨rfl, r1, As2, q, q1, q2, q3⟩ | ⟨rfl, _⟩
    rotate_left 2
    · omega
    · have ht2 := k2.g0 ht
      have hl2 := k2.g0 h0
      have aa2 := k2.g0 h1
      have jj2 := k2.g0 hj
      have C2 := (hA).k0 k2
      wtm_at "rd"
      refine us_l_read (h := f1) (As := As) (Js := Js) C2 hR aa2 jj2 n1 n3 hn (fun k hk => ⟨gAs k, by
        rw [hJ k hk]
        exact Int.le_max_left _ _, by
        rw [hJ k hk]
        exact G1.o k hk⟩) fun rr Rs H3 g3 m3 v3 k3 nr3 => ?_
      have jj3 := k3.g0 jj2
      wtm_at "rd"
      rw [← hlo, n3, ← hhi]
      refine forR_by (fun j σ H' => (∃ v9, σ = [some (.ref t), some (.ref ll), some (.ref lj), some (.int z), some (.int (part : Int)), some (.int (room : Int)), some (.ref D), some (.int (0 + ((0 : Nat) : Int))), some (.ref rr), v9]) ∧ H' = H3) ⟨⟨_, rfl⟩, rfl⟩ ?_ ?_
      · rintro j σ H' hjj ⟨⟨v9, rfl⟩, rfl⟩
        have hk : lo + j < n := by omega
        have b1 : atI (Rs.map V.int) ((lo : Int) + (j : Int)) = some (.int (lv Rs (lo + j))) := atI_lv (k := lo + j) (by omega)
        have b2 : atI (Js.map V.int) ((lo : Int) + (j : Int)) = some (.int (lv Js (lo + j))) := atI_lv (k := lo + j) (by omega)
        wtm_at "rd"
        refine ite_n (fun h => absurd (by rw [v3 _ hk, hJ _ hk, G1.s _ (by omega) (by omega)]) h) (fun _ => ?_)
        exact ⟨⟨_, rfl⟩, rfl⟩
      rintro σ H' ⟨⟨v9, rfl⟩, rfl⟩
      refine rd_cut (fun σ H4 => σ = [some (.ref t), some (.ref ll), some (.ref lj), some (.int z), some (.int (part : Int)), some (.int (room : Int)), some (.ref D), some (.int (0 + ((0 : Nat) : Int))), some (.ref rr), v9] ∧ H4 = H') ?_ ?_
      · wtm_at "rd"
        refine us_l_must_join (k3.g0 hl2) (k3.g0 (k2.g0 h1)) (k3.g0 (k2.g0 h2)) n1 n2 hn ?_
        cases hm : mustB (lv As) (lv Bs) n with
        | true =>
          have eR : Rs = Js := lv_ext m3 n3 fun k hk => by rw [v3 k hk, hJ k hk, G1.m (mustB_iff.mp hm) k hk]
          wtm_at "rd"
          refine ite_n (fun h => absurd eR h) (fun _ => ?_)
          exact ⟨rfl, rfl⟩
        | false =>
          wtm_at "rd"
          exact ⟨rfl, rfl⟩
      rintro σ H4 ⟨rfl, rfl⟩
      have q4 := k3.g0 q
      wtm_at "rd"
      refine ⟨⟨_, _, _, rfl⟩, .inr (.inl ⟨rfl, rr, Rs, upd_same, hu_ne (Ne.symm (ne_of_none q nr3)) g3, m3, v3⟩), (k2.trans k3).mine nD⟩
    · have ht2 := k2.g0 ht
      have hl2 := k2.g0 h0
      have aa2 := k2.g0 h2
      have jj2 := k2.g0 hj
      have C2 := (hB).k0 k2
      wtm_at "rd"
      refine us_l_read (h := f2) (As := Bs) (Js := Js) C2 hR aa2 jj2 n2 n3 hn (fun k hk => ⟨gBs k, by
        rw [hJ k hk]
        exact Int.le_max_right _ _, by
        rw [hJ k hk]
        exact G2.o k hk⟩) fun rr Rs H3 g3 m3 v3 k3 nr3 => ?_
      have jj3 := k3.g0 jj2
      wtm_at "rd"
      rw [← hlo, n3, ← hhi]
      refine forR_by (fun j σ H' => (∃ v9, σ = [some (.ref t), some (.ref ll), some (.ref lj), some (.int z), some (.int (part : Int)), some (.int (room : Int)), some (.ref D), some (.int (0 + ((1 : Nat) : Int))), some (.ref rr), v9]) ∧ H' = H3) ⟨⟨_, rfl⟩, rfl⟩ ?_ ?_
      · rintro j σ H' hjj ⟨⟨v9, rfl⟩, rfl⟩
        have hk : lo + j < n := by omega
        have b1 : atI (Rs.map V.int) ((lo : Int) + (j : Int)) = some (.int (lv Rs (lo + j))) := atI_lv (k := lo + j) (by omega)
        have b2 : atI (Js.map V.int) ((lo : Int) + (j : Int)) = some (.int (lv Js (lo + j))) := atI_lv (k := lo + j) (by omega)
        wtm_at "rd"
        refine ite_n (fun h => absurd (by rw [v3 _ hk, hJ _ hk, G2.s _ (by omega) (by omega)]) h) (fun _ => ?_)
        exact ⟨⟨_, rfl⟩, rfl⟩
      rintro σ H' ⟨⟨v9, rfl⟩, rfl⟩
      refine rd_cut (fun σ H4 => σ = [some (.ref t), some (.ref ll), some (.ref lj), some (.int z), some (.int (part : Int)), some (.int (room : Int)), some (.ref D), some (.int (0 + ((1 : Nat) : Int))), some (.ref rr), v9] ∧ H4 = H') ?_ ?_
      · wtm_at "rd"
        refine us_l_must_join (k3.g0 hl2) (k3.g0 (k2.g0 h1)) (k3.g0 (k2.g0 h2)) n1 n2 hn ?_
        cases hm : mustB (lv As) (lv Bs) n with
        | true =>
          have eR : Rs = Js := lv_ext m3 n3 fun k hk => by rw [v3 k hk, hJ k hk, G2.m (mustB_iff.mp hm) k hk]
          wtm_at "rd"
          refine ite_n (fun h => absurd eR h) (fun _ => ?_)
          exact ⟨rfl, rfl⟩
        | false =>
          wtm_at "rd"
          exact ⟨rfl, rfl⟩
      rintro σ H4 ⟨rfl, rfl⟩
      have q4 := k3.g0 q
      have q5 := k3.g0 q1
      wtm_at "rd"
      refine ⟨⟨_, _, _, rfl⟩, .inr (.inr ⟨rfl, r1, As2, rr, Rs, upd_same, hu_ne (ne_of q5 q4 ni) q5, hu_ne (Ne.symm (ne_of_none q nr3)) g3, q2, m3, q3, v3, ne_of_none q1 nr3⟩), (k2.trans k3).mine nD⟩
  · rintro σ H2 ⟨⟨v7, v8, v9, rfl⟩, q, k2⟩
    rcases q with ⟨h, _⟩ | ⟨h, _⟩ | ⟨_, r1, As2, r2, Bs2, q0, q1, q2, q3, q4, q5, q6, q7⟩
    · exact absurd h (by decide)
    · exact absurd h (by decide)
    wtm_at "rd"
    exact kk D r1 r2 As2 Bs2 H2 q0 q1 q2 q3 q4 q5 q6 q7 k2 nD
theorem c_l_results (T : Cx K mg) (B : Tb P w K mg base) : CalX P w K mg base CX0 5 "_law_results" (sp_l_results K) [] := by
  obtain ⟨fd, F, ok⟩ := f_l_results (P := P) (w := w) (base := base) T B
  exact ⟨_, fd, p_l_results, [], ok, gl_l_results T, F.kp, FunD.bindsN F fun _ _ _ _ _ _ us hl => match us, hl with | [_, _, _, _, _, _], _ => rfl, .nil⟩
end
section
variable {P : Program} {w : World} {K : PySem.W.Frag} {mg : Str → Option Value} {base : Heap}
def sp_l_left_out (K : PySem.W.Frag) : Sp := fun vs H Q E => ∃ (bl ll b1 b2 s d1 d2 l1 l2 : Addr) (st : Stg) (z M : Int) (As Bs : List Int) (lj : Addr) (Js : List Int) (b room : Nat), vs = [.ref s, .ref bl, .ref ll, .ref lj, .int z, .int (room : Int)] ∧ (Lb K H bl ll b1 b2 s d1 d2 l1 l2 st z M As Bs (2 ^ b)) ∧ (H lj = some (.lst (Js.map V.int))) ∧ (Js.length = 2 ^ b) ∧ (∀ k, k < 2 ^ b → lv Js k = mx (lv As) (lv Bs) k) ∧ (b ≤ 8) ∧ (st.room = (room : Int)) ∧ (∀ H1, Kp [] H H1 → Q (.bl true) H1)
theorem us_l_left_out {K : PySem.W.Frag} {H : Hp} {Q : VK} {E : XK} {bl ll b1 b2 s d1 d2 l1 l2 : Addr} {st : Stg} {z M : Int} {As Bs : List Int} {lj : Addr} {Js : List Int} {b room : Nat} (hB : Lb K H bl ll b1 b2 s d1 d2 l1 l2 st z M As Bs (2 ^ b)) (hj : H lj = some (.lst (Js.map V.int))) (n3 : Js.length = 2 ^ b) (hJ : ∀ k, k < 2 ^ b → lv Js k = mx (lv As) (lv Bs) k) (hb : b ≤ 8) (hRm : st.room = (room : Int)) (kk : ∀ H1, Kp [] H H1 → Q (.bl true) H1) : sp_l_left_out K [.ref s, .ref bl, .ref ll, .ref lj, .int z, .int (room : Int)] H Q E := ⟨_, _, _, _, _, _, _, _, _, _, _, _, _, _, _, _, _, _, rfl, hB, hj, n3, hJ, hb, hRm, kk⟩
theorem f_l_left_out (T : Cx K mg) (B : Tb P w K mg base) : ∃ fd, FunD K "_law_left_out" "_law_left_out" (defArgs s_l_left_out) (defBody s_l_left_out) (defScope s_l_left_out) (d_l_left_out.dvs K) (d_l_left_out.kws K) (fAd K d_l_left_out.at_) fd ∧ FnOk P w K mg base CX0 13 (fAd K d_l_left_out.at_) fd p_l_left_out (sp_l_left_out K) := by
  have c_reconcile := c_reconcile (P := P) (w := w) (base := base) T B
  have c_reconcile_stripe := c_reconcile_stripe (P := P) (w := w) (base := base) T B
  have c_l_results := c_l_results (P := P) (w := w) (base := base) T B
  have c_l_whole := c_l_whole (P := P) (w := w) (base := base) T B
  obtain ⟨fd, F⟩ := T.says.def_ 49 (d := d_l_left_out) rfl
  refine ⟨fd, F, fnD F sc_l_left_out (fun vs H Q E h => by
    obtain ⟨_, _, _, _, _, _, _, _, _, _, _, _, _, _, _, _, _, _, rfl, _⟩ := h
    rfl) fun cdv A outer s H vs Q E hr h => ?_⟩
  have hu := hu_of hr
  obtain ⟨bl, ll, b1, b2, s, d1, d2, l1, l2, st, z, M, As, Bs, lj, Js, b, room, rfl, hB, hj, n3, hJ, hb, hRm, kk⟩ := h
  refine ⟨_, (pss_cons (ps_set (i := 6) sc_l_left_out.nd rfl (by first | exact Or.inl rfl | exact Or.inr rfl) (pe_cal c_reconcile hr (by decide) (by rfl) pass0 (pa_cons (pv 0) (pa_cons (pe_ix ix_list (pv 1) pe_int (fun _ _ => rfl)) (pa_cons (pe_ix ix_list (pv 1) pe_int (fun _ _ => rfl)) pa_nil))))) (pss_cons (ps_set (i := 7) sc_l_left_out.nd rfl (by first | exact Or.inl rfl | exact Or.inr rfl) (pe_calKX c_reconcile_stripe hr (by decide) (by rfl) pass0 (pa_cons (pv 0) (pa_cons (pe_ix ix_list (pv 1) pe_int (fun _ _ => rfl)) (pa_cons (pe_ix ix_list (pv 1) pe_int (fun _ _ => rfl)) pa_nil))) (pk_cons pe_int pk_nil))) (pss_cons (ps_set (i := 8) sc_l_left_out.nd rfl (by first | exact Or.inl rfl | exact Or.inr rfl) (pe_cal c_l_results hr (by decide) (by rfl) pass0 (pa_cons (pv 6) (pa_cons (pv 2) (pa_cons (pv 3) (pa_cons (pv 4) (pa_cons pe_int (pa_cons (pv 5) pa_nil)))))))) (pss_cons (ps_if (PW.pt (pw_or (pt_cmpR op_eq (pe_callB call_lenS (by rfl) (fr_len T) (by decide +kernel) (pa_cons (pv 8) pa_nil)) pe_int (nomark _)) (pw_or1 (pt_cmpR (op_neD hr.units) (pv 8) (pe_cal c_l_results hr (by decide) (by rfl) pass0 (pa_cons (pv 7) (pa_cons (pv 2) (pa_cons (pv 3) (pa_cons (pv 4) (pa_cons pe_int (pa_cons (pv 5) pa_nil))))))) (nomark _))))) (pss_one (ps_ret pe_bl)) pss_nil) (pss_one (ps_ret (pe_and (pe_cal c_l_whole hr (by decide) (by rfl) pass0 (pa_cons (pe_ix ix_tup (pv 6) pe_int (fun _ _ => rfl)) pa_nil)) (pe_and (pe_cal c_l_whole hr (by decide) (by rfl) pass0 (pa_cons (pe_ix ix_tup (pv 7) pe_int (fun _ _ => rfl)) pa_nil)) (pe_one (pe_cmpR op_eq (pe_ix ix_tup (pv 6) pe_int (fun _ _ => rfl)) (pe_ix ix_tup (pv 7) pe_int (fun _ _ => rfl)) (nomark _))))))))))), ?_⟩
  rw [show L2.start n_l_left_out [.ref s, .ref bl, .ref ll, .ref lj, .int z, .int (room : Int)] = [some (.ref s), some (.ref bl), some (.ref ll), some (.ref lj), some (.int z), some (.int (room : Int)), none, none, none] from rfl]
  try dsimp only [cxOf, Cx.nox, Cx.wish, List.map]

  have hr0 := hB.se.ok.r0
  have hr1 := hB.se.ok.r1
  have h256 : 2 ^ b ≤ 256 := Nat.pow_le_pow_right (n := 2) (by decide) hb
  have hp := Nat.two_pow_pos b
  have gA : ∀ k, 0 ≤ lv As k := fun k => hB.g1.lv
  have gB : ∀ k, 0 ≤ lv Bs k := fun k => hB.g2.lv
  obtain ⟨hi, hhi⟩ : ∃ hi : Nat, (hi : Int) = min ((0 : Nat) + (room : Int)) ((2 ^ b : Nat) : Int) := ⟨min room (2 ^ b), by omega⟩
  obtain ⟨Rn, hR, hRb, hR1, hq⟩ := rec_pk (z := z) (b := b) (lo := 0) (hi := hi) (room := room) hb gA gB (by omega) (by omega) (by omega) (by omega)
  obtain ⟨f1, f2, ea, eb, G1, G2⟩ := rec_got gA gB (by omega) (by omega) (by omega) hR
  have hring := hB.nn
  have hbl := hB.bl
  wtm_at "rd"
  refine rd_callD ?_
  wtm_at "rd"
  refine us_reconcile (part := 0) (lo := 0) (hi := hi) (room := room) (n := 2 ^ b) hB.k1 hB.k2 hB.se hring.symm hRm (by simp) (by rw [hRm]; exact hhi) (Nat.zero_le _) hR.1 hR.2 hq fun t c1 e1 c2 e2 H1 ht C1 C2 nee _ k1 nt _ _ _ _ => ?_
  rw [ea] at C1
  rw [eb] at C2
  have T1 := hB.k0 k1
  have hbl1 := T1.bl
  wtm_at "rd"
  unfold tCallN
  wtm_at "rd"
  refine ⟨rfl, rfl, ?_⟩
  refine us_reconcile (part := 0) (lo := 0) (hi := hi) (room := room) (n := 2 ^ b) T1.k1 T1.k2 T1.se hring.symm hRm (by simp) (by rw [hRm]; exact hhi) (Nat.zero_le _) hR.1 hR.2 hq fun t2 c3 e3 c4 e4 H2 ht2 C3 C4 nee2 _ k2 nt2 _ _ _ _ => ?_
  rw [ea] at C3
  rw [eb] at C4
  have T2 := T1.k0 k2
  have k12 := k1.trans k2
  have hhi2 : (hi : Int) = min ((2 ^ b : Nat) : Int) (((0 : Nat) : Int) + (room : Int)) := by omega
  wtm_at "rd"
  refine us_l_results (lo := 0) (hi := hi) (part := 0) (k2.g0 ht) (C1.k0 k2) (C2.k0 k2) hB.se.ok.r256 T2.ll T2.a1 T2.a2 T2.n1 T2.n2 h256 (k12.g0 hj) n3 hJ gA gB G1 G2 (by simp) hhi2 ⟨by omega, by omega, by omega⟩ fun r r1 r2 As2 Bs2 H3 g0 g1 g2 m1 m2 v1 v2 nr k3 _ => ?_
  have T3 := T2.k0 k3
  wtm_at "rd"
  refine ite_d (fun h => absurd h (by simp)) (fun _ => ?_)
  wtm_at "rd"
  refine us_l_results (lo := 0) (hi := hi) (part := 0) (k3.g0 ht2) (C3.k0 k3) (C4.k0 k3) hB.se.ok.r256 T3.ll T3.a1 T3.a2 T3.n1 T3.n2 h256 ((k12.trans k3).g0 hj) n3 hJ gA gB G1 G2 (by simp) hhi2 ⟨by omega, by omega, by omega⟩ fun r' r1' r2' As3 Bs3 H4 g0' g1' g2' m1' m2' v1' v2' nr' k4 _ => ?_
  refine rd_neLL (k4.g0 g0) g0' (k4.g0 g1) (k4.g0 g2) g1' g2' (lv_ext m1 m1' fun k hk => by rw [v1 k hk, v1' k hk]) (lv_ext m2 m2' fun k hk => by rw [v2 k hk, v2' k hk]) ?_
  have ht4 := (k3.trans k4).g0 (k2.g0 ht)
  have ht24 := (k3.trans k4).g0 ht2
  wtm_at "rd"
  refine us_l_whole ?_
  wtm_at "rd"
  refine us_l_whole ?_
  wtm_at "rd"
  rw [decide_eq_true rfl]
  exact kk _ ((k12.trans k3).trans k4)
theorem c_l_left_out (T : Cx K mg) (B : Tb P w K mg base) : CalX P w K mg base CX0 13 "_law_left_out" (sp_l_left_out K) [] := by
  obtain ⟨fd, F, ok⟩ := f_l_left_out (P := P) (w := w) (base := base) T B
  exact ⟨_, fd, p_l_left_out, [], ok, gl_l_left_out T, F.kp, FunD.bindsN F fun _ _ _ _ _ _ us hl => match us, hl with | [_, _, _, _, _, _], _ => rfl, .nil⟩
end
section
variable {P : Program} {w : World} {K : PySem.W.Frag} {mg : Str → Option Value} {base : Heap}

theorem many_at7 : ∀ b : Fin 7, atI (([1, 2, 4, 8, 16, 32, 64] : List Int).map V.int) (b.val : Int) = some (.int ((2 ^ b.val : Nat) : Int)) := by decide +kernel
theorem lvB_of {M : Int} {As : List Int} {n : Nat} (h1 : As.length = n) (h : ∀ k, k < n → 0 ≤ lv As k ∧ lv As k ≤ M) : LvB M As := fun x hx => by
  obtain ⟨k, hk, rfl⟩ := List.mem_iff_getElem.mp hx
  have := h k (by omega)
  unfold lv at this
  rwa [List.getD_eq_getElem?_getD, List.getElem?_eq_getElem hk] at this
theorem setL_range {Bs : List Int} {n k : Nat} {L : Int} (h : Bs.length = n) (hk : k < n) : (List.range n).map (fun j => V.int (if j = k then L else lv Bs j)) = (Bs.set k L).map V.int := by
  have e : (List.range n).map (fun j => if j = k then L else lv Bs j) = Bs.set k L := lv_ext (n := n) (by simp) (by simp [h]) fun j hj => by
    rw [lv_set (by omega)]
    show (List.map _ (List.range n)).getD j 0 = _
    rw [List.getD_eq_getElem?_getD, List.getElem?_map, List.getElem?_range hj]
    rfl
  rw [← e, List.map_map]
  rfl
def pF (LN sta bk : Int) (i : Nat) : Int := if bk = 1 then LN - 1 - (sta + (i : Int)) % LN else (sta + (i : Int)) % LN
theorem pF_b {LN sta bk : Int} {i : Nat} (h : 1 ≤ LN) : 0 ≤ pF LN sta bk i ∧ pF LN sta bk i < LN := by
  have h0 := Int.emod_nonneg (sta + (i : Int)) (show LN ≠ 0 by omega)
  have h1 := Int.emod_lt_of_pos (sta + (i : Int)) (show 0 < LN by omega)
  unfold pF
  split <;> omega
theorem pF_all {LN sta bk q : Int} (h : 1 ≤ LN) (h0 : 0 ≤ q) (h1 : q < LN) : ∃ j : Nat, (j : Int) < LN ∧ pF LN sta bk j = q := by
  have key : ∀ t : Int, 0 ≤ t → t < LN → ∃ j : Nat, (j : Int) < LN ∧ (sta + (j : Int)) % LN = t := fun t t0 t1 => by
    have e0 := Int.emod_nonneg (t - sta) (show LN ≠ 0 by omega)
    have e1 := Int.emod_lt_of_pos (t - sta) (show 0 < LN by omega)
    refine ⟨((t - sta) % LN).toNat, by omega, ?_⟩
    rw [Int.toNat_of_nonneg e0, Int.add_emod_emod, show sta + (t - sta) = t by omega, Int.emod_eq_of_lt t0 t1]
  unfold pF
  by_cases c : bk = 1
  · obtain ⟨j, j1, j2⟩ := key (LN - 1 - q) (by omega) (by omega)
    exact ⟨j, j1, by rw [if_pos c, j2]; omega⟩
  · obtain ⟨j, j1, j2⟩ := key q h0 h1
    exact ⟨j, j1, by rw [if_neg c, j2]⟩
theorem lane_lt {b room k : Nat} (hr : 1 ≤ room ∧ room ≤ 64) (hk : k < 2 ^ b) : (k : Int) / (room : Int) < (((2 ^ b : Nat) : Int) + (room : Int) - 1) / (room : Int) := by
  have h1 : ((k : Int) + (room : Int)) / (room : Int) ≤ (((2 ^ b : Nat) : Int) + (room : Int) - 1) / (room : Int) := Int.ediv_le_ediv (by omega) (by omega)
  rw [Int.add_ediv_of_dvd_right (Int.dvd_refl _), Int.ediv_self (by omega)] at h1
  omega
section
variable {K : PySem.W.Frag} {H H' : Hp} {p c d : Addr} {kv : List (Key × V)}
theorem Box.kd (B : Box H p c) (k : Kp [d] H H') (hd : H d = some (.dK kv)) : Box H' p c := by
  obtain ⟨r, e1, ns, e2⟩ := B.at
  exact B.kp k (by rw [List.mem_singleton]; exact ne_of e1 hd (by intro z; cases z)) (by rw [List.mem_singleton]; exact ne_of e2 hd (by intro z; cases z))
theorem Lb.kd {bl ll b1 b2 s d1 d2 l1 l2 : Addr} {st : Stg} {z M : Int} {As Bs : List Int} {n : Nat} (T : Lb K H bl ll b1 b2 s d1 d2 l1 l2 st z M As Bs n) (k : Kp [d] H H') (hd : H d = some (.dK kv)) (n1 : d1 ≠ d) (n2 : d2 ≠ d) : Lb K H' bl ll b1 b2 s d1 d2 l1 l2 st z M As Bs n :=
  ⟨k.g1 (ne_of T.bl hd (by intro z; cases z)) T.bl, k.g1 (ne_of T.ll hd (by intro z; cases z)) T.ll, T.k1.wd k hd n1, T.k2.wd k hd n2, k.g1 (ne_of T.a1 hd (by intro z; cases z)) T.a1, k.g1 (ne_of T.a2 hd (by intro z; cases z)) T.a2, T.se.k1 k (T.se.nedK hd), T.n1, T.n2, T.nn, T.g1, T.g2, T.nd, T.nl⟩
end
/-- the law's state between two reconcilings -/
structure Lz (K : PySem.W.Frag) (H : Hp) (p c S : Addr) (st : Stg) (z M : Int) (n : Nat) (bl ll lj : Addr) (Js : List Int) (Dn : Nat → Prop) (fr : Addr → Prop) : Prop where
  ex : ∃ b1 b2 d1 d2 l1 l2 As Bs, Lb K H bl ll b1 b2 S d1 d2 l1 l2 st z M As Bs n ∧ (∀ k, k < n → mx (lv As) (lv Bs) k = lv Js k) ∧ (∀ k, k < n → Dn k → lv As k = lv Js k ∧ lv Bs k = lv Js k) ∧ fr d1 ∧ fr d2
  lj : H lj = some (.lst (Js.map V.int))
  ln : Js.length = n
  bx : Box H p c
theorem Lz.imp {K : PySem.W.Frag} {H : Hp} {p c S : Addr} {st : Stg} {z M : Int} {n : Nat} {bl ll lj : Addr} {Js : List Int} {Dn Dn' : Nat → Prop} {fr fr' : Addr → Prop} (L : Lz K H p c S st z M n bl ll lj Js Dn fr) (h1 : ∀ k, Dn' k → Dn k) (h2 : ∀ d, fr d → fr' d) : Lz K H p c S st z M n bl ll lj Js Dn' fr' := by
  obtain ⟨⟨b1, b2, d1, d2, l1, l2, As, Bs, T, t1, t2, t3, t4⟩, u1, u2, u3⟩ := L
  exact ⟨⟨b1, b2, d1, d2, l1, l2, As, Bs, T, t1, fun k hk hd => t2 k hk (h1 k hd), h2 _ t3, h2 _ t4⟩, u1, u2, u3⟩
theorem Lz.kB {K : PySem.W.Frag} {H H' : Hp} {p c S : Addr} {st : Stg} {z M : Int} {n : Nat} {bl ll lj : Addr} {Js : List Int} {Dn : Nat → Prop} {fr : Addr → Prop} (L : Lz K H p c S st z M n bl ll lj Js Dn fr) (k : Kp [p] H H') (B : Box H' p c) : Lz K H' p c S st z M n bl ll lj Js Dn fr := by
  obtain ⟨⟨b1, b2, d1, d2, l1, l2, As, Bs, T, t⟩, u1, u2, u3⟩ := L
  exact ⟨⟨b1, b2, d1, d2, l1, l2, As, Bs, T.kB u3 k, t⟩, k.g1 (u3.offI u1) u1, u2, B⟩

def sp_law (K : PySem.W.Frag) : Sp := fun vs H Q E => ∃ (s : Addr) (ns : List Int), vs = [.ref s] ∧ (SqL K H s (ns.map V.int)) ∧ (ns.length ≤ 63) ∧ (LamX.Tabs (TT K) H) ∧ (∀ H1, Q (.bl true) H1)
theorem us_law {K : PySem.W.Frag} {H : Hp} {Q : VK} {E : XK} {s : Addr} {ns : List Int} (hS : SqL K H s (ns.map V.int)) (hl : ns.length ≤ 63) (hT : LamX.Tabs (TT K) H) (kk : ∀ H1, Q (.bl true) H1) : sp_law K [.ref s] H Q E := ⟨_, _, rfl, hS, hl, hT, kk⟩
theorem f_law (T : Cx K mg) (B : Tb P w K mg base) : ∃ fd, FunD K "law" "law" (defArgs s_law) (defBody s_law) (defScope s_law) (d_law.dvs K) (d_law.kws K) (fAd K d_law.at_) fd ∧ FnOk P w K mg base CX0 15 (fAd K d_law.at_) fd p_law (sp_law K) := by
  have c_l_box := c_l_box (P := P) (w := w) (base := base) T B
  have c_l_take := c_l_take (P := P) (w := w) (base := base) T B
  have c_l_base := c_l_base (P := P) (w := w) (base := base) T B
  have c_l_level := c_l_level (P := P) (w := w) (base := base) T B
  have c_l_pair := c_l_pair (P := P) (w := w) (base := base) T B
  have c_l_book := c_l_book (P := P) (w := w) (base := base) T B
  have c_l_left_out := c_l_left_out (P := P) (w := w) (base := base) T B
  have c_reconcile := c_reconcile (P := P) (w := w) (base := base) T B
  have c_reconcile_stripe := c_reconcile_stripe (P := P) (w := w) (base := base) T B
  have c_l_results := c_l_results (P := P) (w := w) (base := base) T B
  have c_l_bounded := c_l_bounded (P := P) (w := w) (base := base) T B
  have c_l_hold := c_l_hold (P := P) (w := w) (base := base) T B
  have c_l_saying := c_l_saying (P := P) (w := w) (base := base) T B
  have c_Book_take := c_Book_take (P := P) (w := w) (base := base) T B
  have c_Setting_init := c_Setting_init (P := P) (w := w) (base := base) T B
  obtain ⟨fd, F⟩ := T.says.def_ 50 (d := d_law) rfl
  refine ⟨fd, F, fnD F sc_law (fun vs H Q E h => by
    obtain ⟨_, _, rfl, _⟩ := h
    rfl) fun cdv A outer s H vs Q E hr h => ?_⟩
  have hu := hu_of hr
  obtain ⟨s, ns, rfl, hS, hl, hT, kk⟩ := h
  refine ⟨_, (pss_cons (ps_set (i := 1) sc_law.nd rfl (by first | exact Or.inl rfl | exact Or.inr rfl) (pe_cal c_l_box hr (by decide) (by rfl) pass0 (pa_cons (pv 0) pa_nil))) (pss_cons (ps_set (i := 2) sc_law.nd rfl (by first | exact Or.inl rfl | exact Or.inr rfl) (pe_ix ix_list (pe_lst (pa_cons pe_int (pa_cons pe_int (pa_cons pe_int (pa_cons pe_int (pa_cons pe_int (pa_cons pe_int (pa_cons pe_int (pa_cons pe_int (pa_cons pe_int (pa_cons pe_int (pa_cons pe_int (pa_cons pe_int pa_nil))))))))))))) (pe_cal c_l_take hr (by decide) (by rfl) pass0 (pa_cons (pv 1) (pa_cons pe_int pa_nil))) (fun _ _ => rfl))) (pss_cons (ps_set (i := 3) sc_law.nd rfl (by first | exact Or.inl rfl | exact Or.inr rfl) (pe_ix ix_list (pe_lst (pa_cons pe_int (pa_cons pe_int (pa_cons pe_int (pa_cons pe_int (pa_cons pe_int (pa_cons pe_int (pa_cons pe_int pa_nil)))))))) (pv 2) (fun _ _ => rfl))) (pss_cons (ps_set (i := 4) sc_law.nd rfl (by first | exact Or.inl rfl | exact Or.inr rfl) (pe_op op_add pe_int (pe_cal c_l_take hr (by decide) (by rfl) pass0 (pa_cons (pv 1) (pa_cons pe_int pa_nil))))) (pss_cons (ps_set (i := 5) sc_law.nd rfl (by first | exact Or.inl rfl | exact Or.inr rfl) (pe_callB (call_max2' rfl) (by rfl) (fr_max T) (by decide +kernel) (pa_cons (pe_ix ix_list (pe_lst (pa_cons pe_int (pa_cons pe_int (pa_cons pe_int (pa_cons pe_int (pa_cons pe_int (pa_cons (pe_callB (call_min2' rfl) (by rfl) (fr_min T) (by decide +kernel) (pa_cons pe_int (pa_cons (pv 3) pa_nil))) (pa_cons (pv 4) (pa_cons pe_int pa_nil))))))))) (pe_cal c_l_take hr (by decide) (by rfl) pass0 (pa_cons (pv 1) (pa_cons pe_int pa_nil))) (fun _ _ => rfl)) (pa_cons (pe_op op_fdiv (pv 3) pe_int) pa_nil)))) (pss_cons (ps_set (i := 6) sc_law.nd rfl (by first | exact Or.inl rfl | exact Or.inr rfl) (pe_mak c_Setting_init hr (by decide) (by rfl) pass0 (pa_cons (pv 2) (pa_cons (pe_op op_add pe_int (pe_cal c_l_take hr (by decide) (by rfl) pass0 (pa_cons (pv 1) (pa_cons pe_int pa_nil)))) (pa_cons (pv 5) pa_nil))))) (pss_cons (ps_set (i := 7) sc_law.nd rfl (by first | exact Or.inl rfl | exact Or.inr rfl) (pe_cal c_l_base hr (by decide) (by rfl) pass0 (pa_cons (pv 1) pa_nil))) (pss_cons (ps_set (i := 8) sc_law.nd rfl (by first | exact Or.inl rfl | exact Or.inr rfl) (pe_cal c_l_take hr (by decide) (by rfl) pass0 (pa_cons (pv 1) (pa_cons pe_int pa_nil)))) (pss_cons (ps_set (i := 9) sc_law.nd rfl (by first | exact Or.inl rfl | exact Or.inr rfl) (pe_cal c_l_pair hr (by decide) (by rfl) pass0 (pa_cons (pv 1) (pa_cons (pe_lc (own := [("_law_turn", 24)]) (g := (gName 24)) (tt := tYes) rfl sc_law.nd (pi_range1 (by rfl) (fr_range T) (pa_cons (pv 3) pa_nil)) (blkOk_by (own := [("_law_turn", 24)]) (N := n_law) (sc := defScope s_law) (by decide +kernel)) (fun _ _ _ _ _ => (pg_name (i := 24) sc_law.nd rfl (by first | exact Or.inl rfl | exact Or.inr rfl))) (fun _ _ _ _ _ => pts_nil) (fun _ _ _ _ _ => (pe_cal c_l_level hr (by decide) (by rfl) pass0 (pa_cons (pv 1) (pa_cons (pv 7) pa_nil))))) (pa_cons (pv 7) pa_nil))))) (pss_cons (ps_set (i := 10) sc_law.nd rfl (by first | exact Or.inl rfl | exact Or.inr rfl) (pe_lc (own := [("_law_seat", 22)]) (g := (gName 22)) (tt := tYes) rfl sc_law.nd (pi_range1 (by rfl) (fr_range T) (pa_cons (pv 3) pa_nil)) (blkOk_by (own := [("_law_seat", 22)]) (N := n_law) (sc := defScope s_law) (by decide +kernel)) (fun _ _ _ _ _ => (pg_name (i := 22) sc_law.nd rfl (by first | exact Or.inl rfl | exact Or.inr rfl))) (fun _ _ _ _ _ => pts_nil) (fun _ _ _ _ _ => (pe_callB (call_max2' rfl) (by rfl) (fr_max T) (by decide +kernel) (pa_cons (pe_ix (ix_listK (K := K) rfl) (pe_ix (ix_listK (K := K) rfl) (pv 9) pe_int (fun _ _ => rfl)) (pv 22) (fun _ _ => rfl)) (pa_cons (pe_ix (ix_listK (K := K) rfl) (pe_ix (ix_listK (K := K) rfl) (pv 9) pe_int (fun _ _ => rfl)) (pv 22) (fun _ _ => rfl)) pa_nil)))))) (pss_cons (ps_set (i := 11) sc_law.nd rfl (by first | exact Or.inl rfl | exact Or.inr rfl) (pe_lst (pa_cons (pe_cal c_l_book hr (by decide) (by rfl) pass0 (pa_cons (pv 6) (pa_cons (pe_ix ix_list (pv 9) pe_int (fun _ _ => rfl)) (pa_cons (pv 8) (pa_cons (pv 1) pa_nil))))) (pa_cons (pe_cal c_l_book hr (by decide) (by rfl) pass0 (pa_cons (pv 6) (pa_cons (pe_ix ix_list (pv 9) pe_int (fun _ _ => rfl)) (pa_cons (pv 8) (pa_cons (pv 1) pa_nil))))) pa_nil)))) (pss_cons (ps_set (i := 12) sc_law.nd rfl (by first | exact Or.inl rfl | exact Or.inr rfl) (pe_callTy call_listOf (by rfl) (fr_list T) (by decide +kernel) (pa_cons (pv 11) pa_nil))) (pss_cons (ps_set (i := 13) sc_law.nd rfl (by first | exact Or.inl rfl | exact Or.inr rfl) (pe_callTy call_listOf (by rfl) (fr_list T) (by decide +kernel) (pa_cons (pv 9) pa_nil))) (pss_cons (ps_if (pt_not (pt_val (pe_cal c_l_left_out hr (by decide) (by rfl) pass0 (pa_cons (pv 6) (pa_cons (pv 11) (pa_cons (pv 9) (pa_cons (pv 10) (pa_cons (pv 8) (pa_cons (pv 5) pa_nil))))))))) (pss_one (ps_ret pe_bl)) pss_nil) (pss_cons (ps_set (i := 14) sc_law.nd rfl (by first | exact Or.inl rfl | exact Or.inr rfl) (pe_op op_fdiv (pe_op op_sub (pe_op op_add (pv 3) (pv 5)) pe_int) (pv 5))) (pss_cons (ps_set (i := 15) sc_law.nd rfl (by first | exact Or.inl rfl | exact Or.inr rfl) (pe_cal c_l_take hr (by decide) (by rfl) pass0 (pa_cons (pv 1) (pa_cons (pv 14) pa_nil)))) (pss_cons (ps_set (i := 16) sc_law.nd rfl (by first | exact Or.inl rfl | exact Or.inr rfl) (pe_cal c_l_take hr (by decide) (by rfl) pass0 (pa_cons (pv 1) (pa_cons pe_int pa_nil)))) (pss_cons (ps_for PassesOwn.never rfl (pi_range1 (by rfl) (fr_range T) (pa_cons (pv 14) pa_nil)) (pg_name (i := 17) sc_law.nd rfl (by first | exact Or.inl rfl | exact Or.inr rfl)) (pss_cons (ps_set (i := 18) sc_law.nd rfl (by first | exact Or.inl rfl | exact Or.inr rfl) (pe_op op_mod (pe_callTy call_int1' (by rfl) (fr_int T) (by decide +kernel) (pa_cons (pe_op op_add (pv 15) (pv 17)) pa_nil)) (pv 14))) (C8.pss_cut (ps_if (pt_cmpR op_eq (pv 16) pe_int (nomark _)) (pss_one (ps_set (i := 18) sc_law.nd rfl (by first | exact Or.inl rfl | exact Or.inr rfl) (pe_op op_sub (pe_op op_sub (pv 14) pe_int) (pv 18)))) pss_nil) (C8.pss_cut (ps_if (pt_cmpR op_eq (pe_cal c_l_take hr (by decide) (by rfl) pass0 (pa_cons (pv 1) (pa_cons pe_int pa_nil))) pe_int (nomark _)) (pss_cons (ps_set (i := 11) sc_law.nd rfl (by first | exact Or.inl rfl | exact Or.inr rfl) (pe_lst (pa_cons (pe_ix ix_list (pv 11) pe_int (fun _ _ => rfl)) (pa_cons (pe_ix ix_list (pv 11) pe_int (fun _ _ => rfl)) pa_nil)))) (pss_one (ps_set (i := 9) sc_law.nd rfl (by first | exact Or.inl rfl | exact Or.inr rfl) (pe_lst (pa_cons (pe_ix ix_list (pv 9) pe_int (fun _ _ => rfl)) (pa_cons (pe_ix ix_list (pv 9) pe_int (fun _ _ => rfl)) pa_nil)))))) pss_nil) (pss_cons (ps_set (i := 19) sc_law.nd rfl (by first | exact Or.inl rfl | exact Or.inr rfl) (pe_callB call_lenS (by rfl) (fr_len T) (by decide +kernel) (pa_cons (pe_lc (own := [("_law_seat", 22)]) (g := (gName 22)) rfl sc_law.nd (pi_range1 (by rfl) (fr_range T) (pa_cons (pv 3) pa_nil)) (blkOk_by (own := [("_law_seat", 22)]) (N := n_law) (sc := defScope s_law) (by decide +kernel)) (fun _ _ _ _ _ => (pg_name (i := 22) sc_law.nd rfl (by first | exact Or.inl rfl | exact Or.inr rfl))) (fun _ _ _ _ _ => (pts_one (pt_cmpR op_ne (pe_ix (ix_listK (K := K) rfl) (pe_ix (ix_listK (K := K) rfl) (pv 9) pe_int (fun _ _ => rfl)) (pv 22) (fun _ _ => rfl)) (pe_ix (ix_listK (K := K) rfl) (pe_ix (ix_listK (K := K) rfl) (pv 9) pe_int (fun _ _ => rfl)) (pv 22) (fun _ _ => rfl)) (nomark _)))) (fun _ _ _ _ _ => (pv 22))) pa_nil))) (pss_cons (ps_set (i := 20) sc_law.nd rfl (by first | exact Or.inl rfl | exact Or.inr rfl) (pe_calKX c_reconcile_stripe hr (by decide) (by rfl) pass0 (pa_cons (pv 6) (pa_cons (pe_ix ix_list (pv 11) pe_int (fun _ _ => rfl)) (pa_cons (pe_ix ix_list (pv 11) pe_int (fun _ _ => rfl)) pa_nil))) (pk_cons (pv 18) pk_nil))) (pss_cons (ps_set (i := 21) sc_law.nd rfl (by first | exact Or.inl rfl | exact Or.inr rfl) (pe_cal c_l_results hr (by decide) (by rfl) pass0 (pa_cons (pv 20) (pa_cons (pv 9) (pa_cons (pv 10) (pa_cons (pv 8) (pa_cons (pv 18) (pa_cons (pv 5) pa_nil)))))))) (pss_cons (ps_if (PW.pt (pw_or (pt_cmpR op_eq (pe_callB call_lenS (by rfl) (fr_len T) (by decide +kernel) (pa_cons (pv 21) pa_nil)) pe_int (nomark _)) (pw_or1 (pt_not (pt_val (pe_cal c_l_bounded hr (by decide) (by rfl) pass0 (pa_cons (pe_ix ix_tup (pv 20) pe_int (fun _ _ => rfl)) (pa_cons (pv 2) (pa_cons (pv 5) (pa_cons (pv 19) pa_nil)))))))))) (pss_one (ps_ret pe_bl)) pss_nil) (pss_cons (ps_if (pt_not (pt_val (pe_cal c_l_hold hr (by decide) (by rfl) pass0 (pa_cons (pv 11) (pa_cons (pv 9) (pa_cons (pv 8) pa_nil)))))) (pss_one (ps_ret pe_bl)) pss_nil) (pss_cons (ps_set (i := 11) sc_law.nd rfl (by first | exact Or.inl rfl | exact Or.inr rfl) (pe_lst (pa_cons (pe_ix ix_tup (pv 20) pe_int (fun _ _ => rfl)) (pa_cons (pe_ix ix_tup (pv 20) pe_int (fun _ _ => rfl)) pa_nil)))) (pss_one (ps_set (i := 9) sc_law.nd rfl (by first | exact Or.inl rfl | exact Or.inr rfl) (pv 21))))))))))))) (pss_cons (ps_if (pt_cmpR (op_neD hr.units) (pv 9) (pe_lst (pa_cons (pv 10) (pa_cons (pv 10) pa_nil))) (nomark _)) (pss_one (ps_ret pe_bl)) pss_nil) (pss_cons (ps_set (i := 22) sc_law.nd rfl (by first | exact Or.inl rfl | exact Or.inr rfl) (pe_cal c_l_take hr (by decide) (by rfl) pass0 (pa_cons (pv 1) (pa_cons (pv 3) pa_nil)))) (pss_cons (ps_set (i := 23) sc_law.nd rfl (by first | exact Or.inl rfl | exact Or.inr rfl) (pe_op op_add (pe_op op_add (pe_ix ix_list (pv 10) (pv 22) (fun _ _ => rfl)) pe_int) (pe_cal c_l_take hr (by decide) (by rfl) pass0 (pa_cons (pv 1) (pa_cons pe_int pa_nil))))) (pss_cons (ps_expr (pe_met c_Book_take hr (by decide) pass0 (pe_ix ix_list (pv 11) pe_int (fun _ _ => rfl)) (pa_cons (pe_cal c_l_saying hr (by decide) (by rfl) pass0 (pa_cons (pv 22) (pa_cons (pv 23) (pa_cons (pv 8) pa_nil)))) pa_nil))) (pss_cons (ps_set (i := 9) sc_law.nd rfl (by first | exact Or.inl rfl | exact Or.inr rfl) (pe_lst (pa_cons (pe_lc (own := [("_law_at", 25)]) (g := (gName 25)) (tt := tYes) rfl sc_law.nd (pi_range1 (by rfl) (fr_range T) (pa_cons (pv 3) pa_nil)) (blkOk_by (own := [("_law_at", 25)]) (N := n_law) (sc := defScope s_law) (by decide +kernel)) (fun _ _ _ _ _ => (pg_name (i := 25) sc_law.nd rfl (by first | exact Or.inl rfl | exact Or.inr rfl))) (fun _ _ _ _ _ => pts_nil) (fun _ _ _ _ _ => (pe_op op_add (pe_ix (ix_listK (K := K) rfl) (pv 10) (pv 25) (fun _ _ => rfl)) (pe_op op_mul (pe_callTy call_int1' (by rfl) (fr_int T) (by decide +kernel) (pa_cons (pe_cmpR op_eq (pv 25) (pv 22) (nomark _)) pa_nil)) (pe_op op_sub (pv 23) (pe_ix (ix_listK (K := K) rfl) (pv 10) (pv 25) (fun _ _ => rfl))))))) (pa_cons (pv 10) pa_nil)))) (pss_one (ps_ret (pe_and (pe_cal c_l_hold hr (by decide) (by rfl) pass0 (pa_cons (pv 11) (pa_cons (pv 9) (pa_cons (pv 8) pa_nil)))) (pe_one (pe_cal c_l_hold hr (by decide) (by rfl) pass0 (pa_cons (pv 12) (pa_cons (pv 13) (pa_cons (pv 8) pa_nil))))))))))))))))))))))))))))))), ?_⟩
  rw [show L2.start n_law [.ref s] = [some (.ref s), none, none, none, none, none, none, none, none, none, none, none, none, none, none, none, none, none, none, none, none, none, none, none, none, none] from rfl]
  try dsimp only [cxOf, Cx.nox, Cx.wish, List.map]

  have hmost : MOST = 999999999999999999999999999999999999999999999999999999999999 := by decide +kernel
  wtm_at "rd"
  refine us_l_box hS hl fun p c H1 B1 k1 np nc => ?_
  clear hS k1
  wtm_at "rd"
  refine ⟨sz1000 (by simp), fun t1 nt1 => ?_⟩
  have e1 : upd H1 t1 (.lst [.int 2, .int 3, .int 2, .int 3, .int 1, .int 4, .int 3, .int 2, .int 5, .int 3, .int 4, .int 6]) t1 = some (.lst (([2, 3, 2, 3, 1, 4, 3, 2, 5, 3, 4, 6] : List Int).map V.int)) := upd_same
  have B2 := B1.new (o := .lst [.int 2, .int 3, .int 2, .int 3, .int 1, .int 4, .int 3, .int 2, .int 5, .int 3, .int 4, .int 6]) nt1
  generalize upd H1 t1 (.lst [.int 2, .int 3, .int 2, .int 3, .int 1, .int 4, .int 3, .int 2, .int 5, .int 3, .int 4, .int 6]) = H2 at *
  wtm_at "rd"
  refine us_l_take B2 (by decide) (by decide) fun n3 H3 n30 n31 B3 k3 => ?_
  have e3 := k3.g1 (B2.offI e1) e1
  obtain ⟨bits, hb, at3⟩ := pickI [2, 3, 2, 3, 1, 4, 3, 2, 5, 3, 4, 6] n30 (by simpa using n31)
  have hbits : 1 ≤ bits ∧ bits ≤ 6 := by
    simp only [List.mem_cons, List.not_mem_nil, or_false] at hb
    omega
  obtain ⟨b, rfl⟩ : ∃ b : Fin 7, bits = (b.val : Int) := ⟨⟨bits.toNat, by omega⟩, by show bits = (bits.toNat : Int); omega⟩
  have b1 : 1 ≤ b.val := by omega
  have b8 : b.val ≤ 8 := by omega
  have b6 : b.val ≤ 6 := by omega
  have h2 : 2 ^ 1 ≤ 2 ^ b.val := Nat.pow_le_pow_right (by decide) b1
  rw [Nat.pow_one] at h2
  have h256 : 2 ^ b.val ≤ 256 := Nat.pow_le_pow_right (n := 2) (by decide) b8
  clear hb e1 k3
  wtm_at "rd"
  refine ⟨sz1000 (by simp), fun t4 nt4 => ?_⟩
  have e4 : upd H3 t4 (.lst [.int 1, .int 2, .int 4, .int 8, .int 16, .int 32, .int 64]) t4 = some (.lst (([1, 2, 4, 8, 16, 32, 64] : List Int).map V.int)) := upd_same
  have B4 := B3.new (o := .lst [.int 1, .int 2, .int 4, .int 8, .int 16, .int 32, .int 64]) nt4
  generalize upd H3 t4 (.lst [.int 1, .int 2, .int 4, .int 8, .int 16, .int 32, .int 64]) = H4 at *
  have at4 := many_at7 b
  wtm_at "rd"
  refine us_l_take B4 (by decide) (by decide) fun fr0 H5 fr00 fr01 B5 k5 => ?_
  wtm_at "rd"
  generalize hfre : 1 + fr0 = fre at *
  refine ⟨sz1000 (by simp), fun t6 nt6 => ?_⟩
  have e6 : upd H5 t6 (.lst [.int 1, .int 2, .int 1, .int 3, .int 2, .int (min 64 ((2 ^ b.val : Nat) : Int)), .int fre, .int 4]) t6 = some (.lst (([1, 2, 1, 3, 2, min 64 ((2 ^ b.val : Nat) : Int), fre, 4] : List Int).map V.int)) := upd_same
  have B6 := B5.new (o := .lst [.int 1, .int 2, .int 1, .int 3, .int 2, .int (min 64 ((2 ^ b.val : Nat) : Int)), .int fre, .int 4]) nt6
  generalize upd H5 t6 (.lst [.int 1, .int 2, .int 1, .int 3, .int 2, .int (min 64 ((2 ^ b.val : Nat) : Int)), .int fre, .int 4]) = H6 at *
  wtm_at "rd"
  refine us_l_take B6 (by decide) (by decide) fun n7 H7 n70 n71 B7 k7 => ?_
  have e7 := k7.g1 (B6.offI e6) e6
  obtain ⟨rm0, hrm00, at7⟩ := pickI [1, 2, 1, 3, 2, min 64 ((2 ^ b.val : Nat) : Int), fre, 4] n70 (by simpa using n71)
  have h64 : 2 ^ b.val ≤ 64 := Nat.pow_le_pow_right (n := 2) (by decide) b6
  have hrm0 : 1 ≤ rm0 ∧ rm0 ≤ 64 := by
    simp only [List.mem_cons, List.not_mem_nil, or_false] at hrm00
    omega
  have hrm : 1 ≤ max rm0 (((2 ^ b.val : Nat) : Int) / 8) ∧ max rm0 (((2 ^ b.val : Nat) : Int) / 8) ≤ 64 := by omega
  wtm_at "rd"
  obtain ⟨room, hroom0⟩ := Int.eq_ofNat_of_zero_le (show 0 ≤ max rm0 (((2 ^ b.val : Nat) : Int) / 8) by omega)
  rw [hroom0] at hrm ⊢
  clear hrm00 e6 k7 e3 e4 at3 at4 k5
  refine us_l_take B7 (by decide) (by decide) fun pt H8 pt0 pt1 B8 k8 => ?_
  clear e7 at7 k8
  wtm_at "rd"
  intro S dS nS ndS neS
  refine us_Setting_init (s := ⟨(b.val : Int), 1 + pt, (room : Int), 6, 1⟩) upd_same ⟨hbits.1, by show (b.val : Int) ≤ 8; omega, by show 1 ≤ 1 + pt; omega, by show 1 + pt ≤ 6; omega, hrm.1, hrm.2, by show (1 : Int) ≤ 6; decide, by show (6 : Int) ≤ 200; decide, by show (0 : Int) ≤ 1; decide, by show (1 : Int) ≤ 3; decide⟩ fun H9 S9 k9 => ⟨rfl, ?_⟩
  have B9 := B8.k0 (made_kp nS ndS neS k9)
  have hring : ((2 ^ b.val : Nat) : Int) = Stg.ring ⟨(b.val : Int), 1 + pt, (room : Int), 6, 1⟩ := by
    rw [Stg.ring_eq]
    simp
  have hroom : Stg.room ⟨(b.val : Int), 1 + pt, (room : Int), 6, 1⟩ = (room : Int) := rfl
  generalize (⟨(b.val : Int), 1 + pt, (room : Int), 6, 1⟩ : Stg) = st at S9 hring hroom
  have hring2 := hring.symm
  have hrn : 1 ≤ room ∧ room ≤ 64 := by omega
  wtm_at "rd"
  refine us_l_base B9 fun ba H10 ba0 ba1 B10 k10 => ?_
  wtm_at "rd"
  refine us_l_take B10 (by decide) (by decide) fun sa H11 sa0 sa1 B11 k11 => ?_
  have S11 := S9.kB B9 (k10.trans k11)
  clear k9 k10 k11 S9
  wtm_at "rd"
  intro D nD
  have nDp : D ≠ p := fun z => B11.ne1 nD z.symm
  refine lcR_by (fun i H' => (∃ Ls : List Int, H' D = some (.lst (Ls.map V.int)) ∧ Ls.length = i ∧ LvB (4 * ba + 5) Ls) ∧ Box H' p c ∧ Kp [p] H11 H') ⟨⟨[], upd_same, rfl, fun x hx => by cases hx⟩, B11.new nD, Kp.new nD⟩ (fun i H' hi q => ?_) (fun H' q => ?_)
  · obtain ⟨⟨Ls, q1, q2, q3⟩, Bx, kx⟩ := q
    wtm_at "rd"
    refine ⟨rfl, ?_⟩
    wtm_at "rd"
    refine us_l_level Bx ba0 fun x Hy x0 x1 By ky => ?_
    exact ⟨_, ky.g1 nDp q1, szlt (by rw [List.length_map]; omega), ⟨Ls ++ [x], by rw [upd_same, List.map_append]; rfl, by rw [List.length_append, q2]; rfl, fun y hy => by
      rcases List.mem_append.mp hy with m | m
      · exact q3 y m
      · rw [List.mem_singleton.mp m]
        exact ⟨x0, by omega⟩⟩, By.ofL (B11.ne1 nD) (B11.ne2 nD), (kx.trans ky).mine nD⟩
  obtain ⟨⟨Ls, q1, q2, q3⟩, B12, k12⟩ := q
  have q2 : Ls.length = 2 ^ b.val := q2
  have S12 := S11.kB B11 k12
  wtm_at "rd"
  refine us_l_pair B12 q1 (by omega) q3 ba0 (by omega) fun ll l1 l2 As Bs H13 g0 ga gb ma mb va vb nl B13 k13 nll nl1 nl2 => ?_
  have S13 := S12.kB B12 k13
  rw [q2] at ma mb
  have va : LvB (24 * ba + 35) As := va.mono (by omega)
  have vb : LvB (24 * ba + 35) Bs := vb.mono (by omega)
  clear q1 q2 q3 B12 k12 S12 S11 B11 k13
  wtm_at "rd"
  intro lj nlj
  refine lcF_range (fun _ => true) (fun k => V.int (max (lv As k) (lv Bs k))) nlj (by omega) (fun i h H14 E N k14 hE hN => ?_) (fun H14 k14 hj0 => ?_)
  · have g0' := k14.g0 g0
    have ga' := k14.g0 ga
    have gb' := k14.g0 gb
    have a1 : atI (As.map V.int) (0 + (i : Int)) = some (.int (lv As i)) := by
      rw [Int.zero_add]
      exact atI_lv (by omega)
    have a2 : atI (Bs.map V.int) (0 + (i : Int)) = some (.int (lv Bs i)) := by
      rw [Int.zero_add]
      exact atI_lv (by omega)
    wtm_at "rd"
    refine ⟨rfl, ?_⟩
    wtm_at "rd"
    exact hE _ Kp.refl rfl
  have hj : H14 lj = some (.lst ((mxL As Bs (2 ^ b.val)).map V.int)) := by
    rw [hj0, List.filter_eq_self.mpr (fun _ _ => rfl)]
    unfold mxL
    rw [List.map_map]
    rfl
  have n3 := mxL_len As Bs (2 ^ b.val)
  have hJ : ∀ k, k < 2 ^ b.val → lv (mxL As Bs (2 ^ b.val)) k = mx (lv As) (lv Bs) k := fun k hk => mxL_lv hk
  generalize mxL As Bs (2 ^ b.val) = Js at hj n3 hJ
  have g0 := k14.g0 g0
  have ga := k14.g0 ga
  have gb := k14.g0 gb
  have S14 := S13.k0 k14
  have B14 := B13.k0 k14
  clear hj0 S13 B13 k14
  wtm_at "rd"
  refine us_l_book B14 S14 ga (by rw [ma]; exact hring) (fun x hx => by have := (va x hx).2; omega) fun b1' d1 xs H15 K15 f15 x15 o15 B15 k15 nb15 nd15 => ?_
  have S15 := S14.kB B14 k15
  have g05 := k15.g1 (B14.off5 g0 (by simp)) g0
  have ga5 := k15.g1 (B14.offI ga) ga
  have gb5 := k15.g1 (B14.offI gb) gb
  have hj5 := k15.g1 (B14.offI hj) hj
  wtm_at "rd"
  refine us_l_book B15 S15 gb5 (by rw [mb]; exact hring) (fun x hx => by have := (vb x hx).2; omega) fun b2' d2 ys H16 K16 f16 x16 o16 B16 k16 nb16 nd16 => ?_
  rw [ma] at f15
  rw [mb] at f16
  have U15 : BkT K H15 b1' S d1 st.ring (YF sa (lv As) (2 ^ b.val)) := ⟨xs, K15, YF_of f15, f15.nd, o15⟩
  have U16 : BkT K H16 b2' S d2 st.ring (YF sa (lv Bs) (2 ^ b.val)) := ⟨ys, K16, YF_of f16, f16.nd, o16⟩
  have nd := U15.fr nd16
  have U15 := U15.kB B15 k16
  have S16 := S15.kB B15 k16
  have g06 := k16.g1 (B15.off5 g05 (by simp)) g05
  have ga6 := k16.g1 (B15.offI ga5) ga5
  have gb6 := k16.g1 (B15.offI gb5) gb5
  have hj6 := k16.g1 (B15.offI hj5) hj5
  clear g05 ga5 gb5 hj5 g0 ga gb hj S14 S15 B14 B15 k15 k16 K15 K16 f15 f16 o15 o16
  wtm_at "rd"
  refine ⟨sz1000 (by simp), fun bl nbl => ?_⟩
  have kb : Kp [] H16 (upd H16 bl (.lst [.ref b1', .ref b2'])) := Kp.new nbl
  have gbl : upd H16 bl (.lst [.ref b1', .ref b2']) bl = some (.lst [.ref b1', .ref b2']) := upd_same
  generalize upd H16 bl (.lst [.ref b1', .ref b2']) = H17 at kb gbl
  have T17 : Lb K H17 bl ll b1' b2' S d1 d2 l1 l2 st sa (24 * ba + 35) As Bs (2 ^ b.val) := ⟨gbl, kb.g0 g06, U15.k0 kb, U16.k0 kb, kb.g0 ga6, kb.g0 gb6, S16.k0 kb, ma, mb, hring, va, vb, nd, nl⟩
  have B17 := B16.k0 kb
  have hj17 := kb.g0 hj6
  clear kb gbl g06 U15 U16 ga6 gb6 S16 B16 hj6 ma mb va vb nd nl
  have hbl17 := T17.bl
  have hll17 := T17.ll
  wtm_at "rd"
  intro el nel
  have ke : Kp [] H17 (upd H17 el (.lst [.ref b1', .ref b2'])) := Kp.new nel
  have ge : upd H17 el (.lst [.ref b1', .ref b2']) el = some (.lst [.ref b1', .ref b2']) := upd_same
  generalize upd H17 el (.lst [.ref b1', .ref b2']) = H18 at ke ge
  have hll18 := ke.g0 hll17
  wtm_at "rd"
  intro kp nkp
  have kq : Kp [] H18 (upd H18 kp (.lst [.ref l1, .ref l2])) := Kp.new nkp
  have gq : upd H18 kp (.lst [.ref l1, .ref l2]) kp = some (.lst [.ref l1, .ref l2]) := upd_same
  generalize upd H18 kp (.lst [.ref l1, .ref l2]) = H19 at kq gq
  have k79 := ke.trans kq
  have T19 := T17.k0 k79
  have E19 : Lb K H19 el kp b1' b2' S d1 d2 l1 l2 st sa (24 * ba + 35) As Bs (2 ^ b.val) := ⟨kq.g0 ge, gq, T19.k1, T19.k2, T19.a1, T19.a2, T19.se, T19.n1, T19.n2, T19.nn, T19.g1, T19.g2, T19.nd, T19.nl⟩
  have B19 := B17.k0 k79
  have hj19 := k79.g0 hj17
  clear ke kq ge gq hbl17 hll17 hll18 T17 B17 hj17 k79
  wtm_at "rd"
  refine us_l_left_out T19 hj19 n3 hJ b8 hroom fun H20 k20 => ?_
  have hl1 := lanes (b := b.val) hrn
  have hl2 := lanes2 b8 hrn
  wtm_at "rd"
  generalize hLN : (((2 ^ b.val : Nat) : Int) + (room : Int) - 1) / (room : Int) = LN at *
  refine us_l_take (B19.k0 k20) (by omega) (by omega) fun sta H21 sta0 sta1 B21 k21 => ?_
  wtm_at "rd"
  refine us_l_take B21 (by decide) (by decide) fun bk H22 bk0 bk1 B22 k22 => ?_
  have k21' := k21.trans k22
  have T22 := (T19.k0 k20).kB (B19.k0 k20) k21'
  have E22 := (E19.k0 k20).kB (B19.k0 k20) k21'
  have hj20 := k20.g0 hj19
  have hj22 := k21'.g1 ((B19.k0 k20).offI hj20) hj20
  have L22 : Lz K H22 p c S st sa (24 * ba + 35) (2 ^ b.val) bl ll lj Js (fun _ => False) (fun _ => True) := ⟨⟨b1', b2', d1, d2, l1, l2, As, Bs, T22, fun k hk => (hJ k hk).symm, fun k _ h => h.elim, trivial, trivial⟩, hj22, n3, B22⟩
  clear T22 hj20 hj22 hj19 k20 k21 k22 k21' T19 E19 B19 B21 B22 hJ n3 nbl nel nkp nlj
  wtm_at "rd"
  refine forR_by (fun i σ H' => ∃ (bl ll : Addr) (v17 v18 v19 v20 v21 : Option V), σ = [some (.ref s), some (.ref p), some (.int (b.val : Int)), some (.int ((2 ^ b.val : Nat) : Int)), some (.int fre), some (.int (room : Int)), some (.ref S), some (.int ba), some (.int sa), some (.ref ll), some (.ref lj), some (.ref bl), some (.ref el), some (.ref kp), some (.int LN), some (.int sta), some (.int bk), v17, v18, v19, v20, v21, none, none, none, none] ∧ Lz K H' p c S st sa (24 * ba + 35) (2 ^ b.val) bl ll lj Js (fun k => ∃ j : Nat, j < i ∧ (k : Int) / (room : Int) = pF LN sta bk j) (fun d => 0 < i → d ≠ d1 ∧ d ≠ d2) ∧ Lb K H' el kp b1' b2' S d1 d2 l1 l2 st sa (24 * ba + 35) As Bs (2 ^ b.val)) ⟨bl, ll, _, _, _, _, _, rfl, L22.imp (fun k ⟨j, h, _⟩ => absurd h (by omega)) (fun d _ h => absurd h (by omega)), E22⟩ ?_ ?_
  · rintro i σ H23 hi0 ⟨bl, ll, v17, v18, v19, v20, v21, rfl, L, E⟩
    have hiL : (i : Int) < LN := by omega
    have pm0 := Int.emod_nonneg (sta + (0 + (i : Int))) (show LN ≠ 0 by omega)
    have pm1 := Int.emod_lt_of_pos (sta + (0 + (i : Int))) (show 0 < LN by omega)
    wtm_at "rd"
    refine rd_cut (fun σ H24 => σ = [some (.ref s), some (.ref p), some (.int (b.val : Int)), some (.int ((2 ^ b.val : Nat) : Int)), some (.int fre), some (.int (room : Int)), some (.ref S), some (.int ba), some (.int sa), some (.ref ll), some (.ref lj), some (.ref bl), some (.ref el), some (.ref kp), some (.int LN), some (.int sta), some (.int bk), some (.int (0 + (i : Int))), some (.int (pF LN sta bk i)), v19, v20, v21, none, none, none, none] ∧ H24 = H23) ?_ ?_
    · wtm_at "rd"
      refine ite_d (fun h => ?_) (fun h => ?_)
      · wtm_at "rd"
        refine ⟨?_, rfl⟩
        unfold pF
        rw [if_pos h, Int.zero_add]
        rfl
      · wtm_at "rd"
        refine ⟨?_, rfl⟩
        unfold pF
        rw [if_neg h, Int.zero_add]
        rfl
    rintro σ H24 ⟨rfl, rfl⟩
    have pf := pF_b (LN := LN) (sta := sta) (bk := bk) (i := i) (by omega)
    refine rd_cut (fun σ H25 => ∃ bl ll : Addr, σ = [some (.ref s), some (.ref p), some (.int (b.val : Int)), some (.int ((2 ^ b.val : Nat) : Int)), some (.int fre), some (.int (room : Int)), some (.ref S), some (.int ba), some (.int sa), some (.ref ll), some (.ref lj), some (.ref bl), some (.ref el), some (.ref kp), some (.int LN), some (.int sta), some (.int bk), some (.int (0 + (i : Int))), some (.int (pF LN sta bk i)), v19, v20, v21, none, none, none, none] ∧ Lz K H25 p c S st sa (24 * ba + 35) (2 ^ b.val) bl ll lj Js (fun k => ∃ j : Nat, j < i ∧ (k : Int) / (room : Int) = pF LN sta bk j) (fun d => 0 < i → d ≠ d1 ∧ d ≠ d2) ∧ Lb K H25 el kp b1' b2' S d1 d2 l1 l2 st sa (24 * ba + 35) As Bs (2 ^ b.val)) ?_ ?_
    · wtm_at "rd"
      refine us_l_take L.bx (by decide) (by decide) fun z H25 z0 z1 B25 k25 => ?_
      have E25 := E.kB L.bx k25
      have L25 := L.kB k25 B25
      obtain ⟨⟨c1, c2, e1, e2, m1, m2, As2, Bs2, T, t1, t2, t3, t4⟩, u1, u2, u3⟩ := id L25
      have hbl := T.bl
      have hll := T.ll
      wtm_at "rd"
      refine ite_d (fun h => ?_) (fun h => ?_)
      · wtm_at "rd"
        refine ⟨sz1000 (by simp), fun bl2 nbl2 => ?_⟩
        have k26 : Kp [] H25 (upd H25 bl2 (.lst [.ref c2, .ref c1])) := Kp.new nbl2
        have g26 : upd H25 bl2 (.lst [.ref c2, .ref c1]) bl2 = some (.lst [.ref c2, .ref c1]) := upd_same
        generalize upd H25 bl2 (.lst [.ref c2, .ref c1]) = H26 at k26 g26
        have hll6 := k26.g0 hll
        wtm_at "rd"
        refine ⟨sz1000 (by simp), fun ll2 nll2 => ?_⟩
        have k27 : Kp [] H26 (upd H26 ll2 (.lst [.ref m2, .ref m1])) := Kp.new nll2
        have g27 : upd H26 ll2 (.lst [.ref m2, .ref m1]) ll2 = some (.lst [.ref m2, .ref m1]) := upd_same
        generalize upd H26 ll2 (.lst [.ref m2, .ref m1]) = H27 at k27 g27
        have k67 := k26.trans k27
        have T7 := T.k0 k67
        exact ⟨bl2, ll2, rfl, ⟨⟨c2, c1, e2, e1, m2, m1, Bs2, As2, ⟨k27.g0 g26, g27, T7.k2, T7.k1, T7.a2, T7.a1, T7.se, T7.n2, T7.n1, T7.nn, T7.g2, T7.g1, Ne.symm T7.nd, Ne.symm T7.nl⟩, fun k hk => by
          rw [← t1 k hk]
          exact Int.max_comm _ _, fun k hk hd => ⟨(t2 k hk hd).2, (t2 k hk hd).1⟩, t4, t3⟩, k67.g0 u1, u2, u3.k0 k67⟩, E25.k0 k67⟩
      · wtm_at "rd"
        exact ⟨bl, ll, rfl, L25, E25⟩
    clear L E bl ll
    rintro σ H25 ⟨bl, ll, rfl, ⟨⟨c1, c2, e1, e2, m1, m2, As2, Bs2, T, t1, t2, t3, t4⟩, u1, u2, B25⟩, E25⟩
    obtain ⟨pf0, pf1⟩ := pf
    generalize hpF : pF LN sta bk i = pv at *
    rw [← hLN] at pf1
    obtain ⟨part, lo, hi, rfl, hlo, hhi, hlt, hsm⟩ := lane b8 hrn pf0 pf1
    have gA : ∀ k, 0 ≤ lv As2 k := fun k => T.g1.lv
    have gB : ∀ k, 0 ≤ lv Bs2 k := fun k => T.g2.lv
    have h0 := T.ll
    have h1 := T.a1
    have h2' := T.a2
    have n1 := T.n1
    have n2 := T.n2
    wtm_at "rd"
    intro Dd nDd
    refine lcF_range (fun k => decide (lv As2 k ≠ lv Bs2 k)) (fun k => V.int (k : Int)) nDd (by omega) (fun j hjj H26 E' N k26 hE hN => ?_) (fun H26 k26 hD1 => ?_)
    · have g0 := k26.g0 h0
      have g1 := k26.g0 h1
      have g2 := k26.g0 h2'
      have a1 : atI (As2.map V.int) (0 + (j : Int)) = some (.int (lv As2 j)) := by
        rw [Int.zero_add]
        exact atI_lv (by omega)
      have a2 : atI (Bs2.map V.int) (0 + (j : Int)) = some (.int (lv Bs2 j)) := by
        rw [Int.zero_add]
        exact atI_lv (by omega)
      wtm_at "rd"
      refine ⟨rfl, ?_⟩
      wtm_at "rd"
      refine ite_n (fun h => ?_) (fun h => ?_)
      · wtm_at "rd"
        have := hE H26 Kp.refl (decide_eq_true h)
        rw [Int.zero_add]
        exact this
      · exact hN H26 Kp.refl (decide_eq_false (fun z => z h))
    have edn : ((((List.range ((2 ^ b.val : Nat) : Int).toNat).filter fun k => decide (lv As2 k ≠ lv Bs2 k)).map fun k : Nat => V.int (k : Int)).length : Int) = dcn (lv As2) (lv Bs2) (2 ^ b.val) := by
      unfold dcn
      rw [cnt_filter, List.length_map, Int.toNat_natCast]
    have T6 := T.k0 k26
    have hbl6 := T6.bl
    have hD := dcn_le (lv As2) (lv Bs2) (2 ^ b.val)
    obtain ⟨Rn, hR, hRb, hR1, hq⟩ := rec_pk (z := sa) (b := b.val) (lo := lo) (hi := hi) (room := room) b8 gA gB (by omega) (by omega) hrn (by omega)
    obtain ⟨f1, f2, ea, eb, G1, G2⟩ := rec_got gA gB (by omega) (by omega) hrn.1 hR
    wtm_at "rd"
    rw [edn]
    unfold tCallN
    wtm_at "rd"
    refine ⟨rfl, rfl, ?_⟩
    refine us_reconcile (part := part) (lo := lo) (hi := hi) (room := room) (n := 2 ^ b.val) T6.k1 T6.k2 T6.se hring2 hroom (by rw [hroom]; exact hlo) (by rw [hroom]; exact hhi) hlt hR.1 hR.2 hq fun t x1 y1 x2 y2 H27 ht C1 C2 nee _ k27 nt _ ny1 _ ny2 => ?_
    rw [ea] at C1
    rw [eb] at C2
    have k67 := k26.trans k27
    have T7 := T.k0 k67
    have E7 := E25.k0 k67
    have B7 := B25.k0 k67
    have u17 := k67.g0 u1
    have hhi2 : (hi : Int) = min ((2 ^ b.val : Nat) : Int) ((lo : Int) + (room : Int)) := by omega
    wtm_at "rd"
    refine us_l_results (lo := lo) (hi := hi) (part := part) ht C1 C2 T7.se.ok.r256 T7.ll T7.a1 T7.a2 T7.n1 T7.n2 h256 u17 u2 (fun k hk => (t1 k hk).symm) gA gB G1 G2 hlo hhi2 ⟨hrn.1, hrn.2, hlt⟩ fun r r1 r2 As3 Bs3 H28 g0 g1 g2 w1 w2 v1 v2 nr k28 _ => ?_
    have ht8 := k28.g0 ht
    have T8 := T7.k0 k28
    wtm_at "rd"
    refine ite_d (fun h => absurd h (by simp)) (fun _ => ?_)
    wtm_at "rd"
    refine us_l_bounded hR1 (by omega) ⟨by omega, by omega⟩ ⟨hD.1, by omega⟩ ⟨by omega, by omega⟩ ?_
    wtm_at "rd"
    refine us_l_hold T8.bl T8.k1 T8.k2 T8.se.ok.r256 T8.ll T8.a1 T8.a2 T8.n1 T8.n2 h256 fun H29 k29 => ?_
    have ht9 := k29.g0 ht8
    wtm_at "rd"
    refine ⟨sz1000 (by simp), fun bl2 nbl2 => ?_⟩
    have k30 : Kp [] H29 (upd H29 bl2 (.lst [.ref x1, .ref x2])) := Kp.new nbl2
    have g30 : upd H29 bl2 (.lst [.ref x1, .ref x2]) bl2 = some (.lst [.ref x1, .ref x2]) := upd_same
    generalize upd H29 bl2 (.lst [.ref x1, .ref x2]) = H30 at k30 g30
    have k80 := (k28.trans k29).trans k30
    have k90 := k29.trans k30
    have eY1 : YF sa (lv As3) (2 ^ b.val) = YF sa f1 (2 ^ b.val) := YF_congr v1
    have eY2 : YF sa (lv Bs3) (2 ^ b.val) = YF sa f2 (2 ^ b.val) := YF_congr v2
    have bd : ∀ k, k < 2 ^ b.val → mx (lv As2) (lv Bs2) k ≤ 24 * ba + 35 := fun k hk => by
      have z1 := (T.g1.get (k := k) (by omega)).2
      have z2 := (T.g2.get (k := k) (by omega)).2
      show max (As2.getD k 0) (Bs2.getD k 0) ≤ _
      omega
    have gd1 : LvB (24 * ba + 35) As3 := lvB_of w1 fun k hk => by
      rw [v1 k hk]
      refine ⟨G1.nn k, ?_⟩
      have z1 := (T.g1.get (k := k) (by omega)).2
      rcases G1.o k hk with z | z
      · rw [z]
        exact z1
      · rw [z]
        exact bd k hk
    have gd2 : LvB (24 * ba + 35) Bs3 := lvB_of w2 fun k hk => by
      rw [v2 k hk]
      refine ⟨G2.nn k, ?_⟩
      have z1 := (T.g2.get (k := k) (by omega)).2
      rcases G2.o k hk with z | z
      · rw [z]
        exact z1
      · rw [z]
        exact bd k hk
    wtm_at "rd"
    refine ⟨bl2, r, _, _, _, _, _, rfl, ⟨⟨x1, x2, y1, y2, r1, r2, As3, Bs3, ⟨g30, k90.g0 g0, by rw [eY1]; exact C1.k0 k80, by rw [eY2]; exact C2.k0 k80, k90.g0 g1, k90.g0 g2, T7.se.k0 k80, w1, w2, hring, gd1, gd2, nee, nr⟩, fun k hk => ?_, fun k hk hd => ?_, fun _ => ⟨?_, ?_⟩, fun _ => ⟨?_, ?_⟩⟩, k80.g0 u17, u2, B7.k0 k80⟩, E7.k0 k80⟩
    · show max (lv As3 k) (lv Bs3 k) = _
      rw [v1 k hk, v2 k hk, ← t1 k hk]
      have z1 : mx (lv As2) (lv Bs2) k = max (lv As2 k) (lv Bs2 k) := rfl
      rcases G1.o k hk with z | z <;> rcases G2.o k hk with z' | z' <;> rw [z, z'] <;> omega
    · rw [v1 k hk, v2 k hk, ← t1 k hk]
      obtain ⟨j, hj1, hj2⟩ := hd
      by_cases e : j < i
      · obtain ⟨z1, z2⟩ := t2 k hk ⟨j, e, hj2⟩
        have z3 : mx (lv As2) (lv Bs2) k = max (lv As2 k) (lv Bs2 k) := rfl
        rcases G1.o k hk with z | z <;> rcases G2.o k hk with z' | z' <;> rw [z, z'] <;> omega
      · have ej : j = i := by omega
        rw [ej, hpF] at hj2
        have hm := Int.mul_ediv_add_emod (k : Int) (room : Int)
        have hm1 := Int.emod_lt_of_pos (k : Int) (show (0 : Int) < (room : Int) by omega)
        have hm2 := Int.emod_nonneg (k : Int) (show (room : Int) ≠ 0 by omega)
        rw [hj2, Int.mul_comm, ← hlo] at hm
        exact ⟨G1.s k (by omega) (by omega), G2.s k (by omega) (by omega)⟩
    · exact Ne.symm (((E25.k0 k26).k1).fr ny1)
    · exact Ne.symm (((E25.k0 k26).k2).fr ny1)
    · exact Ne.symm (((E25.k0 k26).k1).fr ny2)
    · exact Ne.symm (((E25.k0 k26).k2).fr ny2)
  · rintro σ H23 ⟨bl, ll, v17, v18, v19, v20, v21, rfl, ⟨⟨c1, c2, e1, e2, m1, m2, As2, Bs2, T, t1, t2, t3, t4⟩, u1, u2, B23⟩, E⟩
    have all : ∀ k, k < 2 ^ b.val → lv As2 k = lv Js k ∧ lv Bs2 k = lv Js k := fun k hk => t2 k hk (by
      obtain ⟨j, j1, j2⟩ := pF_all (LN := LN) (sta := sta) (bk := bk) (q := (k : Int) / (room : Int)) (by omega) (Int.ediv_nonneg (by omega) (by omega)) (by
        rw [← hLN]
        exact lane_lt hrn hk)
      exact ⟨j, by omega, j2.symm⟩)
    have eA : As2 = Js := lv_ext T.n1 u2 fun k hk => (all k hk).1
    have eB : Bs2 = Js := lv_ext T.n2 u2 fun k hk => (all k hk).2
    subst eA
    subst eB
    have t3 := t3 (by omega)
    have t4 := t4 (by omega)
    wtm_at "rd"
    refine ⟨sz1000 (by simp), fun u nu => ?_⟩
    have ku : Kp [] H23 (upd H23 u (.lst [.ref lj, .ref lj])) := Kp.new nu
    have gu : upd H23 u (.lst [.ref lj, .ref lj]) u = some (.lst [.ref lj, .ref lj]) := upd_same
    generalize upd H23 u (.lst [.ref lj, .ref lj]) = H24 at ku gu
    have T4 := T.k0 ku
    have u14 := ku.g0 u1
    refine rd_neLL T4.ll gu T4.a1 T4.a2 u14 u14 rfl rfl ?_
    wtm_at "rd"
    refine us_l_take (B23.k0 ku) (by omega) (by omega) fun se H25 se0 se1 B25 k25 => ?_
    obtain ⟨k, rfl⟩ := Int.eq_ofNat_of_zero_le se0
    have hk : k < 2 ^ b.val := by omega
    have u15 := k25.g1 ((B23.k0 ku).offI u14) u14
    wtm_at "rd"
    refine us_l_take B25 (by decide) (by decide) fun ad H26 ad0 ad1 B26 k26 => ?_
    have k56 := k25.trans k26
    have T6 := T4.kB (B23.k0 ku) k56
    have E6 := (E.k0 ku).kB (B23.k0 ku) k56
    have u16 := k56.g1 ((B23.k0 ku).offI u14) u14
    have hbl6 := T6.bl
    have hvk := T6.g1.get (k := k) (by omega)
    obtain ⟨dxb, hbo⟩ := T6.k1.bo
    have TK := T6.k1
    have TK2 := T6.k2
    have TS := T6.se
    have nde := T6.nd
    wtm_at "rd"
    simp only [Int.toNat_natCast]
    generalize hLv : Bs2.getD k 0 + 1 + ad = L at *
    refine us_l_saying fun t H27 ht k27 => ?_
    obtain ⟨xs2, X2, eY2, nd2, ok2⟩ := TK.k0 k27
    have hx2 := ok_len nd2 ok2 (by omega)
    have hy : syOk st.ring (syL sa (k : Int) L) = true := syL_ok (by omega) (by omega) (by omega) (by omega)
    wtm_at "rd"
    refine us_Book_take X2 (TS.k0 k27) (fun p hp => (syOk_iff.mp (ok2 p hp)).2.2.1) ht hy (by omega) fun H28 r28 k28 => ?_
    have K8 := BkT.taken X2 eY2 nd2 ok2 hy r28 k28
    rw [tk_yf (f := lv Bs2) (n := 2 ^ b.val) (g := lv (Bs2.set k L)) (fun j => T6.g1.lv) hk (by show Bs2.getD k 0 < _; omega) (fun j => lv_set (by omega) j)] at K8
    have hd2 := X2.ro.at_
    have D8 := (TK2.k0 k27).wd k28 hd2 (Ne.symm nde)
    have E8 := (E6.k0 k27).kd k28 hd2 (Ne.symm t3.1) (Ne.symm t3.2)
    have u18 := k28.g1 (ne_of (k27.g0 u16) hd2 (by intro z; cases z)) (k27.g0 u16)
    have hbl8 := k28.g1 (ne_of (k27.g0 hbl6) hd2 (by intro z; cases z)) (k27.g0 hbl6)
    wtm_at "rd"
    intro Dn nDn
    refine lcF_range (fun _ => true) (fun j => V.int (if j = k then L else lv Bs2 j)) nDn (by omega) (fun j hjj H29 E' N k29 hE hN => ?_) (fun H29 k29 hD1 => ?_)
    · have g1 := k29.g0 u18
      have a1 : atI (Bs2.map V.int) (0 + (j : Int)) = some (.int (lv Bs2 j)) := by
        rw [Int.zero_add]
        exact atI_lv (by omega)
      wtm_at "rd"
      refine ⟨rfl, ?_⟩
      wtm_at "rd"
      have eE : lv Bs2 j + (if decide (0 + (j : Int) = (k : Int)) = true then 1 else 0) * (L - lv Bs2 j) = if j = k then L else lv Bs2 j := by
        by_cases c : j = k
        · rw [decide_eq_true (by omega), if_pos rfl, if_pos c]
          omega
        · rw [decide_eq_false (by omega), if_neg (by simp), if_neg c]
          omega
      rw [eE]
      exact hE _ Kp.refl rfl
    have gD : H29 Dn = some (.lst ((Bs2.set k L).map V.int)) := by
      rw [hD1, List.filter_eq_self.mpr (fun _ _ => rfl), Int.toNat_natCast, setL_range T.n2 hk]
    have u19 := k29.g0 u18
    wtm_at "rd"
    refine ⟨sz1000 (by simp), fun ll2 nll2 => ?_⟩
    have k30 : Kp [] H29 (upd H29 ll2 (.lst [.ref Dn, .ref lj])) := Kp.new nll2
    have g30 : upd H29 ll2 (.lst [.ref Dn, .ref lj]) ll2 = some (.lst [.ref Dn, .ref lj]) := upd_same
    generalize upd H29 ll2 (.lst [.ref Dn, .ref lj]) = H30 at k30 g30
    have k90 := k29.trans k30
    wtm_at "rd"
    refine us_l_hold (k90.g0 hbl8) (K8.k0 k90) (D8.k0 k90) TS.ok.r256 g30 (k30.g0 gD) (k30.g0 u19) (by rw [List.length_set]; exact T.n2) T.n2 h256 fun H31 k31 => ?_
    have E9 := (E8.k0 k90).k0 k31
    wtm_at "rd"
    exact us_l_hold E9.bl E9.k1 E9.k2 TS.ok.r256 E9.ll E9.a1 E9.a2 E9.n1 E9.n2 h256 fun H32 _ => kk _
end
theorem law_all {P : Program} {w : World} {K : PySem.W.Frag} {mg : Str → Option Value} (T : Cx K mg) :
    ∃ fd : FuncData, (∀ (s : Shared) (v : Value), BindsTo s fd ⟨[v], []⟩ [("_law_script", v)]) ∧ ∀ base : Heap, Tb P w K mg base → FnOk P w K mg base CX0 15 (ga K "law") fd ["_law_script"] (sp_law K) := by
  obtain ⟨fd, F⟩ := T.says.def_ 50 (d := d_law) rfl
  have b := FunD.bindsA (ps := ["_law_script"]) F fun _ _ _ _ _ _ us hl => match us, hl with | [_], _ => rfl
  refine ⟨fd, fun s v => b s [v] rfl, fun base B => ?_⟩
  obtain ⟨fd2, F2, ok⟩ := f_law (P := P) (w := w) (base := base) T B
  have e : fd2 = fd := by
    obtain ⟨oc, od, dV, kV, doc, pm, an, cdv, ct, osl, e1, l1, -⟩ := F.ex
    obtain ⟨oc2, od2, dV2, kV2, doc2, pm2, an2, cdv2, ct2, osl2, e2, l2, -⟩ := F2.ex
    rw [l1] at l2
    injection l2 with l3
    injection l3 with _ _ l4 _
    injection l4 with l5
    exact l5.symm
  subst e
  exact ok

end My

open PySem PySem.W PySem.Calls PyProof.Rows
set_option maxRecDepth 100000 in
set_option maxHeartbeats 0 in
theorem PySem.Challenge.cw_livingroll_k32_whole_reconcile_stripes_holds : PySem.Challenge.rw_livingroll_k32_whole_reconcile_stripes.Holds := by
  w_on; o_law
  refine HandSHeadRun.head_any (r := OpenLaw.row PySem.Challenge.rw_livingroll_k32_whole_reconcile_stripes) (q := view (OpenLaw.row PySem.Challenge.rw_livingroll_k32_whole_reconcile_stripes).prog [56]) (H := My.hk) (ob := My.ob) (M := 6000) (loose := My.names) (d := HandSHeadRun.topDef (OpenLaw.row PySem.Challenge.rw_livingroll_k32_whole_reconcile_stripes).prog 56) (kwd := []) My.ob_eq
    (by kernel_rfl) (fun s => by kernel_rfl) My.run (by kernel_rfl) (by kernel_rfl) (by kernel_rfl) (by rfl) (by first | assumption | decide +kernel) (by decide +kernel) ⟨rfl, rfl, rfl, rfl, rfl, by decide +kernel⟩ ?hw ?hc
  case hw => w_witness2
  case hc =>
    refine LamX.walk_ofTsE (l := PySem.Challenge.rw_livingroll_k32_whole_reconcile_stripes) (n := 63) (k := 15) (x := "_law_script") (CX := fun _ => L2.CX0) rfl (by decide) (by kernel_rfl) ⟨rfl, by decide, by decide⟩ ?F (fun _ _ _ _ _ z => z)
    intro w mg fa h Y G hmg0
    obtain ⟨K, KX, c⟩ := Y
    have hmg : mg ("law" : PySem.Str) = some (.ref fa) := by
      have e : (HandSHeadRun.topDef (OpenLaw.row PySem.Challenge.rw_livingroll_k32_whole_reconcile_stripes).prog 56).name = ("law" : PySem.Str) := by kernel_rfl
      rw [← e]
      exact hmg0
    have T : My.Cx K mg := ⟨c.x.t.d, c.x.more, h, KX, G⟩
    have e := hmg.symm.trans (My.gl_law T)
    cases e
    obtain ⟨fd, hb, hF⟩ := My.law_all (P := PySem.Challenge.pw_livingroll_k32_whole_reconcile_stripes) (w := w) T
    refine ⟨K, KX, fd, My.tf.map (He.cT K), My.sp_law K, fun p hp => ?_, fun p hp => ?_, fun p hp => ?_, hb, fun H a ns hl _ hH hS => ⟨a, ns, rfl, hS, hl, RD.tabs_nil (tf := My.tf) (K := K) rfl hH, fun _ => rfl⟩, fun base _ _ B => hF base ⟨B, fun d hd => c.get hd, fun d hd => c.err KX G hd (My.efs d hd), fun t ht => c.tabd ht⟩⟩
    · obtain ⟨q, hq, rfl⟩ := List.mem_map.mp hp
      exact c.x.empty q hq
    · obtain ⟨q, hq, rfl⟩ := List.mem_map.mp hp
      exact c.x.out q hq
    · obtain ⟨q, hq, rfl⟩ := List.mem_map.mp hp
      exact PySem.W.codeHd_of_K KX (c.x.hd q hq)
