import PyProof.Rows.All
import Wide.All
import OpenK.AllK
import Wide.FinOn
import KE.KStateDown
import Lean
import HandS.ForMost
import HandS.Flow
import HandS.IsInst
import HandS.DictTup
import HandS.Codes
import HandS.Defaults
import HandS.Head0
import HandS.Head1
import HandS.Head2
import HandS.HeadEnd
import HandS.HeadHook1
import HandS.HeadHook2
import HandS.HeadHook3
import HandS.Conv
import HandS.Property
import PySem.Challenge.RW_livingroll_k21_tree_plan_is_least
set_option Elab.async false
set_option linter.all false
set_option maxRecDepth 100000
set_option maxHeartbeats 4000000
/-! own layer: the head by facts, one lemma for each reading, a step tactic -/
namespace RD
open PySem PySem.Spec PyProof.Rows L2 He

/-! ### frames: what stays -/
def Kp (ps : List Addr) (H H' : Hp) : Prop := ∀ b o, H b = some o → b ∉ ps → H' b = some o
theorem Kp.refl {ps : List Addr} {H : Hp} : Kp ps H H := fun _ _ h _ => h
theorem Kp.trans {ps : List Addr} {H H1 H2 : Hp} (a : Kp ps H H1) (b : Kp ps H1 H2) : Kp ps H H2 := fun c o h n => b c o (a c o h n) n
theorem Kp.mono {ps qs : List Addr} {H H' : Hp} (a : Kp ps H H') (h : ∀ p, p ∈ ps → p ∈ qs) : Kp qs H H' := fun c o e n => a c o e fun m => n (h c m)
theorem Kp.of0 {qs : List Addr} {H H' : Hp} (a : Kp [] H H') : Kp qs H H' := fun c o e _ => a c o e (by simp)
theorem Kp.new {ps : List Addr} {H : Hp} {p : Addr} {o : HO} (h : H p = none) : Kp ps H (upd H p o) := fun b u e _ => by
  rw [upd_ne (ne_of_none e h)]
  exact e
theorem Kp.wr {ps : List Addr} {H H' : Hp} {p : Addr} {o : HO} (a : Kp ps H H') (h : p ∈ ps) : Kp ps H (upd H' p o) := fun b u e n => by
  have hb : b ≠ p := by
    intro z
    subst z
    exact n h
  rw [upd_ne hb]
  exact a b u e n
theorem Kp.nw {ps : List Addr} {H H' : Hp} {p : Addr} {o : HO} (a : Kp ps H H') (h : H' p = none) : Kp ps H (upd H' p o) := a.trans (Kp.new h)
/-- an object made behind H is written -/
theorem Kp.mine {ps : List Addr} {H H' : Hp} {p : Addr} {o : HO} (a : Kp ps H H') (h : H p = none) : Kp ps H (upd H' p o) := fun b u e n => by
  rw [upd_ne (ne_of_none e h)]
  exact a b u e n
theorem Kp.g0 {H H' : Hp} {b : Addr} {o : HO} (a : Kp [] H H') (e : H b = some o) : H' b = some o := a b o e (by simp)
theorem Kp.g1 {p : Addr} {H H' : Hp} {b : Addr} {o : HO} (a : Kp [p] H H') (n : b ≠ p) (e : H b = some o) : H' b = some o := a b o e (by simp [n])
theorem Kp.g2 {p q : Addr} {H H' : Hp} {b : Addr} {o : HO} (a : Kp [p, q] H H') (n : b ≠ p) (m : b ≠ q) (e : H b = some o) : H' b = some o := a b o e (by simp [n, m])
theorem Kp.g3 {p q r : Addr} {H H' : Hp} {b : Addr} {o : HO} (a : Kp [p, q, r] H H') (n : b ≠ p) (m : b ≠ q) (l : b ≠ r) (e : H b = some o) : H' b = some o := a b o e (by simp [n, m, l])
theorem Kp.back {ps : List Addr} {H H' : Hp} (a : Kp ps H H') {l : Addr} (h : H' l = none) (n : l ∉ ps) : H l = none := by
  cases q : H l with
  | none => rfl
  | some o =>
    rw [a l o q n] at h
    cases h
theorem Kp.via {ps qs : List Addr} {H H' H2 : Hp} (a : Kp ps H H') (b : Kp qs H' H2) (n : ∀ q, q ∈ qs → q ∈ ps ∨ H q = none) : Kp ps H H2 := fun c o e m => b c o (a c o e m) fun z => by
  rcases n c z with z | z
  · exact m z
  · rw [z] at e
    cases e
theorem Kp.via1 {ps : List Addr} {p : Addr} {H H' H2 : Hp} (a : Kp ps H H') (b : Kp [p] H' H2) (n : H p = none) : Kp ps H H2 := a.via b fun q hq => by
  rw [List.mem_singleton.mp hq]
  exact .inr n
theorem rd_kp {ps : List Addr} {H H' : Hp} {b : Addr} {u : HO} (a : Kp ps H H') (n : b ∉ ps) (h : Rd H b u) : Rd H' b u := by
  rcases h with h | ⟨o, h⟩
  · exact .inl (a _ _ h n)
  · exact .inr ⟨o, a _ _ h n⟩
theorem sl_kp {K : PySem.W.Frag} {ps : List Addr} {H H' : Hp} {b : Addr} {xs : List V} (a : Kp ps H H') (n : b ∉ ps) (h : SqL K H b xs) : SqL K H' b xs := by
  rcases h with h | h
  · exact .inl (rd_kp a n h)
  · exact .inr h
theorem st_kp {K : PySem.W.Frag} {ps : List Addr} {H H' : Hp} {b : Addr} {xs : List V} (a : Kp ps H H') (n : b ∉ ps) (h : SqT K H b xs) : SqT K H' b xs := by
  rcases h with h | h
  · exact .inl (rd_kp a n h)
  · exact .inr h
theorem sl_upd {K : PySem.W.Frag} {H : Hp} {b p : Addr} {o : HO} {xs : List V} (n : b ≠ p) (h : SqL K H b xs) : SqL K (upd H p o) b xs :=
  sl_kp (ps := [p]) (fun c u e m => by rw [upd_ne (by simpa using m)]; exact e) (by simpa using n) h
theorem st_upd {K : PySem.W.Frag} {H : Hp} {b p : Addr} {o : HO} {xs : List V} (n : b ≠ p) (h : SqT K H b xs) : SqT K (upd H p o) b xs :=
  st_kp (ps := [p]) (fun c u e m => by rw [upd_ne (by simpa using m)]; exact e) (by simpa using n) h
theorem hu_ne {H : Hp} {a b : Addr} {o u : HO} (n : b ≠ a) (e : H b = some u) : upd H a o b = some u := by
  rw [upd_ne n]
  exact e
theorem upd_is {H : Hp} {a : Addr} {o o' : HO} (e : o = o') : upd H a o a = some o' := by
  rw [e]
  exact upd_same
theorem ne_fresh {H : Hp} {a b : Addr} {o : HO} (h : upd H a o b = none) : a ≠ b := ne_of_none upd_same h
theorem hn_ne {H : Hp} {a b : Addr} {o : HO} (n : b ≠ a) (e : H b = none) : upd H a o b = none := by
  rw [upd_ne n]
  exact e

/-! ### readings, one lemma each -/
section
variable {K : PySem.W.Frag} {σ : L2.St} {H : Hp} {nx bk ct : L2.St → Hp → Prop} {rt : VK} {t u : TS} {te ta tb tc : TE} {tt tu : TT} {ar : TA} {Q : VK} {QB : Bool → Hp → Prop} {QA : List V → Hp → Prop} {v x y : V} {i j : Int}
abbrev En (nx : L2.St → Hp → Prop) (rt : VK) (bk ct : L2.St → Hp → Prop) : Ends := ⟨nx, rt, bk, ct⟩
theorem rd_seq (h : t ⟨u ⟨nx, rt, bk, ct⟩, rt, bk, ct⟩ σ H) : tSeq t u ⟨nx, rt, bk, ct⟩ σ H := h
theorem rd_next (h : nx σ H) : tNext ⟨nx, rt, bk, ct⟩ σ H := h
theorem rd_brk (h : bk σ H) : tBreak ⟨nx, rt, bk, ct⟩ σ H := h
theorem rd_cont (h : ct σ H) : tCont ⟨nx, rt, bk, ct⟩ σ H := h
theorem rd_asg {g : TG} (h : te σ H fun x H1 => g x σ H1 nx) : tAsg te g ⟨nx, rt, bk, ct⟩ σ H := h
theorem rd_ret (h : te σ H rt) : tRet te ⟨nx, rt, bk, ct⟩ σ H := h
theorem rd_retN (h : rt .non H) : tRetN ⟨nx, rt, bk, ct⟩ σ H := h
theorem rd_drop (h : te σ H fun _ H1 => nx σ H1) : tDrop te ⟨nx, rt, bk, ct⟩ σ H := h
theorem rd_ifS {D : Ends} (h : tt σ H fun b H1 => if b = true then t D σ H1 else u D σ H1) : tIfS tt t u D σ H := h
theorem rd_cut (M : L2.St → Hp → Prop) (h : t ⟨M, rt, bk, ct⟩ σ H) (k : ∀ σ' H', M σ' H' → u ⟨nx, rt, bk, ct⟩ σ' H') : C8.tCut t u ⟨nx, rt, bk, ct⟩ σ H := ⟨M, h, k⟩
theorem rd_gname {n : Nat} {Q : L2.St → Hp → Prop} (h : Q (σ.set n (some v)) H) : gName n v σ H Q := h
theorem rd_gsub {to ti : TE} {s : TSet} {Q : L2.St → Hp → Prop} (h : to σ H fun o H1 => ti σ H1 fun i H2 => s o i v H2 fun H3 => Q σ H3) : gSub to ti s v σ H Q := h
theorem rd_gtup {n : Nat} {g : TGs} {a : Addr} {xs : List V} {Q : L2.St → Hp → Prop} (h : SqT K H a xs) (e : xs.length = n) (q : g xs σ H Q) : gTup K n g (.ref a) σ H Q := ⟨a, xs, rfl, h, e, q⟩
theorem rd_gcons {g : TG} {gs : TGs} {r : List V} {Q : L2.St → Hp → Prop} (q : g v σ H fun σ' H' => gs r σ' H' Q) : gCons g gs (v :: r) σ H Q := ⟨v, r, rfl, q⟩
theorem rd_gnil {Q : L2.St → Hp → Prop} (q : Q σ H) : gNil [] σ H Q := ⟨rfl, q⟩
theorem rd_setL {p : Addr} {xs : List V} {k : Int} {j : Nat} {Q : Hp → Prop} (hp : H p = some (.lst xs)) (hj : ixN xs.length k = some j) (q : Q (upd H p (.lst (xs.set j v)))) : rSetL (.ref p) (.int k) v H Q := ⟨p, xs, k, j, rfl, rfl, hp, hj, q⟩
theorem rd_var {n : Nat} (e : σ[n]? = some (some v)) (h : Q v H) : tVar n σ H Q := ⟨v, e, h⟩
theorem rd_c (h : Q v H) : tC v σ H Q := h
theorem rd_op {r : R2} (h : ta σ H fun x H1 => tb σ H1 fun y H2 => r x y H2 Q) : tOp r ta tb σ H Q := h
theorem rd_un {r : V → Hp → VK → Prop} (h : ta σ H fun x H1 => r x H1 Q) : tUn r ta σ H Q := h
theorem rd_I0 {g : Int → Int → V} (h : Q (g i j) H) : rI0 g (.int i) (.int j) H Q := ⟨i, j, rfl, rfl, h⟩
theorem rd_I {C : Int → Int → Prop} {g : Int → Int → V} (c : C i j) (h : Q (g i j) H) : rI C g (.int i) (.int j) H Q := ⟨i, j, rfl, rfl, c, h⟩
theorem rd_U {g : Int → V} (h : Q (g i) H) : rU g (.int i) H Q := ⟨i, rfl, h⟩
theorem rd_eqI (h : Q (.bl (decide (i = j))) H) : rEq (.int i) (.int j) H Q := ⟨rfl, by
  rw [show decide (V.int i = V.int j) = decide (i = j) from decide_eq_decide.mpr ⟨fun e => V.int.inj e, fun e => congrArg V.int e⟩]
  exact h⟩
theorem rd_neI (h : Q (.bl (!decide (i = j))) H) : rNe (.int i) (.int j) H Q := ⟨rfl, by
  rw [show decide (V.int i = V.int j) = decide (i = j) from decide_eq_decide.mpr ⟨fun e => V.int.inj e, fun e => congrArg V.int e⟩]
  exact h⟩
theorem rd_eqS {a b : Str} (h : Q (.bl (decide (a = b))) H) : rEq (.str a) (.str b) H Q := ⟨rfl, by
  rw [show decide (V.str a = V.str b) = decide (a = b) from decide_eq_decide.mpr ⟨fun e => V.str.inj e, fun e => congrArg V.str e⟩]
  exact h⟩
theorem rd_neS {a b : Str} (h : Q (.bl (!decide (a = b))) H) : rNe (.str a) (.str b) H Q := ⟨rfl, by
  rw [show decide (V.str a = V.str b) = decide (a = b) from decide_eq_decide.mpr ⟨fun e => V.str.inj e, fun e => congrArg V.str e⟩]
  exact h⟩
theorem rd_eqB {a b : Bool} (h : Q (.bl (decide (a = b))) H) : rEq (.bl a) (.bl b) H Q := ⟨rfl, by
  rw [show decide (V.bl a = V.bl b) = decide (a = b) from decide_eq_decide.mpr ⟨fun e => V.bl.inj e, fun e => congrArg V.bl e⟩]
  exact h⟩
theorem rd_neB {a b : Bool} (h : Q (.bl (!decide (a = b))) H) : rNe (.bl a) (.bl b) H Q := ⟨rfl, by
  rw [show decide (V.bl a = V.bl b) = decide (a = b) from decide_eq_decide.mpr ⟨fun e => V.bl.inj e, fun e => congrArg V.bl e⟩]
  exact h⟩
theorem rd_eq (s : scal x y = true) (h : Q (.bl (decide (x = y))) H) : rEq x y H Q := ⟨s, h⟩
theorem rd_ne (s : scal x y = true) (h : Q (.bl (!decide (x = y))) H) : rNe x y H Q := ⟨s, h⟩
theorem rd_test (h : te σ H fun x H1 => ∃ k, x = .bl k ∧ QB k H1) : tTest te σ H QB := h
theorem rd_tB (h : te σ H fun x H1 => ∃ k, x = .bl k ∧ QB k H1) : tB te σ H QB := h
theorem rd_exb {b : Bool} {P : Bool → Prop} (h : P b) : ∃ k, V.bl b = V.bl k ∧ P k := ⟨b, rfl, h⟩
theorem rd_and (h : tt σ H fun c H1 => if c = true then tu σ H1 QB else QB false H1) : tAnd tt tu σ H QB := h
theorem rd_or (h : tt σ H fun c H1 => if c = true then QB true H1 else tu σ H1 QB) : tOr tt tu σ H QB := h
theorem rd_not (h : tt σ H fun c H1 => QB (!c) H1) : tNot tt σ H QB := h
theorem rd_andV (h : ta σ H fun x H1 => ∃ c, x = .bl c ∧ if c = true then tb σ H1 Q else Q (.bl false) H1) : tAndV ta tb σ H Q := h
theorem rd_orV (h : ta σ H fun x H1 => ∃ c, x = .bl c ∧ if c = true then Q (.bl true) H1 else tb σ H1 Q) : tOrV ta tb σ H Q := h
theorem rd_notV (h : ta σ H fun x H1 => ∃ c, x = .bl c ∧ Q (.bl (!c)) H1) : tNotV ta σ H Q := h
theorem rd_ifE (h : tt σ H fun c H1 => if c = true then ta σ H1 Q else tb σ H1 Q) : tIf tt ta tb σ H Q := h
theorem rd_isN (h : ta σ H fun x H1 => Q (.bl (decide (x = .non))) H1) : tIsN ta σ H Q := h
theorem rd_notN (h : ta σ H fun x H1 => Q (.bl (!decide (x = .non))) H1) : tNotN ta σ H Q := h
theorem rd_tru {b : Bool} {P : Bool → Prop} (e : TruV K x H b) (h : P b) : ∃ k, TruV K x H k ∧ P k := ⟨b, e, h⟩
theorem rd_CB {r : List V → Hp → VK → Prop} (h : ar σ H fun vs H1 => r vs H1 Q) : tCB r ar σ H Q := h
theorem rd_nil (h : QA [] H) : tNil σ H QA := h
theorem rd_cons {tr : TA} (h : ta σ H fun x H1 => tr σ H1 fun xs H2 => QA (x :: xs) H2) : tCons ta tr σ H QA := h
theorem rd_call {sp : Sp} {E : XK} (h : ar σ H fun vs H1 => sp vs H1 Q E) : tCall sp [] E ar σ H Q := by
  unfold tCall
  have e : (fun vs H1 => sp (vs ++ []) H1 Q E) = fun vs H1 => sp vs H1 Q E := by
    funext vs H1
    rw [List.append_nil]
  rw [e]
  exact h
theorem rd_make {C : Addr} {sp : Sp} {dvs : List V} {E : XK} (h : ar σ H fun vs H1 => ∀ x dx, H1 x = none → H1 dx = none → dx ≠ x → sp (.ref x :: (vs ++ dvs)) (upd (upd H1 dx (.own x)) x (.ins C dx [])) (fun v H2 => v = .non ∧ Q (.ref x) H2) E) : tMake C sp dvs E ar σ H Q := h
theorem rd_callD {sp : Sp} {dvs : List V} {E : XK} (h : ar σ H fun vs H1 => sp (vs ++ dvs) H1 Q E) : tCall sp dvs E ar σ H Q := h
theorem rd_tup (h : ar σ H fun xs H1 => xs.length ≤ sizeLine ∧ ∀ p, H1 p = none → Q (.ref p) (upd H1 p (.tup xs))) : tTup ar σ H Q := h
theorem rd_lst (h : ar σ H fun xs H1 => xs.length ≤ sizeLine ∧ ∀ p, H1 p = none → Q (.ref p) (upd H1 p (.lst xs))) : tLst ar σ H Q := h
theorem rd_ixL {p : Addr} {xs : List V} (h : SqL K H p xs) (a : atI xs i = some v) (q : Q v H) : rIxL K (.ref p) (.int i) H Q := ⟨p, xs, i, v, rfl, rfl, h, a, q⟩
theorem rd_ixT {p : Addr} {xs : List V} (h : SqT K H p xs) (a : atI xs i = some v) (q : Q v H) : rIxT K (.ref p) (.int i) H Q := ⟨p, xs, i, v, rfl, rfl, h, a, q⟩
theorem rd_fld {f : Str} {a C dx : Addr} {fs : List (Str × V)} {P : V → Hp → Prop} (h : H a = some (.ins C dx fs)) (c : Cls K C) (n : NoAttr K C f) (l : fs.lookup f = some v) (q : Q v H) :
    ∃ a' C' dx' fs' v', V.ref a = V.ref a' ∧ H a' = some (.ins C' dx' fs') ∧ Cls K C' ∧ NoAttr K C' f ∧ fs'.lookup f = some v' ∧ Q v' H := ⟨a, C, dx, fs, v, rfl, h, c, n, l, q⟩
theorem rd_meth {C : Addr} {m : Str} {sp : Sp} {E : XK} (h : ta σ H fun x H1 => ∃ a dx fs, x = .ref a ∧ H1 a = some (.ins C dx fs) ∧ fs.lookup m = none ∧ ar σ H1 fun vs H2 => sp (x :: vs) H2 Q E) : tMeth C m sp [] E ta ar σ H Q := by
  unfold tMeth
  have e : (fun (x : V) (H1 : Hp) => ∃ a dx fs, x = V.ref a ∧ H1 a = some (.ins C dx fs) ∧ fs.lookup m = none ∧ ar σ H1 fun vs H2 => sp (x :: (vs ++ [])) H2 Q E) =
      fun (x : V) (H1 : Hp) => ∃ a dx fs, x = V.ref a ∧ H1 a = some (.ins C dx fs) ∧ fs.lookup m = none ∧ ar σ H1 fun vs H2 => sp (x :: vs) H2 Q E := by
    funext x H1
    simp only [List.append_nil]
  rw [e]
  exact h
theorem rd_methX {C a dx : Addr} {m : Str} {fs : List (Str × V)} {R : Prop} (h : H a = some (.ins C dx fs)) (l : fs.lookup m = none) (q : R) : ∃ a' dx' fs', V.ref a = V.ref a' ∧ H a' = some (.ins C dx' fs') ∧ fs'.lookup m = none ∧ R := ⟨a, dx, fs, rfl, h, l, q⟩
theorem rd_bm {T : String} {r : V → List V → Hp → VK → Prop} (h : ta σ H fun x H1 => tyV K T x H1 ∧ ar σ H1 fun xs H2 => r x xs H2 Q) : tBM K T r ta ar σ H Q := h
theorem rd_bm0 {T : String} {r : V → List V → Hp → VK → Prop} (h : ta σ H fun x H1 => tyV K T x H1 ∧ r x [] H1 Q) : tBM0 K T r ta σ H Q := h
theorem ty_l {p : Addr} {xs : List V} {B : Prop} (h : SqL K H p xs) (q : B) : tyV K "list" (.ref p) H ∧ B := ⟨.inl ⟨rfl, xs, h⟩, q⟩
theorem rd_append {p : Addr} {xs : List V} (h : H p = some (.lst xs)) (l : xs.length < sizeLine) (q : Q .non (upd H p (.lst (xs ++ [v])))) : rAppend (.ref p) [v] H Q := ⟨p, xs, v, rfl, rfl, h, l, q⟩
/-! #### built-ins under names -/
def rInt1 : List V → Hp → VK → Prop := fun xs H Q => (∃ i, xs = [.int i] ∧ Q (.int i) H) ∨ ∃ k, xs = [.bl k] ∧ Q (.int (if k then 1 else 0)) H
theorem call_int1' {X : Cx} : CallR X (.type "int") rInt1 := call_int1
theorem rd_int1 (h : Q (.int i) H) : rInt1 [.int i] H Q := .inl ⟨i, rfl, h⟩
def rAbs : List V → Hp → VK → Prop := fun xs H Q => ∃ i, xs = [.int i] ∧ Q (.int (if i < 0 then -i else i)) H
theorem call_abs' {X : Cx} : CallR X (.builtin "abs") rAbs := call_abs
theorem rd_abs (h : Q (.int (i.natAbs : Int)) H) : rAbs [.int i] H Q := ⟨i, rfl, by
  rw [show (if i < 0 then -i else i) = (i.natAbs : Int) from by split <;> omega]
  exact h⟩
def rLenS (K : PySem.W.Frag) : List V → Hp → VK → Prop := fun xs H Q => ∃ p ys, xs = [.ref p] ∧ (SqL K H p ys ∨ SqT K H p ys) ∧ Q (.int ys.length) H
theorem call_lenS {X : Cx} : CallR X (.builtin "len") (rLenS X.K) := call_len_seq
theorem rd_lenL {p : Addr} {ys : List V} (h : SqL K H p ys) (q : Q (.int ys.length) H) : rLenS K [.ref p] H Q := ⟨p, ys, rfl, .inl h, q⟩
theorem rd_lenI {p : Addr} {ns : List Int} (h : SqL K H p (ns.map V.int)) (q : Q (.int ns.length) H) : rLenS K [.ref p] H Q := ⟨p, ns.map V.int, rfl, .inl h, by
  rw [List.length_map]
  exact q⟩
theorem rd_lenT {p : Addr} {ys : List V} (h : SqT K H p ys) (q : Q (.int ys.length) H) : rLenS K [.ref p] H Q := ⟨p, ys, rfl, .inr h, q⟩
def rMin2 : List V → Hp → VK → Prop := fun xs H Q => ∃ i j, xs = [.int i, .int j] ∧ Q (.int (if j < i then j else i)) H
theorem call_min2' {X : Cx} (hc : X.calm = true) : CallR X (.builtin "min") rMin2 := call_min2 hc
theorem rd_min2 (h : Q (.int (min i j)) H) : rMin2 [.int i, .int j] H Q := ⟨i, j, rfl, by
  rw [show (if j < i then j else i) = min i j from by split <;> omega]
  exact h⟩
def rMax2 : List V → Hp → VK → Prop := fun xs H Q => ∃ i j, xs = [.int i, .int j] ∧ Q (.int (if j > i then j else i)) H
theorem call_max2' {X : Cx} (hc : X.calm = true) : CallR X (.builtin "max") rMax2 := call_max2 hc
theorem rd_max2 (h : Q (.int (max i j)) H) : rMax2 [.int i, .int j] H Q := ⟨i, j, rfl, by
  rw [show (if j > i then j else i) = max i j from by split <;> omega]
  exact h⟩
def rListOf (K : PySem.W.Frag) : List V → Hp → VK → Prop := fun xs H Q => ∃ p ys, xs = [.ref p] ∧ (SqL K H p ys ∨ SqT K H p ys) ∧ ∀ l, H l = none → Q (.ref l) (upd H l (.lst ys))
theorem call_listOf {X : Cx} : CallR X (.type "list") (rListOf X.K) := call_list_of
theorem rd_listL {p : Addr} {ys : List V} (h : SqL K H p ys) (q : ∀ l, H l = none → Q (.ref l) (upd H l (.lst ys))) : rListOf K [.ref p] H Q := ⟨p, ys, rfl, .inl h, q⟩
/-- isinstance against one built-in class -/
theorem rd_isi {t : String} {c : String} {b : Bool} (ty : TyX K H x (.type t)) (e : kitB t c = some b) (h : Q (.bl b) H) : rIsi K [x, .ty c] H Q := ⟨x, .ty c, .type t, .type c, b, rfl, .ty c, ty, kit_ty e, h⟩

/-! ### loops -/
/-- what a for over the walk J asks -/
def ForG (J : It) (g : TG) (t : TS) (D : Ends) (σ : L2.St) (H : Hp) : Prop :=
  ∃ W : Nat → Nat → L2.St → Hp → Prop, (∃ m, W 0 m σ H) ∧ ∀ i m σ H, W i m σ H →
      (J.stop i H ∧ D.nx σ H) ∨ (J.go i H ∧ ∃ N : L2.St → Hp → Prop, (∀ σ' H', N σ' H' → ∃ m', m' < m ∧ W (i + 1) m' σ' H') ∧ ∀ x H', J.yld i H x H' → g x σ H' fun σ2 H2 => t { D with nx := N, ct := N, bk := D.nx } σ2 H2)
theorem rd_for {wi : TI} {g : TG} {D : Ends} (h : wi σ H fun J H1 => ForG J g t D σ H1) : tFor wi g t D σ H := h
theorem rd_iList {R : It → Hp → Prop} (h : te σ H fun x H1 => ∃ a, x = V.ref a ∧ (∃ xs, SqL K H1 a xs) ∧ R (Itl K a) H1) : iList K te σ H R := h
theorem rd_iTup {R : It → Hp → Prop} (h : te σ H fun x H1 => ∃ a, x = V.ref a ∧ (∃ xs, SqT K H1 a xs) ∧ R (Itt K a) H1) : iTup K te σ H R := h
theorem rd_iListX {p : Addr} {xs : List V} {R : Addr → Prop} (h : SqL K H p xs) (q : R p) : ∃ a, V.ref p = V.ref a ∧ (∃ xs, SqL K H a xs) ∧ R a := ⟨p, rfl, ⟨xs, h⟩, q⟩
theorem rd_iTupX {p : Addr} {xs : List V} {R : Addr → Prop} (h : SqT K H p xs) (q : R p) : ∃ a, V.ref p = V.ref a ∧ (∃ xs, SqT K H a xs) ∧ R a := ⟨p, rfl, ⟨xs, h⟩, q⟩
theorem rd_iRng1 {R : It → Hp → Prop} (h : ar σ H fun vs H1 => ∃ j : Int, vs = [.int j] ∧ -(2 ^ 62) ≤ j ∧ j < 2 ^ 62 ∧ R (Itr 0 j.toNat) H1) : iRng1 ar σ H R := h
theorem rd_iRng1X {R : Int → Prop} (h1 : -(2 ^ 62) ≤ j) (h2 : j < 2 ^ 62) (q : R j) : ∃ k : Int, [V.int j] = [V.int k] ∧ -(2 ^ 62) ≤ k ∧ k < 2 ^ 62 ∧ R k := ⟨j, rfl, h1, h2, q⟩
theorem rd_iRng2 {R : It → Hp → Prop} (h : ar σ H fun vs H1 => ∃ i j : Int, vs = [.int i, .int j] ∧ (-(2 ^ 62) ≤ i ∧ i < 2 ^ 62 ∧ -(2 ^ 62) ≤ j ∧ j < 2 ^ 62) ∧ R (Itr i (j - i).toNat) H1) : iRng2 ar σ H R := h
theorem rd_iRng2X {R : Int → Int → Prop} (h1 : -(2 ^ 62) ≤ i ∧ i < 2 ^ 62 ∧ -(2 ^ 62) ≤ j ∧ j < 2 ^ 62) (q : R i j) : ∃ k l : Int, [V.int i, V.int j] = [V.int k, V.int l] ∧ (-(2 ^ 62) ≤ k ∧ k < 2 ^ 62 ∧ -(2 ^ 62) ≤ l ∧ l < 2 ^ 62) ∧ R k l := ⟨i, j, rfl, h1, q⟩
/-- over a list that stays -/
theorem forL_by {a : Addr} {g : TG} (xs : List V) (Pv : Nat → L2.St → Hp → Prop) (h0 : Pv 0 σ H) (hl : ∀ i σ H, i ≤ xs.length → Pv i σ H → SqL K H a xs)
    (hs : ∀ i x σ H, xs[i]? = some x → Pv i σ H → g x σ H fun σ2 H2 => t ⟨Pv (i + 1), rt, nx, Pv (i + 1)⟩ σ2 H2) (hd : ∀ σ H, Pv xs.length σ H → nx σ H) : ForG (Itl K a) g t ⟨nx, rt, bk, ct⟩ σ H := for_list (K := K) Pv h0 hl hs hd
theorem forT_by {a : Addr} {g : TG} (xs : List V) (Pv : Nat → L2.St → Hp → Prop) (h0 : Pv 0 σ H) (hl : ∀ i σ H, i ≤ xs.length → Pv i σ H → SqT K H a xs)
    (hs : ∀ i x σ H, xs[i]? = some x → Pv i σ H → g x σ H fun σ2 H2 => t ⟨Pv (i + 1), rt, nx, Pv (i + 1)⟩ σ2 H2) (hd : ∀ σ H, Pv xs.length σ H → nx σ H) : ForG (Itt K a) g t ⟨nx, rt, bk, ct⟩ σ H := for_tup (K := K) Pv h0 hl hs hd
theorem forR_by {lo : Int} {n : Nat} {g : TG} (Pv : Nat → L2.St → Hp → Prop) (h0 : Pv 0 σ H)
    (hs : ∀ (i : Nat) σ H, i < n → Pv i σ H → g (.int (lo + i)) σ H fun σ2 H2 => t ⟨Pv (i + 1), rt, nx, Pv (i + 1)⟩ σ2 H2) (hd : ∀ σ H, Pv n σ H → nx σ H) : ForG (Itr lo n) g t ⟨nx, rt, bk, ct⟩ σ H := for_range Pv h0 hs hd
/-- the items one by one -/
theorem forL_ints {a : Addr} {g : TG} (ns : List Int) (Pv : Nat → L2.St → Hp → Prop) (h0 : Pv 0 σ H) (hl : ∀ i σ H, i ≤ ns.length → Pv i σ H → SqL K H a (ns.map V.int))
    (hs : ∀ (i : Nat) (h : i < ns.length) σ H, Pv i σ H → g (.int ns[i]) σ H fun σ2 H2 => t ⟨Pv (i + 1), rt, nx, Pv (i + 1)⟩ σ2 H2) (hd : ∀ σ H, Pv ns.length σ H → nx σ H) : ForG (Itl K a) g t ⟨nx, rt, bk, ct⟩ σ H :=
  forL_by (ns.map V.int) Pv h0 (fun i σ H hi p => hl i σ H (by simpa using hi) p) (fun i x σ H e p => by
    rw [List.getElem?_map] at e
    obtain ⟨z, hz, rfl⟩ := Option.map_eq_some_iff.mp e
    obtain ⟨h, rfl⟩ := List.getElem?_eq_some_iff.mp hz
    exact hs i h σ H p) (fun σ H p => hd σ H (by simpa using p))
theorem rd_while (Pv : L2.St → Hp → Prop) (μ : L2.St → Hp → Nat) (h0 : Pv σ H)
    (hs : ∀ σ H, Pv σ H → tt σ H fun b H1 => if b = true then t ⟨fun σ' H' => Pv σ' H' ∧ μ σ' H' < μ σ H, rt, nx, fun σ' H' => Pv σ' H' ∧ μ σ' H' < μ σ H⟩ σ H1 else nx σ H1)
    (mono : ∀ σ H Q Q', (∀ b H1, Q b H1 → Q' b H1) → tt σ H Q → tt σ H Q') : tWhile tt t ⟨nx, rt, bk, ct⟩ σ H := while_by Pv μ h0 hs mono
/-- a list comprehension -/
def LcG (J : It) (g : TG) (tt : TT) (te : TE) (vs : List Nat) (σ : L2.St) (D : Addr) (Qd : Hp → Prop) (H1 : Hp) : Prop :=
  ∃ W : Nat → Nat → Hp → Prop, (∃ m, W 0 m (upd H1 D (.lst []))) ∧ ∀ i m H, W i m H →
      (J.stop i H ∧ Qd H) ∨ (J.go i H ∧ ∃ Nx : Hp → Prop, (∀ H', Nx H' → ∃ m', m' < m ∧ W (i + 1) m' H') ∧ ∀ x H', J.yld i H x H' → g x (wipe σ vs) H' fun σ2 H2 => wipe σ2 vs = wipe σ vs ∧ tt σ2 H2 fun b H3 =>
        if b = true then te σ2 H3 fun y H4 => ∃ acc, H4 D = some (.lst acc) ∧ acc.length < sizeLine ∧ Nx (upd H4 D (.lst (acc ++ [y]))) else Nx H3)
theorem rd_lc {wi : TI} {g : TG} {vs : List Nat} (h : wi σ H fun J H1 => ∀ D, H1 D = none → LcG J g tt te vs σ D (fun H => Q (.ref D) H) H1) : tLc wi g tt te vs σ H Q := h
theorem lcL_by {a D : Addr} {g : TG} {vs : List Nat} {Qd : Hp → Prop} (xs : List V) (Pv : Nat → Hp → Prop) (h0 : Pv 0 (upd H D (.lst []))) (hl : ∀ i H, i ≤ xs.length → Pv i H → SqL K H a xs)
    (hs : ∀ i x H, xs[i]? = some x → Pv i H → g x (wipe σ vs) H fun σ2 H2 => wipe σ2 vs = wipe σ vs ∧ tt σ2 H2 fun b H3 =>
      if b = true then te σ2 H3 fun y H4 => ∃ acc, H4 D = some (.lst acc) ∧ acc.length < sizeLine ∧ Pv (i + 1) (upd H4 D (.lst (acc ++ [y]))) else Pv (i + 1) H3) (hd : ∀ H, Pv xs.length H → Qd H) : LcG (Itl K a) g tt te vs σ D Qd H := lc_list (K := K) Pv h0 hl hs hd
theorem lcR_by {lo : Int} {n : Nat} {D : Addr} {g : TG} {vs : List Nat} {Qd : Hp → Prop} (Pv : Nat → Hp → Prop) (h0 : Pv 0 (upd H D (.lst [])))
    (hs : ∀ (i : Nat) H, i < n → Pv i H → g (.int (lo + i)) (wipe σ vs) H fun σ2 H2 => wipe σ2 vs = wipe σ vs ∧ tt σ2 H2 fun b H3 =>
      if b = true then te σ2 H3 fun y H4 => ∃ acc, H4 D = some (.lst acc) ∧ acc.length < sizeLine ∧ Pv (i + 1) (upd H4 D (.lst (acc ++ [y]))) else Pv (i + 1) H3) (hd : ∀ H, Pv n H → Qd H) : LcG (Itr lo n) g tt te vs σ D Qd H := lc_range Pv h0 hs hd
theorem lcL_ints {a D : Addr} {g : TG} {vs : List Nat} {Qd : Hp → Prop} (ns : List Int) (Pv : Nat → Hp → Prop) (h0 : Pv 0 (upd H D (.lst []))) (hl : ∀ i H, i ≤ ns.length → Pv i H → SqL K H a (ns.map V.int))
    (hs : ∀ (i : Nat) (h : i < ns.length) H, Pv i H → g (.int ns[i]) (wipe σ vs) H fun σ2 H2 => wipe σ2 vs = wipe σ vs ∧ tt σ2 H2 fun b H3 =>
      if b = true then te σ2 H3 fun y H4 => ∃ acc, H4 D = some (.lst acc) ∧ acc.length < sizeLine ∧ Pv (i + 1) (upd H4 D (.lst (acc ++ [y]))) else Pv (i + 1) H3) (hd : ∀ H, Pv ns.length H → Qd H) : LcG (Itl K a) g tt te vs σ D Qd H :=
  lcL_by (ns.map V.int) Pv h0 (fun i H hi p => hl i H (by simpa using hi) p) (fun i x H e p => by
    rw [List.getElem?_map] at e
    obtain ⟨z, hz, rfl⟩ := Option.map_eq_some_iff.mp e
    obtain ⟨h, rfl⟩ := List.getElem?_eq_some_iff.mp hz
    exact hs i h H p) (fun H p => hd H (by simpa using p))
theorem rd_yes {QB : Bool → Hp → Prop} (h : QB true H) : tYes σ H QB := h
end

/-! ### callables in one piece -/
section
variable {P : Program} {w : World} {K : PySem.W.Frag} {mg : Str → Option Value} {base : Heap} {CX : CXT} {X : Cx} {k j : Nat} {C : Addr} {x m : Str} {sp : Sp} {dvs : List V} {E : XK} {p pos apos : Pos} {e o : Expr} {es : List Expr} {ta : TE} {t : TA}
structure CalX (P : Program) (w : World) (K : PySem.W.Frag) (mg : Str → Option Value) (base : Heap) (CX : CXT) (k : Nat) (x : Str) (sp : Sp) (dvs : List V) : Prop where
  ex : ∃ (f : Addr) (fd : FuncData) (ps : List Str) (ds : List Value), FnOk P w K mg base CX k f fd ps sp ∧ mg x = some (.ref f) ∧ PySem.W.keepIn K (.ref f) = true ∧ Binds K fd ps ds ∧ Vals dvs ds
structure MetX (P : Program) (w : World) (K : PySem.W.Frag) (mg : Str → Option Value) (base : Heap) (CX : CXT) (k : Nat) (C : Addr) (m : Str) (sp : Sp) (dvs : List V) : Prop where
  ex : ∃ (f : Addr) (fd : FuncData) (ps : List Str) (ds : List Value), Cls K C ∧ Meth K C m f ∧ FnOk P w K mg base CX k f fd ps sp ∧ Binds K fd ps ds ∧ Vals dvs ds
structure MakX (P : Program) (w : World) (K : PySem.W.Frag) (mg : Str → Option Value) (base : Heap) (CX : CXT) (k : Nat) (x : Str) (C : Addr) (sp : Sp) (dvs : List V) : Prop where
  ex : ∃ (f : Addr) (fd : FuncData) (ps : List Str) (ds : List Value), Mk K C f ∧ FnOk P w K mg base CX k f fd ps sp ∧ mg x = some (.ref C) ∧ Binds K fd ps ds ∧ Vals dvs ds
theorem pe_cal (c : CalX X.prog X.w X.K X.mg X.base CX k x sp dvs) (hr : Room j X.A) (hk : k ≤ j) (hg : Gl X x) (hx : Passes CX X E) (ha : PA X (e :: es) t)
    (hdb : (x == ("__debug__" : Str)) = false := by decide) (he : starEach (e :: es) X.env = (false, eval e X.env) :: starEach es X.env := by rfl) (hpl : (backTo pos (starEach es X.env)).any (·.1) = false := by rfl) :
    PE X (.Call (.Name x p) (e :: es) [] pos) (tCall sp dvs E t) := by
  obtain ⟨f, fd, ps, ds, F, hm, kp, b, d⟩ := c.ex
  exact pe_call F (hr.mono hk) hg hm kp b d hx ha hdb he hpl
theorem pe_mak (c : MakX X.prog X.w X.K X.mg X.base CX k x C sp dvs) (hr : Room j X.A) (hk : k + 1 ≤ j) (hg : Gl X x) (hx : Passes CX X E) (ha : PA X (e :: es) t)
    (hdb : (x == ("__debug__" : Str)) = false := by decide) (he : starEach (e :: es) X.env = (false, eval e X.env) :: starEach es X.env := by rfl) (hpl : (backTo pos (starEach es X.env)).any (·.1) = false := by rfl) :
    PE X (.Call (.Name x p) (e :: es) [] pos) (tMake C sp dvs E t) := by
  obtain ⟨f, fd, ps, ds, M, F, hm, b, d⟩ := c.ex
  exact pe_make M F (hr.mono hk) hg hm b d hx ha hdb he hpl
theorem pe_met {pl : Sem Bool} (c : MetX X.prog X.w X.K X.mg X.base CX k C m sp dvs) (hr : Room j X.A) (hk : k ≤ j) (hx : Passes CX X E) (he : PE X o ta) (ha : PA X (e :: es) t)
    (hst : starEach (e :: es) X.env = (false, eval e X.env) :: starEach es X.env := by rfl) (hpl : (backTo pos (starEach es X.env)).any (·.1) = false := by rfl)
    (ht : eval (.Call (.Attribute o m apos) (e :: es) [] pos) X.env = (do
      let ov ← eval o X.env
      standAt apos.atName
      let (f, first) ← holding [ov] (getMethod ov m pl)
      callWith pos f first (backTo pos (starEach (e :: es) X.env)) (backToKw pos (keywordEach [] X.env))) := by rfl) :
    PE X (.Call (.Attribute o m apos) (e :: es) [] pos) (tMeth C m sp dvs E ta t) := by
  obtain ⟨f, fd, ps, ds, cl, me, F, b, d⟩ := c.ex
  exact pe_meth he cl me F (hr.mono hk) b d hx ha hst hpl ht
end

/-! ### a def's promise by its body -/
section
variable {P : Program} {w : World} {K : PySem.W.Frag} {mg : Str → Option Value} {base : Heap} {CX : CXT} {x qual : Str} {params : Arguments} {body : List Stmt} {scope : Scope} {dvs : List V} {kws : List (Str × V)} {f : Addr} {fd : FuncData}
theorem fnD {N ps : List Str} {k : Nat} {sp : Sp} (F : FunD K x qual params body scope dvs kws f fd) (S : FnScope N ps scope) (len : ∀ vs H Q E, sp vs H Q E → vs.length = ps.length)
    (hbody : ∀ (cdv : Value) (A : Around) (outer : List Env) (s : Shared) (H : Hp) (vs : List V) (Q : VK) (E : XK), Room k (A.deeper (envOfC qual scope s.heap.objs.size f cdv)) → sp vs H Q E →
      ∃ t, PSs (cxOf CX0 P w K mg base N qual scope f cdv A outer s H E).nox body t ∧ t ⟨fun _ H' => Q .non H', Q, fun _ _ => False, fun _ _ => False⟩ (start N vs) H) : FnOk P w K mg base CX0 (k + 1) f fd ps sp :=
  F.ok S len fun cdv A outer s H vs Q E hr h => let ⟨t, h1, h2⟩ := hbody cdv A outer s H vs Q E hr h; ⟨t, h1.nox, h2⟩
end

/-! ### the head: facts of a top, one Bool more -/
abbrev AlM : Type := AlD × Bool
def obsM (n : Nat) (fa : List Fa) (fn : List DefD) (ex : PySem.W.Frag → Bool) (g : Addr → Option Obj) : AlM := (obsD fa fn (frG g (asD g n)), ex (frG g (asD g n)))
def hookM (n : Nat) (fa : List Fa) (fn : List DefD) (ex : PySem.W.Frag → Bool) : PySem.W.Hook where
  α := AlM
  obs := fun s => obsM n fa fn ex s.heap.get?
  val := fun _ => (valD fn, true)
  says := fun _ h => ∃ K : PySem.W.Frag, K.In h ∧ SaysD fa fn K ∧ ex K = true
  of := fun _ _ e => ⟨_, frG_in, congrArg (fun z : AlM => z.1) e, congrArg (fun z : AlM => z.2) e⟩
  keeps := fun _ _ _ ⟨K, hK, c, d⟩ k => ⟨K, PySem.W.Frag.In.keeps hK k, c, d⟩
theorem obsM_eq {n : Nat} {fa : List Fa} {fn : List DefD} {ex : PySem.W.Frag → Bool} {g : Addr → Option Obj} {s : Shared} (h : ∀ a, g a = s.heap.get? a) : obsM n fa fn ex g = (hookM n fa fn ex).obs s := by
  have e : g = s.heap.get? := funext h
  rw [e] <;> rfl
/-- what the defs lean on -/
structure Ctx (fa : List Fa) (fn : List DefD) (ex : PySem.W.Frag → Bool) (K : PySem.W.Frag) (mg : Str → Option Value) : Prop where
  says : SaysD fa fn K
  ex : ex K = true
  at_ : ∃ h, K.In h ∧ h.Ns mainGlobals mg
section
variable {fa : List Fa} {fn : List DefD} {ex : PySem.W.Frag → Bool} {K : PySem.W.Frag} {mg : Str → Option Value}
theorem Ctx.glo (T : Ctx fa fn ex K mg) (i : Nat) {x : Str} (h : fa[i]? = some (.glo x) := by rfl) : mg x = some (.ref (ga K x)) := let ⟨_, X, G⟩ := T.at_; glo_ok X G (T.says.fact i h)
theorem Ctx.fre (T : Ctx fa fn ex K mg) (i : Nat) {x : Str} (h : fa[i]? = some (.free x) := by rfl) : mg x = none := let ⟨_, X, G⟩ := T.at_; free_ok X G (T.says.fact i h)
theorem Ctx.cls (T : Ctx fa fn ex K mg) (i : Nat) {x : Str} (h : fa[i]? = some (.cls x) := by rfl) : Cls K (ga K x) := cls_ok (T.says.fact i h)
theorem Ctx.noat (T : Ctx fa fn ex K mg) (i : Nat) {x f : Str} (h : fa[i]? = some (.noat x f) := by rfl) : NoAttr K (ga K x) f := noat_ok (T.says.fact i h)
theorem Ctx.meth (T : Ctx fa fn ex K mg) (i : Nat) {x m : Str} (h : fa[i]? = some (.meth x m) := by rfl) : Meth K (ga K x) m (ma K (ga K x) m) := meth_ok (T.says.fact i h)
theorem Ctx.mkr (T : Ctx fa fn ex K mg) (i : Nat) {x : Str} (h : fa[i]? = some (.mkr x) := by rfl) : Mk K (ga K x) (ma K (ga K x) "__init__") := mkr_ok (T.says.fact i h)
theorem Ctx.int (T : Ctx fa fn ex K mg) (i : Nat) {x : Str} {z : Int} (h : fa[i]? = some (.int x z) := by rfl) : ∃ t, mg x = some (.int z t) := let ⟨_, X, G⟩ := T.at_; int_ok X G (T.says.fact i h)
theorem Ctx.str (T : Ctx fa fn ex K mg) (i : Nat) {x z : Str} (h : fa[i]? = some (.str x z) := by rfl) : ∃ t, mg x = some (.str z t) := let ⟨_, X, G⟩ := T.at_; str_ok X G (T.says.fact i h)
end
theorem pe_globC {X : Cx} {x : Str} {v : V} {pos : Pos} (hg : Gl X x) (h : ∃ u, X.mg x = some u ∧ RelV v u) (hd : (x == ("__debug__" : Str)) = false := by decide) : PE X (.Name x pos) (tC v) := let ⟨_, hm, r⟩ := h; pe_glob hg hm r hd

/-! ### small facts -/
theorem ite_d {p A B : Prop} [Decidable p] (h1 : p → A) (h2 : ¬ p → B) : if decide p = true then A else B := by
  by_cases h : p
  · rw [decide_eq_true h, if_pos rfl]
    exact h1 h
  · rw [decide_eq_false h, if_neg Bool.false_ne_true]
    exact h2 h
theorem ite_n {p A B : Prop} [Decidable p] (h1 : ¬ p → A) (h2 : p → B) : if (!decide p) = true then A else B := by
  by_cases h : p
  · rw [decide_eq_true h]
    exact iteF (h2 h)
  · rw [decide_eq_false h]
    exact iteT (h1 h)
theorem ite_b {b : Bool} {A B : Prop} (h1 : b = true → A) (h2 : b = false → B) : if b = true then A else B := by
  cases b
  · exact iteF (h2 rfl)
  · exact iteT (h1 rfl)
theorem ite_t {b : Bool} {A B : Prop} (e : b = true) (h : A) : if b = true then A else B := by
  subst e
  exact iteT h
theorem ite_f {b : Bool} {A B : Prop} (e : b = false) (h : B) : if b = true then A else B := by
  subst e
  exact iteF h
theorem atI_ints {ns : List Int} {i : Int} (h0 : 0 ≤ i) (h1 : i < ns.length) : atI (ns.map V.int) i = some (.int (ns.getD i.toNat 0)) := by
  obtain ⟨j, rfl⟩ := Int.eq_ofNat_of_zero_le h0
  refine atI_nat ?_
  have hj : j < ns.length := by omega
  rw [List.getElem?_map, List.getElem?_eq_getElem hj]
  simp [hj]
theorem take_map_succ {ns : List Int} {i : Nat} (h : i < ns.length) : (ns.take i).map V.int ++ [V.int ns[i]] = (ns.take (i + 1)).map V.int := by
  rw [List.take_succ_eq_append_getElem h, List.map_append]
  rfl
theorem sz1000 {n : Nat} (h : n ≤ 1000000) : n ≤ sizeLine := Nat.le_trans h (by decide)
theorem szlt {n : Nat} (h : n < 1000000) : n < sizeLine := Nat.lt_of_lt_of_le h (by decide)

/-! ### more readings -/
section
variable {K : PySem.W.Frag} {σ : L2.St} {H : Hp} {nx bk ct : L2.St → Hp → Prop} {rt : VK} {te ta tb tc : TE} {ar : TA} {Q : VK} {QB : Bool → Hp → Prop} {v x y z : V} {i j : Int}
theorem rd_sfld {f : Str} (h : tb σ H fun y H1 => ta σ H1 fun x H2 => ∃ a C dx fs, x = V.ref a ∧ H2 a = some (.ins C dx fs) ∧ Cls K C ∧ NoAttr K C f ∧ fs.length < 1000 ∧ nx σ (upd H2 a (.ins C dx (putF f y fs)))) : sFld K ta tb f ⟨nx, rt, bk, ct⟩ σ H := h
theorem rd_sfldX {f : Str} {a C dx : Addr} {fs : List (Str × V)} {R : Addr → Addr → Addr → List (Str × V) → Prop} (h : H a = some (.ins C dx fs)) (c : Cls K C) (n : NoAttr K C f) (l : fs.length < 1000) (q : R a C dx fs) :
    ∃ a' C' dx' fs', V.ref a = V.ref a' ∧ H a' = some (.ins C' dx' fs') ∧ Cls K C' ∧ NoAttr K C' f ∧ fs'.length < 1000 ∧ R a' C' dx' fs' := ⟨a, C, dx, fs, rfl, h, c, n, l, q⟩
theorem rd_tfld {f : Str} (h : ta σ H fun x H1 => ∃ a C dx fs v, x = V.ref a ∧ H1 a = some (.ins C dx fs) ∧ Cls K C ∧ NoAttr K C f ∧ fs.lookup f = some v ∧ Q v H1) : tFld K ta f σ H Q := h
theorem rd_fldX {f : Str} {a C dx : Addr} {fs : List (Str × V)} {R : V → Prop} (h : H a = some (.ins C dx fs)) (c : Cls K C) (n : NoAttr K C f) (l : fs.lookup f = some v) (q : R v) :
    ∃ a' C' dx' fs' v', V.ref a = V.ref a' ∧ H a' = some (.ins C' dx' fs') ∧ Cls K C' ∧ NoAttr K C' f ∧ fs'.lookup f = some v' ∧ R v' := ⟨a, C, dx, fs, v, rfl, h, c, n, l, q⟩
theorem rd_tcon {f : Str} (h : ta σ H fun x H1 => ∃ a C dx fs v u, x = V.ref a ∧ H1 a = some (.ins C dx fs) ∧ Cls K C ∧ Con K C f v u ∧ fs.lookup f = none ∧ Q v H1) : tCon K ta f σ H Q := h
theorem rd_conX {f : Str} {a C dx : Addr} {fs : List (Str × V)} {R : V → Prop} (h : H a = some (.ins C dx fs)) (c : Cls K C) (n : ∃ u, Con K C f v u) (l : fs.lookup f = none) (q : R v) :
    ∃ a' C' dx' fs' v' u, V.ref a = V.ref a' ∧ H a' = some (.ins C' dx' fs') ∧ Cls K C' ∧ Con K C' f v' u ∧ fs'.lookup f = none ∧ R v' := let ⟨u, n⟩ := n; ⟨a, C, dx, fs, v, u, rfl, h, c, n, l, q⟩
/-! isinstance -/
theorem rd_isi_ii (h : Q (.bl true) H) : rIsi K [.int i, .ty "int"] H Q := rd_isi (.base (.int i)) (by decide +kernel) h
theorem rd_isi_ib (h : Q (.bl false) H) : rIsi K [.int i, .ty "bool"] H Q := rd_isi (.base (.int i)) (by decide +kernel) h
theorem rd_isi_bb {b : Bool} (h : Q (.bl true) H) : rIsi K [.bl b, .ty "bool"] H Q := rd_isi (.base (.bl b)) (by decide +kernel) h
theorem rd_isi_bi {b : Bool} (h : Q (.bl true) H) : rIsi K [.bl b, .ty "int"] H Q := rd_isi (.base (.bl b)) (by decide +kernel) h
theorem rd_isi_ss {b : Str} (h : Q (.bl true) H) : rIsi K [.str b, .ty "str"] H Q := rd_isi (.base (.str b)) (by decide +kernel) h
theorem rd_isi_ll {a : Addr} {xs : List V} (e : H a = some (.lst xs)) (h : Q (.bl true) H) : rIsi K [.ref a, .ty "list"] H Q := rd_isi (.base (.lst e)) (by decide +kernel) h
theorem rd_isi_tt {a : Addr} {xs : List V} (e : H a = some (.tup xs)) (h : Q (.bl true) H) : rIsi K [.ref a, .ty "tuple"] H Q := rd_isi (.base (.tup e)) (by decide +kernel) h
/-! known tests -/
section
variable {A B : Prop}
theorem ite_nt (h : B) : if (!true) = true then A else B := iteF h
theorem ite_nf (h : A) : if (!false) = true then A else B := iteT h
theorem ite_in (h : B) : if decide (V.int i = V.non) = true then A else B := iteF h
theorem ite_rn {a : Addr} (h : B) : if decide (V.ref a = V.non) = true then A else B := iteF h
theorem ite_sn {a : Str} (h : B) : if decide (V.str a = V.non) = true then A else B := iteF h
theorem ite_bn {a : Bool} (h : B) : if decide (V.bl a = V.non) = true then A else B := by
  cases a <;> exact iteF h
theorem ite_nn (h : A) : if decide (V.non = V.non) = true then A else B := iteT h
theorem ite_xin (h : A) : if (!decide (V.int i = V.non)) = true then A else B := iteT h
theorem ite_xrn {a : Addr} (h : A) : if (!decide (V.ref a = V.non)) = true then A else B := iteT h
theorem ite_xnn (h : B) : if (!decide (V.non = V.non)) = true then A else B := iteF h
end
/-! dicts with tuple keys -/
theorem rd_dnewT (h : ∀ p, H p = none → Q (.ref p) (upd H p (.dT []))) : tDNewT σ H Q := h
theorem rd_dnewK (h : ∀ p, H p = none → Q (.ref p) (upd H p (.dK []))) : tDNewK σ H Q := h
theorem rd_dget2 (h : ta σ H fun x H1 => ∃ a, x = V.ref a ∧ IsD H1 a ∧ tb σ H1 fun y H2 => tc σ H2 fun z H3 => ∃ o, DGet H3 a y o ∧ Q (o.getD z) H3) : tDGet2 ta tb tc σ H Q := h
theorem rd_isdX {a : Addr} {R : Addr → Prop} (d : IsD H a) (q : R a) : ∃ a', V.ref a = V.ref a' ∧ IsD H a' ∧ R a' := ⟨a, rfl, d, q⟩
theorem isD_T {a : Addr} {kvs : List (List Key × V)} (e : H a = some (.dT kvs)) : IsD H a := .inr ⟨kvs, .inl e⟩
theorem isD_K {a : Addr} {kvs : List (Key × V)} (e : H a = some (.dK kvs)) : IsD H a := .inl ⟨kvs, .inl e⟩
theorem rd_dgX {a : Addr} {o : Option V} {R : Option V → Prop} (d : DGet H a y o) (q : R o) : ∃ o', DGet H a y o' ∧ R o' := ⟨o, d, q⟩
theorem dg_is {a b : Addr} {kvs : List (List Key × V)} {s : Int} {z : Str} (e : H a = some (.dT kvs)) (eb : H b = some (.tup [.int s, .str z])) : DGet H a (.ref b) (valV kvs [.inl s, .inr z]) := DGet.t (k := [.inl s, .inr z]) e eb
theorem rd_sdput (h : tc σ H fun v H1 => ta σ H1 fun x H2 => tb σ H2 fun y H3 => ∃ a H4, x = V.ref a ∧ DPut H3 a y v H4 ∧ nx σ H4) : sDPut ta tb tc ⟨nx, rt, bk, ct⟩ σ H := h
theorem rd_dpX {a : Addr} {H' : Hp} {R : Hp → Prop} (d : DPut H a y v H') (q : R H') : ∃ a' H4, V.ref a = V.ref a' ∧ DPut H a' y v H4 ∧ R H4 := ⟨a, H', rfl, d, q⟩
theorem dp_is {a b : Addr} {kvs : List (List Key × V)} {s : Int} {z : Str} (e : H a = some (.dT kvs)) (eb : H b = some (.tup [.int s, .str z])) (l : kvs.length < sizeLine) : DPut H a (.ref b) v (upd H a (.dT (putK kvs [.inl s, .inr z] v))) := DPut.t (k := [.inl s, .inr z]) e eb l
theorem ty_d {a : Addr} {kvs : List (List Key × V)} {B : Prop} (h : H a = some (.dT kvs)) (q : B) : tyV K "dict" (.ref a) H ∧ B := ⟨.inr (.inr (.inl ⟨rfl, .inr ⟨kvs, h⟩⟩)), q⟩
theorem ty_dK {a : Addr} {kvs : List (Key × V)} {B : Prop} (h : H a = some (.dK kvs)) (q : B) : tyV K "dict" (.ref a) H ∧ B := ⟨.inr (.inr (.inl ⟨rfl, .inl ⟨kvs, h⟩⟩)), q⟩
theorem rd_popT {a b : Addr} {kvs : List (List Key × V)} {s : Int} {t : Str} (e : H a = some (.dT kvs)) (eb : H b = some (.tup [.int s, .str t])) (q1 : ∀ v, valV kvs [.inl s, .inr t] = some v → Q v (upd H a (.dT (dropK kvs [.inl s, .inr t])))) (q2 : valV kvs [.inl s, .inr t] = none → Q x H) :
    DX.rPopT (.ref a) [.ref b, x] H Q := ⟨a, kvs, [.inl s, .inr t], b, x, rfl, rfl, e, eb, q1, q2⟩
theorem valV_drop {κ : Type} [DecidableEq κ] (k j : κ) : ∀ kvs : List (κ × V), valV (dropK kvs k) j = if j = k then none else valV kvs j
  | [] => by
    by_cases h : j = k
    · rw [if_pos h]
      rfl
    · rw [if_neg h]
      rfl
  | p :: r => by
    have ih := valV_drop k j r
    by_cases e : p.1 = k
    · rw [dropK_pos e, ih]
      by_cases h : j = k
      · rw [if_pos h, if_pos h]
      · rw [if_neg h, if_neg h, valV_neg (fun z => h (z.symm.trans e))]
    · rw [dropK_neg e]
      by_cases h : p.1 = j
      · rw [valV_pos h, if_neg (fun z => e (h.trans z)), valV_pos h]
      · rw [valV_neg h, ih, valV_neg h]
theorem putK_le {κ : Type} [DecidableEq κ] (kvs : List (κ × V)) (k : κ) (v : V) : (putK kvs k v).length ≤ kvs.length + 1 := by
  unfold putK
  split
  · rw [List.length_map]
    omega
  · rw [List.length_append]
    exact Nat.le_refl _
theorem rd_cat {a b : Addr} {xs ys : List V} (h1 : H a = some (.lst xs)) (h2 : H b = some (.lst ys)) (l : xs.length + ys.length ≤ sizeLine) (q : ∀ p, H p = none → Q (.ref p) (upd H p (.lst (xs ++ ys)))) : rCat (.ref a) (.ref b) H Q := ⟨a, b, xs, ys, rfl, rfl, h1, h2, l, q⟩
/-! list(range(..)) -/
theorem rd_lstRg {t : L2.St → Hp → (Int → Int → Hp → Prop) → Prop} (h : t σ H fun a b H1 => RgOk a b ∧ ∀ q, H1 q = none → Q (.ref q) (upd H1 q (.lst (rgV a b)))) : tLstRg t σ H Q := h
theorem rd_rg1 {R : Int → Int → Hp → Prop} (h : ta σ H fun x H1 => ∃ n, x = V.int n ∧ R 0 n H1) : tRg1 ta σ H R := h
theorem rd_rg2 {R : Int → Int → Hp → Prop} (h : ta σ H fun x H1 => tb σ H1 fun y H2 => ∃ i j, x = V.int i ∧ y = V.int j ∧ R i j H2) : tRg2 ta tb σ H R := h
theorem rd_inX {R : Int → Prop} (h : R i) : ∃ n, V.int i = V.int n ∧ R n := ⟨i, rfl, h⟩
theorem rd_inX2 {R : Int → Int → Prop} (h : R i j) : ∃ n m, V.int i = V.int n ∧ V.int j = V.int m ∧ R n m := ⟨i, j, rfl, rfl, h⟩
theorem rgV_0 (n : Int) : rgV 0 n = ((List.range n.toNat).map fun (i : Nat) => (i : Int)).map V.int := by
  unfold rgV
  rw [List.map_map, Int.sub_zero]
  congr 1
  funext i
  show V.int (0 + (i : Int)) = V.int (i : Int)
  rw [Int.zero_add]
end

/-! ### dicts with int and text keys, slices, more -/
section
variable {K : PySem.W.Frag} {σ : L2.St} {H : Hp} {nx bk ct : L2.St → Hp → Prop} {rt : VK} {t : TS} {te ta tb tc : TE} {tt : TT} {ar : TA} {Q : VK} {QB : Bool → Hp → Prop} {v x y z : V} {i j : Int}
theorem rd_din (h : ta σ H fun y H1 => tb σ H1 fun x H2 => ∃ a o, x = V.ref a ∧ DGet H2 a y o ∧ Q (.bl o.isSome) H2) : tDIn ta tb σ H Q := h
theorem rd_dnotin (h : ta σ H fun y H1 => tb σ H1 fun x H2 => ∃ a o, x = V.ref a ∧ DGet H2 a y o ∧ Q (.bl (!o.isSome)) H2) : tDNotIn ta tb σ H Q := h
theorem rd_dget (h : ta σ H fun x H1 => tb σ H1 fun y H2 => ∃ a v, x = V.ref a ∧ DGet H2 a y (some v) ∧ Q v H2) : tDGet ta tb σ H Q := h
theorem rd_dget1 (h : ta σ H fun x H1 => ∃ a, x = V.ref a ∧ IsD H1 a ∧ tb σ H1 fun y H2 => ∃ o, DGet H2 a y o ∧ Q (o.getD .non) H2) : tDGet1 ta tb σ H Q := h
theorem rd_dinX {a : Addr} {o : Option V} {R : Option V → Prop} (d : DGet H a y o) (q : R o) : ∃ a' o', V.ref a = V.ref a' ∧ DGet H a' y o' ∧ R o' := ⟨a, o, rfl, d, q⟩
theorem rd_dgetX {a : Addr} {R : V → Prop} (d : DGet H a y (some v)) (q : R v) : ∃ a' v', V.ref a = V.ref a' ∧ DGet H a' y (some v') ∧ R v' := ⟨a, v, rfl, d, q⟩
theorem dg_i {a : Addr} {kvs : List (Key × V)} (e : H a = some (.dK kvs)) : DGet H a (.int i) (valV kvs (.inl i)) := DGet.k (k := .inl i) e
theorem dg_s {a : Addr} {kvs : List (Key × V)} {s : Str} (e : H a = some (.dK kvs)) : DGet H a (.str s) (valV kvs (.inr s)) := DGet.k (k := .inr s) e
theorem dg_iv {a : Addr} {kvs : List (Key × V)} (e : H a = some (.dK kvs)) (l : valV kvs (.inl i) = some v) : DGet H a (.int i) (some v) := l ▸ dg_i e
theorem dg_sv {a : Addr} {kvs : List (Key × V)} {s : Str} (e : H a = some (.dK kvs)) (l : valV kvs (.inr s) = some v) : DGet H a (.str s) (some v) := l ▸ dg_s e
theorem dp_i {a : Addr} {kvs : List (Key × V)} (e : H a = some (.dK kvs)) (l : kvs.length < sizeLine) : DPut H a (.int i) v (upd H a (.dK (putK kvs (.inl i) v))) := DPut.k (k := .inl i) e l
theorem dp_s {a : Addr} {kvs : List (Key × V)} {s : Str} (e : H a = some (.dK kvs)) (l : kvs.length < sizeLine) : DPut H a (.str s) v (upd H a (.dK (putK kvs (.inr s) v))) := DPut.k (k := .inr s) e l
theorem rd_disp {trs : List (TE × TE)} (h : ∀ p, H p = none → tPairs trs σ (upd H p (.dK [])) fun ps H2 => H2 p = some (.dK []) ∧ ∃ kvs : List (Key × V), ps = kvs.map (fun kv => (kV kv.1, kv.2)) ∧ kvs.length ≤ 15 ∧ Q (.ref p) (upd H2 p (.dK (mergeK [] kvs)))) : tDisp trs σ H Q := h
theorem rd_pnil {R : List (V × V) → Hp → Prop} (h : R [] H) : tPairs [] σ H R := h
theorem rd_pcons {trs : List (TE × TE)} {R : List (V × V) → Hp → Prop} (h : ta σ H fun x H1 => tb σ H1 fun y H2 => tPairs trs σ H2 fun ps H3 => R ((x, y) :: ps) H3) : tPairs ((ta, tb) :: trs) σ H R := h
theorem rd_sl {r : V → Option Int → Option Int → Hp → VK → Prop} {tl th : TO} (h : te σ H fun x H1 => tl σ H1 fun l H2 => th σ H2 fun u H3 => r x l u H3 Q) : tSl r te tl th σ H Q := h
theorem rd_part {R : Option Int → Hp → Prop} (h : te σ H fun x H1 => ∃ i, x = V.int i ∧ R (some i) H1) : tPart te σ H R := h
theorem rd_nopart {R : Option Int → Hp → Prop} (h : R none H) : tNoPart σ H R := h
theorem rd_slL {a : Addr} {xs : List V} {lo hi : Option Int} (h : SqL K H a xs) (q : ∀ p, H p = none → Q (.ref p) (upd H p (.lst (cutV xs lo hi)))) : rSlL K (.ref a) lo hi H Q := ⟨a, xs, rfl, h, q⟩
theorem cut_to {xs : List V} {k : Nat} : cutV xs none (some (k : Int)) = xs.take k := by
  unfold cutV
  rw [HT.sIx_none, HT.sIx_nat, List.drop_zero, Nat.sub_zero, List.take_eq_take_iff]
  omega
theorem cut_from {xs : List V} {k : Nat} : cutV xs (some (k : Int)) none = xs.drop k := by
  unfold cutV
  rw [HT.sIx_none, HT.sIx_nat]
  by_cases h : k ≤ xs.length
  · rw [Nat.min_eq_left h, List.take_of_length_le (by rw [List.length_drop]; exact Nat.le_refl _)]
  · rw [Nat.min_eq_right (by omega), Nat.sub_self, List.take_zero, List.drop_of_length_le (by omega)]
theorem cut_all {xs : List V} : cutV xs none none = xs := by
  unfold cutV
  rw [HT.sIx_none, HT.sIx_none, List.drop_zero, Nat.sub_zero, List.take_length]
theorem rd_popAt {a : Addr} {xs : List V} {k : Nat} (h : H a = some (.lst xs)) (b1 : -(2 ^ 63) ≤ i) (b2 : i < 2 ^ 63) (s : seqIndex? i xs.length = some k) (g : xs[k]? = some v) (q : Q v (upd H a (.lst (xs.eraseIdx k)))) : rPopAt (.ref a) [.int i] H Q := ⟨a, xs, i, k, v, rfl, rfl, h, b1, b2, s, g, q⟩
theorem rd_clear {a : Addr} {xs : List V} (h : H a = some (.lst xs)) (q : Q .non (upd H a (.lst []))) : rClear (.ref a) [] H Q := ⟨a, xs, rfl, rfl, h, q⟩
theorem rd_aug {n : Nat} {ti : TIp} (e : σ[n]? = some (some x)) (h : te σ H fun y H1 => ti x y H1 fun z H2 => nx (σ.set n (some z)) H2) : tAug n te ti ⟨nx, rt, bk, ct⟩ σ H := ⟨x, e, h⟩
theorem rd_ipI {f : Int → Int → Int} (h : Q (.int (f i j)) H) : ipI f (.int i) (.int j) H Q := ⟨i, j, rfl, rfl, h⟩
theorem rd_whileM (W : Nat → L2.St → Hp → Prop) (m : Nat) (h0 : W m σ H)
    (hs : ∀ m σ H, W m σ H → tt σ H fun b H1 => if b = true then ∃ N : L2.St → Hp → Prop, (∀ σ' H', N σ' H' → ∃ m', m' < m ∧ W m' σ' H') ∧ t ⟨N, rt, nx, N⟩ σ H1 else nx σ H1) : tWhile tt t ⟨nx, rt, bk, ct⟩ σ H := ⟨W, ⟨m, h0⟩, hs⟩
theorem inV_ints (a : Int) : ∀ ns : List Int, inV (.int a) (ns.map V.int) = decide (a ∈ ns)
  | [] => rfl
  | b :: r => by
    have ih := inV_ints a r
    unfold inV at ih ⊢
    rw [List.map_cons, List.any_cons, ih]
    show ((b == a) || decide (a ∈ r)) = decide (a ∈ b :: r)
    by_cases h : b = a
    · subst h
      simp
    · have h2 : (b == a) = false := beq_eq_false_iff_ne.mpr h
      rw [h2, Bool.false_or]
      simp [List.mem_cons, Ne.symm h]
theorem flat_ints : ∀ ns : List Int, (ns.map V.int).all flatV = true
  | [] => rfl
  | _ :: r => by
    rw [List.map_cons, List.all_cons, flat_ints r]
    rfl
theorem rd_inI {p : Addr} {ns : List Int} (h : SqL K H p (ns.map V.int)) (q : Q (.bl (decide (i ∈ ns))) H) : rIn K false (.int i) (.ref p) H Q := ⟨p, ns.map V.int, rfl, .inl h, rfl, flat_ints ns, by
  rw [inV_ints]
  exact q⟩
theorem rd_notInI {p : Addr} {ns : List Int} (h : SqL K H p (ns.map V.int)) (q : Q (.bl (!decide (i ∈ ns))) H) : rIn K true (.int i) (.ref p) H Q := ⟨p, ns.map V.int, rfl, .inl h, rfl, flat_ints ns, by
  rw [inV_ints]
  exact q⟩
def rLenD : List V → Hp → VK → Prop := fun xs H Q => ∃ a kvs, xs = [V.ref a] ∧ H a = some (.dK kvs) ∧ Q (.int kvs.length) H
theorem call_lenD' {X : Cx} : CallR X (.builtin "len") rLenD := call_lenD
theorem rd_lenD {a : Addr} {kvs : List (Key × V)} (h : H a = some (.dK kvs)) (q : Q (.int kvs.length) H) : rLenD [.ref a] H Q := ⟨a, kvs, rfl, h, q⟩
/-! enumerate -/
theorem rd_iEnum {R : It → Hp → Prop} (h : ar σ H fun vs H1 => ∃ a xs, vs = [V.ref a] ∧ SqL K H1 a xs ∧ R (Ite K a) H1) : iEnum K ar σ H R := h
theorem rd_iEnumX {p : Addr} {xs : List V} {R : Addr → Prop} (h : SqL K H p xs) (q : R p) : ∃ a xs, [V.ref p] = [V.ref a] ∧ SqL K H a xs ∧ R a := ⟨p, xs, rfl, h, q⟩
theorem forE_by {a : Addr} {g : TG} (xs : List V) (Pv : Nat → L2.St → Hp → Prop) (h0 : Pv 0 σ H) (hl : ∀ i σ H, i ≤ xs.length → Pv i σ H → SqL K H a xs)
    (hs : ∀ i x σ H T, xs[i]? = some x → Pv i σ H → H T = none → g (.ref T) σ (upd H T (.tup [.int (i : Nat), x])) fun σ2 H2 => t ⟨Pv (i + 1), rt, nx, Pv (i + 1)⟩ σ2 H2) (hd : ∀ σ H, Pv xs.length σ H → nx σ H) : ForG (Ite K a) g t ⟨nx, rt, bk, ct⟩ σ H := by
  refine ⟨fun i m σ H => m = xs.length - i ∧ i ≤ xs.length ∧ Pv i σ H, ⟨xs.length, by simp, Nat.zero_le _, h0⟩, ?_⟩
  rintro i m σ H ⟨rfl, hi, p⟩
  have q := hl i σ H hi p
  by_cases hlt : i < xs.length
  · refine .inr ⟨⟨xs, xs[i], q, by simp [hlt]⟩, Pv (i + 1), fun σ' H' p' => ⟨xs.length - (i + 1), by omega, rfl, hlt, p'⟩, fun x H' y => ?_⟩
    obtain ⟨T, z, rfl, nT, rfl, hz⟩ := y
    exact hs i z σ H T (hz xs q) p nT
  · have e : i = xs.length := by omega
    subst e
    exact .inl ⟨⟨xs, q, Nat.le_refl _⟩, hd σ H p⟩
/-! == of equal data, of int lists -/
theorem dp_ints : ∀ ns : List Int, DpAll K H (ns.map V.int) (ns.map PyData.int)
  | [] => .nil
  | x :: r => .cons (.int x) (dp_ints r)
theorem lay_ints : ∀ ns : List Int, PyData.canLayAll0 (ns.map PyData.int) = true
  | [] => by simp only [List.map_nil, PyData.canLayAll0]
  | x :: r => by simp only [List.map_cons, PyData.canLayAll0, PyData.canLay0, lay_ints r, Bool.and_self]
theorem depth_ints : ∀ ns : List Int, PyData.depthAll (ns.map PyData.int) ≤ 1
  | [] => by simp [PyData.depthAll]
  | x :: r => by
    have := depth_ints r
    simp only [List.map_cons, PyData.depthAll, PyData.depth]
    omega
theorem shaped_ints (ns : List Int) : SeqAt.shaped (.list (ns.map PyData.int)) = true :=
  Bool.and_eq_true_iff.mpr ⟨by simp only [PyData.canLay0, lay_ints], decide_eq_true (by
    have h := depth_ints ns
    simp only [PyData.depth]
    omega)⟩
theorem eqv_ints : ∀ ns ms : List Int, PyData.eqvAll (ns.map PyData.int) (ms.map PyData.int) = decide (ns = ms)
  | [], [] => by simp [PyData.eqvAll]
  | [], y :: m => by simp [PyData.eqvAll]
  | x :: r, [] => by simp [PyData.eqvAll]
  | x :: r, y :: m => by
    have ih := eqv_ints r m
    simp only [List.map_cons, PyData.eqvAll, PyData.eqv, ih]
    by_cases h : x = y
    · subst h
      simp
    · simp [h]
theorem rd_eqLI {p q : Addr} {ns ms : List Int} (h1 : SqL K H p (ns.map V.int)) (h2 : SqL K H q (ms.map V.int)) (k : Q (.bl (decide (ns = ms))) H) : rEqD K (.ref p) (.ref q) H Q :=
  ⟨.list (ns.map PyData.int), .list (ms.map PyData.int), .lst h1 (dp_ints ns), .lst h2 (dp_ints ms), shaped_ints ns, shaped_ints ms, by
    simp only [PyData.eqv, eqv_ints]
    exact k⟩
theorem rd_neLI {p q : Addr} {ns ms : List Int} (h1 : SqL K H p (ns.map V.int)) (h2 : SqL K H q (ms.map V.int)) (k : Q (.bl (!decide (ns = ms))) H) : rNeD K (.ref p) (.ref q) H Q :=
  ⟨.list (ns.map PyData.int), .list (ms.map PyData.int), .lst h1 (dp_ints ns), .lst h2 (dp_ints ms), shaped_ints ns, shaped_ints ms, by
    simp only [PyData.eqv, eqv_ints]
    exact k⟩
end

/-! ### the same rules with the written part named (within comprehensions) -/
section
variable {X : L2.Cx} {K : PySem.W.Frag}
theorem call_listOfK (h : X.K = K) : CallR X (.type "list") (rListOf K) := h ▸ call_listOf
theorem call_lenSK (h : X.K = K) : CallR X (.builtin "len") (rLenS K) := h ▸ call_lenS
theorem ix_listK (h : X.K = K) : IxR X (rIxL K) := h ▸ ix_list
theorem ix_tupK (h : X.K = K) : IxR X (rIxT K) := h ▸ ix_tup
theorem op_in_seqK (h : X.K = K) : OpR X (compareOp .In) (rIn K false) := h ▸ op_in_seq
theorem op_notIn_seqK (h : X.K = K) : OpR X (compareOp .NotIn) (rIn K true) := h ▸ op_notIn_seq
theorem call_isiK2 (h : X.K = K) : CallR X (.builtin "isinstance") (rIsi K) := h ▸ call_isi
theorem pe_fldK {e : Expr} {f : Str} {pos : Pos} {ta : TE} (h : X.K = K) (he : PE X e ta) (hb : attributeBase e f X.env (eval e X.env) = eval e X.env) : PE X (.Attribute e f pos) (tFld K ta f) := h ▸ pe_fld he hb
end
end RD

namespace My
open PySem PySem.Spec PyProof.Rows L2 He RD
open PySem PySem.Spec PyProof.Rows L2 He RD
def top (i : Nat) : Stmt := PySem.Challenge.pw_livingroll_k21_tree_plan_is_least.main.body.getD i (.Pass ⟨0, 0, 0, 0⟩)
abbrev R : PySem.W.OpenRow := PySem.W.OpenLaw.row PySem.Challenge.rw_livingroll_k21_tree_plan_is_least
abbrev s_l_purse : Stmt := (top 10)
abbrev n_l_purse : List Str := ["_law_script", "_law_cells", "_law_seed", "_law_cell"]
abbrev p_l_purse : List Str := ["_law_script"]
theorem sc_l_purse : FnScope n_l_purse p_l_purse (defScope s_l_purse) := ⟨rfl, rfl, rfl, by decide +kernel, rfl, by decide +kernel, by decide +kernel⟩
def d_l_purse : DefD := ⟨("_law_purse", none), "_law_purse", "_law_purse", defArgs s_l_purse, defBody s_l_purse, defScope s_l_purse, [], []⟩
abbrev s_l_mixed : Stmt := (top 11)
abbrev n_l_mixed : List Str := ["_law_seed", "_law_place", "_law_first", "_law_second"]
abbrev p_l_mixed : List Str := ["_law_seed", "_law_place"]
theorem sc_l_mixed : FnScope n_l_mixed p_l_mixed (defScope s_l_mixed) := ⟨rfl, rfl, rfl, by decide +kernel, rfl, by decide +kernel, by decide +kernel⟩
def d_l_mixed : DefD := ⟨("_law_mixed", none), "_law_mixed", "_law_mixed", defArgs s_l_mixed, defBody s_l_mixed, defScope s_l_mixed, [], []⟩
abbrev s_l_draw : Stmt := (top 12)
abbrev n_l_draw : List Str := ["_law_purse_here", "_law_many", "_law_cell", "_law_digit"]
abbrev p_l_draw : List Str := ["_law_purse_here", "_law_many"]
theorem sc_l_draw : FnScope n_l_draw p_l_draw (defScope s_l_draw) := ⟨rfl, rfl, rfl, by decide +kernel, rfl, by decide +kernel, by decide +kernel⟩
def d_l_draw : DefD := ⟨("_law_draw", none), "_law_draw", "_law_draw", defArgs s_l_draw, defBody s_l_draw, defScope s_l_draw, [], []⟩
abbrev s_l_seats : Stmt := (top 13)
abbrev n_l_seats : List Str := ["_law_purse_here", "_law_ring", "_law_many", "_law_pool", "_law_found", "_law_k"]
abbrev p_l_seats : List Str := ["_law_purse_here", "_law_ring", "_law_many"]
theorem sc_l_seats : FnScope n_l_seats p_l_seats (defScope s_l_seats) := ⟨rfl, rfl, rfl, by decide +kernel, rfl, by decide +kernel, by decide +kernel⟩
def d_l_seats : DefD := ⟨("_law_seats", none), "_law_seats", "_law_seats", defArgs s_l_seats, defBody s_l_seats, defScope s_l_seats, [], []⟩
abbrev s_l_number : Stmt := (top 14)
abbrev n_l_number : List Str := ["_law_found", "_law_wanted"]
abbrev p_l_number : List Str := ["_law_found", "_law_wanted"]
theorem sc_l_number : FnScope n_l_number p_l_number (defScope s_l_number) := ⟨rfl, rfl, rfl, by decide +kernel, rfl, by decide +kernel, by decide +kernel⟩
def d_l_number : DefD := ⟨("_law_number", none), "_law_number", "_law_number", defArgs s_l_number, defBody s_l_number, defScope s_l_number, [], []⟩
abbrev s_l_least : Stmt := (top 15)
abbrev n_l_least : List Str := ["_law_count", "_law_rounds", "_law_reached", "_law_k"]
abbrev p_l_least : List Str := ["_law_count"]
theorem sc_l_least : FnScope n_l_least p_l_least (defScope s_l_least) := ⟨rfl, rfl, rfl, by decide +kernel, rfl, by decide +kernel, by decide +kernel⟩
def d_l_least : DefD := ⟨("_law_least", none), "_law_least", "_law_least", defArgs s_l_least, defBody s_l_least, defScope s_l_least, [], []⟩
abbrev s_least_rounds : Stmt := (top 4)
abbrev n_least_rounds : List Str := ["count", "rounds", "reach"]
abbrev p_least_rounds : List Str := ["count"]
theorem sc_least_rounds : FnScope n_least_rounds p_least_rounds (defScope s_least_rounds) := ⟨rfl, rfl, rfl, by decide +kernel, rfl, by decide +kernel, by decide +kernel⟩
def d_least_rounds : DefD := ⟨("least_rounds", none), "least_rounds", "least_rounds", defArgs s_least_rounds, defBody s_least_rounds, defScope s_least_rounds, [], []⟩
abbrev s_least_letters : Stmt := (top 5)
abbrev n_least_letters : List Str := ["count"]
abbrev p_least_letters : List Str := ["count"]
theorem sc_least_letters : FnScope n_least_letters p_least_letters (defScope s_least_letters) := ⟨rfl, rfl, rfl, by decide +kernel, rfl, by decide +kernel, by decide +kernel⟩
def d_least_letters : DefD := ⟨("least_letters", none), "least_letters", "least_letters", defArgs s_least_letters, defBody s_least_letters, defScope s_least_letters, [], []⟩
abbrev s_l_numbers : Stmt := (top 19)
abbrev n_l_numbers : List Str := ["_law_count"]
abbrev p_l_numbers : List Str := ["_law_count"]
theorem sc_l_numbers : FnScope n_l_numbers p_l_numbers (defScope s_l_numbers) := ⟨rfl, rfl, rfl, by decide +kernel, rfl, by decide +kernel, by decide +kernel⟩
def d_l_numbers : DefD := ⟨("_law_numbers", none), "_law_numbers", "_law_numbers", defArgs s_l_numbers, defBody s_l_numbers, defScope s_l_numbers, [], []⟩
abbrev s_l_list : Stmt := (top 17)
abbrev n_l_list : List Str := ["_law_purse_here", "_law_way", "_law_many", "_law_seats_here", "_law_seat"]
abbrev p_l_list : List Str := ["_law_purse_here"]
theorem sc_l_list : FnScope n_l_list p_l_list (defScope s_l_list) := ⟨rfl, rfl, rfl, by decide +kernel, rfl, by decide +kernel, by decide +kernel⟩
def d_l_list : DefD := ⟨("_law_list", none), "_law_list", "_law_list", defArgs s_l_list, defBody s_l_list, defScope s_l_list, [], []⟩
abbrev s_tree_plan : Stmt := (top 6)
abbrev n_tree_plan : List Str := ["seats", "plan", "reach", "calls", "index"]
abbrev p_tree_plan : List Str := ["seats"]
theorem sc_tree_plan : FnScope n_tree_plan p_tree_plan (defScope s_tree_plan) := ⟨rfl, rfl, rfl, by decide +kernel, rfl, by decide +kernel, by decide +kernel⟩
def d_tree_plan : DefD := ⟨("tree_plan", none), "tree_plan", "tree_plan", defArgs s_tree_plan, defBody s_tree_plan, defScope s_tree_plan, [], []⟩
abbrev s_reached_by : Stmt := (top 7)
abbrev n_reached_by : List Str := ["seats", "known", "calls", "callers", "reached", "caller", "called"]
abbrev p_reached_by : List Str := ["seats", "known", "calls"]
theorem sc_reached_by : FnScope n_reached_by p_reached_by (defScope s_reached_by) := ⟨rfl, rfl, rfl, by decide +kernel, rfl, by decide +kernel, by decide +kernel⟩
def d_reached_by : DefD := ⟨("reached_by", none), "reached_by", "reached_by", defArgs s_reached_by, defBody s_reached_by, defScope s_reached_by, [], []⟩
abbrev s_judge_plan : Stmt := (top 8)
abbrev n_judge_plan : List Str := ["seats", "origin", "plan", "known", "letters", "index", "calls", "reached", "seat"]
abbrev p_judge_plan : List Str := ["seats", "origin", "plan"]
theorem sc_judge_plan : FnScope n_judge_plan p_judge_plan (defScope s_judge_plan) := ⟨rfl, rfl, rfl, by decide +kernel, rfl, by decide +kernel, by decide +kernel⟩
def d_judge_plan : DefD := ⟨("judge_plan", none), "judge_plan", "judge_plan", defArgs s_judge_plan, defBody s_judge_plan, defScope s_judge_plan, [], []⟩
abbrev s_l_judged : Stmt := (top 16)
abbrev n_l_judged : List Str := ["_law_seats_here", "_law_origin", "_law_paper", "_law_knows", "_law_pairs", "_law_index", "_law_callers", "_law_newly", "_law_caller", "_law_called", "_law_seat"]
abbrev p_l_judged : List Str := ["_law_seats_here", "_law_origin", "_law_paper"]
theorem sc_l_judged : FnScope n_l_judged p_l_judged (defScope s_l_judged) := ⟨rfl, rfl, rfl, by decide +kernel, rfl, by decide +kernel, by decide +kernel⟩
def d_l_judged : DefD := ⟨("_law_judged", none), "_law_judged", "_law_judged", defArgs s_l_judged, defBody s_l_judged, defScope s_l_judged, [], []⟩
abbrev s_l_is_plan : Stmt := (top 18)
abbrev n_l_is_plan : List Str := ["_law_found", "_law_line", "_law_pair", "_law_seat"]
abbrev p_l_is_plan : List Str := ["_law_found"]
theorem sc_l_is_plan : FnScope n_l_is_plan p_l_is_plan (defScope s_l_is_plan) := ⟨rfl, rfl, rfl, by decide +kernel, rfl, by decide +kernel, by decide +kernel⟩
def d_l_is_plan : DefD := ⟨("_law_is_plan", none), "_law_is_plan", "_law_is_plan", defArgs s_l_is_plan, defBody s_l_is_plan, defScope s_l_is_plan, [], []⟩
abbrev s_l_asked : Stmt := (top 20)
abbrev n_l_asked : List Str := ["_law_seats_here", "_law_handed", "_law_found", "_law_wanted", "_law_back", "_law_line"]
abbrev p_l_asked : List Str := ["_law_seats_here"]
theorem sc_l_asked : FnScope n_l_asked p_l_asked (defScope s_l_asked) := ⟨rfl, rfl, rfl, by decide +kernel, rfl, by decide +kernel, by decide +kernel⟩
def d_l_asked : DefD := ⟨("_law_asked", none), "_law_asked", "_law_asked", defArgs s_l_asked, defBody s_l_asked, defScope s_l_asked, [], []⟩
abbrev s_law : Stmt := (top 21)
abbrev n_law : List Str := ["_law_script", "_law_purse_here", "_law_first", "_law_other", "_law_power"]
abbrev p_law : List Str := ["_law_script"]
theorem sc_law : FnScope n_law p_law (defScope s_law) := ⟨rfl, rfl, rfl, by decide +kernel, rfl, by decide +kernel, by decide +kernel⟩
def d_law : DefD := ⟨("law", none), "law", "law", defArgs s_law, defBody s_law, defScope s_law, [], []⟩
def fn : List DefD := [d_l_purse, d_l_mixed, d_l_draw, d_l_seats, d_l_number, d_l_least, d_least_rounds, d_least_letters, d_l_numbers, d_l_list, d_tree_plan, d_reached_by, d_judge_plan, d_l_judged, d_l_is_plan, d_l_asked, d_law]
def fa : List Fa := [.free "bool", .free "enumerate", .free "int", .free "isinstance", .free "len", .free "list", .free "max", .free "min", .free "range", .free "tuple", .glo "_law_purse", .glo "_law_mixed", .glo "_law_draw", .glo "_law_seats", .glo "_law_number", .glo "_law_least", .glo "least_rounds", .glo "least_letters", .glo "_law_numbers", .glo "_law_list", .glo "tree_plan", .glo "reached_by", .glo "judge_plan", .glo "_law_judged", .glo "_law_is_plan", .glo "_law_asked", .glo "law"]
def ex (K : PySem.W.Frag) : Bool := true
abbrev Cx (K : PySem.W.Frag) (mg : Str → Option Value) : Prop := RD.Ctx fa fn ex K mg
section
variable {K : PySem.W.Frag} {mg : Str → Option Value}
theorem fr_bool (T : Cx K mg) : mg "bool" = none := T.fre 0
theorem fr_enumerate (T : Cx K mg) : mg "enumerate" = none := T.fre 1
theorem fr_int (T : Cx K mg) : mg "int" = none := T.fre 2
theorem fr_isinstance (T : Cx K mg) : mg "isinstance" = none := T.fre 3
theorem fr_len (T : Cx K mg) : mg "len" = none := T.fre 4
theorem fr_list (T : Cx K mg) : mg "list" = none := T.fre 5
theorem fr_max (T : Cx K mg) : mg "max" = none := T.fre 6
theorem fr_min (T : Cx K mg) : mg "min" = none := T.fre 7
theorem fr_range (T : Cx K mg) : mg "range" = none := T.fre 8
theorem fr_tuple (T : Cx K mg) : mg "tuple" = none := T.fre 9
theorem gl_l_purse (T : Cx K mg) : mg "_law_purse" = some (.ref (ga K "_law_purse")) := T.glo 10
theorem gl_l_mixed (T : Cx K mg) : mg "_law_mixed" = some (.ref (ga K "_law_mixed")) := T.glo 11
theorem gl_l_draw (T : Cx K mg) : mg "_law_draw" = some (.ref (ga K "_law_draw")) := T.glo 12
theorem gl_l_seats (T : Cx K mg) : mg "_law_seats" = some (.ref (ga K "_law_seats")) := T.glo 13
theorem gl_l_number (T : Cx K mg) : mg "_law_number" = some (.ref (ga K "_law_number")) := T.glo 14
theorem gl_l_least (T : Cx K mg) : mg "_law_least" = some (.ref (ga K "_law_least")) := T.glo 15
theorem gl_least_rounds (T : Cx K mg) : mg "least_rounds" = some (.ref (ga K "least_rounds")) := T.glo 16
theorem gl_least_letters (T : Cx K mg) : mg "least_letters" = some (.ref (ga K "least_letters")) := T.glo 17
theorem gl_l_numbers (T : Cx K mg) : mg "_law_numbers" = some (.ref (ga K "_law_numbers")) := T.glo 18
theorem gl_l_list (T : Cx K mg) : mg "_law_list" = some (.ref (ga K "_law_list")) := T.glo 19
theorem gl_tree_plan (T : Cx K mg) : mg "tree_plan" = some (.ref (ga K "tree_plan")) := T.glo 20
theorem gl_reached_by (T : Cx K mg) : mg "reached_by" = some (.ref (ga K "reached_by")) := T.glo 21
theorem gl_judge_plan (T : Cx K mg) : mg "judge_plan" = some (.ref (ga K "judge_plan")) := T.glo 22
theorem gl_l_judged (T : Cx K mg) : mg "_law_judged" = some (.ref (ga K "_law_judged")) := T.glo 23
theorem gl_l_is_plan (T : Cx K mg) : mg "_law_is_plan" = some (.ref (ga K "_law_is_plan")) := T.glo 24
theorem gl_l_asked (T : Cx K mg) : mg "_law_asked" = some (.ref (ga K "_law_asked")) := T.glo 25
theorem gl_law (T : Cx K mg) : mg "law" = some (.ref (ga K "law")) := T.glo 26
end

abbrev purse (c : Addr) (at_ rest left mixed seed count : Int) : List (Key × V) := [(.inr "cells", .ref c), (.inr "at", .int at_), (.inr "rest", .int rest), (.inr "left", .int left), (.inr "mixed", .int mixed), (.inr "seed", .int seed), (.inr "count", .int count)]
theorem merge_purse (c : Addr) (a b d e f g : Int) : mergeK [] (purse c a b d e f g) = purse c a b d e f g := rfl
theorem put_count (c : Addr) (a b d e f g h : Int) : putK (purse c a b d e f g) (.inr "count") (.int h) = purse c a b d e f h := rfl
/-- the purse of draws: at p a dict, at c its cells -/
structure Purse (H : Hp) (p c : Addr) : Prop where
  ex : ∃ (ns : List Int) (at_ rest left mixed seed count : Int), H p = some (.dK (purse c at_ rest left mixed seed count)) ∧ H c = some (.lst (ns.map V.int)) ∧ 0 ≤ at_ ∧ ns.length ≤ 63
theorem Purse.kp {H H' : Hp} {p c : Addr} {ps : List Addr} (B : Purse H p c) (k : Kp ps H H') (n1 : p ∉ ps) (n2 : c ∉ ps) : Purse H' p c := by
  obtain ⟨ns, a, b, d, e, f, g, h1, h2, h3, h4⟩ := B
  exact ⟨ns, a, b, d, e, f, g, k _ _ h1 n1, k _ _ h2 n2, h3, h4⟩
theorem Purse.k0 {H H' : Hp} {p c : Addr} (B : Purse H p c) (k : Kp [] H H') : Purse H' p c := B.kp k (by simp) (by simp)
theorem Purse.off {H : Hp} {p c x : Addr} {xs : List V} (B : Purse H p c) (h : H x = some (.lst xs)) : x ≠ p := by
  obtain ⟨ns, a, b, d, e, f, g, h1, -⟩ := B
  exact ne_of h h1 (by intro z; cases z)
theorem Purse.offT {H : Hp} {p c x : Addr} {xs : List V} (B : Purse H p c) (h : H x = some (.tup xs)) : x ≠ p := by
  obtain ⟨ns, a, b, d, e, f, g, h1, -⟩ := B
  exact ne_of h h1 (by intro z; cases z)
/-! ### the least number of rounds -/
def Lr (r n : Nat) : Prop := n ≤ 2 ^ r ∧ (r = 0 ∨ 2 ^ (r - 1) < n)
theorem Lr.uniq {r s n : Nat} (a : Lr r n) (b : Lr s n) : r = s := by
  have key : ∀ {r s : Nat}, Lr r n → Lr s n → ¬ r < s := by
    intro r s a b h
    rcases b.2 with e | e
    · omega
    · have := Nat.pow_le_pow_right (show 0 < 2 by decide) (show r ≤ s - 1 by omega)
      have := a.1
      omega
  have h1 := key a b
  have h2 := key b a
  omega
theorem pow2_succ (r : Nat) : ((2 ^ r : Nat) : Int) * 2 = ((2 ^ (r + 1) : Nat) : Int) := by
  rw [Nat.pow_succ]
  omega
/-! ### dicts that hold a list of ints as keys -/
def kd (l : List Int) : List (Key × V) := l.map fun a => (Sum.inl a, V.bl true)
theorem kd_val (a : Int) : ∀ l : List Int, (valV (kd l) (.inl a)).isSome = decide (a ∈ l)
  | [] => rfl
  | b :: r => by
    have ih := kd_val a r
    unfold kd at ih ⊢
    rw [List.map_cons]
    by_cases h : b = a
    · subst h
      rw [valV_pos rfl]
      simp
    · rw [valV_neg (fun e => h (Sum.inl.inj e)), ih]
      simp [List.mem_cons, Ne.symm h]
theorem kd_none {a : Int} {l : List Int} (h : a ∉ l) : valV (kd l) (.inl a) = none := by
  have := kd_val a l
  rw [decide_eq_false h] at this
  cases e : valV (kd l) (.inl a) with
  | none => rfl
  | some v =>
    rw [e] at this
    cases this
theorem kd_put {a : Int} {l : List Int} (h : a ∉ l) : putK (kd l) (.inl a) (.bl true) = kd (l ++ [a]) := by
  rw [putK_new _ (kd_none h)]
  unfold kd
  rw [List.map_append]
  rfl
theorem kd_len (l : List Int) : (kd l).length = l.length := List.length_map _
/-! ### plans in the heap -/
def Pr (H : Hp) (t : Addr) (p : Int × Int) : Prop := H t = some (.tup [.int p.1, .int p.2])
def Line (H : Hp) (l : Addr) (ps : List (Int × Int)) : Prop := ∃ ts : List Addr, H l = some (.lst (ts.map V.ref)) ∧ Paired (Pr H) ts ps
def Lines (H : Hp) (ls : List Addr) (L : List (List (Int × Int))) : Prop := Paired (Line H) ls L
theorem paired_imp {α β : Type} {R S : α → β → Prop} (h : ∀ a b, R a b → S a b) : ∀ {xs : List α} {ys : List β}, Paired R xs ys → Paired S xs ys
  | _, _, .nil => .nil
  | _, _, .cons a r => .cons (h _ _ a) (paired_imp h r)
theorem paired_snoc {α β : Type} {R : α → β → Prop} {a : α} {b : β} (h : R a b) : ∀ {xs : List α} {ys : List β}, Paired R xs ys → Paired R (xs ++ [a]) (ys ++ [b])
  | _, _, .nil => .cons h .nil
  | _, _, .cons q r => .cons q (paired_snoc h r)
theorem paired_get {α β : Type} {R : α → β → Prop} : ∀ {xs : List α} {ys : List β}, Paired R xs ys → ∀ {i : Nat} {x : α}, xs[i]? = some x → ∃ y, ys[i]? = some y ∧ R x y
  | _, _, .nil, i, x, e => by simp at e
  | _, _, .cons q r, 0, x, e => by
    simp at e
    subst e
    exact ⟨_, rfl, q⟩
  | _, _, .cons q r, i + 1, x, e => by
    obtain ⟨y, h1, h2⟩ := paired_get r (i := i) (x := x) (by simpa using e)
    exact ⟨y, by simpa using h1, h2⟩
theorem paired_len {α β : Type} {R : α → β → Prop} {xs : List α} {ys : List β} (h : Paired R xs ys) : xs.length = ys.length := Paired.length h
theorem Line.kp {H H' : Hp} {l : Addr} {ps : List (Int × Int)} (h : Line H l ps) (k : Kp [] H H') : Line H' l ps := by
  obtain ⟨ts, h1, h2⟩ := h
  exact ⟨ts, k.g0 h1, paired_imp (fun _ _ e => k.g0 e) h2⟩
theorem Lines.kp {H H' : Hp} {ls : List Addr} {L : List (List (Int × Int))} (h : Lines H ls L) (k : Kp [] H H') : Lines H' ls L := paired_imp (fun _ _ e => Line.kp e k) h
theorem Line.upd {H : Hp} {l F : Addr} {o : HO} {xs : List V} {ps : List (Int × Int)} (h : Line H l ps) (hF : H F = some (.lst xs)) (n : l ≠ F) : Line (L2.upd H F o) l ps := by
  obtain ⟨ts, h1, h2⟩ := h
  exact ⟨ts, hu_ne n h1, paired_imp (fun _ _ e => hu_ne (ne_of e hF (by intro z; cases z)) e) h2⟩
theorem Lines.upd {H : Hp} {F : Addr} {o : HO} {xs : List V} (hF : H F = some (.lst xs)) : ∀ {ls : List Addr} {L : List (List (Int × Int))}, Lines H ls L → F ∉ ls → Lines (L2.upd H F o) ls L
  | _, _, .nil, _ => .nil
  | _, _, .cons a r, n => .cons (Line.upd a hF (fun z => n (by simp [z]))) (Lines.upd hF r (fun z => n (by simp [z])))
/-- the tree plan -/
def rnd (xs : List Int) (reach : Nat) : List (Int × Int) := (List.range (min reach (xs.length - reach))).map fun i => (xs.getD i 0, xs.getD (reach + i) 0)
def tree (xs : List Int) (R : Nat) : List (List (Int × Int)) := (List.range R).map fun k => rnd xs (2 ^ k)
theorem tree_succ (xs : List Int) (k : Nat) : tree xs (k + 1) = tree xs k ++ [rnd xs (2 ^ k)] := by
  unfold tree
  rw [List.range_succ, List.map_append]
  rfl
theorem rnd_len (xs : List Int) (r : Nat) : (rnd xs r).length = min r (xs.length - r) := by
  unfold rnd
  rw [List.length_map, List.length_range]
theorem rnd_get {xs : List Int} {r i : Nat} {p : Int × Int} (h : (rnd xs r)[i]? = some p) : i < min r (xs.length - r) ∧ p = (xs.getD i 0, xs.getD (r + i) 0) := by
  have hi := (List.getElem?_eq_some_iff.mp h).1
  rw [rnd_len] at hi
  refine ⟨hi, ?_⟩
  unfold rnd at h
  rw [List.getElem?_map, List.getElem?_range hi] at h
  exact (Option.some.inj h).symm
theorem getD_at {xs : List Int} {i : Nat} (h : i < xs.length) : xs.getD i 0 = xs[i] := by
  rw [List.getD_eq_getElem?_getD, List.getElem?_eq_getElem h]
  rfl
theorem nd_lt {xs : List Int} (hN : xs.Nodup) {i j : Nat} (hi : i < xs.length) (hj : j < xs.length) (e : xs[i] = xs[j]) : i = j := (List.getElem_inj hN).mp e
theorem mem_take {xs : List Int} {i j : Nat} (h : i < j) (hj : i < xs.length) : xs[i] ∈ xs.take j := by
  rw [List.mem_take_iff_getElem]
  exact ⟨i, by omega, rfl⟩
theorem not_take {xs : List Int} (hN : xs.Nodup) {i j : Nat} (h : j ≤ i) (hi : i < xs.length) : xs[i] ∉ xs.take j := by
  intro m
  rw [List.mem_take_iff_getElem] at m
  obtain ⟨k, hk, e⟩ := m
  have := nd_lt hN (show k < xs.length by omega) hi e
  omega
theorem take_snoc {xs : List Int} {i : Nat} (h : i < xs.length) : xs.take i ++ [xs[i]] = xs.take (i + 1) := (List.take_succ_eq_append_getElem h).symm
theorem dtake_snoc {xs : List Int} {r i : Nat} (h : r + i < xs.length) : (xs.drop r).take i ++ [xs[r + i]] = (xs.drop r).take (i + 1) := by
  have h1 : i < (xs.drop r).length := by
    rw [List.length_drop]
    omega
  rw [List.take_succ_eq_append_getElem h1]
  congr 2
  rw [List.getElem_drop]
theorem erase_perm : ∀ {us : List Int} {k : Nat} (h : k < us.length), (us[k] :: us.eraseIdx k).Perm us
  | x :: r, 0, _ => List.Perm.refl _
  | x :: r, k + 1, h => by
    have ih := erase_perm (us := r) (k := k) (by simpa using h)
    exact (List.Perm.swap x _ _).trans (ih.cons x)
theorem rd_neT3 {K : PySem.W.Frag} {H : Hp} {Q : VK} {p q : Addr} {b : Bool} {i j : Int} (h1 : SqT K H p [.bl b, .int i, .int j]) (h2 : SqT K H q [.bl b, .int i, .int j]) (k : Q (.bl false) H) : rNeD K (.ref p) (.ref q) H Q :=
  ⟨.tuple [.bool b, .int i, .int j], .tuple [.bool b, .int i, .int j], .tup h1 (.cons (.bl b) (.cons (.int i) (.cons (.int j) .nil))), .tup h2 (.cons (.bl b) (.cons (.int i) (.cons (.int j) .nil))), by rfl, by rfl, by
    simp only [PyData.eqv, PyData.eqvAll, beq_self_eq_true, Bool.and_self, Bool.not_true]
    exact k⟩
theorem seqIx {i : Int} {n : Nat} (h0 : 0 ≤ i) (h1 : i < n) : seqIndex? i n = some i.toNat := by
  obtain ⟨j, rfl⟩ := Int.eq_ofNat_of_zero_le h0
  have e : ixN n (j : Int) = some j := by
    unfold ixN
    rw [if_pos (by omega), if_pos (by omega)]
    simp
  exact (ixN_seq e).1
theorem erase_map : ∀ {pl : List Int} {k : Nat}, (pl.map V.int).eraseIdx k = (pl.eraseIdx k).map V.int
  | [], _ => rfl
  | _ :: _, 0 => rfl
  | x :: r, k + 1 => by
    show V.int x :: (r.map V.int).eraseIdx k = V.int x :: (r.eraseIdx k).map V.int
    rw [erase_map]

local macro_rules | `(tactic| wtm_at "ne") => `(tactic| first
  | with_reducible assumption
  | ((with_reducible refine' Ne.symm ?h); (case h => with_reducible assumption))
  | ((with_reducible refine' ne_fresh ?n); (case n => with_reducible assumption))
  | ((with_reducible refine' Ne.symm (ne_fresh ?n)); (case n => with_reducible assumption))
  | ((refine' ne_of_none ?h ?n); (case n => with_reducible assumption); (case h => wtm_at "hp"))
  | ((refine' Ne.symm (ne_of_none ?h ?n)); (case n => with_reducible assumption); (case h => wtm_at "hp"))
  | fail "no rule")
local macro_rules | `(tactic| wtm_at "hp") => `(tactic| first
  | with_reducible assumption
  | with_reducible exact upd_same
  | ((with_reducible refine' upd_is ?e); (case e => exact rfl))
  | ((with_reducible refine' hu_ne ?n ?e); (case n => wtm_at "ne"); (case e => wtm_at "hp"))
  | ((with_reducible refine' Kp.g0 ?k ?e); (case k => with_reducible assumption); (case e => wtm_at "hp"))
  | ((with_reducible refine' Kp.g1 ?k ?n ?e); (case k => with_reducible assumption); (case n => wtm_at "ne"); (case e => wtm_at "hp"))
  | ((with_reducible refine' Kp.g2 ?k ?n ?m ?e); (case k => with_reducible assumption); (case n => wtm_at "ne"); (case m => wtm_at "ne"); (case e => wtm_at "hp"))
  | ((with_reducible refine' Kp.g3 ?k ?n ?m ?l ?e); (case k => with_reducible assumption); (case n => wtm_at "ne"); (case m => wtm_at "ne"); (case l => wtm_at "ne"); (case e => wtm_at "hp"))
  | fail "no rule")
local macro_rules | `(tactic| wtm_at "sq") => `(tactic| first
  | with_reducible assumption
  | wtm_at "sqx"
  | ((refine' SqL.of ?e); (case e => wtm_at "hp"))
  | ((refine' SqT.of ?e); (case e => wtm_at "hp"))
  | fail "no rule")
local macro_rules | `(tactic| wtm_at "at") => `(tactic| first
  | exact rfl
  | assumption
  | ((refine' atI_ints ?a ?b); (case a => omega); (case b => omega))
  | fail "no rule")
local macro_rules | `(tactic| wtm_at "cc") => `(tactic| first
  | assumption
  | exact rfl
  | decide
  | omega
  | ((refine' ⟨?a, ?b⟩); (case a => omega); (case b => omega))
  | ((refine' Or.inr ⟨?a, ?b⟩); (case a => omega); (case b => omega))
  | ((refine' Or.inl ⟨?a, ?b⟩); (case a => omega); (case b => omega))
  | ((refine' ⟨?a, ?b, ?c⟩); (case a => first | omega | decide | fail "num"); (case b => first | omega | decide | fail "num"); (case c => first | omega | decide | fail "num"))
  | fail "no rule")
local macro_rules | `(tactic| wtm_at "sz") => `(tactic| first
  | assumption
  | ((refine' szlt ?h); (case h => (simp; omega)))
  | ((refine' szlt ?h); (case h => omega))
  | ((refine' szlt ?h); (case h => exact Nat.le_of_ble_eq_true rfl))
  | ((refine' sz1000 ?h); (case h => (simp; done)))
  | ((refine' sz1000 ?h); (case h => omega))
  | fail "no rule")
local macro_rules | `(tactic| wtm_at "dg") => `(tactic| first
  | ((refine' dg_is ?a ?b); (case a => wtm_at "hp"); (case b => wtm_at "hp"))
  | ((refine' dg_i ?a); (case a => wtm_at "hp"))
  | ((refine' dg_s ?a); (case a => wtm_at "hp"))
  | fail "no rule")
local macro_rules | `(tactic| wtm_at "dgv") => `(tactic| first
  | ((refine' dg_sv ?a ?b); (case a => wtm_at "hp"); (case b => first | assumption | exact rfl | fail "look"))
  | ((refine' dg_iv ?a ?b); (case a => wtm_at "hp"); (case b => first | assumption | exact rfl | fail "look"))
  | fail "no rule")
local macro_rules | `(tactic| wtm_at "dp") => `(tactic| first
  | ((refine' dp_is ?a ?b ?c); (case a => wtm_at "hp"); (case b => wtm_at "hp"); (case c => wtm_at "sz"))
  | ((refine' dp_i ?a ?c); (case a => wtm_at "hp"); (case c => wtm_at "sz"))
  | ((refine' dp_s ?a ?c); (case a => wtm_at "hp"); (case c => wtm_at "sz"))
  | fail "no rule")
local macro_rules | `(tactic| wtm_at "rd1") => `(tactic| first
  | with_reducible refine' rd_seq ?_
  | with_reducible refine' rd_asg ?_
  | ((with_reducible refine' rd_var ?e ?_); (case e => exact rfl))
  | with_reducible refine' rd_c ?_
  | with_reducible refine' rd_op ?_
  | with_reducible refine' rd_gname ?_
  | with_reducible refine' rd_CB ?_
  | with_reducible refine' rd_cons ?_
  | with_reducible refine' rd_nil ?_
  | with_reducible refine' rd_ret ?_
  | with_reducible refine' rd_drop ?_
  | with_reducible refine' rd_ifS ?_
  | with_reducible refine' rd_test ?_
  | with_reducible refine' rd_exb ?_
  | with_reducible refine' rd_call ?_
  | with_reducible refine' rd_I0 ?_
  | ((with_reducible refine' rd_I ?c ?_); (case c => wtm_at "cc"))
  | ((with_reducible refine' rd_ixL ?h ?a ?_); (case h => wtm_at "sq"); (case a => wtm_at "at"))
  | ((with_reducible refine' rd_ixT ?h ?a ?_); (case h => wtm_at "sq"); (case a => wtm_at "at"))
  | with_reducible refine' rd_int1 ?_
  | with_reducible refine' rd_abs ?_
  | ((with_reducible refine' rd_lenI ?h ?_); (case h => wtm_at "sq"))
  | ((with_reducible refine' rd_lenL ?h ?_); (case h => wtm_at "sq"))
  | ((with_reducible refine' rd_lenT ?h ?_); (case h => wtm_at "sq"))
  | with_reducible refine' rd_eqI ?_
  | with_reducible refine' rd_neI ?_
  | with_reducible refine' rd_eqS ?_
  | with_reducible refine' rd_neS ?_
  | with_reducible refine' rd_eqB ?_
  | with_reducible refine' rd_neB ?_
  | with_reducible refine' rd_and ?_
  | with_reducible refine' rd_or ?_
  | with_reducible refine' rd_not ?_
  | with_reducible refine' rd_tB ?_
  | with_reducible refine' rd_gsub ?_
  | ((with_reducible refine' rd_setL ?h ?j ?_); (case h => wtm_at "hp"); (case j => exact rfl))
  | with_reducible refine' rd_next ?_
  | with_reducible refine' rd_un ?_
  | with_reducible refine' rd_U ?_
  | with_reducible refine' rd_tup ?_
  | with_reducible refine' rd_lst ?_
  | with_reducible refine' rd_bm ?_
  | with_reducible refine' rd_bm0 ?_
  | with_reducible refine' rd_meth ?_
  | with_reducible refine' rd_make ?_
  | with_reducible refine' rd_iTup ?_
  | ((with_reducible refine' rd_iTupX ?h ?_); (case h => wtm_at "sq"))
  | with_reducible refine' rd_for ?_
  | with_reducible refine' rd_iList ?_
  | ((with_reducible refine' rd_iListX ?h ?_); (case h => wtm_at "sq"))
  | with_reducible refine' rd_iRng1 ?_
  | ((with_reducible refine' rd_iRng1X ?h1 ?h2 ?_); (case h1 => wtm_at "cc"); (case h2 => wtm_at "cc"))
  | ((with_reducible refine' rd_iRng2X ?h1 ?_); (case h1 => ((refine' ⟨?a, ?b, ?c, ?d⟩); (case a => omega); (case b => omega); (case c => omega); (case d => omega))))
  | with_reducible refine' rd_iRng2 ?_
  | with_reducible refine' rd_lc ?_
  | with_reducible refine' rd_yes ?_
  | with_reducible refine' rd_andV ?_
  | with_reducible refine' rd_orV ?_
  | with_reducible refine' rd_notV ?_
  | with_reducible refine' rd_ifE ?_
  | with_reducible refine' rd_isN ?_
  | with_reducible refine' rd_notN ?_
  | with_reducible refine' rd_min2 ?_
  | with_reducible refine' rd_max2 ?_
  | with_reducible refine' rd_retN ?_
  | with_reducible refine' rd_brk ?_
  | with_reducible refine' rd_cont ?_
  | with_reducible refine' rd_tfld ?_
  | ((with_reducible refine' rd_fldX ?h ?c ?n ?l ?_); (case h => wtm_at "hp"); (case c => wtm_at "cls"); (case n => wtm_at "noat"); (case l => exact rfl))
  | with_reducible refine' rd_sfld ?_
  | ((with_reducible refine' rd_sfldX ?h ?c ?n ?l ?_); (case h => wtm_at "hp"); (case c => wtm_at "cls"); (case n => wtm_at "noat"); (case l => first | decide | exact Nat.le_of_ble_eq_true rfl | fail "len"))
  | with_reducible refine' rd_tcon ?_
  | ((with_reducible refine' rd_conX ?h ?c ?n ?l ?_); (case h => wtm_at "hp"); (case c => wtm_at "cls"); (case n => wtm_at "con"); (case l => exact rfl))
  | ((with_reducible refine' rd_methX ?h ?l ?_); (case h => wtm_at "hp"); (case l => exact rfl))
  | with_reducible refine' rd_isi_ii ?_
  | with_reducible refine' rd_isi_ib ?_
  | with_reducible refine' rd_isi_bb ?_
  | with_reducible refine' rd_isi_bi ?_
  | with_reducible refine' rd_isi_ss ?_
  | ((with_reducible refine' rd_isi_ll ?h ?_); (case h => wtm_at "hp"))
  | ((with_reducible refine' rd_isi_tt ?h ?_); (case h => wtm_at "hp"))
  | with_reducible refine' iteT ?_
  | with_reducible refine' iteF ?_
  | with_reducible refine' ite_nt ?_
  | with_reducible refine' ite_nf ?_
  | with_reducible refine' ite_in ?_
  | with_reducible refine' ite_rn ?_
  | with_reducible refine' ite_sn ?_
  | with_reducible refine' ite_bn ?_
  | with_reducible refine' ite_nn ?_
  | with_reducible refine' ite_xin ?_
  | with_reducible refine' ite_xrn ?_
  | with_reducible refine' ite_xnn ?_
  | with_reducible refine' rd_dget2 ?_
  | ((with_reducible refine' rd_isdX ?h ?_); (case h => first | ((refine' isD_T ?e); (case e => wtm_at "hp")) | ((refine' isD_K ?e); (case e => wtm_at "hp"))))
  | ((with_reducible refine' rd_dgX ?h ?_); (case h => wtm_at "dg"))
  | with_reducible refine' rd_sdput ?_
  | ((with_reducible refine' rd_dpX ?h ?_); (case h => wtm_at "dp"))
  | ((with_reducible refine' ty_l ?h ?_); (case h => wtm_at "sq"))
  | ((with_reducible refine' ty_d ?h ?_); (case h => wtm_at "hp"))
  | ((with_reducible refine' ty_dK ?h ?_); (case h => wtm_at "hp"))
  | ((with_reducible refine' rd_append ?h ?l ?_); (case h => wtm_at "hp"); (case l => wtm_at "sz"))
  | with_reducible refine' rd_lstRg ?_
  | with_reducible refine' rd_rg1 ?_
  | with_reducible refine' rd_rg2 ?_
  | with_reducible refine' rd_inX ?_
  | with_reducible refine' rd_inX2 ?_
  | ((with_reducible refine' rd_listL ?h ?_); (case h => wtm_at "sq"))
  | ((with_reducible refine' rd_gtup ?h ?l ?_); (case h => wtm_at "sq"); (case l => exact rfl))
  | with_reducible refine' rd_gcons ?_
  | with_reducible refine' rd_gnil ?_
  | with_reducible refine' rd_din ?_
  | with_reducible refine' rd_dnotin ?_
  | with_reducible refine' rd_dget ?_
  | with_reducible refine' rd_dget1 ?_
  | ((with_reducible refine' rd_dinX ?h ?_); (case h => wtm_at "dg"))
  | ((with_reducible refine' rd_dgetX ?h ?_); (case h => wtm_at "dgv"))
  | with_reducible refine' rd_pnil ?_
  | with_reducible refine' rd_pcons ?_
  | with_reducible refine' rd_sl ?_
  | with_reducible refine' rd_part ?_
  | with_reducible refine' rd_nopart ?_
  | ((with_reducible refine' rd_slL ?h ?_); (case h => wtm_at "sq"))
  | ((with_reducible refine' rd_clear ?h ?_); (case h => wtm_at "hp"))
  | ((with_reducible refine' rd_aug ?e ?_); (case e => exact rfl))
  | with_reducible refine' rd_ipI ?_
  | ((with_reducible refine' rd_inI ?h ?_); (case h => wtm_at "sq"))
  | ((with_reducible refine' rd_notInI ?h ?_); (case h => wtm_at "sq"))
  | ((with_reducible refine' rd_lenD ?h ?_); (case h => wtm_at "hp"))
  | with_reducible refine' rd_iEnum ?_
  | ((with_reducible refine' rd_iEnumX ?h ?_); (case h => wtm_at "sq"))
  | ((with_reducible refine' rd_eqLI ?h1 ?h2 ?_); (case h1 => wtm_at "sq"); (case h2 => wtm_at "sq"))
  | ((with_reducible refine' rd_neLI ?h1 ?h2 ?_); (case h1 => wtm_at "sq"); (case h2 => wtm_at "sq"))
  | fail "no rule")
local macro_rules | `(tactic| wtm_at "rd") => `(tactic| repeat wtm_at "rd1")
local macro_rules | `(tactic| wtm_at "hn") => `(tactic| first
  | with_reducible assumption
  | ((with_reducible refine' hn_ne ?n ?e); (case n => wtm_at "ne"); (case e => wtm_at "hn"))
  | ((refine' Kp.back ?k ?e ?n); (case k => with_reducible assumption); (case e => with_reducible assumption); (case n => first | with_reducible assumption | (simp; done) | fail "mem"))
  | fail "no rule")
local macro_rules | `(tactic| wtm_at "kp") => `(tactic| first
  | exact Kp.refl
  | with_reducible assumption
  | ((with_reducible refine' Kp.of0 ?k); (case k => with_reducible assumption))
  | ((with_reducible refine' Kp.wr ?a ?h); (case h => (simp; done)); (case a => wtm_at "kp"))
  | ((with_reducible refine' Kp.nw ?a ?h); (case h => wtm_at "hn"); (case a => wtm_at "kp"))
  | ((with_reducible refine' Kp.mine ?a ?h); (case h => wtm_at "hn"); (case a => wtm_at "kp"))
  | ((with_reducible refine' Kp.via1 ?a ?b ?n); (case b => with_reducible assumption); (case n => wtm_at "hn"); (case a => wtm_at "kp"))
  | ((with_reducible refine' Kp.trans ?a ?b); (case b => first | with_reducible assumption | ((with_reducible refine' Kp.of0 ?k); (case k => with_reducible assumption)) | fail "kp"); (case a => wtm_at "kp"))
  | fail "no rule")

section
variable {P : Program} {w : World} {K : PySem.W.Frag} {mg : Str → Option Value} {base : Heap}
def sp_l_purse (K : PySem.W.Frag) : Sp := fun vs H Q E => ∃ (a : Addr) (ns : List Int), vs = [.ref a] ∧ (SqL K H a (ns.map V.int)) ∧ (ns.length ≤ 63) ∧ (∀ p c H1, Purse H1 p c → Kp [] H H1 → H p = none → H c = none → Q (.ref p) H1)
theorem us_l_purse {K : PySem.W.Frag} {H : Hp} {Q : VK} {E : XK} {a : Addr} {ns : List Int} (hS : SqL K H a (ns.map V.int)) (hl : ns.length ≤ 63) (kk : ∀ p c H1, Purse H1 p c → Kp [] H H1 → H p = none → H c = none → Q (.ref p) H1) : sp_l_purse K [.ref a] H Q E := ⟨_, _, rfl, hS, hl, kk⟩
theorem f_l_purse (T : Cx K mg) : ∃ fd, FunD K "_law_purse" "_law_purse" (defArgs s_l_purse) (defBody s_l_purse) (defScope s_l_purse) (d_l_purse.dvs K) (d_l_purse.kws K) (fAd K d_l_purse.at_) fd ∧ FnOk P w K mg base CX0 1 (fAd K d_l_purse.at_) fd p_l_purse (sp_l_purse K) := by
  obtain ⟨fd, F⟩ := T.says.def_ 0 (d := d_l_purse) rfl
  refine ⟨fd, F, fnD F sc_l_purse (fun vs H Q E h => by
    obtain ⟨_, _, rfl, _⟩ := h
    rfl) fun cdv A outer s H vs Q E hr h => ?_⟩
  have hu := hu_of hr
  obtain ⟨a, ns, rfl, hS, hl, kk⟩ := h
  refine ⟨_, (pss_cons (ps_set (i := 1) sc_l_purse.nd rfl (by first | exact Or.inl rfl | exact Or.inr rfl) (pe_slice sl_list (pv 0) po_none (po_some pe_int))) (pss_cons (ps_set (i := 2) sc_l_purse.nd rfl (by first | exact Or.inl rfl | exact Or.inr rfl) pe_int) (pss_cons (ps_for PassesOwn.never rfl (pi_list (pv 1)) (pg_name (i := 3) sc_l_purse.nd rfl (by first | exact Or.inl rfl | exact Or.inr rfl)) (pss_one (ps_set (i := 2) sc_l_purse.nd rfl (by first | exact Or.inl rfl | exact Or.inr rfl) (pe_op op_mod (pe_callTy call_int1' (by rfl) (fr_int T) (by decide +kernel) (pa_cons (pe_op op_add (pe_op op_add (pe_op op_mul (pv 2) pe_int) (pe_op op_mod (pe_callTy call_int1' (by rfl) (fr_int T) (by decide +kernel) (pa_cons (pv 3) pa_nil)) pe_int)) pe_int) pa_nil)) pe_int)))) (pss_one (ps_ret (pe_disp (pps_cons pe_str (pv 1) (pps_cons pe_str pe_int (pps_cons pe_str pe_int (pps_cons pe_str pe_int (pps_cons pe_str pe_int (pps_cons pe_str (pv 2) (pps_cons pe_str pe_int pps_nil))))))) (by rfl) (by rfl) (fun z => by cases z) (by decide))))))), ?_⟩
  rw [show L2.start n_l_purse [.ref a] = [some (.ref a), none, none, none] from rfl]
  try dsimp only [cxOf, Cx.nox, Cx.wish, List.map]

  wtm_at "rd"
  intro c nc
  have e : cutV (ns.map V.int) none (some 63) = ns.map V.int := by
    rw [show (63 : Int) = ((63 : Nat) : Int) from rfl, cut_to, List.take_of_length_le (by rw [List.length_map]; exact hl)]
  rw [e]
  wtm_at "rd"
  refine forL_ints ns (fun i σ H1 => (∃ s v3, σ = [some (.ref a), some (.ref c), some (.int s), v3]) ∧ H1 = upd H c (.lst (ns.map V.int))) ⟨⟨_, _, rfl⟩, rfl⟩ (fun i σ H1 _ q => ?_) ?_ ?_
  · rw [q.2]
    exact SqL.of upd_same
  · rintro i hi σ H1 ⟨⟨s, v3, rfl⟩, rfl⟩
    wtm_at "rd"
    exact ⟨⟨_, _, rfl⟩, rfl⟩
  · rintro σ H1 ⟨⟨s, v3, rfl⟩, rfl⟩
    wtm_at "rd"
    refine rd_disp fun p np => ?_
    wtm_at "rd"
    refine ⟨upd_same, purse c 0 0 0 0 s 0, rfl, Nat.le_of_ble_eq_true rfl, ?_⟩
    rw [merge_purse]
    have np' : H p = none := Kp.back (Kp.new (ps := []) nc) np (by simp)
    have ncp : c ≠ p := ne_of_none upd_same np
    have u1 : upd (upd (upd H c (.lst (ns.map V.int))) p (.dK [])) p (.dK (purse c 0 0 0 0 s 0)) p = some (.dK (purse c 0 0 0 0 s 0)) := upd_same
    have u2 : upd (upd (upd H c (.lst (ns.map V.int))) p (.dK [])) p (.dK (purse c 0 0 0 0 s 0)) c = some (.lst (ns.map V.int)) := hu_ne ncp (hu_ne ncp upd_same)
    have u3 : Kp [] H (upd (upd (upd H c (.lst (ns.map V.int))) p (.dK [])) p (.dK (purse c 0 0 0 0 s 0))) := ((Kp.new nc).nw np).mine np'
    exact kk p c _ ⟨ns, 0, 0, 0, 0, s, 0, u1, u2, by decide, hl⟩ u3 np' nc
theorem c_l_purse (T : Cx K mg) : CalX P w K mg base CX0 1 "_law_purse" (sp_l_purse K) [] := by
  obtain ⟨fd, F, ok⟩ := f_l_purse (P := P) (w := w) (base := base) T
  exact ⟨_, fd, p_l_purse, [], ok, gl_l_purse T, F.kp, FunD.bindsN F fun _ _ _ _ _ _ us hl => match us, hl with | [_], _ => rfl, .nil⟩
end
section
variable {P : Program} {w : World} {K : PySem.W.Frag} {mg : Str → Option Value} {base : Heap}
def sp_l_mixed (K : PySem.W.Frag) : Sp := fun vs H Q E => ∃ (s pl : Int), vs = [.int s, .int pl] ∧ (∀ n, 0 ≤ n → Q (.int n) H)
theorem us_l_mixed {K : PySem.W.Frag} {H : Hp} {Q : VK} {E : XK} {s pl : Int}  (kk : ∀ n, 0 ≤ n → Q (.int n) H) : sp_l_mixed K [.int s, .int pl] H Q E := ⟨_, _, rfl, kk⟩
theorem f_l_mixed (T : Cx K mg) : ∃ fd, FunD K "_law_mixed" "_law_mixed" (defArgs s_l_mixed) (defBody s_l_mixed) (defScope s_l_mixed) (d_l_mixed.dvs K) (d_l_mixed.kws K) (fAd K d_l_mixed.at_) fd ∧ FnOk P w K mg base CX0 1 (fAd K d_l_mixed.at_) fd p_l_mixed (sp_l_mixed K) := by
  obtain ⟨fd, F⟩ := T.says.def_ 1 (d := d_l_mixed) rfl
  refine ⟨fd, F, fnD F sc_l_mixed (fun vs H Q E h => by
    obtain ⟨_, _, rfl, _⟩ := h
    rfl) fun cdv A outer s H vs Q E hr h => ?_⟩
  have hu := hu_of hr
  obtain ⟨s, pl, rfl, kk⟩ := h
  refine ⟨_, (pss_cons (ps_set (i := 2) sc_l_mixed.nd rfl (by first | exact Or.inl rfl | exact Or.inr rfl) (pe_op op_mod (pe_callTy call_int1' (by rfl) (fr_int T) (by decide +kernel) (pa_cons (pe_op op_add (pe_op op_add (pe_op op_mul (pv 0) pe_int) (pe_op op_mul (pv 1) pe_int)) pe_int) pa_nil)) pe_int)) (pss_cons (ps_set (i := 3) sc_l_mixed.nd rfl (by first | exact Or.inl rfl | exact Or.inr rfl) (pe_op op_mod (pe_callTy call_int1' (by rfl) (fr_int T) (by decide +kernel) (pa_cons (pe_op op_add (pe_op op_add (pe_op op_mul (pv 2) (pe_op op_add (pe_op op_fdiv (pv 2) pe_int) pe_int)) (pe_op op_mul (pv 1) pe_int)) (pv 0)) pa_nil)) pe_int)) (pss_one (ps_ret (pe_op op_fdiv (pv 3) pe_int))))), ?_⟩
  rw [show L2.start n_l_mixed [.int s, .int pl] = [some (.int s), some (.int pl), none, none] from rfl]
  try dsimp only [cxOf, Cx.nox, Cx.wish, List.map]

  wtm_at "rd"
  exact kk _ (by omega)
theorem c_l_mixed (T : Cx K mg) : CalX P w K mg base CX0 1 "_law_mixed" (sp_l_mixed K) [] := by
  obtain ⟨fd, F, ok⟩ := f_l_mixed (P := P) (w := w) (base := base) T
  exact ⟨_, fd, p_l_mixed, [], ok, gl_l_mixed T, F.kp, FunD.bindsN F fun _ _ _ _ _ _ us hl => match us, hl with | [_, _], _ => rfl, .nil⟩
end
section
variable {P : Program} {w : World} {K : PySem.W.Frag} {mg : Str → Option Value} {base : Heap}
def sp_l_draw (K : PySem.W.Frag) : Sp := fun vs H Q E => ∃ (p c : Addr) (many : Int), vs = [.ref p, .int many] ∧ (Purse H p c) ∧ (0 < many) ∧ (many < 1073741824) ∧ (∀ n H1, 0 ≤ n → n < many → Purse H1 p c → Kp [p] H H1 → Q (.int n) H1)
theorem us_l_draw {K : PySem.W.Frag} {H : Hp} {Q : VK} {E : XK} {p c : Addr} {many : Int} (hB : Purse H p c) (m0 : 0 < many) (m1 : many < 1073741824) (kk : ∀ n H1, 0 ≤ n → n < many → Purse H1 p c → Kp [p] H H1 → Q (.int n) H1) : sp_l_draw K [.ref p, .int many] H Q E := ⟨_, _, _, rfl, hB, m0, m1, kk⟩
theorem f_l_draw (T : Cx K mg) : ∃ fd, FunD K "_law_draw" "_law_draw" (defArgs s_l_draw) (defBody s_l_draw) (defScope s_l_draw) (d_l_draw.dvs K) (d_l_draw.kws K) (fAd K d_l_draw.at_) fd ∧ FnOk P w K mg base CX0 2 (fAd K d_l_draw.at_) fd p_l_draw (sp_l_draw K) := by
  have c_l_mixed := c_l_mixed (P := P) (w := w) (base := base) T
  obtain ⟨fd, F⟩ := T.says.def_ 2 (d := d_l_draw) rfl
  refine ⟨fd, F, fnD F sc_l_draw (fun vs H Q E h => by
    obtain ⟨_, _, _, rfl, _⟩ := h
    rfl) fun cdv A outer s H vs Q E hr h => ?_⟩
  have hu := hu_of hr
  obtain ⟨p, c, many, rfl, hB, m0, m1, kk⟩ := h
  refine ⟨_, (pss_cons (ps_dput hu (pv 0) pe_str (pe_op op_add (pe_dget hu (pv 0) pe_str (fun _ _ => rfl)) pe_int) rfl) (C8.pss_cut (ps_if (PW.pt (pw_and (pt_cmpR op_eq (pe_dget hu (pv 0) pe_str (fun _ _ => rfl)) pe_int (nomark _)) (pw_and (pt_cmpR op_eq (pe_dget hu (pv 0) pe_str (fun _ _ => rfl)) pe_int (nomark _)) (pw_and1 (pt_cmpR op_lt (pe_dget hu (pv 0) pe_str (fun _ _ => rfl)) (pe_callB call_lenS (by rfl) (fr_len T) (by decide +kernel) (pa_cons (pe_dget hu (pv 0) pe_str (fun _ _ => rfl)) pa_nil)) (nomark _)))))) (pss_cons (ps_set (i := 2) sc_l_draw.nd rfl (by first | exact Or.inl rfl | exact Or.inr rfl) (pe_ix ix_list (pe_dget hu (pv 0) pe_str (fun _ _ => rfl)) (pe_dget hu (pv 0) pe_str (fun _ _ => rfl)) (fun _ _ => rfl))) (pss_cons (ps_dput hu (pv 0) pe_str (pe_op op_add (pe_dget hu (pv 0) pe_str (fun _ _ => rfl)) pe_int) rfl) (pss_one (ps_if (pt_cmpR op_ge (pv 2) (pe_op op_pow pe_int pe_int) (nomark _)) (pss_one (ps_dput hu (pv 0) pe_str (pv 2) rfl)) (pss_cons (ps_dput hu (pv 0) pe_str (pe_op op_mod (pe_callTy call_int1' (by rfl) (fr_int T) (by decide +kernel) (pa_cons (pv 2) pa_nil)) pe_int) rfl) (pss_one (ps_dput hu (pv 0) pe_str pe_int rfl))))))) pss_nil) (pss_cons (ps_if (pt_cmpR op_gt (pe_dget hu (pv 0) pe_str (fun _ _ => rfl)) pe_int (nomark _)) (pss_cons (ps_set (i := 3) sc_l_draw.nd rfl (by first | exact Or.inl rfl | exact Or.inr rfl) (pe_op op_mod (pe_callTy call_int1' (by rfl) (fr_int T) (by decide +kernel) (pa_cons (pe_dget hu (pv 0) pe_str (fun _ _ => rfl)) pa_nil)) (pv 1))) (pss_cons (ps_dput hu (pv 0) pe_str (pe_op op_fdiv (pe_dget hu (pv 0) pe_str (fun _ _ => rfl)) (pv 1)) rfl) (pss_one (ps_ret (pv 3))))) pss_nil) (pss_cons (ps_if (pt_cmpR op_gt (pe_dget hu (pv 0) pe_str (fun _ _ => rfl)) pe_int (nomark _)) (pss_cons (ps_dput hu (pv 0) pe_str (pe_op op_sub (pe_dget hu (pv 0) pe_str (fun _ _ => rfl)) pe_int) rfl) (pss_one (ps_ret (pe_op op_mod (pe_callTy call_int1' (by rfl) (fr_int T) (by decide +kernel) (pa_cons (pe_cal c_l_mixed hr (by decide) (by rfl) pass0 (pa_cons (pe_dget hu (pv 0) pe_str (fun _ _ => rfl)) (pa_cons (pe_dget hu (pv 0) pe_str (fun _ _ => rfl)) pa_nil))) pa_nil)) (pv 1))))) pss_nil) (pss_cons (ps_if (pt_cmpR op_eq (pe_dget hu (pv 0) pe_str (fun _ _ => rfl)) pe_int (nomark _)) (pss_one (ps_ret pe_int)) pss_nil) (pss_one (ps_ret (pe_op op_mod (pe_callTy call_int1' (by rfl) (fr_int T) (by decide +kernel) (pa_cons (pe_cal c_l_mixed hr (by decide) (by rfl) pass0 (pa_cons (pe_dget hu (pv 0) pe_str (fun _ _ => rfl)) (pa_cons (pe_dget hu (pv 0) pe_str (fun _ _ => rfl)) pa_nil))) pa_nil)) (pv 1))))))))), ?_⟩
  rw [show L2.start n_l_draw [.ref p, .int many] = [some (.ref p), some (.int many), none, none] from rfl]
  try dsimp only [cxOf, Cx.nox, Cx.wish, List.map]

  obtain ⟨ns, a, b, d, e, f, g, h1, h2, h3, h4⟩ := hB
  have ncp : c ≠ p := ne_of h2 h1 (by intro z; cases z)
  wtm_at "rd"
  have h1' : upd H p (.dK (putK (purse c a b d e f g) (.inr "count") (.int (g + 1)))) p = some (.dK (purse c a b d e f (g + 1))) := upd_same
  have h2' : upd H p (.dK (putK (purse c a b d e f g) (.inr "count") (.int (g + 1)))) c = some (.lst (ns.map V.int)) := hu_ne ncp h2
  have k1 : Kp [p] H (upd H p (.dK (putK (purse c a b d e f g) (.inr "count") (.int (g + 1))))) := by wtm_at "kp"
  generalize upd H p (.dK (putK (purse c a b d e f g) (.inr "count") (.int (g + 1)))) = H1 at h1' h2' k1
  refine rd_cut (fun σ' H2 => (∃ v2 v3, σ' = [some (.ref p), some (.int many), v2, v3]) ∧ Purse H2 p c ∧ Kp [p] H H2) ?_ ?_
  · have done : ∃ v2 v3, ([some (.ref p), some (.int many), none, none] : List (Option V)) = [some (.ref p), some (.int many), v2, v3] := ⟨_, _, rfl⟩
    have stay : (∃ v2 v3, ([some (.ref p), some (.int many), none, none] : List (Option V)) = [some (.ref p), some (.int many), v2, v3]) ∧ Purse H1 p c ∧ Kp [p] H H1 := ⟨done, ⟨ns, a, b, d, e, f, g + 1, h1', h2', h3, h4⟩, k1⟩
    wtm_at "rd"
    refine ite_d (fun c1 => ?_) (fun c1 => ?_)
    · wtm_at "rd"
      refine ite_d (fun c2 => ?_) (fun c2 => ?_)
      · wtm_at "rd"
        refine ite_d (fun c3 => ?_) (fun c3 => ?_)
        · wtm_at "rd"
          refine ite_d (fun c4 => ?_) (fun c4 => ?_)
          · wtm_at "rd"
            exact ⟨⟨_, _, rfl⟩, ⟨ns, a + 1, _, d, e, f, g + 1, upd_same, by wtm_at "hp", by omega, h4⟩, by wtm_at "kp"⟩
          · wtm_at "rd"
            exact ⟨⟨_, _, rfl⟩, ⟨ns, a + 1, b, _, _, f, g + 1, upd_same, by wtm_at "hp", by omega, h4⟩, by wtm_at "kp"⟩
        · wtm_at "rd"
          exact stay
      · wtm_at "rd"
        exact stay
    · wtm_at "rd"
      exact stay
  · rintro σ' H2 ⟨⟨v2, v3, rfl⟩, ⟨ns, a, b, d, e, f, g, h1, h2, h3, h4⟩, k2⟩
    wtm_at "rd"
    refine ite_d (fun c1 => ?_) (fun c1 => ?_)
    · wtm_at "rd"
      exact kk _ _ (Int.emod_nonneg _ (by omega)) (Int.emod_lt_of_pos _ m0) ⟨ns, a, _, d, e, f, g, upd_same, by wtm_at "hp", h3, h4⟩ (by wtm_at "kp")
    · wtm_at "rd"
      refine ite_d (fun c2 => ?_) (fun c2 => ?_)
      · wtm_at "rd"
        refine us_l_mixed fun n n0 => ?_
        wtm_at "rd"
        exact kk _ _ (Int.emod_nonneg _ (by omega)) (Int.emod_lt_of_pos _ m0) ⟨ns, a, b, _, e, f, g, upd_same, by wtm_at "hp", h3, h4⟩ (by wtm_at "kp")
      · wtm_at "rd"
        refine ite_d (fun c3 => ?_) (fun c3 => ?_)
        · wtm_at "rd"
          exact kk _ _ (by decide) m0 ⟨ns, a, b, d, e, f, g, h1, h2, h3, h4⟩ k2
        · wtm_at "rd"
          refine us_l_mixed fun n n0 => ?_
          wtm_at "rd"
          exact kk _ _ (Int.emod_nonneg _ (by omega)) (Int.emod_lt_of_pos _ m0) ⟨ns, a, b, d, e, f, g, h1, h2, h3, h4⟩ k2
theorem c_l_draw (T : Cx K mg) : CalX P w K mg base CX0 2 "_law_draw" (sp_l_draw K) [] := by
  obtain ⟨fd, F, ok⟩ := f_l_draw (P := P) (w := w) (base := base) T
  exact ⟨_, fd, p_l_draw, [], ok, gl_l_draw T, F.kp, FunD.bindsN F fun _ _ _ _ _ _ us hl => match us, hl with | [_, _], _ => rfl, .nil⟩
end
section
variable {P : Program} {w : World} {K : PySem.W.Frag} {mg : Str → Option Value} {base : Heap}
def sp_l_seats (K : PySem.W.Frag) : Sp := fun vs H Q E => ∃ (p c : Addr) (ring many : Int), vs = [.ref p, .int ring, .int many] ∧ (Purse H p c) ∧ (1 ≤ many) ∧ (many ≤ ring) ∧ (ring ≤ 256) ∧ (∀ l (xs : List Int) H1, H1 l = some (.lst (xs.map V.int)) → xs.Nodup → (xs.length : Int) = many → Purse H1 p c → Kp [p] H H1 → H l = none → Q (.ref l) H1)
theorem us_l_seats {K : PySem.W.Frag} {H : Hp} {Q : VK} {E : XK} {p c : Addr} {ring many : Int} (hB : Purse H p c) (m0 : 1 ≤ many) (m1 : many ≤ ring) (m2 : ring ≤ 256) (kk : ∀ l (xs : List Int) H1, H1 l = some (.lst (xs.map V.int)) → xs.Nodup → (xs.length : Int) = many → Purse H1 p c → Kp [p] H H1 → H l = none → Q (.ref l) H1) : sp_l_seats K [.ref p, .int ring, .int many] H Q E := ⟨_, _, _, _, rfl, hB, m0, m1, m2, kk⟩
theorem f_l_seats (T : Cx K mg) : ∃ fd, FunD K "_law_seats" "_law_seats" (defArgs s_l_seats) (defBody s_l_seats) (defScope s_l_seats) (d_l_seats.dvs K) (d_l_seats.kws K) (fAd K d_l_seats.at_) fd ∧ FnOk P w K mg base CX0 3 (fAd K d_l_seats.at_) fd p_l_seats (sp_l_seats K) := by
  have c_l_draw := c_l_draw (P := P) (w := w) (base := base) T
  obtain ⟨fd, F⟩ := T.says.def_ 3 (d := d_l_seats) rfl
  refine ⟨fd, F, fnD F sc_l_seats (fun vs H Q E h => by
    obtain ⟨_, _, _, _, rfl, _⟩ := h
    rfl) fun cdv A outer s H vs Q E hr h => ?_⟩
  have hu := hu_of hr
  obtain ⟨p, c, ring, many, rfl, hB, m0, m1, m2, kk⟩ := h
  refine ⟨_, (pss_cons (ps_set (i := 3) sc_l_seats.nd rfl (by first | exact Or.inl rfl | exact Or.inr rfl) (pe_listRg rfl (by rfl) (fr_list T) (prg_1 (by rfl) (fr_range T) (pv 1)))) (pss_cons (ps_set (i := 4) sc_l_seats.nd rfl (by first | exact Or.inl rfl | exact Or.inr rfl) (pe_lst pa_nil)) (pss_cons (ps_for PassesOwn.never rfl (pi_range1 (by rfl) (fr_range T) (pa_cons (pv 2) pa_nil)) (pg_name (i := 5) sc_l_seats.nd rfl (by first | exact Or.inl rfl | exact Or.inr rfl)) (pss_one (ps_expr (pe_bm PySem.F.plainAttrs_list PySem.F.slot_list_append PySem.F.type_list_append mt_append (pv 4) (pa_cons (pe_bm PySem.F.plainAttrs_list PySem.F.slot_list_pop PySem.F.type_list_pop mt_popAt (pv 3) (pa_cons (pe_cal c_l_draw hr (by decide) (by rfl) pass0 (pa_cons (pv 0) (pa_cons (pe_callB call_lenS (by rfl) (fr_len T) (by decide +kernel) (pa_cons (pv 3) pa_nil)) pa_nil))) pa_nil)) pa_nil))))) (pss_one (ps_ret (pv 4)))))), ?_⟩
  rw [show L2.start n_l_seats [.ref p, .int ring, .int many] = [some (.ref p), some (.int ring), some (.int many), none, none, none] from rfl]
  try dsimp only [cxOf, Cx.nox, Cx.wish, List.map]

  wtm_at "rd"
  refine ⟨RgOk.of_le (by omega) (by omega) (by omega) (by omega), fun pl npl => ?_⟩
  rw [rgV_0]
  wtm_at "rd"
  refine ⟨sz1000 (by simp), fun fd nfd => ?_⟩
  wtm_at "rd"
  have nfd' : H fd = none := Kp.back (Kp.new (ps := []) npl) nfd (by simp)
  have npf : pl ≠ fd := by wtm_at "ne"
  have npp : pl ≠ p := by
    obtain ⟨ns, a, b, d, e, f, g, h1, -⟩ := hB
    exact Ne.symm (ne_of_none h1 npl)
  have nfp : fd ≠ p := by
    obtain ⟨ns, a, b, d, e, f, g, h1, -⟩ := hB
    exact Ne.symm (ne_of_none h1 nfd')
  have ncs : c ≠ pl ∧ c ≠ fd := by
    obtain ⟨ns, a, b, d, e, f, g, h1, h2, -⟩ := hB
    exact ⟨ne_of_none h2 npl, ne_of_none h2 nfd'⟩
  refine forR_by (fun i σ H1 => (∃ v5, σ = [some (.ref p), some (.int ring), some (.int many), some (.ref pl), some (.ref fd), v5]) ∧ ∃ us ws : List Int, H1 pl = some (.lst (us.map V.int)) ∧ H1 fd = some (.lst (ws.map V.int)) ∧ ws.length = i ∧
    (us.length : Int) + i = ring ∧ (ws ++ us).Perm ((List.range ring.toNat).map fun (i : Nat) => (i : Int)) ∧ Purse H1 p c ∧ Kp [p] H H1) ?_ ?_ ?_
  · refine ⟨⟨_, rfl⟩, _, [], by wtm_at "hp", upd_same, rfl, by simp; omega, by simp, hB.k0 ((Kp.new npl).nw nfd), ((Kp.new npl).nw nfd).of0⟩
  · rintro i σ H1 hi ⟨⟨v5, rfl⟩, us, ws, h1, h2, h3, h4, h5, h6, h7⟩
    wtm_at "rd"
    refine us_l_draw h6 (by omega) (by omega) fun n H2 n0 n1 B2 k2 => ?_
    have h1' := k2.g1 npp h1
    have h2' := k2.g1 nfp h2
    have hn : n.toNat < us.length := by omega
    wtm_at "rd"
    refine rd_popAt h1' (by omega) (by omega) (k := n.toNat) (v := .int us[n.toNat]) (by rw [List.length_map]; exact seqIx n0 n1) (by rw [List.getElem?_map, List.getElem?_eq_getElem hn]; rfl) ?_
    rw [erase_map]
    have hfd : upd H2 pl (.lst ((us.eraseIdx n.toNat).map V.int)) fd = some (.lst (ws.map V.int)) := hu_ne (Ne.symm npf) h2'
    wtm_at "rd"
    refine ⟨⟨_, rfl⟩, us.eraseIdx n.toNat, ws ++ [us[n.toNat]], hu_ne npf upd_same, by rw [upd_same, List.map_append]; rfl, by simp [h3], ?_, ?_, ?_, ?_⟩
    · rw [List.length_eraseIdx_of_lt hn]
      omega
    · refine List.Perm.trans ?_ h5
      rw [List.append_assoc]
      exact List.Perm.append_left ws (erase_perm hn)
    · have kx : Kp [pl, fd] H2 (upd (upd H2 pl (.lst ((us.eraseIdx n.toNat).map V.int))) fd (.lst (ws.map V.int ++ [V.int us[n.toNat]]))) := by wtm_at "kp"
      exact B2.kp kx (by simp [Ne.symm npp, Ne.symm nfp]) (by simp [ncs.1, ncs.2])
    · exact ((h7.trans k2).mine npl).mine nfd'
  · rintro σ H1 ⟨⟨v5, rfl⟩, us, ws, h1, h2, h3, h4, h5, h6, h7⟩
    wtm_at "rd"
    refine kk fd ws H1 h2 ?_ (by omega) h6 h7 nfd'
    have hN : (ws ++ us).Nodup := (List.Perm.nodup_iff h5).mpr (by
      rw [List.Nodup, List.pairwise_map]
      exact List.Pairwise.imp (fun {a b} (h : a ≠ b) e => h (Int.ofNat.inj e)) List.nodup_range)
    exact (List.nodup_append.mp hN).1
theorem c_l_seats (T : Cx K mg) : CalX P w K mg base CX0 3 "_law_seats" (sp_l_seats K) [] := by
  obtain ⟨fd, F, ok⟩ := f_l_seats (P := P) (w := w) (base := base) T
  exact ⟨_, fd, p_l_seats, [], ok, gl_l_seats T, F.kp, FunD.bindsN F fun _ _ _ _ _ _ us hl => match us, hl with | [_, _, _], _ => rfl, .nil⟩
end
section
variable {P : Program} {w : World} {K : PySem.W.Frag} {mg : Str → Option Value} {base : Heap}
def sp_l_number (K : PySem.W.Frag) : Sp := fun vs H Q E => ∃ (a b : Int), vs = [.int a, .int b] ∧ (Q (.bl (decide (a = b))) H)
theorem us_l_number {K : PySem.W.Frag} {H : Hp} {Q : VK} {E : XK} {a b : Int}  (kk : Q (.bl (decide (a = b))) H) : sp_l_number K [.int a, .int b] H Q E := ⟨_, _, rfl, kk⟩
theorem f_l_number (T : Cx K mg) : ∃ fd, FunD K "_law_number" "_law_number" (defArgs s_l_number) (defBody s_l_number) (defScope s_l_number) (d_l_number.dvs K) (d_l_number.kws K) (fAd K d_l_number.at_) fd ∧ FnOk P w K mg base CX0 1 (fAd K d_l_number.at_) fd p_l_number (sp_l_number K) := by
  obtain ⟨fd, F⟩ := T.says.def_ 4 (d := d_l_number) rfl
  refine ⟨fd, F, fnD F sc_l_number (fun vs H Q E h => by
    obtain ⟨_, _, rfl, _⟩ := h
    rfl) fun cdv A outer s H vs Q E hr h => ?_⟩
  have hu := hu_of hr
  obtain ⟨a, b, rfl, kk⟩ := h
  refine ⟨_, (pss_one (ps_ret (pe_and (pe_callB call_isi (by rfl) (fr_isinstance T) (by decide +kernel) (pa_cons (pv 0) (pa_cons (pe_bltn (v := .ty "int") (by rfl) (fr_int T) (by decide +kernel) rfl) pa_nil))) (pe_and (pe_not (pe_callB call_isi (by rfl) (fr_isinstance T) (by decide +kernel) (pa_cons (pv 0) (pa_cons (pe_bltn (v := .ty "bool") (by rfl) (fr_bool T) (by decide +kernel) rfl) pa_nil)))) (pe_one (pe_cmpR op_eq (pv 0) (pv 1) (nomark _))))))), ?_⟩
  rw [show L2.start n_l_number [.int a, .int b] = [some (.int a), some (.int b)] from rfl]
  try dsimp only [cxOf, Cx.nox, Cx.wish, List.map]

  wtm_at "rd"
  exact kk
theorem c_l_number (T : Cx K mg) : CalX P w K mg base CX0 1 "_law_number" (sp_l_number K) [] := by
  obtain ⟨fd, F, ok⟩ := f_l_number (P := P) (w := w) (base := base) T
  exact ⟨_, fd, p_l_number, [], ok, gl_l_number T, F.kp, FunD.bindsN F fun _ _ _ _ _ _ us hl => match us, hl with | [_, _], _ => rfl, .nil⟩
end
section
variable {P : Program} {w : World} {K : PySem.W.Frag} {mg : Str → Option Value} {base : Heap}
def sp_l_least (K : PySem.W.Frag) : Sp := fun vs H Q E => ∃ (n : Nat), vs = [.int n] ∧ (1 ≤ n) ∧ (n ≤ 2 ^ 62) ∧ (∀ r : Nat, Lr r n → Q (.int r) H)
theorem us_l_least {K : PySem.W.Frag} {H : Hp} {Q : VK} {E : XK} {n : Nat} (h1 : 1 ≤ n) (h2 : n ≤ 2 ^ 62) (kk : ∀ r : Nat, Lr r n → Q (.int r) H) : sp_l_least K [.int n] H Q E := ⟨_, rfl, h1, h2, kk⟩
theorem f_l_least (T : Cx K mg) : ∃ fd, FunD K "_law_least" "_law_least" (defArgs s_l_least) (defBody s_l_least) (defScope s_l_least) (d_l_least.dvs K) (d_l_least.kws K) (fAd K d_l_least.at_) fd ∧ FnOk P w K mg base CX0 1 (fAd K d_l_least.at_) fd p_l_least (sp_l_least K) := by
  obtain ⟨fd, F⟩ := T.says.def_ 5 (d := d_l_least) rfl
  refine ⟨fd, F, fnD F sc_l_least (fun vs H Q E h => by
    obtain ⟨_, rfl, _⟩ := h
    rfl) fun cdv A outer s H vs Q E hr h => ?_⟩
  have hu := hu_of hr
  obtain ⟨n, rfl, h1, h2, kk⟩ := h
  refine ⟨_, (pss_cons (ps_set (i := 1) sc_l_least.nd rfl (by first | exact Or.inl rfl | exact Or.inr rfl) pe_int) (pss_cons (ps_set (i := 2) sc_l_least.nd rfl (by first | exact Or.inl rfl | exact Or.inr rfl) pe_int) (pss_cons (ps_for PassesOwn.never rfl (pi_range1 (by rfl) (fr_range T) (pa_cons pe_int pa_nil)) (pg_name (i := 3) sc_l_least.nd rfl (by first | exact Or.inl rfl | exact Or.inr rfl)) (pss_one (ps_if (pt_cmpR op_lt (pv 2) (pv 0) (nomark _)) (pss_cons (ps_set (i := 2) sc_l_least.nd rfl (by first | exact Or.inl rfl | exact Or.inr rfl) (pe_op op_mul (pv 2) pe_int)) (pss_one (ps_set (i := 1) sc_l_least.nd rfl (by first | exact Or.inl rfl | exact Or.inr rfl) (pe_op op_add (pv 1) pe_int)))) pss_nil))) (pss_one (ps_ret (pv 1)))))), ?_⟩
  rw [show L2.start n_l_least [.int n] = [some (.int n), none, none, none] from rfl]
  try dsimp only [cxOf, Cx.nox, Cx.wish, List.map]

  wtm_at "rd"
  refine forR_by (fun i σ H1 => H1 = H ∧ ∃ (r : Nat) (v3 : Option V), σ = [some (.int n), some (.int r), some (.int ((2 ^ r : Nat) : Int)), v3] ∧ r ≤ i ∧ (r = 0 ∨ 2 ^ (r - 1) < n) ∧ (r < i → n ≤ 2 ^ r)) ?_ ?_ ?_
  · exact ⟨rfl, 0, _, rfl, Nat.le_refl _, .inl rfl, fun h => by omega⟩
  · rintro i σ H1 hi ⟨rfl, r, v3, rfl, h3, h4, h5⟩
    wtm_at "rd"
    refine ite_d (fun c1 => ?_) (fun c1 => ?_)
    · wtm_at "rd"
      have c2 : 2 ^ r < n := by omega
      refine ⟨rfl, r + 1, some (.int (0 + (i : Int))), ?_, by omega, .inr (by simpa using c2), fun h => ?_⟩
      · rw [pow2_succ]
        rfl
      · have := h5 (by omega)
        omega
    · wtm_at "rd"
      have c2 : n ≤ 2 ^ r := by omega
      exact ⟨rfl, r, _, rfl, by omega, h4, fun _ => c2⟩
  · rintro σ H1 ⟨rfl, r, v3, rfl, h3, h4, h5⟩
    wtm_at "rd"
    refine kk r ⟨?_, h4⟩
    by_cases h : r < (64 : Int).toNat
    · exact h5 h
    · exfalso
      have hr : r = 64 := by
        have : (64 : Int).toNat = 64 := rfl
        omega
      subst hr
      rcases h4 with h4 | h4
      · omega
      · have : (2 : Nat) ^ 62 ≤ 2 ^ (64 - 1) := Nat.pow_le_pow_right (by decide) (by decide)
        omega
theorem c_l_least (T : Cx K mg) : CalX P w K mg base CX0 1 "_law_least" (sp_l_least K) [] := by
  obtain ⟨fd, F, ok⟩ := f_l_least (P := P) (w := w) (base := base) T
  exact ⟨_, fd, p_l_least, [], ok, gl_l_least T, F.kp, FunD.bindsN F fun _ _ _ _ _ _ us hl => match us, hl with | [_], _ => rfl, .nil⟩
end
section
variable {P : Program} {w : World} {K : PySem.W.Frag} {mg : Str → Option Value} {base : Heap}
def sp_least_rounds (K : PySem.W.Frag) : Sp := fun vs H Q E => ∃ (n : Nat), vs = [.int n] ∧ (1 ≤ n) ∧ (n ≤ 2 ^ 62) ∧ (∀ r : Nat, Lr r n → Q (.int r) H)
theorem us_least_rounds {K : PySem.W.Frag} {H : Hp} {Q : VK} {E : XK} {n : Nat} (h1 : 1 ≤ n) (h2 : n ≤ 2 ^ 62) (kk : ∀ r : Nat, Lr r n → Q (.int r) H) : sp_least_rounds K [.int n] H Q E := ⟨_, rfl, h1, h2, kk⟩
theorem f_least_rounds (T : Cx K mg) : ∃ fd, FunD K "least_rounds" "least_rounds" (defArgs s_least_rounds) (defBody s_least_rounds) (defScope s_least_rounds) (d_least_rounds.dvs K) (d_least_rounds.kws K) (fAd K d_least_rounds.at_) fd ∧ FnOk P w K mg base CX0 1 (fAd K d_least_rounds.at_) fd p_least_rounds (sp_least_rounds K) := by
  obtain ⟨fd, F⟩ := T.says.def_ 6 (d := d_least_rounds) rfl
  refine ⟨fd, F, fnD F sc_least_rounds (fun vs H Q E h => by
    obtain ⟨_, rfl, _⟩ := h
    rfl) fun cdv A outer s H vs Q E hr h => ?_⟩
  have hu := hu_of hr
  obtain ⟨n, rfl, h1, h2, kk⟩ := h
  refine ⟨_, (pss_cons (ps_set (i := 1) sc_least_rounds.nd rfl (by first | exact Or.inl rfl | exact Or.inr rfl) pe_int) (pss_cons (ps_set (i := 2) sc_least_rounds.nd rfl (by first | exact Or.inl rfl | exact Or.inr rfl) pe_int) (pss_cons (ps_while PassesOwn.never (pt_cmpR op_lt (pv 2) (pv 0) (nomark _)) (pss_cons (ps_set (i := 2) sc_least_rounds.nd rfl (by first | exact Or.inl rfl | exact Or.inr rfl) (pe_op op_mul pe_int (pv 2))) (pss_one (ps_aug (i := 1) sc_least_rounds.nd rfl (by first | exact Or.inl rfl | exact Or.inr rfl) pe_int ip_add)))) (pss_one (ps_ret (pv 1)))))), ?_⟩
  rw [show L2.start n_least_rounds [.int n] = [some (.int n), none, none] from rfl]
  try dsimp only [cxOf, Cx.nox, Cx.wish, List.map]

  wtm_at "rd"
  refine rd_whileM (fun m σ H1 => H1 = H ∧ ∃ r : Nat, σ = [some (.int n), some (.int r), some (.int ((2 ^ r : Nat) : Int))] ∧ (r = 0 ∨ 2 ^ (r - 1) < n) ∧ m + r = 64 ∧ r ≤ 63) 64 ⟨rfl, 0, rfl, .inl rfl, rfl, by decide⟩ ?_
  rintro m σ H1 ⟨rfl, r, rfl, h3, h4, h5⟩
  wtm_at "rd"
  refine ite_d (fun c1 => ?_) (fun c1 => ?_)
  · have c2 : 2 ^ r < n := by omega
    have c3 : r < 63 := by
      by_cases h : r < 63
      · exact h
      · exfalso
        have : (2 : Nat) ^ 62 ≤ 2 ^ r := Nat.pow_le_pow_right (by decide) (by omega)
        omega
    refine ⟨fun σ' H' => ∃ m', m' < m ∧ _, fun _ _ h => h, ?_⟩
    wtm_at "rd"
    refine ⟨m - 1, by omega, rfl, r + 1, ?_, .inr (by simpa using c2), by omega, by omega⟩
    rw [← pow2_succ, Int.mul_comm]
    rfl
  · wtm_at "rd"
    exact kk r ⟨by omega, h3⟩
theorem c_least_rounds (T : Cx K mg) : CalX P w K mg base CX0 1 "least_rounds" (sp_least_rounds K) [] := by
  obtain ⟨fd, F, ok⟩ := f_least_rounds (P := P) (w := w) (base := base) T
  exact ⟨_, fd, p_least_rounds, [], ok, gl_least_rounds T, F.kp, FunD.bindsN F fun _ _ _ _ _ _ us hl => match us, hl with | [_], _ => rfl, .nil⟩
end
section
variable {P : Program} {w : World} {K : PySem.W.Frag} {mg : Str → Option Value} {base : Heap}
def sp_least_letters (K : PySem.W.Frag) : Sp := fun vs H Q E => ∃ (n : Int), vs = [.int n] ∧ (Q (.int (n - 1)) H)
theorem us_least_letters {K : PySem.W.Frag} {H : Hp} {Q : VK} {E : XK} {n : Int}  (kk : Q (.int (n - 1)) H) : sp_least_letters K [.int n] H Q E := ⟨_, rfl, kk⟩
theorem f_least_letters (T : Cx K mg) : ∃ fd, FunD K "least_letters" "least_letters" (defArgs s_least_letters) (defBody s_least_letters) (defScope s_least_letters) (d_least_letters.dvs K) (d_least_letters.kws K) (fAd K d_least_letters.at_) fd ∧ FnOk P w K mg base CX0 1 (fAd K d_least_letters.at_) fd p_least_letters (sp_least_letters K) := by
  obtain ⟨fd, F⟩ := T.says.def_ 7 (d := d_least_letters) rfl
  refine ⟨fd, F, fnD F sc_least_letters (fun vs H Q E h => by
    obtain ⟨_, rfl, _⟩ := h
    rfl) fun cdv A outer s H vs Q E hr h => ?_⟩
  have hu := hu_of hr
  obtain ⟨n, rfl, kk⟩ := h
  refine ⟨_, (pss_one (ps_ret (pe_op op_sub (pv 0) pe_int))), ?_⟩
  rw [show L2.start n_least_letters [.int n] = [some (.int n)] from rfl]
  try dsimp only [cxOf, Cx.nox, Cx.wish, List.map]

  wtm_at "rd"
  exact kk
theorem c_least_letters (T : Cx K mg) : CalX P w K mg base CX0 1 "least_letters" (sp_least_letters K) [] := by
  obtain ⟨fd, F, ok⟩ := f_least_letters (P := P) (w := w) (base := base) T
  exact ⟨_, fd, p_least_letters, [], ok, gl_least_letters T, F.kp, FunD.bindsN F fun _ _ _ _ _ _ us hl => match us, hl with | [_], _ => rfl, .nil⟩
end
section
variable {P : Program} {w : World} {K : PySem.W.Frag} {mg : Str → Option Value} {base : Heap}
def sp_l_numbers (K : PySem.W.Frag) : Sp := fun vs H Q E => ∃ (n : Nat), vs = [.int n] ∧ (1 ≤ n) ∧ (n ≤ 2 ^ 62) ∧ (Q (.bl true) H)
theorem us_l_numbers {K : PySem.W.Frag} {H : Hp} {Q : VK} {E : XK} {n : Nat} (h1 : 1 ≤ n) (h2 : n ≤ 2 ^ 62) (kk : Q (.bl true) H) : sp_l_numbers K [.int n] H Q E := ⟨_, rfl, h1, h2, kk⟩
theorem f_l_numbers (T : Cx K mg) : ∃ fd, FunD K "_law_numbers" "_law_numbers" (defArgs s_l_numbers) (defBody s_l_numbers) (defScope s_l_numbers) (d_l_numbers.dvs K) (d_l_numbers.kws K) (fAd K d_l_numbers.at_) fd ∧ FnOk P w K mg base CX0 2 (fAd K d_l_numbers.at_) fd p_l_numbers (sp_l_numbers K) := by
  have c_least_rounds := c_least_rounds (P := P) (w := w) (base := base) T
  have c_l_least := c_l_least (P := P) (w := w) (base := base) T
  have c_l_number := c_l_number (P := P) (w := w) (base := base) T
  have c_least_letters := c_least_letters (P := P) (w := w) (base := base) T
  obtain ⟨fd, F⟩ := T.says.def_ 8 (d := d_l_numbers) rfl
  refine ⟨fd, F, fnD F sc_l_numbers (fun vs H Q E h => by
    obtain ⟨_, rfl, _⟩ := h
    rfl) fun cdv A outer s H vs Q E hr h => ?_⟩
  have hu := hu_of hr
  obtain ⟨n, rfl, h1, h2, kk⟩ := h
  refine ⟨_, (pss_cons (ps_if (pt_not (pt_val (pe_cal c_l_number hr (by decide) (by rfl) pass0 (pa_cons (pe_cal c_least_rounds hr (by decide) (by rfl) pass0 (pa_cons (pv 0) pa_nil)) (pa_cons (pe_cal c_l_least hr (by decide) (by rfl) pass0 (pa_cons (pv 0) pa_nil)) pa_nil))))) (pss_one (ps_ret pe_bl)) pss_nil) (pss_one (ps_ret (pe_cal c_l_number hr (by decide) (by rfl) pass0 (pa_cons (pe_cal c_least_letters hr (by decide) (by rfl) pass0 (pa_cons (pv 0) pa_nil)) (pa_cons (pe_op op_sub (pv 0) pe_int) pa_nil)))))), ?_⟩
  rw [show L2.start n_l_numbers [.int n] = [some (.int n)] from rfl]
  try dsimp only [cxOf, Cx.nox, Cx.wish, List.map]

  wtm_at "rd"
  refine us_least_rounds h1 h2 fun r hr => ?_
  wtm_at "rd"
  refine us_l_least h1 h2 fun s hs => ?_
  have e := hr.uniq hs
  subst e
  wtm_at "rd"
  refine us_l_number ?_
  wtm_at "rd"
  refine ite_f (by simp) ?_
  wtm_at "rd"
  refine us_least_letters ?_
  wtm_at "rd"
  refine us_l_number ?_
  rw [decide_eq_true rfl]
  exact kk
theorem c_l_numbers (T : Cx K mg) : CalX P w K mg base CX0 2 "_law_numbers" (sp_l_numbers K) [] := by
  obtain ⟨fd, F, ok⟩ := f_l_numbers (P := P) (w := w) (base := base) T
  exact ⟨_, fd, p_l_numbers, [], ok, gl_l_numbers T, F.kp, FunD.bindsN F fun _ _ _ _ _ _ us hl => match us, hl with | [_], _ => rfl, .nil⟩
end
section
variable {P : Program} {w : World} {K : PySem.W.Frag} {mg : Str → Option Value} {base : Heap}
def sp_l_list (K : PySem.W.Frag) : Sp := fun vs H Q E => ∃ (p c : Addr), vs = [.ref p] ∧ (Purse H p c) ∧ (∀ l (xs : List Int) H1, H1 l = some (.lst (xs.map V.int)) → xs.Nodup → 1 ≤ xs.length → xs.length ≤ 256 → Purse H1 p c → Kp [p] H H1 → H l = none → Q (.ref l) H1)
theorem us_l_list {K : PySem.W.Frag} {H : Hp} {Q : VK} {E : XK} {p c : Addr} (hB : Purse H p c) (kk : ∀ l (xs : List Int) H1, H1 l = some (.lst (xs.map V.int)) → xs.Nodup → 1 ≤ xs.length → xs.length ≤ 256 → Purse H1 p c → Kp [p] H H1 → H l = none → Q (.ref l) H1) : sp_l_list K [.ref p] H Q E := ⟨_, _, rfl, hB, kk⟩
theorem f_l_list (T : Cx K mg) : ∃ fd, FunD K "_law_list" "_law_list" (defArgs s_l_list) (defBody s_l_list) (defScope s_l_list) (d_l_list.dvs K) (d_l_list.kws K) (fAd K d_l_list.at_) fd ∧ FnOk P w K mg base CX0 4 (fAd K d_l_list.at_) fd p_l_list (sp_l_list K) := by
  have c_l_draw := c_l_draw (P := P) (w := w) (base := base) T
  have c_l_seats := c_l_seats (P := P) (w := w) (base := base) T
  obtain ⟨fd, F⟩ := T.says.def_ 9 (d := d_l_list) rfl
  refine ⟨fd, F, fnD F sc_l_list (fun vs H Q E h => by
    obtain ⟨_, _, rfl, _⟩ := h
    rfl) fun cdv A outer s H vs Q E hr h => ?_⟩
  have hu := hu_of hr
  obtain ⟨p, c, rfl, hB, kk⟩ := h
  refine ⟨_, (pss_cons (ps_set (i := 1) sc_l_list.nd rfl (by first | exact Or.inl rfl | exact Or.inr rfl) (pe_cal c_l_draw hr (by decide) (by rfl) pass0 (pa_cons (pv 0) (pa_cons pe_int pa_nil)))) (pss_cons (ps_set (i := 2) sc_l_list.nd rfl (by first | exact Or.inl rfl | exact Or.inr rfl) (pe_ix ix_list (pe_lst (pa_cons pe_int (pa_cons pe_int (pa_cons pe_int (pa_cons pe_int (pa_cons pe_int (pa_cons pe_int (pa_cons pe_int (pa_cons pe_int pa_nil))))))))) (pe_cal c_l_draw hr (by decide) (by rfl) pass0 (pa_cons (pv 0) (pa_cons pe_int pa_nil))) (fun _ _ => rfl))) (C8.pss_cut (ps_if (pt_cmpR op_gt (pv 1) pe_int (nomark _)) (pss_one (ps_set (i := 2) sc_l_list.nd rfl (by first | exact Or.inl rfl | exact Or.inr rfl) (pe_op op_add pe_int (pe_cal c_l_draw hr (by decide) (by rfl) pass0 (pa_cons (pv 0) (pa_cons pe_int pa_nil)))))) pss_nil) (C8.pss_cut (ps_if (pt_cmpR op_eq (pv 1) pe_int (nomark _)) (pss_one (ps_set (i := 2) sc_l_list.nd rfl (by first | exact Or.inl rfl | exact Or.inr rfl) (pe_op op_add pe_int (pe_cal c_l_draw hr (by decide) (by rfl) pass0 (pa_cons (pv 0) (pa_cons pe_int pa_nil)))))) pss_nil) (pss_cons (ps_set (i := 3) sc_l_list.nd rfl (by first | exact Or.inl rfl | exact Or.inr rfl) (pe_cal c_l_seats hr (by decide) (by rfl) pass0 (pa_cons (pv 0) (pa_cons pe_int (pa_cons (pv 2) pa_nil))))) (pss_cons (ps_if (pt_cmpR op_eq (pe_cal c_l_draw hr (by decide) (by rfl) pass0 (pa_cons (pv 0) (pa_cons pe_int pa_nil))) pe_int (nomark _)) (pss_one (ps_ret (pe_lc (own := [("_law_seat", 4)]) (g := (gName 4)) (tt := tYes) rfl sc_l_list.nd (pi_list (pv 3)) (blkOk_by (own := [("_law_seat", 4)]) (N := n_l_list) (sc := defScope s_l_list) (by decide +kernel)) (fun _ _ _ _ _ => (pg_name (i := 4) sc_l_list.nd rfl (by first | exact Or.inl rfl | exact Or.inr rfl))) (fun _ _ _ _ _ => pts_nil) (fun _ _ _ _ _ => (pe_op op_add (pv 4) (pe_op op_pow pe_int pe_int)))))) pss_nil) (pss_one (ps_ret (pv 3))))))))), ?_⟩
  rw [show L2.start n_l_list [.ref p] = [some (.ref p), none, none, none, none] from rfl]
  try dsimp only [cxOf, Cx.nox, Cx.wish, List.map]

  wtm_at "rd"
  refine us_l_draw hB (by decide) (by decide) fun way H1 w0 w1 B1 k1 => ?_
  wtm_at "rd"
  refine ⟨sz1000 (by simp), fun a na => ?_⟩
  have B2 := B1.k0 (Kp.new (o := .lst [.int 3, .int 2, .int 4, .int 5, .int 1, .int 6, .int 7, .int 8]) na)
  wtm_at "rd"
  refine us_l_draw B2 (by decide) (by decide) fun i H2 i0 i1 B3 k3 => ?_
  have ha : H2 a = some (.lst [.int 3, .int 2, .int 4, .int 5, .int 1, .int 6, .int 7, .int 8]) := k3.g1 (B2.off upd_same) upd_same
  obtain ⟨m, hm, m0, m8⟩ : ∃ m : Int, atI [V.int 3, .int 2, .int 4, .int 5, .int 1, .int 6, .int 7, .int 8] i = some (.int m) ∧ 1 ≤ m ∧ m ≤ 8 := by
    have : i = 0 ∨ i = 1 ∨ i = 2 ∨ i = 3 ∨ i = 4 ∨ i = 5 ∨ i = 6 ∨ i = 7 := by omega
    rcases this with rfl | rfl | rfl | rfl | rfl | rfl | rfl | rfl <;> exact ⟨_, rfl, by decide, by decide⟩
  have k03 : Kp [p] H H2 := (k1.nw na).trans k3
  wtm_at "rd"
  refine rd_cut (fun σ' H3 => ∃ m2, σ' = [some (.ref p), some (.int way), some (.int m2), none, none] ∧ 1 ≤ m2 ∧ m2 ≤ 256 ∧ Purse H3 p c ∧ Kp [p] H H3) ?_ ?_
  · wtm_at "rd"
    refine ite_d (fun h => ?_) (fun h => ?_)
    · wtm_at "rd"
      refine us_l_draw B3 (by decide) (by decide) fun n H3 n0 n1 B4 k4 => ?_
      wtm_at "rd"
      exact ⟨_, rfl, by omega, by omega, B4, k03.trans k4⟩
    · wtm_at "rd"
      exact ⟨m, rfl, m0, by omega, B3, k03⟩
  · rintro σ' H3 ⟨m2, rfl, m20, m21, B4, k4⟩
    wtm_at "rd"
    refine rd_cut (fun σ' H3 => ∃ m2, σ' = [some (.ref p), some (.int way), some (.int m2), none, none] ∧ 1 ≤ m2 ∧ m2 ≤ 256 ∧ Purse H3 p c ∧ Kp [p] H H3) ?_ ?_
    · wtm_at "rd"
      refine ite_d (fun h => ?_) (fun h => ?_)
      · wtm_at "rd"
        refine us_l_draw B4 (by decide) (by decide) fun n H4 n0 n1 B5 k5 => ?_
        wtm_at "rd"
        exact ⟨_, rfl, by omega, by omega, B5, k4.trans k5⟩
      · wtm_at "rd"
        exact ⟨m2, rfl, m20, m21, B4, k4⟩
    · rintro σ' H4 ⟨m3, rfl, m30, m31, B5, k5⟩
      wtm_at "rd"
      refine us_l_seats B5 m30 (by omega) (by decide) fun l xs H5 hl hN hlen B6 k6 nl => ?_
      wtm_at "rd"
      refine us_l_draw B6 (by decide) (by decide) fun n H6 n0 n1 B7 k7 => ?_
      have hl' := k7.g1 (B6.off hl) hl
      wtm_at "rd"
      refine ite_d (fun h => ?_) (fun h => ?_)
      · wtm_at "rd"
        intro D hD
        have Dp : D ≠ p := by
          obtain ⟨ns, a, b, d, e, f, g, h1, -⟩ := B7
          exact Ne.symm (ne_of_none h1 hD)
        refine lcL_ints xs (fun i H' => H' D = some (.lst ((xs.take i).map fun x => V.int (x + 1000000))) ∧ Kp [] H6 H') ⟨upd_same, Kp.new hD⟩ (fun i H' _ q => SqL.of (q.2.g0 hl')) (fun i hi H' q => ?_) (fun H' q => ?_)
        · obtain ⟨q1, q2⟩ := q
          wtm_at "rd"
          refine ⟨rfl, ?_⟩
          wtm_at "rd"
          refine ⟨_, q1, szlt (by simp; omega), ?_, Kp.mine q2 hD⟩
          rw [upd_same, List.take_succ_eq_append_getElem hi, List.map_append]
          rfl
        · obtain ⟨q1, q2⟩ := q
          rw [List.take_length] at q1
          have kk2 := (((k5.trans k6).trans k7).trans q2.of0)
          refine kk D (xs.map fun x => x + 1000000) H' (by rw [q1, List.map_map]; rfl) ?_ (by rw [List.length_map]; omega) (by rw [List.length_map]; omega) (B7.k0 q2) kk2 ?_
          · rw [List.Nodup, List.pairwise_map]
            refine List.Pairwise.imp (R := fun a b => a ≠ b) ?_ hN
            intro a b h e
            have e' : a + 1000000 = b + 1000000 := e
            exact h (by omega)
          · exact Kp.back ((k5.trans k6).trans k7) hD (by simpa using Dp)
      · wtm_at "rd"
        have lp : l ≠ p := B6.off hl
        exact kk l xs H6 hl' hN (by omega) (by omega) B7 ((k5.trans k6).trans k7) (Kp.back k5 nl (by simpa using lp))
theorem c_l_list (T : Cx K mg) : CalX P w K mg base CX0 4 "_law_list" (sp_l_list K) [] := by
  obtain ⟨fd, F, ok⟩ := f_l_list (P := P) (w := w) (base := base) T
  exact ⟨_, fd, p_l_list, [], ok, gl_l_list T, F.kp, FunD.bindsN F fun _ _ _ _ _ _ us hl => match us, hl with | [_], _ => rfl, .nil⟩
end
section
variable {P : Program} {w : World} {K : PySem.W.Frag} {mg : Str → Option Value} {base : Heap}
def sp_tree_plan (K : PySem.W.Frag) : Sp := fun vs H Q E => ∃ (s : Addr) (xs : List Int), vs = [.ref s] ∧ (H s = some (.lst (xs.map V.int))) ∧ (1 ≤ xs.length) ∧ (xs.length ≤ 256) ∧ (∀ F (ls : List Addr) R H1, Lr R xs.length → H1 F = some (.lst (ls.map V.ref)) → Lines H1 ls (tree xs R) → F ∉ ls → Kp [] H H1 → H F = none → (∀ l, l ∈ ls → H l = none) → Q (.ref F) H1)
theorem us_tree_plan {K : PySem.W.Frag} {H : Hp} {Q : VK} {E : XK} {s : Addr} {xs : List Int} (hs : H s = some (.lst (xs.map V.int))) (h1 : 1 ≤ xs.length) (h2 : xs.length ≤ 256) (kk : ∀ F (ls : List Addr) R H1, Lr R xs.length → H1 F = some (.lst (ls.map V.ref)) → Lines H1 ls (tree xs R) → F ∉ ls → Kp [] H H1 → H F = none → (∀ l, l ∈ ls → H l = none) → Q (.ref F) H1) : sp_tree_plan K [.ref s] H Q E := ⟨_, _, rfl, hs, h1, h2, kk⟩
theorem f_tree_plan (T : Cx K mg) : ∃ fd, FunD K "tree_plan" "tree_plan" (defArgs s_tree_plan) (defBody s_tree_plan) (defScope s_tree_plan) (d_tree_plan.dvs K) (d_tree_plan.kws K) (fAd K d_tree_plan.at_) fd ∧ FnOk P w K mg base CX0 1 (fAd K d_tree_plan.at_) fd p_tree_plan (sp_tree_plan K) := by
  obtain ⟨fd, F⟩ := T.says.def_ 10 (d := d_tree_plan) rfl
  refine ⟨fd, F, fnD F sc_tree_plan (fun vs H Q E h => by
    obtain ⟨_, _, rfl, _⟩ := h
    rfl) fun cdv A outer s H vs Q E hr h => ?_⟩
  have hu := hu_of hr
  obtain ⟨s, xs, rfl, hs, h1, h2, kk⟩ := h
  refine ⟨_, (pss_cons (ps_set (i := 1) sc_tree_plan.nd rfl (by first | exact Or.inl rfl | exact Or.inr rfl) (pe_lst pa_nil)) (pss_cons (ps_set (i := 2) sc_tree_plan.nd rfl (by first | exact Or.inl rfl | exact Or.inr rfl) pe_int) (pss_cons (ps_while PassesOwn.never (pt_cmpR op_lt (pv 2) (pe_callB call_lenS (by rfl) (fr_len T) (by decide +kernel) (pa_cons (pv 0) pa_nil)) (nomark _)) (pss_cons (ps_set (i := 3) sc_tree_plan.nd rfl (by first | exact Or.inl rfl | exact Or.inr rfl) (pe_lst pa_nil)) (pss_cons (ps_for PassesOwn.never rfl (pi_range1 (by rfl) (fr_range T) (pa_cons (pe_callB (call_min2' rfl) (by rfl) (fr_min T) (by decide +kernel) (pa_cons (pv 2) (pa_cons (pe_op op_sub (pe_callB call_lenS (by rfl) (fr_len T) (by decide +kernel) (pa_cons (pv 0) pa_nil)) (pv 2)) pa_nil))) pa_nil)) (pg_name (i := 4) sc_tree_plan.nd rfl (by first | exact Or.inl rfl | exact Or.inr rfl)) (pss_one (ps_expr (pe_bm PySem.F.plainAttrs_list PySem.F.slot_list_append PySem.F.type_list_append mt_append (pv 3) (pa_cons (pe_tup (pa_cons (pe_ix ix_list (pv 0) (pv 4) (fun _ _ => rfl)) (pa_cons (pe_ix ix_list (pv 0) (pe_op op_add (pv 2) (pv 4)) (fun _ _ => rfl)) pa_nil))) pa_nil))))) (pss_cons (ps_expr (pe_bm PySem.F.plainAttrs_list PySem.F.slot_list_append PySem.F.type_list_append mt_append (pv 1) (pa_cons (pv 3) pa_nil))) (pss_one (ps_set (i := 2) sc_tree_plan.nd rfl (by first | exact Or.inl rfl | exact Or.inr rfl) (pe_op op_add (pv 2) (pe_callB call_lenS (by rfl) (fr_len T) (by decide +kernel) (pa_cons (pv 3) pa_nil))))))))) (pss_one (ps_ret (pv 1)))))), ?_⟩
  rw [show L2.start n_tree_plan [.ref s] = [some (.ref s), none, none, none, none] from rfl]
  try dsimp only [cxOf, Cx.nox, Cx.wish, List.map]

  wtm_at "rd"
  refine ⟨sz1000 (by simp), fun F nF => ?_⟩
  wtm_at "rd"
  refine rd_whileM (fun m σ H1 => ∃ (k rc : Nat) (ls : List Addr) (v3 v4 : Option V), σ = [some (.ref s), some (.ref F), some (.int rc), v3, v4] ∧ H1 F = some (.lst (ls.map V.ref)) ∧ Lines H1 ls (tree xs k) ∧ F ∉ ls ∧ Kp [] H H1 ∧ (∀ l, l ∈ ls → H l = none) ∧
    (k = 0 ∨ 2 ^ (k - 1) < xs.length) ∧ rc = min (2 ^ k) xs.length ∧ m + rc = xs.length ∧ k ≤ rc) (xs.length - 1) ⟨0, 1, [], _, _, rfl, upd_same, .nil, by simp, Kp.new nF, by simp, .inl rfl, by simp; omega, by omega, by omega⟩ ?_
  rintro m σ H1 ⟨k, rc, ls, v3, v4, rfl, g1, g2, g3, g4, g5, g6, g7, g8, g9⟩
  have hs1 := g4.g0 hs
  have hk : ls.length = k := by
    rw [paired_len g2]
    unfold tree
    rw [List.length_map, List.length_range]
  wtm_at "rd"
  refine ite_d (fun c1 => ?_) (fun c1 => ?_)
  · have c2 : rc = 2 ^ k ∧ 2 ^ k < xs.length := by omega
    have c0 : 1 ≤ 2 ^ k := Nat.one_le_two_pow
    refine ⟨fun σ' H' => ∃ m', m' < m ∧ _, fun _ _ h => h, ?_⟩
    wtm_at "rd"
    refine ⟨sz1000 (by simp), fun l nl => ?_⟩
    have lF : l ≠ F := Ne.symm (ne_of_none g1 nl)
    have nl0 : H l = none := Kp.back g4 nl (by simp)
    wtm_at "rd"
    have em : (min (rc : Int) ((xs.length : Int) - (rc : Int))).toNat = min rc (xs.length - rc) := by omega
    rw [em]
    refine forR_by (fun i σ H3 => (∃ v4, σ = [some (.ref s), some (.ref F), some (.int rc), some (.ref l), v4]) ∧ Line H3 l ((rnd xs rc).take i) ∧ Kp [] H1 H3) ⟨⟨_, rfl⟩, ⟨[], upd_same, .nil⟩, Kp.new nl⟩ ?_ ?_
    · rintro i σ H3 hi ⟨⟨v4, rfl⟩, ⟨ts, t1, t2⟩, k3⟩
      have hs3 := k3.g0 hs1
      have tl : ts.length = i := by
        rw [paired_len t2, List.length_take, rnd_len]
        omega
      wtm_at "rd"
      refine ⟨sz1000 (by simp), fun T nT => ?_⟩
      have Tl : T ≠ l := Ne.symm (ne_of_none t1 nT)
      have e1 : (0 + (i : Int)).toNat = i := by omega
      have e2 : ((rc : Int) + (0 + (i : Int))).toNat = rc + i := by omega
      rw [e1, e2]
      wtm_at "rd"
      refine ⟨⟨_, rfl⟩, ⟨ts ++ [T], by rw [upd_same, List.map_append]; rfl, ?_⟩, (k3.nw nT).mine nl⟩
      have hr : i < (rnd xs rc).length := by
        rw [rnd_len]
        exact hi
      have er : (rnd xs rc)[i] = (xs.getD i 0, xs.getD (rc + i) 0) := (rnd_get (List.getElem?_eq_getElem hr)).2
      rw [List.take_succ_eq_append_getElem hr, er]
      refine paired_snoc ?_ (paired_imp (R := Pr H3) ?_ t2)
      · exact hu_ne Tl upd_same
      · intro a b e
        exact hu_ne (ne_of e t1 (by intro z; cases z)) (hu_ne (ne_of_none e nT) e)
    · rintro σ H3 ⟨⟨v4, rfl⟩, hL, k3⟩
      rw [List.take_of_length_le (by rw [rnd_len]; exact Nat.le_refl _)] at hL
      have hF3 := k3.g0 g1
      have hl3 := id hL
      obtain ⟨ts, t1, t2⟩ := hl3
      have tl : ts.length = min rc (xs.length - rc) := by rw [paired_len t2, rnd_len]
      wtm_at "rd"
      have t1' : upd H3 F (.lst (ls.map V.ref ++ [V.ref l])) l = some (.lst (ts.map V.ref)) := hu_ne lF t1
      wtm_at "rd"
      rw [List.length_map, tl]
      have ep : 2 ^ (k + 1) = 2 * 2 ^ k := by rw [Nat.pow_succ]; omega
      refine ⟨m - min rc (xs.length - rc), by omega, k + 1, rc + min rc (xs.length - rc), ls ++ [l], _, _, rfl, by rw [upd_same, List.map_append]; rfl, ?_, ?_, ?_, ?_, .inr (by simpa using c2.2), by omega, by omega, by omega⟩
      · rw [tree_succ, ← c2.1]
        exact paired_snoc (Line.upd hL hF3 lF) (Lines.upd hF3 (Lines.kp g2 k3) g3)
      · simp [g3, Ne.symm lF]
      · exact (g4.trans k3).mine nF
      · intro z hz
        rcases List.mem_append.mp hz with hz | hz
        · exact g5 z hz
        · rw [List.mem_singleton.mp hz]
          exact nl0
  · wtm_at "rd"
    exact kk F ls k H1 ⟨by omega, g6⟩ g1 g2 g3 g4 nF g5
theorem c_tree_plan (T : Cx K mg) : CalX P w K mg base CX0 1 "tree_plan" (sp_tree_plan K) [] := by
  obtain ⟨fd, F, ok⟩ := f_tree_plan (P := P) (w := w) (base := base) T
  exact ⟨_, fd, p_tree_plan, [], ok, gl_tree_plan T, F.kp, FunD.bindsN F fun _ _ _ _ _ _ us hl => match us, hl with | [_], _ => rfl, .nil⟩
end
section
variable {P : Program} {w : World} {K : PySem.W.Frag} {mg : Str → Option Value} {base : Heap}
def sp_reached_by (K : PySem.W.Frag) : Sp := fun vs H Q E => ∃ (s d l : Addr) (xs : List Int) (rc : Nat), vs = [.ref s, .ref d, .ref l] ∧ (H s = some (.lst (xs.map V.int))) ∧ (H d = some (.dK (kd (xs.take rc)))) ∧ (Line H l (rnd xs rc)) ∧ (xs.Nodup) ∧ (xs.length ≤ 256) ∧ (1 ≤ rc ∧ rc < xs.length) ∧ (∀ r H1, H1 r = some (.lst (((xs.drop rc).take (min rc (xs.length - rc))).map V.int)) → Kp [] H H1 → H r = none → Q (.ref r) H1)
theorem us_reached_by {K : PySem.W.Frag} {H : Hp} {Q : VK} {E : XK} {s d l : Addr} {xs : List Int} {rc : Nat} (hs : H s = some (.lst (xs.map V.int))) (hd : H d = some (.dK (kd (xs.take rc)))) (hL : Line H l (rnd xs rc)) (hN : xs.Nodup) (h2 : xs.length ≤ 256) (hr : 1 ≤ rc ∧ rc < xs.length) (kk : ∀ r H1, H1 r = some (.lst (((xs.drop rc).take (min rc (xs.length - rc))).map V.int)) → Kp [] H H1 → H r = none → Q (.ref r) H1) : sp_reached_by K [.ref s, .ref d, .ref l] H Q E := ⟨_, _, _, _, _, rfl, hs, hd, hL, hN, h2, hr, kk⟩
theorem f_reached_by (T : Cx K mg) : ∃ fd, FunD K "reached_by" "reached_by" (defArgs s_reached_by) (defBody s_reached_by) (defScope s_reached_by) (d_reached_by.dvs K) (d_reached_by.kws K) (fAd K d_reached_by.at_) fd ∧ FnOk P w K mg base CX0 1 (fAd K d_reached_by.at_) fd p_reached_by (sp_reached_by K) := by
  obtain ⟨fd, F⟩ := T.says.def_ 11 (d := d_reached_by) rfl
  refine ⟨fd, F, fnD F sc_reached_by (fun vs H Q E h => by
    obtain ⟨_, _, _, _, _, rfl, _⟩ := h
    rfl) fun cdv A outer s H vs Q E hr h => ?_⟩
  have hu := hu_of hr
  obtain ⟨s, d, l, xs, rc, rfl, hs, hd, hL, hN, h2, hr, kk⟩ := h
  refine ⟨_, (pss_cons (ps_set (i := 3) sc_reached_by.nd rfl (by first | exact Or.inl rfl | exact Or.inr rfl) pe_dnewK) (pss_cons (ps_set (i := 4) sc_reached_by.nd rfl (by first | exact Or.inl rfl | exact Or.inr rfl) (pe_lst pa_nil)) (pss_cons (ps_for PassesOwn.never rfl (pi_list (pv 2)) (pg_tup rfl (pgs_cons (pg_name (i := 5) sc_reached_by.nd rfl (by first | exact Or.inl rfl | exact Or.inr rfl)) (pgs_cons (pg_name (i := 6) sc_reached_by.nd rfl (by first | exact Or.inl rfl | exact Or.inr rfl)) pgs_nil))) (pss_cons (ps_if (PW.pt (pw_or (pt_cmp (pc_dnotin hu (pv 5) (pv 1))) (pw_or1 (pt_cmp (pc_din hu (pv 5) (pv 3)))))) (pss_one (ps_ret pe_non)) pss_nil) (pss_cons (ps_if (PW.pt (pw_or (pt_cmpR op_eq (pv 5) (pv 6) (nomark _)) (pw_or (pt_cmpR op_notIn_seq (pv 5) (pv 0) rfl) (pw_or1 (pt_cmpR op_notIn_seq (pv 6) (pv 0) rfl))))) (pss_one (ps_ret pe_non)) pss_nil) (pss_cons (ps_dput hu (pv 3) (pv 5) pe_bl rfl) (pss_one (ps_expr (pe_bm PySem.F.plainAttrs_list PySem.F.slot_list_append PySem.F.type_list_append mt_append (pv 4) (pa_cons (pv 6) pa_nil)))))))) (pss_one (ps_ret (pv 4)))))), ?_⟩
  rw [show L2.start n_reached_by [.ref s, .ref d, .ref l] = [some (.ref s), some (.ref d), some (.ref l), none, none, none, none] from rfl]
  try dsimp only [cxOf, Cx.nox, Cx.wish, List.map]

  obtain ⟨ts, t1, t2⟩ := hL
  wtm_at "rd"
  intro cd ncd
  wtm_at "rd"
  refine ⟨sz1000 (by simp), fun r nr => ?_⟩
  have ncr : cd ≠ r := ne_fresh nr
  have nr0 : H r = none := Kp.back (Kp.new (ps := []) ncd) nr (by simp)
  have tl : (ts.map V.ref).length = min rc (xs.length - rc) := by rw [List.length_map, paired_len t2, rnd_len]
  wtm_at "rd"
  refine forL_by (K := K) (ts.map V.ref) (fun i σ H1 => (∃ v5 v6, σ = [some (.ref s), some (.ref d), some (.ref l), some (.ref cd), some (.ref r), v5, v6]) ∧ H1 cd = some (.dK (kd (xs.take i))) ∧ H1 r = some (.lst (((xs.drop rc).take i).map V.int)) ∧ Kp [] H H1) ⟨⟨_, _, rfl⟩, hu_ne ncr upd_same, upd_same, (Kp.new ncd).nw nr⟩ (fun i σ H1 _ q => SqL.of (q.2.2.2.g0 t1)) ?_ ?_
  · rintro i x σ H1 hx ⟨⟨v5, v6, rfl⟩, q1, q2, k1⟩
    rw [List.getElem?_map] at hx
    obtain ⟨t, ht, rfl⟩ := Option.map_eq_some_iff.mp hx
    obtain ⟨p, hp, hP⟩ := paired_get t2 ht
    obtain ⟨hi, rfl⟩ := rnd_get hp
    have hi1 : i < xs.length := by omega
    have hi2 : rc + i < xs.length := by omega
    have hP1 := k1.g0 hP
    have hs1 := k1.g0 hs
    have hd1 := k1.g0 hd
    have klen : (kd (xs.take i)).length ≤ 256 := by
      rw [kd_len, List.length_take]
      omega
    have n1 := not_take hN (Nat.le_refl i) hi1
    have n2 : ¬ xs[i] = xs[rc + i] := fun e => by
      have := nd_lt hN hi1 hi2 e
      omega
    simp only [getD_at hi1, getD_at hi2] at hP1
    wtm_at "rd"
    rw [kd_val]
    refine ite_n (fun h => absurd (mem_take (show i < rc by omega) hi1) h) (fun _ => ?_)
    wtm_at "rd"
    rw [kd_val]
    refine ite_d (fun h => absurd h n1) (fun _ => ?_)
    wtm_at "rd"
    refine ite_d (fun h => absurd h n2) (fun _ => ?_)
    wtm_at "rd"
    refine ite_n (fun h => absurd (List.getElem_mem hi1) h) (fun _ => ?_)
    wtm_at "rd"
    refine ite_n (fun h => absurd (List.getElem_mem hi2) h) (fun _ => ?_)
    wtm_at "rd"
    have q2' : upd H1 cd (.dK (putK (kd (xs.take i)) (.inl xs[i]) (.bl true))) r = some (.lst (((xs.drop rc).take i).map V.int)) := hu_ne (Ne.symm ncr) q2
    have slen : (((xs.drop rc).take i).map V.int).length < sizeLine := szlt (by simp; omega)
    wtm_at "rd"
    refine ⟨⟨_, _, rfl⟩, ?_, ?_, (k1.mine ncd).mine nr0⟩
    · rw [upd_ne ncr, upd_same, kd_put n1, take_snoc hi1]
    · rw [upd_same, ← dtake_snoc hi2, List.map_append]
      rfl
  · rintro σ H1 ⟨⟨v5, v6, rfl⟩, q1, q2, k1⟩
    rw [tl] at q2
    wtm_at "rd"
    exact kk r H1 q2 k1 nr0
theorem c_reached_by (T : Cx K mg) : CalX P w K mg base CX0 1 "reached_by" (sp_reached_by K) [] := by
  obtain ⟨fd, F, ok⟩ := f_reached_by (P := P) (w := w) (base := base) T
  exact ⟨_, fd, p_reached_by, [], ok, gl_reached_by T, F.kp, FunD.bindsN F fun _ _ _ _ _ _ us hl => match us, hl with | [_, _, _], _ => rfl, .nil⟩
end
section
variable {P : Program} {w : World} {K : PySem.W.Frag} {mg : Str → Option Value} {base : Heap}
def sp_judge_plan (K : PySem.W.Frag) : Sp := fun vs H Q E => ∃ (s F : Addr) (xs : List Int) (ls : List Addr) (R : Nat), vs = [.ref s, .int (xs.getD 0 0), .ref F] ∧ (H s = some (.lst (xs.map V.int))) ∧ (H F = some (.lst (ls.map V.ref))) ∧ (Lines H ls (tree xs R)) ∧ (Lr R xs.length) ∧ (xs.Nodup) ∧ (1 ≤ xs.length) ∧ (xs.length ≤ 256) ∧ (∀ t H1, H1 t = some (.tup [.int R, .int ((xs.length : Int) - 1)]) → Kp [] H H1 → Q (.ref t) H1)
theorem us_judge_plan {K : PySem.W.Frag} {H : Hp} {Q : VK} {E : XK} {s F : Addr} {xs : List Int} {ls : List Addr} {R : Nat} (hs : H s = some (.lst (xs.map V.int))) (hF : H F = some (.lst (ls.map V.ref))) (hL : Lines H ls (tree xs R)) (hR : Lr R xs.length) (hN : xs.Nodup) (h1 : 1 ≤ xs.length) (h2 : xs.length ≤ 256) (kk : ∀ t H1, H1 t = some (.tup [.int R, .int ((xs.length : Int) - 1)]) → Kp [] H H1 → Q (.ref t) H1) : sp_judge_plan K [.ref s, .int (xs.getD 0 0), .ref F] H Q E := ⟨_, _, _, _, _, rfl, hs, hF, hL, hR, hN, h1, h2, kk⟩
theorem f_judge_plan (T : Cx K mg) : ∃ fd, FunD K "judge_plan" "judge_plan" (defArgs s_judge_plan) (defBody s_judge_plan) (defScope s_judge_plan) (d_judge_plan.dvs K) (d_judge_plan.kws K) (fAd K d_judge_plan.at_) fd ∧ FnOk P w K mg base CX0 2 (fAd K d_judge_plan.at_) fd p_judge_plan (sp_judge_plan K) := by
  have c_reached_by := c_reached_by (P := P) (w := w) (base := base) T
  obtain ⟨fd, F⟩ := T.says.def_ 12 (d := d_judge_plan) rfl
  refine ⟨fd, F, fnD F sc_judge_plan (fun vs H Q E h => by
    obtain ⟨_, _, _, _, _, rfl, _⟩ := h
    rfl) fun cdv A outer s H vs Q E hr h => ?_⟩
  have hu := hu_of hr
  obtain ⟨s, F, xs, ls, R, rfl, hs, hF, hL, hR, hN, h1, h2, kk⟩ := h
  refine ⟨_, (pss_cons (ps_set (i := 3) sc_judge_plan.nd rfl (by first | exact Or.inl rfl | exact Or.inr rfl) (pe_disp (pps_cons (pv 1) pe_bl pps_nil) (by rfl) (by rfl) (fun z => by cases z) (by decide))) (pss_cons (ps_set (i := 4) sc_judge_plan.nd rfl (by first | exact Or.inl rfl | exact Or.inr rfl) pe_int) (pss_cons (ps_for PassesOwn.never rfl (pi_enum (by rfl) (fr_enumerate T) (pa_cons (pv 2) pa_nil)) (pg_tup rfl (pgs_cons (pg_name (i := 5) sc_judge_plan.nd rfl (by first | exact Or.inl rfl | exact Or.inr rfl)) (pgs_cons (pg_name (i := 6) sc_judge_plan.nd rfl (by first | exact Or.inl rfl | exact Or.inr rfl)) pgs_nil))) (pss_cons (ps_set (i := 7) sc_judge_plan.nd rfl (by first | exact Or.inl rfl | exact Or.inr rfl) (pe_cal c_reached_by hr (by decide) (by rfl) pass0 (pa_cons (pv 0) (pa_cons (pv 3) (pa_cons (pv 6) pa_nil))))) (pss_cons (ps_if (pt_cmp (pc_isN (pv 7))) (pss_one ps_never) pss_nil) (pss_cons (ps_for PassesOwn.never rfl (pi_list (pv 7)) (pg_name (i := 8) sc_judge_plan.nd rfl (by first | exact Or.inl rfl | exact Or.inr rfl)) (pss_one (ps_dput hu (pv 3) (pv 8) pe_bl rfl))) (pss_one (ps_set (i := 4) sc_judge_plan.nd rfl (by first | exact Or.inl rfl | exact Or.inr rfl) (pe_op op_add (pv 4) (pe_callB call_lenS (by rfl) (fr_len T) (by decide +kernel) (pa_cons (pv 7) pa_nil))))))))) (pss_cons (ps_for PassesOwn.never rfl (pi_list (pv 0)) (pg_name (i := 8) sc_judge_plan.nd rfl (by first | exact Or.inl rfl | exact Or.inr rfl)) (pss_one (ps_if (pt_cmp (pc_dnotin hu (pv 8) (pv 3))) (pss_one ps_never) pss_nil))) (pss_one (ps_ret (pe_tup (pa_cons (pe_callB call_lenS (by rfl) (fr_len T) (by decide +kernel) (pa_cons (pv 2) pa_nil)) (pa_cons (pv 4) pa_nil))))))))), ?_⟩
  rw [show L2.start n_judge_plan [.ref s, .int (xs.getD 0 0), .ref F] = [some (.ref s), some (.int (xs.getD 0 0)), some (.ref F), none, none, none, none, none, none] from rfl]
  try dsimp only [cxOf, Cx.nox, Cx.wish, List.map]

  have hls : ls.length = R := by
    rw [paired_len hL]
    unfold tree
    rw [List.length_map, List.length_range]
  have small : ∀ i, i < R → 2 ^ i < xs.length := fun i hi => by
    rcases hR.2 with e | e
    · omega
    · have := Nat.pow_le_pow_right (show 0 < 2 by decide) (show i ≤ R - 1 by omega)
      omega
  wtm_at "rd"
  refine rd_disp fun d nd => ?_
  wtm_at "rd"
  refine ⟨upd_same, [(.inl (xs.getD 0 0), .bl true)], rfl, Nat.le_of_ble_eq_true rfl, ?_⟩
  have e0 : mergeK [] ([(.inl (xs.getD 0 0), .bl true)] : List (Key × V)) = kd (xs.take 1) := by
    rw [show xs.take 1 = [xs.getD 0 0] from by
      cases xs with
      | nil => simp at h1
      | cons a r => rfl]
    rfl
  rw [e0]
  have k0 : Kp [] H (upd (upd H d (.dK [])) d (.dK (kd (xs.take 1)))) := (Kp.new nd).mine nd
  have hd0 : upd (upd H d (.dK [])) d (.dK (kd (xs.take 1))) d = some (.dK (kd (xs.take 1))) := upd_same
  generalize upd (upd H d (.dK [])) d (.dK (kd (xs.take 1))) = H0 at k0 hd0
  have hF0 := k0.g0 hF
  wtm_at "rd"
  refine forE_by (K := K) (ls.map V.ref) (fun i σ H1 => (∃ z v5 v6 v7 v8, σ = [some (.ref s), some (.int (xs.getD 0 0)), some (.ref F), some (.ref d), some (.int z), v5, v6, v7, v8] ∧ z = ((min (2 ^ i) xs.length : Nat) : Int) - 1) ∧ H1 d = some (.dK (kd (xs.take (min (2 ^ i) xs.length)))) ∧ Kp [] H H1) ?_ (fun i σ H1 _ q => SqL.of (q.2.2.g0 hF)) ?_ ?_
  · have e1 : min (2 ^ 0) xs.length = 1 := by
      rw [Nat.pow_zero]
      omega
    exact ⟨⟨_, _, _, _, _, rfl, by rw [e1]; rfl⟩, by rw [e1]; exact hd0, k0⟩
  · rintro i x σ H1 T hx ⟨⟨z, v5, v6, v7, v8, rfl, hz⟩, hd1, k1⟩ nT
    rw [List.getElem?_map] at hx
    obtain ⟨l, hl, rfl⟩ := Option.map_eq_some_iff.mp hx
    obtain ⟨ps, hps, hLi⟩ := paired_get hL hl
    have hi : i < R := by
      have := (List.getElem?_eq_some_iff.mp hl).1
      omega
    have eps : ps = rnd xs (2 ^ i) := by
      unfold tree at hps
      rw [List.getElem?_map, List.getElem?_range hi] at hps
      exact (Option.some.inj hps).symm
    subst eps
    have hsm := small i hi
    have hp1 : 1 ≤ 2 ^ i := Nat.one_le_two_pow
    have em : min (2 ^ i) xs.length = 2 ^ i := by omega
    rw [em] at hd1 hz
    have k2 : Kp [] H (upd H1 T (.tup [.int (i : Nat), .ref l])) := k1.nw nT
    have hd2 : upd H1 T (.tup [.int (i : Nat), .ref l]) d = some (.dK (kd (xs.take (2 ^ i)))) := hu_ne (ne_of_none hd1 nT) hd1
    wtm_at "rd"
    refine us_reached_by (k2.g0 hs) hd2 (Line.kp hLi k2) hN h2 ⟨hp1, hsm⟩ fun r H3 hr3 k3 nr3 => ?_
    have hd3 := k3.g0 hd2
    have nrd : d ≠ r := ne_of hd3 hr3 (by intro z; cases z)
    have ml : ((xs.drop (2 ^ i)).take (min (2 ^ i) (xs.length - 2 ^ i))).length = min (2 ^ i) (xs.length - 2 ^ i) := by
      rw [List.length_take, List.length_drop]
      omega
    wtm_at "rd"
    refine forL_ints (K := K) ((xs.drop (2 ^ i)).take (min (2 ^ i) (xs.length - 2 ^ i))) (fun j σ H4 => (∃ v8, σ = [some (.ref s), some (.int (xs.getD 0 0)), some (.ref F), some (.ref d), some (.int z), some (.int (i : Nat)), some (.ref l), some (.ref r), v8]) ∧ H4 d = some (.dK (kd (xs.take (2 ^ i + j)))) ∧ H4 r = some (.lst (((xs.drop (2 ^ i)).take (min (2 ^ i) (xs.length - 2 ^ i))).map V.int)) ∧ Kp [] H H4)
      ⟨⟨_, rfl⟩, hd3, hr3, k2.trans k3⟩ (fun j σ H4 _ q => SqL.of q.2.2.1) ?_ ?_
    · rintro j hj σ H4 ⟨⟨v8, rfl⟩, hd4, hr4, k4⟩
      rw [ml] at hj
      have hj2 : 2 ^ i + j < xs.length := by omega
      have ej : ((xs.drop (2 ^ i)).take (min (2 ^ i) (xs.length - 2 ^ i)))[j] = xs[2 ^ i + j] := by
        rw [List.getElem_take, List.getElem_drop]
      rw [ej]
      have klen : (kd (xs.take (2 ^ i + j))).length ≤ 256 := by
        rw [kd_len, List.length_take]
        omega
      wtm_at "rd"
      refine ⟨⟨_, rfl⟩, ?_, hu_ne (Ne.symm nrd) hr4, k4.mine nd⟩
      rw [upd_same, kd_put (not_take hN (Nat.le_refl _) hj2), take_snoc hj2]
      rfl
    · rintro σ H4 ⟨⟨v8, rfl⟩, hd4, hr4, k4⟩
      rw [ml] at hd4
      wtm_at "rd"
      have ep : 2 ^ (i + 1) = 2 * 2 ^ i := by rw [Nat.pow_succ]; omega
      have e2 : min (2 ^ (i + 1)) xs.length = 2 ^ i + min (2 ^ i) (xs.length - 2 ^ i) := by omega
      refine ⟨⟨_, _, _, _, _, rfl, ?_⟩, by rw [e2]; exact hd4, k4⟩
      rw [ml, e2]
      omega
  · rintro σ H1 ⟨⟨z, v5, v6, v7, v8, rfl, hz⟩, hd1, k1⟩
    rw [List.length_map, hls] at hz hd1
    have em : min (2 ^ R) xs.length = xs.length := by
      have := hR.1
      omega
    rw [em] at hd1 hz
    rw [List.take_length] at hd1
    have hs1 := k1.g0 hs
    wtm_at "rd"
    refine forL_ints (K := K) xs (fun j σ H4 => (∃ v8, σ = [some (.ref s), some (.int (xs.getD 0 0)), some (.ref F), some (.ref d), some (.int z), v5, v6, v7, v8]) ∧ H4 = H1) ⟨⟨_, rfl⟩, rfl⟩ (fun j σ H4 _ q => by rw [q.2]; exact SqL.of hs1) ?_ ?_
    · rintro j hj σ H4 ⟨⟨v8, rfl⟩, rfl⟩
      wtm_at "rd"
      rw [kd_val]
      refine ite_n (fun h => absurd (List.getElem_mem hj) h) (fun _ => ?_)
      wtm_at "rd"
      exact ⟨⟨_, rfl⟩, rfl⟩
    · rintro σ H4 ⟨⟨v8, rfl⟩, rfl⟩
      have hF1 := k1.g0 hF
      wtm_at "rd"
      refine ⟨sz1000 (by simp), fun t nt => ?_⟩
      refine kk t _ ?_ (k1.nw nt)
      rw [upd_same, List.length_map, hls, hz]
theorem c_judge_plan (T : Cx K mg) : CalX P w K mg base CX0 2 "judge_plan" (sp_judge_plan K) [] := by
  obtain ⟨fd, F, ok⟩ := f_judge_plan (P := P) (w := w) (base := base) T
  exact ⟨_, fd, p_judge_plan, [], ok, gl_judge_plan T, F.kp, FunD.bindsN F fun _ _ _ _ _ _ us hl => match us, hl with | [_, _, _], _ => rfl, .nil⟩
end
section
variable {P : Program} {w : World} {K : PySem.W.Frag} {mg : Str → Option Value} {base : Heap}
def sp_l_judged (K : PySem.W.Frag) : Sp := fun vs H Q E => ∃ (s F : Addr) (xs : List Int) (ls : List Addr) (R : Nat), vs = [.ref s, .int (xs.getD 0 0), .ref F] ∧ (H s = some (.lst (xs.map V.int))) ∧ (H F = some (.lst (ls.map V.ref))) ∧ (Lines H ls (tree xs R)) ∧ (Lr R xs.length) ∧ (xs.Nodup) ∧ (1 ≤ xs.length) ∧ (xs.length ≤ 256) ∧ (∀ t H1, H1 t = some (.tup [.bl true, .int R, .int ((xs.length : Int) - 1)]) → Kp [] H H1 → Q (.ref t) H1)
theorem us_l_judged {K : PySem.W.Frag} {H : Hp} {Q : VK} {E : XK} {s F : Addr} {xs : List Int} {ls : List Addr} {R : Nat} (hs : H s = some (.lst (xs.map V.int))) (hF : H F = some (.lst (ls.map V.ref))) (hL : Lines H ls (tree xs R)) (hR : Lr R xs.length) (hN : xs.Nodup) (h1 : 1 ≤ xs.length) (h2 : xs.length ≤ 256) (kk : ∀ t H1, H1 t = some (.tup [.bl true, .int R, .int ((xs.length : Int) - 1)]) → Kp [] H H1 → Q (.ref t) H1) : sp_l_judged K [.ref s, .int (xs.getD 0 0), .ref F] H Q E := ⟨_, _, _, _, _, rfl, hs, hF, hL, hR, hN, h1, h2, kk⟩
theorem f_l_judged (T : Cx K mg) : ∃ fd, FunD K "_law_judged" "_law_judged" (defArgs s_l_judged) (defBody s_l_judged) (defScope s_l_judged) (d_l_judged.dvs K) (d_l_judged.kws K) (fAd K d_l_judged.at_) fd ∧ FnOk P w K mg base CX0 1 (fAd K d_l_judged.at_) fd p_l_judged (sp_l_judged K) := by
  obtain ⟨fd, F⟩ := T.says.def_ 13 (d := d_l_judged) rfl
  refine ⟨fd, F, fnD F sc_l_judged (fun vs H Q E h => by
    obtain ⟨_, _, _, _, _, rfl, _⟩ := h
    rfl) fun cdv A outer s H vs Q E hr h => ?_⟩
  have hu := hu_of hr
  obtain ⟨s, F, xs, ls, R, rfl, hs, hF, hL, hR, hN, h1, h2, kk⟩ := h
  refine ⟨_, (pss_cons (ps_set (i := 3) sc_l_judged.nd rfl (by first | exact Or.inl rfl | exact Or.inr rfl) pe_dnewK) (pss_cons (ps_dput hu (pv 3) (pv 1) pe_bl rfl) (pss_cons (ps_set (i := 4) sc_l_judged.nd rfl (by first | exact Or.inl rfl | exact Or.inr rfl) pe_int) (pss_cons (ps_for PassesOwn.never rfl (pi_range1 (by rfl) (fr_range T) (pa_cons (pe_callB call_lenS (by rfl) (fr_len T) (by decide +kernel) (pa_cons (pv 2) pa_nil)) pa_nil)) (pg_name (i := 5) sc_l_judged.nd rfl (by first | exact Or.inl rfl | exact Or.inr rfl)) (pss_cons (ps_set (i := 6) sc_l_judged.nd rfl (by first | exact Or.inl rfl | exact Or.inr rfl) pe_dnewK) (pss_cons (ps_set (i := 7) sc_l_judged.nd rfl (by first | exact Or.inl rfl | exact Or.inr rfl) (pe_lst pa_nil)) (pss_cons (ps_for PassesOwn.never rfl (pi_list (pe_ix ix_list (pv 2) (pv 5) (fun _ _ => rfl))) (pg_tup rfl (pgs_cons (pg_name (i := 8) sc_l_judged.nd rfl (by first | exact Or.inl rfl | exact Or.inr rfl)) (pgs_cons (pg_name (i := 9) sc_l_judged.nd rfl (by first | exact Or.inl rfl | exact Or.inr rfl)) pgs_nil))) (pss_cons (ps_if (PW.pt (pw_or (pt_cmp (pc_dnotin hu (pv 8) (pv 3))) (pw_or (pt_cmp (pc_din hu (pv 8) (pv 6))) (pw_or1 (pt_cmpR op_eq (pv 8) (pv 9) (nomark _)))))) (pss_one (ps_ret (pe_tup (pa_cons pe_bl (pa_cons (pv 5) pa_nil))))) pss_nil) (pss_cons (ps_if (PW.pt (pw_or (pt_cmpR op_notIn_seq (pv 8) (pv 0) rfl) (pw_or1 (pt_cmpR op_notIn_seq (pv 9) (pv 0) rfl)))) (pss_one (ps_ret (pe_tup (pa_cons pe_bl (pa_cons (pv 5) pa_nil))))) pss_nil) (pss_cons (ps_dput hu (pv 6) (pv 8) pe_bl rfl) (pss_cons (ps_expr (pe_bm PySem.F.plainAttrs_list PySem.F.slot_list_append PySem.F.type_list_append mt_append (pv 7) (pa_cons (pv 9) pa_nil))) (pss_one (ps_set (i := 4) sc_l_judged.nd rfl (by first | exact Or.inl rfl | exact Or.inr rfl) (pe_op op_add (pv 4) pe_int)))))))) (pss_one (ps_for PassesOwn.never rfl (pi_list (pv 7)) (pg_name (i := 10) sc_l_judged.nd rfl (by first | exact Or.inl rfl | exact Or.inr rfl)) (pss_one (ps_dput hu (pv 3) (pv 10) pe_bl rfl)))))))) (pss_cons (ps_if (pt_cmpR op_lt (pe_callB call_lenD' (by rfl) (fr_len T) (by decide +kernel) (pa_cons (pv 3) pa_nil)) (pe_callB call_lenS (by rfl) (fr_len T) (by decide +kernel) (pa_cons (pv 0) pa_nil)) (nomark _)) (pss_one (ps_ret (pe_tup (pa_cons pe_bl (pa_cons (pe_callB call_lenS (by rfl) (fr_len T) (by decide +kernel) (pa_cons (pv 2) pa_nil)) pa_nil))))) pss_nil) (pss_one (ps_ret (pe_tup (pa_cons pe_bl (pa_cons (pe_callB call_lenS (by rfl) (fr_len T) (by decide +kernel) (pa_cons (pv 2) pa_nil)) (pa_cons (pv 4) pa_nil))))))))))), ?_⟩
  rw [show L2.start n_l_judged [.ref s, .int (xs.getD 0 0), .ref F] = [some (.ref s), some (.int (xs.getD 0 0)), some (.ref F), none, none, none, none, none, none, none, none] from rfl]
  try dsimp only [cxOf, Cx.nox, Cx.wish, List.map]

  have hls : ls.length = R := by
    rw [paired_len hL]
    unfold tree
    rw [List.length_map, List.length_range]
  have small : ∀ i, i < R → 2 ^ i < xs.length := fun i hi => by
    rcases hR.2 with e | e
    · omega
    · have := Nat.pow_le_pow_right (show 0 < 2 by decide) (show i ≤ R - 1 by omega)
      omega
  wtm_at "rd"
  intro d nd
  wtm_at "rd"
  have e0 : putK [] (.inl (xs.getD 0 0)) (.bl true) = kd (xs.take 1) := by
    rw [show xs.take 1 = [xs.getD 0 0] from by
      cases xs with
      | nil => simp at h1
      | cons a r => rfl]
    rfl
  rw [e0]
  have k0 : Kp [] H (upd (upd H d (.dK [])) d (.dK (kd (xs.take 1)))) := (Kp.new nd).mine nd
  have hd0 : upd (upd H d (.dK [])) d (.dK (kd (xs.take 1))) d = some (.dK (kd (xs.take 1))) := upd_same
  generalize upd (upd H d (.dK [])) d (.dK (kd (xs.take 1))) = H0 at k0 hd0
  have hF0 := k0.g0 hF
  wtm_at "rd"
  have eR : ((((ls.map V.ref).length : Nat) : Int)).toNat = R := by
    rw [List.length_map, hls]
    rfl
  have eB : (((ls.map V.ref).length : Nat) : Int) < 2 ^ 62 := by
    rw [List.length_map, hls]
    have : R ≤ 256 := by
      by_cases hz : R = 0
      · omega
      · have h5 := small (R - 1) (by omega)
        have h6 : R - 1 < 2 ^ (R - 1) := Nat.lt_two_pow_self
        omega
    omega
  refine rd_iRng1X (by omega) eB ?_
  rw [eR]
  refine forR_by (fun i σ H1 => (∃ z v5 v6 v7 v8 v9 v10, σ = [some (.ref s), some (.int (xs.getD 0 0)), some (.ref F), some (.ref d), some (.int z), v5, v6, v7, v8, v9, v10] ∧ z = ((min (2 ^ i) xs.length : Nat) : Int) - 1) ∧ H1 d = some (.dK (kd (xs.take (min (2 ^ i) xs.length)))) ∧ Kp [] H H1) ?_ ?_ ?_
  · have e1 : min (2 ^ 0) xs.length = 1 := by
      rw [Nat.pow_zero]
      omega
    exact ⟨⟨_, _, _, _, _, _, _, rfl, by rw [e1]; rfl⟩, by rw [e1]; exact hd0, k0⟩
  · rintro i σ H1 hi ⟨⟨z, v5, v6, v7, v8, v9, v10, rfl, hz⟩, hd1, k1⟩
    have hil : i < ls.length := by omega
    have hat : atI (ls.map V.ref) (0 + (i : Int)) = some (.ref ls[i]) := by
      rw [Int.zero_add]
      exact atI_nat (by rw [List.getElem?_map, List.getElem?_eq_getElem hil]; rfl)
    obtain ⟨ps, hps, hLi⟩ := paired_get hL (List.getElem?_eq_getElem hil)
    have eps : ps = rnd xs (2 ^ i) := by
      unfold tree at hps
      rw [List.getElem?_map, List.getElem?_range hi] at hps
      exact (Option.some.inj hps).symm
    subst eps
    have hsm := small i hi
    have hp1 : 1 ≤ 2 ^ i := Nat.one_le_two_pow
    have em : min (2 ^ i) xs.length = 2 ^ i := by omega
    rw [em] at hd1 hz
    have hF1 := k1.g0 hF
    wtm_at "rd"
    intro cd ncd
    wtm_at "rd"
    refine ⟨sz1000 (by simp), fun r nr => ?_⟩
    have ncr : cd ≠ r := ne_fresh nr
    have nr1 : H1 r = none := Kp.back (Kp.new (ps := []) ncd) nr (by simp)
    have k2 : Kp [] H (upd (upd H1 cd (.dK [])) r (.lst [])) := (k1.nw ncd).nw nr
    have hd2 : upd (upd H1 cd (.dK [])) r (.lst []) d = some (.dK (kd (xs.take (2 ^ i)))) := ((Kp.new (ps := []) ncd).nw nr).g0 hd1
    have hF2 := k2.g0 hF
    obtain ⟨ts, t1, t2⟩ := hLi
    have t1' := k2.g0 t1
    have tl : (ts.map V.ref).length = min (2 ^ i) (xs.length - 2 ^ i) := by rw [List.length_map, paired_len t2, rnd_len]
    wtm_at "rd"
    refine forL_by (K := K) (ts.map V.ref) (fun j σ H3 => (∃ w v8 v9 v10, σ = [some (.ref s), some (.int (xs.getD 0 0)), some (.ref F), some (.ref d), some (.int w), some (.int (0 + i)), some (.ref cd), some (.ref r), v8, v9, v10] ∧ w = z + j) ∧ H3 d = some (.dK (kd (xs.take (2 ^ i)))) ∧ H3 cd = some (.dK (kd (xs.take j))) ∧ H3 r = some (.lst (((xs.drop (2 ^ i)).take j).map V.int)) ∧ Kp [] H1 H3)
      ⟨⟨z, v8, v9, v10, rfl, by omega⟩, hd2, hu_ne ncr upd_same, upd_same, (Kp.new ncd).nw nr⟩ (fun j σ H3 _ q => SqL.of ((k1.trans q.2.2.2.2).g0 t1)) ?_ ?_
    · rintro j x σ H3 hx ⟨⟨w', v8, v9, v10, rfl, hw⟩, q0, q1, q2, k3⟩
      rw [List.getElem?_map] at hx
      obtain ⟨t, ht, rfl⟩ := Option.map_eq_some_iff.mp hx
      obtain ⟨p, hp, hP⟩ := paired_get t2 ht
      obtain ⟨hj, rfl⟩ := rnd_get hp
      have hj1 : j < xs.length := by omega
      have hj2 : 2 ^ i + j < xs.length := by omega
      have hP1 := (k1.trans k3).g0 hP
      have hs1 := (k1.trans k3).g0 hs
      have klen : (kd (xs.take j)).length ≤ 256 := by
        rw [kd_len, List.length_take]
        omega
      have n1 := not_take hN (Nat.le_refl j) hj1
      have n2 : ¬ xs[j] = xs[2 ^ i + j] := fun e => by
        have := nd_lt hN hj1 hj2 e
        omega
      have dcd : d ≠ cd := ne_of_none hd1 ncd
      simp only [getD_at hj1, getD_at hj2] at hP1
      wtm_at "rd"
      rw [kd_val]
      refine ite_n (fun h => absurd (mem_take (show j < 2 ^ i by omega) hj1) h) (fun _ => ?_)
      wtm_at "rd"
      rw [kd_val]
      refine ite_d (fun h => absurd h n1) (fun _ => ?_)
      wtm_at "rd"
      refine ite_d (fun h => absurd h n2) (fun _ => ?_)
      wtm_at "rd"
      refine ite_n (fun h => absurd (List.getElem_mem hj1) h) (fun _ => ?_)
      wtm_at "rd"
      refine ite_n (fun h => absurd (List.getElem_mem hj2) h) (fun _ => ?_)
      wtm_at "rd"
      have q2' : upd H3 cd (.dK (putK (kd (xs.take j)) (.inl xs[j]) (.bl true))) r = some (.lst (((xs.drop (2 ^ i)).take j).map V.int)) := hu_ne (Ne.symm ncr) q2
      have slen : (((xs.drop (2 ^ i)).take j).map V.int).length < sizeLine := szlt (by simp; omega)
      wtm_at "rd"
      have drr : d ≠ r := ne_of q0 q2 (by intro z; cases z)
      refine ⟨⟨_, _, _, v10, rfl, by omega⟩, hu_ne drr (hu_ne dcd q0), ?_, ?_, (k3.mine ncd).mine nr1⟩
      · rw [upd_ne ncr, upd_same, kd_put n1, take_snoc hj1]
      · rw [upd_same, ← dtake_snoc hj2, List.map_append]
        rfl
    · rintro σ H3 ⟨⟨w', v8, v9, v10, rfl, hw⟩, q0, q1, q2, k3⟩
      rw [tl] at q2
      have drr : d ≠ r := ne_of q0 q2 (by intro z; cases z)
      have ml : ((xs.drop (2 ^ i)).take (min (2 ^ i) (xs.length - 2 ^ i))).length = min (2 ^ i) (xs.length - 2 ^ i) := by
        rw [List.length_take, List.length_drop]
        omega
      wtm_at "rd"
      refine forL_ints (K := K) ((xs.drop (2 ^ i)).take (min (2 ^ i) (xs.length - 2 ^ i))) (fun j σ H4 => (∃ v10, σ = [some (.ref s), some (.int (xs.getD 0 0)), some (.ref F), some (.ref d), some (.int w'), some (.int (0 + i)), some (.ref cd), some (.ref r), v8, v9, v10]) ∧ H4 d = some (.dK (kd (xs.take (2 ^ i + j)))) ∧ H4 r = some (.lst (((xs.drop (2 ^ i)).take (min (2 ^ i) (xs.length - 2 ^ i))).map V.int)) ∧ Kp [] H H4)
        ⟨⟨_, rfl⟩, q0, q2, k1.trans k3⟩ (fun j σ H4 _ q => SqL.of q.2.2.1) ?_ ?_
      · rintro j hj σ H4 ⟨⟨v10, rfl⟩, hd4, hr4, k4⟩
        rw [ml] at hj
        have hj2 : 2 ^ i + j < xs.length := by omega
        have ej : ((xs.drop (2 ^ i)).take (min (2 ^ i) (xs.length - 2 ^ i)))[j] = xs[2 ^ i + j] := by
          rw [List.getElem_take, List.getElem_drop]
        rw [ej]
        have klen : (kd (xs.take (2 ^ i + j))).length ≤ 256 := by
          rw [kd_len, List.length_take]
          omega
        wtm_at "rd"
        refine ⟨⟨_, rfl⟩, ?_, hu_ne (Ne.symm drr) hr4, k4.mine nd⟩
        rw [upd_same, kd_put (not_take hN (Nat.le_refl _) hj2), take_snoc hj2]
        rfl
      · rintro σ H4 ⟨⟨v10, rfl⟩, hd4, hr4, k4⟩
        rw [ml] at hd4
        have ep : 2 ^ (i + 1) = 2 * 2 ^ i := by rw [Nat.pow_succ]; omega
        have e2 : min (2 ^ (i + 1)) xs.length = 2 ^ i + min (2 ^ i) (xs.length - 2 ^ i) := by omega
        refine ⟨⟨_, _, _, _, _, _, _, rfl, ?_⟩, by rw [e2]; exact hd4, k4⟩
        rw [tl] at hw
        rw [e2]
        omega
  · rintro σ H1 ⟨⟨z, v5, v6, v7, v8, v9, v10, rfl, hz⟩, hd1, k1⟩
    have em : min (2 ^ R) xs.length = xs.length := by
      have := hR.1
      omega
    rw [em] at hd1 hz
    rw [List.take_length] at hd1
    have hs1 := k1.g0 hs
    have hF1 := k1.g0 hF
    wtm_at "rd"
    rw [kd_len]
    refine ite_d (fun h => absurd h (by omega)) (fun _ => ?_)
    wtm_at "rd"
    refine ⟨sz1000 (by simp), fun t nt => ?_⟩
    refine kk t _ ?_ (k1.nw nt)
    rw [upd_same, List.length_map, hls, hz]
theorem c_l_judged (T : Cx K mg) : CalX P w K mg base CX0 1 "_law_judged" (sp_l_judged K) [] := by
  obtain ⟨fd, F, ok⟩ := f_l_judged (P := P) (w := w) (base := base) T
  exact ⟨_, fd, p_l_judged, [], ok, gl_l_judged T, F.kp, FunD.bindsN F fun _ _ _ _ _ _ us hl => match us, hl with | [_, _, _], _ => rfl, .nil⟩
end
section
variable {P : Program} {w : World} {K : PySem.W.Frag} {mg : Str → Option Value} {base : Heap}
def sp_l_is_plan (K : PySem.W.Frag) : Sp := fun vs H Q E => ∃ (F : Addr) (ls : List Addr) (L : List (List (Int × Int))), vs = [.ref F] ∧ (H F = some (.lst (ls.map V.ref))) ∧ (Lines H ls L) ∧ (Q (.bl true) H)
theorem us_l_is_plan {K : PySem.W.Frag} {H : Hp} {Q : VK} {E : XK} {F : Addr} {ls : List Addr} {L : List (List (Int × Int))} (hF : H F = some (.lst (ls.map V.ref))) (hL : Lines H ls L) (kk : Q (.bl true) H) : sp_l_is_plan K [.ref F] H Q E := ⟨_, _, _, rfl, hF, hL, kk⟩
theorem f_l_is_plan (T : Cx K mg) : ∃ fd, FunD K "_law_is_plan" "_law_is_plan" (defArgs s_l_is_plan) (defBody s_l_is_plan) (defScope s_l_is_plan) (d_l_is_plan.dvs K) (d_l_is_plan.kws K) (fAd K d_l_is_plan.at_) fd ∧ FnOk P w K mg base CX0 1 (fAd K d_l_is_plan.at_) fd p_l_is_plan (sp_l_is_plan K) := by
  obtain ⟨fd, F⟩ := T.says.def_ 14 (d := d_l_is_plan) rfl
  refine ⟨fd, F, fnD F sc_l_is_plan (fun vs H Q E h => by
    obtain ⟨_, _, _, rfl, _⟩ := h
    rfl) fun cdv A outer s H vs Q E hr h => ?_⟩
  have hu := hu_of hr
  obtain ⟨F, ls, L, rfl, hF, hL, kk⟩ := h
  refine ⟨_, (pss_cons (ps_if (pt_not (pt_val (pe_callB call_isi (by rfl) (fr_isinstance T) (by decide +kernel) (pa_cons (pv 0) (pa_cons (pe_bltn (v := .ty "list") (by rfl) (fr_list T) (by decide +kernel) rfl) pa_nil))))) (pss_one (ps_ret pe_bl)) pss_nil) (pss_cons (ps_for PassesOwn.never rfl (pi_list (pv 0)) (pg_name (i := 1) sc_l_is_plan.nd rfl (by first | exact Or.inl rfl | exact Or.inr rfl)) (pss_cons (ps_if (pt_not (pt_val (pe_callB call_isi (by rfl) (fr_isinstance T) (by decide +kernel) (pa_cons (pv 1) (pa_cons (pe_bltn (v := .ty "list") (by rfl) (fr_list T) (by decide +kernel) rfl) pa_nil))))) (pss_one (ps_ret pe_bl)) pss_nil) (pss_one (ps_for PassesOwn.never rfl (pi_list (pv 1)) (pg_name (i := 2) sc_l_is_plan.nd rfl (by first | exact Or.inl rfl | exact Or.inr rfl)) (pss_cons (ps_if (PW.pt (pw_or (pt_not (pt_val (pe_callB call_isi (by rfl) (fr_isinstance T) (by decide +kernel) (pa_cons (pv 2) (pa_cons (pe_bltn (v := .ty "tuple") (by rfl) (fr_tuple T) (by decide +kernel) rfl) pa_nil))))) (pw_or1 (pt_cmpR op_ne (pe_callB call_lenS (by rfl) (fr_len T) (by decide +kernel) (pa_cons (pv 2) pa_nil)) pe_int (nomark _))))) (pss_one (ps_ret pe_bl)) pss_nil) (pss_one (ps_for PassesOwn.never rfl (pi_tup (pv 2)) (pg_name (i := 3) sc_l_is_plan.nd rfl (by first | exact Or.inl rfl | exact Or.inr rfl)) (pss_one (ps_if (PW.pt (pw_or (pt_not (pt_val (pe_callB call_isi (by rfl) (fr_isinstance T) (by decide +kernel) (pa_cons (pv 3) (pa_cons (pe_bltn (v := .ty "int") (by rfl) (fr_int T) (by decide +kernel) rfl) pa_nil))))) (pw_or1 (pt_val (pe_callB call_isi (by rfl) (fr_isinstance T) (by decide +kernel) (pa_cons (pv 3) (pa_cons (pe_bltn (v := .ty "bool") (by rfl) (fr_bool T) (by decide +kernel) rfl) pa_nil))))))) (pss_one (ps_ret pe_bl)) pss_nil))))))))) (pss_one (ps_ret pe_bl)))), ?_⟩
  rw [show L2.start n_l_is_plan [.ref F] = [some (.ref F), none, none, none] from rfl]
  try dsimp only [cxOf, Cx.nox, Cx.wish, List.map]

  wtm_at "rd"
  refine forL_by (K := K) (ls.map V.ref) (fun i σ H1 => (∃ v1 v2 v3, σ = [some (.ref F), v1, v2, v3]) ∧ H1 = H) ⟨⟨_, _, _, rfl⟩, rfl⟩ (fun i σ H1 _ q => by rw [q.2]; exact SqL.of hF) ?_ ?_
  · rintro i x σ H1 hx ⟨⟨v1, v2, v3, rfl⟩, rfl⟩
    rw [List.getElem?_map] at hx
    obtain ⟨l, hl, rfl⟩ := Option.map_eq_some_iff.mp hx
    obtain ⟨ps, hps, ts, t1, t2⟩ := paired_get hL hl
    wtm_at "rd"
    refine forL_by (K := K) (ts.map V.ref) (fun j σ H2 => (∃ v2 v3, σ = [some (.ref F), some (.ref l), v2, v3]) ∧ H2 = H1) ⟨⟨_, _, rfl⟩, rfl⟩ (fun j σ H2 _ q => by rw [q.2]; exact SqL.of t1) ?_ ?_
    · rintro j x σ H2 hx ⟨⟨v2, v3, rfl⟩, rfl⟩
      rw [List.getElem?_map] at hx
      obtain ⟨t, ht, rfl⟩ := Option.map_eq_some_iff.mp hx
      obtain ⟨p, hp, hP⟩ := paired_get t2 ht
      have hP : H2 t = some (.tup [.int p.1, .int p.2]) := hP
      wtm_at "rd"
      refine ite_n (fun h => absurd rfl h) (fun _ => ?_)
      wtm_at "rd"
      refine forT_by (K := K) [.int p.1, .int p.2] (fun k σ H3 => (∃ v3, σ = [some (.ref F), some (.ref l), some (.ref t), v3]) ∧ H3 = H2) ⟨⟨_, rfl⟩, rfl⟩ (fun k σ H3 _ q => by rw [q.2]; exact SqT.of hP) ?_ ?_
      · rintro k x σ H3 hx ⟨⟨v3, rfl⟩, rfl⟩
        obtain ⟨y, rfl⟩ : ∃ y, x = .int y := by
          rcases k with _ | _ | k
          · simp at hx
            exact ⟨_, hx.symm⟩
          · simp at hx
            exact ⟨_, hx.symm⟩
          · simp at hx
        wtm_at "rd"
        exact ⟨⟨_, rfl⟩, rfl⟩
      · rintro σ H3 ⟨⟨v3, rfl⟩, rfl⟩
        exact ⟨⟨_, _, rfl⟩, rfl⟩
    · rintro σ H2 ⟨⟨v2, v3, rfl⟩, rfl⟩
      exact ⟨⟨_, _, _, rfl⟩, rfl⟩
  · rintro σ H1 ⟨⟨v1, v2, v3, rfl⟩, rfl⟩
    wtm_at "rd"
    exact kk
theorem c_l_is_plan (T : Cx K mg) : CalX P w K mg base CX0 1 "_law_is_plan" (sp_l_is_plan K) [] := by
  obtain ⟨fd, F, ok⟩ := f_l_is_plan (P := P) (w := w) (base := base) T
  exact ⟨_, fd, p_l_is_plan, [], ok, gl_l_is_plan T, F.kp, FunD.bindsN F fun _ _ _ _ _ _ us hl => match us, hl with | [_], _ => rfl, .nil⟩
end
section
variable {P : Program} {w : World} {K : PySem.W.Frag} {mg : Str → Option Value} {base : Heap}
def sp_l_asked (K : PySem.W.Frag) : Sp := fun vs H Q E => ∃ (s : Addr) (xs : List Int), vs = [.ref s] ∧ (H s = some (.lst (xs.map V.int))) ∧ (xs.Nodup) ∧ (1 ≤ xs.length) ∧ (xs.length ≤ 256) ∧ (∀ H1, Kp [] H H1 → Q (.bl true) H1)
theorem us_l_asked {K : PySem.W.Frag} {H : Hp} {Q : VK} {E : XK} {s : Addr} {xs : List Int} (hs : H s = some (.lst (xs.map V.int))) (hN : xs.Nodup) (h1 : 1 ≤ xs.length) (h2 : xs.length ≤ 256) (kk : ∀ H1, Kp [] H H1 → Q (.bl true) H1) : sp_l_asked K [.ref s] H Q E := ⟨_, _, rfl, hs, hN, h1, h2, kk⟩
theorem f_l_asked (T : Cx K mg) : ∃ fd, FunD K "_law_asked" "_law_asked" (defArgs s_l_asked) (defBody s_l_asked) (defScope s_l_asked) (d_l_asked.dvs K) (d_l_asked.kws K) (fAd K d_l_asked.at_) fd ∧ FnOk P w K mg base CX0 3 (fAd K d_l_asked.at_) fd p_l_asked (sp_l_asked K) := by
  have c_tree_plan := c_tree_plan (P := P) (w := w) (base := base) T
  have c_l_is_plan := c_l_is_plan (P := P) (w := w) (base := base) T
  have c_l_numbers := c_l_numbers (P := P) (w := w) (base := base) T
  have c_l_least := c_l_least (P := P) (w := w) (base := base) T
  have c_l_judged := c_l_judged (P := P) (w := w) (base := base) T
  have c_judge_plan := c_judge_plan (P := P) (w := w) (base := base) T
  have c_l_number := c_l_number (P := P) (w := w) (base := base) T
  obtain ⟨fd, F⟩ := T.says.def_ 15 (d := d_l_asked) rfl
  refine ⟨fd, F, fnD F sc_l_asked (fun vs H Q E h => by
    obtain ⟨_, _, rfl, _⟩ := h
    rfl) fun cdv A outer s H vs Q E hr h => ?_⟩
  have hu := hu_of hr
  obtain ⟨s, xs, rfl, hs, hN, h1, h2, kk⟩ := h
  refine ⟨_, (pss_cons (ps_set (i := 1) sc_l_asked.nd rfl (by first | exact Or.inl rfl | exact Or.inr rfl) (pe_callTy call_listOf (by rfl) (fr_list T) (by decide +kernel) (pa_cons (pv 0) pa_nil))) (pss_cons (ps_set (i := 2) sc_l_asked.nd rfl (by first | exact Or.inl rfl | exact Or.inr rfl) (pe_cal c_tree_plan hr (by decide) (by rfl) pass0 (pa_cons (pv 1) pa_nil))) (pss_cons (ps_if (PW.pt (pw_or (pt_cmpR (op_neD hr.units) (pv 1) (pv 0) (nomark _)) (pw_or (pt_not (pt_val (pe_cal c_l_is_plan hr (by decide) (by rfl) pass0 (pa_cons (pv 2) pa_nil)))) (pw_or1 (pt_not (pt_val (pe_cal c_l_numbers hr (by decide) (by rfl) pass0 (pa_cons (pe_callB call_lenS (by rfl) (fr_len T) (by decide +kernel) (pa_cons (pv 0) pa_nil)) pa_nil)))))))) (pss_one (ps_ret pe_bl)) pss_nil) (pss_cons (ps_set (i := 3) sc_l_asked.nd rfl (by first | exact Or.inl rfl | exact Or.inr rfl) (pe_tup (pa_cons pe_bl (pa_cons (pe_cal c_l_least hr (by decide) (by rfl) pass0 (pa_cons (pe_callB call_lenS (by rfl) (fr_len T) (by decide +kernel) (pa_cons (pv 0) pa_nil)) pa_nil)) (pa_cons (pe_op op_sub (pe_callB call_lenS (by rfl) (fr_len T) (by decide +kernel) (pa_cons (pv 0) pa_nil)) pe_int) pa_nil))))) (pss_cons (ps_if (pt_cmpR (op_neD hr.units) (pe_cal c_l_judged hr (by decide) (by rfl) pass0 (pa_cons (pv 0) (pa_cons (pe_ix ix_list (pv 0) pe_int (fun _ _ => rfl)) (pa_cons (pv 2) pa_nil)))) (pv 3) (nomark _)) (pss_one (ps_ret pe_bl)) pss_nil) (pss_cons (ps_set (i := 4) sc_l_asked.nd rfl (by first | exact Or.inl rfl | exact Or.inr rfl) (pe_cal c_judge_plan hr (by decide) (by rfl) pass0 (pa_cons (pv 1) (pa_cons (pe_ix ix_list (pv 1) pe_int (fun _ _ => rfl)) (pa_cons (pe_lc (own := [("_law_line", 5)]) (g := (gName 5)) (tt := tYes) rfl sc_l_asked.nd (pi_list (pv 2)) (blkOk_by (own := [("_law_line", 5)]) (N := n_l_asked) (sc := defScope s_l_asked) (by decide +kernel)) (fun _ _ _ _ _ => (pg_name (i := 5) sc_l_asked.nd rfl (by first | exact Or.inl rfl | exact Or.inr rfl))) (fun _ _ _ _ _ => pts_nil) (fun _ _ _ _ _ => (pe_callTy (call_listOfK (K := K) rfl) (by rfl) (fr_list T) (by decide +kernel) (pa_cons (pv 5) pa_nil)))) pa_nil))))) (pss_cons (ps_if (PW.pt (pw_or (pt_not (pt_val (pe_callB call_isi (by rfl) (fr_isinstance T) (by decide +kernel) (pa_cons (pv 4) (pa_cons (pe_bltn (v := .ty "tuple") (by rfl) (fr_tuple T) (by decide +kernel) rfl) pa_nil))))) (pw_or1 (pt_cmpR op_ne (pe_callB call_lenS (by rfl) (fr_len T) (by decide +kernel) (pa_cons (pv 4) pa_nil)) pe_int (nomark _))))) (pss_one (ps_ret pe_bl)) pss_nil) (pss_cons (ps_if (PW.pt (pw_or (pt_not (pt_val (pe_cal c_l_number hr (by decide) (by rfl) pass0 (pa_cons (pe_ix ix_tup (pv 4) pe_int (fun _ _ => rfl)) (pa_cons (pe_ix ix_tup (pv 3) pe_int (fun _ _ => rfl)) pa_nil))))) (pw_or1 (pt_not (pt_val (pe_cal c_l_number hr (by decide) (by rfl) pass0 (pa_cons (pe_ix ix_tup (pv 4) pe_int (fun _ _ => rfl)) (pa_cons (pe_ix ix_tup (pv 3) pe_int (fun _ _ => rfl)) pa_nil)))))))) (pss_one (ps_ret pe_bl)) pss_nil) (pss_cons (ps_for PassesOwn.never rfl (pi_list (pv 2)) (pg_name (i := 5) sc_l_asked.nd rfl (by first | exact Or.inl rfl | exact Or.inr rfl)) (pss_one (ps_expr (pe_bm0 PySem.F.plainAttrs_list PySem.F.slot_list_clear PySem.F.type_list_clear mt_clear (pv 5))))) (pss_cons (ps_expr (pe_bm PySem.F.plainAttrs_list PySem.F.slot_list_append PySem.F.type_list_append mt_append (pv 2) (pa_cons (pe_lst pa_nil) pa_nil))) (pss_one (ps_ret (pe_cmpR (op_eqD hr.units) (pv 1) (pv 0) (nomark _)))))))))))))), ?_⟩
  rw [show L2.start n_l_asked [.ref s] = [some (.ref s), none, none, none, none, none] from rfl]
  try dsimp only [cxOf, Cx.nox, Cx.wish, List.map]

  have big : xs.length ≤ 2 ^ 62 := Nat.le_trans h2 (by decide)
  wtm_at "rd"
  intro h nh
  have hh1 : upd H h (.lst (xs.map V.int)) h = some (.lst (xs.map V.int)) := upd_same
  have k1 : Kp [] H (upd H h (.lst (xs.map V.int))) := Kp.new nh
  generalize upd H h (.lst (xs.map V.int)) = H1 at hh1 k1
  have hs1 := k1.g0 hs
  wtm_at "rd"
  refine us_tree_plan hh1 h1 h2 fun F ls R H2 hR hF hL nin k2 nF nls => ?_
  have hh2 := k2.g0 hh1
  have hs2 := k2.g0 hs1
  wtm_at "rd"
  refine ite_n (fun e => absurd rfl e) (fun _ => ?_)
  wtm_at "rd"
  refine us_l_is_plan hF hL ?_
  wtm_at "rd"
  refine us_l_numbers h1 big ?_
  wtm_at "rd"
  refine us_l_least h1 big fun r hr => ?_
  have er := hr.uniq hR
  subst er
  wtm_at "rd"
  refine ⟨sz1000 (by simp), fun w nw => ?_⟩
  have hw3 : upd H2 w (.tup [.bl true, .int (r : Nat), .int ((xs.length : Int) - 1)]) w = some (.tup [.bl true, .int (r : Nat), .int ((xs.length : Int) - 1)]) := upd_same
  have k3 : Kp [] H2 (upd H2 w (.tup [.bl true, .int (r : Nat), .int ((xs.length : Int) - 1)])) := Kp.new nw
  generalize upd H2 w (.tup [.bl true, .int (r : Nat), .int ((xs.length : Int) - 1)]) = H3 at hw3 k3
  have hs3 := k3.g0 hs2
  have hF3 := k3.g0 hF
  have hL3 := Lines.kp hL k3
  wtm_at "rd"
  refine us_l_judged hs3 hF3 hL3 hR hN h1 h2 fun t1 H4 ht1 k4 => ?_
  have hw4 := k4.g0 hw3
  wtm_at "rd"
  refine rd_neT3 (SqT.of ht1) (SqT.of hw4) ?_
  have hh4 := k4.g0 (k3.g0 hh2)
  have hF4 := k4.g0 hF3
  have hL4 := Lines.kp hL3 k4
  wtm_at "rd"
  intro D hD
  refine lcL_by (K := K) (ls.map V.ref) (fun i H' => ∃ ms : List Addr, H' D = some (.lst (ms.map V.ref)) ∧ ms.length = i ∧ Lines H' ms ((tree xs r).take i) ∧ D ∉ ms ∧ Kp [] H4 H') ⟨[], upd_same, rfl, .nil, by simp, Kp.new hD⟩ (fun i H' _ q => by
    obtain ⟨ms, -, -, -, -, q5⟩ := q
    exact SqL.of (q5.g0 hF4)) (fun i x H' hx q => ?_) (fun H5 q => ?_)
  · obtain ⟨ms, q1, q2, q3, q4, q5⟩ := q
    rw [List.getElem?_map] at hx
    obtain ⟨l, hl, rfl⟩ := Option.map_eq_some_iff.mp hx
    obtain ⟨ps, hps, ts, u1, u2⟩ := paired_get hL4 hl
    have u1' := q5.g0 u1
    wtm_at "rd"
    refine ⟨rfl, ?_⟩
    wtm_at "rd"
    intro m nm
    have Dm : D ≠ m := ne_of_none q1 nm
    have hi : i < (tree xs r).length := (List.getElem?_eq_some_iff.mp hps).1
    have rl : r ≤ 256 := by
      rcases hR.2 with e | e
      · omega
      · have h6 : r - 1 < 2 ^ (r - 1) := Nat.lt_two_pow_self
        omega
    have tl : (tree xs r).length = r := by
      unfold tree
      rw [List.length_map, List.length_range]
    wtm_at "rd"
    refine ⟨ms.map V.ref, hu_ne Dm q1, szlt (by rw [List.length_map]; omega), ms ++ [m], by rw [upd_same, List.map_append]; rfl, by simp [q2], ?_, by simp [q4, Dm], (q5.nw nm).mine hD⟩
    have ep : (tree xs r)[i] = ps := (List.getElem?_eq_some_iff.mp hps).2
    rw [List.take_succ_eq_append_getElem hi, ep]
    have hDm : upd H' m (.lst (ts.map V.ref)) D = some (.lst (ms.map V.ref)) := hu_ne Dm q1
    refine paired_snoc (Line.upd ⟨ts, upd_same, ?_⟩ hDm (Ne.symm Dm)) (Lines.upd hDm (Lines.kp q3 (Kp.new nm)) q4)
    exact paired_imp (fun a b e => (q5.nw nm).g0 e) u2
  · obtain ⟨ms, q1, q2, q3, q4, k5⟩ := q
    have tl : (tree xs r).length = (ls.map V.ref).length := by rw [List.length_map, paired_len hL]
    rw [← tl, List.take_length] at q3
    have hh5 := k5.g0 hh4
    wtm_at "rd"
    refine us_judge_plan hh5 q1 q3 hR hN h1 h2 fun t2 H6 ht2 k6 => ?_
    have hw6 := k6.g0 (k5.g0 hw4)
    wtm_at "rd"
    refine ite_n (fun e => absurd rfl e) (fun _ => ?_)
    wtm_at "rd"
    refine us_l_number ?_
    wtm_at "rd"
    refine ite_n (fun e => absurd rfl e) (fun _ => ?_)
    wtm_at "rd"
    refine us_l_number ?_
    wtm_at "rd"
    refine ite_n (fun e => absurd rfl e) (fun _ => ?_)
    have k26 : Kp [] H2 H6 := ((k3.trans k4).trans k5).trans k6
    have hL6 := Lines.kp hL k26
    have nh1 : ∀ l, l ∈ ls → l ≠ h ∧ l ≠ s ∧ H l = none := fun l hl => ⟨Ne.symm (ne_of_none hh1 (nls l hl)), Ne.symm (ne_of_none hs1 (nls l hl)), Kp.back k1 (nls l hl) (by simp)⟩
    have hF6 := k26.g0 hF
    wtm_at "rd"
    refine forL_by (K := K) (ls.map V.ref) (fun i σ H7 => (∃ v5, σ = [some (.ref s), some (.ref h), some (.ref F), some (.ref w), some (.ref t2), v5]) ∧ (∀ l, l ∈ ls → ∃ ys, H7 l = some (.lst ys)) ∧ H7 F = some (.lst (ls.map V.ref)) ∧ H7 h = some (.lst (xs.map V.int)) ∧ H7 s = some (.lst (xs.map V.int)) ∧ Kp [] H H7)
      ⟨⟨_, rfl⟩, ?_, hF6, k6.g0 hh5, k26.g0 hs2, (k1.trans k2).trans k26⟩ (fun i σ H7 _ q => SqL.of q.2.2.1) ?_ ?_
    · intro l hl
      obtain ⟨i, hi, e⟩ := List.mem_iff_getElem.mp hl
      obtain ⟨ps, hps, ts, u1, u2⟩ := paired_get hL6 (List.getElem?_eq_getElem hi)
      rw [e] at u1
      exact ⟨_, u1⟩
    · rintro i x σ H7 hx ⟨⟨v5, rfl⟩, g1, g2, g3, g4, g5⟩
      rw [List.getElem?_map] at hx
      obtain ⟨l, hl, rfl⟩ := Option.map_eq_some_iff.mp hx
      have hm : l ∈ ls := List.mem_of_getElem? hl
      obtain ⟨ys, hy⟩ := g1 l hm
      obtain ⟨n1, n2, n3⟩ := nh1 l hm
      have n4 : F ≠ l := fun e => nin (e ▸ hm)
      wtm_at "rd"
      refine ⟨⟨_, rfl⟩, fun l' hl' => ?_, hu_ne n4 g2, hu_ne (Ne.symm n1) g3, hu_ne (Ne.symm n2) g4, g5.mine n3⟩
      by_cases e : l' = l
      · subst e
        exact ⟨_, upd_same⟩
      · obtain ⟨zs, hz⟩ := g1 l' hl'
        exact ⟨zs, hu_ne e hz⟩
    · rintro σ H7 ⟨⟨v5, rfl⟩, g1, g2, g3, g4, g5⟩
      have lsl : (ls.map V.ref).length < sizeLine := by
        rw [← tl]
        unfold tree
        rw [List.length_map, List.length_range]
        refine szlt ?_
        rcases hR.2 with e | e
        · omega
        · have h6 : r - 1 < 2 ^ (r - 1) := Nat.lt_two_pow_self
          omega
      wtm_at "rd"
      refine ⟨sz1000 (by simp), fun e ne => ?_⟩
      have eF : F ≠ e := ne_of_none g2 ne
      have g2' : upd H7 e (.lst []) F = some (.lst (ls.map V.ref)) := hu_ne eF g2
      wtm_at "rd"
      have nF0 : H F = none := Kp.back k1 nF (by simp)
      have f1 : h ≠ F := ne_of_none hh1 nF
      have f2 : s ≠ F := ne_of_none hs1 nF
      have f3 : h ≠ e := ne_of_none g3 ne
      have f4 : s ≠ e := ne_of_none g4 ne
      have x1 : upd (upd H7 e (.lst [])) F (.lst (ls.map V.ref ++ [V.ref e])) h = some (.lst (xs.map V.int)) := hu_ne f1 (hu_ne f3 g3)
      have x2 : upd (upd H7 e (.lst [])) F (.lst (ls.map V.ref ++ [V.ref e])) s = some (.lst (xs.map V.int)) := hu_ne f2 (hu_ne f4 g4)
      have x3 : Kp [] H (upd (upd H7 e (.lst [])) F (.lst (ls.map V.ref ++ [V.ref e]))) := (g5.nw ne).mine nF0
      wtm_at "rd"
      rw [decide_eq_true rfl]
      exact kk _ x3
theorem c_l_asked (T : Cx K mg) : CalX P w K mg base CX0 3 "_law_asked" (sp_l_asked K) [] := by
  obtain ⟨fd, F, ok⟩ := f_l_asked (P := P) (w := w) (base := base) T
  exact ⟨_, fd, p_l_asked, [], ok, gl_l_asked T, F.kp, FunD.bindsN F fun _ _ _ _ _ _ us hl => match us, hl with | [_], _ => rfl, .nil⟩
end
section
variable {P : Program} {w : World} {K : PySem.W.Frag} {mg : Str → Option Value} {base : Heap}
def sp_law (K : PySem.W.Frag) : Sp := fun vs H Q E => ∃ (a : Addr) (ns : List Int), vs = [.ref a] ∧ (SqL K H a (ns.map V.int)) ∧ (ns.length ≤ 63) ∧ (∀ H1, Q (.bl true) H1)
theorem us_law {K : PySem.W.Frag} {H : Hp} {Q : VK} {E : XK} {a : Addr} {ns : List Int} (hS : SqL K H a (ns.map V.int)) (hl : ns.length ≤ 63) (kk : ∀ H1, Q (.bl true) H1) : sp_law K [.ref a] H Q E := ⟨_, _, rfl, hS, hl, kk⟩
theorem f_law (T : Cx K mg) : ∃ fd, FunD K "law" "law" (defArgs s_law) (defBody s_law) (defScope s_law) (d_law.dvs K) (d_law.kws K) (fAd K d_law.at_) fd ∧ FnOk P w K mg base CX0 5 (fAd K d_law.at_) fd p_law (sp_law K) := by
  have c_l_purse := c_l_purse (P := P) (w := w) (base := base) T
  have c_l_draw := c_l_draw (P := P) (w := w) (base := base) T
  have c_l_list := c_l_list (P := P) (w := w) (base := base) T
  have c_l_numbers := c_l_numbers (P := P) (w := w) (base := base) T
  have c_l_asked := c_l_asked (P := P) (w := w) (base := base) T
  obtain ⟨fd, F⟩ := T.says.def_ 16 (d := d_law) rfl
  refine ⟨fd, F, fnD F sc_law (fun vs H Q E h => by
    obtain ⟨_, _, rfl, _⟩ := h
    rfl) fun cdv A outer s H vs Q E hr h => ?_⟩
  have hu := hu_of hr
  obtain ⟨a, ns, rfl, hS, hl, kk⟩ := h
  refine ⟨_, (pss_cons (ps_set (i := 1) sc_law.nd rfl (by first | exact Or.inl rfl | exact Or.inr rfl) (pe_cal c_l_purse hr (by decide) (by rfl) pass0 (pa_cons (pv 0) pa_nil))) (pss_cons (ps_set (i := 2) sc_law.nd rfl (by first | exact Or.inl rfl | exact Or.inr rfl) (pe_cal c_l_list hr (by decide) (by rfl) pass0 (pa_cons (pv 1) pa_nil))) (pss_cons (ps_set (i := 3) sc_law.nd rfl (by first | exact Or.inl rfl | exact Or.inr rfl) (pe_cal c_l_list hr (by decide) (by rfl) pass0 (pa_cons (pv 1) pa_nil))) (pss_cons (ps_set (i := 4) sc_law.nd rfl (by first | exact Or.inl rfl | exact Or.inr rfl) (pe_op op_shl pe_int (pe_cal c_l_draw hr (by decide) (by rfl) pass0 (pa_cons (pv 1) (pa_cons pe_int pa_nil))))) (pss_cons (ps_if (pt_not (pt_val (pe_cal c_l_numbers hr (by decide) (by rfl) pass0 (pa_cons (pe_callB (call_max2' rfl) (by rfl) (fr_max T) (by decide +kernel) (pa_cons pe_int (pa_cons (pe_op op_add (pe_op op_sub (pv 4) pe_int) (pe_cal c_l_draw hr (by decide) (by rfl) pass0 (pa_cons (pv 1) (pa_cons pe_int pa_nil)))) pa_nil))) pa_nil)))) (pss_one (ps_ret pe_bl)) pss_nil) (pss_one (ps_ret (pe_and (pe_cal c_l_asked hr (by decide) (by rfl) pass0 (pa_cons (pv 2) pa_nil)) (pe_and (pe_cal c_l_asked hr (by decide) (by rfl) pass0 (pa_cons (pv 3) pa_nil)) (pe_one (pe_cal c_l_asked hr (by decide) (by rfl) pass0 (pa_cons (pv 2) pa_nil)))))))))))), ?_⟩
  rw [show L2.start n_law [.ref a] = [some (.ref a), none, none, none, none] from rfl]
  try dsimp only [cxOf, Cx.nox, Cx.wish, List.map]

  wtm_at "rd"
  refine us_l_purse hS hl fun p c H1 B1 k1 np nc => ?_
  wtm_at "rd"
  refine us_l_list B1 fun l1 xs1 H2 hl1 hN1 hn1 hn2 B2 k2 nl1 => ?_
  wtm_at "rd"
  refine us_l_list B2 fun l2 xs2 H3 hl2 hM1 hm1 hm2 B3 k3 nl2 => ?_
  have hl13 := k3.g1 (B2.off hl1) hl1
  wtm_at "rd"
  refine us_l_draw B3 (by decide) (by decide) fun n H4 n0 n1 B4 k4 => ?_
  have hl14 := k4.g1 (B3.off hl13) hl13
  have hl24 := k4.g1 (B3.off hl2) hl2
  wtm_at "rd"
  refine us_l_draw B4 (by decide) (by decide) fun m H5 m0 m1 B5 k5 => ?_
  have hl15 := k5.g1 (B4.off hl14) hl14
  have hl25 := k5.g1 (B4.off hl24) hl24
  have hp : 1 * (2 : Int) ^ n.toNat = ((2 ^ n.toNat : Nat) : Int) := by
    rw [Int.one_mul, Int.natCast_pow]
    rfl
  have hp2 : 2 ^ n.toNat ≤ 2 ^ 60 := Nat.pow_le_pow_right (by decide) (by omega)
  have hp1 : 1 ≤ 2 ^ n.toNat := Nat.one_le_two_pow
  wtm_at "rd"
  obtain ⟨N, hNN⟩ := Int.eq_ofNat_of_zero_le (show 0 ≤ max 1 (1 * (2 : Int) ^ n.toNat - 1 + m) by omega)
  rw [hNN]
  rw [hp] at hNN
  refine us_l_numbers (by omega) (by
    have : (2 : Nat) ^ 60 + 2 ≤ 2 ^ 62 := by decide
    omega) ?_
  wtm_at "rd"
  refine us_l_asked hl15 hN1 hn1 hn2 fun H6 k6 => ?_
  have hl26 := k6.g0 hl25
  have hl16 := k6.g0 hl15
  wtm_at "rd"
  refine us_l_asked hl26 hM1 hm1 hm2 fun H7 k7 => ?_
  have hl17 := k7.g0 hl16
  wtm_at "rd"
  refine us_l_asked hl17 hN1 hn1 hn2 fun H8 k8 => ?_
  exact kk _
end

abbrev hk : PySem.W.Hook := hookM 6 fa fn ex
def ob (s : PySem.W.SharedT) : AlM := obsM 6 fa fn ex (HandSHeadRun.getT s)
theorem ob_eq (s : PySem.W.SharedT) : ob s = hk.obs s.abs := obsM_eq (HandSHeadRun.getT_eq s)
def names : List Str := (["GroupError", "InvalidPlan", "least_rounds", "least_letters", "tree_plan", "reached_by", "judge_plan", "_law_purse", "_law_mixed", "_law_draw", "_law_seats", "_law_number", "_law_least", "_law_judged", "_law_list", "_law_is_plan", "_law_numbers", "_law_asked"] : List Str)
theorem run (w : World) : HandSHeadRun.RunEq R (PySem.W.view R.prog [21]) hk ob 2000 names w := by
  intro os
  kernel_rfl
theorem law_all {P : Program} {w : World} {K : PySem.W.Frag} {mg : Str → Option Value} (T : Cx K mg) :
    ∃ fd : FuncData, (∀ (s : Shared) (v : Value), BindsTo s fd ⟨[v], []⟩ [("_law_script", v)]) ∧ ∀ base : Heap, FnOk P w K mg base CX0 5 (ga K "law") fd ["_law_script"] (sp_law K) := by
  obtain ⟨fd, F⟩ := T.says.def_ 16 (d := d_law) rfl
  have b := FunD.bindsA (ps := ["_law_script"]) F fun _ _ _ _ _ _ us hl => match us, hl with | [_], _ => rfl
  refine ⟨fd, fun s v => b s [v] rfl, fun base => ?_⟩
  obtain ⟨fd2, F2, ok⟩ := f_law (P := P) (w := w) (base := base) T
  have e : fd2 = fd := by
    obtain ⟨oc, od, dV, kV, doc, pm, an, cdv, ct, osl, e1, l1, -⟩ := F.ex
    obtain ⟨oc2, od2, dV2, kV2, doc2, pm2, an2, cdv2, ct2, osl2, e2, l2, -⟩ := F2.ex
    rw [l1] at l2
    injection l2 with l3
    injection l3 with _ _ l4 _
    injection l4 with l5
    exact l5.symm
  subst e
  exact ok

end My

open PySem PySem.W PySem.Calls PyProof.Rows
set_option maxRecDepth 100000 in
set_option maxHeartbeats 0 in
theorem PySem.Challenge.cw_livingroll_k21_tree_plan_is_least_holds : PySem.Challenge.rw_livingroll_k21_tree_plan_is_least.Holds := by
  w_on; o_law
  refine HandSHeadRun.head_any (r := OpenLaw.row PySem.Challenge.rw_livingroll_k21_tree_plan_is_least) (q := view (OpenLaw.row PySem.Challenge.rw_livingroll_k21_tree_plan_is_least).prog [21]) (H := My.hk) (ob := My.ob) (M := 2000) (loose := My.names) (d := HandSHeadRun.topDef (OpenLaw.row PySem.Challenge.rw_livingroll_k21_tree_plan_is_least).prog 21) (kwd := []) My.ob_eq
    (by kernel_rfl) (fun s => by kernel_rfl) My.run (by kernel_rfl) (by kernel_rfl) (by kernel_rfl) (by rfl) (by first | assumption | decide +kernel) (by decide +kernel) ⟨rfl, rfl, rfl, rfl, rfl, by decide +kernel⟩ ?hw ?hc
  case hw => w_witness2
  case hc =>
    refine L2.walk_ofE (l := PySem.Challenge.rw_livingroll_k21_tree_plan_is_least) (n := 63) (k := 5) (x := "_law_script") (CX := L2.CX0) rfl (by decide) (by kernel_rfl) ⟨rfl, by decide, by decide⟩ ?F (fun _ _ _ _ z => z)
    intro w mg fa h Y G hmg0
    obtain ⟨K, KX, c, cx⟩ := Y
    have hmg : mg ("law" : PySem.Str) = some (.ref fa) := by
      have e : (HandSHeadRun.topDef (OpenLaw.row PySem.Challenge.rw_livingroll_k21_tree_plan_is_least).prog 21).name = ("law" : PySem.Str) := by kernel_rfl
      rw [← e]
      exact hmg0
    have T : My.Cx K mg := ⟨c, cx, h, KX, G⟩
    have e := hmg.symm.trans (My.gl_law T)
    cases e
    obtain ⟨fd, hb, hF⟩ := My.law_all (P := PySem.Challenge.pw_livingroll_k21_tree_plan_is_least) (w := w) T
    exact ⟨K, fd, My.sp_law K, KX, hb, fun H a ns hl _ hS => ⟨a, ns, rfl, hS, hl, fun _ => rfl⟩, fun base _ _ => hF base⟩
