import PyProof.Rows.All
import Wide.All
import OpenK.AllK
import Wide.FinOn
import KE.KStateDown
import Lean
import HandS.ForMost
import HandS.Flow
import HandS.IsInst
import HandS.DictTup
import HandS.Codes
import HandS.Defaults
import HandS.Head0
import HandS.Head1
import HandS.Head2
import HandS.HeadEnd
import HandS.HeadHook1
import HandS.HeadHook2
import HandS.HeadHook3
import HandS.Conv
import HandS.Property
import PySem.Challenge.RW_livingroll_k26_misses_in_a_row
set_option Elab.async false
set_option linter.all false
set_option maxRecDepth 100000
set_option maxHeartbeats 4000000
/-! own layer: the head by facts, one lemma for each reading, a step tactic -/
namespace RD
open PySem PySem.Spec PyProof.Rows L2 He

/-! ### frames: what stays -/
def Kp (ps : List Addr) (H H' : Hp) : Prop := ∀ b o, H b = some o → b ∉ ps → H' b = some o
theorem Kp.refl {ps : List Addr} {H : Hp} : Kp ps H H := fun _ _ h _ => h
theorem Kp.trans {ps : List Addr} {H H1 H2 : Hp} (a : Kp ps H H1) (b : Kp ps H1 H2) : Kp ps H H2 := fun c o h n => b c o (a c o h n) n
theorem Kp.mono {ps qs : List Addr} {H H' : Hp} (a : Kp ps H H') (h : ∀ p, p ∈ ps → p ∈ qs) : Kp qs H H' := fun c o e n => a c o e fun m => n (h c m)
theorem Kp.of0 {qs : List Addr} {H H' : Hp} (a : Kp [] H H') : Kp qs H H' := fun c o e _ => a c o e (by simp)
theorem Kp.new {ps : List Addr} {H : Hp} {p : Addr} {o : HO} (h : H p = none) : Kp ps H (upd H p o) := fun b u e _ => by
  rw [upd_ne (ne_of_none e h)]
  exact e
theorem Kp.wr {ps : List Addr} {H H' : Hp} {p : Addr} {o : HO} (a : Kp ps H H') (h : p ∈ ps) : Kp ps H (upd H' p o) := fun b u e n => by
  have hb : b ≠ p := by
    intro z
    subst z
    exact n h
  rw [upd_ne hb]
  exact a b u e n
theorem Kp.nw {ps : List Addr} {H H' : Hp} {p : Addr} {o : HO} (a : Kp ps H H') (h : H' p = none) : Kp ps H (upd H' p o) := a.trans (Kp.new h)
/-- an object made behind H is written -/
theorem Kp.mine {ps : List Addr} {H H' : Hp} {p : Addr} {o : HO} (a : Kp ps H H') (h : H p = none) : Kp ps H (upd H' p o) := fun b u e n => by
  rw [upd_ne (ne_of_none e h)]
  exact a b u e n
theorem Kp.g0 {H H' : Hp} {b : Addr} {o : HO} (a : Kp [] H H') (e : H b = some o) : H' b = some o := a b o e (by simp)
theorem Kp.g1 {p : Addr} {H H' : Hp} {b : Addr} {o : HO} (a : Kp [p] H H') (n : b ≠ p) (e : H b = some o) : H' b = some o := a b o e (by simp [n])
theorem Kp.g2 {p q : Addr} {H H' : Hp} {b : Addr} {o : HO} (a : Kp [p, q] H H') (n : b ≠ p) (m : b ≠ q) (e : H b = some o) : H' b = some o := a b o e (by simp [n, m])
theorem Kp.g3 {p q r : Addr} {H H' : Hp} {b : Addr} {o : HO} (a : Kp [p, q, r] H H') (n : b ≠ p) (m : b ≠ q) (l : b ≠ r) (e : H b = some o) : H' b = some o := a b o e (by simp [n, m, l])
theorem Kp.back {ps : List Addr} {H H' : Hp} (a : Kp ps H H') {l : Addr} (h : H' l = none) (n : l ∉ ps) : H l = none := by
  cases q : H l with
  | none => rfl
  | some o =>
    rw [a l o q n] at h
    cases h
theorem Kp.via {ps qs : List Addr} {H H' H2 : Hp} (a : Kp ps H H') (b : Kp qs H' H2) (n : ∀ q, q ∈ qs → q ∈ ps ∨ H q = none) : Kp ps H H2 := fun c o e m => b c o (a c o e m) fun z => by
  rcases n c z with z | z
  · exact m z
  · rw [z] at e
    cases e
theorem Kp.via1 {ps : List Addr} {p : Addr} {H H' H2 : Hp} (a : Kp ps H H') (b : Kp [p] H' H2) (n : H p = none) : Kp ps H H2 := a.via b fun q hq => by
  rw [List.mem_singleton.mp hq]
  exact .inr n
theorem rd_kp {ps : List Addr} {H H' : Hp} {b : Addr} {u : HO} (a : Kp ps H H') (n : b ∉ ps) (h : Rd H b u) : Rd H' b u := by
  rcases h with h | ⟨o, h⟩
  · exact .inl (a _ _ h n)
  · exact .inr ⟨o, a _ _ h n⟩
theorem sl_kp {K : PySem.W.Frag} {ps : List Addr} {H H' : Hp} {b : Addr} {xs : List V} (a : Kp ps H H') (n : b ∉ ps) (h : SqL K H b xs) : SqL K H' b xs := by
  rcases h with h | h
  · exact .inl (rd_kp a n h)
  · exact .inr h
theorem st_kp {K : PySem.W.Frag} {ps : List Addr} {H H' : Hp} {b : Addr} {xs : List V} (a : Kp ps H H') (n : b ∉ ps) (h : SqT K H b xs) : SqT K H' b xs := by
  rcases h with h | h
  · exact .inl (rd_kp a n h)
  · exact .inr h
theorem sl_upd {K : PySem.W.Frag} {H : Hp} {b p : Addr} {o : HO} {xs : List V} (n : b ≠ p) (h : SqL K H b xs) : SqL K (upd H p o) b xs :=
  sl_kp (ps := [p]) (fun c u e m => by rw [upd_ne (by simpa using m)]; exact e) (by simpa using n) h
theorem st_upd {K : PySem.W.Frag} {H : Hp} {b p : Addr} {o : HO} {xs : List V} (n : b ≠ p) (h : SqT K H b xs) : SqT K (upd H p o) b xs :=
  st_kp (ps := [p]) (fun c u e m => by rw [upd_ne (by simpa using m)]; exact e) (by simpa using n) h
theorem hu_ne {H : Hp} {a b : Addr} {o u : HO} (n : b ≠ a) (e : H b = some u) : upd H a o b = some u := by
  rw [upd_ne n]
  exact e
theorem hn_ne {H : Hp} {a b : Addr} {o : HO} (n : b ≠ a) (e : H b = none) : upd H a o b = none := by
  rw [upd_ne n]
  exact e

/-! ### readings, one lemma each -/
section
variable {K : PySem.W.Frag} {σ : L2.St} {H : Hp} {nx bk ct : L2.St → Hp → Prop} {rt : VK} {t u : TS} {te ta tb tc : TE} {tt tu : TT} {ar : TA} {Q : VK} {QB : Bool → Hp → Prop} {QA : List V → Hp → Prop} {v x y : V} {i j : Int}
abbrev En (nx : L2.St → Hp → Prop) (rt : VK) (bk ct : L2.St → Hp → Prop) : Ends := ⟨nx, rt, bk, ct⟩
theorem rd_seq (h : t ⟨u ⟨nx, rt, bk, ct⟩, rt, bk, ct⟩ σ H) : tSeq t u ⟨nx, rt, bk, ct⟩ σ H := h
theorem rd_next (h : nx σ H) : tNext ⟨nx, rt, bk, ct⟩ σ H := h
theorem rd_brk (h : bk σ H) : tBreak ⟨nx, rt, bk, ct⟩ σ H := h
theorem rd_cont (h : ct σ H) : tCont ⟨nx, rt, bk, ct⟩ σ H := h
theorem rd_asg {g : TG} (h : te σ H fun x H1 => g x σ H1 nx) : tAsg te g ⟨nx, rt, bk, ct⟩ σ H := h
theorem rd_ret (h : te σ H rt) : tRet te ⟨nx, rt, bk, ct⟩ σ H := h
theorem rd_retN (h : rt .non H) : tRetN ⟨nx, rt, bk, ct⟩ σ H := h
theorem rd_drop (h : te σ H fun _ H1 => nx σ H1) : tDrop te ⟨nx, rt, bk, ct⟩ σ H := h
theorem rd_ifS {D : Ends} (h : tt σ H fun b H1 => if b = true then t D σ H1 else u D σ H1) : tIfS tt t u D σ H := h
theorem rd_cut (M : L2.St → Hp → Prop) (h : t ⟨M, rt, bk, ct⟩ σ H) (k : ∀ σ' H', M σ' H' → u ⟨nx, rt, bk, ct⟩ σ' H') : C8.tCut t u ⟨nx, rt, bk, ct⟩ σ H := ⟨M, h, k⟩
theorem rd_gname {n : Nat} {Q : L2.St → Hp → Prop} (h : Q (σ.set n (some v)) H) : gName n v σ H Q := h
theorem rd_gsub {to ti : TE} {s : TSet} {Q : L2.St → Hp → Prop} (h : to σ H fun o H1 => ti σ H1 fun i H2 => s o i v H2 fun H3 => Q σ H3) : gSub to ti s v σ H Q := h
theorem rd_gtup {n : Nat} {g : TGs} {a : Addr} {xs : List V} {Q : L2.St → Hp → Prop} (h : SqT K H a xs) (e : xs.length = n) (q : g xs σ H Q) : gTup K n g (.ref a) σ H Q := ⟨a, xs, rfl, h, e, q⟩
theorem rd_gcons {g : TG} {gs : TGs} {r : List V} {Q : L2.St → Hp → Prop} (q : g v σ H fun σ' H' => gs r σ' H' Q) : gCons g gs (v :: r) σ H Q := ⟨v, r, rfl, q⟩
theorem rd_gnil {Q : L2.St → Hp → Prop} (q : Q σ H) : gNil [] σ H Q := ⟨rfl, q⟩
theorem rd_setL {p : Addr} {xs : List V} {k : Int} {j : Nat} {Q : Hp → Prop} (hp : H p = some (.lst xs)) (hj : ixN xs.length k = some j) (q : Q (upd H p (.lst (xs.set j v)))) : rSetL (.ref p) (.int k) v H Q := ⟨p, xs, k, j, rfl, rfl, hp, hj, q⟩
theorem rd_var {n : Nat} (e : σ[n]? = some (some v)) (h : Q v H) : tVar n σ H Q := ⟨v, e, h⟩
theorem rd_c (h : Q v H) : tC v σ H Q := h
theorem rd_op {r : R2} (h : ta σ H fun x H1 => tb σ H1 fun y H2 => r x y H2 Q) : tOp r ta tb σ H Q := h
theorem rd_un {r : V → Hp → VK → Prop} (h : ta σ H fun x H1 => r x H1 Q) : tUn r ta σ H Q := h
theorem rd_I0 {g : Int → Int → V} (h : Q (g i j) H) : rI0 g (.int i) (.int j) H Q := ⟨i, j, rfl, rfl, h⟩
theorem rd_I {C : Int → Int → Prop} {g : Int → Int → V} (c : C i j) (h : Q (g i j) H) : rI C g (.int i) (.int j) H Q := ⟨i, j, rfl, rfl, c, h⟩
theorem rd_U {g : Int → V} (h : Q (g i) H) : rU g (.int i) H Q := ⟨i, rfl, h⟩
theorem rd_eqI (h : Q (.bl (decide (i = j))) H) : rEq (.int i) (.int j) H Q := ⟨rfl, by
  rw [show decide (V.int i = V.int j) = decide (i = j) from decide_eq_decide.mpr ⟨fun e => V.int.inj e, fun e => congrArg V.int e⟩]
  exact h⟩
theorem rd_neI (h : Q (.bl (!decide (i = j))) H) : rNe (.int i) (.int j) H Q := ⟨rfl, by
  rw [show decide (V.int i = V.int j) = decide (i = j) from decide_eq_decide.mpr ⟨fun e => V.int.inj e, fun e => congrArg V.int e⟩]
  exact h⟩
theorem rd_eqS {a b : Str} (h : Q (.bl (decide (a = b))) H) : rEq (.str a) (.str b) H Q := ⟨rfl, by
  rw [show decide (V.str a = V.str b) = decide (a = b) from decide_eq_decide.mpr ⟨fun e => V.str.inj e, fun e => congrArg V.str e⟩]
  exact h⟩
theorem rd_neS {a b : Str} (h : Q (.bl (!decide (a = b))) H) : rNe (.str a) (.str b) H Q := ⟨rfl, by
  rw [show decide (V.str a = V.str b) = decide (a = b) from decide_eq_decide.mpr ⟨fun e => V.str.inj e, fun e => congrArg V.str e⟩]
  exact h⟩
theorem rd_eqB {a b : Bool} (h : Q (.bl (decide (a = b))) H) : rEq (.bl a) (.bl b) H Q := ⟨rfl, by
  rw [show decide (V.bl a = V.bl b) = decide (a = b) from decide_eq_decide.mpr ⟨fun e => V.bl.inj e, fun e => congrArg V.bl e⟩]
  exact h⟩
theorem rd_neB {a b : Bool} (h : Q (.bl (!decide (a = b))) H) : rNe (.bl a) (.bl b) H Q := ⟨rfl, by
  rw [show decide (V.bl a = V.bl b) = decide (a = b) from decide_eq_decide.mpr ⟨fun e => V.bl.inj e, fun e => congrArg V.bl e⟩]
  exact h⟩
theorem rd_eq (s : scal x y = true) (h : Q (.bl (decide (x = y))) H) : rEq x y H Q := ⟨s, h⟩
theorem rd_ne (s : scal x y = true) (h : Q (.bl (!decide (x = y))) H) : rNe x y H Q := ⟨s, h⟩
theorem rd_test (h : te σ H fun x H1 => ∃ k, x = .bl k ∧ QB k H1) : tTest te σ H QB := h
theorem rd_tB (h : te σ H fun x H1 => ∃ k, x = .bl k ∧ QB k H1) : tB te σ H QB := h
theorem rd_exb {b : Bool} {P : Bool → Prop} (h : P b) : ∃ k, V.bl b = V.bl k ∧ P k := ⟨b, rfl, h⟩
theorem rd_and (h : tt σ H fun c H1 => if c = true then tu σ H1 QB else QB false H1) : tAnd tt tu σ H QB := h
theorem rd_or (h : tt σ H fun c H1 => if c = true then QB true H1 else tu σ H1 QB) : tOr tt tu σ H QB := h
theorem rd_not (h : tt σ H fun c H1 => QB (!c) H1) : tNot tt σ H QB := h
theorem rd_andV (h : ta σ H fun x H1 => ∃ c, x = .bl c ∧ if c = true then tb σ H1 Q else Q (.bl false) H1) : tAndV ta tb σ H Q := h
theorem rd_orV (h : ta σ H fun x H1 => ∃ c, x = .bl c ∧ if c = true then Q (.bl true) H1 else tb σ H1 Q) : tOrV ta tb σ H Q := h
theorem rd_notV (h : ta σ H fun x H1 => ∃ c, x = .bl c ∧ Q (.bl (!c)) H1) : tNotV ta σ H Q := h
theorem rd_ifE (h : tt σ H fun c H1 => if c = true then ta σ H1 Q else tb σ H1 Q) : tIf tt ta tb σ H Q := h
theorem rd_isN (h : ta σ H fun x H1 => Q (.bl (decide (x = .non))) H1) : tIsN ta σ H Q := h
theorem rd_notN (h : ta σ H fun x H1 => Q (.bl (!decide (x = .non))) H1) : tNotN ta σ H Q := h
theorem rd_tru {b : Bool} {P : Bool → Prop} (e : TruV K x H b) (h : P b) : ∃ k, TruV K x H k ∧ P k := ⟨b, e, h⟩
theorem rd_CB {r : List V → Hp → VK → Prop} (h : ar σ H fun vs H1 => r vs H1 Q) : tCB r ar σ H Q := h
theorem rd_nil (h : QA [] H) : tNil σ H QA := h
theorem rd_cons {tr : TA} (h : ta σ H fun x H1 => tr σ H1 fun xs H2 => QA (x :: xs) H2) : tCons ta tr σ H QA := h
theorem rd_call {sp : Sp} {E : XK} (h : ar σ H fun vs H1 => sp vs H1 Q E) : tCall sp [] E ar σ H Q := by
  unfold tCall
  have e : (fun vs H1 => sp (vs ++ []) H1 Q E) = fun vs H1 => sp vs H1 Q E := by
    funext vs H1
    rw [List.append_nil]
  rw [e]
  exact h
theorem rd_make {C : Addr} {sp : Sp} {dvs : List V} {E : XK} (h : ar σ H fun vs H1 => ∀ x dx, H1 x = none → H1 dx = none → dx ≠ x → sp (.ref x :: (vs ++ dvs)) (upd (upd H1 dx (.own x)) x (.ins C dx [])) (fun v H2 => v = .non ∧ Q (.ref x) H2) E) : tMake C sp dvs E ar σ H Q := h
theorem rd_callD {sp : Sp} {dvs : List V} {E : XK} (h : ar σ H fun vs H1 => sp (vs ++ dvs) H1 Q E) : tCall sp dvs E ar σ H Q := h
theorem rd_tup (h : ar σ H fun xs H1 => xs.length ≤ sizeLine ∧ ∀ p, H1 p = none → Q (.ref p) (upd H1 p (.tup xs))) : tTup ar σ H Q := h
theorem rd_lst (h : ar σ H fun xs H1 => xs.length ≤ sizeLine ∧ ∀ p, H1 p = none → Q (.ref p) (upd H1 p (.lst xs))) : tLst ar σ H Q := h
theorem rd_ixL {p : Addr} {xs : List V} (h : SqL K H p xs) (a : atI xs i = some v) (q : Q v H) : rIxL K (.ref p) (.int i) H Q := ⟨p, xs, i, v, rfl, rfl, h, a, q⟩
theorem rd_ixT {p : Addr} {xs : List V} (h : SqT K H p xs) (a : atI xs i = some v) (q : Q v H) : rIxT K (.ref p) (.int i) H Q := ⟨p, xs, i, v, rfl, rfl, h, a, q⟩
theorem rd_fld {f : Str} {a C dx : Addr} {fs : List (Str × V)} {P : V → Hp → Prop} (h : H a = some (.ins C dx fs)) (c : Cls K C) (n : NoAttr K C f) (l : fs.lookup f = some v) (q : Q v H) :
    ∃ a' C' dx' fs' v', V.ref a = V.ref a' ∧ H a' = some (.ins C' dx' fs') ∧ Cls K C' ∧ NoAttr K C' f ∧ fs'.lookup f = some v' ∧ Q v' H := ⟨a, C, dx, fs, v, rfl, h, c, n, l, q⟩
theorem rd_meth {C : Addr} {m : Str} {sp : Sp} {E : XK} (h : ta σ H fun x H1 => ∃ a dx fs, x = .ref a ∧ H1 a = some (.ins C dx fs) ∧ fs.lookup m = none ∧ ar σ H1 fun vs H2 => sp (x :: vs) H2 Q E) : tMeth C m sp [] E ta ar σ H Q := by
  unfold tMeth
  have e : (fun (x : V) (H1 : Hp) => ∃ a dx fs, x = V.ref a ∧ H1 a = some (.ins C dx fs) ∧ fs.lookup m = none ∧ ar σ H1 fun vs H2 => sp (x :: (vs ++ [])) H2 Q E) =
      fun (x : V) (H1 : Hp) => ∃ a dx fs, x = V.ref a ∧ H1 a = some (.ins C dx fs) ∧ fs.lookup m = none ∧ ar σ H1 fun vs H2 => sp (x :: vs) H2 Q E := by
    funext x H1
    simp only [List.append_nil]
  rw [e]
  exact h
theorem rd_methX {C a dx : Addr} {m : Str} {fs : List (Str × V)} {R : Prop} (h : H a = some (.ins C dx fs)) (l : fs.lookup m = none) (q : R) : ∃ a' dx' fs', V.ref a = V.ref a' ∧ H a' = some (.ins C dx' fs') ∧ fs'.lookup m = none ∧ R := ⟨a, dx, fs, rfl, h, l, q⟩
theorem rd_bm {T : String} {r : V → List V → Hp → VK → Prop} (h : ta σ H fun x H1 => tyV K T x H1 ∧ ar σ H1 fun xs H2 => r x xs H2 Q) : tBM K T r ta ar σ H Q := h
theorem rd_bm0 {T : String} {r : V → List V → Hp → VK → Prop} (h : ta σ H fun x H1 => tyV K T x H1 ∧ r x [] H1 Q) : tBM0 K T r ta σ H Q := h
theorem ty_l {p : Addr} {xs : List V} {B : Prop} (h : SqL K H p xs) (q : B) : tyV K "list" (.ref p) H ∧ B := ⟨.inl ⟨rfl, xs, h⟩, q⟩
theorem rd_append {p : Addr} {xs : List V} (h : H p = some (.lst xs)) (l : xs.length < sizeLine) (q : Q .non (upd H p (.lst (xs ++ [v])))) : rAppend (.ref p) [v] H Q := ⟨p, xs, v, rfl, rfl, h, l, q⟩
/-! #### built-ins under names -/
def rInt1 : List V → Hp → VK → Prop := fun xs H Q => (∃ i, xs = [.int i] ∧ Q (.int i) H) ∨ ∃ k, xs = [.bl k] ∧ Q (.int (if k then 1 else 0)) H
theorem call_int1' {X : Cx} : CallR X (.type "int") rInt1 := call_int1
theorem rd_int1 (h : Q (.int i) H) : rInt1 [.int i] H Q := .inl ⟨i, rfl, h⟩
def rAbs : List V → Hp → VK → Prop := fun xs H Q => ∃ i, xs = [.int i] ∧ Q (.int (if i < 0 then -i else i)) H
theorem call_abs' {X : Cx} : CallR X (.builtin "abs") rAbs := call_abs
theorem rd_abs (h : Q (.int (i.natAbs : Int)) H) : rAbs [.int i] H Q := ⟨i, rfl, by
  rw [show (if i < 0 then -i else i) = (i.natAbs : Int) from by split <;> omega]
  exact h⟩
def rLenS (K : PySem.W.Frag) : List V → Hp → VK → Prop := fun xs H Q => ∃ p ys, xs = [.ref p] ∧ (SqL K H p ys ∨ SqT K H p ys) ∧ Q (.int ys.length) H
theorem call_lenS {X : Cx} : CallR X (.builtin "len") (rLenS X.K) := call_len_seq
theorem rd_lenL {p : Addr} {ys : List V} (h : SqL K H p ys) (q : Q (.int ys.length) H) : rLenS K [.ref p] H Q := ⟨p, ys, rfl, .inl h, q⟩
theorem rd_lenI {p : Addr} {ns : List Int} (h : SqL K H p (ns.map V.int)) (q : Q (.int ns.length) H) : rLenS K [.ref p] H Q := ⟨p, ns.map V.int, rfl, .inl h, by
  rw [List.length_map]
  exact q⟩
theorem rd_lenT {p : Addr} {ys : List V} (h : SqT K H p ys) (q : Q (.int ys.length) H) : rLenS K [.ref p] H Q := ⟨p, ys, rfl, .inr h, q⟩
def rMin2 : List V → Hp → VK → Prop := fun xs H Q => ∃ i j, xs = [.int i, .int j] ∧ Q (.int (if j < i then j else i)) H
theorem call_min2' {X : Cx} (hc : X.calm = true) : CallR X (.builtin "min") rMin2 := call_min2 hc
theorem rd_min2 (h : Q (.int (min i j)) H) : rMin2 [.int i, .int j] H Q := ⟨i, j, rfl, by
  rw [show (if j < i then j else i) = min i j from by split <;> omega]
  exact h⟩
def rMax2 : List V → Hp → VK → Prop := fun xs H Q => ∃ i j, xs = [.int i, .int j] ∧ Q (.int (if j > i then j else i)) H
theorem call_max2' {X : Cx} (hc : X.calm = true) : CallR X (.builtin "max") rMax2 := call_max2 hc
theorem rd_max2 (h : Q (.int (max i j)) H) : rMax2 [.int i, .int j] H Q := ⟨i, j, rfl, by
  rw [show (if j > i then j else i) = max i j from by split <;> omega]
  exact h⟩
def rListOf (K : PySem.W.Frag) : List V → Hp → VK → Prop := fun xs H Q => ∃ p ys, xs = [.ref p] ∧ (SqL K H p ys ∨ SqT K H p ys) ∧ ∀ l, H l = none → Q (.ref l) (upd H l (.lst ys))
theorem call_listOf {X : Cx} : CallR X (.type "list") (rListOf X.K) := call_list_of
theorem rd_listL {p : Addr} {ys : List V} (h : SqL K H p ys) (q : ∀ l, H l = none → Q (.ref l) (upd H l (.lst ys))) : rListOf K [.ref p] H Q := ⟨p, ys, rfl, .inl h, q⟩
/-- isinstance against one built-in class -/
theorem rd_isi {t : String} {c : String} {b : Bool} (ty : TyX K H x (.type t)) (e : kitB t c = some b) (h : Q (.bl b) H) : rIsi K [x, .ty c] H Q := ⟨x, .ty c, .type t, .type c, b, rfl, .ty c, ty, kit_ty e, h⟩

/-! ### loops -/
/-- what a for over the walk J asks -/
def ForG (J : It) (g : TG) (t : TS) (D : Ends) (σ : L2.St) (H : Hp) : Prop :=
  ∃ W : Nat → Nat → L2.St → Hp → Prop, (∃ m, W 0 m σ H) ∧ ∀ i m σ H, W i m σ H →
      (J.stop i H ∧ D.nx σ H) ∨ (J.go i H ∧ ∃ N : L2.St → Hp → Prop, (∀ σ' H', N σ' H' → ∃ m', m' < m ∧ W (i + 1) m' σ' H') ∧ ∀ x H', J.yld i H x H' → g x σ H' fun σ2 H2 => t { D with nx := N, ct := N, bk := D.nx } σ2 H2)
theorem rd_for {wi : TI} {g : TG} {D : Ends} (h : wi σ H fun J H1 => ForG J g t D σ H1) : tFor wi g t D σ H := h
theorem rd_iList {R : It → Hp → Prop} (h : te σ H fun x H1 => ∃ a, x = V.ref a ∧ (∃ xs, SqL K H1 a xs) ∧ R (Itl K a) H1) : iList K te σ H R := h
theorem rd_iTup {R : It → Hp → Prop} (h : te σ H fun x H1 => ∃ a, x = V.ref a ∧ (∃ xs, SqT K H1 a xs) ∧ R (Itt K a) H1) : iTup K te σ H R := h
theorem rd_iListX {p : Addr} {xs : List V} {R : Addr → Prop} (h : SqL K H p xs) (q : R p) : ∃ a, V.ref p = V.ref a ∧ (∃ xs, SqL K H a xs) ∧ R a := ⟨p, rfl, ⟨xs, h⟩, q⟩
theorem rd_iTupX {p : Addr} {xs : List V} {R : Addr → Prop} (h : SqT K H p xs) (q : R p) : ∃ a, V.ref p = V.ref a ∧ (∃ xs, SqT K H a xs) ∧ R a := ⟨p, rfl, ⟨xs, h⟩, q⟩
theorem rd_iRng1 {R : It → Hp → Prop} (h : ar σ H fun vs H1 => ∃ j : Int, vs = [.int j] ∧ -(2 ^ 62) ≤ j ∧ j < 2 ^ 62 ∧ R (Itr 0 j.toNat) H1) : iRng1 ar σ H R := h
theorem rd_iRng1X {R : Int → Prop} (h1 : -(2 ^ 62) ≤ j) (h2 : j < 2 ^ 62) (q : R j) : ∃ k : Int, [V.int j] = [V.int k] ∧ -(2 ^ 62) ≤ k ∧ k < 2 ^ 62 ∧ R k := ⟨j, rfl, h1, h2, q⟩
theorem rd_iRng2 {R : It → Hp → Prop} (h : ar σ H fun vs H1 => ∃ i j : Int, vs = [.int i, .int j] ∧ (-(2 ^ 62) ≤ i ∧ i < 2 ^ 62 ∧ -(2 ^ 62) ≤ j ∧ j < 2 ^ 62) ∧ R (Itr i (j - i).toNat) H1) : iRng2 ar σ H R := h
theorem rd_iRng2X {R : Int → Int → Prop} (h1 : -(2 ^ 62) ≤ i ∧ i < 2 ^ 62 ∧ -(2 ^ 62) ≤ j ∧ j < 2 ^ 62) (q : R i j) : ∃ k l : Int, [V.int i, V.int j] = [V.int k, V.int l] ∧ (-(2 ^ 62) ≤ k ∧ k < 2 ^ 62 ∧ -(2 ^ 62) ≤ l ∧ l < 2 ^ 62) ∧ R k l := ⟨i, j, rfl, h1, q⟩
/-- over a list that stays -/
theorem forL_by {a : Addr} {g : TG} (xs : List V) (Pv : Nat → L2.St → Hp → Prop) (h0 : Pv 0 σ H) (hl : ∀ i σ H, i ≤ xs.length → Pv i σ H → SqL K H a xs)
    (hs : ∀ i x σ H, xs[i]? = some x → Pv i σ H → g x σ H fun σ2 H2 => t ⟨Pv (i + 1), rt, nx, Pv (i + 1)⟩ σ2 H2) (hd : ∀ σ H, Pv xs.length σ H → nx σ H) : ForG (Itl K a) g t ⟨nx, rt, bk, ct⟩ σ H := for_list (K := K) Pv h0 hl hs hd
theorem forT_by {a : Addr} {g : TG} (xs : List V) (Pv : Nat → L2.St → Hp → Prop) (h0 : Pv 0 σ H) (hl : ∀ i σ H, i ≤ xs.length → Pv i σ H → SqT K H a xs)
    (hs : ∀ i x σ H, xs[i]? = some x → Pv i σ H → g x σ H fun σ2 H2 => t ⟨Pv (i + 1), rt, nx, Pv (i + 1)⟩ σ2 H2) (hd : ∀ σ H, Pv xs.length σ H → nx σ H) : ForG (Itt K a) g t ⟨nx, rt, bk, ct⟩ σ H := for_tup (K := K) Pv h0 hl hs hd
theorem forR_by {lo : Int} {n : Nat} {g : TG} (Pv : Nat → L2.St → Hp → Prop) (h0 : Pv 0 σ H)
    (hs : ∀ (i : Nat) σ H, i < n → Pv i σ H → g (.int (lo + i)) σ H fun σ2 H2 => t ⟨Pv (i + 1), rt, nx, Pv (i + 1)⟩ σ2 H2) (hd : ∀ σ H, Pv n σ H → nx σ H) : ForG (Itr lo n) g t ⟨nx, rt, bk, ct⟩ σ H := for_range Pv h0 hs hd
/-- the items one by one -/
theorem forL_ints {a : Addr} {g : TG} (ns : List Int) (Pv : Nat → L2.St → Hp → Prop) (h0 : Pv 0 σ H) (hl : ∀ i σ H, i ≤ ns.length → Pv i σ H → SqL K H a (ns.map V.int))
    (hs : ∀ (i : Nat) (h : i < ns.length) σ H, Pv i σ H → g (.int ns[i]) σ H fun σ2 H2 => t ⟨Pv (i + 1), rt, nx, Pv (i + 1)⟩ σ2 H2) (hd : ∀ σ H, Pv ns.length σ H → nx σ H) : ForG (Itl K a) g t ⟨nx, rt, bk, ct⟩ σ H :=
  forL_by (ns.map V.int) Pv h0 (fun i σ H hi p => hl i σ H (by simpa using hi) p) (fun i x σ H e p => by
    rw [List.getElem?_map] at e
    obtain ⟨z, hz, rfl⟩ := Option.map_eq_some_iff.mp e
    obtain ⟨h, rfl⟩ := List.getElem?_eq_some_iff.mp hz
    exact hs i h σ H p) (fun σ H p => hd σ H (by simpa using p))
theorem rd_while (Pv : L2.St → Hp → Prop) (μ : L2.St → Hp → Nat) (h0 : Pv σ H)
    (hs : ∀ σ H, Pv σ H → tt σ H fun b H1 => if b = true then t ⟨fun σ' H' => Pv σ' H' ∧ μ σ' H' < μ σ H, rt, nx, fun σ' H' => Pv σ' H' ∧ μ σ' H' < μ σ H⟩ σ H1 else nx σ H1)
    (mono : ∀ σ H Q Q', (∀ b H1, Q b H1 → Q' b H1) → tt σ H Q → tt σ H Q') : tWhile tt t ⟨nx, rt, bk, ct⟩ σ H := while_by Pv μ h0 hs mono
/-- a list comprehension -/
def LcG (J : It) (g : TG) (tt : TT) (te : TE) (vs : List Nat) (σ : L2.St) (D : Addr) (Qd : Hp → Prop) (H1 : Hp) : Prop :=
  ∃ W : Nat → Nat → Hp → Prop, (∃ m, W 0 m (upd H1 D (.lst []))) ∧ ∀ i m H, W i m H →
      (J.stop i H ∧ Qd H) ∨ (J.go i H ∧ ∃ Nx : Hp → Prop, (∀ H', Nx H' → ∃ m', m' < m ∧ W (i + 1) m' H') ∧ ∀ x H', J.yld i H x H' → g x (wipe σ vs) H' fun σ2 H2 => wipe σ2 vs = wipe σ vs ∧ tt σ2 H2 fun b H3 =>
        if b = true then te σ2 H3 fun y H4 => ∃ acc, H4 D = some (.lst acc) ∧ acc.length < sizeLine ∧ Nx (upd H4 D (.lst (acc ++ [y]))) else Nx H3)
theorem rd_lc {wi : TI} {g : TG} {vs : List Nat} (h : wi σ H fun J H1 => ∀ D, H1 D = none → LcG J g tt te vs σ D (fun H => Q (.ref D) H) H1) : tLc wi g tt te vs σ H Q := h
theorem lcL_by {a D : Addr} {g : TG} {vs : List Nat} {Qd : Hp → Prop} (xs : List V) (Pv : Nat → Hp → Prop) (h0 : Pv 0 (upd H D (.lst []))) (hl : ∀ i H, i ≤ xs.length → Pv i H → SqL K H a xs)
    (hs : ∀ i x H, xs[i]? = some x → Pv i H → g x (wipe σ vs) H fun σ2 H2 => wipe σ2 vs = wipe σ vs ∧ tt σ2 H2 fun b H3 =>
      if b = true then te σ2 H3 fun y H4 => ∃ acc, H4 D = some (.lst acc) ∧ acc.length < sizeLine ∧ Pv (i + 1) (upd H4 D (.lst (acc ++ [y]))) else Pv (i + 1) H3) (hd : ∀ H, Pv xs.length H → Qd H) : LcG (Itl K a) g tt te vs σ D Qd H := lc_list (K := K) Pv h0 hl hs hd
theorem lcR_by {lo : Int} {n : Nat} {D : Addr} {g : TG} {vs : List Nat} {Qd : Hp → Prop} (Pv : Nat → Hp → Prop) (h0 : Pv 0 (upd H D (.lst [])))
    (hs : ∀ (i : Nat) H, i < n → Pv i H → g (.int (lo + i)) (wipe σ vs) H fun σ2 H2 => wipe σ2 vs = wipe σ vs ∧ tt σ2 H2 fun b H3 =>
      if b = true then te σ2 H3 fun y H4 => ∃ acc, H4 D = some (.lst acc) ∧ acc.length < sizeLine ∧ Pv (i + 1) (upd H4 D (.lst (acc ++ [y]))) else Pv (i + 1) H3) (hd : ∀ H, Pv n H → Qd H) : LcG (Itr lo n) g tt te vs σ D Qd H := lc_range Pv h0 hs hd
theorem lcL_ints {a D : Addr} {g : TG} {vs : List Nat} {Qd : Hp → Prop} (ns : List Int) (Pv : Nat → Hp → Prop) (h0 : Pv 0 (upd H D (.lst []))) (hl : ∀ i H, i ≤ ns.length → Pv i H → SqL K H a (ns.map V.int))
    (hs : ∀ (i : Nat) (h : i < ns.length) H, Pv i H → g (.int ns[i]) (wipe σ vs) H fun σ2 H2 => wipe σ2 vs = wipe σ vs ∧ tt σ2 H2 fun b H3 =>
      if b = true then te σ2 H3 fun y H4 => ∃ acc, H4 D = some (.lst acc) ∧ acc.length < sizeLine ∧ Pv (i + 1) (upd H4 D (.lst (acc ++ [y]))) else Pv (i + 1) H3) (hd : ∀ H, Pv ns.length H → Qd H) : LcG (Itl K a) g tt te vs σ D Qd H :=
  lcL_by (ns.map V.int) Pv h0 (fun i H hi p => hl i H (by simpa using hi) p) (fun i x H e p => by
    rw [List.getElem?_map] at e
    obtain ⟨z, hz, rfl⟩ := Option.map_eq_some_iff.mp e
    obtain ⟨h, rfl⟩ := List.getElem?_eq_some_iff.mp hz
    exact hs i h H p) (fun H p => hd H (by simpa using p))
theorem rd_yes {QB : Bool → Hp → Prop} (h : QB true H) : tYes σ H QB := h
end

/-! ### callables in one piece -/
section
variable {P : Program} {w : World} {K : PySem.W.Frag} {mg : Str → Option Value} {base : Heap} {CX : CXT} {X : Cx} {k j : Nat} {C : Addr} {x m : Str} {sp : Sp} {dvs : List V} {E : XK} {p pos apos : Pos} {e o : Expr} {es : List Expr} {ta : TE} {t : TA}
structure CalX (P : Program) (w : World) (K : PySem.W.Frag) (mg : Str → Option Value) (base : Heap) (CX : CXT) (k : Nat) (x : Str) (sp : Sp) (dvs : List V) : Prop where
  ex : ∃ (f : Addr) (fd : FuncData) (ps : List Str) (ds : List Value), FnOk P w K mg base CX k f fd ps sp ∧ mg x = some (.ref f) ∧ PySem.W.keepIn K (.ref f) = true ∧ Binds K fd ps ds ∧ Vals dvs ds
structure MetX (P : Program) (w : World) (K : PySem.W.Frag) (mg : Str → Option Value) (base : Heap) (CX : CXT) (k : Nat) (C : Addr) (m : Str) (sp : Sp) (dvs : List V) : Prop where
  ex : ∃ (f : Addr) (fd : FuncData) (ps : List Str) (ds : List Value), Cls K C ∧ Meth K C m f ∧ FnOk P w K mg base CX k f fd ps sp ∧ Binds K fd ps ds ∧ Vals dvs ds
structure MakX (P : Program) (w : World) (K : PySem.W.Frag) (mg : Str → Option Value) (base : Heap) (CX : CXT) (k : Nat) (x : Str) (C : Addr) (sp : Sp) (dvs : List V) : Prop where
  ex : ∃ (f : Addr) (fd : FuncData) (ps : List Str) (ds : List Value), Mk K C f ∧ FnOk P w K mg base CX k f fd ps sp ∧ mg x = some (.ref C) ∧ Binds K fd ps ds ∧ Vals dvs ds
theorem pe_cal (c : CalX X.prog X.w X.K X.mg X.base CX k x sp dvs) (hr : Room j X.A) (hk : k ≤ j) (hg : Gl X x) (hx : Passes CX X E) (ha : PA X (e :: es) t)
    (hdb : (x == ("__debug__" : Str)) = false := by decide) (he : starEach (e :: es) X.env = (false, eval e X.env) :: starEach es X.env := by rfl) (hpl : (backTo pos (starEach es X.env)).any (·.1) = false := by rfl) :
    PE X (.Call (.Name x p) (e :: es) [] pos) (tCall sp dvs E t) := by
  obtain ⟨f, fd, ps, ds, F, hm, kp, b, d⟩ := c.ex
  exact pe_call F (hr.mono hk) hg hm kp b d hx ha hdb he hpl
theorem pe_mak (c : MakX X.prog X.w X.K X.mg X.base CX k x C sp dvs) (hr : Room j X.A) (hk : k + 1 ≤ j) (hg : Gl X x) (hx : Passes CX X E) (ha : PA X (e :: es) t)
    (hdb : (x == ("__debug__" : Str)) = false := by decide) (he : starEach (e :: es) X.env = (false, eval e X.env) :: starEach es X.env := by rfl) (hpl : (backTo pos (starEach es X.env)).any (·.1) = false := by rfl) :
    PE X (.Call (.Name x p) (e :: es) [] pos) (tMake C sp dvs E t) := by
  obtain ⟨f, fd, ps, ds, M, F, hm, b, d⟩ := c.ex
  exact pe_make M F (hr.mono hk) hg hm b d hx ha hdb he hpl
theorem pe_met {pl : Sem Bool} (c : MetX X.prog X.w X.K X.mg X.base CX k C m sp dvs) (hr : Room j X.A) (hk : k ≤ j) (hx : Passes CX X E) (he : PE X o ta) (ha : PA X (e :: es) t)
    (hst : starEach (e :: es) X.env = (false, eval e X.env) :: starEach es X.env := by rfl) (hpl : (backTo pos (starEach es X.env)).any (·.1) = false := by rfl)
    (ht : eval (.Call (.Attribute o m apos) (e :: es) [] pos) X.env = (do
      let ov ← eval o X.env
      standAt apos.atName
      let (f, first) ← holding [ov] (getMethod ov m pl)
      callWith pos f first (backTo pos (starEach (e :: es) X.env)) (backToKw pos (keywordEach [] X.env))) := by rfl) :
    PE X (.Call (.Attribute o m apos) (e :: es) [] pos) (tMeth C m sp dvs E ta t) := by
  obtain ⟨f, fd, ps, ds, cl, me, F, b, d⟩ := c.ex
  exact pe_meth he cl me F (hr.mono hk) b d hx ha hst hpl ht
end

/-! ### a def's promise by its body -/
section
variable {P : Program} {w : World} {K : PySem.W.Frag} {mg : Str → Option Value} {base : Heap} {CX : CXT} {x qual : Str} {params : Arguments} {body : List Stmt} {scope : Scope} {dvs : List V} {kws : List (Str × V)} {f : Addr} {fd : FuncData}
theorem fnD {N ps : List Str} {k : Nat} {sp : Sp} (F : FunD K x qual params body scope dvs kws f fd) (S : FnScope N ps scope) (len : ∀ vs H Q E, sp vs H Q E → vs.length = ps.length)
    (hbody : ∀ (cdv : Value) (A : Around) (outer : List Env) (s : Shared) (H : Hp) (vs : List V) (Q : VK) (E : XK), Room k (A.deeper (envOfC qual scope s.heap.objs.size f cdv)) → sp vs H Q E →
      ∃ t, PSs (cxOf CX0 P w K mg base N qual scope f cdv A outer s H E).nox body t ∧ t ⟨fun _ H' => Q .non H', Q, fun _ _ => False, fun _ _ => False⟩ (start N vs) H) : FnOk P w K mg base CX0 (k + 1) f fd ps sp :=
  F.ok S len fun cdv A outer s H vs Q E hr h => let ⟨t, h1, h2⟩ := hbody cdv A outer s H vs Q E hr h; ⟨t, h1.nox, h2⟩
end

/-! ### the head: facts of a top, one Bool more -/
abbrev AlM : Type := AlD × Bool
def obsM (n : Nat) (fa : List Fa) (fn : List DefD) (ex : PySem.W.Frag → Bool) (g : Addr → Option Obj) : AlM := (obsD fa fn (frG g (asD g n)), ex (frG g (asD g n)))
def hookM (n : Nat) (fa : List Fa) (fn : List DefD) (ex : PySem.W.Frag → Bool) : PySem.W.Hook where
  α := AlM
  obs := fun s => obsM n fa fn ex s.heap.get?
  val := fun _ => (valD fn, true)
  says := fun _ h => ∃ K : PySem.W.Frag, K.In h ∧ SaysD fa fn K ∧ ex K = true
  of := fun _ _ e => ⟨_, frG_in, congrArg (fun z : AlM => z.1) e, congrArg (fun z : AlM => z.2) e⟩
  keeps := fun _ _ _ ⟨K, hK, c, d⟩ k => ⟨K, PySem.W.Frag.In.keeps hK k, c, d⟩
theorem obsM_eq {n : Nat} {fa : List Fa} {fn : List DefD} {ex : PySem.W.Frag → Bool} {g : Addr → Option Obj} {s : Shared} (h : ∀ a, g a = s.heap.get? a) : obsM n fa fn ex g = (hookM n fa fn ex).obs s := by
  have e : g = s.heap.get? := funext h
  rw [e] <;> rfl
/-- what the defs lean on -/
structure Ctx (fa : List Fa) (fn : List DefD) (ex : PySem.W.Frag → Bool) (K : PySem.W.Frag) (mg : Str → Option Value) : Prop where
  says : SaysD fa fn K
  ex : ex K = true
  at_ : ∃ h, K.In h ∧ h.Ns mainGlobals mg
section
variable {fa : List Fa} {fn : List DefD} {ex : PySem.W.Frag → Bool} {K : PySem.W.Frag} {mg : Str → Option Value}
theorem Ctx.glo (T : Ctx fa fn ex K mg) (i : Nat) {x : Str} (h : fa[i]? = some (.glo x) := by rfl) : mg x = some (.ref (ga K x)) := let ⟨_, X, G⟩ := T.at_; glo_ok X G (T.says.fact i h)
theorem Ctx.fre (T : Ctx fa fn ex K mg) (i : Nat) {x : Str} (h : fa[i]? = some (.free x) := by rfl) : mg x = none := let ⟨_, X, G⟩ := T.at_; free_ok X G (T.says.fact i h)
theorem Ctx.cls (T : Ctx fa fn ex K mg) (i : Nat) {x : Str} (h : fa[i]? = some (.cls x) := by rfl) : Cls K (ga K x) := cls_ok (T.says.fact i h)
theorem Ctx.noat (T : Ctx fa fn ex K mg) (i : Nat) {x f : Str} (h : fa[i]? = some (.noat x f) := by rfl) : NoAttr K (ga K x) f := noat_ok (T.says.fact i h)
theorem Ctx.meth (T : Ctx fa fn ex K mg) (i : Nat) {x m : Str} (h : fa[i]? = some (.meth x m) := by rfl) : Meth K (ga K x) m (ma K (ga K x) m) := meth_ok (T.says.fact i h)
theorem Ctx.mkr (T : Ctx fa fn ex K mg) (i : Nat) {x : Str} (h : fa[i]? = some (.mkr x) := by rfl) : Mk K (ga K x) (ma K (ga K x) "__init__") := mkr_ok (T.says.fact i h)
theorem Ctx.int (T : Ctx fa fn ex K mg) (i : Nat) {x : Str} {z : Int} (h : fa[i]? = some (.int x z) := by rfl) : ∃ t, mg x = some (.int z t) := let ⟨_, X, G⟩ := T.at_; int_ok X G (T.says.fact i h)
theorem Ctx.str (T : Ctx fa fn ex K mg) (i : Nat) {x z : Str} (h : fa[i]? = some (.str x z) := by rfl) : ∃ t, mg x = some (.str z t) := let ⟨_, X, G⟩ := T.at_; str_ok X G (T.says.fact i h)
end
theorem pe_globC {X : Cx} {x : Str} {v : V} {pos : Pos} (hg : Gl X x) (h : ∃ u, X.mg x = some u ∧ RelV v u) (hd : (x == ("__debug__" : Str)) = false := by decide) : PE X (.Name x pos) (tC v) := let ⟨_, hm, r⟩ := h; pe_glob hg hm r hd

/-! ### small facts -/
theorem ite_d {p A B : Prop} [Decidable p] (h1 : p → A) (h2 : ¬ p → B) : if decide p = true then A else B := by
  by_cases h : p
  · rw [decide_eq_true h, if_pos rfl]
    exact h1 h
  · rw [decide_eq_false h, if_neg Bool.false_ne_true]
    exact h2 h
theorem ite_n {p A B : Prop} [Decidable p] (h1 : ¬ p → A) (h2 : p → B) : if (!decide p) = true then A else B := by
  by_cases h : p
  · rw [decide_eq_true h]
    exact iteF (h2 h)
  · rw [decide_eq_false h]
    exact iteT (h1 h)
theorem ite_b {b : Bool} {A B : Prop} (h1 : b = true → A) (h2 : b = false → B) : if b = true then A else B := by
  cases b
  · exact iteF (h2 rfl)
  · exact iteT (h1 rfl)
theorem ite_t {b : Bool} {A B : Prop} (e : b = true) (h : A) : if b = true then A else B := by
  subst e
  exact iteT h
theorem ite_f {b : Bool} {A B : Prop} (e : b = false) (h : B) : if b = true then A else B := by
  subst e
  exact iteF h
theorem atI_ints {ns : List Int} {i : Int} (h0 : 0 ≤ i) (h1 : i < ns.length) : atI (ns.map V.int) i = some (.int (ns.getD i.toNat 0)) := by
  obtain ⟨j, rfl⟩ := Int.eq_ofNat_of_zero_le h0
  refine atI_nat ?_
  have hj : j < ns.length := by omega
  rw [List.getElem?_map, List.getElem?_eq_getElem hj]
  simp [hj]
theorem take_map_succ {ns : List Int} {i : Nat} (h : i < ns.length) : (ns.take i).map V.int ++ [V.int ns[i]] = (ns.take (i + 1)).map V.int := by
  rw [List.take_succ_eq_append_getElem h, List.map_append]
  rfl
theorem sz1000 {n : Nat} (h : n ≤ 1000000) : n ≤ sizeLine := Nat.le_trans h (by decide)
theorem szlt {n : Nat} (h : n < 1000000) : n < sizeLine := Nat.lt_of_lt_of_le h (by decide)

/-! ### more readings -/
section
variable {K : PySem.W.Frag} {σ : L2.St} {H : Hp} {nx bk ct : L2.St → Hp → Prop} {rt : VK} {te ta tb tc : TE} {ar : TA} {Q : VK} {QB : Bool → Hp → Prop} {v x y z : V} {i j : Int}
theorem rd_sfld {f : Str} (h : tb σ H fun y H1 => ta σ H1 fun x H2 => ∃ a C dx fs, x = V.ref a ∧ H2 a = some (.ins C dx fs) ∧ Cls K C ∧ NoAttr K C f ∧ fs.length < 1000 ∧ nx σ (upd H2 a (.ins C dx (putF f y fs)))) : sFld K ta tb f ⟨nx, rt, bk, ct⟩ σ H := h
theorem rd_sfldX {f : Str} {a C dx : Addr} {fs : List (Str × V)} {R : Addr → Addr → Addr → List (Str × V) → Prop} (h : H a = some (.ins C dx fs)) (c : Cls K C) (n : NoAttr K C f) (l : fs.length < 1000) (q : R a C dx fs) :
    ∃ a' C' dx' fs', V.ref a = V.ref a' ∧ H a' = some (.ins C' dx' fs') ∧ Cls K C' ∧ NoAttr K C' f ∧ fs'.length < 1000 ∧ R a' C' dx' fs' := ⟨a, C, dx, fs, rfl, h, c, n, l, q⟩
theorem rd_tfld {f : Str} (h : ta σ H fun x H1 => ∃ a C dx fs v, x = V.ref a ∧ H1 a = some (.ins C dx fs) ∧ Cls K C ∧ NoAttr K C f ∧ fs.lookup f = some v ∧ Q v H1) : tFld K ta f σ H Q := h
theorem rd_fldX {f : Str} {a C dx : Addr} {fs : List (Str × V)} {R : V → Prop} (h : H a = some (.ins C dx fs)) (c : Cls K C) (n : NoAttr K C f) (l : fs.lookup f = some v) (q : R v) :
    ∃ a' C' dx' fs' v', V.ref a = V.ref a' ∧ H a' = some (.ins C' dx' fs') ∧ Cls K C' ∧ NoAttr K C' f ∧ fs'.lookup f = some v' ∧ R v' := ⟨a, C, dx, fs, v, rfl, h, c, n, l, q⟩
theorem rd_tcon {f : Str} (h : ta σ H fun x H1 => ∃ a C dx fs v u, x = V.ref a ∧ H1 a = some (.ins C dx fs) ∧ Cls K C ∧ Con K C f v u ∧ fs.lookup f = none ∧ Q v H1) : tCon K ta f σ H Q := h
theorem rd_conX {f : Str} {a C dx : Addr} {fs : List (Str × V)} {R : V → Prop} (h : H a = some (.ins C dx fs)) (c : Cls K C) (n : ∃ u, Con K C f v u) (l : fs.lookup f = none) (q : R v) :
    ∃ a' C' dx' fs' v' u, V.ref a = V.ref a' ∧ H a' = some (.ins C' dx' fs') ∧ Cls K C' ∧ Con K C' f v' u ∧ fs'.lookup f = none ∧ R v' := let ⟨u, n⟩ := n; ⟨a, C, dx, fs, v, u, rfl, h, c, n, l, q⟩
/-! isinstance -/
theorem rd_isi_ii (h : Q (.bl true) H) : rIsi K [.int i, .ty "int"] H Q := rd_isi (.base (.int i)) (by decide +kernel) h
theorem rd_isi_ib (h : Q (.bl false) H) : rIsi K [.int i, .ty "bool"] H Q := rd_isi (.base (.int i)) (by decide +kernel) h
theorem rd_isi_bb {b : Bool} (h : Q (.bl true) H) : rIsi K [.bl b, .ty "bool"] H Q := rd_isi (.base (.bl b)) (by decide +kernel) h
theorem rd_isi_bi {b : Bool} (h : Q (.bl true) H) : rIsi K [.bl b, .ty "int"] H Q := rd_isi (.base (.bl b)) (by decide +kernel) h
theorem rd_isi_ss {b : Str} (h : Q (.bl true) H) : rIsi K [.str b, .ty "str"] H Q := rd_isi (.base (.str b)) (by decide +kernel) h
theorem rd_isi_ll {a : Addr} {xs : List V} (e : H a = some (.lst xs)) (h : Q (.bl true) H) : rIsi K [.ref a, .ty "list"] H Q := rd_isi (.base (.lst e)) (by decide +kernel) h
theorem rd_isi_tt {a : Addr} {xs : List V} (e : H a = some (.tup xs)) (h : Q (.bl true) H) : rIsi K [.ref a, .ty "tuple"] H Q := rd_isi (.base (.tup e)) (by decide +kernel) h
/-! known tests -/
section
variable {A B : Prop}
theorem ite_nt (h : B) : if (!true) = true then A else B := iteF h
theorem ite_nf (h : A) : if (!false) = true then A else B := iteT h
theorem ite_in (h : B) : if decide (V.int i = V.non) = true then A else B := iteF h
theorem ite_rn {a : Addr} (h : B) : if decide (V.ref a = V.non) = true then A else B := iteF h
theorem ite_sn {a : Str} (h : B) : if decide (V.str a = V.non) = true then A else B := iteF h
theorem ite_bn {a : Bool} (h : B) : if decide (V.bl a = V.non) = true then A else B := by
  cases a <;> exact iteF h
theorem ite_nn (h : A) : if decide (V.non = V.non) = true then A else B := iteT h
theorem ite_xin (h : A) : if (!decide (V.int i = V.non)) = true then A else B := iteT h
theorem ite_xrn {a : Addr} (h : A) : if (!decide (V.ref a = V.non)) = true then A else B := iteT h
theorem ite_xnn (h : B) : if (!decide (V.non = V.non)) = true then A else B := iteF h
end
/-! dicts with tuple keys -/
theorem rd_dnewT (h : ∀ p, H p = none → Q (.ref p) (upd H p (.dT []))) : tDNewT σ H Q := h
theorem rd_dnewK (h : ∀ p, H p = none → Q (.ref p) (upd H p (.dK []))) : tDNewK σ H Q := h
theorem rd_dget2 (h : ta σ H fun x H1 => ∃ a, x = V.ref a ∧ IsD H1 a ∧ tb σ H1 fun y H2 => tc σ H2 fun z H3 => ∃ o, DGet H3 a y o ∧ Q (o.getD z) H3) : tDGet2 ta tb tc σ H Q := h
theorem rd_isdX {a : Addr} {R : Addr → Prop} (d : IsD H a) (q : R a) : ∃ a', V.ref a = V.ref a' ∧ IsD H a' ∧ R a' := ⟨a, rfl, d, q⟩
theorem isD_T {a : Addr} {kvs : List (List Key × V)} (e : H a = some (.dT kvs)) : IsD H a := .inr ⟨kvs, .inl e⟩
theorem isD_K {a : Addr} {kvs : List (Key × V)} (e : H a = some (.dK kvs)) : IsD H a := .inl ⟨kvs, .inl e⟩
theorem rd_dgX {a : Addr} {o : Option V} {R : Option V → Prop} (d : DGet H a y o) (q : R o) : ∃ o', DGet H a y o' ∧ R o' := ⟨o, d, q⟩
theorem dg_is {a b : Addr} {kvs : List (List Key × V)} {s : Int} {z : Str} (e : H a = some (.dT kvs)) (eb : H b = some (.tup [.int s, .str z])) : DGet H a (.ref b) (valV kvs [.inl s, .inr z]) := DGet.t (k := [.inl s, .inr z]) e eb
theorem rd_sdput (h : tc σ H fun v H1 => ta σ H1 fun x H2 => tb σ H2 fun y H3 => ∃ a H4, x = V.ref a ∧ DPut H3 a y v H4 ∧ nx σ H4) : sDPut ta tb tc ⟨nx, rt, bk, ct⟩ σ H := h
theorem rd_dpX {a : Addr} {H' : Hp} {R : Hp → Prop} (d : DPut H a y v H') (q : R H') : ∃ a' H4, V.ref a = V.ref a' ∧ DPut H a' y v H4 ∧ R H4 := ⟨a, H', rfl, d, q⟩
theorem dp_is {a b : Addr} {kvs : List (List Key × V)} {s : Int} {z : Str} (e : H a = some (.dT kvs)) (eb : H b = some (.tup [.int s, .str z])) (l : kvs.length < sizeLine) : DPut H a (.ref b) v (upd H a (.dT (putK kvs [.inl s, .inr z] v))) := DPut.t (k := [.inl s, .inr z]) e eb l
theorem ty_d {a : Addr} {kvs : List (List Key × V)} {B : Prop} (h : H a = some (.dT kvs)) (q : B) : tyV K "dict" (.ref a) H ∧ B := ⟨.inr (.inr (.inl ⟨rfl, .inr ⟨kvs, h⟩⟩)), q⟩
theorem ty_dK {a : Addr} {kvs : List (Key × V)} {B : Prop} (h : H a = some (.dK kvs)) (q : B) : tyV K "dict" (.ref a) H ∧ B := ⟨.inr (.inr (.inl ⟨rfl, .inl ⟨kvs, h⟩⟩)), q⟩
theorem rd_popT {a b : Addr} {kvs : List (List Key × V)} {s : Int} {t : Str} (e : H a = some (.dT kvs)) (eb : H b = some (.tup [.int s, .str t])) (q1 : ∀ v, valV kvs [.inl s, .inr t] = some v → Q v (upd H a (.dT (dropK kvs [.inl s, .inr t])))) (q2 : valV kvs [.inl s, .inr t] = none → Q x H) :
    DX.rPopT (.ref a) [.ref b, x] H Q := ⟨a, kvs, [.inl s, .inr t], b, x, rfl, rfl, e, eb, q1, q2⟩
theorem valV_drop {κ : Type} [DecidableEq κ] (k j : κ) : ∀ kvs : List (κ × V), valV (dropK kvs k) j = if j = k then none else valV kvs j
  | [] => by
    by_cases h : j = k
    · rw [if_pos h]
      rfl
    · rw [if_neg h]
      rfl
  | p :: r => by
    have ih := valV_drop k j r
    by_cases e : p.1 = k
    · rw [dropK_pos e, ih]
      by_cases h : j = k
      · rw [if_pos h, if_pos h]
      · rw [if_neg h, if_neg h, valV_neg (fun z => h (z.symm.trans e))]
    · rw [dropK_neg e]
      by_cases h : p.1 = j
      · rw [valV_pos h, if_neg (fun z => e (h.trans z)), valV_pos h]
      · rw [valV_neg h, ih, valV_neg h]
theorem putK_le {κ : Type} [DecidableEq κ] (kvs : List (κ × V)) (k : κ) (v : V) : (putK kvs k v).length ≤ kvs.length + 1 := by
  unfold putK
  split
  · rw [List.length_map]
    omega
  · rw [List.length_append]
    exact Nat.le_refl _
theorem rd_cat {a b : Addr} {xs ys : List V} (h1 : H a = some (.lst xs)) (h2 : H b = some (.lst ys)) (l : xs.length + ys.length ≤ sizeLine) (q : ∀ p, H p = none → Q (.ref p) (upd H p (.lst (xs ++ ys)))) : rCat (.ref a) (.ref b) H Q := ⟨a, b, xs, ys, rfl, rfl, h1, h2, l, q⟩
/-! list(range(..)) -/
theorem rd_lstRg {t : L2.St → Hp → (Int → Int → Hp → Prop) → Prop} (h : t σ H fun a b H1 => RgOk a b ∧ ∀ q, H1 q = none → Q (.ref q) (upd H1 q (.lst (rgV a b)))) : tLstRg t σ H Q := h
theorem rd_rg1 {R : Int → Int → Hp → Prop} (h : ta σ H fun x H1 => ∃ n, x = V.int n ∧ R 0 n H1) : tRg1 ta σ H R := h
theorem rd_rg2 {R : Int → Int → Hp → Prop} (h : ta σ H fun x H1 => tb σ H1 fun y H2 => ∃ i j, x = V.int i ∧ y = V.int j ∧ R i j H2) : tRg2 ta tb σ H R := h
theorem rd_inX {R : Int → Prop} (h : R i) : ∃ n, V.int i = V.int n ∧ R n := ⟨i, rfl, h⟩
theorem rd_inX2 {R : Int → Int → Prop} (h : R i j) : ∃ n m, V.int i = V.int n ∧ V.int j = V.int m ∧ R n m := ⟨i, j, rfl, rfl, h⟩
theorem rgV_0 (n : Int) : rgV 0 n = ((List.range n.toNat).map fun (i : Nat) => (i : Int)).map V.int := by
  unfold rgV
  rw [List.map_map, Int.sub_zero]
  congr 1
  funext i
  show V.int (0 + (i : Int)) = V.int (i : Int)
  rw [Int.zero_add]
end
end RD

namespace My
open PySem PySem.Spec PyProof.Rows L2 He RD
open PySem PySem.Spec PyProof.Rows L2 He RD
def top (i : Nat) : Stmt := PySem.Challenge.pw_livingroll_k26_misses_in_a_row.main.body.getD i (.Pass ⟨0, 0, 0, 0⟩)
abbrev R : PySem.W.OpenRow := PySem.W.OpenLaw.row PySem.Challenge.rw_livingroll_k26_misses_in_a_row
abbrev s_l_box : Stmt := (top 11)
abbrev n_l_box : List Str := ["_law_script", "_law_cells", "_law_cell"]
abbrev p_l_box : List Str := ["_law_script"]
theorem sc_l_box : FnScope n_l_box p_l_box (defScope s_l_box) := ⟨rfl, rfl, rfl, by decide +kernel, rfl, by decide +kernel, by decide +kernel⟩
def d_l_box : DefD := ⟨("_law_box", none), "_law_box", "_law_box", defArgs s_l_box, defBody s_l_box, defScope s_l_box, [], []⟩
abbrev s_l_draw : Stmt := (top 12)
abbrev n_l_draw : List Str := ["_law_box_here", "_law_top", "_law_digit", "_law_cells", "_law_place", "_law_cell", "_law_mixed"]
abbrev p_l_draw : List Str := ["_law_box_here", "_law_top"]
theorem sc_l_draw : FnScope n_l_draw p_l_draw (defScope s_l_draw) := ⟨rfl, rfl, rfl, by decide +kernel, rfl, by decide +kernel, by decide +kernel⟩
def d_l_draw : DefD := ⟨("_law_draw", none), "_law_draw", "_law_draw", defArgs s_l_draw, defBody s_l_draw, defScope s_l_draw, [], []⟩
abbrev s_l_bits : Stmt := (top 13)
abbrev n_l_bits : List Str := ["_law_box_here", "_law_way"]
abbrev p_l_bits : List Str := ["_law_box_here"]
theorem sc_l_bits : FnScope n_l_bits p_l_bits (defScope s_l_bits) := ⟨rfl, rfl, rfl, by decide +kernel, rfl, by decide +kernel, by decide +kernel⟩
def d_l_bits : DefD := ⟨("_law_bits", none), "_law_bits", "_law_bits", defArgs s_l_bits, defBody s_l_bits, defScope s_l_bits, [], []⟩
abbrev s_l_patience : Stmt := (top 14)
abbrev n_l_patience : List Str := ["_law_box_here", "_law_way"]
abbrev p_l_patience : List Str := ["_law_box_here"]
theorem sc_l_patience : FnScope n_l_patience p_l_patience (defScope s_l_patience) := ⟨rfl, rfl, rfl, by decide +kernel, rfl, by decide +kernel, by decide +kernel⟩
def d_l_patience : DefD := ⟨("_law_patience", none), "_law_patience", "_law_patience", defArgs s_l_patience, defBody s_l_patience, defScope s_l_patience, [], []⟩
abbrev s_whole : Stmt := (top 5)
abbrev n_whole : List Str := ["value", "low", "high"]
abbrev p_whole : List Str := ["value", "low", "high"]
theorem sc_whole : FnScope n_whole p_whole (defScope s_whole) := ⟨rfl, rfl, rfl, by decide +kernel, rfl, by decide +kernel, by decide +kernel⟩
def d_whole : DefD := ⟨("whole", none), "whole", "whole", defArgs s_whole, defBody s_whole, defScope s_whole, [], []⟩
abbrev s_Setting_init : Stmt := (inClass (top 6) 5)
abbrev n_Setting_init : List Str := ["self", "bits", "patience", "room", "grace", "helpers"]
abbrev p_Setting_init : List Str := ["self", "bits", "patience", "room", "grace", "helpers"]
theorem sc_Setting_init : FnScope n_Setting_init p_Setting_init (defScope s_Setting_init) := ⟨rfl, rfl, rfl, by decide +kernel, rfl, by decide +kernel, by decide +kernel⟩
def d_Setting_init : DefD := ⟨("Setting", some "__init__"), "__init__", "Setting.__init__", defArgs s_Setting_init, defBody s_Setting_init, defScope s_Setting_init, [], [("grace", .int 6), ("helpers", .int 1)]⟩
abbrev s_Misses_init : Stmt := (inClass (top 9) 0)
abbrev n_Misses_init : List Str := ["self", "setting"]
abbrev p_Misses_init : List Str := ["self", "setting"]
theorem sc_Misses_init : FnScope n_Misses_init p_Misses_init (defScope s_Misses_init) := ⟨rfl, rfl, rfl, by decide +kernel, rfl, by decide +kernel, by decide +kernel⟩
def d_Misses_init : DefD := ⟨("Misses", some "__init__"), "__init__", "Misses.__init__", defArgs s_Misses_init, defBody s_Misses_init, defScope s_Misses_init, [], []⟩
abbrev s_Misses_count : Stmt := (inClass (top 9) 3)
abbrev n_Misses_count : List Str := ["self", "seat", "kind"]
abbrev p_Misses_count : List Str := ["self", "seat", "kind"]
theorem sc_Misses_count : FnScope n_Misses_count p_Misses_count (defScope s_Misses_count) := ⟨rfl, rfl, rfl, by decide +kernel, rfl, by decide +kernel, by decide +kernel⟩
def d_Misses_count : DefD := ⟨("Misses", some "count"), "count", "Misses.count", defArgs s_Misses_count, defBody s_Misses_count, defScope s_Misses_count, [], []⟩
abbrev s_Misses_miss : Stmt := (inClass (top 9) 1)
abbrev n_Misses_miss : List Str := ["self", "seat", "kind", "missed"]
abbrev p_Misses_miss : List Str := ["self", "seat", "kind"]
theorem sc_Misses_miss : FnScope n_Misses_miss p_Misses_miss (defScope s_Misses_miss) := ⟨rfl, rfl, rfl, by decide +kernel, rfl, by decide +kernel, by decide +kernel⟩
def d_Misses_miss : DefD := ⟨("Misses", some "miss"), "miss", "Misses.miss", defArgs s_Misses_miss, defBody s_Misses_miss, defScope s_Misses_miss, [], []⟩
abbrev s_Misses_heard : Stmt := (inClass (top 9) 2)
abbrev n_Misses_heard : List Str := ["self", "seat", "kind"]
abbrev p_Misses_heard : List Str := ["self", "seat"]
theorem sc_Misses_heard : FnScope n_Misses_heard p_Misses_heard (defScope s_Misses_heard) := ⟨rfl, rfl, rfl, by decide +kernel, rfl, by decide +kernel, by decide +kernel⟩
def d_Misses_heard : DefD := ⟨("Misses", some "heard"), "heard", "Misses.heard", defArgs s_Misses_heard, defBody s_Misses_heard, defScope s_Misses_heard, [], []⟩
abbrev s_l_made : Stmt := (top 15)
abbrev n_l_made : List Str := ["_law_box_here", "_law_bits_here", "_law_ring", "_law_patience_here", "_law_counter", "_law_pool", "_law_k"]
abbrev p_l_made : List Str := ["_law_box_here"]
theorem sc_l_made : FnScope n_l_made p_l_made (defScope s_l_made) := ⟨rfl, rfl, rfl, by decide +kernel, rfl, by decide +kernel, by decide +kernel⟩
def d_l_made : DefD := ⟨("_law_made", none), "_law_made", "_law_made", defArgs s_l_made, defBody s_l_made, defScope s_l_made, [], []⟩
abbrev s_l_counts_hold : Stmt := (top 16)
abbrev n_l_counts_hold : List Str := ["_law_counter", "_law_table", "_law_spots", "_law_spot", "_law_kind", "_law_answer"]
abbrev p_l_counts_hold : List Str := ["_law_counter", "_law_table", "_law_spots"]
theorem sc_l_counts_hold : FnScope n_l_counts_hold p_l_counts_hold (defScope s_l_counts_hold) := ⟨rfl, rfl, rfl, by decide +kernel, rfl, by decide +kernel, by decide +kernel⟩
def d_l_counts_hold : DefD := ⟨("_law_counts_hold", none), "_law_counts_hold", "_law_counts_hold", defArgs s_l_counts_hold, defBody s_l_counts_hold, defScope s_l_counts_hold, [], []⟩
abbrev s_l_misses_hold : Stmt := (top 17)
abbrev n_l_misses_hold : List Str := ["_law_counter", "_law_table", "_law_spot", "_law_kind", "_law_times", "_law_patience_here", "_law_k", "_law_now", "_law_full", "_law_answer"]
abbrev p_l_misses_hold : List Str := ["_law_counter", "_law_table", "_law_spot", "_law_kind", "_law_times", "_law_patience_here"]
theorem sc_l_misses_hold : FnScope n_l_misses_hold p_l_misses_hold (defScope s_l_misses_hold) := ⟨rfl, rfl, rfl, by decide +kernel, rfl, by decide +kernel, by decide +kernel⟩
def d_l_misses_hold : DefD := ⟨("_law_misses_hold", none), "_law_misses_hold", "_law_misses_hold", defArgs s_l_misses_hold, defBody s_l_misses_hold, defScope s_l_misses_hold, [], []⟩
abbrev s_law : Stmt := (top 18)
abbrev n_law : List Str := ["_law_script", "_law_box_here", "_law_rows", "_law_made_here", "_law_tables", "_law_row", "_law_which", "_law_counter", "_law_patience_here", "_law_pool", "_law_table", "_law_spot", "_law_way", "_law_kind", "_law_times", "_law_again", "_law_spots"]
abbrev p_law : List Str := ["_law_script"]
theorem sc_law : FnScope n_law p_law (defScope s_law) := ⟨rfl, rfl, rfl, by decide +kernel, rfl, by decide +kernel, by decide +kernel⟩
def d_law : DefD := ⟨("law", none), "law", "law", defArgs s_law, defBody s_law, defScope s_law, [], []⟩
def fn : List DefD := [d_l_box, d_l_draw, d_l_bits, d_l_patience, d_whole, d_Setting_init, d_Misses_init, d_Misses_count, d_Misses_miss, d_Misses_heard, d_l_made, d_l_counts_hold, d_l_misses_hold, d_law]
def fa : List Fa := [.free "abs", .free "bool", .free "int", .free "isinstance", .free "len", .free "list", .free "min", .free "range", .glo "_law_box", .glo "_law_draw", .glo "_law_bits", .glo "_law_patience", .glo "whole", .meth "Misses" "count", .meth "Misses" "miss", .meth "Misses" "heard", .glo "_law_made", .glo "_law_counts_hold", .glo "_law_misses_hold", .glo "law", .glo "Misses", .cls "Misses", .mkr "Misses", .noat "Misses" "_setting", .noat "Misses" "_counts", .glo "Setting", .cls "Setting", .mkr "Setting", .noat "Setting" "bits", .noat "Setting" "patience", .noat "Setting" "room", .noat "Setting" "grace", .noat "Setting" "helpers", .glo "KINDS"]
def ex (K : PySem.W.Frag) : Bool := tupB K "KINDS" [.str "quick", .str "slow"] && (conB K "Setting" "MOST_BITS" (.int 8) && (conB K "Setting" "MOST_PATIENCE" (.int 6) && (conB K "Setting" "MOST_ROOM" (.int 64) && (conB K "Setting" "MOST_GRACE" (.int 200) && conB K "Setting" "MOST_HELPERS" (.int 3)))))
abbrev Cx (K : PySem.W.Frag) (mg : Str → Option Value) : Prop := RD.Ctx fa fn ex K mg
section
variable {K : PySem.W.Frag} {mg : Str → Option Value}
theorem fr_abs (T : Cx K mg) : mg "abs" = none := T.fre 0
theorem fr_bool (T : Cx K mg) : mg "bool" = none := T.fre 1
theorem fr_int (T : Cx K mg) : mg "int" = none := T.fre 2
theorem fr_isinstance (T : Cx K mg) : mg "isinstance" = none := T.fre 3
theorem fr_len (T : Cx K mg) : mg "len" = none := T.fre 4
theorem fr_list (T : Cx K mg) : mg "list" = none := T.fre 5
theorem fr_min (T : Cx K mg) : mg "min" = none := T.fre 6
theorem fr_range (T : Cx K mg) : mg "range" = none := T.fre 7
theorem gl_l_box (T : Cx K mg) : mg "_law_box" = some (.ref (ga K "_law_box")) := T.glo 8
theorem gl_l_draw (T : Cx K mg) : mg "_law_draw" = some (.ref (ga K "_law_draw")) := T.glo 9
theorem gl_l_bits (T : Cx K mg) : mg "_law_bits" = some (.ref (ga K "_law_bits")) := T.glo 10
theorem gl_l_patience (T : Cx K mg) : mg "_law_patience" = some (.ref (ga K "_law_patience")) := T.glo 11
theorem gl_whole (T : Cx K mg) : mg "whole" = some (.ref (ga K "whole")) := T.glo 12
theorem mt_Misses_count (T : Cx K mg) : Meth K (ga K "Misses") "count" (ma K (ga K "Misses") "count") := T.meth 13
theorem mt_Misses_miss (T : Cx K mg) : Meth K (ga K "Misses") "miss" (ma K (ga K "Misses") "miss") := T.meth 14
theorem mt_Misses_heard (T : Cx K mg) : Meth K (ga K "Misses") "heard" (ma K (ga K "Misses") "heard") := T.meth 15
theorem gl_l_made (T : Cx K mg) : mg "_law_made" = some (.ref (ga K "_law_made")) := T.glo 16
theorem gl_l_counts_hold (T : Cx K mg) : mg "_law_counts_hold" = some (.ref (ga K "_law_counts_hold")) := T.glo 17
theorem gl_l_misses_hold (T : Cx K mg) : mg "_law_misses_hold" = some (.ref (ga K "_law_misses_hold")) := T.glo 18
theorem gl_law (T : Cx K mg) : mg "law" = some (.ref (ga K "law")) := T.glo 19
theorem gl_Misses (T : Cx K mg) : mg "Misses" = some (.ref (ga K "Misses")) := T.glo 20
theorem cl_Misses (T : Cx K mg) : Cls K (ga K "Misses") := T.cls 21
theorem mk_Misses (T : Cx K mg) : Mk K (ga K "Misses") (ma K (ga K "Misses") "__init__") := T.mkr 22
theorem na_Misses__setting (T : Cx K mg) : NoAttr K (ga K "Misses") "_setting" := T.noat 23
theorem na_Misses__counts (T : Cx K mg) : NoAttr K (ga K "Misses") "_counts" := T.noat 24
theorem gl_Setting (T : Cx K mg) : mg "Setting" = some (.ref (ga K "Setting")) := T.glo 25
theorem cl_Setting (T : Cx K mg) : Cls K (ga K "Setting") := T.cls 26
theorem mk_Setting (T : Cx K mg) : Mk K (ga K "Setting") (ma K (ga K "Setting") "__init__") := T.mkr 27
theorem na_Setting_bits (T : Cx K mg) : NoAttr K (ga K "Setting") "bits" := T.noat 28
theorem na_Setting_patience (T : Cx K mg) : NoAttr K (ga K "Setting") "patience" := T.noat 29
theorem na_Setting_room (T : Cx K mg) : NoAttr K (ga K "Setting") "room" := T.noat 30
theorem na_Setting_grace (T : Cx K mg) : NoAttr K (ga K "Setting") "grace" := T.noat 31
theorem na_Setting_helpers (T : Cx K mg) : NoAttr K (ga K "Setting") "helpers" := T.noat 32
theorem gl_KINDS (T : Cx K mg) : mg "KINDS" = some (.ref (ga K "KINDS")) := T.glo 33
end

/-- the drawing box: at p the list of the cells' list and three ints -/
structure Box (H : Hp) (p c : Addr) : Prop where
  ex : ∃ (ns : List Int) (a b d : Int), H p = some (.lst [.ref c, .int a, .int b, .int d]) ∧ H c = some (.lst (ns.map V.int)) ∧ ns ≠ [] ∧ ns.length ≤ 63
  ne : c ≠ p
theorem Box.kp {H H' : Hp} {p c : Addr} {ps : List Addr} (B : Box H p c) (k : Kp ps H H') (n1 : p ∉ ps) (n2 : c ∉ ps) : Box H' p c := by
  obtain ⟨⟨ns, a, b, d, h1, h2, h3, h4⟩, ne⟩ := B
  exact ⟨⟨ns, a, b, d, k _ _ h1 n1, k _ _ h2 n2, h3, h4⟩, ne⟩
theorem Box.k0 {H H' : Hp} {p c : Addr} (B : Box H p c) (k : Kp [] H H') : Box H' p c := B.kp k (by simp) (by simp)
/-- a setting stands at p -/
structure SetAt (K : PySem.W.Frag) (H : Hp) (p : Addr) (pat : Int) : Prop where
  ex : ∃ (dx : Addr) (bits room grace hel : Int), H p = some (.ins (ga K "Setting") dx [(("bits" : Str), .int bits), (("patience" : Str), .int pat), (("room" : Str), .int room), (("grace" : Str), .int grace), (("helpers" : Str), .int hel)])
theorem SetAt.kp {K : PySem.W.Frag} {H H' : Hp} {p : Addr} {pat : Int} {ps : List Addr} (B : SetAt K H p pat) (k : Kp ps H H') (n : p ∉ ps) : SetAt K H' p pat := by
  obtain ⟨dx, a, b, c, d, h⟩ := B.ex
  exact ⟨dx, a, b, c, d, k _ _ h n⟩
/-- a table of counts -/
structure Tab (H : Hp) (d : Addr) (f : Int → Str → Int) (m : Nat) : Prop where
  ex : ∃ kvs : List (List Key × V), H d = some (.dT kvs) ∧ kvs.length ≤ m ∧ ∀ s z, (valV kvs [.inl s, .inr z]).getD (.int 0) = .int (f s z)
theorem Tab.kp {H H' : Hp} {d : Addr} {f : Int → Str → Int} {m : Nat} {ps : List Addr} (B : Tab H d f m) (k : Kp ps H H') (n : d ∉ ps) : Tab H' d f m := by
  obtain ⟨kvs, h1, h2, h3⟩ := B.ex
  exact ⟨kvs, k _ _ h1 n, h2, h3⟩
theorem Tab.mono {H : Hp} {d : Addr} {f : Int → Str → Int} {m m' : Nat} (B : Tab H d f m) (h : m ≤ m') : Tab H d f m' := by
  obtain ⟨kvs, h1, h2, h3⟩ := B.ex
  exact ⟨kvs, h1, Nat.le_trans h2 h, h3⟩
def set2 (f : Int → Str → Int) (s : Int) (z : Str) (v : Int) : Int → Str → Int := fun a b => if a = s ∧ b = z then v else f a b
theorem key_iff {s a : Int} {z b : Str} : ([Sum.inl a, Sum.inr b] : List Key) = [Sum.inl s, Sum.inr z] ↔ a = s ∧ b = z := by
  constructor
  · intro e
    injection e with e1 e2
    injection e2 with e3 _
    exact ⟨Sum.inl.inj e1, Sum.inr.inj e3⟩
  · rintro ⟨rfl, rfl⟩
    rfl
theorem tab_put {kvs : List (List Key × V)} {f : Int → Str → Int} {s v : Int} {z : Str} (h : ∀ s z, (valV kvs [.inl s, .inr z]).getD (.int 0) = .int (f s z)) :
    ∀ a b, (valV (putK kvs [.inl s, .inr z] (.int v)) [.inl a, .inr b]).getD (.int 0) = .int (set2 f s z v a b) := by
  intro a b
  rw [valV_put]
  unfold set2
  by_cases e : a = s ∧ b = z
  · rw [if_pos e, if_pos (key_iff.mpr e)]
    rfl
  · rw [if_neg e, if_neg (fun q => e (key_iff.mp q))]
    exact h a b
theorem tab_drop {kvs : List (List Key × V)} {f : Int → Str → Int} {s : Int} {z : Str} (h : ∀ s z, (valV kvs [.inl s, .inr z]).getD (.int 0) = .int (f s z)) :
    ∀ a b, (valV (dropK kvs [.inl s, .inr z]) [.inl a, .inr b]).getD (.int 0) = .int (set2 f s z 0 a b) := by
  intro a b
  rw [valV_drop]
  unfold set2
  by_cases e : a = s ∧ b = z
  · rw [if_pos e, if_pos (key_iff.mpr e)]
    rfl
  · rw [if_neg e, if_neg (fun q => e (key_iff.mp q))]
    exact h a b
theorem tab_none {kvs : List (List Key × V)} {f : Int → Str → Int} {s : Int} {z : Str} (h : ∀ s z, (valV kvs [.inl s, .inr z]).getD (.int 0) = .int (f s z)) (e : valV kvs [.inl s, .inr z] = none) : set2 f s z 0 = f := by
  funext a b
  unfold set2
  by_cases q : a = s ∧ b = z
  · rw [if_pos q]
    obtain ⟨rfl, rfl⟩ := q
    have := h a b
    rw [e] at this
    exact V.int.inj this
  · rw [if_neg q]
/-- a counter stands at m: its setting sd, its table d -/
structure MisAt (K : PySem.W.Frag) (H : Hp) (m sd d : Addr) (pat : Int) : Prop where
  ob : ∃ dx, H m = some (.ins (ga K "Misses") dx [(("_setting" : Str), .ref sd), (("_counts" : Str), .ref d)])
  se : SetAt K H sd pat
theorem MisAt.kp {K : PySem.W.Frag} {H H' : Hp} {m sd d : Addr} {pat : Int} {ps : List Addr} (B : MisAt K H m sd d pat) (k : Kp ps H H') (n : m ∉ ps) (n2 : sd ∉ ps) : MisAt K H' m sd d pat := by
  obtain ⟨dx, h⟩ := B.ob
  exact ⟨⟨dx, k _ _ h n⟩, B.se.kp k n2⟩
theorem ndT {H : Hp} {x d : Addr} {o : HO} {kvs : List (List Key × V)} (hx : H x = some o) (hd : H d = some (.dT kvs)) (h : ∀ kvs, o ≠ .dT kvs) : x ≠ d := ne_of hx hd (h kvs)
theorem tup_KINDS {K : PySem.W.Frag} {mg : Str → Option Value} (T : Cx K mg) (H : Hp) : SqT K H (ga K "KINDS") [.str "quick", .str "slow"] := tupB_ok (vs := [.str "quick", .str "slow"]) (ba T.ex).1 H
theorem con_b {K : PySem.W.Frag} {mg : Str → Option Value} (T : Cx K mg) : ∃ u, Con K (ga K "Setting") "MOST_BITS" (.int 8) u := conB_ok (v := .int 8) (ba (ba T.ex).2).1
theorem con_p {K : PySem.W.Frag} {mg : Str → Option Value} (T : Cx K mg) : ∃ u, Con K (ga K "Setting") "MOST_PATIENCE" (.int 6) u := conB_ok (v := .int 6) (ba (ba (ba T.ex).2).2).1
theorem con_r {K : PySem.W.Frag} {mg : Str → Option Value} (T : Cx K mg) : ∃ u, Con K (ga K "Setting") "MOST_ROOM" (.int 64) u := conB_ok (v := .int 64) (ba (ba (ba (ba T.ex).2).2).2).1
theorem con_g {K : PySem.W.Frag} {mg : Str → Option Value} (T : Cx K mg) : ∃ u, Con K (ga K "Setting") "MOST_GRACE" (.int 200) u := conB_ok (v := .int 200) (ba (ba (ba (ba (ba T.ex).2).2).2).2).1
theorem con_h {K : PySem.W.Frag} {mg : Str → Option Value} (T : Cx K mg) : ∃ u, Con K (ga K "Setting") "MOST_HELPERS" (.int 3) u := conB_ok (v := .int 3) (ba (ba (ba (ba (ba T.ex).2).2).2).2).2
theorem ne_ints {c : V} {r : List V} (hc : ∀ i, c ≠ .int i) : ∀ ps : List Int, ps.map V.int ≠ c :: r
  | [], e => by cases e
  | x :: y, e => by
    rw [List.map_cons] at e
    injection e with e1 _
    exact hc x e1.symm
theorem ring8 {n : Int} (h1 : 1 ≤ n) (h2 : n ≤ 8) : 0 < 1 * (2 : Int) ^ n.toNat ∧ 1 * (2 : Int) ^ n.toNat ≤ 256 := by
  have : n = 1 ∨ n = 2 ∨ n = 3 ∨ n = 4 ∨ n = 5 ∨ n = 6 ∨ n = 7 ∨ n = 8 := by omega
  rcases this with rfl | rfl | rfl | rfl | rfl | rfl | rfl | rfl <;> decide
/-- one counter with its pair of tables -/
structure One (K : PySem.W.Frag) (H : Hp) (tbl t m sd d pl : Addr) (pat ring : Int) (ps : List Int) (f : Int → Str → Int) (n : Nat) : Prop where
  tp : H t = some (.tup [.ref m, .int pat, .ref pl, .int ring])
  mi : MisAt K H m sd d pat
  ta : Tab H d f n
  tb : Tab H tbl f n
  li : H pl = some (.lst (ps.map V.int))
  ne : ps ≠ [] ∧ ps.length ≤ 5
  ri : 0 < ring ∧ ring ≤ 256
  nd : d ≠ tbl
theorem One.kp {K : PySem.W.Frag} {H H' : Hp} {tbl t m sd d pl : Addr} {pat ring : Int} {ps : List Int} {f : Int → Str → Int} {n : Nat} {qs : List Addr} (O : One K H tbl t m sd d pl pat ring ps f n) (k : Kp qs H H')
    (h : t ∉ qs ∧ m ∉ qs ∧ sd ∉ qs ∧ pl ∉ qs ∧ d ∉ qs ∧ tbl ∉ qs) : One K H' tbl t m sd d pl pat ring ps f n :=
  ⟨k _ _ O.tp h.1, O.mi.kp k h.2.1 h.2.2.1, O.ta.kp k h.2.2.2.2.1, O.tb.kp k h.2.2.2.2.2, k _ _ O.li h.2.2.2.1, O.ne, O.ri, O.nd⟩
/-- everything that the law's loop holds -/
structure W (K : PySem.W.Frag) (H : Hp) (p c L1 L2 : Addr) (n : Nat) : Prop where
  bx : Box H p c
  ex : ∃ (b1 t1 m1 s1 d1 l1 b2 t2 m2 s2 d2 l2 : Addr) (p1 r1 p2 r2 : Int) (q1 q2 : List Int) (f1 f2 : Int → Str → Int), H L1 = some (.lst [.ref t1, .ref t2]) ∧ H L2 = some (.lst [.ref b1, .ref b2]) ∧
    One K H b1 t1 m1 s1 d1 l1 p1 r1 q1 f1 n ∧ One K H b2 t2 m2 s2 d2 l2 p2 r2 q2 f2 n ∧ d1 ≠ d2 ∧ d1 ≠ b2 ∧ b1 ≠ d2 ∧ b1 ≠ b2
theorem One.off {K : PySem.W.Frag} {H : Hp} {tbl t m sd d pl : Addr} {pat ring : Int} {ps : List Int} {f : Int → Str → Int} {n : Nat} (O : One K H tbl t m sd d pl pat ring ps f n) {q : Addr} {kvs : List (List Key × V)} (hq : H q = some (.dT kvs)) :
    t ≠ q ∧ m ≠ q ∧ sd ≠ q ∧ pl ≠ q := by
  obtain ⟨dx, hm⟩ := O.mi.ob
  obtain ⟨dy, b1, b2, b3, b4, hs⟩ := O.mi.se.ex
  exact ⟨ndT O.tp hq (fun _ e => by cases e), ndT hm hq (fun _ e => by cases e), ndT hs hq (fun _ e => by cases e), ndT O.li hq (fun _ e => by cases e)⟩
theorem One.offb {K : PySem.W.Frag} {H : Hp} {tbl t m sd d pl : Addr} {pat ring : Int} {ps : List Int} {f : Int → Str → Int} {n : Nat} (O : One K H tbl t m sd d pl pat ring ps f n) {p c : Addr} (B : Box H p c) :
    t ∉ [p] ∧ m ∉ [p] ∧ sd ∉ [p] ∧ pl ∉ [p] ∧ d ∉ [p] ∧ tbl ∉ [p] := by
  obtain ⟨dx, hm⟩ := O.mi.ob
  obtain ⟨dy, b1, b2, b3, b4, hs⟩ := O.mi.se.ex
  obtain ⟨k1, hd, -, -⟩ := O.ta.ex
  obtain ⟨k2, ht, -, -⟩ := O.tb.ex
  obtain ⟨ns, a, b, e, hp, -⟩ := B.ex
  have g : ∀ {x : Addr} {o : HO}, H x = some o → o ≠ .lst [.ref c, .int a, .int b, .int e] → x ∉ [p] := fun {x o} h z => by
    simpa using ne_of h hp z
  refine ⟨g O.tp (by intro z; cases z), g hm (by intro z; cases z), g hs (by intro z; cases z), g O.li (fun z => ?_), g hd (by intro z; cases z), g ht (by intro z; cases z)⟩
  injection z with z
  exact ne_ints (fun _ e => by cases e) _ z
theorem W.box {K : PySem.W.Frag} {H H' : Hp} {p c L1 L2 : Addr} {n : Nat} (w : W K H p c L1 L2 n) (B : Box H' p c) (k : Kp [p] H H') : W K H' p c L1 L2 n := by
  obtain ⟨bx, b1, t1, m1, s1, d1, l1, b2, t2, m2, s2, d2, l2, p1, r1, p2, r2, q1, q2, f1, f2, h1, h2, O1, O2, n1⟩ := w
  obtain ⟨ns, a, b, e, hp, -⟩ := bx.ex
  have e1 : L1 ≠ p := ne_of h1 hp (by intro z; cases z)
  have e2 : L2 ≠ p := ne_of h2 hp (by intro z; cases z)
  exact ⟨B, b1, t1, m1, s1, d1, l1, b2, t2, m2, s2, d2, l2, p1, r1, p2, r2, q1, q2, f1, f2, k.g1 e1 h1, k.g1 e2 h2, O1.kp k (O1.offb bx), O2.kp k (O2.offb bx), n1⟩
theorem Tab.up {K : PySem.W.Frag} {H : Hp} {tbl t m sd d pl : Addr} {pat ring : Int} {ps : List Int} {f : Int → Str → Int} {n n' : Nat} (O : One K H tbl t m sd d pl pat ring ps f n) (h : n ≤ n') : One K H tbl t m sd d pl pat ring ps f n' :=
  ⟨O.tp, O.mi, O.ta.mono h, O.tb.mono h, O.li, O.ne, O.ri, O.nd⟩
/-- the counter that is asked for, and the way back -/
theorem W.focus {K : PySem.W.Frag} {H : Hp} {p c L1 L2 : Addr} {n : Nat} (w : W K H p c L1 L2 n) {i : Int} (h0 : 0 ≤ i) (h1 : i < 2) :
    ∃ (xs ys : List V) (b t m s d l : Addr) (pa r : Int) (q : List Int) (f : Int → Str → Int), H L1 = some (.lst xs) ∧ atI xs i = some (.ref t) ∧ H L2 = some (.lst ys) ∧ atI ys i = some (.ref b) ∧ One K H b t m s d l pa r q f n ∧
      (∀ H' f' n', n ≤ n' → Kp [p, d, b] H H' → Box H' p c → MisAt K H' m s d pa → Tab H' d f' n' → Tab H' b f' n' → W K H' p c L1 L2 n') := by
  obtain ⟨bx, b1, t1, m1, s1, d1, l1, b2, t2, m2, s2, d2, l2, p1, r1, p2, r2, q1, q2, f1, f2, g1, g2, O1, O2, e1, e2, e3, e4⟩ := w
  obtain ⟨k1, hd1, -, -⟩ := O1.ta.ex
  obtain ⟨k2, hb1, -, -⟩ := O1.tb.ex
  obtain ⟨k3, hd2, -, -⟩ := O2.ta.ex
  obtain ⟨k4, hb2, -, -⟩ := O2.tb.ex
  obtain ⟨⟨ns, ca, cb, ce, hp, hc, hns⟩, hcp⟩ := id bx
  have a1 : L1 ≠ p := ne_of g1 hp (by intro z; cases z)
  have a2 : L2 ≠ p := ne_of g2 hp (by intro z; cases z)
  have f1' := O1.offb bx
  have f2' := O2.offb bx
  simp only [List.mem_singleton] at f1' f2'
  have off : ∀ {x : Addr} {o : HO} {qd qb : Addr} {kd kb : List (List Key × V)}, H qd = some (.dT kd) → H qb = some (.dT kb) → H x = some o → (∀ kvs, o ≠ .dT kvs) → x ≠ p → x ∉ [p, qd, qb] := fun {x o qd qb kd kb} u1 u2 u3 u4 u5 => by
    have v1 := ndT u3 u1 u4
    have v2 := ndT u3 u2 u4
    simp [v1, v2, u5]
  have : i = 0 ∨ i = 1 := by omega
  rcases this with rfl | rfl
  · refine ⟨_, _, b1, t1, m1, s1, d1, l1, p1, r1, q1, f1, g1, rfl, g2, rfl, O1, fun H' f' n' hn k B M T1 T2 => ?_⟩
    have o1 := O2.off hd1
    have o2 := O2.off hb1
    have o3 := O1.off hd1
    have o4 := O1.off hb1
    refine ⟨B, b1, t1, m1, s1, d1, l1, b2, t2, m2, s2, d2, l2, p1, r1, p2, r2, q1, q2, f', f2, k _ _ g1 (off hd1 hb1 g1 (fun _ e => by cases e) a1), k _ _ g2 (off hd1 hb1 g2 (fun _ e => by cases e) a2), ?_, Tab.up (O2.kp k ?_) hn, e1, e2, e3, e4⟩
    · exact ⟨k _ _ O1.tp (by simp [o3.1, o4.1, f1'.1]), M, T1, T2, k _ _ O1.li (by simp [o3.2.2.2, o4.2.2.2, f1'.2.2.2.1]), O1.ne, O1.ri, O1.nd⟩
    · exact ⟨by simp [o1.1, o2.1, f2'.1], by simp [o1.2.1, o2.2.1, f2'.2.1], by simp [o1.2.2.1, o2.2.2.1, f2'.2.2.1], by simp [o1.2.2.2, o2.2.2.2, f2'.2.2.2.1], by simp [Ne.symm e1, Ne.symm e3, f2'.2.2.2.2.1], by simp [Ne.symm e2, Ne.symm e4, f2'.2.2.2.2.2]⟩
  · refine ⟨_, _, b2, t2, m2, s2, d2, l2, p2, r2, q2, f2, g1, rfl, g2, rfl, O2, fun H' f' n' hn k B M T1 T2 => ?_⟩
    have o1 := O1.off hd2
    have o2 := O1.off hb2
    have o3 := O2.off hd2
    have o4 := O2.off hb2
    refine ⟨B, b1, t1, m1, s1, d1, l1, b2, t2, m2, s2, d2, l2, p1, r1, p2, r2, q1, q2, f1, f', k _ _ g1 (off hd2 hb2 g1 (fun _ e => by cases e) a1), k _ _ g2 (off hd2 hb2 g2 (fun _ e => by cases e) a2), Tab.up (O1.kp k ?_) hn, ?_, e1, e2, e3, e4⟩
    · exact ⟨by simp [o1.1, o2.1, f1'.1], by simp [o1.2.1, o2.2.1, f1'.2.1], by simp [o1.2.2.1, o2.2.2.1, f1'.2.2.1], by simp [o1.2.2.2, o2.2.2.2, f1'.2.2.2.1], by simp [e1, e2, f1'.2.2.2.2.1], by simp [e3, e4, f1'.2.2.2.2.2]⟩
    · exact ⟨k _ _ O2.tp (by simp [o3.1, o4.1, f2'.1]), M, T1, T2, k _ _ O2.li (by simp [o3.2.2.2, o4.2.2.2, f2'.2.2.2.1]), O2.ne, O2.ri, O2.nd⟩
/-- what a turn holds of its counter, from the heap Hf where it was asked for -/
structure Tn (K : PySem.W.Frag) (Hf H : Hp) (p c m s d b : Addr) (pa : Int) (f : Int → Str → Int) (n : Nat) : Prop where
  bx : Box H p c
  mi : MisAt K H m s d pa
  ta : Tab H d f n
  tb : Tab H b f n
  k : Kp [p, d, b] Hf H
section
variable {K : PySem.W.Frag} {Hf H H' : Hp} {p c m s d b : Addr} {pa : Int} {f f' : Int → Str → Int} {n n' : Nat}
theorem Tn.ne (S : Tn K Hf H p c m s d b pa f n) : m ≠ p ∧ s ≠ p ∧ d ≠ p ∧ b ≠ p ∧ m ≠ d ∧ m ≠ b ∧ s ≠ d ∧ s ≠ b ∧ c ≠ d ∧ c ≠ b := by
  obtain ⟨dx, hm⟩ := S.mi.ob
  obtain ⟨dy, b1, b2, b3, b4, hs⟩ := S.mi.se.ex
  obtain ⟨k1, hd, -, -⟩ := S.ta.ex
  obtain ⟨k2, hb, -, -⟩ := S.tb.ex
  obtain ⟨ns, x, y, z, hp, hc, -⟩ := S.bx.ex
  exact ⟨ne_of hm hp (by intro z; cases z), ne_of hs hp (by intro z; cases z), ne_of hd hp (by intro z; cases z), ne_of hb hp (by intro z; cases z), ndT hm hd (fun _ e => by cases e), ndT hm hb (fun _ e => by cases e),
    ndT hs hd (fun _ e => by cases e), ndT hs hb (fun _ e => by cases e), ndT hc hd (fun _ e => by cases e), ndT hc hb (fun _ e => by cases e)⟩
theorem Tn.draw (S : Tn K Hf H p c m s d b pa f n) (B : Box H' p c) (k : Kp [p] H H') : Tn K Hf H' p c m s d b pa f n := by
  obtain ⟨n1, n2, n3, n4, -⟩ := S.ne
  exact ⟨B, S.mi.kp k (by simpa using n1) (by simpa using n2), S.ta.kp k (by simpa using n3), S.tb.kp k (by simpa using n4), S.k.trans (k.mono (by simp))⟩
theorem Tn.k0 (S : Tn K Hf H p c m s d b pa f n) (k : Kp [] H H') : Tn K Hf H' p c m s d b pa f n :=
  ⟨S.bx.k0 k, S.mi.kp k (by simp) (by simp), S.ta.kp k (by simp), S.tb.kp k (by simp), S.k.trans k.of0⟩
theorem Tn.mut (S : Tn K Hf H p c m s d b pa f n) (k : Kp [d, b] H H') (T1 : Tab H' d f' n') (T2 : Tab H' b f' n') : Tn K Hf H' p c m s d b pa f' n' := by
  obtain ⟨n1, n2, n3, n4, n5, n6, n7, n8, n9, n10⟩ := S.ne
  exact ⟨S.bx.kp k (by simp [Ne.symm n3, Ne.symm n4]) (by simp [n9, n10]), S.mi.kp k (by simp [n5, n6]) (by simp [n7, n8]), T1, T2, S.k.trans (k.mono (by intro x hx; simp at hx ⊢; exact .inr hx))⟩
theorem Tn.up (S : Tn K Hf H p c m s d b pa f n) (h : n ≤ n') : Tn K Hf H p c m s d b pa f n' := ⟨S.bx, S.mi, S.ta.mono h, S.tb.mono h, S.k⟩
end

local macro_rules | `(tactic| walk_at "ne") => `(tactic| first
  | assumption
  | exact Ne.symm (by assumption)
  | ((refine' ne_of_none ?h ?n); (case n => assumption); (case h => walk_at "hp"))
  | ((refine' Ne.symm (ne_of_none ?h ?n)); (case n => assumption); (case h => walk_at "hp")))
local macro_rules | `(tactic| walk_at "hp") => `(tactic| first
  | assumption
  | exact upd_same
  | ((with_reducible refine' hu_ne ?n ?e); (case n => walk_at "ne"); (case e => walk_at "hp"))
  | ((with_reducible refine' Kp.g0 (by assumption) ?e); (case e => walk_at "hp"))
  | ((with_reducible refine' Kp.g1 (by assumption) ?n ?e); (case n => walk_at "ne"); (case e => walk_at "hp"))
  | ((with_reducible refine' Kp.g2 (by assumption) ?n ?m ?e); (case n => walk_at "ne"); (case m => walk_at "ne"); (case e => walk_at "hp"))
  | ((with_reducible refine' Kp.g3 (by assumption) ?n ?m ?l ?e); (case n => walk_at "ne"); (case m => walk_at "ne"); (case l => walk_at "ne"); (case e => walk_at "hp")))
local macro_rules | `(tactic| walk_at "sq") => `(tactic| first
  | assumption
  | walk_at "sqx"
  | exact SqL.of (by walk_at "hp")
  | exact SqT.of (by walk_at "hp"))
local macro_rules | `(tactic| walk_at "at") => `(tactic| first
  | exact rfl
  | assumption
  | exact atI_ints (by omega) (by omega))
local macro_rules | `(tactic| walk_at "cc") => `(tactic| first
  | assumption
  | exact rfl
  | decide
  | omega
  | exact ⟨by omega, by omega⟩
  | exact Or.inr ⟨by omega, by omega⟩
  | exact Or.inl ⟨by omega, by omega⟩
  | exact ⟨by decide, by decide, by decide⟩
  | exact ⟨by omega, by omega, by decide⟩)
local macro_rules | `(tactic| walk_at "sz") => `(tactic| first
  | assumption
  | exact szlt (by simp; omega)
  | exact szlt (by omega)
  | exact sz1000 (by simp)
  | exact sz1000 (by omega))
local macro_rules | `(tactic| walk_at "dg") => `(tactic| exact dg_is (by walk_at "hp") (by walk_at "hp"))
local macro_rules | `(tactic| walk_at "dp") => `(tactic| exact dp_is (by walk_at "hp") (by walk_at "hp") (by walk_at "sz"))
local macro_rules | `(tactic| walk_at "rd1") => `(tactic| first
  | with_reducible refine' rd_seq ?_
  | with_reducible refine' rd_asg ?_
  | ((with_reducible refine' rd_var ?e ?_); (case e => exact rfl))
  | with_reducible refine' rd_c ?_
  | with_reducible refine' rd_op ?_
  | with_reducible refine' rd_gname ?_
  | with_reducible refine' rd_CB ?_
  | with_reducible refine' rd_cons ?_
  | with_reducible refine' rd_nil ?_
  | with_reducible refine' rd_ret ?_
  | with_reducible refine' rd_drop ?_
  | with_reducible refine' rd_ifS ?_
  | with_reducible refine' rd_test ?_
  | with_reducible refine' rd_exb ?_
  | with_reducible refine' rd_call ?_
  | with_reducible refine' rd_I0 ?_
  | ((with_reducible refine' rd_I ?c ?_); (case c => walk_at "cc"))
  | ((with_reducible refine' rd_ixL ?h ?a ?_); (case h => walk_at "sq"); (case a => walk_at "at"))
  | ((with_reducible refine' rd_ixT ?h ?a ?_); (case h => walk_at "sq"); (case a => walk_at "at"))
  | with_reducible refine' rd_int1 ?_
  | with_reducible refine' rd_abs ?_
  | ((with_reducible refine' rd_lenI ?h ?_); (case h => walk_at "sq"))
  | ((with_reducible refine' rd_lenL ?h ?_); (case h => walk_at "sq"))
  | ((with_reducible refine' rd_lenT ?h ?_); (case h => walk_at "sq"))
  | with_reducible refine' rd_eqI ?_
  | with_reducible refine' rd_neI ?_
  | with_reducible refine' rd_eqS ?_
  | with_reducible refine' rd_neS ?_
  | with_reducible refine' rd_eqB ?_
  | with_reducible refine' rd_neB ?_
  | with_reducible refine' rd_and ?_
  | with_reducible refine' rd_or ?_
  | with_reducible refine' rd_not ?_
  | with_reducible refine' rd_tB ?_
  | with_reducible refine' rd_gsub ?_
  | ((with_reducible refine' rd_setL ?h ?j ?_); (case h => walk_at "hp"); (case j => exact rfl))
  | with_reducible refine' rd_next ?_
  | with_reducible refine' rd_un ?_
  | with_reducible refine' rd_U ?_
  | with_reducible refine' rd_tup ?_
  | with_reducible refine' rd_lst ?_
  | with_reducible refine' rd_bm ?_
  | with_reducible refine' rd_bm0 ?_
  | with_reducible refine' rd_meth ?_
  | with_reducible refine' rd_make ?_
  | with_reducible refine' rd_iTup ?_
  | ((with_reducible refine' rd_iTupX ?h ?_); (case h => walk_at "sq"))
  | with_reducible refine' rd_for ?_
  | with_reducible refine' rd_iList ?_
  | ((with_reducible refine' rd_iListX ?h ?_); (case h => walk_at "sq"))
  | with_reducible refine' rd_iRng1 ?_
  | ((with_reducible refine' rd_iRng1X ?h1 ?h2 ?_); (case h1 => walk_at "cc"); (case h2 => walk_at "cc"))
  | ((with_reducible refine' rd_iRng2X ?h1 ?_); (case h1 => exact ⟨by omega, by omega, by omega, by omega⟩))
  | with_reducible refine' rd_iRng2 ?_
  | with_reducible refine' rd_lc ?_
  | with_reducible refine' rd_yes ?_
  | with_reducible refine' rd_andV ?_
  | with_reducible refine' rd_orV ?_
  | with_reducible refine' rd_notV ?_
  | with_reducible refine' rd_ifE ?_
  | with_reducible refine' rd_isN ?_
  | with_reducible refine' rd_notN ?_
  | with_reducible refine' rd_min2 ?_
  | with_reducible refine' rd_max2 ?_
  | with_reducible refine' rd_retN ?_
  | with_reducible refine' rd_brk ?_
  | with_reducible refine' rd_cont ?_
  | with_reducible refine' rd_tfld ?_
  | ((with_reducible refine' rd_fldX ?h ?c ?n ?l ?_); (case h => walk_at "hp"); (case c => walk_at "cls"); (case n => walk_at "noat"); (case l => exact rfl))
  | with_reducible refine' rd_sfld ?_
  | ((with_reducible refine' rd_sfldX ?h ?c ?n ?l ?_); (case h => walk_at "hp"); (case c => walk_at "cls"); (case n => walk_at "noat"); (case l => first | decide | exact Nat.le_of_ble_eq_true rfl))
  | with_reducible refine' rd_tcon ?_
  | ((with_reducible refine' rd_conX ?h ?c ?n ?l ?_); (case h => walk_at "hp"); (case c => walk_at "cls"); (case n => walk_at "con"); (case l => exact rfl))
  | ((with_reducible refine' rd_methX ?h ?l ?_); (case h => walk_at "hp"); (case l => exact rfl))
  | with_reducible refine' rd_isi_ii ?_
  | with_reducible refine' rd_isi_ib ?_
  | with_reducible refine' rd_isi_bb ?_
  | with_reducible refine' rd_isi_bi ?_
  | with_reducible refine' rd_isi_ss ?_
  | ((with_reducible refine' rd_isi_ll ?h ?_); (case h => walk_at "hp"))
  | ((with_reducible refine' rd_isi_tt ?h ?_); (case h => walk_at "hp"))
  | with_reducible refine' iteT ?_
  | with_reducible refine' iteF ?_
  | with_reducible refine' ite_nt ?_
  | with_reducible refine' ite_nf ?_
  | with_reducible refine' ite_in ?_
  | with_reducible refine' ite_rn ?_
  | with_reducible refine' ite_sn ?_
  | with_reducible refine' ite_bn ?_
  | with_reducible refine' ite_nn ?_
  | with_reducible refine' ite_xin ?_
  | with_reducible refine' ite_xrn ?_
  | with_reducible refine' ite_xnn ?_
  | with_reducible refine' rd_dget2 ?_
  | ((with_reducible refine' rd_isdX ?h ?_); (case h => first | exact isD_T (by walk_at "hp") | exact isD_K (by walk_at "hp")))
  | ((with_reducible refine' rd_dgX ?h ?_); (case h => walk_at "dg"))
  | with_reducible refine' rd_sdput ?_
  | ((with_reducible refine' rd_dpX ?h ?_); (case h => walk_at "dp"))
  | ((with_reducible refine' ty_l ?h ?_); (case h => walk_at "sq"))
  | ((with_reducible refine' ty_d ?h ?_); (case h => walk_at "hp"))
  | ((with_reducible refine' ty_dK ?h ?_); (case h => walk_at "hp"))
  | ((with_reducible refine' rd_append ?h ?l ?_); (case h => walk_at "hp"); (case l => walk_at "sz"))
  | with_reducible refine' rd_lstRg ?_
  | with_reducible refine' rd_rg1 ?_
  | with_reducible refine' rd_rg2 ?_
  | with_reducible refine' rd_inX ?_
  | with_reducible refine' rd_inX2 ?_
  | ((with_reducible refine' rd_listL ?h ?_); (case h => walk_at "sq"))
  | ((with_reducible refine' rd_gtup ?h ?l ?_); (case h => walk_at "sq"); (case l => exact rfl))
  | with_reducible refine' rd_gcons ?_
  | with_reducible refine' rd_gnil ?_)
local macro_rules | `(tactic| walk_at "rd") => `(tactic| repeat walk_at "rd1")
local macro_rules | `(tactic| walk_at "hn") => `(tactic| first
  | assumption
  | ((with_reducible refine' hn_ne ?n ?e); (case n => walk_at "ne"); (case e => walk_at "hn"))
  | ((refine' Kp.back (by assumption) ?e ?n); (case e => assumption); (case n => first | assumption | (simp; done))))
local macro_rules | `(tactic| walk_at "mem") => `(tactic| first | assumption | (simp; done) | (simp only [List.mem_cons, List.not_mem_nil, or_false, not_or]; first | assumption | exact ⟨by walk_at "ne", by walk_at "ne"⟩ | walk_at "ne"))
local macro_rules | `(tactic| walk_at "kp") => `(tactic| first
  | exact Kp.refl
  | assumption
  | exact Kp.of0 (by assumption)
  | ((with_reducible refine' Kp.wr ?a ?h); (case h => (simp; done)); (case a => walk_at "kp"))
  | ((with_reducible refine' Kp.nw ?a ?h); (case h => walk_at "hn"); (case a => walk_at "kp"))
  | ((with_reducible refine' Kp.mine ?a ?h); (case h => walk_at "hn"); (case a => walk_at "kp"))
  | ((with_reducible refine' Kp.via1 ?a ?b ?n); (case b => assumption); (case n => walk_at "hn"); (case a => walk_at "kp"))
  | ((with_reducible refine' Kp.trans ?a ?b); (case b => first | assumption | exact Kp.of0 (by assumption)); (case a => walk_at "kp")))

local macro_rules | `(tactic| walk_at "sqx") => `(tactic| exact tup_KINDS (by assumption) _)
local macro_rules | `(tactic| walk_at "con") => `(tactic| first | exact con_b (by assumption) | exact con_p (by assumption) | exact con_r (by assumption) | exact con_g (by assumption) | exact con_h (by assumption))
local macro_rules | `(tactic| walk_at "cls") => `(tactic| first | exact cl_Misses (by assumption) | exact cl_Setting (by assumption))
local macro_rules | `(tactic| walk_at "noat") => `(tactic| first | exact na_Misses__setting (by assumption) | exact na_Misses__counts (by assumption) | exact na_Setting_bits (by assumption) | exact na_Setting_patience (by assumption) | exact na_Setting_room (by assumption) | exact na_Setting_grace (by assumption) | exact na_Setting_helpers (by assumption))
section
variable {P : Program} {w : World} {K : PySem.W.Frag} {mg : Str → Option Value} {base : Heap}
def sp_l_box (K : PySem.W.Frag) : Sp := fun vs H Q E => ∃ (a : Addr) (ns : List Int), vs = [.ref a] ∧ (SqL K H a (ns.map V.int)) ∧ (ns.length ≤ 63) ∧ (∀ p c H1, Box H1 p c → Kp [] H H1 → H p = none → H c = none → Q (.ref p) H1)
theorem us_l_box {K : PySem.W.Frag} {H : Hp} {Q : VK} {E : XK} {a : Addr} {ns : List Int} (hS : SqL K H a (ns.map V.int)) (hl : ns.length ≤ 63) (kk : ∀ p c H1, Box H1 p c → Kp [] H H1 → H p = none → H c = none → Q (.ref p) H1) : sp_l_box K [.ref a] H Q E := ⟨_, _, rfl, hS, hl, kk⟩
theorem f_l_box (T : Cx K mg) : ∃ fd, FunD K "_law_box" "_law_box" (defArgs s_l_box) (defBody s_l_box) (defScope s_l_box) (d_l_box.dvs K) (d_l_box.kws K) (fAd K d_l_box.at_) fd ∧ FnOk P w K mg base CX0 1 (fAd K d_l_box.at_) fd p_l_box (sp_l_box K) := by
  obtain ⟨fd, F⟩ := T.says.def_ 0 (d := d_l_box) rfl
  refine ⟨fd, F, fnD F sc_l_box (fun vs H Q E h => by
    obtain ⟨_, _, rfl, _⟩ := h
    rfl) fun cdv A outer s H vs Q E hr h => ?_⟩
  have hu := hu_of hr
  obtain ⟨a, ns, rfl, hS, hl, kk⟩ := h
  refine ⟨_, (pss_cons (ps_setLc (i := 1) (own := [("_law_cell", 2)]) (g := (gName 2)) (tt := tYes) rfl sc_l_box.nd rfl rfl (sw_true rfl rfl rfl (by decide +kernel)) (pi_list (pv 0)) (blkOk_by (own := [("_law_cell", 2)]) (N := n_l_box) (sc := defScope s_l_box) (by decide +kernel)) (fun _ _ _ _ _ => (pg_name (i := 2) sc_l_box.nd rfl (by first | exact Or.inl rfl | exact Or.inr rfl))) (fun _ _ _ _ _ => pts_nil) (fun _ _ _ _ _ => (pe_callTy call_int1' (by rfl) (fr_int T) (by decide +kernel) (pa_cons (pv 2) pa_nil)))) (pss_cons (ps_if (pt_cmpR op_eq (pe_callB call_lenS (by rfl) (fr_len T) (by decide +kernel) (pa_cons (pv 1) pa_nil)) pe_int (nomark _)) (pss_one (ps_set (i := 1) sc_l_box.nd rfl (by first | exact Or.inl rfl | exact Or.inr rfl) (pe_lst (pa_cons pe_int pa_nil)))) pss_nil) (pss_one (ps_ret (pe_lst (pa_cons (pv 1) (pa_cons pe_int (pa_cons pe_int (pa_cons pe_int pa_nil))))))))), ?_⟩
  rw [show L2.start n_l_box [.ref a] = [some (.ref a), none, none] from rfl]
  try dsimp only [cxOf, Cx.nox, Cx.wish, List.map]

  walk_at "rd"
  intro D hD
  refine lcL_ints ns (fun i H' => H' D = some (.lst ((ns.take i).map V.int)) ∧ Kp [] H H') ⟨upd_same, Kp.new hD⟩ (fun i H' _ p => sl_kp p.2 (by simp) hS) (fun i hi H' p => ?_) (fun H' p => ?_)
  · obtain ⟨p1, p2⟩ := p
    walk_at "rd"
    refine ⟨rfl, ?_⟩
    walk_at "rd"
    refine ⟨_, p1, szlt (by simp; omega), ?_, Kp.mine p2 hD⟩
    rw [upd_same, take_map_succ hi]
  · obtain ⟨p1, p2⟩ := p
    rw [List.take_length] at p1
    walk_at "rd"
    refine ite_d (fun h => ?_) (fun h => ?_)
    · walk_at "rd"
      refine ⟨sz1000 (by simp), fun c nc => ?_⟩
      walk_at "rd"
      refine ⟨sz1000 (by simp), fun p np => ?_⟩
      refine kk p c _ ⟨⟨[0], 0, 0, 0, upd_same, by walk_at "hp", by simp, by simp⟩, by walk_at "ne"⟩ ((p2.nw nc).nw np) ?_ ?_
      · exact Kp.back (p2.nw nc) np (by simp)
      · exact Kp.back p2 nc (by simp)
    · walk_at "rd"
      refine ⟨sz1000 (by simp), fun p np => ?_⟩
      refine kk p D _ ⟨⟨ns, 0, 0, 0, upd_same, by walk_at "hp", ?_, hl⟩, by walk_at "ne"⟩ (p2.nw np) ?_ hD
      · intro e
        subst e
        exact h rfl
      · exact Kp.back p2 np (by simp)
theorem c_l_box (T : Cx K mg) : CalX P w K mg base CX0 1 "_law_box" (sp_l_box K) [] := by
  obtain ⟨fd, F, ok⟩ := f_l_box (P := P) (w := w) (base := base) T
  exact ⟨_, fd, p_l_box, [], ok, gl_l_box T, F.kp, FunD.bindsN F fun _ _ _ _ _ _ us hl => match us, hl with | [_], _ => rfl, .nil⟩
end
section
variable {P : Program} {w : World} {K : PySem.W.Frag} {mg : Str → Option Value} {base : Heap}
def sp_l_draw (K : PySem.W.Frag) : Sp := fun vs H Q E => ∃ (p c : Addr) (top : Int), vs = [.ref p, .int top] ∧ (Box H p c) ∧ (0 < top) ∧ (top < 1073741824) ∧ (∀ n H1, 0 ≤ n → n < top → Box H1 p c → Kp [p] H H1 → Q (.int n) H1)
theorem us_l_draw {K : PySem.W.Frag} {H : Hp} {Q : VK} {E : XK} {p c : Addr} {top : Int} (hB : Box H p c) (ht0 : 0 < top) (ht1 : top < 1073741824) (kk : ∀ n H1, 0 ≤ n → n < top → Box H1 p c → Kp [p] H H1 → Q (.int n) H1) : sp_l_draw K [.ref p, .int top] H Q E := ⟨_, _, _, rfl, hB, ht0, ht1, kk⟩
theorem f_l_draw (T : Cx K mg) : ∃ fd, FunD K "_law_draw" "_law_draw" (defArgs s_l_draw) (defBody s_l_draw) (defScope s_l_draw) (d_l_draw.dvs K) (d_l_draw.kws K) (fAd K d_l_draw.at_) fd ∧ FnOk P w K mg base CX0 1 (fAd K d_l_draw.at_) fd p_l_draw (sp_l_draw K) := by
  obtain ⟨fd, F⟩ := T.says.def_ 1 (d := d_l_draw) rfl
  refine ⟨fd, F, fnD F sc_l_draw (fun vs H Q E h => by
    obtain ⟨_, _, _, rfl, _⟩ := h
    rfl) fun cdv A outer s H vs Q E hr h => ?_⟩
  have hu := hu_of hr
  obtain ⟨p, c, top, rfl, hB, ht0, ht1, kk⟩ := h
  refine ⟨_, (pss_cons (ps_asg (pe_op op_add (pe_callTy call_int1' (by rfl) (fr_int T) (by decide +kernel) (pa_cons (pe_ix ix_list (pv 0) pe_int (fun _ _ => rfl)) pa_nil)) pe_int) (pg_sub (pv 0) pe_int set_list)) (pss_cons (ps_if (pt_cmpR op_gt (pe_ix ix_list (pv 0) pe_int (fun _ _ => rfl)) pe_int (nomark _)) (pss_cons (ps_set (i := 2) sc_l_draw.nd rfl (by first | exact Or.inl rfl | exact Or.inr rfl) (pe_op op_mod (pe_callTy call_int1' (by rfl) (fr_int T) (by decide +kernel) (pa_cons (pe_ix ix_list (pv 0) pe_int (fun _ _ => rfl)) pa_nil)) (pv 1))) (pss_cons (ps_asg (pe_op op_fdiv (pe_callTy call_int1' (by rfl) (fr_int T) (by decide +kernel) (pa_cons (pe_ix ix_list (pv 0) pe_int (fun _ _ => rfl)) pa_nil)) (pv 1)) (pg_sub (pv 0) pe_int set_list)) (pss_one (ps_ret (pv 2))))) pss_nil) (pss_cons (ps_set (i := 3) sc_l_draw.nd rfl (by first | exact Or.inl rfl | exact Or.inr rfl) (pe_ix ix_list (pv 0) pe_int (fun _ _ => rfl))) (pss_cons (ps_set (i := 4) sc_l_draw.nd rfl (by first | exact Or.inl rfl | exact Or.inr rfl) (pe_callTy call_int1' (by rfl) (fr_int T) (by decide +kernel) (pa_cons (pe_ix ix_list (pv 0) pe_int (fun _ _ => rfl)) pa_nil))) (pss_cons (ps_asg (pe_op op_add (pv 4) pe_int) (pg_sub (pv 0) pe_int set_list)) (pss_cons (ps_set (i := 5) sc_l_draw.nd rfl (by first | exact Or.inl rfl | exact Or.inr rfl) (pe_callTy call_int1' (by rfl) (fr_int T) (by decide +kernel) (pa_cons (pe_ix ix_list (pv 3) (pe_op op_mod (pv 4) (pe_callB call_lenS (by rfl) (fr_len T) (by decide +kernel) (pa_cons (pv 3) pa_nil))) (fun _ _ => rfl)) pa_nil))) (pss_cons (ps_if (PW.pt (pw_and (pt_cmpR op_lt (pv 4) (pe_callB call_lenS (by rfl) (fr_len T) (by decide +kernel) (pa_cons (pv 3) pa_nil)) (nomark _)) (pw_and1 (pt_cmpR op_ge (pe_callB call_abs' (by rfl) (fr_abs T) (by decide +kernel) (pa_cons (pv 5) pa_nil)) (pe_op op_pow pe_int pe_int) (nomark _))))) (pss_cons (ps_asg (pe_op op_fdiv (pe_callB call_abs' (by rfl) (fr_abs T) (by decide +kernel) (pa_cons (pv 5) pa_nil)) (pv 1)) (pg_sub (pv 0) pe_int set_list)) (pss_one (ps_ret (pe_op op_mod (pe_callTy call_int1' (by rfl) (fr_int T) (by decide +kernel) (pa_cons (pe_callB call_abs' (by rfl) (fr_abs T) (by decide +kernel) (pa_cons (pv 5) pa_nil)) pa_nil)) (pv 1))))) pss_nil) (pss_cons (ps_set (i := 6) sc_l_draw.nd rfl (by first | exact Or.inl rfl | exact Or.inr rfl) (pe_op op_mod (pe_callTy call_int1' (by rfl) (fr_int T) (by decide +kernel) (pa_cons (pe_op op_add (pe_op op_add (pe_op op_mul (pv 5) pe_int) (pe_op op_mul (pe_ix ix_list (pv 0) pe_int (fun _ _ => rfl)) pe_int)) pe_int) pa_nil)) pe_int)) (pss_cons (ps_set (i := 6) sc_l_draw.nd rfl (by first | exact Or.inl rfl | exact Or.inr rfl) (pe_op op_mod (pe_callTy call_int1' (by rfl) (fr_int T) (by decide +kernel) (pa_cons (pe_op op_add (pe_op op_mul (pv 6) (pv 6)) (pe_op op_mul (pe_ix ix_list (pv 0) pe_int (fun _ _ => rfl)) pe_int)) pa_nil)) pe_int)) (pss_cons (ps_set (i := 6) sc_l_draw.nd rfl (by first | exact Or.inl rfl | exact Or.inr rfl) (pe_op op_mod (pe_callTy call_int1' (by rfl) (fr_int T) (by decide +kernel) (pa_cons (pe_op op_add (pe_op op_mul (pv 6) (pv 6)) (pe_op op_fdiv (pv 6) pe_int)) pa_nil)) pe_int)) (pss_one (ps_ret (pe_op op_mod (pe_callTy call_int1' (by rfl) (fr_int T) (by decide +kernel) (pa_cons (pe_op op_fdiv (pv 6) pe_int) pa_nil)) (pv 1)))))))))))))), ?_⟩
  rw [show L2.start n_l_draw [.ref p, .int top] = [some (.ref p), some (.int top), none, none, none, none, none] from rfl]
  try dsimp only [cxOf, Cx.nox, Cx.wish, List.map]

  obtain ⟨⟨ns, a, b, d, h1, h2, h3, h4⟩, ne⟩ := hB
  have hl : 0 < ns.length := List.length_pos_iff.mpr h3
  have m1 := Int.emod_nonneg a (show (ns.length : Int) ≠ 0 by omega)
  have m2 := Int.emod_lt_of_pos a (show (0 : Int) < ns.length by omega)
  walk_at "rd"
  refine ite_d (fun h => ?_) (fun h => ?_)
  · walk_at "rd"
    exact kk _ _ (Int.emod_nonneg _ (by omega)) (Int.emod_lt_of_pos _ ht0) ⟨⟨ns, a, _, _, upd_same, by walk_at "hp", h3, h4⟩, ne⟩ ((Kp.refl.wr (by simp)).wr (by simp))
  · walk_at "rd"
    refine ite_d (fun h5 => ?_) (fun h5 => ?_)
    · walk_at "rd"
      refine ite_d (fun h6 => ?_) (fun h6 => ?_)
      · walk_at "rd"
        exact kk _ _ (Int.emod_nonneg _ (by omega)) (Int.emod_lt_of_pos _ ht0) ⟨⟨ns, _, _, _, upd_same, by walk_at "hp", h3, h4⟩, ne⟩ (((Kp.refl.wr (by simp)).wr (by simp)).wr (by simp))
      · walk_at "rd"
        exact kk _ _ (Int.emod_nonneg _ (by omega)) (Int.emod_lt_of_pos _ ht0) ⟨⟨ns, _, _, _, upd_same, by walk_at "hp", h3, h4⟩, ne⟩ ((Kp.refl.wr (by simp)).wr (by simp))
    · walk_at "rd"
      exact kk _ _ (Int.emod_nonneg _ (by omega)) (Int.emod_lt_of_pos _ ht0) ⟨⟨ns, _, _, _, upd_same, by walk_at "hp", h3, h4⟩, ne⟩ ((Kp.refl.wr (by simp)).wr (by simp))
theorem c_l_draw (T : Cx K mg) : CalX P w K mg base CX0 1 "_law_draw" (sp_l_draw K) [] := by
  obtain ⟨fd, F, ok⟩ := f_l_draw (P := P) (w := w) (base := base) T
  exact ⟨_, fd, p_l_draw, [], ok, gl_l_draw T, F.kp, FunD.bindsN F fun _ _ _ _ _ _ us hl => match us, hl with | [_, _], _ => rfl, .nil⟩
end
section
variable {P : Program} {w : World} {K : PySem.W.Frag} {mg : Str → Option Value} {base : Heap}
def sp_l_bits (K : PySem.W.Frag) : Sp := fun vs H Q E => ∃ (p c : Addr), vs = [.ref p] ∧ (Box H p c) ∧ (∀ n H1, 1 ≤ n → n ≤ 8 → Box H1 p c → Kp [p] H H1 → Q (.int n) H1)
theorem us_l_bits {K : PySem.W.Frag} {H : Hp} {Q : VK} {E : XK} {p c : Addr} (hB : Box H p c) (kk : ∀ n H1, 1 ≤ n → n ≤ 8 → Box H1 p c → Kp [p] H H1 → Q (.int n) H1) : sp_l_bits K [.ref p] H Q E := ⟨_, _, rfl, hB, kk⟩
theorem f_l_bits (T : Cx K mg) : ∃ fd, FunD K "_law_bits" "_law_bits" (defArgs s_l_bits) (defBody s_l_bits) (defScope s_l_bits) (d_l_bits.dvs K) (d_l_bits.kws K) (fAd K d_l_bits.at_) fd ∧ FnOk P w K mg base CX0 2 (fAd K d_l_bits.at_) fd p_l_bits (sp_l_bits K) := by
  have c_l_draw := c_l_draw (P := P) (w := w) (base := base) T
  obtain ⟨fd, F⟩ := T.says.def_ 2 (d := d_l_bits) rfl
  refine ⟨fd, F, fnD F sc_l_bits (fun vs H Q E h => by
    obtain ⟨_, _, rfl, _⟩ := h
    rfl) fun cdv A outer s H vs Q E hr h => ?_⟩
  have hu := hu_of hr
  obtain ⟨p, c, rfl, hB, kk⟩ := h
  refine ⟨_, (pss_cons (ps_set (i := 1) sc_l_bits.nd rfl (by first | exact Or.inl rfl | exact Or.inr rfl) (pe_cal c_l_draw hr (by decide) (by rfl) pass0 (pa_cons (pv 0) (pa_cons pe_int pa_nil)))) (pss_cons (ps_if (pt_cmpR op_lt (pv 1) pe_int (nomark _)) (pss_one (ps_ret pe_int)) pss_nil) (pss_cons (ps_if (pt_cmpR op_lt (pv 1) pe_int (nomark _)) (pss_one (ps_ret pe_int)) pss_nil) (pss_one (ps_ret (pe_op op_add pe_int (pe_cal c_l_draw hr (by decide) (by rfl) pass0 (pa_cons (pv 0) (pa_cons pe_int pa_nil))))))))), ?_⟩
  rw [show L2.start n_l_bits [.ref p] = [some (.ref p), none] from rfl]
  try dsimp only [cxOf, Cx.nox, Cx.wish, List.map]

  walk_at "rd"
  refine us_l_draw hB (by decide) (by decide) fun n H1 n0 n1 B1 k1 => ?_
  walk_at "rd"
  refine ite_d (fun h => ?_) (fun h => ?_)
  · walk_at "rd"
    exact kk _ _ (by decide) (by decide) B1 k1
  · walk_at "rd"
    refine ite_d (fun h => ?_) (fun h => ?_)
    · walk_at "rd"
      exact kk _ _ (by decide) (by decide) B1 k1
    · walk_at "rd"
      refine us_l_draw B1 (by decide) (by decide) fun n2 H2 n20 n21 B2 k2 => ?_
      walk_at "rd"
      exact kk _ _ (by omega) (by omega) B2 (k1.trans k2)
theorem c_l_bits (T : Cx K mg) : CalX P w K mg base CX0 2 "_law_bits" (sp_l_bits K) [] := by
  obtain ⟨fd, F, ok⟩ := f_l_bits (P := P) (w := w) (base := base) T
  exact ⟨_, fd, p_l_bits, [], ok, gl_l_bits T, F.kp, FunD.bindsN F fun _ _ _ _ _ _ us hl => match us, hl with | [_], _ => rfl, .nil⟩
end
section
variable {P : Program} {w : World} {K : PySem.W.Frag} {mg : Str → Option Value} {base : Heap}
def sp_l_patience (K : PySem.W.Frag) : Sp := fun vs H Q E => ∃ (p c : Addr), vs = [.ref p] ∧ (Box H p c) ∧ (∀ n H1, 1 ≤ n → n ≤ 6 → Box H1 p c → Kp [p] H H1 → Q (.int n) H1)
theorem us_l_patience {K : PySem.W.Frag} {H : Hp} {Q : VK} {E : XK} {p c : Addr} (hB : Box H p c) (kk : ∀ n H1, 1 ≤ n → n ≤ 6 → Box H1 p c → Kp [p] H H1 → Q (.int n) H1) : sp_l_patience K [.ref p] H Q E := ⟨_, _, rfl, hB, kk⟩
theorem f_l_patience (T : Cx K mg) : ∃ fd, FunD K "_law_patience" "_law_patience" (defArgs s_l_patience) (defBody s_l_patience) (defScope s_l_patience) (d_l_patience.dvs K) (d_l_patience.kws K) (fAd K d_l_patience.at_) fd ∧ FnOk P w K mg base CX0 2 (fAd K d_l_patience.at_) fd p_l_patience (sp_l_patience K) := by
  have c_l_draw := c_l_draw (P := P) (w := w) (base := base) T
  obtain ⟨fd, F⟩ := T.says.def_ 3 (d := d_l_patience) rfl
  refine ⟨fd, F, fnD F sc_l_patience (fun vs H Q E h => by
    obtain ⟨_, _, rfl, _⟩ := h
    rfl) fun cdv A outer s H vs Q E hr h => ?_⟩
  have hu := hu_of hr
  obtain ⟨p, c, rfl, hB, kk⟩ := h
  refine ⟨_, (pss_cons (ps_set (i := 1) sc_l_patience.nd rfl (by first | exact Or.inl rfl | exact Or.inr rfl) (pe_cal c_l_draw hr (by decide) (by rfl) pass0 (pa_cons (pv 0) (pa_cons pe_int pa_nil)))) (pss_cons (ps_if (pt_cmpR op_lt (pv 1) pe_int (nomark _)) (pss_one (ps_ret pe_int)) pss_nil) (pss_cons (ps_if (pt_cmpR op_lt (pv 1) pe_int (nomark _)) (pss_one (ps_ret pe_int)) pss_nil) (pss_one (ps_ret (pe_op op_add pe_int (pe_cal c_l_draw hr (by decide) (by rfl) pass0 (pa_cons (pv 0) (pa_cons pe_int pa_nil))))))))), ?_⟩
  rw [show L2.start n_l_patience [.ref p] = [some (.ref p), none] from rfl]
  try dsimp only [cxOf, Cx.nox, Cx.wish, List.map]

  walk_at "rd"
  refine us_l_draw hB (by decide) (by decide) fun n H1 n0 n1 B1 k1 => ?_
  walk_at "rd"
  refine ite_d (fun h => ?_) (fun h => ?_)
  · walk_at "rd"
    exact kk _ _ (by decide) (by decide) B1 k1
  · walk_at "rd"
    refine ite_d (fun h => ?_) (fun h => ?_)
    · walk_at "rd"
      exact kk _ _ (by decide) (by decide) B1 k1
    · walk_at "rd"
      refine us_l_draw B1 (by decide) (by decide) fun n2 H2 n20 n21 B2 k2 => ?_
      walk_at "rd"
      exact kk _ _ (by omega) (by omega) B2 (k1.trans k2)
theorem c_l_patience (T : Cx K mg) : CalX P w K mg base CX0 2 "_law_patience" (sp_l_patience K) [] := by
  obtain ⟨fd, F, ok⟩ := f_l_patience (P := P) (w := w) (base := base) T
  exact ⟨_, fd, p_l_patience, [], ok, gl_l_patience T, F.kp, FunD.bindsN F fun _ _ _ _ _ _ us hl => match us, hl with | [_], _ => rfl, .nil⟩
end
section
variable {P : Program} {w : World} {K : PySem.W.Frag} {mg : Str → Option Value} {base : Heap}
def sp_whole (K : PySem.W.Frag) : Sp := fun vs H Q E => ∃ (v lo hi : Int), vs = [.int v, .int lo, .int hi] ∧ (Q (.bl (decide (lo ≤ v) && decide (v ≤ hi))) H)
theorem us_whole {K : PySem.W.Frag} {H : Hp} {Q : VK} {E : XK} {v lo hi : Int}  (kk : Q (.bl (decide (lo ≤ v) && decide (v ≤ hi))) H) : sp_whole K [.int v, .int lo, .int hi] H Q E := ⟨_, _, _, rfl, kk⟩
theorem f_whole (T : Cx K mg) : ∃ fd, FunD K "whole" "whole" (defArgs s_whole) (defBody s_whole) (defScope s_whole) (d_whole.dvs K) (d_whole.kws K) (fAd K d_whole.at_) fd ∧ FnOk P w K mg base CX0 1 (fAd K d_whole.at_) fd p_whole (sp_whole K) := by
  obtain ⟨fd, F⟩ := T.says.def_ 4 (d := d_whole) rfl
  refine ⟨fd, F, fnD F sc_whole (fun vs H Q E h => by
    obtain ⟨_, _, _, rfl, _⟩ := h
    rfl) fun cdv A outer s H vs Q E hr h => ?_⟩
  have hu := hu_of hr
  obtain ⟨v, lo, hi, rfl, kk⟩ := h
  refine ⟨_, (pss_cons (ps_if (PW.pt (pw_or (pt_not (pt_val (pe_callB call_isi (by rfl) (fr_isinstance T) (by decide +kernel) (pa_cons (pv 0) (pa_cons (pe_bltn (v := .ty "int") (by rfl) (fr_int T) (by decide +kernel) rfl) pa_nil))))) (pw_or1 (pt_val (pe_callB call_isi (by rfl) (fr_isinstance T) (by decide +kernel) (pa_cons (pv 0) (pa_cons (pe_bltn (v := .ty "bool") (by rfl) (fr_bool T) (by decide +kernel) rfl) pa_nil))))))) (pss_one (ps_ret pe_bl)) pss_nil) (pss_one (ps_ret (pe_and (pe_cmpR op_le (pv 1) (pv 0) (nomark _)) (pe_one (pe_or (pe_cmp (pc_isN (pv 2))) (pe_one (pe_cmpR op_le (pv 0) (pv 2) (nomark _))))))))), ?_⟩
  rw [show L2.start n_whole [.int v, .int lo, .int hi] = [some (.int v), some (.int lo), some (.int hi)] from rfl]
  try dsimp only [cxOf, Cx.nox, Cx.wish, List.map]

  walk_at "rd"
  refine ite_d (fun h => ?_) (fun h => ?_)
  · walk_at "rd"
    rw [decide_eq_true h, Bool.true_and] at kk
    exact kk
  · rw [decide_eq_false h, Bool.false_and] at kk
    exact kk
theorem c_whole (T : Cx K mg) : CalX P w K mg base CX0 1 "whole" (sp_whole K) [] := by
  obtain ⟨fd, F, ok⟩ := f_whole (P := P) (w := w) (base := base) T
  exact ⟨_, fd, p_whole, [], ok, gl_whole T, F.kp, FunD.bindsN F fun _ _ _ _ _ _ us hl => match us, hl with | [_, _, _], _ => rfl, .nil⟩
end
section
variable {P : Program} {w : World} {K : PySem.W.Frag} {mg : Str → Option Value} {base : Heap}
def sp_Setting_init (K : PySem.W.Frag) : Sp := fun vs H Q E => ∃ (p dx : Addr) (bits pat room grace hel : Int), vs = [.ref p, .int bits, .int pat, .int room, .int grace, .int hel] ∧ (H p = some (.ins (ga K "Setting") dx [])) ∧ (1 ≤ bits ∧ bits ≤ 8) ∧ (1 ≤ pat ∧ pat ≤ 6) ∧ (1 ≤ room ∧ room ≤ 64) ∧ (1 ≤ grace ∧ grace ≤ 200) ∧ (0 ≤ hel ∧ hel ≤ 3) ∧ (∀ H1, SetAt K H1 p pat → Kp [p] H H1 → Q .non H1)
theorem us_Setting_init {K : PySem.W.Frag} {H : Hp} {Q : VK} {E : XK} {p dx : Addr} {bits pat room grace hel : Int} (hp : H p = some (.ins (ga K "Setting") dx [])) (b1 : 1 ≤ bits ∧ bits ≤ 8) (b2 : 1 ≤ pat ∧ pat ≤ 6) (b3 : 1 ≤ room ∧ room ≤ 64) (b4 : 1 ≤ grace ∧ grace ≤ 200) (b5 : 0 ≤ hel ∧ hel ≤ 3) (kk : ∀ H1, SetAt K H1 p pat → Kp [p] H H1 → Q .non H1) : sp_Setting_init K [.ref p, .int bits, .int pat, .int room, .int grace, .int hel] H Q E := ⟨_, _, _, _, _, _, _, rfl, hp, b1, b2, b3, b4, b5, kk⟩
theorem f_Setting_init (T : Cx K mg) : ∃ fd, FunD K "__init__" "Setting.__init__" (defArgs s_Setting_init) (defBody s_Setting_init) (defScope s_Setting_init) (d_Setting_init.dvs K) (d_Setting_init.kws K) (fAd K d_Setting_init.at_) fd ∧ FnOk P w K mg base CX0 2 (fAd K d_Setting_init.at_) fd p_Setting_init (sp_Setting_init K) := by
  have c_whole := c_whole (P := P) (w := w) (base := base) T
  obtain ⟨fd, F⟩ := T.says.def_ 5 (d := d_Setting_init) rfl
  refine ⟨fd, F, fnD F sc_Setting_init (fun vs H Q E h => by
    obtain ⟨_, _, _, _, _, _, _, rfl, _⟩ := h
    rfl) fun cdv A outer s H vs Q E hr h => ?_⟩
  have hu := hu_of hr
  obtain ⟨p, dx, bits, pat, room, grace, hel, rfl, hp, b1, b2, b3, b4, b5, kk⟩ := h
  refine ⟨_, (pss_cons (ps_if (pt_not (pt_val (pe_cal c_whole hr (by decide) (by rfl) pass0 (pa_cons (pv 1) (pa_cons pe_int (pa_cons (pe_con (pv 0) rfl) pa_nil)))))) (pss_one ps_never) pss_nil) (pss_cons (ps_if (pt_not (pt_val (pe_cal c_whole hr (by decide) (by rfl) pass0 (pa_cons (pv 2) (pa_cons pe_int (pa_cons (pe_con (pv 0) rfl) pa_nil)))))) (pss_one ps_never) pss_nil) (pss_cons (ps_if (pt_not (pt_val (pe_cal c_whole hr (by decide) (by rfl) pass0 (pa_cons (pv 3) (pa_cons pe_int (pa_cons (pe_con (pv 0) rfl) pa_nil)))))) (pss_one ps_never) pss_nil) (pss_cons (ps_if (pt_not (pt_val (pe_cal c_whole hr (by decide) (by rfl) pass0 (pa_cons (pv 4) (pa_cons pe_int (pa_cons (pe_con (pv 0) rfl) pa_nil)))))) (pss_one ps_never) pss_nil) (pss_cons (ps_if (pt_not (pt_val (pe_cal c_whole hr (by decide) (by rfl) pass0 (pa_cons (pv 5) (pa_cons pe_int (pa_cons (pe_con (pv 0) rfl) pa_nil)))))) (pss_one ps_never) pss_nil) (pss_cons (ps_fld (pv 0) (pv 1) rfl) (pss_cons (ps_fld (pv 0) (pv 2) rfl) (pss_cons (ps_fld (pv 0) (pv 3) rfl) (pss_cons (ps_fld (pv 0) (pv 4) rfl) (pss_one (ps_fld (pv 0) (pv 5) rfl))))))))))), ?_⟩
  rw [show L2.start n_Setting_init [.ref p, .int bits, .int pat, .int room, .int grace, .int hel] = [some (.ref p), some (.int bits), some (.int pat), some (.int room), some (.int grace), some (.int hel)] from rfl]
  try dsimp only [cxOf, Cx.nox, Cx.wish, List.map]

  walk_at "rd"
  refine us_whole ?_
  walk_at "rd"
  refine ite_f (by simp; omega) ?_
  walk_at "rd"
  refine us_whole ?_
  walk_at "rd"
  refine ite_f (by simp; omega) ?_
  walk_at "rd"
  refine us_whole ?_
  walk_at "rd"
  refine ite_f (by simp; omega) ?_
  walk_at "rd"
  refine us_whole ?_
  walk_at "rd"
  refine ite_f (by simp; omega) ?_
  walk_at "rd"
  refine us_whole ?_
  walk_at "rd"
  refine ite_f (by simp; omega) ?_
  walk_at "rd"
  exact kk _ ⟨dx, bits, room, grace, hel, upd_same⟩ (by walk_at "kp")
theorem c_Setting_init (T : Cx K mg) : MakX P w K mg base CX0 2 "Setting" (ga K "Setting") (sp_Setting_init K) [.int 6, .int 1] := by
  obtain ⟨fd, F, ok⟩ := f_Setting_init (P := P) (w := w) (base := base) T
  obtain ⟨ds, hv, hb⟩ := FunD.binds0 (ps := p_Setting_init) F 4 (fun e => by cases e) rfl fun _ _ _ _ _ _ us ks hu hk => match us, ks, hu, hk with | [_, _, _, _], [_, _], _, _ => ⟨_, _, _, _, _, _, rfl, rfl, ⟨_, _, _, _, _, _, rfl, rfl, rfl⟩⟩
  exact ⟨_, fd, p_Setting_init, ds, mk_Setting T, ok, gl_Setting T, hb, hv⟩
end
section
variable {P : Program} {w : World} {K : PySem.W.Frag} {mg : Str → Option Value} {base : Heap}
def sp_Misses_init (K : PySem.W.Frag) : Sp := fun vs H Q E => ∃ (p dx sd : Addr), vs = [.ref p, .ref sd] ∧ (H p = some (.ins (ga K "Misses") dx [])) ∧ (∀ d H1, H1 p = some (.ins (ga K "Misses") dx [(("_setting" : Str), .ref sd), (("_counts" : Str), .ref d)]) → H1 d = some (.dT []) → Kp [p] H H1 → H d = none → Q .non H1)
theorem us_Misses_init {K : PySem.W.Frag} {H : Hp} {Q : VK} {E : XK} {p dx sd : Addr} (hp : H p = some (.ins (ga K "Misses") dx [])) (kk : ∀ d H1, H1 p = some (.ins (ga K "Misses") dx [(("_setting" : Str), .ref sd), (("_counts" : Str), .ref d)]) → H1 d = some (.dT []) → Kp [p] H H1 → H d = none → Q .non H1) : sp_Misses_init K [.ref p, .ref sd] H Q E := ⟨_, _, _, rfl, hp, kk⟩
theorem f_Misses_init (T : Cx K mg) : ∃ fd, FunD K "__init__" "Misses.__init__" (defArgs s_Misses_init) (defBody s_Misses_init) (defScope s_Misses_init) (d_Misses_init.dvs K) (d_Misses_init.kws K) (fAd K d_Misses_init.at_) fd ∧ FnOk P w K mg base CX0 1 (fAd K d_Misses_init.at_) fd p_Misses_init (sp_Misses_init K) := by
  obtain ⟨fd, F⟩ := T.says.def_ 6 (d := d_Misses_init) rfl
  refine ⟨fd, F, fnD F sc_Misses_init (fun vs H Q E h => by
    obtain ⟨_, _, _, rfl, _⟩ := h
    rfl) fun cdv A outer s H vs Q E hr h => ?_⟩
  have hu := hu_of hr
  obtain ⟨p, dx, sd, rfl, hp, kk⟩ := h
  refine ⟨_, (pss_cons (ps_fld (pv 0) (pv 1) rfl) (pss_one (ps_fld (pv 0) pe_dnewT rfl))), ?_⟩
  rw [show L2.start n_Misses_init [.ref p, .ref sd] = [some (.ref p), some (.ref sd)] from rfl]
  try dsimp only [cxOf, Cx.nox, Cx.wish, List.map]

  walk_at "rd"
  intro d nd
  walk_at "rd"
  refine kk d _ upd_same ?_ ?_ ?_
  · walk_at "hp"
  · exact Kp.wr ((Kp.refl.wr (by simp)).nw nd) (by simp)
  · exact Kp.back (Kp.refl.wr (ps := [p]) (p := p) (by simp)) nd (by
      have : d ≠ p := by walk_at "ne"
      simpa using this)
theorem c_Misses_init (T : Cx K mg) : MakX P w K mg base CX0 1 "Misses" (ga K "Misses") (sp_Misses_init K) [] := by
  obtain ⟨fd, F, ok⟩ := f_Misses_init (P := P) (w := w) (base := base) T
  exact ⟨_, fd, p_Misses_init, [], mk_Misses T, ok, gl_Misses T, FunD.bindsN F fun _ _ _ _ _ _ us hl => match us, hl with | [_, _], _ => rfl, .nil⟩
end
section
variable {P : Program} {w : World} {K : PySem.W.Frag} {mg : Str → Option Value} {base : Heap}
def sp_Misses_count (K : PySem.W.Frag) : Sp := fun vs H Q E => ∃ (m sd d : Addr) (pat s : Int) (z : Str) (f : Int → Str → Int) (n : Nat), vs = [.ref m, .int s, .str z] ∧ (MisAt K H m sd d pat) ∧ (Tab H d f n) ∧ (∀ H1, Kp [] H H1 → Q (.int (f s z)) H1)
theorem us_Misses_count {K : PySem.W.Frag} {H : Hp} {Q : VK} {E : XK} {m sd d : Addr} {pat s : Int} {z : Str} {f : Int → Str → Int} {n : Nat} (hM : MisAt K H m sd d pat) (hT : Tab H d f n) (kk : ∀ H1, Kp [] H H1 → Q (.int (f s z)) H1) : sp_Misses_count K [.ref m, .int s, .str z] H Q E := ⟨_, _, _, _, _, _, _, _, rfl, hM, hT, kk⟩
theorem f_Misses_count (T : Cx K mg) : ∃ fd, FunD K "count" "Misses.count" (defArgs s_Misses_count) (defBody s_Misses_count) (defScope s_Misses_count) (d_Misses_count.dvs K) (d_Misses_count.kws K) (fAd K d_Misses_count.at_) fd ∧ FnOk P w K mg base CX0 1 (fAd K d_Misses_count.at_) fd p_Misses_count (sp_Misses_count K) := by
  obtain ⟨fd, F⟩ := T.says.def_ 7 (d := d_Misses_count) rfl
  refine ⟨fd, F, fnD F sc_Misses_count (fun vs H Q E h => by
    obtain ⟨_, _, _, _, _, _, _, _, rfl, _⟩ := h
    rfl) fun cdv A outer s H vs Q E hr h => ?_⟩
  have hu := hu_of hr
  obtain ⟨m, sd, d, pat, s, z, f, n, rfl, hM, hT, kk⟩ := h
  refine ⟨_, (pss_one (ps_ret (pe_dget2 hu (pe_fld (pv 0) rfl) (pe_tup (pa_cons (pv 1) (pa_cons (pv 2) pa_nil))) pe_int ⟨rfl, rfl, rfl, rfl⟩))), ?_⟩
  rw [show L2.start n_Misses_count [.ref m, .int s, .str z] = [some (.ref m), some (.int s), some (.str z)] from rfl]
  try dsimp only [cxOf, Cx.nox, Cx.wish, List.map]

  obtain ⟨⟨dx, hm⟩, -⟩ := hM
  obtain ⟨kvs, hd, hk, hf⟩ := hT
  walk_at "rd"
  refine ⟨sz1000 (by simp), fun b nb => ?_⟩
  walk_at "rd"
  rw [hf s z]
  exact kk _ (Kp.new nb)
theorem c_Misses_count (T : Cx K mg) : MetX P w K mg base CX0 1 (ga K "Misses") "count" (sp_Misses_count K) [] := by
  obtain ⟨fd, F, ok⟩ := f_Misses_count (P := P) (w := w) (base := base) T
  exact ⟨_, fd, p_Misses_count, [], cl_Misses T, mt_Misses_count T, ok, FunD.bindsN F fun _ _ _ _ _ _ us hl => match us, hl with | [_, _, _], _ => rfl, .nil⟩
end
section
variable {P : Program} {w : World} {K : PySem.W.Frag} {mg : Str → Option Value} {base : Heap}
def sp_Misses_miss (K : PySem.W.Frag) : Sp := fun vs H Q E => ∃ (m sd d : Addr) (pat s : Int) (z : Str) (f : Int → Str → Int) (n : Nat), vs = [.ref m, .int s, .str z] ∧ (MisAt K H m sd d pat) ∧ (Tab H d f n) ∧ (n < 100000) ∧ (∀ H1, MisAt K H1 m sd d pat → Tab H1 d (set2 f s z (if pat ≤ f s z + 1 then 0 else f s z + 1)) (n + 1) → Kp [d] H H1 → Q (.bl (decide (pat ≤ f s z + 1))) H1)
theorem us_Misses_miss {K : PySem.W.Frag} {H : Hp} {Q : VK} {E : XK} {m sd d : Addr} {pat s : Int} {z : Str} {f : Int → Str → Int} {n : Nat} (hM : MisAt K H m sd d pat) (hT : Tab H d f n) (hn : n < 100000) (kk : ∀ H1, MisAt K H1 m sd d pat → Tab H1 d (set2 f s z (if pat ≤ f s z + 1 then 0 else f s z + 1)) (n + 1) → Kp [d] H H1 → Q (.bl (decide (pat ≤ f s z + 1))) H1) : sp_Misses_miss K [.ref m, .int s, .str z] H Q E := ⟨_, _, _, _, _, _, _, _, rfl, hM, hT, hn, kk⟩
theorem f_Misses_miss (T : Cx K mg) : ∃ fd, FunD K "miss" "Misses.miss" (defArgs s_Misses_miss) (defBody s_Misses_miss) (defScope s_Misses_miss) (d_Misses_miss.dvs K) (d_Misses_miss.kws K) (fAd K d_Misses_miss.at_) fd ∧ FnOk P w K mg base CX0 2 (fAd K d_Misses_miss.at_) fd p_Misses_miss (sp_Misses_miss K) := by
  have c_Misses_count := c_Misses_count (P := P) (w := w) (base := base) T
  obtain ⟨fd, F⟩ := T.says.def_ 8 (d := d_Misses_miss) rfl
  refine ⟨fd, F, fnD F sc_Misses_miss (fun vs H Q E h => by
    obtain ⟨_, _, _, _, _, _, _, _, rfl, _⟩ := h
    rfl) fun cdv A outer s H vs Q E hr h => ?_⟩
  have hu := hu_of hr
  obtain ⟨m, sd, d, pat, s, z, f, n, rfl, hM, hT, hn, kk⟩ := h
  refine ⟨_, (pss_cons (ps_set (i := 3) sc_Misses_miss.nd rfl (by first | exact Or.inl rfl | exact Or.inr rfl) (pe_op op_add (pe_met c_Misses_count hr (by decide) pass0 (pv 0) (pa_cons (pv 1) (pa_cons (pv 2) pa_nil))) pe_int)) (pss_cons (ps_if (pt_cmpR op_ge (pv 3) (pe_fld (pe_fld (pv 0) rfl) rfl) (nomark _)) (pss_cons (ps_expr (pe_bm PySem.F.plainAttrs_dict PySem.F.slot_dict_pop PySem.F.type_dict_pop (DX.mt_popT hu) (pe_fld (pv 0) rfl) (pa_cons (pe_tup (pa_cons (pv 1) (pa_cons (pv 2) pa_nil))) (pa_cons pe_non pa_nil)))) (pss_one (ps_ret pe_bl))) pss_nil) (pss_cons (ps_dput hu (pe_fld (pv 0) rfl) (pe_tup (pa_cons (pv 1) (pa_cons (pv 2) pa_nil))) (pv 3) rfl) (pss_one (ps_ret pe_bl))))), ?_⟩
  rw [show L2.start n_Misses_miss [.ref m, .int s, .str z] = [some (.ref m), some (.int s), some (.str z), none] from rfl]
  try dsimp only [cxOf, Cx.nox, Cx.wish, List.map]

  walk_at "rd"
  obtain ⟨dx, hm⟩ := hM.ob
  obtain ⟨dy, b1, b2, b3, b4, hs⟩ := hM.se.ex
  walk_at "rd"
  refine us_Misses_count hM hT fun H1 k1 => ?_
  have hM1 := hM.kp k1 (by simp) (by simp)
  obtain ⟨kvs, hd, hk, hf⟩ := (hT.kp k1 (by simp)).ex
  walk_at "rd"
  have nm : m ≠ d := ndT (k1.g0 hm) hd (fun _ e => by cases e)
  have nsd : sd ≠ d := ndT (k1.g0 hs) hd (fun _ e => by cases e)
  refine ite_d (fun h => ?_) (fun h => ?_)
  · rw [if_pos h, decide_eq_true h] at kk
    walk_at "rd"
    refine ⟨sz1000 (by simp), fun b nb => ?_⟩
    walk_at "rd"
    refine rd_popT (by walk_at "hp") (by walk_at "hp") (fun v hv => ?_) (fun hv => ?_)
    · walk_at "rd"
      have k2 : Kp [d] H1 (upd (upd H1 b (.tup [.int s, .str z])) d (.dT (dropK kvs [.inl s, .inr z]))) := (Kp.new nb).wr (by simp)
      exact kk _ (hM1.kp k2 (by simpa using nm) (by simpa using nsd)) ⟨_, upd_same, Nat.le_trans (dropK_le _ _) (by omega), tab_drop hf⟩ (k1.of0.trans k2)
    · walk_at "rd"
      have k2 : Kp [] H1 (upd H1 b (.tup [.int s, .str z])) := Kp.new nb
      refine kk _ (hM1.kp k2 (by simp) (by simp)) ⟨kvs, by walk_at "hp", by omega, ?_⟩ (k1.trans k2).of0
      rw [tab_none hf hv]
      exact hf
  · rw [if_neg h, decide_eq_false h] at kk
    walk_at "rd"
    refine ⟨sz1000 (by simp), fun b nb => ?_⟩
    walk_at "rd"
    have k2 : Kp [d] H1 (upd (upd H1 b (.tup [.int s, .str z])) d (.dT (putK kvs [.inl s, .inr z] (.int (f s z + 1))))) := (Kp.new nb).wr (by simp)
    exact kk _ (hM1.kp k2 (by simpa using nm) (by simpa using nsd)) ⟨_, upd_same, Nat.le_trans (putK_le _ _ _) (by omega), tab_put hf⟩ (k1.of0.trans k2)
theorem c_Misses_miss (T : Cx K mg) : MetX P w K mg base CX0 2 (ga K "Misses") "miss" (sp_Misses_miss K) [] := by
  obtain ⟨fd, F, ok⟩ := f_Misses_miss (P := P) (w := w) (base := base) T
  exact ⟨_, fd, p_Misses_miss, [], cl_Misses T, mt_Misses_miss T, ok, FunD.bindsN F fun _ _ _ _ _ _ us hl => match us, hl with | [_, _, _], _ => rfl, .nil⟩
end
section
variable {P : Program} {w : World} {K : PySem.W.Frag} {mg : Str → Option Value} {base : Heap}
def sp_Misses_heard (K : PySem.W.Frag) : Sp := fun vs H Q E => ∃ (m sd d : Addr) (pat s : Int) (f : Int → Str → Int) (n : Nat), vs = [.ref m, .int s] ∧ (MisAt K H m sd d pat) ∧ (Tab H d f n) ∧ (∀ H1, MisAt K H1 m sd d pat → Tab H1 d (set2 (set2 f s "quick" 0) s "slow" 0) n → Kp [d] H H1 → Q .non H1)
theorem us_Misses_heard {K : PySem.W.Frag} {H : Hp} {Q : VK} {E : XK} {m sd d : Addr} {pat s : Int} {f : Int → Str → Int} {n : Nat} (hM : MisAt K H m sd d pat) (hT : Tab H d f n) (kk : ∀ H1, MisAt K H1 m sd d pat → Tab H1 d (set2 (set2 f s "quick" 0) s "slow" 0) n → Kp [d] H H1 → Q .non H1) : sp_Misses_heard K [.ref m, .int s] H Q E := ⟨_, _, _, _, _, _, _, rfl, hM, hT, kk⟩
theorem f_Misses_heard (T : Cx K mg) : ∃ fd, FunD K "heard" "Misses.heard" (defArgs s_Misses_heard) (defBody s_Misses_heard) (defScope s_Misses_heard) (d_Misses_heard.dvs K) (d_Misses_heard.kws K) (fAd K d_Misses_heard.at_) fd ∧ FnOk P w K mg base CX0 1 (fAd K d_Misses_heard.at_) fd p_Misses_heard (sp_Misses_heard K) := by
  obtain ⟨fd, F⟩ := T.says.def_ 9 (d := d_Misses_heard) rfl
  refine ⟨fd, F, fnD F sc_Misses_heard (fun vs H Q E h => by
    obtain ⟨_, _, _, _, _, _, _, rfl, _⟩ := h
    rfl) fun cdv A outer s H vs Q E hr h => ?_⟩
  have hu := hu_of hr
  obtain ⟨m, sd, d, pat, s, f, n, rfl, hM, hT, kk⟩ := h
  refine ⟨_, (pss_one (ps_for PassesOwn.never rfl (pi_tup (pe_glob (v := .ref (ga K "KINDS")) (by rfl) (gl_KINDS T) rfl)) (pg_name (i := 2) sc_Misses_heard.nd rfl (by first | exact Or.inl rfl | exact Or.inr rfl)) (pss_one (ps_expr (pe_bm PySem.F.plainAttrs_dict PySem.F.slot_dict_pop PySem.F.type_dict_pop (DX.mt_popT hu) (pe_fld (pv 0) rfl) (pa_cons (pe_tup (pa_cons (pv 1) (pa_cons (pv 2) pa_nil))) (pa_cons pe_non pa_nil))))))), ?_⟩
  rw [show L2.start n_Misses_heard [.ref m, .int s] = [some (.ref m), some (.int s), none] from rfl]
  try dsimp only [cxOf, Cx.nox, Cx.wish, List.map]

  obtain ⟨dx, hm⟩ := hM.ob
  obtain ⟨dy, b1, b2, b3, b4, hs⟩ := hM.se.ex
  obtain ⟨kvs0, hd0, -, -⟩ := hT.ex
  have nm : m ≠ d := ndT hm hd0 (fun _ e => by cases e)
  have nsd : sd ≠ d := ndT hs hd0 (fun _ e => by cases e)
  walk_at "rd"
  refine forT_by (K := K) [.str "quick", .str "slow"] (fun i σ H1 => (∃ v, σ = [some (.ref m), some (.int s), v]) ∧ ∃ g, Tab H1 d g n ∧ Kp [d] H H1 ∧ (i = 0 → g = f) ∧ (i = 1 → g = set2 f s "quick" 0) ∧ (i = 2 → g = set2 (set2 f s "quick" 0) s "slow" 0))
    ⟨⟨_, rfl⟩, f, hT, Kp.refl, fun _ => rfl, fun e => by omega, fun e => by omega⟩ (fun _ _ _ _ _ => tup_KINDS T _) ?_ ?_
  · rintro i x σ H1 hx ⟨⟨v, rfl⟩, g, hT1, k1, g0, g1, g2⟩
    obtain ⟨z, rfl, hz⟩ : ∃ z, x = .str z ∧ (i = 0 ∧ z = "quick" ∨ i = 1 ∧ z = "slow") := by
      rcases i with _ | _ | i
      · simp at hx
        exact ⟨_, hx.symm, .inl ⟨rfl, rfl⟩⟩
      · simp at hx
        exact ⟨_, hx.symm, .inr ⟨rfl, rfl⟩⟩
      · simp at hx
    obtain ⟨kvs, hd, hk, hf⟩ := hT1.ex
    have fin : ∀ H2, Kp [d] H H2 → Tab H2 d (set2 g s z 0) n → (∃ v, ([some (.ref m), some (.int s), some (.str z)] : List (Option V)) = [some (.ref m), some (.int s), v]) ∧ ∃ g, Tab H2 d g n ∧ Kp [d] H H2 ∧ (i + 1 = 0 → g = f) ∧ (i + 1 = 1 → g = set2 f s "quick" 0) ∧ (i + 1 = 2 → g = set2 (set2 f s "quick" 0) s "slow" 0) := by
      intro H2 k2 T2
      rcases hz with ⟨rfl, rfl⟩ | ⟨rfl, rfl⟩
      · exact ⟨⟨_, rfl⟩, _, T2, k2, fun e => by omega, fun _ => by rw [g0 rfl], fun e => by omega⟩
      · exact ⟨⟨_, rfl⟩, _, T2, k2, fun e => by omega, fun e => by omega, fun _ => by rw [g1 rfl]⟩
    walk_at "rd"
    refine ⟨sz1000 (by simp), fun b nb => ?_⟩
    walk_at "rd"
    refine rd_popT (by walk_at "hp") (by walk_at "hp") (fun w hw => ?_) (fun hw => ?_)
    · exact fin _ (by walk_at "kp") ⟨_, upd_same, Nat.le_trans (dropK_le _ _) hk, tab_drop hf⟩
    · refine fin _ (by walk_at "kp") ⟨kvs, by walk_at "hp", hk, ?_⟩
      rw [tab_none hf hw]
      exact hf
  · rintro σ H1 ⟨⟨v, rfl⟩, g, hT1, k1, -, -, g2⟩
    have e := g2 rfl
    subst e
    walk_at "rd"
    exact kk _ (hM.kp k1 (by simpa using nm) (by simpa using nsd)) hT1 k1
theorem c_Misses_heard (T : Cx K mg) : MetX P w K mg base CX0 1 (ga K "Misses") "heard" (sp_Misses_heard K) [] := by
  obtain ⟨fd, F, ok⟩ := f_Misses_heard (P := P) (w := w) (base := base) T
  exact ⟨_, fd, p_Misses_heard, [], cl_Misses T, mt_Misses_heard T, ok, FunD.bindsN F fun _ _ _ _ _ _ us hl => match us, hl with | [_, _], _ => rfl, .nil⟩
end
section
variable {P : Program} {w : World} {K : PySem.W.Frag} {mg : Str → Option Value} {base : Heap}
def sp_l_made (K : PySem.W.Frag) : Sp := fun vs H Q E => ∃ (p c : Addr), vs = [.ref p] ∧ (Box H p c) ∧ (∀ t m sd d pl pat ring ps H1, H1 t = some (.tup [.ref m, .int pat, .ref pl, .int ring]) → MisAt K H1 m sd d pat → H1 d = some (.dT []) → H1 pl = some (.lst (ps.map V.int)) → ps ≠ [] ∧ ps.length ≤ 5 → 0 < ring ∧ ring ≤ 256 → Box H1 p c → Kp [p] H H1 → H d = none → Q (.ref t) H1)
theorem us_l_made {K : PySem.W.Frag} {H : Hp} {Q : VK} {E : XK} {p c : Addr} (hB : Box H p c) (kk : ∀ t m sd d pl pat ring ps H1, H1 t = some (.tup [.ref m, .int pat, .ref pl, .int ring]) → MisAt K H1 m sd d pat → H1 d = some (.dT []) → H1 pl = some (.lst (ps.map V.int)) → ps ≠ [] ∧ ps.length ≤ 5 → 0 < ring ∧ ring ≤ 256 → Box H1 p c → Kp [p] H H1 → H d = none → Q (.ref t) H1) : sp_l_made K [.ref p] H Q E := ⟨_, _, rfl, hB, kk⟩
theorem f_l_made (T : Cx K mg) : ∃ fd, FunD K "_law_made" "_law_made" (defArgs s_l_made) (defBody s_l_made) (defScope s_l_made) (d_l_made.dvs K) (d_l_made.kws K) (fAd K d_l_made.at_) fd ∧ FnOk P w K mg base CX0 4 (fAd K d_l_made.at_) fd p_l_made (sp_l_made K) := by
  have c_l_draw := c_l_draw (P := P) (w := w) (base := base) T
  have c_l_bits := c_l_bits (P := P) (w := w) (base := base) T
  have c_l_patience := c_l_patience (P := P) (w := w) (base := base) T
  have c_Setting_init := c_Setting_init (P := P) (w := w) (base := base) T
  have c_Misses_init := c_Misses_init (P := P) (w := w) (base := base) T
  obtain ⟨fd, F⟩ := T.says.def_ 10 (d := d_l_made) rfl
  refine ⟨fd, F, fnD F sc_l_made (fun vs H Q E h => by
    obtain ⟨_, _, rfl, _⟩ := h
    rfl) fun cdv A outer s H vs Q E hr h => ?_⟩
  have hu := hu_of hr
  obtain ⟨p, c, rfl, hB, kk⟩ := h
  refine ⟨_, (pss_cons (ps_set (i := 1) sc_l_made.nd rfl (by first | exact Or.inl rfl | exact Or.inr rfl) (pe_cal c_l_bits hr (by decide) (by rfl) pass0 (pa_cons (pv 0) pa_nil))) (pss_cons (ps_set (i := 2) sc_l_made.nd rfl (by first | exact Or.inl rfl | exact Or.inr rfl) (pe_op op_shl pe_int (pv 1))) (pss_cons (ps_set (i := 3) sc_l_made.nd rfl (by first | exact Or.inl rfl | exact Or.inr rfl) (pe_cal c_l_patience hr (by decide) (by rfl) pass0 (pa_cons (pv 0) pa_nil))) (pss_cons (ps_set (i := 4) sc_l_made.nd rfl (by first | exact Or.inl rfl | exact Or.inr rfl) (pe_mak c_Misses_init hr (by decide) (by rfl) pass0 (pa_cons (pe_mak c_Setting_init hr (by decide) (by rfl) pass0 (pa_cons (pv 1) (pa_cons (pv 3) (pa_cons (pe_op op_add pe_int (pe_cal c_l_draw hr (by decide) (by rfl) pass0 (pa_cons (pv 0) (pa_cons pe_int pa_nil)))) pa_nil)))) pa_nil))) (pss_cons (ps_setLc (i := 5) (own := [("_law_k", 6)]) (g := (gName 6)) (tt := tYes) rfl sc_l_made.nd rfl rfl (sw_true rfl rfl rfl (by decide +kernel)) (pi_range1 (by rfl) (fr_range T) (pa_cons (pe_op op_add pe_int (pe_cal c_l_draw hr (by decide) (by rfl) pass0 (pa_cons (pv 0) (pa_cons pe_int pa_nil)))) pa_nil)) (blkOk_by (own := [("_law_k", 6)]) (N := n_l_made) (sc := defScope s_l_made) (by decide +kernel)) (fun _ _ _ _ _ => (pg_name (i := 6) sc_l_made.nd rfl (by first | exact Or.inl rfl | exact Or.inr rfl))) (fun _ _ _ _ _ => pts_nil) (fun _ _ _ _ _ => (pe_cal c_l_draw hr (by decide) (by rfl) pass0 (pa_cons (pv 0) (pa_cons (pv 2) pa_nil))))) (pss_one (ps_ret (pe_tup (pa_cons (pv 4) (pa_cons (pv 3) (pa_cons (pv 5) (pa_cons (pv 2) pa_nil)))))))))))), ?_⟩
  rw [show L2.start n_l_made [.ref p] = [some (.ref p), none, none, none, none, none, none] from rfl]
  try dsimp only [cxOf, Cx.nox, Cx.wish, List.map]

  walk_at "rd"
  refine us_l_bits hB fun n H1 n0 n1 B1 k1 => ?_
  walk_at "rd"
  refine us_l_patience B1 fun n2 H2 n20 n21 B2 k2 => ?_
  walk_at "rd"
  refine us_l_draw B2 (by decide) (by decide) fun n3 H3 n30 n31 B3 k3 => ?_
  walk_at "rd"
  intro x dx nx ndx nex
  refine us_Setting_init upd_same ⟨n0, n1⟩ ⟨n20, n21⟩ ⟨by omega, by omega⟩ ⟨by decide, by decide⟩ ⟨by decide, by decide⟩ fun H4 S4 k4 => ⟨rfl, ?_⟩
  walk_at "rd"
  intro m dm nm ndm nem
  refine us_Misses_init upd_same fun d H5 hm hd k5 nd => ⟨rfl, ?_⟩
  have k34 : Kp [] H3 H4 := by
    have a : Kp [] H3 (upd (upd H3 dx (.own x)) x (.ins (ga K "Setting") dx [])) := (Kp.new ndx).nw (hn_ne (Ne.symm nex) nx)
    exact a.via1 k4 nx
  have k45 : Kp [] H4 H5 := by
    have a : Kp [] H4 (upd (upd H4 dm (.own m)) m (.ins (ga K "Misses") dm [])) := (Kp.new ndm).nw (hn_ne (Ne.symm nem) nm)
    exact a.via1 k5 nm
  have nd4 : H4 d = none := by
    have hdm : d ≠ m := by walk_at "ne"
    have hdd : d ≠ dm := by walk_at "ne"
    have := nd
    rw [upd_ne hdm, upd_ne hdd] at this
    exact this
  have nd3 : H3 d = none := Kp.back k34 nd4 (by simp)
  have B5 : Box H5 p c := (B3.k0 k34).k0 k45
  have S5 : SetAt K H5 x n2 := S4.kp k45 (by simp)
  obtain ⟨r0, r1⟩ := ring8 n0 n1
  walk_at "rd"
  refine us_l_draw B5 (by decide) (by decide) fun n6 H6 n60 n61 B6 k6 => ?_
  walk_at "rd"
  intro D hD
  have kall : ∀ H7, Kp [p] H6 H7 → Kp [p] H5 H7 := fun H7 k => k6.trans k
  have dp : d ≠ p := by
    obtain ⟨ns, a, b, e, hp, -⟩ := B5.ex
    exact ne_of hd hp (by intro z; cases z)
  have mp : m ≠ p := by
    obtain ⟨ns, a, b, e, hp, -⟩ := B5.ex
    exact ne_of hm hp (by intro z; cases z)
  have xp : x ≠ p := by
    obtain ⟨ns, a, b, e, hp, -⟩ := B5.ex
    obtain ⟨dy, b1, b2, b3, b4, hs⟩ := S5.ex
    exact ne_of hs hp (by intro z; cases z)
  refine lcR_by (fun i H' => ∃ acc : List Int, H' D = some (.lst (acc.map V.int)) ∧ acc.length = i ∧ Box H' p c ∧ Kp [p] H6 H') ⟨[], upd_same, rfl, B6.k0 (Kp.new hD), Kp.new hD⟩ (fun i H' hi q => ?_) (fun H' q => ?_)
  · obtain ⟨acc, a1, a2, a3, a4⟩ := q
    have Dp : D ≠ p := by
      obtain ⟨ns, a, b, e, hp, -⟩ := a3.ex
      refine ne_of a1 hp fun z => ?_
      injection z with z
      exact ne_ints (fun _ e => by cases e) _ z
    walk_at "rd"
    refine ⟨rfl, ?_⟩
    walk_at "rd"
    refine us_l_draw a3 r0 (by omega) fun n7 H7 n70 n71 B7 k7 => ?_
    walk_at "rd"
    have hc : c ≠ D := by
      obtain ⟨ns, a, b, e, hp, -⟩ := B6.ex
      obtain ⟨⟨ns', a', b', e', hp', hc', -⟩, -⟩ := B6
      exact ne_of_none hc' hD
    refine ⟨acc.map V.int, k7.g1 Dp a1, szlt (by simp; omega), acc ++ [n7], ?_, by simp [a2], ?_, ?_⟩
    · rw [upd_same, List.map_append]
      rfl
    · obtain ⟨⟨ns, a, b, e, hp, hc', hh⟩, hcp⟩ := B7
      exact ⟨⟨ns, a, b, e, hu_ne (Ne.symm Dp) hp, hu_ne hc hc', hh⟩, hcp⟩
    · exact (a4.trans k7).mine hD
  · obtain ⟨acc, a1, a2, a3, a4⟩ := q
    walk_at "rd"
    refine ⟨sz1000 (by simp), fun t nt => ?_⟩
    have k57 := kall _ a4
    have kt : Kp [p] H5 (upd H' t (.tup [.ref m, .int n2, .ref D, .int (1 * 2 ^ n.toNat)])) := k57.nw nt
    refine kk t m x d D n2 _ acc _ upd_same ⟨⟨dm, kt _ _ hm (by simpa using mp)⟩, S5.kp kt (by simpa using xp)⟩ (kt _ _ hd (by simpa using dp)) (by walk_at "hp") ⟨?_, ?_⟩ ⟨r0, r1⟩ (a3.k0 (Kp.new nt)) ?_ ?_
    · intro e
      subst e
      simp at a2
      omega
    · rw [a2]
      omega
    · exact (((k1.trans k2).trans k3).trans (k34.trans k45).of0).trans kt
    · exact Kp.back ((k1.trans k2).trans k3) nd3 (by simpa using dp)
theorem c_l_made (T : Cx K mg) : CalX P w K mg base CX0 4 "_law_made" (sp_l_made K) [] := by
  obtain ⟨fd, F, ok⟩ := f_l_made (P := P) (w := w) (base := base) T
  exact ⟨_, fd, p_l_made, [], ok, gl_l_made T, F.kp, FunD.bindsN F fun _ _ _ _ _ _ us hl => match us, hl with | [_], _ => rfl, .nil⟩
end
section
variable {P : Program} {w : World} {K : PySem.W.Frag} {mg : Str → Option Value} {base : Heap}
def sp_l_counts_hold (K : PySem.W.Frag) : Sp := fun vs H Q E => ∃ (m sd d t l : Addr) (pat : Int) (f : Int → Str → Int) (n k : Nat) (ps : List Int), vs = [.ref m, .ref t, .ref l] ∧ (MisAt K H m sd d pat) ∧ (Tab H d f n) ∧ (Tab H t f k) ∧ (SqL K H l (ps.map V.int)) ∧ (∀ H1, Kp [] H H1 → Q (.bl true) H1)
theorem us_l_counts_hold {K : PySem.W.Frag} {H : Hp} {Q : VK} {E : XK} {m sd d t l : Addr} {pat : Int} {f : Int → Str → Int} {n k : Nat} {ps : List Int} (hM : MisAt K H m sd d pat) (hT : Tab H d f n) (hU : Tab H t f k) (hS : SqL K H l (ps.map V.int)) (kk : ∀ H1, Kp [] H H1 → Q (.bl true) H1) : sp_l_counts_hold K [.ref m, .ref t, .ref l] H Q E := ⟨_, _, _, _, _, _, _, _, _, _, rfl, hM, hT, hU, hS, kk⟩
theorem f_l_counts_hold (T : Cx K mg) : ∃ fd, FunD K "_law_counts_hold" "_law_counts_hold" (defArgs s_l_counts_hold) (defBody s_l_counts_hold) (defScope s_l_counts_hold) (d_l_counts_hold.dvs K) (d_l_counts_hold.kws K) (fAd K d_l_counts_hold.at_) fd ∧ FnOk P w K mg base CX0 2 (fAd K d_l_counts_hold.at_) fd p_l_counts_hold (sp_l_counts_hold K) := by
  have c_Misses_count := c_Misses_count (P := P) (w := w) (base := base) T
  obtain ⟨fd, F⟩ := T.says.def_ 11 (d := d_l_counts_hold) rfl
  refine ⟨fd, F, fnD F sc_l_counts_hold (fun vs H Q E h => by
    obtain ⟨_, _, _, _, _, _, _, _, _, _, rfl, _⟩ := h
    rfl) fun cdv A outer s H vs Q E hr h => ?_⟩
  have hu := hu_of hr
  obtain ⟨m, sd, d, t, l, pat, f, n, k, ps, rfl, hM, hT, hU, hS, kk⟩ := h
  refine ⟨_, (pss_cons (ps_for PassesOwn.never rfl (pi_list (pv 2)) (pg_name (i := 3) sc_l_counts_hold.nd rfl (by first | exact Or.inl rfl | exact Or.inr rfl)) (pss_one (ps_for PassesOwn.never rfl (pi_list (pe_lst (pa_cons pe_str (pa_cons pe_str pa_nil)))) (pg_name (i := 4) sc_l_counts_hold.nd rfl (by first | exact Or.inl rfl | exact Or.inr rfl)) (pss_cons (ps_set (i := 5) sc_l_counts_hold.nd rfl (by first | exact Or.inl rfl | exact Or.inr rfl) (pe_met c_Misses_count hr (by decide) pass0 (pv 0) (pa_cons (pv 3) (pa_cons (pv 4) pa_nil)))) (pss_cons (ps_if (PW.pt (pw_or (pt_not (pt_val (pe_callB call_isi (by rfl) (fr_isinstance T) (by decide +kernel) (pa_cons (pv 5) (pa_cons (pe_bltn (v := .ty "int") (by rfl) (fr_int T) (by decide +kernel) rfl) pa_nil))))) (pw_or1 (pt_val (pe_callB call_isi (by rfl) (fr_isinstance T) (by decide +kernel) (pa_cons (pv 5) (pa_cons (pe_bltn (v := .ty "bool") (by rfl) (fr_bool T) (by decide +kernel) rfl) pa_nil))))))) (pss_one (ps_ret pe_bl)) pss_nil) (pss_one (ps_if (pt_cmpR op_ne (pv 5) (pe_dget2 hu (pv 1) (pe_tup (pa_cons (pv 3) (pa_cons (pv 4) pa_nil))) pe_int ⟨rfl, rfl, rfl, rfl⟩) (nomark _)) (pss_one (ps_ret pe_bl)) pss_nil))))))) (pss_one (ps_ret pe_bl))), ?_⟩
  rw [show L2.start n_l_counts_hold [.ref m, .ref t, .ref l] = [some (.ref m), some (.ref t), some (.ref l), none, none, none] from rfl]
  try dsimp only [cxOf, Cx.nox, Cx.wish, List.map]

  walk_at "rd"
  refine forL_ints ps (fun i σ H1 => (∃ v1 v2 v3, σ = [some (.ref m), some (.ref t), some (.ref l), v1, v2, v3]) ∧ Kp [] H H1) ⟨⟨_, _, _, rfl⟩, Kp.refl⟩ (fun _ _ _ _ q => sl_kp q.2 (by simp) hS) ?_ ?_
  · rintro i hi σ H1 ⟨⟨v1, v2, v3, rfl⟩, k1⟩
    walk_at "rd"
    refine ⟨sz1000 (by simp), fun a na => ?_⟩
    walk_at "rd"
    refine forL_by (K := K) [.str "quick", .str "slow"] (fun j σ H2 => (∃ v2 v3, σ = [some (.ref m), some (.ref t), some (.ref l), some (.int ps[i]), v2, v3]) ∧ Kp [] H H2 ∧ H2 a = some (.lst [.str "quick", .str "slow"])) ⟨⟨_, _, rfl⟩, k1.nw na, upd_same⟩ (fun _ _ _ _ q => SqL.of q.2.2) ?_ ?_
    · rintro j x σ H2 hx ⟨⟨v2, v3, rfl⟩, k2, ha⟩
      obtain ⟨z, rfl⟩ : ∃ z, x = .str z := by
        rcases j with _ | _ | j
        · simp at hx
          exact ⟨_, hx.symm⟩
        · simp at hx
          exact ⟨_, hx.symm⟩
        · simp at hx
      have M2 := hM.kp k2 (by simp) (by simp)
      obtain ⟨dx, hm⟩ := M2.ob
      walk_at "rd"
      refine us_Misses_count M2 (hT.kp k2 (by simp)) fun H3 k3 => ?_
      obtain ⟨kvs, hd, hk, hf⟩ := (hU.kp (k2.trans k3) (by simp)).ex
      walk_at "rd"
      refine ⟨sz1000 (by simp), fun b nb => ?_⟩
      walk_at "rd"
      rw [hf]
      walk_at "rd"
      refine ite_n (fun h => absurd rfl h) (fun _ => ?_)
      walk_at "rd"
      exact ⟨⟨_, _, rfl⟩, (k2.trans k3).nw nb, by walk_at "hp"⟩
    · rintro σ H2 ⟨⟨v2, v3, rfl⟩, k2, ha⟩
      exact ⟨⟨_, _, _, rfl⟩, k2⟩
  · rintro σ H1 ⟨⟨v1, v2, v3, rfl⟩, k1⟩
    walk_at "rd"
    exact kk _ k1
theorem c_l_counts_hold (T : Cx K mg) : CalX P w K mg base CX0 2 "_law_counts_hold" (sp_l_counts_hold K) [] := by
  obtain ⟨fd, F, ok⟩ := f_l_counts_hold (P := P) (w := w) (base := base) T
  exact ⟨_, fd, p_l_counts_hold, [], ok, gl_l_counts_hold T, F.kp, FunD.bindsN F fun _ _ _ _ _ _ us hl => match us, hl with | [_, _, _], _ => rfl, .nil⟩
end
section
variable {P : Program} {w : World} {K : PySem.W.Frag} {mg : Str → Option Value} {base : Heap}
def sp_l_misses_hold (K : PySem.W.Frag) : Sp := fun vs H Q E => ∃ (m sd d t : Addr) (pat s times : Int) (z : Str) (f : Int → Str → Int) (n : Nat), vs = [.ref m, .ref t, .int s, .str z, .int times, .int pat] ∧ (MisAt K H m sd d pat) ∧ (Tab H d f n) ∧ (Tab H t f n) ∧ (n < 50000) ∧ (0 ≤ times ∧ times ≤ 12) ∧ (d ≠ t) ∧ (∀ H1 g, MisAt K H1 m sd d pat → Tab H1 d g (n + 12) → Tab H1 t g (n + 12) → Kp [d, t] H H1 → Q (.bl true) H1)
theorem us_l_misses_hold {K : PySem.W.Frag} {H : Hp} {Q : VK} {E : XK} {m sd d t : Addr} {pat s times : Int} {z : Str} {f : Int → Str → Int} {n : Nat} (hM : MisAt K H m sd d pat) (hT : Tab H d f n) (hU : Tab H t f n) (hn : n < 50000) (ht : 0 ≤ times ∧ times ≤ 12) (ndt : d ≠ t) (kk : ∀ H1 g, MisAt K H1 m sd d pat → Tab H1 d g (n + 12) → Tab H1 t g (n + 12) → Kp [d, t] H H1 → Q (.bl true) H1) : sp_l_misses_hold K [.ref m, .ref t, .int s, .str z, .int times, .int pat] H Q E := ⟨_, _, _, _, _, _, _, _, _, _, rfl, hM, hT, hU, hn, ht, ndt, kk⟩
theorem f_l_misses_hold (T : Cx K mg) : ∃ fd, FunD K "_law_misses_hold" "_law_misses_hold" (defArgs s_l_misses_hold) (defBody s_l_misses_hold) (defScope s_l_misses_hold) (d_l_misses_hold.dvs K) (d_l_misses_hold.kws K) (fAd K d_l_misses_hold.at_) fd ∧ FnOk P w K mg base CX0 3 (fAd K d_l_misses_hold.at_) fd p_l_misses_hold (sp_l_misses_hold K) := by
  have c_Misses_miss := c_Misses_miss (P := P) (w := w) (base := base) T
  obtain ⟨fd, F⟩ := T.says.def_ 12 (d := d_l_misses_hold) rfl
  refine ⟨fd, F, fnD F sc_l_misses_hold (fun vs H Q E h => by
    obtain ⟨_, _, _, _, _, _, _, _, _, _, rfl, _⟩ := h
    rfl) fun cdv A outer s H vs Q E hr h => ?_⟩
  have hu := hu_of hr
  obtain ⟨m, sd, d, t, pat, s, times, z, f, n, rfl, hM, hT, hU, hn, ht, ndt, kk⟩ := h
  refine ⟨_, (pss_cons (ps_for PassesOwn.never rfl (pi_range1 (by rfl) (fr_range T) (pa_cons (pv 4) pa_nil)) (pg_name (i := 6) sc_l_misses_hold.nd rfl (by first | exact Or.inl rfl | exact Or.inr rfl)) (pss_cons (ps_set (i := 7) sc_l_misses_hold.nd rfl (by first | exact Or.inl rfl | exact Or.inr rfl) (pe_op op_add (pe_dget2 hu (pv 1) (pe_tup (pa_cons (pv 2) (pa_cons (pv 3) pa_nil))) pe_int ⟨rfl, rfl, rfl, rfl⟩) pe_int)) (pss_cons (ps_set (i := 8) sc_l_misses_hold.nd rfl (by first | exact Or.inl rfl | exact Or.inr rfl) (pe_cmpR op_ge (pv 7) (pv 5) (nomark _))) (pss_cons (ps_dput hu (pv 1) (pe_tup (pa_cons (pv 2) (pa_cons (pv 3) pa_nil))) (pe_ifExp (pt_val (pv 8)) pe_int (pv 7)) rfl) (pss_cons (ps_set (i := 9) sc_l_misses_hold.nd rfl (by first | exact Or.inl rfl | exact Or.inr rfl) (pe_met c_Misses_miss hr (by decide) pass0 (pv 0) (pa_cons (pv 2) (pa_cons (pv 3) pa_nil)))) (pss_one (ps_if (PW.pt (pw_or (pt_not (pt_val (pe_callB call_isi (by rfl) (fr_isinstance T) (by decide +kernel) (pa_cons (pv 9) (pa_cons (pe_bltn (v := .ty "bool") (by rfl) (fr_bool T) (by decide +kernel) rfl) pa_nil))))) (pw_or1 (pt_cmpR op_ne (pv 9) (pv 8) (nomark _))))) (pss_one (ps_ret pe_bl)) pss_nil))))))) (pss_one (ps_ret pe_bl))), ?_⟩
  rw [show L2.start n_l_misses_hold [.ref m, .ref t, .int s, .str z, .int times, .int pat] = [some (.ref m), some (.ref t), some (.int s), some (.str z), some (.int times), some (.int pat), none, none, none, none] from rfl]
  try dsimp only [cxOf, Cx.nox, Cx.wish, List.map]

  obtain ⟨dx, hm⟩ := hM.ob
  obtain ⟨dy, b1, b2, b3, b4, hs⟩ := hM.se.ex
  obtain ⟨kvs0, hd0, -, -⟩ := hT.ex
  obtain ⟨kvs1, ht0, -, -⟩ := hU.ex
  have nm : m ≠ d := ndT hm hd0 (fun _ e => by cases e)
  have nsd : sd ≠ d := ndT hs hd0 (fun _ e => by cases e)
  have nmt : m ≠ t := ndT hm ht0 (fun _ e => by cases e)
  have nst : sd ≠ t := ndT hs ht0 (fun _ e => by cases e)
  walk_at "rd"
  refine forR_by (fun i σ H1 => (∃ v1 v2 v3 v4, σ = [some (.ref m), some (.ref t), some (.int s), some (.str z), some (.int times), some (.int pat), v1, v2, v3, v4]) ∧ ∃ g, Tab H1 d g (n + i) ∧ Tab H1 t g (n + i) ∧ Kp [d, t] H H1) ⟨⟨_, _, _, _, rfl⟩, f, hT, hU, Kp.refl⟩ ?_ ?_
  · rintro i σ H1 hi ⟨⟨v1, v2, v3, v4, rfl⟩, g, T1, T2, k1⟩
    have M1 := hM.kp k1 (by simp [nm, nmt]) (by simp [nsd, nst])
    obtain ⟨dx1, hm1⟩ := M1.ob
    obtain ⟨kvs, hd, hk, hf⟩ := T2.ex
    walk_at "rd"
    refine ⟨sz1000 (by simp), fun b nb => ?_⟩
    walk_at "rd"
    rw [hf]
    walk_at "rd"
    have fin : ∀ (v : Int) (H2 : Hp), v = (if pat ≤ g s z + 1 then 0 else g s z + 1) → Kp [t] H1 H2 → Tab H2 t (set2 g s z v) (n + (i + 1)) →
        sp_Misses_miss K [.ref m, .int s, .str z] H2 (fun w H3 => ∃ b, w = .bl b ∧ b = decide (pat ≤ g s z + 1) ∧ ∃ g', Tab H3 d g' (n + (i + 1)) ∧ Tab H3 t g' (n + (i + 1)) ∧ Kp [d, t] H H3) E0 := by
      intro v H2 hv k2 T3
      refine us_Misses_miss (M1.kp k2 (by simpa using nmt) (by simpa using nst)) (T1.kp k2 (by simpa using ndt)) (by omega) fun H3 M3 T4 k3 => ⟨_, rfl, rfl, _, T4, ?_, ?_⟩
      · rw [hv] at T3
        exact T3.kp k3 (by simpa using Ne.symm ndt)
      · refine (k1.trans (k2.mono (by simp))).trans (k3.mono (by simp))
    have mono : ∀ {H2 : Hp} {Q1 Q2 : VK}, sp_Misses_miss K [.ref m, .int s, .str z] H2 Q1 E0 → (∀ w H3, Q1 w H3 → Q2 w H3) → sp_Misses_miss K [.ref m, .int s, .str z] H2 Q2 E0 := by
      rintro H2 Q1 Q2 ⟨a1, a2, a3, a4, a5, a6, a7, a8, e, a9, a10, a11, q⟩ h
      exact ⟨a1, a2, a3, a4, a5, a6, a7, a8, e, a9, a10, a11, fun H1 u1 u2 u3 => h _ _ (q H1 u1 u2 u3)⟩
    refine ite_d (fun h => ?_) (fun h => ?_)
    all_goals
      walk_at "rd"
      refine ⟨sz1000 (by simp), fun b2 nb2 => ?_⟩
      walk_at "rd"
      refine mono (fin _ _ (by simp [h]) ((Kp.nw (Kp.new nb) nb2).wr (by simp)) ⟨_, upd_same, Nat.le_trans (putK_le _ _ _) (by omega), tab_put hf⟩) ?_
      rintro w H3 ⟨b3, rfl, hb3, g', T5, T6, k5⟩
      subst hb3
      walk_at "rd"
      refine ite_n (fun h => absurd rfl h) (fun _ => ?_)
      walk_at "rd"
      exact ⟨⟨_, _, _, _, rfl⟩, g', T5, T6, k5⟩
  · rintro σ H1 ⟨⟨v1, v2, v3, v4, rfl⟩, g, T1, T2, k1⟩
    walk_at "rd"
    exact kk _ g (hM.kp k1 (by simp [nm, nmt]) (by simp [nsd, nst])) (T1.mono (by omega)) (T2.mono (by omega)) k1
theorem c_l_misses_hold (T : Cx K mg) : CalX P w K mg base CX0 3 "_law_misses_hold" (sp_l_misses_hold K) [] := by
  obtain ⟨fd, F, ok⟩ := f_l_misses_hold (P := P) (w := w) (base := base) T
  exact ⟨_, fd, p_l_misses_hold, [], ok, gl_l_misses_hold T, F.kp, FunD.bindsN F fun _ _ _ _ _ _ us hl => match us, hl with | [_, _, _, _, _, _], _ => rfl, .nil⟩
end
section
variable {P : Program} {w : World} {K : PySem.W.Frag} {mg : Str → Option Value} {base : Heap}
def sp_law (K : PySem.W.Frag) : Sp := fun vs H Q E => ∃ (a : Addr) (ns : List Int), vs = [.ref a] ∧ (SqL K H a (ns.map V.int)) ∧ (ns.length ≤ 63) ∧ (∀ H1, Q (.bl true) H1)
theorem us_law {K : PySem.W.Frag} {H : Hp} {Q : VK} {E : XK} {a : Addr} {ns : List Int} (hS : SqL K H a (ns.map V.int)) (hl : ns.length ≤ 63) (kk : ∀ H1, Q (.bl true) H1) : sp_law K [.ref a] H Q E := ⟨_, _, rfl, hS, hl, kk⟩
theorem f_law (T : Cx K mg) : ∃ fd, FunD K "law" "law" (defArgs s_law) (defBody s_law) (defScope s_law) (d_law.dvs K) (d_law.kws K) (fAd K d_law.at_) fd ∧ FnOk P w K mg base CX0 5 (fAd K d_law.at_) fd p_law (sp_law K) := by
  have c_l_box := c_l_box (P := P) (w := w) (base := base) T
  have c_l_draw := c_l_draw (P := P) (w := w) (base := base) T
  have c_l_made := c_l_made (P := P) (w := w) (base := base) T
  have c_l_counts_hold := c_l_counts_hold (P := P) (w := w) (base := base) T
  have c_l_misses_hold := c_l_misses_hold (P := P) (w := w) (base := base) T
  have c_Misses_heard := c_Misses_heard (P := P) (w := w) (base := base) T
  obtain ⟨fd, F⟩ := T.says.def_ 13 (d := d_law) rfl
  refine ⟨fd, F, fnD F sc_law (fun vs H Q E h => by
    obtain ⟨_, _, rfl, _⟩ := h
    rfl) fun cdv A outer s H vs Q E hr h => ?_⟩
  have hu := hu_of hr
  obtain ⟨a, ns, rfl, hS, hl, kk⟩ := h
  refine ⟨_, (pss_cons (ps_set (i := 1) sc_law.nd rfl (by first | exact Or.inl rfl | exact Or.inr rfl) (pe_cal c_l_box hr (by decide) (by rfl) pass0 (pa_cons (pv 0) pa_nil))) (pss_cons (ps_set (i := 2) sc_law.nd rfl (by first | exact Or.inl rfl | exact Or.inr rfl) (pe_op op_add pe_int (pe_cal c_l_draw hr (by decide) (by rfl) pass0 (pa_cons (pv 1) (pa_cons pe_int pa_nil))))) (pss_cons (ps_set (i := 3) sc_law.nd rfl (by first | exact Or.inl rfl | exact Or.inr rfl) (pe_lst (pa_cons (pe_cal c_l_made hr (by decide) (by rfl) pass0 (pa_cons (pv 1) pa_nil)) (pa_cons (pe_cal c_l_made hr (by decide) (by rfl) pass0 (pa_cons (pv 1) pa_nil)) pa_nil)))) (pss_cons (ps_set (i := 4) sc_law.nd rfl (by first | exact Or.inl rfl | exact Or.inr rfl) (pe_lst (pa_cons pe_dnewT (pa_cons pe_dnewT pa_nil)))) (pss_cons (ps_for PassesOwn.never rfl (pi_range1 (by rfl) (fr_range T) (pa_cons (pv 2) pa_nil)) (pg_name (i := 5) sc_law.nd rfl (by first | exact Or.inl rfl | exact Or.inr rfl)) (pss_cons (ps_set (i := 6) sc_law.nd rfl (by first | exact Or.inl rfl | exact Or.inr rfl) (pe_cal c_l_draw hr (by decide) (by rfl) pass0 (pa_cons (pv 1) (pa_cons pe_int pa_nil)))) (pss_cons (ps_set (i := 7) sc_law.nd rfl (by first | exact Or.inl rfl | exact Or.inr rfl) (pe_ix ix_tup (pe_ix ix_list (pv 3) (pv 6) (fun _ _ => rfl)) pe_int (fun _ _ => rfl))) (pss_cons (ps_set (i := 8) sc_law.nd rfl (by first | exact Or.inl rfl | exact Or.inr rfl) (pe_ix ix_tup (pe_ix ix_list (pv 3) (pv 6) (fun _ _ => rfl)) pe_int (fun _ _ => rfl))) (pss_cons (ps_set (i := 9) sc_law.nd rfl (by first | exact Or.inl rfl | exact Or.inr rfl) (pe_ix ix_tup (pe_ix ix_list (pv 3) (pv 6) (fun _ _ => rfl)) pe_int (fun _ _ => rfl))) (pss_cons (ps_set (i := 10) sc_law.nd rfl (by first | exact Or.inl rfl | exact Or.inr rfl) (pe_ix ix_list (pv 4) (pv 6) (fun _ _ => rfl))) (pss_cons (ps_set (i := 11) sc_law.nd rfl (by first | exact Or.inl rfl | exact Or.inr rfl) (pe_ix ix_list (pv 9) (pe_cal c_l_draw hr (by decide) (by rfl) pass0 (pa_cons (pv 1) (pa_cons (pe_callB call_lenS (by rfl) (fr_len T) (by decide +kernel) (pa_cons (pv 9) pa_nil)) pa_nil))) (fun _ _ => rfl))) (pss_cons (ps_set (i := 12) sc_law.nd rfl (by first | exact Or.inl rfl | exact Or.inr rfl) (pe_cal c_l_draw hr (by decide) (by rfl) pass0 (pa_cons (pv 1) (pa_cons pe_int pa_nil)))) (C8.pss_cut (ps_if (pt_cmpR op_eq (pv 12) pe_int (nomark _)) (pss_cons (ps_if (pt_cmp (pc_notN (pe_met c_Misses_heard hr (by decide) pass0 (pv 7) (pa_cons (pv 11) pa_nil)))) (pss_one (ps_ret pe_bl)) pss_nil) (pss_cons (ps_dput hu (pv 10) (pe_tup (pa_cons (pv 11) (pa_cons pe_str pa_nil))) pe_int rfl) (pss_one (ps_dput hu (pv 10) (pe_tup (pa_cons (pv 11) (pa_cons pe_str pa_nil))) pe_int rfl)))) pss_nil) (C8.pss_cut (ps_if (pt_cmpR op_gt (pv 12) pe_int (nomark _)) (pss_cons (ps_set (i := 13) sc_law.nd rfl (by first | exact Or.inl rfl | exact Or.inr rfl) (pe_ix ix_list (pe_lst (pa_cons pe_str (pa_cons pe_str pa_nil))) (pe_cal c_l_draw hr (by decide) (by rfl) pass0 (pa_cons (pv 1) (pa_cons pe_int pa_nil))) (fun _ _ => rfl))) (pss_cons (ps_set (i := 14) sc_law.nd rfl (by first | exact Or.inl rfl | exact Or.inr rfl) pe_int) (C8.pss_cut (ps_if (pt_cmpR op_eq (pv 12) pe_int (nomark _)) (pss_one (ps_set (i := 14) sc_law.nd rfl (by first | exact Or.inl rfl | exact Or.inr rfl) (pe_op op_add pe_int (pe_cal c_l_draw hr (by decide) (by rfl) pass0 (pa_cons (pv 1) (pa_cons pe_int pa_nil)))))) pss_nil) (pss_one (ps_if (pt_not (pt_val (pe_cal c_l_misses_hold hr (by decide) (by rfl) pass0 (pa_cons (pv 7) (pa_cons (pv 10) (pa_cons (pv 11) (pa_cons (pv 13) (pa_cons (pv 14) (pa_cons (pv 8) pa_nil))))))))) (pss_one (ps_ret pe_bl)) pss_nil))))) pss_nil) (pss_one (ps_if (PW.pt (pw_and (pt_cmpR op_eq (pe_cal c_l_draw hr (by decide) (by rfl) pass0 (pa_cons (pv 1) (pa_cons pe_int pa_nil))) pe_int (nomark _)) (pw_and1 (pt_not (pt_val (pe_cal c_l_counts_hold hr (by decide) (by rfl) pass0 (pa_cons (pv 7) (pa_cons (pv 10) (pa_cons (pe_lst (pa_cons (pv 11) pa_nil)) pa_nil))))))))) (pss_one (ps_ret pe_bl)) pss_nil)))))))))))) (pss_cons (ps_for PassesOwn.never rfl (pi_range1 (by rfl) (fr_range T) (pa_cons pe_int pa_nil)) (pg_name (i := 15) sc_law.nd rfl (by first | exact Or.inl rfl | exact Or.inr rfl)) (pss_one (ps_for PassesOwn.never rfl (pi_range1 (by rfl) (fr_range T) (pa_cons pe_int pa_nil)) (pg_name (i := 6) sc_law.nd rfl (by first | exact Or.inl rfl | exact Or.inr rfl)) (pss_cons (ps_set (i := 16) sc_law.nd rfl (by first | exact Or.inl rfl | exact Or.inr rfl) (pe_op op_cat (pe_ix ix_tup (pe_ix ix_list (pv 3) (pv 6) (fun _ _ => rfl)) pe_int (fun _ _ => rfl)) (pe_listRg rfl (by rfl) (fr_list T) (prg_1 (by rfl) (fr_range T) (pe_callB (call_min2' rfl) (by rfl) (fr_min T) (by decide +kernel) (pa_cons pe_int (pa_cons (pe_ix ix_tup (pe_ix ix_list (pv 3) (pv 6) (fun _ _ => rfl)) pe_int (fun _ _ => rfl)) pa_nil))))))) (pss_one (ps_if (pt_not (pt_val (pe_cal c_l_counts_hold hr (by decide) (by rfl) pass0 (pa_cons (pe_ix ix_tup (pe_ix ix_list (pv 3) (pv 6) (fun _ _ => rfl)) pe_int (fun _ _ => rfl)) (pa_cons (pe_ix ix_list (pv 4) (pv 6) (fun _ _ => rfl)) (pa_cons (pv 16) pa_nil)))))) (pss_one (ps_ret pe_bl)) pss_nil)))))) (pss_one (ps_ret pe_bl)))))))), ?_⟩
  rw [show L2.start n_law [.ref a] = [some (.ref a), none, none, none, none, none, none, none, none, none, none, none, none, none, none, none, none] from rfl]
  try dsimp only [cxOf, Cx.nox, Cx.wish, List.map]

  walk_at "rd"
  refine us_l_box hS hl fun p c H1 B1 k1 np nc => ?_
  walk_at "rd"
  refine us_l_draw B1 (by decide) (by decide) fun rows H2 r0 r1 B2 k2 => ?_
  walk_at "rd"
  refine us_l_made B2 fun t1 m1 s1 d1 l1 p1 g1 q1 H3 ht1 M1 hd1 hl1 hq1 hg1 B3 k3 nd1 => ?_
  walk_at "rd"
  refine us_l_made B3 fun t2 m2 s2 d2 l2 p2 g2 q2 H4 ht2 M2 hd2 hl2 hq2 hg2 B4 k4 nd2 => ?_
  walk_at "rd"
  refine ⟨sz1000 (by simp), fun L1 nL1 => ?_⟩
  walk_at "rd"
  intro b1 nb1
  walk_at "rd"
  intro b2 nb2
  walk_at "rd"
  refine ⟨sz1000 (by simp), fun L2 nL2 => ?_⟩
  have w0 : W K (upd (upd (upd (upd H4 L1 (.lst [.ref t1, .ref t2])) b1 (.dT [])) b2 (.dT [])) L2 (.lst [.ref b1, .ref b2])) p c L1 L2 0 := by
    have kA : Kp [] H4 (upd (upd (upd (upd H4 L1 (.lst [.ref t1, .ref t2])) b1 (.dT [])) b2 (.dT [])) L2 (.lst [.ref b1, .ref b2])) := by walk_at "kp"
    obtain ⟨dx1, hm1⟩ := M1.ob
    obtain ⟨dy1, u1, u2, u3, u4, hs1⟩ := M1.se.ex
    obtain ⟨ns3, x3, y3, z3, hp3, hc3, -⟩ := B3.ex
    have np1 : ∀ {x : Addr} {o : HO}, H3 x = some o → o ≠ .lst [.ref c, .int x3, .int y3, .int z3] → x ∉ [p] := fun {x o} h z => by simpa using ne_of h hp3 z
    have et : Tab (upd (upd (upd (upd H4 L1 (.lst [.ref t1, .ref t2])) b1 (.dT [])) b2 (.dT [])) L2 (.lst [.ref b1, .ref b2])) b1 (fun _ _ => 0) 0 := ⟨[], by walk_at "hp", Nat.le_refl _, fun _ _ => rfl⟩
    have et2 : Tab (upd (upd (upd (upd H4 L1 (.lst [.ref t1, .ref t2])) b1 (.dT [])) b2 (.dT [])) L2 (.lst [.ref b1, .ref b2])) b2 (fun _ _ => 0) 0 := ⟨[], by walk_at "hp", Nat.le_refl _, fun _ _ => rfl⟩
    have hd1' : H4 d1 = some (.dT []) := k4 _ _ hd1 (np1 hd1 (by intro z; cases z))
    have hl1' : l1 ∉ [p] := np1 hl1 (fun z => by injection z with z; exact ne_ints (fun _ e => by cases e) _ z)
    have e1 : d1 ≠ d2 := ne_of_none hd1 nd2
    have e2 : d1 ≠ b1 := by walk_at "ne"
    have e3 : d1 ≠ b2 := by walk_at "ne"
    have e4 : d2 ≠ b1 := by walk_at "ne"
    have e5 : d2 ≠ b2 := by walk_at "ne"
    have e6 : b1 ≠ b2 := by walk_at "ne"
    refine ⟨B4.k0 kA, b1, t1, m1, s1, d1, l1, b2, t2, m2, s2, d2, l2, p1, g1, p2, g2, q1, q2, fun _ _ => 0, fun _ _ => 0, ?_, upd_same, ?_, ?_, e1, e3, Ne.symm e4, e6⟩
    · walk_at "hp"
    · exact ⟨kA.g0 (k4 _ _ ht1 (np1 ht1 (by intro z; cases z))), (M1.kp k4 (np1 hm1 (by intro z; cases z)) (np1 hs1 (by intro z; cases z))).kp kA (by simp) (by simp), ⟨[], kA.g0 hd1', Nat.le_refl _, fun _ _ => rfl⟩, et, kA.g0 (k4 _ _ hl1 hl1'), hq1, hg1, e2⟩
    · exact ⟨kA.g0 ht2, M2.kp kA (by simp) (by simp), ⟨[], kA.g0 hd2, Nat.le_refl _, fun _ _ => rfl⟩, et2, kA.g0 hl2, hq2, hg2, e5⟩
  walk_at "rd"
  refine forR_by (fun i σ H5 => (∃ v5 v6 v7 v8 v9 v10 v11 v12 v13 v14 v15 v16, σ = [some (.ref a), some (.ref p), some (.int (8 + rows)), some (.ref L1), some (.ref L2), v5, v6, v7, v8, v9, v10, v11, v12, v13, v14, v15, v16]) ∧ W K H5 p c L1 L2 (14 * i))
    ⟨⟨_, _, _, _, _, _, _, _, _, _, _, _, rfl⟩, w0⟩ ?_ ?_
  · rintro i σ H5 hi ⟨⟨v5, v6, v7, v8, v9, v10, v11, v12, v13, v14, v15, v16, rfl⟩, w5⟩
    have hi2 : i < 61 := by omega
    walk_at "rd"
    refine us_l_draw w5.bx (by decide) (by decide) fun wh H6 wh0 wh1 B6 k6 => ?_
    have w6 := w5.box B6 k6
    obtain ⟨xs, ys, b, t, m, s, d, l, pa, r, q, f, hL1, hx1, hL2, hx2, O, back⟩ := w6.focus wh0 wh1
    have htp := O.tp
    have hli := O.li
    have hq0 : 0 < q.length := List.length_pos_iff.mpr O.ne.1
    have hq5 := O.ne.2
    walk_at "rd"
    refine us_l_draw B6 (by omega) (by omega) fun n7 H7 n70 n71 B7 k7 => ?_
    have S7 : Tn K H6 H7 p c m s d b pa f (14 * i) := (Tn.mk B6 O.mi O.ta O.tb Kp.refl : Tn K H6 H6 p c m s d b pa f (14 * i)).draw B7 k7
    have hli7 : H7 l = some (.lst (q.map V.int)) := k7 _ _ hli (O.offb B6).2.2.2.1
    walk_at "rd"
    refine us_l_draw B7 (by decide) (by decide) fun way H8 way0 way1 B8 k8 => ?_
    have S8 := S7.draw B8 k8
    walk_at "rd"
    refine rd_cut (fun σ' H9 => σ' = [some (.ref a), some (.ref p), some (.int (8 + rows)), some (.ref L1), some (.ref L2), some (.int (0 + i)), some (.int wh), some (.ref m), some (.int pa), some (.ref l), some (.ref b), some (.int (q.getD n7.toNat 0)), some (.int way), v13, v14, v15, v16] ∧ ∃ f', Tn K H6 H9 p c m s d b pa f' (14 * i + 2)) ?_ ?_
    · walk_at "rd"
      refine ite_d (fun h => ?_) (fun h => ?_)
      · obtain ⟨dx, hm⟩ := S8.mi.ob
        walk_at "rd"
        refine us_Misses_heard S8.mi S8.ta fun H9 M9 T9 k9 => ?_
        obtain ⟨kvs, hb, hk, hf⟩ := (S8.tb.kp k9 (by simpa using Ne.symm O.nd)).ex
        have l1 := putK_le kvs ([.inl (q.getD n7.toNat 0), .inr "quick"] : List Key) (.int 0)
        walk_at "rd"
        refine ⟨sz1000 (by simp), fun y1 ny1 => ?_⟩
        walk_at "rd"
        refine ⟨sz1000 (by simp), fun y2 ny2 => ?_⟩
        walk_at "rd"
        refine ⟨rfl, _, (S8.mut (f' := set2 (set2 f (q.getD n7.toNat 0) "quick" 0) (q.getD n7.toNat 0) "slow" 0) (n' := 14 * i + 2) ?_ ?_ ?_)⟩
        · have kx : Kp [b] H9 _ := (((Kp.new (o := .tup [.int (q.getD n7.toNat 0), .str "quick"]) ny1).wr (o := .dT (putK kvs [.inl (q.getD n7.toNat 0), .inr "quick"] (.int 0))) (show b ∈ [b] by simp)).nw (o := .tup [.int (q.getD n7.toNat 0), .str "slow"]) ny2).wr (o := .dT (putK (putK kvs [.inl (q.getD n7.toNat 0), .inr "quick"] (.int 0)) [.inl (q.getD n7.toNat 0), .inr "slow"] (.int 0))) (show b ∈ [b] by simp)
          exact (k9.mono (by simp)).trans (kx.mono (by simp))
        · have kx : Kp [b] H9 _ := (((Kp.new (o := .tup [.int (q.getD n7.toNat 0), .str "quick"]) ny1).wr (o := .dT (putK kvs [.inl (q.getD n7.toNat 0), .inr "quick"] (.int 0))) (show b ∈ [b] by simp)).nw (o := .tup [.int (q.getD n7.toNat 0), .str "slow"]) ny2).wr (o := .dT (putK (putK kvs [.inl (q.getD n7.toNat 0), .inr "quick"] (.int 0)) [.inl (q.getD n7.toNat 0), .inr "slow"] (.int 0))) (show b ∈ [b] by simp)
          exact (T9.kp kx (by simpa using O.nd)).mono (by omega)
        · have l2 := putK_le (putK kvs [.inl (q.getD n7.toNat 0), .inr "quick"] (.int 0)) ([.inl (q.getD n7.toNat 0), .inr "slow"] : List Key) (.int 0)
          exact ⟨_, upd_same, by omega, tab_put (tab_put hf)⟩
      · walk_at "rd"
        exact ⟨rfl, f, S8.up (by omega)⟩
    · rintro σ' H9 ⟨rfl, f', S9⟩
      walk_at "rd"
      refine rd_cut (fun σ' H10 => (∃ v13 v14, σ' = [some (.ref a), some (.ref p), some (.int (8 + rows)), some (.ref L1), some (.ref L2), some (.int (0 + i)), some (.int wh), some (.ref m), some (.int pa), some (.ref l), some (.ref b), some (.int (q.getD n7.toNat 0)), some (.int way), v13, v14, v15, v16]) ∧ ∃ f', Tn K H6 H10 p c m s d b pa f' (14 * i + 14)) ?_ ?_
      · walk_at "rd"
        refine ite_d (fun h => ?_) (fun h => ?_)
        · walk_at "rd"
          refine ⟨sz1000 (by simp), fun ka nka => ?_⟩
          have S10 := S9.k0 (Kp.new (o := .lst [.str "quick", .str "slow"]) nka)
          walk_at "rd"
          refine us_l_draw S10.bx (by decide) (by decide) fun n11 H11 n110 n111 B11 k11 => ?_
          have S11 := S10.draw B11 k11
          have hka : H11 ka = some (.lst [.str "quick", .str "slow"]) := by
            obtain ⟨ns', x', y', z', hp', -⟩ := S10.bx.ex
            exact k11.g1 (ne_of upd_same hp' (by intro z; cases z)) upd_same
          obtain ⟨z, hz⟩ : ∃ z, atI [V.str "quick", V.str "slow"] n11 = some (.str z) := by
            have : n11 = 0 ∨ n11 = 1 := by omega
            rcases this with rfl | rfl
            · exact ⟨_, rfl⟩
            · exact ⟨_, rfl⟩
          walk_at "rd"
          refine rd_cut (fun σ' H12 => ∃ times, 0 ≤ times ∧ times ≤ 12 ∧ σ' = [some (.ref a), some (.ref p), some (.int (8 + rows)), some (.ref L1), some (.ref L2), some (.int (0 + i)), some (.int wh), some (.ref m), some (.int pa), some (.ref l), some (.ref b), some (.int (q.getD n7.toNat 0)), some (.int way), some (.str z), some (.int times), v15, v16] ∧ Tn K H6 H12 p c m s d b pa f' (14 * i + 2)) ?_ ?_
          · walk_at "rd"
            refine ite_d (fun h => ?_) (fun h => ?_)
            · walk_at "rd"
              refine us_l_draw B11 (by decide) (by decide) fun n12 H12 n120 n121 B12 k12 => ?_
              walk_at "rd"
              exact ⟨_, by omega, by omega, rfl, S11.draw B12 k12⟩
            · walk_at "rd"
              exact ⟨1, by decide, by decide, rfl, S11⟩
          · rintro σ' H12 ⟨times, t0, t12, rfl, S12⟩
            walk_at "rd"
            refine us_l_misses_hold S12.mi S12.ta S12.tb (by omega) ⟨t0, t12⟩ O.nd fun H13 g M13 T13 U13 k13 => ?_
            walk_at "rd"
            exact ⟨⟨_, _, rfl⟩, g, S12.mut k13 T13 U13⟩
        · walk_at "rd"
          exact ⟨⟨_, _, rfl⟩, f', S9.up (by omega)⟩
      · rintro σ' H10 ⟨⟨v13, v14, rfl⟩, f'', S10⟩
        have fin : ∀ H', Tn K H6 H' p c m s d b pa f'' (14 * i + 14) → W K H' p c L1 L2 (14 * (i + 1)) := fun H' S => back H' f'' _ (by omega) S.k S.bx S.mi S.ta S.tb
        walk_at "rd"
        refine us_l_draw S10.bx (by decide) (by decide) fun n11 H11 n110 n111 B11 k11 => ?_
        have S11 := S10.draw B11 k11
        walk_at "rd"
        refine ite_d (fun h => ?_) (fun h => ?_)
        · walk_at "rd"
          refine ⟨sz1000 (by simp), fun sp nsp => ?_⟩
          have S12 := S11.k0 (Kp.new (o := .lst [.int (q.getD n7.toNat 0)]) nsp)
          walk_at "rd"
          refine us_l_counts_hold (ps := [q.getD n7.toNat 0]) S12.mi S12.ta S12.tb (SqL.of upd_same) fun H13 k13 => ?_
          walk_at "rd"
          exact ⟨⟨_, _, _, _, _, _, _, _, _, _, _, _, rfl⟩, fin _ (S12.k0 k13)⟩
        · walk_at "rd"
          exact ⟨⟨_, _, _, _, _, _, _, _, _, _, _, _, rfl⟩, fin _ S11⟩
  · rintro σ H5 ⟨⟨v5, v6, v7, v8, v9, v10, v11, v12, v13, v14, v15, v16, rfl⟩, w5⟩
    generalize 14 * (8 + rows).toNat = NN at w5
    walk_at "rd"
    refine forR_by (fun i σ H6 => (∃ v5 v6 v7 v8 v9 v10 v11 v12 v13 v14 v15 v16, σ = [some (.ref a), some (.ref p), some (.int (8 + rows)), some (.ref L1), some (.ref L2), v5, v6, v7, v8, v9, v10, v11, v12, v13, v14, v15, v16]) ∧ W K H6 p c L1 L2 NN) ⟨⟨_, _, _, _, _, _, _, _, _, _, _, _, rfl⟩, w5⟩ ?_ ?_
    · rintro i σ H6 hi ⟨⟨v5, v6, v7, v8, v9, v10, v11, v12, v13, v14, v15, v16, rfl⟩, w6⟩
      walk_at "rd"
      refine forR_by (fun j σ H7 => (∃ v5 v6 v7 v8 v9 v10 v11 v12 v13 v14 v15 v16, σ = [some (.ref a), some (.ref p), some (.int (8 + rows)), some (.ref L1), some (.ref L2), v5, v6, v7, v8, v9, v10, v11, v12, v13, v14, v15, v16]) ∧ W K H7 p c L1 L2 NN) ⟨⟨_, _, _, _, _, _, _, _, _, _, _, _, rfl⟩, w6⟩ ?_ ?_
      · rintro j σ H7 hj ⟨⟨v5, v6, v7, v8, v9, v10, v11, v12, v13, v14, v15, v16, rfl⟩, w7⟩
        obtain ⟨xs, ys, b, t, m, s, d, l, pa, r, q, f, hL1, hx1, hL2, hx2, O, back⟩ := w7.focus (i := 0 + (j : Int)) (by omega) (by omega)
        have htp := O.tp
        have hli := O.li
        have hq5 := O.ne.2
        have hr := O.ri
        walk_at "rd"
        refine ⟨RgOk.of_le (by omega) (by omega) (by omega) (by omega), fun rg nrg => ?_⟩
        have hrl : rg ≠ l := Ne.symm (ne_of_none hli nrg)
        refine rd_cat (by walk_at "hp") upd_same (by rw [rgV_length, List.length_map]; exact sz1000 (by omega)) fun sp nsp => ?_
        have S7 : Tn K H7 H7 p c m s d b pa f NN := ⟨w7.bx, O.mi, O.ta, O.tb, Kp.refl⟩
        have S8 := S7.k0 ((Kp.new (o := .lst (rgV 0 (min 8 r))) nrg).nw (o := .lst (q.map V.int ++ rgV 0 (min 8 r))) nsp)
        walk_at "rd"
        refine us_l_counts_hold (ps := q ++ (List.range (min 8 r).toNat).map fun (i : Nat) => (i : Int)) S8.mi S8.ta S8.tb (SqL.of ?_) fun H9 k9 => ?_
        · rw [upd_same, List.map_append, rgV_0]
        · walk_at "rd"
          have S9 := S8.k0 k9
          exact ⟨⟨_, _, _, _, _, _, _, _, _, _, _, _, rfl⟩, back _ f _ (Nat.le_refl _) S9.k S9.bx S9.mi S9.ta S9.tb⟩
      · rintro σ H7 ⟨⟨v5, v6, v7, v8, v9, v10, v11, v12, v13, v14, v15, v16, rfl⟩, w7⟩
        exact ⟨⟨_, _, _, _, _, _, _, _, _, _, _, _, rfl⟩, w7⟩
    · rintro σ H6 ⟨⟨v5, v6, v7, v8, v9, v10, v11, v12, v13, v14, v15, v16, rfl⟩, w6⟩
      walk_at "rd"
      exact kk _
end

abbrev hk : PySem.W.Hook := hookM 6 fa fn ex
def ob (s : PySem.W.SharedT) : AlM := obsM 6 fa fn ex (HandSHeadRun.getT s)
theorem ob_eq (s : PySem.W.SharedT) : ob s = hk.obs s.abs := obsM_eq (HandSHeadRun.getT_eq s)
def names : List Str := (["_wall", "GroupError", "InvalidSetting", "whole", "Setting", "KINDS", "Misses", "_law_box", "_law_draw", "_law_bits", "_law_patience", "_law_made", "_law_counts_hold", "_law_misses_hold"] : List Str)
theorem run (w : World) : HandSHeadRun.RunEq R (PySem.W.view R.prog [18]) hk ob 2000 names w := by
  intro os
  kernel_rfl
theorem law_all {P : Program} {w : World} {K : PySem.W.Frag} {mg : Str → Option Value} (T : Cx K mg) :
    ∃ fd : FuncData, (∀ (s : Shared) (v : Value), BindsTo s fd ⟨[v], []⟩ [("_law_script", v)]) ∧ ∀ base : Heap, FnOk P w K mg base CX0 5 (ga K "law") fd ["_law_script"] (sp_law K) := by
  obtain ⟨fd, F⟩ := T.says.def_ 13 (d := d_law) rfl
  have b := FunD.bindsA (ps := ["_law_script"]) F fun _ _ _ _ _ _ us hl => match us, hl with | [_], _ => rfl
  refine ⟨fd, fun s v => b s [v] rfl, fun base => ?_⟩
  obtain ⟨fd2, F2, ok⟩ := f_law (P := P) (w := w) (base := base) T
  have e : fd2 = fd := by
    obtain ⟨oc, od, dV, kV, doc, pm, an, cdv, ct, osl, e1, l1, -⟩ := F.ex
    obtain ⟨oc2, od2, dV2, kV2, doc2, pm2, an2, cdv2, ct2, osl2, e2, l2, -⟩ := F2.ex
    rw [l1] at l2
    injection l2 with l3
    injection l3 with _ _ l4 _
    injection l4 with l5
    exact l5.symm
  subst e
  exact ok

end My

open PySem PySem.W PySem.Calls PyProof.Rows
set_option maxRecDepth 100000 in
set_option maxHeartbeats 0 in
theorem PySem.Challenge.cw_livingroll_k26_misses_in_a_row_holds : PySem.Challenge.rw_livingroll_k26_misses_in_a_row.Holds := by
  w_on; o_law
  refine HandSHeadRun.head_any (r := OpenLaw.row PySem.Challenge.rw_livingroll_k26_misses_in_a_row) (q := view (OpenLaw.row PySem.Challenge.rw_livingroll_k26_misses_in_a_row).prog [18]) (H := My.hk) (ob := My.ob) (M := 2000) (loose := My.names) (d := HandSHeadRun.topDef (OpenLaw.row PySem.Challenge.rw_livingroll_k26_misses_in_a_row).prog 18) (kwd := []) My.ob_eq
    (by kernel_rfl) (fun s => by kernel_rfl) My.run (by kernel_rfl) (by kernel_rfl) (by kernel_rfl) (by rfl) (by first | assumption | decide +kernel) (by decide +kernel) ⟨rfl, rfl, rfl, rfl, rfl, by decide +kernel⟩ ?hw ?hc
  case hw => w_witness2
  case hc =>
    refine L2.walk_ofE (l := PySem.Challenge.rw_livingroll_k26_misses_in_a_row) (n := 63) (k := 5) (x := "_law_script") (CX := L2.CX0) rfl (by decide) (by kernel_rfl) ⟨rfl, by decide, by decide⟩ ?F (fun _ _ _ _ z => z)
    intro w mg fa h Y G hmg0
    obtain ⟨K, KX, c, cx⟩ := Y
    have hmg : mg ("law" : PySem.Str) = some (.ref fa) := by
      have e : (HandSHeadRun.topDef (OpenLaw.row PySem.Challenge.rw_livingroll_k26_misses_in_a_row).prog 18).name = ("law" : PySem.Str) := by kernel_rfl
      rw [← e]
      exact hmg0
    have T : My.Cx K mg := ⟨c, cx, h, KX, G⟩
    have e := hmg.symm.trans (My.gl_law T)
    cases e
    obtain ⟨fd, hb, hF⟩ := My.law_all (P := PySem.Challenge.pw_livingroll_k26_misses_in_a_row) (w := w) T
    exact ⟨K, fd, My.sp_law K, KX, hb, fun H a ns hl _ hS => ⟨a, ns, rfl, hS, hl, fun _ => rfl⟩, fun base _ _ => hF base⟩
