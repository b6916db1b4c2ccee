import PyProof.Rows.All
import Wide.All
import OpenK.AllK
import Wide.FinOn
import KE.KStateDown
import Lean
import HandS.ForMost
import HandS.Flow
import HandS.IsInst
import HandS.DictTup
import HandS.Codes
import HandS.Defaults
import HandS.Head0
import HandS.Head1
import HandS.Head2
import HandS.HeadEnd
import HandS.HeadHook1
import HandS.HeadHook2
import HandS.HeadHook3
import HandS.Conv
import HandS.Property
import KE.SortKeyHeap
import KE.KMinKey
import HandS.Lambda
import HandS.Sort
import HandS.HeadHook4
import HandS.HeadWalk
import HandS.Property
import HandS.Style
import HandS.MakeKwOnly
import HandS.Wide
import HandS.More
import HandS.DictComp
import HandS.DeepEq
import KE.KExcSuper
import HandS.ExcOwn
import HandS.CallSlots
import HandS.ExcIs
import HandS.ExcField
import HandS.HeadWalk
import HandS.WordsExc
import KE.DataFind
import HandS.Deep
import HandS.GenList
import HandS.Flow
import PyProof.LongRange
import HandS.SortInts
import HandS.SetFor
import HandS.Finally
import PyProof.ReprHeadsTuple
import PyProof.ReprHeadsEmpty
import PyProof.StrOps2
import PyProof.StrLawsRepr
import PySem.Challenge.RW_livingroll_k51_keepers_by_walk
set_option Elab.async false
set_option linter.all false
set_option maxRecDepth 100000
set_option maxHeartbeats 4000000
/-! own layer: the head by facts, one lemma for each reading, a step tactic -/
namespace RD
open PySem PySem.Spec PyProof.Rows L2 He

/-! ### frames: what stays -/
def Kp (ps : List Addr) (H H' : Hp) : Prop := ∀ b o, H b = some o → b ∉ ps → H' b = some o
theorem Kp.refl {ps : List Addr} {H : Hp} : Kp ps H H := fun _ _ h _ => h
theorem Kp.trans {ps : List Addr} {H H1 H2 : Hp} (a : Kp ps H H1) (b : Kp ps H1 H2) : Kp ps H H2 := fun c o h n => b c o (a c o h n) n
theorem Kp.mono {ps qs : List Addr} {H H' : Hp} (a : Kp ps H H') (h : ∀ p, p ∈ ps → p ∈ qs) : Kp qs H H' := fun c o e n => a c o e fun m => n (h c m)
theorem Kp.of0 {qs : List Addr} {H H' : Hp} (a : Kp [] H H') : Kp qs H H' := fun c o e _ => a c o e (by simp)
theorem Kp.new {ps : List Addr} {H : Hp} {p : Addr} {o : HO} (h : H p = none) : Kp ps H (upd H p o) := fun b u e _ => by
  rw [upd_ne (ne_of_none e h)]
  exact e
theorem Kp.wr {ps : List Addr} {H H' : Hp} {p : Addr} {o : HO} (a : Kp ps H H') (h : p ∈ ps) : Kp ps H (upd H' p o) := fun b u e n => by
  have hb : b ≠ p := by
    intro z
    subst z
    exact n h
  rw [upd_ne hb]
  exact a b u e n
theorem Kp.nw {ps : List Addr} {H H' : Hp} {p : Addr} {o : HO} (a : Kp ps H H') (h : H' p = none) : Kp ps H (upd H' p o) := a.trans (Kp.new h)
/-- an object made behind H is written -/
theorem Kp.mine {ps : List Addr} {H H' : Hp} {p : Addr} {o : HO} (a : Kp ps H H') (h : H p = none) : Kp ps H (upd H' p o) := fun b u e n => by
  rw [upd_ne (ne_of_none e h)]
  exact a b u e n
theorem Kp.g0 {H H' : Hp} {b : Addr} {o : HO} (a : Kp [] H H') (e : H b = some o) : H' b = some o := a b o e (by simp)
theorem Kp.g1 {p : Addr} {H H' : Hp} {b : Addr} {o : HO} (a : Kp [p] H H') (n : b ≠ p) (e : H b = some o) : H' b = some o := a b o e (by simp [n])
theorem Kp.g2 {p q : Addr} {H H' : Hp} {b : Addr} {o : HO} (a : Kp [p, q] H H') (n : b ≠ p) (m : b ≠ q) (e : H b = some o) : H' b = some o := a b o e (by simp [n, m])
theorem Kp.g3 {p q r : Addr} {H H' : Hp} {b : Addr} {o : HO} (a : Kp [p, q, r] H H') (n : b ≠ p) (m : b ≠ q) (l : b ≠ r) (e : H b = some o) : H' b = some o := a b o e (by simp [n, m, l])
theorem Kp.back {ps : List Addr} {H H' : Hp} (a : Kp ps H H') {l : Addr} (h : H' l = none) (n : l ∉ ps) : H l = none := by
  cases q : H l with
  | none => rfl
  | some o =>
    rw [a l o q n] at h
    cases h
theorem Kp.via {ps qs : List Addr} {H H' H2 : Hp} (a : Kp ps H H') (b : Kp qs H' H2) (n : ∀ q, q ∈ qs → q ∈ ps ∨ H q = none) : Kp ps H H2 := fun c o e m => b c o (a c o e m) fun z => by
  rcases n c z with z | z
  · exact m z
  · rw [z] at e
    cases e
theorem Kp.via1 {ps : List Addr} {p : Addr} {H H' H2 : Hp} (a : Kp ps H H') (b : Kp [p] H' H2) (n : H p = none) : Kp ps H H2 := a.via b fun q hq => by
  rw [List.mem_singleton.mp hq]
  exact .inr n
theorem rd_kp {ps : List Addr} {H H' : Hp} {b : Addr} {u : HO} (a : Kp ps H H') (n : b ∉ ps) (h : Rd H b u) : Rd H' b u := by
  rcases h with h | ⟨o, h⟩
  · exact .inl (a _ _ h n)
  · exact .inr ⟨o, a _ _ h n⟩
theorem sl_kp {K : PySem.W.Frag} {ps : List Addr} {H H' : Hp} {b : Addr} {xs : List V} (a : Kp ps H H') (n : b ∉ ps) (h : SqL K H b xs) : SqL K H' b xs := by
  rcases h with h | h
  · exact .inl (rd_kp a n h)
  · exact .inr h
theorem st_kp {K : PySem.W.Frag} {ps : List Addr} {H H' : Hp} {b : Addr} {xs : List V} (a : Kp ps H H') (n : b ∉ ps) (h : SqT K H b xs) : SqT K H' b xs := by
  rcases h with h | h
  · exact .inl (rd_kp a n h)
  · exact .inr h
theorem sl_upd {K : PySem.W.Frag} {H : Hp} {b p : Addr} {o : HO} {xs : List V} (n : b ≠ p) (h : SqL K H b xs) : SqL K (upd H p o) b xs :=
  sl_kp (ps := [p]) (fun c u e m => by rw [upd_ne (by simpa using m)]; exact e) (by simpa using n) h
theorem st_upd {K : PySem.W.Frag} {H : Hp} {b p : Addr} {o : HO} {xs : List V} (n : b ≠ p) (h : SqT K H b xs) : SqT K (upd H p o) b xs :=
  st_kp (ps := [p]) (fun c u e m => by rw [upd_ne (by simpa using m)]; exact e) (by simpa using n) h
theorem hu_ne {H : Hp} {a b : Addr} {o u : HO} (n : b ≠ a) (e : H b = some u) : upd H a o b = some u := by
  rw [upd_ne n]
  exact e
theorem upd_is {H : Hp} {a : Addr} {o o' : HO} (e : o = o') : upd H a o a = some o' := by
  rw [e]
  exact upd_same
theorem ne_fresh {H : Hp} {a b : Addr} {o : HO} (h : upd H a o b = none) : a ≠ b := ne_of_none upd_same h
theorem hn_ne {H : Hp} {a b : Addr} {o : HO} (n : b ≠ a) (e : H b = none) : upd H a o b = none := by
  rw [upd_ne n]
  exact e

/-! ### readings, one lemma each -/
section
variable {K : PySem.W.Frag} {σ : L2.St} {H : Hp} {nx bk ct : L2.St → Hp → Prop} {rt : VK} {t u : TS} {te ta tb tc : TE} {tt tu : TT} {ar : TA} {Q : VK} {QB : Bool → Hp → Prop} {QA : List V → Hp → Prop} {v x y : V} {i j : Int}
abbrev En (nx : L2.St → Hp → Prop) (rt : VK) (bk ct : L2.St → Hp → Prop) : Ends := ⟨nx, rt, bk, ct⟩
theorem rd_seq (h : t ⟨u ⟨nx, rt, bk, ct⟩, rt, bk, ct⟩ σ H) : tSeq t u ⟨nx, rt, bk, ct⟩ σ H := h
theorem rd_next (h : nx σ H) : tNext ⟨nx, rt, bk, ct⟩ σ H := h
theorem rd_brk (h : bk σ H) : tBreak ⟨nx, rt, bk, ct⟩ σ H := h
theorem rd_cont (h : ct σ H) : tCont ⟨nx, rt, bk, ct⟩ σ H := h
theorem rd_asg {g : TG} (h : te σ H fun x H1 => g x σ H1 nx) : tAsg te g ⟨nx, rt, bk, ct⟩ σ H := h
theorem rd_ret (h : te σ H rt) : tRet te ⟨nx, rt, bk, ct⟩ σ H := h
theorem rd_retN (h : rt .non H) : tRetN ⟨nx, rt, bk, ct⟩ σ H := h
theorem rd_drop (h : te σ H fun _ H1 => nx σ H1) : tDrop te ⟨nx, rt, bk, ct⟩ σ H := h
theorem rd_ifS {D : Ends} (h : tt σ H fun b H1 => if b = true then t D σ H1 else u D σ H1) : tIfS tt t u D σ H := h
theorem rd_cut (M : L2.St → Hp → Prop) (h : t ⟨M, rt, bk, ct⟩ σ H) (k : ∀ σ' H', M σ' H' → u ⟨nx, rt, bk, ct⟩ σ' H') : C8.tCut t u ⟨nx, rt, bk, ct⟩ σ H := ⟨M, h, k⟩
theorem rd_gname {n : Nat} {Q : L2.St → Hp → Prop} (h : Q (σ.set n (some v)) H) : gName n v σ H Q := h
theorem rd_gsub {to ti : TE} {s : TSet} {Q : L2.St → Hp → Prop} (h : to σ H fun o H1 => ti σ H1 fun i H2 => s o i v H2 fun H3 => Q σ H3) : gSub to ti s v σ H Q := h
theorem rd_gtup {n : Nat} {g : TGs} {a : Addr} {xs : List V} {Q : L2.St → Hp → Prop} (h : SqT K H a xs) (e : xs.length = n) (q : g xs σ H Q) : gTup K n g (.ref a) σ H Q := ⟨a, xs, rfl, h, e, q⟩
theorem rd_gcons {g : TG} {gs : TGs} {r : List V} {Q : L2.St → Hp → Prop} (q : g v σ H fun σ' H' => gs r σ' H' Q) : gCons g gs (v :: r) σ H Q := ⟨v, r, rfl, q⟩
theorem rd_gnil {Q : L2.St → Hp → Prop} (q : Q σ H) : gNil [] σ H Q := ⟨rfl, q⟩
theorem rd_setL {p : Addr} {xs : List V} {k : Int} {j : Nat} {Q : Hp → Prop} (hp : H p = some (.lst xs)) (hj : ixN xs.length k = some j) (q : Q (upd H p (.lst (xs.set j v)))) : rSetL (.ref p) (.int k) v H Q := ⟨p, xs, k, j, rfl, rfl, hp, hj, q⟩
theorem rd_var {n : Nat} (e : σ[n]? = some (some v)) (h : Q v H) : tVar n σ H Q := ⟨v, e, h⟩
theorem rd_c (h : Q v H) : tC v σ H Q := h
theorem rd_op {r : R2} (h : ta σ H fun x H1 => tb σ H1 fun y H2 => r x y H2 Q) : tOp r ta tb σ H Q := h
theorem rd_un {r : V → Hp → VK → Prop} (h : ta σ H fun x H1 => r x H1 Q) : tUn r ta σ H Q := h
theorem rd_I0 {g : Int → Int → V} (h : Q (g i j) H) : rI0 g (.int i) (.int j) H Q := ⟨i, j, rfl, rfl, h⟩
theorem rd_I {C : Int → Int → Prop} {g : Int → Int → V} (c : C i j) (h : Q (g i j) H) : rI C g (.int i) (.int j) H Q := ⟨i, j, rfl, rfl, c, h⟩
theorem rd_U {g : Int → V} (h : Q (g i) H) : rU g (.int i) H Q := ⟨i, rfl, h⟩
theorem rd_eqI (h : Q (.bl (decide (i = j))) H) : rEq (.int i) (.int j) H Q := ⟨rfl, by
  rw [show decide (V.int i = V.int j) = decide (i = j) from decide_eq_decide.mpr ⟨fun e => V.int.inj e, fun e => congrArg V.int e⟩]
  exact h⟩
theorem rd_neI (h : Q (.bl (!decide (i = j))) H) : rNe (.int i) (.int j) H Q := ⟨rfl, by
  rw [show decide (V.int i = V.int j) = decide (i = j) from decide_eq_decide.mpr ⟨fun e => V.int.inj e, fun e => congrArg V.int e⟩]
  exact h⟩
theorem rd_eqS {a b : Str} (h : Q (.bl (decide (a = b))) H) : rEq (.str a) (.str b) H Q := ⟨rfl, by
  rw [show decide (V.str a = V.str b) = decide (a = b) from decide_eq_decide.mpr ⟨fun e => V.str.inj e, fun e => congrArg V.str e⟩]
  exact h⟩
theorem rd_neS {a b : Str} (h : Q (.bl (!decide (a = b))) H) : rNe (.str a) (.str b) H Q := ⟨rfl, by
  rw [show decide (V.str a = V.str b) = decide (a = b) from decide_eq_decide.mpr ⟨fun e => V.str.inj e, fun e => congrArg V.str e⟩]
  exact h⟩
theorem rd_eqB {a b : Bool} (h : Q (.bl (decide (a = b))) H) : rEq (.bl a) (.bl b) H Q := ⟨rfl, by
  rw [show decide (V.bl a = V.bl b) = decide (a = b) from decide_eq_decide.mpr ⟨fun e => V.bl.inj e, fun e => congrArg V.bl e⟩]
  exact h⟩
theorem rd_neB {a b : Bool} (h : Q (.bl (!decide (a = b))) H) : rNe (.bl a) (.bl b) H Q := ⟨rfl, by
  rw [show decide (V.bl a = V.bl b) = decide (a = b) from decide_eq_decide.mpr ⟨fun e => V.bl.inj e, fun e => congrArg V.bl e⟩]
  exact h⟩
theorem rd_eq (s : scal x y = true) (h : Q (.bl (decide (x = y))) H) : rEq x y H Q := ⟨s, h⟩
theorem rd_ne (s : scal x y = true) (h : Q (.bl (!decide (x = y))) H) : rNe x y H Q := ⟨s, h⟩
theorem rd_test (h : te σ H fun x H1 => ∃ k, x = .bl k ∧ QB k H1) : tTest te σ H QB := h
theorem rd_tB (h : te σ H fun x H1 => ∃ k, x = .bl k ∧ QB k H1) : tB te σ H QB := h
theorem rd_exb {b : Bool} {P : Bool → Prop} (h : P b) : ∃ k, V.bl b = V.bl k ∧ P k := ⟨b, rfl, h⟩
theorem rd_and (h : tt σ H fun c H1 => if c = true then tu σ H1 QB else QB false H1) : tAnd tt tu σ H QB := h
theorem rd_or (h : tt σ H fun c H1 => if c = true then QB true H1 else tu σ H1 QB) : tOr tt tu σ H QB := h
theorem rd_not (h : tt σ H fun c H1 => QB (!c) H1) : tNot tt σ H QB := h
theorem rd_andV (h : ta σ H fun x H1 => ∃ c, x = .bl c ∧ if c = true then tb σ H1 Q else Q (.bl false) H1) : tAndV ta tb σ H Q := h
theorem rd_orV (h : ta σ H fun x H1 => ∃ c, x = .bl c ∧ if c = true then Q (.bl true) H1 else tb σ H1 Q) : tOrV ta tb σ H Q := h
theorem rd_notV (h : ta σ H fun x H1 => ∃ c, x = .bl c ∧ Q (.bl (!c)) H1) : tNotV ta σ H Q := h
theorem rd_ifE (h : tt σ H fun c H1 => if c = true then ta σ H1 Q else tb σ H1 Q) : tIf tt ta tb σ H Q := h
theorem rd_isN (h : ta σ H fun x H1 => Q (.bl (decide (x = .non))) H1) : tIsN ta σ H Q := h
theorem rd_notN (h : ta σ H fun x H1 => Q (.bl (!decide (x = .non))) H1) : tNotN ta σ H Q := h
theorem rd_tru {b : Bool} {P : Bool → Prop} (e : TruV K x H b) (h : P b) : ∃ k, TruV K x H k ∧ P k := ⟨b, e, h⟩
theorem rd_CB {r : List V → Hp → VK → Prop} (h : ar σ H fun vs H1 => r vs H1 Q) : tCB r ar σ H Q := h
theorem rd_nil (h : QA [] H) : tNil σ H QA := h
theorem rd_cons {tr : TA} (h : ta σ H fun x H1 => tr σ H1 fun xs H2 => QA (x :: xs) H2) : tCons ta tr σ H QA := h
theorem rd_call {sp : Sp} {E : XK} (h : ar σ H fun vs H1 => sp vs H1 Q E) : tCall sp [] E ar σ H Q := by
  unfold tCall
  have e : (fun vs H1 => sp (vs ++ []) H1 Q E) = fun vs H1 => sp vs H1 Q E := by
    funext vs H1
    rw [List.append_nil]
  rw [e]
  exact h
theorem rd_make {C : Addr} {sp : Sp} {dvs : List V} {E : XK} (h : ar σ H fun vs H1 => ∀ x dx, H1 x = none → H1 dx = none → dx ≠ x → sp (.ref x :: (vs ++ dvs)) (upd (upd H1 dx (.own x)) x (.ins C dx [])) (fun v H2 => v = .non ∧ Q (.ref x) H2) E) : tMake C sp dvs E ar σ H Q := h
theorem rd_callD {sp : Sp} {dvs : List V} {E : XK} (h : ar σ H fun vs H1 => sp (vs ++ dvs) H1 Q E) : tCall sp dvs E ar σ H Q := h
theorem rd_tup (h : ar σ H fun xs H1 => xs.length ≤ sizeLine ∧ ∀ p, H1 p = none → Q (.ref p) (upd H1 p (.tup xs))) : tTup ar σ H Q := h
theorem rd_lst (h : ar σ H fun xs H1 => xs.length ≤ sizeLine ∧ ∀ p, H1 p = none → Q (.ref p) (upd H1 p (.lst xs))) : tLst ar σ H Q := h
theorem rd_ixL {p : Addr} {xs : List V} (h : SqL K H p xs) (a : atI xs i = some v) (q : Q v H) : rIxL K (.ref p) (.int i) H Q := ⟨p, xs, i, v, rfl, rfl, h, a, q⟩
theorem rd_ixT {p : Addr} {xs : List V} (h : SqT K H p xs) (a : atI xs i = some v) (q : Q v H) : rIxT K (.ref p) (.int i) H Q := ⟨p, xs, i, v, rfl, rfl, h, a, q⟩
theorem rd_fld {f : Str} {a C dx : Addr} {fs : List (Str × V)} {P : V → Hp → Prop} (h : H a = some (.ins C dx fs)) (c : Cls K C) (n : NoAttr K C f) (l : fs.lookup f = some v) (q : Q v H) :
    ∃ a' C' dx' fs' v', V.ref a = V.ref a' ∧ H a' = some (.ins C' dx' fs') ∧ Cls K C' ∧ NoAttr K C' f ∧ fs'.lookup f = some v' ∧ Q v' H := ⟨a, C, dx, fs, v, rfl, h, c, n, l, q⟩
theorem rd_meth {C : Addr} {m : Str} {sp : Sp} {E : XK} (h : ta σ H fun x H1 => ∃ a dx fs, x = .ref a ∧ H1 a = some (.ins C dx fs) ∧ fs.lookup m = none ∧ ar σ H1 fun vs H2 => sp (x :: vs) H2 Q E) : tMeth C m sp [] E ta ar σ H Q := by
  unfold tMeth
  have e : (fun (x : V) (H1 : Hp) => ∃ a dx fs, x = V.ref a ∧ H1 a = some (.ins C dx fs) ∧ fs.lookup m = none ∧ ar σ H1 fun vs H2 => sp (x :: (vs ++ [])) H2 Q E) =
      fun (x : V) (H1 : Hp) => ∃ a dx fs, x = V.ref a ∧ H1 a = some (.ins C dx fs) ∧ fs.lookup m = none ∧ ar σ H1 fun vs H2 => sp (x :: vs) H2 Q E := by
    funext x H1
    simp only [List.append_nil]
  rw [e]
  exact h
theorem rd_methX {C a dx : Addr} {m : Str} {fs : List (Str × V)} {R : Prop} (h : H a = some (.ins C dx fs)) (l : fs.lookup m = none) (q : R) : ∃ a' dx' fs', V.ref a = V.ref a' ∧ H a' = some (.ins C dx' fs') ∧ fs'.lookup m = none ∧ R := ⟨a, dx, fs, rfl, h, l, q⟩
theorem rd_bm {T : String} {r : V → List V → Hp → VK → Prop} (h : ta σ H fun x H1 => tyV K T x H1 ∧ ar σ H1 fun xs H2 => r x xs H2 Q) : tBM K T r ta ar σ H Q := h
theorem rd_bm0 {T : String} {r : V → List V → Hp → VK → Prop} (h : ta σ H fun x H1 => tyV K T x H1 ∧ r x [] H1 Q) : tBM0 K T r ta σ H Q := h
theorem ty_l {p : Addr} {xs : List V} {B : Prop} (h : SqL K H p xs) (q : B) : tyV K "list" (.ref p) H ∧ B := ⟨.inl ⟨rfl, xs, h⟩, q⟩
theorem rd_append {p : Addr} {xs : List V} (h : H p = some (.lst xs)) (l : xs.length < sizeLine) (q : Q .non (upd H p (.lst (xs ++ [v])))) : rAppend (.ref p) [v] H Q := ⟨p, xs, v, rfl, rfl, h, l, q⟩
/-! #### built-ins under names -/
def rInt1 : List V → Hp → VK → Prop := fun xs H Q => (∃ i, xs = [.int i] ∧ Q (.int i) H) ∨ ∃ k, xs = [.bl k] ∧ Q (.int (if k then 1 else 0)) H
theorem call_int1' {X : Cx} : CallR X (.type "int") rInt1 := call_int1
theorem rd_int1 (h : Q (.int i) H) : rInt1 [.int i] H Q := .inl ⟨i, rfl, h⟩
def rAbs : List V → Hp → VK → Prop := fun xs H Q => ∃ i, xs = [.int i] ∧ Q (.int (if i < 0 then -i else i)) H
theorem call_abs' {X : Cx} : CallR X (.builtin "abs") rAbs := call_abs
theorem rd_abs (h : Q (.int (i.natAbs : Int)) H) : rAbs [.int i] H Q := ⟨i, rfl, by
  rw [show (if i < 0 then -i else i) = (i.natAbs : Int) from by split <;> omega]
  exact h⟩
def rLenS (K : PySem.W.Frag) : List V → Hp → VK → Prop := fun xs H Q => ∃ p ys, xs = [.ref p] ∧ (SqL K H p ys ∨ SqT K H p ys) ∧ Q (.int ys.length) H
theorem call_lenS {X : Cx} : CallR X (.builtin "len") (rLenS X.K) := call_len_seq
theorem rd_lenL {p : Addr} {ys : List V} (h : SqL K H p ys) (q : Q (.int ys.length) H) : rLenS K [.ref p] H Q := ⟨p, ys, rfl, .inl h, q⟩
theorem rd_lenI {p : Addr} {ns : List Int} (h : SqL K H p (ns.map V.int)) (q : Q (.int ns.length) H) : rLenS K [.ref p] H Q := ⟨p, ns.map V.int, rfl, .inl h, by
  rw [List.length_map]
  exact q⟩
theorem rd_lenT {p : Addr} {ys : List V} (h : SqT K H p ys) (q : Q (.int ys.length) H) : rLenS K [.ref p] H Q := ⟨p, ys, rfl, .inr h, q⟩
def rMin2 : List V → Hp → VK → Prop := fun xs H Q => ∃ i j, xs = [.int i, .int j] ∧ Q (.int (if j < i then j else i)) H
theorem call_min2' {X : Cx} (hc : X.calm = true) : CallR X (.builtin "min") rMin2 := call_min2 hc
theorem rd_min2 (h : Q (.int (min i j)) H) : rMin2 [.int i, .int j] H Q := ⟨i, j, rfl, by
  rw [show (if j < i then j else i) = min i j from by split <;> omega]
  exact h⟩
def rMax2 : List V → Hp → VK → Prop := fun xs H Q => ∃ i j, xs = [.int i, .int j] ∧ Q (.int (if j > i then j else i)) H
theorem call_max2' {X : Cx} (hc : X.calm = true) : CallR X (.builtin "max") rMax2 := call_max2 hc
theorem rd_max2 (h : Q (.int (max i j)) H) : rMax2 [.int i, .int j] H Q := ⟨i, j, rfl, by
  rw [show (if j > i then j else i) = max i j from by split <;> omega]
  exact h⟩
def rListOf (K : PySem.W.Frag) : List V → Hp → VK → Prop := fun xs H Q => ∃ p ys, xs = [.ref p] ∧ (SqL K H p ys ∨ SqT K H p ys) ∧ ∀ l, H l = none → Q (.ref l) (upd H l (.lst ys))
theorem call_listOf {X : Cx} : CallR X (.type "list") (rListOf X.K) := call_list_of
theorem rd_listL {p : Addr} {ys : List V} (h : SqL K H p ys) (q : ∀ l, H l = none → Q (.ref l) (upd H l (.lst ys))) : rListOf K [.ref p] H Q := ⟨p, ys, rfl, .inl h, q⟩
/-- isinstance against one built-in class -/
theorem rd_isi {t : String} {c : String} {b : Bool} (ty : TyX K H x (.type t)) (e : kitB t c = some b) (h : Q (.bl b) H) : rIsi K [x, .ty c] H Q := ⟨x, .ty c, .type t, .type c, b, rfl, .ty c, ty, kit_ty e, h⟩

/-! ### loops -/
/-- what a for over the walk J asks -/
def ForG (J : It) (g : TG) (t : TS) (D : Ends) (σ : L2.St) (H : Hp) : Prop :=
  ∃ W : Nat → Nat → L2.St → Hp → Prop, (∃ m, W 0 m σ H) ∧ ∀ i m σ H, W i m σ H →
      (J.stop i H ∧ D.nx σ H) ∨ (J.go i H ∧ ∃ N : L2.St → Hp → Prop, (∀ σ' H', N σ' H' → ∃ m', m' < m ∧ W (i + 1) m' σ' H') ∧ ∀ x H', J.yld i H x H' → g x σ H' fun σ2 H2 => t { D with nx := N, ct := N, bk := D.nx } σ2 H2)
theorem rd_for {wi : TI} {g : TG} {D : Ends} (h : wi σ H fun J H1 => ForG J g t D σ H1) : tFor wi g t D σ H := h
theorem rd_iList {R : It → Hp → Prop} (h : te σ H fun x H1 => ∃ a, x = V.ref a ∧ (∃ xs, SqL K H1 a xs) ∧ R (Itl K a) H1) : iList K te σ H R := h
theorem rd_iTup {R : It → Hp → Prop} (h : te σ H fun x H1 => ∃ a, x = V.ref a ∧ (∃ xs, SqT K H1 a xs) ∧ R (Itt K a) H1) : iTup K te σ H R := h
theorem rd_iListX {p : Addr} {xs : List V} {R : Addr → Prop} (h : SqL K H p xs) (q : R p) : ∃ a, V.ref p = V.ref a ∧ (∃ xs, SqL K H a xs) ∧ R a := ⟨p, rfl, ⟨xs, h⟩, q⟩
theorem rd_iTupX {p : Addr} {xs : List V} {R : Addr → Prop} (h : SqT K H p xs) (q : R p) : ∃ a, V.ref p = V.ref a ∧ (∃ xs, SqT K H a xs) ∧ R a := ⟨p, rfl, ⟨xs, h⟩, q⟩
theorem rd_iRng1 {R : It → Hp → Prop} (h : ar σ H fun vs H1 => ∃ j : Int, vs = [.int j] ∧ -(2 ^ 62) ≤ j ∧ j < 2 ^ 62 ∧ R (Itr 0 j.toNat) H1) : iRng1 ar σ H R := h
theorem rd_iRng1X {R : Int → Prop} (h1 : -(2 ^ 62) ≤ j) (h2 : j < 2 ^ 62) (q : R j) : ∃ k : Int, [V.int j] = [V.int k] ∧ -(2 ^ 62) ≤ k ∧ k < 2 ^ 62 ∧ R k := ⟨j, rfl, h1, h2, q⟩
theorem rd_iRng2 {R : It → Hp → Prop} (h : ar σ H fun vs H1 => ∃ i j : Int, vs = [.int i, .int j] ∧ (-(2 ^ 62) ≤ i ∧ i < 2 ^ 62 ∧ -(2 ^ 62) ≤ j ∧ j < 2 ^ 62) ∧ R (Itr i (j - i).toNat) H1) : iRng2 ar σ H R := h
theorem rd_iRng2X {R : Int → Int → Prop} (h1 : -(2 ^ 62) ≤ i ∧ i < 2 ^ 62 ∧ -(2 ^ 62) ≤ j ∧ j < 2 ^ 62) (q : R i j) : ∃ k l : Int, [V.int i, V.int j] = [V.int k, V.int l] ∧ (-(2 ^ 62) ≤ k ∧ k < 2 ^ 62 ∧ -(2 ^ 62) ≤ l ∧ l < 2 ^ 62) ∧ R k l := ⟨i, j, rfl, h1, q⟩
/-- over a list that stays -/
theorem forL_by {a : Addr} {g : TG} (xs : List V) (Pv : Nat → L2.St → Hp → Prop) (h0 : Pv 0 σ H) (hl : ∀ i σ H, i ≤ xs.length → Pv i σ H → SqL K H a xs)
    (hs : ∀ i x σ H, xs[i]? = some x → Pv i σ H → g x σ H fun σ2 H2 => t ⟨Pv (i + 1), rt, nx, Pv (i + 1)⟩ σ2 H2) (hd : ∀ σ H, Pv xs.length σ H → nx σ H) : ForG (Itl K a) g t ⟨nx, rt, bk, ct⟩ σ H := for_list (K := K) Pv h0 hl hs hd
theorem forT_by {a : Addr} {g : TG} (xs : List V) (Pv : Nat → L2.St → Hp → Prop) (h0 : Pv 0 σ H) (hl : ∀ i σ H, i ≤ xs.length → Pv i σ H → SqT K H a xs)
    (hs : ∀ i x σ H, xs[i]? = some x → Pv i σ H → g x σ H fun σ2 H2 => t ⟨Pv (i + 1), rt, nx, Pv (i + 1)⟩ σ2 H2) (hd : ∀ σ H, Pv xs.length σ H → nx σ H) : ForG (Itt K a) g t ⟨nx, rt, bk, ct⟩ σ H := for_tup (K := K) Pv h0 hl hs hd
theorem forR_by {lo : Int} {n : Nat} {g : TG} (Pv : Nat → L2.St → Hp → Prop) (h0 : Pv 0 σ H)
    (hs : ∀ (i : Nat) σ H, i < n → Pv i σ H → g (.int (lo + i)) σ H fun σ2 H2 => t ⟨Pv (i + 1), rt, nx, Pv (i + 1)⟩ σ2 H2) (hd : ∀ σ H, Pv n σ H → nx σ H) : ForG (Itr lo n) g t ⟨nx, rt, bk, ct⟩ σ H := for_range Pv h0 hs hd
/-- the items one by one -/
theorem forL_ints {a : Addr} {g : TG} (ns : List Int) (Pv : Nat → L2.St → Hp → Prop) (h0 : Pv 0 σ H) (hl : ∀ i σ H, i ≤ ns.length → Pv i σ H → SqL K H a (ns.map V.int))
    (hs : ∀ (i : Nat) (h : i < ns.length) σ H, Pv i σ H → g (.int ns[i]) σ H fun σ2 H2 => t ⟨Pv (i + 1), rt, nx, Pv (i + 1)⟩ σ2 H2) (hd : ∀ σ H, Pv ns.length σ H → nx σ H) : ForG (Itl K a) g t ⟨nx, rt, bk, ct⟩ σ H :=
  forL_by (ns.map V.int) Pv h0 (fun i σ H hi p => hl i σ H (by simpa using hi) p) (fun i x σ H e p => by
    rw [List.getElem?_map] at e
    obtain ⟨z, hz, rfl⟩ := Option.map_eq_some_iff.mp e
    obtain ⟨h, rfl⟩ := List.getElem?_eq_some_iff.mp hz
    exact hs i h σ H p) (fun σ H p => hd σ H (by simpa using p))
theorem rd_while (Pv : L2.St → Hp → Prop) (μ : L2.St → Hp → Nat) (h0 : Pv σ H)
    (hs : ∀ σ H, Pv σ H → tt σ H fun b H1 => if b = true then t ⟨fun σ' H' => Pv σ' H' ∧ μ σ' H' < μ σ H, rt, nx, fun σ' H' => Pv σ' H' ∧ μ σ' H' < μ σ H⟩ σ H1 else nx σ H1)
    (mono : ∀ σ H Q Q', (∀ b H1, Q b H1 → Q' b H1) → tt σ H Q → tt σ H Q') : tWhile tt t ⟨nx, rt, bk, ct⟩ σ H := while_by Pv μ h0 hs mono
/-- a list comprehension -/
def LcG (J : It) (g : TG) (tt : TT) (te : TE) (vs : List Nat) (σ : L2.St) (D : Addr) (Qd : Hp → Prop) (H1 : Hp) : Prop :=
  ∃ W : Nat → Nat → Hp → Prop, (∃ m, W 0 m (upd H1 D (.lst []))) ∧ ∀ i m H, W i m H →
      (J.stop i H ∧ Qd H) ∨ (J.go i H ∧ ∃ Nx : Hp → Prop, (∀ H', Nx H' → ∃ m', m' < m ∧ W (i + 1) m' H') ∧ ∀ x H', J.yld i H x H' → g x (wipe σ vs) H' fun σ2 H2 => wipe σ2 vs = wipe σ vs ∧ tt σ2 H2 fun b H3 =>
        if b = true then te σ2 H3 fun y H4 => ∃ acc, H4 D = some (.lst acc) ∧ acc.length < sizeLine ∧ Nx (upd H4 D (.lst (acc ++ [y]))) else Nx H3)
theorem rd_lc {wi : TI} {g : TG} {vs : List Nat} (h : wi σ H fun J H1 => ∀ D, H1 D = none → LcG J g tt te vs σ D (fun H => Q (.ref D) H) H1) : tLc wi g tt te vs σ H Q := h
theorem lcL_by {a D : Addr} {g : TG} {vs : List Nat} {Qd : Hp → Prop} (xs : List V) (Pv : Nat → Hp → Prop) (h0 : Pv 0 (upd H D (.lst []))) (hl : ∀ i H, i ≤ xs.length → Pv i H → SqL K H a xs)
    (hs : ∀ i x H, xs[i]? = some x → Pv i H → g x (wipe σ vs) H fun σ2 H2 => wipe σ2 vs = wipe σ vs ∧ tt σ2 H2 fun b H3 =>
      if b = true then te σ2 H3 fun y H4 => ∃ acc, H4 D = some (.lst acc) ∧ acc.length < sizeLine ∧ Pv (i + 1) (upd H4 D (.lst (acc ++ [y]))) else Pv (i + 1) H3) (hd : ∀ H, Pv xs.length H → Qd H) : LcG (Itl K a) g tt te vs σ D Qd H := lc_list (K := K) Pv h0 hl hs hd
theorem lcR_by {lo : Int} {n : Nat} {D : Addr} {g : TG} {vs : List Nat} {Qd : Hp → Prop} (Pv : Nat → Hp → Prop) (h0 : Pv 0 (upd H D (.lst [])))
    (hs : ∀ (i : Nat) H, i < n → Pv i H → g (.int (lo + i)) (wipe σ vs) H fun σ2 H2 => wipe σ2 vs = wipe σ vs ∧ tt σ2 H2 fun b H3 =>
      if b = true then te σ2 H3 fun y H4 => ∃ acc, H4 D = some (.lst acc) ∧ acc.length < sizeLine ∧ Pv (i + 1) (upd H4 D (.lst (acc ++ [y]))) else Pv (i + 1) H3) (hd : ∀ H, Pv n H → Qd H) : LcG (Itr lo n) g tt te vs σ D Qd H := lc_range Pv h0 hs hd
theorem lcL_ints {a D : Addr} {g : TG} {vs : List Nat} {Qd : Hp → Prop} (ns : List Int) (Pv : Nat → Hp → Prop) (h0 : Pv 0 (upd H D (.lst []))) (hl : ∀ i H, i ≤ ns.length → Pv i H → SqL K H a (ns.map V.int))
    (hs : ∀ (i : Nat) (h : i < ns.length) H, Pv i H → g (.int ns[i]) (wipe σ vs) H fun σ2 H2 => wipe σ2 vs = wipe σ vs ∧ tt σ2 H2 fun b H3 =>
      if b = true then te σ2 H3 fun y H4 => ∃ acc, H4 D = some (.lst acc) ∧ acc.length < sizeLine ∧ Pv (i + 1) (upd H4 D (.lst (acc ++ [y]))) else Pv (i + 1) H3) (hd : ∀ H, Pv ns.length H → Qd H) : LcG (Itl K a) g tt te vs σ D Qd H :=
  lcL_by (ns.map V.int) Pv h0 (fun i H hi p => hl i H (by simpa using hi) p) (fun i x H e p => by
    rw [List.getElem?_map] at e
    obtain ⟨z, hz, rfl⟩ := Option.map_eq_some_iff.mp e
    obtain ⟨h, rfl⟩ := List.getElem?_eq_some_iff.mp hz
    exact hs i h H p) (fun H p => hd H (by simpa using p))
theorem rd_yes {QB : Bool → Hp → Prop} (h : QB true H) : tYes σ H QB := h
end

/-! ### callables in one piece -/
section
variable {P : Program} {w : World} {K : PySem.W.Frag} {mg : Str → Option Value} {base : Heap} {CX : CXT} {X : Cx} {k j : Nat} {C : Addr} {x m : Str} {sp : Sp} {dvs : List V} {E : XK} {p pos apos : Pos} {e o : Expr} {es : List Expr} {ta : TE} {t : TA}
structure CalX (P : Program) (w : World) (K : PySem.W.Frag) (mg : Str → Option Value) (base : Heap) (CX : CXT) (k : Nat) (x : Str) (sp : Sp) (dvs : List V) : Prop where
  ex : ∃ (f : Addr) (fd : FuncData) (ps : List Str) (ds : List Value), FnOk P w K mg base CX k f fd ps sp ∧ mg x = some (.ref f) ∧ PySem.W.keepIn K (.ref f) = true ∧ Binds K fd ps ds ∧ Vals dvs ds
structure MetX (P : Program) (w : World) (K : PySem.W.Frag) (mg : Str → Option Value) (base : Heap) (CX : CXT) (k : Nat) (C : Addr) (m : Str) (sp : Sp) (dvs : List V) : Prop where
  ex : ∃ (f : Addr) (fd : FuncData) (ps : List Str) (ds : List Value), Cls K C ∧ Meth K C m f ∧ FnOk P w K mg base CX k f fd ps sp ∧ Binds K fd ps ds ∧ Vals dvs ds
structure MakX (P : Program) (w : World) (K : PySem.W.Frag) (mg : Str → Option Value) (base : Heap) (CX : CXT) (k : Nat) (x : Str) (C : Addr) (sp : Sp) (dvs : List V) : Prop where
  ex : ∃ (f : Addr) (fd : FuncData) (ps : List Str) (ds : List Value), Mk K C f ∧ FnOk P w K mg base CX k f fd ps sp ∧ mg x = some (.ref C) ∧ Binds K fd ps ds ∧ Vals dvs ds
theorem pe_cal (c : CalX X.prog X.w X.K X.mg X.base CX k x sp dvs) (hr : Room j X.A) (hk : k ≤ j) (hg : Gl X x) (hx : Passes CX X E) (ha : PA X (e :: es) t)
    (hdb : (x == ("__debug__" : Str)) = false := by decide) (he : starEach (e :: es) X.env = (false, eval e X.env) :: starEach es X.env := by rfl) (hpl : (backTo pos (starEach es X.env)).any (·.1) = false := by rfl) :
    PE X (.Call (.Name x p) (e :: es) [] pos) (tCall sp dvs E t) := by
  obtain ⟨f, fd, ps, ds, F, hm, kp, b, d⟩ := c.ex
  exact pe_call F (hr.mono hk) hg hm kp b d hx ha hdb he hpl
theorem pe_mak (c : MakX X.prog X.w X.K X.mg X.base CX k x C sp dvs) (hr : Room j X.A) (hk : k + 1 ≤ j) (hg : Gl X x) (hx : Passes CX X E) (ha : PA X (e :: es) t)
    (hdb : (x == ("__debug__" : Str)) = false := by decide) (he : starEach (e :: es) X.env = (false, eval e X.env) :: starEach es X.env := by rfl) (hpl : (backTo pos (starEach es X.env)).any (·.1) = false := by rfl) :
    PE X (.Call (.Name x p) (e :: es) [] pos) (tMake C sp dvs E t) := by
  obtain ⟨f, fd, ps, ds, M, F, hm, b, d⟩ := c.ex
  exact pe_make M F (hr.mono hk) hg hm b d hx ha hdb he hpl
theorem pe_met {pl : Sem Bool} (c : MetX X.prog X.w X.K X.mg X.base CX k C m sp dvs) (hr : Room j X.A) (hk : k ≤ j) (hx : Passes CX X E) (he : PE X o ta) (ha : PA X (e :: es) t)
    (hst : starEach (e :: es) X.env = (false, eval e X.env) :: starEach es X.env := by rfl) (hpl : (backTo pos (starEach es X.env)).any (·.1) = false := by rfl)
    (ht : eval (.Call (.Attribute o m apos) (e :: es) [] pos) X.env = (do
      let ov ← eval o X.env
      standAt apos.atName
      let (f, first) ← holding [ov] (getMethod ov m pl)
      callWith pos f first (backTo pos (starEach (e :: es) X.env)) (backToKw pos (keywordEach [] X.env))) := by rfl) :
    PE X (.Call (.Attribute o m apos) (e :: es) [] pos) (tMeth C m sp dvs E ta t) := by
  obtain ⟨f, fd, ps, ds, cl, me, F, b, d⟩ := c.ex
  exact pe_meth he cl me F (hr.mono hk) b d hx ha hst hpl ht
end

/-! ### a def's promise by its body -/
section
variable {P : Program} {w : World} {K : PySem.W.Frag} {mg : Str → Option Value} {base : Heap} {CX : CXT} {x qual : Str} {params : Arguments} {body : List Stmt} {scope : Scope} {dvs : List V} {kws : List (Str × V)} {f : Addr} {fd : FuncData}
theorem fnD {N ps : List Str} {k : Nat} {sp : Sp} (F : FunD K x qual params body scope dvs kws f fd) (S : FnScope N ps scope) (len : ∀ vs H Q E, sp vs H Q E → vs.length = ps.length)
    (hbody : ∀ (cdv : Value) (A : Around) (outer : List Env) (s : Shared) (H : Hp) (vs : List V) (Q : VK) (E : XK), Room k (A.deeper (envOfC qual scope s.heap.objs.size f cdv)) → sp vs H Q E →
      ∃ t, PSs (cxOf CX0 P w K mg base N qual scope f cdv A outer s H E).nox body t ∧ t ⟨fun _ H' => Q .non H', Q, fun _ _ => False, fun _ _ => False⟩ (start N vs) H) : FnOk P w K mg base CX0 (k + 1) f fd ps sp :=
  F.ok S len fun cdv A outer s H vs Q E hr h => let ⟨t, h1, h2⟩ := hbody cdv A outer s H vs Q E hr h; ⟨t, h1.nox, h2⟩
end

/-! ### the head: facts of a top, one Bool more -/
abbrev AlM : Type := AlD × Bool
def obsM (n : Nat) (fa : List Fa) (fn : List DefD) (ex : PySem.W.Frag → Bool) (g : Addr → Option Obj) : AlM := (obsD fa fn (frG g (asD g n)), ex (frG g (asD g n)))
def hookM (n : Nat) (fa : List Fa) (fn : List DefD) (ex : PySem.W.Frag → Bool) : PySem.W.Hook where
  α := AlM
  obs := fun s => obsM n fa fn ex s.heap.get?
  val := fun _ => (valD fn, true)
  says := fun _ h => ∃ K : PySem.W.Frag, K.In h ∧ SaysD fa fn K ∧ ex K = true
  of := fun _ _ e => ⟨_, frG_in, congrArg (fun z : AlM => z.1) e, congrArg (fun z : AlM => z.2) e⟩
  keeps := fun _ _ _ ⟨K, hK, c, d⟩ k => ⟨K, PySem.W.Frag.In.keeps hK k, c, d⟩
theorem obsM_eq {n : Nat} {fa : List Fa} {fn : List DefD} {ex : PySem.W.Frag → Bool} {g : Addr → Option Obj} {s : Shared} (h : ∀ a, g a = s.heap.get? a) : obsM n fa fn ex g = (hookM n fa fn ex).obs s := by
  have e : g = s.heap.get? := funext h
  rw [e] <;> rfl
/-- what the defs lean on -/
structure Ctx (fa : List Fa) (fn : List DefD) (ex : PySem.W.Frag → Bool) (K : PySem.W.Frag) (mg : Str → Option Value) : Prop where
  says : SaysD fa fn K
  ex : ex K = true
  at_ : ∃ h, K.In h ∧ h.Ns mainGlobals mg
section
variable {fa : List Fa} {fn : List DefD} {ex : PySem.W.Frag → Bool} {K : PySem.W.Frag} {mg : Str → Option Value}
theorem Ctx.glo (T : Ctx fa fn ex K mg) (i : Nat) {x : Str} (h : fa[i]? = some (.glo x) := by rfl) : mg x = some (.ref (ga K x)) := let ⟨_, X, G⟩ := T.at_; glo_ok X G (T.says.fact i h)
theorem Ctx.fre (T : Ctx fa fn ex K mg) (i : Nat) {x : Str} (h : fa[i]? = some (.free x) := by rfl) : mg x = none := let ⟨_, X, G⟩ := T.at_; free_ok X G (T.says.fact i h)
theorem Ctx.cls (T : Ctx fa fn ex K mg) (i : Nat) {x : Str} (h : fa[i]? = some (.cls x) := by rfl) : Cls K (ga K x) := cls_ok (T.says.fact i h)
theorem Ctx.noat (T : Ctx fa fn ex K mg) (i : Nat) {x f : Str} (h : fa[i]? = some (.noat x f) := by rfl) : NoAttr K (ga K x) f := noat_ok (T.says.fact i h)
theorem Ctx.meth (T : Ctx fa fn ex K mg) (i : Nat) {x m : Str} (h : fa[i]? = some (.meth x m) := by rfl) : Meth K (ga K x) m (ma K (ga K x) m) := meth_ok (T.says.fact i h)
theorem Ctx.mkr (T : Ctx fa fn ex K mg) (i : Nat) {x : Str} (h : fa[i]? = some (.mkr x) := by rfl) : Mk K (ga K x) (ma K (ga K x) "__init__") := mkr_ok (T.says.fact i h)
theorem Ctx.int (T : Ctx fa fn ex K mg) (i : Nat) {x : Str} {z : Int} (h : fa[i]? = some (.int x z) := by rfl) : ∃ t, mg x = some (.int z t) := let ⟨_, X, G⟩ := T.at_; int_ok X G (T.says.fact i h)
theorem Ctx.str (T : Ctx fa fn ex K mg) (i : Nat) {x z : Str} (h : fa[i]? = some (.str x z) := by rfl) : ∃ t, mg x = some (.str z t) := let ⟨_, X, G⟩ := T.at_; str_ok X G (T.says.fact i h)
end
theorem pe_globC {X : Cx} {x : Str} {v : V} {pos : Pos} (hg : Gl X x) (h : ∃ u, X.mg x = some u ∧ RelV v u) (hd : (x == ("__debug__" : Str)) = false := by decide) : PE X (.Name x pos) (tC v) := let ⟨_, hm, r⟩ := h; pe_glob hg hm r hd

/-! ### small facts -/
theorem ite_d {p A B : Prop} [Decidable p] (h1 : p → A) (h2 : ¬ p → B) : if decide p = true then A else B := by
  by_cases h : p
  · rw [decide_eq_true h, if_pos rfl]
    exact h1 h
  · rw [decide_eq_false h, if_neg Bool.false_ne_true]
    exact h2 h
theorem ite_n {p A B : Prop} [Decidable p] (h1 : ¬ p → A) (h2 : p → B) : if (!decide p) = true then A else B := by
  by_cases h : p
  · rw [decide_eq_true h]
    exact iteF (h2 h)
  · rw [decide_eq_false h]
    exact iteT (h1 h)
theorem ite_b {b : Bool} {A B : Prop} (h1 : b = true → A) (h2 : b = false → B) : if b = true then A else B := by
  cases b
  · exact iteF (h2 rfl)
  · exact iteT (h1 rfl)
theorem ite_t {b : Bool} {A B : Prop} (e : b = true) (h : A) : if b = true then A else B := by
  subst e
  exact iteT h
theorem ite_f {b : Bool} {A B : Prop} (e : b = false) (h : B) : if b = true then A else B := by
  subst e
  exact iteF h
theorem atI_ints {ns : List Int} {i : Int} (h0 : 0 ≤ i) (h1 : i < ns.length) : atI (ns.map V.int) i = some (.int (ns.getD i.toNat 0)) := by
  obtain ⟨j, rfl⟩ := Int.eq_ofNat_of_zero_le h0
  refine atI_nat ?_
  have hj : j < ns.length := by omega
  rw [List.getElem?_map, List.getElem?_eq_getElem hj]
  simp [hj]
theorem take_map_succ {ns : List Int} {i : Nat} (h : i < ns.length) : (ns.take i).map V.int ++ [V.int ns[i]] = (ns.take (i + 1)).map V.int := by
  rw [List.take_succ_eq_append_getElem h, List.map_append]
  rfl
theorem sz1000 {n : Nat} (h : n ≤ 1000000) : n ≤ sizeLine := Nat.le_trans h (by decide)
theorem szlt {n : Nat} (h : n < 1000000) : n < sizeLine := Nat.lt_of_lt_of_le h (by decide)

/-! ### more readings -/
section
variable {K : PySem.W.Frag} {σ : L2.St} {H : Hp} {nx bk ct : L2.St → Hp → Prop} {rt : VK} {te ta tb tc : TE} {ar : TA} {Q : VK} {QB : Bool → Hp → Prop} {v x y z : V} {i j : Int}
theorem rd_sfld {f : Str} (h : tb σ H fun y H1 => ta σ H1 fun x H2 => ∃ a C dx fs, x = V.ref a ∧ H2 a = some (.ins C dx fs) ∧ Cls K C ∧ NoAttr K C f ∧ fs.length < 1000 ∧ nx σ (upd H2 a (.ins C dx (putF f y fs)))) : sFld K ta tb f ⟨nx, rt, bk, ct⟩ σ H := h
theorem rd_sfldX {f : Str} {a C dx : Addr} {fs : List (Str × V)} {R : Addr → Addr → Addr → List (Str × V) → Prop} (h : H a = some (.ins C dx fs)) (c : Cls K C) (n : NoAttr K C f) (l : fs.length < 1000) (q : R a C dx fs) :
    ∃ a' C' dx' fs', V.ref a = V.ref a' ∧ H a' = some (.ins C' dx' fs') ∧ Cls K C' ∧ NoAttr K C' f ∧ fs'.length < 1000 ∧ R a' C' dx' fs' := ⟨a, C, dx, fs, rfl, h, c, n, l, q⟩
theorem rd_tfld {f : Str} (h : ta σ H fun x H1 => ∃ a C dx fs v, x = V.ref a ∧ H1 a = some (.ins C dx fs) ∧ Cls K C ∧ NoAttr K C f ∧ fs.lookup f = some v ∧ Q v H1) : tFld K ta f σ H Q := h
theorem rd_fldX {f : Str} {a C dx : Addr} {fs : List (Str × V)} {R : V → Prop} (h : H a = some (.ins C dx fs)) (c : Cls K C) (n : NoAttr K C f) (l : fs.lookup f = some v) (q : R v) :
    ∃ a' C' dx' fs' v', V.ref a = V.ref a' ∧ H a' = some (.ins C' dx' fs') ∧ Cls K C' ∧ NoAttr K C' f ∧ fs'.lookup f = some v' ∧ R v' := ⟨a, C, dx, fs, v, rfl, h, c, n, l, q⟩
theorem rd_tcon {f : Str} (h : ta σ H fun x H1 => ∃ a C dx fs v u, x = V.ref a ∧ H1 a = some (.ins C dx fs) ∧ Cls K C ∧ Con K C f v u ∧ fs.lookup f = none ∧ Q v H1) : tCon K ta f σ H Q := h
theorem rd_conX {f : Str} {a C dx : Addr} {fs : List (Str × V)} {R : V → Prop} (h : H a = some (.ins C dx fs)) (c : Cls K C) (n : ∃ u, Con K C f v u) (l : fs.lookup f = none) (q : R v) :
    ∃ a' C' dx' fs' v' u, V.ref a = V.ref a' ∧ H a' = some (.ins C' dx' fs') ∧ Cls K C' ∧ Con K C' f v' u ∧ fs'.lookup f = none ∧ R v' := let ⟨u, n⟩ := n; ⟨a, C, dx, fs, v, u, rfl, h, c, n, l, q⟩
/-! isinstance -/
theorem rd_isi_ii (h : Q (.bl true) H) : rIsi K [.int i, .ty "int"] H Q := rd_isi (.base (.int i)) (by decide +kernel) h
theorem rd_isi_ib (h : Q (.bl false) H) : rIsi K [.int i, .ty "bool"] H Q := rd_isi (.base (.int i)) (by decide +kernel) h
theorem rd_isi_bb {b : Bool} (h : Q (.bl true) H) : rIsi K [.bl b, .ty "bool"] H Q := rd_isi (.base (.bl b)) (by decide +kernel) h
theorem rd_isi_bi {b : Bool} (h : Q (.bl true) H) : rIsi K [.bl b, .ty "int"] H Q := rd_isi (.base (.bl b)) (by decide +kernel) h
theorem rd_isi_ss {b : Str} (h : Q (.bl true) H) : rIsi K [.str b, .ty "str"] H Q := rd_isi (.base (.str b)) (by decide +kernel) h
theorem rd_isi_ll {a : Addr} {xs : List V} (e : H a = some (.lst xs)) (h : Q (.bl true) H) : rIsi K [.ref a, .ty "list"] H Q := rd_isi (.base (.lst e)) (by decide +kernel) h
theorem rd_isi_tt {a : Addr} {xs : List V} (e : H a = some (.tup xs)) (h : Q (.bl true) H) : rIsi K [.ref a, .ty "tuple"] H Q := rd_isi (.base (.tup e)) (by decide +kernel) h
/-! known tests -/
section
variable {A B : Prop}
theorem ite_nt (h : B) : if (!true) = true then A else B := iteF h
theorem ite_nf (h : A) : if (!false) = true then A else B := iteT h
theorem ite_in (h : B) : if decide (V.int i = V.non) = true then A else B := iteF h
theorem ite_rn {a : Addr} (h : B) : if decide (V.ref a = V.non) = true then A else B := iteF h
theorem ite_sn {a : Str} (h : B) : if decide (V.str a = V.non) = true then A else B := iteF h
theorem ite_bn {a : Bool} (h : B) : if decide (V.bl a = V.non) = true then A else B := by
  cases a <;> exact iteF h
theorem ite_nn (h : A) : if decide (V.non = V.non) = true then A else B := iteT h
theorem ite_xin (h : A) : if (!decide (V.int i = V.non)) = true then A else B := iteT h
theorem ite_xrn {a : Addr} (h : A) : if (!decide (V.ref a = V.non)) = true then A else B := iteT h
theorem ite_xnn (h : B) : if (!decide (V.non = V.non)) = true then A else B := iteF h
end
/-! dicts with tuple keys -/
theorem rd_dnewT (h : ∀ p, H p = none → Q (.ref p) (upd H p (.dT []))) : tDNewT σ H Q := h
theorem rd_dnewK (h : ∀ p, H p = none → Q (.ref p) (upd H p (.dK []))) : tDNewK σ H Q := h
theorem rd_dget2 (h : ta σ H fun x H1 => ∃ a, x = V.ref a ∧ IsD H1 a ∧ tb σ H1 fun y H2 => tc σ H2 fun z H3 => ∃ o, DGet H3 a y o ∧ Q (o.getD z) H3) : tDGet2 ta tb tc σ H Q := h
theorem rd_isdX {a : Addr} {R : Addr → Prop} (d : IsD H a) (q : R a) : ∃ a', V.ref a = V.ref a' ∧ IsD H a' ∧ R a' := ⟨a, rfl, d, q⟩
theorem isD_T {a : Addr} {kvs : List (List Key × V)} (e : H a = some (.dT kvs)) : IsD H a := .inr ⟨kvs, .inl e⟩
theorem isD_K {a : Addr} {kvs : List (Key × V)} (e : H a = some (.dK kvs)) : IsD H a := .inl ⟨kvs, .inl e⟩
theorem rd_dgX {a : Addr} {o : Option V} {R : Option V → Prop} (d : DGet H a y o) (q : R o) : ∃ o', DGet H a y o' ∧ R o' := ⟨o, d, q⟩
theorem dg_is {a b : Addr} {kvs : List (List Key × V)} {s : Int} {z : Str} (e : H a = some (.dT kvs)) (eb : H b = some (.tup [.int s, .str z])) : DGet H a (.ref b) (valV kvs [.inl s, .inr z]) := DGet.t (k := [.inl s, .inr z]) e eb
theorem rd_sdput (h : tc σ H fun v H1 => ta σ H1 fun x H2 => tb σ H2 fun y H3 => ∃ a H4, x = V.ref a ∧ DPut H3 a y v H4 ∧ nx σ H4) : sDPut ta tb tc ⟨nx, rt, bk, ct⟩ σ H := h
theorem rd_dpX {a : Addr} {H' : Hp} {R : Hp → Prop} (d : DPut H a y v H') (q : R H') : ∃ a' H4, V.ref a = V.ref a' ∧ DPut H a' y v H4 ∧ R H4 := ⟨a, H', rfl, d, q⟩
theorem dp_is {a b : Addr} {kvs : List (List Key × V)} {s : Int} {z : Str} (e : H a = some (.dT kvs)) (eb : H b = some (.tup [.int s, .str z])) (l : kvs.length < sizeLine) : DPut H a (.ref b) v (upd H a (.dT (putK kvs [.inl s, .inr z] v))) := DPut.t (k := [.inl s, .inr z]) e eb l
theorem ty_d {a : Addr} {kvs : List (List Key × V)} {B : Prop} (h : H a = some (.dT kvs)) (q : B) : tyV K "dict" (.ref a) H ∧ B := ⟨.inr (.inr (.inl ⟨rfl, .inr ⟨kvs, h⟩⟩)), q⟩
theorem ty_dK {a : Addr} {kvs : List (Key × V)} {B : Prop} (h : H a = some (.dK kvs)) (q : B) : tyV K "dict" (.ref a) H ∧ B := ⟨.inr (.inr (.inl ⟨rfl, .inl ⟨kvs, h⟩⟩)), q⟩
theorem rd_popT {a b : Addr} {kvs : List (List Key × V)} {s : Int} {t : Str} (e : H a = some (.dT kvs)) (eb : H b = some (.tup [.int s, .str t])) (q1 : ∀ v, valV kvs [.inl s, .inr t] = some v → Q v (upd H a (.dT (dropK kvs [.inl s, .inr t])))) (q2 : valV kvs [.inl s, .inr t] = none → Q x H) :
    DX.rPopT (.ref a) [.ref b, x] H Q := ⟨a, kvs, [.inl s, .inr t], b, x, rfl, rfl, e, eb, q1, q2⟩
theorem valV_drop {κ : Type} [DecidableEq κ] (k j : κ) : ∀ kvs : List (κ × V), valV (dropK kvs k) j = if j = k then none else valV kvs j
  | [] => by
    by_cases h : j = k
    · rw [if_pos h]
      rfl
    · rw [if_neg h]
      rfl
  | p :: r => by
    have ih := valV_drop k j r
    by_cases e : p.1 = k
    · rw [dropK_pos e, ih]
      by_cases h : j = k
      · rw [if_pos h, if_pos h]
      · rw [if_neg h, if_neg h, valV_neg (fun z => h (z.symm.trans e))]
    · rw [dropK_neg e]
      by_cases h : p.1 = j
      · rw [valV_pos h, if_neg (fun z => e (h.trans z)), valV_pos h]
      · rw [valV_neg h, ih, valV_neg h]
theorem putK_le {κ : Type} [DecidableEq κ] (kvs : List (κ × V)) (k : κ) (v : V) : (putK kvs k v).length ≤ kvs.length + 1 := by
  unfold putK
  split
  · rw [List.length_map]
    omega
  · rw [List.length_append]
    exact Nat.le_refl _
theorem rd_cat {a b : Addr} {xs ys : List V} (h1 : H a = some (.lst xs)) (h2 : H b = some (.lst ys)) (l : xs.length + ys.length ≤ sizeLine) (q : ∀ p, H p = none → Q (.ref p) (upd H p (.lst (xs ++ ys)))) : rCat (.ref a) (.ref b) H Q := ⟨a, b, xs, ys, rfl, rfl, h1, h2, l, q⟩
/-! list(range(..)) -/
theorem rd_lstRg {t : L2.St → Hp → (Int → Int → Hp → Prop) → Prop} (h : t σ H fun a b H1 => RgOk a b ∧ ∀ q, H1 q = none → Q (.ref q) (upd H1 q (.lst (rgV a b)))) : tLstRg t σ H Q := h
theorem rd_rg1 {R : Int → Int → Hp → Prop} (h : ta σ H fun x H1 => ∃ n, x = V.int n ∧ R 0 n H1) : tRg1 ta σ H R := h
theorem rd_rg2 {R : Int → Int → Hp → Prop} (h : ta σ H fun x H1 => tb σ H1 fun y H2 => ∃ i j, x = V.int i ∧ y = V.int j ∧ R i j H2) : tRg2 ta tb σ H R := h
theorem rd_inX {R : Int → Prop} (h : R i) : ∃ n, V.int i = V.int n ∧ R n := ⟨i, rfl, h⟩
theorem rd_inX2 {R : Int → Int → Prop} (h : R i j) : ∃ n m, V.int i = V.int n ∧ V.int j = V.int m ∧ R n m := ⟨i, j, rfl, rfl, h⟩
theorem rgV_0 (n : Int) : rgV 0 n = ((List.range n.toNat).map fun (i : Nat) => (i : Int)).map V.int := by
  unfold rgV
  rw [List.map_map, Int.sub_zero]
  congr 1
  funext i
  show V.int (0 + (i : Int)) = V.int (i : Int)
  rw [Int.zero_add]
end

/-! ### dicts with int and text keys, slices, more -/
section
variable {K : PySem.W.Frag} {σ : L2.St} {H : Hp} {nx bk ct : L2.St → Hp → Prop} {rt : VK} {t : TS} {te ta tb tc : TE} {tt : TT} {ar : TA} {Q : VK} {QB : Bool → Hp → Prop} {v x y z : V} {i j : Int}
theorem rd_din (h : ta σ H fun y H1 => tb σ H1 fun x H2 => ∃ a o, x = V.ref a ∧ DGet H2 a y o ∧ Q (.bl o.isSome) H2) : tDIn ta tb σ H Q := h
theorem rd_dnotin (h : ta σ H fun y H1 => tb σ H1 fun x H2 => ∃ a o, x = V.ref a ∧ DGet H2 a y o ∧ Q (.bl (!o.isSome)) H2) : tDNotIn ta tb σ H Q := h
theorem rd_dget (h : ta σ H fun x H1 => tb σ H1 fun y H2 => ∃ a v, x = V.ref a ∧ DGet H2 a y (some v) ∧ Q v H2) : tDGet ta tb σ H Q := h
theorem rd_dget1 (h : ta σ H fun x H1 => ∃ a, x = V.ref a ∧ IsD H1 a ∧ tb σ H1 fun y H2 => ∃ o, DGet H2 a y o ∧ Q (o.getD .non) H2) : tDGet1 ta tb σ H Q := h
theorem rd_dinX {a : Addr} {o : Option V} {R : Option V → Prop} (d : DGet H a y o) (q : R o) : ∃ a' o', V.ref a = V.ref a' ∧ DGet H a' y o' ∧ R o' := ⟨a, o, rfl, d, q⟩
theorem rd_dgetX {a : Addr} {R : V → Prop} (d : DGet H a y (some v)) (q : R v) : ∃ a' v', V.ref a = V.ref a' ∧ DGet H a' y (some v') ∧ R v' := ⟨a, v, rfl, d, q⟩
theorem dg_i {a : Addr} {kvs : List (Key × V)} (e : H a = some (.dK kvs)) : DGet H a (.int i) (valV kvs (.inl i)) := DGet.k (k := .inl i) e
theorem dg_s {a : Addr} {kvs : List (Key × V)} {s : Str} (e : H a = some (.dK kvs)) : DGet H a (.str s) (valV kvs (.inr s)) := DGet.k (k := .inr s) e
theorem dg_iv {a : Addr} {kvs : List (Key × V)} (e : H a = some (.dK kvs)) (l : valV kvs (.inl i) = some v) : DGet H a (.int i) (some v) := l ▸ dg_i e
theorem dg_sv {a : Addr} {kvs : List (Key × V)} {s : Str} (e : H a = some (.dK kvs)) (l : valV kvs (.inr s) = some v) : DGet H a (.str s) (some v) := l ▸ dg_s e
theorem dp_i {a : Addr} {kvs : List (Key × V)} (e : H a = some (.dK kvs)) (l : kvs.length < sizeLine) : DPut H a (.int i) v (upd H a (.dK (putK kvs (.inl i) v))) := DPut.k (k := .inl i) e l
theorem dp_s {a : Addr} {kvs : List (Key × V)} {s : Str} (e : H a = some (.dK kvs)) (l : kvs.length < sizeLine) : DPut H a (.str s) v (upd H a (.dK (putK kvs (.inr s) v))) := DPut.k (k := .inr s) e l
theorem rd_disp {trs : List (TE × TE)} (h : ∀ p, H p = none → tPairs trs σ (upd H p (.dK [])) fun ps H2 => H2 p = some (.dK []) ∧ ∃ kvs : List (Key × V), ps = kvs.map (fun kv => (kV kv.1, kv.2)) ∧ kvs.length ≤ 15 ∧ Q (.ref p) (upd H2 p (.dK (mergeK [] kvs)))) : tDisp trs σ H Q := h
theorem rd_pnil {R : List (V × V) → Hp → Prop} (h : R [] H) : tPairs [] σ H R := h
theorem rd_pcons {trs : List (TE × TE)} {R : List (V × V) → Hp → Prop} (h : ta σ H fun x H1 => tb σ H1 fun y H2 => tPairs trs σ H2 fun ps H3 => R ((x, y) :: ps) H3) : tPairs ((ta, tb) :: trs) σ H R := h
theorem rd_sl {r : V → Option Int → Option Int → Hp → VK → Prop} {tl th : TO} (h : te σ H fun x H1 => tl σ H1 fun l H2 => th σ H2 fun u H3 => r x l u H3 Q) : tSl r te tl th σ H Q := h
theorem rd_part {R : Option Int → Hp → Prop} (h : te σ H fun x H1 => ∃ i, x = V.int i ∧ R (some i) H1) : tPart te σ H R := h
theorem rd_nopart {R : Option Int → Hp → Prop} (h : R none H) : tNoPart σ H R := h
theorem rd_slL {a : Addr} {xs : List V} {lo hi : Option Int} (h : SqL K H a xs) (q : ∀ p, H p = none → Q (.ref p) (upd H p (.lst (cutV xs lo hi)))) : rSlL K (.ref a) lo hi H Q := ⟨a, xs, rfl, h, q⟩
theorem cut_to {xs : List V} {k : Nat} : cutV xs none (some (k : Int)) = xs.take k := by
  unfold cutV
  rw [HT.sIx_none, HT.sIx_nat, List.drop_zero, Nat.sub_zero, List.take_eq_take_iff]
  omega
theorem cut_from {xs : List V} {k : Nat} : cutV xs (some (k : Int)) none = xs.drop k := by
  unfold cutV
  rw [HT.sIx_none, HT.sIx_nat]
  by_cases h : k ≤ xs.length
  · rw [Nat.min_eq_left h, List.take_of_length_le (by rw [List.length_drop]; exact Nat.le_refl _)]
  · rw [Nat.min_eq_right (by omega), Nat.sub_self, List.take_zero, List.drop_of_length_le (by omega)]
theorem cut_all {xs : List V} : cutV xs none none = xs := by
  unfold cutV
  rw [HT.sIx_none, HT.sIx_none, List.drop_zero, Nat.sub_zero, List.take_length]
theorem rd_popAt {a : Addr} {xs : List V} {k : Nat} (h : H a = some (.lst xs)) (b1 : -(2 ^ 63) ≤ i) (b2 : i < 2 ^ 63) (s : seqIndex? i xs.length = some k) (g : xs[k]? = some v) (q : Q v (upd H a (.lst (xs.eraseIdx k)))) : rPopAt (.ref a) [.int i] H Q := ⟨a, xs, i, k, v, rfl, rfl, h, b1, b2, s, g, q⟩
theorem rd_clear {a : Addr} {xs : List V} (h : H a = some (.lst xs)) (q : Q .non (upd H a (.lst []))) : rClear (.ref a) [] H Q := ⟨a, xs, rfl, rfl, h, q⟩
theorem rd_aug {n : Nat} {ti : TIp} (e : σ[n]? = some (some x)) (h : te σ H fun y H1 => ti x y H1 fun z H2 => nx (σ.set n (some z)) H2) : tAug n te ti ⟨nx, rt, bk, ct⟩ σ H := ⟨x, e, h⟩
theorem rd_ipI {f : Int → Int → Int} (h : Q (.int (f i j)) H) : ipI f (.int i) (.int j) H Q := ⟨i, j, rfl, rfl, h⟩
theorem rd_whileM (W : Nat → L2.St → Hp → Prop) (m : Nat) (h0 : W m σ H)
    (hs : ∀ m σ H, W m σ H → tt σ H fun b H1 => if b = true then ∃ N : L2.St → Hp → Prop, (∀ σ' H', N σ' H' → ∃ m', m' < m ∧ W m' σ' H') ∧ t ⟨N, rt, nx, N⟩ σ H1 else nx σ H1) : tWhile tt t ⟨nx, rt, bk, ct⟩ σ H := ⟨W, ⟨m, h0⟩, hs⟩
theorem inV_ints (a : Int) : ∀ ns : List Int, inV (.int a) (ns.map V.int) = decide (a ∈ ns)
  | [] => rfl
  | b :: r => by
    have ih := inV_ints a r
    unfold inV at ih ⊢
    rw [List.map_cons, List.any_cons, ih]
    show ((b == a) || decide (a ∈ r)) = decide (a ∈ b :: r)
    by_cases h : b = a
    · subst h
      simp
    · have h2 : (b == a) = false := beq_eq_false_iff_ne.mpr h
      rw [h2, Bool.false_or]
      simp [List.mem_cons, Ne.symm h]
theorem flat_ints : ∀ ns : List Int, (ns.map V.int).all flatV = true
  | [] => rfl
  | _ :: r => by
    rw [List.map_cons, List.all_cons, flat_ints r]
    rfl
theorem rd_inI {p : Addr} {ns : List Int} (h : SqL K H p (ns.map V.int)) (q : Q (.bl (decide (i ∈ ns))) H) : rIn K false (.int i) (.ref p) H Q := ⟨p, ns.map V.int, rfl, .inl h, rfl, flat_ints ns, by
  rw [inV_ints]
  exact q⟩
theorem rd_notInI {p : Addr} {ns : List Int} (h : SqL K H p (ns.map V.int)) (q : Q (.bl (!decide (i ∈ ns))) H) : rIn K true (.int i) (.ref p) H Q := ⟨p, ns.map V.int, rfl, .inl h, rfl, flat_ints ns, by
  rw [inV_ints]
  exact q⟩
def rLenD : List V → Hp → VK → Prop := fun xs H Q => ∃ a kvs, xs = [V.ref a] ∧ H a = some (.dK kvs) ∧ Q (.int kvs.length) H
theorem call_lenD' {X : Cx} : CallR X (.builtin "len") rLenD := call_lenD
theorem rd_lenD {a : Addr} {kvs : List (Key × V)} (h : H a = some (.dK kvs)) (q : Q (.int kvs.length) H) : rLenD [.ref a] H Q := ⟨a, kvs, rfl, h, q⟩
/-! enumerate -/
theorem rd_iEnum {R : It → Hp → Prop} (h : ar σ H fun vs H1 => ∃ a xs, vs = [V.ref a] ∧ SqL K H1 a xs ∧ R (Ite K a) H1) : iEnum K ar σ H R := h
theorem rd_iEnumX {p : Addr} {xs : List V} {R : Addr → Prop} (h : SqL K H p xs) (q : R p) : ∃ a xs, [V.ref p] = [V.ref a] ∧ SqL K H a xs ∧ R a := ⟨p, xs, rfl, h, q⟩
theorem forE_by {a : Addr} {g : TG} (xs : List V) (Pv : Nat → L2.St → Hp → Prop) (h0 : Pv 0 σ H) (hl : ∀ i σ H, i ≤ xs.length → Pv i σ H → SqL K H a xs)
    (hs : ∀ i x σ H T, xs[i]? = some x → Pv i σ H → H T = none → g (.ref T) σ (upd H T (.tup [.int (i : Nat), x])) fun σ2 H2 => t ⟨Pv (i + 1), rt, nx, Pv (i + 1)⟩ σ2 H2) (hd : ∀ σ H, Pv xs.length σ H → nx σ H) : ForG (Ite K a) g t ⟨nx, rt, bk, ct⟩ σ H := by
  refine ⟨fun i m σ H => m = xs.length - i ∧ i ≤ xs.length ∧ Pv i σ H, ⟨xs.length, by simp, Nat.zero_le _, h0⟩, ?_⟩
  rintro i m σ H ⟨rfl, hi, p⟩
  have q := hl i σ H hi p
  by_cases hlt : i < xs.length
  · refine .inr ⟨⟨xs, xs[i], q, by simp [hlt]⟩, Pv (i + 1), fun σ' H' p' => ⟨xs.length - (i + 1), by omega, rfl, hlt, p'⟩, fun x H' y => ?_⟩
    obtain ⟨T, z, rfl, nT, rfl, hz⟩ := y
    exact hs i z σ H T (hz xs q) p nT
  · have e : i = xs.length := by omega
    subst e
    exact .inl ⟨⟨xs, q, Nat.le_refl _⟩, hd σ H p⟩
/-! == of equal data, of int lists -/
theorem dp_ints : ∀ ns : List Int, DpAll K H (ns.map V.int) (ns.map PyData.int)
  | [] => .nil
  | x :: r => .cons (.int x) (dp_ints r)
theorem lay_ints : ∀ ns : List Int, PyData.canLayAll0 (ns.map PyData.int) = true
  | [] => by simp only [List.map_nil, PyData.canLayAll0]
  | x :: r => by simp only [List.map_cons, PyData.canLayAll0, PyData.canLay0, lay_ints r, Bool.and_self]
theorem depth_ints : ∀ ns : List Int, PyData.depthAll (ns.map PyData.int) ≤ 1
  | [] => by simp [PyData.depthAll]
  | x :: r => by
    have := depth_ints r
    simp only [List.map_cons, PyData.depthAll, PyData.depth]
    omega
theorem shaped_ints (ns : List Int) : SeqAt.shaped (.list (ns.map PyData.int)) = true :=
  Bool.and_eq_true_iff.mpr ⟨by simp only [PyData.canLay0, lay_ints], decide_eq_true (by
    have h := depth_ints ns
    simp only [PyData.depth]
    omega)⟩
theorem eqv_ints : ∀ ns ms : List Int, PyData.eqvAll (ns.map PyData.int) (ms.map PyData.int) = decide (ns = ms)
  | [], [] => by simp [PyData.eqvAll]
  | [], y :: m => by simp [PyData.eqvAll]
  | x :: r, [] => by simp [PyData.eqvAll]
  | x :: r, y :: m => by
    have ih := eqv_ints r m
    simp only [List.map_cons, PyData.eqvAll, PyData.eqv, ih]
    by_cases h : x = y
    · subst h
      simp
    · simp [h]
theorem rd_eqLI {p q : Addr} {ns ms : List Int} (h1 : SqL K H p (ns.map V.int)) (h2 : SqL K H q (ms.map V.int)) (k : Q (.bl (decide (ns = ms))) H) : rEqD K (.ref p) (.ref q) H Q :=
  ⟨.list (ns.map PyData.int), .list (ms.map PyData.int), .lst h1 (dp_ints ns), .lst h2 (dp_ints ms), shaped_ints ns, shaped_ints ms, by
    simp only [PyData.eqv, eqv_ints]
    exact k⟩
theorem rd_neLI {p q : Addr} {ns ms : List Int} (h1 : SqL K H p (ns.map V.int)) (h2 : SqL K H q (ms.map V.int)) (k : Q (.bl (!decide (ns = ms))) H) : rNeD K (.ref p) (.ref q) H Q :=
  ⟨.list (ns.map PyData.int), .list (ms.map PyData.int), .lst h1 (dp_ints ns), .lst h2 (dp_ints ms), shaped_ints ns, shaped_ints ms, by
    simp only [PyData.eqv, eqv_ints]
    exact k⟩
end

/-! ### the same rules with the written part named (within comprehensions) -/
section
variable {X : L2.Cx} {K : PySem.W.Frag}
theorem call_listOfK (h : X.K = K) : CallR X (.type "list") (rListOf K) := h ▸ call_listOf
theorem call_lenSK (h : X.K = K) : CallR X (.builtin "len") (rLenS K) := h ▸ call_lenS
theorem ix_listK (h : X.K = K) : IxR X (rIxL K) := h ▸ ix_list
theorem ix_tupK (h : X.K = K) : IxR X (rIxT K) := h ▸ ix_tup
theorem op_in_seqK (h : X.K = K) : OpR X (compareOp .In) (rIn K false) := h ▸ op_in_seq
theorem op_notIn_seqK (h : X.K = K) : OpR X (compareOp .NotIn) (rIn K true) := h ▸ op_notIn_seq
theorem call_isiK2 (h : X.K = K) : CallR X (.builtin "isinstance") (rIsi K) := h ▸ call_isi
theorem pe_fldK {e : Expr} {f : Str} {pos : Pos} {ta : TE} (h : X.K = K) (he : PE X e ta) (hb : attributeBase e f X.env (eval e X.env) = eval e X.env) : PE X (.Attribute e f pos) (tFld K ta f) := h ▸ pe_fld he hb
end
end RD

/-! own layer: sorted(xs, key=f) where f's calls keep the invariant (behind RD) -/
namespace RD
open PySem PySem.Spec PyProof.Rows L2 PySem.W
section
variable {X : Cx} {pins pf : List (Addr × Obj)} {σ : L2.St} {H : Hp} {s : Shared}
/-- what a key's call does -/
def KeyTurn (X : Cx) (A : Around) (σ : L2.St) (H : Hp) (pf : List (Addr × Obj)) (f : Value) (xs : List V) (key : V → Int) : Prop :=
  ∀ (pl : List (Addr × Obj)) (s1 : Shared) (H1 : Hp) (v : V) (u : Value), Inv X (pf ++ pl) σ H1 s1 → Kp [] H H1 → v ∈ xs → RelV v u →
    wpAny (model X.prog X.w) A (call f [u]) (fun z s2 => ∃ H2 t, Inv X (pf ++ pl) σ H2 s2 ∧ Kp [] H1 H2 ∧ z = .int (key v) t) (fun _ _ => False) s1
/-- what stands of an address of ours, whatever runs -/
def Own (X : Cx) (pn : List (Addr × Obj)) (b : Addr) : Prop :=
  b ≠ X.env.locals ∧ b ∉ X.fs ∧ (b ∈ X.ex ∨ X.s_0.heap.objs.size ≤ b) ∧ (∀ x c, X.env.cells.lookup x = some c → c ≠ b) ∧ ∀ p ∈ X.pn ++ pn, p.1 ≠ b
theorem Own.fresh {b : Addr} (I : Inv X pins σ H s) (hb : s.heap.objs.size ≤ b) : Own X pins b := by
  have q := I.fpOk (H' := H) hb (I.hok.fresh hb)
  exact ⟨q.2.1, q.2.2.1, q.2.2.2.1, q.2.2.2.2.1, q.2.2.2.2.2⟩
theorem Own.less {pn pm : List (Addr × Obj)} {b : Addr} (o : Own X pn b) (h : ∀ p, p ∈ pm → p ∈ pn) : Own X pm b :=
  ⟨o.1, o.2.1, o.2.2.1, o.2.2.2.1, fun p hp => o.2.2.2.2 p ((List.mem_append.mp hp).elim (fun z => List.mem_append_left _ z) fun z => List.mem_append_right _ (h p z))⟩
theorem inv_pin {b : Addr} {o : Obj} {pn : List (Addr × Obj)} (I : Inv X (pf ++ pn) σ H s) (w : Own X (pf ++ pn) b) (hn : H b = none) (e : s.heap.get? b = some o) (hc : ∀ v, o.data ≠ .cell v) : Inv X (pf ++ ((b, o) :: pn)) σ H s :=
  I.pins_of fun p hp => by
    rcases List.mem_append.mp hp with z | z
    · exact I.pin p (List.mem_append_right _ (List.mem_append_left _ z))
    · rcases List.mem_cons.mp z with z | z
      · rw [z]
        exact ⟨e, hn, w.1, w.2.1, hc⟩
      · exact I.pin p (List.mem_append_right _ (List.mem_append_right _ z))
theorem inv_unpin {q : Addr × Obj} {pn : List (Addr × Obj)} (I : Inv X (pf ++ (q :: pn)) σ H s) : Inv X (pf ++ pn) σ H s :=
  I.pins_of fun p hp => by
    rcases List.mem_append.mp hp with z | z
    · exact I.pin p (List.mem_append_right _ (List.mem_append_left _ z))
    · exact I.pin p (List.mem_append_right _ (List.mem_append_right _ (List.mem_cons_of_mem _ z)))
theorem inv_head {q : Addr × Obj} {pn : List (Addr × Obj)} (I : Inv X (pf ++ (q :: pn)) σ H s) : s.heap.get? q.1 = some q.2 ∧ H q.1 = none :=
  have z := I.pin q (List.mem_append_right _ (List.mem_append_right _ (.head _)))
  ⟨z.1, z.2.1⟩
/-- the object at b turns -/
theorem inv_turn {b : Addr} {pn : List (Addr × Obj)} {h' : Heap} {t' : Nat} (I : Inv X pn σ H s) (w : Own X pn b) (hn : H b = none) (k : ∀ c o, c ≠ b → s.heap.get? c = some o → h'.get? c = some o) : Inv X pn σ H { s with heap := h', toks := t' } :=
  I.turned k hn w.1 w.2.2.1 w.2.2.2.1 w.2.2.2.2
theorem ints_snoc {vs : List Value} {ns : List Int} {n : Int} {t : Tok} (h : IntsAre vs ns) : IntsAre (vs ++ [.int n t]) (ns ++ [n]) := by
  induction h with
  | nil => exact .cons n t .nil
  | cons m u _ ih => exact .cons m u ih
theorem each_ints {h : Heap} {vs : List Value} {ns : List Int} (e : IntsAre vs ns) : EachIs (fun v d => ∃ as, Reads h v d as) vs (ns.map PyData.int) := by
  induction e with
  | nil => exact .nil
  | cons n t _ ih => exact .cons ⟨[], .int n t⟩ ih
theorem each_vals {xs : List V} {us : List Value} (r : Vals xs us) : EachIs (fun u v => RelV v u) us xs := by
  induction r with
  | nil => exact .nil
  | cons a _ ih => exact .cons a ih
theorem vals_each {xs : List V} {us : List Value} (r : EachIs (fun u v => RelV v u) us xs) : Vals xs us := by
  induction r with
  | nil => exact .nil
  | cons a _ ih => exact .cons a ih
/-- a heap without the object at b -/
def gone (h : Heap) (b : Addr) : Heap := h.update b fun _ => { cls := .none, data := .freed }
theorem gone_at {h : Heap} {b : Addr} {o : Obj} (e : h.get? b = some o) : (gone h b).get? b = none := by
  cases q : (gone h b).get? b with
  | none => rfl
  | some u =>
    exfalso
    obtain ⟨e1, _⟩ := Heap.get?_some_iff.mp e
    obtain ⟨e2, e3⟩ := Heap.get?_some_iff.mp q
    have e4 : (gone h b).objs[b]? = some { cls := .none, data := .freed } := by
      unfold gone
      rw [Heap.objs_update_self, e1]
      rfl
    rw [e4] at e2
    cases e2
    cases e3
theorem gone_ne {h : Heap} {b c : Addr} (n : c ≠ b) : (gone h b).get? c = h.get? c := (Heap.SameBut.update h b _).2 c n
theorem key_end {A : Around} {key : V → Int} {xs : List V} {vs : List Value} {a kS : Addr} {kA : Array Value} {e e1 : Nat} {P : PySem.Fin → Shared → Prop} {E : Value → Shared → Prop} (I : Inv X (pf ++ ((kS, seqObj "list" kA e) :: (a, seqObj "list" #[] e1) :: pins)) σ H s)
    (wk : Own X (pf ++ ((a, seqObj "list" #[] e1) :: pins)) kS) (wa : Own X (pf ++ pins) a) (r : Vals xs vs) (hZ : vs.length ≤ sizeLine) (hu : A.units < cLine) (hk : IntsAre kA.toList (xs.map key))
    (h : ∀ s' out c, Inv X (pf ++ pins) σ H s' → s'.heap.get? a = some (seqObj "list" (List.toArray out) c) → Vals (xs.mergeSort fun p q => decide (key p ≤ key q)) out → P (.done (.ret .none)) s') :
    wpAny (model X.prog X.w) A (ksk_end a false vs.toArray e1 (.ref kS) kA) P E s := by
  have nk := inv_head I
  have na := inv_head (inv_unpin I)
  have hka : kS ≠ a := Ne.symm (wk.2.2.2.2 (a, seqObj "list" #[] e1) (List.mem_append_right _ (List.mem_append_right _ (.head _))))
  have hl : kA.size = vs.length := by
    have h1 := hk.length
    rw [Array.length_toList, List.length_map] at h1
    rw [h1]
    exact r.length
  have hE := each_ints (h := s.heap) hk
  have hkz : (xs.map key).map PyData.int = xs.map (fun v => PyData.int (key v)) := by rw [List.map_map]; rfl
  have hal : AllAlike (xs.map fun v => PyData.int (key v)) := AllAlike.of fun _ _ => by simp [alike]
  have hsk : Sortable (xs.map fun v => PyData.int (key v)) := Sortable.others fun _ => ⟨(fun z => by cases z), (fun _ z => by cases z)⟩
  rw [hkz] at hE
  refine keyH_end (κ := dataKind s.heap (xs.map fun v => PyData.int (key v))) (h₁ := gone s.heap kS) (fun b o hb q => ?_) (gone_at nk.1) nk.1 na.1 hka (SortsAt.data hE hal hsk fun d hd => ?_) hl hZ fun h' tk c kp hc => ?_
  · by_cases hbk : b = kS
    · rw [hbk, gone_at nk.1] at q
      cases q
    · rw [gone_ne hbk] at q
      exact q
  · obtain ⟨v, _, e⟩ := List.mem_map.mp hd
    rw [← e]
    simpa [PyData.depth] using hu
  · have I1 : Inv X (pf ++ ((a, seqObj "list" #[] e1) :: pins)) σ H { s with heap := gone s.heap kS, toks := s.toks } := inv_turn (inv_unpin I) wk nk.2 fun b o hb q => by
      rw [gone_ne hb]
      exact q
    have I2 : Inv X (pf ++ pins) σ H { s with heap := h', toks := tk } := inv_turn (s := { s with heap := gone s.heap kS, toks := s.toks }) (inv_unpin I1) wa na.2 fun b o hb q => kp b o hb q
    have ko : KeyedOut false (xs.map fun v => PyData.int (key v)) vs (sortVals (dataKind s.heap (xs.map fun v => PyData.int (key v))) false kA.toList vs) := ⟨s.heap, kA.toList, hal, rfl, hE⟩
    have eo := keyedOut_each (fun v => PyData.int (key v)) ko (each_vals r)
    rw [dataLe_int key] at eo
    exact h _ _ c I2 hc (vals_each eo)
/-- the keys' loop -/
theorem key_rest {A : Around} {f : Value} {key : V → Int} {xs : List V} {vs : List Value} {a kS : Addr} {e1 : Nat} {P : PySem.Fin → Shared → Prop} {E : Value → Shared → Prop} (T : KeyTurn X A σ H pf f xs key)
    (I : Inv X (pf ++ ((kS, seqObj "list" #[] 0) :: (a, seqObj "list" #[] e1) :: pins)) σ H s) (wk : Own X (pf ++ ((a, seqObj "list" #[] e1) :: pins)) kS) (wa : Own X (pf ++ pins) a) (r : Vals xs vs) (hZ : vs.length ≤ sizeLine) (hu : A.units < cLine)
    (h : ∀ H' s' out c, Inv X (pf ++ pins) σ H' s' → Kp [] H H' → H' a = none → s'.heap.get? a = some (seqObj "list" (List.toArray out) c) → Vals (xs.mergeSort fun p q => decide (key p ≤ key q)) out → P (.done (.ret .none)) s') :
    wpAny (model X.prog X.w) A (ksk_rest a f false vs.toArray e1 (.ref kS)) P E s := by
  unfold ksk_rest
  refine wpAny_bind (wpAny_rule ?_)
  rw [List.forIn_toArray]
  refine wpAny_bind (ksk_fold (fun i s' => ∃ H1 kA e, Inv X (pf ++ ((kS, seqObj "list" kA e) :: (a, seqObj "list" #[] e1) :: pins)) σ H1 s' ∧ Kp [] H H1 ∧ IntsAre kA.toList ((xs.take i).map key)) vs 0 s ⟨H, #[], 0, I, Kp.refl, .nil⟩ ?step ?done)
  case step =>
    rintro j u s' hx ⟨H1, kA, e, I1, k1, hk⟩
    rw [Nat.zero_add] at hk ⊢
    obtain ⟨hj, _⟩ := List.getElem?_eq_some_iff.mp hx
    obtain ⟨v, hv⟩ : ∃ v, xs[j]? = some v := ⟨_, List.getElem?_eq_getElem (by rw [r.length]; exact hj)⟩
    obtain ⟨u', hu', rv⟩ := Vals.get r hv
    rw [hx] at hu'
    cases hu'
    have hz : kA.size ≤ vs.length := by
      have h1 := hk.length
      rw [Array.length_toList, List.length_map, List.length_take] at h1
      omega
    refine wpAny_bind (wpAny_attempt (wpAny_mono (T _ s' H1 v u I1 k1 (List.mem_of_getElem? hv) rv) (fun z s2 he => ?_) fun _ _ hF => hF.elim))
    obtain ⟨H2, t, I2, k2, rfl⟩ := he
    have nk := inv_head I2
    obtain ⟨c2, hc2⟩ : ∃ c2, (s2.heap.update kS (Obj.mapSeq (·.push (.int (key v) t)))).get? kS = some (seqObj "list" (kA.push (.int (key v) t)) c2) := ⟨_, get?_update_seq nk.1 (·.push (.int (key v) t))⟩
    refine wpAny_bind (listUpdate_at nk.1 rfl ?_ (Nat.le_trans hz hZ) (Nat.le_trans (Nat.le_of_eq (Array.size_push ..)) (Nat.succ_le_succ (Nat.le_trans hz hZ))))
    have I3 : Inv X (pf ++ ((a, seqObj "list" #[] e1) :: pins)) σ H2 { s2 with heap := s2.heap.update kS (Obj.mapSeq (·.push (.int (key v) t))), toks := s2.toks } :=
      inv_turn (inv_unpin I2) wk nk.2 fun b o hb q => ((Heap.SameBut.update s2.heap kS _).2 b hb).trans q
    refine wpAny_pure ⟨rfl, H2, kA.push (.int (key v) t), c2, inv_pin I3 wk nk.2 hc2 (fun _ z => by cases z), k1.trans k2, ?_⟩
    rw [Array.toList_push, List.take_add_one, hv, List.map_append]
    exact ints_snoc hk
  case done =>
    rintro s' ⟨H1, kA, e, I1, k1, hk⟩
    rw [Nat.zero_add, ← r.length, List.take_length] at hk
    refine wpAny_bind (listItems_at (inv_head I1).1 rfl ?_)
    exact key_end (key := key) I1 wk wa r hZ hu hk fun s2 out c I2 hc ho => h H1 s2 out c I2 k1 (inv_head (inv_unpin I1)).2 hc ho
/-- xs.sort(key=f) of a list that nobody knows -/
theorem key_tree {A : Around} {f : Value} {key : V → Int} {xs : List V} {vs : List Value} {a : Addr} {n : Nat} {P : PySem.Fin → Shared → Prop} {E : Value → Shared → Prop} (T : KeyTurn X A σ H pf f xs key)
    (I : Inv X (pf ++ pins) σ H s) (wa : Own X (pf ++ pins) a) (na : H a = none) (ho : s.heap.get? a = some (seqObj "list" vs.toArray n)) (r : Vals xs vs) (hZ : vs.length ≤ sizeLine) (hu : A.units < cLine)
    (h : ∀ H' s' out c, Inv X (pf ++ pins) σ H' s' → Kp [] H H' → H' a = none → s'.heap.get? a = some (seqObj "list" (List.toArray out) c) → Vals (xs.mergeSort fun p q => decide (key p ≤ key q)) out → P (.done (.ret .none)) s') :
    wpAny (model X.prog X.w) A (ksk_tree a f false) P E s := by
  obtain ⟨e1, ho1⟩ : ∃ e1, (s.heap.update a (Obj.mapSeq fun _ => (#[] : Array Value))).get? a = some (seqObj "list" #[] e1) := ⟨_, get?_update_seq ho fun _ => #[]⟩
  have I1 : Inv X (pf ++ pins) σ H { s with heap := s.heap.update a (Obj.mapSeq fun _ => (#[] : Array Value)), toks := s.toks } := inv_turn I wa na fun b o hb q => ((Heap.SameBut.update s.heap a _).2 b hb).trans q
  have I2 := inv_pin I1 wa na ho1 (fun _ z => by cases z)
  have I3 : Inv X (pf ++ ((a, seqObj "list" #[] e1) :: pins)) σ H { s with heap := (s.heap.update a (Obj.mapSeq fun _ => (#[] : Array Value))).push (seqObj "tuple" vs.toArray 0), toks := s.toks } := I2.kept fun b o q => Heap.get?_push_of_some _ q
  have wk := Own.fresh I3 (Nat.le_refl _)
  have nk := I3.hok.fresh (Nat.le_refl _)
  have I4 : Inv X (pf ++ ((a, seqObj "list" #[] e1) :: pins)) σ H { s with heap := ((s.heap.update a (Obj.mapSeq fun _ => (#[] : Array Value))).push (seqObj "tuple" vs.toArray 0)).push (seqObj "list" #[] 0), toks := s.toks } := I3.kept fun b o q => Heap.get?_push_of_some _ q
  unfold ksk_tree
  refine wpAny_bind (listItems_at ho rfl ?_)
  refine wpAny_bind (listUpdate_at ho rfl ?_ (by rw [List.size_toArray]; exact hZ) (Nat.zero_le _))
  refine wpAny_bind (seqEpoch_at ho1 rfl ?_)
  refine wpAny_bind (wpAny_newTuple ?_ (by show vs.length ≤ _; exact hZ))
  refine wpAny_bind (wpAny_newList ?_ (Nat.zero_le _))
  refine wpAny_holding ?_
  exact key_rest T (inv_pin I4 wk nk (Heap.get?_push_size _ rfl) (fun _ z => by cases z)) wk wa r hZ hu h
/-- an object of ours becomes known -/
theorem inv_track {a : Addr} {o : HO} {pn : List (Addr × Obj)} (I : Inv X pn σ H s) (w : Own X pn a) (hn : H a = none) (ok : ObjOk X.prog X.w (upd H a o) s.heap a o) : Inv X pn σ (upd H a o) s := by
  have ne : ∀ b u, H b = some u → b ≠ a := fun b u e z => by
    rw [z, hn] at e
    cases e
  have up : ∀ b u, H b = some u → upd H a o b = some u := fun b u e => by rw [upd_ne (ne b u e)]; exact e
  exact I.step (h' := s.heap) (g' := s.gens) (d' := s.drawn) (t' := s.toks) (ch := [a]) (fun b hb => by
      rw [List.mem_singleton.mp hb]
      exact ⟨w.2.2.1, w.1, w.2.2.2.1, w.2.2.2.2⟩)
    (fun b u _ _ _ e _ => e) (fun b u _ _ _ e _ => ⟨u.slots, e⟩) (fun b u hb _ n => by
      rw [upd_ne (fun z => hb (List.mem_singleton.mpr z))]
      exact n)
    (fun b u _ e => ⟨u, e⟩) (fun b xs e => up b _ e) (fun b u v e => up b _ e) (fun b ps e => ⟨#[], by rw [up b _ e]; simp⟩) (fun m hm => hm)
    (fun b u e => by
      by_cases hb : b = a
      · rw [hb, upd_same] at e
        cases e
        rw [hb]
        exact ok
      · rw [upd_ne hb] at e
        exact (I.hok b u e).stay (fun c v _ q => q) (fun c q => up c _ q) fun c xs q => up c _ q) I.bare
/-- sorted(xs, key=f) -/
theorem sorted_key {f : Addr} {key : V → Int} {xs : List V} {l : Addr} {Q : VK} (T : KeyTurn X X.A.in1.in1 σ H pf (.ref f) xs key) (I : Inv X (pf ++ pins) σ H s) (hs : SqL X.K H l xs) (hu : X.A.units + 2 < cLine)
    (h : ∀ H' p, Kp [] H H' → H' p = none → Q (.ref p) (upd H' p (.lst (xs.mergeSort fun a b => decide (key a ≤ key b))))) :
    wpAny (model X.prog X.w) X.A (call (.builtin "sorted") [.ref l] [(Str.ofString "key", .ref f)]) (EP X (pf ++ pins) σ Q) X.xe s := by
  obtain ⟨its, rv, hl, hz⟩ := I.list hs
  have wa := Own.fresh I (b := s.heap.objs.size + 1) (Nat.le_succ _)
  have na : H (s.heap.objs.size + 1) = none := I.hok.fresh (Nat.le_succ _)
  refine sorted_of_sort hl.isList (by rw [← rv.length]; exact hz) (ksk_s1 _ _) (fun _ => ksk_l1 _ _) fun E' => ?_
  rw [ksk_t1]
  have I1 : Inv X (pf ++ pins) σ H { s with heap := copyHeap s.heap its, toks := s.toks } := I.kept fun b o q => copyHeap_old q
  refine key_tree (s := { s with heap := copyHeap s.heap its }) T I1 wa na (copyHeap_at s.heap its) rv (by rw [← rv.length]; exact hz) hu fun H' s' out c I2 k2 n2 hc ro => ⟨rfl, ?_⟩
  have hlen : (xs.mergeSort fun a b => decide (key a ≤ key b)).length ≤ sizeLine := by
    rw [List.length_mergeSort]
    exact hz
  exact ⟨.ref _, _, inv_track (o := .lst (xs.mergeSort fun a b => decide (key a ≤ key b))) I2 wa n2 ⟨hlen, out, c, ro, hc⟩, rfl, h H' _ k2 n2⟩
end
/-! ### a lambda with one parameter -/
structure Lam1 (sc scope : Scope) (p : Str) : Prop where
  kind : scope.kind = .function
  co : scope.isCoroutine = false
  gen : scope.isGenerator = false
  own : ∀ y ∈ scope.names, y.2 ≠ .cell
  par : scope.names.lookup p = some .local
  loc : ∀ {y}, y ≠ p → scope.names.lookup y ≠ some .local
  free : ∀ y ∈ scope.names, y.2 = .free → sc.names.lookup y.1 = some .cell ∨ sc.names.lookup y.1 = some .free
def lam1B (sc scope : Scope) (p : Str) : Bool :=
  decide (scope.kind = .function) && !scope.isCoroutine && !scope.isGenerator && decide (scope.names.lookup p = some .local) && scope.names.all fun y => !decide (y.2 = .cell) && (!decide (y.2 = .local) || decide (y.1 = p)) && (!decide (y.2 = .free) || decide (sc.names.lookup y.1 = some .cell) || decide (sc.names.lookup y.1 = some .free))
theorem lam1_by {sc scope : Scope} {p : Str} (h : lam1B sc scope p = true) : Lam1 sc scope p := by
  unfold lam1B at h
  simp only [Bool.and_eq_true, Bool.or_eq_true, Bool.not_eq_true', decide_eq_true_eq, decide_eq_false_iff_not, List.all_eq_true] at h
  obtain ⟨⟨⟨⟨h1, h2⟩, h3⟩, h5⟩, h4⟩ := h
  refine ⟨h1, h2, h3, fun y hy => (h4 y hy).1.1, h5, fun {y} n e => ?_, fun y hy e => ?_⟩
  · rcases (h4 _ (PySem.mem_of_lookup e)).1.2 with z | z
    · exact z rfl
    · exact n z
  rcases (h4 y hy).2 with (z | z) | z
  · exact absurd e z
  · exact .inl z
  · exact .inr z
theorem Lam1.has {X : Cx} {scope : Scope} {p : Str} (L : Lam1 X.env.scope scope p) (ok : X.Ok) : ∀ y ∈ scope.names, y.2 = .free → ∃ c, X.env.cells.lookup y.1 = some c := fun y hy e => by
  rcases L.free y hy e with k | k
  · exact ok.has _ (.inl k)
  · exact ok.has _ (.inr k)
/-- the context of the lambda's body -/
def lam1Cx (X : Cx) (A : Around) (s : Shared) (H : Hp) (N : List Str) (scope : Scope) (f c' : Addr) : Cx where
  prog := X.prog
  w := X.w
  K := X.K
  mg := X.mg
  base := X.base
  A := A.deeper (LamX.lamEnv X scope s.heap.objs.size f c')
  N := N
  s_0 := s
  H_0 := H
  env := LamX.lamEnv X scope s.heap.objs.size f c'
  outer := X.stack
  stack := LamX.lamEnv X scope s.heap.objs.size f c' :: X.stack
  ex := []
  fn := fun _ => false
  calm := true
  pn := []
  xe := fun _ _ => False
section
variable {X : Cx} {pins : List (Addr × Obj)} {σ σ' : L2.St} {H : Hp} {s : Shared}
/-- each name of the body that has a value: the parameter, or a name of the maker -/
def Caps (X : Cx) (σ : L2.St) (N : List Str) (σ' : L2.St) (p : Str) (v : V) : Prop :=
  σ'.length = N.length ∧ ∀ (i : Nat) (y : Str) (x : V), N[i]? = some y → σ'[i]? = some (some x) → (y = p ∧ x = v) ∨ (y ≠ p ∧ ∃ j : Nat, X.N[j]? = some y ∧ σ[j]? = some (some x))
theorem lam1_start {A : Around} {N : List Str} {scope : Scope} {p : Str} {v : V} {u : Value} {f c' : Addr} {h₁ : Heap} {tk : Nat} (I : Inv X pins σ H s) (L : Lam1 X.env.scope scope p) (hfr : A.frames = some X.stack) (hd : A.handled = none) (C : Caps X σ N σ' p v) (r : RelV v u)
    (hns : h₁.Ns s.heap.objs.size fun y => [(p, u)].reverse.lookup y) (kp : ∀ b o, s.heap.get? b = some o → h₁.get? b = some o) :
    Inv (lam1Cx X A s H N scope f c') [] σ' H { s with heap := h₁, toks := tk } := by
  have e0 := I.env0
  have hfree := L.has I.ok
  have cm : ∀ {y c}, (cloFrom X.env.cells scope.names []).lookup y = some c → X.env.cells.lookup y = some c := fun {y c} e => by
    rcases cloFrom_mem (PySem.mem_of_lookup e) with hm | ⟨h1, h2⟩
    · cases hm
    · obtain ⟨c1, hc⟩ := hfree _ h1 rfl
      have hc : X.env.cells.lookup y = some c1 := hc
      have e2 : c = c1 := by rw [h2, hc] <;> rfl
      rw [e2]
      exact hc
  have look : ∀ {y}, scope.names.lookup y = some .free → ∃ c, (cloFrom X.env.cells scope.names []).lookup y = some c := fun {y} hl =>
    mem_lookup (cloFrom_has (cells := X.env.cells) (acc := []) (PySem.mem_of_lookup hl))
  have cellK : ∀ {c : Addr} {z : Option Value}, s.heap.IsCell c z → h₁.IsCell c z := fun {c z} ⟨o, ho, hd⟩ => ⟨o, kp _ _ ho, hd⟩
  have noA : ∀ b : Addr, b ∉ (lam1Cx X A s H N scope f c').ex := fun b z => by cases z
  constructor
  case ok =>
    constructor
    case mod => exact e0.mod
    case kind => exact L.kind
    case glob => exact rfl
    case blt => exact rfl
    case above => exact Nat.le_refl _
    case inj => exact fun y z c e1 e2 => I.ok.inj y z c (cm e1) (cm e2)
    case has =>
      intro y hy
      have hy : scope.names.lookup y = some .cell ∨ scope.names.lookup y = some .free := hy
      rcases hy with hy | hy
      · exact absurd rfl (L.own _ (PySem.mem_of_lookup hy))
      · exact look hy
    case cab =>
      intro y c z _
      have z : false = true := z
      cases z
    case hd => exact fun _ => hd
    case frames => exact Around.frames_deeper hfr
    case stk => exact .inr ⟨rfl, rfl⟩
    case exf => exact fun b z => absurd z (noA b)
    case bs => exact e0.bs
    case bsz => exact e0.bsz
    case noex => exact fun b _ _ => noA b
    case exfs => exact fun b z => absurd z (noA b)
    case funs => exact e0.funs
    case frf => exact e0.frf
  case os => exact rfl
  case bare => exact e0.bare
  case base => exact Un.kept kp
  case loc =>
    refine ⟨_, hns, fun i y x e1 e2 e3 => ?_⟩
    rcases C.2 i y x e1 e2 with ⟨ey, ex⟩ | ⟨ny, j, j1, j2⟩
    · rw [ey, ex]
      exact ⟨u, r, .inl ⟨L.par, by simp⟩⟩
    · have e3 : Vis scope y := e3
      rcases e3 with k | k | k
      · exact absurd k (L.loc ny)
      · exact absurd rfl (L.own _ (PySem.mem_of_lookup k))
      · obtain ⟨m, hn, hl⟩ := I.loc
        have hvis : Vis X.env.scope y := (L.free _ (PySem.mem_of_lookup k) rfl).elim (fun k => .inr (.inl k)) (fun k => .inr (.inr k))
        obtain ⟨w', r', q⟩ := hl j y x j1 j2 hvis
        obtain ⟨c2, h2⟩ := look k
        refine ⟨w', r', .inr ⟨.inr k, c2, h2, ?_⟩⟩
        have c1 := cm h2
        rcases q with ⟨k', _⟩ | ⟨_, c3, e', z⟩
        · have k' : X.env.scope.names.lookup y = some .local := k'
          rcases L.free _ (PySem.mem_of_lookup k) rfl with k2 | k2 <;> rw [show X.env.scope.names.lookup y = _ from k2] at k' <;> cases k'
        · rw [c1] at e'
          cases e'
          exact cellK z
  case cell =>
    intro y c e
    obtain ⟨w', z⟩ := I.cell y c (cm e)
    exact ⟨w', cellK z⟩
  case free => exact e0.hok.fresh (Nat.le_refl _)
  case freeC => exact fun y c e => I.freeC y c (cm e)
  case pin => exact fun q hq => absurd (show q ∈ ([] : List (Addr × Obj)) ++ [] from hq) (by simp)
  case hok => exact e0.hok.kept kp
  case len => exact C.1
/-- the lambda as a key -/
theorem lam1_turn {A : Around} {k : Nat} {N : List Str} {scope : Scope} {p : Str} {f c' : Addr} {params : Arguments} {body : Expr} {pm ctv : Value} {xs : List V} {key : V → Int} {τ : V → L2.St} (L : Lam1 X.env.scope scope p) (hc : H c' = some (LamX.CodeO c' (X.env.qual ++ "<lambda>")))
    (hA : A.frames = some X.stack) (hr : Room (k + 1) A) (hbind : ∀ u, bindArgs (PySem.W.kla_fn "<lambda>" (X.env.qual ++ "<lambda>") params body scope (cloFrom X.env.cells scope.names []) pm (.ref c') ctv) ⟨[u], []⟩ = pure [(p, u)])
    (hC : ∀ v, v ∈ xs → Caps X σ N (τ v) p v)
    (hbody : ∀ (s : Shared) (H1 : Hp) (v : V), v ∈ xs → Kp [] H H1 → Room k (A.deeper (LamX.lamEnv X scope s.heap.objs.size f c')) → ∃ tb, PE (lam1Cx X A s H1 N scope f c') body tb ∧ tb (τ v) H1 fun x H2 => x = .int (key v) ∧ Kp [] H1 H2) :
    KeyTurn X A σ H [(f, PySem.W.kla_obj "<lambda>" (X.env.qual ++ "<lambda>") params body scope (cloFrom X.env.cells scope.names []) pm c' ctv)] (.ref f) xs key := by
  intro pl s1 H1 v u I1 k1 hv r
  have hf := (I1.pin _ (List.mem_append_right _ (List.mem_append_left _ (.head _)))).1
  obtain ⟨⟨oc, vs, t, hoc, hdc, hvc⟩, _, _⟩ := I1.hok c' _ (k1.g0 hc)
  have rc : codeAny (model X.prog X.w) A (.call (.ref f) ⟨[u], []⟩) (fun r s' => ∃ z, r = .ok (.ret z) ∧ CE X.stack X.prog X.w H1 s1 (fun x H2 => x = .int (key v) ∧ Kp [] H1 H2) z s') s1 := by
    refine PySem.W.kla_callFunE hr.depth hf rfl L.co L.gen rfl ⟨c', oc, vs, t, rfl, hoc, hdc, hvc⟩ ?_
    rw [hbind]
    refine wpAny_pure (wpAny_newFunctionEnv (fun y hy => L.own y hy) (fun y hy => ?_) (fun h₁ hns hsb => ⟨I1.nolimit.fresh _ hsb, ?_⟩) L.kind)
    · rw [List.mem_singleton.mp hy]
      exact L.par
    show codeAny _ _ (.expr body (LamX.lamEnv X scope s1.heap.objs.size f c')) _ _
    have kp : ∀ b o, s1.heap.get? b = some o → h₁.get? b = some o := fun b o e => hsb.extBut b o (Nat.ne_of_lt (Heap.lt_size e)) (Heap.get?_push_of_some _ e)
    have J : Inv (lam1Cx X A s1 H1 N scope f c') [] (τ v) H1 { s1 with heap := h₁, toks := s1.toks + [(p, u)].length } := lam1_start I1 L hA hr.hd (hC v hv) r hns kp
    obtain ⟨tb, hp, ht⟩ := hbody s1 H1 v hv k1 (hr.deeper _)
    refine PySem.W.kla_codeExpr (wpAny_mono (hp.run [] _ _ _ _ J ht) (fun z s' hq => ?_) fun e s' hq => (show False from hq).elim)
    obtain ⟨w', H', J', rv, q⟩ := hq
    exact ⟨z, rfl, w', H', J'.os, J'.bare, J'.base, J'.hok, rv, q⟩
  refine wpAny_call (codeAny_mono rc fun r s' hq => ?_)
  obtain ⟨z, rfl, ce⟩ := hq
  obtain ⟨x, H2, I2, rx, ex, k2⟩ := I1.after ce
  rw [ex] at rx
  obtain ⟨t', e⟩ := rx
  exact ⟨H2, t', I2, k2, e⟩
/-- a made function is pinned -/
theorem fn_pin {f : Addr} {o : Obj} {fd : FuncData} (I : Inv X pins σ H s) (hf : s.heap.get? f = some o) (hd : o.data = .func fd) (hn : H f = none) (hfr : f ∉ frs X.stack) : Inv X ([(f, o)] ++ pins) σ H s :=
  I.pins_of fun p hp => by
    rcases List.mem_append.mp hp with z | z
    · rw [List.mem_singleton.mp z]
      refine ⟨hf, hn, fun e => ?_, fun e => ?_, fun v e => ?_⟩
      · obtain ⟨m, ⟨ol, es, ep, ho, hdl, _⟩, _⟩ := I.loc
        have e : f = X.env.locals := e
        rw [← e, hf] at ho
        cases ho
        rw [hd] at hdl
        cases hdl
      · rcases I.ok.stk with k | ⟨k, _⟩
        · exact hfr (by rw [k]; exact e)
        · refine hfr ?_
          rw [k]
          unfold frs
          rw [List.filterMap_cons]
          have e : f ∈ frs X.outer := e
          unfold frs at e
          split
          · exact e
          · exact List.mem_cons_of_mem _ e
      · have e : o.data = .cell v := e
        rw [hd] at e
        cases e
    · exact I.pin p (List.mem_append_right _ z)
theorem ep_less {q : Addr × Obj} {Q : VK} {u : Value} {s' : Shared} (h : EP X ([q] ++ pins) σ Q u s') : EP X pins σ Q u s' := by
  obtain ⟨v, H', I, r, h⟩ := h
  exact ⟨v, H', I.pins_of fun p hp => I.pin p (List.mem_append_right _ (List.mem_append_right _ hp)), r, h⟩
/-- the names of the body, told by the maker's -/
def CapsN (N0 : List Str) (σ : L2.St) (N : List Str) (σ' : L2.St) (p : Str) (v : V) : Prop :=
  σ'.length = N.length ∧ ∀ (i : Nat) (y : Str) (x : V), N[i]? = some y → σ'[i]? = some (some x) → (y = p ∧ x = v) ∨ (y ≠ p ∧ ∃ j : Nat, N0[j]? = some y ∧ σ[j]? = some (some x))
theorem sq_ext {K : PySem.W.Frag} {H H' : Hp} {l : Addr} {xs : List V} (e : LamX.ExtN H H') (h : SqL K H l xs) : SqL K H' l xs := by
  rcases h with (h | ⟨o, h⟩) | h
  · exact .inl (.inl (e _ _ h fun ps z => by cases z))
  · exact .inl (.inr ⟨o, e _ _ h fun ps z => by cases z⟩)
  · exact .inr h
/-- sorted(e, key=lambda p: body) -/
def tSortKey (K : PySem.W.Frag) (T : List (Addr × Str)) (N0 N : List Str) (p : Str) (t : TA) (tb : TE) : TE := fun σ H Q => t σ H fun vs H1 => ∃ (l : Addr) (xs : List V) (key : V → Int) (τ : V → L2.St), vs = [.ref l] ∧ SqL K H1 l xs ∧ LamX.Tabs T H1 ∧
  (∀ v, v ∈ xs → CapsN N0 σ N (τ v) p v) ∧ ∀ H2, LamX.ExtN H1 H2 → LamX.Tabs T H2 → (∀ (H3 : Hp) (v : V), v ∈ xs → Kp [] H2 H3 → tb (τ v) H3 fun x H4 => x = .int (key v) ∧ Kp [] H3 H4) ∧
    ∀ (H3 : Hp) (q : Addr), Kp [] H2 H3 → H3 q = none → Q (.ref q) (upd H3 q (.lst (xs.mergeSort fun a b => decide (key a ≤ key b))))
theorem pe_sortKey {T : List (Addr × Str)} {N : List Str} {k : Nat} {c P : Addr} {scope : Scope} {p : Str} {params : Arguments} {e body : Expr} {t : TA} {tb : TE} {p1 kpos lpos pos : Pos} (hg : Gl X "sorted") (hm : X.mg "sorted" = none) (ha : PA X [e] t)
    (TB : LamX.TabB X.base X.mg c P) (hcode : X.env.code = .ref c) (hmT : (P, X.env.qual ++ "<lambda>") ∈ T) (huT : ∀ p ∈ T, p.1 = P → p.2 = X.env.qual ++ "<lambda>") (hr : Room (k + 3) X.A) (L : Lam1 X.env.scope scope p) (hdef : defaultsOf params X.env = ([], []))
    (hbind : ∀ (q : Str) (cl : List (Str × Addr)) (pm cv ctv u : Value), bindArgs (PySem.W.kla_fn "<lambda>" q params body scope cl pm cv ctv) ⟨[u], []⟩ = pure [(p, u)])
    (hbody : ∀ (s : Shared) (H : Hp) (f c' : Addr), Room k (X.A.in1.in1.deeper (LamX.lamEnv X scope s.heap.objs.size f c')) → PE (lam1Cx X X.A.in1.in1 s H N scope f c') body tb)
    (he : backTo pos (starEach [e] X.env) = (false, eval e X.env) :: backTo pos (starEach [] X.env) := by rfl) (hpl : (backTo pos (starEach [e] X.env)).any (·.1) = false := by rfl) :
    PE X (.Call (.Name "sorted" p1) [e] [⟨some "key", .Lambda params body scope lpos, kpos⟩] pos) (tSortKey X.K T X.N N p t tb) := by
  refine ⟨fun pins s σ H Q I h => ?_⟩
  refine wpAny_Call_Name_kw (ld_blt I hg hm (show bootBuiltins "sorted" = some (.builtin "sorted") by rfl) ?_ (by decide) (by decide))
  refine PyProof.Rows.callWith_kw (thn (ha.run pos pins s σ H _ I h) fun us s1 ⟨vs, H1, I1, r1, q1⟩ => ?_) he hpl rfl rfl
  obtain ⟨l, xs, key, τ, rfl, hs, hT, hC, q⟩ := q1
  obtain rfl := Vals.ref1 r1
  show wpAny _ _ (evalAll ((do let v ← eval (.Lambda params body scope lpos) X.env; standAt pos; pure v) :: [])) _ _ s1
  refine wpAny_evalAll_cons (wpAny_bind (LamX.lam_make2 I1 TB hcode hmT huT hT hdef (L.has I1.ok) fun f c' pm ctv H2 s2 I2 eN T2 hf hfn hfr hco => wpAny_bind (wpAny_standAt (wpAny_pure (wpAny_evalAll_nil ?_)))))
  obtain ⟨hb, hq⟩ := q H2 eN T2
  show wpAny _ _ (call (.builtin "sorted") [.ref l] [(Str.ofString "key", .ref f)]) _ _ s2
  refine wpAny_mono (sorted_key (lam1_turn L hco I2.ok.frames hr.in1.in1 (fun u => hbind _ _ _ _ _ u) hC fun s H3 v hv k3 hr3 => ⟨tb, hbody s H3 f c' hr3, hb H3 v hv k3⟩) (fn_pin I2 hf rfl hfn hfr) (sq_ext eN hs) (by have := hr.units; omega) hq) (fun u s' h => ep_less h) fun _ _ h => h
end
end RD
namespace RD
open PySem PySem.Spec PyProof.Rows L2 PySem.W
section
variable {X : Cx} {pins pf : List (Addr × Obj)} {σ : L2.St} {H : Hp} {s : Shared}
theorem Own.cons {pn : List (Addr × Obj)} {q : Addr × Obj} {b : Addr} (w : Own X (pf ++ pn) b) (n : q.1 ≠ b) : Own X (pf ++ (q :: pn)) b :=
  ⟨w.1, w.2.1, w.2.2.1, w.2.2.2.1, fun p hp => by
    rcases List.mem_append.mp hp with z | z
    · exact w.2.2.2.2 p (List.mem_append_left _ z)
    · rcases List.mem_append.mp z with z | z
      · exact w.2.2.2.2 p (List.mem_append_right _ (List.mem_append_left _ z))
      · rcases List.mem_cons.mp z with z | z
        · rw [z]
          exact n
        · exact w.2.2.2.2 p (List.mem_append_right _ (List.mem_append_right _ z))⟩
/-- the first of the least -/
def Least (xs : List V) (key : V → Int) (i : Nat) (b : V) : Prop := xs[i]? = some b ∧ ∀ (j : Nat) (z : V), xs[j]? = some z → key b ≤ key z ∧ (j < i → key b < key z)
theorem min_loop {A : Around} {f : Addr} {key : V → Int} {xs : List V} {l Ia S : Addr} {kw : List (Str × Value)} {R : Result → Shared → Prop} (hh : A.handled = none) (T : KeyTurn X A.in1 σ H pf (.ref f) xs key) (hs : SqL X.K H l xs) (hlI : l ≠ Ia) (hSI : S ≠ Ia)
    (wS : Own X (pf ++ pins) S) (wI : Own X (pf ++ pins) Ia)
    (hR : ∀ H2 s2 i b vb, Inv X (pf ++ pins) σ H2 s2 → Kp [] H H2 → Least xs key i b → RelV b vb → R (.ok (.ret vb)) s2) :
    ∀ (r j i : Nat) (s1 : Shared) (H1 : Hp) (b : V) (vb : Value) (tb : Tok) (c : Nat) (oI : Obj), xs.length - (j + 1) = r → j + 1 ≤ xs.length → Inv X (pf ++ ((S, seqObj "list" #[vb, .int (key b) tb] c) :: (Ia, oI) :: pins)) σ H1 s1 → Kp [] H H1 → s1.heap.IsListIter Ia l (j + 1) →
      xs[i]? = some b → RelV b vb → i ≤ j → (∀ (j' : Nat) (z : V), j' ≤ j → xs[j']? = some z → key b ≤ key z ∧ (j' < i → key b < key z)) →
      codeAny (model X.prog X.w) A (.builtin "min.loop" ⟨[.ref Ia, .ref f, .ref S], kw⟩) R s1 := by
  have hname : (toString "min" ++ toString ".loop" : String) = "min.loop" := by decide
  intro r
  induction r with
  | zero =>
    intro j i s1 H1 b vb tb c oI hr hj I1 k1 hit hb rb hij hbest
    have hin : j + 1 = xs.length := by omega
    have nS := inv_head I1
    have nI := inv_head (inv_unpin I1)
    obtain ⟨its, rv, hl, hz⟩ := I1.list (sl_kp k1 (by simp) hs)
    have W := Walks.list (prog := X.prog) (w := X.w) (A := A.in1) hh Ia l hlI its.toArray
    have hsz : its.toArray.size = xs.length := by rw [List.size_toArray, rv.length]
    refine codeAny_builtin (id := "min.loop") PySem.F.entry_min_loop ?_
    rw [Around.under_plainId PySem.F.plain_min_loop _]
    show wpAny (model X.prog X.w) A.in1 (seqItems? (.ref S) >>= _) _ _ _
    refine wpAny_bind (wpAny_seqItems (s := s1) nS.1 rfl ?_)
    show wpAny (model X.prog X.w) A.in1 (tryCatch (pyNext (.ref Ia)) _ >>= _) _ _ _
    refine wpAny_bind (wpAny_tryCatch (W.done s1 _ _ ⟨by rw [hsz, ← hin]; exact hit, hl.isList⟩ fun h' tk' hk' => ?_))
    have hS' := hk' S _ (by simpa using hSI) nS.1
    have I2 : Inv X (pf ++ ((S, seqObj "list" #[vb, .int (key b) tb] c) :: pins)) σ H1 { s1 with heap := h', toks := tk' } :=
      inv_pin (inv_turn (inv_unpin (inv_unpin I1)) wI nI.2 fun a o ha q => hk' a o (by simpa using ha) q) wS nS.2 hS' (fun _ z => by cases z)
    have I3 : Inv X (pf ++ pins) σ H1 { s1 with heap := h'.update S (Obj.mapSeq fun _ => (#[] : Array Value)), toks := tk' } :=
      inv_turn (s := { s1 with heap := h', toks := tk' }) (inv_unpin I2) wS nS.2 fun a o ha q => ((Heap.SameBut.update h' S _).2 a ha).trans q
    show wpAny (model X.prog X.w) A.in1 (updateSeq S (fun _ => #[]) >>= _) _ _ _
    refine wpAny_bind (wpAny_updateSeq hS' rfl (wpAny_bind (wpAny_letGo (wpAny_pure ?_))))
    exact hR H1 _ i b vb I3 k1 ⟨hb, fun j' z hz' => hbest j' z (by have := (List.getElem?_eq_some_iff.mp hz').1; omega) hz'⟩ rb
  | succ r ih =>
    intro j i s1 H1 b vb tb c oI hr hj I1 k1 hit hb rb hij hbest
    have hlt : j + 1 < xs.length := by omega
    have nS := inv_head I1
    have nI := inv_head (inv_unpin I1)
    obtain ⟨its, rv, hl, hz⟩ := I1.list (sl_kp k1 (by simp) hs)
    have W := Walks.list (prog := X.prog) (w := X.w) (A := A.in1) hh Ia l hlI its.toArray
    have hsz : its.toArray.size = xs.length := by rw [List.size_toArray, rv.length]
    refine codeAny_builtin (id := "min.loop") PySem.F.entry_min_loop ?_
    rw [Around.under_plainId PySem.F.plain_min_loop _]
    show wpAny (model X.prog X.w) A.in1 (seqItems? (.ref S) >>= _) _ _ _
    refine wpAny_bind (wpAny_seqItems (s := s1) nS.1 rfl ?_)
    show wpAny (model X.prog X.w) A.in1 (tryCatch (pyNext (.ref Ia)) _ >>= _) _ _ _
    refine wpAny_bind (wpAny_tryCatch (W.item (j + 1) s1 _ _ (by rw [hsz]; exact hlt) ⟨hit, hl.isList⟩ fun u h' tk' hP hst' hk' => ?_))
    have hu : its[j + 1]? = some u := by simpa using hP
    obtain ⟨x, hx⟩ : ∃ x, xs[j + 1]? = some x := ⟨_, List.getElem?_eq_getElem hlt⟩
    obtain ⟨u', hu', rx⟩ := Vals.get rv hx
    rw [hu] at hu'
    cases hu'
    obtain ⟨oI', hoI', hoc, hod⟩ := id hst'.1
    have hS' := hk' S _ (by simpa using hSI) nS.1
    have I2 : Inv X (pf ++ ((S, seqObj "list" #[vb, .int (key b) tb] c) :: (Ia, oI') :: pins)) σ H1 { s1 with heap := h', toks := tk' } :=
      inv_pin (inv_pin (inv_turn (inv_unpin (inv_unpin I1)) wI nI.2 fun a o ha q => hk' a o (by simpa using ha) q) wI nI.2 hoI' (fun v z => by rw [hod] at z; cases z)) (wS.cons hSI.symm) nS.2 hS' (fun _ z => by cases z)
    show wpAny (model X.prog X.w) A.in1 (tryCatch (holding [u] (call (.ref f) [u])) _ >>= _) _ _ _
    refine wpAny_bind (wpAny_tryCatch (wpAny_holding (wpAny_mono (T _ _ H1 x u I2 k1 (List.mem_of_getElem? hx) rx) (fun z s2 he => ?_) fun _ _ hF => hF.elim)))
    obtain ⟨H2, t2, I3, k2, rfl⟩ := he
    have nS2 := inv_head I3
    have nI2 := inv_head (inv_unpin I3)
    have hit2 : s2.heap.IsListIter Ia l (j + 1 + 1) := ⟨oI', nI2.1, hoc, hod⟩
    show wpAny (model X.prog X.w) A.in1 (tryCatch (holding [u, .int (key x) t2] (richCompare .Lt (.int (key x) t2) (.int (key b) tb) >>= _)) _ >>= _) _ _ _
    refine wpAny_bind (wpAny_tryCatch (wpAny_holding (wpAny_bind (CmpOf.ints_lt (prog := X.prog) (w := X.w) (A := A.in1) (P := fun i v => ∃ t, v = .int (if i = 0 then key x else key b) t) (fun i => if i = 0 then key x else key b) (fun i v h => h) 0 1 _ _ _ _ _ ⟨t2, rfl⟩ ⟨tb, rfl⟩ ?_))))
    refine wpAny_bind (wpAny_holding (wpAny_truthy_bool ?_))
    refine wpAny_bind (wpAny_letGo (wpAny_pure ?_))
    have hxb : ∀ (j' : Nat) (z : V), j' ≤ j + 1 → xs[j']? = some z → j' ≤ j ∨ z = x := fun j' z h1 h2 => by
      by_cases e : j' = j + 1
      · rw [e, hx] at h2
        exact .inr (Option.some.inj h2).symm
      · exact .inl (by omega)
    by_cases hbt : key x < key b
    · obtain ⟨c2, hc2⟩ : ∃ c2, (s2.heap.update S (Obj.mapSeq fun _ => #[u, .int (key x) t2])).get? S = some (seqObj "list" #[u, .int (key x) t2] c2) := ⟨_, get?_update_seq nS2.1 fun _ => #[u, .int (key x) t2]⟩
      have I4 : Inv X (pf ++ ((Ia, oI') :: pins)) σ H2 { s2 with heap := s2.heap.update S (Obj.mapSeq fun _ => #[u, .int (key x) t2]), toks := s2.toks } :=
        inv_turn (inv_unpin I3) (wS.cons hSI.symm) nS2.2 fun a o ha q => ((Heap.SameBut.update s2.heap S _).2 a ha).trans q
      simp only [if_true, if_neg (Nat.succ_ne_zero 0), hbt, decide_true]
      refine wpAny_bind (wpAny_updateSeq nS2.1 rfl (wpAny_bind (wpAny_letGo ?_)))
      rw [hname]
      refine wpAny_pure ⟨plainId_quiet PySem.F.plain_min_loop _, ih (j + 1) (j + 1) _ H2 x u t2 c2 oI' (by omega) hlt (inv_pin I4 (wS.cons hSI.symm) nS2.2 hc2 (fun _ z => by cases z)) (k1.trans k2) ?_ hx rx (Nat.le_refl _) fun j' z hj' hz' => ?_⟩
      · exact ⟨oI', ((Heap.SameBut.update s2.heap S _).2 Ia hSI.symm).trans nI2.1, hoc, hod⟩
      · rcases hxb j' z hj' hz' with e | e
        · have h1 := (hbest j' z e hz').1
          exact ⟨by omega, fun _ => by omega⟩
        · rw [e]
          refine ⟨Int.le_refl _, fun hlt' => ?_⟩
          have h1 := hbest j' z (by omega) hz'
          rw [e] at h1
          omega
    · simp only [if_true, if_neg (Nat.succ_ne_zero 0), hbt, decide_false, Bool.false_eq_true, if_false]
      refine wpAny_bind (wpAny_letGo ?_)
      rw [hname]
      refine wpAny_pure ⟨plainId_quiet PySem.F.plain_min_loop _, ih (j + 1) i _ H2 b vb tb c oI' (by omega) hlt I3 (k1.trans k2) hit2 hb rb (by omega) fun j' z hj' hz' => ?_⟩
      rcases hxb j' z hj' hz' with e | e
      · exact hbest j' z e hz'
      · rw [e]
        refine ⟨by omega, fun hlt' => ?_⟩
        have h1 := hbest j' z (by omega) hz'
        rw [e] at h1
        exact h1.2 hlt'
theorem min_args (a v u : Value) : argsOk "min" ⟨[a], [(Str.ofString "key", v), (Str.ofString "default", u)]⟩ := by unfold argsOk; kernel_rfl
/-- min(xs, key=f, default=None) -/
theorem min_key {f : Addr} {key : V → Int} {xs : List V} {l : Addr} {Q : VK} (hh : X.A.handled = none) (T : KeyTurn X X.A.in1 σ H pf (.ref f) xs key) (I : Inv X (pf ++ pins) σ H s) (hs : SqL X.K H l xs) (h1 : xs = [] → Q .non H)
    (h2 : ∀ H' i b, Kp [] H H' → Least xs key i b → Q b H') :
    wpAny (model X.prog X.w) X.A (call (.builtin "min") [.ref l] [(Str.ofString "key", .ref f), (Str.ofString "default", .none)]) (EP X (pf ++ pins) σ Q) X.xe s := by
  have hname : (toString "min" ++ toString ".loop" : String) = "min.loop" := by decide
  obtain ⟨its, rv, hl, hz⟩ := I.list hs
  have hll : l < s.heap.objs.size := by
    obtain ⟨ol, hol, _⟩ := hl.isList
    exact Heap.lt_size hol
  refine kmk_tree PySem.F.kind_min PySem.F.plain_min PySem.F.entry_min (min_args _ _ _) ?_
  show wpAny (model X.prog X.w) X.A.in1 (Builtin.Builtins.bindParams "min" ["key", "default"] 0 ⟨[], [(Str.ofString "key", .ref f), (Str.ofString "default", .none)]⟩ >>= _) _ _ s
  refine wpAny_bind (wpAny_of_eq (show Builtin.Builtins.bindParams "min" ["key", "default"] 0 ⟨[], [(Str.ofString "key", .ref f), (Str.ofString "default", .none)]⟩ = pure [some (.ref f), some .none] from rfl) ?_)
  refine wpAny_bind (wpAny_pure (wpAny_bind (wpAny_pyIter_list hl.isList ?_)))
  refine wpAny_bind (wpAny_newList (items := []) ?_ (Nat.zero_le _))
  rw [hname]
  have hS : (s.heap.push { cls := .type "list_iterator", data := .fields #[.ref l, .int 0 0] }).objs.size = s.heap.objs.size + 1 := size_push' ..
  have wI := Own.fresh I (Nat.le_refl _)
  have nI : H s.heap.objs.size = none := I.hok.fresh (Nat.le_refl _)
  have wS : Own X (pf ++ pins) (s.heap.push { cls := .type "list_iterator", data := .fields #[.ref l, .int 0 0] }).objs.size := Own.fresh I (by rw [hS]; exact Nat.le_succ _)
  have nS : H (s.heap.push { cls := .type "list_iterator", data := .fields #[.ref l, .int 0 0] }).objs.size = none := I.hok.fresh (by rw [hS]; exact Nat.le_succ _)
  have hSI : (s.heap.push { cls := .type "list_iterator", data := .fields #[.ref l, .int 0 0] }).objs.size ≠ s.heap.objs.size := by
    rw [hS]
    exact Nat.succ_ne_self _
  have I1 : Inv X (pf ++ pins) σ H { s with heap := (s.heap.push { cls := .type "list_iterator", data := .fields #[.ref l, .int 0 0] }).push (seqObj "list" #[] 0), toks := s.toks } :=
    I.kept fun b o q => Heap.get?_push_of_some _ (Heap.get?_push_of_some _ q)
  have gI : ((s.heap.push { cls := .type "list_iterator", data := .fields #[.ref l, .int 0 0] }).push (seqObj "list" #[] 0)).get? s.heap.objs.size = some { cls := .type "list_iterator", data := .fields #[.ref l, .int 0 0] } := Heap.get?_push_of_some _ (Heap.get?_push_size _ rfl)
  have gS : ((s.heap.push { cls := .type "list_iterator", data := .fields #[.ref l, .int 0 0] }).push (seqObj "list" #[] 0)).get? (s.heap.push { cls := .type "list_iterator", data := .fields #[.ref l, .int 0 0] }).objs.size = some (seqObj "list" #[] 0) := Heap.get?_push_size _ rfl
  refine wpAny_pure ⟨plainId_quiet PySem.F.plain_min_loop _, ?_⟩
  show codeAny _ _ (.builtin "min.loop" ⟨[.ref s.heap.objs.size, .ref f, .ref _], [("default", .none)]⟩) _ { s with heap := (s.heap.push { cls := .type "list_iterator", data := .fields #[.ref l, .int 0 0] }).push (seqObj "list" #[] 0), toks := s.toks }
  generalize (s.heap.push { cls := .type "list_iterator", data := .fields #[.ref l, .int 0 0] }).push (seqObj "list" #[] 0) = h0 at I1 gI gS ⊢
  generalize (s.heap.push { cls := .type "list_iterator", data := .fields #[.ref l, .int 0 0] }).objs.size = S at *
  obtain ⟨its, rv, hl, hz⟩ := I1.list hs
  have W := Walks.list (prog := X.prog) (w := X.w) (A := X.A.in1) hh s.heap.objs.size l (Nat.ne_of_lt hll) its.toArray
  have hsz : its.toArray.size = xs.length := by rw [List.size_toArray, rv.length]
  refine codeAny_builtin (id := "min.loop") PySem.F.entry_min_loop ?_
  rw [Around.under_plainId PySem.F.plain_min_loop _]
  show wpAny (model X.prog X.w) X.A.in1 (seqItems? (.ref S) >>= _) _ _ _
  refine wpAny_bind (wpAny_seqItems gS rfl ?_)
  show wpAny (model X.prog X.w) X.A.in1 (tryCatch (pyNext (.ref s.heap.objs.size)) _ >>= _) _ _ _
  cases xs with
  | nil =>
    refine wpAny_bind (wpAny_tryCatch (W.done { s with heap := h0, toks := s.toks } _ _ ⟨by rw [hsz]; exact ⟨_, gI, rfl, rfl⟩, hl.isList⟩ fun h' tk' hk' => ?_))
    refine wpAny_bind (wpAny_rule (wpAny_pure ?_))
    exact ⟨.non, H, inv_turn (s := { s with heap := h0, toks := s.toks }) I1 wI nI fun a o ha q => hk' a o (by simpa using ha) q, rfl, h1 rfl⟩
  | cons x xs =>
    refine wpAny_bind (wpAny_tryCatch (W.item 0 { s with heap := h0, toks := s.toks } _ _ (by rw [hsz]; exact Nat.succ_pos _) ⟨⟨_, gI, rfl, rfl⟩, hl.isList⟩ fun u h' tk' hP hst' hk' => ?_))
    have hu : its[0]? = some u := by simpa using hP
    have hx : (x :: xs)[0]? = some x := rfl
    obtain ⟨u', hu', rx⟩ := Vals.get rv hx
    rw [hu] at hu'
    cases hu'
    obtain ⟨oI', hoI', hoc, hod⟩ := id hst'.1
    have hS' := hk' S _ (by simpa using hSI) gS
    have I2 : Inv X (pf ++ ((S, seqObj "list" #[] 0) :: (s.heap.objs.size, oI') :: pins)) σ H { s with heap := h', toks := tk' } :=
      inv_pin (inv_pin (inv_turn (s := { s with heap := h0, toks := s.toks }) I1 wI nI fun a o ha q => hk' a o (by simpa using ha) q) wI nI hoI' (fun v z => by rw [hod] at z; cases z)) (wS.cons hSI.symm) nS hS' (fun _ z => by cases z)
    show wpAny (model X.prog X.w) X.A.in1 (tryCatch (holding [u] (call (.ref f) [u])) _ >>= _) _ _ _
    refine wpAny_bind (wpAny_tryCatch (wpAny_holding (wpAny_mono (T _ _ H x u I2 Kp.refl (.head _) rx) (fun z s2 he => ?_) fun _ _ hF => hF.elim)))
    obtain ⟨H2, t2, I3, k2, rfl⟩ := he
    have nS2 := inv_head I3
    have nI2 := inv_head (inv_unpin I3)
    obtain ⟨c2, hc2⟩ : ∃ c2, (s2.heap.update S (Obj.mapSeq fun _ => #[u, .int (key x) t2])).get? S = some (seqObj "list" #[u, .int (key x) t2] c2) := ⟨_, get?_update_seq nS2.1 fun _ => #[u, .int (key x) t2]⟩
    have I4 : Inv X (pf ++ ((s.heap.objs.size, oI') :: pins)) σ H2 { s2 with heap := s2.heap.update S (Obj.mapSeq fun _ => #[u, .int (key x) t2]), toks := s2.toks } :=
      inv_turn (inv_unpin I3) (wS.cons hSI.symm) nS2.2 fun a o ha q => ((Heap.SameBut.update s2.heap S _).2 a ha).trans q
    show wpAny (model X.prog X.w) X.A.in1 (updateSeq S (fun _ => #[u, .int (key x) t2]) >>= _) _ _ _
    refine wpAny_bind (wpAny_updateSeq nS2.1 rfl ?_)
    rw [hname]
    refine wpAny_pure ⟨plainId_quiet PySem.F.plain_min_loop _, min_loop (xs := x :: xs) hh T hs (Nat.ne_of_lt hll) hSI wS wI (fun H3 s3 i b vb I5 k3 hb rb => ⟨b, H3, I5, rb, h2 H3 i b k3 hb⟩) _ 0 0 _ H2 x u t2 c2 oI' rfl (Nat.succ_pos _) (inv_pin I4 (wS.cons hSI.symm) nS2.2 hc2 (fun _ z => by cases z)) k2
      ⟨oI', ((Heap.SameBut.update s2.heap S _).2 _ hSI.symm).trans nI2.1, hoc, hod⟩ hx rx (Nat.le_refl _) fun j' z hj' hz' => ?_⟩
    have e : j' = 0 := by omega
    rw [e] at hz'
    cases hz'
    exact ⟨Int.le_refl _, fun q => by omega⟩
/-- min(e, key=lambda p: body, default=None) -/
def tMinKey (K : PySem.W.Frag) (T : List (Addr × Str)) (N0 N : List Str) (p : Str) (t : TA) (tb : TE) : TE := fun σ H Q => t σ H fun vs H1 => ∃ (l : Addr) (xs : List V) (key : V → Int) (τ : V → L2.St), vs = [.ref l] ∧ SqL K H1 l xs ∧ LamX.Tabs T H1 ∧
  (∀ v, v ∈ xs → CapsN N0 σ N (τ v) p v) ∧ ∀ H2, LamX.ExtN H1 H2 → LamX.Tabs T H2 → (∀ (H3 : Hp) (v : V), v ∈ xs → Kp [] H2 H3 → tb (τ v) H3 fun x H4 => x = .int (key v) ∧ Kp [] H3 H4) ∧
    (xs = [] → Q .non H2) ∧ ∀ (H3 : Hp) (i : Nat) (b : V), Kp [] H2 H3 → Least xs key i b → Q b H3
theorem pe_minKey {T : List (Addr × Str)} {N : List Str} {k : Nat} {c P : Addr} {scope : Scope} {p : Str} {params : Arguments} {e body : Expr} {t : TA} {tb : TE} {p1 kpos lpos dpos npos pos : Pos} {jn : Nat} (hg : Gl X "min") (hm : X.mg "min" = none) (ha : PA X [e] t)
    (TB : LamX.TabB X.base X.mg c P) (hcode : X.env.code = .ref c) (hmT : (P, X.env.qual ++ "<lambda>") ∈ T) (huT : ∀ p ∈ T, p.1 = P → p.2 = X.env.qual ++ "<lambda>") (hr : Room (k + 3) X.A) (L : Lam1 X.env.scope scope p) (hdef : defaultsOf params X.env = ([], []))
    (hbind : ∀ (q : Str) (cl : List (Str × Addr)) (pm cv ctv u : Value), bindArgs (PySem.W.kla_fn "<lambda>" q params body scope cl pm cv ctv) ⟨[u], []⟩ = pure [(p, u)])
    (hbody : ∀ (s : Shared) (H : Hp) (f c' : Addr), Room k (X.A.in1.deeper (LamX.lamEnv X scope s.heap.objs.size f c')) → PE (lam1Cx X X.A.in1 s H N scope f c') body tb)
    (he : backTo pos (starEach [e] X.env) = (false, eval e X.env) :: backTo pos (starEach [] X.env) := by rfl) (hpl : (backTo pos (starEach [e] X.env)).any (·.1) = false := by rfl) :
    PE X (.Call (.Name "min" p1) [e] [⟨some "key", .Lambda params body scope lpos, kpos⟩, ⟨some "default", .Constant .none jn npos, dpos⟩] pos) (tMinKey X.K T X.N N p t tb) := by
  refine ⟨fun pins s σ H Q I h => ?_⟩
  refine wpAny_Call_Name_kw (ld_blt I hg hm (show bootBuiltins "min" = some (.builtin "min") by rfl) ?_ (by decide) (by decide))
  refine PyProof.Rows.callWith_kw (thn (ha.run pos pins s σ H _ I h) fun us s1 ⟨vs, H1, I1, r1, q1⟩ => ?_) he hpl rfl rfl
  obtain ⟨l, xs, key, τ, rfl, hs, hT, hC, q⟩ := q1
  obtain rfl := Vals.ref1 r1
  show wpAny _ _ (evalAll [(do let v ← eval (.Lambda params body scope lpos) X.env; standAt pos; pure v), (do let v ← eval (.Constant .none jn npos) X.env; standAt pos; pure v)]) _ _ s1
  refine wpAny_evalAll_cons (wpAny_bind (LamX.lam_make2 I1 TB hcode hmT huT hT hdef (L.has I1.ok) fun f c' pm ctv H2 s2 I2 eN T2 hf hfn hfr hco => wpAny_bind (wpAny_standAt (wpAny_pure ?_))))
  obtain ⟨hb, hq0, hq⟩ := q H2 eN T2
  have I3 := fn_pin I2 hf rfl hfn hfr
  refine wpAny_evalAll_cons (wpAny_bind (thn ((pe_non (X := X)).run _ s2 σ H2 (fun (x : V) (H3 : Hp) => x = V.non ∧ H3 = H2) I3 ⟨rfl, rfl⟩) fun u s3 ⟨v, H3, I4, rv, ev, eH⟩ => wpAny_bind (wpAny_standAt (wpAny_pure (wpAny_evalAll_nil ?_)))))
  rw [ev] at rv
  rw [eH] at I4
  obtain rfl : u = Value.none := rv
  show wpAny _ _ (call (.builtin "min") [.ref l] [(Str.ofString "key", .ref f), (Str.ofString "default", .none)]) _ _ s3
  refine wpAny_mono (min_key hr.hd (lam1_turn L hco I2.ok.frames hr.in1 (fun u => hbind _ _ _ _ _ u) hC fun s H3 v hv k3 hr3 => ⟨tb, hbody s H3 f c' (hr3.mono (Nat.le_succ _)), hb H3 v hv k3⟩) I4 (sq_ext eN hs) hq0 hq) (fun u s' h => ep_less h) fun _ _ h => h
end
end RD
/-! ### the head of a law whose defs make lambdas -/
namespace RD
open PySem PySem.Spec PyProof.Rows L2 He
section
variable {P : Program} {w : World} {K : PySem.W.Frag} {mg : Str → Option Value} {base : Heap} {CX : CXT} {x qual : Str} {params : Arguments} {body : List Stmt} {scope : Scope} {dvs : List V} {kws : List (Str × V)} {fd : FuncData}
/-- a def whose code object is told -/
theorem fnDc {at_ : Str × Option Str} {N ps : List Str} {k : Nat} {sp : Sp} (F : FunD K x qual params body scope dvs kws (fAd K at_) fd) (S : FnScope N ps scope) (len : ∀ vs H Q E, sp vs H Q E → vs.length = ps.length)
    (hbody : ∀ (A : Around) (outer : List Env) (s : Shared) (H : Hp) (vs : List V) (Q : VK) (E : XK), Room k (A.deeper (envOfC qual scope s.heap.objs.size (fAd K at_) (.ref (codeOf K at_)))) → sp vs H Q E →
      ∃ t, PSs (cxOf CX0 P w K mg base N qual scope (fAd K at_) (.ref (codeOf K at_)) A outer s H E).nox body t ∧ t ⟨fun _ H' => Q .non H', Q, fun _ _ => False, fun _ _ => False⟩ (start N vs) H) : FnOk P w K mg base CX0 (k + 1) (fAd K at_) fd ps sp := by
  obtain ⟨oc, od, dV, kV, doc, pm, an, cdv, ct, osl, e0, lk, hcd, _, _⟩ := F.ex
  obtain ⟨c, hc⟩ := codeIn_ref hcd
  have e : cdv = .ref (codeOf K at_) := by
    rw [hc]
    refine congrArg Value.ref (codeOf_eq lk ?_).symm
    rw [e0]
    exact hc
  subst e0
  subst e
  exact fn_of lk hcd S len fun A outer s H vs Q E hr hsp => let ⟨t, h1, h2⟩ := hbody A outer s H vs Q E hr hsp; ⟨t, h1.nox, h2⟩
end
/-- the tables at the law's entry -/
theorem tabs_nil {tf : List He.Defn} {K : PySem.W.Frag} {T : List (Addr × Str)} {H : Hp} (e : T.map (·.1) = tf.map fun p => (He.cT K p).2) (h : ∀ p ∈ tf.map (He.cT K), H p.2 = some (.tbl #[])) : LamX.Tabs T H := fun p hp => by
  have hm : p.1 ∈ tf.map fun p => (He.cT K p).2 := e ▸ List.mem_map_of_mem hp
  obtain ⟨q, hq, e2⟩ := List.mem_map.mp hm
  refine LamX.TabS.nil ?_
  rw [← e2]
  exact h _ (List.mem_map_of_mem hq)
end RD
/-! ### frames where tables of lambdas may grow -/
namespace RD
open PySem PySem.Spec PyProof.Rows L2 He
def NoTbl (o : HO) : Prop := ∀ t, o ≠ .tbl t
def Kt (T : List (Addr × Str)) (ps : List Addr) (H H' : Hp) : Prop := (∀ b o, H b = some o → NoTbl o → b ∉ ps → H' b = some o) ∧ LamX.Tabs T H'
section
variable {T : List (Addr × Str)} {ps : List Addr} {H H' H'' : Hp} {p q b : Addr} {o : HO}
theorem Kt.refl (h : LamX.Tabs T H) : Kt T ps H H := ⟨fun _ _ e _ _ => e, h⟩
theorem Kt.trans (a : Kt T ps H H') (b : Kt T ps H' H'') : Kt T ps H H'' := ⟨fun c o e n m => b.1 c o (a.1 c o e n m) n m, b.2⟩
theorem Kt.g0 (a : Kt T [] H H') (n : NoTbl o) (e : H b = some o) : H' b = some o := a.1 b o e n (by simp)
theorem Kt.g1 (a : Kt T [p] H H') (n : NoTbl o) (m : b ≠ p) (e : H b = some o) : H' b = some o := a.1 b o e n (by simp [m])
theorem Kt.of0 (a : Kt T [] H H') : Kt T ps H H' := ⟨fun c o e n _ => a.1 c o e n (by simp), a.2⟩
/-- q is none of the things that stand (tables left out) -/
def Frn (H : Hp) (q : Addr) : Prop := ∀ b o, H b = some o → NoTbl o → b ≠ q
theorem Kt.frn (a : Kt T [] H H') {l : Addr} (h : H' l = none) : Frn H l := fun b o e n z => by
  rw [z] at e
  rw [a.g0 n e] at h
  cases h
theorem Frn.kt {l : Addr} (h : Frn H' l) (a : Kt T [] H H') : Frn H l := fun b o e n => h b o (a.g0 n e) n
theorem Frn.kp {l : Addr} (h : Frn H' l) (a : Kp [] H H') : Frn H l := fun b o e n => h b o (a.g0 e) n
theorem Frn.of {l : Addr} (h : H l = none) : Frn H l := fun b o e _ => ne_of_none e h
theorem Kt.ext (a : LamX.ExtN H H') (t : LamX.Tabs T H') : Kt T ps H H' := ⟨fun b o e n _ => a b o e n, t⟩
/-- what a table and its code objects are not -/
def Plain : HO → Prop
  | .tbl _ => False
  | .ext _ => False
  | _ => True
theorem Plain.noTbl (h : Plain o) : NoTbl o := by
  intro t z
  rw [z] at h
  exact h
theorem tabs_kp (h : LamX.Tabs T H) (k : Kp ps H H') (n : ∀ p, p ∈ ps → ∃ o, H p = some o ∧ Plain o) : LamX.Tabs T H' := fun p hp => by
  obtain ⟨tb, h1, h2, h3⟩ := h p hp
  have ne : ∀ b o, H b = some o → ¬ Plain o → b ∉ ps := fun b o e m z => by
    obtain ⟨o', e', w⟩ := n b z
    rw [e] at e'
    cases e'
    exact m w
  refine ⟨tb, k _ _ h1 (ne _ _ h1 (fun z => z)), h2, fun pos cv e => ?_⟩
  obtain ⟨c, e1, e2⟩ := h3 pos cv e
  exact ⟨c, e1, k _ _ e2 (ne _ _ e2 (fun z => z))⟩
theorem Kt.kp (h : LamX.Tabs T H) (k : Kp ps H H') (n : ∀ p, p ∈ ps → ∃ o, H p = some o ∧ Plain o) : Kt T ps H H' := ⟨fun c o e _ m => k c o e m, tabs_kp h k n⟩
theorem Kt.kp0 (h : LamX.Tabs T H) (k : Kp [] H H') : Kt T ps H H' := ⟨fun c o e _ _ => k c o e (by simp), tabs_kp h k (fun _ z => by cases z)⟩
theorem Kt.kp1 (h : LamX.Tabs T H) (k : Kp [p] H H') (e : H p = some o) (w : Plain o) : Kt T [p] H H' := Kt.kp h k fun q hq => by
  rw [List.mem_singleton.mp hq]
  exact ⟨o, e, w⟩
theorem Kt.new (h : LamX.Tabs T H) (e : H p = none) : Kt T ps H (upd H p o) := Kt.kp0 h (Kp.new e)
theorem Kt.wr {u : HO} (a : Kt T ps H H') (h : p ∈ ps) (e : H' p = some u) (w : Plain u) : Kt T ps H (upd H' p o) :=
  ⟨fun c v ev n m => by
    have hc : c ≠ p := fun z => m (z ▸ h)
    rw [upd_ne hc]
    exact a.1 c v ev n m, tabs_kp a.2 (Kp.refl.wr (ps := [p]) (by simp)) fun q hq => by
    rw [List.mem_singleton.mp hq]
    exact ⟨u, e, w⟩⟩
theorem Kt.nw (a : Kt T ps H H') (e : H' p = none) : Kt T ps H (upd H' p o) := a.trans (Kt.new a.2 e)
end
/-! ### a class made with keywords -/
theorem vals_at {xs : List V} {us : List Value} (i : Nat) (h : Vals xs us) : Vals (xs[i]?).toList (us[i]?).toList := by
  cases e : xs[i]? with
  | none => rw [h.none_of e]; exact .nil
  | some x =>
    obtain ⟨u, e2, r⟩ := h.get e
    rw [e2]
    exact .cons r .nil
structure MakKX (P : Program) (w : World) (K : PySem.W.Frag) (mg : Str → Option Value) (base : Heap) (CX : CXT) (k : Nat) (x : Str) (C : Addr) (sp : Sp) (n : Nat) (ks : List Str) (gV : List V → List V → List V) : Prop where
  ex : ∃ (f : Addr) (fd : FuncData) (ps : List Str) (g : List Value → List Value → List Value), Mk K C f ∧ FnOk P w K mg base CX k f fd ps sp ∧ mg x = some (.ref C) ∧ KBn K fd ps (n + 1) ks g gV
theorem pe_makKX {X : Cx} {CX : CXT} {k j n : Nat} {C : Addr} {x : Str} {sp : Sp} {E : XK} {ks : List Str} {gV : List V → List V → List V} {p pos : Pos} {e : Expr} {es : List Expr} {kws : List Keyword} {t tk : TA} (c : MakKX X.prog X.w X.K X.mg X.base CX k x C sp n ks gV) (hr : Room j X.A) (hk : k + 1 ≤ j) (hg : Gl X x) (hx : Passes CX X E) (ha : PA X (e :: es) t) (hkw : PK X kws tk)
    (hall : (backToKw pos (keywordEach kws X.env)).all (·.1.isSome) = true := by rfl) (hks : (backToKw pos (keywordEach kws X.env)).filterMap (·.1) = ks := by rfl) (hdb : (x == ("__debug__" : Str)) = false := by decide)
    (he : starEach (e :: es) X.env = (false, eval e X.env) :: starEach es X.env := by rfl) (hpl : ((backTo pos (starEach (e :: es) X.env)).any (·.1) || (backToKw pos (keywordEach kws X.env)).any (·.1.isNone)) = false := by rfl) :
    PE X (.Call (.Name x p) (e :: es) kws pos) (tMakeK C n ks.length sp gV E t tk) := by
  obtain ⟨f, fd, ps, g, M, F, hm, hb⟩ := c.ex
  exact pe_makeK M F (hr.mono hk) hg hm hb hx ha hkw hall hks hdb he hpl
theorem rd_makeK {σ : L2.St} {H : Hp} {Q : VK} {C : Addr} {n m : Nat} {sp : Sp} {gV : List V → List V → List V} {E : XK} {t tk : TA} (h : t σ H fun vs H1 => tk σ H1 fun zs H2 => vs.length = n ∧ zs.length = m ∧ ∀ x dx, H2 x = none → H2 dx = none → dx ≠ x →
    sp (gV (.ref x :: vs) zs) (upd (upd H2 dx (.own x)) x (.ins C dx [])) (fun v H3 => v = .non ∧ Q (.ref x) H3) E) : tMakeK C n m sp gV E t tk σ H Q := h
/-! ### more readings -/
section
variable {K : PySem.W.Frag} {σ : L2.St} {H : Hp} {Q : VK} {ta : TE}
theorem rd_prop {C : Addr} {sp : Sp} {E : XK} (h : ta σ H fun x H1 => ∃ a dx fs, x = V.ref a ∧ H1 a = some (.ins C dx fs) ∧ sp [.ref a] H1 Q E) : tProp C sp [] E ta σ H Q := h
theorem rd_propX {C a dx : Addr} {fs : List (Str × V)} {R : Addr → Prop} (h : H a = some (.ins C dx fs)) (q : R a) : ∃ a' dx' fs', V.ref a = V.ref a' ∧ H a' = some (.ins C dx' fs') ∧ R a' := ⟨a, dx, fs, rfl, h, q⟩
theorem rd_revL {te : TE} (h : te σ H fun x H1 => ∃ a xs, x = V.ref a ∧ SqL K H1 a xs ∧ ∀ p, H1 p = none → Q (.ref p) (upd H1 p (.lst xs.reverse))) : tRevL K te σ H Q := h
theorem rd_revLX {a : Addr} {xs : List V} {R : List V → Prop} (h : SqL K H a xs) (q : R xs) : ∃ a' ys, V.ref a = V.ref a' ∧ SqL K H a' ys ∧ R ys := ⟨a, xs, rfl, h, q⟩
end
end RD
namespace RD
open PySem PySem.Spec PyProof.Rows L2 He
/-! ### comprehensions that only look -/
theorem filter_take {α : Type} {p : α → Bool} {ns : List α} {i : Nat} (h : i < ns.length) : (ns.take (i + 1)).filter p = (ns.take i).filter p ++ (if p ns[i] = true then [ns[i]] else []) := by
  rw [List.take_succ_eq_append_getElem h, List.filter_append]
  congr 1
  cases e : p ns[i] <;> simp [e]
section
variable {K : PySem.W.Frag} {σ : L2.St} {H : Hp} {te : TE} {tt : TT}
theorem lcF_ints {a D : Addr} {g : TG} {vs : List Nat} {Qd : Hp → Prop} (ns : List Int) (p : Int → Bool) (f : Int → V) (hS : SqL K H a (ns.map V.int)) (hD : H D = none) (hl : ns.length < 1000000)
    (hs : ∀ (i : Nat) (h : i < ns.length) H1 (E : VK) (N : Hp → Prop), Kp [] H H1 → (∀ H4, Kp [] H1 H4 → p ns[i] = true → E (f ns[i]) H4) → (∀ H3, Kp [] H1 H3 → p ns[i] = false → N H3) → g (.int ns[i]) (wipe σ vs) H1 fun σ2 H2 => wipe σ2 vs = wipe σ vs ∧ tt σ2 H2 fun b H3 => if b = true then te σ2 H3 E else N H3)
    (hd : ∀ H', Kp [] H H' → H' D = some (.lst ((ns.filter p).map f)) → Qd H') : LcG (Itl K a) g tt te vs σ D Qd H := by
  refine lcL_ints ns (fun i H' => H' D = some (.lst (((ns.take i).filter p).map f)) ∧ Kp [] H H') ⟨upd_same, Kp.new hD⟩ (fun i H' _ q => sl_kp q.2 (by simp) hS) (fun i hi H' q => ?_) (fun H' q => ?_)
  · refine hs i hi H' _ _ q.2 (fun H4 k4 hp => ?_) (fun H3 k3 hp => ?_)
    · have fl : (((ns.take i).filter p).map f).length < sizeLine := szlt (by
        rw [List.length_map]
        have h1 := List.length_filter_le p (ns.take i)
        rw [List.length_take] at h1
        omega)
      refine ⟨_, k4.g0 q.1, fl, ?_, Kp.mine (q.2.trans k4) hD⟩
      rw [upd_same, filter_take hi, if_pos hp, List.map_append]
      rfl
    · refine ⟨?_, q.2.trans k3⟩
      rw [filter_take hi, if_neg (by rw [hp]; exact Bool.false_ne_true), List.append_nil]
      exact k3.g0 q.1
  · rw [List.take_length] at q
    exact hd H' q.2 q.1
theorem lcF_range {lo : Int} {n : Nat} {D : Addr} {g : TG} {vs : List Nat} {Qd : Hp → Prop} (p : Nat → Bool) (f : Nat → V) (hD : H D = none) (hl : n < 1000000)
    (hs : ∀ (i : Nat) (h : i < n) H1 (E : VK) (N : Hp → Prop), Kp [] H H1 → (∀ H4, Kp [] H1 H4 → p i = true → E (f i) H4) → (∀ H3, Kp [] H1 H3 → p i = false → N H3) → g (.int (lo + i)) (wipe σ vs) H1 fun σ2 H2 => wipe σ2 vs = wipe σ vs ∧ tt σ2 H2 fun b H3 => if b = true then te σ2 H3 E else N H3)
    (hd : ∀ H', Kp [] H H' → H' D = some (.lst (((List.range n).filter p).map f)) → Qd H') : LcG (Itr lo n) g tt te vs σ D Qd H := by
  refine lcR_by (fun i H' => H' D = some (.lst (((List.range i).filter p).map f)) ∧ Kp [] H H') ⟨upd_same, Kp.new hD⟩ (fun i H' hi q => ?_) (fun H' q => hd H' q.2 q.1)
  have er : (List.range (i + 1)).filter p = (List.range i).filter p ++ (if p i = true then [i] else []) := by
    rw [List.range_succ, List.filter_append]
    congr 1
    cases e : p i <;> simp [e]
  refine hs i hi H' _ _ q.2 (fun H4 k4 hp => ?_) (fun H3 k3 hp => ?_)
  · have fl : (((List.range i).filter p).map f).length < sizeLine := szlt (by
      rw [List.length_map]
      have h1 := List.length_filter_le p (List.range i)
      rw [List.length_range] at h1
      omega)
    refine ⟨_, k4.g0 q.1, fl, ?_, Kp.mine (q.2.trans k4) hD⟩
    rw [upd_same, er, if_pos hp, List.map_append]
    rfl
  · refine ⟨?_, q.2.trans k3⟩
    rw [er, if_neg (by rw [hp]; exact Bool.false_ne_true), List.append_nil]
    exact k3.g0 q.1
end
def keyV (f : Int → Int) : V → Int
  | .int i => f i
  | _ => 0
theorem sort_keyV (f : Int → Int) (ns : List Int) : ((ns.map V.int).mergeSort fun a b => decide (keyV f a ≤ keyV f b)) = (ns.mergeSort fun a b => decide (f a ≤ f b)).map V.int :=
  (List.map_mergeSort (f := V.int) (r := fun a b => decide (f a ≤ f b)) (s := fun a b => decide (keyV f a ≤ keyV f b)) fun _ _ _ _ => rfl).symm
end RD
namespace RD
open PySem PySem.Spec PyProof.Rows L2 He
section
variable {K : PySem.W.Frag} {σ : L2.St} {H : Hp} {T : List (Addr × Str)} {N0 N : List Str} {p : Str} {t : TA} {tb : TE} {Q : VK}
theorem rd_sortKey (h : t σ H fun vs H1 => ∃ (l : Addr) (xs : List V) (key : V → Int) (τ : V → L2.St), vs = [.ref l] ∧ SqL K H1 l xs ∧ LamX.Tabs T H1 ∧
  (∀ v, v ∈ xs → CapsN N0 σ N (τ v) p v) ∧ ∀ H2, LamX.ExtN H1 H2 → LamX.Tabs T H2 → (∀ (H3 : Hp) (v : V), v ∈ xs → Kp [] H2 H3 → tb (τ v) H3 fun x H4 => x = .int (key v) ∧ Kp [] H3 H4) ∧
    ∀ (H3 : Hp) (q : Addr), Kp [] H2 H3 → H3 q = none → Q (.ref q) (upd H3 q (.lst (xs.mergeSort fun a b => decide (key a ≤ key b))))) : tSortKey K T N0 N p t tb σ H Q := h
theorem rd_minKey (h : t σ H fun vs H1 => ∃ (l : Addr) (xs : List V) (key : V → Int) (τ : V → L2.St), vs = [.ref l] ∧ SqL K H1 l xs ∧ LamX.Tabs T H1 ∧
  (∀ v, v ∈ xs → CapsN N0 σ N (τ v) p v) ∧ ∀ H2, LamX.ExtN H1 H2 → LamX.Tabs T H2 → (∀ (H3 : Hp) (v : V), v ∈ xs → Kp [] H2 H3 → tb (τ v) H3 fun x H4 => x = .int (key v) ∧ Kp [] H3 H4) ∧
    (xs = [] → Q .non H2) ∧ ∀ (H3 : Hp) (i : Nat) (b : V), Kp [] H2 H3 → Least xs key i b → Q b H3) : tMinKey K T N0 N p t tb σ H Q := h
/-- of a list of ints, at the key f -/
theorem rd_sortI {D : Addr} (f : Int → Int) (ns : List Int) (τ : Int → L2.St) (hS : SqL K H D (ns.map V.int)) (hT : LamX.Tabs T H) (hC : ∀ n, CapsN N0 σ N (τ n) p (.int n))
    (hb : ∀ (H3 : Hp) (n : Int) (Q' : VK), n ∈ ns → Kt T [] H H3 → Q' (.int (f n)) H3 → tb (τ n) H3 Q')
    (hq : ∀ (H3 : Hp) (q : Addr), Kt T [] H H3 → H3 q = none → Q (.ref q) (upd H3 q (.lst ((ns.mergeSort fun a b => decide (f a ≤ f b)).map V.int)))) :
    ∃ (l : Addr) (xs : List V) (key : V → Int) (τ : V → L2.St), [V.ref D] = [.ref l] ∧ SqL K H l xs ∧ LamX.Tabs T H ∧
      (∀ v, v ∈ xs → CapsN N0 σ N (τ v) p v) ∧ ∀ H2, LamX.ExtN H H2 → LamX.Tabs T H2 → (∀ (H3 : Hp) (v : V), v ∈ xs → Kp [] H2 H3 → tb (τ v) H3 fun x H4 => x = .int (key v) ∧ Kp [] H3 H4) ∧
        ∀ (H3 : Hp) (q : Addr), Kp [] H2 H3 → H3 q = none → Q (.ref q) (upd H3 q (.lst (xs.mergeSort fun a b => decide (key a ≤ key b)))) := by
  refine ⟨D, _, keyV f, fun v => match v with | .int n => τ n | _ => [], rfl, hS, hT, fun v hv => ?_, fun H2 e2 t2 => ⟨fun H3 v hv k3 => ?_, fun H3 q k3 nq => ?_⟩⟩
  · obtain ⟨n, _, rfl⟩ := List.mem_map.mp hv
    exact hC n
  · obtain ⟨n, hn, rfl⟩ := List.mem_map.mp hv
    exact hb H3 n _ hn ((Kt.ext e2 t2).trans (Kt.kp0 t2 k3)) ⟨rfl, Kp.refl⟩
  · rw [sort_keyV]
    exact hq H3 q ((Kt.ext e2 t2).trans (Kt.kp0 t2 k3)) nq
theorem rd_minI {D : Addr} (f : Int → Int) (ns : List Int) (τ : Int → L2.St) (hS : SqL K H D (ns.map V.int)) (hT : LamX.Tabs T H) (hC : ∀ n, CapsN N0 σ N (τ n) p (.int n))
    (hb : ∀ (H3 : Hp) (n : Int) (Q' : VK), n ∈ ns → Kt T [] H H3 → Q' (.int (f n)) H3 → tb (τ n) H3 Q')
    (h0 : ∀ (H3 : Hp), ns = [] → Kt T [] H H3 → Q .non H3)
    (h1 : ∀ (H3 : Hp) (i : Nat) (b : Int), Kt T [] H H3 → ns[i]? = some b → (∀ (j : Nat) (z : Int), ns[j]? = some z → f b ≤ f z ∧ (j < i → f b < f z)) → Q (.int b) H3) :
    ∃ (l : Addr) (xs : List V) (key : V → Int) (τ : V → L2.St), [V.ref D] = [.ref l] ∧ SqL K H l xs ∧ LamX.Tabs T H ∧
      (∀ v, v ∈ xs → CapsN N0 σ N (τ v) p v) ∧ ∀ H2, LamX.ExtN H H2 → LamX.Tabs T H2 → (∀ (H3 : Hp) (v : V), v ∈ xs → Kp [] H2 H3 → tb (τ v) H3 fun x H4 => x = .int (key v) ∧ Kp [] H3 H4) ∧
        (xs = [] → Q .non H2) ∧ ∀ (H3 : Hp) (i : Nat) (b : V), Kp [] H2 H3 → Least xs key i b → Q b H3 := by
  refine ⟨D, _, keyV f, fun v => match v with | .int n => τ n | _ => [], rfl, hS, hT, fun v hv => ?_, fun H2 e2 t2 => ⟨fun H3 v hv k3 => ?_, fun e => ?_, fun H3 i b k3 hl => ?_⟩⟩
  · obtain ⟨n, _, rfl⟩ := List.mem_map.mp hv
    exact hC n
  · obtain ⟨n, hn, rfl⟩ := List.mem_map.mp hv
    exact hb H3 n _ hn ((Kt.ext e2 t2).trans (Kt.kp0 t2 k3)) ⟨rfl, Kp.refl⟩
  · exact h0 H2 (List.map_eq_nil_iff.mp e) (Kt.ext e2 t2)
  · obtain ⟨e1, e3⟩ := hl
    rw [List.getElem?_map] at e1
    obtain ⟨n, hn, rfl⟩ := Option.map_eq_some_iff.mp e1
    refine h1 H3 i n ((Kt.ext e2 t2).trans (Kt.kp0 t2 k3)) hn fun j z hz => ?_
    exact e3 j (.int z) (by rw [List.getElem?_map, hz]; rfl)
end
end RD
namespace RD
open PySem PySem.Spec PyProof.Rows L2 He
/-! ### wide divisors, fields that are added to, least of a list -/
theorem wide60 {i j : Int} (h0 : 0 < j) (h1 : j < 1152921504606846976) : CDivW i j := wide_div (b := 60) h0 (by omega) (by decide) (by decide)
theorem ixN_at {n : Nat} {i : Int} (h0 : 0 ≤ i) (h1 : i < n) : ixN n i = some i.toNat := by
  unfold ixN
  rw [if_pos h0, if_pos h1]
section
variable {K : PySem.W.Frag} {σ : L2.St} {H : Hp} {nx bk ct : L2.St → Hp → Prop} {rt : VK} {ta tv : TE} {Q : VK} {v : V} {i j : Int}
theorem rd_sfldaug {rd : V → V → Hp → VK → Prop} {f : Str} (h : ta σ H fun x H1 => ∃ a C dx fs v, x = .ref a ∧ H1 a = some (.ins C dx fs) ∧ Cls K C ∧ NoAttr K C f ∧ fs.lookup f = some v ∧
  tv σ H1 fun y H2 => rd v y H2 fun z H3 => ∃ dx' fs', H3 a = some (.ins C dx' fs') ∧ fs'.length < 1000 ∧ nx σ (upd H3 a (.ins C dx' (putF f z fs')))) : sFldAug K ta tv rd f ⟨nx, rt, bk, ct⟩ σ H := h
theorem rd_sfldaugX {f : Str} {a C dx : Addr} {fs : List (Str × V)} {R : Addr → Addr → V → Prop} (h : H a = some (.ins C dx fs)) (c : Cls K C) (n : NoAttr K C f) (l : fs.lookup f = some v) (q : R a C v) :
    ∃ a' C' dx' fs' v', V.ref a = V.ref a' ∧ H a' = some (.ins C' dx' fs') ∧ Cls K C' ∧ NoAttr K C' f ∧ fs'.lookup f = some v' ∧ R a' C' v' := ⟨a, C, dx, fs, v, rfl, h, c, n, l, q⟩
theorem rd_insX {a C dx : Addr} {fs : List (Str × V)} {R : Addr → List (Str × V) → Prop} (h : H a = some (.ins C dx fs)) (l : fs.length < 1000) (q : R dx fs) : ∃ dx' fs', H a = some (.ins C dx' fs') ∧ fs'.length < 1000 ∧ R dx' fs' := ⟨dx, fs, h, l, q⟩
theorem rd_addI (h : Q (.int (i + j)) H) : rAdd (.int i) (.int j) H Q := ⟨i, j, rfl, rfl, h⟩
theorem rd_subI (h : Q (.int (i - j)) H) : rSub (.int i) (.int j) H Q := ⟨i, j, rfl, rfl, h⟩
theorem rd_minL {a : Addr} {ns : List Int} (h : SqL K H a (ns.map V.int)) (l : 0 < ns.length) (q : ∀ m, m ∈ ns → (∀ y, y ∈ ns → m ≤ y) → Q (.int m) H) : rMin K [.ref a] H Q := ⟨a, ns, rfl, h, l, q⟩
end
/-- an optional int -/
abbrev ov : Option Int → V
  | none => .non
  | some i => .int i
theorem ov_non {o : Option Int} : decide (ov o = V.non) = o.isNone := by
  cases o with
  | none => rfl
  | some i => exact decide_eq_false (by intro z; cases z)
/-- the first on the way from a place on -/
def FirstOf (r place : Int) (xs : List Int) : Option Int → Prop
  | none => xs = []
  | some b => b ∈ xs ∧ ∀ z, z ∈ xs → (b - place) % r ≤ (z - place) % r
end RD
namespace RD
open PySem PySem.Spec PyProof.Rows L2 He
/-! ### look-ups whose value comes out plain -/
def lookV {κ : Type} [DecidableEq κ] : List (κ × V) → κ → Option V
  | [], _ => none
  | (a, v) :: r, k => if a = k then some v else lookV r k
theorem lookV_eq {κ : Type} [DecidableEq κ] (k : κ) : ∀ kvs : List (κ × V), valV kvs k = lookV kvs k
  | [] => rfl
  | (a, v) :: r => by
    unfold lookV
    by_cases h : a = k
    · rw [if_pos h]
      exact valV_pos h
    · rw [if_neg h, valV_neg h]
      exact lookV_eq k r
theorem dg_sl {H : Hp} {a : Addr} {v : V} {kvs : List (Key × V)} {s : Str} (e : H a = some (.dK kvs)) (l : lookV kvs (.inr s) = some v) : DGet H a (.str s) (some v) := dg_sv e ((lookV_eq _ _).trans l)
theorem Kt.mine {T : List (Addr × Str)} {ps : List Addr} {H H' : Hp} {p : Addr} {o u : HO} (a : Kt T ps H H') (f : Frn H p) (e : H' p = some u) (w : Plain u) : Kt T ps H (upd H' p o) :=
  ⟨fun c v ev n m => by
    rw [upd_ne (f c v ev n)]
    exact a.1 c v ev n m, tabs_kp a.2 (Kp.refl.wr (ps := [p]) (by simp)) fun q hq => by
    rw [List.mem_singleton.mp hq]
    exact ⟨u, e, w⟩⟩
theorem Kt.mono {T : List (Addr × Str)} {ps qs : List Addr} {H H' : Hp} (a : Kt T ps H H') (h : ∀ p, p ∈ ps → p ∈ qs) : Kt T qs H H' := ⟨fun c o e n m => a.1 c o e n fun z => m (h c z), a.2⟩
theorem Kt.kpP {T : List (Addr × Str)} {ps qs : List Addr} {H H' H2 : Hp} (a : Kt T ps H H') (k : Kp qs H' H2) (n : ∀ p, p ∈ qs → p ∈ ps ∧ ∃ o, H' p = some o ∧ Plain o) : Kt T ps H H2 := a.trans ((Kt.kp a.2 k fun p hp => (n p hp).2).mono fun p hp => (n p hp).1)
end RD
namespace RD
open PySem PySem.Spec PyProof.Rows L2 He
theorem rd_sumL {K : PySem.W.Frag} {H : Hp} {Q : VK} {a : Addr} {ns : List Int} (h : SqL K H a (ns.map V.int)) (q : Q (.int ns.sum) H) : rSum K [.ref a] H Q := ⟨a, ns, rfl, h, q⟩
end RD
namespace RD
open PySem PySem.Spec PyProof.Rows L2 He
/-! ### defs called with keywords, dicts of ints, dict comprehensions -/
structure CalKX (P : Program) (w : World) (K : PySem.W.Frag) (mg : Str → Option Value) (base : Heap) (CX : CXT) (k : Nat) (x : Str) (sp : Sp) (n : Nat) (ks : List Str) (gV : List V → List V → List V) : Prop where
  ex : ∃ (f : Addr) (fd : FuncData) (ps : List Str) (g : List Value → List Value → List Value), FnOk P w K mg base CX k f fd ps sp ∧ mg x = some (.ref f) ∧ PySem.W.keepIn K (.ref f) = true ∧ KBn K fd ps n ks g gV
theorem pe_calKX {X : Cx} {CX : CXT} {k j n : Nat} {x : Str} {sp : Sp} {E : XK} {ks : List Str} {gV : List V → List V → List V} {p pos : Pos} {e : Expr} {es : List Expr} {kws : List Keyword} {t tk : TA} (c : CalKX X.prog X.w X.K X.mg X.base CX k x sp n ks gV) (hr : Room j X.A) (hk : k ≤ j) (hg : Gl X x) (hx : Passes CX X E) (ha : PA X (e :: es) t) (hkw : PK X kws tk)
    (hall : (backToKw pos (keywordEach kws X.env)).all (·.1.isSome) = true := by rfl) (hks : (backToKw pos (keywordEach kws X.env)).filterMap (·.1) = ks := by rfl) (hdb : (x == ("__debug__" : Str)) = false := by decide)
    (he : starEach (e :: es) X.env = (false, eval e X.env) :: starEach es X.env := by rfl) (hpl : ((backTo pos (starEach (e :: es) X.env)).any (·.1) || (backToKw pos (keywordEach kws X.env)).any (·.1.isNone)) = false := by rfl) :
    PE X (.Call (.Name x p) (e :: es) kws pos) (tCallN n ks.length sp gV E t tk) := by
  obtain ⟨f, fd, ps, g, F, hm, kp, hb⟩ := c.ex
  exact pe_callN F (hr.mono hk) hg hm kp hb hx ha hkw hall hks hdb he hpl
/-- a dict with int keys, by the keys and a function -/
def dmap (xs : List Int) (f : Int → V) : List (Key × V) := xs.map fun x => (Sum.inl x, f x)
def fset {α : Type} (f : Int → α) (a : Int) (v : α) : Int → α := fun x => if x = a then v else f x
theorem dmap_val {f : Int → V} (a : Int) : ∀ xs : List Int, valV (dmap xs f) (.inl a) = if a ∈ xs then some (f a) else none
  | [] => rfl
  | x :: r => by
    have ih := dmap_val (f := f) a r
    unfold dmap at ih ⊢
    rw [List.map_cons]
    by_cases h : x = a
    · subst h
      rw [valV_pos rfl, if_pos (.head _)]
    · rw [valV_neg (fun e => h (Sum.inl.inj e)), ih]
      by_cases h2 : a ∈ r
      · rw [if_pos h2, if_pos (List.mem_cons_of_mem _ h2)]
      · rw [if_neg h2, if_neg (by simp [h2, Ne.symm h])]
theorem dmap_in {f : Int → V} {a : Int} {xs : List Int} (h : a ∈ xs) : valV (dmap xs f) (.inl a) = some (f a) := by rw [dmap_val, if_pos h]
theorem dmap_out {f : Int → V} {a : Int} {xs : List Int} (h : a ∉ xs) : valV (dmap xs f) (.inl a) = none := by rw [dmap_val, if_neg h]
theorem dmap_congr {f g : Int → V} {xs : List Int} (h : ∀ x, x ∈ xs → f x = g x) : dmap xs f = dmap xs g := List.map_congr_left fun x hx => by rw [h x hx]
theorem dmap_new {f : Int → V} {a : Int} {v : V} {xs : List Int} (h : a ∉ xs) : putK (dmap xs f) (.inl a) v = dmap (xs ++ [a]) (fset f a v) := by
  rw [putK_new _ (dmap_out h)]
  unfold dmap
  rw [List.map_append]
  congr 1
  · refine List.map_congr_left fun x hx => ?_
    unfold fset
    rw [if_neg (show ¬ x = a from fun e => h (e ▸ hx))]
  · unfold fset
    simp
theorem dmap_old {f : Int → V} {a : Int} {v : V} {xs : List Int} (h : a ∈ xs) : putK (dmap xs f) (.inl a) v = dmap xs (fset f a v) := by
  unfold putK dmap
  have e : ((xs.map fun x => ((Sum.inl x : Key), f x)).any fun p => decide (p.1 = Sum.inl a)) = true := by
    rw [List.any_eq_true]
    exact ⟨_, List.mem_map_of_mem h, decide_eq_true rfl⟩
  rw [if_pos (by simpa using e), List.map_map]
  refine List.map_congr_left fun x _ => ?_
  unfold fset
  by_cases hx : x = a
  · subst hx
    simp
  · simp [hx]
theorem dmap_len {f : Int → V} {xs : List Int} : (dmap xs f).length = xs.length := List.length_map _
theorem pickI {d : Int} (ns : List Int) (h0 : 0 ≤ d) (h1 : d < ns.length) : ∃ n, n ∈ ns ∧ atI (ns.map V.int) d = some (.int n) := by
  have h : d.toNat < ns.length := by omega
  refine ⟨ns[d.toNat], List.getElem_mem h, ?_⟩
  rw [atI_ints h0 h1, List.getD_eq_getElem?_getD, List.getElem?_eq_getElem h]
  rfl
end RD
namespace RD
open PySem PySem.Spec PyProof.Rows L2 He
section
variable {K : PySem.W.Frag} {σ : L2.St} {H : Hp} {tt : TT} {tk tv : TE} {Q : VK}
/-- what a dict comprehension over J asks -/
def DcG (J : It) (g : TG) (tt : TT) (tk tv : TE) (vs : List Nat) (σ : L2.St) (D : Addr) (Qd : Hp → Prop) (H1 : Hp) : Prop :=
  ∃ W : Nat → Nat → Hp → Prop, (∃ m, W 0 m (upd H1 D (.dK []))) ∧ ∀ i m H, W i m H →
  (J.stop i H ∧ Qd H) ∨ (J.go i H ∧ ∃ Nx : Hp → Prop, (∀ H', Nx H' → ∃ m', m' < m ∧ W (i + 1) m' H') ∧ ∀ x H', J.yld i H x H' → g x (wipe σ vs) H' fun σ2 H2 => wipe σ2 vs = wipe σ vs ∧ tt σ2 H2 fun b H3 =>
    if b = true then tk σ2 H3 fun y H4 => tv σ2 H4 fun z H5 => ∃ kvs k, y = kV k ∧ H5 D = some (.dK kvs) ∧ kvs.length < sizeLine ∧ Nx (upd H5 D (.dK (putK kvs k z))) else Nx H3)
theorem rd_dc {wi : TI} {g : TG} {vs : List Nat} (h : wi σ H fun J H1 => ∀ D, H1 D = none → DcG J g tt tk tv vs σ D (fun H => Q (.ref D) H) H1) : tDc wi g tt tk tv vs σ H Q := h
theorem dcL_ints {a D : Addr} {g : TG} {vs : List Nat} {Qd : Hp → Prop} (ns : List Int) (Pv : Nat → Hp → Prop) (h0 : Pv 0 (upd H D (.dK []))) (hl : ∀ i H, i ≤ ns.length → Pv i H → SqL K H a (ns.map V.int))
    (hs : ∀ (i : Nat) (h : i < ns.length) H, Pv i H → g (.int ns[i]) (wipe σ vs) H fun σ2 H2 => wipe σ2 vs = wipe σ vs ∧ tt σ2 H2 fun b H3 =>
      if b = true then tk σ2 H3 fun y H4 => tv σ2 H4 fun z H5 => ∃ kvs k, y = kV k ∧ H5 D = some (.dK kvs) ∧ kvs.length < sizeLine ∧ Pv (i + 1) (upd H5 D (.dK (putK kvs k z))) else Pv (i + 1) H3) (hd : ∀ H, Pv ns.length H → Qd H) : DcG (Itl K a) g tt tk tv vs σ D Qd H := by
  refine ⟨fun i m H => m = ns.length - i ∧ i ≤ ns.length ∧ Pv i H, ⟨ns.length, by simp, Nat.zero_le _, h0⟩, ?_⟩
  rintro i m H ⟨rfl, hi, p⟩
  have q := hl i H hi p
  by_cases hlt : i < ns.length
  · have e : (ns.map V.int)[i]? = some (.int ns[i]) := by
      rw [List.getElem?_map, List.getElem?_eq_getElem hlt]
      rfl
    refine .inr ⟨⟨_, _, q, e⟩, Pv (i + 1), fun H' p' => ⟨ns.length - (i + 1), by omega, rfl, hlt, p'⟩, fun x H' y => ?_⟩
    obtain ⟨rfl, hz⟩ := y
    have ex := hz _ q
    rw [e] at ex
    cases ex
    exact hs i hlt _ p
  · have e : i = ns.length := by omega
    subst e
    exact .inl ⟨⟨_, q, by rw [List.length_map]; exact Nat.le_refl _⟩, hd H p⟩
theorem rd_dictD {a : Addr} {kvs : List (Key × V)} (h : H a = some (.dK kvs)) (q : ∀ p, H p = none → Q (.ref p) (upd H p (.dK kvs))) : (∃ (a' : Addr) (kvs' : List (Key × V)), [V.ref a] = [.ref a'] ∧ Rd H a' (.dK kvs') ∧ ∀ p, H p = none → Q (.ref p) (upd H p (.dK kvs'))) := ⟨a, kvs, rfl, .inl h, q⟩
theorem dg_ii {a b : Addr} {kvs : List (List Key × V)} {s z : Int} (e : H a = some (.dT kvs)) (eb : H b = some (.tup [.int s, .int z])) : DGet H a (.ref b) (valV kvs [.inl s, .inl z]) := DGet.t (k := [.inl s, .inl z]) e eb
theorem dp_ii {a b : Addr} {kvs : List (List Key × V)} {s z : Int} {v : V} (e : H a = some (.dT kvs)) (eb : H b = some (.tup [.int s, .int z])) (l : kvs.length < sizeLine) : DPut H a (.ref b) v (upd H a (.dT (putK kvs [.inl s, .inl z] v))) := DPut.t (k := [.inl s, .inl z]) e eb l
end
/-- a table of numbers by two ints -/
structure Tab2 (H : Hp) (d : Addr) (g : Int → Int → Int) (m : Nat) : Prop where
  ex : ∃ kvs : List (List Key × V), H d = some (.dT kvs) ∧ kvs.length ≤ m ∧ ∀ s z, (valV kvs [.inl s, .inl z]).getD (.int 0) = .int (g s z)
theorem Tab2.kp {H H' : Hp} {d : Addr} {f : Int → Int → Int} {m : Nat} {ps : List Addr} (B : Tab2 H d f m) (k : Kp ps H H') (n : d ∉ ps) : Tab2 H' d f m := by
  obtain ⟨kvs, h1, h2, h3⟩ := B.ex
  exact ⟨kvs, k _ _ h1 n, h2, h3⟩
theorem Tab2.mono {H : Hp} {d : Addr} {f : Int → Int → Int} {m m' : Nat} (B : Tab2 H d f m) (h : m ≤ m') : Tab2 H d f m' := by
  obtain ⟨kvs, h1, h2, h3⟩ := B.ex
  exact ⟨kvs, h1, Nat.le_trans h2 h, h3⟩
theorem key2_iff {s a z b : Int} : ([Sum.inl a, Sum.inl b] : List Key) = [Sum.inl s, Sum.inl z] ↔ a = s ∧ b = z := by
  constructor
  · intro e
    injection e with e1 e2
    injection e2 with e3 _
    exact ⟨Sum.inl.inj e1, Sum.inl.inj e3⟩
  · rintro ⟨rfl, rfl⟩
    rfl
theorem tab2_put {kvs : List (List Key × V)} {f : Int → Int → Int} {s z v : Int} (h : ∀ s z, (valV kvs [.inl s, .inl z]).getD (.int 0) = .int (f s z)) :
    ∀ a b, (valV (putK kvs [.inl s, .inl z] (.int v)) [.inl a, .inl b]).getD (.int 0) = .int (if a = s ∧ b = z then v else f a b) := by
  intro a b
  rw [valV_put]
  by_cases e : a = s ∧ b = z
  · rw [if_pos e, if_pos (key2_iff.mpr e)]
    rfl
  · rw [if_neg e, if_neg (fun q => e (key2_iff.mp q))]
    exact h a b
end RD

/-! own layer: getters of properties in the head -/
namespace RD
open PySem PySem.Spec PyProof.Rows L2 He
/-- the property object of the class's name, its getter -/
def prA (K : PySem.W.Frag) (c f : Str) : Addr := ma K (ga K c) f
def prG (K : PySem.W.Frag) (c f : Str) : Addr := match PySem.W.recIn K (prA K c f) "property" with
  | some (.ref g :: _) => g
  | _ => 0
def propB (K : PySem.W.Frag) (c f : Str) : Bool :=
  eqO (PySem.W.findIn K (.ref (ga K c)) f) (some (some (.ref (prA K c f)))) && (eqO (PySem.W.specialIn K (.ref (prA K c f)) "__get__") (some (some (.builtin "property.__get__"))) && (decide (PySem.W.takesIn K (.ref (prA K c f)) = some true) && (match PySem.W.recIn K (prA K c f) "property" with
    | some (.ref g :: _) => decide (g = prG K c f)
    | _ => false)))
theorem propB_ok {K : PySem.W.Frag} {c f : Str} (h : propB K c f = true) : PropOf K (ga K c) f (prA K c f) (prG K c f) := by
  obtain ⟨h1, h2⟩ := ba h
  obtain ⟨h3, h4⟩ := ba h2
  obtain ⟨h5, h6⟩ := ba h4
  refine ⟨eqO_ok h1, eqO_ok h3, of_decide_eq_true h5, ?_⟩
  cases e : PySem.W.recIn K (prA K c f) "property" with
  | none =>
    rw [e] at h6
    cases h6
  | some l =>
    rw [e] at h6
    cases l with
    | nil => cases h6
    | cons v r =>
      cases v with
      | ref g =>
        have h7 : g = prG K c f := of_decide_eq_true h6
        exact ⟨r, by rw [h7]⟩
      | _ => cases h6
/-- a property's getter: its class and name, and the def -/
structure GetD where
  cls : Str
  fld : Str
  name : Str
  qual : Str
  params : Arguments
  body : List Stmt
  scope : Scope
def GetD.seen (K : PySem.W.Frag) (d : GetD) : FnW := match K.lookup (prG K d.cls d.fld) with
  | some ⟨_, _, .func fd, _⟩ => some (fd.name, fd.qualname, fd.params, fd.body, fd.scope, fd.globals, fd.closure, fd.builtins)
  | _ => none
def GetD.val (d : GetD) : FnW := some (d.name, d.qual, d.params, .stmts d.body, d.scope, mainGlobals, [], builtinsNs)
def GetD.ok (K : PySem.W.Frag) (d : GetD) : Bool := propB K d.cls d.fld && (PySem.W.keepIn K (.ref (prG K d.cls d.fld)) && (match K.lookup (prG K d.cls d.fld) with
  | some ⟨_, _, .func fd, _⟩ => PySem.W.codeIn K fd.code d.qual && (dflB K fd.defaults [] && kwdB K fd.kwdefaults [])
  | _ => false))
theorem GetD.funD {K : PySem.W.Frag} {d : GetD} (e : d.seen K = d.val) (c : d.ok K = true) : PropOf K (ga K d.cls) d.fld (prA K d.cls d.fld) (prG K d.cls d.fld) ∧ ∃ fd, FunD K d.name d.qual d.params d.body d.scope [] [] (prG K d.cls d.fld) fd := by
  obtain ⟨c0, c1⟩ := ba c
  obtain ⟨kp, c2⟩ := ba c1
  refine ⟨propB_ok c0, ?_⟩
  unfold GetD.seen at e
  cases q : K.lookup (prG K d.cls d.fld) with
  | none =>
    rw [q] at c2
    cases c2
  | some o =>
    obtain ⟨oc, od, dt, osl⟩ := o
    rw [q] at c2 e
    cases dt with
    | func fd =>
      obtain ⟨n1, n2, n3, n4, n5, n6, n7, n8, n9, n10, n11, n12, n13, n14, n15⟩ := fd
      have e2 : (some (n1, n2, n3, n4, n5, n6, n7, n15) : FnW) = some (d.name, d.qual, d.params, .stmts d.body, d.scope, mainGlobals, [], builtinsNs) := e
      injection e2 with e2
      simp only [Prod.mk.injEq] at e2
      obtain ⟨a1, a2, a3, a4, a5, a6, a7, a8⟩ := e2
      subst a1 a2 a3 a4 a5 a6 a7 a8
      have c3 : (PySem.W.codeIn K n13 d.qual && (dflB K n8 [] && kwdB K n9 [])) = true := c2
      obtain ⟨k1, k2⟩ := ba c3
      obtain ⟨k3, k4⟩ := ba k2
      exact ⟨_, ⟨oc, od, n8, n9, n10, n11, n12, n13, n14, osl, rfl, q, k1, dflB_ok k3, kwdB_ok k4⟩, kp⟩
    | _ => cases c2
/-- the head of a law with properties and tables -/
abbrev AlP : Type := AlX × (Bool × List FnW)
def obsP (n : Nat) (fa : List Fa) (fn : List DefD) (gs : List GetD) (tf : List Defn) (ex : PySem.W.Frag → Bool) (g : Addr → Option Obj) : AlP := (obsX n fa fn [] tf ex g, (gs.all (GetD.ok (frT g (asD g n))), gs.map (GetD.seen (frT g (asD g n)))))
structure SaysP (fa : List Fa) (fn : List DefD) (gs : List GetD) (tf : List Defn) (ex : PySem.W.Frag → Bool) (w : World) (h : Heap) (K : PySem.W.Frag) : Prop where
  x : SaysX fa fn [] tf ex w h K
  ok : gs.all (GetD.ok K) = true
  seen : gs.map (GetD.seen K) = gs.map GetD.val
def hookP (n : Nat) (fa : List Fa) (fn : List DefD) (gs : List GetD) (tf : List Defn) (ex : PySem.W.Frag → Bool) : PySem.W.Hook where
  α := AlP
  obs := fun s => obsP n fa fn gs tf ex s.heap.get?
  val := fun w => (valX fn [] w, (true, gs.map GetD.val))
  says := fun w h => ∃ K : PySem.W.Frag, K.In h ∧ SaysP fa fn gs tf ex w h K
  of := fun _ _ e => ⟨_, frT_in, saysX_of (congrArg (fun z : AlP => z.1) e), congrArg (fun z : AlP => z.2.1) e, congrArg (fun z : AlP => z.2.2) e⟩
  keeps := fun _ _ _ ⟨K, hK, c⟩ k => ⟨K, PySem.W.Frag.In.keeps hK k, ⟨⟨c.x.t, c.x.more, c.x.hd, c.x.out, fun p hp => k _ _ (c.x.empty p hp)⟩, c.ok, c.seen⟩⟩
theorem obsP_eq {n : Nat} {fa : List Fa} {fn : List DefD} {gs : List GetD} {tf : List Defn} {ex : PySem.W.Frag → Bool} {g : Addr → Option Obj} {s : Shared} (h : ∀ a, g a = s.heap.get? a) : obsP n fa fn gs tf ex g = (hookP n fa fn gs tf ex).obs s := by
  have e : g = s.heap.get? := funext h
  rw [e] <;> rfl
theorem SaysP.get {fa : List Fa} {fn : List DefD} {gs : List GetD} {tf : List Defn} {ex : PySem.W.Frag → Bool} {w : World} {h : Heap} {K : PySem.W.Frag} (c : SaysP fa fn gs tf ex w h K) {d : GetD} (hd : d ∈ gs) :
    PropOf K (ga K d.cls) d.fld (prA K d.cls d.fld) (prG K d.cls d.fld) ∧ ∃ fd, FunD K d.name d.qual d.params d.body d.scope [] [] (prG K d.cls d.fld) fd := by
  obtain ⟨i, hi, e⟩ := List.mem_iff_getElem.mp hd
  have e1 := congrArg (fun l : List FnW => l[i]?) c.seen
  have e2 : gs[i]? = some d := by rw [List.getElem?_eq_getElem hi, e]
  simp only [List.getElem?_map, e2, Option.map_some, Option.some.injEq] at e1
  exact GetD.funD e1 (List.all_eq_true.mp c.ok d hd)
/-- a property in one piece -/
structure PrpX (P : Program) (w : World) (K : PySem.W.Frag) (mg : Str → Option Value) (base : Heap) (CX : CXT) (k : Nat) (C : Addr) (f : Str) (sp : Sp) : Prop where
  ex : ∃ (p g : Addr) (fd : FuncData) (ps : List Str), Cls K C ∧ PropOf K C f p g ∧ FnOk P w K mg base CX k g fd ps sp ∧ Binds K fd ps []
theorem pe_prpX {X : Cx} {CX : CXT} {k j : Nat} {C : Addr} {f : Str} {sp : Sp} {E : XK} {e : Expr} {pos : Pos} {ta : TE} (c : PrpX X.prog X.w X.K X.mg X.base CX k C f sp) (hr : Room j X.A) (hk : k + 1 ≤ j) (hx : Passes CX X.nox E) (he : PE X e ta)
    (hab : attributeBase e f X.env (eval e X.env) = eval e X.env := by rfl) : PE X (.Attribute e f pos) (tProp C sp [] E ta) := by
  obtain ⟨p, g, fd, ps, cl, hp, F, b⟩ := c.ex
  exact pe_prop he cl hp F (hr.mono hk) b .nil hx hab
end RD

/-! own layer: own exceptions over an own base over ValueError, whose __init__ says super().__init__(text) and sets one field (or none) -/
namespace PySem
namespace ErrX
open PySem.W PySem.Calls PyProof.Rows PySem.HandSPX
/-! ### the text of __init__ -/
def eA1 (f : Str) (p1 p2 : Pos) : Arguments := { posonlyargs := [], args := [{ arg := "self", annotation := none, pos := p1 }, { arg := f, annotation := none, pos := p2 }], vararg := none, kwonlyargs := [], kw_defaults := [], kwarg := none, defaults := [] }
def eSup (txt : Str) (r1 r2 r3 r4 r5 r6 : Pos) : Stmt := .Expr (.Call (.Attribute (.Call (.Name "super" r1) [] [] r2) "__init__" r3) [.Constant (.str txt) 0 r4] [] r5) r6
def eB1 (f txt : Str) (r1 r2 r3 r4 r5 r6 q1 q2 q3 q4 : Pos) : List Stmt := [eSup txt r1 r2 r3 r4 r5 r6, .Assign [.Attribute (.Name "self" q1) f q2] (.Name f q3) q4]
def eS1 (f : Str) : Scope := { kind := .function, names := [(PySem.Str.ofString "self", .local), (f, .local), (PySem.Str.ofString "__class__", .free), (PySem.Str.ofString "super", .globalImplicit)], isGenerator := false, isCoroutine := false, more := [] }
/-- what the written part says of the class x, at C, its field f -/
structure ErrT (P : Program) (K : Frag) (mg : Str → Option Value) (x f : Str) (C : Addr) : Prop where
  gC : mg x = some (.ref C)
  gS : mg "super" = none
  top : (P.main.scope.names.lookup ("super" : Str)).isSome = false
  f1 : (f == ("self" : Str)) = false
  f2 : (("self" : Str) == f) = false
  f3 : (("super" : Str) == f) = false
  f4 : (("__class__" : Str) == f) = false
  f5 : (f == ("__debug__" : Str)) = false
  cls : ∃ nm q N bs bm sn sub ab col dd k0 k1 k2 k3 k5, K.lookup C = some (excClassObj nm q C N bs bm true sn sub ab col dd k0 k1 k2 k3 k5 "ValueError.__new__") ∧ refsVE bm = true
  sa : findIn K (.ref C) "__setattr__" = some (some (.builtin "object.__setattr__"))
  noN : findIn K (.ref C) f = some none
  kC : keepIn K (.ref C) = true
  exC : subIn K (.ref C) (.type "BaseException") = some true
  tyC : typeIn K (.ref C) = some (.type "type")
  slf : mroIn K C (.ref C) = some true
  veC : subIn K (.ref C) (.type "ValueError") = some true
  sup : ks_superIn K C C "__init__" = some (some (.builtin "ValueError.__init__"))
  st : nsIn K cStatics "thirdparty.any" = some none
  fn : ∃ (fI cc cda : Addr) (oc : Value) (od : Option Addr) (doc pm : Value) (an : Option Addr) (ct : Value) (osl : Array (Option Value)) (qual txt : Str) (p1 p2 r1 r2 r3 r4 r5 r6 q1 q2 q3 q4 : Pos),
    findIn K (.ref C) "__init__" = some (some (.ref fI)) ∧ typeIn K (.ref fI) = some (.type "function") ∧ (r3.endLine == r5.line) = true ∧
    K.lookup fI = some ⟨oc, od, .func (ksFn "__init__" qual (eA1 f p1 p2) (eB1 f txt r1 r2 r3 r4 r5 r6 q1 q2 q3 q4) (eS1 f) .none .none doc pm an (.ref cda) ct cc), osl⟩ ∧ codeIn K (.ref cda) qual = true ∧
    (∃ ccl cdd vs ccs file tf, K.lookup cda = some ⟨ccl, cdd, .fields vs, ccs⟩ ∧ vs[2]? = some (.str file tf) ∧ ((P.main.file : Str) == file) = true) ∧ ∃ cl cld csl, K.lookup cc = some ⟨cl, cld, .cell (some (.ref C)), csl⟩
theorem one_size (v : Value) : [v].length ≤ sizeLine := by
  rw [sizeLine_eq]
  exact (by decide : 1 ≤ 16777216)
/-- what __init__ leaves of a fresh exception at x -/
structure InitEnd (h h' : Heap) (x C dx : Addr) (f : Str) (v : Value) : Prop where
  keep : ∀ b o, b ≠ x → h.get? b = some o → h'.get? b = some o
  obj : ∃ t1 : Addr, h'.get? x = some { cls := .ref C, dict := some dx, data := .fields #[.ref t1, .none, .none, .none, .bool false, .none] }
  dbig : h.objs.size ≤ dx
  dne : dx ≠ x
  ns : h'.Ns1 dx (fun y => if y = f then some v else none)
/-- a made exception -/
structure OwnMade (h h' : Heap) (e C d : Addr) (f : Str) (v : Value) : Prop where
  keep : ∀ b o, h.get? b = some o → h'.get? b = some o
  new : h.objs.size ≤ e
  obj : ∃ oe vs, h'.get? e = some oe ∧ oe.cls = .ref C ∧ oe.dict = some d ∧ oe.data = .fields vs ∧ vs[1]? = some .none
  dbig : h.objs.size ≤ d
  dne : d ≠ e
  ns : h'.Ns1 d (fun y => if y = f then some v else none)
section
variable {prog : Program} {w : World} {A : Around} {E : Value → Shared → Prop} {R : Result → Shared → Prop} {s : Shared} {K : Frag} {mg : Str → Option Value} {x f : Str} {C : Addr}
theorem sup_eval {o : Expr} {m txt : Str} {r3 r4 r5 : Pos} {env : Env} (hl : (r3.endLine == r5.line) = true) : eval (.Call (.Attribute o m r3) [.Constant (.str txt) 0 r4] [] r5) env = (do
      let ov ← attributeBase o m env (eval o env)
      standAt r3.atName
      let (f, first) ← holding [ov] (getMethod ov m (L2.plainOf o env))
      callWith r5 f first (backTo r5 (starEach [.Constant (.str txt) 0 r4] env)) []) := by
  show (do
      let ov ← attributeBase o m env (eval o env)
      standAt r3.atName
      methodCall o m r3 r5 env ov 1 (backTo r5 (starEach [.Constant (.str txt) 0 r4] env)) []) = _
  have e : ∀ ov, methodCall o m r3 r5 env ov 1 (backTo r5 (starEach [.Constant (.str txt) 0 r4] env)) [] = _ := fun ov => L2.mcall_line (n := 1) (by rfl) hl
  simp only [e]
/-- super().__init__(text) -/
theorem sup_init {name : Str} {scope : Scope} {body : List Stmt} {fI cc cda L e t0 : Addr} {txt : Str} {r1 r2 r3 r4 r5 r6 : Pos} {fd : FuncData} {of : Obj} {p1 : Pos} {as : List Arg} {Q : Flow → Shared → Prop} {h : Heap} {g : Array GenState} {d : Drawn} {t : Nat} {os : OsState} {m : Str → Option Value} {vs : Array Value} {file : Str} {tf : Tok} {occ : Obj}
    (hks : scope.names.lookup ("super" : Str) = some .globalImplicit) (hkc : scope.names.lookup ("__class__" : Str) = some .free) (hka : scope.names.lookup ("self" : Str) = some .local) (hk : scope.kind = .function) (hin : interactive (ksEnv name scope L fI (.ref cda) cc) = false) (hl : (r3.endLine == r5.line) = true)
    (gS : mg "super" = none) (top : (prog.main.scope.names.lookup ("super" : Str)).isSome = false) (slf : mroIn K C (.ref C) = some true) (veC : subIn K (.ref C) (.type "ValueError") = some true)
    (sup : ks_superIn K C C "__init__" = some (some (.builtin "ValueError.__init__"))) (st : nsIn K cStatics "thirdparty.any" = some none)
    (hcls : ∃ nm q N bs bm sn sub ab col dd k0 k1 k2 k3 k5, K.lookup C = some (excClassObj nm q C N bs bm true sn sub ab col dd k0 k1 k2 k3 k5 "ValueError.__new__") ∧ refsVE bm = true)
    (X : K.In h) (hg : h.Ns mainGlobals mg) (hb : ∃ mb, h.Ns builtinsNs mb ∧ mb "super" = bootBuiltins "super")
    (hf : h.get? fI = some of) (hfd : of.data = .func fd) (hp : fd.params = { posonlyargs := [], args := { arg := "self", annotation := none, pos := p1 } :: as, vararg := none, kwonlyargs := [], kw_defaults := [], kwarg := none, defaults := [] })
    (hcc : h.get? cda = some occ) (hoc : occ.data = .fields vs) (hvs : vs[2]? = some (.str file tf)) (hfile : ((prog.main.file : Str) == file) = true) (hcell : h.IsCell cc (some (.ref C)))
    (hns : h.Ns L m) (hm : m "self" = some (.ref e)) (he : h.get? e = some (excO C t0)) (heL : e ≠ L)
    (hq : ∀ h' tk t1, (∀ b o, b ≠ e → h.get? b = some o → h'.get? b = some o) → h'.get? e = some (excO C t1) → Q .next ⟨h', g, d, tk, os⟩) :
    _root_.PySem.wpAt (model prog w) A (.func body (ksEnv name scope L fI (.ref cda) cc)) (exec (eSup txt r1 r2 r3 r4 r5 r6) (ksEnv name scope L fI (.ref cda) cc)) Q E ⟨h, g, d, t, os⟩ := by
  obtain ⟨nm, q, N, bs, bm, sn, sub, ab, col, dd, k0, k1, k2, k3, k5, hC, hbm⟩ := hcls
  have hcl : clsIn K C = some { name := nm, bases := bs, mro := .ref C :: bm, ns := N, qualname := q, hasDict := true, slotNames := sn, subclasses := sub, abstract := ab, collection := col, hasDel := false } := by unfold clsIn; rw [hC] <;> rfl
  obtain ⟨mb, hbn, hbs⟩ := hb
  have hCo : h.get? C = some (excClassObj nm q C N bs bm true sn sub ab col dd k0 k1 k2 k3 k5 "ValueError.__new__") := X _ _ hC
  have hne : e ≠ C := fun z => by
    rw [z, hCo] at he
    cases he
  unfold eSup
  refine ks_wpAt_Expr_any (ks_wpAt_MethodCall ?_ (sup_eval hl)) hin
  refine ks_wpAt_super_base (env := ksEnv name scope L fI (.ref cda) cc) (ar := { arg := "self", annotation := none, pos := p1 }) hks hkc (by decide) rfl hf hfd (by rw [hp] <;> rfl) rfl hcc hoc hvs hfile top ?_
  refine ks_loadName_global hk hks (loadGlobal_builtin (env := ksEnv name scope L fI (.ref cda) cc) hg gS hbn (hbs.trans (by rfl)) ⟨rfl, ?_⟩)
  refine wpAny_loadName_free hk hkc rfl hcell ?_
  refine wpAny_loadName_local hk hka hns hm ?_
  refine ks_wpAny_isType_cls hCo rfl ⟨rfl, ?_⟩
  refine ks_wpAny_call_super hCo rfl he rfl (fun c z => by cases z) (looks_mroIn X slf) (fun h1 e1 k => ?_)
  have X1 : K.In h1 := X.keeps k
  have he1 := k _ _ he
  have I1 : InstAt h1 e (excO C t0) C none := ⟨he1, rfl, rfl, trivial⟩
  have hI : Looks (model prog w) h1 (isInstance (.ref e) (.type "ValueError")) true := I1.type.andThen (looks_subIn X1 veC)
  have hal : alongIn K "__init__" ((((Value.ref C :: bm).dropWhile (· != .ref C)).drop 1)) = some (some (.builtin "ValueError.__init__")) := by
    have z := sup
    unfold ks_superIn at z
    rw [hcl] at z
    exact z
  refine kxs_getMethod kxs_ValueError (l₀ := Value.ref C :: bm) e1 (looks_opaque X1 st) (fun A Q E s k q => wpAny_bind ((looks_clsIn X1 hcl) A _ E s k (wpAny_pure q))) rfl X1 hal hI hne (by decide) ?_
  have k2 : ∀ b o, h1.get? b = some o → (h1.push (kxs_mw "ValueError.__init__" e)).get? b = some o := fun b o z => Heap.get?_push_of_some _ z
  have hu : (h1.push (kxs_mw "ValueError.__init__" e)).get? h1.objs.size = some (kxs_mw "ValueError.__init__" e) := Heap.get?_push_at rfl rfl
  refine kxs_callWith (i := "ValueError.__init__") (x := e) (by rfl) (Calls.evalArgs_plain (Calls.spliced_cons (Calls.Constant_str (k := 0) (pos := r4) ?_)))
  refine Calls.spliced_nil ⟨hu, ?_⟩
  show wpAny _ _ (call (.ref h1.objs.size) [.str txt _]) _ _ _
  have he2 := k2 _ _ he1
  have hC2 := k2 _ _ (k _ _ hCo)
  refine wpAny_call (codeAny_of_tree ?_)
  show wpAny _ _ (callAny (.ref h1.objs.size) ⟨[.str txt _], []⟩) _ _ _
  simp only [callAny]
  refine wpAny_bind (wpAny_load hu ?_)
  simp only [kxs_mw, show (Value.type "method-wrapper" == Value.type "method" || Value.type "method-wrapper" == Value.type "builtin_function_or_method" || Value.type "method-wrapper" == Value.type "method-wrapper") = true by decide, if_true]
  refine KFB.if_so (by decide) ?_
  refine wpAny_bind (check_bound_init F.excBase_ValueError.toExcCallFacts hC2 he2 rfl ?_)
  refine wpAny_bind (wpAny_pure (wpAny_pure ?_))
  refine ⟨plainId_quiet F.excBase_ValueError.init.plain _, codeAny_builtin F.excBase_ValueError.initEntry ?_⟩
  refine exc_init_tree (cls := .ref C) (t0 := t0) (dv := none) (c2 := .none) (c3 := .none) (b4 := .bool false) he2 (one_size _) fun h3 k3 e3 _ => ?_
  exact hq h3 _ _ (fun b o hbe z => k3 b o hbe (k2 _ _ (k _ _ z))) e3
theorem ldK {name : Str} {scope : Scope} {L a cc : Addr} {cd : Value} {M : Model} {m : Str → Option Value} {y : Str} {pos : Pos} {v : Value} {Q : Value → Shared → Prop} (hn : s.heap.Ns L m) (hv : m y = some v) (h : Q v s)
    (hk : scope.kind = .function) (hl : scope.names.lookup y = some .local) (hd : (y == ("__debug__" : Str)) = false) :
    wpAny M A (eval (.Name y pos) (ksEnv name scope L a cd cc)) Q E s := wpAny_Name (wpAny_loadName_local (env := ksEnv name scope L a cd cc) hk hl hn hv h) hd
theorem err_init (T : ErrT prog K mg x f C) {fI e t0 : Addr} {v : Value} (hi : findIn K (.ref C) "__init__" = some (some (.ref fI))) (X : K.In s.heap) (hg : s.heap.Ns mainGlobals mg) (hb : ∃ mb, s.heap.Ns builtinsNs mb ∧ mb "super" = bootBuiltins "super") (hlim : s.heap.NoLimit) (hx : s.heap.get? e = some (excO C t0)) (nx : K.lookup e = none)
    (hroom : A.depth < recursionLimit) (hq : ∀ h' tk dx, InitEnd s.heap h' e C dx f v → R (.ok (.ret .none)) { s with heap := h', toks := tk }) :
    codeAny (model prog w) A (.call (.ref fI) ⟨[.ref e, v], []⟩) R s := by
  obtain ⟨fI', cc, cda, oc, od, doc, pm, an, ct, osl, qual, txt, p1, p2, r1, r2, r3, r4, r5, r6, q1, q2, q3, q4, hi', tI, hl, ho, hcd, ⟨ccl, cdd, vs, ccs, file, tf, hcda, hvs, hfile⟩, cl, cld, csl, hcell⟩ := T.fn
  rw [hi] at hi'
  cases hi'
  obtain ⟨nm, q, N, bs, bm, sn, sub, ab, col, dd, k0, k1, k2, k3, k5, hC, hbm⟩ := id T.cls
  have hcl : clsIn K C = some { name := nm, bases := bs, mro := .ref C :: bm, ns := N, qualname := q, hasDict := true, slotNames := sn, subclasses := sub, abstract := ab, collection := col, hasDel := false } := by unfold clsIn; rw [hC] <;> rfl
  obtain ⟨b1, b2, b3, b4, b5⟩ := (⟨T.f1, T.f2, T.f3, T.f4, T.f5⟩ : (f == ("self" : Str)) = false ∧ (("self" : Str) == f) = false ∧ (("super" : Str) == f) = false ∧ (("__class__" : Str) == f) = false ∧ (f == ("__debug__" : Str)) = false)
  have lf : (eS1 f).names.lookup f = some .local := by
    show List.lookup f [(PySem.Str.ofString "self", NameKind.local), (f, .local), _, _] = _
    simp [List.lookup, b1]
  have ls : (eS1 f).names.lookup ("super" : Str) = some .globalImplicit := by
    show List.lookup ("super" : Str) [(("self" : Str), NameKind.local), (f, .local), (("__class__" : Str), .free), (("super" : Str), .globalImplicit)] = _
    have e1 : (("super" : Str) == ("self" : Str)) = false := by decide
    have e2 : (("super" : Str) == ("__class__" : Str)) = false := by decide
    simp [List.lookup, b3, e1, e2]
  have lc : (eS1 f).names.lookup ("__class__" : Str) = some .free := by
    show List.lookup ("__class__" : Str) [(("self" : Str), NameKind.local), (f, .local), (("__class__" : Str), .free), (("super" : Str), .globalImplicit)] = _
    have e1 : (("__class__" : Str) == ("self" : Str)) = false := by decide
    simp [List.lookup, b4, e1]
  have lse : (eS1 f).names.lookup ("self" : Str) = some .local := rfl
  have bd : bindArgs (ksFn "__init__" qual (eA1 f p1 p2) (eB1 f txt r1 r2 r3 r4 r5 r6 q1 q2 q3 q4) (eS1 f) .none .none doc pm an (.ref cda) ct cc) ⟨[.ref e, v], []⟩ = pure [(("self" : Str), .ref e), (f, v)] := by
    have z1 : (List.lookup ("self" : Str) [(("self" : Str), Value.ref e), (f, v)]).isNone = false := by simp [List.lookup]
    have z2 : (List.lookup f [(("self" : Str), Value.ref e), (f, v)]).isNone = false := by simp [List.lookup, b1]
    unfold bindArgs
    simp [eA1, seqItems?, z1, z2, List.lookup, b1]
    rfl
  refine ks_codeAny_call_defAt (fd := ksFn "__init__" qual (eA1 f p1 p2) (eB1 f txt r1 r2 r3 r4 r5 r6 q1 q2 q3 q4) (eS1 f) .none .none doc pm an (.ref cda) ct cc) (body := eB1 f txt r1 r2 r3 r4 r5 r6 q1 q2 q3 q4) (binds := [(("self" : Str), .ref e), (f, v)]) hroom (X _ _ ho) rfl hlim (codeRec_of X hcd) rfl (BindsTo.of_eq bd)
    (fun y hy => ?_) (fun y hy => ?_) (fun h₁ hns hk₁ => ?_) rfl rfl rfl
  · have hy : y ∈ [(("self" : Str), NameKind.local), (f, .local), (("__class__" : Str), .free), (("super" : Str), .globalImplicit)] := hy
    simp only [List.mem_cons, List.not_mem_nil, or_false] at hy
    rcases hy with rfl | rfl | rfl | rfl <;> (intro z; cases z)
  · simp only [List.mem_cons, List.not_mem_nil, or_false] at hy
    rcases hy with rfl | rfl
    · exact lse
    · exact lf
  have X₁ : K.In h₁ := X.keeps hk₁
  have ms : ([(("self" : Str), Value.ref e), (f, v)] : List (Str × Value)).reverse.lookup ("self" : Str) = some (.ref e) := by
    show List.lookup ("self" : Str) [(f, v), (("self" : Str), Value.ref e)] = _
    simp [List.lookup, b2]
  have mf : ([(("self" : Str), Value.ref e), (f, v)] : List (Str × Value)).reverse.lookup f = some v := by
    show List.lookup f [(f, v), (("self" : Str), Value.ref e)] = _
    simp [List.lookup]
  have hxL : e ≠ s.heap.objs.size := Nat.ne_of_lt (Heap.lt_size hx)
  obtain ⟨mb, hb1, hb2⟩ := hb
  refine ks_wpAt_execs_cons (sup_init (K := K) (mg := mg) (C := C) (fd := ksFn "__init__" qual (eA1 f p1 p2) (eB1 f txt r1 r2 r3 r4 r5 r6 q1 q2 q3 q4) (eS1 f) .none .none doc pm an (.ref cda) ct cc) ls lc lse rfl rfl hl T.gS T.top T.slf T.veC T.sup T.st T.cls X₁ (hg.keeps hk₁) ⟨mb, hb1.keeps hk₁, hb2⟩ (hk₁ _ _ (X _ _ ho)) rfl rfl (hk₁ _ _ (X _ _ hcda)) rfl hvs hfile ⟨_, hk₁ _ _ (X _ _ hcell), rfl⟩ hns ms (hk₁ _ _ hx) hxL fun h2 tk2 t1 kp2 he2 => ?_)
  have hns2 : h2.Ns s.heap.objs.size fun y => ([(("self" : Str), Value.ref e), (f, v)] : List (Str × Value)).reverse.lookup y := by
    obtain ⟨oL, es, ep, hL, r⟩ := hns
    exact ⟨oL, es, ep, kp2 _ _ (Ne.symm hxL) hL, r⟩
  have X2 : K.In h2 := fun a o z => kp2 a o (fun y => by rw [y, nx] at z; cases z) (X₁ _ _ z)
  show _root_.PySem.wpAt _ _ _ (execs _ _) _ _ _
  refine wpAt_of_wpAny (wpAny_execs_cons (plainObj_wpAny_Assign_Attribute ?_))
  refine ldK (v := v) hns2 mf (ldK (v := .ref e) hns2 ms ?_ rfl lse (by decide)) rfl lf b5
  refine set_plain X2 (ox := excO C t1) (od := none) ⟨he2, rfl, rfl, trivial⟩ T.sa ?_
  refine exc_osa X2 he2 hcl (show refsVE (.ref C :: bm) = true from hbm) rfl T.noN (fun h₃ tk₃ dx k₃ dn dne hx₃ hn₃ => ?_)
  show wpAny _ _ (execs _ _) _ _ _
  have z : s.heap.objs.size < h₁.objs.size := hns.lt
  have z2 : s.heap.objs.size < h2.objs.size := hns2.lt
  exact wpAny_execs_nil (hq h₃ tk₃ dx ⟨fun b o hb y => k₃ b o hb (kp2 b o hb (hk₁ b o y)), ⟨t1, hx₃⟩, Nat.le_of_lt (Nat.lt_of_lt_of_le z2 dn), dne, hn₃⟩)
theorem err_made (T : ErrT prog K mg x f C) {v : Value} (X : K.In s.heap) (hg : s.heap.Ns mainGlobals mg) (hb : ∃ mb, s.heap.Ns builtinsNs mb ∧ mb "super" = bootBuiltins "super") (hlim : s.heap.NoLimit) (hroom : A.depth + 1 < recursionLimit)
    (hq : ∀ h' tk e d, OwnMade s.heap h' e C d f v → R (.ok (.ret (.ref e))) { s with heap := h', toks := tk }) :
    codeAny (model prog w) A (.call (.ref C) ⟨[v], []⟩) R s := by
  obtain ⟨nm, q, N, bs, bm, sn, sub, ab, col, dd, k0, k1, k2, k3, k5, hC, hbm⟩ := T.cls
  obtain ⟨fI, cc, cda, oc, od, doc, pm, an, ct, osl, qual, txt, p1, p2, r1, r2, r3, r4, r5, r6, q1, q2, q3, q4, hi, tI, -⟩ := T.fn
  obtain ⟨hp, g, dr, tk, os⟩ := s
  have k : ∀ b o, hp.get? b = some o → ((hp.push (kdv_tup [v])).push (excO C hp.objs.size)).get? b = some o := fun b o e => Heap.get?_push_of_some _ (Heap.get?_push_of_some _ e)
  have hget : ((hp.push (kdv_tup [v])).push (excO C hp.objs.size)).get? (hp.objs.size + 1) = some (excO C hp.objs.size) := by heap_get
  have hnx : K.lookup (hp.objs.size + 1) = none := by
    cases e : K.lookup (hp.objs.size + 1) with
    | none => rfl
    | some o =>
      have z : hp.get? (hp.objs.size + 1) = some o := X _ _ e
      exact absurd (Nat.lt_of_succ_lt (Heap.lt_size z)) (Nat.lt_irrefl _)
  obtain ⟨mb, hb1, hb2⟩ := hb
  refine call_own F.excBase_ValueError (fun X => refsVE_contains X bm hbm) (X _ _ hC) (looks_findIn X hi) (fun self => bind_fn X self tI) (one_size v) ?_
  refine err_init (s := ⟨(hp.push (kdv_tup [v])).push (excO C hp.objs.size), g, dr, tk, os⟩) T hi (X.keeps k) (hg.keeps k) ⟨mb, hb1.keeps k, hb2⟩ (hlim.keeps k) hget hnx ?_ fun h' tk' dx ⟨k', ⟨t1, hx⟩, dn, dne, hns⟩ => ?_
  · show A.depth + 1 < recursionLimit
    exact hroom
  · have old : ∀ b o, hp.get? b = some o → h'.get? b = some o := fun b o e => k' b o (Nat.ne_of_lt (Nat.lt_succ_of_lt (Heap.lt_size e))) (k b o e)
    have z : hp.objs.size + 1 + 1 ≤ dx := by
      first
        | (simpa only [Heap.size_push] using dn)
        | exact dn
        | (have q := dn; rw [Heap.size_push, Heap.size_push] at q; exact q)
    exact ⟨rfl, hq h' tk' (hp.objs.size + 1) dx ⟨old, Nat.le_succ _, ⟨_, _, hx, rfl, rfl, rfl, rfl⟩, Nat.le_trans (Nat.le_trans (Nat.le_succ _) (Nat.le_succ _)) z, dne, hns⟩⟩
end
end ErrX
end PySem

namespace RD
open PySem PySem.Spec PyProof.Rows L2 He
theorem relO_one {f : Str} {v : V} {v' : Value} (r : RelV v v') (g : Str) : RelO (List.lookup g [(f, v)]) (if g = f then some v' else none) := by
  by_cases hw : g = f
  · subst hw
    rw [if_pos rfl]
    have q : List.lookup g [(g, v)] = some v := by simp [List.lookup]
    rw [q]
    exact r
  · rw [if_neg hw]
    have qw : (g == f) = false := by simpa using hw
    have q2 : List.lookup g [(f, v)] = none := by simp [List.lookup, qw]
    rw [q2]
    trivial
section
variable {X : Cx} {C : Addr} {x f : Str}
/-- x(e) -/
def tMkE (C : Addr) (f : Str) (ta : TA) : L2.St → Hp → XK → Prop := fun σ H Q => ta σ H fun vs H1 => ∃ v, vs = [v] ∧ ∀ d, H1 d = none → Q (.ref C) (some d) (upd H1 d (.xd [(f, v)]))
theorem pmk_err {a : Expr} {ta : TA} {p pos : Pos} {k : Nat} (T : PySem.ErrX.ErrT X.prog X.K X.mg x f C) (hr : Room k X.A) (ha : PA X [a] ta) (hg : Gl X x) (hdb : (x == ("__debug__" : Str)) = false := by decide)
    (he : starEach (a :: []) X.env = (false, eval a X.env) :: starEach [] X.env := by rfl) (hpl : (backTo pos (starEach [] X.env)).any (·.1) = false := by rfl) :
    PMk X (.Call (.Name x p) [a] [] pos) (tMkE C f ta) := by
  intro pins s σ H Q I h
  refine wpAny_Call_Name_kw (ld_glob I hg T.gC ?_ hdb)
  refine PySem.W.callWith_K (h₀ := X.base) I.ok.mod.kin T.kC (thn (ha.run pos pins s σ H _ I h) fun us s1 hh => ?_) he hpl
  obtain ⟨vs, H1, I1, r1, v, ev, q1⟩ := hh
  subst ev
  refine ⟨I1.kIn, ?_⟩
  cases r1 with
  | cons rv rn =>
    rename_i v' us'
    cases rn
    show wpAny _ _ (call (.ref C) [v']) _ _ _
    have hlim := I1.nolimit
    have hg1 := I1.mod.glob.keeps I1.bk
    obtain ⟨mb, hb1, hb2⟩ := I1.mod.blt
    have hb1 := hb1.keeps I1.bk
    have hb2 := hb2 "super" (by decide)
    obtain ⟨hp, g, dr, tk, os⟩ := s1
    refine wpAny_call (PySem.ErrX.err_made T I1.kIn hg1 ⟨mb, hb1, hb2⟩ hlim (by have := hr.dp; omega) fun h' tk' e d M => ?_)
    show MkP X pins σ Q (.ref e) ⟨h', g, dr, tk', os⟩
    obtain ⟨oe, fv, hoe, hc, hd, hdat, h1⟩ := M.obj
    have hns := M.ns
    obtain ⟨G', g1, g2⟩ := restrict h' fun b => decide (b ≠ e)
    have gk : ∀ b, b ≠ e → G'.get? b = h'.get? b := fun b hb => g1 b (decide_eq_true hb)
    have ge : G'.get? e = none := g2 e (by simp)
    have old : ∀ b o, hp.get? b = some o → G'.get? b = some o := fun b o q => (gk b (Nat.ne_of_lt (Nat.lt_of_lt_of_le (Heap.lt_size q) M.new))).trans (M.keep b o q)
    have ob : ObjOk X.prog X.w (upd H1 d (.xd [(f, v)])) G' d (.xd [(f, v)]) :=
      ⟨_, hns.at (fun o q => (gk d M.dne).trans q), fun g => relO_one rv g⟩
    have J : Inv X pins σ (upd H1 d (.xd [(f, v)])) ⟨G', g, dr, tk', os⟩ := I1.laid (t' := tk') old M.dbig ob
    refine ⟨e, oe, fv, ⟨G', g, dr, tk', os⟩, _, .ref C, some d, rfl, J, fun b o q => ?_, ge, hoe, ⟨hc, hd⟩, hdat, h1, ?_, rfl, I1.bare, raises_own T.exC T.tyC, q1 d (I1.hok.fresh M.dbig)⟩
    · by_cases hb : b = e
      · have q' : G'.get? b = some o := q
        rw [hb, ge] at q'; cases q'
      · exact (gk b hb).symm.trans q
    · rw [upd_ne (Ne.symm M.dne)]
      exact I1.hok.fresh M.new
/-- raise x(e) -/
def tRaiseE (C : Addr) (f : Str) (W : WX) (ta : TA) : TS := fun _ σ H => tMkE C f ta σ H fun cls d H' => W cls d σ H'
theorem ps_raiseE {a : Expr} {ta : TA} {W : WX} {p pos pos2 : Pos} {k : Nat} (hc : X.calm = true) (T : PySem.ErrX.ErrT X.prog X.K X.mg x f C) (hr : Room k X.A) (tk : Takes X W) (ha : PA X [a] ta) (hg : Gl X x) (hdb : (x == ("__debug__" : Str)) = false := by decide)
    (he : starEach (a :: []) X.env = (false, eval a X.env) :: starEach [] X.env := by rfl) (hpl : (backTo pos (starEach [] X.env)).any (·.1) = false := by rfl) :
    PS X (.Raise (some (.Call (.Name x p) [a] [] pos)) none pos2) (tRaiseE C f W ta) := ps_raise hc tk (pmk_err T hr ha hg hdb he hpl)
end
end RD

namespace PySem
namespace ErrX
open PySem.W PySem.Calls PyProof.Rows PySem.Spec
section
variable {prog : Program} {w : World} {A : Around} {E : Value → Shared → Prop} {s : Shared} {K : Frag} {x D : Addr} {ox : Obj} {od : Option Obj}
theorem findObj_dataO {C : Addr} {name : Str} {a g : Value} (hc : (clsIn K C).isSome = true) (ha : findIn K (.ref C) name = some (some a)) (hg : specialIn K a "__get__" = some (some g)) (ht : takesIn K a = some true) : findObj K C od name = some (.bind g a) := by
  obtain ⟨cd, hc⟩ := Option.isSome_iff_exists.mp hc
  unfold findObj
  rw [hc, Option.bind_some, ha, Option.bind_some]
  simp [hg, ht]
/-- the class asked of an exception that may have a dict -/
theorem cls_of_exc {Q : Option Value → Shared → Prop} (T : L2.ExcC K D) (X : K.In s.heap) (I : InstAt s.heap x ox D od) (h : Q (some (.ref D)) { s with toks := s.toks + 1 }) : wpAny (model prog w) A (getAttr? (.ref x) "__class__") Q E s := by
  have hf : findObj K D od "__class__" = some (.bind (.builtin "getset_descriptor.__get__") (.builtin "object.__class__")) := findObj_dataO (by obtain ⟨cd, hc, _⟩ := any_some T.hd; rw [hc]; rfl) T.ha T.hn T.ht
  obtain ⟨hp, g, d, t, os⟩ := s
  have L0 := I.type (M := model prog w)
  have L1 := looks_findIn (M := model prog w) X T.hg
  have L2 := looks_findIn (M := model prog w) X T.hk
  have L3 := looks_find (M := model prog w) X I hf
  have sub : Looks (model prog w) hp (isInstance (.ref x) (.type "BaseException")) true := L0.andThen (looks_subIn X T.hs)
  have hx0 : (false && onTheHeap (Value.builtin "BaseException.__getattribute__")) = false := rfl
  have hx2 : (Value.builtin "BaseException.__getattribute__" == Value.builtin "object.__getattribute__") = false := by decide +kernel
  have hx1 : (onTheHeap (Value.ref D) && Value.builtin "BaseException.__getattribute__" == Value.builtin "object.__getattribute__") = false := by rw [hx2]; rfl
  unfold getAttr? getAttrBy? getAttrBy
  refine wpAny_bind (wpAny_mkText (wpAny_bind (wpAny_attempt (wpAny_holding (wpAny_bind (L0.at (wpAny_bind (L1.at ?_))))))))
  show wpAny _ _ (if (onTheHeap (Value.ref D) && Value.builtin "BaseException.__getattribute__" == Value.builtin "object.__getattribute__") = true then _ else _) _ _ _
  rw [hx1, if_neg Bool.false_ne_true]
  unfold getAttrByItsOwn hookBefore
  refine wpAny_bind ?_
  rw [if_pos (show onTheHeap (Value.ref D) = true from rfl)]
  refine L2.at ?_
  refine wpAny_bind (wpAny_attempt (wpAny_holding ?_))
  unfold callGetattribute
  rw [hx0, if_neg Bool.false_ne_true]
  unfold boundAndCalled
  rw [PySem.F.excAttr_ValueError.ga.bind (.ref x)]
  refine wpAny_bind (wpAny_pure ?_)
  show wpAny _ _ (call (.builtin "BaseException.__getattribute__") [.ref x, .str "__class__" t]) _ _ _
  refine wpAny_call (codeAny_call_builtin PySem.F.excAttr_ValueError.ga.plain PySem.F.entry_bexc_ga ?_)
  refine @check_slot (model prog w) _ _ ⟨hp, g, d, t + 1, os⟩ "BaseException.__getattribute__" "BaseException" "__getattribute__" (.ref x) [.str "__class__" t] [] _ (by decide +kernel) (by decide +kernel) sub (PySem.F.args_bexc_ga (.ref x) (.str "__class__" t)) ?_
  unfold Builtin.«object.__getattribute__»
  refine wpAny_bind (wpAny_of_eq (a := ((Value.ref x : Value), [Value.str "__class__" t])) (by first | rfl | (simp only [slotArgs]; rfl)) ?_)
  refine wpAny_bind (wpAny_pure (wpAny_bind (L0.at (wpAny_bind (L3.at ?_)))))
  show wpAny _ _ (holding [Value.builtin "object.__class__"] (call (.builtin "getset_descriptor.__get__") [.builtin "object.__class__", .ref x, .ref D]) >>= ret) _ _ _
  refine wpAny_bind (wpAny_holding (wpAny_call (class_get (s := ⟨hp, g, d, t + 1, os⟩) (ox := ox) (od := od) X I T.hm ?_)))
  refine wpAny_pure ?_
  show wpAny _ _ (handedOut (.ref D)) _ _ _
  rw [handedOut_of (v := .ref D) rfl]
  first
    | exact wpAny_pure (wpAny_pure h)
    | exact wpAny_pure h
    | exact wpAny_pure (wpAny_bind (wpAny_pure (wpAny_pure h)))
theorem kitx_err (T : L2.ExcC K D) : KitX K (.ref x) (.ref D) (fun h => InstAt h x ox D od) where
  ty := fun _ _ _ I => I.type
  it := fun _ _ X _ => by
    obtain ⟨cdD, hcD, _⟩ := any_some T.hd
    unfold clsIn at hcD
    split at hcD
    · rename_i c' d' cd' sl' ho
      intro A' Q' E' s' k q
      unfold isType loadHead
      exact wpAny_bind (wpAny_loadPart (k _ _ (X _ _ ho)) (wpAny_pure q))
    · cases hcD
  ne := fun h tp dd its n sl X htp => by
    obtain ⟨cdD, hcD, _⟩ := any_some T.hd
    refine Bool.eq_false_iff.mpr fun q => ?_
    have e : D = tp := Value.ref.inj (beq_iff_eq.mp q)
    subst e
    unfold clsIn at hcD
    split at hcD
    · rename_i c' d' cd' sl' ho
      have z := (X _ _ ho).symm.trans htp
      cases z
    · cases hcD
  ca := fun X I k => cls_of_exc T X I k
end
end ErrX
end PySem
namespace RD
open PySem PySem.Spec PyProof.Rows L2 He
section
variable {X : Cx}
/-- isinstance(e, c), e the exception that the suite holds; its dict known -/
def rIsX (K : PySem.W.Frag) (a : Addr) (cls : Value) (d : Option Addr) : List V → Hp → VK → Prop := fun xs H Q => ∃ (D : Addr) (c : V) (cv : Value) (b : Bool), cls = .ref D ∧ ExcC K D ∧ xs = [.ref a, c] ∧ (d = none ∨ ∃ (dd : Addr) (fs : List (Str × V)), d = some dd ∧ H dd = some (.xd fs)) ∧ (∀ u, RelV c u → u = cv) ∧ PySem.W.kitOne K (.ref D) cv = some b ∧ Q (.bl b) H
theorem call_isX {a : Addr} {cls : Value} {oe : Obj} {d : Option Addr} {pn : List (Addr × Obj)} (hz : Zc cls d oe) (hf : ∃ vs, oe.data = .fields vs) : CallR (X.suite a ((a, oe) :: pn)) (.builtin "isinstance") (rIsX X.K a cls d) := by
  intro pins s σ H xs us Q I r h
  obtain ⟨D, c, cv, b, rfl, C, rfl, hd, hcv, e, q⟩ := h
  cases r with
  | cons rx rr =>
    cases rr with
    | cons rt rr =>
      cases rr
      cases rx
      have ec := hcv _ rt
      subst ec
      obtain ⟨hget, _⟩ := I.pin (a, oe) (List.mem_append.mpr (.inl List.mem_cons_self))
      obtain ⟨vs, hv⟩ := hf
      obtain ⟨od, J⟩ : ∃ od, PySem.W.InstAt s.heap a oe D od := by
        obtain ⟨oc, odd, oda, osl⟩ := oe
        obtain ⟨h1, h2⟩ := hz
        dsimp only at h1 h2 hv
        subst h1 h2 hv
        rcases hd with hd | ⟨dd, fs, hd, hx⟩
        · subst hd
          exact ⟨none, hget, rfl, rfl, trivial⟩
        · subst hd
          have hx : ObjOk X.prog X.w H s.heap dd (.xd fs) := I.hok dd _ hx
          obtain ⟨mA, hns, hr⟩ := hx
          obtain ⟨o, ho, _⟩ := lookIn_ns hns
          exact ⟨some o, hget, rfl, rfl, ho⟩
      exact PySem.W.kia_one (PySem.ErrX.kitx_err C) I.kIn J e (fun z => nomatch z) fun tk => ⟨.bl b, H, I.kept (t' := tk) fun _ _ z => z, rfl, q⟩
/-- e.f, e the exception that the suite holds -/
def tXe (K : PySem.W.Frag) (a : Addr) (cls : Value) (d : Option Addr) (f : Str) (te : TE) : TE := fun σ H Q => te σ H fun x H1 => ∃ (C dd : Addr) (fs : List (Str × V)) (v : V), x = .ref a ∧ cls = .ref C ∧ XfC K C ∧ PySem.W.findIn K (.ref C) f = some none ∧ d = some dd ∧ H1 dd = some (.xd fs) ∧ fs.lookup f = some v ∧ Q v H1
theorem pe_xe {a : Addr} {oe : Obj} {cls : Value} {d : Option Addr} {pn : List (Addr × Obj)} {e : Expr} {te : TE} {pos : Pos} {n : Str} (hz : Zc cls d oe) (hf : ∃ vs, oe.data = .fields vs) (he : PE (X.suite a ((a, oe) :: pn)) e te) (hb : attributeBase e n X.env (eval e X.env) = eval e X.env := by rfl) :
    PE (X.suite a ((a, oe) :: pn)) (.Attribute e n pos) (tXe X.K a cls d n te) := by
  refine ⟨fun pins s σ H Q I h => ?_⟩
  refine attr_of hb (thn (he.run pins s σ H _ I h) fun u s1 hh => ?_)
  obtain ⟨x, H1, I1, rx, C, dd, fs, v, ex, ec, T, hno, ed, ea, l, q⟩ := hh
  subst ex
  obtain rfl : u = Value.ref a := rx
  subst ec
  subst ed
  obtain ⟨ha, _⟩ := I1.pin (a, oe) (List.mem_append_left _ List.mem_cons_self)
  obtain ⟨vs, hd⟩ := hf
  have hx : ObjOk X.prog X.w H1 s1.heap dd (.xd fs) := I1.hok dd _ ea
  obtain ⟨mA, hns, hr⟩ := hx
  obtain ⟨od, ho, hl⟩ := lookIn_ns hns
  obtain ⟨u, hu, ru⟩ := RelO.some_of (v := v) (o := mA n) (by rw [← l]; exact hr n)
  have J : PySem.W.InstAt s1.heap a oe C (some od) := ⟨ha, hz.1, by unfold PySem.W.notCls; rw [hd] <;> rfl, by rw [hz.2]; exact ho⟩
  exact PySem.HandSPX.exc_get I1.kIn J T.ga T.gg T.exC (PySem.W.findObj_own T.hdC hno rfl (by rw [hl, hu])) (handed_of ru) ⟨v, H1, I1.tok _, ru, q⟩
end
/-! ### calls whose errors are wished for at the slots -/
section
variable {X : Cx} {CX : CXT} {k j : Nat} {C : Addr} {x m : Str} {sp : Sp} {dvs : List V} {E : L2.St → XK} {p pos apos : Pos} {e o : Expr} {es : List Expr} {ta : TE} {t : TA}
theorem pe_calS (c : CalX X.prog X.w X.K X.mg X.base CX k x sp dvs) (hr : Room j X.A) (hk : k ≤ j) (hg : Gl X x) (hx : ∀ σ, PassesAt CX X σ (E σ)) (ha : PA X (e :: es) t)
    (hdb : (x == ("__debug__" : Str)) = false := by decide) (he : starEach (e :: es) X.env = (false, eval e X.env) :: starEach es X.env := by rfl) (hpl : (backTo pos (starEach es X.env)).any (·.1) = false := by rfl) :
    PE X (.Call (.Name x p) (e :: es) [] pos) (tCallSD sp dvs E t) := by
  obtain ⟨f, fd, ps, ds, F, hm, kp, b, d⟩ := c.ex
  exact pe_callSD F (hr.mono hk) hg hm kp b d hx ha hdb he hpl
def tMetS (C : Addr) (m : Str) (sp : Sp) (dvs : List V) (E : L2.St → XK) (ta : TE) (t : TA) : TE := fun σ H Q => ta σ H fun x H1 => ∃ a dx fs, x = .ref a ∧ H1 a = some (.ins C dx fs) ∧ fs.lookup m = none ∧ t σ H1 fun vs H2 => sp (x :: (vs ++ dvs)) H2 Q (E σ)
theorem pe_metS {pl : Sem Bool} (c : MetX X.prog X.w X.K X.mg X.base CX k C m sp dvs) (hr : Room j X.A) (hk : k ≤ j) (hx : ∀ σ, PassesAt CX X σ (E σ)) (he : PE X o ta) (ha : PA X (e :: es) t)
    (hst : starEach (e :: es) X.env = (false, eval e X.env) :: starEach es X.env := by rfl) (hpl : (backTo pos (starEach es X.env)).any (·.1) = false := by rfl)
    (ht : eval (.Call (.Attribute o m apos) (e :: es) [] pos) X.env = (do
      let ov ← eval o X.env
      standAt apos.atName
      let (f, first) ← holding [ov] (getMethod ov m pl)
      callWith pos f first (backTo pos (starEach (e :: es) X.env)) (backToKw pos (keywordEach [] X.env))) := by rfl) :
    PE X (.Call (.Attribute o m apos) (e :: es) [] pos) (tMetS C m sp dvs E ta t) := by
  obtain ⟨f, fd, ps, ds, cl, me, F, b, d⟩ := c.ex
  refine ⟨fun pins s σ H Q I h => ?_⟩
  refine PySem.W.methodCall_KW (pl := pl) (thn (he.run pins s σ H _ I h) fun u s1 ⟨x, H1, I1, rx, a, dx, fs, ex, ea, l, q⟩ => ?_) ht
  subst ex
  obtain rfl : u = Value.ref a := rx
  refine getmeth_ok I1 ea cl me l ?_
  refine PySem.W.callWith_K (first := [.ref a]) (h₀ := X.base) I.ok.mod.kin me.kp (thn (ha.run pos pins s1 σ H1 _ I1 q) fun us s2 ⟨vs, H2, I2, r, q2⟩ => ⟨I2.kIn, ?_⟩) hst hpl
  exact run_fnSD (us := .ref a :: us) (vs := .ref a :: vs) F (hr.mono hk) b d (hx σ) I2 (.cons rfl r) q2
theorem pe_metS0 {pl : Sem Bool} (c : MetX X.prog X.w X.K X.mg X.base CX k C m sp dvs) (hr : Room j X.A) (hk : k ≤ j) (hx : ∀ σ, PassesAt CX X σ (E σ)) (he : PE X o ta)
    (ht : eval (.Call (.Attribute o m apos) [] [] pos) X.env = (do
      let ov ← eval o X.env
      standAt apos.atName
      let (f, first) ← holding [ov] (getMethod ov m pl)
      callWith pos f first (backTo pos (starEach [] X.env)) (backToKw pos (keywordEach [] X.env))) := by rfl) :
    PE X (.Call (.Attribute o m apos) [] [] pos) (tMetS C m sp dvs E ta tNil) := by
  obtain ⟨f, fd, ps, ds, cl, me, F, b, d⟩ := c.ex
  refine ⟨fun pins s σ H Q I h => ?_⟩
  refine PySem.W.methodCall_KW (pl := pl) (thn (he.run pins s σ H _ I h) fun u s1 ⟨x, H1, I1, rx, a, dx, fs, ex, ea, l, q⟩ => ?_) ht
  subst ex
  obtain rfl : u = Value.ref a := rx
  refine getmeth_ok I1 ea cl me l ?_
  exact PySem.W.callWith_K0 (first := [.ref a]) I1.kIn me.kp (run_fnSD (us := [.ref a]) (vs := [.ref a]) F (hr.mono hk) b d (hx σ) I1 (.cons rfl .nil) q)
end
/-- a def that may raise: its promise by its body -/
theorem fnDX {P : Program} {w : World} {K : PySem.W.Frag} {mg : Str → Option Value} {base : Heap} {x qual : Str} {params : Arguments} {body : List Stmt} {scope : Scope} {dvs : List V} {kws : List (Str × V)} {f : Addr} {fd : FuncData} {N ps : List Str} {k : Nat} {sp : Sp} (F : FunD K x qual params body scope dvs kws f fd) (S : FnScope N ps scope) (len : ∀ vs H Q E, sp vs H Q E → vs.length = ps.length)
    (hbody : ∀ (cdv : Value) (A : Around) (outer : List Env) (s : Shared) (H : Hp) (vs : List V) (Q : VK) (E : XK), Room k (A.deeper (envOfC qual scope s.heap.objs.size f cdv)) → sp vs H Q E →
      ∃ t, PSs (cxOf (L2.CX P w) P w K mg base N qual scope f cdv A outer s H E) body t ∧ t ⟨fun _ H' => Q .non H', Q, fun _ _ => False, fun _ _ => False⟩ (start N vs) H) : FnOk P w K mg base (L2.CX P w) (k + 1) f fd ps sp :=
  F.ok S len fun cdv A outer s H vs Q E hr h => let ⟨t, h1, h2⟩ := hbody cdv A outer s H vs Q E hr h; ⟨t, h1, h2⟩
/-- what isinstance and except ask of the class -/
structure ErrS (K : PySem.W.Frag) (ys : List Str) (x : Str) : Prop where
  xc : ExcC K (ga K x)
  xf : XfC K (ga K x)
  kit : ∀ y, y ∈ ys → PySem.W.kitOne K (.ref (ga K x)) (.ref (ga K y)) = some (decide (y = x) || decide (y = "GroupError"))
  exm : ∀ y, y ∈ ys → PySem.W.exmOne K (.ref (ga K x)) (.ref (ga K y)) = some (decide (y = x) || decide (y = "GroupError"))
  kve : PySem.W.kitOne K (.ref (ga K x)) (.type "ValueError") = some true
  glo : ∀ y, y ∈ ys → PySem.W.nsIn K mainGlobals y = some (some (.ref (ga K y)))
/-! ### readings -/
section
variable {K : PySem.W.Frag} {σ : L2.St} {H : Hp} {nx bk ct : L2.St → Hp → Prop} {rt : VK} {t : TS} {te ta : TE} {ar : TA} {Q : VK} {v x : V} {W : WX} {C : Addr} {f : Str} {D : Ends}
theorem rd_raiseE (h : ar σ H fun vs H1 => ∃ v, vs = [v] ∧ ∀ d, H1 d = none → W (.ref C) (some d) σ (upd H1 d (.xd [(f, v)]))) : tRaiseE C f W ar D σ H := h
theorem rd_raiseX {P : V → Addr → Prop} (q : ∀ d, H d = none → P v d) : ∃ v', [v] = [v'] ∧ ∀ d, H d = none → P v' d := ⟨v, rfl, q⟩
theorem rd_calS {sp : Sp} {E : L2.St → XK} (h : ar σ H fun vs H1 => sp vs H1 Q (E σ)) : tCallSD sp [] E ar σ H Q := by
  unfold tCallSD
  have e : (fun vs H1 => sp (vs ++ []) H1 Q (E σ)) = fun vs H1 => sp vs H1 Q (E σ) := by
    funext vs H1
    rw [List.append_nil]
  rw [e]
  exact h
theorem rd_metS {m : Str} {sp : Sp} {E : L2.St → XK} (h : ta σ H fun x H1 => ∃ a dx fs, x = .ref a ∧ H1 a = some (.ins C dx fs) ∧ fs.lookup m = none ∧ ar σ H1 fun vs H2 => sp (x :: vs) H2 Q (E σ)) : tMetS C m sp [] E ta ar σ H Q := by
  unfold tMetS
  have e : (fun (x : V) (H1 : Hp) => ∃ a dx fs, x = V.ref a ∧ H1 a = some (.ins C dx fs) ∧ fs.lookup m = none ∧ ar σ H1 fun vs H2 => sp (x :: (vs ++ [])) H2 Q (E σ)) =
      fun (x : V) (H1 : Hp) => ∃ a dx fs, x = V.ref a ∧ H1 a = some (.ins C dx fs) ∧ fs.lookup m = none ∧ ar σ H1 fun vs H2 => sp (x :: vs) H2 Q (E σ) := by
    funext x H1
    simp only [List.append_nil]
  rw [e]
  exact h
/-- what flies is of the class x; the clause names y -/
theorem rd_wAs {ys : List Str} {y : Str} {i : Nat} {ts : Addr → Value → Option Addr → TS} {Wout : WX} {d : Option Addr} {x : Str} {b : Bool} (S : ErrS K ys x) (hy : y ∈ ys) (e : (decide (y = x) || decide (y = "GroupError")) = b)
    (q1 : b = true → ∀ a, H a = none → ts a (.ref (ga K x)) d ⟨fun σ' H' => nx (σ'.set i none) H', rt, fun σ' H' => bk (σ'.set i none) H', fun σ' H' => ct (σ'.set i none) H'⟩ (σ.set i (some (.ref a))) H) (q2 : b = false → Wout (.ref (ga K x)) d σ H) :
    wAs K (.ref (ga K y)) i ts Wout ⟨nx, rt, bk, ct⟩ (.ref (ga K x)) d σ H := ⟨b, e ▸ S.exm y hy, q1, q2⟩
theorem rd_isX {ys : List Str} {x y : Str} {a dd : Addr} {fs : List (Str × V)} {b : Bool} (S : ErrS K ys x) (hy : y ∈ ys) (hd : H dd = some (.xd fs)) (e : (decide (y = x) || decide (y = "GroupError")) = b) (q : Q (.bl b) H) : rIsX K a (.ref (ga K x)) (some dd) [.ref a, .ref (ga K y)] H Q :=
  ⟨ga K x, .ref (ga K y), .ref (ga K y), b, rfl, S.xc, rfl, .inr ⟨dd, fs, rfl, hd⟩, fun u r => r, e ▸ S.kit y hy, q⟩
theorem rd_isXt {ys : List Str} {x y : Str} {a dd : Addr} {fs : List (Str × V)} (S : ErrS K ys x) (hy : y ∈ ys) (hd : H dd = some (.xd fs)) (e : (decide (y = x) || decide (y = "GroupError")) = true) (q : Q (.bl true) H) : rIsX K a (.ref (ga K x)) (some dd) [.ref a, .ref (ga K y)] H Q := rd_isX S hy hd e q
theorem rd_isXf {ys : List Str} {x y : Str} {a dd : Addr} {fs : List (Str × V)} (S : ErrS K ys x) (hy : y ∈ ys) (hd : H dd = some (.xd fs)) (e : (decide (y = x) || decide (y = "GroupError")) = false) (q : Q (.bl false) H) : rIsX K a (.ref (ga K x)) (some dd) [.ref a, .ref (ga K y)] H Q := rd_isX S hy hd e q
theorem rd_isXv {ys : List Str} {x : Str} {a dd : Addr} {fs : List (Str × V)} (S : ErrS K ys x) (hd : H dd = some (.xd fs)) (q : Q (.bl true) H) : rIsX K a (.ref (ga K x)) (some dd) [.ref a, .ty "ValueError"] H Q :=
  ⟨ga K x, .ty "ValueError", .type "ValueError", true, rfl, S.xc, rfl, .inr ⟨dd, fs, rfl, hd⟩, fun u r => r, S.kve, q⟩
theorem rd_xe {x f : Str} {a : Addr} {d : Option Addr} (h : te σ H fun z H1 => ∃ (C dd : Addr) (fs : List (Str × V)) (v : V), z = .ref a ∧ (.ref (ga K x) : Value) = .ref C ∧ XfC K C ∧ PySem.W.findIn K (.ref C) f = some none ∧ d = some dd ∧ H1 dd = some (.xd fs) ∧ fs.lookup f = some v ∧ Q v H1) : tXe K a (.ref (ga K x)) d f te σ H Q := h
theorem rd_xeX {ys : List Str} {x f : Str} {a dd : Addr} {fs : List (Str × V)} {R : V → Prop} (S : ErrS K ys x) (n : PySem.W.findIn K (.ref (ga K x)) f = some none) (hd : H dd = some (.xd fs)) (l : fs.lookup f = some v) (q : R v) :
    ∃ (C dd' : Addr) (fs : List (Str × V)) (v : V), V.ref a = .ref a ∧ (.ref (ga K x) : Value) = .ref C ∧ XfC K C ∧ PySem.W.findIn K (.ref C) f = some none ∧ some dd = some dd' ∧ H dd' = some (.xd fs) ∧ fs.lookup f = some v ∧ R v := ⟨ga K x, dd, fs, v, rfl, rfl, S.xf, n, rfl, hd, l, q⟩
end
end RD

/-! ### the head: error classes, tables with text keys -/
namespace RD
open PySem PySem.Spec PyProof.Rows L2 He
open PySem.W (findIn nsIn subIn typeIn keepIn mroIn kitOne exmOne codeIn clsIn ks_superIn)
structure ErrD where
  name : Str
  fld : Str
  txt : Str
  qual : Str
  params : Arguments
  body : List Stmt
  scope : Scope
abbrev FnE : Type := Option (Str × Str × Arguments × FuncBody × Scope × Addr × List Str × Addr)
def ErrD.seen (K : PySem.W.Frag) (d : ErrD) : FnE := match K.lookup (ma K (ga K d.name) "__init__") with
  | some ⟨_, _, .func fd, _⟩ => some (fd.name, fd.qualname, fd.params, fd.body, fd.scope, fd.globals, fd.closure.map (·.1), fd.builtins)
  | _ => none
def ErrD.val (d : ErrD) : FnE := some ("__init__", d.qual, d.params, .stmts d.body, d.scope, mainGlobals, ["__class__"], builtinsNs)
def excClsB (K : PySem.W.Frag) (C : Addr) : Bool := match K.lookup C with
  | some ⟨.type c, _, .cls cd, sl⟩ => decide (c = "type") && (match cd.mro, sl.toList with
    | .ref C' :: bm, [_, _, _, _, some (.builtin n), _] => decide (C' = C) && (decide (n = "ValueError.__new__") && (!cd.hasDel && (cd.hasDict && PySem.HandSPX.refsVE bm)))
    | _, _ => false)
  | _ => false
theorem excClsB_ok {K : PySem.W.Frag} {C : Addr} (h : excClsB K C = true) : ∃ nm q N bs bm sn sub ab col dd k0 k1 k2 k3 k5, K.lookup C = some (excClassObj nm q C N bs bm true sn sub ab col dd k0 k1 k2 k3 k5 "ValueError.__new__") ∧ PySem.HandSPX.refsVE bm = true := by
  unfold excClsB at h
  split at h
  · rename_i c dd cd sl ho
    obtain ⟨h0, h⟩ := ba h
    split at h
    · rename_i C' bm k0 k1 k2 k3 n k5 hm hs
      obtain ⟨h1, h⟩ := ba h
      obtain ⟨h2, h⟩ := ba h
      obtain ⟨h3, h⟩ := ba h
      obtain ⟨h4, h5⟩ := ba h
      have h3' : cd.hasDel = false := by simpa using h3
      clear h3
      obtain ⟨nm, bs, mro, ns, qn, hd, sn, sub, ab, col, del⟩ := cd
      have e0 := of_decide_eq_true h0
      have e1 := of_decide_eq_true h1
      have e2 := of_decide_eq_true h2
      dsimp only at hm h3' h4
      subst hm h3' h4 e0 e1 e2
      have hsl : sl = #[k0, k1, k2, k3, some (.builtin "ValueError.__new__"), k5] := by
        obtain ⟨l⟩ := sl
        simp only at hs
        rw [hs]
      subst hsl
      exact ⟨nm, qn, ns, bs, bm, sn, sub, ab, col, dd, k0, k1, k2, k3, k5, ho, h5⟩
    · cases h
  · cases h
def isNon : Value → Bool
  | .none => true
  | _ => false
theorem isNon_ok {v : Value} (h : isNon v = true) : v = .none := by
  cases v <;> first | rfl | cases h
def fileB (P : Program) (K : PySem.W.Frag) (cd : Value) : Bool := match cd with
  | .ref c => (match K.lookup c with
    | some ⟨_, _, .fields vs, _⟩ => (match (vs[2]? : Option Value) with
      | some (Value.str file _) => (P.main.file == file)
      | _ => false)
    | _ => false)
  | _ => false
theorem fileB_ok {P : Program} {K : PySem.W.Frag} {cd : Value} (h : fileB P K cd = true) : ∃ cda, cd = .ref cda ∧ ∃ ccl cdd vs ccs file tf, K.lookup cda = some ⟨ccl, cdd, .fields vs, ccs⟩ ∧ vs[2]? = some (.str file tf) ∧ ((P.main.file : Str) == file) = true := by
  unfold fileB at h
  split at h
  · rename_i c
    split at h
    · rename_i ccl cdd vs ccs ho
      split at h
      · rename_i file tf hv
        exact ⟨c, rfl, ccl, cdd, vs, ccs, file, tf, ho, hv, h⟩
      · cases h
    · cases h
  · cases h
def cellB (K : PySem.W.Frag) (cl : List (Str × Addr)) (C : Addr) : Bool := match cl with
  | [(_, c)] => (match K.lookup c with
    | some ⟨_, _, .cell (some (.ref D)), _⟩ => decide (D = C)
    | _ => false)
  | _ => false
theorem cellB_ok {K : PySem.W.Frag} {cl : List (Str × Addr)} {C : Addr} (h : cellB K cl C = true) : ∃ x c, cl = [(x, c)] ∧ ∃ k d s, K.lookup c = some ⟨k, d, .cell (some (.ref C)), s⟩ := by
  unfold cellB at h
  split at h
  · rename_i x c
    split at h
    · rename_i k d D s ho
      have e := of_decide_eq_true h
      subst e
      exact ⟨x, c, rfl, k, d, s, ho⟩
    · cases h
  · cases h
def errSB (K : PySem.W.Frag) (ys : List Str) (x : Str) : Bool :=
  xfB K (ga K x) && (eqO (findIn K (.ref (ga K x)) "__class__") (some (some (.builtin "object.__class__"))) && (eqO (PySem.W.specialIn K (.builtin "object.__class__") "__get__") (some (some (.builtin "getset_descriptor.__get__"))) && (decide (PySem.W.takesIn K (.builtin "object.__class__") = some true) && (decide (mroIn K (ga K x) (.type "object") = some true) &&
    (decide (kitOne K (.ref (ga K x)) (.type "ValueError") = some true) && ys.all fun y => decide (kitOne K (.ref (ga K x)) (.ref (ga K y)) = some (decide (y = x) || decide (y = "GroupError"))) && (decide (exmOne K (.ref (ga K x)) (.ref (ga K y)) = some (decide (y = x) || decide (y = "GroupError"))) && eqO (nsIn K mainGlobals y) (some (some (.ref (ga K y))))))))))
theorem errSB_ok {K : PySem.W.Frag} {ys : List Str} {x : Str} (h : errSB K ys x = true) : ErrS K ys x := by
  obtain ⟨h1, h⟩ := ba h
  obtain ⟨h2, h⟩ := ba h
  obtain ⟨h3, h⟩ := ba h
  obtain ⟨h4, h⟩ := ba h
  obtain ⟨h5, h⟩ := ba h
  obtain ⟨h6, h⟩ := ba h
  have X := xfB_ok h1
  have k := fun y hy => ba (List.all_eq_true.mp h y hy)
  exact ⟨⟨X.ga, X.gg, X.exC, X.hdC, eqO_ok h2, eqO_ok h3, of_decide_eq_true h4, of_decide_eq_true h5⟩, X, fun y hy => of_decide_eq_true (k y hy).1, fun y hy => of_decide_eq_true (ba (k y hy).2).1, of_decide_eq_true h6, fun y hy => eqO_ok (ba (k y hy).2).2⟩
def ErrD.ok (P : Program) (K : PySem.W.Frag) (ys : List Str) (d : ErrD) : Bool :=
  errSB K ys d.name && (eqO (nsIn K mainGlobals d.name) (some (some (.ref (ga K d.name)))) && (eqO (nsIn K mainGlobals "super") (some none) && (!(P.main.scope.names.lookup ("super" : Str)).isSome && (excClsB K (ga K d.name) && (eqO (findIn K (.ref (ga K d.name)) "__setattr__") (some (some (.builtin "object.__setattr__"))) &&
  (eqO (findIn K (.ref (ga K d.name)) d.fld) (some none) && (keepIn K (.ref (ga K d.name)) && (decide (typeIn K (.ref (ga K d.name)) = some (.type "type")) && (decide (mroIn K (ga K d.name) (.ref (ga K d.name)) = some true) && (decide (subIn K (.ref (ga K d.name)) (.type "ValueError") = some true) &&
  (eqO (ks_superIn K (ga K d.name) (ga K d.name) "__init__") (some (some (.builtin "ValueError.__init__"))) && (eqO (nsIn K cStatics "thirdparty.any") (some none) && (eqO (findIn K (.ref (ga K d.name)) "__init__") (some (some (.ref (ma K (ga K d.name) "__init__")))) && (decide (typeIn K (.ref (ma K (ga K d.name) "__init__")) = some (.type "function")) &&
  (match K.lookup (ma K (ga K d.name) "__init__") with
    | some ⟨_, _, .func fd, _⟩ => isNon fd.defaults && (isNon fd.kwdefaults && (codeIn K fd.code d.qual && (fileB P K fd.code && cellB K fd.closure (ga K d.name))))
    | _ => false)))))))))))))))
/-- the text of __init__ is of the known form -/
structure ErrF (d : ErrD) : Prop where
  f1 : (d.fld == ("self" : Str)) = false
  f2 : (("self" : Str) == d.fld) = false
  f3 : (("super" : Str) == d.fld) = false
  f4 : (("__class__" : Str) == d.fld) = false
  f5 : (d.fld == ("__debug__" : Str)) = false
  form : ∃ p1 p2 r1 r2 r3 r4 r5 r6 q1 q2 q3 q4, d.params = ErrX.eA1 d.fld p1 p2 ∧ d.body = ErrX.eB1 d.fld d.txt r1 r2 r3 r4 r5 r6 q1 q2 q3 q4 ∧ d.scope = ErrX.eS1 d.fld ∧ (r3.endLine == r5.line) = true
theorem ErrD.errT {P : Program} {K : PySem.W.Frag} {mg : Str → Option Value} {ys : List Str} {d : ErrD} {h : Heap} (X : K.In h) (G : h.Ns mainGlobals mg) (F : ErrF d) (e : d.seen K = d.val) (c : d.ok P K ys = true) : ErrX.ErrT P K mg d.name d.fld (ga K d.name) ∧ ErrS K ys d.name := by
  obtain ⟨h0, c⟩ := ba c
  obtain ⟨h1, c⟩ := ba c
  obtain ⟨h2, c⟩ := ba c
  obtain ⟨h3, c⟩ := ba c
  obtain ⟨h4, c⟩ := ba c
  obtain ⟨h5, c⟩ := ba c
  obtain ⟨h6, c⟩ := ba c
  obtain ⟨h7, c⟩ := ba c
  obtain ⟨h8, c⟩ := ba c
  obtain ⟨h9, c⟩ := ba c
  obtain ⟨h10, c⟩ := ba c
  obtain ⟨h11, c⟩ := ba c
  obtain ⟨h12, c⟩ := ba c
  obtain ⟨h13, c⟩ := ba c
  obtain ⟨h14, c⟩ := ba c
  have S := errSB_ok h0
  refine ⟨⟨PySem.W.mg_of X G (eqO_ok h1), PySem.W.mg_none_of X G (eqO_ok h2), by simpa using h3, F.f1, F.f2, F.f3, F.f4, F.f5, excClsB_ok h4, eqO_ok h5, eqO_ok h6, h7, S.xf.exC, of_decide_eq_true h8, of_decide_eq_true h9, of_decide_eq_true h10, eqO_ok h11, eqO_ok h12, ?_⟩, S⟩
  obtain ⟨p1, p2, r1, r2, r3, r4, r5, r6, q1, q2, q3, q4, g1, g2, g3, g4⟩ := F.form
  unfold ErrD.seen at e
  cases q : K.lookup (ma K (ga K d.name) "__init__") with
  | none =>
    rw [q] at c
    cases c
  | some o =>
    obtain ⟨oc, od, dt, osl⟩ := o
    rw [q] at c e
    cases dt with
    | func fd =>
      obtain ⟨n1, n2, n3, n4, n5, n6, n7, n8, n9, n10, n11, n12, n13, n14, n15⟩ := fd
      have e2 : (some (n1, n2, n3, n4, n5, n6, n7.map (·.1), n15) : FnE) = ErrD.val d := e
      unfold ErrD.val at e2
      injection e2 with e2
      simp only [Prod.mk.injEq] at e2
      obtain ⟨a1, a2, a3, a4, a5, a6, a7, a8⟩ := e2
      have c3 : (isNon n8 && (isNon n9 && (codeIn K n13 d.qual && (fileB P K n13 && cellB K n7 (ga K d.name))))) = true := c
      obtain ⟨k1, c3⟩ := ba c3
      obtain ⟨k2, c3⟩ := ba c3
      obtain ⟨k3, c3⟩ := ba c3
      obtain ⟨k4, k5⟩ := ba c3
      obtain ⟨cda, z1, z2⟩ := fileB_ok k4
      obtain ⟨y, cc, z3, z4⟩ := cellB_ok k5
      have z5 := isNon_ok k1
      have z6 := isNon_ok k2
      subst z3
      have z7 : y = "__class__" := by
        have z : ([y] : List Str) = ([("__class__" : Str)] : List Str) := a7
        injection z
      subst z7
      subst a1 a2 a3 a4 a5 a6 a8 z5 z6 z1
      rw [g1, g2, g3] at q
      exact ⟨_, cc, cda, oc, od, _, _, _, _, osl, _, _, p1, p2, r1, r2, r3, r4, r5, r6, q1, q2, q3, q4, eqO_ok h13, of_decide_eq_true h14, g4, q, k3, z2, z4⟩
    | _ => cases c
/-- the head with all of it -/
def goQ (g : Addr → Option Obj) : Nat → List Addr → List Addr → List Addr
  | 0, sn, _ => sn
  | n + 1, sn, fr => match ((fr.flatMap fun a => match g a with
      | some o => refsD o
      | none => []).filter fun a => !(sn.contains a)).eraseDups with
    | nw => goQ g n (sn ++ nw) nw
/-- what n steps of naming reach from the module's names -/
def asQ (g : Addr → Option Obj) (n : Nat) : List Addr := goQ g n [cStatics, mainGlobals] [mainGlobals]
abbrev AlQ : Type := AlX × (Bool × (List FnW × List FnE))
def obsQ (P : Program) (n : Nat) (fa : List Fa) (fn : List DefD) (gs : List GetD) (es : List ErrD) (ys : List Str) (ts : List Tab) (tf : List Defn) (ex : PySem.W.Frag → Bool) (g : Addr → Option Obj) : AlQ :=
  ((obsT fa fn ts (frT g (asQ g n)), ex (frT g (asQ g n)) && tabsB g tf (frT g (asQ g n))), (gs.all (GetD.ok (frT g (asQ g n))) && es.all (ErrD.ok P (frT g (asQ g n)) ys), (gs.map (GetD.seen (frT g (asQ g n))), es.map (ErrD.seen (frT g (asQ g n))))))
structure SaysQ (P : Program) (fa : List Fa) (fn : List DefD) (gs : List GetD) (es : List ErrD) (ys : List Str) (ts : List Tab) (tf : List Defn) (ex : PySem.W.Frag → Bool) (w : World) (h : Heap) (K : PySem.W.Frag) : Prop where
  x : SaysX fa fn ts tf ex w h K
  ok : gs.all (GetD.ok K) = true
  seen : gs.map (GetD.seen K) = gs.map GetD.val
  eok : es.all (ErrD.ok P K ys) = true
  eseen : es.map (ErrD.seen K) = es.map ErrD.val
theorem saysXQ {fa : List Fa} {fn : List DefD} {ts : List Tab} {tf : List Defn} {ex : PySem.W.Frag → Bool} {w : World} {h : Heap} {as : List Addr} (e1 : obsT fa fn ts (frT h.get? as) = valT fn ts w) (e2 : (ex (frT h.get? as) && tabsB h.get? tf (frT h.get? as)) = true) : SaysX fa fn ts tf ex w h (frT h.get? as) := by
  obtain ⟨h1, h2⟩ := ba e2
  have key : ∀ p ∈ tf, PySem.W.codeHdIn (frT h.get? as) (cT (frT h.get? as) p).1 (cT (frT h.get? as) p).2 = true ∧ ∃ o, h.get? (cT (frT h.get? as) p).2 = some o ∧ emptyTab o = true := fun p hp => by
    obtain ⟨h3, h4⟩ := ba (List.all_eq_true.mp h2 p hp)
    refine ⟨h3, ?_⟩
    cases q : h.get? (cT (frT h.get? as) p).2 with
    | none =>
      rw [q] at h4
      cases h4
    | some o =>
      rw [q] at h4
      exact ⟨o, rfl, h4⟩
  exact ⟨e1, h1, fun p hp => (key p hp).1, fun p hp => by
    obtain ⟨_, o, q, z⟩ := key p hp
    exact frT_none q z, fun p hp => by
    obtain ⟨_, o, q, z⟩ := key p hp
    rw [q, emptyTab_eq z]⟩
theorem saysQ_of {P : Program} {n : Nat} {fa : List Fa} {fn : List DefD} {gs : List GetD} {es : List ErrD} {ys : List Str} {ts : List Tab} {tf : List Defn} {ex : PySem.W.Frag → Bool} {w : World} {h : Heap} (e : obsQ P n fa fn gs es ys ts tf ex h.get? = (valX fn ts w, (true, (gs.map GetD.val, es.map ErrD.val)))) : SaysQ P fa fn gs es ys ts tf ex w h (frT h.get? (asQ h.get? n)) := by
  have e1 : obsT fa fn ts (frT h.get? (asQ h.get? n)) = valT fn ts w := congrArg (fun z : AlQ => z.1.1) e
  have e2 : (ex (frT h.get? (asQ h.get? n)) && tabsB h.get? tf (frT h.get? (asQ h.get? n))) = true := congrArg (fun z : AlQ => z.1.2) e
  have e3 : (gs.all (GetD.ok (frT h.get? (asQ h.get? n))) && es.all (ErrD.ok P (frT h.get? (asQ h.get? n)) ys)) = true := congrArg (fun z : AlQ => z.2.1) e
  obtain ⟨e4, e5⟩ := ba e3
  exact ⟨saysXQ e1 e2, e4, congrArg (fun z : AlQ => z.2.2.1) e, e5, congrArg (fun z : AlQ => z.2.2.2) e⟩
def hookQ (P : Program) (n : Nat) (fa : List Fa) (fn : List DefD) (gs : List GetD) (es : List ErrD) (ys : List Str) (ts : List Tab) (tf : List Defn) (ex : PySem.W.Frag → Bool) : PySem.W.Hook where
  α := AlQ
  obs := fun s => obsQ P n fa fn gs es ys ts tf ex s.heap.get?
  val := fun w => (valX fn ts w, (true, (gs.map GetD.val, es.map ErrD.val)))
  says := fun w h => ∃ K : PySem.W.Frag, K.In h ∧ SaysQ P fa fn gs es ys ts tf ex w h K
  of := fun _ _ e => ⟨_, frT_in, saysQ_of e⟩
  keeps := fun _ _ _ ⟨K, hK, c⟩ k => ⟨K, PySem.W.Frag.In.keeps hK k, ⟨⟨c.x.t, c.x.more, c.x.hd, c.x.out, fun p hp => k _ _ (c.x.empty p hp)⟩, c.ok, c.seen, c.eok, c.eseen⟩⟩
theorem obsQ_eq {P : Program} {n : Nat} {fa : List Fa} {fn : List DefD} {gs : List GetD} {es : List ErrD} {ys : List Str} {ts : List Tab} {tf : List Defn} {ex : PySem.W.Frag → Bool} {g : Addr → Option Obj} {s : Shared} (h : ∀ a, g a = s.heap.get? a) : obsQ P n fa fn gs es ys ts tf ex g = (hookQ P n fa fn gs es ys ts tf ex).obs s := by
  have e : g = s.heap.get? := funext h
  rw [e] <;> rfl
section
variable {P : Program} {fa : List Fa} {fn : List DefD} {gs : List GetD} {es : List ErrD} {ys : List Str} {ts : List Tab} {tf : List Defn} {ex : PySem.W.Frag → Bool} {w : World} {h : Heap} {K : PySem.W.Frag}
theorem SaysQ.get (c : SaysQ P fa fn gs es ys ts tf ex w h K) {d : GetD} (hd : d ∈ gs) :
    PropOf K (ga K d.cls) d.fld (prA K d.cls d.fld) (prG K d.cls d.fld) ∧ ∃ fd, FunD K d.name d.qual d.params d.body d.scope [] [] (prG K d.cls d.fld) fd := by
  obtain ⟨i, hi, e⟩ := List.mem_iff_getElem.mp hd
  have e1 := congrArg (fun l : List FnW => l[i]?) c.seen
  have e2 : gs[i]? = some d := by rw [List.getElem?_eq_getElem hi, e]
  simp only [List.getElem?_map, e2, Option.map_some, Option.some.injEq] at e1
  exact GetD.funD e1 (List.all_eq_true.mp c.ok d hd)
theorem SaysQ.err {mg : Str → Option Value} (c : SaysQ P fa fn gs es ys ts tf ex w h K) (X : K.In h) (G : h.Ns mainGlobals mg) {d : ErrD} (hd : d ∈ es) (F : ErrF d) : ErrX.ErrT P K mg d.name d.fld (ga K d.name) ∧ ErrS K ys d.name := by
  obtain ⟨i, hi, e⟩ := List.mem_iff_getElem.mp hd
  have e1 := congrArg (fun l : List FnE => l[i]?) c.eseen
  have e2 : es[i]? = some d := by rw [List.getElem?_eq_getElem hi, e]
  simp only [List.getElem?_map, e2, Option.map_some, Option.some.injEq] at e1
  exact ErrD.errT X G F e1 (List.all_eq_true.mp c.eok d hd)
theorem SaysQ.tabd (c : SaysQ P fa fn gs es ys ts tf ex w h K) {t : Tab} (ht : t ∈ ts) : ∃ es n, KDict K w (t.1 K) es n := by
  obtain ⟨i, hi, e⟩ := List.mem_iff_getElem.mp ht
  exact c.x.t.tab i (by rw [List.getElem?_eq_getElem hi, e])
end
end RD

/-! own layer: further rules (behind EXC) -/
namespace RD
open PySem PySem.Spec PyProof.Rows L2 He
section
variable {X : Cx}
/-- l.remove(x) of a list of data: the first item that is == x goes -/
def rRemD (K : PySem.W.Frag) : V → List V → Hp → VK → Prop := fun x vs H Q => ∃ (l : Addr) (xs : List V) (y : V) (d : PyData) (ds : List PyData) (j : Nat), x = .ref l ∧ vs = [y] ∧ H l = some (.lst xs) ∧ DpAll K H xs ds ∧ Dp K H y d ∧
  PyData.plainAll ds = true ∧ d.plain = true ∧ d.depth ≤ 60 ∧ PySem.SeqAt.dataPlace ds d = some j ∧ Q .non (upd H l (.lst (xs.eraseIdx j)))
theorem mt_remD (hu : X.A.units + 65 < cLine) : MtM X "list.remove" (rRemD X.K) := by
  intro pins s σ H x xs v us Q I rx rxs h
  obtain ⟨l, vs, y, d, ds, j, rfl, rfl, hH, hda, hy, pl, pd, dep, hp, q⟩ := h
  cases rx
  obtain ⟨u, rfl, ru⟩ := rxs.one
  obtain ⟨z, its, n, r, hl, e⟩ := I.lstM hH
  obtain ⟨bs, r1⟩ := Dp.reads I d y u hy ru
  obtain ⟨as, h4⟩ := Dp.readsAll I ds _ its hda r
  have hn : its.length = ds.length := SeqAt.ReadsAll.length ds its as h4
  refine PySem.SeqAt.remove_list_data (vs := its.toArray) ⟨_, e, rfl, n, rfl⟩ (show ReadsAll s.heap its.toArray.toList ds as from h4) r1 pl pd (by omega) hp (by rw [List.size_toArray]; omega) ?_
  have rr := r.eraseIdx j
  refine ⟨.non, _, I.lset (its' := its.eraseIdx j) (t' := s.toks) hH e ?_ rr ?_, rfl, q⟩
  · show its.toArray.eraseIdxIfInBounds j = (its.eraseIdx j).toArray
    rw [List.eraseIdxIfInBounds_toArray]
  · have z2 : (vs.eraseIdx j).length ≤ vs.length := List.length_eraseIdx_le vs j
    omega
end
def rIsNB : R2 := fun x y H Q => ∃ a b, x = .bl a ∧ y = .bl b ∧ Q (.bl (!decide (a = b))) H
theorem op_isNB {X : Cx} : OpR X (compareOp .IsNot) rIsNB := by
  intro pins s σ H x y v u Q I rx ry h
  obtain ⟨a, b, rfl, rfl, q⟩ := h
  cases rx
  cases ry
  refine wpAny_of_eq (show compareOp .IsNot (.bool a) (.bool b) = pure (.bool (!decide (a = b))) from ?_) ⟨.bl _, H, I, rfl, q⟩
  cases a <;> cases b <;> rfl
def rIsB' : R2 := fun x y H Q => ∃ a b, x = .bl a ∧ y = .bl b ∧ Q (.bl (decide (a = b))) H
theorem op_isB {X : Cx} : OpR X (compareOp .Is) rIsB' := by
  intro pins s σ H x y v u Q I rx ry h
  obtain ⟨a, b, rfl, rfl, q⟩ := h
  cases rx
  cases ry
  refine wpAny_of_eq (show compareOp .Is (.bool a) (.bool b) = pure (.bool (decide (a = b))) from ?_) ⟨.bl _, H, I, rfl, q⟩
  cases a <;> cases b <;> rfl
theorem rd_isNB {a b : Bool} {H : Hp} {Q : VK} (q : Q (.bl (!decide (a = b))) H) : rIsNB (.bl a) (.bl b) H Q := ⟨a, b, rfl, rfl, q⟩
theorem rd_isB {a b : Bool} {H : Hp} {Q : VK} (q : Q (.bl (decide (a = b))) H) : rIsB' (.bl a) (.bl b) H Q := ⟨a, b, rfl, rfl, q⟩
end RD
theorem _root_.L2.Room.units65 {k : Nat} {A : PySem.Around} (r : L2.Room k A) : A.units + 65 < PySem.cLine := by
  have := r.un
  omega

namespace L2
open PySem PySem.Spec PyProof.Rows GenW

section
variable {M : Model} {A : Around} {R : GenEnd} {Y : Protocol} {n : Nat} {s₀ : Shared} {c : Code} {fs : List Frame} {s : Shared} {env : Env}
  {K : Flow → Sem PySem.Fin} {J : Value → Sem PySem.Fin} {gd : Bool → Bool} {lv : List Value → List Value}
theorem seg_For {tg iter : Expr} {body : List Stmt} {pos : Pos}
    (h : wpAny M (A.over c fs) (eval iter env) (fun x s₁ => wpAny M (A.over c fs) (pyIter x) (fun it s₂ => ∀ p, Seg M A R Y n s₀ (.forLoop tg it body [] env) (M.den (.forLoop tg it body [] env))
      (.ret (fun r => ((match r with | .ok f => (.pure f : Sem Flow) | .error e => .raise e).onRaise (cameBack env)).wrap K J gd lv) none (gd false) (lv []) c p [] :: fs) s₂) (fun x s' => Seg M A R Y n s₀ c (J x) fs s') s₁) (fun x s' => Seg M A R Y n s₀ c (J x) fs s') s)
    (hs : ∀ x, foldedSetIterable iter env x = pure x) :
    Seg M A R Y n s₀ c ((exec (.For tg iter body [] pos) env).wrap K J gd lv) fs s := by
  rw [exec_For]
  refine seg_bind_wrap (wpAny_standAt ?_)
  refine seg_bind_wrap (wpAny_mono h (fun x s₁ h₁ => ?_) fun _ _ h' => h')
  refine seg_bind_wrap (wpAny_of_eq (hs x) ?_)
  refine seg_bind_wrap (wpAny_standAt ?_)
  refine seg_bind_wrap (wpAny_holding (wpAny_mono h₁ (fun it s₂ h₂ => ?_) fun _ _ h' => h'))
  exact seg_call h₂
end
section
variable {prog : Program} {w : World} {A : Around} {R : GenEnd} {Y : Protocol} {n : Nat} {s₀ : Shared} {fs : List Frame} {s : Shared} {env : Env}
theorem seg_forLoop {tg : Expr} {it : Value} {body : List Stmt}
    (h : wpAny (model prog w) (A.over (.forLoop tg it body [] env) fs) (pyNext it) (fun r s₁ => match r with
      | none => Seg (model prog w) A R Y n s₀ (.forLoop tg it body [] env) (.pure (.again (.block [] env))) fs s₁
      | some v => wpAny (model prog w) (A.over (.forLoop tg it body [] env) fs) (letOwnedTupleGo tg it v) (fun _ s₂ => wpAny (model prog w) (A.over (.forLoop tg it body [] env) fs) (assign tg env v) (fun _ s₃ =>
          Seg (model prog w) A R Y n s₀ (.forLoop tg it body [] env) ((execs body env).wrap (fun f => match f with
            | .next | .cont => .pure (.again (.forLoop tg it body [] env))
            | .brk => .pure (.done .next)
            | .ret v => .pure (.done (.ret v))) (fun e => (do noteFrame e env; theTreesLotGoes e : Sem Unit).wrap (fun _ => .raise e) .raise id id) id id) fs s₃)
          (fun x s' => Seg (model prog w) A R Y n s₀ (.forLoop tg it body [] env) ((do noteFrame x env; theTreesLotGoes x : Sem Unit).wrap (fun _ => .raise x) .raise id id) fs s') s₂)
        (fun x s' => Seg (model prog w) A R Y n s₀ (.forLoop tg it body [] env) ((do noteFrame x env; theTreesLotGoes x : Sem Unit).wrap (fun _ => .raise x) .raise id id) fs s') s₁)
      (fun x s' => Seg (model prog w) A R Y n s₀ (.forLoop tg it body [] env) ((do noteFrame x env; theTreesLotGoes x : Sem Unit).wrap (fun _ => .raise x) .raise id id) fs s') s) :
    Seg (model prog w) A R Y n s₀ (.forLoop tg it body [] env) ((model prog w).den (.forLoop tg it body [] env)) fs s := by
  have ex : ∀ e : Value, ((do noteFrame e env; theTreesLotGoes e : Sem Unit) >>= fun _ => (Sem.raise e : Sem PySem.Fin)) = (do noteFrame e env; theTreesLotGoes e : Sem Unit).wrap (fun _ => .raise e) .raise id id := fun e => Sem.bind_eq_wrap _ _
  show Seg _ A R Y n s₀ _ ((forTurn tg it body [] env).onRaise (fun x => do noteFrame x env; theTreesLotGoes x)) fs s
  unfold forTurn
  rw [Sem.onRaise_eq_wrap]
  refine seg_bind_wrap (wpAny_standAt ?_)
  refine seg_bind_wrap (wpAny_onRaise (wpAny_mono h (fun r s₁ h₁ => ?_) fun x s' hx => wpAny_standAt ?_))
  · cases r with
    | none => exact h₁
    | some v =>
      refine seg_bind_wrap (wpAny_mono h₁ (fun _ s₂ h₂ => ?_) fun x s' hx => ?_)
      · refine seg_bind_wrap (wpAny_mono h₂ (fun _ s₃ h₃ => ?_) fun x s' hx => ?_)
        · rw [Sem.bind_eq_wrap', Sem.wrap_wrap]
          refine Eq.mp (congrArg (fun t => Seg _ A R Y n s₀ _ t fs s₃) (Sem.wrap_congr (execs body env) _ _ (fun f => ?_) (fun e => ?_)).symm) h₃
          · cases f <;> rfl
          · exact ex e
        · rw [← ex] at hx
          exact hx
      · rw [← ex] at hx
        exact hx
  · rw [← ex] at hx
    exact hx
end
/-- W: the invariant by the turn, a measure and what is out; N: what the body is to reach -/
def tGFor (wi : TI) (g : TG) (tb : TGn) : TGn := fun D ys σ H => wi σ H fun J H1 => ∃ W : Nat → Nat → List V → St → Hp → Prop, (∃ m, W 0 m ys σ H1) ∧ ∀ i m ys σ H, W i m ys σ H →
  (J.stop i H ∧ D.nx ys σ H) ∨ (J.go i H ∧ ∃ N : List V → St → Hp → Prop, (∀ ys' σ' H', N ys' σ' H' → ∃ m', m' < m ∧ W (i + 1) m' ys' σ' H') ∧ ∀ x H', J.yld i H x H' → g x σ H' fun σ2 H2 => tb { D with nx := N, ct := N, bk := D.nx } ys σ2 H2)
section
variable {X : Cx}
theorem gs_for {tg iter : Expr} {body : List Stmt} {wi : TI} {g : TG} {tb : TGn} {pos : Pos} (hp : PassesOwn (model X.prog X.w) X.A X.env X.xe) (hc : X.calm = true) (hi : PI X tg iter wi) (hg : PG X tg g) (hb : GSs X body tb)
    (hs : ∀ x, foldedSetIterable iter X.env x = pure x := by intro _; rfl) : GS X (.For tg iter body [] pos) (tGFor wi g tb) := by
  refine ⟨fun A S ip R n ys s₀ c fs K J gd lv s σ H D g0 hn k hI ht => ?_⟩
  obtain ⟨acc, cc, r, I⟩ := hI
  refine seg_For ?_ hs
  rw [g0.over]
  refine wpAny_mono (hi.run _ s σ H _ I ht) (fun v s1 h1 => wpAny_mono h1 (fun itv s2 h2 p => ?_) fun x s' hx => k.exc n s₀ x s' hx) fun x s' hx => k.exc n s₀ x s' hx
  obtain ⟨it, fp, tn, Jt, H2, e, I2, T, st2, f2, W, ⟨m0, w0⟩, turn⟩ := h2
  subst e
  have gl := fun (kk : Result → Sem PySem.Fin) => gc_loop (k := kk) (c' := .forLoop tg (.ref it) body [] X.env) (l := lv []) (kp := []) (p := p) g0 rfl rfl
  have fS : S ∉ fp := fun hS => (f2 S hS).2.2.2.2.2 (S, lstObj acc cc) (List.mem_append_right _ List.mem_cons_self) rfl
  have fip : ∀ b ∈ fp, ∀ q ∈ ip, q.1 ≠ b := fun b hb q hq => (f2 b hb).2.2.2.2.2 q (List.mem_append_right _ (List.mem_cons_of_mem _ hq))
  have stat : ∀ {H' : Hp} {acc' : Array Value} {c' : Nat}, (∀ b ∈ fp, H' b = none) → ∀ b ∈ fp, FpOk X ((S, lstObj acc' c') :: ip) H' b := fun hn b hb => by
    obtain ⟨q1, q2, q3, q4, q5, q6⟩ := f2 b hb
    refine ⟨hn b hb, q2, q3, q4, q5, fun q hq => ?_⟩
    rcases List.mem_append.mp hq with hq | hq
    · exact q6 q (List.mem_append_left _ hq)
    · rcases List.mem_cons.mp hq with rfl | hq
      · exact fun z => fS (by rw [show S = b from z]; exact hb)
      · exact q6 q (List.mem_append_right _ (List.mem_cons_of_mem _ hq))
  have loop : ∀ (m i n : Nat) (ys : List V) (s₀ s : Shared) (σ : St) (H : Hp), n + ys.length = sizeLine → W i m ys σ H → tn i s.heap → (∀ b ∈ fp, H b = none) → GI X S ip ys σ H s →
      Seg (model X.prog X.w) A R (GY X S) n s₀ (.forLoop tg (.ref it) body [] X.env) ((model X.prog X.w).den (.forLoop tg (.ref it) body [] X.env))
        (.ret (fun r => ((match r with | .ok f => (.pure f : Sem Flow) | .error e => .raise e).onRaise (cameBack X.env)).wrap K J gd lv) none (gd false) (lv []) c p [] :: fs) s := by
    intro m
    induction m using Nat.strongRecOn with
    | ind m ih =>
      intro i n ys s₀ s σ H hn w htn hfp hI
      have ee : ∀ (n : Nat) (s₀ : Shared) (x : Value) (s' : Shared), X.xe x s' → Seg (model X.prog X.w) A R (GY X S) n s₀ (.forLoop tg (.ref it) body [] X.env)
          ((do noteFrame x X.env; theTreesLotGoes x : Sem Unit).wrap (fun _ => .raise x) .raise id id)
          (.ret (fun r => ((match r with | .ok f => (.pure f : Sem Flow) | .error e => .raise e).onRaise (cameBack X.env)).wrap K J gd lv) none (gd false) (lv []) c p [] :: fs) s' := fun n s₀ x s' hx => by
        refine seg_wrap ?_
        rw [(gl _).over]
        refine wpAny_bind (wpAny_mono (hp x s' hx) (fun _ s'' hcb => wpAny_theTreesLotGoes ?_) fun y s'' hcb => ?_)
        · exact seg_leaf (.error x) (seg_cameBack g0 k hcb)
        · exact seg_leaf (.error y) (seg_cameBack g0 k hcb)
      refine seg_forLoop ?_
      rw [(gl _).over]
      obtain ⟨acc, cc, r, I⟩ := hI
      rcases turn i m ys σ H w with ⟨stop, qn⟩ | ⟨go, N, hN, step⟩
      · refine wpAny_mono (T.done X rfl rfl rfl hc i _ s σ H X.xe I (stat hfp) htn stop) (fun r' s4 h4 => ?_) fun x s' hx => ee n s₀ x s' hx
        obtain ⟨rfl, I4⟩ := h4
        refine seg_again rfl ?_
        exact seg_leaf (.ok .next) (k.ok n ys s₀ s4 .next hn ⟨σ, H, ⟨acc, cc, r, I4⟩, qn⟩)
      · refine wpAny_mono (T.item X rfl rfl rfl hc i _ s σ H X.xe I (stat hfp) htn go) (fun r' s4 h4 => ?_) fun x s' hx => ee n s₀ x s' hx
        obtain ⟨u, rfl, h4⟩ := h4
        refine wpAny_mono h4 (fun _ s5 h5 => ?_) fun x s' hx => ee n s₀ x s' hx
        obtain ⟨x, H5, I5, r5, y5, st5, fr5⟩ := h5
        have I5' := I5.pinned (stat fr5) (T.obj _ _ st5)
        refine wpAny_mono (hg.run _ s5 σ H5 x u _ I5' r5 (step x H5 y5)) (fun _ s6 h6 => ?_) fun x s' hx => ee n s₀ x s' hx
        obtain ⟨σ6, H6, I6, q6⟩ := h6
        have gl6 : GC X S (ip ++ pinsAt fp s5.heap) A (.forLoop tg (.ref it) body [] X.env) (.ret (fun r => ((match r with | .ok f => (.pure f : Sem Flow) | .error e => .raise e).onRaise (cameBack X.env)).wrap K J gd lv) none (gd false) (lv []) c p [] :: fs) id := by
          obtain ⟨a1, a2, a3, a4, a5, a6, a7⟩ := gl (fun r => ((match r with | .ok f => (.pure f : Sem Flow) | .error e => .raise e).onRaise (cameBack X.env)).wrap K J gd lv)
          refine ⟨a1, fun q hq => ?_, a3, a4, a5, a6, a7⟩
          rcases List.mem_append.mp hq with hq | hq
          · exact a2 q hq
          · exact fun z => fS (by rw [← z]; exact (of_pinsAt hq).1)
        have back : ∀ {ys' : List V} {σ7 : St} {H7 : Hp} {s7 : Shared}, GI X S (ip ++ pinsAt fp s5.heap) ys' σ7 H7 s7 → GI X S ip ys' σ7 H7 s7 := fun {ys' σ7 H7 s7} h => by
          obtain ⟨acc7, c7, r7, I7⟩ := h
          exact ⟨acc7, c7, r7, Inv.unpinned (pl := pinsAt fp s5.heap) I7⟩
        refine hb.run A S (ip ++ pinsAt fp s5.heap) R n ys s₀ _ _ _ _ id id s6 σ6 H6 { D with nx := N, ct := N, bk := D.nx } gl6 hn ⟨fun n' ys' s₀' s7 f hn' hs => ?_, fun n' s₀' x s7 hx => ee n' s₀' x s7 hx⟩ ⟨acc, cc, r, I6⟩ q6
        have again : ∀ {σ7 : St} {H7 : Hp}, GI X S (ip ++ pinsAt fp s5.heap) ys' σ7 H7 s7 → N ys' σ7 H7 → Seg (model X.prog X.w) A R (GY X S) n' s₀' (.forLoop tg (.ref it) body [] X.env) ((model X.prog X.w).den (.forLoop tg (.ref it) body [] X.env))
            (.ret (fun r => ((match r with | .ok f => (.pure f : Sem Flow) | .error e => .raise e).onRaise (cameBack X.env)).wrap K J gd lv) none (gd false) (lv []) c p [] :: fs) s7 := fun {σ7 H7} I7 n7 => by
          obtain ⟨m', hm, w7⟩ := hN ys' σ7 H7 n7
          have I8 := I7
          obtain ⟨acc7, c7, r7, I7⟩ := I7
          have pin7 := fun b hb o e => I7.pin (b, o) (List.mem_append_right _ (List.mem_cons_of_mem _ (List.mem_append_right _ (mem_pinsAt (fp := fp) (h := s5.heap) hb e))))
          refine ih m' hm (i + 1) n' ys' s₀' s7 σ7 H7 hn' w7 (T.keep _ _ _ st5 fun b hb o e => (pin7 b hb o e).1) (fun b hb => ?_) (back I8)
          obtain ⟨o, e, d⟩ := T.obj _ _ st5 b hb
          exact (pin7 b hb o e).2.1
        cases f with
        | next => obtain ⟨σ7, H7, I7, n7⟩ := hs; exact seg_again rfl (again I7 n7)
        | cont => obtain ⟨σ7, H7, I7, n7⟩ := hs; exact seg_again rfl (again I7 n7)
        | brk => obtain ⟨σ7, H7, I7, q7⟩ := hs; exact seg_leaf (.ok .next) (k.ok n' ys' s₀' s7 .next hn' ⟨σ7, H7, back I7, q7⟩)
        | ret v => obtain ⟨x7, σ7, H7, I7, r7, q7⟩ := hs; exact seg_leaf (.ok (.ret v)) (k.ok n' ys' s₀' s7 (.ret v) hn' ⟨x7, σ7, H7, back I7, r7, q7⟩)
  exact loop m0 0 n ys s₀ s2 σ H2 hn w0 st2 (fun b hb => (f2 b hb).1) ⟨acc, cc, r, I2⟩
end
end L2

/-! ### ranges of any size -/
namespace L2
open PySem PySem.Spec PyProof.Rows
theorem turn_long {P : Program} {w : World} {K : PySem.W.Frag} {tg : Expr} (it : Addr) (lo : Int) (n : Nat) : Turn P w K tg (Itr lo n) [it] it (fun i h => IsLongIter h it (lo + (i : Nat) * 1) ((n : Int) - (i : Nat)) 1) where
  mem := by simp
  obj := fun i h st b hb => by
    have e : b = it := by simpa using hb
    subst e
    exact ⟨_, st, fun v z => by
      have z' : Data.fields _ = Data.cell v := z
      cases z'⟩
  keep := fun i h h' st k => k it (by simp) _ st
  item := by
    intro X hP hw hK hc i pins s σ H E I hf st hg
    subst hP hw hK
    obtain ⟨f0, f1, f2, f3, f4, f5⟩ := hf it (by simp)
    have W := Walks.longrange (prog := X.prog) (w := X.w) (I.ok.hd hc) it lo 1 n
    refine W.item i s _ _ hg st fun v h' tk hv st' kk => ?_
    obtain ⟨t, rfl⟩ := hv
    have I1 : Inv X pins σ H { s with heap := h', toks := tk } := I.turned (fun b o hb e => kk b o (by simpa using hb) e) f0 f1 f3 f4 f5
    refine ⟨_, rfl, go_of (s := { s with heap := h', toks := tk }) (n := "longrange_iterator") st' rfl rfl (by decide) ⟨.int (lo + i), H, I1, ⟨t, ?_⟩, ⟨rfl, rfl⟩, st', fun b hb => (hf b hb).1⟩⟩
    rw [Int.mul_one]
  done := by
    intro X hP hw hK hc i pins s σ H E I hf st hg
    subst hP hw hK
    obtain ⟨f0, f1, f2, f3, f4, f5⟩ := hf it (by simp)
    exact wpAny_pyNext_long_end (I.ok.hd hc) st (by have : n ≤ i := hg; omega) fun h' eb => ⟨rfl, I.turned (t' := s.toks) (fun b o hb e => eb b o hb e) f0 f1 f3 f4 f5⟩
  self := fun _ _ _ _ _ st h => wpAny_pyIter_longiter st h
section
variable {X : Cx} {tg : Expr}
theorem range_itB {pins : List (Addr × Obj)} {σ : St} {H : Hp} {s : Shared} {R : It → Hp → Prop} {E : Value → Shared → Prop} {lo hi : Int} {t u v : Tok} {tk : Nat} (I : Inv X pins σ H s)
    (q : R (Itr lo (hi - lo).toNat) H) : wpAny (model X.prog X.w) X.A (pyIter (.ref s.heap.objs.size)) (PIE X pins σ tg R) E { s with heap := s.heap.push { cls := .type "range", data := .fields #[.int lo t, .int hi u, .int 1 v] }, toks := tk } := by
  have e1 : lo + ((0 : Nat) : Int) * 1 = lo := by simp
  have e2 : (((hi - lo).toNat : Nat) : Int) - ((0 : Nat) : Int) = Builtin.Range.rangeSize lo hi 1 := by rw [rangeSize_one]; split <;> omega
  have I1 : Inv X pins σ H { s with heap := s.heap.push { cls := .type "range", data := .fields #[.int lo t, .int hi u, .int 1 v] }, toks := tk } := I.kept fun b o e => Heap.get?_push_of_some _ e
  cases hs : Builtin.Range.small lo hi 1 with
  | true =>
    refine wpAny_pyIter_range (IsRange.new ..) hs ?_
    refine ⟨(s.heap.push { cls := .type "range", data := .fields #[.int lo t, .int hi u, .int 1 v] }).objs.size, [(s.heap.push { cls := .type "range", data := .fields #[.int lo t, .int hi u, .int 1 v] }).objs.size], _, _, H, rfl,
      I1.kept (t' := tk) fun b o e => Heap.get?_push_of_some _ e, turn_range _ lo (hi - lo).toNat, ?_, fun b hb => ?_, q⟩
    · show IsRangeIter _ _ (lo + ((0 : Nat) : Int) * 1) ((((hi - lo).toNat : Nat) : Int) - ((0 : Nat) : Int)) 1
      rw [e1, e2]
      exact Heap.get?_push_size _ rfl
    · have e : b = (s.heap.push { cls := .type "range", data := .fields #[.int lo t, .int hi u, .int 1 v] }).objs.size := by simpa using hb
      subst e
      exact I1.fpOk (Nat.le_refl _) (I1.hok.fresh (Nat.le_refl _))
  | false =>
    refine wpAny_pyIter_longrange (IsRange.new ..) hs ?_
    refine ⟨(s.heap.push { cls := .type "range", data := .fields #[.int lo t, .int hi u, .int 1 v] }).objs.size, [(s.heap.push { cls := .type "range", data := .fields #[.int lo t, .int hi u, .int 1 v] }).objs.size], _, _, H, rfl,
      I1.kept (t' := tk) fun b o e => Heap.get?_push_of_some _ e, turn_long _ lo (hi - lo).toNat, ?_, fun b hb => ?_, q⟩
    · show IsLongIter _ _ (lo + ((0 : Nat) : Int) * 1) ((((hi - lo).toNat : Nat) : Int) - ((0 : Nat) : Int)) 1
      rw [e1, e2]
      exact Heap.get?_push_size _ rfl
    · have e : b = (s.heap.push { cls := .type "range", data := .fields #[.int lo t, .int hi u, .int 1 v] }).objs.size := by simpa using hb
      subst e
      exact I1.fpOk (Nat.le_refl _) (I1.hok.fresh (Nat.le_refl _))
def iRng2B (ta : TA) : TI := fun σ H R => ta σ H fun vs H1 => ∃ i j : Int, vs = [.int i, .int j] ∧ R (Itr i (j - i).toNat) H1
theorem pi_range2B {a b : Expr} {ta : TA} {p pos : Pos} (hg : Gl X "range") (hm : X.mg "range" = none) (ha : PA X [a, b] ta) (hs : starEach [a, b] X.env = [(false, eval a X.env), (false, eval b X.env)] := by rfl) (hs2 : starEach [b] X.env = [(false, eval b X.env)] := by rfl) :
    PI X tg (.Call (.Name "range" p) [a, b] [] pos) (iRng2B ta) := by
  refine ⟨fun pins s σ H R I h => ?_⟩
  refine Call_ (ld_blt I hg hm boot_range (PyProof.Rows.callWith_type1 (thn (ha.run pos pins s σ H _ I h) fun us s1 ⟨vs, H1, I1, r1, q1⟩ => ?_) (by rw [hs, hs2]) (by rw [hs2]; rfl)))
  obtain ⟨i, j, e, q⟩ := q1
  subst e
  cases r1 with
  | cons r rr =>
    cases rr with
    | cons r' rr =>
      cases rr
      obtain ⟨t, rfl⟩ := r
      obtain ⟨t', rfl⟩ := r'
      exact call_range_2 (range_itB I1 q)
end
end L2

namespace RD
open PySem PySem.Spec PyProof.Rows L2 C8 GenW
section
variable {P : Program} {w : World} {K : PySem.W.Frag} {mg : Str → Option Value} {base : Heap} {x qual : Str} {scope : Scope} {params : Arguments} {body : List Stmt} {f : Addr} {fd : FuncData} {dvs : List V} {kws : List (Str × V)}
/-- a generator def's promise from its body -/
theorem fnGD {N ps : List Str} {k : Nat} {sp : SpG} (F : FunD K x qual params body scope dvs kws f fd) (S : GScope N ps scope) (len : ∀ vs H Q E, sp vs H Q E → vs.length = ps.length)
    (hbody : ∀ (cdv : Value) (A : Around) (outer : List Env) (s : Shared) (H : Hp) (vs : List V) (Q : List V → Hp → Prop) (E : XK) (pn : List (Addr × Obj)), Room k (A.deeper (envOfC qual scope s.heap.objs.size f cdv)) → sp vs H Q E →
      ∃ t, GSs (gcxOf P w K mg base N qual scope f cdv A outer s H E pn) body t ∧ t ⟨fun ys _ H' => Q ys H', fun ys v H' => v = .non ∧ Q ys H', fun _ _ _ => False, fun _ _ _ => False⟩ [] (start N vs) H) : GFn P w K mg base (k + 1) f fd ps sp := by
  obtain ⟨oc, od, dV, kV, doc, pm, an, cdv, ct, osl, rfl, lk, hcd, _, _⟩ := F.ex
  exact gfn_of lk hcd S len fun A outer s H vs Q E pn hr hsp => hbody cdv A outer s H vs Q E pn hr hsp
structure GalX (P : Program) (w : World) (K : PySem.W.Frag) (mg : Str → Option Value) (base : Heap) (k : Nat) (x : Str) (sp : SpG) (dvs : List V) : Prop where
  ex : ∃ (f : Addr) (fd : FuncData) (ps : List Str) (ds : List Value), GFn P w K mg base k f fd ps sp ∧ mg x = some (.ref f) ∧ PySem.W.keepIn K (.ref f) = true ∧ Binds K fd ps ds ∧ Vals dvs ds
end
theorem passG {P : Program} {w : World} {X : Cx} : Passes (CX P w) X C8.E0 := fun _ _ _ _ _ _ _ c => by
  obtain ⟨_, _, _, _, _, _, _, _, _, _, _, _, h⟩ := c
  exact h.elim
section
variable {X : Cx} {k j : Nat} {x : Str} {sp : SpG} {dvs : List V} {e : Expr} {es : List Expr} {t : TA} {p p2 pos pos2 : Pos}
theorem pe_listGal (c : GalX X.prog X.w X.K X.mg X.base k x sp dvs) (hr : Room j X.A) (hk : k + 3 ≤ j) (hg : Gl X x) (hgl : Gl X "list") (hml : X.mg "list" = none) (ha : PA X (e :: es) t)
    (hdb : (x == ("__debug__" : Str)) = false := by decide) (he : starEach (e :: es) X.env = (false, eval e X.env) :: starEach es X.env := by rfl) (hpl : (backTo pos2 (starEach es X.env)).any (·.1) = false := by rfl)
    (he2 : starEach [Expr.Call (.Name x p2) (e :: es) [] pos2] X.env = (false, eval (.Call (.Name x p2) (e :: es) [] pos2) X.env) :: starEach [] X.env := by rfl) :
    PE X (.Call (.Name "list" p) [.Call (.Name x p2) (e :: es) [] pos2] [] pos) (tListG (tCallG sp dvs C8.E0 t)) := by
  obtain ⟨f, fd, ps, ds, F, hm, kp, b, d⟩ := c.ex
  exact pe_listG (k := k) (pgen_call F (hr.mono (by omega)) hg hm kp b d ha hdb he hpl) passG (fun _ _ _ h => h.elim) (hr.mono hk) hgl hml (by decide +kernel) (by decide) (by decide) he2
end
section
variable {K : PySem.W.Frag} {σ : L2.St} {H : Hp} {nx : List V → L2.St → Hp → Prop} {rt : List V → VK} {bk ct : List V → L2.St → Hp → Prop} {ys : List V}
theorem rd_gthen {t u : TGn} (h : t ⟨fun ys' σ' H' => u ⟨nx, rt, bk, ct⟩ ys' σ' H', rt, bk, ct⟩ ys σ H) : tGThen t u ⟨nx, rt, bk, ct⟩ ys σ H := h
theorem rd_gplain {t : TS} (h : t ⟨fun σ H => nx ys σ H, fun v H => rt ys v H, fun σ H => bk ys σ H, fun σ H => ct ys σ H⟩ σ H) : tPlain t ⟨nx, rt, bk, ct⟩ ys σ H := h
theorem rd_gend (h : nx ys σ H) : tG0 ⟨nx, rt, bk, ct⟩ ys σ H := h
theorem rd_gyield {te : TE} (hl : ys.length < sizeLine) (h : te σ H fun x H1 => nx (ys ++ [x]) σ H1) : tGYield te ⟨nx, rt, bk, ct⟩ ys σ H := ⟨hl, h⟩
def GForG (J : It) (g : TG) (t : TGn) (D : GEnds) (ys : List V) (σ : L2.St) (H1 : Hp) : Prop := ∃ W : Nat → Nat → List V → L2.St → Hp → Prop, (∃ m, W 0 m ys σ H1) ∧ ∀ i m ys σ H, W i m ys σ H →
  (J.stop i H ∧ D.nx ys σ H) ∨ (J.go i H ∧ ∃ N : List V → L2.St → Hp → Prop, (∀ ys' σ' H', N ys' σ' H' → ∃ m', m' < m ∧ W (i + 1) m' ys' σ' H') ∧ ∀ x H', J.yld i H x H' → g x σ H' fun σ2 H2 => t { D with nx := N, ct := N, bk := D.nx } ys σ2 H2)
theorem rd_gfor {wi : TI} {g : TG} {t : TGn} {D : GEnds} (h : wi σ H fun J H1 => GForG J g t D ys σ H1) : tGFor wi g t D ys σ H := h
theorem gforR_by {lo : Int} {n : Nat} {g : TG} {t : TGn} (Pv : Nat → List V → L2.St → Hp → Prop) (h0 : Pv 0 ys σ H)
    (hs : ∀ (i : Nat) ys σ H, i < n → Pv i ys σ H → g (.int (lo + i)) σ H fun σ2 H2 => t ⟨Pv (i + 1), rt, nx, Pv (i + 1)⟩ ys σ2 H2) (hd : ∀ ys σ H, Pv n ys σ H → nx ys σ H) : GForG (Itr lo n) g t ⟨nx, rt, bk, ct⟩ ys σ H := by
  refine ⟨fun i m ys σ H => m = n - i ∧ i ≤ n ∧ Pv i ys σ H, ⟨n, by simp, Nat.zero_le _, h0⟩, ?_⟩
  rintro i m ys σ H ⟨rfl, hi, p⟩
  by_cases hlt : i < n
  · refine .inr ⟨hlt, Pv (i + 1), fun ys' σ' H' p' => ⟨n - (i + 1), by omega, rfl, hlt, p'⟩, fun x H' y => ?_⟩
    obtain ⟨e, y⟩ := y
    subst e
    subst y
    exact hs i ys σ _ hlt p
  · have e : i = n := by omega
    subst e
    exact .inl ⟨Nat.le_refl _, hd ys σ H p⟩
end
end RD

namespace RD
open PySem PySem.Spec PyProof.Rows L2 C8 GenW
section
variable {K : PySem.W.Frag} {σ : L2.St} {H : Hp} {Q : VK}
theorem rd_iRng2B {ar : TA} {R : It → Hp → Prop} (h : ar σ H fun vs H1 => ∃ i j : Int, vs = [.int i, .int j] ∧ R (Itr i (j - i).toNat) H1) : iRng2B ar σ H R := h
theorem rd_sortedI {a : Addr} {ns : List Int} (h : H a = some (.lst (ns.map V.int))) (q : ∀ (os : List Int) (p : Addr), os.Perm ns → os.Pairwise (· ≤ ·) → H p = none → Q (.ref p) (upd H p (.lst (os.map V.int)))) : rSortedI K [.ref a] H Q := ⟨a, ns, rfl, SqL.of h, q⟩
theorem rd_listG {tg : TGen} (h : tg σ H fun out H2 => ∀ p, H2 p = none → Q (.ref p) (upd H2 p (.lst out))) : tListG tg σ H Q := h
theorem rd_callG {sp : SpG} {dvs : List V} {E : XK} {t : TA} {c : List V → Hp → Prop} (h : t σ H fun vs H1 => sp (vs ++ dvs) H1 c E) : tCallG sp dvs E t σ H c := h
end
theorem sort_uniq {a b : List Int} (p : a.Perm b) (h1 : a.Pairwise (· ≤ ·)) (h2 : b.Pairwise (· ≤ ·)) : a = b := List.Perm.eq_of_pairwise (fun _ _ _ _ => Int.le_antisymm) h1 h2 p
end RD

/-! ### walks over a dict that stays -/
namespace RD
open PySem PySem.Spec PyProof.Rows L2 C8 GenW
section
variable {K : PySem.W.Frag} {σ : L2.St} {H : Hp} {Q : VK} {nx : L2.St → Hp → Prop} {rt : VK} {bk ct : L2.St → Hp → Prop} {te : TE} {tt : TT} {t : TS}
theorem rd_lockS {d : Addr} {u : HO} (h : H d = some u) (mu : Mut (some u)) (k : ∀ od, t ⟨fun σ' H' => H' d = some (.frz od u) ∧ nx σ' (upd H' d u), fun v H' => H' d = some (.frz od u) ∧ rt v (upd H' d u), fun σ' H' => H' d = some (.frz od u) ∧ bk σ' (upd H' d u), fun σ' H' => H' d = some (.frz od u) ∧ ct σ' (upd H' d u)⟩ σ (upd H d (.frz od u))) : tLock t ⟨nx, rt, bk, ct⟩ σ H := ⟨d, u, h, mu, k⟩
theorem rd_lockE {d : Addr} {u : HO} (h : H d = some u) (mu : Mut (some u)) (k : ∀ od, te σ (upd H d (.frz od u)) fun v H' => H' d = some (.frz od u) ∧ Q v (upd H' d u)) : tLockE te σ H Q := ⟨d, u, h, mu, k⟩
theorem rd_iKeys {td : TE} {R : It → Hp → Prop} (h : td σ H fun x H1 => ∃ d o, x = .ref d ∧ ((∃ kvs, H1 d = some (.frz o (.dK kvs)) ∧ R (Itk d o kvs) H1) ∨ ∃ kvs, H1 d = some (.frz o (.dT kvs)) ∧ R (Itkt d o kvs) H1)) : iKeys td σ H R := h
theorem rd_iKeysX {d : Addr} {o : Obj} {kvs : List (Key × V)} {R : It → Prop} {B : Addr → Obj → Prop} (h : H d = some (.frz o (.dK kvs))) (q : R (Itk d o kvs)) : ∃ d' o', V.ref d = V.ref d' ∧ ((∃ kvs, H d' = some (.frz o' (.dK kvs)) ∧ R (Itk d' o' kvs)) ∨ B d' o') := ⟨d, o, rfl, .inl ⟨kvs, h, q⟩⟩
theorem forD_by {d : Addr} {o : Obj} {g : TG} (xs : List Int) (f : Int → V) (Pv : Nat → L2.St → Hp → Prop) (h0 : Pv 0 σ H) (hl : ∀ i σ H, i ≤ xs.length → Pv i σ H → H d = some (.frz o (.dK (dmap xs f))))
    (hs : ∀ (i : Nat) (h : i < xs.length) σ H, Pv i σ H → g (.int xs[i]) σ H fun σ2 H2 => t ⟨Pv (i + 1), rt, nx, Pv (i + 1)⟩ σ2 H2) (hd : ∀ σ H, Pv xs.length σ H → nx σ H) : ForG (Itk d o (dmap xs f)) g t ⟨nx, rt, bk, ct⟩ σ H := by
  refine ⟨fun i m σ H => m = xs.length - i ∧ i ≤ xs.length ∧ Pv i σ H, ⟨xs.length, by simp, Nat.zero_le _, h0⟩, ?_⟩
  rintro i m σ H ⟨rfl, hi, p⟩
  have q := hl i σ H hi p
  by_cases hlt : i < xs.length
  · refine .inr ⟨⟨q, by rw [dmap_len]; exact hlt⟩, Pv (i + 1), fun σ' H' p' => ⟨xs.length - (i + 1), by omega, rfl, hlt, p'⟩, fun x H' y => ?_⟩
    obtain ⟨e, k, v, h1, h2⟩ := y
    subst e
    have h3 : (dmap xs f)[i]? = some (.inl xs[i], f xs[i]) := by
      unfold dmap
      rw [List.getElem?_map, List.getElem?_eq_getElem hlt]
      rfl
    rw [h3] at h1
    cases h1
    subst h2
    exact hs i hlt σ _ p
  · have e : i = xs.length := by omega
    subst e
    exact .inl ⟨⟨q, by rw [dmap_len]; exact Nat.le_refl _⟩, hd σ H p⟩
theorem lcD_by {a D : Addr} {o : Obj} {g : TG} {vs : List Nat} {Qd : Hp → Prop} (xs : List Int) (f : Int → V) (Pv : Nat → Hp → Prop) (h0 : Pv 0 (upd H D (.lst []))) (hl : ∀ i H, i ≤ xs.length → Pv i H → H a = some (.frz o (.dK (dmap xs f))))
    (hs : ∀ (i : Nat) (h : i < xs.length) H, Pv i H → g (.int xs[i]) (wipe σ vs) H fun σ2 H2 => wipe σ2 vs = wipe σ vs ∧ tt σ2 H2 fun b H3 =>
      if b = true then te σ2 H3 fun y H4 => ∃ acc, H4 D = some (.lst acc) ∧ acc.length < sizeLine ∧ Pv (i + 1) (upd H4 D (.lst (acc ++ [y]))) else Pv (i + 1) H3) (hd : ∀ H, Pv xs.length H → Qd H) : LcG (Itk a o (dmap xs f)) g tt te vs σ D Qd H := by
  refine ⟨fun i m H => m = xs.length - i ∧ i ≤ xs.length ∧ Pv i H, ⟨xs.length, by simp, Nat.zero_le _, h0⟩, ?_⟩
  rintro i m H ⟨rfl, hi, p⟩
  have q := hl i H hi p
  by_cases hlt : i < xs.length
  · refine .inr ⟨⟨q, by rw [dmap_len]; exact hlt⟩, Pv (i + 1), fun H' p' => ⟨xs.length - (i + 1), by omega, rfl, hlt, p'⟩, fun x H' y => ?_⟩
    obtain ⟨e, k, v, h1, h2⟩ := y
    subst e
    have h3 : (dmap xs f)[i]? = some (.inl xs[i], f xs[i]) := by
      unfold dmap
      rw [List.getElem?_map, List.getElem?_eq_getElem hlt]
      rfl
    rw [h3] at h1
    cases h1
    subst h2
    exact hs i hlt _ p
  · have e : i = xs.length := by omega
    subst e
    exact .inl ⟨⟨q, by rw [dmap_len]; exact Nat.le_refl _⟩, hd H p⟩
theorem rd_listD {a : Addr} {kvs : List (Key × V)} (h : H a = some (.dK kvs)) (q : ∀ p, H p = none → Q (.ref p) (upd H p (.lst (kvs.map fun kv => kV kv.1)))) : ∃ (a' : Addr) (kvs : List (Key × V)), [V.ref a] = [.ref a'] ∧ Rd H a' (.dK kvs) ∧ ∀ p, H p = none → Q (.ref p) (upd H p (.lst (kvs.map fun kv => kV kv.1))) := ⟨a, kvs, rfl, .inl h, q⟩
theorem rd_anyL {a : Addr} {bs : List Bool} (h : H a = some (.lst (bs.map V.bl))) (q : Q (.bl (bs.any id)) H) : rAny K [.ref a] H Q := ⟨a, bs, rfl, SqL.of h, q⟩
theorem dmap_keys {xs : List Int} {f : Int → V} : ((dmap xs f).map fun kv => kV kv.1) = xs.map V.int := by
  unfold dmap
  rw [List.map_map]
  rfl
/-- behind a lock -/
theorem kp_lock {ps : List Addr} {H H2 : Hp} {d : Addr} {u : HO} {od : Obj} (h : H d = some u) (k : Kp ps (upd H d (.frz od u)) H2) : Kp ps H (upd H2 d u) := fun b o hb hn => by
  by_cases e : b = d
  · subst e
    rw [h] at hb
    rw [upd_same]
    exact hb
  · rw [upd_ne e]
    exact k b o (by rw [upd_ne e]; exact hb) hn
end
end RD

namespace RD
open PySem PySem.Spec PyProof.Rows L2 C8 GenW
section
variable {X : Cx} {CX : CXT} {k j : Nat} {C : Addr} {m : Str} {sp : Sp} {dvs : List V} {E : XK} {o : Expr} {ta : TE} {apos pos : Pos}
theorem pe_met0 {pl : Sem Bool} (c : MetX X.prog X.w X.K X.mg X.base CX k C m sp dvs) (hr : Room j X.A) (hk : k ≤ j) (hx : Passes CX X E) (he : PE X o ta)
    (ht : eval (.Call (.Attribute o m apos) [] [] pos) X.env = (do
      let ov ← eval o X.env
      standAt apos.atName
      let (f, first) ← holding [ov] (getMethod ov m pl)
      callWith pos f first (backTo pos (starEach [] X.env)) (backToKw pos (keywordEach [] X.env))) := by rfl) :
    PE X (.Call (.Attribute o m apos) [] [] pos) (tMeth C m sp dvs E ta tNil) := by
  obtain ⟨f, fd, ps, ds, cl, me, F, b, d⟩ := c.ex
  exact pe_meth0 he cl me F (hr.mono hk) b d hx ht
end
end RD

/-! own layer: texts, dicts of tuples (behind MORE) -/
namespace RD
open PySem PySem.Spec PyProof.Rows L2 He
section
variable {K : PySem.W.Frag} {w : World} {σ : L2.St} {H : Hp} {nx bk ct : L2.St → Hp → Prop} {rt : VK} {t : TS} {te ta tb tc to : TE} {tt : TT} {ar : TA} {Q : VK} {v x y z : V} {i j : Int}
/-! texts -/
def rLenStr : List V → Hp → VK → Prop := fun xs H Q => ∃ z : Str, xs = [.str z] ∧ z.length ≤ sizeLine ∧ Q (.int z.length) H
theorem call_lenStr {X : Cx} : CallR X (.builtin "len") rLenStr := call_len_str
theorem rd_lenStr {z : Str} (l : z.length ≤ sizeLine) (q : Q (.int z.length) H) : rLenStr [.str z] H Q := ⟨z, rfl, l, q⟩
theorem rd_ixS {z : Str} {c : Nat} (l : z.length ≤ sizeLine) (a : atI z.cps.toList i = some c) (q : Q (.str ⟨#[c]⟩) H) : rIxS (.str z) (.int i) H Q := ⟨z, i, c, rfl, rfl, l, a, q⟩
def rAddS : R2 := fun x y H Q => ∃ i j, x = .str i ∧ y = .str j ∧ i.length + j.length ≤ sizeLine ∧ Q (.str (i ++ j)) H
theorem op_addS {X : Cx} : OpR X (binaryOp .Add) rAddS := op_add_str
theorem rd_addS {a b : Str} (l : a.length + b.length ≤ sizeLine) (q : Q (.str (a ++ b)) H) : rAddS (.str a) (.str b) H Q := ⟨a, b, rfl, rfl, l, q⟩
theorem rd_slS {z : Str} {lo hi : Option Int} (l : z.length ≤ sizeLine) (q : Q (.str (cutS z lo hi)) H) : rSlS (.str z) lo hi H Q := ⟨z, rfl, l, q⟩
def rInSign : R2 := fun x y H Q => ∃ (c : Nat) (z : Str), x = .str ⟨#[c]⟩ ∧ y = .str z ∧ Q (.bl (decide (c ∈ z.cps.toList))) H
theorem op_inSign {X : Cx} : OpR X (compareOp .In) rInSign := op_in_sign
theorem rd_inSign {c : Nat} {z : Str} (q : Q (.bl (decide (c ∈ z.cps.toList))) H) : rInSign (.str ⟨#[c]⟩) (.str z) H Q := ⟨c, z, rfl, rfl, q⟩
theorem rd_iStr {R : It → Hp → Prop} (h : te σ H fun v H1 => ∃ x, v = .str x ∧ R (Its x) H1) : iStr te σ H R := h
theorem rd_iStrX {x : Str} {R : Str → Prop} (q : R x) : ∃ y, V.str x = V.str y ∧ R y := ⟨x, rfl, q⟩
theorem forS_by {z : Str} {g : TG} (Pv : Nat → L2.St → Hp → Prop) (h0 : Pv 0 σ H)
    (hs : ∀ (i : Nat) c σ H, z.cps.toList[i]? = some c → Pv i σ H → g (.str ⟨#[c]⟩) σ H fun σ2 H2 => t ⟨Pv (i + 1), rt, nx, Pv (i + 1)⟩ σ2 H2) (hd : ∀ σ H, Pv z.cps.size σ H → nx σ H) : ForG (Its z) g t ⟨nx, rt, bk, ct⟩ σ H := by
  refine ⟨fun i m σ H => m = z.cps.size - i ∧ i ≤ z.cps.size ∧ Pv i σ H, ⟨z.cps.size, by simp, Nat.zero_le _, h0⟩, ?_⟩
  rintro i m σ H ⟨rfl, hi, p⟩
  by_cases hlt : i < z.cps.size
  · refine .inr ⟨hlt, Pv (i + 1), fun σ' H' p' => ⟨z.cps.size - (i + 1), by omega, rfl, hlt, p'⟩, fun x H' y => ?_⟩
    obtain ⟨rfl, c, hc, rfl⟩ := y
    exact hs i c σ _ (by rw [Array.getElem?_toList]; exact hc) p
  · have e : i = z.cps.size := by omega
    subst e
    exact .inl ⟨Nat.le_refl _, hd σ H p⟩
theorem lcS_by {z : Str} {D : Addr} {g : TG} {vs : List Nat} {Qd : Hp → Prop} (Pv : Nat → Hp → Prop) (h0 : Pv 0 (upd H D (.lst [])))
    (hs : ∀ (i : Nat) c H, z.cps.toList[i]? = some c → Pv i H → g (.str ⟨#[c]⟩) (wipe σ vs) H fun σ2 H2 => wipe σ2 vs = wipe σ vs ∧ tt σ2 H2 fun b H3 =>
      if b = true then te σ2 H3 fun y H4 => ∃ acc, H4 D = some (.lst acc) ∧ acc.length < sizeLine ∧ Pv (i + 1) (upd H4 D (.lst (acc ++ [y]))) else Pv (i + 1) H3) (hd : ∀ H, Pv z.cps.size H → Qd H) : LcG (Its z) g tt te vs σ D Qd H := by
  refine ⟨fun i m H => m = z.cps.size - i ∧ i ≤ z.cps.size ∧ Pv i H, ⟨z.cps.size, by simp, Nat.zero_le _, h0⟩, ?_⟩
  rintro i m H ⟨rfl, hi, p⟩
  by_cases hlt : i < z.cps.size
  · refine .inr ⟨hlt, Pv (i + 1), fun H' p' => ⟨z.cps.size - (i + 1), by omega, rfl, hlt, p'⟩, fun x H' y => ?_⟩
    obtain ⟨rfl, c, hc, rfl⟩ := y
    exact hs i c _ (by rw [Array.getElem?_toList]; exact hc) p
  · have e : i = z.cps.size := by omega
    subst e
    exact .inl ⟨Nat.le_refl _, hd H p⟩
/-- [.. for c in text]: only looks -/
theorem lcF_str {z : Str} {D : Addr} {g : TG} {vs : List Nat} {Qd : Hp → Prop} (f : Nat → V) (hD : H D = none) (hl : z.cps.size < 1000000)
    (hs : ∀ (i : Nat) c, z.cps.toList[i]? = some c → ∀ H1 (E : VK) (N : Hp → Prop), Kp [] H H1 → (∀ H4, Kp [] H1 H4 → E (f c) H4) → g (.str ⟨#[c]⟩) (wipe σ vs) H1 fun σ2 H2 => wipe σ2 vs = wipe σ vs ∧ tt σ2 H2 fun b H3 => if b = true then te σ2 H3 E else N H3)
    (hd : ∀ H', Kp [] H H' → H' D = some (.lst (z.cps.toList.map f)) → Qd H') : LcG (Its z) g tt te vs σ D Qd H := by
  refine lcS_by (fun i H' => H' D = some (.lst ((z.cps.toList.take i).map f)) ∧ Kp [] H H') ⟨upd_same, Kp.new hD⟩ (fun i c H' hc q => ?_) (fun H' q => ?_)
  · obtain ⟨h1, h2⟩ := List.getElem?_eq_some_iff.mp hc
    refine hs i c hc H' _ _ q.2 (fun H4 k4 => ?_)
    refine ⟨_, k4.g0 q.1, szlt ?_, ?_, Kp.mine (q.2.trans k4) hD⟩
    · rw [List.length_map, List.length_take]
      rw [Array.length_toList] at h1
      omega
    · rw [upd_same, List.take_succ_eq_append_getElem h1, h2, List.map_append]
      rfl
  · rw [List.take_of_length_le (by simp)] at q
    exact hd H' q.2 q.1
def rJoin (K : PySem.W.Frag) : V → List V → Hp → VK → Prop := fun x xs H Q => ∃ a p, ∃ ys : List Str, x = .str a ∧ xs = [.ref p] ∧ (SqL K H p (ys.map V.str) ∨ SqT K H p (ys.map V.str)) ∧ (ys.map (·.length)).sum + ys.length * a.length ≤ 16777216 ∧ Q (.str (Txt.join a ys)) H
theorem pe_join' {X : Cx} {o e : Expr} {apos pos : Pos} (ho : PE X o to) (he : PE X e te) (hs : starEach [e] X.env = [(false, eval e X.env)] := by rfl) (hbase : attributeBase o "join" X.env (eval o X.env) = eval o X.env := by rfl) (hline : (apos.endLine == pos.line) = true := by rfl) :
    PE X (.Call (.Attribute o "join" apos) [e] [] pos) (tM1 (rJoin X.K) to te) := pe_join ho he hs hbase hline
theorem rd_m1 {r : V → List V → Hp → VK → Prop} (h : to σ H fun x H1 => (∃ a, x = .str a) ∧ te σ H1 fun y H2 => r x [y] H2 Q) : tM1 r to te σ H Q := h
theorem rd_m1X {a : Str} {B : Prop} (q : B) : (∃ a', V.str a = V.str a') ∧ B := ⟨⟨a, rfl⟩, q⟩
theorem rd_join {a : Str} {p : Addr} {ys : List Str} (h : H p = some (.lst (ys.map V.str))) (l : (ys.map (·.length)).sum + ys.length * a.length ≤ 16777216) (q : Q (.str (Str.join a ys)) H) : rJoin K (.str a) [.ref p] H Q := ⟨a, p, ys, rfl, rfl, .inl (SqL.of h), l, by
  rw [TL.join_eq]
  exact q⟩
theorem joinL1 : ∀ cs : List Nat, TL.joinL [] (cs.map fun c => [c]) = cs
  | [] => rfl
  | [c] => rfl
  | c :: d :: r => by
    have ih := joinL1 (d :: r)
    show [c] ++ ([] ++ TL.joinL [] ((d :: r).map fun c => [c])) = _
    rw [ih]
    rfl
theorem join1 (cs : List Nat) : Str.join (⟨#[]⟩ : Str) (cs.map fun c => (⟨#[c]⟩ : Str)) = ⟨cs.toArray⟩ := by
  have e := SX.join_S [] (cs.map fun c => [c])
  rw [joinL1, TL.join_eq, List.map_map] at e
  exact e
theorem rd_all {a : Addr} {bs : List Bool} (h : H a = some (.lst (bs.map V.bl))) (q : Q (.bl (bs.all id)) H) : rAll K [.ref a] H Q := ⟨a, bs, rfl, SqL.of h, q⟩
theorem inV_strs (a : Str) : ∀ ns : List Str, inV (.str a) (ns.map V.str) = decide (a ∈ ns)
  | [] => rfl
  | b :: r => by
    have ih := inV_strs a r
    unfold inV at ih ⊢
    rw [List.map_cons, List.any_cons, ih]
    show ((b == a) || decide (a ∈ r)) = decide (a ∈ b :: r)
    by_cases h : b = a
    · subst h
      simp
    · have h2 : (b == a) = false := beq_eq_false_iff_ne.mpr h
      rw [h2, Bool.false_or]
      simp [List.mem_cons, Ne.symm h]
theorem flat_strs : ∀ ns : List Str, (ns.map V.str).all flatV = true
  | [] => rfl
  | _ :: r => by
    rw [List.map_cons, List.all_cons, flat_strs r]
    rfl
theorem rd_inTS {p : Addr} {ns : List Str} {s : Str} (h : SqT K H p (ns.map V.str)) (q : Q (.bl (decide (s ∈ ns))) H) : rIn K false (.str s) (.ref p) H Q := ⟨p, ns.map V.str, rfl, .inr h, rfl, flat_strs ns, by
  rw [inV_strs]
  exact q⟩
theorem rd_indexS {a : Addr} {ns : List Str} {s : Str} {j : Nat} (h : SqL K H a (ns.map V.str)) (e : ns[j]? = some s) (no : ∀ m z, m < j → ns[m]? = some z → z ≠ s) (q : Q (.int (j : Nat)) H) : rIndex K (.ref a) [.str s] H Q :=
  ⟨a, ns.map V.str, .str s, j, .str s, rfl, rfl, h, rfl, flat_strs ns, by rw [List.getElem?_map, e]; rfl, by show (s == s) = true; exact beq_self_eq_true s, fun m z' hm hz => by
    rw [List.getElem?_map] at hz
    obtain ⟨z, h1, rfl⟩ := Option.map_eq_some_iff.mp hz
    show (z == s) = false
    exact beq_eq_false_iff_ne.mpr (no m z hm h1), q⟩
theorem rd_int1b {b : Bool} (h : Q (.int (if b then 1 else 0)) H) : rInt1 [.bl b] H Q := .inr ⟨b, rfl, h⟩
theorem rd_dpop2 (h : ta σ H fun x H1 => ∃ a, x = .ref a ∧ IsD H1 a ∧ tb σ H1 fun y H2 => tc σ H2 fun z H3 => ∃ kvs k, H3 a = some (.dK kvs) ∧ y = kV k ∧
  (∀ v, valV kvs k = some v → Q v (upd H3 a (.dK (dropK kvs k)))) ∧ (valV kvs k = none → Q z H3)) : tDPop2 ta tb tc σ H Q := h
theorem rd_dpopI {a : Addr} {kvs : List (Key × V)} {R1 : List (Key × V) → Key → Prop} (e : H a = some (.dK kvs)) (q : R1 kvs (.inl i)) : ∃ kvs k, H a = some (.dK kvs) ∧ V.int i = kV k ∧ R1 kvs k := ⟨kvs, .inl i, e, rfl, q⟩
theorem rd_ixKD {p : Addr} {s : Str} (h : KDct K w p s v) (q : Q v H) : rIxD K w (.ref p) (.str s) H Q := ⟨p, s, v, rfl, rfl, h, q⟩
theorem kdct_of {a : Addr} {es : Array DictEntry} {n : Nat} {kvs : List (Str × Dv)} (D : KDict K w a es n) (h : valsB K a kvs = true) {s : Str} {d : Dv} (m : (s, d) ∈ kvs) : KDct K w a s (d.v K) := by
  obtain ⟨u, e, r⟩ := valsB_ok h m
  exact ⟨es, n, u, D.at_, D.lit, e, r⟩
end
section
variable {X : L2.Cx} {CX : CXT} {k j : Nat} {x : Str} {sp : Sp} {dvs : List V} {E : XK} {p pos : Pos} {C : Addr}
theorem pe_cal0 (c : CalX X.prog X.w X.K X.mg X.base CX k x sp dvs) (hr : Room j X.A) (hk : k ≤ j) (hg : Gl X x) (hx : Passes CX X E) (hdb : (x == ("__debug__" : Str)) = false := by decide) : PE X (.Call (.Name x p) [] [] pos) (tCall sp dvs E tNil) := by
  obtain ⟨f, fd, ps, ds, F, hm, kp, b, d⟩ := c.ex
  exact pe_call0 F (hr.mono hk) hg hm kp b d hx hdb
theorem pe_mak0 (c : MakX X.prog X.w X.K X.mg X.base CX k x C sp dvs) (hr : Room j X.A) (hk : k + 1 ≤ j) (hg : Gl X x) (hx : Passes CX X E) (hdb : (x == ("__debug__" : Str)) = false := by decide) : PE X (.Call (.Name x p) [] [] pos) (tMake C sp dvs E tNil) := by
  obtain ⟨f, fd, ps, ds, M, F, hm, b, d⟩ := c.ex
  exact pe_make0 M F (hr.mono hk) hg hm b d hx hdb
end
/-! ### a walk over a list or a tuple; ranges with a step; chains -/
section
variable {X : L2.Cx} {K : PySem.W.Frag} {σ : L2.St} {H : Hp} {te ta tb tc : TE} {ar : TA} {Q : VK}
def iSeq (K : PySem.W.Frag) (te : TE) : TI := fun σ H R => te σ H fun x H1 => ∃ a, x = .ref a ∧ (((∃ xs, SqL K H1 a xs) ∧ R (Itl K a) H1) ∨ ((∃ xs, SqT K H1 a xs) ∧ R (Itt K a) H1))
theorem pi_seq {tg l : Expr} (hl : PE X l te) : PI X tg l (iSeq X.K te) := by
  refine ⟨fun pins s σ H R I h => ?_⟩
  refine thn (hl.run pins s σ H _ I h) fun v s1 ⟨x, H1, I1, r1, q1⟩ => ?_
  obtain ⟨a, e, h | h⟩ := q1
  · obtain ⟨⟨xs, hq⟩, q⟩ := h
    subst e
    cases r1
    obtain ⟨its, rv, p, hz⟩ := I1.list hq
    refine wpAny_pyIter_list p.isList ?_
    refine ⟨s1.heap.objs.size, [s1.heap.objs.size], _, _, H1, rfl, I1.kept (t' := s1.toks) fun b o e => Heap.get?_push_of_some _ e, turn_list a _, ⟨_, Heap.get?_push_size _ rfl, rfl, rfl⟩, fun b hb => ?_, q⟩
    have e : b = s1.heap.objs.size := by simpa using hb
    subst e
    exact I1.fpOk (Nat.le_refl _) (I1.hok.fresh (Nat.le_refl _))
  · obtain ⟨⟨xs, hq⟩, q⟩ := h
    subst e
    cases r1
    obtain ⟨its, rv, p, hz⟩ := I1.tuple hq
    refine wpAny_pyIter_tuple (show s1.heap.IsTuple a its.toArray from p) ?_
    refine ⟨s1.heap.objs.size, [s1.heap.objs.size], _, _, H1, rfl, I1.kept (t' := s1.toks) fun b o e => Heap.get?_push_of_some _ e, turn_tuple a _, ⟨_, Heap.get?_push_size _ rfl, rfl, rfl⟩, fun b hb => ?_, q⟩
    have e : b = s1.heap.objs.size := by simpa using hb
    subst e
    exact I1.fpOk (Nat.le_refl _) (I1.hok.fresh (Nat.le_refl _))
theorem rd_iSeq {R : It → Hp → Prop} (h : te σ H fun x H1 => ∃ a, x = V.ref a ∧ (((∃ xs, SqL K H1 a xs) ∧ R (Itl K a) H1) ∨ ((∃ xs, SqT K H1 a xs) ∧ R (Itt K a) H1))) : iSeq K te σ H R := h
theorem rd_iSeqL {p : Addr} {xs : List V} {A : Addr → Prop} {B : Addr → Prop} (h : SqL K H p xs) (q : A p) : ∃ a, V.ref p = V.ref a ∧ (((∃ xs, SqL K H a xs) ∧ A a) ∨ ((∃ xs, SqT K H a xs) ∧ B a)) := ⟨p, rfl, .inl ⟨⟨xs, h⟩, q⟩⟩
theorem rd_iSeqT {p : Addr} {xs : List V} {A : Addr → Prop} {B : Addr → Prop} (h : SqT K H p xs) (q : B p) : ∃ a, V.ref p = V.ref a ∧ (((∃ xs, SqL K H a xs) ∧ A a) ∨ ((∃ xs, SqT K H a xs) ∧ B a)) := ⟨p, rfl, .inr ⟨⟨xs, h⟩, q⟩⟩
theorem rd_chain {r r' : R2} (h : ta σ H fun x H1 => tb σ H1 fun y H2 => r x y H2 fun z H3 => ∃ k, z = V.bl k ∧ (if k = true then tc σ H3 fun w' H4 => r' y w' H4 Q else Q (.bl false) H3)) : tChain r r' ta tb tc σ H Q := h
theorem rd_iRng3 {R : It → Hp → Prop} (h : ar σ H fun vs H1 => ∃ (i j c : Int) (n : Nat), vs = [V.int i, V.int j, V.int c] ∧ RgC i j c n ∧ R (Itc i c n) H1) : iRng3 ar σ H R := h
theorem rd_iRng3X {i j c : Int} {n : Nat} {R : Int → Int → Nat → Prop} (h : RgC i j c n) (q : R i c n) : ∃ (i' j' c' : Int) (n' : Nat), [V.int i, V.int j, V.int c] = [V.int i', V.int j', V.int c'] ∧ RgC i' j' c' n' ∧ R i' c' n' := ⟨i, j, c, n, rfl, h, q⟩
end
/-! ### a tuple at a told place (a default ()) -/
def tupA (K : PySem.W.Frag) (a : Addr) (vs : List Dv) : Bool := match K.lookup a with
  | some ⟨.type c, _, .seq its _, _⟩ => decide (c = "tuple") && (decide (its.size ≤ sizeLine) && relAll (vs.map (Dv.v K)) its.toList)
  | _ => false
theorem tupA_ok {K : PySem.W.Frag} {a : Addr} {vs : List Dv} (h : tupA K a vs = true) (H : Hp) : SqT K H a (vs.map (Dv.v K)) := by
  unfold tupA at h
  cases q : K.lookup a with
  | none =>
    rw [q] at h
    cases h
  | some o =>
    obtain ⟨oc, od, dt, osl⟩ := o
    rw [q] at h
    cases oc with
    | type c =>
      cases dt with
      | seq its n =>
        obtain ⟨h1, h2⟩ := ba (show (decide (c = "tuple") && (decide (its.size ≤ sizeLine) && relAll (vs.map (Dv.v K)) its.toList)) = true from h)
        obtain ⟨h3, h4⟩ := ba h2
        exact .inr ⟨_, its, n, q, congrArg Value.type (of_decide_eq_true h1), rfl, of_decide_eq_true h3, relAll_ok h4⟩
      | _ => cases h
    | _ => cases dt <;> cases h
/-! ### dicts of tuples under int keys -/
section
variable {α : Type}
def kvT (key : α → Int) (xs : List (Addr × α)) : List (Key × V) := xs.map fun p => ((.inl (key p.2) : Key), V.ref p.1)
def fdT (key : α → Int) (xs : List (Addr × α)) (k : Int) : Option (Addr × α) := xs.find? fun p => decide (key p.2 = k)
def ptT (key : α → Int) (xs : List (Addr × α)) (p : Addr × α) : List (Addr × α) := if (xs.any fun q => decide (key q.2 = key p.2)) = true then xs.map (fun q => if key q.2 = key p.2 then p else q) else xs ++ [p]
def dpT (key : α → Int) (xs : List (Addr × α)) (k : Int) : List (Addr × α) := xs.filter fun p => decide (key p.2 ≠ k)
def fdS (key : α → Int) (ys : List α) (k : Int) : Option α := ys.find? fun y => decide (key y = k)
def ptS (key : α → Int) (ys : List α) (y : α) : List α := if (ys.any fun q => decide (key q = key y)) = true then ys.map (fun q => if key q = key y then y else q) else ys ++ [y]
def dpS (key : α → Int) (ys : List α) (k : Int) : List α := ys.filter fun y => decide (key y ≠ k)
theorem inl_iff {a b : Int} : ((.inl a : Key) = .inl b) ↔ a = b := ⟨fun e => Sum.inl.inj e, fun e => by rw [e]⟩
theorem kvT_val (key : α → Int) (k : Int) : ∀ xs : List (Addr × α), valV (kvT key xs) (.inl k) = (fdT key xs k).map fun p => V.ref p.1
  | [] => rfl
  | p :: r => by
    have ih := kvT_val key k r
    by_cases h : key p.2 = k
    · show valV (((.inl (key p.2) : Key), V.ref p.1) :: kvT key r) (.inl k) = _
      rw [valV_pos (inl_iff.mpr h)]
      unfold fdT
      rw [List.find?_cons, decide_eq_true h]
      rfl
    · show valV (((.inl (key p.2) : Key), V.ref p.1) :: kvT key r) (.inl k) = _
      rw [valV_neg (fun e => h (inl_iff.mp e)), ih]
      unfold fdT
      rw [List.find?_cons, decide_eq_false h]
theorem kvT_put (key : α → Int) (xs : List (Addr × α)) (p : Addr × α) : putK (kvT key xs) (.inl (key p.2)) (.ref p.1) = kvT key (ptT key xs p) := by
  have e : ((kvT key xs).any fun kv => decide (kv.1 = (.inl (key p.2) : Key))) = xs.any fun q => decide (key q.2 = key p.2) := by
    unfold kvT
    rw [List.any_map]
    congr 1
    funext q
    exact decide_eq_decide.mpr inl_iff
  unfold putK ptT
  rw [e]
  by_cases h : (xs.any fun q => decide (key q.2 = key p.2)) = true
  · rw [if_pos h, if_pos h]
    unfold kvT
    rw [List.map_map, List.map_map]
    refine List.map_congr_left fun q _ => ?_
    show (if (.inl (key q.2) : Key) = .inl (key p.2) then ((.inl (key q.2) : Key), V.ref p.1) else (.inl (key q.2), V.ref q.1)) = _
    by_cases z : key q.2 = key p.2
    · rw [if_pos (inl_iff.mpr z)]
      show _ = ((.inl (key (if key q.2 = key p.2 then p else q).2) : Key), V.ref (if key q.2 = key p.2 then p else q).1)
      rw [if_pos z, z]
    · rw [if_neg (fun e => z (inl_iff.mp e))]
      show _ = ((.inl (key (if key q.2 = key p.2 then p else q).2) : Key), V.ref (if key q.2 = key p.2 then p else q).1)
      rw [if_neg z]
  · rw [if_neg h, if_neg h]
    unfold kvT
    rw [List.map_append]
    rfl
theorem kvT_drop (key : α → Int) (k : Int) (xs : List (Addr × α)) : dropK (kvT key xs) (.inl k) = kvT key (dpT key xs k) := by
  unfold dropK kvT dpT
  rw [List.filter_map]
  congr 1
  refine List.filter_congr fun q _ => ?_
  exact decide_eq_decide.mpr (not_congr inl_iff)
theorem kvT_keys (key : α → Int) (xs : List (Addr × α)) : ((kvT key xs).map fun kv => kV kv.1) = ((xs.map (·.2)).map key).map V.int := by
  unfold kvT
  rw [List.map_map, List.map_map, List.map_map]
  rfl
theorem kvT_len (key : α → Int) (xs : List (Addr × α)) : (kvT key xs).length = xs.length := List.length_map _
theorem fdT_some {key : α → Int} {xs : List (Addr × α)} {k : Int} {p : Addr × α} (h : fdT key xs k = some p) : p ∈ xs ∧ key p.2 = k := ⟨List.mem_of_find?_eq_some h, by
  have := List.find?_some (p := fun p : Addr × α => decide (key p.2 = k)) h
  exact of_decide_eq_true this⟩
theorem fdT_snd (key : α → Int) (k : Int) : ∀ xs : List (Addr × α), (fdT key xs k).map (·.2) = fdS key (xs.map (·.2)) k
  | [] => rfl
  | p :: r => by
    have ih := fdT_snd key k r
    unfold fdT fdS at ih ⊢
    rw [List.map_cons, List.find?_cons, List.find?_cons]
    cases decide (key p.2 = k) with
    | true => rfl
    | false => exact ih
theorem ptT_snd (key : α → Int) (xs : List (Addr × α)) (p : Addr × α) : (ptT key xs p).map (·.2) = ptS key (xs.map (·.2)) p.2 := by
  unfold ptT ptS
  have e : ((xs.map (·.2)).any fun q => decide (key q = key p.2)) = xs.any fun q => decide (key q.2 = key p.2) := by
    rw [List.any_map]
    rfl
  rw [e]
  by_cases h : (xs.any fun q => decide (key q.2 = key p.2)) = true
  · rw [if_pos h, if_pos h, List.map_map, List.map_map]
    refine List.map_congr_left fun q _ => ?_
    show (if key q.2 = key p.2 then p else q).2 = if key q.2 = key p.2 then p.2 else q.2
    by_cases z : key q.2 = key p.2
    · rw [if_pos z, if_pos z]
    · rw [if_neg z, if_neg z]
  · rw [if_neg h, if_neg h, List.map_append]
    rfl
theorem dpT_snd (key : α → Int) (k : Int) (xs : List (Addr × α)) : (dpT key xs k).map (·.2) = dpS key (xs.map (·.2)) k := by
  unfold dpT dpS
  rw [List.filter_map]
  rfl
theorem ptT_mem {key : α → Int} {xs : List (Addr × α)} {p q : Addr × α} (h : q ∈ ptT key xs p) : q = p ∨ q ∈ xs := by
  unfold ptT at h
  by_cases z : (xs.any fun q => decide (key q.2 = key p.2)) = true
  · rw [if_pos z] at h
    obtain ⟨r, hr, e⟩ := List.mem_map.mp h
    by_cases z2 : key r.2 = key p.2
    · rw [if_pos z2] at e
      exact .inl e.symm
    · rw [if_neg z2] at e
      exact .inr (e ▸ hr)
  · rw [if_neg z] at h
    rcases List.mem_append.mp h with h | h
    · exact .inr h
    · exact .inl (List.mem_singleton.mp h)
theorem ptT_len (key : α → Int) (xs : List (Addr × α)) (p : Addr × α) : (ptT key xs p).length ≤ xs.length + 1 := by
  unfold ptT
  split
  · rw [List.length_map]
    omega
  · rw [List.length_append]
    exact Nat.le_refl _
theorem dpT_len (key : α → Int) (k : Int) (xs : List (Addr × α)) : (dpT key xs k).length ≤ xs.length := List.length_filter_le _ _
theorem dpT_none {key : α → Int} {k : Int} {xs : List (Addr × α)} (h : fdT key xs k = none) : dpT key xs k = xs := by
  refine List.filter_eq_self.mpr fun p hp => ?_
  have := List.find?_eq_none.mp h p hp
  exact decide_eq_true fun z => this (decide_eq_true z)
/-- at d: a dict from int keys to tuples -/
structure TD (key : α → Int) (tup : α → List V) (H : Hp) (d : Addr) (xs : List (Addr × α)) : Prop where
  at_ : H d = some (.dK (kvT key xs))
  ob : ∀ p, p ∈ xs → H p.1 = some (.tup (tup p.2))
def NoT (H : Hp) (ps : List Addr) : Prop := ∀ q, q ∈ ps → ∀ vs, H q ≠ some (.tup vs)
variable {key : α → Int} {tup : α → List V} {H H' : Hp} {d : Addr} {xs : List (Addr × α)} {ps : List Addr}
theorem NoT.n {q : Addr} {vs : List V} (h : NoT H ps) (e : H q = some (.tup vs)) : q ∉ ps := fun m => h q m vs e
theorem TD.kp (B : TD key tup H d xs) (k : Kp ps H H') (n : d ∉ ps) (t : NoT H ps) : TD key tup H' d xs := ⟨k _ _ B.at_ n, fun p hp => k _ _ (B.ob p hp) (t.n (B.ob p hp))⟩
theorem TD.k0 (B : TD key tup H d xs) (k : Kp [] H H') : TD key tup H' d xs := B.kp k (by simp) (fun q hq => by cases hq)
theorem TD.put (B : TD key tup H d xs) {p : Addr × α} (h : H p.1 = some (.tup (tup p.2))) : TD key tup (upd H d (.dK (kvT key (ptT key xs p)))) d (ptT key xs p) := by
  have o : ∀ q vs, H q = some (.tup vs) → upd H d (.dK (kvT key (ptT key xs p))) q = some (.tup vs) := fun q vs e => hu_ne (ne_of e B.at_ (by intro z; cases z)) e
  refine ⟨upd_same, fun q hq => ?_⟩
  rcases ptT_mem hq with rfl | m
  · exact o _ _ h
  · exact o _ _ (B.ob q m)
theorem TD.drop (B : TD key tup H d xs) {k : Int} : TD key tup (upd H d (.dK (kvT key (dpT key xs k)))) d (dpT key xs k) :=
  ⟨upd_same, fun q hq => hu_ne (ne_of (B.ob q (List.mem_filter.mp hq).1) B.at_ (by intro z; cases z)) (B.ob q (List.mem_filter.mp hq).1)⟩
theorem TD.find (B : TD key tup H d xs) {k : Int} {p : Addr × α} (h : fdT key xs k = some p) : H p.1 = some (.tup (tup p.2)) := B.ob p (fdT_some h).1
end
/-! ### ascending lists -/
def srt (l : List Int) : List Int := l.mergeSort fun a b => decide (a ≤ b)
theorem srt_perm (l : List Int) : (srt l).Perm l := List.mergeSort_perm _ _
theorem srt_le (l : List Int) : (srt l).Pairwise (· ≤ ·) := (List.pairwise_mergeSort (le := fun a b : Int => decide (a ≤ b)) (fun a b c h1 h2 => decide_eq_true (Int.le_trans (of_decide_eq_true h1) (of_decide_eq_true h2))) (fun a b => by
  by_cases h : a ≤ b
  · simp [h]
  · simp [h]
    omega) l).imp fun h => of_decide_eq_true h
theorem srt_is {os l : List Int} (p : os.Perm l) (s : os.Pairwise (· ≤ ·)) : os = srt l := sort_uniq (p.trans (srt_perm l).symm) s (srt_le l)
end RD

/-! own layer: repr(list of ints) in a def whose promise is shown guard by guard (behind MORE) -/
namespace RD
open PySem PySem.Spec PyProof.Rows L2 He
/-- the list's text is under way -/
def onWay (g : List Code) (a : Addr) : Bool := g.any fun c => PySem.W.Z.lstP (.ref a) (c, default)
def intsT (ns : List Int) : List Str := ns.map fun n => (toString n : Str)
def reprT (g : List Code) (a : Addr) (ns : List Int) : Str := bif onWay g a then "[...]" else listText (intsT ns)
theorem repr_its {P : Program} {w : World} : ∀ {ns : List Int} {its : List Value}, Vals (ns.map V.int) its → (∀ n ∈ ns, n.natAbs.log2 < 1920) → ∀ (i : Nat) (y : Value), its[i]? = some y → ∃ t, (intsT ns)[i]? = some t ∧ ReprIs P w y t
  | [], _, r, _, i, y, h => by
    cases r
    cases h
  | n :: ns, _, r, hz, i, y, h => by
    cases r with
    | cons r1 r2 =>
      cases i with
      | zero =>
        obtain ⟨t, rfl⟩ := r1
        obtain rfl := Option.some.inj h
        exact ⟨_, rfl, ReprIs.int t (hz n (.head _))⟩
      | succ i => exact repr_its r2 (fun m hm => hz m (.tail _ hm)) i y h
section
variable {prog : Program} {w : World} {A : Around} {E : Value → Shared → Prop} {s : Shared}
theorem list_repr_g {Q : Value → Shared → Prop} {g : List Code} {a : Addr} {oa : Obj} {x : Value} {l : List Value} {na : Nat} {ts : List Str} (hTy : s.TypeIs (.ref a) "list")
    (hg : A.guards = some g) (ha : s.heap.get? a = some oa) (hda : oa.data = .seq (x :: l).toArray na) (hlen : ts.length = (x :: l).toArray.size)
    (hT : ∀ (i : Nat) (y : Value), (x :: l).toArray[i]? = some y → ∃ t, ts[i]? = some t ∧ ReprIs prog w y t) (hsz : (listText ts).length ≤ sizeLine)
    (hQ : ∀ h' u tk, (∀ b o, s.heap.get? b = some o → h'.get? b = some o) → Q (.str (bif onWay g a then "[...]" else listText ts) u) { s with heap := h', toks := tk }) :
    wpAny (model prog w) A (call (.builtin "list.__repr__") [.ref a]) Q E s := by
  cases hw : onWay g a with
  | false =>
    refine call_list_repr hTy hg (fun v rest kw hm => ?_) ha hda hlen hT (fun h' u tk hk => ?_) hsz
    · have h1 := List.any_eq_false.mp hw _ hm
      simpa [PySem.W.Z.lstP] using h1
    · have h1 := hQ h' u tk hk
      rw [hw] at h1
      exact h1
  | true =>
    rw [hw] at hQ
    refine wpAny_call (codeAny_call_builtin_own (Code.quiet_builtin _ (by decide +kernel)) F.entry_list_repr (F.slot_list_repr.check _ _ _ _ _ _ _ _ hTy (F.args_list_repr_1 _) ?_))
    show wpOwn _ _ _ (Builtin.listReprAt 0 ⟨[.ref a], []⟩) _ _ _
    intro Γ p hc hΓ
    unfold Builtin.listReprAt
    simp [slotArgs, Builtin.List.listItems, seqItems?, Sem.wp_load_of (h := ha), hda, stack]
    show Sem.wp _ Γ (if (Γ.below.any _) = true then _ else _) _ _ p s
    rw [if_pos]
    · have h2 := hQ s.heap s.toks (s.toks + 1) fun b o e => e
      exact h2
    · rw [any_eq_guards (l := Γ.below) ?hf ?hp, hΓ.2.2.2.1 g hg]
      · exact hw
      case hf => exact PySem.W.Z.lstP_off (.ref a)
      case hp => exact fun c p' => PySem.W.Z.lstP_pos (.ref a) c p' default
end
section
variable {X : L2.Cx}
/-- repr of a list of seats that holds one at least -/
def rRepr (g : List Code) : List V → Hp → VK → Prop := fun xs H Q => ∃ a ns, xs = [.ref a] ∧ H a = some (.lst (ns.map V.int)) ∧ ns ≠ [] ∧ (∀ n ∈ ns, n.natAbs.log2 < 1920) ∧ (listText (intsT ns)).length ≤ sizeLine ∧ Q (.str (reprT g a ns)) H
theorem call_repr_ints {g : List Code} {j : Nat} (hr : Room j X.A) (hg : X.A.guards = some g) : CallR X (.builtin "repr") (rRepr g) := by
  intro pins s σ H xs us Q I r h
  obtain ⟨a, ns, rfl, ha, hne, hz, hl, q⟩ := h
  obtain ⟨u, rfl, rfl⟩ := vals1 r
  obtain ⟨-, its, n, hv, hln, ho⟩ := I.lstM ha
  cases its with
  | nil =>
    rw [List.length_map] at hln
    exact absurd (List.length_eq_zero_iff.mp hln) hne
  | cons x l =>
    have hu := hr.un
    refine call_repr_slot (by omega) ⟨_, ho, rfl⟩ F.slot_list_repr.toG (list_repr_g (ts := intsT ns) (g := g) ⟨_, ho, rfl⟩ hg ho rfl ?_ ?_ hl fun h' u tk hk => ?_)
    · rw [List.length_map] at hln
      show (ns.map _).length = _
      rw [List.length_map, hln]
      simp
    · intro i y e
      exact repr_its hv hz i y (by simpa using e)
    · exact ⟨_, _, rfl, .str _, H, I.kept hk, ⟨_, rfl⟩, q⟩
end
section
variable {P : Program} {w : World} {K : PySem.W.Frag} {mg : Str → Option Value} {base : Heap} {x qual : Str} {params : Arguments} {body : List Stmt} {scope : Scope} {dvs : List V} {kws : List (Str × V)} {f : Addr} {fd : FuncData}
theorem code_guards {M : Model} {A : Around} {c : Code} {R : Result → Shared → Prop} {s : Shared} (h : ∀ g, codeAny M { A with guards := some g } c R s) : codeAny M A c R s := fun Γ p hc hΓ =>
  h (guardsOf Γ.below) Γ p hc ⟨hΓ.1, hΓ.2.1, hΓ.2.2.1, fun g e => Option.some.inj e, hΓ.2.2.2.2⟩
/-- a def's promise by its body, what is under way told -/
theorem fnDg {N ps : List Str} {k : Nat} {sp : Sp} (F : FunD K x qual params body scope dvs kws f fd) (S : FnScope N ps scope) (len : ∀ vs H Q E, sp vs H Q E → vs.length = ps.length)
    (hbody : ∀ (cdv : Value) (g : List Code) (A : Around) (outer : List Env) (s : Shared) (H : Hp) (vs : List V) (Q : VK) (E : XK), A.guards = some g → Room k (A.deeper (envOfC qual scope s.heap.objs.size f cdv)) → sp vs H Q E →
      ∃ t, PSs (cxOf CX0 P w K mg base N qual scope f cdv A outer s H E).nox body t ∧ t ⟨fun _ H' => Q .non H', Q, fun _ _ => False, fun _ _ => False⟩ (start N vs) H) : FnOk P w K mg base CX0 (k + 1) f fd ps sp := by
  obtain ⟨oc, od, dV, kV, doc, pm, an, cdv, ct, osl, ef, lk, hcd, _, _⟩ := F.ex
  subst ef
  refine ⟨len, fun A0 outer s H args us vs Q E hr0 e00 hb r hsp => code_guards fun g => ?_⟩
  have hr : Room (k + 1) { A0 with guards := some g } := ⟨hr0.hd, hr0.dp, hr0.un⟩
  have e0 : Env0 P w K mg base { A0 with guards := some g } outer s H := ⟨e00.frames, e00.mod, e00.bs, e00.bsz, e00.funs, e00.frf, e00.hok, e00.bare⟩
  have hgA : ({ A0 with guards := some g } : Around).guards = some g := rfl
  revert hr e0 hgA
  generalize ({ A0 with guards := some g } : Around) = A
  intro hr e0 hgA
  have hl := len _ _ _ _ hsp
  have KX : K.In s.heap := e0.mod.kin.keeps fun b o e => (e0.bs b o e).1
  have lim : s.heap.NoLimit := e0.mod.nolimit.keeps fun b o e => (e0.bs b o e).1
  have hkind : ∀ y ∈ ps.zip us, scope.names.lookup y.1 = some .local ∨ (scope.names.lookup y.1 = some .cell ∧ ((cellsFrom (s.heap.objs.size + 1) scope.names []).lookup y.1).isSome = true) := fun ⟨n, v⟩ hy =>
    (S.par n (List.of_mem_zip hy).1).elim .inl fun q => .inr ⟨q, PySem.W.cellsFrom_some _ _ _ (.inl q)⟩
  refine codeAny_call_function hr.depth (KX _ _ lk) rfl S.co S.gen rfl (PySem.W.codeRec_of KX hcd) (hb _ _ _ _ (wpAny_newFunctionEnv_cells S.kind hkind fun env he s1 x1 => ?_))
  subst he
  refine ⟨lim.keeps x1.toInCall.keep, codeAny_func ?_⟩
  obtain ⟨t, ht, hq⟩ := hbody cdv g A outer s H vs Q E hgA (hr.deeper _) hsp
  have J0 : Inv (cxOf CX0 P w K mg base N qual scope f cdv A outer s H E) [] (start N vs) H s1 := inv_start S hr.hd e0 hl r x1
  have fin : ∀ {σ' : L2.St} {H' : Hp} {s' : Shared} {v : V} {u : Value}, Inv (cxOf CX0 P w K mg base N qual scope f cdv A outer s H E) [] σ' H' s' → RelV v u → Q v H' → CE outer P w H s Q u s' :=
    fun {σ' H' s' v u} J rv q => ⟨v, H', J.os, J.bare, J.base, J.hok, rv, q⟩
  refine wpAny_mono (ht.nox.run [] s1 (start N vs) H _ J0 hq) (fun fl s' hs => ?_) fun e s' hs => hs
  cases fl with
  | ret u =>
    obtain ⟨v, σ', H', J, rv, q⟩ := hs
    exact fin J rv q
  | next =>
    obtain ⟨σ', H', J, q⟩ := hs
    exact fin (v := V.non) (u := Value.none) J rfl q
  | brk => exact hs.elim fun _ z => z.elim fun _ z => z.2.elim
  | cont => exact hs.elim fun _ z => z.elim fun _ z => z.2.elim
end
/-! the length of a text -/
theorem textFrom_le : ∀ (ts : List Str) (k : Nat) (acc : Str) (m : Nat), (∀ t ∈ ts, t.length ≤ m) → (textFrom k acc ts).length ≤ acc.length + (m + 2) * ts.length
  | [], k, acc, m, _ => by
    show acc.length ≤ _
    omega
  | t :: r, k, acc, m, h => by
    have h1 := textFrom_le r (k + 1) (acc ++ (if k > 0 then ", " else "" : String) ++ t) m fun z hz => h z (.tail _ hz)
    have h2 := h t (.head _)
    have h3 : (acc ++ (if k > 0 then ", " else "" : String) ++ t : Str).length ≤ acc.length + 2 + t.length := by
      rw [strLen_append, strLen_append]
      split <;> (simp [show (", " : Str).length = 2 from rfl, show ("" : Str).length = 0 from rfl]; try omega)
    show (textFrom (k + 1) (acc ++ (if k > 0 then ", " else "" : String) ++ t) r).length ≤ _
    rw [List.length_cons, Nat.mul_add]
    omega
theorem listText_le {ts : List Str} {m : Nat} (h : ∀ t ∈ ts, t.length ≤ m) : (listText ts).length ≤ 2 + (m + 2) * ts.length := by
  have h1 := textFrom_le ts 0 "[" m h
  unfold listText
  rw [strLen_append, show ("]" : Str).length = 1 from rfl]
  rw [show ("[" : Str).length = 1 from rfl] at h1
  omega
theorem small_text : ∀ n : Fin 256, ((toString (n.val : Int) : Str)).length ≤ 3 := by decide +kernel
/-- up to 256 seats of a ring of up to 256 -/
theorem reprT_ok {ns : List Int} (h : ∀ n ∈ ns, 0 ≤ n ∧ n < 256) (hl : ns.length ≤ 256) : (∀ n ∈ ns, n.natAbs.log2 < 1920) ∧ (listText (intsT ns)).length ≤ sizeLine := by
  refine ⟨fun n hn => ?_, Nat.le_trans (listText_le (m := 3) fun t ht => ?_) ?_⟩
  · obtain ⟨h0, h1⟩ := h n hn
    rcases Nat.eq_zero_or_pos n.natAbs with e | e
    · rw [e]; decide
    · have : n.natAbs.log2 < 8 := (Nat.log2_lt (by omega)).mpr (by omega)
      omega
  · obtain ⟨n, hn, rfl⟩ := List.mem_map.mp ht
    obtain ⟨h0, h1⟩ := h n hn
    have h2 := small_text ⟨n.toNat, by omega⟩
    rw [show ((⟨n.toNat, by omega⟩ : Fin 256).val : Int) = n from Int.toNat_of_nonneg h0] at h2
    exact h2
  · rw [show (intsT ns).length = ns.length from List.length_map _, sizeLine_eq]
    omega
/-! reading -/
theorem rd_repr {H : Hp} {Q : VK} {g : List Code} {a : Addr} {ns : List Int} (h : H a = some (.lst (ns.map V.int))) (hne : ns ≠ []) (hb : ∀ n ∈ ns, 0 ≤ n ∧ n < 256) (hl : ns.length ≤ 256) (q : Q (.str (reprT g a ns)) H) : rRepr g [.ref a] H Q :=
  ⟨a, ns, rfl, h, hne, (reprT_ok hb hl).1, (reprT_ok hb hl).2, q⟩
/-! a list or a tuple of ints -/
def SqI (K : PySem.W.Frag) (H : Hp) (p : Addr) (ns : List Int) : Prop := SqL K H p (ns.map V.int) ∨ SqT K H p (ns.map V.int)
theorem SqI.keep {K : PySem.W.Frag} {H H' : Hp} {p : Addr} {ns : List Int} (h : SqI K H p ns) (k : ∀ o, H p = some o → (∀ d, o ≠ .dK d) → (∀ C dx fs, o ≠ .ins C dx fs) → H' p = some o) : SqI K H' p ns := by
  have go : ∀ {o : HO}, Rd H p o → (∀ d, o ≠ .dK d) → (∀ C dx fs, o ≠ .ins C dx fs) → Rd H' p o := fun {o} r n1 n2 =>
    r.imp (fun e => k _ e n1 n2) fun ⟨d, e⟩ => ⟨d, k _ e (fun _ z => by cases z) (fun _ _ _ z => by cases z)⟩
  rcases h with h | h
  · exact .inl (h.imp (fun r => go r (fun _ z => by cases z) (fun _ _ _ z => by cases z)) id)
  · exact .inr (h.imp (fun r => go r (fun _ z => by cases z) (fun _ _ _ z => by cases z)) id)
theorem SqI.kp {K : PySem.W.Frag} {H H' : Hp} {p : Addr} {ns : List Int} {ps : List Addr} (h : SqI K H p ns) (k : Kp ps H H') (hn : ∀ q, q ∈ ps → H q = none ∨ (∃ d, H q = some (.dK d)) ∨ ∃ C dx fs, H q = some (.ins C dx fs)) : SqI K H' p ns :=
  h.keep fun o e n1 n2 => k _ _ e fun m => by
    rcases hn _ m with z | ⟨d, z⟩ | ⟨C, dx, fs, z⟩
    · rw [z] at e
      cases e
    · rw [z] at e
      injection e with e
      exact n1 _ e.symm
    · rw [z] at e
      injection e with e
      exact n2 _ _ _ e.symm
theorem SqI.of {K : PySem.W.Frag} {H : Hp} {p : Addr} {ns : List Int} (h : H p = some (.lst (ns.map V.int))) : SqI K H p ns := .inl (SqL.of h)
theorem rd_notInSq {K : PySem.W.Frag} {H : Hp} {Q : VK} {p : Addr} {i : Int} {ns : List Int} (h : SqI K H p ns) (q : Q (.bl (!decide (i ∈ ns))) H) : rIn K true (.int i) (.ref p) H Q := by
  rcases h with h | h
  · exact rd_notInI h q
  · exact ⟨p, ns.map V.int, rfl, .inr h, rfl, flat_ints ns, by
      rw [inV_ints]
      exact q⟩
end RD

/-! repr of what is no list or tuple, and of a list or a tuple of such -/
namespace RD
open PySem PySem.Spec PyProof.Rows L2 He
/-- the text of one that is no list or tuple -/
def ST : V → Str → Prop
  | .non, t => t = "None"
  | .bl b, t => t = if b then ("True" : Str) else ("False" : Str)
  | .int n, t => n.natAbs.log2 < 1920 ∧ t = toString n
  | .str z, t => (reprText z).length ≤ sizeLine ∧ t = reprText z
  | _, _ => False
theorem ST.is {P : Program} {w : World} {v : V} {u : Value} {t : Str} (h : ST v t) (r : RelV v u) : ReprIs P w u t := by
  cases v with
  | non =>
    obtain rfl : u = .none := r
    obtain rfl : t = "None" := h
    exact ReprIs.none
  | bl b =>
    obtain rfl : u = .bool b := r
    obtain rfl : t = (if b then ("True" : Str) else ("False" : Str)) := h
    exact ReprIs.bool b
  | int n =>
    obtain ⟨k, rfl⟩ := r
    obtain ⟨h1, rfl⟩ := h
    exact ReprIs.int k h1
  | str z =>
    obtain ⟨k, rfl⟩ := r
    obtain ⟨h1, rfl⟩ := h
    exact ReprIs.str z k h1
  | _ => exact h.elim
theorem ST.all {P : Program} {w : World} : ∀ {vs : List V} {us : List Value} {ts : List Str}, Paired ST vs ts → Vals vs us → ReprAll P w us ts
  | _, _, _, .nil, .nil => .nil
  | _, _, _, .cons h r, .cons a b => .cons (h.is a) (ST.all r b)
theorem ReprAll.at {P : Program} {w : World} : ∀ {us : List Value} {ts : List Str}, ReprAll P w us ts → ∀ (i : Nat) (y : Value), us[i]? = some y → ∃ t, ts[i]? = some t ∧ ReprIs P w y t
  | _, _, .nil, i, y, h => by cases h
  | _, _, .cons h r, 0, y, e => by
    obtain rfl := Option.some.inj e
    exact ⟨_, rfl, h⟩
  | _, _, .cons h r, i + 1, y, e => ReprAll.at r i y e
/-- the tuple's text is under way -/
def onWayT (g : List Code) (a : Addr) : Bool := g.any fun c => tupGuardF (.ref a) (c, default)
section
variable {prog : Program} {w : World} {A : Around} {E : Value → Shared → Prop} {s : Shared}
theorem tuple_repr_g {Q : Value → Shared → Prop} {g : List Code} {a : Addr} {o : Obj} {items : Array Value} {n : Nat} {ts : List Str} (hTy : s.TypeIs (.ref a) "tuple")
    (hg : A.guards = some g) (ha : s.heap.get? a = some o) (hd : o.data = .seq items n) (hT : ReprAll prog w items.toList ts) (hsz : (tupleText ts).length ≤ sizeLine)
    (hQ : ∀ u tk, Q (.str (bif onWayT g a then "(...)" else tupleText ts) u) { s with toks := tk }) :
    wpAny (model prog w) A (call (.builtin "tuple.__repr__") [.ref a]) Q E s := by
  cases hw : onWayT g a with
  | false =>
    rw [hw] at hQ
    exact call_tuple_repr hTy hg (fun c hc => by
      have := List.any_eq_false.mp hw c hc
      simpa using this) ha hd hT hQ hsz
  | true =>
    rw [hw] at hQ
    refine wpAny_call (codeAny_call_builtin_own (Code.quiet_builtin _ (by decide +kernel)) F.entry_tuple_repr (F.slot_tuple_repr.check _ _ _ _ _ _ _ _ hTy (F.args_tuple_repr_1 _) ?_))
    show wpOwn _ _ _ (Builtin.tupleReprAt 0 ⟨[.ref a], []⟩) _ _ _
    rw [tuple_repr_tree, tupleReprUnderWay_eq]
    refine wpOwn_bind (wpOwn_stackTailAny hg (tupGuardF_off _) (tupGuardF_pos _) ?_)
    rw [show (g.any fun c => tupGuardF (.ref a) (c, default)) = true from hw, if_pos rfl]
    refine wpOwn_of_wpAny (wpAny_bind (wpAny_rule ?_))
    show wpAny _ _ (mkStr (Str.ofString "(...)") >>= _) _ _ _
    refine wpAny_bind (wpAny_mkStr (wpAny_pure ?_) (by decide))
    exact hQ _ _
end
section
variable {X : L2.Cx}
/-- v's text: a list's or tuple's own hangs on what is under way -/
def RP (g : List Code) (H : Hp) (v : V) (t : Str) : Prop := ST v t
  ∨ (∃ a vs ts, v = .ref a ∧ H a = some (.lst vs) ∧ vs ≠ [] ∧ Paired ST vs ts ∧ (listText ts).length ≤ sizeLine ∧ t = bif onWay g a then ("[...]" : Str) else listText ts)
  ∨ (∃ a, v = .ref a ∧ H a = some (.lst []) ∧ t = "[]")
  ∨ (∃ a vs ts, v = .ref a ∧ H a = some (.tup vs) ∧ Paired ST vs ts ∧ (tupleText ts).length ≤ sizeLine ∧ t = bif onWayT g a then ("(...)" : Str) else tupleText ts)
def rReprV (g : List Code) : List V → Hp → VK → Prop := fun xs H Q => ∃ v t, xs = [v] ∧ RP g H v t ∧ Q (.str t) H
theorem call_repr_v' {g : List Code} (hu : X.A.units + 1 < cLine) (hg : X.A.guards = some g) : CallR X (.builtin "repr") (rReprV g) := by
  intro pins s σ H xs us Q I r h
  obtain ⟨v, t, rfl, hp, q⟩ := h
  obtain ⟨u, rfl, ru⟩ := vals1 r
  rcases hp with hp | ⟨a, vs, ts, rfl, ha, hne, hT, hl, rfl⟩ | ⟨a, rfl, ha, rfl⟩ | ⟨a, vs, ts, rfl, ha, hT, hl, rfl⟩
  · cases v with
    | non =>
      obtain rfl : u = .none := ru
      obtain rfl : t = "None" := hp
      exact PySem.P.repr_of_none ⟨.str _, H, I.tok _, ⟨_, rfl⟩, q⟩
    | bl b =>
      obtain rfl : u = .bool b := ru
      obtain rfl : t = (if b then ("True" : Str) else ("False" : Str)) := hp
      exact PySem.P.repr_of_bool ⟨.str _, H, I.tok _, ⟨_, rfl⟩, q⟩
    | int n =>
      obtain ⟨k, rfl⟩ := ru
      obtain ⟨h1, rfl⟩ := hp
      exact PySem.P.repr_of_int h1 ⟨.str _, H, I.tok _, ⟨_, rfl⟩, q⟩
    | str z =>
      obtain ⟨k, rfl⟩ := ru
      obtain ⟨h1, rfl⟩ := hp
      exact PySem.P.repr_of_str ⟨.str _, H, I.tok _, ⟨_, rfl⟩, q⟩ h1
    | _ => exact hp.elim
  · obtain rfl : u = .ref a := ru
    obtain ⟨-, its, n, hv, hln, ho⟩ := I.lstM ha
    have hA := ReprAll.at (ST.all (P := X.prog) (w := X.w) hT hv)
    have hl2 := ReprAll.length_eq (ST.all (P := X.prog) (w := X.w) hT hv)
    cases its with
    | nil =>
      exact absurd (List.length_eq_zero_iff.mp (by simpa using hln)) hne
    | cons x l =>
      refine call_repr_slot (by omega) ⟨_, ho, rfl⟩ F.slot_list_repr.toG (list_repr_g (ts := ts) (g := g) ⟨_, ho, rfl⟩ hg ho rfl ?_ ?_ hl fun h' u tk hk => ?_)
      · simpa using hl2
      · intro i y e
        exact hA i y (by simpa using e)
      · exact ⟨_, _, rfl, .str _, H, I.kept hk, ⟨_, rfl⟩, q⟩
  · obtain rfl : u = .ref a := ru
    obtain ⟨-, its, n, hv, hln, ho⟩ := I.lstM ha
    cases its with
    | cons x l => cases hv
    | nil => exact call_repr_slot (by omega) ⟨_, ho, rfl⟩ F.slot_list_repr.toG (call_list_repr_empty ⟨_, ho, rfl⟩ ho rfl ⟨_, _, rfl, .str _, H, I.tok _, ⟨_, rfl⟩, q⟩)
  · obtain rfl : u = .ref a := ru
    obtain ⟨its, hv, ⟨o, eo, hc, n, hd⟩, -⟩ := I.tuple (SqT.of ha)
    refine call_repr_slot (by omega) ⟨_, eo, hc⟩ F.slot_tuple_repr (tuple_repr_g (ts := ts) (g := g) ⟨_, eo, hc⟩ hg eo hd (by simpa using ST.all (P := X.prog) (w := X.w) hT hv) hl fun u tk => ?_)
    exact ⟨_, _, rfl, .str _, H, I.kept (h' := s.heap) (fun b o e => e), ⟨_, rfl⟩, q⟩
theorem call_repr_v {g : List Code} {j : Nat} (hr : Room j X.A) (hg : X.A.guards = some g) : CallR X (.builtin "repr") (rReprV g) := call_repr_v' (by have := hr.un; omega) hg
theorem call_repr_vS {g : List Code} {j : Nat} {a : Addr} {pn : List (Addr × Obj)} (hr : Room j X.A) (hg : X.A.guards = some g) : CallR (X.suite a pn) (.builtin "repr") (rReprV g) :=
  call_repr_v' (X := X.suite a pn) (show X.A.units + 1 < cLine by have := hr.un; omega) hg
end
/-! reading -/
theorem rd_reprV {H : Hp} {Q : VK} {g : List Code} {v : V} {t : Str} (h : RP g H v t) (q : Q (.str t) H) : rReprV g [v] H Q := ⟨v, t, rfl, h, q⟩
theorem RP.lst {g : List Code} {H : Hp} {a : Addr} {ws : List Str} (h : H a = some (.lst (ws.map V.str))) (n : ws ≠ []) (l : ∀ w ∈ ws, (reprText w).length ≤ sizeLine) (l2 : (listText (ws.map reprText)).length ≤ sizeLine) : ∃ t, RP g H (.ref a) t := by
  refine ⟨_, .inr (.inl ⟨a, _, ws.map reprText, rfl, h, by simpa using n, ?_, l2, rfl⟩)⟩
  clear h n l2
  induction ws with
  | nil => exact .nil
  | cons w r ih => exact .cons ⟨l w (.head _), rfl⟩ (ih fun z hz => l z (.tail _ hz))
/-! text * n -/
theorem foldl_repW (c : Array Nat) : ∀ (k : Nat) (a : List Nat), (List.replicate k c).foldl (· ++ ·) a.toArray = (a ++ (List.replicate k c.toList).flatten).toArray
  | 0, a => by simp
  | k + 1, a => by
    rw [List.replicate_succ, List.foldl_cons, List.replicate_succ, List.flatten_cons]
    have := foldl_repW c k (a ++ c.toList)
    rw [show a.toArray ++ c = (a ++ c.toList).toArray by simp, this, List.append_assoc]
def mulS (z : Str) (n : Nat) : Str := ⟨(List.replicate n z.cps.toList).flatten.toArray⟩
def rMulTx : R2 := fun x y H Q => ∃ (z : Str) (n : Int), x = .str z ∧ y = .int n ∧ (0 < z.length ∧ z.length ≤ 1000) ∧ (2 ≤ n ∧ n ≤ 100) ∧ Q (.str (mulS z n.toNat)) H
theorem mulS_len (z : Str) (n : Nat) : (mulS z n).length = n * z.length := by
  show ((List.replicate n z.cps.toList).flatten.toArray).size = n * z.cps.size
  rw [List.size_toArray, List.length_flatten, List.map_replicate, List.sum_replicate_nat, Array.length_toList]
section
variable {X : L2.Cx}
theorem op_mulTx : OpR X (binaryOp .Mult) rMulTx := by
  intro pins s σ H x y v u Q I rx ry h
  obtain ⟨z, n, rfl, rfl, ⟨z0, z1⟩, ⟨h0, h1⟩, q⟩ := h
  obtain ⟨t, rfl⟩ := (show ∃ t, v = Value.str z t from rx)
  obtain ⟨t', rfl⟩ := (show ∃ t, u = Value.int n t from ry)
  have hz : z.length * n.toNat ≤ 100000 := by
    have : z.length * n.toNat ≤ 1000 * 100 := Nat.mul_le_mul z1 (by omega)
    omega
  refine P.mul_str ?_ (fun _ _ => ?_) (fun _ _ => ?_) ?_
  · rw [decide_eq_false (by omega), decide_eq_false (by omega)]
    rfl
  · have : 1000 ≤ (2 ^ 63 - 1) / n := by
      refine (Int.le_ediv_iff_mul_le (by omega)).mpr ?_
      omega
    omega
  · have h2 : sizeLine ≥ 100000 := by decide
    exact decide_eq_false (show ¬ z.length * n.toNat > sizeLine by omega)
  · rw [if_neg (by omega), if_neg (by
      rw [Bool.or_eq_true, beq_iff_eq, beq_iff_eq]
      omega)]
    have hf : (List.replicate n.toNat z.cps).foldl (· ++ ·) #[] = (mulS z n.toNat).cps := by
      have := foldl_repW z.cps n.toNat []
      rw [List.nil_append] at this
      exact this
    rw [hf]
    refine ⟨?_, .str _, H, I.tok _, ⟨_, rfl⟩, q⟩
    show (mulS z n.toNat).length ≤ sizeLine
    rw [mulS_len, Nat.mul_comm]
    exact sz1000 (by omega)
end
end RD

namespace My
open PySem PySem.Spec PyProof.Rows L2 He RD
open PySem PySem.Spec PyProof.Rows L2 He RD
def top (i : Nat) : Stmt := PySem.Challenge.pw_livingroll_k51_keepers_by_walk.main.body.getD i (.Pass ⟨0, 0, 0, 0⟩)
abbrev R : PySem.W.OpenRow := PySem.W.OpenLaw.row PySem.Challenge.rw_livingroll_k51_keepers_by_walk
abbrev s_whole : Stmt := (top 8)
abbrev n_whole : List Str := ["value", "low", "high"]
abbrev p_whole : List Str := ["value", "low", "high"]
theorem sc_whole : FnScope n_whole p_whole (defScope s_whole) := ⟨rfl, rfl, rfl, by decide +kernel, rfl, by decide +kernel, by decide +kernel⟩
def d_whole : DefD := ⟨("whole", none), "whole", "whole", defArgs s_whole, defBody s_whole, defScope s_whole, [], []⟩
abbrev s_Setting_init : Stmt := (inClass (top 9) 5)
abbrev n_Setting_init : List Str := ["self", "bits", "patience", "room", "grace", "helpers"]
abbrev p_Setting_init : List Str := ["self", "bits", "patience", "room", "grace", "helpers"]
theorem sc_Setting_init : FnScope n_Setting_init p_Setting_init (defScope s_Setting_init) := ⟨rfl, rfl, rfl, by decide +kernel, rfl, by decide +kernel, by decide +kernel⟩
def d_Setting_init : DefD := ⟨("Setting", some "__init__"), "__init__", "Setting.__init__", defArgs s_Setting_init, defBody s_Setting_init, defScope s_Setting_init, [], [("grace", .int 6), ("helpers", .int 1)]⟩
abbrev s_Setting_seats : Stmt := (inClass (top 9) 7)
abbrev n_Setting_seats : List Str := ["self"]
abbrev p_Setting_seats : List Str := ["self"]
theorem sc_Setting_seats : FnScope n_Setting_seats p_Setting_seats (defScope s_Setting_seats) := ⟨rfl, rfl, rfl, by decide +kernel, rfl, by decide +kernel, by decide +kernel⟩
def g_Setting_seats : GetD := ⟨"Setting", "seats", "seats", "Setting.seats", defArgs s_Setting_seats, defBody s_Setting_seats, defScope s_Setting_seats⟩
abbrev s_distance : Stmt := (top 10)
abbrev n_distance : List Str := ["setting", "seat", "other"]
abbrev p_distance : List Str := ["setting", "seat", "other"]
theorem sc_distance : FnScope n_distance p_distance (defScope s_distance) := ⟨rfl, rfl, rfl, by decide +kernel, rfl, by decide +kernel, by decide +kernel⟩
def d_distance : DefD := ⟨("distance", none), "distance", "distance", defArgs s_distance, defBody s_distance, defScope s_distance, [], []⟩
abbrev s_first_from : Stmt := (top 11)
abbrev n_first_from : List Str := ["setting", "place", "held"]
abbrev p_first_from : List Str := ["setting", "place", "held"]
theorem sc_first_from : FnScope n_first_from p_first_from (defScope s_first_from) := ⟨rfl, rfl, rfl, by decide +kernel, rfl, by decide +kernel, by decide +kernel⟩
def d_first_from : DefD := ⟨("first_from", none), "first_from", "first_from", defArgs s_first_from, defBody s_first_from, defScope s_first_from, [], []⟩
abbrev s_is_key : Stmt := (top 16)
abbrev n_is_key : List Str := ["value", "sign"]
abbrev p_is_key : List Str := ["value"]
theorem sc_is_key : FnScope n_is_key p_is_key (defScope s_is_key) := ⟨rfl, rfl, rfl, by decide +kernel, rfl, by decide +kernel, by decide +kernel⟩
def d_is_key : DefD := ⟨("is_key", none), "is_key", "is_key", defArgs s_is_key, defBody s_is_key, defScope s_is_key, [], []⟩
abbrev s_check_key : Stmt := (top 17)
abbrev n_check_key : List Str := ["key"]
abbrev p_check_key : List Str := ["key"]
theorem sc_check_key : FnScope n_check_key p_check_key (defScope s_check_key) := ⟨rfl, rfl, rfl, by decide +kernel, rfl, by decide +kernel, by decide +kernel⟩
def d_check_key : DefD := ⟨("check_key", none), "check_key", "check_key", defArgs s_check_key, defBody s_check_key, defScope s_check_key, [], []⟩
abbrev s_place_of : Stmt := (top 18)
abbrev n_place_of : List Str := ["setting", "key", "place", "sign"]
abbrev p_place_of : List Str := ["setting", "key"]
theorem sc_place_of : FnScope n_place_of p_place_of (defScope s_place_of) := ⟨rfl, rfl, rfl, by decide +kernel, rfl, by decide +kernel, by decide +kernel⟩
def d_place_of : DefD := ⟨("place_of", none), "place_of", "place_of", defArgs s_place_of, defBody s_place_of, defScope s_place_of, [], []⟩
abbrev s_keeper : Stmt := (top 19)
abbrev n_keeper : List Str := ["setting", "key", "alive"]
abbrev p_keeper : List Str := ["setting", "key", "alive"]
theorem sc_keeper : FnScope n_keeper p_keeper (defScope s_keeper) := ⟨rfl, rfl, rfl, by decide +kernel, rfl, by decide +kernel, by decide +kernel⟩
def d_keeper : DefD := ⟨("keeper", none), "keeper", "keeper", defArgs s_keeper, defBody s_keeper, defScope s_keeper, [], []⟩
abbrev s_shares : Stmt := (top 20)
abbrev n_shares : List Str := ["setting", "alive", "held", "found", "index", "seat", "width"]
abbrev p_shares : List Str := ["setting", "alive"]
theorem sc_shares : FnScope n_shares p_shares (defScope s_shares) := ⟨rfl, rfl, rfl, by decide +kernel, rfl, by decide +kernel, by decide +kernel⟩
def d_shares : DefD := ⟨("shares", none), "shares", "shares", defArgs s_shares, defBody s_shares, defScope s_shares, [], []⟩
abbrev s_l_box : Stmt := (top 22)
abbrev n_l_box : List Str := ["_law_script", "_law_seed", "_law_great", "_law_cell", "_law_number"]
abbrev p_l_box : List Str := ["_law_script"]
theorem sc_l_box : FnScope n_l_box p_l_box (defScope s_l_box) := ⟨rfl, rfl, rfl, by decide +kernel, rfl, by decide +kernel, by decide +kernel⟩
def d_l_box : DefD := ⟨("_law_box", none), "_law_box", "_law_box", defArgs s_l_box, defBody s_l_box, defScope s_l_box, [], []⟩
abbrev s_l_draw : Stmt := (top 23)
abbrev n_l_draw : List Str := ["_law_box_here", "_law_width", "_law_great", "_law_number", "_law_first", "_law_second"]
abbrev p_l_draw : List Str := ["_law_box_here", "_law_width"]
theorem sc_l_draw : FnScope n_l_draw p_l_draw (defScope s_l_draw) := ⟨rfl, rfl, rfl, by decide +kernel, rfl, by decide +kernel, by decide +kernel⟩
def d_l_draw : DefD := ⟨("_law_draw", none), "_law_draw", "_law_draw", defArgs s_l_draw, defBody s_l_draw, defScope s_l_draw, [], []⟩
abbrev s_l_char : Stmt := (top 24)
abbrev n_l_char : List Str := ["_law_number"]
abbrev p_l_char : List Str := ["_law_number"]
theorem sc_l_char : FnScope n_l_char p_l_char (defScope s_l_char) := ⟨rfl, rfl, rfl, by decide +kernel, rfl, by decide +kernel, by decide +kernel⟩
def d_l_char : DefD := ⟨("_law_char", none), "_law_char", "_law_char", defArgs s_l_char, defBody s_l_char, defScope s_l_char, [], []⟩
abbrev s_l_word : Stmt := (top 25)
abbrev n_l_word : List Str := ["_law_box_here", "_law_length", "_law_k"]
abbrev p_l_word : List Str := ["_law_box_here"]
theorem sc_l_word : FnScope n_l_word p_l_word (defScope s_l_word) := ⟨rfl, rfl, rfl, by decide +kernel, rfl, by decide +kernel, by decide +kernel⟩
def d_l_word : DefD := ⟨("_law_word", none), "_law_word", "_law_word", defArgs s_l_word, defBody s_l_word, defScope s_l_word, [], []⟩
abbrev s_l_place : Stmt := (top 26)
abbrev n_l_place : List Str := ["_law_ring", "_law_word_here", "_law_number", "_law_char_here"]
abbrev p_l_place : List Str := ["_law_ring", "_law_word_here"]
theorem sc_l_place : FnScope n_l_place p_l_place (defScope s_l_place) := ⟨rfl, rfl, rfl, by decide +kernel, rfl, by decide +kernel, by decide +kernel⟩
def d_l_place : DefD := ⟨("_law_place", none), "_law_place", "_law_place", defArgs s_l_place, defBody s_l_place, defScope s_l_place, [], []⟩
abbrev s_l_walk : Stmt := (top 27)
abbrev n_l_walk : List Str := ["_law_ring", "_law_place_here", "_law_alive_here", "_law_k"]
abbrev p_l_walk : List Str := ["_law_ring", "_law_place_here", "_law_alive_here"]
theorem sc_l_walk : FnScope n_l_walk p_l_walk (defScope s_l_walk) := ⟨rfl, rfl, rfl, by decide +kernel, rfl, by decide +kernel, by decide +kernel⟩
def d_l_walk : DefD := ⟨("_law_walk", none), "_law_walk", "_law_walk", defArgs s_l_walk, defBody s_l_walk, defScope s_l_walk, [], []⟩
abbrev s_l_alive : Stmt := (top 28)
abbrev n_l_alive : List Str := ["_law_box_here", "_law_ring", "_law_picked", "_law_k", "_law_seat"]
abbrev p_l_alive : List Str := ["_law_box_here", "_law_ring"]
theorem sc_l_alive : FnScope n_l_alive p_l_alive (defScope s_l_alive) := ⟨rfl, rfl, rfl, by decide +kernel, rfl, by decide +kernel, by decide +kernel⟩
def d_l_alive : DefD := ⟨("_law_alive", none), "_law_alive", "_law_alive", defArgs s_l_alive, defBody s_l_alive, defScope s_l_alive, [], []⟩
abbrev s_l_is_integer : Stmt := (top 29)
abbrev n_l_is_integer : List Str := ["_law_value"]
abbrev p_l_is_integer : List Str := ["_law_value"]
theorem sc_l_is_integer : FnScope n_l_is_integer p_l_is_integer (defScope s_l_is_integer) := ⟨rfl, rfl, rfl, by decide +kernel, rfl, by decide +kernel, by decide +kernel⟩
def d_l_is_integer : DefD := ⟨("_law_is_integer", none), "_law_is_integer", "_law_is_integer", defArgs s_l_is_integer, defBody s_l_is_integer, defScope s_l_is_integer, [], []⟩
abbrev s_l_edge : Stmt := (top 30)
abbrev n_l_edge : List Str := ["_law_box_here", "_law_ring", "_law_place_here", "_law_alive_here", "_law_way", "_law_before", "_law_seat"]
abbrev p_l_edge : List Str := ["_law_box_here", "_law_ring", "_law_place_here", "_law_alive_here"]
theorem sc_l_edge : FnScope n_l_edge p_l_edge (defScope s_l_edge) := ⟨rfl, rfl, rfl, by decide +kernel, rfl, by decide +kernel, by decide +kernel⟩
def d_l_edge : DefD := ⟨("_law_edge", none), "_law_edge", "_law_edge", defArgs s_l_edge, defBody s_l_edge, defScope s_l_edge, [], []⟩
abbrev s_l_numbers : Stmt := (top 31)
abbrev n_l_numbers : List Str := ["_law_ring", "_law_alive_here", "_law_numbers_here", "_law_nearest", "_law_k", "_law_seat"]
abbrev p_l_numbers : List Str := ["_law_ring", "_law_alive_here"]
theorem sc_l_numbers : FnScope n_l_numbers p_l_numbers (defScope s_l_numbers) := ⟨rfl, rfl, rfl, by decide +kernel, rfl, by decide +kernel, by decide +kernel⟩
def d_l_numbers : DefD := ⟨("_law_numbers", none), "_law_numbers", "_law_numbers", defArgs s_l_numbers, defBody s_l_numbers, defScope s_l_numbers, [], []⟩
abbrev s_l_shares_hold : Stmt := (top 32)
abbrev n_l_shares_hold : List Str := ["_law_setting", "_law_ring", "_law_alive_here", "_law_handed", "_law_actual", "_law_row"]
abbrev p_l_shares_hold : List Str := ["_law_setting", "_law_ring", "_law_alive_here"]
theorem sc_l_shares_hold : FnScope n_l_shares_hold p_l_shares_hold (defScope s_l_shares_hold) := ⟨rfl, rfl, rfl, by decide +kernel, rfl, by decide +kernel, by decide +kernel⟩
def d_l_shares_hold : DefD := ⟨("_law_shares_hold", none), "_law_shares_hold", "_law_shares_hold", defArgs s_l_shares_hold, defBody s_l_shares_hold, defScope s_l_shares_hold, [], []⟩
abbrev s_l_word_holds : Stmt := (top 33)
abbrev n_l_word_holds : List Str := ["_law_setting", "_law_ring", "_law_word_here", "_law_alive_here", "_law_place_here", "_law_handed", "_law_actual", "_law_due"]
abbrev p_l_word_holds : List Str := ["_law_setting", "_law_ring", "_law_word_here", "_law_alive_here"]
theorem sc_l_word_holds : FnScope n_l_word_holds p_l_word_holds (defScope s_l_word_holds) := ⟨rfl, rfl, rfl, by decide +kernel, rfl, by decide +kernel, by decide +kernel⟩
def d_l_word_holds : DefD := ⟨("_law_word_holds", none), "_law_word_holds", "_law_word_holds", defArgs s_l_word_holds, defBody s_l_word_holds, defScope s_l_word_holds, [], []⟩
abbrev s_l_no_keys : Stmt := (top 34)
abbrev n_l_no_keys : List Str := ["_law_box_here", "_law_word_here", "_law_others", "_law_other", "_law_at", "_law_chars", "_law_bent", "_law_char_here", "_law_one"]
abbrev p_l_no_keys : List Str := ["_law_box_here", "_law_word_here"]
theorem sc_l_no_keys : FnScope n_l_no_keys p_l_no_keys (defScope s_l_no_keys) := ⟨rfl, rfl, rfl, by decide +kernel, rfl, by decide +kernel, by decide +kernel⟩
def d_l_no_keys : DefD := ⟨("_law_no_keys", none), "_law_no_keys", "_law_no_keys", defArgs s_l_no_keys, defBody s_l_no_keys, defScope s_l_no_keys, [], []⟩
abbrev s_l_refused : Stmt := (top 35)
abbrev n_l_refused : List Str := ["_law_setting", "_law_value", "_law_alive_here", "raised"]
abbrev p_l_refused : List Str := ["_law_setting", "_law_value", "_law_alive_here"]
theorem sc_l_refused : FnScope n_l_refused p_l_refused (defScope s_l_refused) := ⟨rfl, rfl, rfl, by decide +kernel, rfl, by decide +kernel, by decide +kernel⟩
def d_l_refused : DefD := ⟨("_law_refused", none), "_law_refused", "_law_refused", defArgs s_l_refused, defBody s_l_refused, defScope s_l_refused, [], []⟩
abbrev s_law : Stmt := (top 36)
abbrev n_law : List Str := ["_law_script", "_law_box_here", "_law_bits", "_law_setting", "_law_ring", "_law_word_here", "_law_k", "_law_alive_here", "_law_j", "_law_near", "_law_value", "_law_held"]
abbrev p_law : List Str := ["_law_script"]
theorem sc_law : FnScope n_law p_law (defScope s_law) := ⟨rfl, rfl, rfl, by decide +kernel, rfl, by decide +kernel, by decide +kernel⟩
def d_law : DefD := ⟨("law", none), "law", "law", defArgs s_law, defBody s_law, defScope s_law, [], []⟩
def fn : List DefD := [d_whole, d_Setting_init, d_distance, d_first_from, d_is_key, d_check_key, d_place_of, d_keeper, d_shares, d_l_box, d_l_draw, d_l_char, d_l_word, d_l_place, d_l_walk, d_l_alive, d_l_is_integer, d_l_edge, d_l_numbers, d_l_shares_hold, d_l_word_holds, d_l_no_keys, d_l_refused, d_law]
def fa : List Fa := [.free "ValueError", .free "abs", .free "all", .free "bool", .free "enumerate", .free "int", .free "isinstance", .free "len", .free "list", .free "min", .free "ord", .free "range", .free "repr", .free "sorted", .free "str", .free "sum", .free "tuple", .glo "whole", .glo "distance", .glo "first_from", .glo "is_key", .glo "check_key", .glo "place_of", .glo "keeper", .glo "shares", .glo "_law_box", .glo "_law_draw", .glo "_law_char", .glo "_law_word", .glo "_law_place", .glo "_law_walk", .glo "_law_alive", .glo "_law_is_integer", .glo "_law_edge", .glo "_law_numbers", .glo "_law_shares_hold", .glo "_law_word_holds", .glo "_law_no_keys", .glo "_law_refused", .glo "law", .glo "Setting", .cls "Setting", .mkr "Setting", .noat "Setting" "bits", .noat "Setting" "patience", .noat "Setting" "room", .noat "Setting" "grace", .noat "Setting" "helpers", .int "KEY_MOST" 20, .int "FACTOR" 31, .str "KEY_SIGNS" "abcdefghijklmnopqrstuvwxyz0123456789", .glo "GroupError", .glo "InvalidSetting", .glo "InvalidSaying", .glo "InvalidKey", .glo "UnknownKey"]
def ex (K : PySem.W.Frag) : Bool := conB K "Setting" "MOST_BITS" (.int 8) && (conB K "Setting" "MOST_PATIENCE" (.int 6) && (conB K "Setting" "MOST_ROOM" (.int 64) && (conB K "Setting" "MOST_GRACE" (.int 200) && (conB K "Setting" "MOST_HELPERS" (.int 3)))))
def ed_InvalidSetting : ErrD := ⟨"InvalidSetting", "field", "an invalid setting", "InvalidSetting.__init__", defArgs (inClass (top 3) 0), defBody (inClass (top 3) 0), defScope (inClass (top 3) 0)⟩
theorem ef_InvalidSetting : ErrF ed_InvalidSetting := ⟨by decide, by decide, by decide, by decide, by decide, ⟨_, _, _, _, _, _, _, _, _, _, _, _, rfl, rfl, rfl, rfl⟩⟩
def ed_InvalidSaying : ErrD := ⟨"InvalidSaying", "saying", "an invalid saying", "InvalidSaying.__init__", defArgs (inClass (top 4) 0), defBody (inClass (top 4) 0), defScope (inClass (top 4) 0)⟩
theorem ef_InvalidSaying : ErrF ed_InvalidSaying := ⟨by decide, by decide, by decide, by decide, by decide, ⟨_, _, _, _, _, _, _, _, _, _, _, _, rfl, rfl, rfl, rfl⟩⟩
def ed_InvalidKey : ErrD := ⟨"InvalidKey", "key", "an invalid key", "InvalidKey.__init__", defArgs (inClass (top 5) 0), defBody (inClass (top 5) 0), defScope (inClass (top 5) 0)⟩
theorem ef_InvalidKey : ErrF ed_InvalidKey := ⟨by decide, by decide, by decide, by decide, by decide, ⟨_, _, _, _, _, _, _, _, _, _, _, _, rfl, rfl, rfl, rfl⟩⟩
def ed_UnknownKey : ErrD := ⟨"UnknownKey", "key", "an unknown key", "UnknownKey.__init__", defArgs (inClass (top 6) 0), defBody (inClass (top 6) 0), defScope (inClass (top 6) 0)⟩
theorem ef_UnknownKey : ErrF ed_UnknownKey := ⟨by decide, by decide, by decide, by decide, by decide, ⟨_, _, _, _, _, _, _, _, _, _, _, _, rfl, rfl, rfl, rfl⟩⟩
def es : List ErrD := [ed_InvalidSetting, ed_InvalidSaying, ed_InvalidKey, ed_UnknownKey]
theorem efs : ∀ d, d ∈ es → ErrF d := fun d hd => by
  simp only [es, List.mem_cons, List.not_mem_nil, or_false] at hd
  rcases hd with rfl | rfl | rfl | rfl
  · exact ef_InvalidSetting
  · exact ef_InvalidSaying
  · exact ef_InvalidKey
  · exact ef_UnknownKey
def ys : List Str := ["GroupError", "InvalidSetting", "InvalidSaying", "InvalidKey", "UnknownKey"]
def tabs : List Tab := []
def gs : List GetD := [g_Setting_seats]
def tf : List He.Defn := [d_first_from.at_]
abbrev TT (K : PySem.W.Frag) : List (Addr × Str) := [((He.cT K d_first_from.at_).2, "first_from.<locals>.<lambda>")]
structure Tb (P : Program) (w : World) (K : PySem.W.Frag) (mg : Str → Option Value) (base : Heap) : Prop where
  t : ∀ p, p ∈ tf.map (He.cT K) → LamX.TabB base mg p.1 p.2
  g : ∀ d, d ∈ gs → PropOf K (ga K d.cls) d.fld (prA K d.cls d.fld) (prG K d.cls d.fld) ∧ ∃ fd, FunD K d.name d.qual d.params d.body d.scope [] [] (prG K d.cls d.fld) fd
  e : ∀ d, d ∈ es → ErrX.ErrT P K mg d.name d.fld (ga K d.name) ∧ ErrS K ys d.name
  d : ∀ t, t ∈ tabs → ∃ es n, KDict K w (t.1 K) es n
theorem er_InvalidSetting {P : Program} {w : World} {K : PySem.W.Frag} {mg : Str → Option Value} {base : Heap} (B : Tb P w K mg base) : ErrX.ErrT P K mg "InvalidSetting" "field" (ga K "InvalidSetting") ∧ ErrS K ys "InvalidSetting" := B.e ed_InvalidSetting (.head _)
theorem er_InvalidSaying {P : Program} {w : World} {K : PySem.W.Frag} {mg : Str → Option Value} {base : Heap} (B : Tb P w K mg base) : ErrX.ErrT P K mg "InvalidSaying" "saying" (ga K "InvalidSaying") ∧ ErrS K ys "InvalidSaying" := B.e ed_InvalidSaying (.tail _ (.head _))
theorem er_InvalidKey {P : Program} {w : World} {K : PySem.W.Frag} {mg : Str → Option Value} {base : Heap} (B : Tb P w K mg base) : ErrX.ErrT P K mg "InvalidKey" "key" (ga K "InvalidKey") ∧ ErrS K ys "InvalidKey" := B.e ed_InvalidKey (.tail _ (.tail _ (.head _)))
theorem er_UnknownKey {P : Program} {w : World} {K : PySem.W.Frag} {mg : Str → Option Value} {base : Heap} (B : Tb P w K mg base) : ErrX.ErrT P K mg "UnknownKey" "key" (ga K "UnknownKey") ∧ ErrS K ys "UnknownKey" := B.e ed_UnknownKey (.tail _ (.tail _ (.tail _ (.head _))))
abbrev Cx (K : PySem.W.Frag) (mg : Str → Option Value) : Prop := RD.Ctx fa fn ex K mg
section
variable {K : PySem.W.Frag} {mg : Str → Option Value}
theorem fr_ValueError (T : Cx K mg) : mg "ValueError" = none := T.fre 0
theorem fr_abs (T : Cx K mg) : mg "abs" = none := T.fre 1
theorem fr_all (T : Cx K mg) : mg "all" = none := T.fre 2
theorem fr_bool (T : Cx K mg) : mg "bool" = none := T.fre 3
theorem fr_enumerate (T : Cx K mg) : mg "enumerate" = none := T.fre 4
theorem fr_int (T : Cx K mg) : mg "int" = none := T.fre 5
theorem fr_isinstance (T : Cx K mg) : mg "isinstance" = none := T.fre 6
theorem fr_len (T : Cx K mg) : mg "len" = none := T.fre 7
theorem fr_list (T : Cx K mg) : mg "list" = none := T.fre 8
theorem fr_min (T : Cx K mg) : mg "min" = none := T.fre 9
theorem fr_ord (T : Cx K mg) : mg "ord" = none := T.fre 10
theorem fr_range (T : Cx K mg) : mg "range" = none := T.fre 11
theorem fr_repr (T : Cx K mg) : mg "repr" = none := T.fre 12
theorem fr_sorted (T : Cx K mg) : mg "sorted" = none := T.fre 13
theorem fr_str (T : Cx K mg) : mg "str" = none := T.fre 14
theorem fr_sum (T : Cx K mg) : mg "sum" = none := T.fre 15
theorem fr_tuple (T : Cx K mg) : mg "tuple" = none := T.fre 16
theorem gl_whole (T : Cx K mg) : mg "whole" = some (.ref (ga K "whole")) := T.glo 17
theorem gl_distance (T : Cx K mg) : mg "distance" = some (.ref (ga K "distance")) := T.glo 18
theorem gl_first_from (T : Cx K mg) : mg "first_from" = some (.ref (ga K "first_from")) := T.glo 19
theorem gl_is_key (T : Cx K mg) : mg "is_key" = some (.ref (ga K "is_key")) := T.glo 20
theorem gl_check_key (T : Cx K mg) : mg "check_key" = some (.ref (ga K "check_key")) := T.glo 21
theorem gl_place_of (T : Cx K mg) : mg "place_of" = some (.ref (ga K "place_of")) := T.glo 22
theorem gl_keeper (T : Cx K mg) : mg "keeper" = some (.ref (ga K "keeper")) := T.glo 23
theorem gl_shares (T : Cx K mg) : mg "shares" = some (.ref (ga K "shares")) := T.glo 24
theorem gl_l_box (T : Cx K mg) : mg "_law_box" = some (.ref (ga K "_law_box")) := T.glo 25
theorem gl_l_draw (T : Cx K mg) : mg "_law_draw" = some (.ref (ga K "_law_draw")) := T.glo 26
theorem gl_l_char (T : Cx K mg) : mg "_law_char" = some (.ref (ga K "_law_char")) := T.glo 27
theorem gl_l_word (T : Cx K mg) : mg "_law_word" = some (.ref (ga K "_law_word")) := T.glo 28
theorem gl_l_place (T : Cx K mg) : mg "_law_place" = some (.ref (ga K "_law_place")) := T.glo 29
theorem gl_l_walk (T : Cx K mg) : mg "_law_walk" = some (.ref (ga K "_law_walk")) := T.glo 30
theorem gl_l_alive (T : Cx K mg) : mg "_law_alive" = some (.ref (ga K "_law_alive")) := T.glo 31
theorem gl_l_is_integer (T : Cx K mg) : mg "_law_is_integer" = some (.ref (ga K "_law_is_integer")) := T.glo 32
theorem gl_l_edge (T : Cx K mg) : mg "_law_edge" = some (.ref (ga K "_law_edge")) := T.glo 33
theorem gl_l_numbers (T : Cx K mg) : mg "_law_numbers" = some (.ref (ga K "_law_numbers")) := T.glo 34
theorem gl_l_shares_hold (T : Cx K mg) : mg "_law_shares_hold" = some (.ref (ga K "_law_shares_hold")) := T.glo 35
theorem gl_l_word_holds (T : Cx K mg) : mg "_law_word_holds" = some (.ref (ga K "_law_word_holds")) := T.glo 36
theorem gl_l_no_keys (T : Cx K mg) : mg "_law_no_keys" = some (.ref (ga K "_law_no_keys")) := T.glo 37
theorem gl_l_refused (T : Cx K mg) : mg "_law_refused" = some (.ref (ga K "_law_refused")) := T.glo 38
theorem gl_law (T : Cx K mg) : mg "law" = some (.ref (ga K "law")) := T.glo 39
theorem gl_Setting (T : Cx K mg) : mg "Setting" = some (.ref (ga K "Setting")) := T.glo 40
theorem cl_Setting (T : Cx K mg) : Cls K (ga K "Setting") := T.cls 41
theorem mk_Setting (T : Cx K mg) : Mk K (ga K "Setting") (ma K (ga K "Setting") "__init__") := T.mkr 42
theorem na_Setting_bits (T : Cx K mg) : NoAttr K (ga K "Setting") "bits" := T.noat 43
theorem na_Setting_patience (T : Cx K mg) : NoAttr K (ga K "Setting") "patience" := T.noat 44
theorem na_Setting_room (T : Cx K mg) : NoAttr K (ga K "Setting") "room" := T.noat 45
theorem na_Setting_grace (T : Cx K mg) : NoAttr K (ga K "Setting") "grace" := T.noat 46
theorem na_Setting_helpers (T : Cx K mg) : NoAttr K (ga K "Setting") "helpers" := T.noat 47
theorem gl_KEY_MOST (T : Cx K mg) : ∃ u, mg "KEY_MOST" = some u ∧ RelV (.int 20) u := let ⟨t, h⟩ := T.int (x := "KEY_MOST") (z := 20) 48; ⟨_, h, t, rfl⟩
theorem gl_FACTOR (T : Cx K mg) : ∃ u, mg "FACTOR" = some u ∧ RelV (.int 31) u := let ⟨t, h⟩ := T.int (x := "FACTOR") (z := 31) 49; ⟨_, h, t, rfl⟩
theorem gl_KEY_SIGNS (T : Cx K mg) : ∃ u, mg "KEY_SIGNS" = some u ∧ RelV (.str "abcdefghijklmnopqrstuvwxyz0123456789") u := let ⟨t, h⟩ := T.str (x := "KEY_SIGNS") (z := "abcdefghijklmnopqrstuvwxyz0123456789") 50; ⟨_, h, t, rfl⟩
theorem gl_GroupError (T : Cx K mg) : mg "GroupError" = some (.ref (ga K "GroupError")) := T.glo 51
theorem gl_InvalidSetting (T : Cx K mg) : mg "InvalidSetting" = some (.ref (ga K "InvalidSetting")) := T.glo 52
theorem gl_InvalidSaying (T : Cx K mg) : mg "InvalidSaying" = some (.ref (ga K "InvalidSaying")) := T.glo 53
theorem gl_InvalidKey (T : Cx K mg) : mg "InvalidKey" = some (.ref (ga K "InvalidKey")) := T.glo 54
theorem gl_UnknownKey (T : Cx K mg) : mg "UnknownKey" = some (.ref (ga K "UnknownKey")) := T.glo 55
end

/-- the numbers of a setting -/
structure Stg where
  bits : Int
  pat : Int
  room : Int
  grace : Int
  hel : Int
structure Stg.Ok (s : Stg) : Prop where
  b0 : 1 ≤ s.bits
  b1 : s.bits ≤ 8
  p0 : 1 ≤ s.pat
  p1 : s.pat ≤ 6
  r0 : 1 ≤ s.room
  r1 : s.room ≤ 64
  g0 : 1 ≤ s.grace
  g1 : s.grace ≤ 200
  h0 : 0 ≤ s.hel
  h1 : s.hel ≤ 3
@[irreducible] def Stg.ring (s : Stg) : Int := 2 ^ s.bits.toNat
theorem Stg.ring_eq (s : Stg) : s.ring = 2 ^ s.bits.toNat := by
  unfold Stg.ring
  rfl
def Stg.fs (s : Stg) : List (Str × V) := [(("bits" : Str), .int s.bits), (("patience" : Str), .int s.pat), (("room" : Str), .int s.room), (("grace" : Str), .int s.grace), (("helpers" : Str), .int s.hel)]
theorem Stg.Ok.ring {s : Stg} (h : s.Ok) : s.ring = 2 ∨ s.ring = 4 ∨ s.ring = 8 ∨ s.ring = 16 ∨ s.ring = 32 ∨ s.ring = 64 ∨ s.ring = 128 ∨ s.ring = 256 := by
  have h0 := h.b0
  have h1 := h.b1
  have e : s.bits = 1 ∨ s.bits = 2 ∨ s.bits = 3 ∨ s.bits = 4 ∨ s.bits = 5 ∨ s.bits = 6 ∨ s.bits = 7 ∨ s.bits = 8 := by omega
  rw [Stg.ring_eq]
  rcases e with e | e | e | e | e | e | e | e <;> rw [e] <;> decide
theorem Stg.Ok.r2 {s : Stg} (h : s.Ok) : 2 ≤ s.ring := by
  have := h.ring
  omega
theorem Stg.Ok.r256 {s : Stg} (h : s.Ok) : s.ring ≤ 256 := by
  have := h.ring
  omega
/-- a setting stands at p -/
structure SetAt (K : PySem.W.Frag) (H : Hp) (p : Addr) (s : Stg) : Prop where
  ex : ∃ dx : Addr, H p = some (.ins (ga K "Setting") dx s.fs)
  ok : s.Ok
theorem SetAt.kp {K : PySem.W.Frag} {H H' : Hp} {p : Addr} {s : Stg} {ps : List Addr} (S : SetAt K H p s) (k : Kp ps H H') (n : p ∉ ps) : SetAt K H' p s := by
  obtain ⟨⟨dx, h⟩, ok⟩ := S
  exact ⟨⟨dx, k _ _ h n⟩, ok⟩
theorem SetAt.k0 {K : PySem.W.Frag} {H H' : Hp} {p : Addr} {s : Stg} (S : SetAt K H p s) (k : Kp [] H H') : SetAt K H' p s := S.kp k (by simp)
theorem SetAt.k1 {K : PySem.W.Frag} {H H' : Hp} {p q : Addr} {s : Stg} (S : SetAt K H p s) (k : Kp [q] H H') (n : p ≠ q) : SetAt K H' p s := S.kp k (by simp [n])
theorem SetAt.kt {K : PySem.W.Frag} {H H' : Hp} {p : Addr} {s : Stg} {TT : List (Addr × Str)} (S : SetAt K H p s) (k : Kt TT [] H H') : SetAt K H' p s := by
  obtain ⟨⟨dx, h⟩, ok⟩ := S
  exact ⟨⟨dx, k.g0 (by intro _ z; cases z) h⟩, ok⟩
theorem SetAt.nelst {K : PySem.W.Frag} {H : Hp} {p q : Addr} {s : Stg} {xs : List V} (S : SetAt K H p s) (h : H q = some (.lst xs)) : p ≠ q := by
  obtain ⟨⟨dx, e⟩, ok⟩ := S
  exact ne_of e h (by intro z; cases z)

theorem SetAt.neins {K : PySem.W.Frag} {H : Hp} {p q C dx : Addr} {s : Stg} {f : Str} {v : V} {fs : List (Str × V)} (S : SetAt K H p s) (h : H q = some (.ins C dx ((f, v) :: fs))) (n : f ≠ "bits") : p ≠ q := by
  obtain ⟨⟨dx, e⟩, ok⟩ := S
  refine ne_of e h fun z => ?_
  injection z with _ _ e1
  injection e1 with e2 _
  injection e2 with e3
  exact n e3.symm
theorem SetAt.neins' {K : PySem.W.Frag} {H : Hp} {p q C dx : Addr} {s : Stg} (S : SetAt K H p s) (h : H q = some (.ins C dx [])) : p ≠ q := by
  obtain ⟨⟨dx, e⟩, ok⟩ := S
  refine ne_of e h fun z => ?_
  injection z with _ _ e1
  cases e1
theorem SetAt.nedK {K : PySem.W.Frag} {H : Hp} {p q : Addr} {s : Stg} {xs : List (Key × V)} (S : SetAt K H p s) (h : H q = some (.dK xs)) : p ≠ q := by
  obtain ⟨⟨dx, e⟩, ok⟩ := S
  exact ne_of e h (by intro z; cases z)
theorem con_MOST_BITS {K : PySem.W.Frag} {mg : Str → Option Value} (T : Cx K mg) : ∃ u, Con K (ga K "Setting") "MOST_BITS" (.int 8) u := conB_ok (v := .int 8) (ba T.ex).1
theorem con_MOST_PATIENCE {K : PySem.W.Frag} {mg : Str → Option Value} (T : Cx K mg) : ∃ u, Con K (ga K "Setting") "MOST_PATIENCE" (.int 6) u := conB_ok (v := .int 6) (ba (ba T.ex).2).1
theorem con_MOST_ROOM {K : PySem.W.Frag} {mg : Str → Option Value} (T : Cx K mg) : ∃ u, Con K (ga K "Setting") "MOST_ROOM" (.int 64) u := conB_ok (v := .int 64) (ba (ba (ba T.ex).2).2).1
theorem con_MOST_GRACE {K : PySem.W.Frag} {mg : Str → Option Value} (T : Cx K mg) : ∃ u, Con K (ga K "Setting") "MOST_GRACE" (.int 200) u := conB_ok (v := .int 200) (ba (ba (ba (ba T.ex).2).2).2).1
theorem con_MOST_HELPERS {K : PySem.W.Frag} {mg : Str → Option Value} (T : Cx K mg) : ∃ u, Con K (ga K "Setting") "MOST_HELPERS" (.int 3) u := conB_ok (v := .int 3) (ba (ba (ba (ba T.ex).2).2).2).2
theorem paired_imp {α β : Type} {R S : α → β → Prop} (h : ∀ a b, R a b → S a b) : ∀ {xs : List α} {ys : List β}, Paired R xs ys → Paired S xs ys
  | _, _, .nil => .nil
  | _, _, .cons a r => .cons (h _ _ a) (paired_imp h r)
theorem paired_snoc {α β : Type} {R : α → β → Prop} {a : α} {b : β} (h : R a b) : ∀ {xs : List α} {ys : List β}, Paired R xs ys → Paired R (xs ++ [a]) (ys ++ [b])
  | _, _, .nil => .cons h .nil
  | _, _, .cons q r => .cons q (paired_snoc h r)
theorem paired_get {α β : Type} {R : α → β → Prop} : ∀ {xs : List α} {ys : List β}, Paired R xs ys → ∀ {i : Nat} {x : α}, xs[i]? = some x → ∃ y, ys[i]? = some y ∧ R x y
  | _, _, .nil, i, x, e => by simp at e
  | _, _, .cons q r, 0, x, e => by
    simp at e
    subst e
    exact ⟨_, rfl, q⟩
  | _, _, .cons q r, i + 1, x, e => by
    obtain ⟨y, h1, h2⟩ := paired_get r (i := i) (x := x) (by simpa using e)
    exact ⟨y, by simpa using h1, h2⟩
theorem paired_len {α β : Type} {R : α → β → Prop} {xs : List α} {ys : List β} (h : Paired R xs ys) : xs.length = ys.length := Paired.length h
theorem paired_mem {α β : Type} {R : α → β → Prop} : ∀ {xs : List α} {ys : List β}, Paired R xs ys → ∀ {x : α}, x ∈ xs → ∃ y, y ∈ ys ∧ R x y
  | _, _, .cons q r, x, e => by
    rcases List.mem_cons.mp e with rfl | e
    · exact ⟨_, List.mem_cons_self, q⟩
    · obtain ⟨y, h1, h2⟩ := paired_mem r e
      exact ⟨y, List.mem_cons_of_mem _ h1, h2⟩
theorem paired_memimp {α β : Type} {R S : α → β → Prop} : ∀ {xs : List α} {ys : List β}, (∀ a b, a ∈ xs → R a b → S a b) → Paired R xs ys → Paired S xs ys
  | _, _, _, .nil => .nil
  | _, _, h, .cons q r => .cons (h _ _ List.mem_cons_self q) (paired_memimp (fun a b m => h a b (List.mem_cons_of_mem _ m)) r)
theorem nd_take {xs : List Int} (nd : xs.Nodup) {i : Nat} (hi : i < xs.length) : xs[i] ∉ xs.take i := fun m => by
  obtain ⟨j, hj, e⟩ := List.mem_take_iff_getElem.mp m
  have := (List.getElem_inj nd).mp e
  omega
theorem dmap_some {f : Int → V} {a : Int} {xs : List Int} : (valV (dmap xs f) (.inl a)).isSome = decide (a ∈ xs) := by
  rw [dmap_val]
  by_cases h : a ∈ xs
  · rw [if_pos h, decide_eq_true h]
    rfl
  · rw [if_neg h, decide_eq_false h]
    rfl

def Ring (r : Int) : Prop := r = 2 ∨ r = 4 ∨ r = 8 ∨ r = 16 ∨ r = 32 ∨ r = 64 ∨ r = 128 ∨ r = 256
theorem Ring.pos {r : Int} (hr : Ring r) : 0 < r := by
  rcases hr with rfl | rfl | rfl | rfl | rfl | rfl | rfl | rfl <;> omega
theorem Ring.le {r : Int} (hr : Ring r) : r ≤ 256 := by
  rcases hr with rfl | rfl | rfl | rfl | rfl | rfl | rfl | rfl <;> omega
theorem Ring.two {r : Int} (hr : Ring r) : 2 ≤ r := by
  rcases hr with rfl | rfl | rfl | rfl | rfl | rfl | rfl | rfl <;> omega
theorem key_inj {r a b c : Int} (hr : Ring r) (a0 : 0 ≤ a) (a1 : a < r) (b0 : 0 ≤ b) (b1 : b < r) (h : (a - c) % r = (b - c) % r) : a = b := by
  rcases hr with rfl | rfl | rfl | rfl | rfl | rfl | rfl | rfl <;> omega
theorem key_to {r a c : Int} (hr : Ring r) (a0 : 0 ≤ a) (a1 : a < r) : (c + (a - c) % r) % r = a := by
  rcases hr with rfl | rfl | rfl | rfl | rfl | rfl | rfl | rfl <;> omega
def FirstOf (r place : Int) (xs : List Int) : Option Int → Prop
  | none => xs = []
  | some b => b ∈ xs ∧ ∀ z, z ∈ xs → (b - place) % r ≤ (z - place) % r
theorem first_uniq {r place : Int} {xs : List Int} {a b : Option Int} (hr : Ring r) (hx : ∀ z, z ∈ xs → 0 ≤ z ∧ z < r) (ha : FirstOf r place xs a) (hb : FirstOf r place xs b) : a = b := by
  cases a with
  | none =>
    cases b with
    | none => rfl
    | some b =>
      have e : xs = [] := ha
      rw [e] at hb
      cases hb.1
  | some a =>
    cases b with
    | none =>
      have e : xs = [] := hb
      rw [e] at ha
      cases ha.1
    | some b =>
      have h1 := ha.2 b hb.1
      have h2 := hb.2 a ha.1
      have a1 := hx a ha.1
      have b1 := hx b hb.1
      rw [key_inj (c := place) hr a1.1 a1.2 b1.1 b1.2 (by omega)]
theorem first_at {r p : Int} {xs : List Int} {i : Nat} (hr : Ring r) (hx : ∀ z, z ∈ xs → 0 ≤ z ∧ z < r) (hn : ∀ j : Nat, j < i → (p + (j : Int)) % r ∉ xs) (hi : (i : Int) < r) (h : (p + (i : Int)) % r ∈ xs) : FirstOf r p xs (some ((p + (i : Int)) % r)) := by
  refine ⟨h, fun z hz => ?_⟩
  have z1 := hx z hz
  have e1 : ((p + (i : Int)) % r - p) % r = i := by rcases hr with rfl | rfl | rfl | rfl | rfl | rfl | rfl | rfl <;> omega
  rw [e1]
  have k0 : 0 ≤ (z - p) % r := by rcases hr with rfl | rfl | rfl | rfl | rfl | rfl | rfl | rfl <;> omega
  refine Classical.byContradiction fun c => ?_
  refine hn ((z - p) % r).toNat (by omega) ?_
  rw [Int.toNat_of_nonneg k0, key_to hr z1.1 z1.2]
  exact hz
theorem first_no {r p : Int} {xs : List Int} (hr : Ring r) (hx : ∀ z, z ∈ xs → 0 ≤ z ∧ z < r) (hn : ∀ j : Nat, j < r.toNat → (p + (j : Int)) % r ∉ xs) : FirstOf r p xs none := by
  show xs = []
  cases xs with
  | nil => rfl
  | cons z xs =>
    have z1 := hx z List.mem_cons_self
    have k0 : 0 ≤ (z - p) % r ∧ (z - p) % r < r := by rcases hr with rfl | rfl | rfl | rfl | rfl | rfl | rfl | rfl <;> omega
    refine absurd ?_ (hn ((z - p) % r).toNat (by omega))
    rw [Int.toNat_of_nonneg k0.1, key_to hr z1.1 z1.2]
    exact List.mem_cons_self
def wkF (r p : Int) (xs : List Int) : Nat → Nat → Option Int
  | 0, _ => none
  | n + 1, i => if (p + (i : Int)) % r ∈ xs then some ((p + (i : Int)) % r) else wkF r p xs n (i + 1)
/-- the first seat on a walk from p -/
def wk (r p : Int) (xs : List Int) : Option Int := wkF r p xs r.toNat 0
theorem wkF_is {r p : Int} {xs : List Int} (hr : Ring r) (hx : ∀ z, z ∈ xs → 0 ≤ z ∧ z < r) : ∀ (n i : Nat), n + i = r.toNat → (∀ j : Nat, j < i → (p + (j : Int)) % r ∉ xs) → FirstOf r p xs (wkF r p xs n i)
  | 0, i, e, h => first_no hr hx fun j hj => h j (by omega)
  | n + 1, i, e, h => by
    unfold wkF
    split
    · next h1 => exact first_at hr hx h (by omega) h1
    · next h1 =>
      refine wkF_is hr hx n (i + 1) (by omega) fun j hj => ?_
      rcases Nat.lt_succ_iff_lt_or_eq.mp hj with h2 | rfl
      · exact h j h2
      · exact h1
theorem wk_is {r : Int} (p : Int) {xs : List Int} (hr : Ring r) (hx : ∀ z, z ∈ xs → 0 ≤ z ∧ z < r) : FirstOf r p xs (wk r p xs) := wkF_is hr hx _ 0 (by omega) (fun j hj => by omega)
theorem wk_eq {r p : Int} {xs : List Int} {o : Option Int} (hr : Ring r) (hx : ∀ z, z ∈ xs → 0 ≤ z ∧ z < r) (h : FirstOf r p xs o) : o = wk r p xs := first_uniq hr hx h (wk_is p hr hx)
theorem wk_mem {r p : Int} {xs : List Int} {b : Int} (hr : Ring r) (hx : ∀ z, z ∈ xs → 0 ≤ z ∧ z < r) (h : wk r p xs = some b) : b ∈ xs := by
  have := wk_is p hr hx
  rw [h] at this
  exact this.1
theorem wk_some {r p : Int} {xs : List Int} {z : Int} (hr : Ring r) (hx : ∀ z, z ∈ xs → 0 ≤ z ∧ z < r) (h : z ∈ xs) : ∃ b, wk r p xs = some b ∧ b ∈ xs := by
  have := wk_is p hr hx
  cases e : wk r p xs with
  | none =>
    rw [e] at this
    rw [show xs = [] from this] at h
    cases h
  | some b =>
    rw [e] at this
    exact ⟨b, rfl, this.1⟩
/-- one seat more -/
theorem wk_add {r p c : Int} {xs ys : List Int} (hr : Ring r) (hx : ∀ z, z ∈ xs → 0 ≤ z ∧ z < r) (hy : ∀ z, z ∈ ys → 0 ≤ z ∧ z < r) (e : ∀ z, z ∈ ys ↔ z ∈ xs ∨ z = c) (n : wk r p xs ≠ wk r p ys) : wk r p ys = some c := by
  obtain ⟨b, hb, hm⟩ := wk_some (p := p) hr hy ((e c).mpr (.inr rfl))
  rcases (e b).mp hm with h | h
  · refine absurd ?_ n
    rw [hb]
    refine (wk_eq hr hx (o := some b) ⟨h, fun z hz => ?_⟩).symm
    have := wk_is p hr hy
    rw [hb] at this
    exact this.2 z ((e z).mpr (.inl hz))
  · rw [hb, h]
/-- one seat less -/
theorem wk_less {r p c : Int} {xs ys : List Int} (hr : Ring r) (hx : ∀ z, z ∈ xs → 0 ≤ z ∧ z < r) (hy : ∀ z, z ∈ ys → 0 ≤ z ∧ z < r) (e : ∀ z, z ∈ ys ↔ z ∈ xs ∧ z ≠ c) (hc : c ∈ xs) (n : wk r p xs ≠ wk r p ys) : wk r p xs = some c ∧ wk r p ys = wk r (c + 1) ys := by
  have h1 : wk r p xs = some c := wk_add hr hy hx (fun z => by
    rw [e]
    constructor
    · intro h
      by_cases hz : z = c
      · exact .inr hz
      · exact .inl ⟨h, hz⟩
    · rintro (h | rfl)
      · exact h.1
      · exact hc) (Ne.symm n)
  refine ⟨h1, ?_⟩
  have w1 := wk_is p hr hx
  rw [h1] at w1
  have w2 := wk_is (c + 1) hr hy
  cases hw : wk r (c + 1) ys with
  | none =>
    rw [hw] at w2
    have e0 : ys = [] := w2
    exact (wk_eq hr hy (o := none) e0).symm
  | some b =>
    rw [hw] at w2
    have e2 := (e b).mp w2.1
    have b1 := hy b w2.1
    have c1 := hx c hc
    refine (wk_eq hr hy (o := some b) ⟨w2.1, fun z hz => ?_⟩).symm
    have z1 := hy z hz
    have z2 := w2.2 z hz
    have z3 := w1.2 z ((e z).mp hz).1
    have z4 := w1.2 b e2.1
    have nz := ((e z).mp hz).2
    have nb := e2.2
    rcases hr with rfl | rfl | rfl | rfl | rfl | rfl | rfl | rfl <;> omega
/-- how far it is back from a seat to the one before it -/
structure RcR (r s : Int) (xs : List Int) (k : Int) : Prop where
  lo : 1 ≤ k
  hi : k ≤ r
  at_ : k < r → (s - k) % r ∈ xs
  no : ∀ j, 1 ≤ j → j < k → (s - j) % r ∉ xs
theorem RcR.uniq {r s : Int} {xs : List Int} {k l : Int} (a : RcR r s xs k) (b : RcR r s xs l) : k = l := by
  have h1 : ¬ k < l := fun h => b.no k a.lo h (a.at_ (by have := b.hi; omega))
  have h2 : ¬ l < k := fun h => a.no l b.lo h (b.at_ (by have := a.hi; omega))
  omega
def rcF (r s : Int) (xs : List Int) : Nat → Nat → Int
  | 0, _ => r
  | n + 1, i => if (s - (i : Int)) % r ∈ xs then (i : Int) else rcF r s xs n (i + 1)
def rch (r s : Int) (xs : List Int) : Int := rcF r s xs (r.toNat - 1) 1
theorem rcF_is {r s : Int} {xs : List Int} : ∀ (n i : Nat), 1 ≤ i → (n : Int) + i = r → (∀ j : Int, 1 ≤ j → j < i → (s - j) % r ∉ xs) → RcR r s xs (rcF r s xs n i)
  | 0, i, h1, e, h => ⟨by show 1 ≤ r; omega, Int.le_refl _, fun z => absurd z (Int.lt_irrefl _), fun j h2 h3 => h j h2 (by have : j < r := h3; omega)⟩
  | n + 1, i, h1, e, h => by
    unfold rcF
    split
    · next h2 => exact ⟨by omega, by omega, fun _ => h2, h⟩
    · next h2 =>
      refine rcF_is n (i + 1) (by omega) (by omega) fun j h3 h4 => ?_
      by_cases h5 : j = i
      · rw [h5]
        exact h2
      · exact h j h3 (by omega)
theorem rch_is {r : Int} (s : Int) (xs : List Int) (hr : Ring r) : RcR r s xs (rch r s xs) := rcF_is _ 1 (by omega) (by have := hr.two; omega) (fun j h1 h2 => by omega)
theorem rch_eq {r s : Int} {xs : List Int} {k : Int} (hr : Ring r) (h : RcR r s xs k) : k = rch r s xs := h.uniq (rch_is s xs hr)
/-- the width of a seat in an ascending list -/
theorem rch_width {r x y : Int} {xs : List Int} (hr : Ring r) (hx : ∀ z, z ∈ xs → 0 ≤ z ∧ z < r) (mx : x ∈ xs) (my : y ∈ xs) (h : (x ≤ y ∧ ∀ z, z ∈ xs → x ≤ z ∧ z ≤ y) ∨ (y < x ∧ ∀ z, z ∈ xs → z ≤ y ∨ x ≤ z)) : (if (x - y) % r = 0 then r else (x - y) % r) = rch r x xs := by
  have x1 := hx x mx
  have y1 := hx y my
  refine rch_eq hr ⟨?_, ?_, fun h1 => ?_, fun j h1 h2 hm => ?_⟩
  · split
    · have := hr.two; omega
    · rcases hr with rfl | rfl | rfl | rfl | rfl | rfl | rfl | rfl <;> omega
  · split
    · omega
    · rcases hr with rfl | rfl | rfl | rfl | rfl | rfl | rfl | rfl <;> omega
  · split
    · next h2 =>
      rw [if_pos h2] at h1
      omega
    · next h2 =>
      have : (x - (x - y) % r) % r = y := by rcases hr with rfl | rfl | rfl | rfl | rfl | rfl | rfl | rfl <;> omega
      rw [this]
      exact my
  · have z1 := hx _ hm
    rcases h with ⟨h3, h4⟩ | ⟨h3, h4⟩
    · have h5 := h4 _ hm
      split at h2
      · next h6 =>
        rcases hr with rfl | rfl | rfl | rfl | rfl | rfl | rfl | rfl <;> omega
      · next h6 =>
        rcases hr with rfl | rfl | rfl | rfl | rfl | rfl | rfl | rfl <;> omega
    · have h5 := h4 _ hm
      split at h2
      · next h6 =>
        rcases hr with rfl | rfl | rfl | rfl | rfl | rfl | rfl | rfl <;> omega
      · next h6 =>
        rcases hr with rfl | rfl | rfl | rfl | rfl | rfl | rfl | rfl <;> omega
/-- a seat more: who is behind it hands over, the others keep -/
theorem rch_more {r c s : Int} {xs ys : List Int} (hr : Ring r) (hx : ∀ z, z ∈ xs → 0 ≤ z ∧ z < r) (c1 : 0 ≤ c ∧ c < r) (e : ∀ z, z ∈ ys ↔ z ∈ xs ∨ z = c) (nc : c ∉ xs) (hs : s ∈ xs) :
    rch r s xs = rch r s ys + (if wk r (c + 1) xs = some s then rch r c ys else 0) := by
  have s1 := hx s hs
  have nsc : s ≠ c := fun h => nc (h ▸ hs)
  obtain ⟨b, hb, mb⟩ := wk_some (p := c + 1) hr hx hs
  have w := wk_is (c + 1) hr hx
  rw [hb] at w
  have b1 := hx b mb
  have nbc : b ≠ c := fun h => nc (h ▸ mb)
  have wm := w.2
  rw [hb]
  by_cases hsb : b = s
  · subst hsb
    rw [if_pos rfl]
    have d0 : 1 ≤ (b - c) % r ∧ (b - c) % r < r := by rcases hr with rfl | rfl | rfl | rfl | rfl | rfl | rfl | rfl <;> omega
    have nin : ∀ j, 1 ≤ j → j < (b - c) % r → (b - j) % r ∉ ys := fun j h1 h2 hm => by
      rcases (e _).mp hm with h | h
      · have h3 := wm _ h
        rcases hr with rfl | rfl | rfl | rfl | rfl | rfl | rfl | rfl <;> omega
      · rcases hr with rfl | rfl | rfl | rfl | rfl | rfl | rfl | rfl <;> omega
    have back : (b - (b - c) % r) % r = c := by rcases hr with rfl | rfl | rfl | rfl | rfl | rfl | rfl | rfl <;> omega
    have e1 : (b - c) % r = rch r b ys := rch_eq hr ⟨d0.1, by omega, fun _ => by rw [back]; exact (e c).mpr (.inr rfl), nin⟩
    have kc := rch_is c ys hr
    have k1 := kc.lo
    have k2 := kc.hi
    have k3 : (b - c) % r + rch r c ys ≤ r := Classical.byContradiction fun h => by
      refine kc.no (r - (b - c) % r) (by omega) (by omega) ?_
      have : (c - (r - (b - c) % r)) % r = b := by rcases hr with rfl | rfl | rfl | rfl | rfl | rfl | rfl | rfl <;> omega
      rw [this]
      exact (e b).mpr (.inl hs)
    have sh : ∀ j, (b - ((b - c) % r + j)) % r = (c - j) % r := fun j => by rcases hr with rfl | rfl | rfl | rfl | rfl | rfl | rfl | rfl <;> omega
    rw [← e1]
    refine (rch_eq hr ⟨by omega, k3, fun h => ?_, fun j h1 h2 hm => ?_⟩).symm
    · rw [sh]
      rcases (e _).mp (kc.at_ (by omega)) with h3 | h3
      · exact h3
      · rcases hr with rfl | rfl | rfl | rfl | rfl | rfl | rfl | rfl <;> omega
    · by_cases h3 : j < (b - c) % r
      · exact nin j h1 h3 ((e _).mpr (.inl hm))
      · by_cases h4 : j = (b - c) % r
        · rw [h4, back] at hm
          exact nc hm
        · have h5 := sh (j - (b - c) % r)
          rw [show (b - c) % r + (j - (b - c) % r) = j from by omega] at h5
          rw [h5] at hm
          exact kc.no (j - (b - c) % r) (by omega) (by omega) ((e _).mpr (.inl hm))
  · rw [if_neg (fun h => hsb (Option.some.inj h)), Int.add_zero]
    have ws := wm s hs
    have d0 : 1 ≤ (s - b) % r ∧ (s - b) % r < (s - c) % r ∧ (s - c) % r < r := by rcases hr with rfl | rfl | rfl | rfl | rfl | rfl | rfl | rfl <;> omega
    have kb := rch_is s ys hr
    have k1 := kb.lo
    have k2 : rch r s ys ≤ (s - b) % r := Classical.byContradiction fun h => by
      refine kb.no ((s - b) % r) d0.1 (by omega) ?_
      have : (s - (s - b) % r) % r = b := by rcases hr with rfl | rfl | rfl | rfl | rfl | rfl | rfl | rfl <;> omega
      rw [this]
      exact (e b).mpr (.inl mb)
    refine (rch_eq hr ⟨k1, by omega, fun h => ?_, fun j h1 h2 hm => kb.no j h1 h2 ((e _).mpr (.inl hm))⟩).symm
    rcases (e _).mp (kb.at_ h) with h3 | h3
    · exact h3
    · generalize rch r s ys = k at *
      rcases hr with rfl | rfl | rfl | rfl | rfl | rfl | rfl | rfl <;> omega

theorem lamU_first_from {K : PySem.W.Frag} {mg : Str → Option Value} (T : Cx K mg) : ∀ p ∈ TT K, p.1 = (He.cT K d_first_from.at_).2 → p.2 = "first_from.<locals>.<lambda>" := fun p hp _ => by rw [List.mem_singleton.mp hp]
theorem Stg.Ok.rg {s : Stg} (h : s.Ok) : Ring s.ring := h.ring
def SIGNS : Str := "abcdefghijklmnopqrstuvwxyz0123456789"
/-- a key -/
def kOk (t : Str) : Bool := !decide (t = ("" : Str)) && (decide (t.length ≤ 20) && t.cps.toList.all fun c => decide (c ∈ SIGNS.cps.toList))
/-- a key's place -/
def plc (r : Int) (w : Str) : Int := w.cps.toList.foldl (fun n (c : Nat) => (n * 31 + (c : Int)) % r) 0
/-- who keeps it -/
def kpo (r : Int) (xs : List Int) (w : Str) : Option Int := wk r (plc r w) xs
/-- the keys that move -/
def mvd (r : Int) (xs ys : List Int) (ws : List Str) : List Str := ws.filter fun w => !decide (kpo r xs w = kpo r ys w)
/-- rows of what moves -/
def RowsM (H : Hp) (r : Int) (xs ys : List Int) (ts : List Addr) (ws : List Str) : Prop := Paired (fun t w => H t = some (.tup [.str w, ov (kpo r xs w), ov (kpo r ys w)])) ts ws
/-- seats of a ring -/
structure St (r : Int) (xs : List Int) : Prop where
  nd : xs.Nodup
  rng : ∀ z, z ∈ xs → 0 ≤ z ∧ z < r
  len : xs.length ≤ 256
/-- a table with texts as keys -/
def tmap (ws : List Str) (f : Str → V) : List (Key × V) := ws.map fun w => (.inr w, f w)
def sset (f : Str → V) (a : Str) (v : V) : Str → V := fun x => if x = a then v else f x
theorem tmap_val {f : Str → V} (a : Str) : ∀ xs : List Str, valV (tmap xs f) (.inr a) = if a ∈ xs then some (f a) else none
  | [] => rfl
  | x :: r => by
    have ih := tmap_val (f := f) a r
    unfold tmap at ih ⊢
    rw [List.map_cons]
    by_cases h : x = a
    · subst h
      rw [valV_pos rfl, if_pos (.head _)]
    · rw [valV_neg (fun e => h (Sum.inr.inj e)), ih]
      by_cases h2 : a ∈ r
      · rw [if_pos h2, if_pos (List.mem_cons_of_mem _ h2)]
      · rw [if_neg h2, if_neg (by simp [h2, Ne.symm h])]
theorem tmap_in {f : Str → V} {a : Str} {xs : List Str} (h : a ∈ xs) : valV (tmap xs f) (.inr a) = some (f a) := by rw [tmap_val, if_pos h]
theorem tmap_out {f : Str → V} {a : Str} {xs : List Str} (h : a ∉ xs) : valV (tmap xs f) (.inr a) = none := by rw [tmap_val, if_neg h]
theorem tmap_congr {f g : Str → V} {xs : List Str} (h : ∀ x, x ∈ xs → f x = g x) : tmap xs f = tmap xs g := List.map_congr_left fun x hx => by rw [h x hx]
theorem tmap_new {f : Str → V} {a : Str} {v : V} {xs : List Str} (h : a ∉ xs) : putK (tmap xs f) (.inr a) v = tmap (xs ++ [a]) (sset f a v) := by
  rw [putK_new _ (tmap_out h)]
  unfold tmap
  rw [List.map_append]
  congr 1
  · refine List.map_congr_left fun x hx => ?_
    unfold sset
    rw [if_neg (show ¬ x = a from fun e => h (e ▸ hx))]
  · unfold sset
    simp
theorem tmap_old {f : Str → V} {a : Str} {v : V} {xs : List Str} (h : a ∈ xs) : putK (tmap xs f) (.inr a) v = tmap xs (sset f a v) := by
  unfold putK tmap
  have e : ((xs.map fun x => ((Sum.inr x : Key), f x)).any fun p => decide (p.1 = Sum.inr a)) = true := by
    rw [List.any_eq_true]
    exact ⟨_, List.mem_map_of_mem h, decide_eq_true rfl⟩
  rw [if_pos (by simpa using e), List.map_map]
  refine List.map_congr_left fun x _ => ?_
  unfold sset
  by_cases hx : x = a
  · subst hx
    simp
  · simp [hx]
theorem tmap_len {f : Str → V} {xs : List Str} : (tmap xs f).length = xs.length := by
  unfold tmap
  rw [List.length_map]
structure Box (H : Hp) (p c : Addr) : Prop where
  ex : ∃ (ns : List Int) (a b d e : Int), H p = some (.lst [.ref c, .int a, .int b, .int d, .int e]) ∧ H c = some (.lst (ns.map V.int)) ∧ ns.length ≤ 63 ∧ 0 ≤ a
  ne : c ≠ p
theorem Box.kp {H H' : Hp} {p c : Addr} {ps : List Addr} (B : Box H p c) (k : Kp ps H H') (n1 : p ∉ ps) (n2 : c ∉ ps) : Box H' p c := by
  obtain ⟨⟨ns, a, b, d, e, h1, h2, h3⟩, ne⟩ := B
  exact ⟨⟨ns, a, b, d, e, k _ _ h1 n1, k _ _ h2 n2, h3⟩, ne⟩
theorem Box.k0 {H H' : Hp} {p c : Addr} (B : Box H p c) (k : Kp [] H H') : Box H' p c := B.kp k (by simp) (by simp)
theorem Box.new {H : Hp} {p c q : Addr} {o : HO} (B : Box H p c) (k : H q = none) : Box (upd H q o) p c := B.k0 (Kp.new k)
theorem Box.ktp {H H' : Hp} {p c : Addr} {TT : List (Addr × Str)} {ps : List Addr} (B : Box H p c) (k : Kt TT ps H H') (n1 : p ∉ ps) (n2 : c ∉ ps) : Box H' p c := by
  obtain ⟨⟨ns, a, b, d, e, h1, h2, h3⟩, ne⟩ := B
  exact ⟨⟨ns, a, b, d, e, k.1 _ _ h1 (by intro _ z; cases z) n1, k.1 _ _ h2 (by intro _ z; cases z) n2, h3⟩, ne⟩
theorem Box.at {H : Hp} {p c : Addr} (B : Box H p c) : ∃ r, H p = some (.lst (.ref c :: r)) ∧ ∃ ns : List Int, H c = some (.lst (ns.map V.int)) := by
  obtain ⟨⟨ns, a, b, d, e, h1, h2, h3⟩, ne⟩ := B
  exact ⟨_, h1, ns, h2⟩
theorem Box.ne1 {H : Hp} {p c q : Addr} (B : Box H p c) (k : H q = none) : p ≠ q := by
  obtain ⟨r, h, _⟩ := B.at
  exact ne_of_none h k
theorem Box.ne2 {H : Hp} {p c q : Addr} (B : Box H p c) (k : H q = none) : c ≠ q := by
  obtain ⟨r, _, ns, h⟩ := B.at
  exact ne_of_none h k
theorem Box.tabs {H H' : Hp} {p c : Addr} {TT : List (Addr × Str)} (B : Box H p c) (h : LamX.Tabs TT H) (k : Kp [p, c] H H') : Kt TT [p, c] H H' := by
  obtain ⟨r, h1, ns, h2⟩ := B.at
  refine Kt.kp h k fun q hq => ?_
  simp only [List.mem_cons, List.not_mem_nil, or_false] at hq
  rcases hq with rfl | rfl
  · exact ⟨_, h1, trivial⟩
  · exact ⟨_, h2, trivial⟩
theorem ne_ints {x : Addr} {r : List V} : ∀ ps : List Int, (ps.map V.int) ≠ V.ref x :: r
  | [], e => by cases e
  | p :: q, e => by
    injection e with e1 _
    cases e1
theorem ne_strs {x : Addr} {r : List V} : ∀ ps : List Str, (ps.map V.str) ≠ V.ref x :: r
  | [], e => by cases e
  | p :: q, e => by
    injection e with e1 _
    cases e1
/-- what a draw leaves -/
theorem Box.gi {H H' : Hp} {p c l : Addr} {ns : List Int} (B : Box H p c) (k : Kp [p, c] H H') (n : l ≠ c) (h : H l = some (.lst (ns.map V.int))) : H' l = some (.lst (ns.map V.int)) := by
  obtain ⟨r, h1, _⟩ := B.at
  refine k _ _ h ?_
  simp only [List.mem_cons, List.not_mem_nil, or_false, not_or]
  exact ⟨ne_of h h1 (by intro z; injection z with z; exact ne_ints _ z), n⟩
theorem Box.gs {H H' : Hp} {p c l : Addr} {ns : List Str} (B : Box H p c) (k : Kp [p, c] H H') (n : l ≠ c) (h : H l = some (.lst (ns.map V.str))) : H' l = some (.lst (ns.map V.str)) := by
  obtain ⟨r, h1, _⟩ := B.at
  refine k _ _ h ?_
  simp only [List.mem_cons, List.not_mem_nil, or_false, not_or]
  exact ⟨ne_of h h1 (by intro z; injection z with z; exact ne_strs _ z), n⟩
theorem Box.go {H H' : Hp} {p c l : Addr} {o : HO} (B : Box H p c) (k : Kp [p, c] H H') (n : ∀ xs, o ≠ .lst xs) (h : H l = some o) : H' l = some o := by
  obtain ⟨r, h1, ns, h2⟩ := B.at
  refine k _ _ h ?_
  simp only [List.mem_cons, List.not_mem_nil, or_false, not_or]
  exact ⟨ne_of h h1 (n _), ne_of h h2 (n _)⟩
theorem paired_app {α β : Type} {R : α → β → Prop} : ∀ {xs : List α} {ys : List β} {x : α} {y : β}, Paired R xs ys → R x y → Paired R (xs ++ [x]) (ys ++ [y])
  | _, _, _, _, .nil, h => .cons h .nil
  | _, _, _, _, .cons q r, h => .cons q (paired_app r h)
theorem paired_at {α β : Type} {R : α → β → Prop} : ∀ {xs : List α} {ys : List β}, Paired R xs ys → ∀ {i : Nat} {x : α} {y : β}, xs[i]? = some x → ys[i]? = some y → R x y
  | _, _, .nil, _, _, _, h, _ => by cases h
  | _, _, .cons q r, 0, _, _, h1, h2 => by
    cases h1
    cases h2
    exact q
  | _, _, .cons q r, i + 1, _, _, h1, h2 => paired_at r (i := i) h1 h2
theorem rd_notInLS {K : PySem.W.Frag} {H : Hp} {Q : VK} {p : Addr} {ns : List Str} {s : Str} (h : SqL K H p (ns.map V.str)) (q : Q (.bl (!decide (s ∈ ns))) H) : rIn K true (.str s) (.ref p) H Q := ⟨p, ns.map V.str, rfl, .inl h, rfl, flat_strs ns, by
  rw [show inV (.str s) (ns.map V.str) = decide (s ∈ ns) from inV_strs s ns]
  exact q⟩
/-- the seat before the i-th of an ascending list -/
theorem prev_at {xs : List Int} (hp : xs.Pairwise (· < ·)) {i : Nat} (hi : i < xs.length) : ∃ y, y ∈ xs ∧ atI (xs.map V.int) ((i : Int) - 1) = some (.int y) ∧ ((xs[i] ≤ y ∧ ∀ z, z ∈ xs → xs[i] ≤ z ∧ z ≤ y) ∨ (y < xs[i] ∧ ∀ z, z ∈ xs → z ≤ y ∨ xs[i] ≤ z)) := by
  have mono : ∀ a b (ha : a < xs.length) (hb : b < xs.length), a ≤ b → xs[a] ≤ xs[b] := fun a b ha hb h => by
    rcases Nat.lt_or_eq_of_le h with h | rfl
    · exact Int.le_of_lt (List.pairwise_iff_getElem.mp hp a b ha hb h)
    · exact Int.le_refl _
  cases i with
  | zero =>
    refine ⟨xs[xs.length - 1], List.getElem_mem _, ?_, .inl ⟨mono _ _ _ _ (by omega), fun z hz => ?_⟩⟩
    · unfold atI ixN
      rw [if_neg (by decide), if_pos (by rw [List.length_map]; omega), List.length_map]
      show (xs.map V.int)[_]? = _
      rw [List.getElem?_map, show ((((0 : Nat) : Int) - 1 + (xs.length : Int)).toNat) = xs.length - 1 from by omega, List.getElem?_eq_getElem (by omega)]
      rfl
    · obtain ⟨j, hj, rfl⟩ := List.mem_iff_getElem.mp hz
      exact ⟨mono _ _ _ _ (by omega), mono _ _ _ _ (by omega)⟩
  | succ k =>
    refine ⟨xs[k], List.getElem_mem _, ?_, .inr ⟨List.pairwise_iff_getElem.mp hp k (k + 1) (by omega) hi (by omega), fun z hz => ?_⟩⟩
    · rw [show ((k + 1 : Nat) : Int) - 1 = (k : Int) from by omega]
      refine atI_nat ?_
      rw [List.getElem?_map, List.getElem?_eq_getElem (by omega)]
      rfl
    · obtain ⟨j, hj, rfl⟩ := List.mem_iff_getElem.mp hz
      by_cases h : j ≤ k
      · exact .inl (mono _ _ _ _ h)
      · exact .inr (mono _ _ _ _ (by omega))
theorem RowsM.k0 {H H' : Hp} {r : Int} {xs ys : List Int} {ts : List Addr} {ws : List Str} (R : RowsM H r xs ys ts ws) (k : Kp [] H H') : RowsM H' r xs ys ts ws := paired_imp (fun _ _ e => k.g0 e) R
theorem RowsM.kt {H H' : Hp} {r : Int} {xs ys : List Int} {ts : List Addr} {ws : List Str} {TT : List (Addr × Str)} (R : RowsM H r xs ys ts ws) (k : Kt TT [] H H') : RowsM H' r xs ys ts ws := paired_imp (fun _ _ e => k.g0 (by intro _ z; cases z) e) R
/-- a list or a dict is written -/
theorem RowsM.kw {H H' : Hp} {r : Int} {xs ys : List Int} {ts : List Addr} {ws : List Str} {q : Addr} {o : HO} (R : RowsM H r xs ys ts ws) (h : H q = some o) (n : ∀ l, o ≠ .tup l) (k : Kp [q] H H') : RowsM H' r xs ys ts ws := paired_imp (fun _ _ e => k.g1 (ne_of e h (Ne.symm (n _))) e) R
theorem mvd_take {r : Int} {xs ys : List Int} {ws : List Str} {i : Nat} (h : i < ws.length) : mvd r xs ys (ws.take (i + 1)) = mvd r xs ys (ws.take i) ++ (if kpo r xs ws[i] = kpo r ys ws[i] then [] else [ws[i]]) := by
  unfold mvd
  rw [List.take_succ_eq_append_getElem h, List.filter_append]
  congr 1
  by_cases e : kpo r xs ws[i] = kpo r ys ws[i]
  · rw [if_pos e, List.filter_cons_of_neg (by simp [e]), List.filter_nil]
  · rw [if_neg e, List.filter_cons_of_pos (by simp [e]), List.filter_nil]
/-- the numbers of a ring with a mark -/
def rgF (r : Int) (p : Nat → Bool) : List Int := ((List.range r.toNat).filter p).map fun (i : Nat) => (i : Int)
theorem rgF_mem {r z : Int} {p : Nat → Bool} : z ∈ rgF r p ↔ (0 ≤ z ∧ z < r) ∧ p z.toNat = true := by
  unfold rgF
  rw [List.mem_map]
  constructor
  · rintro ⟨i, hi, rfl⟩
    obtain ⟨h1, h2⟩ := List.mem_filter.mp hi
    have := List.mem_range.mp h1
    exact ⟨by omega, by simpa using h2⟩
  · rintro ⟨h1, h2⟩
    exact ⟨z.toNat, List.mem_filter.mpr ⟨List.mem_range.mpr (by omega), h2⟩, by omega⟩
theorem rgF_lt {r : Int} {p : Nat → Bool} : (rgF r p).Pairwise (· < ·) := by
  unfold rgF
  rw [List.pairwise_map]
  exact (List.pairwise_lt_range.filter p).imp fun h => by omega
theorem lt_nd {xs : List Int} (h : xs.Pairwise (· < ·)) : xs.Nodup := h.imp fun h => Int.ne_of_lt h
theorem rgF_st {r : Int} {p : Nat → Bool} (hR : Ring r) : St r (rgF r p) := by
  refine ⟨lt_nd rgF_lt, fun z hz => (rgF_mem.mp hz).1, ?_⟩
  have h1 := List.length_filter_le p (List.range r.toNat)
  have h2 := hR.le
  rw [List.length_range] at h1
  unfold rgF
  rw [List.length_map]
  omega
theorem St.srt {r : Int} {os xs : List Int} (h : St r xs) (p : os.Perm xs) (s : os.Pairwise (· ≤ ·)) : St r os ∧ os.Pairwise (· < ·) := by
  have nd : os.Nodup := p.nodup_iff.mpr h.nd
  refine ⟨⟨nd, fun z hz => h.rng z (p.subset hz), by rw [p.length_eq]; exact h.len⟩, ?_⟩
  exact (s.and nd).imp fun ⟨a, b⟩ => by omega
theorem St.one {r z : Int} {xs : List Int} (h : St r xs) (hR : Ring r) (h0 : 0 ≤ z ∧ z < r) (n : z ∉ xs) : St r (xs ++ [z]) := by
  have nd : (xs ++ [z]).Nodup := List.nodup_append.mpr ⟨h.nd, by simp, fun a ha b hb => by
    rw [List.mem_singleton.mp hb]
    rintro rfl
    exact n ha⟩
  have rg : ∀ y, y ∈ xs ++ [z] → 0 ≤ y ∧ y < r := fun y hy => by
    rcases List.mem_append.mp hy with h1 | h1
    · exact h.rng y h1
    · rw [List.mem_singleton.mp h1]
      exact h0
  refine ⟨nd, rg, ?_⟩
  have := List.Nodup.length_le_of_subset (l₂ := rgF r fun _ => true) nd (fun y hy => rgF_mem.mpr ⟨rg y hy, rfl⟩)
  have := (rgF_st (p := fun _ => true) hR).len
  omega
theorem St.room {r : Int} {xs : List Int} (h : St r xs) (l : (xs.length : Int) < r) : ∃ z, 0 ≤ z ∧ z < r ∧ z ∉ xs := by
  refine Classical.byContradiction fun n => ?_
  have : ∀ z, z ∈ rgF r (fun _ => true) → z ∈ xs := fun z hz => Classical.byContradiction fun c => n ⟨z, (rgF_mem.mp hz).1.1, (rgF_mem.mp hz).1.2, c⟩
  have h2 := List.Nodup.length_le_of_subset (lt_nd rgF_lt) this
  unfold rgF at h2
  rw [List.length_map, List.filter_eq_self.mpr (fun _ _ => rfl), List.length_range] at h2
  omega
theorem St.fil {r : Int} {xs : List Int} (h : St r xs) (p : Int → Bool) : St r (xs.filter p) := ⟨h.nd.filter p, fun z hz => h.rng z (List.mem_filter.mp hz).1, Nat.le_trans (List.length_filter_le _ _) h.len⟩
section
variable {K : PySem.W.Frag} {σ : L2.St} {H : Hp} {tt : L2.TT} {te : L2.TE}
/-- a comprehension that only looks, over a list -/
theorem lcF_list {α : Type} {a D : Addr} {g : TG} {vs : List Nat} {Qd : Hp → Prop} (ns : List α) (u f : α → V) (hS : SqL K H a (ns.map u)) (hD : H D = none) (hl : ns.length < 1000000)
    (hs : ∀ (i : Nat) (h : i < ns.length) H1 (E : VK) (N : Hp → Prop), Kp [] H H1 → (∀ H4, Kp [] H1 H4 → E (f ns[i]) H4) → g (u ns[i]) (wipe σ vs) H1 fun σ2 H2 => wipe σ2 vs = wipe σ vs ∧ tt σ2 H2 fun b H3 => if b = true then te σ2 H3 E else N H3)
    (hd : ∀ H', Kp [] H H' → H' D = some (.lst (ns.map f)) → Qd H') : LcG (Itl K a) g tt te vs σ D Qd H := by
  refine lcL_by (ns.map u) (fun i H' => H' D = some (.lst ((ns.take i).map f)) ∧ Kp [] H H') ⟨upd_same, Kp.new hD⟩ (fun i H' _ q => sl_kp q.2 (by simp) hS) (fun i x H' hx q => ?_) (fun H' q => ?_)
  · rw [List.getElem?_map] at hx
    obtain ⟨y, hy, rfl⟩ := Option.map_eq_some_iff.mp hx
    obtain ⟨hi, rfl⟩ := List.getElem?_eq_some_iff.mp hy
    refine hs i hi H' _ _ q.2 fun H4 k4 => ?_
    refine ⟨_, k4.g0 q.1, szlt (by rw [List.length_map, List.length_take]; omega), ?_, Kp.mine (q.2.trans k4) hD⟩
    rw [upd_same, List.take_succ_eq_append_getElem hi, List.map_append]
    rfl
  · rw [List.length_map, List.take_length] at q
    exact hd H' q.2 q.1
end
theorem flt_nil {us vs : List Int} (h : us.filter (fun z => !decide (z ∈ vs)) = []) {z : Int} (hz : z ∈ us) : z ∈ vs := by
  have := List.filter_eq_nil_iff.mp h z hz
  simpa using this
theorem flt_one {us vs : List Int} {c : Int} (h : us.filter (fun z => !decide (z ∈ vs)) = [c]) : (c ∈ us ∧ c ∉ vs) ∧ ∀ z, z ∈ us → z ∉ vs → z = c := by
  have hm : ∀ z, z ∈ [c] ↔ z ∈ us ∧ z ∉ vs := fun z => by
    rw [← h, List.mem_filter]
    simp
  exact ⟨(hm c).mp (by simp), fun z h1 h2 => List.mem_singleton.mp ((hm z).mpr ⟨h1, h2⟩)⟩
theorem flt_add {xs ys : List Int} {c : Int} (h1 : ys.filter (fun z => !decide (z ∈ xs)) = [c]) (h2 : xs.filter (fun z => !decide (z ∈ ys)) = []) : ∀ z, z ∈ ys ↔ z ∈ xs ∨ z = c := fun z => by
  obtain ⟨⟨a1, a2⟩, a3⟩ := flt_one h1
  constructor
  · intro h
    by_cases hx : z ∈ xs
    · exact .inl hx
    · exact .inr (a3 z h hx)
  · rintro (h | rfl)
    · exact flt_nil h2 h
    · exact a1
theorem flt_less {xs ys : List Int} {c : Int} (h1 : ys.filter (fun z => !decide (z ∈ xs)) = []) (h2 : xs.filter (fun z => !decide (z ∈ ys)) = [c]) : (∀ z, z ∈ ys ↔ z ∈ xs ∧ z ≠ c) ∧ c ∈ xs := by
  obtain ⟨⟨a1, a2⟩, a3⟩ := flt_one h2
  refine ⟨fun z => ⟨fun h => ⟨flt_nil h1 h, fun e => a2 (e ▸ h)⟩, fun h => ?_⟩, a1⟩
  exact Classical.byContradiction fun n => h.2 (a3 z h.1 n)
theorem flt_sz {us vs : List Int} {c : Int} (nv : vs.Nodup) (h : vs.filter (fun z => !decide (z ∈ us)) = [c]) (l : vs.length = us.length + 1) : (∀ z, z ∈ vs ↔ z ∈ us ∨ z = c) ∧ c ∉ us := by
  obtain ⟨⟨a1, a2⟩, a3⟩ := flt_one h
  have sub : ∀ z, z ∈ us → z ∈ vs := fun z hz => Classical.byContradiction fun n => by
    have h1 : ∀ y, y ∈ vs → y ∈ c :: us.erase z := fun y hy => by
      by_cases hu : y ∈ us
      · exact List.mem_cons_of_mem _ ((List.mem_erase_of_ne (show y ≠ z from fun e => n (by rw [← e]; exact hy))).mpr hu)
      · rw [a3 y hy hu]
        exact List.mem_cons_self
    have h2 := List.Nodup.length_le_of_subset nv h1
    rw [List.length_cons, List.length_erase_of_mem hz] at h2
    have := List.length_pos_of_mem hz
    omega
  refine ⟨fun z => ⟨fun hz => ?_, fun hz => ?_⟩, a2⟩
  · by_cases hu : z ∈ us
    · exact .inl hu
    · exact .inr (a3 z hz hu)
  · rcases hz with hz | rfl
    · exact sub z hz
    · exact a1
theorem first_bad {p : Str → Bool} : ∀ {a b : List Str} {x y : Str} {r s : List Str}, a ++ x :: r = b ++ y :: s → (∀ z, z ∈ a → p z = true) → p x = false → (∀ z, z ∈ b → p z = true) → p y = false → y = x
  | [], [], x, y, r, s, e, _, _, _, _ => by
    injection e with e _
    exact e.symm
  | [], z :: b, x, y, r, s, e, _, hx, hb, _ => by
    injection e with e _
    have := hb z List.mem_cons_self
    rw [← e, hx] at this
    cases this
  | z :: a, [], x, y, r, s, e, ha, _, _, hy => by
    injection e with e _
    have := ha z List.mem_cons_self
    rw [e, hy] at this
    cases this
  | z :: a, u :: b, x, y, r, s, e, ha, hx, hb, hy => by
    injection e with _ e
    exact first_bad e (fun z hz => ha z (List.mem_cons_of_mem _ hz)) hx (fun z hz => hb z (List.mem_cons_of_mem _ hz)) hy
theorem mvd_mem {r : Int} {xs ys : List Int} {ws : List Str} {w : Str} : w ∈ mvd r xs ys ws ↔ w ∈ ws ∧ kpo r xs w ≠ kpo r ys w := by
  unfold mvd
  rw [List.mem_filter]
  simp
theorem kOk_sok {w : Str} (h : kOk w = true) : PyData.strOk w = true := by
  unfold kOk at h
  have h2 := (Bool.and_eq_true_iff.mp (Bool.and_eq_true_iff.mp h).2).2
  unfold PyData.strOk
  rw [← Array.all_toList, List.all_eq_true]
  intro c hc
  have h3 := of_decide_eq_true (List.all_eq_true.mp h2 c hc)
  have h4 : ∀ c, c ∈ SIGNS.cps.toList → decide (c < 0x110000) = true := by decide +kernel
  exact h4 c h3
theorem eqv_strs : ∀ ws : List Str, PyData.eqvAll (ws.map PyData.str) (ws.map PyData.str) = true
  | [] => by simp [PyData.eqvAll]
  | x :: r => by
    have ih := eqv_strs r
    simp [PyData.eqvAll, PyData.eqv, ih]
theorem dp_strs {K : PySem.W.Frag} {H : Hp} : ∀ ws : List Str, DpAll K H (ws.map V.str) (ws.map PyData.str)
  | [] => .nil
  | x :: r => .cons (.str x) (dp_strs r)
theorem lay_strs : ∀ {ws : List Str}, (∀ w, w ∈ ws → PyData.strOk w = true) → PyData.canLayAll0 (ws.map PyData.str) = true
  | [], _ => by simp only [List.map_nil, PyData.canLayAll0]
  | x :: r, h => by simp only [List.map_cons, PyData.canLayAll0, PyData.canLay0, lay_strs (fun w hw => h w (List.mem_cons_of_mem _ hw)), h x List.mem_cons_self, Bool.and_self]
theorem depth_strs : ∀ ns : List Str, PyData.depthAll (ns.map PyData.str) ≤ 1
  | [] => by simp [PyData.depthAll]
  | x :: r => by
    have := depth_strs r
    simp only [List.map_cons, PyData.depthAll, PyData.depth]
    omega
theorem rd_neH {K : PySem.W.Frag} {H : Hp} {Q : VK} {p q l1 l2 l3 m1 m2 m3 : Addr} {ws : List Str} {xs ys : List Int} (hp : H p = some (.lst [.ref l1, .ref l2, .ref l3])) (hq : H q = some (.lst [.ref m1, .ref m2, .ref m3])) (a1 : H l1 = some (.lst (ws.map V.str))) (b1 : H m1 = some (.lst (ws.map V.str))) (a2 : H l2 = some (.lst (xs.map V.int))) (b2 : H m2 = some (.lst (xs.map V.int))) (a3 : H l3 = some (.lst (ys.map V.int))) (b3 : H m3 = some (.lst (ys.map V.int))) (ok : ∀ w, w ∈ ws → kOk w = true) (k : Q (.bl false) H) : rNeD K (.ref p) (.ref q) H Q := by
  have sh : PyData.canLay0 (.list [.list (ws.map PyData.str), .list (xs.map PyData.int), .list (ys.map PyData.int)]) = true := by
    simp only [PyData.canLay0, PyData.canLayAll0, lay_ints, lay_strs (fun w hw => kOk_sok (ok w hw)), Bool.and_self]
  have sh2 : SeqAt.shaped (.list [.list (ws.map PyData.str), .list (xs.map PyData.int), .list (ys.map PyData.int)]) = true := Bool.and_eq_true_iff.mpr ⟨sh, decide_eq_true (by
    have h1 := depth_strs ws
    have h2 := depth_ints xs
    have h3 := depth_ints ys
    simp only [PyData.depth, PyData.depthAll]
    omega)⟩
  refine ⟨_, _, .lst (SqL.of hp) (.cons (.lst (SqL.of a1) (dp_strs ws)) (.cons (.lst (SqL.of a2) (dp_ints xs)) (.cons (.lst (SqL.of a3) (dp_ints ys)) .nil))), .lst (SqL.of hq) (.cons (.lst (SqL.of b1) (dp_strs ws)) (.cons (.lst (SqL.of b2) (dp_ints xs)) (.cons (.lst (SqL.of b3) (dp_ints ys)) .nil))), sh2, sh2, ?_⟩
  have e : PyData.eqv (.list [.list (ws.map PyData.str), .list (xs.map PyData.int), .list (ys.map PyData.int)]) (.list [.list (ws.map PyData.str), .list (xs.map PyData.int), .list (ys.map PyData.int)]) = true := by
    simp [PyData.eqv, PyData.eqvAll, eqv_ints, eqv_strs]
  rw [e]
  exact k
theorem rd_eqO {H : Hp} {Q : VK} {a : Int} {b : Option Int} (q : Q (.bl (decide (b = some a))) H) : rEq (.int a) (ov b) H Q := by
  cases b with
  | none => exact rd_eq rfl (by simpa [ov] using q)
  | some b => exact rd_eqI (by
      have e : decide (a = b) = decide (some b = some a) := by
        by_cases h : a = b
        · rw [h]; simp
        · rw [decide_eq_false h, decide_eq_false (by intro z; injection z with z; exact h z.symm)]
      rw [e]
      exact q)
theorem nd_takeS {ws : List Str} (nd : ws.Nodup) {i : Nat} (h : i < ws.length) : ws[i] ∉ ws.take i := fun m => by
  obtain ⟨j, hj, e⟩ := List.mem_iff_getElem.mp m
  rw [List.length_take] at hj
  rw [List.getElem_take] at e
  exact List.pairwise_iff_getElem.mp nd j i (by omega) h (by omega) e
theorem rd_neO {H : Hp} {Q : VK} {a b : Option Int} (q : Q (.bl (!decide (a = b))) H) : rNe (ov a) (ov b) H Q := by
  cases a with
  | none =>
    cases b with
    | none => exact rd_ne rfl q
    | some b => exact rd_ne rfl (by simpa [ov] using q)
  | some a =>
    cases b with
    | none => exact rd_ne rfl (by simpa [ov] using q)
    | some b => exact rd_neI (by simpa using q)
theorem lets_at {m : Int} (h : 0 ≤ m ∧ m < 36) : ∃ c, c ∈ SIGNS.cps.toList ∧ atI SIGNS.cps.toList m = some c := by
  obtain ⟨j, rfl⟩ := Int.eq_ofNat_of_zero_le h.1
  have hj : j < SIGNS.cps.toList.length := by
    have : SIGNS.cps.toList.length = 36 := by decide +kernel
    omega
  exact ⟨SIGNS.cps.toList[j], List.getElem_mem hj, atI_nat (List.getElem?_eq_getElem hj)⟩
theorem kOk_of {cs : List Nat} (h0 : cs ≠ []) (h1 : cs.length ≤ 20) (h2 : ∀ c, c ∈ cs → c ∈ SIGNS.cps.toList) : kOk ⟨cs.toArray⟩ = true := by
  unfold kOk
  have e1 : decide ((⟨cs.toArray⟩ : Str) = ("" : Str)) = false := decide_eq_false fun e => h0 (by
    have : cs.toArray.toList = [] := congrArg (fun s : Str => s.cps.toList) e
    simpa using this)
  rw [e1, Bool.not_false, Bool.true_and, Bool.and_eq_true, decide_eq_true_eq]
  refine ⟨by show cs.toArray.size ≤ 20; simpa using h1, ?_⟩
  rw [List.all_eq_true]
  intro c hc
  exact decide_eq_true (h2 c (by simpa using hc))
theorem kOk_len {w : Str} (h : kOk w = true) : w.length ≤ 20 := by
  unfold kOk at h
  rw [Bool.and_eq_true, Bool.and_eq_true, decide_eq_true_eq] at h
  exact h.2.1
theorem wk_rch {r p s : Int} {xs : List Int} (hr : Ring r) (hx : ∀ z, z ∈ xs → 0 ≤ z ∧ z < r) (hs : s ∈ xs) : wk r p xs = some s ↔ (s - p) % r < rch r s xs := by
  have s1 := hx s hs
  have R := rch_is s xs hr
  have d0 : 0 ≤ (s - p) % r ∧ (s - p) % r < r := by rcases hr with rfl | rfl | rfl | rfl | rfl | rfl | rfl | rfl <;> omega
  constructor
  · intro h
    have w := wk_is p hr hx
    rw [h] at w
    refine Classical.byContradiction fun n => ?_
    have lo := R.lo
    have m := R.at_ (by omega)
    have := w.2 _ m
    generalize rch r s xs = k at *
    rcases hr with rfl | rfl | rfl | rfl | rfl | rfl | rfl | rfl <;> omega
  · intro h
    have e : (p + ((((s - p) % r).toNat : Nat) : Int)) % r = s := by
      rw [Int.toNat_of_nonneg d0.1]
      exact key_to hr s1.1 s1.2
    have f := first_at (p := p) (i := ((s - p) % r).toNat) hr hx (fun j hj hm => by
      have e2 : (p + (j : Int)) % r = (s - ((s - p) % r - (j : Int))) % r := by rcases hr with rfl | rfl | rfl | rfl | rfl | rfl | rfl | rfl <;> omega
      rw [e2] at hm
      exact R.no _ (by omega) (by omega) hm) (by omega) (by rw [e]; exact hs)
    rw [e] at f
    exact (wk_eq hr hx f).symm
theorem len_lt (k : Nat) : ∀ n : Nat, ((List.range n).filter fun i => decide (i < k)).length = min n k
  | 0 => by simp
  | n + 1 => by
    rw [List.range_succ, List.filter_append, List.length_append, len_lt k n]
    by_cases h : n < k
    · rw [List.filter_cons_of_pos (by simpa using h), List.filter_nil]
      simp
      omega
    · rw [List.filter_cons_of_neg (by simpa using h), List.filter_nil]
      simp
      omega
theorem rot_count {r c k : Int} (hr : Ring r) (k0 : 0 ≤ k) (k1 : k ≤ r) : ((List.range r.toNat).filter fun (i : Nat) => decide ((c + (i : Int)) % r < k)).length = k.toNat := by
  have rp := hr.pos
  have pm : ((List.range r.toNat).map fun (i : Nat) => ((c + (i : Int)) % r).toNat).Perm (List.range r.toNat) := by
    refine (List.perm_ext_iff_of_nodup ?_ List.nodup_range).mpr fun a => ?_
    · refine List.pairwise_map.mpr ((List.nodup_range (n := r.toNat)).imp_of_mem fun {a b} ha hb n e => n ?_)
      have a1 := List.mem_range.mp ha
      have b1 := List.mem_range.mp hb
      have a2 : 0 ≤ (c + (a : Int)) % r := Int.emod_nonneg _ (by omega)
      have b2 : 0 ≤ (c + (b : Int)) % r := Int.emod_nonneg _ (by omega)
      have e2 : (c + (a : Int)) % r = (c + (b : Int)) % r := by omega
      rcases hr with rfl | rfl | rfl | rfl | rfl | rfl | rfl | rfl <;> omega
    · rw [List.mem_map, List.mem_range]
      constructor
      · rintro ⟨i, -, rfl⟩
        have h1 := Int.emod_nonneg (c + (i : Int)) (show r ≠ 0 by omega)
        have h2 := Int.emod_lt_of_pos (c + (i : Int)) rp
        omega
      · intro ha
        refine ⟨(((a : Int) - c) % r).toNat, List.mem_range.mpr ?_, ?_⟩
        · have h1 := Int.emod_nonneg ((a : Int) - c) (show r ≠ 0 by omega)
          have h2 := Int.emod_lt_of_pos ((a : Int) - c) rp
          omega
        · rw [Int.toNat_of_nonneg (Int.emod_nonneg _ (by omega)), key_to hr (by omega) (by omega)]
          omega
  have h := (pm.filter fun i => decide (i < k.toNat)).length_eq
  rw [len_lt, List.filter_map, List.length_map] at h
  rw [show min r.toNat k.toNat = k.toNat by omega] at h
  rw [← h]
  congr 1
  refine List.filter_congr fun i _ => ?_
  have h1 := Int.emod_nonneg (c + (i : Int)) (show r ≠ 0 by omega)
  show decide _ = decide (((c + (i : Int)) % r).toNat < k.toNat)
  exact decide_eq_decide.mpr (by omega)
/-- how many of the last j places a seat serves -/
def cntN (r : Int) (xs : List Int) (s : Int) (j : Nat) : Nat := ((List.range j).filter fun (i : Nat) => decide (wk r (r - 1 - (i : Int)) xs = some s)).length
theorem cntN_zero {r : Int} {xs : List Int} {s : Int} : cntN r xs s 0 = 0 := rfl
theorem cntN_succ {r : Int} {xs : List Int} {s : Int} {j : Nat} : cntN r xs s (j + 1) = cntN r xs s j + (if wk r (r - 1 - (j : Int)) xs = some s then 1 else 0) := by
  unfold cntN
  rw [List.range_succ, List.filter_append, List.length_append]
  congr 1
  by_cases h : wk r (r - 1 - (j : Int)) xs = some s
  · rw [if_pos h, List.filter_cons_of_pos (by simpa using h), List.filter_nil]
    rfl
  · rw [if_neg h, List.filter_cons_of_neg (by simpa using h), List.filter_nil]
    rfl
theorem cntN_rch {r s : Int} {xs : List Int} (hr : Ring r) (hx : ∀ z, z ∈ xs → 0 ≤ z ∧ z < r) (hs : s ∈ xs) : (cntN r xs s r.toNat : Int) = rch r s xs := by
  have R := rch_is s xs hr
  have lo := R.lo
  have hi := R.hi
  have h := rot_count (c := s + 1) hr (show 0 ≤ rch r s xs by omega) hi
  have e : cntN r xs s r.toNat = ((List.range r.toNat).filter fun (i : Nat) => decide ((s + 1 + (i : Int)) % r < rch r s xs)).length := by
    unfold cntN
    congr 1
    refine List.filter_congr fun i _ => ?_
    refine decide_eq_decide.mpr ?_
    rw [wk_rch hr hx hs]
    have : (s - (r - 1 - (i : Int))) % r = (s + 1 + (i : Int)) % r := by rcases hr with rfl | rfl | rfl | rfl | rfl | rfl | rfl | rfl <;> omega
    rw [this]
  omega
theorem one_of {xs : List Int} (nd : xs.Nodup) {b : Int} (hb : b ∈ xs) : (xs.map fun s => if some b = some s then 1 else 0).sum = 1 := by
  induction xs with
  | nil => cases hb
  | cons x r ih =>
    rw [List.map_cons, List.sum_cons]
    obtain ⟨n1, n2⟩ := List.nodup_cons.mp nd
    by_cases h : b = x
    · subst h
      rw [if_pos rfl]
      have : (r.map fun s => if some b = some s then 1 else 0) = r.map fun _ => 0 := List.map_congr_left fun s hs => if_neg (fun e => n1 (by injection e with e; rw [e]; exact hs))
      rw [this]
      have : ∀ l : List Int, (l.map fun _ => 0).sum = 0 := fun l => by
        induction l with
        | nil => rfl
        | cons y l ih => rw [List.map_cons, List.sum_cons, ih]
      rw [this]
    · rw [if_neg (fun e => h (Option.some.inj e)), ih n2 (by rcases List.mem_cons.mp hb with e | e; exact absurd e h; exact e)]
theorem cntN_sum {r : Int} {xs : List Int} (hr : Ring r) (hx : ∀ z, z ∈ xs → 0 ≤ z ∧ z < r) (nd : xs.Nodup) (n : xs ≠ []) : ∀ j : Nat, (xs.map fun s => cntN r xs s j).sum = j
  | 0 => by
    have : ∀ l : List Int, (l.map fun s => cntN r xs s 0).sum = 0 := fun l => by
      induction l with
      | nil => rfl
      | cons y l ih => rw [List.map_cons, List.sum_cons, ih, cntN_zero]
    exact this xs
  | j + 1 => by
    have ih := cntN_sum hr hx nd n j
    obtain ⟨z, hz⟩ := List.exists_mem_of_ne_nil _ n
    obtain ⟨b, hb, mb⟩ := wk_some (p := r - 1 - (j : Int)) hr hx hz
    have e : ∀ l : List Int, (l.map fun s => cntN r xs s (j + 1)).sum = (l.map fun s => cntN r xs s j).sum + (l.map fun s => if some b = some s then 1 else 0).sum := fun l => by
      induction l with
      | nil => rfl
      | cons y l ih => rw [List.map_cons, List.sum_cons, ih, List.map_cons, List.sum_cons, List.map_cons, List.sum_cons, cntN_succ, hb]; omega
    rw [e, ih, one_of nd mb]
theorem rch_sum {r : Int} {xs : List Int} (hr : Ring r) (hx : ∀ z, z ∈ xs → 0 ≤ z ∧ z < r) (nd : xs.Nodup) (n : xs ≠ []) : (xs.map fun s => rch r s xs).sum = r := by
  have h := cntN_sum hr hx nd n r.toNat
  have e : ∀ l : List Int, (∀ z, z ∈ l → z ∈ xs) → (l.map fun s => rch r s xs).sum = ((l.map fun s => cntN r xs s r.toNat).sum : Nat) := fun l => by
    induction l with
    | nil => intro _; rfl
    | cons y l ih =>
      intro hl
      rw [List.map_cons, List.sum_cons, ih fun z hz => hl z (List.mem_cons_of_mem _ hz), List.map_cons, List.sum_cons, ← cntN_rch hr hx (hl y List.mem_cons_self)]
      omega
  rw [e xs fun z hz => hz, h]
  have := hr.pos
  omega
/-- the nearest of the places seen -/
def NR (r : Int) (xs : List Int) (k : Nat) (m : Int) : Prop := (m = 0 ∧ ∀ j : Nat, j < k → (2 * r - 1 - (j : Int)) % r ∉ xs) ∨ ∃ j : Nat, j < k ∧ m = (2 * r - 1 - (j : Int)) % r ∧ m ∈ xs ∧ ∀ i : Nat, j < i → i < k → (2 * r - 1 - (i : Int)) % r ∉ xs
theorem NR.zero {r : Int} {xs : List Int} : NR r xs 0 0 := .inl ⟨rfl, fun j hj => by omega⟩
theorem NR.yes {r : Int} {xs : List Int} {k : Nat} (h : (2 * r - 1 - (k : Int)) % r ∈ xs) : NR r xs (k + 1) ((2 * r - 1 - (k : Int)) % r) := .inr ⟨k, by omega, rfl, h, fun i h1 h2 => by omega⟩
theorem NR.no {r : Int} {xs : List Int} {k : Nat} {m : Int} (N : NR r xs k m) (h : (2 * r - 1 - (k : Int)) % r ∉ xs) : NR r xs (k + 1) m := by
  rcases N with ⟨rfl, N⟩ | ⟨j, h1, h2, h3, h4⟩
  · refine .inl ⟨rfl, fun j hj => ?_⟩
    rcases Nat.lt_succ_iff_lt_or_eq.mp hj with q | rfl
    · exact N j q
    · exact h
  · refine .inr ⟨j, by omega, h2, h3, fun i q1 q2 => ?_⟩
    rcases Nat.lt_succ_iff_lt_or_eq.mp q2 with q | rfl
    · exact h4 i q1 q
    · exact h
theorem NR.wk {r : Int} {xs : List Int} {j : Nat} {m : Int} (hr : Ring r) (hx : ∀ z, z ∈ xs → 0 ≤ z ∧ z < r) (n : xs ≠ []) (hj : (j : Int) < r) (N : NR r xs (r.toNat + j + 1) m) : wk r (r - 1 - (j : Int)) xs = some m := by
  have rp := hr.pos
  rcases N with ⟨rfl, N⟩ | ⟨i, h1, h2, h3, h4⟩
  · obtain ⟨z, hz⟩ := List.exists_mem_of_ne_nil _ n
    have z1 := hx z hz
    refine absurd ?_ (N ((r - 1 - z).toNat) (by omega))
    have : (2 * r - 1 - (((r - 1 - z).toNat : Nat) : Int)) % r = z := by
      rw [Int.toNat_of_nonneg (by omega)]
      rcases hr with rfl | rfl | rfl | rfl | rfl | rfl | rfl | rfl <;> omega
    rw [this]
    exact hz
  · have hd : r.toNat + j - i < r.toNat := Classical.byContradiction fun c => by
      refine h4 (i + r.toNat) (by omega) (by omega) ?_
      have : (2 * r - 1 - ((i + r.toNat : Nat) : Int)) % r = m := by
        rw [h2]
        have e : ((i + r.toNat : Nat) : Int) = i + r := by omega
        rw [e]
        rcases hr with rfl | rfl | rfl | rfl | rfl | rfl | rfl | rfl <;> omega
      rw [this]
      exact h3
    have e : ∀ t : Nat, t ≤ r.toNat + j → (r - 1 - (j : Int) + (t : Int)) % r = (2 * r - 1 - ((r.toNat + j - t : Nat) : Int)) % r := fun t ht => by
      have e2 : ((r.toNat + j - t : Nat) : Int) = r + j - t := by omega
      rw [e2]
      rcases hr with rfl | rfl | rfl | rfl | rfl | rfl | rfl | rfl <;> omega
    have e3 : (r - 1 - (j : Int) + ((r.toNat + j - i : Nat) : Int)) % r = m := by
      rw [e _ (by omega), h2]
      congr 3
      omega
    have f := first_at (p := r - 1 - (j : Int)) (i := r.toNat + j - i) hr hx (fun t ht hm => by
      rw [e t (by omega)] at hm
      exact h4 (r.toNat + j - t) (by omega) (by omega) hm) (by omega) (by rw [e3]; exact h3)
    rw [e3] at f
    exact (wk_eq hr hx f).symm

/-- a value of a kind that is told -/
def KV (H : Hp) (v : V) : Prop := (∃ w : Str, v = .str w ∧ w.length ≤ 1000) ∨ v = .non ∨ (∃ n, v = .int n) ∨ (∃ b, v = .bl b) ∨ (∃ a vs, v = .ref a ∧ H a = some (.lst vs)) ∨ (∃ a vs, v = .ref a ∧ H a = some (.tup vs))
theorem KV.k0 {H H' : Hp} {v : V} (h : KV H v) (k : Kp [] H H') : KV H' v := by
  rcases h with h | h | h | h | ⟨a, vs, rfl, h⟩ | ⟨a, vs, rfl, h⟩
  · exact .inl h
  · exact .inr (.inl h)
  · exact .inr (.inr (.inl h))
  · exact .inr (.inr (.inr (.inl h)))
  · exact .inr (.inr (.inr (.inr (.inl ⟨a, vs, rfl, k.g0 h⟩))))
  · exact .inr (.inr (.inr (.inr (.inr ⟨a, vs, rfl, k.g0 h⟩))))
theorem KV.str {H : Hp} {w : Str} (h : w.length ≤ 1000) : KV H (.str w) := .inl ⟨w, rfl, h⟩
theorem St.pm {r : Int} {os xs : List Int} (h : St r xs) (p : os.Perm xs) : St r os := ⟨p.nodup_iff.mpr h.nd, fun z hz => h.rng z (p.subset hz), by rw [p.length_eq]; exact h.len⟩
/-- how often each seat serves -/
def nums (r : Int) (xs : List Int) (j : Nat) : List Int := (List.range r.toNat).map fun (s : Nat) => ((cntN r xs (s : Int) j : Nat) : Int)
theorem nums_len {r : Int} {xs : List Int} {j : Nat} : (nums r xs j).length = r.toNat := by
  unfold nums
  rw [List.length_map, List.length_range]
theorem nums_at {r : Int} {xs : List Int} {j : Nat} {m : Int} (h : 0 ≤ m ∧ m < r) : (nums r xs j).getD m.toNat 0 = ((cntN r xs m j : Nat) : Int) := by
  unfold nums
  rw [List.getD_eq_getElem?_getD, List.getElem?_map, List.getElem?_eq_getElem (by rw [List.length_range]; omega), List.getElem_range]
  show ((cntN r xs ((m.toNat : Nat) : Int) j : Nat) : Int) = _
  rw [Int.toNat_of_nonneg h.1]
theorem nums_get {r : Int} {xs : List Int} {j i : Nat} (h : i < (nums r xs j).length) : (nums r xs j)[i] = ((cntN r xs (i : Int) j : Nat) : Int) := by
  simp [nums]
theorem nums_step {r : Int} {xs : List Int} {j : Nat} {m : Int} (hw : wk r (r - 1 - (j : Int)) xs = some m) (h : 0 ≤ m ∧ m < r) : (nums r xs j).set m.toNat ((nums r xs j).getD m.toNat 0 + 1) = nums r xs (j + 1) := by
  rw [nums_at h]
  refine List.ext_getElem (by rw [List.length_set, nums_len, nums_len]) fun i h1 h2 => ?_
  rw [List.getElem_set, nums_get, nums_get, cntN_succ, hw]
  rw [List.length_set, nums_len] at h1
  by_cases e : m.toNat = i
  · have e2 : (i : Int) = m := by omega
    rw [if_pos e, if_pos (by rw [e2]), e2]
    omega
  · rw [if_neg e, if_neg (fun z => e (by injection z with z; omega))]
    omega
def kOkV : V → Bool
  | .str w => kOk w
  | _ => false
/-- a value that is no key -/
def BV (H : Hp) (v : V) : Prop := (∃ z : Str, v = .str z ∧ kOk z = false ∧ z.length ≤ 1000 ∧ ∀ c ∈ z.cps.toList, c < 128) ∨ v = .non ∨ (∃ n : Int, v = .int n ∧ 0 ≤ n ∧ n < 1000) ∨ v = .bl true
  ∨ (∃ a, ∃ ws : List Str, v = .ref a ∧ H a = some (.lst (ws.map V.str)) ∧ ws ≠ [] ∧ ws.length ≤ 20 ∧ ∀ w, w ∈ ws → w.length ≤ 20 ∧ ∀ c ∈ w.cps.toList, c < 128) ∨ (∃ a, ∃ w : Str, v = .ref a ∧ H a = some (.tup [.str w]) ∧ w.length ≤ 20 ∧ ∀ c ∈ w.cps.toList, c < 128)
theorem BV.kv {H : Hp} {v : V} (h : BV H v) : KV H v := by
  rcases h with ⟨z, rfl, -, h, -⟩ | rfl | ⟨n, rfl, -⟩ | rfl | ⟨a, ws, rfl, h, -⟩ | ⟨a, w, rfl, h, -⟩
  · exact .inl ⟨z, rfl, h⟩
  · exact .inr (.inl rfl)
  · exact .inr (.inr (.inl ⟨n, rfl⟩))
  · exact .inr (.inr (.inr (.inl ⟨_, rfl⟩)))
  · exact .inr (.inr (.inr (.inr (.inl ⟨a, _, rfl, h⟩))))
  · exact .inr (.inr (.inr (.inr (.inr ⟨a, _, rfl, h⟩))))
theorem BV.no {H : Hp} {v : V} (h : BV H v) : kOkV v = false := by
  rcases h with ⟨z, rfl, h, -⟩ | rfl | ⟨n, rfl, -⟩ | rfl | ⟨a, ws, rfl, h, -⟩ | ⟨a, w, rfl, h, -⟩
  · exact h
  all_goals rfl
theorem BV.mv {H H' : Hp} {v : V} (h : BV H v) (k : ∀ a vs, (H a = some (.lst vs) → H' a = some (.lst vs)) ∧ (H a = some (.tup vs) → H' a = some (.tup vs))) : BV H' v := by
  rcases h with h | h | h | h | ⟨a, ws, e, h, r⟩ | ⟨a, w, e, h, r⟩
  · exact .inl h
  · exact .inr (.inl h)
  · exact .inr (.inr (.inl h))
  · exact .inr (.inr (.inr (.inl h)))
  · exact .inr (.inr (.inr (.inr (.inl ⟨a, ws, e, (k a _).1 h, r⟩))))
  · exact .inr (.inr (.inr (.inr (.inr ⟨a, w, e, (k a _).2 h, r⟩))))
theorem BV.k0 {H H' : Hp} {v : V} (h : BV H v) (k : Kp [] H H') : BV H' v := h.mv fun a vs => ⟨fun e => k.g0 e, fun e => k.g0 e⟩
theorem BV.kt {H H' : Hp} {v : V} {TT : List (Addr × Str)} (h : BV H v) (k : Kt TT [] H H') : BV H' v := h.mv fun a vs => ⟨fun e => k.g0 (by intro _ z; cases z) e, fun e => k.g0 (by intro _ z; cases z) e⟩
theorem rtx {z : Str} {n : Nat} (h : z.length ≤ n) (c : ∀ c ∈ z.cps.toList, c < 128) : (reprText z).length ≤ 10 * n + 2 := by
  have := PySem.StrLaws.reprText_len z (fun x hx => by have := c x hx; omega)
  omega
theorem BV.rp {H : Hp} {v : V} (h : BV H v) (g : List Code) : ∃ t, RP g H v t := by
  rcases h with ⟨z, rfl, -, h, a⟩ | rfl | ⟨n, rfl, n0, n1⟩ | rfl | ⟨a, ws, rfl, h, ne, l, r⟩ | ⟨a, w, rfl, h, l, r⟩
  · exact ⟨_, .inl ⟨sz1000 (by have := rtx h a; omega), rfl⟩⟩
  · exact ⟨_, .inl rfl⟩
  · refine ⟨_, .inl ⟨?_, rfl⟩⟩
    have h1 : n.natAbs < 2 ^ 10 := by omega
    rcases Nat.eq_zero_or_pos n.natAbs with e | e
    · rw [e]; decide
    · have := (Nat.log2_lt (by omega)).mpr h1
      omega
  · exact ⟨_, .inl rfl⟩
  · refine RP.lst h ne (fun w hw => sz1000 (by have := rtx (r w hw).1 (r w hw).2; omega)) (Nat.le_trans (listText_le (m := 202) fun t ht => ?_) ?_)
    · obtain ⟨w, hw, rfl⟩ := List.mem_map.mp ht
      exact rtx (r w hw).1 (r w hw).2
    · rw [List.length_map]
      have : 2 + (202 + 2) * ws.length ≤ 5000 := by omega
      exact sz1000 (by omega)
  · have lw := rtx l r
    refine ⟨_, .inr (.inr (.inr ⟨a, _, [reprText w], rfl, h, .cons ⟨sz1000 (by omega), rfl⟩ .nil, ?_, rfl⟩))⟩
    have e : tupleText [reprText w] = ("(" : Str) ++ reprText w ++ (",)" : Str) := rfl
    rw [e, strLen_append, strLen_append, show ("(" : Str).length = 1 from rfl, show (",)" : Str).length = 2 from rfl]
    exact sz1000 (by omega)
/-! texts that are no keys -/
theorem cps_app (a b : Str) : (a ++ b).cps.toList = a.cps.toList ++ b.cps.toList := Array.toList_append
def TB (z : Str) : Prop := kOk z = false ∧ z.length ≤ 1000 ∧ ∀ c ∈ z.cps.toList, c < 128
theorem TB.bv {H : Hp} {z : Str} (h : TB z) : BV H (.str z) := .inl ⟨z, rfl, h⟩
theorem kOk_sub {w : Str} (h : kOk w = true) : ∀ c, c ∈ w.cps.toList → c ∈ SIGNS.cps.toList := fun c hc => by
  unfold kOk at h
  exact of_decide_eq_true (List.all_eq_true.mp (Bool.and_eq_true_iff.mp (Bool.and_eq_true_iff.mp h).2).2 c hc)
theorem signs_lt : ∀ c, c ∈ SIGNS.cps.toList → c < 128 := by decide +kernel
theorem kOk_pos {w : Str} (h : kOk w = true) : 0 < w.length := by
  rcases Nat.eq_zero_or_pos w.length with e | e
  · unfold kOk at h
    have e2 : w = ("" : Str) := by
      obtain ⟨⟨l⟩⟩ := w
      have e : l.length = 0 := e
      rw [List.length_eq_zero_iff.mp e]
      rfl
    rw [decide_eq_true e2] at h
    cases h
  · exact e
theorem TB.sign {z : Str} {c : Nat} (h : c ∈ z.cps.toList) (n : c ∉ SIGNS.cps.toList) (l : z.length ≤ 1000) (a : ∀ c ∈ z.cps.toList, c < 128) : TB z := by
  refine ⟨?_, l, a⟩
  cases e : kOk z with
  | false => rfl
  | true => exact absurd (kOk_sub e c h) n
theorem TB.long {z : Str} (h : 20 < z.length) (l : z.length ≤ 1000) (a : ∀ c ∈ z.cps.toList, c < 128) : TB z := by
  refine ⟨?_, l, a⟩
  cases e : kOk z with
  | false => rfl
  | true =>
    have := kOk_len e
    omega
theorem cut_sub {z : Str} {lo hi : Option Int} {c : Nat} (h : c ∈ (cutS z lo hi).cps.toList) : c ∈ z.cps.toList := List.mem_of_mem_drop (List.mem_of_mem_take (by simpa [cutS] using h))
theorem cut_len {z : Str} {n : Nat} (h : n ≤ z.length) : (cutS z none (some (n : Int))).length = n := by
  show (((z.cps.toList.drop (HT.sIx z.length 0 none)).take (HT.sIx z.length z.length (some (n : Int)) - HT.sIx z.length 0 none)).toArray).size = n
  rw [HT.sIx_none, HT.sIx_nat, List.size_toArray, List.length_take, List.drop_zero, Array.length_toList, Nat.min_eq_left h]
  have : z.length = z.cps.size := rfl
  omega
theorem mul_sub {z : Str} {n c : Nat} (h : c ∈ (mulS z n).cps.toList) : c ∈ z.cps.toList := by
  have h : c ∈ (List.replicate n z.cps.toList).flatten := by simpa [mulS] using h
  obtain ⟨l, hl, hc⟩ := List.mem_flatten.mp h
  rw [(List.mem_replicate.mp hl).2] at hc
  exact hc
theorem TB.rep {w : Str} (h : kOk w = true) {n : Nat} (n0 : 20 < n) (n1 : n ≤ 100) : TB (cutS (mulS w n) none (some (n : Int))) := by
  have wp := kOk_pos h
  have e := cut_len (z := mulS w n) (n := n) (by rw [mulS_len]; exact Nat.le_mul_of_pos_right n wp)
  exact .long (by omega) (by omega) fun c hc => signs_lt c (kOk_sub h c (mul_sub (cut_sub hc)))
theorem kOk_rep {w : Str} (h : kOk w = true) : kOk (cutS (mulS w 20) none (some (20 : Int))) = true := by
  have wp := kOk_pos h
  have e := cut_len (z := mulS w 20) (n := 20) (by rw [mulS_len]; exact Nat.le_mul_of_pos_right 20 wp)
  have e : (cutS (mulS w 20) none (some (20 : Int))).length = 20 := e
  have hs : ∀ c, c ∈ (cutS (mulS w 20) none (some (20 : Int))).cps.toList → c ∈ SIGNS.cps.toList := fun c hc => kOk_sub h c (mul_sub (cut_sub hc))
  revert e hs
  generalize cutS (mulS w 20) none (some (20 : Int)) = z
  intro e hs
  obtain ⟨⟨l⟩⟩ := z
  have e : l.length = 20 := e
  exact kOk_of (cs := l) (by intro z; rw [z] at e; cases e) (by omega) hs
theorem TB.mid {w a b : Str} {c : Nat} (h : kOk w = true) (n : c ∉ SIGNS.cps.toList) (c1 : c < 128) (ha : ∀ x, x ∈ a.cps.toList → x ∈ w.cps.toList) (hb : ∀ x, x ∈ b.cps.toList → x ∈ w.cps.toList) (la : a.length ≤ 20) (lb : b.length ≤ 20) : TB (a ++ ⟨#[c]⟩ ++ b) := by
  refine .sign (c := c) (by rw [cps_app, cps_app]; simp) n ?_ fun x hx => ?_
  · rw [strLen_append, strLen_append, show (⟨#[c]⟩ : Str).length = 1 from rfl]
    omega
  · rw [cps_app, cps_app] at hx
    rcases List.mem_append.mp hx with hx | hx
    · rcases List.mem_append.mp hx with hx | hx
      · exact signs_lt x (kOk_sub h x (ha x hx))
      · have : x = c := by simpa using hx
        omega
    · exact signs_lt x (kOk_sub h x (hb x hx))
theorem TB.end_ {w : Str} {c : Nat} (h : kOk w = true) (n : c ∉ SIGNS.cps.toList) (c1 : c < 128) : TB (w ++ ⟨#[c]⟩) := by
  have l := kOk_len h
  refine .sign (c := c) (by rw [cps_app]; simp) n ?_ fun x hx => ?_
  · rw [strLen_append, show (⟨#[c]⟩ : Str).length = 1 from rfl]
    omega
  · rw [cps_app] at hx
    rcases List.mem_append.mp hx with hx | hx
    · exact signs_lt x (kOk_sub h x hx)
    · have : x = c := by simpa using hx
      omega
theorem TB.fore {w : Str} {c : Nat} (h : kOk w = true) (n : c ∉ SIGNS.cps.toList) (c1 : c < 128) : TB ((⟨#[c]⟩ : Str) ++ w) := by
  have l := kOk_len h
  refine .sign (c := c) (by rw [cps_app]; simp) n ?_ fun x hx => ?_
  · rw [strLen_append, show (⟨#[c]⟩ : Str).length = 1 from rfl]
    omega
  · rw [cps_app] at hx
    rcases List.mem_append.mp hx with hx | hx
    · have : x = c := by simpa using hx
      omega
    · exact signs_lt x (kOk_sub h x hx)
theorem TB.nil : TB ("" : Str) := ⟨rfl, by decide, by intro c hc; cases hc⟩
/-! lists of pairs -/
theorem dp_prs {K : PySem.W.Frag} {H : Hp} {f : Int → Int} : ∀ {ts : List Addr} {xs : List Int}, Paired (fun t x => H t = some (.tup [.int x, .int (f x)])) ts xs → DpAll K H (ts.map V.ref) (xs.map fun x => PyData.tuple [.int x, .int (f x)])
  | _, _, .nil => .nil
  | _, _, .cons h r => .cons (.tup (SqT.of h) (.cons (.int _) (.cons (.int _) .nil))) (dp_prs r)
theorem lay_prs {f : Int → Int} : ∀ xs : List Int, PyData.canLayAll0 (xs.map fun x => PyData.tuple [.int x, .int (f x)]) = true
  | [] => by simp [PyData.canLayAll0]
  | x :: r => by
    have := lay_prs (f := f) r
    simp [PyData.canLayAll0, PyData.canLay0, this]
theorem depth_prs {f : Int → Int} : ∀ xs : List Int, PyData.depthAll (xs.map fun x => PyData.tuple [.int x, .int (f x)]) ≤ 2
  | [] => by simp [PyData.depthAll]
  | x :: r => by
    have := depth_prs (f := f) r
    simp only [List.map_cons, PyData.depthAll, PyData.depth]
    omega
theorem eqv_prs {f : Int → Int} : ∀ xs : List Int, PyData.eqvAll (xs.map fun x => PyData.tuple [.int x, .int (f x)]) (xs.map fun x => PyData.tuple [.int x, .int (f x)]) = true
  | [] => by simp [PyData.eqvAll]
  | x :: r => by
    have ih := eqv_prs (f := f) r
    simp [PyData.eqvAll, PyData.eqv, ih]
theorem rd_eqPr {K : PySem.W.Frag} {H : Hp} {Q : VK} {p q : Addr} {ts us : List Addr} {xs : List Int} {f : Int → Int} (h1 : H p = some (.lst (ts.map V.ref))) (h2 : H q = some (.lst (us.map V.ref))) (p1 : Paired (fun t x => H t = some (.tup [.int x, .int (f x)])) ts xs) (p2 : Paired (fun t x => H t = some (.tup [.int x, .int (f x)])) us xs) (k : Q (.bl true) H) : rEqD K (.ref p) (.ref q) H Q := by
  have sh : SeqAt.shaped (.list (xs.map fun x => PyData.tuple [.int x, .int (f x)])) = true := Bool.and_eq_true_iff.mpr ⟨by simp only [PyData.canLay0, lay_prs], decide_eq_true (by
    have h := depth_prs (f := f) xs
    simp only [PyData.depth]
    omega)⟩
  refine ⟨_, _, .lst (SqL.of h1) (dp_prs p1), .lst (SqL.of h2) (dp_prs p2), sh, sh, ?_⟩
  have e : PyData.eqv (.list (xs.map fun x => PyData.tuple [.int x, .int (f x)])) (.list (xs.map fun x => PyData.tuple [.int x, .int (f x)])) = true := by
    simp [PyData.eqv, eqv_prs]
  rw [e]
  exact k


abbrev hk : PySem.W.Hook := hookQ PySem.Challenge.pw_livingroll_k51_keepers_by_walk 6 fa fn gs es ys tabs tf ex
def ob (s : PySem.W.SharedT) : AlQ := obsQ PySem.Challenge.pw_livingroll_k51_keepers_by_walk 6 fa fn gs es ys tabs tf ex (HandSHeadRun.getT s)
theorem ob_eq (s : PySem.W.SharedT) : ob s = hk.obs s.abs := obsQ_eq (HandSHeadRun.getT_eq s)
def names : List Str := (["_wall", "GroupError", "InvalidSetting", "InvalidSaying", "InvalidKey", "UnknownKey", "whole", "Setting", "distance", "first_from", "KEY_SIGNS", "KEY_MOST", "FACTOR", "is_key", "check_key", "place_of", "keeper", "shares", "_law_box", "_law_draw", "_law_char", "_law_word", "_law_place", "_law_walk", "_law_alive", "_law_is_integer", "_law_edge", "_law_numbers", "_law_shares_hold", "_law_word_holds"] : List Str) ++ (["_law_no_keys", "_law_refused"] : List Str)
theorem run (w : World) : HandSHeadRun.RunEq R (PySem.W.view R.prog [36]) hk ob 6000 names w := by
  intro os
  kernel_rfl

local macro_rules | `(tactic| wtm_at "look") => `(tactic| fail "no rule")
local macro_rules | `(tactic| wtm_at "ne") => `(tactic| first
  | with_reducible assumption
  | ((with_reducible refine' Ne.symm ?h); (case h => with_reducible assumption))
  | ((with_reducible refine' ne_fresh ?n); (case n => with_reducible assumption))
  | ((with_reducible refine' Ne.symm (ne_fresh ?n)); (case n => with_reducible assumption))
  | ((refine' ne_of_none ?h ?n); (case n => with_reducible assumption); (case h => wtm_at "hp"))
  | ((refine' Ne.symm (ne_of_none ?h ?n)); (case n => with_reducible assumption); (case h => wtm_at "hp"))
  | fail "no rule")
local macro_rules | `(tactic| wtm_at "hp") => `(tactic| first
  | with_reducible assumption
  | with_reducible exact upd_same
  | ((with_reducible refine' upd_is ?e); (case e => exact rfl))
  | ((with_reducible refine' hu_ne ?n ?e); (case n => wtm_at "ne"); (case e => wtm_at "hp"))
  | ((with_reducible refine' Kp.g0 ?k ?e); (case k => with_reducible assumption); (case e => wtm_at "hp"))
  | ((with_reducible refine' Kp.g1 ?k ?n ?e); (case k => with_reducible assumption); (case n => wtm_at "ne"); (case e => wtm_at "hp"))
  | ((with_reducible refine' Kp.g2 ?k ?n ?m ?e); (case k => with_reducible assumption); (case n => wtm_at "ne"); (case m => wtm_at "ne"); (case e => wtm_at "hp"))
  | ((with_reducible refine' Kp.g3 ?k ?n ?m ?l ?e); (case k => with_reducible assumption); (case n => wtm_at "ne"); (case m => wtm_at "ne"); (case l => wtm_at "ne"); (case e => wtm_at "hp"))
  | fail "no rule")
local macro_rules | `(tactic| wtm_at "sq") => `(tactic| first
  | with_reducible assumption
  | wtm_at "sqx"
  | ((refine' SqL.of ?e); (case e => wtm_at "hp"))
  | ((refine' SqT.of ?e); (case e => wtm_at "hp"))
  | fail "no rule")
local macro_rules | `(tactic| wtm_at "at") => `(tactic| first
  | exact rfl
  | assumption
  | ((refine' atI_ints ?a ?b); (case a => omega); (case b => omega))
  | fail "no rule")
local macro_rules | `(tactic| wtm_at "cc") => `(tactic| first
  | with_reducible assumption
  | omega
  | exact rfl
  | decide
  | ((refine' ⟨?a, ?b⟩); (case a => omega); (case b => omega))
  | ((refine' Or.inr ⟨?a, ?b⟩); (case a => omega); (case b => omega))
  | ((refine' Or.inl ⟨?a, ?b⟩); (case a => omega); (case b => omega))
  | ((refine' ⟨?a, ?b, ?c⟩); (case a => first | omega | decide | fail "num"); (case b => first | omega | decide | fail "num"); (case c => first | omega | decide | fail "num"))
  | fail "no rule")
local macro_rules | `(tactic| wtm_at "sz") => `(tactic| first
  | assumption
  | ((refine' szlt ?h); (case h => (simp; omega)))
  | ((refine' szlt ?h); (case h => omega))
  | ((refine' szlt ?h); (case h => exact Nat.le_of_ble_eq_true rfl))
  | ((refine' sz1000 ?h); (case h => (simp; done)))
  | ((refine' sz1000 ?h); (case h => omega))
  | fail "no rule")
local macro_rules | `(tactic| wtm_at "dg") => `(tactic| first
  | ((refine' dg_is ?a ?b); (case a => wtm_at "hp"); (case b => wtm_at "hp"))
  | ((refine' dg_i ?a); (case a => wtm_at "hp"))
  | ((refine' dg_s ?a); (case a => wtm_at "hp"))
  | fail "no rule")
local macro_rules | `(tactic| wtm_at "dgv") => `(tactic| first
  | ((refine' dg_sv ?a ?b); (case a => wtm_at "hp"); (case b => first | assumption | wtm_at "look" | exact rfl | fail "look"))
  | ((refine' dg_iv ?a ?b); (case a => wtm_at "hp"); (case b => first | assumption | wtm_at "look" | exact rfl | fail "look"))
  | fail "no rule")
local macro_rules | `(tactic| wtm_at "dp") => `(tactic| first
  | ((refine' dp_is ?a ?b ?c); (case a => wtm_at "hp"); (case b => wtm_at "hp"); (case c => wtm_at "sz"))
  | ((refine' dp_i ?a ?c); (case a => wtm_at "hp"); (case c => wtm_at "sz"))
  | ((refine' dp_s ?a ?c); (case a => wtm_at "hp"); (case c => wtm_at "sz"))
  | fail "no rule")
local macro_rules | `(tactic| wtm_at "rd1") => `(tactic| first
  | with_reducible refine' rd_seq ?_
  | with_reducible refine' rd_asg ?_
  | ((with_reducible refine' rd_var ?e ?_); (case e => exact rfl))
  | with_reducible refine' rd_c ?_
  | with_reducible refine' rd_op ?_
  | with_reducible refine' rd_gname ?_
  | with_reducible refine' rd_CB ?_
  | with_reducible refine' rd_cons ?_
  | with_reducible refine' rd_nil ?_
  | with_reducible refine' rd_ret ?_
  | with_reducible refine' rd_drop ?_
  | with_reducible refine' rd_ifS ?_
  | with_reducible refine' rd_test ?_
  | with_reducible refine' rd_exb ?_
  | with_reducible refine' rd_call ?_
  | with_reducible refine' rd_I0 ?_
  | ((with_reducible refine' rd_I ?c ?_); (case c => wtm_at "cc"))
  | ((with_reducible refine' rd_ixL ?h ?a ?_); (case h => wtm_at "sq"); (case a => wtm_at "at"))
  | ((with_reducible refine' rd_ixT ?h ?a ?_); (case h => wtm_at "sq"); (case a => wtm_at "at"))
  | with_reducible refine' rd_int1 ?_
  | with_reducible refine' rd_abs ?_
  | ((with_reducible refine' rd_lenI ?h ?_); (case h => wtm_at "sq"))
  | ((with_reducible refine' rd_lenL ?h ?_); (case h => wtm_at "sq"))
  | ((with_reducible refine' rd_lenT ?h ?_); (case h => wtm_at "sq"))
  | with_reducible refine' rd_eqI ?_
  | with_reducible refine' rd_neI ?_
  | with_reducible refine' rd_eqS ?_
  | with_reducible refine' rd_neS ?_
  | with_reducible refine' rd_eqB ?_
  | with_reducible refine' rd_neB ?_
  | with_reducible refine' rd_and ?_
  | with_reducible refine' rd_or ?_
  | with_reducible refine' rd_not ?_
  | with_reducible refine' rd_tB ?_
  | with_reducible refine' rd_gsub ?_
  | ((with_reducible refine' rd_setL ?h ?j ?_); (case h => wtm_at "hp"); (case j => exact rfl))
  | with_reducible refine' rd_next ?_
  | with_reducible refine' rd_un ?_
  | with_reducible refine' rd_U ?_
  | with_reducible refine' rd_tup ?_
  | with_reducible refine' rd_lst ?_
  | with_reducible refine' rd_bm ?_
  | with_reducible refine' rd_bm0 ?_
  | with_reducible refine' rd_meth ?_
  | with_reducible refine' rd_make ?_
  | with_reducible refine' rd_iTup ?_
  | ((with_reducible refine' rd_iTupX ?h ?_); (case h => wtm_at "sq"))
  | with_reducible refine' rd_for ?_
  | with_reducible refine' rd_iList ?_
  | ((with_reducible refine' rd_iListX ?h ?_); (case h => wtm_at "sq"))
  | with_reducible refine' rd_iRng1 ?_
  | ((with_reducible refine' rd_iRng1X ?h1 ?h2 ?_); (case h1 => wtm_at "cc"); (case h2 => wtm_at "cc"))
  | ((with_reducible refine' rd_iRng2X ?h1 ?_); (case h1 => ((refine' ⟨?a, ?b, ?c, ?d⟩); (case a => omega); (case b => omega); (case c => omega); (case d => omega))))
  | with_reducible refine' rd_iRng2 ?_
  | with_reducible refine' rd_lc ?_
  | with_reducible refine' rd_yes ?_
  | with_reducible refine' rd_andV ?_
  | with_reducible refine' rd_orV ?_
  | with_reducible refine' rd_notV ?_
  | with_reducible refine' rd_ifE ?_
  | with_reducible refine' rd_isN ?_
  | with_reducible refine' rd_notN ?_
  | with_reducible refine' rd_min2 ?_
  | with_reducible refine' rd_max2 ?_
  | with_reducible refine' rd_retN ?_
  | with_reducible refine' rd_brk ?_
  | with_reducible refine' rd_cont ?_
  | with_reducible refine' rd_tfld ?_
  | ((with_reducible refine' rd_fldX ?h ?c ?n ?l ?_); (case h => wtm_at "hp"); (case c => wtm_at "cls"); (case n => wtm_at "noat"); (case l => exact rfl))
  | with_reducible refine' rd_sfld ?_
  | ((with_reducible refine' rd_sfldX ?h ?c ?n ?l ?_); (case h => wtm_at "hp"); (case c => wtm_at "cls"); (case n => wtm_at "noat"); (case l => first | decide | exact Nat.le_of_ble_eq_true rfl | fail "len"))
  | with_reducible refine' rd_tcon ?_
  | ((with_reducible refine' rd_conX ?h ?c ?n ?l ?_); (case h => wtm_at "hp"); (case c => wtm_at "cls"); (case n => wtm_at "con"); (case l => exact rfl))
  | ((with_reducible refine' rd_methX ?h ?l ?_); (case h => wtm_at "hp"); (case l => exact rfl))
  | with_reducible refine' rd_isi_ii ?_
  | with_reducible refine' rd_isi_ib ?_
  | with_reducible refine' rd_isi_bb ?_
  | with_reducible refine' rd_isi_bi ?_
  | with_reducible refine' rd_isi_ss ?_
  | ((with_reducible refine' rd_isi_ll ?h ?_); (case h => wtm_at "hp"))
  | ((with_reducible refine' rd_isi_tt ?h ?_); (case h => wtm_at "hp"))
  | with_reducible refine' iteT ?_
  | with_reducible refine' iteF ?_
  | with_reducible refine' ite_nt ?_
  | with_reducible refine' ite_nf ?_
  | with_reducible refine' ite_in ?_
  | with_reducible refine' ite_rn ?_
  | with_reducible refine' ite_sn ?_
  | with_reducible refine' ite_bn ?_
  | with_reducible refine' ite_nn ?_
  | with_reducible refine' ite_xin ?_
  | with_reducible refine' ite_xrn ?_
  | with_reducible refine' ite_xnn ?_
  | with_reducible refine' rd_dget2 ?_
  | ((with_reducible refine' rd_isdX ?h ?_); (case h => first | ((refine' isD_T ?e); (case e => wtm_at "hp")) | ((refine' isD_K ?e); (case e => wtm_at "hp"))))
  | ((with_reducible refine' rd_dgX ?h ?_); (case h => wtm_at "dg"))
  | with_reducible refine' rd_sdput ?_
  | ((with_reducible refine' rd_dpX ?h ?_); (case h => wtm_at "dp"))
  | ((with_reducible refine' ty_l ?h ?_); (case h => wtm_at "sq"))
  | ((with_reducible refine' ty_d ?h ?_); (case h => wtm_at "hp"))
  | ((with_reducible refine' ty_dK ?h ?_); (case h => wtm_at "hp"))
  | ((with_reducible refine' rd_append ?h ?l ?_); (case h => wtm_at "hp"); (case l => wtm_at "sz"))
  | with_reducible refine' rd_lstRg ?_
  | with_reducible refine' rd_rg1 ?_
  | with_reducible refine' rd_rg2 ?_
  | with_reducible refine' rd_inX ?_
  | with_reducible refine' rd_inX2 ?_
  | ((with_reducible refine' rd_listL ?h ?_); (case h => wtm_at "sq"))
  | ((with_reducible refine' rd_gtup ?h ?l ?_); (case h => wtm_at "sq"); (case l => exact rfl))
  | with_reducible refine' rd_gcons ?_
  | with_reducible refine' rd_gnil ?_
  | with_reducible refine' rd_din ?_
  | with_reducible refine' rd_dnotin ?_
  | with_reducible refine' rd_dget ?_
  | with_reducible refine' rd_dget1 ?_
  | ((with_reducible refine' rd_dinX ?h ?_); (case h => wtm_at "dg"))
  | ((with_reducible refine' rd_dgetX ?h ?_); (case h => wtm_at "dgv"))
  | with_reducible refine' rd_pnil ?_
  | with_reducible refine' rd_pcons ?_
  | with_reducible refine' rd_sl ?_
  | with_reducible refine' rd_part ?_
  | with_reducible refine' rd_nopart ?_
  | ((with_reducible refine' rd_slL ?h ?_); (case h => wtm_at "sq"))
  | ((with_reducible refine' rd_clear ?h ?_); (case h => wtm_at "hp"))
  | ((with_reducible refine' rd_aug ?e ?_); (case e => exact rfl))
  | with_reducible refine' rd_ipI ?_
  | ((with_reducible refine' rd_inI ?h ?_); (case h => wtm_at "sq"))
  | ((with_reducible refine' rd_notInI ?h ?_); (case h => wtm_at "sq"))
  | ((with_reducible refine' rd_lenD ?h ?_); (case h => wtm_at "hp"))
  | with_reducible refine' rd_iEnum ?_
  | ((with_reducible refine' rd_iEnumX ?h ?_); (case h => wtm_at "sq"))
  | ((with_reducible refine' rd_eqLI ?h1 ?h2 ?_); (case h1 => wtm_at "sq"); (case h2 => wtm_at "sq"))
  | ((with_reducible refine' rd_neLI ?h1 ?h2 ?_); (case h1 => wtm_at "sq"); (case h2 => wtm_at "sq"))
  | fail "no rule")
local macro_rules | `(tactic| wtm_at "rd") => `(tactic| repeat wtm_at "rd1")
local macro_rules | `(tactic| wtm_at "hn") => `(tactic| first
  | with_reducible assumption
  | ((with_reducible refine' hn_ne ?n ?e); (case n => wtm_at "ne"); (case e => wtm_at "hn"))
  | ((refine' Kp.back ?k ?e ?n); (case k => with_reducible assumption); (case e => with_reducible assumption); (case n => first | with_reducible assumption | (simp; done) | fail "mem"))
  | fail "no rule")
local macro_rules | `(tactic| wtm_at "kp") => `(tactic| first
  | exact Kp.refl
  | with_reducible assumption
  | ((with_reducible refine' Kp.of0 ?k); (case k => with_reducible assumption))
  | ((with_reducible refine' Kp.wr ?a ?h); (case h => (simp; done)); (case a => wtm_at "kp"))
  | ((with_reducible refine' Kp.nw ?a ?h); (case h => wtm_at "hn"); (case a => wtm_at "kp"))
  | ((with_reducible refine' Kp.mine ?a ?h); (case h => wtm_at "hn"); (case a => wtm_at "kp"))
  | ((with_reducible refine' Kp.via1 ?a ?b ?n); (case b => with_reducible assumption); (case n => wtm_at "hn"); (case a => wtm_at "kp"))
  | ((with_reducible refine' Kp.trans ?a ?b); (case b => first | with_reducible assumption | ((with_reducible refine' Kp.of0 ?k); (case k => with_reducible assumption)) | fail "kp"); (case a => wtm_at "kp"))
  | fail "no rule")
local macro_rules | `(tactic| wtm_at "rd1") => `(tactic| first
  | with_reducible refine' rd_prop ?_
  | ((with_reducible refine' rd_propX ?h ?_); (case h => wtm_at "hp"))
  | with_reducible refine' rd_revL ?_
  | ((with_reducible refine' rd_revLX ?h ?_); (case h => wtm_at "sq"))
  | with_reducible refine' rd_makeK ?_
  | with_reducible refine' rd_sortKey ?_
  | with_reducible refine' rd_sfldaug ?_
  | ((with_reducible refine' rd_sfldaugX ?h ?c ?n ?l ?_); (case h => wtm_at "hp"); (case c => wtm_at "cls"); (case n => wtm_at "noat"); (case l => exact rfl))
  | ((with_reducible refine' rd_insX ?h ?l ?_); (case h => wtm_at "hp"); (case l => first | decide | exact Nat.le_of_ble_eq_true rfl | fail "len"))
  | with_reducible refine' rd_addI ?_
  | with_reducible refine' rd_subI ?_
  | with_reducible refine' rd_disp ?_
  | with_reducible refine' rd_dc ?_
  | ((with_reducible refine' rd_dictD ?h ?_); (case h => wtm_at "hp"))
  | with_reducible refine' rd_minKey ?_
  | fail "no rule")
local macro_rules | `(tactic| wtm_at "hp") => `(tactic| first
  | ((with_reducible refine' Kt.g0 ?k ?n ?e); (case k => with_reducible assumption); (case n => (intro _ z; cases z)); (case e => wtm_at "hp"))
  | ((with_reducible refine' Kt.g1 ?k ?n ?m ?e); (case k => with_reducible assumption); (case n => (intro _ z; cases z)); (case m => wtm_at "ne"); (case e => wtm_at "hp"))
  | fail "no rule")
local macro_rules | `(tactic| wtm_at "cc") => `(tactic| first
  | ((refine' wide60 ?a ?b); (case a => omega); (case b => omega))
  | fail "no rule")
local macro_rules | `(tactic| wtm_at "kt") => `(tactic| first
  | with_reducible assumption
  | ((with_reducible refine' Kt.of0 ?k); (case k => with_reducible assumption))
  | ((with_reducible refine' Kt.wr ?a ?h ?e ?w); (case h => (simp; done)); (case e => wtm_at "hp"); (case w => exact trivial); (case a => wtm_at "kt"))
  | ((with_reducible refine' Kt.nw ?a ?e); (case e => wtm_at "hn"); (case a => wtm_at "kt"))
  | fail "no rule")
local macro_rules | `(tactic| wtm_at "dgv") => `(tactic| first
  | ((refine' dg_sl ?a ?b); (case a => wtm_at "hp"); (case b => exact rfl))
  | fail "no rule")
local macro_rules | `(tactic| wtm_at "dg") => `(tactic| first
  | ((refine' dg_ii ?a ?b); (case a => wtm_at "hp"); (case b => wtm_at "hp"))
  | fail "no rule")
local macro_rules | `(tactic| wtm_at "dp") => `(tactic| first
  | ((refine' dp_ii ?a ?b ?c); (case a => wtm_at "hp"); (case b => wtm_at "hp"); (case c => wtm_at "sz"))
  | fail "no rule")
local macro_rules | `(tactic| wtm_at "errS") => `(tactic| fail "no rule")
local macro_rules | `(tactic| wtm_at "errN") => `(tactic| fail "no rule")
local macro_rules | `(tactic| wtm_at "rd1") => `(tactic| first
  | with_reducible refine' rd_raiseE ?_
  | with_reducible refine' rd_isNB ?_
  | with_reducible refine' rd_isB ?_
  | with_reducible refine' rd_raiseX ?_
  | with_reducible refine' rd_calS ?_
  | with_reducible refine' rd_metS ?_
  | with_reducible refine' rd_xe ?_
  | ((with_reducible refine' rd_xeX ?s ?n ?h ?l ?_); (case s => wtm_at "errS"); (case n => wtm_at "errN"); (case h => wtm_at "hp"); (case l => exact rfl))
  | ((with_reducible refine' rd_isXv ?s ?h ?_); (case s => wtm_at "errS"); (case h => wtm_at "hp"))
  | ((with_reducible refine' rd_isXt ?s ?m ?h ?e ?_); (case s => wtm_at "errS"); (case m => decide); (case h => wtm_at "hp"); (case e => decide))
  | ((with_reducible refine' rd_isXf ?s ?m ?h ?e ?_); (case s => wtm_at "errS"); (case m => decide); (case h => wtm_at "hp"); (case e => decide))
  | fail "no rule")
local macro_rules | `(tactic| wtm_at "kd") => `(tactic| fail "no rule")
local macro_rules | `(tactic| wtm_at "rd1") => `(tactic| first
  | ((with_reducible refine' rd_lenStr ?h ?_); (case h => first | assumption | ((refine' sz1000 ?h); (case h => first | omega | exact Nat.le_of_ble_eq_true rfl | fail "len")) | fail "len"))
  | with_reducible refine' rd_inSign ?_
  | with_reducible refine' rd_iStr ?_
  | with_reducible refine' rd_iStrX ?_
  | with_reducible refine' rd_chain ?_
  | with_reducible refine' rd_iRng3 ?_
  | with_reducible refine' rd_iSeq ?_
  | ((with_reducible refine' rd_iSeqL ?h ?_); (case h => wtm_at "sq"))
  | with_reducible refine' rd_m1 ?_
  | with_reducible refine' rd_m1X ?_
  | with_reducible refine' rd_int1b ?_
  | with_reducible refine' rd_dpop2 ?_
  | ((with_reducible refine' rd_dpopI ?h ?_); (case h => wtm_at "hp"))
  | ((with_reducible refine' rd_ixKD ?h ?_); (case h => wtm_at "kd"))
  | ((with_reducible refine' rd_inTS ?h ?_); (case h => wtm_at "sq"))
  | fail "no rule")

local macro_rules | `(tactic| wtm_at "sqx") => `(tactic| fail "no rule")
local macro_rules | `(tactic| wtm_at "con") => `(tactic| first | exact con_MOST_BITS (by assumption) | exact con_MOST_PATIENCE (by assumption) | exact con_MOST_ROOM (by assumption) | exact con_MOST_GRACE (by assumption) | exact con_MOST_HELPERS (by assumption))
local macro_rules | `(tactic| wtm_at "cls") => `(tactic| first | exact cl_Setting (by assumption))
local macro_rules | `(tactic| wtm_at "noat") => `(tactic| first | exact na_Setting_bits (by assumption) | exact na_Setting_patience (by assumption) | exact na_Setting_room (by assumption) | exact na_Setting_grace (by assumption) | exact na_Setting_helpers (by assumption))
local macro_rules | `(tactic| wtm_at "errS") => `(tactic| first | exact (er_InvalidSetting (by assumption)).2 | exact (er_InvalidSaying (by assumption)).2 | exact (er_InvalidKey (by assumption)).2 | exact (er_UnknownKey (by assumption)).2)
local macro_rules | `(tactic| wtm_at "errN") => `(tactic| first | exact (er_InvalidSetting (by assumption)).1.noN | exact (er_InvalidSaying (by assumption)).1.noN | exact (er_InvalidKey (by assumption)).1.noN | exact (er_UnknownKey (by assumption)).1.noN)
section
variable {P : Program} {w : World} {K : PySem.W.Frag} {mg : Str → Option Value} {base : Heap}
def sp_whole (K : PySem.W.Frag) : Sp := fun vs H Q E => ∃ (v lo hi : Int), vs = [.int v, .int lo, .int hi] ∧ (Q (.bl (decide (lo ≤ v) && decide (v ≤ hi))) H)
theorem us_whole {K : PySem.W.Frag} {H : Hp} {Q : VK} {E : XK} {v lo hi : Int}  (kk : Q (.bl (decide (lo ≤ v) && decide (v ≤ hi))) H) : sp_whole K [.int v, .int lo, .int hi] H Q E := ⟨_, _, _, rfl, kk⟩
theorem f_whole (T : Cx K mg) (B : Tb P w K mg base) : ∃ fd, FunD K "whole" "whole" (defArgs s_whole) (defBody s_whole) (defScope s_whole) (d_whole.dvs K) (d_whole.kws K) (fAd K d_whole.at_) fd ∧ FnOk P w K mg base CX0 1 (fAd K d_whole.at_) fd p_whole (sp_whole K) := by
  obtain ⟨fd, F⟩ := T.says.def_ 0 (d := d_whole) rfl
  refine ⟨fd, F, fnD F sc_whole (fun vs H Q E h => by
    obtain ⟨_, _, _, rfl, _⟩ := h
    rfl) fun cdv A outer s H vs Q E hr h => ?_⟩
  have hu := hu_of hr
  obtain ⟨v, lo, hi, rfl, kk⟩ := h
  refine ⟨_, (pss_cons (ps_if (PW.pt (pw_or (pt_not (pt_val (pe_callB call_isi (by rfl) (fr_isinstance T) (by decide +kernel) (pa_cons (pv 0) (pa_cons (pe_bltn (v := .ty "int") (by rfl) (fr_int T) (by decide +kernel) rfl) pa_nil))))) (pw_or1 (pt_val (pe_callB call_isi (by rfl) (fr_isinstance T) (by decide +kernel) (pa_cons (pv 0) (pa_cons (pe_bltn (v := .ty "bool") (by rfl) (fr_bool T) (by decide +kernel) rfl) pa_nil))))))) (pss_one (ps_ret pe_bl)) pss_nil) (pss_one (ps_ret (pe_and (pe_cmpR op_le (pv 1) (pv 0) (nomark _)) (pe_one (pe_or (pe_cmp (pc_isN (pv 2))) (pe_one (pe_cmpR op_le (pv 0) (pv 2) (nomark _))))))))), ?_⟩
  rw [show L2.start n_whole [.int v, .int lo, .int hi] = [some (.int v), some (.int lo), some (.int hi)] from rfl]
  try dsimp only [cxOf, Cx.nox, Cx.wish, List.map]

  wtm_at "rd"
  refine ite_d (fun h => ?_) (fun h => ?_)
  · wtm_at "rd"
    rw [decide_eq_true h, Bool.true_and] at kk
    exact kk
  · rw [decide_eq_false h, Bool.false_and] at kk
    exact kk
theorem c_whole (T : Cx K mg) (B : Tb P w K mg base) : CalX P w K mg base CX0 1 "whole" (sp_whole K) [] := by
  obtain ⟨fd, F, ok⟩ := f_whole (P := P) (w := w) (base := base) T B
  exact ⟨_, fd, p_whole, [], ok, gl_whole T, F.kp, FunD.bindsN F fun _ _ _ _ _ _ us hl => match us, hl with | [_, _, _], _ => rfl, .nil⟩
end
section
variable {P : Program} {w : World} {K : PySem.W.Frag} {mg : Str → Option Value} {base : Heap}
def sp_Setting_init (K : PySem.W.Frag) : Sp := fun vs H Q E => ∃ (p dx : Addr) (s : Stg), vs = [.ref p, .int s.bits, .int s.pat, .int s.room, .int s.grace, .int s.hel] ∧ (H p = some (.ins (ga K "Setting") dx [])) ∧ (s.Ok) ∧ (∀ H1, SetAt K H1 p s → Kp [p] H H1 → Q .non H1)
theorem us_Setting_init {K : PySem.W.Frag} {H : Hp} {Q : VK} {E : XK} {p dx : Addr} {s : Stg} (hp : H p = some (.ins (ga K "Setting") dx [])) (ok : s.Ok) (kk : ∀ H1, SetAt K H1 p s → Kp [p] H H1 → Q .non H1) : sp_Setting_init K [.ref p, .int s.bits, .int s.pat, .int s.room, .int s.grace, .int s.hel] H Q E := ⟨_, _, _, rfl, hp, ok, kk⟩
theorem f_Setting_init (T : Cx K mg) (B : Tb P w K mg base) : ∃ fd, FunD K "__init__" "Setting.__init__" (defArgs s_Setting_init) (defBody s_Setting_init) (defScope s_Setting_init) (d_Setting_init.dvs K) (d_Setting_init.kws K) (fAd K d_Setting_init.at_) fd ∧ FnOk P w K mg base CX0 2 (fAd K d_Setting_init.at_) fd p_Setting_init (sp_Setting_init K) := by
  have c_whole := c_whole (P := P) (w := w) (base := base) T B
  obtain ⟨fd, F⟩ := T.says.def_ 1 (d := d_Setting_init) rfl
  refine ⟨fd, F, fnD F sc_Setting_init (fun vs H Q E h => by
    obtain ⟨_, _, _, rfl, _⟩ := h
    rfl) fun cdv A outer s H vs Q E hr h => ?_⟩
  have hu := hu_of hr
  obtain ⟨p, dx, s, rfl, hp, ok, kk⟩ := h
  refine ⟨_, (pss_cons (ps_if (pt_not (pt_val (pe_cal c_whole hr (by decide) (by rfl) pass0 (pa_cons (pv 1) (pa_cons pe_int (pa_cons (pe_con (pv 0) rfl) pa_nil)))))) (pss_one ps_never) pss_nil) (pss_cons (ps_if (pt_not (pt_val (pe_cal c_whole hr (by decide) (by rfl) pass0 (pa_cons (pv 2) (pa_cons pe_int (pa_cons (pe_con (pv 0) rfl) pa_nil)))))) (pss_one ps_never) pss_nil) (pss_cons (ps_if (pt_not (pt_val (pe_cal c_whole hr (by decide) (by rfl) pass0 (pa_cons (pv 3) (pa_cons pe_int (pa_cons (pe_con (pv 0) rfl) pa_nil)))))) (pss_one ps_never) pss_nil) (pss_cons (ps_if (pt_not (pt_val (pe_cal c_whole hr (by decide) (by rfl) pass0 (pa_cons (pv 4) (pa_cons pe_int (pa_cons (pe_con (pv 0) rfl) pa_nil)))))) (pss_one ps_never) pss_nil) (pss_cons (ps_if (pt_not (pt_val (pe_cal c_whole hr (by decide) (by rfl) pass0 (pa_cons (pv 5) (pa_cons pe_int (pa_cons (pe_con (pv 0) rfl) pa_nil)))))) (pss_one ps_never) pss_nil) (pss_cons (ps_fld (pv 0) (pv 1) rfl) (pss_cons (ps_fld (pv 0) (pv 2) rfl) (pss_cons (ps_fld (pv 0) (pv 3) rfl) (pss_cons (ps_fld (pv 0) (pv 4) rfl) (pss_one (ps_fld (pv 0) (pv 5) rfl))))))))))), ?_⟩
  rw [show L2.start n_Setting_init [.ref p, .int s.bits, .int s.pat, .int s.room, .int s.grace, .int s.hel] = [some (.ref p), some (.int s.bits), some (.int s.pat), some (.int s.room), some (.int s.grace), some (.int s.hel)] from rfl]
  try dsimp only [cxOf, Cx.nox, Cx.wish, List.map]

  obtain ⟨b0, b1, p0, p1, r0, r1, g0, g1, h0, h1⟩ := id ok
  wtm_at "rd"
  refine us_whole ?_
  wtm_at "rd"
  refine ite_f (by simp; omega) ?_
  wtm_at "rd"
  refine us_whole ?_
  wtm_at "rd"
  refine ite_f (by simp; omega) ?_
  wtm_at "rd"
  refine us_whole ?_
  wtm_at "rd"
  refine ite_f (by simp; omega) ?_
  wtm_at "rd"
  refine us_whole ?_
  wtm_at "rd"
  refine ite_f (by simp; omega) ?_
  wtm_at "rd"
  refine us_whole ?_
  wtm_at "rd"
  refine ite_f (by simp; omega) ?_
  wtm_at "rd"
  exact kk _ ⟨⟨dx, upd_same⟩, ok⟩ (by wtm_at "kp")
theorem c_Setting_init (T : Cx K mg) (B : Tb P w K mg base) : MakX P w K mg base CX0 2 "Setting" (ga K "Setting") (sp_Setting_init K) [.int 6, .int 1] := by
  obtain ⟨fd, F, ok⟩ := f_Setting_init (P := P) (w := w) (base := base) T B
  obtain ⟨ds, hv, hb⟩ := FunD.binds0 (ps := p_Setting_init) F 4 (fun e => by cases e) rfl fun _ _ _ _ _ _ us ks hu hk => match us, ks, hu, hk with | [_, _, _, _], [_, _], _, _ => ⟨_, _, _, _, _, _, rfl, rfl, ⟨_, _, _, _, _, _, rfl, rfl, rfl⟩⟩
  exact ⟨_, fd, p_Setting_init, ds, mk_Setting T, ok, gl_Setting T, hb, hv⟩
end
section
variable {P : Program} {w : World} {K : PySem.W.Frag} {mg : Str → Option Value} {base : Heap}
def sp_Setting_seats (K : PySem.W.Frag) : Sp := fun vs H Q E => ∃ (p : Addr) (s : Stg), vs = [.ref p] ∧ (SetAt K H p s) ∧ (Q (.int s.ring) H)
theorem us_Setting_seats {K : PySem.W.Frag} {H : Hp} {Q : VK} {E : XK} {p : Addr} {s : Stg} (hS : SetAt K H p s) (kk : Q (.int s.ring) H) : sp_Setting_seats K [.ref p] H Q E := ⟨_, _, rfl, hS, kk⟩
theorem f_Setting_seats (T : Cx K mg) (B : Tb P w K mg base) : ∃ fd, FunD K "seats" "Setting.seats" (defArgs s_Setting_seats) (defBody s_Setting_seats) (defScope s_Setting_seats) [] [] (prG K "Setting" "seats") fd ∧ FnOk P w K mg base CX0 1 (prG K "Setting" "seats") fd p_Setting_seats (sp_Setting_seats K) := by
  obtain ⟨hP, fd, F⟩ := B.g g_Setting_seats (.head _)
  refine ⟨fd, F, fnD F sc_Setting_seats (fun vs H Q E h => by
    obtain ⟨_, _, rfl, _⟩ := h
    rfl) fun cdv A outer s H vs Q E hr h => ?_⟩
  have hu := hu_of hr
  obtain ⟨p, s, rfl, hS, kk⟩ := h
  refine ⟨_, (pss_one (ps_ret (pe_op op_shl pe_int (pe_fld (pv 0) rfl)))), ?_⟩
  rw [show L2.start n_Setting_seats [.ref p] = [some (.ref p)] from rfl]
  try dsimp only [cxOf, Cx.nox, Cx.wish, List.map]

  obtain ⟨⟨dx, hp⟩, ok⟩ := hS
  have b0 := ok.b0
  have b1 := ok.b1
  wtm_at "rd"
  show Q (.int (1 * 2 ^ s.bits.toNat)) H
  rw [Int.one_mul, ← Stg.ring_eq]
  exact kk
theorem c_Setting_seats (T : Cx K mg) (B : Tb P w K mg base) : PrpX P w K mg base CX0 1 (ga K "Setting") "seats" (sp_Setting_seats K) := by
  obtain ⟨fd, F, ok⟩ := f_Setting_seats (P := P) (w := w) (base := base) T B
  obtain ⟨hP, -⟩ := B.g g_Setting_seats (.head _)
  exact ⟨_, _, fd, p_Setting_seats, cl_Setting T, hP, ok, FunD.bindsN F fun _ _ _ _ _ _ us hl => match us, hl with | [_], _ => rfl⟩
end
section
variable {P : Program} {w : World} {K : PySem.W.Frag} {mg : Str → Option Value} {base : Heap}
def sp_distance (K : PySem.W.Frag) : Sp := fun vs H Q E => ∃ (p : Addr) (s : Stg) (a b : Int), vs = [.ref p, .int a, .int b] ∧ (SetAt K H p s) ∧ (Q (.int ((b - a) % s.ring)) H)
theorem us_distance {K : PySem.W.Frag} {H : Hp} {Q : VK} {E : XK} {p : Addr} {s : Stg} {a b : Int} (hS : SetAt K H p s) (kk : Q (.int ((b - a) % s.ring)) H) : sp_distance K [.ref p, .int a, .int b] H Q E := ⟨_, _, _, _, rfl, hS, kk⟩
theorem f_distance (T : Cx K mg) (B : Tb P w K mg base) : ∃ fd, FunD K "distance" "distance" (defArgs s_distance) (defBody s_distance) (defScope s_distance) (d_distance.dvs K) (d_distance.kws K) (fAd K d_distance.at_) fd ∧ FnOk P w K mg base CX0 3 (fAd K d_distance.at_) fd p_distance (sp_distance K) := by
  have c_Setting_seats := c_Setting_seats (P := P) (w := w) (base := base) T B
  obtain ⟨fd, F⟩ := T.says.def_ 2 (d := d_distance) rfl
  refine ⟨fd, F, fnD F sc_distance (fun vs H Q E h => by
    obtain ⟨_, _, _, _, rfl, _⟩ := h
    rfl) fun cdv A outer s H vs Q E hr h => ?_⟩
  have hu := hu_of hr
  obtain ⟨p, s, a, b, rfl, hS, kk⟩ := h
  refine ⟨_, (pss_one (ps_ret (pe_op op_mod (pe_op op_sub (pv 2) (pv 1)) (pe_prpX c_Setting_seats hr (by decide) pass0 (pv 0))))), ?_⟩
  rw [show L2.start n_distance [.ref p, .int a, .int b] = [some (.ref p), some (.int a), some (.int b)] from rfl]
  try dsimp only [cxOf, Cx.nox, Cx.wish, List.map]

  obtain ⟨⟨dx, hp⟩, ok⟩ := id hS
  have r2 := ok.r2
  wtm_at "rd"
  refine us_Setting_seats hS ?_
  wtm_at "rd"
  exact kk
theorem c_distance (T : Cx K mg) (B : Tb P w K mg base) : CalX P w K mg base CX0 3 "distance" (sp_distance K) [] := by
  obtain ⟨fd, F, ok⟩ := f_distance (P := P) (w := w) (base := base) T B
  exact ⟨_, fd, p_distance, [], ok, gl_distance T, F.kp, FunD.bindsN F fun _ _ _ _ _ _ us hl => match us, hl with | [_, _, _], _ => rfl, .nil⟩
end
section
variable {P : Program} {w : World} {K : PySem.W.Frag} {mg : Str → Option Value} {base : Heap}
def sp_first_from (K : PySem.W.Frag) : Sp := fun vs H Q E => ∃ (S l : Addr) (s : Stg) (place : Int) (xs : List Int), vs = [.ref S, .int place, .ref l] ∧ (SetAt K H S s) ∧ (SqL K H l (xs.map V.int)) ∧ (St s.ring xs) ∧ (LamX.Tabs (TT K) H) ∧ (∀ H1, Kt (TT K) [] H H1 → Q (ov (wk s.ring place xs)) H1)
theorem us_first_from {K : PySem.W.Frag} {H : Hp} {Q : VK} {E : XK} {S l : Addr} {s : Stg} {place : Int} {xs : List Int} (hS : SetAt K H S s) (hl : SqL K H l (xs.map V.int)) (hx : St s.ring xs) (hT : LamX.Tabs (TT K) H) (kk : ∀ H1, Kt (TT K) [] H H1 → Q (ov (wk s.ring place xs)) H1) : sp_first_from K [.ref S, .int place, .ref l] H Q E := ⟨_, _, _, _, _, rfl, hS, hl, hx, hT, kk⟩
theorem f_first_from (T : Cx K mg) (B : Tb P w K mg base) : ∃ fd, FunD K "first_from" "first_from" (defArgs s_first_from) (defBody s_first_from) (defScope s_first_from) (d_first_from.dvs K) (d_first_from.kws K) (fAd K d_first_from.at_) fd ∧ FnOk P w K mg base CX0 7 (fAd K d_first_from.at_) fd p_first_from (sp_first_from K) := by
  have c_distance := c_distance (P := P) (w := w) (base := base) T B
  obtain ⟨fd, F⟩ := T.says.def_ 3 (d := d_first_from) rfl
  refine ⟨fd, F, fnDc F sc_first_from (fun vs H Q E h => by
    obtain ⟨_, _, _, _, _, rfl, _⟩ := h
    rfl) fun A outer s H vs Q E hr h => ?_⟩
  have hu := hu_of hr
  obtain ⟨S, l, s, place, xs, rfl, hS, hl, hx, hT, kk⟩ := h
  refine ⟨_, (pss_one (ps_ret (pe_minKey (T := TT K) (N := ["setting", "place", "seat"]) (k := 3) (p := "seat") (by rfl) (fr_min T) (pa_cons (pv 2) pa_nil) (B.t _ (List.mem_map_of_mem (.head _))) rfl (.head _) (lamU_first_from T) (hr.mono (by decide)) (lam1_by (by rfl)) (by rfl) (fun _ _ _ _ _ _ => by rfl) (fun s H f c' hr => (pe_cal c_distance hr (by decide) (by rfl) pass0 (pa_cons (pv 0) (pa_cons (pv 1) (pa_cons (pv 2) pa_nil)))))))), ?_⟩
  rw [show L2.start n_first_from [.ref S, .int place, .ref l] = [some (.ref S), some (.int place), some (.ref l)] from rfl]
  try dsimp only [cxOf, Cx.nox, Cx.wish, List.map]

  wtm_at "rd"
  have ok := hS.ok
  refine rd_minI (fun x => (x - place) % s.ring) xs (fun n => [some (.ref S), some (.int place), some (.int n)]) hl hT (fun n => ⟨rfl, fun i y x e1 e2 => ?_⟩) (fun H3 n Q' hn k3 q => ?_) (fun H3 e k3 => ?_) (fun H3 i b k3 hb hm => ?_)
  · rcases i with _ | _ | _ | i
    · cases e1; cases e2; exact .inr ⟨by decide, 0, rfl, rfl⟩
    · cases e1; cases e2; exact .inr ⟨by decide, 1, rfl, rfl⟩
    · cases e1; cases e2; exact .inl ⟨rfl, rfl⟩
    · cases e1
  · wtm_at "rd"
    exact us_distance (hS.kt k3) q
  · have := kk H3 k3
    rw [← wk_eq (o := none) ok.rg hx.rng e] at this
    exact this
  · have := kk H3 k3
    rw [← wk_eq (o := some b) ok.rg hx.rng ⟨List.mem_of_getElem? hb, fun z hz => by
      obtain ⟨j, hj⟩ := List.mem_iff_getElem?.mp hz
      exact (hm j z hj).1⟩] at this
    exact this
theorem c_first_from (T : Cx K mg) (B : Tb P w K mg base) : CalX P w K mg base CX0 7 "first_from" (sp_first_from K) [] := by
  obtain ⟨fd, F, ok⟩ := f_first_from (P := P) (w := w) (base := base) T B
  exact ⟨_, fd, p_first_from, [], ok, gl_first_from T, F.kp, FunD.bindsN F fun _ _ _ _ _ _ us hl => match us, hl with | [_, _, _], _ => rfl, .nil⟩
end
section
variable {P : Program} {w : World} {K : PySem.W.Frag} {mg : Str → Option Value} {base : Heap}
def sp_is_key (K : PySem.W.Frag) : Sp := fun vs H Q E => ∃ (v : V), vs = [v] ∧ (KV H v) ∧ (∀ H1, Kp [] H H1 → Q (.bl (kOkV v)) H1)
theorem us_is_key {K : PySem.W.Frag} {H : Hp} {Q : VK} {E : XK} {v : V} (hv : KV H v) (kk : ∀ H1, Kp [] H H1 → Q (.bl (kOkV v)) H1) : sp_is_key K [v] H Q E := ⟨_, rfl, hv, kk⟩
theorem f_is_key (T : Cx K mg) (B : Tb P w K mg base) : ∃ fd, FunD K "is_key" "is_key" (defArgs s_is_key) (defBody s_is_key) (defScope s_is_key) (d_is_key.dvs K) (d_is_key.kws K) (fAd K d_is_key.at_) fd ∧ FnOk P w K mg base CX0 1 (fAd K d_is_key.at_) fd p_is_key (sp_is_key K) := by
  obtain ⟨fd, F⟩ := T.says.def_ 4 (d := d_is_key) rfl
  refine ⟨fd, F, fnD F sc_is_key (fun vs H Q E h => by
    obtain ⟨_, rfl, _⟩ := h
    rfl) fun cdv A outer s H vs Q E hr h => ?_⟩
  have hu := hu_of hr
  obtain ⟨v, rfl, hv, kk⟩ := h
  refine ⟨_, (pss_cons (ps_if (PW.pt (pw_or (pt_not (pt_val (pe_callB call_isi (by rfl) (fr_isinstance T) (by decide +kernel) (pa_cons (pv 0) (pa_cons (pe_bltn (v := .ty "str") (by rfl) (fr_str T) (by decide +kernel) rfl) pa_nil))))) (pw_or (pt_cmpR op_eq (pv 0) pe_str (nomark _)) (pw_or1 (pt_cmpR op_gt (pe_callB call_lenStr (by rfl) (fr_len T) (by decide +kernel) (pa_cons (pv 0) pa_nil)) (pe_globC (by rfl) (gl_KEY_MOST T)) (nomark _)))))) (pss_one (ps_ret pe_bl)) pss_nil) (pss_one (ps_ret (pe_callB (cr_all rfl) (by rfl) (fr_all T) (by decide +kernel) (pa_cons (pe_lc (own := [("sign", 1)]) (g := (gName 1)) (tt := tYes) rfl sc_is_key.nd (pi_str (pv 0)) (blkOk_by (own := [("sign", 1)]) (N := n_is_key) (sc := defScope s_is_key) (by decide +kernel)) (fun _ _ _ _ _ => (pg_name (i := 1) sc_is_key.nd rfl (by first | exact Or.inl rfl | exact Or.inr rfl))) (fun _ _ _ _ _ => pts_nil) (fun _ _ _ _ _ => (pe_cmpR op_inSign (pv 1) (pe_globC (by rfl) (gl_KEY_SIGNS T)) rfl))) pa_nil))))), ?_⟩
  rw [show L2.start n_is_key [v] = [some (v), none] from rfl]
  try dsimp only [cxOf, Cx.nox, Cx.wish, List.map]

  rcases hv with ⟨w, rfl, hl⟩ | rfl | ⟨n, rfl⟩ | ⟨b, rfl⟩ | ⟨a, vs, rfl, ha⟩ | ⟨a, vs, rfl, ha⟩
  · rw [show kOkV (.str w) = kOk w from rfl] at kk
    wtm_at "rd"
    refine ite_d (fun h => ?_) (fun h => ?_)
    · wtm_at "rd"
      rw [show kOk w = false from by unfold kOk; rw [decide_eq_true h]; rfl] at kk
      exact kk _ Kp.refl
    · wtm_at "rd"
      refine ite_d (fun h2 => ?_) (fun h2 => ?_)
      · wtm_at "rd"
        rw [show kOk w = false from by unfold kOk; rw [decide_eq_false h, decide_eq_false (by omega)]; rfl] at kk
        exact kk _ Kp.refl
      · wtm_at "rd"
        intro D nD
        have hz : w.cps.size < 1000000 := by
          have : w.cps.size = w.length := rfl
          omega
        refine lcF_str (fun c => V.bl (decide (c ∈ SIGNS.cps.toList))) nD hz (fun i c hc H1 E N k1 hE => ?_) (fun H1 k1 hD1 => ?_)
        · wtm_at "rd"
          refine ⟨rfl, ?_⟩
          wtm_at "rd"
          exact hE _ Kp.refl
        · wtm_at "rd"
          refine rd_all (bs := w.cps.toList.map fun c => decide (c ∈ SIGNS.cps.toList)) (by rw [List.map_map]; exact hD1) ?_
          have e : kOk w = (w.cps.toList.map fun c => decide (c ∈ SIGNS.cps.toList)).all id := by
            unfold kOk
            rw [decide_eq_false h, decide_eq_true (by omega), Bool.not_false, Bool.true_and, Bool.true_and, List.all_map]
            rfl
          rw [← e]
          exact kk _ k1
  · wtm_at "rd"
    refine rd_isi (b := false) (.base .non) (by decide +kernel) ?_
    wtm_at "rd"
    exact kk _ Kp.refl
  · wtm_at "rd"
    refine rd_isi (b := false) (.base (.int n)) (by decide +kernel) ?_
    wtm_at "rd"
    exact kk _ Kp.refl
  · wtm_at "rd"
    refine rd_isi (b := false) (.base (.bl b)) (by decide +kernel) ?_
    wtm_at "rd"
    exact kk _ Kp.refl
  · wtm_at "rd"
    refine rd_isi (b := false) (.base (.lst ha)) (by decide +kernel) ?_
    wtm_at "rd"
    exact kk _ Kp.refl
  · wtm_at "rd"
    refine rd_isi (b := false) (.base (.tup ha)) (by decide +kernel) ?_
    wtm_at "rd"
    exact kk _ Kp.refl
theorem c_is_key (T : Cx K mg) (B : Tb P w K mg base) : CalX P w K mg base CX0 1 "is_key" (sp_is_key K) [] := by
  obtain ⟨fd, F, ok⟩ := f_is_key (P := P) (w := w) (base := base) T B
  exact ⟨_, fd, p_is_key, [], ok, gl_is_key T, F.kp, FunD.bindsN F fun _ _ _ _ _ _ us hl => match us, hl with | [_], _ => rfl, .nil⟩
end
section
variable {P : Program} {w : World} {K : PySem.W.Frag} {mg : Str → Option Value} {base : Heap}
def sp_check_key (K : PySem.W.Frag) : Sp := fun vs H Q E => ∃ (v : V), vs = [v] ∧ (KV H v) ∧ ((kOkV v = true → ∀ H1, Kp [] H H1 → Q v H1) ∧ (kOkV v = false → ∀ x H1, H1 x = some (.xd [(("key" : Str), v)]) → Kp [] H H1 → E (.ref (ga K "InvalidKey")) (some x) H1))
theorem us_check_key {K : PySem.W.Frag} {H : Hp} {Q : VK} {E : XK} {v : V} (hv : KV H v) (kk : (kOkV v = true → ∀ H1, Kp [] H H1 → Q v H1) ∧ (kOkV v = false → ∀ x H1, H1 x = some (.xd [(("key" : Str), v)]) → Kp [] H H1 → E (.ref (ga K "InvalidKey")) (some x) H1)) : sp_check_key K [v] H Q E := ⟨_, rfl, hv, kk⟩
theorem f_check_key (T : Cx K mg) (B : Tb P w K mg base) : ∃ fd, FunD K "check_key" "check_key" (defArgs s_check_key) (defBody s_check_key) (defScope s_check_key) (d_check_key.dvs K) (d_check_key.kws K) (fAd K d_check_key.at_) fd ∧ FnOk P w K mg base (L2.CX P w) 2 (fAd K d_check_key.at_) fd p_check_key (sp_check_key K) := by
  have c_is_key := c_is_key (P := P) (w := w) (base := base) T B
  obtain ⟨fd, F⟩ := T.says.def_ 5 (d := d_check_key) rfl
  refine ⟨fd, F, fnDX F sc_check_key (fun vs H Q E h => by
    obtain ⟨_, rfl, _⟩ := h
    rfl) fun cdv A outer s H vs Q E hr h => ?_⟩
  have hu := hu_of hr
  obtain ⟨v, rfl, hv, kk⟩ := h
  refine ⟨_, (pss_cons (ps_if (pt_not (pt_val (pe_cal c_is_key hr (by decide) (by rfl) pass0 (pa_cons (pv 0) pa_nil)))) (pss_one (ps_raiseE rfl (er_InvalidKey B).1 hr (takes_of rfl rfl rfl rfl) (pa_cons (pv 0) pa_nil) (by rfl))) pss_nil) (pss_one (ps_ret (pv 0)))), ?_⟩
  rw [show L2.start n_check_key [v] = [some (v)] from rfl]
  try dsimp only [cxOf, Cx.nox, Cx.wish, List.map]

  wtm_at "rd"
  refine us_is_key hv fun H1 k1 => ?_
  cases e : kOkV v with
  | true =>
    wtm_at "rd"
    exact kk.1 e _ k1
  | false =>
    wtm_at "rd"
    intro D nD
    exact kk.2 e D _ upd_same (k1.nw nD)
theorem c_check_key (T : Cx K mg) (B : Tb P w K mg base) : CalX P w K mg base (L2.CX P w) 2 "check_key" (sp_check_key K) [] := by
  obtain ⟨fd, F, ok⟩ := f_check_key (P := P) (w := w) (base := base) T B
  exact ⟨_, fd, p_check_key, [], ok, gl_check_key T, F.kp, FunD.bindsN F fun _ _ _ _ _ _ us hl => match us, hl with | [_], _ => rfl, .nil⟩
end
section
variable {P : Program} {w : World} {K : PySem.W.Frag} {mg : Str → Option Value} {base : Heap}
def sp_place_of (K : PySem.W.Frag) : Sp := fun vs H Q E => ∃ (S : Addr) (s : Stg) (v : V), vs = [.ref S, v] ∧ (SetAt K H S s) ∧ (KV H v) ∧ ((∀ w, v = .str w → kOk w = true → ∀ H1, Kp [] H H1 → Q (.int (plc s.ring w)) H1) ∧ (kOkV v = false → ∀ x H1, H1 x = some (.xd [(("key" : Str), v)]) → Kp [] H H1 → E (.ref (ga K "InvalidKey")) (some x) H1))
theorem us_place_of {K : PySem.W.Frag} {H : Hp} {Q : VK} {E : XK} {S : Addr} {s : Stg} {v : V} (hS : SetAt K H S s) (hv : KV H v) (kk : (∀ w, v = .str w → kOk w = true → ∀ H1, Kp [] H H1 → Q (.int (plc s.ring w)) H1) ∧ (kOkV v = false → ∀ x H1, H1 x = some (.xd [(("key" : Str), v)]) → Kp [] H H1 → E (.ref (ga K "InvalidKey")) (some x) H1)) : sp_place_of K [.ref S, v] H Q E := ⟨_, _, _, rfl, hS, hv, kk⟩
theorem f_place_of (T : Cx K mg) (B : Tb P w K mg base) : ∃ fd, FunD K "place_of" "place_of" (defArgs s_place_of) (defBody s_place_of) (defScope s_place_of) (d_place_of.dvs K) (d_place_of.kws K) (fAd K d_place_of.at_) fd ∧ FnOk P w K mg base (L2.CX P w) 4 (fAd K d_place_of.at_) fd p_place_of (sp_place_of K) := by
  have c_check_key := c_check_key (P := P) (w := w) (base := base) T B
  have c_Setting_seats := c_Setting_seats (P := P) (w := w) (base := base) T B
  obtain ⟨fd, F⟩ := T.says.def_ 6 (d := d_place_of) rfl
  refine ⟨fd, F, fnDX F sc_place_of (fun vs H Q E h => by
    obtain ⟨_, _, _, rfl, _⟩ := h
    rfl) fun cdv A outer s H vs Q E hr h => ?_⟩
  have hu := hu_of hr
  obtain ⟨S, s, v, rfl, hS, hv, kk⟩ := h
  refine ⟨_, (pss_cons (ps_expr (pe_cal c_check_key hr (by decide) (by rfl) (passes_call (takes_of rfl rfl rfl rfl) (fun _ _ _ _ h => h)) (pa_cons (pv 1) pa_nil))) (pss_cons (ps_set (i := 2) sc_place_of.nd rfl (by first | exact Or.inl rfl | exact Or.inr rfl) pe_int) (pss_cons (ps_for (passes_of rfl) rfl (pi_str (pv 1)) (pg_name (i := 3) sc_place_of.nd rfl (by first | exact Or.inl rfl | exact Or.inr rfl)) (pss_one (ps_set (i := 2) sc_place_of.nd rfl (by first | exact Or.inl rfl | exact Or.inr rfl) (pe_op op_mod (pe_op op_add (pe_op op_mul (pv 2) (pe_globC (by rfl) (gl_FACTOR T))) (pe_callB call_ord (by rfl) (fr_ord T) (by decide +kernel) (pa_cons (pv 3) pa_nil))) (pe_prpX c_Setting_seats hr (by decide) pass0 (pv 0)))))) (pss_one (ps_ret (pv 2)))))), ?_⟩
  rw [show L2.start n_place_of [.ref S, v] = [some (.ref S), some (v), none, none] from rfl]
  try dsimp only [cxOf, Cx.nox, Cx.wish, List.map]

  have r0 := hS.ok.r2
  have r1 := hS.ok.r256
  wtm_at "rd"
  refine us_check_key hv ⟨fun okv H1 k1 => ?_, fun no x H1 hx k1 => kk.2 no x H1 hx k1⟩
  obtain ⟨w, rfl⟩ : ∃ w, v = .str w := by
    cases v <;> first | exact ⟨_, rfl⟩ | cases okv
  have ok : kOk w = true := okv
  have S1 := hS.k0 k1
  obtain ⟨⟨dx, hp⟩, -⟩ := id S1
  wtm_at "rd"
  refine forS_by (fun i σ H2 => (∃ v3, σ = [some (.ref S), some (.str w), some (.int ((w.cps.toList.take i).foldl (fun n (c : Nat) => (n * 31 + (c : Int)) % s.ring) 0)), v3]) ∧ H2 = H1) ⟨⟨_, rfl⟩, rfl⟩ ?_ ?_
  · rintro i c σ H2 hc ⟨⟨v3, rfl⟩, rfl⟩
    obtain ⟨h1, h2⟩ := List.getElem?_eq_some_iff.mp hc
    wtm_at "rd"
    refine ⟨_, rfl, rfl, ?_⟩
    wtm_at "rd"
    refine us_Setting_seats S1 ?_
    wtm_at "rd"
    refine ⟨⟨some (.str ⟨#[c]⟩), ?_⟩, rfl⟩
    rw [List.take_succ_eq_append_getElem h1, h2, List.foldl_append]
    rfl
  · rintro σ H2 ⟨⟨v3, rfl⟩, rfl⟩
    wtm_at "rd"
    have := kk.1 w rfl ok _ k1
    unfold plc at this
    rw [List.take_of_length_le (by simp)]
    exact this
theorem c_place_of (T : Cx K mg) (B : Tb P w K mg base) : CalX P w K mg base (L2.CX P w) 4 "place_of" (sp_place_of K) [] := by
  obtain ⟨fd, F, ok⟩ := f_place_of (P := P) (w := w) (base := base) T B
  exact ⟨_, fd, p_place_of, [], ok, gl_place_of T, F.kp, FunD.bindsN F fun _ _ _ _ _ _ us hl => match us, hl with | [_, _], _ => rfl, .nil⟩
end
section
variable {P : Program} {w : World} {K : PySem.W.Frag} {mg : Str → Option Value} {base : Heap}
def sp_keeper (K : PySem.W.Frag) : Sp := fun vs H Q E => ∃ (S l : Addr) (s : Stg) (v : V) (xs : List Int), vs = [.ref S, v, .ref l] ∧ (SetAt K H S s) ∧ (KV H v) ∧ (SqL K H l (xs.map V.int)) ∧ (St s.ring xs) ∧ (LamX.Tabs (TT K) H) ∧ ((∀ w, v = .str w → kOk w = true → ∀ H1, Kt (TT K) [] H H1 → Q (ov (kpo s.ring xs w)) H1) ∧ (kOkV v = false → ∀ x H1, H1 x = some (.xd [(("key" : Str), v)]) → Kt (TT K) [] H H1 → E (.ref (ga K "InvalidKey")) (some x) H1))
theorem us_keeper {K : PySem.W.Frag} {H : Hp} {Q : VK} {E : XK} {S l : Addr} {s : Stg} {v : V} {xs : List Int} (hS : SetAt K H S s) (hv : KV H v) (hl : SqL K H l (xs.map V.int)) (hx : St s.ring xs) (hT : LamX.Tabs (TT K) H) (kk : (∀ w, v = .str w → kOk w = true → ∀ H1, Kt (TT K) [] H H1 → Q (ov (kpo s.ring xs w)) H1) ∧ (kOkV v = false → ∀ x H1, H1 x = some (.xd [(("key" : Str), v)]) → Kt (TT K) [] H H1 → E (.ref (ga K "InvalidKey")) (some x) H1)) : sp_keeper K [.ref S, v, .ref l] H Q E := ⟨_, _, _, _, _, rfl, hS, hv, hl, hx, hT, kk⟩
theorem f_keeper (T : Cx K mg) (B : Tb P w K mg base) : ∃ fd, FunD K "keeper" "keeper" (defArgs s_keeper) (defBody s_keeper) (defScope s_keeper) (d_keeper.dvs K) (d_keeper.kws K) (fAd K d_keeper.at_) fd ∧ FnOk P w K mg base (L2.CX P w) 8 (fAd K d_keeper.at_) fd p_keeper (sp_keeper K) := by
  have c_first_from := c_first_from (P := P) (w := w) (base := base) T B
  have c_place_of := c_place_of (P := P) (w := w) (base := base) T B
  obtain ⟨fd, F⟩ := T.says.def_ 7 (d := d_keeper) rfl
  refine ⟨fd, F, fnDX F sc_keeper (fun vs H Q E h => by
    obtain ⟨_, _, _, _, _, rfl, _⟩ := h
    rfl) fun cdv A outer s H vs Q E hr h => ?_⟩
  have hu := hu_of hr
  obtain ⟨S, l, s, v, xs, rfl, hS, hv, hl, hx, hT, kk⟩ := h
  refine ⟨_, (pss_one (ps_ret (pe_cal c_first_from hr (by decide) (by rfl) pass0 (pa_cons (pv 0) (pa_cons (pe_cal c_place_of hr (by decide) (by rfl) (passes_call (takes_of rfl rfl rfl rfl) (fun _ _ _ _ h => h)) (pa_cons (pv 0) (pa_cons (pv 1) pa_nil))) (pa_cons (pv 2) pa_nil)))))), ?_⟩
  rw [show L2.start n_keeper [.ref S, v, .ref l] = [some (.ref S), some (v), some (.ref l)] from rfl]
  try dsimp only [cxOf, Cx.nox, Cx.wish, List.map]

  wtm_at "rd"
  refine us_place_of hS hv ⟨fun w ew ok H1 k1 => ?_, fun no x H1 hx k1 => kk.2 no x H1 hx (Kt.kp0 hT k1)⟩
  wtm_at "rd"
  refine us_first_from (hS.k0 k1) (sl_kp k1 (by simp) hl) hx (Kt.kp0 (ps := []) hT k1).2 fun H2 k2 => ?_
  exact kk.1 w ew ok H2 ((Kt.kp0 hT k1).trans k2)
theorem c_keeper (T : Cx K mg) (B : Tb P w K mg base) : CalX P w K mg base (L2.CX P w) 8 "keeper" (sp_keeper K) [] := by
  obtain ⟨fd, F, ok⟩ := f_keeper (P := P) (w := w) (base := base) T B
  exact ⟨_, fd, p_keeper, [], ok, gl_keeper T, F.kp, FunD.bindsN F fun _ _ _ _ _ _ us hl => match us, hl with | [_, _, _], _ => rfl, .nil⟩
end
section
variable {P : Program} {w : World} {K : PySem.W.Frag} {mg : Str → Option Value} {base : Heap}
def sp_shares (K : PySem.W.Frag) : Sp := fun vs H Q E => ∃ (S l : Addr) (s : Stg) (xs : List Int), vs = [.ref S, .ref l] ∧ (SetAt K H S s) ∧ (SqL K H l (xs.map V.int)) ∧ (St s.ring xs) ∧ (xs.Pairwise (· < ·)) ∧ (∀ q ts H1, Kp [] H H1 → H q = none → H1 q = some (.lst (ts.map V.ref)) → Paired (fun t x => H1 t = some (.tup [.int x, .int (rch s.ring x xs)])) ts xs → Q (.ref q) H1)
theorem us_shares {K : PySem.W.Frag} {H : Hp} {Q : VK} {E : XK} {S l : Addr} {s : Stg} {xs : List Int} (hS : SetAt K H S s) (hl : SqL K H l (xs.map V.int)) (hx : St s.ring xs) (ha : xs.Pairwise (· < ·)) (kk : ∀ q ts H1, Kp [] H H1 → H q = none → H1 q = some (.lst (ts.map V.ref)) → Paired (fun t x => H1 t = some (.tup [.int x, .int (rch s.ring x xs)])) ts xs → Q (.ref q) H1) : sp_shares K [.ref S, .ref l] H Q E := ⟨_, _, _, _, rfl, hS, hl, hx, ha, kk⟩
theorem f_shares (T : Cx K mg) (B : Tb P w K mg base) : ∃ fd, FunD K "shares" "shares" (defArgs s_shares) (defBody s_shares) (defScope s_shares) (d_shares.dvs K) (d_shares.kws K) (fAd K d_shares.at_) fd ∧ FnOk P w K mg base CX0 4 (fAd K d_shares.at_) fd p_shares (sp_shares K) := by
  have c_distance := c_distance (P := P) (w := w) (base := base) T B
  have c_Setting_seats := c_Setting_seats (P := P) (w := w) (base := base) T B
  obtain ⟨fd, F⟩ := T.says.def_ 8 (d := d_shares) rfl
  refine ⟨fd, F, fnD F sc_shares (fun vs H Q E h => by
    obtain ⟨_, _, _, _, rfl, _⟩ := h
    rfl) fun cdv A outer s H vs Q E hr h => ?_⟩
  have hu := hu_of hr
  obtain ⟨S, l, s, xs, rfl, hS, hl, hx, ha, kk⟩ := h
  refine ⟨_, (pss_cons (ps_set (i := 2) sc_shares.nd rfl (by first | exact Or.inl rfl | exact Or.inr rfl) (pe_callB cr_sortedI (by rfl) (fr_sorted T) (by decide +kernel) (pa_cons (pv 1) pa_nil))) (pss_cons (ps_set (i := 3) sc_shares.nd rfl (by first | exact Or.inl rfl | exact Or.inr rfl) (pe_lst pa_nil)) (pss_cons (ps_for PassesOwn.never rfl (pi_enum (by rfl) (fr_enumerate T) (pa_cons (pv 2) pa_nil)) (pg_tup rfl (pgs_cons (pg_name (i := 4) sc_shares.nd rfl (by first | exact Or.inl rfl | exact Or.inr rfl)) (pgs_cons (pg_name (i := 5) sc_shares.nd rfl (by first | exact Or.inl rfl | exact Or.inr rfl)) pgs_nil))) (pss_cons (ps_set (i := 6) sc_shares.nd rfl (by first | exact Or.inl rfl | exact Or.inr rfl) (pe_cal c_distance hr (by decide) (by rfl) pass0 (pa_cons (pv 0) (pa_cons (pe_ix ix_list (pv 2) (pe_op op_sub (pv 4) pe_int) (fun _ _ => rfl)) (pa_cons (pv 5) pa_nil))))) (C8.pss_cut (ps_if (pt_cmpR op_eq (pv 6) pe_int (nomark _)) (pss_one (ps_set (i := 6) sc_shares.nd rfl (by first | exact Or.inl rfl | exact Or.inr rfl) (pe_prpX c_Setting_seats hr (by decide) pass0 (pv 0)))) pss_nil) (pss_one (ps_expr (pe_bm PySem.F.plainAttrs_list PySem.F.slot_list_append PySem.F.type_list_append mt_append (pv 3) (pa_cons (pe_tup (pa_cons (pv 5) (pa_cons (pv 6) pa_nil))) pa_nil))))))) (pss_one (ps_ret (pv 3)))))), ?_⟩
  rw [show L2.start n_shares [.ref S, .ref l] = [some (.ref S), some (.ref l), none, none, none, none, none] from rfl]
  try dsimp only [cxOf, Cx.nox, Cx.wish, List.map]

  have ok := hS.ok
  have r0 := ok.r2
  have len := hx.len
  obtain ⟨⟨dx, hp⟩, -⟩ := id hS
  wtm_at "rd"
  refine ⟨l, xs, rfl, hl, fun os q op os2 nq => ?_⟩
  obtain rfl : os = xs := sort_uniq op os2 (ha.imp fun h => Int.le_of_lt h)
  have kq : Kp [] H (upd H q (.lst (os.map V.int))) := Kp.new nq
  have hq : upd H q (.lst (os.map V.int)) q = some (.lst (os.map V.int)) := upd_same
  generalize upd H q (.lst (os.map V.int)) = H1 at *
  wtm_at "rd"
  refine ⟨sz1000 (by simp), fun f nf => ?_⟩
  have kf := kq.nw (o := .lst []) nf
  have nf0 := kq.back nf (by simp)
  have hf : upd H1 f (.lst []) f = some (.lst (([] : List Addr).map V.ref)) := upd_same
  have hq2 := (Kp.new (ps := []) (o := .lst []) nf).g0 hq
  have nqf : q ≠ f := ne_of_none hq nf
  generalize upd H1 f (.lst []) = H2 at *
  have S2 := hS.k0 kf
  have hp2 := kf.g0 hp
  wtm_at "rd"
  refine forE_by (K := K) (os.map V.int) (fun i σ H3 => (∃ v4 v5 v6, σ = [some (.ref S), some (.ref l), some (.ref q), some (.ref f), v4, v5, v6]) ∧ (∃ ts : List Addr, H3 f = some (.lst (ts.map V.ref)) ∧ Paired (fun t x => H3 t = some (.tup [.int x, .int (rch s.ring x os)])) ts (os.take i)) ∧ Kp [f] H2 H3) ⟨⟨_, _, _, rfl⟩, ⟨[], hf, .nil⟩, Kp.refl⟩ (fun i σ H3 _ z => SqL.of (z.2.2.g1 nqf hq2)) ?_ ?_
  · rintro i x σ H3 T hi ⟨⟨v4, v5, v6, rfl⟩, ⟨ts, t1, t2⟩, k3⟩ nT
    rw [List.getElem?_map] at hi
    obtain ⟨x', hi2, rfl⟩ := Option.map_eq_some_iff.mp hi
    clear hi
    obtain ⟨hi, rfl⟩ := List.getElem?_eq_some_iff.mp hi2
    obtain ⟨y, hy, hat, hrel⟩ := prev_at ha hi
    have w := rch_width ok.rg hx.rng (List.getElem_mem hi) hy hrel
    have kT : Kp [] H3 (upd H3 T (.tup [.int (i : Nat), .int os[i]])) := Kp.new nT
    have hT3 : upd H3 T (.tup [.int (i : Nat), .int os[i]]) T = some (.tup [.int (i : Nat), .int os[i]]) := upd_same
    have t1 := kT.g0 t1
    have t2 := paired_imp (fun _ _ e => kT.g0 e) t2
    have k3 := k3.trans kT.of0
    generalize upd H3 T (.tup [.int (i : Nat), .int os[i]]) = H3 at *
    have hq3 := k3.g1 nqf hq2
    have S3 := S2.k1 k3 (S2.nelst hf)
    have hp3 := k3.g1 (S2.nelst hf) hp2
    have tl := paired_len t2
    rw [List.length_take] at tl
    wtm_at "rd"
    refine us_distance S3 ?_
    wtm_at "rd"
    refine rd_cut (fun σ H4 => σ = [some (.ref S), some (.ref l), some (.ref q), some (.ref f), some (.int (i : Nat)), some (.int os[i]), some (.int (rch s.ring os[i] os))] ∧ H4 = H3) ?_ ?_
    · wtm_at "rd"
      refine ite_d (fun h => ?_) (fun h => ?_)
      · rw [if_pos h] at w
        wtm_at "rd"
        refine us_Setting_seats S3 ?_
        wtm_at "rd"
        rw [← w]
        exact ⟨rfl, rfl⟩
      · rw [if_neg h] at w
        wtm_at "rd"
        rw [← w]
        exact ⟨rfl, rfl⟩
    rintro σ H4 ⟨rfl, rfl⟩
    wtm_at "rd"
    refine ⟨sz1000 (by simp), fun t nt => ?_⟩
    have kt : Kp [] H4 (upd H4 t (.tup [.int os[i], .int (rch s.ring os[i] os)])) := Kp.new nt
    have t3 : upd H4 t (.tup [.int os[i], .int (rch s.ring os[i] os)]) t = some (.tup [.int os[i], .int (rch s.ring os[i] os)]) := upd_same
    have t1' := kt.g0 t1
    have t2' := paired_imp (fun _ _ e => kt.g0 e) t2
    have k4 := k3.trans kt.of0
    generalize upd H4 t (.tup [.int os[i], .int (rch s.ring os[i] os)]) = H5 at *
    have sk : (ts.map V.ref).length < sizeLine := szlt (by rw [List.length_map]; omega)
    wtm_at "rd"
    have kF : Kp [f] H5 (upd H5 f (.lst (ts.map V.ref ++ [.ref t]))) := Kp.refl.wr (by simp)
    refine ⟨⟨_, _, _, rfl⟩, ⟨ts ++ [t], by rw [upd_same, List.map_append]; rfl, ?_⟩, k4.trans kF⟩
    rw [List.take_succ_eq_append_getElem hi]
    exact paired_snoc (R := fun z x => upd H5 f (.lst (ts.map V.ref ++ [.ref t])) z = some (.tup [.int x, .int (rch s.ring x os)])) (kF.g1 (ne_of t3 t1' (by intro z; cases z)) t3) (paired_imp (fun _ _ e => kF.g1 (ne_of e t1' (by intro z; cases z)) e) t2')
  rintro σ H3 ⟨⟨v4, v5, v6, rfl⟩, ⟨ts, t1, t2⟩, k3⟩
  rw [List.length_map, List.take_length] at t2
  wtm_at "rd"
  exact kk f ts H3 (fun b o hb hn => k3 _ _ (kf _ _ hb hn) (by simpa using ne_of_none hb nf0)) nf0 t1 t2
theorem c_shares (T : Cx K mg) (B : Tb P w K mg base) : CalX P w K mg base CX0 4 "shares" (sp_shares K) [] := by
  obtain ⟨fd, F, ok⟩ := f_shares (P := P) (w := w) (base := base) T B
  exact ⟨_, fd, p_shares, [], ok, gl_shares T, F.kp, FunD.bindsN F fun _ _ _ _ _ _ us hl => match us, hl with | [_, _], _ => rfl, .nil⟩
end
section
variable {P : Program} {w : World} {K : PySem.W.Frag} {mg : Str → Option Value} {base : Heap}
def sp_l_box (K : PySem.W.Frag) : Sp := fun vs H Q E => ∃ (a : Addr) (ns : List Int), vs = [.ref a] ∧ (SqL K H a (ns.map V.int)) ∧ (ns.length ≤ 63) ∧ (∀ p c H1, Box H1 p c → Kp [] H H1 → H p = none → H c = none → Q (.ref p) H1)
theorem us_l_box {K : PySem.W.Frag} {H : Hp} {Q : VK} {E : XK} {a : Addr} {ns : List Int} (hS : SqL K H a (ns.map V.int)) (hl : ns.length ≤ 63) (kk : ∀ p c H1, Box H1 p c → Kp [] H H1 → H p = none → H c = none → Q (.ref p) H1) : sp_l_box K [.ref a] H Q E := ⟨_, _, rfl, hS, hl, kk⟩
theorem f_l_box (T : Cx K mg) (B : Tb P w K mg base) : ∃ fd, FunD K "_law_box" "_law_box" (defArgs s_l_box) (defBody s_l_box) (defScope s_l_box) (d_l_box.dvs K) (d_l_box.kws K) (fAd K d_l_box.at_) fd ∧ FnOk P w K mg base CX0 1 (fAd K d_l_box.at_) fd p_l_box (sp_l_box K) := by
  obtain ⟨fd, F⟩ := T.says.def_ 9 (d := d_l_box) rfl
  refine ⟨fd, F, fnD F sc_l_box (fun vs H Q E h => by
    obtain ⟨_, _, rfl, _⟩ := h
    rfl) fun cdv A outer s H vs Q E hr h => ?_⟩
  have hu := hu_of hr
  obtain ⟨a, ns, rfl, hS, hl, kk⟩ := h
  refine ⟨_, (pss_cons (ps_set (i := 1) sc_l_box.nd rfl (by first | exact Or.inl rfl | exact Or.inr rfl) pe_int) (pss_cons (ps_set (i := 2) sc_l_box.nd rfl (by first | exact Or.inl rfl | exact Or.inr rfl) (pe_lst pa_nil)) (pss_cons (ps_for PassesOwn.never rfl (pi_list (pe_slice sl_list (pv 0) po_none (po_some pe_int))) (pg_name (i := 3) sc_l_box.nd rfl (by first | exact Or.inl rfl | exact Or.inr rfl)) (pss_cons (ps_set (i := 4) sc_l_box.nd rfl (by first | exact Or.inl rfl | exact Or.inr rfl) (pe_callB call_abs' (by rfl) (fr_abs T) (by decide +kernel) (pa_cons (pe_callTy call_int1' (by rfl) (fr_int T) (by decide +kernel) (pa_cons (pv 3) pa_nil)) pa_nil))) (pss_cons (ps_if (pt_cmpR op_ge (pv 4) (pe_op op_pow pe_int pe_int) (nomark _)) (pss_one (ps_expr (pe_bm PySem.F.plainAttrs_list PySem.F.slot_list_append PySem.F.type_list_append mt_append (pv 2) (pa_cons (pv 4) pa_nil)))) pss_nil) (pss_one (ps_set (i := 1) sc_l_box.nd rfl (by first | exact Or.inl rfl | exact Or.inr rfl) (pe_op op_mod (pe_callTy call_int1' (by rfl) (fr_int T) (by decide +kernel) (pa_cons (pe_op op_add (pe_op op_add (pe_op op_add (pe_op op_mul (pv 1) pe_int) (pe_op op_mul (pe_op op_mod (pe_callTy call_int1' (by rfl) (fr_int T) (by decide +kernel) (pa_cons (pv 4) pa_nil)) pe_int) pe_int)) (pe_callTy call_int1' (by rfl) (fr_int T) (by decide +kernel) (pa_cons (pe_cmpR op_lt (pv 3) pe_int (nomark _)) pa_nil))) pe_int) pa_nil)) pe_int)))))) (pss_one (ps_ret (pe_lst (pa_cons (pv 2) (pa_cons pe_int (pa_cons pe_int (pa_cons (pv 1) (pa_cons pe_int pa_nil))))))))))), ?_⟩
  rw [show L2.start n_l_box [.ref a] = [some (.ref a), none, none, none, none] from rfl]
  try dsimp only [cxOf, Cx.nox, Cx.wish, List.map]

  wtm_at "rd"
  refine ⟨sz1000 (by simp), fun g ng => ?_⟩
  have e : cutV (ns.map V.int) none (some 63) = ns.map V.int := by
    rw [show (63 : Int) = ((63 : Nat) : Int) from rfl, cut_to, List.take_of_length_le (by rw [List.length_map]; exact hl)]
  have kg : Kp [] H (upd H g (.lst [])) := Kp.new ng
  have hg : upd H g (.lst []) g = some (.lst (([] : List Int).map V.int)) := upd_same
  generalize upd H g (.lst []) = H0 at *
  have hS0 := sl_kp kg (by simp) hS
  wtm_at "rd"
  intro q nq
  rw [e]
  have kq := kg.nw (o := .lst (ns.map V.int)) nq
  have hq : upd H0 q (.lst (ns.map V.int)) q = some (.lst (ns.map V.int)) := upd_same
  have hg1 := (Kp.new (ps := []) (o := .lst (ns.map V.int)) nq).g0 hg
  have ngq : g ≠ q := ne_of_none hg nq
  generalize upd H0 q (.lst (ns.map V.int)) = H1 at *
  wtm_at "rd"
  refine forL_ints (K := K) ns (fun i σ H2 => (∃ s v3 v4, σ = [some (.ref a), some (.int s), some (.ref g), v3, v4]) ∧ (∃ gs : List Int, H2 g = some (.lst (gs.map V.int)) ∧ gs.length ≤ i) ∧ Kp [g] H1 H2) ⟨⟨_, _, _, rfl⟩, ⟨[], hg1, by simp⟩, Kp.refl⟩ (fun i σ H2 _ z => SqL.of (z.2.2.g1 (Ne.symm ngq) hq)) ?_ ?_
  · rintro i hi σ H2 ⟨⟨s, v3, v4, rfl⟩, ⟨gs, g1, g2⟩, k2⟩
    have sk : (gs.map V.int).length < sizeLine := szlt (by rw [List.length_map]; omega)
    wtm_at "rd"
    refine ite_d (fun h => ?_) (fun h => ?_)
    · wtm_at "rd"
      exact ⟨⟨_, _, _, rfl⟩, ⟨gs ++ [((ns[i]).natAbs : Int)], by rw [upd_same, List.map_append]; rfl, by simp; omega⟩, k2.wr (by simp)⟩
    · wtm_at "rd"
      exact ⟨⟨_, _, _, rfl⟩, ⟨gs, g1, by omega⟩, k2⟩
  rintro σ H2 ⟨⟨s, v3, v4, rfl⟩, ⟨gs, g1, g2⟩, k2⟩
  have kA : Kp [] H H2 := fun b o hb hn => k2 _ _ (kq _ _ hb hn) (by simpa using ne_of_none hb ng)
  wtm_at "rd"
  refine ⟨sz1000 (by simp), fun p np => ?_⟩
  refine kk p g _ ⟨⟨gs, 0, 0, _, 0, upd_same, hu_ne (ne_of_none g1 np) g1, by omega, by omega⟩, ne_of_none g1 np⟩ (kA.nw np) (kA.back np (by simp)) ng
theorem c_l_box (T : Cx K mg) (B : Tb P w K mg base) : CalX P w K mg base CX0 1 "_law_box" (sp_l_box K) [] := by
  obtain ⟨fd, F, ok⟩ := f_l_box (P := P) (w := w) (base := base) T B
  exact ⟨_, fd, p_l_box, [], ok, gl_l_box T, F.kp, FunD.bindsN F fun _ _ _ _ _ _ us hl => match us, hl with | [_], _ => rfl, .nil⟩
end
section
variable {P : Program} {w : World} {K : PySem.W.Frag} {mg : Str → Option Value} {base : Heap}
def sp_l_draw (K : PySem.W.Frag) : Sp := fun vs H Q E => ∃ (p c : Addr) (top : Int), vs = [.ref p, .int top] ∧ (Box H p c) ∧ (0 < top) ∧ (top < 1073741824) ∧ (∀ n H1, 0 ≤ n → n < top → Box H1 p c → Kp [p, c] H H1 → Q (.int n) H1)
theorem us_l_draw {K : PySem.W.Frag} {H : Hp} {Q : VK} {E : XK} {p c : Addr} {top : Int} (hB : Box H p c) (ht0 : 0 < top) (ht1 : top < 1073741824) (kk : ∀ n H1, 0 ≤ n → n < top → Box H1 p c → Kp [p, c] H H1 → Q (.int n) H1) : sp_l_draw K [.ref p, .int top] H Q E := ⟨_, _, _, rfl, hB, ht0, ht1, kk⟩
theorem f_l_draw (T : Cx K mg) (B : Tb P w K mg base) : ∃ fd, FunD K "_law_draw" "_law_draw" (defArgs s_l_draw) (defBody s_l_draw) (defScope s_l_draw) (d_l_draw.dvs K) (d_l_draw.kws K) (fAd K d_l_draw.at_) fd ∧ FnOk P w K mg base CX0 1 (fAd K d_l_draw.at_) fd p_l_draw (sp_l_draw K) := by
  obtain ⟨fd, F⟩ := T.says.def_ 10 (d := d_l_draw) rfl
  refine ⟨fd, F, fnD F sc_l_draw (fun vs H Q E h => by
    obtain ⟨_, _, _, rfl, _⟩ := h
    rfl) fun cdv A outer s H vs Q E hr h => ?_⟩
  have hu := hu_of hr
  obtain ⟨p, c, top, rfl, hB, ht0, ht1, kk⟩ := h
  refine ⟨_, (pss_cons (ps_if (pt_cmpR op_lt (pv 1) pe_int (nomark _)) (pss_one (ps_ret pe_int)) pss_nil) (pss_cons (ps_asg (pe_op op_add (pe_ix ix_list (pv 0) pe_int (fun _ _ => rfl)) pe_int) (pg_sub (pv 0) pe_int set_list)) (pss_cons (ps_set (i := 2) sc_l_draw.nd rfl (by first | exact Or.inl rfl | exact Or.inr rfl) (pe_ix ix_list (pv 0) pe_int (fun _ _ => rfl))) (pss_cons (ps_if (pt_cmpR op_lt (pe_ix ix_list (pv 0) pe_int (fun _ _ => rfl)) (pe_callB call_lenS (by rfl) (fr_len T) (by decide +kernel) (pa_cons (pv 2) pa_nil)) (nomark _)) (pss_cons (ps_set (i := 3) sc_l_draw.nd rfl (by first | exact Or.inl rfl | exact Or.inr rfl) (pe_ix ix_list (pv 2) (pe_ix ix_list (pv 0) pe_int (fun _ _ => rfl)) (fun _ _ => rfl))) (pss_cons (ps_asg (pe_op op_fdiv (pv 3) (pv 1)) (pg_sub (pv 2) (pe_ix ix_list (pv 0) pe_int (fun _ _ => rfl)) set_list)) (pss_cons (ps_asg (pe_op op_add (pe_ix ix_list (pv 0) pe_int (fun _ _ => rfl)) pe_int) (pg_sub (pv 0) pe_int set_list)) (pss_cons (ps_if (PW.pt (pw_or (pt_cmpR op_lt (pv 3) (pv 1) (nomark _)) (pw_or1 (pt_cmpR op_eq (pe_ix ix_list (pv 0) pe_int (fun _ _ => rfl)) pe_int (nomark _))))) (pss_cons (ps_asg (pe_op op_add (pe_ix ix_list (pv 0) pe_int (fun _ _ => rfl)) pe_int) (pg_sub (pv 0) pe_int set_list)) (pss_one (ps_asg pe_int (pg_sub (pv 0) pe_int set_list)))) pss_nil) (pss_one (ps_ret (pe_op op_mod (pe_callTy call_int1' (by rfl) (fr_int T) (by decide +kernel) (pa_cons (pv 3) pa_nil)) (pv 1)))))))) pss_nil) (pss_cons (ps_set (i := 4) sc_l_draw.nd rfl (by first | exact Or.inl rfl | exact Or.inr rfl) (pe_op op_mod (pe_callTy call_int1' (by rfl) (fr_int T) (by decide +kernel) (pa_cons (pe_op op_add (pe_op op_add (pe_op op_mul (pe_ix ix_list (pv 0) pe_int (fun _ _ => rfl)) pe_int) (pe_op op_mul (pe_ix ix_list (pv 0) pe_int (fun _ _ => rfl)) pe_int)) pe_int) pa_nil)) pe_int)) (pss_cons (ps_set (i := 5) sc_l_draw.nd rfl (by first | exact Or.inl rfl | exact Or.inr rfl) (pe_op op_mod (pe_callTy call_int1' (by rfl) (fr_int T) (by decide +kernel) (pa_cons (pe_op op_add (pe_op op_add (pe_op op_mul (pv 4) (pv 4)) (pe_op op_mul (pe_ix ix_list (pv 0) pe_int (fun _ _ => rfl)) pe_int)) pe_int) pa_nil)) pe_int)) (pss_one (ps_ret (pe_op op_mod (pe_callTy call_int1' (by rfl) (fr_int T) (by decide +kernel) (pa_cons (pe_op op_fdiv (pe_op op_mod (pe_callTy call_int1' (by rfl) (fr_int T) (by decide +kernel) (pa_cons (pe_op op_add (pe_op op_mul (pv 5) pe_int) (pv 4)) pa_nil)) pe_int) pe_int) pa_nil)) (pv 1)))))))))), ?_⟩
  rw [show L2.start n_l_draw [.ref p, .int top] = [some (.ref p), some (.int top), none, none, none, none] from rfl]
  try dsimp only [cxOf, Cx.nox, Cx.wish, List.map]

  obtain ⟨⟨ns, a, b, d, e, h1, h2, h3, h4⟩, ne⟩ := hB
  wtm_at "rd"
  refine ite_d (fun h => ?_) (fun h => ?_)
  · wtm_at "rd"
    exact kk 0 H (by decide) ht0 ⟨⟨ns, a, b, d, e, h1, h2, h3, h4⟩, ne⟩ Kp.refl
  · wtm_at "rd"
    refine ite_d (fun h5 => ?_) (fun h5 => ?_)
    · have hj : a.toNat < ns.length := by omega
      wtm_at "rd"
      refine rd_setL (j := a.toNat) (by wtm_at "hp") (ixN_at h4 (by rw [List.length_map]; omega)) ?_
      rw [← List.map_set]
      have q0 := Int.emod_nonneg (ns.getD a.toNat 0) (show top ≠ 0 by omega)
      have q1 := Int.emod_lt_of_pos (ns.getD a.toNat 0) ht0
      wtm_at "rd"
      have fin : ∀ (a' b' : Int), 0 ≤ a' → ∀ Hx, Hx p = some (.lst [.ref c, .int a', .int b', .int d, .int (e + 1)]) → Hx c = some (.lst ((ns.set a.toNat (ns.getD a.toNat 0 / top)).map V.int)) → Kp [p, c] H Hx → Q (.int (ns.getD a.toNat 0 % top)) Hx := fun a' b' ha' Hx x1 x2 kx => kk _ Hx q0 q1 ⟨⟨_, a', b', d, e + 1, x1, x2, by rw [List.length_set]; exact h3, ha'⟩, ne⟩ kx
      refine ite_d (fun h6 => ?_) (fun h6 => ?_)
      · wtm_at "rd"
        refine fin _ _ ?_ _ upd_same (by wtm_at "hp") (by wtm_at "kp")
        omega
      · wtm_at "rd"
        refine ite_d (fun h7 => ?_) (fun h7 => ?_)
        · wtm_at "rd"
          refine fin _ _ ?_ _ upd_same (by wtm_at "hp") (by wtm_at "kp")
          omega
        · wtm_at "rd"
          refine fin _ _ h4 _ upd_same (by wtm_at "hp") (by wtm_at "kp")
    · wtm_at "rd"
      exact kk _ _ (Int.emod_nonneg _ (by omega)) (Int.emod_lt_of_pos _ ht0) ⟨⟨ns, _, _, _, _, upd_same, by wtm_at "hp", h3, h4⟩, ne⟩ (by wtm_at "kp")
theorem c_l_draw (T : Cx K mg) (B : Tb P w K mg base) : CalX P w K mg base CX0 1 "_law_draw" (sp_l_draw K) [] := by
  obtain ⟨fd, F, ok⟩ := f_l_draw (P := P) (w := w) (base := base) T B
  exact ⟨_, fd, p_l_draw, [], ok, gl_l_draw T, F.kp, FunD.bindsN F fun _ _ _ _ _ _ us hl => match us, hl with | [_, _], _ => rfl, .nil⟩
end
section
variable {P : Program} {w : World} {K : PySem.W.Frag} {mg : Str → Option Value} {base : Heap}
def sp_l_char (K : PySem.W.Frag) : Sp := fun vs H Q E => ∃ (n : Int), vs = [.int n] ∧ (0 ≤ n ∧ n < 36) ∧ (∀ c, c ∈ SIGNS.cps.toList → Q (.str ⟨#[c]⟩) H)
theorem us_l_char {K : PySem.W.Frag} {H : Hp} {Q : VK} {E : XK} {n : Int} (h0 : 0 ≤ n ∧ n < 36) (kk : ∀ c, c ∈ SIGNS.cps.toList → Q (.str ⟨#[c]⟩) H) : sp_l_char K [.int n] H Q E := ⟨_, rfl, h0, kk⟩
theorem f_l_char (T : Cx K mg) (B : Tb P w K mg base) : ∃ fd, FunD K "_law_char" "_law_char" (defArgs s_l_char) (defBody s_l_char) (defScope s_l_char) (d_l_char.dvs K) (d_l_char.kws K) (fAd K d_l_char.at_) fd ∧ FnOk P w K mg base CX0 1 (fAd K d_l_char.at_) fd p_l_char (sp_l_char K) := by
  obtain ⟨fd, F⟩ := T.says.def_ 11 (d := d_l_char) rfl
  refine ⟨fd, F, fnD F sc_l_char (fun vs H Q E h => by
    obtain ⟨_, rfl, _⟩ := h
    rfl) fun cdv A outer s H vs Q E hr h => ?_⟩
  have hu := hu_of hr
  obtain ⟨n, rfl, h0, kk⟩ := h
  refine ⟨_, (pss_one (ps_ret (pe_ix ix_str pe_str (pe_op op_mod (pe_callTy call_int1' (by rfl) (fr_int T) (by decide +kernel) (pa_cons (pv 0) pa_nil)) pe_int) (fun _ _ => rfl)))), ?_⟩
  rw [show L2.start n_l_char [.int n] = [some (.int n)] from rfl]
  try dsimp only [cxOf, Cx.nox, Cx.wish, List.map]

  wtm_at "rd"
  obtain ⟨c, hc, hat⟩ := lets_at (m := n % 36) (by omega)
  show rIxS (.str SIGNS) (.int (n % 36)) H Q
  refine rd_ixS (sz1000 (show SIGNS.length ≤ 1000000 by decide +kernel)) hat ?_
  exact kk c hc
theorem c_l_char (T : Cx K mg) (B : Tb P w K mg base) : CalX P w K mg base CX0 1 "_law_char" (sp_l_char K) [] := by
  obtain ⟨fd, F, ok⟩ := f_l_char (P := P) (w := w) (base := base) T B
  exact ⟨_, fd, p_l_char, [], ok, gl_l_char T, F.kp, FunD.bindsN F fun _ _ _ _ _ _ us hl => match us, hl with | [_], _ => rfl, .nil⟩
end
section
variable {P : Program} {w : World} {K : PySem.W.Frag} {mg : Str → Option Value} {base : Heap}
def sp_l_word (K : PySem.W.Frag) : Sp := fun vs H Q E => ∃ (p c : Addr), vs = [.ref p] ∧ (Box H p c) ∧ (∀ w H1, kOk w = true → Box H1 p c → Kp [p, c] H H1 → Q (.str w) H1)
theorem us_l_word {K : PySem.W.Frag} {H : Hp} {Q : VK} {E : XK} {p c : Addr} (hB : Box H p c) (kk : ∀ w H1, kOk w = true → Box H1 p c → Kp [p, c] H H1 → Q (.str w) H1) : sp_l_word K [.ref p] H Q E := ⟨_, _, rfl, hB, kk⟩
theorem f_l_word (T : Cx K mg) (B : Tb P w K mg base) : ∃ fd, FunD K "_law_word" "_law_word" (defArgs s_l_word) (defBody s_l_word) (defScope s_l_word) (d_l_word.dvs K) (d_l_word.kws K) (fAd K d_l_word.at_) fd ∧ FnOk P w K mg base CX0 2 (fAd K d_l_word.at_) fd p_l_word (sp_l_word K) := by
  have c_l_draw := c_l_draw (P := P) (w := w) (base := base) T B
  have c_l_char := c_l_char (P := P) (w := w) (base := base) T B
  obtain ⟨fd, F⟩ := T.says.def_ 12 (d := d_l_word) rfl
  refine ⟨fd, F, fnD F sc_l_word (fun vs H Q E h => by
    obtain ⟨_, _, rfl, _⟩ := h
    rfl) fun cdv A outer s H vs Q E hr h => ?_⟩
  have hu := hu_of hr
  obtain ⟨p, c, rfl, hB, kk⟩ := h
  refine ⟨_, (pss_cons (ps_set (i := 1) sc_l_word.nd rfl (by first | exact Or.inl rfl | exact Or.inr rfl) (pe_op op_add pe_int (pe_cal c_l_draw hr (by decide) (by rfl) pass0 (pa_cons (pv 0) (pa_cons pe_int pa_nil))))) (C8.pss_cut (ps_if (pt_cmpR op_eq (pe_cal c_l_draw hr (by decide) (by rfl) pass0 (pa_cons (pv 0) (pa_cons pe_int pa_nil))) pe_int (nomark _)) (pss_one (ps_set (i := 1) sc_l_word.nd rfl (by first | exact Or.inl rfl | exact Or.inr rfl) (pe_op op_add pe_int (pe_cal c_l_draw hr (by decide) (by rfl) pass0 (pa_cons (pv 0) (pa_cons pe_int pa_nil)))))) pss_nil) (pss_one (ps_ret (pe_join' pe_str (pe_lc (own := [("_law_k", 2)]) (g := (gName 2)) (tt := tYes) rfl sc_l_word.nd (pi_range1 (by rfl) (fr_range T) (pa_cons (pv 1) pa_nil)) (blkOk_by (own := [("_law_k", 2)]) (N := n_l_word) (sc := defScope s_l_word) (by decide +kernel)) (fun _ _ _ _ _ => (pg_name (i := 2) sc_l_word.nd rfl (by first | exact Or.inl rfl | exact Or.inr rfl))) (fun _ _ _ _ _ => pts_nil) (fun _ _ _ _ _ => (pe_cal c_l_char hr (by decide) (by rfl) pass0 (pa_cons (pe_cal c_l_draw hr (by decide) (by rfl) pass0 (pa_cons (pv 0) (pa_cons pe_int pa_nil))) pa_nil))))))))), ?_⟩
  rw [show L2.start n_l_word [.ref p] = [some (.ref p), none, none] from rfl]
  try dsimp only [cxOf, Cx.nox, Cx.wish, List.map]

  wtm_at "rd"
  refine us_l_draw hB (by decide) (by decide) fun n1 H1 n10 n11 B1 k1 => ?_
  wtm_at "rd"
  refine rd_cut (fun σ H2 => (∃ m, σ = [some (.ref p), some (.int m), none] ∧ 1 ≤ m ∧ m ≤ 20) ∧ Box H2 p c ∧ Kp [p, c] H H2) ?_ ?_
  · wtm_at "rd"
    refine us_l_draw B1 (by decide) (by decide) fun n2 H2 n20 n21 B2 k2 => ?_
    wtm_at "rd"
    refine ite_d (fun h => ?_) (fun h => ?_)
    · wtm_at "rd"
      refine us_l_draw B2 (by decide) (by decide) fun n3 H3 n30 n31 B3 k3 => ?_
      wtm_at "rd"
      exact ⟨⟨_, rfl, by omega, by omega⟩, B3, (k1.trans k2).trans k3⟩
    · wtm_at "rd"
      exact ⟨⟨_, rfl, by omega, by omega⟩, B2, k1.trans k2⟩
  clear k1 B1
  rintro σ H2 ⟨⟨m, rfl, m0, m1⟩, B2, k2⟩
  wtm_at "rd"
  intro D nD
  have nDp : D ≠ p := Ne.symm (B2.ne1 nD)
  have nDc : D ≠ c := Ne.symm (B2.ne2 nD)
  refine lcR_by (fun i H' => (∃ cs : List Nat, H' D = some (.lst ((cs.map fun c => (⟨#[c]⟩ : Str)).map V.str)) ∧ cs.length = i ∧ ∀ c, c ∈ cs → c ∈ SIGNS.cps.toList) ∧ Box H' p c ∧ Kp [p, c] H2 H') ⟨⟨[], upd_same, rfl, fun c hc => by cases hc⟩, B2.new nD, Kp.new nD⟩ (fun i H' hi q => ?_) (fun H' q => ?_)
  · obtain ⟨⟨cs, q1, q2, q3⟩, B3, k3⟩ := q
    wtm_at "rd"
    refine ⟨rfl, ?_⟩
    wtm_at "rd"
    refine us_l_draw B3 (by decide) (by decide) fun m H4 m0 m1 B4 k4 => ?_
    wtm_at "rd"
    refine us_l_char ⟨m0, m1⟩ fun c hc => ?_
    exact ⟨_, B3.gs k4 nDc q1, szlt (by rw [List.length_map, List.length_map]; omega), ⟨cs ++ [c], by rw [upd_same, List.map_append, List.map_append]; rfl, by rw [List.length_append, q2]; rfl, fun y hy => by
      rcases List.mem_append.mp hy with m | m
      · exact q3 y m
      · rw [List.mem_singleton.mp m]
        exact hc⟩, B4.kp (ps := [D]) (Kp.refl.wr (by simp)) (by simpa using Ne.symm nDp) (by simpa using Ne.symm nDc), (k3.trans k4).mine nD⟩
  · obtain ⟨⟨cs, q1, q2, q3⟩, B3, k3⟩ := q
    have hl : cs.length ≤ 20 := by omega
    wtm_at "rd"
    refine rd_join (ys := cs.map fun c => (⟨#[c]⟩ : Str)) q1 ?_ ?_
    · rw [show (("" : Str)).length = 0 from rfl, Nat.mul_zero, Nat.add_zero, List.map_map]
      rw [show (fun x : Str => x.length) ∘ (fun c => (⟨#[c]⟩ : Str)) = fun _ => 1 from rfl, List.map_const', List.sum_replicate_nat]
      omega
    · rw [show ("" : Str) = (⟨#[]⟩ : Str) from rfl, join1]
      exact kk _ _ (kOk_of (by intro z; rw [z] at q2; simp at q2; omega) hl q3) B3 (k2.trans k3)
theorem c_l_word (T : Cx K mg) (B : Tb P w K mg base) : CalX P w K mg base CX0 2 "_law_word" (sp_l_word K) [] := by
  obtain ⟨fd, F, ok⟩ := f_l_word (P := P) (w := w) (base := base) T B
  exact ⟨_, fd, p_l_word, [], ok, gl_l_word T, F.kp, FunD.bindsN F fun _ _ _ _ _ _ us hl => match us, hl with | [_], _ => rfl, .nil⟩
end
section
variable {P : Program} {w : World} {K : PySem.W.Frag} {mg : Str → Option Value} {base : Heap}
def sp_l_place (K : PySem.W.Frag) : Sp := fun vs H Q E => ∃ (r : Int) (w : Str), vs = [.int r, .str w] ∧ (Ring r) ∧ (w.length ≤ 1000) ∧ (Q (.int (plc r w)) H)
theorem us_l_place {K : PySem.W.Frag} {H : Hp} {Q : VK} {E : XK} {r : Int} {w : Str} (hR : Ring r) (hl : w.length ≤ 1000) (kk : Q (.int (plc r w)) H) : sp_l_place K [.int r, .str w] H Q E := ⟨_, _, rfl, hR, hl, kk⟩
theorem f_l_place (T : Cx K mg) (B : Tb P w K mg base) : ∃ fd, FunD K "_law_place" "_law_place" (defArgs s_l_place) (defBody s_l_place) (defScope s_l_place) (d_l_place.dvs K) (d_l_place.kws K) (fAd K d_l_place.at_) fd ∧ FnOk P w K mg base CX0 1 (fAd K d_l_place.at_) fd p_l_place (sp_l_place K) := by
  obtain ⟨fd, F⟩ := T.says.def_ 13 (d := d_l_place) rfl
  refine ⟨fd, F, fnD F sc_l_place (fun vs H Q E h => by
    obtain ⟨_, _, rfl, _⟩ := h
    rfl) fun cdv A outer s H vs Q E hr h => ?_⟩
  have hu := hu_of hr
  obtain ⟨r, w, rfl, hR, hl, kk⟩ := h
  refine ⟨_, (pss_cons (ps_set (i := 2) sc_l_place.nd rfl (by first | exact Or.inl rfl | exact Or.inr rfl) pe_int) (pss_cons (ps_for PassesOwn.never rfl (pi_str (pv 1)) (pg_name (i := 3) sc_l_place.nd rfl (by first | exact Or.inl rfl | exact Or.inr rfl)) (pss_one (ps_set (i := 2) sc_l_place.nd rfl (by first | exact Or.inl rfl | exact Or.inr rfl) (pe_op op_mod (pe_callTy call_int1' (by rfl) (fr_int T) (by decide +kernel) (pa_cons (pe_op op_add (pe_op op_mul (pv 2) pe_int) (pe_callB call_ord (by rfl) (fr_ord T) (by decide +kernel) (pa_cons (pv 3) pa_nil))) pa_nil)) (pv 0))))) (pss_one (ps_ret (pv 2))))), ?_⟩
  rw [show L2.start n_l_place [.int r, .str w] = [some (.int r), some (.str w), none, none] from rfl]
  try dsimp only [cxOf, Cx.nox, Cx.wish, List.map]

  have r0 := hR.two
  wtm_at "rd"
  refine forS_by (fun i σ H2 => (∃ v3, σ = [some (.int r), some (.str w), some (.int ((w.cps.toList.take i).foldl (fun n (c : Nat) => (n * 31 + (c : Int)) % r) 0)), v3]) ∧ H2 = H) ⟨⟨_, rfl⟩, rfl⟩ ?_ ?_
  · rintro i c σ H2 hc ⟨⟨v3, rfl⟩, rfl⟩
    obtain ⟨h1, h2⟩ := List.getElem?_eq_some_iff.mp hc
    wtm_at "rd"
    refine ⟨_, rfl, rfl, ?_⟩
    wtm_at "rd"
    refine ⟨⟨some (.str ⟨#[c]⟩), ?_⟩, rfl⟩
    rw [List.take_succ_eq_append_getElem h1, h2, List.foldl_append]
    rfl
  · rintro σ H2 ⟨⟨v3, rfl⟩, rfl⟩
    wtm_at "rd"
    have := kk
    unfold plc at this
    rw [List.take_of_length_le (by simp)]
    exact this
theorem c_l_place (T : Cx K mg) (B : Tb P w K mg base) : CalX P w K mg base CX0 1 "_law_place" (sp_l_place K) [] := by
  obtain ⟨fd, F, ok⟩ := f_l_place (P := P) (w := w) (base := base) T B
  exact ⟨_, fd, p_l_place, [], ok, gl_l_place T, F.kp, FunD.bindsN F fun _ _ _ _ _ _ us hl => match us, hl with | [_, _], _ => rfl, .nil⟩
end
section
variable {P : Program} {w : World} {K : PySem.W.Frag} {mg : Str → Option Value} {base : Heap}
def sp_l_walk (K : PySem.W.Frag) : Sp := fun vs H Q E => ∃ (r p : Int) (l : Addr) (xs : List Int), vs = [.int r, .int p, .ref l] ∧ (Ring r) ∧ (SqL K H l (xs.map V.int)) ∧ (St r xs) ∧ (Q (ov (wk r p xs)) H)
theorem us_l_walk {K : PySem.W.Frag} {H : Hp} {Q : VK} {E : XK} {r p : Int} {l : Addr} {xs : List Int} (hR : Ring r) (hl : SqL K H l (xs.map V.int)) (hx : St r xs) (kk : Q (ov (wk r p xs)) H) : sp_l_walk K [.int r, .int p, .ref l] H Q E := ⟨_, _, _, _, rfl, hR, hl, hx, kk⟩
theorem f_l_walk (T : Cx K mg) (B : Tb P w K mg base) : ∃ fd, FunD K "_law_walk" "_law_walk" (defArgs s_l_walk) (defBody s_l_walk) (defScope s_l_walk) (d_l_walk.dvs K) (d_l_walk.kws K) (fAd K d_l_walk.at_) fd ∧ FnOk P w K mg base CX0 1 (fAd K d_l_walk.at_) fd p_l_walk (sp_l_walk K) := by
  obtain ⟨fd, F⟩ := T.says.def_ 14 (d := d_l_walk) rfl
  refine ⟨fd, F, fnD F sc_l_walk (fun vs H Q E h => by
    obtain ⟨_, _, _, _, rfl, _⟩ := h
    rfl) fun cdv A outer s H vs Q E hr h => ?_⟩
  have hu := hu_of hr
  obtain ⟨r, p, l, xs, rfl, hR, hl, hx, kk⟩ := h
  refine ⟨_, (pss_cons (ps_for PassesOwn.never rfl (pi_range1 (by rfl) (fr_range T) (pa_cons (pv 0) pa_nil)) (pg_name (i := 3) sc_l_walk.nd rfl (by first | exact Or.inl rfl | exact Or.inr rfl)) (pss_one (ps_if (pt_cmpR op_in_seq (pe_op op_mod (pe_callTy call_int1' (by rfl) (fr_int T) (by decide +kernel) (pa_cons (pe_op op_add (pv 1) (pv 3)) pa_nil)) (pv 0)) (pv 2) rfl) (pss_one (ps_ret (pe_op op_mod (pe_callTy call_int1' (by rfl) (fr_int T) (by decide +kernel) (pa_cons (pe_op op_add (pv 1) (pv 3)) pa_nil)) (pv 0)))) pss_nil))) (pss_one (ps_ret pe_non))), ?_⟩
  rw [show L2.start n_l_walk [.int r, .int p, .ref l] = [some (.int r), some (.int p), some (.ref l), none] from rfl]
  try dsimp only [cxOf, Cx.nox, Cx.wish, List.map]

  have r1 := hR.le
  have r0 := hR.two
  wtm_at "rd"
  refine forR_by (fun i σ H2 => (∃ v3, σ = [some (.int r), some (.int p), some (.ref l), v3]) ∧ H2 = H ∧ ∀ j : Nat, j < i → (p + (j : Int)) % r ∉ xs) ⟨⟨_, rfl⟩, rfl, fun j hj => by omega⟩ ?_ ?_
  · rintro i σ H2 hi ⟨⟨v3, rfl⟩, rfl, hn⟩
    wtm_at "rd"
    rw [Int.zero_add]
    refine ite_d (fun h => ?_) (fun h => ?_)
    · wtm_at "rd"
      have := first_at hR hx.rng hn (by omega) h
      rw [← wk_eq hR hx.rng this] at kk
      exact kk
    · wtm_at "rd"
      refine ⟨⟨_, rfl⟩, rfl, fun j hj => ?_⟩
      rcases Nat.lt_succ_iff_lt_or_eq.mp hj with h2 | rfl
      · exact hn j h2
      · exact h
  · rintro σ H2 ⟨⟨v3, rfl⟩, rfl, hn⟩
    wtm_at "rd"
    rw [← wk_eq hR hx.rng (first_no hR hx.rng (fun j hj => hn j (by omega)))] at kk
    exact kk
theorem c_l_walk (T : Cx K mg) (B : Tb P w K mg base) : CalX P w K mg base CX0 1 "_law_walk" (sp_l_walk K) [] := by
  obtain ⟨fd, F, ok⟩ := f_l_walk (P := P) (w := w) (base := base) T B
  exact ⟨_, fd, p_l_walk, [], ok, gl_l_walk T, F.kp, FunD.bindsN F fun _ _ _ _ _ _ us hl => match us, hl with | [_, _, _], _ => rfl, .nil⟩
end
section
variable {P : Program} {w : World} {K : PySem.W.Frag} {mg : Str → Option Value} {base : Heap}
def sp_l_alive (K : PySem.W.Frag) : Sp := fun vs H Q E => ∃ (p c : Addr) (r : Int), vs = [.ref p, .int r] ∧ (Box H p c) ∧ (Ring r) ∧ (∀ l xs H1, St r xs → H1 l = some (.lst (xs.map V.int)) → H l = none → Box H1 p c → Kp [p, c] H H1 → Q (.ref l) H1)
theorem us_l_alive {K : PySem.W.Frag} {H : Hp} {Q : VK} {E : XK} {p c : Addr} {r : Int} (hB : Box H p c) (hR : Ring r) (kk : ∀ l xs H1, St r xs → H1 l = some (.lst (xs.map V.int)) → H l = none → Box H1 p c → Kp [p, c] H H1 → Q (.ref l) H1) : sp_l_alive K [.ref p, .int r] H Q E := ⟨_, _, _, rfl, hB, hR, kk⟩
theorem f_l_alive (T : Cx K mg) (B : Tb P w K mg base) : ∃ fd, FunD K "_law_alive" "_law_alive" (defArgs s_l_alive) (defBody s_l_alive) (defScope s_l_alive) (d_l_alive.dvs K) (d_l_alive.kws K) (fAd K d_l_alive.at_) fd ∧ FnOk P w K mg base CX0 2 (fAd K d_l_alive.at_) fd p_l_alive (sp_l_alive K) := by
  have c_l_draw := c_l_draw (P := P) (w := w) (base := base) T B
  obtain ⟨fd, F⟩ := T.says.def_ 15 (d := d_l_alive) rfl
  refine ⟨fd, F, fnD F sc_l_alive (fun vs H Q E h => by
    obtain ⟨_, _, _, rfl, _⟩ := h
    rfl) fun cdv A outer s H vs Q E hr h => ?_⟩
  have hu := hu_of hr
  obtain ⟨p, c, r, rfl, hB, hR, kk⟩ := h
  refine ⟨_, (pss_cons (ps_set (i := 2) sc_l_alive.nd rfl (by first | exact Or.inl rfl | exact Or.inr rfl) (pe_lst pa_nil)) (pss_cons (ps_for PassesOwn.never rfl (pi_range1 (by rfl) (fr_range T) (pa_cons (pe_cal c_l_draw hr (by decide) (by rfl) pass0 (pa_cons (pv 0) (pa_cons (pe_op op_add (pe_callB (call_min2' rfl) (by rfl) (fr_min T) (by decide +kernel) (pa_cons (pv 1) (pa_cons pe_int pa_nil))) pe_int) pa_nil))) pa_nil)) (pg_name (i := 3) sc_l_alive.nd rfl (by first | exact Or.inl rfl | exact Or.inr rfl)) (pss_cons (ps_set (i := 4) sc_l_alive.nd rfl (by first | exact Or.inl rfl | exact Or.inr rfl) (pe_cal c_l_draw hr (by decide) (by rfl) pass0 (pa_cons (pv 0) (pa_cons (pv 1) pa_nil)))) (pss_one (ps_if (pt_cmpR op_notIn_seq (pv 4) (pv 2) rfl) (pss_one (ps_expr (pe_bm PySem.F.plainAttrs_list PySem.F.slot_list_append PySem.F.type_list_append mt_append (pv 2) (pa_cons (pv 4) pa_nil)))) pss_nil)))) (pss_cons (ps_if (pt_cmpR op_eq (pe_cal c_l_draw hr (by decide) (by rfl) pass0 (pa_cons (pv 0) (pa_cons pe_int pa_nil))) pe_int (nomark _)) (pss_one (ps_ret (pe_lc (own := [("_law_seat", 4)]) (g := (gName 4)) rfl sc_l_alive.nd (pi_range1 (by rfl) (fr_range T) (pa_cons (pv 1) pa_nil)) (blkOk_by (own := [("_law_seat", 4)]) (N := n_l_alive) (sc := defScope s_l_alive) (by decide +kernel)) (fun _ _ _ _ _ => (pg_name (i := 4) sc_l_alive.nd rfl (by first | exact Or.inl rfl | exact Or.inr rfl))) (fun _ _ _ _ _ => (pts_one (pt_cmpR (op_notIn_seqK (K := K) rfl) (pv 4) (pv 2) rfl))) (fun _ _ _ _ _ => (pv 4))))) pss_nil) (pss_one (ps_ret (pv 2)))))), ?_⟩
  rw [show L2.start n_l_alive [.ref p, .int r] = [some (.ref p), some (.int r), none, none, none] from rfl]
  try dsimp only [cxOf, Cx.nox, Cx.wish, List.map]

  have r0 := hR.two
  have r1 := hR.le
  wtm_at "rd"
  refine ⟨sz1000 (by simp), fun q nq => ?_⟩
  have hq : upd H q (.lst []) q = some (.lst (([] : List Int).map V.int)) := upd_same
  have B0 := hB.new (o := .lst []) nq
  have k0 : Kp [p, c] H (upd H q (.lst [])) := Kp.new nq
  have nqc := Ne.symm (hB.ne2 nq)
  have nqp := Ne.symm (hB.ne1 nq)
  generalize upd H q (.lst []) = H0 at *
  wtm_at "rd"
  refine us_l_draw B0 (by omega) (by omega) fun n H1 n0 n1 B1 k1 => ?_
  have hq1 := B0.gi k1 nqc hq
  wtm_at "rd"
  refine forR_by (fun i σ H2 => (∃ v3 v4, σ = [some (.ref p), some (.int r), some (.ref q), v3, v4]) ∧ (∃ xs : List Int, H2 q = some (.lst (xs.map V.int)) ∧ xs.Nodup ∧ (∀ z, z ∈ xs → 0 ≤ z ∧ z < r) ∧ xs.length ≤ i) ∧ Box H2 p c ∧ Kp [p, c] H H2) ⟨⟨_, _, rfl⟩, ⟨[], hq1, by simp, by simp, by simp⟩, B1, k0.trans k1⟩ ?_ ?_
  · rintro i σ H2 hi ⟨⟨v3, v4, rfl⟩, ⟨xs, x1, x2, x3, x4⟩, B2, k2⟩
    have hi : i < n.toNat := hi
    wtm_at "rd"
    refine us_l_draw B2 (by omega) (by omega) fun z H3 z0 z1 B3 k3 => ?_
    have x1' := B2.gi k3 nqc x1
    have sk : (xs.map V.int).length < sizeLine := szlt (by rw [List.length_map]; omega)
    wtm_at "rd"
    refine ite_n (fun h => ?_) (fun h => ?_)
    · wtm_at "rd"
      refine ⟨⟨_, _, rfl⟩, ⟨xs ++ [z], by rw [upd_same, List.map_append]; rfl, List.nodup_append.mpr ⟨x2, by simp, fun a ha b hb => ?_⟩, fun y hy => ?_, by simp; omega⟩, B3.kp (ps := [q]) (Kp.refl.wr (by simp)) (by simpa using Ne.symm nqp) (by simpa using Ne.symm nqc), (k2.trans k3).mine nq⟩
      · rw [List.mem_singleton.mp hb]
        rintro rfl
        exact h ha
      · rcases List.mem_append.mp hy with h1 | h1
        · exact x3 y h1
        · rw [List.mem_singleton.mp h1]
          exact ⟨z0, z1⟩
    · wtm_at "rd"
      exact ⟨⟨_, _, rfl⟩, ⟨xs, x1', x2, x3, by omega⟩, B3, k2.trans k3⟩
  rintro σ H2 ⟨⟨v3, v4, rfl⟩, ⟨xs, x1, x2, x3, x4⟩, B2, k2⟩
  wtm_at "rd"
  refine us_l_draw B2 (by decide) (by decide) fun m H3 m0 m1 B3 k3 => ?_
  have x1 := B2.gi k3 nqc x1
  have k3 := k2.trans k3
  wtm_at "rd"
  refine ite_d (fun h => ?_) (fun h => ?_)
  · wtm_at "rd"
    intro D nD
    refine lcF_range (lo := 0) (n := r.toNat) (fun j => !decide ((j : Int) ∈ xs)) (fun j => V.int (j : Int)) nD (by omega) (fun j hj H4 E N k4 hE hN => ?_) (fun H4 k4 hD4 => ?_)
    · have x4 := k4.g0 x1
      wtm_at "rd"
      refine ⟨rfl, ?_⟩
      wtm_at "rd"
      rw [Int.zero_add]
      refine ite_n (fun h => ?_) (fun h => ?_)
      · wtm_at "rd"
        exact hE _ Kp.refl (by simp [h])
      · exact hN _ Kp.refl (by simp [h])
    · refine kk D (rgF r fun j => !decide ((j : Int) ∈ xs)) H4 (rgF_st hR) ?_ (k3.back nD ?_) (B3.k0 k4) (k3.trans k4.of0)
      · rw [hD4]
        unfold rgF
        rw [List.map_map]
        rfl
      · simpa using ⟨Ne.symm (B3.ne1 nD), Ne.symm (B3.ne2 nD)⟩
  · wtm_at "rd"
    exact kk q xs H3 ⟨x2, x3, by omega⟩ x1 nq B3 k3
theorem c_l_alive (T : Cx K mg) (B : Tb P w K mg base) : CalX P w K mg base CX0 2 "_law_alive" (sp_l_alive K) [] := by
  obtain ⟨fd, F, ok⟩ := f_l_alive (P := P) (w := w) (base := base) T B
  exact ⟨_, fd, p_l_alive, [], ok, gl_l_alive T, F.kp, FunD.bindsN F fun _ _ _ _ _ _ us hl => match us, hl with | [_, _], _ => rfl, .nil⟩
end
section
variable {P : Program} {w : World} {K : PySem.W.Frag} {mg : Str → Option Value} {base : Heap}
def sp_l_is_integer (K : PySem.W.Frag) : Sp := fun vs H Q E => ∃ (n : Int), vs = [.int n] ∧ (Q (.bl true) H)
theorem us_l_is_integer {K : PySem.W.Frag} {H : Hp} {Q : VK} {E : XK} {n : Int}  (kk : Q (.bl true) H) : sp_l_is_integer K [.int n] H Q E := ⟨_, rfl, kk⟩
theorem f_l_is_integer (T : Cx K mg) (B : Tb P w K mg base) : ∃ fd, FunD K "_law_is_integer" "_law_is_integer" (defArgs s_l_is_integer) (defBody s_l_is_integer) (defScope s_l_is_integer) (d_l_is_integer.dvs K) (d_l_is_integer.kws K) (fAd K d_l_is_integer.at_) fd ∧ FnOk P w K mg base CX0 1 (fAd K d_l_is_integer.at_) fd p_l_is_integer (sp_l_is_integer K) := by
  obtain ⟨fd, F⟩ := T.says.def_ 16 (d := d_l_is_integer) rfl
  refine ⟨fd, F, fnD F sc_l_is_integer (fun vs H Q E h => by
    obtain ⟨_, rfl, _⟩ := h
    rfl) fun cdv A outer s H vs Q E hr h => ?_⟩
  have hu := hu_of hr
  obtain ⟨n, rfl, kk⟩ := h
  refine ⟨_, (pss_one (ps_ret (pe_and (pe_callB call_isi (by rfl) (fr_isinstance T) (by decide +kernel) (pa_cons (pv 0) (pa_cons (pe_bltn (v := .ty "int") (by rfl) (fr_int T) (by decide +kernel) rfl) pa_nil))) (pe_one (pe_not (pe_callB call_isi (by rfl) (fr_isinstance T) (by decide +kernel) (pa_cons (pv 0) (pa_cons (pe_bltn (v := .ty "bool") (by rfl) (fr_bool T) (by decide +kernel) rfl) pa_nil)))))))), ?_⟩
  rw [show L2.start n_l_is_integer [.int n] = [some (.int n)] from rfl]
  try dsimp only [cxOf, Cx.nox, Cx.wish, List.map]

  wtm_at "rd"
  exact kk
theorem c_l_is_integer (T : Cx K mg) (B : Tb P w K mg base) : CalX P w K mg base CX0 1 "_law_is_integer" (sp_l_is_integer K) [] := by
  obtain ⟨fd, F, ok⟩ := f_l_is_integer (P := P) (w := w) (base := base) T B
  exact ⟨_, fd, p_l_is_integer, [], ok, gl_l_is_integer T, F.kp, FunD.bindsN F fun _ _ _ _ _ _ us hl => match us, hl with | [_], _ => rfl, .nil⟩
end
section
variable {P : Program} {w : World} {K : PySem.W.Frag} {mg : Str → Option Value} {base : Heap}
def sp_l_edge (K : PySem.W.Frag) : Sp := fun vs H Q E => ∃ (p c a : Addr) (r z : Int) (xs : List Int), vs = [.ref p, .int r, .int z, .ref a] ∧ (Box H p c) ∧ (Ring r) ∧ (0 ≤ z ∧ z < r) ∧ (H a = some (.lst (xs.map V.int))) ∧ (St r xs) ∧ (a ≠ c) ∧ (∀ l ys H1, St r ys → H1 l = some (.lst (ys.map V.int)) → l ≠ c → Box H1 p c → Kp [p, c] H H1 → Q (.ref l) H1)
theorem us_l_edge {K : PySem.W.Frag} {H : Hp} {Q : VK} {E : XK} {p c a : Addr} {r z : Int} {xs : List Int} (hB : Box H p c) (hR : Ring r) (hz : 0 ≤ z ∧ z < r) (ha : H a = some (.lst (xs.map V.int))) (hx : St r xs) (nc : a ≠ c) (kk : ∀ l ys H1, St r ys → H1 l = some (.lst (ys.map V.int)) → l ≠ c → Box H1 p c → Kp [p, c] H H1 → Q (.ref l) H1) : sp_l_edge K [.ref p, .int r, .int z, .ref a] H Q E := ⟨_, _, _, _, _, _, rfl, hB, hR, hz, ha, hx, nc, kk⟩
theorem f_l_edge (T : Cx K mg) (B : Tb P w K mg base) : ∃ fd, FunD K "_law_edge" "_law_edge" (defArgs s_l_edge) (defBody s_l_edge) (defScope s_l_edge) (d_l_edge.dvs K) (d_l_edge.kws K) (fAd K d_l_edge.at_) fd ∧ FnOk P w K mg base CX0 2 (fAd K d_l_edge.at_) fd p_l_edge (sp_l_edge K) := by
  have c_l_draw := c_l_draw (P := P) (w := w) (base := base) T B
  obtain ⟨fd, F⟩ := T.says.def_ 17 (d := d_l_edge) rfl
  refine ⟨fd, F, fnD F sc_l_edge (fun vs H Q E h => by
    obtain ⟨_, _, _, _, _, _, rfl, _⟩ := h
    rfl) fun cdv A outer s H vs Q E hr h => ?_⟩
  have hu := hu_of hr
  obtain ⟨p, c, a, r, z, xs, rfl, hB, hR, hz, ha, hx, nc, kk⟩ := h
  refine ⟨_, (pss_cons (ps_set (i := 4) sc_l_edge.nd rfl (by first | exact Or.inl rfl | exact Or.inr rfl) (pe_cal c_l_draw hr (by decide) (by rfl) pass0 (pa_cons (pv 0) (pa_cons pe_int pa_nil)))) (pss_cons (ps_set (i := 5) sc_l_edge.nd rfl (by first | exact Or.inl rfl | exact Or.inr rfl) (pe_op op_mod (pe_callTy call_int1' (by rfl) (fr_int T) (by decide +kernel) (pa_cons (pe_op op_sub (pe_op op_add (pv 2) (pv 1)) pe_int) pa_nil)) (pv 1))) (pss_cons (ps_if (pt_cmpR op_eq (pv 4) pe_int (nomark _)) (pss_one (ps_ret (pv 3))) pss_nil) (pss_cons (ps_if (pt_cmpR op_eq (pv 4) pe_int (nomark _)) (pss_one (ps_ret (pe_op op_cat (pe_lc (own := [("_law_seat", 6)]) (g := (gName 6)) rfl sc_l_edge.nd (pi_list (pv 3)) (blkOk_by (own := [("_law_seat", 6)]) (N := n_l_edge) (sc := defScope s_l_edge) (by decide +kernel)) (fun _ _ _ _ _ => (pg_name (i := 6) sc_l_edge.nd rfl (by first | exact Or.inl rfl | exact Or.inr rfl))) (fun _ _ _ _ _ => (pts_one (pt_cmpR op_ne (pv 6) (pv 2) (nomark _)))) (fun _ _ _ _ _ => (pv 6))) (pe_lst (pa_cons (pv 2) pa_nil))))) pss_nil) (pss_cons (ps_if (pt_cmpR op_eq (pv 4) pe_int (nomark _)) (pss_one (ps_ret (pe_op op_cat (pe_lst (pa_cons (pv 5) pa_nil)) (pe_lc (own := [("_law_seat", 6)]) (g := (gName 6)) rfl sc_l_edge.nd (pi_list (pv 3)) (blkOk_by (own := [("_law_seat", 6)]) (N := n_l_edge) (sc := defScope s_l_edge) (by decide +kernel)) (fun _ _ _ _ _ => (pg_name (i := 6) sc_l_edge.nd rfl (by first | exact Or.inl rfl | exact Or.inr rfl))) (fun _ _ _ _ _ => (pts_one (pt_cmpR (op_notIn_seqK (K := K) rfl) (pv 6) (pe_tup (pa_cons (pv 2) (pa_cons (pv 5) pa_nil))) rfl))) (fun _ _ _ _ _ => (pv 6)))))) pss_nil) (pss_one (ps_ret (pe_lst (pa_cons (pv 5) pa_nil))))))))), ?_⟩
  rw [show L2.start n_l_edge [.ref p, .int r, .int z, .ref a] = [some (.ref p), some (.int r), some (.int z), some (.ref a), none, none, none] from rfl]
  try dsimp only [cxOf, Cx.nox, Cx.wish, List.map]

  have r0 := hR.two
  have r1 := hR.le
  have lx := hx.len
  have bf := Int.emod_nonneg (z + r - 1) (show r ≠ 0 by omega)
  have bf1 := Int.emod_lt_of_pos (z + r - 1) (show (0 : Int) < r by omega)
  wtm_at "rd"
  refine us_l_draw hB (by decide) (by decide) fun n1 H1 n10 n11 B1 k1 => ?_
  have ha1 := hB.gi k1 nc ha
  wtm_at "rd"
  generalize (z + r - 1) % r = b at *
  have ob : St r [b] := ⟨by simp, fun y hy => by rw [List.mem_singleton.mp hy]; exact ⟨bf, bf1⟩, by simp⟩
  refine ite_d (fun h => ?_) (fun h => ?_)
  · wtm_at "rd"
    exact kk a xs H1 hx ha1 nc B1 k1
  wtm_at "rd"
  refine ite_d (fun h2 => ?_) (fun h2 => ?_)
  · wtm_at "rd"
    intro D nD
    refine lcF_ints xs (fun x => !decide (x = z)) V.int (SqL.of ha1) nD (by omega) (fun i hi H3 E N k3 hE hN => ?_) (fun H3 k3 hD3 => ?_)
    · wtm_at "rd"
      refine ⟨rfl, ?_⟩
      wtm_at "rd"
      refine ite_n (fun h => ?_) (fun h => ?_)
      · wtm_at "rd"
        exact hE _ Kp.refl (by simp [h])
      · exact hN _ Kp.refl (by simp [h])
    wtm_at "rd"
    refine ⟨sz1000 (by simp), fun t nt => ?_⟩
    have B3 := B1.k0 k3
    have k13 := k1.trans k3.of0
    have kt : Kp [] H3 (upd H3 t (.lst [.int z])) := Kp.new nt
    have ht : upd H3 t (.lst [.int z]) t = some (.lst (([z] : List Int).map V.int)) := upd_same
    have hD4 := kt.g0 hD3
    have B4 := B3.k0 kt
    have k14 := k13.trans kt.of0
    generalize upd H3 t (.lst [.int z]) = H4 at *
    wtm_at "rd"
    refine rd_cat hD4 ht (sz1000 (by have := List.length_filter_le (fun x => !decide (x = z)) xs; simp at this ⊢; omega)) fun u nu => ?_
    refine kk u (xs.filter (fun x => !decide (x = z)) ++ [z]) _ ((hx.fil _).one hR hz (by simp)) (by rw [upd_same, List.map_append]) (Ne.symm (B4.ne2 nu)) (B4.new nu) (k14.nw nu)
  wtm_at "rd"
  refine ite_d (fun h3 => ?_) (fun h3 => ?_)
  · wtm_at "rd"
    refine ⟨sz1000 (by simp), fun t nt => ?_⟩
    have kt : Kp [] H1 (upd H1 t (.lst [.int b])) := Kp.new nt
    have ht : upd H1 t (.lst [.int b]) t = some (.lst (([b] : List Int).map V.int)) := upd_same
    have ha2 := kt.g0 ha1
    have B2 := B1.k0 kt
    have k12 := k1.trans kt.of0
    generalize upd H1 t (.lst [.int b]) = H2 at *
    wtm_at "rd"
    intro D nD
    refine lcF_ints xs (fun x => !decide (x ∈ [z, b])) V.int (SqL.of ha2) nD (by omega) (fun i hi H3 E N k3 hE hN => ?_) (fun H3 k3 hD3 => ?_)
    · wtm_at "rd"
      refine ⟨rfl, ?_⟩
      wtm_at "rd"
      refine ⟨sz1000 (by simp), fun t2 nt2 => ?_⟩
      have kt2 : Kp [] H3 (upd H3 t2 (.tup [.int z, .int b])) := Kp.new nt2
      have et2 : upd H3 t2 (.tup [.int z, .int b]) t2 = some (.tup (([z, b] : List Int).map V.int)) := upd_same
      generalize upd H3 t2 (.tup [.int z, .int b]) = H4 at *
      refine rd_notInSq (.inr (SqT.of et2)) ?_
      wtm_at "rd"
      refine ite_n (fun h => ?_) (fun h => ?_)
      · wtm_at "rd"
        exact hE _ kt2 (by simp only [decide_eq_false h, Bool.not_false])
      · exact hN _ kt2 (by simp only [decide_eq_true h, Bool.not_true])
    have k13 := k12.trans k3.of0
    have B3 := B2.k0 k3
    have ht3 := k3.g0 ht
    wtm_at "rd"
    refine rd_cat ht3 hD3 (sz1000 (by have := List.length_filter_le (fun x => !decide (x ∈ [z, b])) xs; simp at this ⊢; omega)) fun u nu => ?_
    have sf : St r (xs.filter (fun x => !decide (x ∈ [z, b])) ++ [b]) := (hx.fil _).one hR ⟨bf, bf1⟩ (by simp)
    refine kk u ([b] ++ xs.filter (fun x => !decide (x ∈ [z, b]))) _ (sf.pm List.perm_append_comm) (by rw [upd_same, List.map_append]) (Ne.symm (B3.ne2 nu)) (B3.new nu) (k13.nw nu)
  · wtm_at "rd"
    refine ⟨sz1000 (by simp), fun t nt => ?_⟩
    exact kk t [b] _ ob upd_same (Ne.symm (B1.ne2 nt)) (B1.new nt) (k1.nw nt)
theorem c_l_edge (T : Cx K mg) (B : Tb P w K mg base) : CalX P w K mg base CX0 2 "_law_edge" (sp_l_edge K) [] := by
  obtain ⟨fd, F, ok⟩ := f_l_edge (P := P) (w := w) (base := base) T B
  exact ⟨_, fd, p_l_edge, [], ok, gl_l_edge T, F.kp, FunD.bindsN F fun _ _ _ _ _ _ us hl => match us, hl with | [_, _, _, _], _ => rfl, .nil⟩
end
section
variable {P : Program} {w : World} {K : PySem.W.Frag} {mg : Str → Option Value} {base : Heap}
def sp_l_numbers (K : PySem.W.Frag) : Sp := fun vs H Q E => ∃ (r : Int) (a : Addr) (xs : List Int), vs = [.int r, .ref a] ∧ (Ring r) ∧ (H a = some (.lst (xs.map V.int))) ∧ (St r xs) ∧ (xs.Pairwise (· < ·)) ∧ (∀ q ts H1, Kp [] H H1 → H1 q = some (.lst (ts.map V.ref)) → Paired (fun t x => H1 t = some (.tup [.int x, .int (rch r x xs)])) ts xs → Q (.ref q) H1)
theorem us_l_numbers {K : PySem.W.Frag} {H : Hp} {Q : VK} {E : XK} {r : Int} {a : Addr} {xs : List Int} (hR : Ring r) (ha : H a = some (.lst (xs.map V.int))) (hx : St r xs) (hp : xs.Pairwise (· < ·)) (kk : ∀ q ts H1, Kp [] H H1 → H1 q = some (.lst (ts.map V.ref)) → Paired (fun t x => H1 t = some (.tup [.int x, .int (rch r x xs)])) ts xs → Q (.ref q) H1) : sp_l_numbers K [.int r, .ref a] H Q E := ⟨_, _, _, rfl, hR, ha, hx, hp, kk⟩
theorem f_l_numbers (T : Cx K mg) (B : Tb P w K mg base) : ∃ fd, FunD K "_law_numbers" "_law_numbers" (defArgs s_l_numbers) (defBody s_l_numbers) (defScope s_l_numbers) (d_l_numbers.dvs K) (d_l_numbers.kws K) (fAd K d_l_numbers.at_) fd ∧ FnOk P w K mg base CX0 1 (fAd K d_l_numbers.at_) fd p_l_numbers (sp_l_numbers K) := by
  obtain ⟨fd, F⟩ := T.says.def_ 18 (d := d_l_numbers) rfl
  refine ⟨fd, F, fnD F sc_l_numbers (fun vs H Q E h => by
    obtain ⟨_, _, _, rfl, _⟩ := h
    rfl) fun cdv A outer s H vs Q E hr h => ?_⟩
  have hu := hu_of hr
  obtain ⟨r, a, xs, rfl, hR, ha, hx, hp, kk⟩ := h
  refine ⟨_, (pss_cons (ps_set (i := 2) sc_l_numbers.nd rfl (by first | exact Or.inl rfl | exact Or.inr rfl) (pe_lc (own := [("_law_seat", 5)]) (g := (gName 5)) (tt := tYes) rfl sc_l_numbers.nd (pi_range1 (by rfl) (fr_range T) (pa_cons (pv 0) pa_nil)) (blkOk_by (own := [("_law_seat", 5)]) (N := n_l_numbers) (sc := defScope s_l_numbers) (by decide +kernel)) (fun _ _ _ _ _ => (pg_name (i := 5) sc_l_numbers.nd rfl (by first | exact Or.inl rfl | exact Or.inr rfl))) (fun _ _ _ _ _ => pts_nil) (fun _ _ _ _ _ => pe_int))) (pss_cons (ps_if (pt_cmpR op_eq (pe_callB call_lenS (by rfl) (fr_len T) (by decide +kernel) (pa_cons (pv 1) pa_nil)) pe_int (nomark _)) (pss_one (ps_ret (pe_lst pa_nil))) pss_nil) (pss_cons (ps_set (i := 3) sc_l_numbers.nd rfl (by first | exact Or.inl rfl | exact Or.inr rfl) pe_int) (pss_cons (ps_for PassesOwn.never rfl (pi_range1 (by rfl) (fr_range T) (pa_cons (pe_op op_mul pe_int (pv 0)) pa_nil)) (pg_name (i := 4) sc_l_numbers.nd rfl (by first | exact Or.inl rfl | exact Or.inr rfl)) (pss_cons (ps_set (i := 5) sc_l_numbers.nd rfl (by first | exact Or.inl rfl | exact Or.inr rfl) (pe_op op_mod (pe_callTy call_int1' (by rfl) (fr_int T) (by decide +kernel) (pa_cons (pe_op op_sub (pe_op op_sub (pe_op op_mul pe_int (pv 0)) pe_int) (pv 4)) pa_nil)) (pv 0))) (C8.pss_cut (ps_if (pt_cmpR op_in_seq (pv 5) (pv 1) rfl) (pss_one (ps_set (i := 3) sc_l_numbers.nd rfl (by first | exact Or.inl rfl | exact Or.inr rfl) (pv 5))) pss_nil) (pss_one (ps_if (pt_cmpR op_ge (pv 4) (pv 0) (nomark _)) (pss_one (ps_asg (pe_op op_add (pe_ix ix_list (pv 2) (pv 3) (fun _ _ => rfl)) pe_int) (pg_sub (pv 2) (pv 3) set_list))) pss_nil))))) (pss_one (ps_ret (pe_lc (own := [("_law_seat", 5)]) (g := (gName 5)) (tt := tYes) rfl sc_l_numbers.nd (pi_list (pe_callB cr_sortedI (by rfl) (fr_sorted T) (by decide +kernel) (pa_cons (pv 1) pa_nil))) (blkOk_by (own := [("_law_seat", 5)]) (N := n_l_numbers) (sc := defScope s_l_numbers) (by decide +kernel)) (fun _ _ _ _ _ => (pg_name (i := 5) sc_l_numbers.nd rfl (by first | exact Or.inl rfl | exact Or.inr rfl))) (fun _ _ _ _ _ => pts_nil) (fun _ _ _ _ _ => (pe_tup (pa_cons (pv 5) (pa_cons (pe_ix (ix_listK (K := K) rfl) (pv 2) (pv 5) (fun _ _ => rfl)) pa_nil))))))))))), ?_⟩
  rw [show L2.start n_l_numbers [.int r, .ref a] = [some (.int r), some (.ref a), none, none, none, none] from rfl]
  try dsimp only [cxOf, Cx.nox, Cx.wish, List.map]

  have r0 := hR.two
  have r1 := hR.le
  have lx := hx.len
  wtm_at "rd"
  intro D nD
  refine lcF_range (lo := 0) (n := r.toNat) (fun _ => true) (fun _ => V.int 0) nD (by omega) (fun j hj H4 E N k4 hE hN => ?_) (fun H4 k4 hD4 => ?_)
  · wtm_at "rd"
    refine ⟨rfl, ?_⟩
    wtm_at "rd"
    exact hE _ Kp.refl rfl
  have hD : H4 D = some (.lst ((nums r xs 0).map V.int)) := by
    rw [hD4, List.filter_eq_self.mpr (fun _ _ => rfl)]
    unfold nums
    rw [List.map_map]
    rfl
  have ha4 := k4.g0 ha
  clear hD4
  wtm_at "rd"
  refine ite_d (fun h => ?_) (fun h => ?_)
  · wtm_at "rd"
    refine ⟨sz1000 (by simp), fun t nt => ?_⟩
    obtain rfl : xs = [] := List.length_eq_zero_iff.mp (by omega)
    exact kk t [] _ (k4.nw nt) upd_same .nil
  have ne : xs ≠ [] := fun e => h (by rw [e]; rfl)
  wtm_at "rd"
  refine forR_by (fun k σ H5 => (∃ m v5 v6, σ = [some (.int r), some (.ref a), some (.ref D), some (.int m), v5, v6] ∧ NR r xs k m) ∧ H5 D = some (.lst ((nums r xs (k - r.toNat)).map V.int)) ∧ Kp [D] H4 H5) ⟨⟨_, _, _, rfl, NR.zero⟩, by rw [Nat.zero_sub]; exact hD, Kp.refl⟩ ?_ ?_
  · rintro k σ H5 hk ⟨⟨m, v5, v6, rfl, N⟩, hD5, k5⟩
    have hk : k < (2 * r).toNat := hk
    have nDa := ne_of_none ha nD
    have ha5 := k5.g1 nDa ha4
    wtm_at "rd"
    refine rd_cut (fun σ H6 => (∃ m', σ = [some (.int r), some (.ref a), some (.ref D), some (.int m'), some (.int (0 + (k : Int))), some (.int ((2 * r - 1 - (k : Int)) % r))] ∧ NR r xs (k + 1) m') ∧ H6 = H5) ?_ ?_
    · wtm_at "rd"
      simp only [Int.zero_add]
      refine ite_d (fun h1 => ?_) (fun h1 => ?_)
      · wtm_at "rd"
        exact ⟨⟨_, rfl, NR.yes h1⟩, rfl⟩
      · wtm_at "rd"
        exact ⟨⟨_, rfl, N.no h1⟩, rfl⟩
    clear N
    rintro σ H6 ⟨⟨m', rfl, N⟩, rfl⟩
    wtm_at "rd"
    refine ite_d (fun h1 => ?_) (fun h1 => ?_)
    · obtain ⟨j, rfl⟩ : ∃ j, k = r.toNat + j := ⟨k - r.toNat, by omega⟩
      have hw := NR.wk hR hx.rng ne (by omega) N
      have mx := hx.rng m' (wk_mem hR hx.rng hw)
      rw [show r.toNat + j - r.toNat = j by omega] at hD5
      have ln : ((nums r xs j).map V.int).length = r.toNat := by rw [List.length_map, nums_len]
      have ln2 := nums_len (r := r) (xs := xs) (j := j)
      wtm_at "rd"
      refine rd_setL (j := m'.toNat) hD5 (ixN_at mx.1 (by rw [ln]; omega)) ?_
      rw [← List.map_set, nums_step hw mx]
      refine ⟨⟨_, _, _, rfl, N⟩, ?_, k5.wr (by simp)⟩
      rw [upd_same, show r.toNat + j + 1 - r.toNat = j + 1 by omega]
    · wtm_at "rd"
      refine ⟨⟨_, _, _, rfl, N⟩, ?_, k5⟩
      rw [show k + 1 - r.toNat = k - r.toNat by omega]
      exact hD5
  rintro σ H5 ⟨⟨m, v5, v6, rfl, -⟩, hD5, k5⟩
  rw [show (2 * r).toNat - r.toNat = r.toNat by omega] at hD5
  have k05 : Kp [] H H5 := fun b o hb hn => k5 _ _ (k4 _ _ hb hn) (by simpa using ne_of_none hb nD)
  have ha5 := k05.g0 ha
  wtm_at "rd"
  refine rd_sortedI ha5 fun os o op os2 no => ?_
  obtain rfl : os = xs := sort_uniq op os2 (hp.imp fun h => Int.le_of_lt h)
  have k06 := k05.nw (o := .lst (os.map V.int)) no
  have k56 : Kp [] H5 (upd H5 o (.lst (os.map V.int))) := Kp.new no
  have h6 : upd H5 o (.lst (os.map V.int)) o = some (.lst (os.map V.int)) := upd_same
  have hD6 := k56.g0 hD5
  generalize upd H5 o (.lst (os.map V.int)) = H6 at *
  wtm_at "rd"
  intro D2 nD2
  refine lcL_ints os (fun i H' => (∃ ts : List Addr, H' D2 = some (.lst (ts.map V.ref)) ∧ Paired (fun t x => H' t = some (.tup [.int x, .int (rch r x os)])) ts (os.take i)) ∧ Kp [] H6 H') ⟨⟨[], upd_same, .nil⟩, Kp.new nD2⟩ (fun i H' _ q => sl_kp q.2 (by simp) (SqL.of h6)) (fun i hi H' q => ?_) (fun H' q => ?_)
  · obtain ⟨⟨ts, t1, t2⟩, k7⟩ := q
    have hD7 := k7.g0 hD6
    have xr := hx.rng os[i] (List.getElem_mem hi)
    have ln : ((nums r os r.toNat).map V.int).length = r.toNat := by rw [List.length_map, nums_len]
    have ln2 := nums_len (r := r) (xs := os) (j := r.toNat)
    have tl := paired_len t2
    rw [List.length_take] at tl
    wtm_at "rd"
    refine ⟨rfl, ?_⟩
    wtm_at "rd"
    rw [nums_at xr, cntN_rch hR hx.rng (List.getElem_mem hi)]
    refine ⟨sz1000 (by simp), fun t nt => ?_⟩
    have kt : Kp [] H' (upd H' t (.tup [.int os[i], .int (rch r os[i] os)])) := Kp.new nt
    have et : upd H' t (.tup [.int os[i], .int (rch r os[i] os)]) t = some (.tup [.int os[i], .int (rch r os[i] os)]) := upd_same
    have t1 := kt.g0 t1
    have t2 := paired_imp (fun _ _ e => kt.g0 e) t2
    have k8 := k7.trans kt
    generalize upd H' t (.tup [.int os[i], .int (rch r os[i] os)]) = H8 at *
    have kF : Kp [D2] H8 (upd H8 D2 (.lst (ts.map V.ref ++ [.ref t]))) := Kp.refl.wr (by simp)
    refine ⟨_, t1, szlt (by rw [List.length_map]; omega), ⟨ts ++ [t], by rw [upd_same, List.map_append]; rfl, ?_⟩, k8.mine nD2⟩
    have t5 := paired_imp (fun z x (e : H8 z = some (.tup [.int x, .int (rch r x os)])) => kF.g1 (ne_of e t1 (by intro z; cases z)) e) t2
    rw [List.take_succ_eq_append_getElem hi]
    exact paired_app t5 (kF.g1 (ne_of et t1 (by intro z; cases z)) et)
  · obtain ⟨⟨ts, t1, t2⟩, k7⟩ := q
    rw [List.take_length] at t2
    exact kk D2 ts H' (k06.trans k7) t1 t2
theorem c_l_numbers (T : Cx K mg) (B : Tb P w K mg base) : CalX P w K mg base CX0 1 "_law_numbers" (sp_l_numbers K) [] := by
  obtain ⟨fd, F, ok⟩ := f_l_numbers (P := P) (w := w) (base := base) T B
  exact ⟨_, fd, p_l_numbers, [], ok, gl_l_numbers T, F.kp, FunD.bindsN F fun _ _ _ _ _ _ us hl => match us, hl with | [_, _], _ => rfl, .nil⟩
end
section
variable {P : Program} {w : World} {K : PySem.W.Frag} {mg : Str → Option Value} {base : Heap}
def sp_l_shares_hold (K : PySem.W.Frag) : Sp := fun vs H Q E => ∃ (S a : Addr) (s : Stg) (xs : List Int), vs = [.ref S, .int s.ring, .ref a] ∧ (SetAt K H S s) ∧ (H a = some (.lst (xs.map V.int))) ∧ (St s.ring xs) ∧ (xs.Pairwise (· < ·)) ∧ (∀ H1, Kp [] H H1 → Q (.bl true) H1)
theorem us_l_shares_hold {K : PySem.W.Frag} {H : Hp} {Q : VK} {E : XK} {S a : Addr} {s : Stg} {xs : List Int} (hS : SetAt K H S s) (ha : H a = some (.lst (xs.map V.int))) (hx : St s.ring xs) (hp : xs.Pairwise (· < ·)) (kk : ∀ H1, Kp [] H H1 → Q (.bl true) H1) : sp_l_shares_hold K [.ref S, .int s.ring, .ref a] H Q E := ⟨_, _, _, _, rfl, hS, ha, hx, hp, kk⟩
theorem f_l_shares_hold (T : Cx K mg) (B : Tb P w K mg base) : ∃ fd, FunD K "_law_shares_hold" "_law_shares_hold" (defArgs s_l_shares_hold) (defBody s_l_shares_hold) (defScope s_l_shares_hold) (d_l_shares_hold.dvs K) (d_l_shares_hold.kws K) (fAd K d_l_shares_hold.at_) fd ∧ FnOk P w K mg base CX0 6 (fAd K d_l_shares_hold.at_) fd p_l_shares_hold (sp_l_shares_hold K) := by
  have c_shares := c_shares (P := P) (w := w) (base := base) T B
  have c_l_is_integer := c_l_is_integer (P := P) (w := w) (base := base) T B
  have c_l_numbers := c_l_numbers (P := P) (w := w) (base := base) T B
  obtain ⟨fd, F⟩ := T.says.def_ 19 (d := d_l_shares_hold) rfl
  refine ⟨fd, F, fnD F sc_l_shares_hold (fun vs H Q E h => by
    obtain ⟨_, _, _, _, rfl, _⟩ := h
    rfl) fun cdv A outer s H vs Q E hr h => ?_⟩
  have hu := hu_of hr
  obtain ⟨S, a, s, xs, rfl, hS, ha, hx, hp, kk⟩ := h
  refine ⟨_, (pss_cons (ps_set (i := 3) sc_l_shares_hold.nd rfl (by first | exact Or.inl rfl | exact Or.inr rfl) (pe_callTy call_listOf (by rfl) (fr_list T) (by decide +kernel) (pa_cons (pv 2) pa_nil))) (pss_cons (ps_set (i := 4) sc_l_shares_hold.nd rfl (by first | exact Or.inl rfl | exact Or.inr rfl) (pe_cal c_shares hr (by decide) (by rfl) pass0 (pa_cons (pv 0) (pa_cons (pv 3) pa_nil)))) (pss_cons (ps_if (PW.pt (pw_or (pt_not (pt_val (pe_callB call_isi (by rfl) (fr_isinstance T) (by decide +kernel) (pa_cons (pv 4) (pa_cons (pe_bltn (v := .ty "list") (by rfl) (fr_list T) (by decide +kernel) rfl) pa_nil))))) (pw_or1 (pt_cmpR (op_neD hr.units) (pv 3) (pv 2) (nomark _))))) (pss_one (ps_ret pe_bl)) pss_nil) (pss_cons (ps_for PassesOwn.never rfl (pi_list (pv 4)) (pg_name (i := 5) sc_l_shares_hold.nd rfl (by first | exact Or.inl rfl | exact Or.inr rfl)) (pss_cons (ps_if (PW.pt (pw_or (pt_not (pt_val (pe_callB call_isi (by rfl) (fr_isinstance T) (by decide +kernel) (pa_cons (pv 5) (pa_cons (pe_bltn (v := .ty "tuple") (by rfl) (fr_tuple T) (by decide +kernel) rfl) pa_nil))))) (pw_or1 (pt_cmpR op_ne (pe_callB call_lenS (by rfl) (fr_len T) (by decide +kernel) (pa_cons (pv 5) pa_nil)) pe_int (nomark _))))) (pss_one (ps_ret pe_bl)) pss_nil) (pss_one (ps_if (PW.pt (pw_or (pt_not (pt_val (pe_cal c_l_is_integer hr (by decide) (by rfl) pass0 (pa_cons (pe_ix ix_tup (pv 5) pe_int (fun _ _ => rfl)) pa_nil)))) (pw_or1 (pt_not (pt_val (pe_cal c_l_is_integer hr (by decide) (by rfl) pass0 (pa_cons (pe_ix ix_tup (pv 5) pe_int (fun _ _ => rfl)) pa_nil))))))) (pss_one (ps_ret pe_bl)) pss_nil)))) (C8.pss_cut (ps_if (PW.pt (pw_and (pt_cmpR op_gt (pe_callB call_lenS (by rfl) (fr_len T) (by decide +kernel) (pa_cons (pv 2) pa_nil)) pe_int (nomark _)) (pw_and1 (pt_cmpR op_ne (pe_callB (cr_sum rfl) (by rfl) (fr_sum T) (by decide +kernel) (pa_cons (pe_lc (own := [("_law_row", 5)]) (g := (gName 5)) (tt := tYes) rfl sc_l_shares_hold.nd (pi_list (pv 4)) (blkOk_by (own := [("_law_row", 5)]) (N := n_l_shares_hold) (sc := defScope s_l_shares_hold) (by decide +kernel)) (fun _ _ _ _ _ => (pg_name (i := 5) sc_l_shares_hold.nd rfl (by first | exact Or.inl rfl | exact Or.inr rfl))) (fun _ _ _ _ _ => pts_nil) (fun _ _ _ _ _ => (pe_ix (ix_tupK (K := K) rfl) (pv 5) pe_int (fun _ _ => rfl)))) pa_nil)) (pv 1) (nomark _))))) (pss_one (ps_ret pe_bl)) pss_nil) (pss_one (ps_ret (pe_cmpR (op_eqD hr.units) (pv 4) (pe_cal c_l_numbers hr (by decide) (by rfl) pass0 (pa_cons (pv 1) (pa_cons (pv 2) pa_nil))) (nomark _))))))))), ?_⟩
  rw [show L2.start n_l_shares_hold [.ref S, .int s.ring, .ref a] = [some (.ref S), some (.int s.ring), some (.ref a), none, none, none] from rfl]
  try dsimp only [cxOf, Cx.nox, Cx.wish, List.map]

  have ok := hS.ok
  have lx := hx.len
  wtm_at "rd"
  intro l1 n1
  have k1 : Kp [] H (upd H l1 (.lst (xs.map V.int))) := Kp.new n1
  have e1 : upd H l1 (.lst (xs.map V.int)) l1 = some (.lst (xs.map V.int)) := upd_same
  have ha1 := k1.g0 ha
  generalize upd H l1 (.lst (xs.map V.int)) = H1 at *
  wtm_at "rd"
  refine us_shares (hS.k0 k1) (SqL.of e1) hx hp fun q ts H2 k2 nq hq pr => ?_
  have k02 := k1.trans k2
  have ha2 := k2.g0 ha1
  have e2 := k2.g0 e1
  have tl := paired_len pr
  wtm_at "rd"
  refine ite_f (by simp) ?_
  wtm_at "rd"
  refine forL_by (K := K) (ts.map V.ref) (fun i σ Hx => (∃ v5, σ = [some (.ref S), some (.int s.ring), some (.ref a), some (.ref l1), some (.ref q), v5]) ∧ Hx = H2) ⟨⟨_, rfl⟩, rfl⟩ (fun i σ Hx _ z => z.2 ▸ SqL.of hq) ?_ ?_
  · rintro i x σ Hx hi ⟨⟨v5, rfl⟩, rfl⟩
    rw [List.getElem?_map] at hi
    obtain ⟨t, ht, rfl⟩ := Option.map_eq_some_iff.mp hi
    obtain ⟨z, hz, et⟩ := paired_get pr ht
    wtm_at "rd"
    refine ite_f (by simp) ?_
    wtm_at "rd"
    refine us_l_is_integer ?_
    wtm_at "rd"
    refine us_l_is_integer ?_
    wtm_at "rd"
    exact ⟨⟨_, rfl⟩, rfl⟩
  rintro σ Hx ⟨⟨v5, rfl⟩, rfl⟩
  refine rd_cut (fun σ H3 => σ = [some (.ref S), some (.int s.ring), some (.ref a), some (.ref l1), some (.ref q), v5] ∧ Kp [] Hx H3) ?_ ?_
  · wtm_at "rd"
    refine ite_d (fun h => ?_) (fun h => ?_)
    · have ne : xs ≠ [] := fun e => by rw [e] at h; simp at h
      wtm_at "rd"
      intro D nD
      refine lcL_by (ts.map V.ref) (fun i H' => H' D = some (.lst (((xs.take i).map fun x => rch s.ring x xs).map V.int)) ∧ Kp [] Hx H') ⟨upd_same, Kp.new nD⟩ (fun i H' _ z => sl_kp z.2 (by simp) (SqL.of hq)) (fun i x H' hi z => ?_) (fun H' z => ?_)
      · obtain ⟨z1, z2⟩ := z
        rw [List.getElem?_map] at hi
        obtain ⟨t, ht, rfl⟩ := Option.map_eq_some_iff.mp hi
        obtain ⟨y, hy, et⟩ := paired_get pr ht
        obtain ⟨hi2, rfl⟩ := List.getElem?_eq_some_iff.mp hy
        have et2 := z2.g0 et
        wtm_at "rd"
        refine ⟨rfl, ?_⟩
        wtm_at "rd"
        refine ⟨_, z1, szlt (by rw [List.length_map, List.length_map, List.length_take]; omega), ?_, z2.mine nD⟩
        rw [upd_same, List.take_succ_eq_append_getElem hi2, List.map_append, List.map_append]
        rfl
      · obtain ⟨z1, z2⟩ := z
        rw [List.length_map, tl, List.take_length] at z1
        wtm_at "rd"
        refine rd_sumL (SqL.of z1) ?_
        wtm_at "rd"
        rw [rch_sum ok.rg hx.rng hx.nd ne]
        refine ite_f (by simp) ?_
        wtm_at "rd"
        exact ⟨rfl, z2⟩
    · wtm_at "rd"
      exact ⟨rfl, Kp.refl⟩
  rintro σ H3 ⟨rfl, k3⟩
  have ha3 := k3.g0 ha2
  wtm_at "rd"
  refine us_l_numbers ok.rg ha3 hx hp fun q4 us H4 k4 hq4 pr4 => ?_
  have k34 := k3.trans k4
  refine rd_eqPr (k34.g0 hq) hq4 (paired_imp (fun _ _ e => k34.g0 e) pr) pr4 ?_
  exact kk _ (k02.trans k34)
theorem c_l_shares_hold (T : Cx K mg) (B : Tb P w K mg base) : CalX P w K mg base CX0 6 "_law_shares_hold" (sp_l_shares_hold K) [] := by
  obtain ⟨fd, F, ok⟩ := f_l_shares_hold (P := P) (w := w) (base := base) T B
  exact ⟨_, fd, p_l_shares_hold, [], ok, gl_l_shares_hold T, F.kp, FunD.bindsN F fun _ _ _ _ _ _ us hl => match us, hl with | [_, _, _], _ => rfl, .nil⟩
end
section
variable {P : Program} {w : World} {K : PySem.W.Frag} {mg : Str → Option Value} {base : Heap}
def sp_l_word_holds (K : PySem.W.Frag) : Sp := fun vs H Q E => ∃ (S a : Addr) (s : Stg) (w : Str) (xs : List Int), vs = [.ref S, .int s.ring, .str w, .ref a] ∧ (SetAt K H S s) ∧ (kOk w = true) ∧ (H a = some (.lst (xs.map V.int))) ∧ (St s.ring xs) ∧ (LamX.Tabs (TT K) H) ∧ (∀ H1, Kt (TT K) [] H H1 → Q (.bl true) H1)
theorem us_l_word_holds {K : PySem.W.Frag} {H : Hp} {Q : VK} {E : XK} {S a : Addr} {s : Stg} {w : Str} {xs : List Int} (hS : SetAt K H S s) (hw : kOk w = true) (ha : H a = some (.lst (xs.map V.int))) (hx : St s.ring xs) (hT : LamX.Tabs (TT K) H) (kk : ∀ H1, Kt (TT K) [] H H1 → Q (.bl true) H1) : sp_l_word_holds K [.ref S, .int s.ring, .str w, .ref a] H Q E := ⟨_, _, _, _, _, rfl, hS, hw, ha, hx, hT, kk⟩
theorem f_l_word_holds (T : Cx K mg) (B : Tb P w K mg base) : ∃ fd, FunD K "_law_word_holds" "_law_word_holds" (defArgs s_l_word_holds) (defBody s_l_word_holds) (defScope s_l_word_holds) (d_l_word_holds.dvs K) (d_l_word_holds.kws K) (fAd K d_l_word_holds.at_) fd ∧ FnOk P w K mg base CX0 9 (fAd K d_l_word_holds.at_) fd p_l_word_holds (sp_l_word_holds K) := by
  have c_place_of := c_place_of (P := P) (w := w) (base := base) T B
  have c_keeper := c_keeper (P := P) (w := w) (base := base) T B
  have c_l_is_integer := c_l_is_integer (P := P) (w := w) (base := base) T B
  have c_l_place := c_l_place (P := P) (w := w) (base := base) T B
  have c_l_walk := c_l_walk (P := P) (w := w) (base := base) T B
  obtain ⟨fd, F⟩ := T.says.def_ 20 (d := d_l_word_holds) rfl
  refine ⟨fd, F, fnD F sc_l_word_holds (fun vs H Q E h => by
    obtain ⟨_, _, _, _, _, rfl, _⟩ := h
    rfl) fun cdv A outer s H vs Q E hr h => ?_⟩
  have hu := hu_of hr
  obtain ⟨S, a, s, w, xs, rfl, hS, hw, ha, hx, hT, kk⟩ := h
  refine ⟨_, (pss_cons (ps_set (i := 4) sc_l_word_holds.nd rfl (by first | exact Or.inl rfl | exact Or.inr rfl) (pe_cal c_place_of hr (by decide) (by rfl) passL (pa_cons (pv 0) (pa_cons (pv 2) pa_nil)))) (pss_cons (ps_if (PW.pt (pw_or (pt_not (pt_val (pe_cal c_l_is_integer hr (by decide) (by rfl) pass0 (pa_cons (pv 4) pa_nil)))) (pw_or1 (pt_cmpR op_ne (pv 4) (pe_cal c_l_place hr (by decide) (by rfl) pass0 (pa_cons (pv 1) (pa_cons (pv 2) pa_nil))) (nomark _))))) (pss_one (ps_ret pe_bl)) pss_nil) (pss_cons (ps_set (i := 5) sc_l_word_holds.nd rfl (by first | exact Or.inl rfl | exact Or.inr rfl) (pe_callTy call_listOf (by rfl) (fr_list T) (by decide +kernel) (pa_cons (pv 3) pa_nil))) (pss_cons (ps_set (i := 6) sc_l_word_holds.nd rfl (by first | exact Or.inl rfl | exact Or.inr rfl) (pe_cal c_keeper hr (by decide) (by rfl) passL (pa_cons (pv 0) (pa_cons (pv 2) (pa_cons (pv 5) pa_nil))))) (pss_cons (ps_if (pt_cmpR (op_neD hr.units) (pv 5) (pv 3) (nomark _)) (pss_one (ps_ret pe_bl)) pss_nil) (pss_cons (ps_set (i := 7) sc_l_word_holds.nd rfl (by first | exact Or.inl rfl | exact Or.inr rfl) (pe_cal c_l_walk hr (by decide) (by rfl) pass0 (pa_cons (pv 1) (pa_cons (pe_cal c_l_place hr (by decide) (by rfl) pass0 (pa_cons (pv 1) (pa_cons (pv 2) pa_nil))) (pa_cons (pv 3) pa_nil))))) (pss_cons (ps_if (pt_cmp (pc_isN (pv 7))) (pss_one (ps_ret (pe_cmp (pc_isN (pv 6))))) pss_nil) (pss_one (ps_ret (pe_and (pe_cal c_l_is_integer hr (by decide) (by rfl) pass0 (pa_cons (pv 6) pa_nil)) (pe_one (pe_cmpR op_eq (pv 6) (pv 7) (nomark _))))))))))))), ?_⟩
  rw [show L2.start n_l_word_holds [.ref S, .int s.ring, .str w, .ref a] = [some (.ref S), some (.int s.ring), some (.str w), some (.ref a), none, none, none, none] from rfl]
  try dsimp only [cxOf, Cx.nox, Cx.wish, List.map]

  have ok := hS.ok
  have wl := kOk_len hw
  wtm_at "rd"
  refine us_place_of hS (.str (by omega)) ⟨fun w' ew ok1 H1 k1 => ?_, fun no x H1 hx k1 => ?_⟩
  rotate_left
  · rw [show kOkV (.str w) = kOk w from rfl, hw] at no
    cases no
  injection ew with ew
  subst ew
  wtm_at "rd"
  refine us_l_is_integer ?_
  wtm_at "rd"
  refine us_l_place ok.rg (by omega) ?_
  wtm_at "rd"
  refine ite_f (by simp) ?_
  have ha1 := k1.g0 ha
  have t1 := Kt.kp0 (ps := []) hT k1
  wtm_at "rd"
  intro l2 n2
  have kn : Kp [] H1 (upd H1 l2 (.lst (xs.map V.int))) := Kp.new n2
  have e2 : upd H1 l2 (.lst (xs.map V.int)) l2 = some (.lst (xs.map V.int)) := upd_same
  have ha2 := kn.g0 ha1
  have t2 := t1.trans (Kt.kp0 t1.2 kn)
  have S2 := (hS.k0 k1).k0 kn
  generalize upd H1 l2 (.lst (xs.map V.int)) = H2 at *
  wtm_at "rd"
  refine us_keeper S2 (.str (by omega)) (SqL.of e2) hx t2.2 ⟨fun w' ew ok1 H3 k3 => ?_, fun no x H1 hx k1 => ?_⟩
  rotate_left
  · rw [show kOkV (.str w) = kOk w from rfl, hw] at no
    cases no
  injection ew with ew
  subst ew
  have nt : ∀ {vs : List V}, NoTbl (.lst vs) := fun _ z => by cases z
  have e3 := k3.g0 nt e2
  have ha3 := k3.g0 nt ha2
  have t3 := t2.trans k3
  wtm_at "rd"
  refine ite_f (by simp) ?_
  wtm_at "rd"
  refine us_l_place ok.rg (by omega) ?_
  wtm_at "rd"
  refine us_l_walk ok.rg (SqL.of ha3) hx ?_
  rw [show kpo s.ring xs w = wk s.ring (plc s.ring w) xs from rfl]
  cases e : wk s.ring (plc s.ring w) xs with
  | none =>
    wtm_at "rd"
    exact kk _ t3
  | some o =>
    wtm_at "rd"
    refine us_l_is_integer ?_
    wtm_at "rd"
    rw [decide_eq_true rfl]
    exact kk _ t3
theorem c_l_word_holds (T : Cx K mg) (B : Tb P w K mg base) : CalX P w K mg base CX0 9 "_law_word_holds" (sp_l_word_holds K) [] := by
  obtain ⟨fd, F, ok⟩ := f_l_word_holds (P := P) (w := w) (base := base) T B
  exact ⟨_, fd, p_l_word_holds, [], ok, gl_l_word_holds T, F.kp, FunD.bindsN F fun _ _ _ _ _ _ us hl => match us, hl with | [_, _, _, _], _ => rfl, .nil⟩
end
section
variable {P : Program} {w : World} {K : PySem.W.Frag} {mg : Str → Option Value} {base : Heap}
def sp_l_no_keys (K : PySem.W.Frag) : Sp := fun vs H Q E => ∃ (p c : Addr) (w : Str), vs = [.ref p, .str w] ∧ (Box H p c) ∧ (kOk w = true) ∧ (∀ q vs H1, H1 q = some (.lst vs) → vs.length ≤ 100 → (∀ v, v ∈ vs → BV H1 v) → Box H1 p c → q ≠ c → Kp [p, c] H H1 → Q (.ref q) H1)
theorem us_l_no_keys {K : PySem.W.Frag} {H : Hp} {Q : VK} {E : XK} {p c : Addr} {w : Str} (hB : Box H p c) (hw : kOk w = true) (kk : ∀ q vs H1, H1 q = some (.lst vs) → vs.length ≤ 100 → (∀ v, v ∈ vs → BV H1 v) → Box H1 p c → q ≠ c → Kp [p, c] H H1 → Q (.ref q) H1) : sp_l_no_keys K [.ref p, .str w] H Q E := ⟨_, _, _, rfl, hB, hw, kk⟩
theorem f_l_no_keys (T : Cx K mg) (B : Tb P w K mg base) : ∃ fd, FunD K "_law_no_keys" "_law_no_keys" (defArgs s_l_no_keys) (defBody s_l_no_keys) (defScope s_l_no_keys) (d_l_no_keys.dvs K) (d_l_no_keys.kws K) (fAd K d_l_no_keys.at_) fd ∧ FnOk P w K mg base CX0 2 (fAd K d_l_no_keys.at_) fd p_l_no_keys (sp_l_no_keys K) := by
  have c_l_draw := c_l_draw (P := P) (w := w) (base := base) T B
  obtain ⟨fd, F⟩ := T.says.def_ 21 (d := d_l_no_keys) rfl
  refine ⟨fd, F, fnD F sc_l_no_keys (fun vs H Q E h => by
    obtain ⟨_, _, _, rfl, _⟩ := h
    rfl) fun cdv A outer s H vs Q E hr h => ?_⟩
  have hu := hu_of hr
  obtain ⟨p, c, w, rfl, hB, hw, kk⟩ := h
  refine ⟨_, (pss_cons (ps_set (i := 2) sc_l_no_keys.nd rfl (by first | exact Or.inl rfl | exact Or.inr rfl) pe_str) (pss_cons (ps_set (i := 3) sc_l_no_keys.nd rfl (by first | exact Or.inl rfl | exact Or.inr rfl) (pe_ix ix_str (pv 2) (pe_cal c_l_draw hr (by decide) (by rfl) pass0 (pa_cons (pv 0) (pa_cons (pe_callB call_lenStr (by rfl) (fr_len T) (by decide +kernel) (pa_cons (pv 2) pa_nil)) pa_nil))) (fun _ _ => rfl))) (pss_cons (ps_set (i := 4) sc_l_no_keys.nd rfl (by first | exact Or.inl rfl | exact Or.inr rfl) (pe_cal c_l_draw hr (by decide) (by rfl) pass0 (pa_cons (pv 0) (pa_cons (pe_callB call_lenStr (by rfl) (fr_len T) (by decide +kernel) (pa_cons (pv 1) pa_nil)) pa_nil)))) (pss_cons (ps_setLc (i := 5) (own := [("_law_char_here", 7)]) (g := (gName 7)) (tt := tYes) rfl sc_l_no_keys.nd rfl rfl (sw_true rfl rfl rfl (by decide +kernel)) (pi_str (pv 1)) (blkOk_by (own := [("_law_char_here", 7)]) (N := n_l_no_keys) (sc := defScope s_l_no_keys) (by decide +kernel)) (fun _ _ _ _ _ => (pg_name (i := 7) sc_l_no_keys.nd rfl (by first | exact Or.inl rfl | exact Or.inr rfl))) (fun _ _ _ _ _ => pts_nil) (fun _ _ _ _ _ => (pv 7))) (pss_cons (ps_setLc (i := 6) (own := [("_law_one", 8)]) (g := (gName 8)) (tt := tYes) rfl sc_l_no_keys.nd rfl rfl (sw_true rfl rfl rfl (by decide +kernel)) (pi_str (pv 2)) (blkOk_by (own := [("_law_one", 8)]) (N := n_l_no_keys) (sc := defScope s_l_no_keys) (by decide +kernel)) (fun _ _ _ _ _ => (pg_name (i := 8) sc_l_no_keys.nd rfl (by first | exact Or.inl rfl | exact Or.inr rfl))) (fun _ _ _ _ _ => pts_nil) (fun _ _ _ _ _ => (pe_op op_addS (pe_op op_addS (pe_slice sl_str (pv 1) po_none (po_some (pv 4))) (pv 8)) (pe_slice sl_str (pv 1) (po_some (pe_op op_add (pv 4) pe_int)) po_none)))) (pss_one (ps_ret (pe_op op_cat (pv 6) (pe_lst (pa_cons (pe_op op_addS (pe_op op_addS (pe_slice sl_str (pv 1) po_none (po_some (pv 4))) (pv 3)) (pe_slice sl_str (pv 1) (po_some (pv 4)) po_none)) (pa_cons (pe_op op_addS (pv 1) (pv 3)) (pa_cons pe_str (pa_cons (pe_slice sl_str (pe_op op_mulTx (pv 1) pe_int) po_none (po_some pe_int)) (pa_cons (pe_slice sl_str (pe_op op_mulTx (pv 1) pe_int) po_none (po_some pe_int)) (pa_cons (pe_op op_addS (pv 1) pe_str) (pa_cons (pe_op op_addS pe_str (pv 1)) (pa_cons (pe_op op_addS (pv 1) pe_str) (pa_cons pe_non (pa_cons (pe_cal c_l_draw hr (by decide) (by rfl) pass0 (pa_cons (pv 0) (pa_cons pe_int pa_nil))) (pa_cons pe_bl (pa_cons (pe_lst (pa_cons (pv 1) pa_nil)) (pa_cons (pe_tup (pa_cons (pv 1) pa_nil)) (pa_cons (pv 5) pa_nil))))))))))))))))))))))), ?_⟩
  rw [show L2.start n_l_no_keys [.ref p, .str w] = [some (.ref p), some (.str w), none, none, none, none, none, none, none] from rfl]
  try dsimp only [cxOf, Cx.nox, Cx.wish, List.map]

  have wl := kOk_len hw
  have wp := kOk_pos hw
  obtain ⟨OTH, hO⟩ : ∃ O : Str, O = Str.ofString " !\"#$&'()*+,-./:;<=>?@ABCDEFGHIJKLMNOPQRSTUVWXYZ[\\]^_`{|}~\n" := ⟨_, rfl⟩
  have oh : ∀ c ∈ OTH.cps.toList, c ∉ SIGNS.cps.toList ∧ c < 128 := by rw [hO]; decide +kernel
  have ol : OTH.length = 59 := by rw [hO]; decide +kernel
  wtm_at "rd"
  rw [← hO]
  refine us_l_draw hB (by omega) (by omega) fun n1 H1 n10 n11 B1 k1 => ?_
  obtain ⟨co, hco, hat⟩ : ∃ c, c ∈ OTH.cps.toList ∧ atI OTH.cps.toList n1 = some c := by
    obtain ⟨j, rfl⟩ := Int.eq_ofNat_of_zero_le n10
    have hj : j < OTH.cps.toList.length := by
      have : OTH.cps.toList.length = OTH.length := Array.length_toList
      omega
    exact ⟨OTH.cps.toList[j], List.getElem_mem hj, atI_nat (List.getElem?_eq_getElem hj)⟩
  refine rd_ixS (sz1000 (by omega)) hat ?_
  wtm_at "rd"
  refine us_l_draw B1 (by omega) (by omega) fun n2 H2 n20 n21 B2 k2 => ?_
  have k12 := k1.trans k2
  wtm_at "rd"
  intro D1 nD1
  have wz : w.cps.size = w.length := rfl
  have oz : OTH.cps.size = OTH.length := rfl
  have swz : w.length ≤ sizeLine := sz1000 (by omega)
  have cl : ∀ lo hi, (cutS w lo hi).length ≤ 20 := fun lo hi => Nat.le_trans (cutS_length w lo hi) wl
  refine lcF_str (fun c => V.str ⟨#[c]⟩) nD1 (by omega) (fun i c hc H3 E N k3 hE => ?_) (fun H3 k3 hD3 => ?_)
  · wtm_at "rd"
    refine ⟨rfl, ?_⟩
    wtm_at "rd"
    exact hE _ Kp.refl
  wtm_at "rd"
  intro D2 nD2
  refine lcF_str (z := OTH) (fun c => V.str (cutS w none (some n2) ++ ⟨#[c]⟩ ++ cutS w (some (n2 + 1)) none)) nD2 (by omega) (fun i c hc H4 E N k4 hE => ?_) (fun H4 k4 hD4 => ?_)
  · wtm_at "rd"
    refine ⟨rfl, ?_⟩
    wtm_at "rd"
    refine rd_slS swz ?_
    wtm_at "rd"
    refine rd_addS (sz1000 (by have := cl none (some n2); rw [show (⟨#[c]⟩ : Str).length = 1 from rfl]; omega)) ?_
    wtm_at "rd"
    refine rd_slS swz ?_
    wtm_at "rd"
    refine rd_addS (sz1000 (by have := cl none (some n2); have := cl (some (n2 + 1)) none; rw [strLen_append, show (⟨#[c]⟩ : Str).length = 1 from rfl]; omega)) ?_
    exact hE _ Kp.refl
  have B4 := (B2.k0 k3).k0 k4
  have k14 := k12.trans (k3.trans k4).of0
  have hch : H4 D1 = some (.lst ((w.cps.toList.map fun c => (⟨#[c]⟩ : Str)).map V.str)) := by
    rw [k4.g0 hD3, List.map_map]
    rfl
  have hbe : H4 D2 = some (.lst ((OTH.cps.toList.map fun c => cutS w none (some n2) ++ ⟨#[c]⟩ ++ cutS w (some (n2 + 1)) none).map V.str)) := by
    rw [hD4, List.map_map]
    rfl
  have n1c := Ne.symm (B2.ne2 nD1)
  have n2c := Ne.symm ((B2.k0 k3).ne2 nD2)
  have l1 := fun (c : Nat) => show (⟨#[c]⟩ : Str).length = 1 from rfl
  clear hD3 hD4
  wtm_at "rd"
  refine rd_slS swz ?_
  wtm_at "rd"
  refine rd_addS (sz1000 (by have := cl none (some n2); rw [l1]; omega)) ?_
  wtm_at "rd"
  refine rd_slS swz ?_
  wtm_at "rd"
  refine rd_addS (sz1000 (by have := cl none (some n2); have := cl (some n2) none; rw [strLen_append, l1]; omega)) ?_
  wtm_at "rd"
  refine rd_addS (sz1000 (by rw [l1]; omega)) ?_
  wtm_at "rd"
  refine ⟨w, 21, rfl, rfl, ⟨wp, by omega⟩, ⟨by decide, by decide⟩, ?_⟩
  wtm_at "rd"
  refine rd_slS (sz1000 (by rw [mulS_len]; show 21 * w.length ≤ 1000000; omega)) ?_
  wtm_at "rd"
  refine ⟨w, 40, rfl, rfl, ⟨wp, by omega⟩, ⟨by decide, by decide⟩, ?_⟩
  wtm_at "rd"
  refine rd_slS (sz1000 (by rw [mulS_len]; show 40 * w.length ≤ 1000000; omega)) ?_
  wtm_at "rd"
  refine rd_addS (sz1000 (by show w.length + 1 ≤ 1000000; omega)) ?_
  wtm_at "rd"
  refine rd_addS (sz1000 (by show 1 + w.length ≤ 1000000; omega)) ?_
  wtm_at "rd"
  refine rd_addS (sz1000 (by show w.length + 1 ≤ 1000000; omega)) ?_
  wtm_at "rd"
  refine us_l_draw B4 (by decide) (by decide) fun n5 H5 n50 n51 B5 k5 => ?_
  have hch := B4.gs k5 n1c hch
  have hbe := B4.gs k5 n2c hbe
  have k15 := k14.trans k5
  wtm_at "rd"
  refine ⟨sz1000 (by simp), fun t6 nt6 => ?_⟩
  have kn : Kp [] H5 (upd H5 t6 (.lst [.str w])) := Kp.new nt6
  have et6 : upd H5 t6 (.lst [.str w]) t6 = some (.lst (([w] : List Str).map V.str)) := upd_same
  have hch := kn.g0 hch
  have hbe := kn.g0 hbe
  have B6 := B5.k0 kn
  have k16 := k15.trans kn.of0
  generalize upd H5 t6 (.lst [.str w]) = H6 at *
  wtm_at "rd"
  refine ⟨sz1000 (by simp), fun t7 nt7 => ?_⟩
  have kn : Kp [] H6 (upd H6 t7 (.tup [.str w])) := Kp.new nt7
  have et7 : upd H6 t7 (.tup [.str w]) t7 = some (.tup [.str w]) := upd_same
  have et6 := kn.g0 et6
  have hch := kn.g0 hch
  have hbe := kn.g0 hbe
  have B7 := B6.k0 kn
  have k17 := k16.trans kn.of0
  generalize upd H6 t7 (.tup [.str w]) = H7 at *
  wtm_at "rd"
  refine ⟨sz1000 (by simp), fun t8 nt8 => ?_⟩
  wtm_at "rd"
  refine rd_cat ((Kp.new (ps := []) nt8).g0 hbe) upd_same (sz1000 (by
    have : OTH.cps.toList.length = OTH.length := Array.length_toList
    simp only [List.length_map, List.length_cons, List.length_nil]
    omega)) fun u nu => ?_
  have k7e := (Kp.new (ps := []) (H := H7) (o := .lst [V.str (cutS w none (some n2) ++ ⟨#[co]⟩ ++ cutS w (some n2) none), V.str (w ++ ⟨#[co]⟩), V.str (Str.ofString ""), V.str (cutS (mulS w (Int.toNat 21)) none (some 21)), V.str (cutS (mulS w (Int.toNat 40)) none (some 40)), V.str (w ++ Str.ofString "\n"), V.str (Str.ofString " " ++ w), V.str (w ++ Str.ofString " "), V.non, V.int n5, V.bl true, V.ref t6, V.ref t7, V.ref D1]) nt8)
  have B8 := B7.k0 k7e
  refine kk u _ _ upd_same ?_ (fun v hv => BV.k0 (H := H7) ?_ (k7e.nw nu)) (B8.new nu) (Ne.symm (B8.ne2 nu)) ((k17.trans k7e.of0).nw nu)
  · have : OTH.cps.toList.length = OTH.length := Array.length_toList
    simp only [List.length_append, List.length_map, List.length_cons, List.length_nil]
    omega
  have ws := fun c (hc : c ∈ w.cps.toList) => signs_lt c (kOk_sub hw c hc)
  have o1 := oh co hco
  have e10 : (Str.ofString "\n") = (⟨#[10]⟩ : Str) := rfl
  have e32 : (Str.ofString " ") = (⟨#[32]⟩ : Str) := rfl
  have s10 : 10 ∉ SIGNS.cps.toList := by decide +kernel
  have s32 : 32 ∉ SIGNS.cps.toList := by decide +kernel
  rw [e10, e32] at hv
  rcases List.mem_append.mp hv with hv | hv
  · rw [List.map_map] at hv
    obtain ⟨c', hc', rfl⟩ := List.mem_map.mp hv
    have o2 := oh c' hc'
    exact (TB.mid hw o2.1 o2.2 (fun x h => cut_sub h) (fun x h => cut_sub h) (cl _ _) (cl _ _)).bv
  · simp only [List.mem_cons, List.not_mem_nil, or_false] at hv
    rcases hv with rfl | rfl | rfl | rfl | rfl | rfl | rfl | rfl | rfl | rfl | rfl | rfl | rfl | rfl
    · exact (TB.mid hw o1.1 o1.2 (fun x h => cut_sub h) (fun x h => cut_sub h) (cl _ _) (cl _ _)).bv
    · exact (TB.end_ hw o1.1 o1.2).bv
    · exact TB.nil.bv
    · exact (TB.rep hw (n := 21) (by decide) (by decide)).bv
    · exact (TB.rep hw (n := 40) (by decide) (by decide)).bv
    · exact (TB.end_ hw s10 (by decide)).bv
    · exact (TB.fore hw s32 (by decide)).bv
    · exact (TB.end_ hw s32 (by decide)).bv
    · exact .inr (.inl rfl)
    · exact .inr (.inr (.inl ⟨_, rfl, n50, n51⟩))
    · exact .inr (.inr (.inr (.inl rfl)))
    · exact .inr (.inr (.inr (.inr (.inl ⟨_, [w], rfl, et6, by simp, by simp, fun z hz => by
        rw [List.mem_singleton.mp hz]
        exact ⟨wl, ws⟩⟩))))
    · exact .inr (.inr (.inr (.inr (.inr ⟨_, w, rfl, et7, wl, ws⟩))))
    · refine .inr (.inr (.inr (.inr (.inl ⟨_, _, rfl, hch, ?_, ?_, fun z hz => ?_⟩))))
      · intro e
        have : w.cps.toList.length = w.length := Array.length_toList
        rw [List.map_eq_nil_iff.mp e] at this
        simp at this
        omega
      · have : w.cps.toList.length = w.length := Array.length_toList
        rw [List.length_map]
        omega
      · obtain ⟨x, hx, rfl⟩ := List.mem_map.mp hz
        exact ⟨by show 1 ≤ 20; decide, fun y hy => by
          have : y = x := by simpa using hy
          rw [this]
          exact ws x hx⟩
theorem c_l_no_keys (T : Cx K mg) (B : Tb P w K mg base) : CalX P w K mg base CX0 2 "_law_no_keys" (sp_l_no_keys K) [] := by
  obtain ⟨fd, F, ok⟩ := f_l_no_keys (P := P) (w := w) (base := base) T B
  exact ⟨_, fd, p_l_no_keys, [], ok, gl_l_no_keys T, F.kp, FunD.bindsN F fun _ _ _ _ _ _ us hl => match us, hl with | [_, _], _ => rfl, .nil⟩
end
section
variable {P : Program} {w : World} {K : PySem.W.Frag} {mg : Str → Option Value} {base : Heap}
def sp_l_refused (K : PySem.W.Frag) : Sp := fun vs H Q E => ∃ (S : Addr) (s : Stg) (v o : V) (xs : List Int), vs = [.ref S, v, o] ∧ (SetAt K H S s) ∧ (BV H v) ∧ (o = .non ∨ ∃ l, o = .ref l ∧ H l = some (.lst (xs.map V.int))) ∧ (St s.ring xs) ∧ (LamX.Tabs (TT K) H) ∧ (∀ H1, Kt (TT K) [] H H1 → Q (.bl true) H1)
theorem us_l_refused {K : PySem.W.Frag} {H : Hp} {Q : VK} {E : XK} {S : Addr} {s : Stg} {v o : V} {xs : List Int} (hS : SetAt K H S s) (hv : BV H v) (ho : o = .non ∨ ∃ l, o = .ref l ∧ H l = some (.lst (xs.map V.int))) (hx : St s.ring xs) (hT : LamX.Tabs (TT K) H) (kk : ∀ H1, Kt (TT K) [] H H1 → Q (.bl true) H1) : sp_l_refused K [.ref S, v, o] H Q E := ⟨_, _, _, _, _, rfl, hS, hv, ho, hx, hT, kk⟩
theorem f_l_refused (T : Cx K mg) (B : Tb P w K mg base) : ∃ fd, FunD K "_law_refused" "_law_refused" (defArgs s_l_refused) (defBody s_l_refused) (defScope s_l_refused) (d_l_refused.dvs K) (d_l_refused.kws K) (fAd K d_l_refused.at_) fd ∧ FnOk P w K mg base CX0 9 (fAd K d_l_refused.at_) fd p_l_refused (sp_l_refused K) := by
  have c_place_of := c_place_of (P := P) (w := w) (base := base) T B
  have c_keeper := c_keeper (P := P) (w := w) (base := base) T B
  obtain ⟨fd, F⟩ := T.says.def_ 22 (d := d_l_refused) rfl
  refine ⟨fd, F, fnDg F sc_l_refused (fun vs H Q E h => by
    obtain ⟨_, _, _, _, _, rfl, _⟩ := h
    rfl) fun cdv gu A outer s H vs Q E hgA hr h => ?_⟩
  have hu := hu_of hr
  obtain ⟨S, s, v, o, xs, rfl, hS, hv, ho, hx, hT, kk⟩ := h
  refine ⟨_, (pss_cons (ps_try_as (i := 3) rfl rfl sc_l_refused.nd rfl rfl ⟨by rfl, by decide, .inl (gl_GroupError T)⟩ takes0 (fun W pn xe tk po => (pss_one (ps_if (pt_cmp (pc_isN (pv 2))) (pss_one (ps_expr (pe_calS c_place_of hr (by decide) (by rfl) (fun σ => passAt tk σ) (pa_cons (pv 0) (pa_cons (pv 1) pa_nil))))) (pss_one (ps_expr (pe_calS c_keeper hr (by decide) (by rfl) (fun σ => passAt tk σ) (pa_cons (pv 0) (pa_cons (pv 1) (pa_cons (pe_callTy (call_listOfK (K := K) rfl) (by rfl) (fr_list T) (by decide +kernel) (pa_cons (pv 2) pa_nil)) pa_nil))))))))) (fun xa xo xc xd xn hz hf => (pss_cons (ps_if (pt_not (pt_val (pe_callB (call_isX hz hf) (by rfl) (fr_isinstance T) (by decide +kernel) (pa_cons (pv 3) (pa_cons (pe_glob (v := .ref (ga K "InvalidKey")) (by rfl) (gl_InvalidKey T) rfl) pa_nil))))) (pss_one (ps_ret pe_bl)) pss_nil) (pss_cons (ps_if (PW.pt (pw_or (pt_val (pe_callB (call_isX hz hf) (by rfl) (fr_isinstance T) (by decide +kernel) (pa_cons (pv 3) (pa_cons (pe_glob (v := .ref (ga K "InvalidSaying")) (by rfl) (gl_InvalidSaying T) rfl) pa_nil)))) (pw_or1 (pt_val (pe_callB (call_isX hz hf) (by rfl) (fr_isinstance T) (by decide +kernel) (pa_cons (pv 3) (pa_cons (pe_glob (v := .ref (ga K "UnknownKey")) (by rfl) (gl_UnknownKey T) rfl) pa_nil))))))) (pss_one (ps_ret pe_bl)) pss_nil) (pss_one (ps_ret (pe_and (pe_callB (call_isX hz hf) (by rfl) (fr_isinstance T) (by decide +kernel) (pa_cons (pv 3) (pa_cons (pe_bltn (v := .ty "ValueError") (by rfl) (fr_ValueError T) (by decide +kernel) rfl) pa_nil))) (pe_one (pe_cmpR op_eq (pe_callB (call_repr_vS hr hgA) (by rfl) (fr_repr T) (by decide +kernel) (pa_cons (pe_xe hz hf (pv 3)) pa_nil)) (pe_callB (call_repr_vS hr hgA) (by rfl) (fr_repr T) (by decide +kernel) (pa_cons (pv 1) pa_nil)) (nomark _)))))))))) (pss_one (ps_ret pe_bl))), ?_⟩
  rw [show L2.start n_l_refused [.ref S, v, o] = [some (.ref S), some (v), some (o), none] from rfl]
  try dsimp only [cxOf, Cx.nox, Cx.wish, List.map]

  have tail : ∀ {H4 : Hp} (x : Addr), H4 x = some (.xd [(("key" : Str), v)]) → Kt (TT K) [] H H4 → True := fun _ _ _ => trivial
  rcases ho with rfl | ⟨l, rfl, hl⟩
  · wtm_at "rd"
    refine us_place_of hS hv.kv ⟨fun w ew ok1 H3 k3 => ?_, fun no x H4 hx4 k4 => ?_⟩
    · have := hv.no
      rw [ew] at this
      rw [show kOkV (.str w) = kOk w from rfl, ok1] at this
      cases this
    have kt := Kt.kp0 (ps := []) hT k4
    obtain ⟨tx, rp⟩ := (hv.k0 k4).rp gu
    refine rd_wAs (b := true) (er_InvalidKey B).2 (by decide) (by decide) (fun _ a na => ?_) (fun z => nomatch z)
    wtm_at "rd"
    refine rd_reprV rp ?_
    wtm_at "rd"
    refine rd_reprV rp ?_
    wtm_at "rd"
    rw [decide_eq_true rfl]
    exact kk _ kt
  · wtm_at "rd"
    intro l2 n2
    have kn : Kp [] H (upd H l2 (.lst (xs.map V.int))) := Kp.new n2
    have e2 : upd H l2 (.lst (xs.map V.int)) l2 = some (.lst (xs.map V.int)) := upd_same
    have t2 := Kt.kp0 (ps := []) hT kn
    have hv2 := hv.k0 kn
    generalize upd H l2 (.lst (xs.map V.int)) = H2 at *
    wtm_at "rd"
    refine us_keeper (hS.k0 kn) hv2.kv (SqL.of e2) hx t2.2 ⟨fun w ew ok1 H3 k3 => ?_, fun no x H4 hx4 k4 => ?_⟩
    · have := hv.no
      rw [ew] at this
      rw [show kOkV (.str w) = kOk w from rfl, ok1] at this
      cases this
    have kt := t2.trans k4
    obtain ⟨tx, rp⟩ := (hv2.kt k4).rp gu
    refine rd_wAs (b := true) (er_InvalidKey B).2 (by decide) (by decide) (fun _ a na => ?_) (fun z => nomatch z)
    wtm_at "rd"
    refine rd_reprV rp ?_
    wtm_at "rd"
    refine rd_reprV rp ?_
    wtm_at "rd"
    rw [decide_eq_true rfl]
    exact kk _ kt
theorem c_l_refused (T : Cx K mg) (B : Tb P w K mg base) : CalX P w K mg base CX0 9 "_law_refused" (sp_l_refused K) [] := by
  obtain ⟨fd, F, ok⟩ := f_l_refused (P := P) (w := w) (base := base) T B
  exact ⟨_, fd, p_l_refused, [], ok, gl_l_refused T, F.kp, FunD.bindsN F fun _ _ _ _ _ _ us hl => match us, hl with | [_, _, _], _ => rfl, .nil⟩
end
section
variable {P : Program} {w : World} {K : PySem.W.Frag} {mg : Str → Option Value} {base : Heap}

section
variable {K : PySem.W.Frag} {H H' : Hp} {p c S : Addr} {s : Stg}
theorem SetAt.bx (A : SetAt K H S s) (B : Box H p c) (k : Kp [p, c] H H') : SetAt K H' S s := by
  obtain ⟨r, h1, ns, h2⟩ := B.at
  exact A.kp k (by simpa using ⟨A.nelst h1, A.nelst h2⟩)
/-- box, tables, setting -/
structure MB (K : PySem.W.Frag) (T : List (Addr × Str)) (H : Hp) (p c S : Addr) (s : Stg) : Prop where
  B : Box H p c
  T : LamX.Tabs T H
  S : SetAt K H S s
theorem MB.dr {T : List (Addr × Str)} (M : MB K T H p c S s) (B : Box H' p c) (k : Kp [p, c] H H') : MB K T H' p c S s := ⟨B, (M.B.tabs M.T k).2, M.S.bx M.B k⟩
theorem MB.kt {T : List (Addr × Str)} (M : MB K T H p c S s) (k : Kt T [] H H') : MB K T H' p c S s := ⟨M.B.ktp k (by simp) (by simp), k.2, M.S.kt k⟩
theorem plc_fold {r : Int} (h : 0 < r) : ∀ (l : List Nat) (n : Int), 0 ≤ n ∧ n < r → 0 ≤ l.foldl (fun n (c : Nat) => (n * 31 + (c : Int)) % r) n ∧ l.foldl (fun n (c : Nat) => (n * 31 + (c : Int)) % r) n < r
  | [], n, hn => hn
  | c :: l, n, hn => plc_fold h l _ ⟨Int.emod_nonneg _ (by omega), Int.emod_lt_of_pos _ h⟩
theorem MB.k0 {T : List (Addr × Str)} (M : MB K T H p c S s) (k : Kp [] H H') : MB K T H' p c S s := M.kt (Kt.kp0 M.T k)
end

def sp_law (K : PySem.W.Frag) : Sp := fun vs H Q E => ∃ (a : Addr) (ns : List Int), vs = [.ref a] ∧ (SqL K H a (ns.map V.int)) ∧ (ns.length ≤ 63) ∧ (LamX.Tabs (TT K) H) ∧ (∀ H1, Q (.bl true) H1)
theorem us_law {K : PySem.W.Frag} {H : Hp} {Q : VK} {E : XK} {a : Addr} {ns : List Int} (hS : SqL K H a (ns.map V.int)) (hl : ns.length ≤ 63) (hT : LamX.Tabs (TT K) H) (kk : ∀ H1, Q (.bl true) H1) : sp_law K [.ref a] H Q E := ⟨_, _, rfl, hS, hl, hT, kk⟩
theorem f_law (T : Cx K mg) (B : Tb P w K mg base) : ∃ fd, FunD K "law" "law" (defArgs s_law) (defBody s_law) (defScope s_law) (d_law.dvs K) (d_law.kws K) (fAd K d_law.at_) fd ∧ FnOk P w K mg base CX0 14 (fAd K d_law.at_) fd p_law (sp_law K) := by
  have c_l_box := c_l_box (P := P) (w := w) (base := base) T B
  have c_l_draw := c_l_draw (P := P) (w := w) (base := base) T B
  have c_l_alive := c_l_alive (P := P) (w := w) (base := base) T B
  have c_l_shares_hold := c_l_shares_hold (P := P) (w := w) (base := base) T B
  have c_l_word := c_l_word (P := P) (w := w) (base := base) T B
  have c_l_place := c_l_place (P := P) (w := w) (base := base) T B
  have c_l_edge := c_l_edge (P := P) (w := w) (base := base) T B
  have c_l_word_holds := c_l_word_holds (P := P) (w := w) (base := base) T B
  have c_l_no_keys := c_l_no_keys (P := P) (w := w) (base := base) T B
  have c_l_refused := c_l_refused (P := P) (w := w) (base := base) T B
  have c_Setting_init := c_Setting_init (P := P) (w := w) (base := base) T B
  obtain ⟨fd, F⟩ := T.says.def_ 23 (d := d_law) rfl
  refine ⟨fd, F, fnD F sc_law (fun vs H Q E h => by
    obtain ⟨_, _, rfl, _⟩ := h
    rfl) fun cdv A outer s H vs Q E hr h => ?_⟩
  have hu := hu_of hr
  obtain ⟨a, ns, rfl, hS, hl, hT, kk⟩ := h
  refine ⟨_, (pss_cons (ps_set (i := 1) sc_law.nd rfl (by first | exact Or.inl rfl | exact Or.inr rfl) (pe_cal c_l_box hr (by decide) (by rfl) pass0 (pa_cons (pv 0) pa_nil))) (pss_cons (ps_set (i := 2) sc_law.nd rfl (by first | exact Or.inl rfl | exact Or.inr rfl) (pe_op op_add pe_int (pe_cal c_l_draw hr (by decide) (by rfl) pass0 (pa_cons (pv 1) (pa_cons pe_int pa_nil))))) (pss_cons (ps_set (i := 3) sc_law.nd rfl (by first | exact Or.inl rfl | exact Or.inr rfl) (pe_mak c_Setting_init hr (by decide) (by rfl) pass0 (pa_cons (pv 2) (pa_cons (pe_op op_add pe_int (pe_cal c_l_draw hr (by decide) (by rfl) pass0 (pa_cons (pv 1) (pa_cons pe_int pa_nil)))) (pa_cons (pe_op op_add pe_int (pe_cal c_l_draw hr (by decide) (by rfl) pass0 (pa_cons (pv 1) (pa_cons pe_int pa_nil)))) pa_nil))))) (pss_cons (ps_set (i := 4) sc_law.nd rfl (by first | exact Or.inl rfl | exact Or.inr rfl) (pe_op op_shl pe_int (pv 2))) (pss_cons (ps_set (i := 5) sc_law.nd rfl (by first | exact Or.inl rfl | exact Or.inr rfl) pe_str) (pss_cons (ps_for PassesOwn.never rfl (pi_range1 (by rfl) (fr_range T) (pa_cons (pe_op op_add pe_int (pe_cal c_l_draw hr (by decide) (by rfl) pass0 (pa_cons (pv 1) (pa_cons pe_int pa_nil)))) pa_nil)) (pg_name (i := 6) sc_law.nd rfl (by first | exact Or.inl rfl | exact Or.inr rfl)) (pss_cons (ps_set (i := 7) sc_law.nd rfl (by first | exact Or.inl rfl | exact Or.inr rfl) (pe_cal c_l_alive hr (by decide) (by rfl) pass0 (pa_cons (pv 1) (pa_cons (pv 4) pa_nil)))) (pss_cons (ps_if (pt_not (pt_val (pe_cal c_l_shares_hold hr (by decide) (by rfl) pass0 (pa_cons (pv 3) (pa_cons (pv 4) (pa_cons (pe_callB cr_sortedI (by rfl) (fr_sorted T) (by decide +kernel) (pa_cons (pv 7) pa_nil)) pa_nil)))))) (pss_one (ps_ret pe_bl)) pss_nil) (pss_one (ps_for PassesOwn.never rfl (pi_range1 (by rfl) (fr_range T) (pa_cons (pe_op op_add pe_int (pe_cal c_l_draw hr (by decide) (by rfl) pass0 (pa_cons (pv 1) (pa_cons pe_int pa_nil)))) pa_nil)) (pg_name (i := 8) sc_law.nd rfl (by first | exact Or.inl rfl | exact Or.inr rfl)) (pss_cons (ps_set (i := 5) sc_law.nd rfl (by first | exact Or.inl rfl | exact Or.inr rfl) (pe_cal c_l_word hr (by decide) (by rfl) pass0 (pa_cons (pv 1) pa_nil))) (pss_cons (ps_set (i := 9) sc_law.nd rfl (by first | exact Or.inl rfl | exact Or.inr rfl) (pe_cal c_l_edge hr (by decide) (by rfl) pass0 (pa_cons (pv 1) (pa_cons (pv 4) (pa_cons (pe_cal c_l_place hr (by decide) (by rfl) pass0 (pa_cons (pv 4) (pa_cons (pv 5) pa_nil))) (pa_cons (pv 7) pa_nil)))))) (pss_one (ps_if (pt_not (pt_val (pe_cal c_l_word_holds hr (by decide) (by rfl) pass0 (pa_cons (pv 3) (pa_cons (pv 4) (pa_cons (pv 5) (pa_cons (pv 9) pa_nil))))))) (pss_one (ps_ret pe_bl)) pss_nil))))))))) (pss_cons (ps_if (pt_not (pt_val (pe_cal c_l_word_holds hr (by decide) (by rfl) pass0 (pa_cons (pv 3) (pa_cons (pv 4) (pa_cons (pe_slice sl_str (pe_op op_mulTx (pv 5) pe_int) po_none (po_some pe_int)) (pa_cons (pe_lst pa_nil) pa_nil))))))) (pss_one (ps_ret pe_bl)) pss_nil) (pss_cons (ps_for PassesOwn.never rfl (pi_list (pe_cal c_l_no_keys hr (by decide) (by rfl) pass0 (pa_cons (pv 1) (pa_cons (pv 5) pa_nil)))) (pg_name (i := 10) sc_law.nd rfl (by first | exact Or.inl rfl | exact Or.inr rfl)) (pss_one (ps_for PassesOwn.never rfl (pi_list (pe_lst (pa_cons pe_non (pa_cons (pe_lst pa_nil) (pa_cons (pv 7) pa_nil))))) (pg_name (i := 11) sc_law.nd rfl (by first | exact Or.inl rfl | exact Or.inr rfl)) (pss_one (ps_if (pt_not (pt_val (pe_cal c_l_refused hr (by decide) (by rfl) pass0 (pa_cons (pv 3) (pa_cons (pv 10) (pa_cons (pv 11) pa_nil)))))) (pss_one (ps_ret pe_bl)) pss_nil))))) (pss_one (ps_ret pe_bl)))))))))), ?_⟩
  rw [show L2.start n_law [.ref a] = [some (.ref a), none, none, none, none, none, none, none, none, none, none, none] from rfl]
  try dsimp only [cxOf, Cx.nox, Cx.wish, List.map]

  wtm_at "rd"
  refine us_l_box hS hl fun p c H1 B1 k1 np nc => ?_
  have T1 := (Kt.kp0 (ps := []) hT k1).2
  clear hS k1 hT
  wtm_at "rd"
  refine us_l_draw B1 (by decide) (by decide) fun n2 H2 n20 n21 B2 k2 => ?_
  have T2 := (B1.tabs T1 k2).2
  wtm_at "rd"
  refine us_l_draw B2 (by decide) (by decide) fun pt H4 pt0 pt1 B4 k4 => ?_
  wtm_at "rd"
  refine us_l_draw B4 (by decide) (by decide) fun rm H5 rm0 rm1 B5 k5 => ?_
  have T5 := (B4.tabs (B2.tabs T2 k4).2 k5).2
  wtm_at "rd"
  intro S dS nS ndS neS
  refine us_Setting_init (s := ⟨1 + n2, 1 + pt, 1 + rm, 6, 1⟩) upd_same ⟨by show 1 ≤ 1 + n2; omega, by show 1 + n2 ≤ 8; omega, by show 1 ≤ 1 + pt; omega, by show 1 + pt ≤ 6; omega, by show 1 ≤ 1 + rm; omega, by show 1 + rm ≤ 64; omega, by show (1 : Int) ≤ 6; decide, by show (6 : Int) ≤ 200; decide, by show (0 : Int) ≤ 1; decide, by show (1 : Int) ≤ 3; decide⟩ fun H7 S7 k7 => ⟨rfl, ?_⟩
  have k67 : Kp [] H5 H7 := fun b o hb hn => k7 _ _ (((Kp.new (ps := []) ndS).nw (hn_ne (Ne.symm neS) nS)) _ _ hb hn) (by simpa using ne_of_none hb nS)
  have B7 := B5.k0 k67
  have T7 := (Kt.kp0 (ps := []) T5 k67).2
  have hring : 1 * (2 : Int) ^ (1 + n2).toNat = Stg.ring ⟨1 + n2, 1 + pt, 1 + rm, 6, 1⟩ := by
    rw [Stg.ring_eq, Int.one_mul]
  clear k7 k67 nS ndS neS k4 k5 B2 B4 B5 T5 k2 T1 T2 B1
  generalize (⟨1 + n2, 1 + pt, 1 + rm, 6, 1⟩ : Stg) = st at S7 hring
  have ok := S7.ok
  have hR := ok.rg
  have M : MB K (TT K) H7 p c S st := ⟨B7, T7, S7⟩
  clear B7 T7 S7
  wtm_at "rd"
  rw [hring]
  refine us_l_draw M.B (by decide) (by decide) fun n8 H8 n80 n81 B8 k8 => ?_
  have M := M.dr B8 k8
  wtm_at "rd"
  refine forR_by (fun i σ Hx => (∃ (w : Str) (al v7 v8 v9 : Option V), σ = [some (.ref a), some (.ref p), some (.int (1 + n2)), some (.ref S), some (.int st.ring), some (.str w), v7, al, v8, v9, none, none] ∧ kOk w = true ∧ (i = 0 ∨ ∃ l xs, al = some (.ref l) ∧ St st.ring xs ∧ Hx l = some (.lst (xs.map V.int)) ∧ l ≠ c)) ∧ MB K (TT K) Hx p c S st) ⟨⟨_, _, _, _, _, rfl, by decide +kernel, .inl rfl⟩, M⟩ ?_ ?_
  · clear M B8 k8
    rintro i σ Hx hi ⟨⟨w, al, v7, v8, v9, rfl, kw, -⟩, M⟩
    wtm_at "rd"
    refine us_l_alive M.B hR fun l xs Hy sx hx nl By ky => ?_
    have nlc := Ne.symm (M.B.ne2 nl)
    have M := M.dr By ky
    wtm_at "rd"
    refine rd_sortedI hx fun os o op os2 no => ?_
    obtain ⟨so, po⟩ := sx.srt op os2
    have kn : Kp [] Hy (upd Hy o (.lst (os.map V.int))) := Kp.new no
    have eo : upd Hy o (.lst (os.map V.int)) o = some (.lst (os.map V.int)) := upd_same
    have M := M.k0 kn
    have hx := kn.g0 hx
    generalize upd Hy o (.lst (os.map V.int)) = Hz at *
    wtm_at "rd"
    refine us_l_shares_hold M.S eo so po fun Hw kw2 => ?_
    have M := M.k0 kw2
    have hx := kw2.g0 hx
    wtm_at "rd"
    refine us_l_draw M.B (by decide) (by decide) fun n9 H9 n90 n91 B9 k9 => ?_
    have hx := M.B.gi k9 nlc hx
    have M := M.dr B9 k9
    clear kn eo kw2 B9 k9 By ky
    wtm_at "rd"
    refine forR_by (fun j σ Hx => (∃ (w : Str) (v8 v9 : Option V), σ = [some (.ref a), some (.ref p), some (.int (1 + n2)), some (.ref S), some (.int st.ring), some (.str w), some (.int (0 + (i : Int))), some (.ref l), v8, v9, none, none] ∧ kOk w = true) ∧ Hx l = some (.lst (xs.map V.int)) ∧ MB K (TT K) Hx p c S st) ⟨⟨_, _, _, rfl, kw⟩, hx, M⟩ ?_ ?_
    · clear M hx kw
      rintro j σ Hx hj ⟨⟨w, v8, v9, rfl, -⟩, hx, M⟩
      wtm_at "rd"
      refine us_l_word M.B fun w2 Hy kw By ky => ?_
      have hx := M.B.gi ky nlc hx
      have M := M.dr By ky
      wtm_at "rd"
      refine us_l_place hR (by have := kOk_len kw; omega) ?_
      wtm_at "rd"
      refine us_l_edge M.B hR (plc_fold hR.pos _ 0 ⟨by decide, hR.pos⟩) hx sx nlc fun q ys Hz sy hq nqc Bz kz => ?_
      have hx := M.B.gi kz nlc hx
      have M := M.dr Bz kz
      wtm_at "rd"
      refine us_l_word_holds M.S kw hq sy M.T fun Hw kt => ?_
      wtm_at "rd"
      exact ⟨⟨_, _, _, rfl, kw⟩, kt.g0 (by intro _ z; cases z) hx, M.kt kt⟩
    · rintro σ Hx ⟨⟨w, v8, v9, rfl, kw⟩, hx, M⟩
      exact ⟨⟨_, _, _, _, _, rfl, kw, .inr ⟨l, xs, rfl, sx, hx, nlc⟩⟩, M⟩
  clear M B8 k8
  rintro σ H9 ⟨⟨w, al, v7, v8, v9, rfl, kw, h | ⟨l, xs, rfl, sx, hx, nlc⟩⟩, M⟩
  · omega
  have wl := kOk_len kw
  have wp := kOk_pos kw
  have st0 : St st.ring [] := ⟨by simp, by simp, by simp⟩
  wtm_at "rd"
  refine ⟨w, 20, rfl, rfl, ⟨wp, by omega⟩, ⟨by decide, by decide⟩, ?_⟩
  wtm_at "rd"
  refine rd_slS (sz1000 (by rw [mulS_len]; show 20 * w.length ≤ 1000000; omega)) ?_
  wtm_at "rd"
  refine ⟨sz1000 (by simp), fun t nt => ?_⟩
  have kn : Kp [] H9 (upd H9 t (.lst [])) := Kp.new nt
  have et : upd H9 t (.lst []) t = some (.lst (([] : List Int).map V.int)) := upd_same
  have M := M.k0 kn
  have hx := kn.g0 hx
  generalize upd H9 t (.lst []) = H10 at *
  wtm_at "rd"
  refine us_l_word_holds (xs := []) M.S (kOk_rep kw) et st0 M.T fun H11 k11 => ?_
  have nt : ∀ {vs : List V}, NoTbl (.lst vs) := fun _ z => by cases z
  have hx := k11.g0 nt hx
  have M := M.kt k11
  clear kn et k11
  wtm_at "rd"
  refine us_l_no_keys M.B kw fun q vs H12 hq lv bv B12 nqc k12 => ?_
  have hx := M.B.gi k12 nlc hx
  have M := M.dr B12 k12
  clear B12 k12
  wtm_at "rd"
  refine forL_by (K := K) vs (fun i σ Hx => (∃ v10 v11, σ = [some (.ref a), some (.ref p), some (.int (1 + n2)), some (.ref S), some (.int st.ring), some (.str w), v7, some (.ref l), v8, v9, v10, v11]) ∧ Kt (TT K) [] H12 Hx) ⟨⟨_, _, rfl⟩, Kt.refl M.T⟩ (fun i σ Hx _ z => SqL.of (z.2.g0 nt hq)) ?_ ?_
  · rintro i x σ Hx hi ⟨⟨v10, v11, rfl⟩, kx⟩
    have bx := (bv x (List.mem_of_getElem? hi)).kt kx
    wtm_at "rd"
    refine ⟨sz1000 (by simp), fun e ne => ?_⟩
    have k1 := kx.nw (o := .lst []) ne
    have kn : Kp [] Hx (upd Hx e (.lst [])) := Kp.new ne
    have ee : upd Hx e (.lst []) e = some (.lst (([] : List Int).map V.int)) := upd_same
    have bx := bx.k0 kn
    generalize upd Hx e (.lst []) = Hy at *
    wtm_at "rd"
    refine ⟨sz1000 (by simp), fun f nf => ?_⟩
    have k2 := k1.nw (o := .lst [.non, .ref e, .ref l]) nf
    have kn2 : Kp [] Hy (upd Hy f (.lst [.non, .ref e, .ref l])) := Kp.new nf
    have ef : upd Hy f (.lst [.non, .ref e, .ref l]) f = some (.lst [.non, .ref e, .ref l]) := upd_same
    have bx := bx.k0 kn2
    have ee := kn2.g0 ee
    generalize upd Hy f (.lst [.non, .ref e, .ref l]) = Hz at *
    have hxz := k2.g0 nt hx
    have Mz := M.kt k2
    wtm_at "rd"
    refine forL_by (K := K) [.non, .ref e, .ref l] (fun j σ Hw => (∃ v11, σ = [some (.ref a), some (.ref p), some (.int (1 + n2)), some (.ref S), some (.int st.ring), some (.str w), v7, some (.ref l), v8, v9, some x, v11]) ∧ Kt (TT K) [] Hz Hw) ⟨⟨_, rfl⟩, Kt.refl k2.2⟩ (fun i σ Hw _ z => SqL.of (z.2.g0 nt ef)) ?_ ?_
    · rintro j y σ Hw hj ⟨⟨v11, rfl⟩, kw2⟩
      have hy := List.mem_of_getElem? hj
      have Mw := Mz.kt kw2
      have bw := bx.kt kw2
      obtain ⟨zs, sz, ho⟩ : ∃ zs, St st.ring zs ∧ (y = .non ∨ ∃ l, y = .ref l ∧ Hw l = some (.lst (zs.map V.int))) := by
        simp only [List.mem_cons, List.not_mem_nil, or_false] at hy
        rcases hy with rfl | rfl | rfl
        · exact ⟨[], st0, .inl rfl⟩
        · exact ⟨[], st0, .inr ⟨_, rfl, kw2.g0 nt ee⟩⟩
        · exact ⟨xs, sx, .inr ⟨_, rfl, kw2.g0 nt hxz⟩⟩
      wtm_at "rd"
      refine us_l_refused Mw.S bw ho sz Mw.T fun H13 k13 => ?_
      wtm_at "rd"
      exact ⟨⟨_, rfl⟩, kw2.trans k13⟩
    · rintro σ Hw ⟨⟨v11, rfl⟩, kw2⟩
      exact ⟨⟨_, _, rfl⟩, k2.trans kw2⟩
  · rintro σ Hx ⟨⟨v10, v11, rfl⟩, kx⟩
    wtm_at "rd"
    exact kk _
end
theorem law_all {P : Program} {w : World} {K : PySem.W.Frag} {mg : Str → Option Value} (T : Cx K mg) :
    ∃ fd : FuncData, (∀ (s : Shared) (v : Value), BindsTo s fd ⟨[v], []⟩ [("_law_script", v)]) ∧ ∀ base : Heap, Tb P w K mg base → FnOk P w K mg base CX0 14 (ga K "law") fd ["_law_script"] (sp_law K) := by
  obtain ⟨fd, F⟩ := T.says.def_ 23 (d := d_law) rfl
  have b := FunD.bindsA (ps := ["_law_script"]) F fun _ _ _ _ _ _ us hl => match us, hl with | [_], _ => rfl
  refine ⟨fd, fun s v => b s [v] rfl, fun base B => ?_⟩
  obtain ⟨fd2, F2, ok⟩ := f_law (P := P) (w := w) (base := base) T B
  have e : fd2 = fd := by
    obtain ⟨oc, od, dV, kV, doc, pm, an, cdv, ct, osl, e1, l1, -⟩ := F.ex
    obtain ⟨oc2, od2, dV2, kV2, doc2, pm2, an2, cdv2, ct2, osl2, e2, l2, -⟩ := F2.ex
    rw [l1] at l2
    injection l2 with l3
    injection l3 with _ _ l4 _
    injection l4 with l5
    exact l5.symm
  subst e
  exact ok

end My

open PySem PySem.W PySem.Calls PyProof.Rows
set_option maxRecDepth 100000 in
set_option maxHeartbeats 0 in
theorem PySem.Challenge.cw_livingroll_k51_keepers_by_walk_holds : PySem.Challenge.rw_livingroll_k51_keepers_by_walk.Holds := by
  w_on; o_law
  refine HandSHeadRun.head_any (r := OpenLaw.row PySem.Challenge.rw_livingroll_k51_keepers_by_walk) (q := view (OpenLaw.row PySem.Challenge.rw_livingroll_k51_keepers_by_walk).prog [36]) (H := My.hk) (ob := My.ob) (M := 6000) (loose := My.names) (d := HandSHeadRun.topDef (OpenLaw.row PySem.Challenge.rw_livingroll_k51_keepers_by_walk).prog 36) (kwd := []) My.ob_eq
    (by kernel_rfl) (fun s => by kernel_rfl) My.run (by kernel_rfl) (by kernel_rfl) (by kernel_rfl) (by rfl) (by first | assumption | decide +kernel) (by decide +kernel) ⟨rfl, rfl, rfl, rfl, rfl, by decide +kernel⟩ ?hw ?hc
  case hw => w_witness2
  case hc =>
    refine LamX.walk_ofTsE (l := PySem.Challenge.rw_livingroll_k51_keepers_by_walk) (n := 63) (k := 14) (x := "_law_script") (CX := fun _ => L2.CX0) rfl (by decide) (by kernel_rfl) ⟨rfl, by decide, by decide⟩ ?F (fun _ _ _ _ _ z => z)
    intro w mg fa h Y G hmg0
    obtain ⟨K, KX, c⟩ := Y
    have hmg : mg ("law" : PySem.Str) = some (.ref fa) := by
      have e : (HandSHeadRun.topDef (OpenLaw.row PySem.Challenge.rw_livingroll_k51_keepers_by_walk).prog 36).name = ("law" : PySem.Str) := by kernel_rfl
      rw [← e]
      exact hmg0
    have T : My.Cx K mg := ⟨c.x.t.d, c.x.more, h, KX, G⟩
    have e := hmg.symm.trans (My.gl_law T)
    cases e
    obtain ⟨fd, hb, hF⟩ := My.law_all (P := PySem.Challenge.pw_livingroll_k51_keepers_by_walk) (w := w) T
    refine ⟨K, KX, fd, My.tf.map (He.cT K), My.sp_law K, fun p hp => ?_, fun p hp => ?_, fun p hp => ?_, hb, fun H a ns hl _ hH hS => ⟨a, ns, rfl, hS, hl, RD.tabs_nil (tf := My.tf) (K := K) rfl hH, fun _ => rfl⟩, fun base _ _ B => hF base ⟨B, fun d hd => c.get hd, fun d hd => c.err KX G hd (My.efs d hd), fun t ht => c.tabd ht⟩⟩
    · obtain ⟨q, hq, rfl⟩ := List.mem_map.mp hp
      exact c.x.empty q hq
    · obtain ⟨q, hq, rfl⟩ := List.mem_map.mp hp
      exact c.x.out q hq
    · obtain ⟨q, hq, rfl⟩ := List.mem_map.mp hp
      exact PySem.W.codeHd_of_K KX (c.x.hd q hq)
