import PyProof.Rows.All
import Wide.All
import OpenK.AllK
import Wide.FinOn
import KE.KStateDown
import Lean
import HandS.ForMost
import HandS.Flow
import HandS.IsInst
import HandS.DictTup
import HandS.Codes
import HandS.Defaults
import HandS.Head0
import HandS.Head1
import HandS.Head2
import HandS.HeadEnd
import HandS.HeadHook1
import HandS.HeadHook2
import HandS.HeadHook3
import HandS.Conv
import HandS.Property
import KE.SortKeyHeap
import KE.KMinKey
import HandS.Lambda
import HandS.Sort
import HandS.HeadHook4
import HandS.HeadWalk
import HandS.Property
import HandS.Style
import HandS.MakeKwOnly
import HandS.Wide
import HandS.More
import HandS.DictComp
import HandS.DeepEq
import KE.KExcSuper
import HandS.ExcOwn
import HandS.CallSlots
import HandS.ExcIs
import HandS.ExcField
import HandS.HeadWalk
import HandS.WordsExc
import KE.DataFind
import HandS.Deep
import HandS.GenList
import HandS.Flow
import PyProof.LongRange
import HandS.SortInts
import HandS.SetFor
import HandS.SlotsOwn
import PyProof.InstEq
import OpenK.KMeth
import OpenK.KOps
import PyProof.StrOps2
import HandS.Strs
import KE.KDictList
import KE.KDictSum
import HandS.SortInts
import HandS.SortRule
import PySem.Challenge.RW_livingroll_k13_told_until_cycle
set_option Elab.async false
set_option linter.all false
set_option maxRecDepth 100000
set_option maxHeartbeats 4000000
/-! own layer: the head by facts, one lemma for each reading, a step tactic -/
namespace RD
open PySem PySem.Spec PyProof.Rows L2 He

/-! ### frames: what stays -/
def Kp (ps : List Addr) (H H' : Hp) : Prop := ∀ b o, H b = some o → b ∉ ps → H' b = some o
theorem Kp.refl {ps : List Addr} {H : Hp} : Kp ps H H := fun _ _ h _ => h
theorem Kp.trans {ps : List Addr} {H H1 H2 : Hp} (a : Kp ps H H1) (b : Kp ps H1 H2) : Kp ps H H2 := fun c o h n => b c o (a c o h n) n
theorem Kp.mono {ps qs : List Addr} {H H' : Hp} (a : Kp ps H H') (h : ∀ p, p ∈ ps → p ∈ qs) : Kp qs H H' := fun c o e n => a c o e fun m => n (h c m)
theorem Kp.of0 {qs : List Addr} {H H' : Hp} (a : Kp [] H H') : Kp qs H H' := fun c o e _ => a c o e (by simp)
theorem Kp.new {ps : List Addr} {H : Hp} {p : Addr} {o : HO} (h : H p = none) : Kp ps H (upd H p o) := fun b u e _ => by
  rw [upd_ne (ne_of_none e h)]
  exact e
theorem Kp.wr {ps : List Addr} {H H' : Hp} {p : Addr} {o : HO} (a : Kp ps H H') (h : p ∈ ps) : Kp ps H (upd H' p o) := fun b u e n => by
  have hb : b ≠ p := by
    intro z
    subst z
    exact n h
  rw [upd_ne hb]
  exact a b u e n
theorem Kp.nw {ps : List Addr} {H H' : Hp} {p : Addr} {o : HO} (a : Kp ps H H') (h : H' p = none) : Kp ps H (upd H' p o) := a.trans (Kp.new h)
/-- an object made behind H is written -/
theorem Kp.mine {ps : List Addr} {H H' : Hp} {p : Addr} {o : HO} (a : Kp ps H H') (h : H p = none) : Kp ps H (upd H' p o) := fun b u e n => by
  rw [upd_ne (ne_of_none e h)]
  exact a b u e n
theorem Kp.g0 {H H' : Hp} {b : Addr} {o : HO} (a : Kp [] H H') (e : H b = some o) : H' b = some o := a b o e (by simp)
theorem Kp.g1 {p : Addr} {H H' : Hp} {b : Addr} {o : HO} (a : Kp [p] H H') (n : b ≠ p) (e : H b = some o) : H' b = some o := a b o e (by simp [n])
theorem Kp.g2 {p q : Addr} {H H' : Hp} {b : Addr} {o : HO} (a : Kp [p, q] H H') (n : b ≠ p) (m : b ≠ q) (e : H b = some o) : H' b = some o := a b o e (by simp [n, m])
theorem Kp.g3 {p q r : Addr} {H H' : Hp} {b : Addr} {o : HO} (a : Kp [p, q, r] H H') (n : b ≠ p) (m : b ≠ q) (l : b ≠ r) (e : H b = some o) : H' b = some o := a b o e (by simp [n, m, l])
theorem Kp.back {ps : List Addr} {H H' : Hp} (a : Kp ps H H') {l : Addr} (h : H' l = none) (n : l ∉ ps) : H l = none := by
  cases q : H l with
  | none => rfl
  | some o =>
    rw [a l o q n] at h
    cases h
theorem Kp.via {ps qs : List Addr} {H H' H2 : Hp} (a : Kp ps H H') (b : Kp qs H' H2) (n : ∀ q, q ∈ qs → q ∈ ps ∨ H q = none) : Kp ps H H2 := fun c o e m => b c o (a c o e m) fun z => by
  rcases n c z with z | z
  · exact m z
  · rw [z] at e
    cases e
theorem Kp.via1 {ps : List Addr} {p : Addr} {H H' H2 : Hp} (a : Kp ps H H') (b : Kp [p] H' H2) (n : H p = none) : Kp ps H H2 := a.via b fun q hq => by
  rw [List.mem_singleton.mp hq]
  exact .inr n
theorem rd_kp {ps : List Addr} {H H' : Hp} {b : Addr} {u : HO} (a : Kp ps H H') (n : b ∉ ps) (h : Rd H b u) : Rd H' b u := by
  rcases h with h | ⟨o, h⟩
  · exact .inl (a _ _ h n)
  · exact .inr ⟨o, a _ _ h n⟩
theorem sl_kp {K : PySem.W.Frag} {ps : List Addr} {H H' : Hp} {b : Addr} {xs : List V} (a : Kp ps H H') (n : b ∉ ps) (h : SqL K H b xs) : SqL K H' b xs := by
  rcases h with h | h
  · exact .inl (rd_kp a n h)
  · exact .inr h
theorem st_kp {K : PySem.W.Frag} {ps : List Addr} {H H' : Hp} {b : Addr} {xs : List V} (a : Kp ps H H') (n : b ∉ ps) (h : SqT K H b xs) : SqT K H' b xs := by
  rcases h with h | h
  · exact .inl (rd_kp a n h)
  · exact .inr h
theorem sl_upd {K : PySem.W.Frag} {H : Hp} {b p : Addr} {o : HO} {xs : List V} (n : b ≠ p) (h : SqL K H b xs) : SqL K (upd H p o) b xs :=
  sl_kp (ps := [p]) (fun c u e m => by rw [upd_ne (by simpa using m)]; exact e) (by simpa using n) h
theorem st_upd {K : PySem.W.Frag} {H : Hp} {b p : Addr} {o : HO} {xs : List V} (n : b ≠ p) (h : SqT K H b xs) : SqT K (upd H p o) b xs :=
  st_kp (ps := [p]) (fun c u e m => by rw [upd_ne (by simpa using m)]; exact e) (by simpa using n) h
theorem hu_ne {H : Hp} {a b : Addr} {o u : HO} (n : b ≠ a) (e : H b = some u) : upd H a o b = some u := by
  rw [upd_ne n]
  exact e
theorem upd_is {H : Hp} {a : Addr} {o o' : HO} (e : o = o') : upd H a o a = some o' := by
  rw [e]
  exact upd_same
theorem ne_fresh {H : Hp} {a b : Addr} {o : HO} (h : upd H a o b = none) : a ≠ b := ne_of_none upd_same h
theorem hn_ne {H : Hp} {a b : Addr} {o : HO} (n : b ≠ a) (e : H b = none) : upd H a o b = none := by
  rw [upd_ne n]
  exact e

/-! ### readings, one lemma each -/
section
variable {K : PySem.W.Frag} {σ : L2.St} {H : Hp} {nx bk ct : L2.St → Hp → Prop} {rt : VK} {t u : TS} {te ta tb tc : TE} {tt tu : TT} {ar : TA} {Q : VK} {QB : Bool → Hp → Prop} {QA : List V → Hp → Prop} {v x y : V} {i j : Int}
abbrev En (nx : L2.St → Hp → Prop) (rt : VK) (bk ct : L2.St → Hp → Prop) : Ends := ⟨nx, rt, bk, ct⟩
theorem rd_seq (h : t ⟨u ⟨nx, rt, bk, ct⟩, rt, bk, ct⟩ σ H) : tSeq t u ⟨nx, rt, bk, ct⟩ σ H := h
theorem rd_next (h : nx σ H) : tNext ⟨nx, rt, bk, ct⟩ σ H := h
theorem rd_brk (h : bk σ H) : tBreak ⟨nx, rt, bk, ct⟩ σ H := h
theorem rd_cont (h : ct σ H) : tCont ⟨nx, rt, bk, ct⟩ σ H := h
theorem rd_asg {g : TG} (h : te σ H fun x H1 => g x σ H1 nx) : tAsg te g ⟨nx, rt, bk, ct⟩ σ H := h
theorem rd_ret (h : te σ H rt) : tRet te ⟨nx, rt, bk, ct⟩ σ H := h
theorem rd_retN (h : rt .non H) : tRetN ⟨nx, rt, bk, ct⟩ σ H := h
theorem rd_drop (h : te σ H fun _ H1 => nx σ H1) : tDrop te ⟨nx, rt, bk, ct⟩ σ H := h
theorem rd_ifS {D : Ends} (h : tt σ H fun b H1 => if b = true then t D σ H1 else u D σ H1) : tIfS tt t u D σ H := h
theorem rd_cut (M : L2.St → Hp → Prop) (h : t ⟨M, rt, bk, ct⟩ σ H) (k : ∀ σ' H', M σ' H' → u ⟨nx, rt, bk, ct⟩ σ' H') : C8.tCut t u ⟨nx, rt, bk, ct⟩ σ H := ⟨M, h, k⟩
theorem rd_gname {n : Nat} {Q : L2.St → Hp → Prop} (h : Q (σ.set n (some v)) H) : gName n v σ H Q := h
theorem rd_gsub {to ti : TE} {s : TSet} {Q : L2.St → Hp → Prop} (h : to σ H fun o H1 => ti σ H1 fun i H2 => s o i v H2 fun H3 => Q σ H3) : gSub to ti s v σ H Q := h
theorem rd_gtup {n : Nat} {g : TGs} {a : Addr} {xs : List V} {Q : L2.St → Hp → Prop} (h : SqT K H a xs) (e : xs.length = n) (q : g xs σ H Q) : gTup K n g (.ref a) σ H Q := ⟨a, xs, rfl, h, e, q⟩
theorem rd_gcons {g : TG} {gs : TGs} {r : List V} {Q : L2.St → Hp → Prop} (q : g v σ H fun σ' H' => gs r σ' H' Q) : gCons g gs (v :: r) σ H Q := ⟨v, r, rfl, q⟩
theorem rd_gnil {Q : L2.St → Hp → Prop} (q : Q σ H) : gNil [] σ H Q := ⟨rfl, q⟩
theorem rd_setL {p : Addr} {xs : List V} {k : Int} {j : Nat} {Q : Hp → Prop} (hp : H p = some (.lst xs)) (hj : ixN xs.length k = some j) (q : Q (upd H p (.lst (xs.set j v)))) : rSetL (.ref p) (.int k) v H Q := ⟨p, xs, k, j, rfl, rfl, hp, hj, q⟩
theorem rd_var {n : Nat} (e : σ[n]? = some (some v)) (h : Q v H) : tVar n σ H Q := ⟨v, e, h⟩
theorem rd_c (h : Q v H) : tC v σ H Q := h
theorem rd_op {r : R2} (h : ta σ H fun x H1 => tb σ H1 fun y H2 => r x y H2 Q) : tOp r ta tb σ H Q := h
theorem rd_un {r : V → Hp → VK → Prop} (h : ta σ H fun x H1 => r x H1 Q) : tUn r ta σ H Q := h
theorem rd_I0 {g : Int → Int → V} (h : Q (g i j) H) : rI0 g (.int i) (.int j) H Q := ⟨i, j, rfl, rfl, h⟩
theorem rd_I {C : Int → Int → Prop} {g : Int → Int → V} (c : C i j) (h : Q (g i j) H) : rI C g (.int i) (.int j) H Q := ⟨i, j, rfl, rfl, c, h⟩
theorem rd_U {g : Int → V} (h : Q (g i) H) : rU g (.int i) H Q := ⟨i, rfl, h⟩
theorem rd_eqI (h : Q (.bl (decide (i = j))) H) : rEq (.int i) (.int j) H Q := ⟨rfl, by
  rw [show decide (V.int i = V.int j) = decide (i = j) from decide_eq_decide.mpr ⟨fun e => V.int.inj e, fun e => congrArg V.int e⟩]
  exact h⟩
theorem rd_neI (h : Q (.bl (!decide (i = j))) H) : rNe (.int i) (.int j) H Q := ⟨rfl, by
  rw [show decide (V.int i = V.int j) = decide (i = j) from decide_eq_decide.mpr ⟨fun e => V.int.inj e, fun e => congrArg V.int e⟩]
  exact h⟩
theorem rd_eqS {a b : Str} (h : Q (.bl (decide (a = b))) H) : rEq (.str a) (.str b) H Q := ⟨rfl, by
  rw [show decide (V.str a = V.str b) = decide (a = b) from decide_eq_decide.mpr ⟨fun e => V.str.inj e, fun e => congrArg V.str e⟩]
  exact h⟩
theorem rd_neS {a b : Str} (h : Q (.bl (!decide (a = b))) H) : rNe (.str a) (.str b) H Q := ⟨rfl, by
  rw [show decide (V.str a = V.str b) = decide (a = b) from decide_eq_decide.mpr ⟨fun e => V.str.inj e, fun e => congrArg V.str e⟩]
  exact h⟩
theorem rd_eqB {a b : Bool} (h : Q (.bl (decide (a = b))) H) : rEq (.bl a) (.bl b) H Q := ⟨rfl, by
  rw [show decide (V.bl a = V.bl b) = decide (a = b) from decide_eq_decide.mpr ⟨fun e => V.bl.inj e, fun e => congrArg V.bl e⟩]
  exact h⟩
theorem rd_neB {a b : Bool} (h : Q (.bl (!decide (a = b))) H) : rNe (.bl a) (.bl b) H Q := ⟨rfl, by
  rw [show decide (V.bl a = V.bl b) = decide (a = b) from decide_eq_decide.mpr ⟨fun e => V.bl.inj e, fun e => congrArg V.bl e⟩]
  exact h⟩
theorem rd_eq (s : scal x y = true) (h : Q (.bl (decide (x = y))) H) : rEq x y H Q := ⟨s, h⟩
theorem rd_ne (s : scal x y = true) (h : Q (.bl (!decide (x = y))) H) : rNe x y H Q := ⟨s, h⟩
theorem rd_test (h : te σ H fun x H1 => ∃ k, x = .bl k ∧ QB k H1) : tTest te σ H QB := h
theorem rd_tB (h : te σ H fun x H1 => ∃ k, x = .bl k ∧ QB k H1) : tB te σ H QB := h
theorem rd_exb {b : Bool} {P : Bool → Prop} (h : P b) : ∃ k, V.bl b = V.bl k ∧ P k := ⟨b, rfl, h⟩
theorem rd_and (h : tt σ H fun c H1 => if c = true then tu σ H1 QB else QB false H1) : tAnd tt tu σ H QB := h
theorem rd_or (h : tt σ H fun c H1 => if c = true then QB true H1 else tu σ H1 QB) : tOr tt tu σ H QB := h
theorem rd_not (h : tt σ H fun c H1 => QB (!c) H1) : tNot tt σ H QB := h
theorem rd_andV (h : ta σ H fun x H1 => ∃ c, x = .bl c ∧ if c = true then tb σ H1 Q else Q (.bl false) H1) : tAndV ta tb σ H Q := h
theorem rd_orV (h : ta σ H fun x H1 => ∃ c, x = .bl c ∧ if c = true then Q (.bl true) H1 else tb σ H1 Q) : tOrV ta tb σ H Q := h
theorem rd_notV (h : ta σ H fun x H1 => ∃ c, x = .bl c ∧ Q (.bl (!c)) H1) : tNotV ta σ H Q := h
theorem rd_ifE (h : tt σ H fun c H1 => if c = true then ta σ H1 Q else tb σ H1 Q) : tIf tt ta tb σ H Q := h
theorem rd_isN (h : ta σ H fun x H1 => Q (.bl (decide (x = .non))) H1) : tIsN ta σ H Q := h
theorem rd_notN (h : ta σ H fun x H1 => Q (.bl (!decide (x = .non))) H1) : tNotN ta σ H Q := h
theorem rd_tru {b : Bool} {P : Bool → Prop} (e : TruV K x H b) (h : P b) : ∃ k, TruV K x H k ∧ P k := ⟨b, e, h⟩
theorem rd_CB {r : List V → Hp → VK → Prop} (h : ar σ H fun vs H1 => r vs H1 Q) : tCB r ar σ H Q := h
theorem rd_nil (h : QA [] H) : tNil σ H QA := h
theorem rd_cons {tr : TA} (h : ta σ H fun x H1 => tr σ H1 fun xs H2 => QA (x :: xs) H2) : tCons ta tr σ H QA := h
theorem rd_call {sp : Sp} {E : XK} (h : ar σ H fun vs H1 => sp vs H1 Q E) : tCall sp [] E ar σ H Q := by
  unfold tCall
  have e : (fun vs H1 => sp (vs ++ []) H1 Q E) = fun vs H1 => sp vs H1 Q E := by
    funext vs H1
    rw [List.append_nil]
  rw [e]
  exact h
theorem rd_make {C : Addr} {sp : Sp} {dvs : List V} {E : XK} (h : ar σ H fun vs H1 => ∀ x dx, H1 x = none → H1 dx = none → dx ≠ x → sp (.ref x :: (vs ++ dvs)) (upd (upd H1 dx (.own x)) x (.ins C dx [])) (fun v H2 => v = .non ∧ Q (.ref x) H2) E) : tMake C sp dvs E ar σ H Q := h
theorem rd_callD {sp : Sp} {dvs : List V} {E : XK} (h : ar σ H fun vs H1 => sp (vs ++ dvs) H1 Q E) : tCall sp dvs E ar σ H Q := h
theorem rd_tup (h : ar σ H fun xs H1 => xs.length ≤ sizeLine ∧ ∀ p, H1 p = none → Q (.ref p) (upd H1 p (.tup xs))) : tTup ar σ H Q := h
theorem rd_lst (h : ar σ H fun xs H1 => xs.length ≤ sizeLine ∧ ∀ p, H1 p = none → Q (.ref p) (upd H1 p (.lst xs))) : tLst ar σ H Q := h
theorem rd_ixL {p : Addr} {xs : List V} (h : SqL K H p xs) (a : atI xs i = some v) (q : Q v H) : rIxL K (.ref p) (.int i) H Q := ⟨p, xs, i, v, rfl, rfl, h, a, q⟩
theorem rd_ixT {p : Addr} {xs : List V} (h : SqT K H p xs) (a : atI xs i = some v) (q : Q v H) : rIxT K (.ref p) (.int i) H Q := ⟨p, xs, i, v, rfl, rfl, h, a, q⟩
theorem rd_fld {f : Str} {a C dx : Addr} {fs : List (Str × V)} {P : V → Hp → Prop} (h : H a = some (.ins C dx fs)) (c : Cls K C) (n : NoAttr K C f) (l : fs.lookup f = some v) (q : Q v H) :
    ∃ a' C' dx' fs' v', V.ref a = V.ref a' ∧ H a' = some (.ins C' dx' fs') ∧ Cls K C' ∧ NoAttr K C' f ∧ fs'.lookup f = some v' ∧ Q v' H := ⟨a, C, dx, fs, v, rfl, h, c, n, l, q⟩
theorem rd_meth {C : Addr} {m : Str} {sp : Sp} {E : XK} (h : ta σ H fun x H1 => ∃ a dx fs, x = .ref a ∧ H1 a = some (.ins C dx fs) ∧ fs.lookup m = none ∧ ar σ H1 fun vs H2 => sp (x :: vs) H2 Q E) : tMeth C m sp [] E ta ar σ H Q := by
  unfold tMeth
  have e : (fun (x : V) (H1 : Hp) => ∃ a dx fs, x = V.ref a ∧ H1 a = some (.ins C dx fs) ∧ fs.lookup m = none ∧ ar σ H1 fun vs H2 => sp (x :: (vs ++ [])) H2 Q E) =
      fun (x : V) (H1 : Hp) => ∃ a dx fs, x = V.ref a ∧ H1 a = some (.ins C dx fs) ∧ fs.lookup m = none ∧ ar σ H1 fun vs H2 => sp (x :: vs) H2 Q E := by
    funext x H1
    simp only [List.append_nil]
  rw [e]
  exact h
theorem rd_methX {C a dx : Addr} {m : Str} {fs : List (Str × V)} {R : Prop} (h : H a = some (.ins C dx fs)) (l : fs.lookup m = none) (q : R) : ∃ a' dx' fs', V.ref a = V.ref a' ∧ H a' = some (.ins C dx' fs') ∧ fs'.lookup m = none ∧ R := ⟨a, dx, fs, rfl, h, l, q⟩
theorem rd_bm {T : String} {r : V → List V → Hp → VK → Prop} (h : ta σ H fun x H1 => tyV K T x H1 ∧ ar σ H1 fun xs H2 => r x xs H2 Q) : tBM K T r ta ar σ H Q := h
theorem rd_bm0 {T : String} {r : V → List V → Hp → VK → Prop} (h : ta σ H fun x H1 => tyV K T x H1 ∧ r x [] H1 Q) : tBM0 K T r ta σ H Q := h
theorem ty_l {p : Addr} {xs : List V} {B : Prop} (h : SqL K H p xs) (q : B) : tyV K "list" (.ref p) H ∧ B := ⟨.inl ⟨rfl, xs, h⟩, q⟩
theorem rd_append {p : Addr} {xs : List V} (h : H p = some (.lst xs)) (l : xs.length < sizeLine) (q : Q .non (upd H p (.lst (xs ++ [v])))) : rAppend (.ref p) [v] H Q := ⟨p, xs, v, rfl, rfl, h, l, q⟩
/-! #### built-ins under names -/
def rInt1 : List V → Hp → VK → Prop := fun xs H Q => (∃ i, xs = [.int i] ∧ Q (.int i) H) ∨ ∃ k, xs = [.bl k] ∧ Q (.int (if k then 1 else 0)) H
theorem call_int1' {X : Cx} : CallR X (.type "int") rInt1 := call_int1
theorem rd_int1 (h : Q (.int i) H) : rInt1 [.int i] H Q := .inl ⟨i, rfl, h⟩
def rAbs : List V → Hp → VK → Prop := fun xs H Q => ∃ i, xs = [.int i] ∧ Q (.int (if i < 0 then -i else i)) H
theorem call_abs' {X : Cx} : CallR X (.builtin "abs") rAbs := call_abs
theorem rd_abs (h : Q (.int (i.natAbs : Int)) H) : rAbs [.int i] H Q := ⟨i, rfl, by
  rw [show (if i < 0 then -i else i) = (i.natAbs : Int) from by split <;> omega]
  exact h⟩
def rLenS (K : PySem.W.Frag) : List V → Hp → VK → Prop := fun xs H Q => ∃ p ys, xs = [.ref p] ∧ (SqL K H p ys ∨ SqT K H p ys) ∧ Q (.int ys.length) H
theorem call_lenS {X : Cx} : CallR X (.builtin "len") (rLenS X.K) := call_len_seq
theorem rd_lenL {p : Addr} {ys : List V} (h : SqL K H p ys) (q : Q (.int ys.length) H) : rLenS K [.ref p] H Q := ⟨p, ys, rfl, .inl h, q⟩
theorem rd_lenI {p : Addr} {ns : List Int} (h : SqL K H p (ns.map V.int)) (q : Q (.int ns.length) H) : rLenS K [.ref p] H Q := ⟨p, ns.map V.int, rfl, .inl h, by
  rw [List.length_map]
  exact q⟩
theorem rd_lenT {p : Addr} {ys : List V} (h : SqT K H p ys) (q : Q (.int ys.length) H) : rLenS K [.ref p] H Q := ⟨p, ys, rfl, .inr h, q⟩
def rMin2 : List V → Hp → VK → Prop := fun xs H Q => ∃ i j, xs = [.int i, .int j] ∧ Q (.int (if j < i then j else i)) H
theorem call_min2' {X : Cx} (hc : X.calm = true) : CallR X (.builtin "min") rMin2 := call_min2 hc
theorem rd_min2 (h : Q (.int (min i j)) H) : rMin2 [.int i, .int j] H Q := ⟨i, j, rfl, by
  rw [show (if j < i then j else i) = min i j from by split <;> omega]
  exact h⟩
def rMax2 : List V → Hp → VK → Prop := fun xs H Q => ∃ i j, xs = [.int i, .int j] ∧ Q (.int (if j > i then j else i)) H
theorem call_max2' {X : Cx} (hc : X.calm = true) : CallR X (.builtin "max") rMax2 := call_max2 hc
theorem rd_max2 (h : Q (.int (max i j)) H) : rMax2 [.int i, .int j] H Q := ⟨i, j, rfl, by
  rw [show (if j > i then j else i) = max i j from by split <;> omega]
  exact h⟩
def rListOf (K : PySem.W.Frag) : List V → Hp → VK → Prop := fun xs H Q => ∃ p ys, xs = [.ref p] ∧ (SqL K H p ys ∨ SqT K H p ys) ∧ ∀ l, H l = none → Q (.ref l) (upd H l (.lst ys))
theorem call_listOf {X : Cx} : CallR X (.type "list") (rListOf X.K) := call_list_of
theorem rd_listL {p : Addr} {ys : List V} (h : SqL K H p ys) (q : ∀ l, H l = none → Q (.ref l) (upd H l (.lst ys))) : rListOf K [.ref p] H Q := ⟨p, ys, rfl, .inl h, q⟩
/-- isinstance against one built-in class -/
theorem rd_isi {t : String} {c : String} {b : Bool} (ty : TyX K H x (.type t)) (e : kitB t c = some b) (h : Q (.bl b) H) : rIsi K [x, .ty c] H Q := ⟨x, .ty c, .type t, .type c, b, rfl, .ty c, ty, kit_ty e, h⟩

/-! ### loops -/
/-- what a for over the walk J asks -/
def ForG (J : It) (g : TG) (t : TS) (D : Ends) (σ : L2.St) (H : Hp) : Prop :=
  ∃ W : Nat → Nat → L2.St → Hp → Prop, (∃ m, W 0 m σ H) ∧ ∀ i m σ H, W i m σ H →
      (J.stop i H ∧ D.nx σ H) ∨ (J.go i H ∧ ∃ N : L2.St → Hp → Prop, (∀ σ' H', N σ' H' → ∃ m', m' < m ∧ W (i + 1) m' σ' H') ∧ ∀ x H', J.yld i H x H' → g x σ H' fun σ2 H2 => t { D with nx := N, ct := N, bk := D.nx } σ2 H2)
theorem rd_for {wi : TI} {g : TG} {D : Ends} (h : wi σ H fun J H1 => ForG J g t D σ H1) : tFor wi g t D σ H := h
theorem rd_iList {R : It → Hp → Prop} (h : te σ H fun x H1 => ∃ a, x = V.ref a ∧ (∃ xs, SqL K H1 a xs) ∧ R (Itl K a) H1) : iList K te σ H R := h
theorem rd_iTup {R : It → Hp → Prop} (h : te σ H fun x H1 => ∃ a, x = V.ref a ∧ (∃ xs, SqT K H1 a xs) ∧ R (Itt K a) H1) : iTup K te σ H R := h
theorem rd_iListX {p : Addr} {xs : List V} {R : Addr → Prop} (h : SqL K H p xs) (q : R p) : ∃ a, V.ref p = V.ref a ∧ (∃ xs, SqL K H a xs) ∧ R a := ⟨p, rfl, ⟨xs, h⟩, q⟩
theorem rd_iTupX {p : Addr} {xs : List V} {R : Addr → Prop} (h : SqT K H p xs) (q : R p) : ∃ a, V.ref p = V.ref a ∧ (∃ xs, SqT K H a xs) ∧ R a := ⟨p, rfl, ⟨xs, h⟩, q⟩
theorem rd_iRng1 {R : It → Hp → Prop} (h : ar σ H fun vs H1 => ∃ j : Int, vs = [.int j] ∧ -(2 ^ 62) ≤ j ∧ j < 2 ^ 62 ∧ R (Itr 0 j.toNat) H1) : iRng1 ar σ H R := h
theorem rd_iRng1X {R : Int → Prop} (h1 : -(2 ^ 62) ≤ j) (h2 : j < 2 ^ 62) (q : R j) : ∃ k : Int, [V.int j] = [V.int k] ∧ -(2 ^ 62) ≤ k ∧ k < 2 ^ 62 ∧ R k := ⟨j, rfl, h1, h2, q⟩
theorem rd_iRng2 {R : It → Hp → Prop} (h : ar σ H fun vs H1 => ∃ i j : Int, vs = [.int i, .int j] ∧ (-(2 ^ 62) ≤ i ∧ i < 2 ^ 62 ∧ -(2 ^ 62) ≤ j ∧ j < 2 ^ 62) ∧ R (Itr i (j - i).toNat) H1) : iRng2 ar σ H R := h
theorem rd_iRng2X {R : Int → Int → Prop} (h1 : -(2 ^ 62) ≤ i ∧ i < 2 ^ 62 ∧ -(2 ^ 62) ≤ j ∧ j < 2 ^ 62) (q : R i j) : ∃ k l : Int, [V.int i, V.int j] = [V.int k, V.int l] ∧ (-(2 ^ 62) ≤ k ∧ k < 2 ^ 62 ∧ -(2 ^ 62) ≤ l ∧ l < 2 ^ 62) ∧ R k l := ⟨i, j, rfl, h1, q⟩
/-- over a list that stays -/
theorem forL_by {a : Addr} {g : TG} (xs : List V) (Pv : Nat → L2.St → Hp → Prop) (h0 : Pv 0 σ H) (hl : ∀ i σ H, i ≤ xs.length → Pv i σ H → SqL K H a xs)
    (hs : ∀ i x σ H, xs[i]? = some x → Pv i σ H → g x σ H fun σ2 H2 => t ⟨Pv (i + 1), rt, nx, Pv (i + 1)⟩ σ2 H2) (hd : ∀ σ H, Pv xs.length σ H → nx σ H) : ForG (Itl K a) g t ⟨nx, rt, bk, ct⟩ σ H := for_list (K := K) Pv h0 hl hs hd
theorem forT_by {a : Addr} {g : TG} (xs : List V) (Pv : Nat → L2.St → Hp → Prop) (h0 : Pv 0 σ H) (hl : ∀ i σ H, i ≤ xs.length → Pv i σ H → SqT K H a xs)
    (hs : ∀ i x σ H, xs[i]? = some x → Pv i σ H → g x σ H fun σ2 H2 => t ⟨Pv (i + 1), rt, nx, Pv (i + 1)⟩ σ2 H2) (hd : ∀ σ H, Pv xs.length σ H → nx σ H) : ForG (Itt K a) g t ⟨nx, rt, bk, ct⟩ σ H := for_tup (K := K) Pv h0 hl hs hd
theorem forR_by {lo : Int} {n : Nat} {g : TG} (Pv : Nat → L2.St → Hp → Prop) (h0 : Pv 0 σ H)
    (hs : ∀ (i : Nat) σ H, i < n → Pv i σ H → g (.int (lo + i)) σ H fun σ2 H2 => t ⟨Pv (i + 1), rt, nx, Pv (i + 1)⟩ σ2 H2) (hd : ∀ σ H, Pv n σ H → nx σ H) : ForG (Itr lo n) g t ⟨nx, rt, bk, ct⟩ σ H := for_range Pv h0 hs hd
/-- the items one by one -/
theorem forL_ints {a : Addr} {g : TG} (ns : List Int) (Pv : Nat → L2.St → Hp → Prop) (h0 : Pv 0 σ H) (hl : ∀ i σ H, i ≤ ns.length → Pv i σ H → SqL K H a (ns.map V.int))
    (hs : ∀ (i : Nat) (h : i < ns.length) σ H, Pv i σ H → g (.int ns[i]) σ H fun σ2 H2 => t ⟨Pv (i + 1), rt, nx, Pv (i + 1)⟩ σ2 H2) (hd : ∀ σ H, Pv ns.length σ H → nx σ H) : ForG (Itl K a) g t ⟨nx, rt, bk, ct⟩ σ H :=
  forL_by (ns.map V.int) Pv h0 (fun i σ H hi p => hl i σ H (by simpa using hi) p) (fun i x σ H e p => by
    rw [List.getElem?_map] at e
    obtain ⟨z, hz, rfl⟩ := Option.map_eq_some_iff.mp e
    obtain ⟨h, rfl⟩ := List.getElem?_eq_some_iff.mp hz
    exact hs i h σ H p) (fun σ H p => hd σ H (by simpa using p))
theorem rd_while (Pv : L2.St → Hp → Prop) (μ : L2.St → Hp → Nat) (h0 : Pv σ H)
    (hs : ∀ σ H, Pv σ H → tt σ H fun b H1 => if b = true then t ⟨fun σ' H' => Pv σ' H' ∧ μ σ' H' < μ σ H, rt, nx, fun σ' H' => Pv σ' H' ∧ μ σ' H' < μ σ H⟩ σ H1 else nx σ H1)
    (mono : ∀ σ H Q Q', (∀ b H1, Q b H1 → Q' b H1) → tt σ H Q → tt σ H Q') : tWhile tt t ⟨nx, rt, bk, ct⟩ σ H := while_by Pv μ h0 hs mono
/-- a list comprehension -/
def LcG (J : It) (g : TG) (tt : TT) (te : TE) (vs : List Nat) (σ : L2.St) (D : Addr) (Qd : Hp → Prop) (H1 : Hp) : Prop :=
  ∃ W : Nat → Nat → Hp → Prop, (∃ m, W 0 m (upd H1 D (.lst []))) ∧ ∀ i m H, W i m H →
      (J.stop i H ∧ Qd H) ∨ (J.go i H ∧ ∃ Nx : Hp → Prop, (∀ H', Nx H' → ∃ m', m' < m ∧ W (i + 1) m' H') ∧ ∀ x H', J.yld i H x H' → g x (wipe σ vs) H' fun σ2 H2 => wipe σ2 vs = wipe σ vs ∧ tt σ2 H2 fun b H3 =>
        if b = true then te σ2 H3 fun y H4 => ∃ acc, H4 D = some (.lst acc) ∧ acc.length < sizeLine ∧ Nx (upd H4 D (.lst (acc ++ [y]))) else Nx H3)
theorem rd_lc {wi : TI} {g : TG} {vs : List Nat} (h : wi σ H fun J H1 => ∀ D, H1 D = none → LcG J g tt te vs σ D (fun H => Q (.ref D) H) H1) : tLc wi g tt te vs σ H Q := h
theorem lcL_by {a D : Addr} {g : TG} {vs : List Nat} {Qd : Hp → Prop} (xs : List V) (Pv : Nat → Hp → Prop) (h0 : Pv 0 (upd H D (.lst []))) (hl : ∀ i H, i ≤ xs.length → Pv i H → SqL K H a xs)
    (hs : ∀ i x H, xs[i]? = some x → Pv i H → g x (wipe σ vs) H fun σ2 H2 => wipe σ2 vs = wipe σ vs ∧ tt σ2 H2 fun b H3 =>
      if b = true then te σ2 H3 fun y H4 => ∃ acc, H4 D = some (.lst acc) ∧ acc.length < sizeLine ∧ Pv (i + 1) (upd H4 D (.lst (acc ++ [y]))) else Pv (i + 1) H3) (hd : ∀ H, Pv xs.length H → Qd H) : LcG (Itl K a) g tt te vs σ D Qd H := lc_list (K := K) Pv h0 hl hs hd
theorem lcR_by {lo : Int} {n : Nat} {D : Addr} {g : TG} {vs : List Nat} {Qd : Hp → Prop} (Pv : Nat → Hp → Prop) (h0 : Pv 0 (upd H D (.lst [])))
    (hs : ∀ (i : Nat) H, i < n → Pv i H → g (.int (lo + i)) (wipe σ vs) H fun σ2 H2 => wipe σ2 vs = wipe σ vs ∧ tt σ2 H2 fun b H3 =>
      if b = true then te σ2 H3 fun y H4 => ∃ acc, H4 D = some (.lst acc) ∧ acc.length < sizeLine ∧ Pv (i + 1) (upd H4 D (.lst (acc ++ [y]))) else Pv (i + 1) H3) (hd : ∀ H, Pv n H → Qd H) : LcG (Itr lo n) g tt te vs σ D Qd H := lc_range Pv h0 hs hd
theorem lcL_ints {a D : Addr} {g : TG} {vs : List Nat} {Qd : Hp → Prop} (ns : List Int) (Pv : Nat → Hp → Prop) (h0 : Pv 0 (upd H D (.lst []))) (hl : ∀ i H, i ≤ ns.length → Pv i H → SqL K H a (ns.map V.int))
    (hs : ∀ (i : Nat) (h : i < ns.length) H, Pv i H → g (.int ns[i]) (wipe σ vs) H fun σ2 H2 => wipe σ2 vs = wipe σ vs ∧ tt σ2 H2 fun b H3 =>
      if b = true then te σ2 H3 fun y H4 => ∃ acc, H4 D = some (.lst acc) ∧ acc.length < sizeLine ∧ Pv (i + 1) (upd H4 D (.lst (acc ++ [y]))) else Pv (i + 1) H3) (hd : ∀ H, Pv ns.length H → Qd H) : LcG (Itl K a) g tt te vs σ D Qd H :=
  lcL_by (ns.map V.int) Pv h0 (fun i H hi p => hl i H (by simpa using hi) p) (fun i x H e p => by
    rw [List.getElem?_map] at e
    obtain ⟨z, hz, rfl⟩ := Option.map_eq_some_iff.mp e
    obtain ⟨h, rfl⟩ := List.getElem?_eq_some_iff.mp hz
    exact hs i h H p) (fun H p => hd H (by simpa using p))
theorem rd_yes {QB : Bool → Hp → Prop} (h : QB true H) : tYes σ H QB := h
end

/-! ### callables in one piece -/
section
variable {P : Program} {w : World} {K : PySem.W.Frag} {mg : Str → Option Value} {base : Heap} {CX : CXT} {X : Cx} {k j : Nat} {C : Addr} {x m : Str} {sp : Sp} {dvs : List V} {E : XK} {p pos apos : Pos} {e o : Expr} {es : List Expr} {ta : TE} {t : TA}
structure CalX (P : Program) (w : World) (K : PySem.W.Frag) (mg : Str → Option Value) (base : Heap) (CX : CXT) (k : Nat) (x : Str) (sp : Sp) (dvs : List V) : Prop where
  ex : ∃ (f : Addr) (fd : FuncData) (ps : List Str) (ds : List Value), FnOk P w K mg base CX k f fd ps sp ∧ mg x = some (.ref f) ∧ PySem.W.keepIn K (.ref f) = true ∧ Binds K fd ps ds ∧ Vals dvs ds
structure MetX (P : Program) (w : World) (K : PySem.W.Frag) (mg : Str → Option Value) (base : Heap) (CX : CXT) (k : Nat) (C : Addr) (m : Str) (sp : Sp) (dvs : List V) : Prop where
  ex : ∃ (f : Addr) (fd : FuncData) (ps : List Str) (ds : List Value), Cls K C ∧ Meth K C m f ∧ FnOk P w K mg base CX k f fd ps sp ∧ Binds K fd ps ds ∧ Vals dvs ds
structure MakX (P : Program) (w : World) (K : PySem.W.Frag) (mg : Str → Option Value) (base : Heap) (CX : CXT) (k : Nat) (x : Str) (C : Addr) (sp : Sp) (dvs : List V) : Prop where
  ex : ∃ (f : Addr) (fd : FuncData) (ps : List Str) (ds : List Value), Mk K C f ∧ FnOk P w K mg base CX k f fd ps sp ∧ mg x = some (.ref C) ∧ Binds K fd ps ds ∧ Vals dvs ds
theorem pe_cal (c : CalX X.prog X.w X.K X.mg X.base CX k x sp dvs) (hr : Room j X.A) (hk : k ≤ j) (hg : Gl X x) (hx : Passes CX X E) (ha : PA X (e :: es) t)
    (hdb : (x == ("__debug__" : Str)) = false := by decide) (he : starEach (e :: es) X.env = (false, eval e X.env) :: starEach es X.env := by rfl) (hpl : (backTo pos (starEach es X.env)).any (·.1) = false := by rfl) :
    PE X (.Call (.Name x p) (e :: es) [] pos) (tCall sp dvs E t) := by
  obtain ⟨f, fd, ps, ds, F, hm, kp, b, d⟩ := c.ex
  exact pe_call F (hr.mono hk) hg hm kp b d hx ha hdb he hpl
theorem pe_mak (c : MakX X.prog X.w X.K X.mg X.base CX k x C sp dvs) (hr : Room j X.A) (hk : k + 1 ≤ j) (hg : Gl X x) (hx : Passes CX X E) (ha : PA X (e :: es) t)
    (hdb : (x == ("__debug__" : Str)) = false := by decide) (he : starEach (e :: es) X.env = (false, eval e X.env) :: starEach es X.env := by rfl) (hpl : (backTo pos (starEach es X.env)).any (·.1) = false := by rfl) :
    PE X (.Call (.Name x p) (e :: es) [] pos) (tMake C sp dvs E t) := by
  obtain ⟨f, fd, ps, ds, M, F, hm, b, d⟩ := c.ex
  exact pe_make M F (hr.mono hk) hg hm b d hx ha hdb he hpl
theorem pe_met {pl : Sem Bool} (c : MetX X.prog X.w X.K X.mg X.base CX k C m sp dvs) (hr : Room j X.A) (hk : k ≤ j) (hx : Passes CX X E) (he : PE X o ta) (ha : PA X (e :: es) t)
    (hst : starEach (e :: es) X.env = (false, eval e X.env) :: starEach es X.env := by rfl) (hpl : (backTo pos (starEach es X.env)).any (·.1) = false := by rfl)
    (ht : eval (.Call (.Attribute o m apos) (e :: es) [] pos) X.env = (do
      let ov ← eval o X.env
      standAt apos.atName
      let (f, first) ← holding [ov] (getMethod ov m pl)
      callWith pos f first (backTo pos (starEach (e :: es) X.env)) (backToKw pos (keywordEach [] X.env))) := by rfl) :
    PE X (.Call (.Attribute o m apos) (e :: es) [] pos) (tMeth C m sp dvs E ta t) := by
  obtain ⟨f, fd, ps, ds, cl, me, F, b, d⟩ := c.ex
  exact pe_meth he cl me F (hr.mono hk) b d hx ha hst hpl ht
end

/-! ### a def's promise by its body -/
section
variable {P : Program} {w : World} {K : PySem.W.Frag} {mg : Str → Option Value} {base : Heap} {CX : CXT} {x qual : Str} {params : Arguments} {body : List Stmt} {scope : Scope} {dvs : List V} {kws : List (Str × V)} {f : Addr} {fd : FuncData}
theorem fnD {N ps : List Str} {k : Nat} {sp : Sp} (F : FunD K x qual params body scope dvs kws f fd) (S : FnScope N ps scope) (len : ∀ vs H Q E, sp vs H Q E → vs.length = ps.length)
    (hbody : ∀ (cdv : Value) (A : Around) (outer : List Env) (s : Shared) (H : Hp) (vs : List V) (Q : VK) (E : XK), Room k (A.deeper (envOfC qual scope s.heap.objs.size f cdv)) → sp vs H Q E →
      ∃ t, PSs (cxOf CX0 P w K mg base N qual scope f cdv A outer s H E).nox body t ∧ t ⟨fun _ H' => Q .non H', Q, fun _ _ => False, fun _ _ => False⟩ (start N vs) H) : FnOk P w K mg base CX0 (k + 1) f fd ps sp :=
  F.ok S len fun cdv A outer s H vs Q E hr h => let ⟨t, h1, h2⟩ := hbody cdv A outer s H vs Q E hr h; ⟨t, h1.nox, h2⟩
end

/-! ### the head: facts of a top, one Bool more -/
abbrev AlM : Type := AlD × Bool
def obsM (n : Nat) (fa : List Fa) (fn : List DefD) (ex : PySem.W.Frag → Bool) (g : Addr → Option Obj) : AlM := (obsD fa fn (frG g (asD g n)), ex (frG g (asD g n)))
def hookM (n : Nat) (fa : List Fa) (fn : List DefD) (ex : PySem.W.Frag → Bool) : PySem.W.Hook where
  α := AlM
  obs := fun s => obsM n fa fn ex s.heap.get?
  val := fun _ => (valD fn, true)
  says := fun _ h => ∃ K : PySem.W.Frag, K.In h ∧ SaysD fa fn K ∧ ex K = true
  of := fun _ _ e => ⟨_, frG_in, congrArg (fun z : AlM => z.1) e, congrArg (fun z : AlM => z.2) e⟩
  keeps := fun _ _ _ ⟨K, hK, c, d⟩ k => ⟨K, PySem.W.Frag.In.keeps hK k, c, d⟩
theorem obsM_eq {n : Nat} {fa : List Fa} {fn : List DefD} {ex : PySem.W.Frag → Bool} {g : Addr → Option Obj} {s : Shared} (h : ∀ a, g a = s.heap.get? a) : obsM n fa fn ex g = (hookM n fa fn ex).obs s := by
  have e : g = s.heap.get? := funext h
  rw [e] <;> rfl
/-- what the defs lean on -/
structure Ctx (fa : List Fa) (fn : List DefD) (ex : PySem.W.Frag → Bool) (K : PySem.W.Frag) (mg : Str → Option Value) : Prop where
  says : SaysD fa fn K
  ex : ex K = true
  at_ : ∃ h, K.In h ∧ h.Ns mainGlobals mg
section
variable {fa : List Fa} {fn : List DefD} {ex : PySem.W.Frag → Bool} {K : PySem.W.Frag} {mg : Str → Option Value}
theorem Ctx.glo (T : Ctx fa fn ex K mg) (i : Nat) {x : Str} (h : fa[i]? = some (.glo x) := by rfl) : mg x = some (.ref (ga K x)) := let ⟨_, X, G⟩ := T.at_; glo_ok X G (T.says.fact i h)
theorem Ctx.fre (T : Ctx fa fn ex K mg) (i : Nat) {x : Str} (h : fa[i]? = some (.free x) := by rfl) : mg x = none := let ⟨_, X, G⟩ := T.at_; free_ok X G (T.says.fact i h)
theorem Ctx.cls (T : Ctx fa fn ex K mg) (i : Nat) {x : Str} (h : fa[i]? = some (.cls x) := by rfl) : Cls K (ga K x) := cls_ok (T.says.fact i h)
theorem Ctx.noat (T : Ctx fa fn ex K mg) (i : Nat) {x f : Str} (h : fa[i]? = some (.noat x f) := by rfl) : NoAttr K (ga K x) f := noat_ok (T.says.fact i h)
theorem Ctx.meth (T : Ctx fa fn ex K mg) (i : Nat) {x m : Str} (h : fa[i]? = some (.meth x m) := by rfl) : Meth K (ga K x) m (ma K (ga K x) m) := meth_ok (T.says.fact i h)
theorem Ctx.mkr (T : Ctx fa fn ex K mg) (i : Nat) {x : Str} (h : fa[i]? = some (.mkr x) := by rfl) : Mk K (ga K x) (ma K (ga K x) "__init__") := mkr_ok (T.says.fact i h)
theorem Ctx.int (T : Ctx fa fn ex K mg) (i : Nat) {x : Str} {z : Int} (h : fa[i]? = some (.int x z) := by rfl) : ∃ t, mg x = some (.int z t) := let ⟨_, X, G⟩ := T.at_; int_ok X G (T.says.fact i h)
theorem Ctx.str (T : Ctx fa fn ex K mg) (i : Nat) {x z : Str} (h : fa[i]? = some (.str x z) := by rfl) : ∃ t, mg x = some (.str z t) := let ⟨_, X, G⟩ := T.at_; str_ok X G (T.says.fact i h)
end
theorem pe_globC {X : Cx} {x : Str} {v : V} {pos : Pos} (hg : Gl X x) (h : ∃ u, X.mg x = some u ∧ RelV v u) (hd : (x == ("__debug__" : Str)) = false := by decide) : PE X (.Name x pos) (tC v) := let ⟨_, hm, r⟩ := h; pe_glob hg hm r hd

/-! ### small facts -/
theorem ite_d {p A B : Prop} [Decidable p] (h1 : p → A) (h2 : ¬ p → B) : if decide p = true then A else B := by
  by_cases h : p
  · rw [decide_eq_true h, if_pos rfl]
    exact h1 h
  · rw [decide_eq_false h, if_neg Bool.false_ne_true]
    exact h2 h
theorem ite_n {p A B : Prop} [Decidable p] (h1 : ¬ p → A) (h2 : p → B) : if (!decide p) = true then A else B := by
  by_cases h : p
  · rw [decide_eq_true h]
    exact iteF (h2 h)
  · rw [decide_eq_false h]
    exact iteT (h1 h)
theorem ite_b {b : Bool} {A B : Prop} (h1 : b = true → A) (h2 : b = false → B) : if b = true then A else B := by
  cases b
  · exact iteF (h2 rfl)
  · exact iteT (h1 rfl)
theorem ite_t {b : Bool} {A B : Prop} (e : b = true) (h : A) : if b = true then A else B := by
  subst e
  exact iteT h
theorem ite_f {b : Bool} {A B : Prop} (e : b = false) (h : B) : if b = true then A else B := by
  subst e
  exact iteF h
theorem atI_ints {ns : List Int} {i : Int} (h0 : 0 ≤ i) (h1 : i < ns.length) : atI (ns.map V.int) i = some (.int (ns.getD i.toNat 0)) := by
  obtain ⟨j, rfl⟩ := Int.eq_ofNat_of_zero_le h0
  refine atI_nat ?_
  have hj : j < ns.length := by omega
  rw [List.getElem?_map, List.getElem?_eq_getElem hj]
  simp [hj]
theorem take_map_succ {ns : List Int} {i : Nat} (h : i < ns.length) : (ns.take i).map V.int ++ [V.int ns[i]] = (ns.take (i + 1)).map V.int := by
  rw [List.take_succ_eq_append_getElem h, List.map_append]
  rfl
theorem sz1000 {n : Nat} (h : n ≤ 1000000) : n ≤ sizeLine := Nat.le_trans h (by decide)
theorem szlt {n : Nat} (h : n < 1000000) : n < sizeLine := Nat.lt_of_lt_of_le h (by decide)

/-! ### more readings -/
section
variable {K : PySem.W.Frag} {σ : L2.St} {H : Hp} {nx bk ct : L2.St → Hp → Prop} {rt : VK} {te ta tb tc : TE} {ar : TA} {Q : VK} {QB : Bool → Hp → Prop} {v x y z : V} {i j : Int}
theorem rd_sfld {f : Str} (h : tb σ H fun y H1 => ta σ H1 fun x H2 => ∃ a C dx fs, x = V.ref a ∧ H2 a = some (.ins C dx fs) ∧ Cls K C ∧ NoAttr K C f ∧ fs.length < 1000 ∧ nx σ (upd H2 a (.ins C dx (putF f y fs)))) : sFld K ta tb f ⟨nx, rt, bk, ct⟩ σ H := h
theorem rd_sfldX {f : Str} {a C dx : Addr} {fs : List (Str × V)} {R : Addr → Addr → Addr → List (Str × V) → Prop} (h : H a = some (.ins C dx fs)) (c : Cls K C) (n : NoAttr K C f) (l : fs.length < 1000) (q : R a C dx fs) :
    ∃ a' C' dx' fs', V.ref a = V.ref a' ∧ H a' = some (.ins C' dx' fs') ∧ Cls K C' ∧ NoAttr K C' f ∧ fs'.length < 1000 ∧ R a' C' dx' fs' := ⟨a, C, dx, fs, rfl, h, c, n, l, q⟩
theorem rd_tfld {f : Str} (h : ta σ H fun x H1 => ∃ a C dx fs v, x = V.ref a ∧ H1 a = some (.ins C dx fs) ∧ Cls K C ∧ NoAttr K C f ∧ fs.lookup f = some v ∧ Q v H1) : tFld K ta f σ H Q := h
theorem rd_fldX {f : Str} {a C dx : Addr} {fs : List (Str × V)} {R : V → Prop} (h : H a = some (.ins C dx fs)) (c : Cls K C) (n : NoAttr K C f) (l : fs.lookup f = some v) (q : R v) :
    ∃ a' C' dx' fs' v', V.ref a = V.ref a' ∧ H a' = some (.ins C' dx' fs') ∧ Cls K C' ∧ NoAttr K C' f ∧ fs'.lookup f = some v' ∧ R v' := ⟨a, C, dx, fs, v, rfl, h, c, n, l, q⟩
theorem rd_tcon {f : Str} (h : ta σ H fun x H1 => ∃ a C dx fs v u, x = V.ref a ∧ H1 a = some (.ins C dx fs) ∧ Cls K C ∧ Con K C f v u ∧ fs.lookup f = none ∧ Q v H1) : tCon K ta f σ H Q := h
theorem rd_conX {f : Str} {a C dx : Addr} {fs : List (Str × V)} {R : V → Prop} (h : H a = some (.ins C dx fs)) (c : Cls K C) (n : ∃ u, Con K C f v u) (l : fs.lookup f = none) (q : R v) :
    ∃ a' C' dx' fs' v' u, V.ref a = V.ref a' ∧ H a' = some (.ins C' dx' fs') ∧ Cls K C' ∧ Con K C' f v' u ∧ fs'.lookup f = none ∧ R v' := let ⟨u, n⟩ := n; ⟨a, C, dx, fs, v, u, rfl, h, c, n, l, q⟩
/-! isinstance -/
theorem rd_isi_ii (h : Q (.bl true) H) : rIsi K [.int i, .ty "int"] H Q := rd_isi (.base (.int i)) (by decide +kernel) h
theorem rd_isi_ib (h : Q (.bl false) H) : rIsi K [.int i, .ty "bool"] H Q := rd_isi (.base (.int i)) (by decide +kernel) h
theorem rd_isi_bb {b : Bool} (h : Q (.bl true) H) : rIsi K [.bl b, .ty "bool"] H Q := rd_isi (.base (.bl b)) (by decide +kernel) h
theorem rd_isi_bi {b : Bool} (h : Q (.bl true) H) : rIsi K [.bl b, .ty "int"] H Q := rd_isi (.base (.bl b)) (by decide +kernel) h
theorem rd_isi_ss {b : Str} (h : Q (.bl true) H) : rIsi K [.str b, .ty "str"] H Q := rd_isi (.base (.str b)) (by decide +kernel) h
theorem rd_isi_ll {a : Addr} {xs : List V} (e : H a = some (.lst xs)) (h : Q (.bl true) H) : rIsi K [.ref a, .ty "list"] H Q := rd_isi (.base (.lst e)) (by decide +kernel) h
theorem rd_isi_tt {a : Addr} {xs : List V} (e : H a = some (.tup xs)) (h : Q (.bl true) H) : rIsi K [.ref a, .ty "tuple"] H Q := rd_isi (.base (.tup e)) (by decide +kernel) h
/-! known tests -/
section
variable {A B : Prop}
theorem ite_nt (h : B) : if (!true) = true then A else B := iteF h
theorem ite_nf (h : A) : if (!false) = true then A else B := iteT h
theorem ite_in (h : B) : if decide (V.int i = V.non) = true then A else B := iteF h
theorem ite_rn {a : Addr} (h : B) : if decide (V.ref a = V.non) = true then A else B := iteF h
theorem ite_sn {a : Str} (h : B) : if decide (V.str a = V.non) = true then A else B := iteF h
theorem ite_bn {a : Bool} (h : B) : if decide (V.bl a = V.non) = true then A else B := by
  cases a <;> exact iteF h
theorem ite_nn (h : A) : if decide (V.non = V.non) = true then A else B := iteT h
theorem ite_xin (h : A) : if (!decide (V.int i = V.non)) = true then A else B := iteT h
theorem ite_xrn {a : Addr} (h : A) : if (!decide (V.ref a = V.non)) = true then A else B := iteT h
theorem ite_xnn (h : B) : if (!decide (V.non = V.non)) = true then A else B := iteF h
end
/-! dicts with tuple keys -/
theorem rd_dnewT (h : ∀ p, H p = none → Q (.ref p) (upd H p (.dT []))) : tDNewT σ H Q := h
theorem rd_dnewK (h : ∀ p, H p = none → Q (.ref p) (upd H p (.dK []))) : tDNewK σ H Q := h
theorem rd_dget2 (h : ta σ H fun x H1 => ∃ a, x = V.ref a ∧ IsD H1 a ∧ tb σ H1 fun y H2 => tc σ H2 fun z H3 => ∃ o, DGet H3 a y o ∧ Q (o.getD z) H3) : tDGet2 ta tb tc σ H Q := h
theorem rd_isdX {a : Addr} {R : Addr → Prop} (d : IsD H a) (q : R a) : ∃ a', V.ref a = V.ref a' ∧ IsD H a' ∧ R a' := ⟨a, rfl, d, q⟩
theorem isD_T {a : Addr} {kvs : List (List Key × V)} (e : H a = some (.dT kvs)) : IsD H a := .inr ⟨kvs, .inl e⟩
theorem isD_K {a : Addr} {kvs : List (Key × V)} (e : H a = some (.dK kvs)) : IsD H a := .inl ⟨kvs, .inl e⟩
theorem rd_dgX {a : Addr} {o : Option V} {R : Option V → Prop} (d : DGet H a y o) (q : R o) : ∃ o', DGet H a y o' ∧ R o' := ⟨o, d, q⟩
theorem dg_is {a b : Addr} {kvs : List (List Key × V)} {s : Int} {z : Str} (e : H a = some (.dT kvs)) (eb : H b = some (.tup [.int s, .str z])) : DGet H a (.ref b) (valV kvs [.inl s, .inr z]) := DGet.t (k := [.inl s, .inr z]) e eb
theorem rd_sdput (h : tc σ H fun v H1 => ta σ H1 fun x H2 => tb σ H2 fun y H3 => ∃ a H4, x = V.ref a ∧ DPut H3 a y v H4 ∧ nx σ H4) : sDPut ta tb tc ⟨nx, rt, bk, ct⟩ σ H := h
theorem rd_dpX {a : Addr} {H' : Hp} {R : Hp → Prop} (d : DPut H a y v H') (q : R H') : ∃ a' H4, V.ref a = V.ref a' ∧ DPut H a' y v H4 ∧ R H4 := ⟨a, H', rfl, d, q⟩
theorem dp_is {a b : Addr} {kvs : List (List Key × V)} {s : Int} {z : Str} (e : H a = some (.dT kvs)) (eb : H b = some (.tup [.int s, .str z])) (l : kvs.length < sizeLine) : DPut H a (.ref b) v (upd H a (.dT (putK kvs [.inl s, .inr z] v))) := DPut.t (k := [.inl s, .inr z]) e eb l
theorem ty_d {a : Addr} {kvs : List (List Key × V)} {B : Prop} (h : H a = some (.dT kvs)) (q : B) : tyV K "dict" (.ref a) H ∧ B := ⟨.inr (.inr (.inl ⟨rfl, .inr ⟨kvs, h⟩⟩)), q⟩
theorem ty_dK {a : Addr} {kvs : List (Key × V)} {B : Prop} (h : H a = some (.dK kvs)) (q : B) : tyV K "dict" (.ref a) H ∧ B := ⟨.inr (.inr (.inl ⟨rfl, .inl ⟨kvs, h⟩⟩)), q⟩
theorem rd_popT {a b : Addr} {kvs : List (List Key × V)} {s : Int} {t : Str} (e : H a = some (.dT kvs)) (eb : H b = some (.tup [.int s, .str t])) (q1 : ∀ v, valV kvs [.inl s, .inr t] = some v → Q v (upd H a (.dT (dropK kvs [.inl s, .inr t])))) (q2 : valV kvs [.inl s, .inr t] = none → Q x H) :
    DX.rPopT (.ref a) [.ref b, x] H Q := ⟨a, kvs, [.inl s, .inr t], b, x, rfl, rfl, e, eb, q1, q2⟩
theorem valV_drop {κ : Type} [DecidableEq κ] (k j : κ) : ∀ kvs : List (κ × V), valV (dropK kvs k) j = if j = k then none else valV kvs j
  | [] => by
    by_cases h : j = k
    · rw [if_pos h]
      rfl
    · rw [if_neg h]
      rfl
  | p :: r => by
    have ih := valV_drop k j r
    by_cases e : p.1 = k
    · rw [dropK_pos e, ih]
      by_cases h : j = k
      · rw [if_pos h, if_pos h]
      · rw [if_neg h, if_neg h, valV_neg (fun z => h (z.symm.trans e))]
    · rw [dropK_neg e]
      by_cases h : p.1 = j
      · rw [valV_pos h, if_neg (fun z => e (h.trans z)), valV_pos h]
      · rw [valV_neg h, ih, valV_neg h]
theorem putK_le {κ : Type} [DecidableEq κ] (kvs : List (κ × V)) (k : κ) (v : V) : (putK kvs k v).length ≤ kvs.length + 1 := by
  unfold putK
  split
  · rw [List.length_map]
    omega
  · rw [List.length_append]
    exact Nat.le_refl _
theorem rd_cat {a b : Addr} {xs ys : List V} (h1 : H a = some (.lst xs)) (h2 : H b = some (.lst ys)) (l : xs.length + ys.length ≤ sizeLine) (q : ∀ p, H p = none → Q (.ref p) (upd H p (.lst (xs ++ ys)))) : rCat (.ref a) (.ref b) H Q := ⟨a, b, xs, ys, rfl, rfl, h1, h2, l, q⟩
/-! list(range(..)) -/
theorem rd_lstRg {t : L2.St → Hp → (Int → Int → Hp → Prop) → Prop} (h : t σ H fun a b H1 => RgOk a b ∧ ∀ q, H1 q = none → Q (.ref q) (upd H1 q (.lst (rgV a b)))) : tLstRg t σ H Q := h
theorem rd_rg1 {R : Int → Int → Hp → Prop} (h : ta σ H fun x H1 => ∃ n, x = V.int n ∧ R 0 n H1) : tRg1 ta σ H R := h
theorem rd_rg2 {R : Int → Int → Hp → Prop} (h : ta σ H fun x H1 => tb σ H1 fun y H2 => ∃ i j, x = V.int i ∧ y = V.int j ∧ R i j H2) : tRg2 ta tb σ H R := h
theorem rd_inX {R : Int → Prop} (h : R i) : ∃ n, V.int i = V.int n ∧ R n := ⟨i, rfl, h⟩
theorem rd_inX2 {R : Int → Int → Prop} (h : R i j) : ∃ n m, V.int i = V.int n ∧ V.int j = V.int m ∧ R n m := ⟨i, j, rfl, rfl, h⟩
theorem rgV_0 (n : Int) : rgV 0 n = ((List.range n.toNat).map fun (i : Nat) => (i : Int)).map V.int := by
  unfold rgV
  rw [List.map_map, Int.sub_zero]
  congr 1
  funext i
  show V.int (0 + (i : Int)) = V.int (i : Int)
  rw [Int.zero_add]
end

/-! ### dicts with int and text keys, slices, more -/
section
variable {K : PySem.W.Frag} {σ : L2.St} {H : Hp} {nx bk ct : L2.St → Hp → Prop} {rt : VK} {t : TS} {te ta tb tc : TE} {tt : TT} {ar : TA} {Q : VK} {QB : Bool → Hp → Prop} {v x y z : V} {i j : Int}
theorem rd_din (h : ta σ H fun y H1 => tb σ H1 fun x H2 => ∃ a o, x = V.ref a ∧ DGet H2 a y o ∧ Q (.bl o.isSome) H2) : tDIn ta tb σ H Q := h
theorem rd_dnotin (h : ta σ H fun y H1 => tb σ H1 fun x H2 => ∃ a o, x = V.ref a ∧ DGet H2 a y o ∧ Q (.bl (!o.isSome)) H2) : tDNotIn ta tb σ H Q := h
theorem rd_dget (h : ta σ H fun x H1 => tb σ H1 fun y H2 => ∃ a v, x = V.ref a ∧ DGet H2 a y (some v) ∧ Q v H2) : tDGet ta tb σ H Q := h
theorem rd_dget1 (h : ta σ H fun x H1 => ∃ a, x = V.ref a ∧ IsD H1 a ∧ tb σ H1 fun y H2 => ∃ o, DGet H2 a y o ∧ Q (o.getD .non) H2) : tDGet1 ta tb σ H Q := h
theorem rd_dinX {a : Addr} {o : Option V} {R : Option V → Prop} (d : DGet H a y o) (q : R o) : ∃ a' o', V.ref a = V.ref a' ∧ DGet H a' y o' ∧ R o' := ⟨a, o, rfl, d, q⟩
theorem rd_dgetX {a : Addr} {R : V → Prop} (d : DGet H a y (some v)) (q : R v) : ∃ a' v', V.ref a = V.ref a' ∧ DGet H a' y (some v') ∧ R v' := ⟨a, v, rfl, d, q⟩
theorem dg_i {a : Addr} {kvs : List (Key × V)} (e : H a = some (.dK kvs)) : DGet H a (.int i) (valV kvs (.inl i)) := DGet.k (k := .inl i) e
theorem dg_s {a : Addr} {kvs : List (Key × V)} {s : Str} (e : H a = some (.dK kvs)) : DGet H a (.str s) (valV kvs (.inr s)) := DGet.k (k := .inr s) e
theorem dg_iv {a : Addr} {kvs : List (Key × V)} (e : H a = some (.dK kvs)) (l : valV kvs (.inl i) = some v) : DGet H a (.int i) (some v) := l ▸ dg_i e
theorem dg_sv {a : Addr} {kvs : List (Key × V)} {s : Str} (e : H a = some (.dK kvs)) (l : valV kvs (.inr s) = some v) : DGet H a (.str s) (some v) := l ▸ dg_s e
theorem dp_i {a : Addr} {kvs : List (Key × V)} (e : H a = some (.dK kvs)) (l : kvs.length < sizeLine) : DPut H a (.int i) v (upd H a (.dK (putK kvs (.inl i) v))) := DPut.k (k := .inl i) e l
theorem dp_s {a : Addr} {kvs : List (Key × V)} {s : Str} (e : H a = some (.dK kvs)) (l : kvs.length < sizeLine) : DPut H a (.str s) v (upd H a (.dK (putK kvs (.inr s) v))) := DPut.k (k := .inr s) e l
theorem rd_disp {trs : List (TE × TE)} (h : ∀ p, H p = none → tPairs trs σ (upd H p (.dK [])) fun ps H2 => H2 p = some (.dK []) ∧ ∃ kvs : List (Key × V), ps = kvs.map (fun kv => (kV kv.1, kv.2)) ∧ kvs.length ≤ 15 ∧ Q (.ref p) (upd H2 p (.dK (mergeK [] kvs)))) : tDisp trs σ H Q := h
theorem rd_pnil {R : List (V × V) → Hp → Prop} (h : R [] H) : tPairs [] σ H R := h
theorem rd_pcons {trs : List (TE × TE)} {R : List (V × V) → Hp → Prop} (h : ta σ H fun x H1 => tb σ H1 fun y H2 => tPairs trs σ H2 fun ps H3 => R ((x, y) :: ps) H3) : tPairs ((ta, tb) :: trs) σ H R := h
theorem rd_sl {r : V → Option Int → Option Int → Hp → VK → Prop} {tl th : TO} (h : te σ H fun x H1 => tl σ H1 fun l H2 => th σ H2 fun u H3 => r x l u H3 Q) : tSl r te tl th σ H Q := h
theorem rd_part {R : Option Int → Hp → Prop} (h : te σ H fun x H1 => ∃ i, x = V.int i ∧ R (some i) H1) : tPart te σ H R := h
theorem rd_nopart {R : Option Int → Hp → Prop} (h : R none H) : tNoPart σ H R := h
theorem rd_slL {a : Addr} {xs : List V} {lo hi : Option Int} (h : SqL K H a xs) (q : ∀ p, H p = none → Q (.ref p) (upd H p (.lst (cutV xs lo hi)))) : rSlL K (.ref a) lo hi H Q := ⟨a, xs, rfl, h, q⟩
theorem cut_to {xs : List V} {k : Nat} : cutV xs none (some (k : Int)) = xs.take k := by
  unfold cutV
  rw [HT.sIx_none, HT.sIx_nat, List.drop_zero, Nat.sub_zero, List.take_eq_take_iff]
  omega
theorem cut_from {xs : List V} {k : Nat} : cutV xs (some (k : Int)) none = xs.drop k := by
  unfold cutV
  rw [HT.sIx_none, HT.sIx_nat]
  by_cases h : k ≤ xs.length
  · rw [Nat.min_eq_left h, List.take_of_length_le (by rw [List.length_drop]; exact Nat.le_refl _)]
  · rw [Nat.min_eq_right (by omega), Nat.sub_self, List.take_zero, List.drop_of_length_le (by omega)]
theorem cut_all {xs : List V} : cutV xs none none = xs := by
  unfold cutV
  rw [HT.sIx_none, HT.sIx_none, List.drop_zero, Nat.sub_zero, List.take_length]
theorem rd_popAt {a : Addr} {xs : List V} {k : Nat} (h : H a = some (.lst xs)) (b1 : -(2 ^ 63) ≤ i) (b2 : i < 2 ^ 63) (s : seqIndex? i xs.length = some k) (g : xs[k]? = some v) (q : Q v (upd H a (.lst (xs.eraseIdx k)))) : rPopAt (.ref a) [.int i] H Q := ⟨a, xs, i, k, v, rfl, rfl, h, b1, b2, s, g, q⟩
theorem rd_clear {a : Addr} {xs : List V} (h : H a = some (.lst xs)) (q : Q .non (upd H a (.lst []))) : rClear (.ref a) [] H Q := ⟨a, xs, rfl, rfl, h, q⟩
theorem rd_aug {n : Nat} {ti : TIp} (e : σ[n]? = some (some x)) (h : te σ H fun y H1 => ti x y H1 fun z H2 => nx (σ.set n (some z)) H2) : tAug n te ti ⟨nx, rt, bk, ct⟩ σ H := ⟨x, e, h⟩
theorem rd_ipI {f : Int → Int → Int} (h : Q (.int (f i j)) H) : ipI f (.int i) (.int j) H Q := ⟨i, j, rfl, rfl, h⟩
theorem rd_whileM (W : Nat → L2.St → Hp → Prop) (m : Nat) (h0 : W m σ H)
    (hs : ∀ m σ H, W m σ H → tt σ H fun b H1 => if b = true then ∃ N : L2.St → Hp → Prop, (∀ σ' H', N σ' H' → ∃ m', m' < m ∧ W m' σ' H') ∧ t ⟨N, rt, nx, N⟩ σ H1 else nx σ H1) : tWhile tt t ⟨nx, rt, bk, ct⟩ σ H := ⟨W, ⟨m, h0⟩, hs⟩
theorem inV_ints (a : Int) : ∀ ns : List Int, inV (.int a) (ns.map V.int) = decide (a ∈ ns)
  | [] => rfl
  | b :: r => by
    have ih := inV_ints a r
    unfold inV at ih ⊢
    rw [List.map_cons, List.any_cons, ih]
    show ((b == a) || decide (a ∈ r)) = decide (a ∈ b :: r)
    by_cases h : b = a
    · subst h
      simp
    · have h2 : (b == a) = false := beq_eq_false_iff_ne.mpr h
      rw [h2, Bool.false_or]
      simp [List.mem_cons, Ne.symm h]
theorem flat_ints : ∀ ns : List Int, (ns.map V.int).all flatV = true
  | [] => rfl
  | _ :: r => by
    rw [List.map_cons, List.all_cons, flat_ints r]
    rfl
theorem rd_inI {p : Addr} {ns : List Int} (h : SqL K H p (ns.map V.int)) (q : Q (.bl (decide (i ∈ ns))) H) : rIn K false (.int i) (.ref p) H Q := ⟨p, ns.map V.int, rfl, .inl h, rfl, flat_ints ns, by
  rw [inV_ints]
  exact q⟩
theorem rd_notInI {p : Addr} {ns : List Int} (h : SqL K H p (ns.map V.int)) (q : Q (.bl (!decide (i ∈ ns))) H) : rIn K true (.int i) (.ref p) H Q := ⟨p, ns.map V.int, rfl, .inl h, rfl, flat_ints ns, by
  rw [inV_ints]
  exact q⟩
def rLenD : List V → Hp → VK → Prop := fun xs H Q => ∃ a kvs, xs = [V.ref a] ∧ H a = some (.dK kvs) ∧ Q (.int kvs.length) H
theorem call_lenD' {X : Cx} : CallR X (.builtin "len") rLenD := call_lenD
theorem rd_lenD {a : Addr} {kvs : List (Key × V)} (h : H a = some (.dK kvs)) (q : Q (.int kvs.length) H) : rLenD [.ref a] H Q := ⟨a, kvs, rfl, h, q⟩
/-! enumerate -/
theorem rd_iEnum {R : It → Hp → Prop} (h : ar σ H fun vs H1 => ∃ a xs, vs = [V.ref a] ∧ SqL K H1 a xs ∧ R (Ite K a) H1) : iEnum K ar σ H R := h
theorem rd_iEnumX {p : Addr} {xs : List V} {R : Addr → Prop} (h : SqL K H p xs) (q : R p) : ∃ a xs, [V.ref p] = [V.ref a] ∧ SqL K H a xs ∧ R a := ⟨p, xs, rfl, h, q⟩
theorem forE_by {a : Addr} {g : TG} (xs : List V) (Pv : Nat → L2.St → Hp → Prop) (h0 : Pv 0 σ H) (hl : ∀ i σ H, i ≤ xs.length → Pv i σ H → SqL K H a xs)
    (hs : ∀ i x σ H T, xs[i]? = some x → Pv i σ H → H T = none → g (.ref T) σ (upd H T (.tup [.int (i : Nat), x])) fun σ2 H2 => t ⟨Pv (i + 1), rt, nx, Pv (i + 1)⟩ σ2 H2) (hd : ∀ σ H, Pv xs.length σ H → nx σ H) : ForG (Ite K a) g t ⟨nx, rt, bk, ct⟩ σ H := by
  refine ⟨fun i m σ H => m = xs.length - i ∧ i ≤ xs.length ∧ Pv i σ H, ⟨xs.length, by simp, Nat.zero_le _, h0⟩, ?_⟩
  rintro i m σ H ⟨rfl, hi, p⟩
  have q := hl i σ H hi p
  by_cases hlt : i < xs.length
  · refine .inr ⟨⟨xs, xs[i], q, by simp [hlt]⟩, Pv (i + 1), fun σ' H' p' => ⟨xs.length - (i + 1), by omega, rfl, hlt, p'⟩, fun x H' y => ?_⟩
    obtain ⟨T, z, rfl, nT, rfl, hz⟩ := y
    exact hs i z σ H T (hz xs q) p nT
  · have e : i = xs.length := by omega
    subst e
    exact .inl ⟨⟨xs, q, Nat.le_refl _⟩, hd σ H p⟩
/-! == of equal data, of int lists -/
theorem dp_ints : ∀ ns : List Int, DpAll K H (ns.map V.int) (ns.map PyData.int)
  | [] => .nil
  | x :: r => .cons (.int x) (dp_ints r)
theorem lay_ints : ∀ ns : List Int, PyData.canLayAll0 (ns.map PyData.int) = true
  | [] => by simp only [List.map_nil, PyData.canLayAll0]
  | x :: r => by simp only [List.map_cons, PyData.canLayAll0, PyData.canLay0, lay_ints r, Bool.and_self]
theorem depth_ints : ∀ ns : List Int, PyData.depthAll (ns.map PyData.int) ≤ 1
  | [] => by simp [PyData.depthAll]
  | x :: r => by
    have := depth_ints r
    simp only [List.map_cons, PyData.depthAll, PyData.depth]
    omega
theorem shaped_ints (ns : List Int) : SeqAt.shaped (.list (ns.map PyData.int)) = true :=
  Bool.and_eq_true_iff.mpr ⟨by simp only [PyData.canLay0, lay_ints], decide_eq_true (by
    have h := depth_ints ns
    simp only [PyData.depth]
    omega)⟩
theorem eqv_ints : ∀ ns ms : List Int, PyData.eqvAll (ns.map PyData.int) (ms.map PyData.int) = decide (ns = ms)
  | [], [] => by simp [PyData.eqvAll]
  | [], y :: m => by simp [PyData.eqvAll]
  | x :: r, [] => by simp [PyData.eqvAll]
  | x :: r, y :: m => by
    have ih := eqv_ints r m
    simp only [List.map_cons, PyData.eqvAll, PyData.eqv, ih]
    by_cases h : x = y
    · subst h
      simp
    · simp [h]
theorem rd_eqLI {p q : Addr} {ns ms : List Int} (h1 : SqL K H p (ns.map V.int)) (h2 : SqL K H q (ms.map V.int)) (k : Q (.bl (decide (ns = ms))) H) : rEqD K (.ref p) (.ref q) H Q :=
  ⟨.list (ns.map PyData.int), .list (ms.map PyData.int), .lst h1 (dp_ints ns), .lst h2 (dp_ints ms), shaped_ints ns, shaped_ints ms, by
    simp only [PyData.eqv, eqv_ints]
    exact k⟩
theorem rd_neLI {p q : Addr} {ns ms : List Int} (h1 : SqL K H p (ns.map V.int)) (h2 : SqL K H q (ms.map V.int)) (k : Q (.bl (!decide (ns = ms))) H) : rNeD K (.ref p) (.ref q) H Q :=
  ⟨.list (ns.map PyData.int), .list (ms.map PyData.int), .lst h1 (dp_ints ns), .lst h2 (dp_ints ms), shaped_ints ns, shaped_ints ms, by
    simp only [PyData.eqv, eqv_ints]
    exact k⟩
end

/-! ### the same rules with the written part named (within comprehensions) -/
section
variable {X : L2.Cx} {K : PySem.W.Frag}
theorem call_listOfK (h : X.K = K) : CallR X (.type "list") (rListOf K) := h ▸ call_listOf
theorem call_lenSK (h : X.K = K) : CallR X (.builtin "len") (rLenS K) := h ▸ call_lenS
theorem ix_listK (h : X.K = K) : IxR X (rIxL K) := h ▸ ix_list
theorem ix_tupK (h : X.K = K) : IxR X (rIxT K) := h ▸ ix_tup
theorem op_in_seqK (h : X.K = K) : OpR X (compareOp .In) (rIn K false) := h ▸ op_in_seq
theorem op_notIn_seqK (h : X.K = K) : OpR X (compareOp .NotIn) (rIn K true) := h ▸ op_notIn_seq
theorem call_isiK2 (h : X.K = K) : CallR X (.builtin "isinstance") (rIsi K) := h ▸ call_isi
theorem pe_fldK {e : Expr} {f : Str} {pos : Pos} {ta : TE} (h : X.K = K) (he : PE X e ta) (hb : attributeBase e f X.env (eval e X.env) = eval e X.env) : PE X (.Attribute e f pos) (tFld K ta f) := h ▸ pe_fld he hb
end
end RD

/-! own layer: sorted(xs, key=f) where f's calls keep the invariant (behind RD) -/
namespace RD
open PySem PySem.Spec PyProof.Rows L2 PySem.W
section
variable {X : Cx} {pins pf : List (Addr × Obj)} {σ : L2.St} {H : Hp} {s : Shared}
/-- what a key's call does -/
def KeyTurn (X : Cx) (A : Around) (σ : L2.St) (H : Hp) (pf : List (Addr × Obj)) (f : Value) (xs : List V) (key : V → Int) : Prop :=
  ∀ (pl : List (Addr × Obj)) (s1 : Shared) (H1 : Hp) (v : V) (u : Value), Inv X (pf ++ pl) σ H1 s1 → Kp [] H H1 → v ∈ xs → RelV v u →
    wpAny (model X.prog X.w) A (call f [u]) (fun z s2 => ∃ H2 t, Inv X (pf ++ pl) σ H2 s2 ∧ Kp [] H1 H2 ∧ z = .int (key v) t) (fun _ _ => False) s1
/-- what stands of an address of ours, whatever runs -/
def Own (X : Cx) (pn : List (Addr × Obj)) (b : Addr) : Prop :=
  b ≠ X.env.locals ∧ b ∉ X.fs ∧ (b ∈ X.ex ∨ X.s_0.heap.objs.size ≤ b) ∧ (∀ x c, X.env.cells.lookup x = some c → c ≠ b) ∧ ∀ p ∈ X.pn ++ pn, p.1 ≠ b
theorem Own.fresh {b : Addr} (I : Inv X pins σ H s) (hb : s.heap.objs.size ≤ b) : Own X pins b := by
  have q := I.fpOk (H' := H) hb (I.hok.fresh hb)
  exact ⟨q.2.1, q.2.2.1, q.2.2.2.1, q.2.2.2.2.1, q.2.2.2.2.2⟩
theorem Own.less {pn pm : List (Addr × Obj)} {b : Addr} (o : Own X pn b) (h : ∀ p, p ∈ pm → p ∈ pn) : Own X pm b :=
  ⟨o.1, o.2.1, o.2.2.1, o.2.2.2.1, fun p hp => o.2.2.2.2 p ((List.mem_append.mp hp).elim (fun z => List.mem_append_left _ z) fun z => List.mem_append_right _ (h p z))⟩
theorem inv_pin {b : Addr} {o : Obj} {pn : List (Addr × Obj)} (I : Inv X (pf ++ pn) σ H s) (w : Own X (pf ++ pn) b) (hn : H b = none) (e : s.heap.get? b = some o) (hc : ∀ v, o.data ≠ .cell v) : Inv X (pf ++ ((b, o) :: pn)) σ H s :=
  I.pins_of fun p hp => by
    rcases List.mem_append.mp hp with z | z
    · exact I.pin p (List.mem_append_right _ (List.mem_append_left _ z))
    · rcases List.mem_cons.mp z with z | z
      · rw [z]
        exact ⟨e, hn, w.1, w.2.1, hc⟩
      · exact I.pin p (List.mem_append_right _ (List.mem_append_right _ z))
theorem inv_unpin {q : Addr × Obj} {pn : List (Addr × Obj)} (I : Inv X (pf ++ (q :: pn)) σ H s) : Inv X (pf ++ pn) σ H s :=
  I.pins_of fun p hp => by
    rcases List.mem_append.mp hp with z | z
    · exact I.pin p (List.mem_append_right _ (List.mem_append_left _ z))
    · exact I.pin p (List.mem_append_right _ (List.mem_append_right _ (List.mem_cons_of_mem _ z)))
theorem inv_head {q : Addr × Obj} {pn : List (Addr × Obj)} (I : Inv X (pf ++ (q :: pn)) σ H s) : s.heap.get? q.1 = some q.2 ∧ H q.1 = none :=
  have z := I.pin q (List.mem_append_right _ (List.mem_append_right _ (.head _)))
  ⟨z.1, z.2.1⟩
/-- the object at b turns -/
theorem inv_turn {b : Addr} {pn : List (Addr × Obj)} {h' : Heap} {t' : Nat} (I : Inv X pn σ H s) (w : Own X pn b) (hn : H b = none) (k : ∀ c o, c ≠ b → s.heap.get? c = some o → h'.get? c = some o) : Inv X pn σ H { s with heap := h', toks := t' } :=
  I.turned k hn w.1 w.2.2.1 w.2.2.2.1 w.2.2.2.2
theorem ints_snoc {vs : List Value} {ns : List Int} {n : Int} {t : Tok} (h : IntsAre vs ns) : IntsAre (vs ++ [.int n t]) (ns ++ [n]) := by
  induction h with
  | nil => exact .cons n t .nil
  | cons m u _ ih => exact .cons m u ih
theorem each_ints {h : Heap} {vs : List Value} {ns : List Int} (e : IntsAre vs ns) : EachIs (fun v d => ∃ as, Reads h v d as) vs (ns.map PyData.int) := by
  induction e with
  | nil => exact .nil
  | cons n t _ ih => exact .cons ⟨[], .int n t⟩ ih
theorem each_vals {xs : List V} {us : List Value} (r : Vals xs us) : EachIs (fun u v => RelV v u) us xs := by
  induction r with
  | nil => exact .nil
  | cons a _ ih => exact .cons a ih
theorem vals_each {xs : List V} {us : List Value} (r : EachIs (fun u v => RelV v u) us xs) : Vals xs us := by
  induction r with
  | nil => exact .nil
  | cons a _ ih => exact .cons a ih
/-- a heap without the object at b -/
def gone (h : Heap) (b : Addr) : Heap := h.update b fun _ => { cls := .none, data := .freed }
theorem gone_at {h : Heap} {b : Addr} {o : Obj} (e : h.get? b = some o) : (gone h b).get? b = none := by
  cases q : (gone h b).get? b with
  | none => rfl
  | some u =>
    exfalso
    obtain ⟨e1, _⟩ := Heap.get?_some_iff.mp e
    obtain ⟨e2, e3⟩ := Heap.get?_some_iff.mp q
    have e4 : (gone h b).objs[b]? = some { cls := .none, data := .freed } := by
      unfold gone
      rw [Heap.objs_update_self, e1]
      rfl
    rw [e4] at e2
    cases e2
    cases e3
theorem gone_ne {h : Heap} {b c : Addr} (n : c ≠ b) : (gone h b).get? c = h.get? c := (Heap.SameBut.update h b _).2 c n
theorem key_end {A : Around} {key : V → Int} {xs : List V} {vs : List Value} {a kS : Addr} {kA : Array Value} {e e1 : Nat} {P : PySem.Fin → Shared → Prop} {E : Value → Shared → Prop} (I : Inv X (pf ++ ((kS, seqObj "list" kA e) :: (a, seqObj "list" #[] e1) :: pins)) σ H s)
    (wk : Own X (pf ++ ((a, seqObj "list" #[] e1) :: pins)) kS) (wa : Own X (pf ++ pins) a) (r : Vals xs vs) (hZ : vs.length ≤ sizeLine) (hu : A.units < cLine) (hk : IntsAre kA.toList (xs.map key))
    (h : ∀ s' out c, Inv X (pf ++ pins) σ H s' → s'.heap.get? a = some (seqObj "list" (List.toArray out) c) → Vals (xs.mergeSort fun p q => decide (key p ≤ key q)) out → P (.done (.ret .none)) s') :
    wpAny (model X.prog X.w) A (ksk_end a false vs.toArray e1 (.ref kS) kA) P E s := by
  have nk := inv_head I
  have na := inv_head (inv_unpin I)
  have hka : kS ≠ a := Ne.symm (wk.2.2.2.2 (a, seqObj "list" #[] e1) (List.mem_append_right _ (List.mem_append_right _ (.head _))))
  have hl : kA.size = vs.length := by
    have h1 := hk.length
    rw [Array.length_toList, List.length_map] at h1
    rw [h1]
    exact r.length
  have hE := each_ints (h := s.heap) hk
  have hkz : (xs.map key).map PyData.int = xs.map (fun v => PyData.int (key v)) := by rw [List.map_map]; rfl
  have hal : AllAlike (xs.map fun v => PyData.int (key v)) := AllAlike.of fun _ _ => by simp [alike]
  have hsk : Sortable (xs.map fun v => PyData.int (key v)) := Sortable.others fun _ => ⟨(fun z => by cases z), (fun _ z => by cases z)⟩
  rw [hkz] at hE
  refine keyH_end (κ := dataKind s.heap (xs.map fun v => PyData.int (key v))) (h₁ := gone s.heap kS) (fun b o hb q => ?_) (gone_at nk.1) nk.1 na.1 hka (SortsAt.data hE hal hsk fun d hd => ?_) hl hZ fun h' tk c kp hc => ?_
  · by_cases hbk : b = kS
    · rw [hbk, gone_at nk.1] at q
      cases q
    · rw [gone_ne hbk] at q
      exact q
  · obtain ⟨v, _, e⟩ := List.mem_map.mp hd
    rw [← e]
    simpa [PyData.depth] using hu
  · have I1 : Inv X (pf ++ ((a, seqObj "list" #[] e1) :: pins)) σ H { s with heap := gone s.heap kS, toks := s.toks } := inv_turn (inv_unpin I) wk nk.2 fun b o hb q => by
      rw [gone_ne hb]
      exact q
    have I2 : Inv X (pf ++ pins) σ H { s with heap := h', toks := tk } := inv_turn (s := { s with heap := gone s.heap kS, toks := s.toks }) (inv_unpin I1) wa na.2 fun b o hb q => kp b o hb q
    have ko : KeyedOut false (xs.map fun v => PyData.int (key v)) vs (sortVals (dataKind s.heap (xs.map fun v => PyData.int (key v))) false kA.toList vs) := ⟨s.heap, kA.toList, hal, rfl, hE⟩
    have eo := keyedOut_each (fun v => PyData.int (key v)) ko (each_vals r)
    rw [dataLe_int key] at eo
    exact h _ _ c I2 hc (vals_each eo)
/-- the keys' loop -/
theorem key_rest {A : Around} {f : Value} {key : V → Int} {xs : List V} {vs : List Value} {a kS : Addr} {e1 : Nat} {P : PySem.Fin → Shared → Prop} {E : Value → Shared → Prop} (T : KeyTurn X A σ H pf f xs key)
    (I : Inv X (pf ++ ((kS, seqObj "list" #[] 0) :: (a, seqObj "list" #[] e1) :: pins)) σ H s) (wk : Own X (pf ++ ((a, seqObj "list" #[] e1) :: pins)) kS) (wa : Own X (pf ++ pins) a) (r : Vals xs vs) (hZ : vs.length ≤ sizeLine) (hu : A.units < cLine)
    (h : ∀ H' s' out c, Inv X (pf ++ pins) σ H' s' → Kp [] H H' → H' a = none → s'.heap.get? a = some (seqObj "list" (List.toArray out) c) → Vals (xs.mergeSort fun p q => decide (key p ≤ key q)) out → P (.done (.ret .none)) s') :
    wpAny (model X.prog X.w) A (ksk_rest a f false vs.toArray e1 (.ref kS)) P E s := by
  unfold ksk_rest
  refine wpAny_bind (wpAny_rule ?_)
  rw [List.forIn_toArray]
  refine wpAny_bind (ksk_fold (fun i s' => ∃ H1 kA e, Inv X (pf ++ ((kS, seqObj "list" kA e) :: (a, seqObj "list" #[] e1) :: pins)) σ H1 s' ∧ Kp [] H H1 ∧ IntsAre kA.toList ((xs.take i).map key)) vs 0 s ⟨H, #[], 0, I, Kp.refl, .nil⟩ ?step ?done)
  case step =>
    rintro j u s' hx ⟨H1, kA, e, I1, k1, hk⟩
    rw [Nat.zero_add] at hk ⊢
    obtain ⟨hj, _⟩ := List.getElem?_eq_some_iff.mp hx
    obtain ⟨v, hv⟩ : ∃ v, xs[j]? = some v := ⟨_, List.getElem?_eq_getElem (by rw [r.length]; exact hj)⟩
    obtain ⟨u', hu', rv⟩ := Vals.get r hv
    rw [hx] at hu'
    cases hu'
    have hz : kA.size ≤ vs.length := by
      have h1 := hk.length
      rw [Array.length_toList, List.length_map, List.length_take] at h1
      omega
    refine wpAny_bind (wpAny_attempt (wpAny_mono (T _ s' H1 v u I1 k1 (List.mem_of_getElem? hv) rv) (fun z s2 he => ?_) fun _ _ hF => hF.elim))
    obtain ⟨H2, t, I2, k2, rfl⟩ := he
    have nk := inv_head I2
    obtain ⟨c2, hc2⟩ : ∃ c2, (s2.heap.update kS (Obj.mapSeq (·.push (.int (key v) t)))).get? kS = some (seqObj "list" (kA.push (.int (key v) t)) c2) := ⟨_, get?_update_seq nk.1 (·.push (.int (key v) t))⟩
    refine wpAny_bind (listUpdate_at nk.1 rfl ?_ (Nat.le_trans hz hZ) (Nat.le_trans (Nat.le_of_eq (Array.size_push ..)) (Nat.succ_le_succ (Nat.le_trans hz hZ))))
    have I3 : Inv X (pf ++ ((a, seqObj "list" #[] e1) :: pins)) σ H2 { s2 with heap := s2.heap.update kS (Obj.mapSeq (·.push (.int (key v) t))), toks := s2.toks } :=
      inv_turn (inv_unpin I2) wk nk.2 fun b o hb q => ((Heap.SameBut.update s2.heap kS _).2 b hb).trans q
    refine wpAny_pure ⟨rfl, H2, kA.push (.int (key v) t), c2, inv_pin I3 wk nk.2 hc2 (fun _ z => by cases z), k1.trans k2, ?_⟩
    rw [Array.toList_push, List.take_add_one, hv, List.map_append]
    exact ints_snoc hk
  case done =>
    rintro s' ⟨H1, kA, e, I1, k1, hk⟩
    rw [Nat.zero_add, ← r.length, List.take_length] at hk
    refine wpAny_bind (listItems_at (inv_head I1).1 rfl ?_)
    exact key_end (key := key) I1 wk wa r hZ hu hk fun s2 out c I2 hc ho => h H1 s2 out c I2 k1 (inv_head (inv_unpin I1)).2 hc ho
/-- xs.sort(key=f) of a list that nobody knows -/
theorem key_tree {A : Around} {f : Value} {key : V → Int} {xs : List V} {vs : List Value} {a : Addr} {n : Nat} {P : PySem.Fin → Shared → Prop} {E : Value → Shared → Prop} (T : KeyTurn X A σ H pf f xs key)
    (I : Inv X (pf ++ pins) σ H s) (wa : Own X (pf ++ pins) a) (na : H a = none) (ho : s.heap.get? a = some (seqObj "list" vs.toArray n)) (r : Vals xs vs) (hZ : vs.length ≤ sizeLine) (hu : A.units < cLine)
    (h : ∀ H' s' out c, Inv X (pf ++ pins) σ H' s' → Kp [] H H' → H' a = none → s'.heap.get? a = some (seqObj "list" (List.toArray out) c) → Vals (xs.mergeSort fun p q => decide (key p ≤ key q)) out → P (.done (.ret .none)) s') :
    wpAny (model X.prog X.w) A (ksk_tree a f false) P E s := by
  obtain ⟨e1, ho1⟩ : ∃ e1, (s.heap.update a (Obj.mapSeq fun _ => (#[] : Array Value))).get? a = some (seqObj "list" #[] e1) := ⟨_, get?_update_seq ho fun _ => #[]⟩
  have I1 : Inv X (pf ++ pins) σ H { s with heap := s.heap.update a (Obj.mapSeq fun _ => (#[] : Array Value)), toks := s.toks } := inv_turn I wa na fun b o hb q => ((Heap.SameBut.update s.heap a _).2 b hb).trans q
  have I2 := inv_pin I1 wa na ho1 (fun _ z => by cases z)
  have I3 : Inv X (pf ++ ((a, seqObj "list" #[] e1) :: pins)) σ H { s with heap := (s.heap.update a (Obj.mapSeq fun _ => (#[] : Array Value))).push (seqObj "tuple" vs.toArray 0), toks := s.toks } := I2.kept fun b o q => Heap.get?_push_of_some _ q
  have wk := Own.fresh I3 (Nat.le_refl _)
  have nk := I3.hok.fresh (Nat.le_refl _)
  have I4 : Inv X (pf ++ ((a, seqObj "list" #[] e1) :: pins)) σ H { s with heap := ((s.heap.update a (Obj.mapSeq fun _ => (#[] : Array Value))).push (seqObj "tuple" vs.toArray 0)).push (seqObj "list" #[] 0), toks := s.toks } := I3.kept fun b o q => Heap.get?_push_of_some _ q
  unfold ksk_tree
  refine wpAny_bind (listItems_at ho rfl ?_)
  refine wpAny_bind (listUpdate_at ho rfl ?_ (by rw [List.size_toArray]; exact hZ) (Nat.zero_le _))
  refine wpAny_bind (seqEpoch_at ho1 rfl ?_)
  refine wpAny_bind (wpAny_newTuple ?_ (by show vs.length ≤ _; exact hZ))
  refine wpAny_bind (wpAny_newList ?_ (Nat.zero_le _))
  refine wpAny_holding ?_
  exact key_rest T (inv_pin I4 wk nk (Heap.get?_push_size _ rfl) (fun _ z => by cases z)) wk wa r hZ hu h
/-- an object of ours becomes known -/
theorem inv_track {a : Addr} {o : HO} {pn : List (Addr × Obj)} (I : Inv X pn σ H s) (w : Own X pn a) (hn : H a = none) (ok : ObjOk X.prog X.w (upd H a o) s.heap a o) : Inv X pn σ (upd H a o) s := by
  have ne : ∀ b u, H b = some u → b ≠ a := fun b u e z => by
    rw [z, hn] at e
    cases e
  have up : ∀ b u, H b = some u → upd H a o b = some u := fun b u e => by rw [upd_ne (ne b u e)]; exact e
  exact I.step (h' := s.heap) (g' := s.gens) (d' := s.drawn) (t' := s.toks) (ch := [a]) (fun b hb => by
      rw [List.mem_singleton.mp hb]
      exact ⟨w.2.2.1, w.1, w.2.2.2.1, w.2.2.2.2⟩)
    (fun b u _ _ _ e _ => e) (fun b u _ _ _ e _ => ⟨u.slots, e⟩) (fun b u hb _ n => by
      rw [upd_ne (fun z => hb (List.mem_singleton.mpr z))]
      exact n)
    (fun b u _ e => ⟨u, e⟩) (fun b xs e => up b _ e) (fun b u v e => up b _ e) (fun b ps e => ⟨#[], by rw [up b _ e]; simp⟩) (fun m hm => hm)
    (fun b u e => by
      by_cases hb : b = a
      · rw [hb, upd_same] at e
        cases e
        rw [hb]
        exact ok
      · rw [upd_ne hb] at e
        exact (I.hok b u e).stay (fun c v _ q => q) (fun c q => up c _ q) fun c xs q => up c _ q) I.bare
/-- sorted(xs, key=f) -/
theorem sorted_key {f : Addr} {key : V → Int} {xs : List V} {l : Addr} {Q : VK} (T : KeyTurn X X.A.in1.in1 σ H pf (.ref f) xs key) (I : Inv X (pf ++ pins) σ H s) (hs : SqL X.K H l xs) (hu : X.A.units + 2 < cLine)
    (h : ∀ H' p, Kp [] H H' → H' p = none → Q (.ref p) (upd H' p (.lst (xs.mergeSort fun a b => decide (key a ≤ key b))))) :
    wpAny (model X.prog X.w) X.A (call (.builtin "sorted") [.ref l] [(Str.ofString "key", .ref f)]) (EP X (pf ++ pins) σ Q) X.xe s := by
  obtain ⟨its, rv, hl, hz⟩ := I.list hs
  have wa := Own.fresh I (b := s.heap.objs.size + 1) (Nat.le_succ _)
  have na : H (s.heap.objs.size + 1) = none := I.hok.fresh (Nat.le_succ _)
  refine sorted_of_sort hl.isList (by rw [← rv.length]; exact hz) (ksk_s1 _ _) (fun _ => ksk_l1 _ _) fun E' => ?_
  rw [ksk_t1]
  have I1 : Inv X (pf ++ pins) σ H { s with heap := copyHeap s.heap its, toks := s.toks } := I.kept fun b o q => copyHeap_old q
  refine key_tree (s := { s with heap := copyHeap s.heap its }) T I1 wa na (copyHeap_at s.heap its) rv (by rw [← rv.length]; exact hz) hu fun H' s' out c I2 k2 n2 hc ro => ⟨rfl, ?_⟩
  have hlen : (xs.mergeSort fun a b => decide (key a ≤ key b)).length ≤ sizeLine := by
    rw [List.length_mergeSort]
    exact hz
  exact ⟨.ref _, _, inv_track (o := .lst (xs.mergeSort fun a b => decide (key a ≤ key b))) I2 wa n2 ⟨hlen, out, c, ro, hc⟩, rfl, h H' _ k2 n2⟩
end
/-! ### a lambda with one parameter -/
structure Lam1 (sc scope : Scope) (p : Str) : Prop where
  kind : scope.kind = .function
  co : scope.isCoroutine = false
  gen : scope.isGenerator = false
  own : ∀ y ∈ scope.names, y.2 ≠ .cell
  par : scope.names.lookup p = some .local
  loc : ∀ {y}, y ≠ p → scope.names.lookup y ≠ some .local
  free : ∀ y ∈ scope.names, y.2 = .free → sc.names.lookup y.1 = some .cell ∨ sc.names.lookup y.1 = some .free
def lam1B (sc scope : Scope) (p : Str) : Bool :=
  decide (scope.kind = .function) && !scope.isCoroutine && !scope.isGenerator && decide (scope.names.lookup p = some .local) && scope.names.all fun y => !decide (y.2 = .cell) && (!decide (y.2 = .local) || decide (y.1 = p)) && (!decide (y.2 = .free) || decide (sc.names.lookup y.1 = some .cell) || decide (sc.names.lookup y.1 = some .free))
theorem lam1_by {sc scope : Scope} {p : Str} (h : lam1B sc scope p = true) : Lam1 sc scope p := by
  unfold lam1B at h
  simp only [Bool.and_eq_true, Bool.or_eq_true, Bool.not_eq_true', decide_eq_true_eq, decide_eq_false_iff_not, List.all_eq_true] at h
  obtain ⟨⟨⟨⟨h1, h2⟩, h3⟩, h5⟩, h4⟩ := h
  refine ⟨h1, h2, h3, fun y hy => (h4 y hy).1.1, h5, fun {y} n e => ?_, fun y hy e => ?_⟩
  · rcases (h4 _ (PySem.mem_of_lookup e)).1.2 with z | z
    · exact z rfl
    · exact n z
  rcases (h4 y hy).2 with (z | z) | z
  · exact absurd e z
  · exact .inl z
  · exact .inr z
theorem Lam1.has {X : Cx} {scope : Scope} {p : Str} (L : Lam1 X.env.scope scope p) (ok : X.Ok) : ∀ y ∈ scope.names, y.2 = .free → ∃ c, X.env.cells.lookup y.1 = some c := fun y hy e => by
  rcases L.free y hy e with k | k
  · exact ok.has _ (.inl k)
  · exact ok.has _ (.inr k)
/-- the context of the lambda's body -/
def lam1Cx (X : Cx) (A : Around) (s : Shared) (H : Hp) (N : List Str) (scope : Scope) (f c' : Addr) : Cx where
  prog := X.prog
  w := X.w
  K := X.K
  mg := X.mg
  base := X.base
  A := A.deeper (LamX.lamEnv X scope s.heap.objs.size f c')
  N := N
  s_0 := s
  H_0 := H
  env := LamX.lamEnv X scope s.heap.objs.size f c'
  outer := X.stack
  stack := LamX.lamEnv X scope s.heap.objs.size f c' :: X.stack
  ex := []
  fn := fun _ => false
  calm := true
  pn := []
  xe := fun _ _ => False
section
variable {X : Cx} {pins : List (Addr × Obj)} {σ σ' : L2.St} {H : Hp} {s : Shared}
/-- each name of the body that has a value: the parameter, or a name of the maker -/
def Caps (X : Cx) (σ : L2.St) (N : List Str) (σ' : L2.St) (p : Str) (v : V) : Prop :=
  σ'.length = N.length ∧ ∀ (i : Nat) (y : Str) (x : V), N[i]? = some y → σ'[i]? = some (some x) → (y = p ∧ x = v) ∨ (y ≠ p ∧ ∃ j : Nat, X.N[j]? = some y ∧ σ[j]? = some (some x))
theorem lam1_start {A : Around} {N : List Str} {scope : Scope} {p : Str} {v : V} {u : Value} {f c' : Addr} {h₁ : Heap} {tk : Nat} (I : Inv X pins σ H s) (L : Lam1 X.env.scope scope p) (hfr : A.frames = some X.stack) (hd : A.handled = none) (C : Caps X σ N σ' p v) (r : RelV v u)
    (hns : h₁.Ns s.heap.objs.size fun y => [(p, u)].reverse.lookup y) (kp : ∀ b o, s.heap.get? b = some o → h₁.get? b = some o) :
    Inv (lam1Cx X A s H N scope f c') [] σ' H { s with heap := h₁, toks := tk } := by
  have e0 := I.env0
  have hfree := L.has I.ok
  have cm : ∀ {y c}, (cloFrom X.env.cells scope.names []).lookup y = some c → X.env.cells.lookup y = some c := fun {y c} e => by
    rcases cloFrom_mem (PySem.mem_of_lookup e) with hm | ⟨h1, h2⟩
    · cases hm
    · obtain ⟨c1, hc⟩ := hfree _ h1 rfl
      have hc : X.env.cells.lookup y = some c1 := hc
      have e2 : c = c1 := by rw [h2, hc] <;> rfl
      rw [e2]
      exact hc
  have look : ∀ {y}, scope.names.lookup y = some .free → ∃ c, (cloFrom X.env.cells scope.names []).lookup y = some c := fun {y} hl =>
    mem_lookup (cloFrom_has (cells := X.env.cells) (acc := []) (PySem.mem_of_lookup hl))
  have cellK : ∀ {c : Addr} {z : Option Value}, s.heap.IsCell c z → h₁.IsCell c z := fun {c z} ⟨o, ho, hd⟩ => ⟨o, kp _ _ ho, hd⟩
  have noA : ∀ b : Addr, b ∉ (lam1Cx X A s H N scope f c').ex := fun b z => by cases z
  constructor
  case ok =>
    constructor
    case mod => exact e0.mod
    case kind => exact L.kind
    case glob => exact rfl
    case blt => exact rfl
    case above => exact Nat.le_refl _
    case inj => exact fun y z c e1 e2 => I.ok.inj y z c (cm e1) (cm e2)
    case has =>
      intro y hy
      have hy : scope.names.lookup y = some .cell ∨ scope.names.lookup y = some .free := hy
      rcases hy with hy | hy
      · exact absurd rfl (L.own _ (PySem.mem_of_lookup hy))
      · exact look hy
    case cab =>
      intro y c z _
      have z : false = true := z
      cases z
    case hd => exact fun _ => hd
    case frames => exact Around.frames_deeper hfr
    case stk => exact .inr ⟨rfl, rfl⟩
    case exf => exact fun b z => absurd z (noA b)
    case bs => exact e0.bs
    case bsz => exact e0.bsz
    case noex => exact fun b _ _ => noA b
    case exfs => exact fun b z => absurd z (noA b)
    case funs => exact e0.funs
    case frf => exact e0.frf
  case os => exact rfl
  case bare => exact e0.bare
  case base => exact Un.kept kp
  case loc =>
    refine ⟨_, hns, fun i y x e1 e2 e3 => ?_⟩
    rcases C.2 i y x e1 e2 with ⟨ey, ex⟩ | ⟨ny, j, j1, j2⟩
    · rw [ey, ex]
      exact ⟨u, r, .inl ⟨L.par, by simp⟩⟩
    · have e3 : Vis scope y := e3
      rcases e3 with k | k | k
      · exact absurd k (L.loc ny)
      · exact absurd rfl (L.own _ (PySem.mem_of_lookup k))
      · obtain ⟨m, hn, hl⟩ := I.loc
        have hvis : Vis X.env.scope y := (L.free _ (PySem.mem_of_lookup k) rfl).elim (fun k => .inr (.inl k)) (fun k => .inr (.inr k))
        obtain ⟨w', r', q⟩ := hl j y x j1 j2 hvis
        obtain ⟨c2, h2⟩ := look k
        refine ⟨w', r', .inr ⟨.inr k, c2, h2, ?_⟩⟩
        have c1 := cm h2
        rcases q with ⟨k', _⟩ | ⟨_, c3, e', z⟩
        · have k' : X.env.scope.names.lookup y = some .local := k'
          rcases L.free _ (PySem.mem_of_lookup k) rfl with k2 | k2 <;> rw [show X.env.scope.names.lookup y = _ from k2] at k' <;> cases k'
        · rw [c1] at e'
          cases e'
          exact cellK z
  case cell =>
    intro y c e
    obtain ⟨w', z⟩ := I.cell y c (cm e)
    exact ⟨w', cellK z⟩
  case free => exact e0.hok.fresh (Nat.le_refl _)
  case freeC => exact fun y c e => I.freeC y c (cm e)
  case pin => exact fun q hq => absurd (show q ∈ ([] : List (Addr × Obj)) ++ [] from hq) (by simp)
  case hok => exact e0.hok.kept kp
  case len => exact C.1
/-- the lambda as a key -/
theorem lam1_turn {A : Around} {k : Nat} {N : List Str} {scope : Scope} {p : Str} {f c' : Addr} {params : Arguments} {body : Expr} {pm ctv : Value} {xs : List V} {key : V → Int} {τ : V → L2.St} (L : Lam1 X.env.scope scope p) (hc : H c' = some (LamX.CodeO c' (X.env.qual ++ "<lambda>")))
    (hA : A.frames = some X.stack) (hr : Room (k + 1) A) (hbind : ∀ u, bindArgs (PySem.W.kla_fn "<lambda>" (X.env.qual ++ "<lambda>") params body scope (cloFrom X.env.cells scope.names []) pm (.ref c') ctv) ⟨[u], []⟩ = pure [(p, u)])
    (hC : ∀ v, v ∈ xs → Caps X σ N (τ v) p v)
    (hbody : ∀ (s : Shared) (H1 : Hp) (v : V), v ∈ xs → Kp [] H H1 → Room k (A.deeper (LamX.lamEnv X scope s.heap.objs.size f c')) → ∃ tb, PE (lam1Cx X A s H1 N scope f c') body tb ∧ tb (τ v) H1 fun x H2 => x = .int (key v) ∧ Kp [] H1 H2) :
    KeyTurn X A σ H [(f, PySem.W.kla_obj "<lambda>" (X.env.qual ++ "<lambda>") params body scope (cloFrom X.env.cells scope.names []) pm c' ctv)] (.ref f) xs key := by
  intro pl s1 H1 v u I1 k1 hv r
  have hf := (I1.pin _ (List.mem_append_right _ (List.mem_append_left _ (.head _)))).1
  obtain ⟨⟨oc, vs, t, hoc, hdc, hvc⟩, _, _⟩ := I1.hok c' _ (k1.g0 hc)
  have rc : codeAny (model X.prog X.w) A (.call (.ref f) ⟨[u], []⟩) (fun r s' => ∃ z, r = .ok (.ret z) ∧ CE X.stack X.prog X.w H1 s1 (fun x H2 => x = .int (key v) ∧ Kp [] H1 H2) z s') s1 := by
    refine PySem.W.kla_callFunE hr.depth hf rfl L.co L.gen rfl ⟨c', oc, vs, t, rfl, hoc, hdc, hvc⟩ ?_
    rw [hbind]
    refine wpAny_pure (wpAny_newFunctionEnv (fun y hy => L.own y hy) (fun y hy => ?_) (fun h₁ hns hsb => ⟨I1.nolimit.fresh _ hsb, ?_⟩) L.kind)
    · rw [List.mem_singleton.mp hy]
      exact L.par
    show codeAny _ _ (.expr body (LamX.lamEnv X scope s1.heap.objs.size f c')) _ _
    have kp : ∀ b o, s1.heap.get? b = some o → h₁.get? b = some o := fun b o e => hsb.extBut b o (Nat.ne_of_lt (Heap.lt_size e)) (Heap.get?_push_of_some _ e)
    have J : Inv (lam1Cx X A s1 H1 N scope f c') [] (τ v) H1 { s1 with heap := h₁, toks := s1.toks + [(p, u)].length } := lam1_start I1 L hA hr.hd (hC v hv) r hns kp
    obtain ⟨tb, hp, ht⟩ := hbody s1 H1 v hv k1 (hr.deeper _)
    refine PySem.W.kla_codeExpr (wpAny_mono (hp.run [] _ _ _ _ J ht) (fun z s' hq => ?_) fun e s' hq => (show False from hq).elim)
    obtain ⟨w', H', J', rv, q⟩ := hq
    exact ⟨z, rfl, w', H', J'.os, J'.bare, J'.base, J'.hok, rv, q⟩
  refine wpAny_call (codeAny_mono rc fun r s' hq => ?_)
  obtain ⟨z, rfl, ce⟩ := hq
  obtain ⟨x, H2, I2, rx, ex, k2⟩ := I1.after ce
  rw [ex] at rx
  obtain ⟨t', e⟩ := rx
  exact ⟨H2, t', I2, k2, e⟩
/-- a made function is pinned -/
theorem fn_pin {f : Addr} {o : Obj} {fd : FuncData} (I : Inv X pins σ H s) (hf : s.heap.get? f = some o) (hd : o.data = .func fd) (hn : H f = none) (hfr : f ∉ frs X.stack) : Inv X ([(f, o)] ++ pins) σ H s :=
  I.pins_of fun p hp => by
    rcases List.mem_append.mp hp with z | z
    · rw [List.mem_singleton.mp z]
      refine ⟨hf, hn, fun e => ?_, fun e => ?_, fun v e => ?_⟩
      · obtain ⟨m, ⟨ol, es, ep, ho, hdl, _⟩, _⟩ := I.loc
        have e : f = X.env.locals := e
        rw [← e, hf] at ho
        cases ho
        rw [hd] at hdl
        cases hdl
      · rcases I.ok.stk with k | ⟨k, _⟩
        · exact hfr (by rw [k]; exact e)
        · refine hfr ?_
          rw [k]
          unfold frs
          rw [List.filterMap_cons]
          have e : f ∈ frs X.outer := e
          unfold frs at e
          split
          · exact e
          · exact List.mem_cons_of_mem _ e
      · have e : o.data = .cell v := e
        rw [hd] at e
        cases e
    · exact I.pin p (List.mem_append_right _ z)
theorem ep_less {q : Addr × Obj} {Q : VK} {u : Value} {s' : Shared} (h : EP X ([q] ++ pins) σ Q u s') : EP X pins σ Q u s' := by
  obtain ⟨v, H', I, r, h⟩ := h
  exact ⟨v, H', I.pins_of fun p hp => I.pin p (List.mem_append_right _ (List.mem_append_right _ hp)), r, h⟩
/-- the names of the body, told by the maker's -/
def CapsN (N0 : List Str) (σ : L2.St) (N : List Str) (σ' : L2.St) (p : Str) (v : V) : Prop :=
  σ'.length = N.length ∧ ∀ (i : Nat) (y : Str) (x : V), N[i]? = some y → σ'[i]? = some (some x) → (y = p ∧ x = v) ∨ (y ≠ p ∧ ∃ j : Nat, N0[j]? = some y ∧ σ[j]? = some (some x))
theorem sq_ext {K : PySem.W.Frag} {H H' : Hp} {l : Addr} {xs : List V} (e : LamX.ExtN H H') (h : SqL K H l xs) : SqL K H' l xs := by
  rcases h with (h | ⟨o, h⟩) | h
  · exact .inl (.inl (e _ _ h fun ps z => by cases z))
  · exact .inl (.inr ⟨o, e _ _ h fun ps z => by cases z⟩)
  · exact .inr h
/-- sorted(e, key=lambda p: body) -/
def tSortKey (K : PySem.W.Frag) (T : List (Addr × Str)) (N0 N : List Str) (p : Str) (t : TA) (tb : TE) : TE := fun σ H Q => t σ H fun vs H1 => ∃ (l : Addr) (xs : List V) (key : V → Int) (τ : V → L2.St), vs = [.ref l] ∧ SqL K H1 l xs ∧ LamX.Tabs T H1 ∧
  (∀ v, v ∈ xs → CapsN N0 σ N (τ v) p v) ∧ ∀ H2, LamX.ExtN H1 H2 → LamX.Tabs T H2 → (∀ (H3 : Hp) (v : V), v ∈ xs → Kp [] H2 H3 → tb (τ v) H3 fun x H4 => x = .int (key v) ∧ Kp [] H3 H4) ∧
    ∀ (H3 : Hp) (q : Addr), Kp [] H2 H3 → H3 q = none → Q (.ref q) (upd H3 q (.lst (xs.mergeSort fun a b => decide (key a ≤ key b))))
theorem pe_sortKey {T : List (Addr × Str)} {N : List Str} {k : Nat} {c P : Addr} {scope : Scope} {p : Str} {params : Arguments} {e body : Expr} {t : TA} {tb : TE} {p1 kpos lpos pos : Pos} (hg : Gl X "sorted") (hm : X.mg "sorted" = none) (ha : PA X [e] t)
    (TB : LamX.TabB X.base X.mg c P) (hcode : X.env.code = .ref c) (hmT : (P, X.env.qual ++ "<lambda>") ∈ T) (huT : ∀ p ∈ T, p.1 = P → p.2 = X.env.qual ++ "<lambda>") (hr : Room (k + 3) X.A) (L : Lam1 X.env.scope scope p) (hdef : defaultsOf params X.env = ([], []))
    (hbind : ∀ (q : Str) (cl : List (Str × Addr)) (pm cv ctv u : Value), bindArgs (PySem.W.kla_fn "<lambda>" q params body scope cl pm cv ctv) ⟨[u], []⟩ = pure [(p, u)])
    (hbody : ∀ (s : Shared) (H : Hp) (f c' : Addr), Room k (X.A.in1.in1.deeper (LamX.lamEnv X scope s.heap.objs.size f c')) → PE (lam1Cx X X.A.in1.in1 s H N scope f c') body tb)
    (he : backTo pos (starEach [e] X.env) = (false, eval e X.env) :: backTo pos (starEach [] X.env) := by rfl) (hpl : (backTo pos (starEach [e] X.env)).any (·.1) = false := by rfl) :
    PE X (.Call (.Name "sorted" p1) [e] [⟨some "key", .Lambda params body scope lpos, kpos⟩] pos) (tSortKey X.K T X.N N p t tb) := by
  refine ⟨fun pins s σ H Q I h => ?_⟩
  refine wpAny_Call_Name_kw (ld_blt I hg hm (show bootBuiltins "sorted" = some (.builtin "sorted") by rfl) ?_ (by decide) (by decide))
  refine PyProof.Rows.callWith_kw (thn (ha.run pos pins s σ H _ I h) fun us s1 ⟨vs, H1, I1, r1, q1⟩ => ?_) he hpl rfl rfl
  obtain ⟨l, xs, key, τ, rfl, hs, hT, hC, q⟩ := q1
  obtain rfl := Vals.ref1 r1
  show wpAny _ _ (evalAll ((do let v ← eval (.Lambda params body scope lpos) X.env; standAt pos; pure v) :: [])) _ _ s1
  refine wpAny_evalAll_cons (wpAny_bind (LamX.lam_make2 I1 TB hcode hmT huT hT hdef (L.has I1.ok) fun f c' pm ctv H2 s2 I2 eN T2 hf hfn hfr hco => wpAny_bind (wpAny_standAt (wpAny_pure (wpAny_evalAll_nil ?_)))))
  obtain ⟨hb, hq⟩ := q H2 eN T2
  show wpAny _ _ (call (.builtin "sorted") [.ref l] [(Str.ofString "key", .ref f)]) _ _ s2
  refine wpAny_mono (sorted_key (lam1_turn L hco I2.ok.frames hr.in1.in1 (fun u => hbind _ _ _ _ _ u) hC fun s H3 v hv k3 hr3 => ⟨tb, hbody s H3 f c' hr3, hb H3 v hv k3⟩) (fn_pin I2 hf rfl hfn hfr) (sq_ext eN hs) (by have := hr.units; omega) hq) (fun u s' h => ep_less h) fun _ _ h => h
end
end RD
namespace RD
open PySem PySem.Spec PyProof.Rows L2 PySem.W
section
variable {X : Cx} {pins pf : List (Addr × Obj)} {σ : L2.St} {H : Hp} {s : Shared}
theorem Own.cons {pn : List (Addr × Obj)} {q : Addr × Obj} {b : Addr} (w : Own X (pf ++ pn) b) (n : q.1 ≠ b) : Own X (pf ++ (q :: pn)) b :=
  ⟨w.1, w.2.1, w.2.2.1, w.2.2.2.1, fun p hp => by
    rcases List.mem_append.mp hp with z | z
    · exact w.2.2.2.2 p (List.mem_append_left _ z)
    · rcases List.mem_append.mp z with z | z
      · exact w.2.2.2.2 p (List.mem_append_right _ (List.mem_append_left _ z))
      · rcases List.mem_cons.mp z with z | z
        · rw [z]
          exact n
        · exact w.2.2.2.2 p (List.mem_append_right _ (List.mem_append_right _ z))⟩
/-- the first of the least -/
def Least (xs : List V) (key : V → Int) (i : Nat) (b : V) : Prop := xs[i]? = some b ∧ ∀ (j : Nat) (z : V), xs[j]? = some z → key b ≤ key z ∧ (j < i → key b < key z)
theorem min_loop {A : Around} {f : Addr} {key : V → Int} {xs : List V} {l Ia S : Addr} {kw : List (Str × Value)} {R : Result → Shared → Prop} (hh : A.handled = none) (T : KeyTurn X A.in1 σ H pf (.ref f) xs key) (hs : SqL X.K H l xs) (hlI : l ≠ Ia) (hSI : S ≠ Ia)
    (wS : Own X (pf ++ pins) S) (wI : Own X (pf ++ pins) Ia)
    (hR : ∀ H2 s2 i b vb, Inv X (pf ++ pins) σ H2 s2 → Kp [] H H2 → Least xs key i b → RelV b vb → R (.ok (.ret vb)) s2) :
    ∀ (r j i : Nat) (s1 : Shared) (H1 : Hp) (b : V) (vb : Value) (tb : Tok) (c : Nat) (oI : Obj), xs.length - (j + 1) = r → j + 1 ≤ xs.length → Inv X (pf ++ ((S, seqObj "list" #[vb, .int (key b) tb] c) :: (Ia, oI) :: pins)) σ H1 s1 → Kp [] H H1 → s1.heap.IsListIter Ia l (j + 1) →
      xs[i]? = some b → RelV b vb → i ≤ j → (∀ (j' : Nat) (z : V), j' ≤ j → xs[j']? = some z → key b ≤ key z ∧ (j' < i → key b < key z)) →
      codeAny (model X.prog X.w) A (.builtin "min.loop" ⟨[.ref Ia, .ref f, .ref S], kw⟩) R s1 := by
  have hname : (toString "min" ++ toString ".loop" : String) = "min.loop" := by decide
  intro r
  induction r with
  | zero =>
    intro j i s1 H1 b vb tb c oI hr hj I1 k1 hit hb rb hij hbest
    have hin : j + 1 = xs.length := by omega
    have nS := inv_head I1
    have nI := inv_head (inv_unpin I1)
    obtain ⟨its, rv, hl, hz⟩ := I1.list (sl_kp k1 (by simp) hs)
    have W := Walks.list (prog := X.prog) (w := X.w) (A := A.in1) hh Ia l hlI its.toArray
    have hsz : its.toArray.size = xs.length := by rw [List.size_toArray, rv.length]
    refine codeAny_builtin (id := "min.loop") PySem.F.entry_min_loop ?_
    rw [Around.under_plainId PySem.F.plain_min_loop _]
    show wpAny (model X.prog X.w) A.in1 (seqItems? (.ref S) >>= _) _ _ _
    refine wpAny_bind (wpAny_seqItems (s := s1) nS.1 rfl ?_)
    show wpAny (model X.prog X.w) A.in1 (tryCatch (pyNext (.ref Ia)) _ >>= _) _ _ _
    refine wpAny_bind (wpAny_tryCatch (W.done s1 _ _ ⟨by rw [hsz, ← hin]; exact hit, hl.isList⟩ fun h' tk' hk' => ?_))
    have hS' := hk' S _ (by simpa using hSI) nS.1
    have I2 : Inv X (pf ++ ((S, seqObj "list" #[vb, .int (key b) tb] c) :: pins)) σ H1 { s1 with heap := h', toks := tk' } :=
      inv_pin (inv_turn (inv_unpin (inv_unpin I1)) wI nI.2 fun a o ha q => hk' a o (by simpa using ha) q) wS nS.2 hS' (fun _ z => by cases z)
    have I3 : Inv X (pf ++ pins) σ H1 { s1 with heap := h'.update S (Obj.mapSeq fun _ => (#[] : Array Value)), toks := tk' } :=
      inv_turn (s := { s1 with heap := h', toks := tk' }) (inv_unpin I2) wS nS.2 fun a o ha q => ((Heap.SameBut.update h' S _).2 a ha).trans q
    show wpAny (model X.prog X.w) A.in1 (updateSeq S (fun _ => #[]) >>= _) _ _ _
    refine wpAny_bind (wpAny_updateSeq hS' rfl (wpAny_bind (wpAny_letGo (wpAny_pure ?_))))
    exact hR H1 _ i b vb I3 k1 ⟨hb, fun j' z hz' => hbest j' z (by have := (List.getElem?_eq_some_iff.mp hz').1; omega) hz'⟩ rb
  | succ r ih =>
    intro j i s1 H1 b vb tb c oI hr hj I1 k1 hit hb rb hij hbest
    have hlt : j + 1 < xs.length := by omega
    have nS := inv_head I1
    have nI := inv_head (inv_unpin I1)
    obtain ⟨its, rv, hl, hz⟩ := I1.list (sl_kp k1 (by simp) hs)
    have W := Walks.list (prog := X.prog) (w := X.w) (A := A.in1) hh Ia l hlI its.toArray
    have hsz : its.toArray.size = xs.length := by rw [List.size_toArray, rv.length]
    refine codeAny_builtin (id := "min.loop") PySem.F.entry_min_loop ?_
    rw [Around.under_plainId PySem.F.plain_min_loop _]
    show wpAny (model X.prog X.w) A.in1 (seqItems? (.ref S) >>= _) _ _ _
    refine wpAny_bind (wpAny_seqItems (s := s1) nS.1 rfl ?_)
    show wpAny (model X.prog X.w) A.in1 (tryCatch (pyNext (.ref Ia)) _ >>= _) _ _ _
    refine wpAny_bind (wpAny_tryCatch (W.item (j + 1) s1 _ _ (by rw [hsz]; exact hlt) ⟨hit, hl.isList⟩ fun u h' tk' hP hst' hk' => ?_))
    have hu : its[j + 1]? = some u := by simpa using hP
    obtain ⟨x, hx⟩ : ∃ x, xs[j + 1]? = some x := ⟨_, List.getElem?_eq_getElem hlt⟩
    obtain ⟨u', hu', rx⟩ := Vals.get rv hx
    rw [hu] at hu'
    cases hu'
    obtain ⟨oI', hoI', hoc, hod⟩ := id hst'.1
    have hS' := hk' S _ (by simpa using hSI) nS.1
    have I2 : Inv X (pf ++ ((S, seqObj "list" #[vb, .int (key b) tb] c) :: (Ia, oI') :: pins)) σ H1 { s1 with heap := h', toks := tk' } :=
      inv_pin (inv_pin (inv_turn (inv_unpin (inv_unpin I1)) wI nI.2 fun a o ha q => hk' a o (by simpa using ha) q) wI nI.2 hoI' (fun v z => by rw [hod] at z; cases z)) (wS.cons hSI.symm) nS.2 hS' (fun _ z => by cases z)
    show wpAny (model X.prog X.w) A.in1 (tryCatch (holding [u] (call (.ref f) [u])) _ >>= _) _ _ _
    refine wpAny_bind (wpAny_tryCatch (wpAny_holding (wpAny_mono (T _ _ H1 x u I2 k1 (List.mem_of_getElem? hx) rx) (fun z s2 he => ?_) fun _ _ hF => hF.elim)))
    obtain ⟨H2, t2, I3, k2, rfl⟩ := he
    have nS2 := inv_head I3
    have nI2 := inv_head (inv_unpin I3)
    have hit2 : s2.heap.IsListIter Ia l (j + 1 + 1) := ⟨oI', nI2.1, hoc, hod⟩
    show wpAny (model X.prog X.w) A.in1 (tryCatch (holding [u, .int (key x) t2] (richCompare .Lt (.int (key x) t2) (.int (key b) tb) >>= _)) _ >>= _) _ _ _
    refine wpAny_bind (wpAny_tryCatch (wpAny_holding (wpAny_bind (CmpOf.ints_lt (prog := X.prog) (w := X.w) (A := A.in1) (P := fun i v => ∃ t, v = .int (if i = 0 then key x else key b) t) (fun i => if i = 0 then key x else key b) (fun i v h => h) 0 1 _ _ _ _ _ ⟨t2, rfl⟩ ⟨tb, rfl⟩ ?_))))
    refine wpAny_bind (wpAny_holding (wpAny_truthy_bool ?_))
    refine wpAny_bind (wpAny_letGo (wpAny_pure ?_))
    have hxb : ∀ (j' : Nat) (z : V), j' ≤ j + 1 → xs[j']? = some z → j' ≤ j ∨ z = x := fun j' z h1 h2 => by
      by_cases e : j' = j + 1
      · rw [e, hx] at h2
        exact .inr (Option.some.inj h2).symm
      · exact .inl (by omega)
    by_cases hbt : key x < key b
    · obtain ⟨c2, hc2⟩ : ∃ c2, (s2.heap.update S (Obj.mapSeq fun _ => #[u, .int (key x) t2])).get? S = some (seqObj "list" #[u, .int (key x) t2] c2) := ⟨_, get?_update_seq nS2.1 fun _ => #[u, .int (key x) t2]⟩
      have I4 : Inv X (pf ++ ((Ia, oI') :: pins)) σ H2 { s2 with heap := s2.heap.update S (Obj.mapSeq fun _ => #[u, .int (key x) t2]), toks := s2.toks } :=
        inv_turn (inv_unpin I3) (wS.cons hSI.symm) nS2.2 fun a o ha q => ((Heap.SameBut.update s2.heap S _).2 a ha).trans q
      simp only [if_true, if_neg (Nat.succ_ne_zero 0), hbt, decide_true]
      refine wpAny_bind (wpAny_updateSeq nS2.1 rfl (wpAny_bind (wpAny_letGo ?_)))
      rw [hname]
      refine wpAny_pure ⟨plainId_quiet PySem.F.plain_min_loop _, ih (j + 1) (j + 1) _ H2 x u t2 c2 oI' (by omega) hlt (inv_pin I4 (wS.cons hSI.symm) nS2.2 hc2 (fun _ z => by cases z)) (k1.trans k2) ?_ hx rx (Nat.le_refl _) fun j' z hj' hz' => ?_⟩
      · exact ⟨oI', ((Heap.SameBut.update s2.heap S _).2 Ia hSI.symm).trans nI2.1, hoc, hod⟩
      · rcases hxb j' z hj' hz' with e | e
        · have h1 := (hbest j' z e hz').1
          exact ⟨by omega, fun _ => by omega⟩
        · rw [e]
          refine ⟨Int.le_refl _, fun hlt' => ?_⟩
          have h1 := hbest j' z (by omega) hz'
          rw [e] at h1
          omega
    · simp only [if_true, if_neg (Nat.succ_ne_zero 0), hbt, decide_false, Bool.false_eq_true, if_false]
      refine wpAny_bind (wpAny_letGo ?_)
      rw [hname]
      refine wpAny_pure ⟨plainId_quiet PySem.F.plain_min_loop _, ih (j + 1) i _ H2 b vb tb c oI' (by omega) hlt I3 (k1.trans k2) hit2 hb rb (by omega) fun j' z hj' hz' => ?_⟩
      rcases hxb j' z hj' hz' with e | e
      · exact hbest j' z e hz'
      · rw [e]
        refine ⟨by omega, fun hlt' => ?_⟩
        have h1 := hbest j' z (by omega) hz'
        rw [e] at h1
        exact h1.2 hlt'
theorem min_args (a v u : Value) : argsOk "min" ⟨[a], [(Str.ofString "key", v), (Str.ofString "default", u)]⟩ := by unfold argsOk; kernel_rfl
/-- min(xs, key=f, default=None) -/
theorem min_key {f : Addr} {key : V → Int} {xs : List V} {l : Addr} {Q : VK} (hh : X.A.handled = none) (T : KeyTurn X X.A.in1 σ H pf (.ref f) xs key) (I : Inv X (pf ++ pins) σ H s) (hs : SqL X.K H l xs) (h1 : xs = [] → Q .non H)
    (h2 : ∀ H' i b, Kp [] H H' → Least xs key i b → Q b H') :
    wpAny (model X.prog X.w) X.A (call (.builtin "min") [.ref l] [(Str.ofString "key", .ref f), (Str.ofString "default", .none)]) (EP X (pf ++ pins) σ Q) X.xe s := by
  have hname : (toString "min" ++ toString ".loop" : String) = "min.loop" := by decide
  obtain ⟨its, rv, hl, hz⟩ := I.list hs
  have hll : l < s.heap.objs.size := by
    obtain ⟨ol, hol, _⟩ := hl.isList
    exact Heap.lt_size hol
  refine kmk_tree PySem.F.kind_min PySem.F.plain_min PySem.F.entry_min (min_args _ _ _) ?_
  show wpAny (model X.prog X.w) X.A.in1 (Builtin.Builtins.bindParams "min" ["key", "default"] 0 ⟨[], [(Str.ofString "key", .ref f), (Str.ofString "default", .none)]⟩ >>= _) _ _ s
  refine wpAny_bind (wpAny_of_eq (show Builtin.Builtins.bindParams "min" ["key", "default"] 0 ⟨[], [(Str.ofString "key", .ref f), (Str.ofString "default", .none)]⟩ = pure [some (.ref f), some .none] from rfl) ?_)
  refine wpAny_bind (wpAny_pure (wpAny_bind (wpAny_pyIter_list hl.isList ?_)))
  refine wpAny_bind (wpAny_newList (items := []) ?_ (Nat.zero_le _))
  rw [hname]
  have hS : (s.heap.push { cls := .type "list_iterator", data := .fields #[.ref l, .int 0 0] }).objs.size = s.heap.objs.size + 1 := size_push' ..
  have wI := Own.fresh I (Nat.le_refl _)
  have nI : H s.heap.objs.size = none := I.hok.fresh (Nat.le_refl _)
  have wS : Own X (pf ++ pins) (s.heap.push { cls := .type "list_iterator", data := .fields #[.ref l, .int 0 0] }).objs.size := Own.fresh I (by rw [hS]; exact Nat.le_succ _)
  have nS : H (s.heap.push { cls := .type "list_iterator", data := .fields #[.ref l, .int 0 0] }).objs.size = none := I.hok.fresh (by rw [hS]; exact Nat.le_succ _)
  have hSI : (s.heap.push { cls := .type "list_iterator", data := .fields #[.ref l, .int 0 0] }).objs.size ≠ s.heap.objs.size := by
    rw [hS]
    exact Nat.succ_ne_self _
  have I1 : Inv X (pf ++ pins) σ H { s with heap := (s.heap.push { cls := .type "list_iterator", data := .fields #[.ref l, .int 0 0] }).push (seqObj "list" #[] 0), toks := s.toks } :=
    I.kept fun b o q => Heap.get?_push_of_some _ (Heap.get?_push_of_some _ q)
  have gI : ((s.heap.push { cls := .type "list_iterator", data := .fields #[.ref l, .int 0 0] }).push (seqObj "list" #[] 0)).get? s.heap.objs.size = some { cls := .type "list_iterator", data := .fields #[.ref l, .int 0 0] } := Heap.get?_push_of_some _ (Heap.get?_push_size _ rfl)
  have gS : ((s.heap.push { cls := .type "list_iterator", data := .fields #[.ref l, .int 0 0] }).push (seqObj "list" #[] 0)).get? (s.heap.push { cls := .type "list_iterator", data := .fields #[.ref l, .int 0 0] }).objs.size = some (seqObj "list" #[] 0) := Heap.get?_push_size _ rfl
  refine wpAny_pure ⟨plainId_quiet PySem.F.plain_min_loop _, ?_⟩
  show codeAny _ _ (.builtin "min.loop" ⟨[.ref s.heap.objs.size, .ref f, .ref _], [("default", .none)]⟩) _ { s with heap := (s.heap.push { cls := .type "list_iterator", data := .fields #[.ref l, .int 0 0] }).push (seqObj "list" #[] 0), toks := s.toks }
  generalize (s.heap.push { cls := .type "list_iterator", data := .fields #[.ref l, .int 0 0] }).push (seqObj "list" #[] 0) = h0 at I1 gI gS ⊢
  generalize (s.heap.push { cls := .type "list_iterator", data := .fields #[.ref l, .int 0 0] }).objs.size = S at *
  obtain ⟨its, rv, hl, hz⟩ := I1.list hs
  have W := Walks.list (prog := X.prog) (w := X.w) (A := X.A.in1) hh s.heap.objs.size l (Nat.ne_of_lt hll) its.toArray
  have hsz : its.toArray.size = xs.length := by rw [List.size_toArray, rv.length]
  refine codeAny_builtin (id := "min.loop") PySem.F.entry_min_loop ?_
  rw [Around.under_plainId PySem.F.plain_min_loop _]
  show wpAny (model X.prog X.w) X.A.in1 (seqItems? (.ref S) >>= _) _ _ _
  refine wpAny_bind (wpAny_seqItems gS rfl ?_)
  show wpAny (model X.prog X.w) X.A.in1 (tryCatch (pyNext (.ref s.heap.objs.size)) _ >>= _) _ _ _
  cases xs with
  | nil =>
    refine wpAny_bind (wpAny_tryCatch (W.done { s with heap := h0, toks := s.toks } _ _ ⟨by rw [hsz]; exact ⟨_, gI, rfl, rfl⟩, hl.isList⟩ fun h' tk' hk' => ?_))
    refine wpAny_bind (wpAny_rule (wpAny_pure ?_))
    exact ⟨.non, H, inv_turn (s := { s with heap := h0, toks := s.toks }) I1 wI nI fun a o ha q => hk' a o (by simpa using ha) q, rfl, h1 rfl⟩
  | cons x xs =>
    refine wpAny_bind (wpAny_tryCatch (W.item 0 { s with heap := h0, toks := s.toks } _ _ (by rw [hsz]; exact Nat.succ_pos _) ⟨⟨_, gI, rfl, rfl⟩, hl.isList⟩ fun u h' tk' hP hst' hk' => ?_))
    have hu : its[0]? = some u := by simpa using hP
    have hx : (x :: xs)[0]? = some x := rfl
    obtain ⟨u', hu', rx⟩ := Vals.get rv hx
    rw [hu] at hu'
    cases hu'
    obtain ⟨oI', hoI', hoc, hod⟩ := id hst'.1
    have hS' := hk' S _ (by simpa using hSI) gS
    have I2 : Inv X (pf ++ ((S, seqObj "list" #[] 0) :: (s.heap.objs.size, oI') :: pins)) σ H { s with heap := h', toks := tk' } :=
      inv_pin (inv_pin (inv_turn (s := { s with heap := h0, toks := s.toks }) I1 wI nI fun a o ha q => hk' a o (by simpa using ha) q) wI nI hoI' (fun v z => by rw [hod] at z; cases z)) (wS.cons hSI.symm) nS hS' (fun _ z => by cases z)
    show wpAny (model X.prog X.w) X.A.in1 (tryCatch (holding [u] (call (.ref f) [u])) _ >>= _) _ _ _
    refine wpAny_bind (wpAny_tryCatch (wpAny_holding (wpAny_mono (T _ _ H x u I2 Kp.refl (.head _) rx) (fun z s2 he => ?_) fun _ _ hF => hF.elim)))
    obtain ⟨H2, t2, I3, k2, rfl⟩ := he
    have nS2 := inv_head I3
    have nI2 := inv_head (inv_unpin I3)
    obtain ⟨c2, hc2⟩ : ∃ c2, (s2.heap.update S (Obj.mapSeq fun _ => #[u, .int (key x) t2])).get? S = some (seqObj "list" #[u, .int (key x) t2] c2) := ⟨_, get?_update_seq nS2.1 fun _ => #[u, .int (key x) t2]⟩
    have I4 : Inv X (pf ++ ((s.heap.objs.size, oI') :: pins)) σ H2 { s2 with heap := s2.heap.update S (Obj.mapSeq fun _ => #[u, .int (key x) t2]), toks := s2.toks } :=
      inv_turn (inv_unpin I3) (wS.cons hSI.symm) nS2.2 fun a o ha q => ((Heap.SameBut.update s2.heap S _).2 a ha).trans q
    show wpAny (model X.prog X.w) X.A.in1 (updateSeq S (fun _ => #[u, .int (key x) t2]) >>= _) _ _ _
    refine wpAny_bind (wpAny_updateSeq nS2.1 rfl ?_)
    rw [hname]
    refine wpAny_pure ⟨plainId_quiet PySem.F.plain_min_loop _, min_loop (xs := x :: xs) hh T hs (Nat.ne_of_lt hll) hSI wS wI (fun H3 s3 i b vb I5 k3 hb rb => ⟨b, H3, I5, rb, h2 H3 i b k3 hb⟩) _ 0 0 _ H2 x u t2 c2 oI' rfl (Nat.succ_pos _) (inv_pin I4 (wS.cons hSI.symm) nS2.2 hc2 (fun _ z => by cases z)) k2
      ⟨oI', ((Heap.SameBut.update s2.heap S _).2 _ hSI.symm).trans nI2.1, hoc, hod⟩ hx rx (Nat.le_refl _) fun j' z hj' hz' => ?_⟩
    have e : j' = 0 := by omega
    rw [e] at hz'
    cases hz'
    exact ⟨Int.le_refl _, fun q => by omega⟩
/-- min(e, key=lambda p: body, default=None) -/
def tMinKey (K : PySem.W.Frag) (T : List (Addr × Str)) (N0 N : List Str) (p : Str) (t : TA) (tb : TE) : TE := fun σ H Q => t σ H fun vs H1 => ∃ (l : Addr) (xs : List V) (key : V → Int) (τ : V → L2.St), vs = [.ref l] ∧ SqL K H1 l xs ∧ LamX.Tabs T H1 ∧
  (∀ v, v ∈ xs → CapsN N0 σ N (τ v) p v) ∧ ∀ H2, LamX.ExtN H1 H2 → LamX.Tabs T H2 → (∀ (H3 : Hp) (v : V), v ∈ xs → Kp [] H2 H3 → tb (τ v) H3 fun x H4 => x = .int (key v) ∧ Kp [] H3 H4) ∧
    (xs = [] → Q .non H2) ∧ ∀ (H3 : Hp) (i : Nat) (b : V), Kp [] H2 H3 → Least xs key i b → Q b H3
theorem pe_minKey {T : List (Addr × Str)} {N : List Str} {k : Nat} {c P : Addr} {scope : Scope} {p : Str} {params : Arguments} {e body : Expr} {t : TA} {tb : TE} {p1 kpos lpos dpos npos pos : Pos} {jn : Nat} (hg : Gl X "min") (hm : X.mg "min" = none) (ha : PA X [e] t)
    (TB : LamX.TabB X.base X.mg c P) (hcode : X.env.code = .ref c) (hmT : (P, X.env.qual ++ "<lambda>") ∈ T) (huT : ∀ p ∈ T, p.1 = P → p.2 = X.env.qual ++ "<lambda>") (hr : Room (k + 3) X.A) (L : Lam1 X.env.scope scope p) (hdef : defaultsOf params X.env = ([], []))
    (hbind : ∀ (q : Str) (cl : List (Str × Addr)) (pm cv ctv u : Value), bindArgs (PySem.W.kla_fn "<lambda>" q params body scope cl pm cv ctv) ⟨[u], []⟩ = pure [(p, u)])
    (hbody : ∀ (s : Shared) (H : Hp) (f c' : Addr), Room k (X.A.in1.deeper (LamX.lamEnv X scope s.heap.objs.size f c')) → PE (lam1Cx X X.A.in1 s H N scope f c') body tb)
    (he : backTo pos (starEach [e] X.env) = (false, eval e X.env) :: backTo pos (starEach [] X.env) := by rfl) (hpl : (backTo pos (starEach [e] X.env)).any (·.1) = false := by rfl) :
    PE X (.Call (.Name "min" p1) [e] [⟨some "key", .Lambda params body scope lpos, kpos⟩, ⟨some "default", .Constant .none jn npos, dpos⟩] pos) (tMinKey X.K T X.N N p t tb) := by
  refine ⟨fun pins s σ H Q I h => ?_⟩
  refine wpAny_Call_Name_kw (ld_blt I hg hm (show bootBuiltins "min" = some (.builtin "min") by rfl) ?_ (by decide) (by decide))
  refine PyProof.Rows.callWith_kw (thn (ha.run pos pins s σ H _ I h) fun us s1 ⟨vs, H1, I1, r1, q1⟩ => ?_) he hpl rfl rfl
  obtain ⟨l, xs, key, τ, rfl, hs, hT, hC, q⟩ := q1
  obtain rfl := Vals.ref1 r1
  show wpAny _ _ (evalAll [(do let v ← eval (.Lambda params body scope lpos) X.env; standAt pos; pure v), (do let v ← eval (.Constant .none jn npos) X.env; standAt pos; pure v)]) _ _ s1
  refine wpAny_evalAll_cons (wpAny_bind (LamX.lam_make2 I1 TB hcode hmT huT hT hdef (L.has I1.ok) fun f c' pm ctv H2 s2 I2 eN T2 hf hfn hfr hco => wpAny_bind (wpAny_standAt (wpAny_pure ?_))))
  obtain ⟨hb, hq0, hq⟩ := q H2 eN T2
  have I3 := fn_pin I2 hf rfl hfn hfr
  refine wpAny_evalAll_cons (wpAny_bind (thn ((pe_non (X := X)).run _ s2 σ H2 (fun (x : V) (H3 : Hp) => x = V.non ∧ H3 = H2) I3 ⟨rfl, rfl⟩) fun u s3 ⟨v, H3, I4, rv, ev, eH⟩ => wpAny_bind (wpAny_standAt (wpAny_pure (wpAny_evalAll_nil ?_)))))
  rw [ev] at rv
  rw [eH] at I4
  obtain rfl : u = Value.none := rv
  show wpAny _ _ (call (.builtin "min") [.ref l] [(Str.ofString "key", .ref f), (Str.ofString "default", .none)]) _ _ s3
  refine wpAny_mono (min_key hr.hd (lam1_turn L hco I2.ok.frames hr.in1 (fun u => hbind _ _ _ _ _ u) hC fun s H3 v hv k3 hr3 => ⟨tb, hbody s H3 f c' (hr3.mono (Nat.le_succ _)), hb H3 v hv k3⟩) I4 (sq_ext eN hs) hq0 hq) (fun u s' h => ep_less h) fun _ _ h => h
end
end RD
/-! ### the head of a law whose defs make lambdas -/
namespace RD
open PySem PySem.Spec PyProof.Rows L2 He
section
variable {P : Program} {w : World} {K : PySem.W.Frag} {mg : Str → Option Value} {base : Heap} {CX : CXT} {x qual : Str} {params : Arguments} {body : List Stmt} {scope : Scope} {dvs : List V} {kws : List (Str × V)} {fd : FuncData}
/-- a def whose code object is told -/
theorem fnDc {at_ : Str × Option Str} {N ps : List Str} {k : Nat} {sp : Sp} (F : FunD K x qual params body scope dvs kws (fAd K at_) fd) (S : FnScope N ps scope) (len : ∀ vs H Q E, sp vs H Q E → vs.length = ps.length)
    (hbody : ∀ (A : Around) (outer : List Env) (s : Shared) (H : Hp) (vs : List V) (Q : VK) (E : XK), Room k (A.deeper (envOfC qual scope s.heap.objs.size (fAd K at_) (.ref (codeOf K at_)))) → sp vs H Q E →
      ∃ t, PSs (cxOf CX0 P w K mg base N qual scope (fAd K at_) (.ref (codeOf K at_)) A outer s H E).nox body t ∧ t ⟨fun _ H' => Q .non H', Q, fun _ _ => False, fun _ _ => False⟩ (start N vs) H) : FnOk P w K mg base CX0 (k + 1) (fAd K at_) fd ps sp := by
  obtain ⟨oc, od, dV, kV, doc, pm, an, cdv, ct, osl, e0, lk, hcd, _, _⟩ := F.ex
  obtain ⟨c, hc⟩ := codeIn_ref hcd
  have e : cdv = .ref (codeOf K at_) := by
    rw [hc]
    refine congrArg Value.ref (codeOf_eq lk ?_).symm
    rw [e0]
    exact hc
  subst e0
  subst e
  exact fn_of lk hcd S len fun A outer s H vs Q E hr hsp => let ⟨t, h1, h2⟩ := hbody A outer s H vs Q E hr hsp; ⟨t, h1.nox, h2⟩
end
/-- the tables at the law's entry -/
theorem tabs_nil {tf : List He.Defn} {K : PySem.W.Frag} {T : List (Addr × Str)} {H : Hp} (e : T.map (·.1) = tf.map fun p => (He.cT K p).2) (h : ∀ p ∈ tf.map (He.cT K), H p.2 = some (.tbl #[])) : LamX.Tabs T H := fun p hp => by
  have hm : p.1 ∈ tf.map fun p => (He.cT K p).2 := e ▸ List.mem_map_of_mem hp
  obtain ⟨q, hq, e2⟩ := List.mem_map.mp hm
  refine LamX.TabS.nil ?_
  rw [← e2]
  exact h _ (List.mem_map_of_mem hq)
end RD
/-! ### frames where tables of lambdas may grow -/
namespace RD
open PySem PySem.Spec PyProof.Rows L2 He
def NoTbl (o : HO) : Prop := ∀ t, o ≠ .tbl t
def Kt (T : List (Addr × Str)) (ps : List Addr) (H H' : Hp) : Prop := (∀ b o, H b = some o → NoTbl o → b ∉ ps → H' b = some o) ∧ LamX.Tabs T H'
section
variable {T : List (Addr × Str)} {ps : List Addr} {H H' H'' : Hp} {p q b : Addr} {o : HO}
theorem Kt.refl (h : LamX.Tabs T H) : Kt T ps H H := ⟨fun _ _ e _ _ => e, h⟩
theorem Kt.trans (a : Kt T ps H H') (b : Kt T ps H' H'') : Kt T ps H H'' := ⟨fun c o e n m => b.1 c o (a.1 c o e n m) n m, b.2⟩
theorem Kt.g0 (a : Kt T [] H H') (n : NoTbl o) (e : H b = some o) : H' b = some o := a.1 b o e n (by simp)
theorem Kt.g1 (a : Kt T [p] H H') (n : NoTbl o) (m : b ≠ p) (e : H b = some o) : H' b = some o := a.1 b o e n (by simp [m])
theorem Kt.of0 (a : Kt T [] H H') : Kt T ps H H' := ⟨fun c o e n _ => a.1 c o e n (by simp), a.2⟩
/-- q is none of the things that stand (tables left out) -/
def Frn (H : Hp) (q : Addr) : Prop := ∀ b o, H b = some o → NoTbl o → b ≠ q
theorem Kt.frn (a : Kt T [] H H') {l : Addr} (h : H' l = none) : Frn H l := fun b o e n z => by
  rw [z] at e
  rw [a.g0 n e] at h
  cases h
theorem Frn.kt {l : Addr} (h : Frn H' l) (a : Kt T [] H H') : Frn H l := fun b o e n => h b o (a.g0 n e) n
theorem Frn.kp {l : Addr} (h : Frn H' l) (a : Kp [] H H') : Frn H l := fun b o e n => h b o (a.g0 e) n
theorem Frn.of {l : Addr} (h : H l = none) : Frn H l := fun b o e _ => ne_of_none e h
theorem Kt.ext (a : LamX.ExtN H H') (t : LamX.Tabs T H') : Kt T ps H H' := ⟨fun b o e n _ => a b o e n, t⟩
/-- what a table and its code objects are not -/
def Plain : HO → Prop
  | .tbl _ => False
  | .ext _ => False
  | _ => True
theorem Plain.noTbl (h : Plain o) : NoTbl o := by
  intro t z
  rw [z] at h
  exact h
theorem tabs_kp (h : LamX.Tabs T H) (k : Kp ps H H') (n : ∀ p, p ∈ ps → ∃ o, H p = some o ∧ Plain o) : LamX.Tabs T H' := fun p hp => by
  obtain ⟨tb, h1, h2, h3⟩ := h p hp
  have ne : ∀ b o, H b = some o → ¬ Plain o → b ∉ ps := fun b o e m z => by
    obtain ⟨o', e', w⟩ := n b z
    rw [e] at e'
    cases e'
    exact m w
  refine ⟨tb, k _ _ h1 (ne _ _ h1 (fun z => z)), h2, fun pos cv e => ?_⟩
  obtain ⟨c, e1, e2⟩ := h3 pos cv e
  exact ⟨c, e1, k _ _ e2 (ne _ _ e2 (fun z => z))⟩
theorem Kt.kp (h : LamX.Tabs T H) (k : Kp ps H H') (n : ∀ p, p ∈ ps → ∃ o, H p = some o ∧ Plain o) : Kt T ps H H' := ⟨fun c o e _ m => k c o e m, tabs_kp h k n⟩
theorem Kt.kp0 (h : LamX.Tabs T H) (k : Kp [] H H') : Kt T ps H H' := ⟨fun c o e _ _ => k c o e (by simp), tabs_kp h k (fun _ z => by cases z)⟩
theorem Kt.kp1 (h : LamX.Tabs T H) (k : Kp [p] H H') (e : H p = some o) (w : Plain o) : Kt T [p] H H' := Kt.kp h k fun q hq => by
  rw [List.mem_singleton.mp hq]
  exact ⟨o, e, w⟩
theorem Kt.new (h : LamX.Tabs T H) (e : H p = none) : Kt T ps H (upd H p o) := Kt.kp0 h (Kp.new e)
theorem Kt.wr {u : HO} (a : Kt T ps H H') (h : p ∈ ps) (e : H' p = some u) (w : Plain u) : Kt T ps H (upd H' p o) :=
  ⟨fun c v ev n m => by
    have hc : c ≠ p := fun z => m (z ▸ h)
    rw [upd_ne hc]
    exact a.1 c v ev n m, tabs_kp a.2 (Kp.refl.wr (ps := [p]) (by simp)) fun q hq => by
    rw [List.mem_singleton.mp hq]
    exact ⟨u, e, w⟩⟩
theorem Kt.nw (a : Kt T ps H H') (e : H' p = none) : Kt T ps H (upd H' p o) := a.trans (Kt.new a.2 e)
end
/-! ### a class made with keywords -/
theorem vals_at {xs : List V} {us : List Value} (i : Nat) (h : Vals xs us) : Vals (xs[i]?).toList (us[i]?).toList := by
  cases e : xs[i]? with
  | none => rw [h.none_of e]; exact .nil
  | some x =>
    obtain ⟨u, e2, r⟩ := h.get e
    rw [e2]
    exact .cons r .nil
structure MakKX (P : Program) (w : World) (K : PySem.W.Frag) (mg : Str → Option Value) (base : Heap) (CX : CXT) (k : Nat) (x : Str) (C : Addr) (sp : Sp) (n : Nat) (ks : List Str) (gV : List V → List V → List V) : Prop where
  ex : ∃ (f : Addr) (fd : FuncData) (ps : List Str) (g : List Value → List Value → List Value), Mk K C f ∧ FnOk P w K mg base CX k f fd ps sp ∧ mg x = some (.ref C) ∧ KBn K fd ps (n + 1) ks g gV
theorem pe_makKX {X : Cx} {CX : CXT} {k j n : Nat} {C : Addr} {x : Str} {sp : Sp} {E : XK} {ks : List Str} {gV : List V → List V → List V} {p pos : Pos} {e : Expr} {es : List Expr} {kws : List Keyword} {t tk : TA} (c : MakKX X.prog X.w X.K X.mg X.base CX k x C sp n ks gV) (hr : Room j X.A) (hk : k + 1 ≤ j) (hg : Gl X x) (hx : Passes CX X E) (ha : PA X (e :: es) t) (hkw : PK X kws tk)
    (hall : (backToKw pos (keywordEach kws X.env)).all (·.1.isSome) = true := by rfl) (hks : (backToKw pos (keywordEach kws X.env)).filterMap (·.1) = ks := by rfl) (hdb : (x == ("__debug__" : Str)) = false := by decide)
    (he : starEach (e :: es) X.env = (false, eval e X.env) :: starEach es X.env := by rfl) (hpl : ((backTo pos (starEach (e :: es) X.env)).any (·.1) || (backToKw pos (keywordEach kws X.env)).any (·.1.isNone)) = false := by rfl) :
    PE X (.Call (.Name x p) (e :: es) kws pos) (tMakeK C n ks.length sp gV E t tk) := by
  obtain ⟨f, fd, ps, g, M, F, hm, hb⟩ := c.ex
  exact pe_makeK M F (hr.mono hk) hg hm hb hx ha hkw hall hks hdb he hpl
theorem rd_makeK {σ : L2.St} {H : Hp} {Q : VK} {C : Addr} {n m : Nat} {sp : Sp} {gV : List V → List V → List V} {E : XK} {t tk : TA} (h : t σ H fun vs H1 => tk σ H1 fun zs H2 => vs.length = n ∧ zs.length = m ∧ ∀ x dx, H2 x = none → H2 dx = none → dx ≠ x →
    sp (gV (.ref x :: vs) zs) (upd (upd H2 dx (.own x)) x (.ins C dx [])) (fun v H3 => v = .non ∧ Q (.ref x) H3) E) : tMakeK C n m sp gV E t tk σ H Q := h
/-! ### more readings -/
section
variable {K : PySem.W.Frag} {σ : L2.St} {H : Hp} {Q : VK} {ta : TE}
theorem rd_prop {C : Addr} {sp : Sp} {E : XK} (h : ta σ H fun x H1 => ∃ a dx fs, x = V.ref a ∧ H1 a = some (.ins C dx fs) ∧ sp [.ref a] H1 Q E) : tProp C sp [] E ta σ H Q := h
theorem rd_propX {C a dx : Addr} {fs : List (Str × V)} {R : Addr → Prop} (h : H a = some (.ins C dx fs)) (q : R a) : ∃ a' dx' fs', V.ref a = V.ref a' ∧ H a' = some (.ins C dx' fs') ∧ R a' := ⟨a, dx, fs, rfl, h, q⟩
theorem rd_revL {te : TE} (h : te σ H fun x H1 => ∃ a xs, x = V.ref a ∧ SqL K H1 a xs ∧ ∀ p, H1 p = none → Q (.ref p) (upd H1 p (.lst xs.reverse))) : tRevL K te σ H Q := h
theorem rd_revLX {a : Addr} {xs : List V} {R : List V → Prop} (h : SqL K H a xs) (q : R xs) : ∃ a' ys, V.ref a = V.ref a' ∧ SqL K H a' ys ∧ R ys := ⟨a, xs, rfl, h, q⟩
end
end RD
namespace RD
open PySem PySem.Spec PyProof.Rows L2 He
/-! ### comprehensions that only look -/
theorem filter_take {α : Type} {p : α → Bool} {ns : List α} {i : Nat} (h : i < ns.length) : (ns.take (i + 1)).filter p = (ns.take i).filter p ++ (if p ns[i] = true then [ns[i]] else []) := by
  rw [List.take_succ_eq_append_getElem h, List.filter_append]
  congr 1
  cases e : p ns[i] <;> simp [e]
section
variable {K : PySem.W.Frag} {σ : L2.St} {H : Hp} {te : TE} {tt : TT}
theorem lcF_ints {a D : Addr} {g : TG} {vs : List Nat} {Qd : Hp → Prop} (ns : List Int) (p : Int → Bool) (f : Int → V) (hS : SqL K H a (ns.map V.int)) (hD : H D = none) (hl : ns.length < 1000000)
    (hs : ∀ (i : Nat) (h : i < ns.length) H1 (E : VK) (N : Hp → Prop), Kp [] H H1 → (∀ H4, Kp [] H1 H4 → p ns[i] = true → E (f ns[i]) H4) → (∀ H3, Kp [] H1 H3 → p ns[i] = false → N H3) → g (.int ns[i]) (wipe σ vs) H1 fun σ2 H2 => wipe σ2 vs = wipe σ vs ∧ tt σ2 H2 fun b H3 => if b = true then te σ2 H3 E else N H3)
    (hd : ∀ H', Kp [] H H' → H' D = some (.lst ((ns.filter p).map f)) → Qd H') : LcG (Itl K a) g tt te vs σ D Qd H := by
  refine lcL_ints ns (fun i H' => H' D = some (.lst (((ns.take i).filter p).map f)) ∧ Kp [] H H') ⟨upd_same, Kp.new hD⟩ (fun i H' _ q => sl_kp q.2 (by simp) hS) (fun i hi H' q => ?_) (fun H' q => ?_)
  · refine hs i hi H' _ _ q.2 (fun H4 k4 hp => ?_) (fun H3 k3 hp => ?_)
    · have fl : (((ns.take i).filter p).map f).length < sizeLine := szlt (by
        rw [List.length_map]
        have h1 := List.length_filter_le p (ns.take i)
        rw [List.length_take] at h1
        omega)
      refine ⟨_, k4.g0 q.1, fl, ?_, Kp.mine (q.2.trans k4) hD⟩
      rw [upd_same, filter_take hi, if_pos hp, List.map_append]
      rfl
    · refine ⟨?_, q.2.trans k3⟩
      rw [filter_take hi, if_neg (by rw [hp]; exact Bool.false_ne_true), List.append_nil]
      exact k3.g0 q.1
  · rw [List.take_length] at q
    exact hd H' q.2 q.1
theorem lcF_range {lo : Int} {n : Nat} {D : Addr} {g : TG} {vs : List Nat} {Qd : Hp → Prop} (p : Nat → Bool) (f : Nat → V) (hD : H D = none) (hl : n < 1000000)
    (hs : ∀ (i : Nat) (h : i < n) H1 (E : VK) (N : Hp → Prop), Kp [] H H1 → (∀ H4, Kp [] H1 H4 → p i = true → E (f i) H4) → (∀ H3, Kp [] H1 H3 → p i = false → N H3) → g (.int (lo + i)) (wipe σ vs) H1 fun σ2 H2 => wipe σ2 vs = wipe σ vs ∧ tt σ2 H2 fun b H3 => if b = true then te σ2 H3 E else N H3)
    (hd : ∀ H', Kp [] H H' → H' D = some (.lst (((List.range n).filter p).map f)) → Qd H') : LcG (Itr lo n) g tt te vs σ D Qd H := by
  refine lcR_by (fun i H' => H' D = some (.lst (((List.range i).filter p).map f)) ∧ Kp [] H H') ⟨upd_same, Kp.new hD⟩ (fun i H' hi q => ?_) (fun H' q => hd H' q.2 q.1)
  have er : (List.range (i + 1)).filter p = (List.range i).filter p ++ (if p i = true then [i] else []) := by
    rw [List.range_succ, List.filter_append]
    congr 1
    cases e : p i <;> simp [e]
  refine hs i hi H' _ _ q.2 (fun H4 k4 hp => ?_) (fun H3 k3 hp => ?_)
  · have fl : (((List.range i).filter p).map f).length < sizeLine := szlt (by
      rw [List.length_map]
      have h1 := List.length_filter_le p (List.range i)
      rw [List.length_range] at h1
      omega)
    refine ⟨_, k4.g0 q.1, fl, ?_, Kp.mine (q.2.trans k4) hD⟩
    rw [upd_same, er, if_pos hp, List.map_append]
    rfl
  · refine ⟨?_, q.2.trans k3⟩
    rw [er, if_neg (by rw [hp]; exact Bool.false_ne_true), List.append_nil]
    exact k3.g0 q.1
end
def keyV (f : Int → Int) : V → Int
  | .int i => f i
  | _ => 0
theorem sort_keyV (f : Int → Int) (ns : List Int) : ((ns.map V.int).mergeSort fun a b => decide (keyV f a ≤ keyV f b)) = (ns.mergeSort fun a b => decide (f a ≤ f b)).map V.int :=
  (List.map_mergeSort (f := V.int) (r := fun a b => decide (f a ≤ f b)) (s := fun a b => decide (keyV f a ≤ keyV f b)) fun _ _ _ _ => rfl).symm
end RD
namespace RD
open PySem PySem.Spec PyProof.Rows L2 He
section
variable {K : PySem.W.Frag} {σ : L2.St} {H : Hp} {T : List (Addr × Str)} {N0 N : List Str} {p : Str} {t : TA} {tb : TE} {Q : VK}
theorem rd_sortKey (h : t σ H fun vs H1 => ∃ (l : Addr) (xs : List V) (key : V → Int) (τ : V → L2.St), vs = [.ref l] ∧ SqL K H1 l xs ∧ LamX.Tabs T H1 ∧
  (∀ v, v ∈ xs → CapsN N0 σ N (τ v) p v) ∧ ∀ H2, LamX.ExtN H1 H2 → LamX.Tabs T H2 → (∀ (H3 : Hp) (v : V), v ∈ xs → Kp [] H2 H3 → tb (τ v) H3 fun x H4 => x = .int (key v) ∧ Kp [] H3 H4) ∧
    ∀ (H3 : Hp) (q : Addr), Kp [] H2 H3 → H3 q = none → Q (.ref q) (upd H3 q (.lst (xs.mergeSort fun a b => decide (key a ≤ key b))))) : tSortKey K T N0 N p t tb σ H Q := h
theorem rd_minKey (h : t σ H fun vs H1 => ∃ (l : Addr) (xs : List V) (key : V → Int) (τ : V → L2.St), vs = [.ref l] ∧ SqL K H1 l xs ∧ LamX.Tabs T H1 ∧
  (∀ v, v ∈ xs → CapsN N0 σ N (τ v) p v) ∧ ∀ H2, LamX.ExtN H1 H2 → LamX.Tabs T H2 → (∀ (H3 : Hp) (v : V), v ∈ xs → Kp [] H2 H3 → tb (τ v) H3 fun x H4 => x = .int (key v) ∧ Kp [] H3 H4) ∧
    (xs = [] → Q .non H2) ∧ ∀ (H3 : Hp) (i : Nat) (b : V), Kp [] H2 H3 → Least xs key i b → Q b H3) : tMinKey K T N0 N p t tb σ H Q := h
/-- of a list of ints, at the key f -/
theorem rd_sortI {D : Addr} (f : Int → Int) (ns : List Int) (τ : Int → L2.St) (hS : SqL K H D (ns.map V.int)) (hT : LamX.Tabs T H) (hC : ∀ n, CapsN N0 σ N (τ n) p (.int n))
    (hb : ∀ (H3 : Hp) (n : Int) (Q' : VK), n ∈ ns → Kt T [] H H3 → Q' (.int (f n)) H3 → tb (τ n) H3 Q')
    (hq : ∀ (H3 : Hp) (q : Addr), Kt T [] H H3 → H3 q = none → Q (.ref q) (upd H3 q (.lst ((ns.mergeSort fun a b => decide (f a ≤ f b)).map V.int)))) :
    ∃ (l : Addr) (xs : List V) (key : V → Int) (τ : V → L2.St), [V.ref D] = [.ref l] ∧ SqL K H l xs ∧ LamX.Tabs T H ∧
      (∀ v, v ∈ xs → CapsN N0 σ N (τ v) p v) ∧ ∀ H2, LamX.ExtN H H2 → LamX.Tabs T H2 → (∀ (H3 : Hp) (v : V), v ∈ xs → Kp [] H2 H3 → tb (τ v) H3 fun x H4 => x = .int (key v) ∧ Kp [] H3 H4) ∧
        ∀ (H3 : Hp) (q : Addr), Kp [] H2 H3 → H3 q = none → Q (.ref q) (upd H3 q (.lst (xs.mergeSort fun a b => decide (key a ≤ key b)))) := by
  refine ⟨D, _, keyV f, fun v => match v with | .int n => τ n | _ => [], rfl, hS, hT, fun v hv => ?_, fun H2 e2 t2 => ⟨fun H3 v hv k3 => ?_, fun H3 q k3 nq => ?_⟩⟩
  · obtain ⟨n, _, rfl⟩ := List.mem_map.mp hv
    exact hC n
  · obtain ⟨n, hn, rfl⟩ := List.mem_map.mp hv
    exact hb H3 n _ hn ((Kt.ext e2 t2).trans (Kt.kp0 t2 k3)) ⟨rfl, Kp.refl⟩
  · rw [sort_keyV]
    exact hq H3 q ((Kt.ext e2 t2).trans (Kt.kp0 t2 k3)) nq
theorem rd_minI {D : Addr} (f : Int → Int) (ns : List Int) (τ : Int → L2.St) (hS : SqL K H D (ns.map V.int)) (hT : LamX.Tabs T H) (hC : ∀ n, CapsN N0 σ N (τ n) p (.int n))
    (hb : ∀ (H3 : Hp) (n : Int) (Q' : VK), n ∈ ns → Kt T [] H H3 → Q' (.int (f n)) H3 → tb (τ n) H3 Q')
    (h0 : ∀ (H3 : Hp), ns = [] → Kt T [] H H3 → Q .non H3)
    (h1 : ∀ (H3 : Hp) (i : Nat) (b : Int), Kt T [] H H3 → ns[i]? = some b → (∀ (j : Nat) (z : Int), ns[j]? = some z → f b ≤ f z ∧ (j < i → f b < f z)) → Q (.int b) H3) :
    ∃ (l : Addr) (xs : List V) (key : V → Int) (τ : V → L2.St), [V.ref D] = [.ref l] ∧ SqL K H l xs ∧ LamX.Tabs T H ∧
      (∀ v, v ∈ xs → CapsN N0 σ N (τ v) p v) ∧ ∀ H2, LamX.ExtN H H2 → LamX.Tabs T H2 → (∀ (H3 : Hp) (v : V), v ∈ xs → Kp [] H2 H3 → tb (τ v) H3 fun x H4 => x = .int (key v) ∧ Kp [] H3 H4) ∧
        (xs = [] → Q .non H2) ∧ ∀ (H3 : Hp) (i : Nat) (b : V), Kp [] H2 H3 → Least xs key i b → Q b H3 := by
  refine ⟨D, _, keyV f, fun v => match v with | .int n => τ n | _ => [], rfl, hS, hT, fun v hv => ?_, fun H2 e2 t2 => ⟨fun H3 v hv k3 => ?_, fun e => ?_, fun H3 i b k3 hl => ?_⟩⟩
  · obtain ⟨n, _, rfl⟩ := List.mem_map.mp hv
    exact hC n
  · obtain ⟨n, hn, rfl⟩ := List.mem_map.mp hv
    exact hb H3 n _ hn ((Kt.ext e2 t2).trans (Kt.kp0 t2 k3)) ⟨rfl, Kp.refl⟩
  · exact h0 H2 (List.map_eq_nil_iff.mp e) (Kt.ext e2 t2)
  · obtain ⟨e1, e3⟩ := hl
    rw [List.getElem?_map] at e1
    obtain ⟨n, hn, rfl⟩ := Option.map_eq_some_iff.mp e1
    refine h1 H3 i n ((Kt.ext e2 t2).trans (Kt.kp0 t2 k3)) hn fun j z hz => ?_
    exact e3 j (.int z) (by rw [List.getElem?_map, hz]; rfl)
end
end RD
namespace RD
open PySem PySem.Spec PyProof.Rows L2 He
/-! ### wide divisors, fields that are added to, least of a list -/
theorem wide60 {i j : Int} (h0 : 0 < j) (h1 : j < 1152921504606846976) : CDivW i j := wide_div (b := 60) h0 (by omega) (by decide) (by decide)
theorem ixN_at {n : Nat} {i : Int} (h0 : 0 ≤ i) (h1 : i < n) : ixN n i = some i.toNat := by
  unfold ixN
  rw [if_pos h0, if_pos h1]
section
variable {K : PySem.W.Frag} {σ : L2.St} {H : Hp} {nx bk ct : L2.St → Hp → Prop} {rt : VK} {ta tv : TE} {Q : VK} {v : V} {i j : Int}
theorem rd_sfldaug {rd : V → V → Hp → VK → Prop} {f : Str} (h : ta σ H fun x H1 => ∃ a C dx fs v, x = .ref a ∧ H1 a = some (.ins C dx fs) ∧ Cls K C ∧ NoAttr K C f ∧ fs.lookup f = some v ∧
  tv σ H1 fun y H2 => rd v y H2 fun z H3 => ∃ dx' fs', H3 a = some (.ins C dx' fs') ∧ fs'.length < 1000 ∧ nx σ (upd H3 a (.ins C dx' (putF f z fs')))) : sFldAug K ta tv rd f ⟨nx, rt, bk, ct⟩ σ H := h
theorem rd_sfldaugX {f : Str} {a C dx : Addr} {fs : List (Str × V)} {R : Addr → Addr → V → Prop} (h : H a = some (.ins C dx fs)) (c : Cls K C) (n : NoAttr K C f) (l : fs.lookup f = some v) (q : R a C v) :
    ∃ a' C' dx' fs' v', V.ref a = V.ref a' ∧ H a' = some (.ins C' dx' fs') ∧ Cls K C' ∧ NoAttr K C' f ∧ fs'.lookup f = some v' ∧ R a' C' v' := ⟨a, C, dx, fs, v, rfl, h, c, n, l, q⟩
theorem rd_insX {a C dx : Addr} {fs : List (Str × V)} {R : Addr → List (Str × V) → Prop} (h : H a = some (.ins C dx fs)) (l : fs.length < 1000) (q : R dx fs) : ∃ dx' fs', H a = some (.ins C dx' fs') ∧ fs'.length < 1000 ∧ R dx' fs' := ⟨dx, fs, h, l, q⟩
theorem rd_addI (h : Q (.int (i + j)) H) : rAdd (.int i) (.int j) H Q := ⟨i, j, rfl, rfl, h⟩
theorem rd_subI (h : Q (.int (i - j)) H) : rSub (.int i) (.int j) H Q := ⟨i, j, rfl, rfl, h⟩
theorem rd_minL {a : Addr} {ns : List Int} (h : SqL K H a (ns.map V.int)) (l : 0 < ns.length) (q : ∀ m, m ∈ ns → (∀ y, y ∈ ns → m ≤ y) → Q (.int m) H) : rMin K [.ref a] H Q := ⟨a, ns, rfl, h, l, q⟩
end
/-- an optional int -/
abbrev ov : Option Int → V
  | none => .non
  | some i => .int i
theorem ov_non {o : Option Int} : decide (ov o = V.non) = o.isNone := by
  cases o with
  | none => rfl
  | some i => exact decide_eq_false (by intro z; cases z)
/-- the first on the way from a place on -/
def FirstOf (r place : Int) (xs : List Int) : Option Int → Prop
  | none => xs = []
  | some b => b ∈ xs ∧ ∀ z, z ∈ xs → (b - place) % r ≤ (z - place) % r
end RD
namespace RD
open PySem PySem.Spec PyProof.Rows L2 He
/-! ### look-ups whose value comes out plain -/
def lookV {κ : Type} [DecidableEq κ] : List (κ × V) → κ → Option V
  | [], _ => none
  | (a, v) :: r, k => if a = k then some v else lookV r k
theorem lookV_eq {κ : Type} [DecidableEq κ] (k : κ) : ∀ kvs : List (κ × V), valV kvs k = lookV kvs k
  | [] => rfl
  | (a, v) :: r => by
    unfold lookV
    by_cases h : a = k
    · rw [if_pos h]
      exact valV_pos h
    · rw [if_neg h, valV_neg h]
      exact lookV_eq k r
theorem dg_sl {H : Hp} {a : Addr} {v : V} {kvs : List (Key × V)} {s : Str} (e : H a = some (.dK kvs)) (l : lookV kvs (.inr s) = some v) : DGet H a (.str s) (some v) := dg_sv e ((lookV_eq _ _).trans l)
theorem Kt.mine {T : List (Addr × Str)} {ps : List Addr} {H H' : Hp} {p : Addr} {o u : HO} (a : Kt T ps H H') (f : Frn H p) (e : H' p = some u) (w : Plain u) : Kt T ps H (upd H' p o) :=
  ⟨fun c v ev n m => by
    rw [upd_ne (f c v ev n)]
    exact a.1 c v ev n m, tabs_kp a.2 (Kp.refl.wr (ps := [p]) (by simp)) fun q hq => by
    rw [List.mem_singleton.mp hq]
    exact ⟨u, e, w⟩⟩
theorem Kt.mono {T : List (Addr × Str)} {ps qs : List Addr} {H H' : Hp} (a : Kt T ps H H') (h : ∀ p, p ∈ ps → p ∈ qs) : Kt T qs H H' := ⟨fun c o e n m => a.1 c o e n fun z => m (h c z), a.2⟩
theorem Kt.kpP {T : List (Addr × Str)} {ps qs : List Addr} {H H' H2 : Hp} (a : Kt T ps H H') (k : Kp qs H' H2) (n : ∀ p, p ∈ qs → p ∈ ps ∧ ∃ o, H' p = some o ∧ Plain o) : Kt T ps H H2 := a.trans ((Kt.kp a.2 k fun p hp => (n p hp).2).mono fun p hp => (n p hp).1)
end RD
namespace RD
open PySem PySem.Spec PyProof.Rows L2 He
theorem rd_sumL {K : PySem.W.Frag} {H : Hp} {Q : VK} {a : Addr} {ns : List Int} (h : SqL K H a (ns.map V.int)) (q : Q (.int ns.sum) H) : rSum K [.ref a] H Q := ⟨a, ns, rfl, h, q⟩
end RD
namespace RD
open PySem PySem.Spec PyProof.Rows L2 He
/-! ### defs called with keywords, dicts of ints, dict comprehensions -/
structure CalKX (P : Program) (w : World) (K : PySem.W.Frag) (mg : Str → Option Value) (base : Heap) (CX : CXT) (k : Nat) (x : Str) (sp : Sp) (n : Nat) (ks : List Str) (gV : List V → List V → List V) : Prop where
  ex : ∃ (f : Addr) (fd : FuncData) (ps : List Str) (g : List Value → List Value → List Value), FnOk P w K mg base CX k f fd ps sp ∧ mg x = some (.ref f) ∧ PySem.W.keepIn K (.ref f) = true ∧ KBn K fd ps n ks g gV
theorem pe_calKX {X : Cx} {CX : CXT} {k j n : Nat} {x : Str} {sp : Sp} {E : XK} {ks : List Str} {gV : List V → List V → List V} {p pos : Pos} {e : Expr} {es : List Expr} {kws : List Keyword} {t tk : TA} (c : CalKX X.prog X.w X.K X.mg X.base CX k x sp n ks gV) (hr : Room j X.A) (hk : k ≤ j) (hg : Gl X x) (hx : Passes CX X E) (ha : PA X (e :: es) t) (hkw : PK X kws tk)
    (hall : (backToKw pos (keywordEach kws X.env)).all (·.1.isSome) = true := by rfl) (hks : (backToKw pos (keywordEach kws X.env)).filterMap (·.1) = ks := by rfl) (hdb : (x == ("__debug__" : Str)) = false := by decide)
    (he : starEach (e :: es) X.env = (false, eval e X.env) :: starEach es X.env := by rfl) (hpl : ((backTo pos (starEach (e :: es) X.env)).any (·.1) || (backToKw pos (keywordEach kws X.env)).any (·.1.isNone)) = false := by rfl) :
    PE X (.Call (.Name x p) (e :: es) kws pos) (tCallN n ks.length sp gV E t tk) := by
  obtain ⟨f, fd, ps, g, F, hm, kp, hb⟩ := c.ex
  exact pe_callN F (hr.mono hk) hg hm kp hb hx ha hkw hall hks hdb he hpl
/-- a dict with int keys, by the keys and a function -/
def dmap (xs : List Int) (f : Int → V) : List (Key × V) := xs.map fun x => (Sum.inl x, f x)
def fset {α : Type} (f : Int → α) (a : Int) (v : α) : Int → α := fun x => if x = a then v else f x
theorem dmap_val {f : Int → V} (a : Int) : ∀ xs : List Int, valV (dmap xs f) (.inl a) = if a ∈ xs then some (f a) else none
  | [] => rfl
  | x :: r => by
    have ih := dmap_val (f := f) a r
    unfold dmap at ih ⊢
    rw [List.map_cons]
    by_cases h : x = a
    · subst h
      rw [valV_pos rfl, if_pos (.head _)]
    · rw [valV_neg (fun e => h (Sum.inl.inj e)), ih]
      by_cases h2 : a ∈ r
      · rw [if_pos h2, if_pos (List.mem_cons_of_mem _ h2)]
      · rw [if_neg h2, if_neg (by simp [h2, Ne.symm h])]
theorem dmap_in {f : Int → V} {a : Int} {xs : List Int} (h : a ∈ xs) : valV (dmap xs f) (.inl a) = some (f a) := by rw [dmap_val, if_pos h]
theorem dmap_out {f : Int → V} {a : Int} {xs : List Int} (h : a ∉ xs) : valV (dmap xs f) (.inl a) = none := by rw [dmap_val, if_neg h]
theorem dmap_congr {f g : Int → V} {xs : List Int} (h : ∀ x, x ∈ xs → f x = g x) : dmap xs f = dmap xs g := List.map_congr_left fun x hx => by rw [h x hx]
theorem dmap_new {f : Int → V} {a : Int} {v : V} {xs : List Int} (h : a ∉ xs) : putK (dmap xs f) (.inl a) v = dmap (xs ++ [a]) (fset f a v) := by
  rw [putK_new _ (dmap_out h)]
  unfold dmap
  rw [List.map_append]
  congr 1
  · refine List.map_congr_left fun x hx => ?_
    unfold fset
    rw [if_neg (show ¬ x = a from fun e => h (e ▸ hx))]
  · unfold fset
    simp
theorem dmap_old {f : Int → V} {a : Int} {v : V} {xs : List Int} (h : a ∈ xs) : putK (dmap xs f) (.inl a) v = dmap xs (fset f a v) := by
  unfold putK dmap
  have e : ((xs.map fun x => ((Sum.inl x : Key), f x)).any fun p => decide (p.1 = Sum.inl a)) = true := by
    rw [List.any_eq_true]
    exact ⟨_, List.mem_map_of_mem h, decide_eq_true rfl⟩
  rw [if_pos (by simpa using e), List.map_map]
  refine List.map_congr_left fun x _ => ?_
  unfold fset
  by_cases hx : x = a
  · subst hx
    simp
  · simp [hx]
theorem dmap_len {f : Int → V} {xs : List Int} : (dmap xs f).length = xs.length := List.length_map _
theorem pickI {d : Int} (ns : List Int) (h0 : 0 ≤ d) (h1 : d < ns.length) : ∃ n, n ∈ ns ∧ atI (ns.map V.int) d = some (.int n) := by
  have h : d.toNat < ns.length := by omega
  refine ⟨ns[d.toNat], List.getElem_mem h, ?_⟩
  rw [atI_ints h0 h1, List.getD_eq_getElem?_getD, List.getElem?_eq_getElem h]
  rfl
end RD
namespace RD
open PySem PySem.Spec PyProof.Rows L2 He
section
variable {K : PySem.W.Frag} {σ : L2.St} {H : Hp} {tt : TT} {tk tv : TE} {Q : VK}
/-- what a dict comprehension over J asks -/
def DcG (J : It) (g : TG) (tt : TT) (tk tv : TE) (vs : List Nat) (σ : L2.St) (D : Addr) (Qd : Hp → Prop) (H1 : Hp) : Prop :=
  ∃ W : Nat → Nat → Hp → Prop, (∃ m, W 0 m (upd H1 D (.dK []))) ∧ ∀ i m H, W i m H →
  (J.stop i H ∧ Qd H) ∨ (J.go i H ∧ ∃ Nx : Hp → Prop, (∀ H', Nx H' → ∃ m', m' < m ∧ W (i + 1) m' H') ∧ ∀ x H', J.yld i H x H' → g x (wipe σ vs) H' fun σ2 H2 => wipe σ2 vs = wipe σ vs ∧ tt σ2 H2 fun b H3 =>
    if b = true then tk σ2 H3 fun y H4 => tv σ2 H4 fun z H5 => ∃ kvs k, y = kV k ∧ H5 D = some (.dK kvs) ∧ kvs.length < sizeLine ∧ Nx (upd H5 D (.dK (putK kvs k z))) else Nx H3)
theorem rd_dc {wi : TI} {g : TG} {vs : List Nat} (h : wi σ H fun J H1 => ∀ D, H1 D = none → DcG J g tt tk tv vs σ D (fun H => Q (.ref D) H) H1) : tDc wi g tt tk tv vs σ H Q := h
theorem dcL_ints {a D : Addr} {g : TG} {vs : List Nat} {Qd : Hp → Prop} (ns : List Int) (Pv : Nat → Hp → Prop) (h0 : Pv 0 (upd H D (.dK []))) (hl : ∀ i H, i ≤ ns.length → Pv i H → SqL K H a (ns.map V.int))
    (hs : ∀ (i : Nat) (h : i < ns.length) H, Pv i H → g (.int ns[i]) (wipe σ vs) H fun σ2 H2 => wipe σ2 vs = wipe σ vs ∧ tt σ2 H2 fun b H3 =>
      if b = true then tk σ2 H3 fun y H4 => tv σ2 H4 fun z H5 => ∃ kvs k, y = kV k ∧ H5 D = some (.dK kvs) ∧ kvs.length < sizeLine ∧ Pv (i + 1) (upd H5 D (.dK (putK kvs k z))) else Pv (i + 1) H3) (hd : ∀ H, Pv ns.length H → Qd H) : DcG (Itl K a) g tt tk tv vs σ D Qd H := by
  refine ⟨fun i m H => m = ns.length - i ∧ i ≤ ns.length ∧ Pv i H, ⟨ns.length, by simp, Nat.zero_le _, h0⟩, ?_⟩
  rintro i m H ⟨rfl, hi, p⟩
  have q := hl i H hi p
  by_cases hlt : i < ns.length
  · have e : (ns.map V.int)[i]? = some (.int ns[i]) := by
      rw [List.getElem?_map, List.getElem?_eq_getElem hlt]
      rfl
    refine .inr ⟨⟨_, _, q, e⟩, Pv (i + 1), fun H' p' => ⟨ns.length - (i + 1), by omega, rfl, hlt, p'⟩, fun x H' y => ?_⟩
    obtain ⟨rfl, hz⟩ := y
    have ex := hz _ q
    rw [e] at ex
    cases ex
    exact hs i hlt _ p
  · have e : i = ns.length := by omega
    subst e
    exact .inl ⟨⟨_, q, by rw [List.length_map]; exact Nat.le_refl _⟩, hd H p⟩
theorem rd_dictD {a : Addr} {kvs : List (Key × V)} (h : H a = some (.dK kvs)) (q : ∀ p, H p = none → Q (.ref p) (upd H p (.dK kvs))) : (∃ (a' : Addr) (kvs' : List (Key × V)), [V.ref a] = [.ref a'] ∧ Rd H a' (.dK kvs') ∧ ∀ p, H p = none → Q (.ref p) (upd H p (.dK kvs'))) := ⟨a, kvs, rfl, .inl h, q⟩
theorem dg_ii {a b : Addr} {kvs : List (List Key × V)} {s z : Int} (e : H a = some (.dT kvs)) (eb : H b = some (.tup [.int s, .int z])) : DGet H a (.ref b) (valV kvs [.inl s, .inl z]) := DGet.t (k := [.inl s, .inl z]) e eb
theorem dp_ii {a b : Addr} {kvs : List (List Key × V)} {s z : Int} {v : V} (e : H a = some (.dT kvs)) (eb : H b = some (.tup [.int s, .int z])) (l : kvs.length < sizeLine) : DPut H a (.ref b) v (upd H a (.dT (putK kvs [.inl s, .inl z] v))) := DPut.t (k := [.inl s, .inl z]) e eb l
end
/-- a table of numbers by two ints -/
structure Tab2 (H : Hp) (d : Addr) (g : Int → Int → Int) (m : Nat) : Prop where
  ex : ∃ kvs : List (List Key × V), H d = some (.dT kvs) ∧ kvs.length ≤ m ∧ ∀ s z, (valV kvs [.inl s, .inl z]).getD (.int 0) = .int (g s z)
theorem Tab2.kp {H H' : Hp} {d : Addr} {f : Int → Int → Int} {m : Nat} {ps : List Addr} (B : Tab2 H d f m) (k : Kp ps H H') (n : d ∉ ps) : Tab2 H' d f m := by
  obtain ⟨kvs, h1, h2, h3⟩ := B.ex
  exact ⟨kvs, k _ _ h1 n, h2, h3⟩
theorem Tab2.mono {H : Hp} {d : Addr} {f : Int → Int → Int} {m m' : Nat} (B : Tab2 H d f m) (h : m ≤ m') : Tab2 H d f m' := by
  obtain ⟨kvs, h1, h2, h3⟩ := B.ex
  exact ⟨kvs, h1, Nat.le_trans h2 h, h3⟩
theorem key2_iff {s a z b : Int} : ([Sum.inl a, Sum.inl b] : List Key) = [Sum.inl s, Sum.inl z] ↔ a = s ∧ b = z := by
  constructor
  · intro e
    injection e with e1 e2
    injection e2 with e3 _
    exact ⟨Sum.inl.inj e1, Sum.inl.inj e3⟩
  · rintro ⟨rfl, rfl⟩
    rfl
theorem tab2_put {kvs : List (List Key × V)} {f : Int → Int → Int} {s z v : Int} (h : ∀ s z, (valV kvs [.inl s, .inl z]).getD (.int 0) = .int (f s z)) :
    ∀ a b, (valV (putK kvs [.inl s, .inl z] (.int v)) [.inl a, .inl b]).getD (.int 0) = .int (if a = s ∧ b = z then v else f a b) := by
  intro a b
  rw [valV_put]
  by_cases e : a = s ∧ b = z
  · rw [if_pos e, if_pos (key2_iff.mpr e)]
    rfl
  · rw [if_neg e, if_neg (fun q => e (key2_iff.mp q))]
    exact h a b
end RD

/-! own layer: getters of properties in the head -/
namespace RD
open PySem PySem.Spec PyProof.Rows L2 He
/-- the property object of the class's name, its getter -/
def prA (K : PySem.W.Frag) (c f : Str) : Addr := ma K (ga K c) f
def prG (K : PySem.W.Frag) (c f : Str) : Addr := match PySem.W.recIn K (prA K c f) "property" with
  | some (.ref g :: _) => g
  | _ => 0
def propB (K : PySem.W.Frag) (c f : Str) : Bool :=
  eqO (PySem.W.findIn K (.ref (ga K c)) f) (some (some (.ref (prA K c f)))) && (eqO (PySem.W.specialIn K (.ref (prA K c f)) "__get__") (some (some (.builtin "property.__get__"))) && (decide (PySem.W.takesIn K (.ref (prA K c f)) = some true) && (match PySem.W.recIn K (prA K c f) "property" with
    | some (.ref g :: _) => decide (g = prG K c f)
    | _ => false)))
theorem propB_ok {K : PySem.W.Frag} {c f : Str} (h : propB K c f = true) : PropOf K (ga K c) f (prA K c f) (prG K c f) := by
  obtain ⟨h1, h2⟩ := ba h
  obtain ⟨h3, h4⟩ := ba h2
  obtain ⟨h5, h6⟩ := ba h4
  refine ⟨eqO_ok h1, eqO_ok h3, of_decide_eq_true h5, ?_⟩
  cases e : PySem.W.recIn K (prA K c f) "property" with
  | none =>
    rw [e] at h6
    cases h6
  | some l =>
    rw [e] at h6
    cases l with
    | nil => cases h6
    | cons v r =>
      cases v with
      | ref g =>
        have h7 : g = prG K c f := of_decide_eq_true h6
        exact ⟨r, by rw [h7]⟩
      | _ => cases h6
/-- a property's getter: its class and name, and the def -/
structure GetD where
  cls : Str
  fld : Str
  name : Str
  qual : Str
  params : Arguments
  body : List Stmt
  scope : Scope
def GetD.seen (K : PySem.W.Frag) (d : GetD) : FnW := match K.lookup (prG K d.cls d.fld) with
  | some ⟨_, _, .func fd, _⟩ => some (fd.name, fd.qualname, fd.params, fd.body, fd.scope, fd.globals, fd.closure, fd.builtins)
  | _ => none
def GetD.val (d : GetD) : FnW := some (d.name, d.qual, d.params, .stmts d.body, d.scope, mainGlobals, [], builtinsNs)
def GetD.ok (K : PySem.W.Frag) (d : GetD) : Bool := propB K d.cls d.fld && (PySem.W.keepIn K (.ref (prG K d.cls d.fld)) && (match K.lookup (prG K d.cls d.fld) with
  | some ⟨_, _, .func fd, _⟩ => PySem.W.codeIn K fd.code d.qual && (dflB K fd.defaults [] && kwdB K fd.kwdefaults [])
  | _ => false))
theorem GetD.funD {K : PySem.W.Frag} {d : GetD} (e : d.seen K = d.val) (c : d.ok K = true) : PropOf K (ga K d.cls) d.fld (prA K d.cls d.fld) (prG K d.cls d.fld) ∧ ∃ fd, FunD K d.name d.qual d.params d.body d.scope [] [] (prG K d.cls d.fld) fd := by
  obtain ⟨c0, c1⟩ := ba c
  obtain ⟨kp, c2⟩ := ba c1
  refine ⟨propB_ok c0, ?_⟩
  unfold GetD.seen at e
  cases q : K.lookup (prG K d.cls d.fld) with
  | none =>
    rw [q] at c2
    cases c2
  | some o =>
    obtain ⟨oc, od, dt, osl⟩ := o
    rw [q] at c2 e
    cases dt with
    | func fd =>
      obtain ⟨n1, n2, n3, n4, n5, n6, n7, n8, n9, n10, n11, n12, n13, n14, n15⟩ := fd
      have e2 : (some (n1, n2, n3, n4, n5, n6, n7, n15) : FnW) = some (d.name, d.qual, d.params, .stmts d.body, d.scope, mainGlobals, [], builtinsNs) := e
      injection e2 with e2
      simp only [Prod.mk.injEq] at e2
      obtain ⟨a1, a2, a3, a4, a5, a6, a7, a8⟩ := e2
      subst a1 a2 a3 a4 a5 a6 a7 a8
      have c3 : (PySem.W.codeIn K n13 d.qual && (dflB K n8 [] && kwdB K n9 [])) = true := c2
      obtain ⟨k1, k2⟩ := ba c3
      obtain ⟨k3, k4⟩ := ba k2
      exact ⟨_, ⟨oc, od, n8, n9, n10, n11, n12, n13, n14, osl, rfl, q, k1, dflB_ok k3, kwdB_ok k4⟩, kp⟩
    | _ => cases c2
/-- the head of a law with properties and tables -/
abbrev AlP : Type := AlX × (Bool × List FnW)
def obsP (n : Nat) (fa : List Fa) (fn : List DefD) (gs : List GetD) (tf : List Defn) (ex : PySem.W.Frag → Bool) (g : Addr → Option Obj) : AlP := (obsX n fa fn [] tf ex g, (gs.all (GetD.ok (frT g (asD g n))), gs.map (GetD.seen (frT g (asD g n)))))
structure SaysP (fa : List Fa) (fn : List DefD) (gs : List GetD) (tf : List Defn) (ex : PySem.W.Frag → Bool) (w : World) (h : Heap) (K : PySem.W.Frag) : Prop where
  x : SaysX fa fn [] tf ex w h K
  ok : gs.all (GetD.ok K) = true
  seen : gs.map (GetD.seen K) = gs.map GetD.val
def hookP (n : Nat) (fa : List Fa) (fn : List DefD) (gs : List GetD) (tf : List Defn) (ex : PySem.W.Frag → Bool) : PySem.W.Hook where
  α := AlP
  obs := fun s => obsP n fa fn gs tf ex s.heap.get?
  val := fun w => (valX fn [] w, (true, gs.map GetD.val))
  says := fun w h => ∃ K : PySem.W.Frag, K.In h ∧ SaysP fa fn gs tf ex w h K
  of := fun _ _ e => ⟨_, frT_in, saysX_of (congrArg (fun z : AlP => z.1) e), congrArg (fun z : AlP => z.2.1) e, congrArg (fun z : AlP => z.2.2) e⟩
  keeps := fun _ _ _ ⟨K, hK, c⟩ k => ⟨K, PySem.W.Frag.In.keeps hK k, ⟨⟨c.x.t, c.x.more, c.x.hd, c.x.out, fun p hp => k _ _ (c.x.empty p hp)⟩, c.ok, c.seen⟩⟩
theorem obsP_eq {n : Nat} {fa : List Fa} {fn : List DefD} {gs : List GetD} {tf : List Defn} {ex : PySem.W.Frag → Bool} {g : Addr → Option Obj} {s : Shared} (h : ∀ a, g a = s.heap.get? a) : obsP n fa fn gs tf ex g = (hookP n fa fn gs tf ex).obs s := by
  have e : g = s.heap.get? := funext h
  rw [e] <;> rfl
theorem SaysP.get {fa : List Fa} {fn : List DefD} {gs : List GetD} {tf : List Defn} {ex : PySem.W.Frag → Bool} {w : World} {h : Heap} {K : PySem.W.Frag} (c : SaysP fa fn gs tf ex w h K) {d : GetD} (hd : d ∈ gs) :
    PropOf K (ga K d.cls) d.fld (prA K d.cls d.fld) (prG K d.cls d.fld) ∧ ∃ fd, FunD K d.name d.qual d.params d.body d.scope [] [] (prG K d.cls d.fld) fd := by
  obtain ⟨i, hi, e⟩ := List.mem_iff_getElem.mp hd
  have e1 := congrArg (fun l : List FnW => l[i]?) c.seen
  have e2 : gs[i]? = some d := by rw [List.getElem?_eq_getElem hi, e]
  simp only [List.getElem?_map, e2, Option.map_some, Option.some.injEq] at e1
  exact GetD.funD e1 (List.all_eq_true.mp c.ok d hd)
/-- a property in one piece -/
structure PrpX (P : Program) (w : World) (K : PySem.W.Frag) (mg : Str → Option Value) (base : Heap) (CX : CXT) (k : Nat) (C : Addr) (f : Str) (sp : Sp) : Prop where
  ex : ∃ (p g : Addr) (fd : FuncData) (ps : List Str), Cls K C ∧ PropOf K C f p g ∧ FnOk P w K mg base CX k g fd ps sp ∧ Binds K fd ps []
theorem pe_prpX {X : Cx} {CX : CXT} {k j : Nat} {C : Addr} {f : Str} {sp : Sp} {E : XK} {e : Expr} {pos : Pos} {ta : TE} (c : PrpX X.prog X.w X.K X.mg X.base CX k C f sp) (hr : Room j X.A) (hk : k + 1 ≤ j) (hx : Passes CX X.nox E) (he : PE X e ta)
    (hab : attributeBase e f X.env (eval e X.env) = eval e X.env := by rfl) : PE X (.Attribute e f pos) (tProp C sp [] E ta) := by
  obtain ⟨p, g, fd, ps, cl, hp, F, b⟩ := c.ex
  exact pe_prop he cl hp F (hr.mono hk) b .nil hx hab
end RD

/-! own layer: own exceptions over an own base over ValueError, whose __init__ says super().__init__(text) and sets one field (or none) -/
namespace PySem
namespace ErrX
open PySem.W PySem.Calls PyProof.Rows PySem.HandSPX
/-! ### the text of __init__ -/
def eA1 (f : Str) (p1 p2 : Pos) : Arguments := { posonlyargs := [], args := [{ arg := "self", annotation := none, pos := p1 }, { arg := f, annotation := none, pos := p2 }], vararg := none, kwonlyargs := [], kw_defaults := [], kwarg := none, defaults := [] }
def eSup (txt : Str) (r1 r2 r3 r4 r5 r6 : Pos) : Stmt := .Expr (.Call (.Attribute (.Call (.Name "super" r1) [] [] r2) "__init__" r3) [.Constant (.str txt) 0 r4] [] r5) r6
def eB1 (f txt : Str) (r1 r2 r3 r4 r5 r6 q1 q2 q3 q4 : Pos) : List Stmt := [eSup txt r1 r2 r3 r4 r5 r6, .Assign [.Attribute (.Name "self" q1) f q2] (.Name f q3) q4]
def eS1 (f : Str) : Scope := { kind := .function, names := [(PySem.Str.ofString "self", .local), (f, .local), (PySem.Str.ofString "__class__", .free), (PySem.Str.ofString "super", .globalImplicit)], isGenerator := false, isCoroutine := false, more := [] }
/-- what the written part says of the class x, at C, its field f -/
structure ErrT (P : Program) (K : Frag) (mg : Str → Option Value) (x f : Str) (C : Addr) : Prop where
  gC : mg x = some (.ref C)
  gS : mg "super" = none
  top : (P.main.scope.names.lookup ("super" : Str)).isSome = false
  f1 : (f == ("self" : Str)) = false
  f2 : (("self" : Str) == f) = false
  f3 : (("super" : Str) == f) = false
  f4 : (("__class__" : Str) == f) = false
  f5 : (f == ("__debug__" : Str)) = false
  cls : ∃ nm q N bs bm sn sub ab col dd k0 k1 k2 k3 k5, K.lookup C = some (excClassObj nm q C N bs bm true sn sub ab col dd k0 k1 k2 k3 k5 "ValueError.__new__") ∧ refsVE bm = true
  sa : findIn K (.ref C) "__setattr__" = some (some (.builtin "object.__setattr__"))
  noN : findIn K (.ref C) f = some none
  kC : keepIn K (.ref C) = true
  exC : subIn K (.ref C) (.type "BaseException") = some true
  tyC : typeIn K (.ref C) = some (.type "type")
  slf : mroIn K C (.ref C) = some true
  veC : subIn K (.ref C) (.type "ValueError") = some true
  sup : ks_superIn K C C "__init__" = some (some (.builtin "ValueError.__init__"))
  st : nsIn K cStatics "thirdparty.any" = some none
  fn : ∃ (fI cc cda : Addr) (oc : Value) (od : Option Addr) (doc pm : Value) (an : Option Addr) (ct : Value) (osl : Array (Option Value)) (qual txt : Str) (p1 p2 r1 r2 r3 r4 r5 r6 q1 q2 q3 q4 : Pos),
    findIn K (.ref C) "__init__" = some (some (.ref fI)) ∧ typeIn K (.ref fI) = some (.type "function") ∧ (r3.endLine == r5.line) = true ∧
    K.lookup fI = some ⟨oc, od, .func (ksFn "__init__" qual (eA1 f p1 p2) (eB1 f txt r1 r2 r3 r4 r5 r6 q1 q2 q3 q4) (eS1 f) .none .none doc pm an (.ref cda) ct cc), osl⟩ ∧ codeIn K (.ref cda) qual = true ∧
    (∃ ccl cdd vs ccs file tf, K.lookup cda = some ⟨ccl, cdd, .fields vs, ccs⟩ ∧ vs[2]? = some (.str file tf) ∧ ((P.main.file : Str) == file) = true) ∧ ∃ cl cld csl, K.lookup cc = some ⟨cl, cld, .cell (some (.ref C)), csl⟩
theorem one_size (v : Value) : [v].length ≤ sizeLine := by
  rw [sizeLine_eq]
  exact (by decide : 1 ≤ 16777216)
/-- what __init__ leaves of a fresh exception at x -/
structure InitEnd (h h' : Heap) (x C dx : Addr) (f : Str) (v : Value) : Prop where
  keep : ∀ b o, b ≠ x → h.get? b = some o → h'.get? b = some o
  obj : ∃ t1 : Addr, h'.get? x = some { cls := .ref C, dict := some dx, data := .fields #[.ref t1, .none, .none, .none, .bool false, .none] }
  dbig : h.objs.size ≤ dx
  dne : dx ≠ x
  ns : h'.Ns1 dx (fun y => if y = f then some v else none)
/-- a made exception -/
structure OwnMade (h h' : Heap) (e C d : Addr) (f : Str) (v : Value) : Prop where
  keep : ∀ b o, h.get? b = some o → h'.get? b = some o
  new : h.objs.size ≤ e
  obj : ∃ oe vs, h'.get? e = some oe ∧ oe.cls = .ref C ∧ oe.dict = some d ∧ oe.data = .fields vs ∧ vs[1]? = some .none
  dbig : h.objs.size ≤ d
  dne : d ≠ e
  ns : h'.Ns1 d (fun y => if y = f then some v else none)
section
variable {prog : Program} {w : World} {A : Around} {E : Value → Shared → Prop} {R : Result → Shared → Prop} {s : Shared} {K : Frag} {mg : Str → Option Value} {x f : Str} {C : Addr}
theorem sup_eval {o : Expr} {m txt : Str} {r3 r4 r5 : Pos} {env : Env} (hl : (r3.endLine == r5.line) = true) : eval (.Call (.Attribute o m r3) [.Constant (.str txt) 0 r4] [] r5) env = (do
      let ov ← attributeBase o m env (eval o env)
      standAt r3.atName
      let (f, first) ← holding [ov] (getMethod ov m (L2.plainOf o env))
      callWith r5 f first (backTo r5 (starEach [.Constant (.str txt) 0 r4] env)) []) := by
  show (do
      let ov ← attributeBase o m env (eval o env)
      standAt r3.atName
      methodCall o m r3 r5 env ov 1 (backTo r5 (starEach [.Constant (.str txt) 0 r4] env)) []) = _
  have e : ∀ ov, methodCall o m r3 r5 env ov 1 (backTo r5 (starEach [.Constant (.str txt) 0 r4] env)) [] = _ := fun ov => L2.mcall_line (n := 1) (by rfl) hl
  simp only [e]
/-- super().__init__(text) -/
theorem sup_init {name : Str} {scope : Scope} {body : List Stmt} {fI cc cda L e t0 : Addr} {txt : Str} {r1 r2 r3 r4 r5 r6 : Pos} {fd : FuncData} {of : Obj} {p1 : Pos} {as : List Arg} {Q : Flow → Shared → Prop} {h : Heap} {g : Array GenState} {d : Drawn} {t : Nat} {os : OsState} {m : Str → Option Value} {vs : Array Value} {file : Str} {tf : Tok} {occ : Obj}
    (hks : scope.names.lookup ("super" : Str) = some .globalImplicit) (hkc : scope.names.lookup ("__class__" : Str) = some .free) (hka : scope.names.lookup ("self" : Str) = some .local) (hk : scope.kind = .function) (hin : interactive (ksEnv name scope L fI (.ref cda) cc) = false) (hl : (r3.endLine == r5.line) = true)
    (gS : mg "super" = none) (top : (prog.main.scope.names.lookup ("super" : Str)).isSome = false) (slf : mroIn K C (.ref C) = some true) (veC : subIn K (.ref C) (.type "ValueError") = some true)
    (sup : ks_superIn K C C "__init__" = some (some (.builtin "ValueError.__init__"))) (st : nsIn K cStatics "thirdparty.any" = some none)
    (hcls : ∃ nm q N bs bm sn sub ab col dd k0 k1 k2 k3 k5, K.lookup C = some (excClassObj nm q C N bs bm true sn sub ab col dd k0 k1 k2 k3 k5 "ValueError.__new__") ∧ refsVE bm = true)
    (X : K.In h) (hg : h.Ns mainGlobals mg) (hb : ∃ mb, h.Ns builtinsNs mb ∧ mb "super" = bootBuiltins "super")
    (hf : h.get? fI = some of) (hfd : of.data = .func fd) (hp : fd.params = { posonlyargs := [], args := { arg := "self", annotation := none, pos := p1 } :: as, vararg := none, kwonlyargs := [], kw_defaults := [], kwarg := none, defaults := [] })
    (hcc : h.get? cda = some occ) (hoc : occ.data = .fields vs) (hvs : vs[2]? = some (.str file tf)) (hfile : ((prog.main.file : Str) == file) = true) (hcell : h.IsCell cc (some (.ref C)))
    (hns : h.Ns L m) (hm : m "self" = some (.ref e)) (he : h.get? e = some (excO C t0)) (heL : e ≠ L)
    (hq : ∀ h' tk t1, (∀ b o, b ≠ e → h.get? b = some o → h'.get? b = some o) → h'.get? e = some (excO C t1) → Q .next ⟨h', g, d, tk, os⟩) :
    _root_.PySem.wpAt (model prog w) A (.func body (ksEnv name scope L fI (.ref cda) cc)) (exec (eSup txt r1 r2 r3 r4 r5 r6) (ksEnv name scope L fI (.ref cda) cc)) Q E ⟨h, g, d, t, os⟩ := by
  obtain ⟨nm, q, N, bs, bm, sn, sub, ab, col, dd, k0, k1, k2, k3, k5, hC, hbm⟩ := hcls
  have hcl : clsIn K C = some { name := nm, bases := bs, mro := .ref C :: bm, ns := N, qualname := q, hasDict := true, slotNames := sn, subclasses := sub, abstract := ab, collection := col, hasDel := false } := by unfold clsIn; rw [hC] <;> rfl
  obtain ⟨mb, hbn, hbs⟩ := hb
  have hCo : h.get? C = some (excClassObj nm q C N bs bm true sn sub ab col dd k0 k1 k2 k3 k5 "ValueError.__new__") := X _ _ hC
  have hne : e ≠ C := fun z => by
    rw [z, hCo] at he
    cases he
  unfold eSup
  refine ks_wpAt_Expr_any (ks_wpAt_MethodCall ?_ (sup_eval hl)) hin
  refine ks_wpAt_super_base (env := ksEnv name scope L fI (.ref cda) cc) (ar := { arg := "self", annotation := none, pos := p1 }) hks hkc (by decide) rfl hf hfd (by rw [hp] <;> rfl) rfl hcc hoc hvs hfile top ?_
  refine ks_loadName_global hk hks (loadGlobal_builtin (env := ksEnv name scope L fI (.ref cda) cc) hg gS hbn (hbs.trans (by rfl)) ⟨rfl, ?_⟩)
  refine wpAny_loadName_free hk hkc rfl hcell ?_
  refine wpAny_loadName_local hk hka hns hm ?_
  refine ks_wpAny_isType_cls hCo rfl ⟨rfl, ?_⟩
  refine ks_wpAny_call_super hCo rfl he rfl (fun c z => by cases z) (looks_mroIn X slf) (fun h1 e1 k => ?_)
  have X1 : K.In h1 := X.keeps k
  have he1 := k _ _ he
  have I1 : InstAt h1 e (excO C t0) C none := ⟨he1, rfl, rfl, trivial⟩
  have hI : Looks (model prog w) h1 (isInstance (.ref e) (.type "ValueError")) true := I1.type.andThen (looks_subIn X1 veC)
  have hal : alongIn K "__init__" ((((Value.ref C :: bm).dropWhile (· != .ref C)).drop 1)) = some (some (.builtin "ValueError.__init__")) := by
    have z := sup
    unfold ks_superIn at z
    rw [hcl] at z
    exact z
  refine kxs_getMethod kxs_ValueError (l₀ := Value.ref C :: bm) e1 (looks_opaque X1 st) (fun A Q E s k q => wpAny_bind ((looks_clsIn X1 hcl) A _ E s k (wpAny_pure q))) rfl X1 hal hI hne (by decide) ?_
  have k2 : ∀ b o, h1.get? b = some o → (h1.push (kxs_mw "ValueError.__init__" e)).get? b = some o := fun b o z => Heap.get?_push_of_some _ z
  have hu : (h1.push (kxs_mw "ValueError.__init__" e)).get? h1.objs.size = some (kxs_mw "ValueError.__init__" e) := Heap.get?_push_at rfl rfl
  refine kxs_callWith (i := "ValueError.__init__") (x := e) (by rfl) (Calls.evalArgs_plain (Calls.spliced_cons (Calls.Constant_str (k := 0) (pos := r4) ?_)))
  refine Calls.spliced_nil ⟨hu, ?_⟩
  show wpAny _ _ (call (.ref h1.objs.size) [.str txt _]) _ _ _
  have he2 := k2 _ _ he1
  have hC2 := k2 _ _ (k _ _ hCo)
  refine wpAny_call (codeAny_of_tree ?_)
  show wpAny _ _ (callAny (.ref h1.objs.size) ⟨[.str txt _], []⟩) _ _ _
  simp only [callAny]
  refine wpAny_bind (wpAny_load hu ?_)
  simp only [kxs_mw, show (Value.type "method-wrapper" == Value.type "method" || Value.type "method-wrapper" == Value.type "builtin_function_or_method" || Value.type "method-wrapper" == Value.type "method-wrapper") = true by decide, if_true]
  refine KFB.if_so (by decide) ?_
  refine wpAny_bind (check_bound_init F.excBase_ValueError.toExcCallFacts hC2 he2 rfl ?_)
  refine wpAny_bind (wpAny_pure (wpAny_pure ?_))
  refine ⟨plainId_quiet F.excBase_ValueError.init.plain _, codeAny_builtin F.excBase_ValueError.initEntry ?_⟩
  refine exc_init_tree (cls := .ref C) (t0 := t0) (dv := none) (c2 := .none) (c3 := .none) (b4 := .bool false) he2 (one_size _) fun h3 k3 e3 _ => ?_
  exact hq h3 _ _ (fun b o hbe z => k3 b o hbe (k2 _ _ (k _ _ z))) e3
theorem ldK {name : Str} {scope : Scope} {L a cc : Addr} {cd : Value} {M : Model} {m : Str → Option Value} {y : Str} {pos : Pos} {v : Value} {Q : Value → Shared → Prop} (hn : s.heap.Ns L m) (hv : m y = some v) (h : Q v s)
    (hk : scope.kind = .function) (hl : scope.names.lookup y = some .local) (hd : (y == ("__debug__" : Str)) = false) :
    wpAny M A (eval (.Name y pos) (ksEnv name scope L a cd cc)) Q E s := wpAny_Name (wpAny_loadName_local (env := ksEnv name scope L a cd cc) hk hl hn hv h) hd
theorem err_init (T : ErrT prog K mg x f C) {fI e t0 : Addr} {v : Value} (hi : findIn K (.ref C) "__init__" = some (some (.ref fI))) (X : K.In s.heap) (hg : s.heap.Ns mainGlobals mg) (hb : ∃ mb, s.heap.Ns builtinsNs mb ∧ mb "super" = bootBuiltins "super") (hlim : s.heap.NoLimit) (hx : s.heap.get? e = some (excO C t0)) (nx : K.lookup e = none)
    (hroom : A.depth < recursionLimit) (hq : ∀ h' tk dx, InitEnd s.heap h' e C dx f v → R (.ok (.ret .none)) { s with heap := h', toks := tk }) :
    codeAny (model prog w) A (.call (.ref fI) ⟨[.ref e, v], []⟩) R s := by
  obtain ⟨fI', cc, cda, oc, od, doc, pm, an, ct, osl, qual, txt, p1, p2, r1, r2, r3, r4, r5, r6, q1, q2, q3, q4, hi', tI, hl, ho, hcd, ⟨ccl, cdd, vs, ccs, file, tf, hcda, hvs, hfile⟩, cl, cld, csl, hcell⟩ := T.fn
  rw [hi] at hi'
  cases hi'
  obtain ⟨nm, q, N, bs, bm, sn, sub, ab, col, dd, k0, k1, k2, k3, k5, hC, hbm⟩ := id T.cls
  have hcl : clsIn K C = some { name := nm, bases := bs, mro := .ref C :: bm, ns := N, qualname := q, hasDict := true, slotNames := sn, subclasses := sub, abstract := ab, collection := col, hasDel := false } := by unfold clsIn; rw [hC] <;> rfl
  obtain ⟨b1, b2, b3, b4, b5⟩ := (⟨T.f1, T.f2, T.f3, T.f4, T.f5⟩ : (f == ("self" : Str)) = false ∧ (("self" : Str) == f) = false ∧ (("super" : Str) == f) = false ∧ (("__class__" : Str) == f) = false ∧ (f == ("__debug__" : Str)) = false)
  have lf : (eS1 f).names.lookup f = some .local := by
    show List.lookup f [(PySem.Str.ofString "self", NameKind.local), (f, .local), _, _] = _
    simp [List.lookup, b1]
  have ls : (eS1 f).names.lookup ("super" : Str) = some .globalImplicit := by
    show List.lookup ("super" : Str) [(("self" : Str), NameKind.local), (f, .local), (("__class__" : Str), .free), (("super" : Str), .globalImplicit)] = _
    have e1 : (("super" : Str) == ("self" : Str)) = false := by decide
    have e2 : (("super" : Str) == ("__class__" : Str)) = false := by decide
    simp [List.lookup, b3, e1, e2]
  have lc : (eS1 f).names.lookup ("__class__" : Str) = some .free := by
    show List.lookup ("__class__" : Str) [(("self" : Str), NameKind.local), (f, .local), (("__class__" : Str), .free), (("super" : Str), .globalImplicit)] = _
    have e1 : (("__class__" : Str) == ("self" : Str)) = false := by decide
    simp [List.lookup, b4, e1]
  have lse : (eS1 f).names.lookup ("self" : Str) = some .local := rfl
  have bd : bindArgs (ksFn "__init__" qual (eA1 f p1 p2) (eB1 f txt r1 r2 r3 r4 r5 r6 q1 q2 q3 q4) (eS1 f) .none .none doc pm an (.ref cda) ct cc) ⟨[.ref e, v], []⟩ = pure [(("self" : Str), .ref e), (f, v)] := by
    have z1 : (List.lookup ("self" : Str) [(("self" : Str), Value.ref e), (f, v)]).isNone = false := by simp [List.lookup]
    have z2 : (List.lookup f [(("self" : Str), Value.ref e), (f, v)]).isNone = false := by simp [List.lookup, b1]
    unfold bindArgs
    simp [eA1, seqItems?, z1, z2, List.lookup, b1]
    rfl
  refine ks_codeAny_call_defAt (fd := ksFn "__init__" qual (eA1 f p1 p2) (eB1 f txt r1 r2 r3 r4 r5 r6 q1 q2 q3 q4) (eS1 f) .none .none doc pm an (.ref cda) ct cc) (body := eB1 f txt r1 r2 r3 r4 r5 r6 q1 q2 q3 q4) (binds := [(("self" : Str), .ref e), (f, v)]) hroom (X _ _ ho) rfl hlim (codeRec_of X hcd) rfl (BindsTo.of_eq bd)
    (fun y hy => ?_) (fun y hy => ?_) (fun h₁ hns hk₁ => ?_) rfl rfl rfl
  · have hy : y ∈ [(("self" : Str), NameKind.local), (f, .local), (("__class__" : Str), .free), (("super" : Str), .globalImplicit)] := hy
    simp only [List.mem_cons, List.not_mem_nil, or_false] at hy
    rcases hy with rfl | rfl | rfl | rfl <;> (intro z; cases z)
  · simp only [List.mem_cons, List.not_mem_nil, or_false] at hy
    rcases hy with rfl | rfl
    · exact lse
    · exact lf
  have X₁ : K.In h₁ := X.keeps hk₁
  have ms : ([(("self" : Str), Value.ref e), (f, v)] : List (Str × Value)).reverse.lookup ("self" : Str) = some (.ref e) := by
    show List.lookup ("self" : Str) [(f, v), (("self" : Str), Value.ref e)] = _
    simp [List.lookup, b2]
  have mf : ([(("self" : Str), Value.ref e), (f, v)] : List (Str × Value)).reverse.lookup f = some v := by
    show List.lookup f [(f, v), (("self" : Str), Value.ref e)] = _
    simp [List.lookup]
  have hxL : e ≠ s.heap.objs.size := Nat.ne_of_lt (Heap.lt_size hx)
  obtain ⟨mb, hb1, hb2⟩ := hb
  refine ks_wpAt_execs_cons (sup_init (K := K) (mg := mg) (C := C) (fd := ksFn "__init__" qual (eA1 f p1 p2) (eB1 f txt r1 r2 r3 r4 r5 r6 q1 q2 q3 q4) (eS1 f) .none .none doc pm an (.ref cda) ct cc) ls lc lse rfl rfl hl T.gS T.top T.slf T.veC T.sup T.st T.cls X₁ (hg.keeps hk₁) ⟨mb, hb1.keeps hk₁, hb2⟩ (hk₁ _ _ (X _ _ ho)) rfl rfl (hk₁ _ _ (X _ _ hcda)) rfl hvs hfile ⟨_, hk₁ _ _ (X _ _ hcell), rfl⟩ hns ms (hk₁ _ _ hx) hxL fun h2 tk2 t1 kp2 he2 => ?_)
  have hns2 : h2.Ns s.heap.objs.size fun y => ([(("self" : Str), Value.ref e), (f, v)] : List (Str × Value)).reverse.lookup y := by
    obtain ⟨oL, es, ep, hL, r⟩ := hns
    exact ⟨oL, es, ep, kp2 _ _ (Ne.symm hxL) hL, r⟩
  have X2 : K.In h2 := fun a o z => kp2 a o (fun y => by rw [y, nx] at z; cases z) (X₁ _ _ z)
  show _root_.PySem.wpAt _ _ _ (execs _ _) _ _ _
  refine wpAt_of_wpAny (wpAny_execs_cons (plainObj_wpAny_Assign_Attribute ?_))
  refine ldK (v := v) hns2 mf (ldK (v := .ref e) hns2 ms ?_ rfl lse (by decide)) rfl lf b5
  refine set_plain X2 (ox := excO C t1) (od := none) ⟨he2, rfl, rfl, trivial⟩ T.sa ?_
  refine exc_osa X2 he2 hcl (show refsVE (.ref C :: bm) = true from hbm) rfl T.noN (fun h₃ tk₃ dx k₃ dn dne hx₃ hn₃ => ?_)
  show wpAny _ _ (execs _ _) _ _ _
  have z : s.heap.objs.size < h₁.objs.size := hns.lt
  have z2 : s.heap.objs.size < h2.objs.size := hns2.lt
  exact wpAny_execs_nil (hq h₃ tk₃ dx ⟨fun b o hb y => k₃ b o hb (kp2 b o hb (hk₁ b o y)), ⟨t1, hx₃⟩, Nat.le_of_lt (Nat.lt_of_lt_of_le z2 dn), dne, hn₃⟩)
theorem err_made (T : ErrT prog K mg x f C) {v : Value} (X : K.In s.heap) (hg : s.heap.Ns mainGlobals mg) (hb : ∃ mb, s.heap.Ns builtinsNs mb ∧ mb "super" = bootBuiltins "super") (hlim : s.heap.NoLimit) (hroom : A.depth + 1 < recursionLimit)
    (hq : ∀ h' tk e d, OwnMade s.heap h' e C d f v → R (.ok (.ret (.ref e))) { s with heap := h', toks := tk }) :
    codeAny (model prog w) A (.call (.ref C) ⟨[v], []⟩) R s := by
  obtain ⟨nm, q, N, bs, bm, sn, sub, ab, col, dd, k0, k1, k2, k3, k5, hC, hbm⟩ := T.cls
  obtain ⟨fI, cc, cda, oc, od, doc, pm, an, ct, osl, qual, txt, p1, p2, r1, r2, r3, r4, r5, r6, q1, q2, q3, q4, hi, tI, -⟩ := T.fn
  obtain ⟨hp, g, dr, tk, os⟩ := s
  have k : ∀ b o, hp.get? b = some o → ((hp.push (kdv_tup [v])).push (excO C hp.objs.size)).get? b = some o := fun b o e => Heap.get?_push_of_some _ (Heap.get?_push_of_some _ e)
  have hget : ((hp.push (kdv_tup [v])).push (excO C hp.objs.size)).get? (hp.objs.size + 1) = some (excO C hp.objs.size) := by heap_get
  have hnx : K.lookup (hp.objs.size + 1) = none := by
    cases e : K.lookup (hp.objs.size + 1) with
    | none => rfl
    | some o =>
      have z : hp.get? (hp.objs.size + 1) = some o := X _ _ e
      exact absurd (Nat.lt_of_succ_lt (Heap.lt_size z)) (Nat.lt_irrefl _)
  obtain ⟨mb, hb1, hb2⟩ := hb
  refine call_own F.excBase_ValueError (fun X => refsVE_contains X bm hbm) (X _ _ hC) (looks_findIn X hi) (fun self => bind_fn X self tI) (one_size v) ?_
  refine err_init (s := ⟨(hp.push (kdv_tup [v])).push (excO C hp.objs.size), g, dr, tk, os⟩) T hi (X.keeps k) (hg.keeps k) ⟨mb, hb1.keeps k, hb2⟩ (hlim.keeps k) hget hnx ?_ fun h' tk' dx ⟨k', ⟨t1, hx⟩, dn, dne, hns⟩ => ?_
  · show A.depth + 1 < recursionLimit
    exact hroom
  · have old : ∀ b o, hp.get? b = some o → h'.get? b = some o := fun b o e => k' b o (Nat.ne_of_lt (Nat.lt_succ_of_lt (Heap.lt_size e))) (k b o e)
    have z : hp.objs.size + 1 + 1 ≤ dx := by
      first
        | (simpa only [Heap.size_push] using dn)
        | exact dn
        | (have q := dn; rw [Heap.size_push, Heap.size_push] at q; exact q)
    exact ⟨rfl, hq h' tk' (hp.objs.size + 1) dx ⟨old, Nat.le_succ _, ⟨_, _, hx, rfl, rfl, rfl, rfl⟩, Nat.le_trans (Nat.le_trans (Nat.le_succ _) (Nat.le_succ _)) z, dne, hns⟩⟩
end
end ErrX
end PySem

namespace RD
open PySem PySem.Spec PyProof.Rows L2 He
theorem relO_one {f : Str} {v : V} {v' : Value} (r : RelV v v') (g : Str) : RelO (List.lookup g [(f, v)]) (if g = f then some v' else none) := by
  by_cases hw : g = f
  · subst hw
    rw [if_pos rfl]
    have q : List.lookup g [(g, v)] = some v := by simp [List.lookup]
    rw [q]
    exact r
  · rw [if_neg hw]
    have qw : (g == f) = false := by simpa using hw
    have q2 : List.lookup g [(f, v)] = none := by simp [List.lookup, qw]
    rw [q2]
    trivial
section
variable {X : Cx} {C : Addr} {x f : Str}
/-- x(e) -/
def tMkE (C : Addr) (f : Str) (ta : TA) : L2.St → Hp → XK → Prop := fun σ H Q => ta σ H fun vs H1 => ∃ v, vs = [v] ∧ ∀ d, H1 d = none → Q (.ref C) (some d) (upd H1 d (.xd [(f, v)]))
theorem pmk_err {a : Expr} {ta : TA} {p pos : Pos} {k : Nat} (T : PySem.ErrX.ErrT X.prog X.K X.mg x f C) (hr : Room k X.A) (ha : PA X [a] ta) (hg : Gl X x) (hdb : (x == ("__debug__" : Str)) = false := by decide)
    (he : starEach (a :: []) X.env = (false, eval a X.env) :: starEach [] X.env := by rfl) (hpl : (backTo pos (starEach [] X.env)).any (·.1) = false := by rfl) :
    PMk X (.Call (.Name x p) [a] [] pos) (tMkE C f ta) := by
  intro pins s σ H Q I h
  refine wpAny_Call_Name_kw (ld_glob I hg T.gC ?_ hdb)
  refine PySem.W.callWith_K (h₀ := X.base) I.ok.mod.kin T.kC (thn (ha.run pos pins s σ H _ I h) fun us s1 hh => ?_) he hpl
  obtain ⟨vs, H1, I1, r1, v, ev, q1⟩ := hh
  subst ev
  refine ⟨I1.kIn, ?_⟩
  cases r1 with
  | cons rv rn =>
    rename_i v' us'
    cases rn
    show wpAny _ _ (call (.ref C) [v']) _ _ _
    have hlim := I1.nolimit
    have hg1 := I1.mod.glob.keeps I1.bk
    obtain ⟨mb, hb1, hb2⟩ := I1.mod.blt
    have hb1 := hb1.keeps I1.bk
    have hb2 := hb2 "super" (by decide)
    obtain ⟨hp, g, dr, tk, os⟩ := s1
    refine wpAny_call (PySem.ErrX.err_made T I1.kIn hg1 ⟨mb, hb1, hb2⟩ hlim (by have := hr.dp; omega) fun h' tk' e d M => ?_)
    show MkP X pins σ Q (.ref e) ⟨h', g, dr, tk', os⟩
    obtain ⟨oe, fv, hoe, hc, hd, hdat, h1⟩ := M.obj
    have hns := M.ns
    obtain ⟨G', g1, g2⟩ := restrict h' fun b => decide (b ≠ e)
    have gk : ∀ b, b ≠ e → G'.get? b = h'.get? b := fun b hb => g1 b (decide_eq_true hb)
    have ge : G'.get? e = none := g2 e (by simp)
    have old : ∀ b o, hp.get? b = some o → G'.get? b = some o := fun b o q => (gk b (Nat.ne_of_lt (Nat.lt_of_lt_of_le (Heap.lt_size q) M.new))).trans (M.keep b o q)
    have ob : ObjOk X.prog X.w (upd H1 d (.xd [(f, v)])) G' d (.xd [(f, v)]) :=
      ⟨_, hns.at (fun o q => (gk d M.dne).trans q), fun g => relO_one rv g⟩
    have J : Inv X pins σ (upd H1 d (.xd [(f, v)])) ⟨G', g, dr, tk', os⟩ := I1.laid (t' := tk') old M.dbig ob
    refine ⟨e, oe, fv, ⟨G', g, dr, tk', os⟩, _, .ref C, some d, rfl, J, fun b o q => ?_, ge, hoe, ⟨hc, hd⟩, hdat, h1, ?_, rfl, I1.bare, raises_own T.exC T.tyC, q1 d (I1.hok.fresh M.dbig)⟩
    · by_cases hb : b = e
      · have q' : G'.get? b = some o := q
        rw [hb, ge] at q'; cases q'
      · exact (gk b hb).symm.trans q
    · rw [upd_ne (Ne.symm M.dne)]
      exact I1.hok.fresh M.new
/-- raise x(e) -/
def tRaiseE (C : Addr) (f : Str) (W : WX) (ta : TA) : TS := fun _ σ H => tMkE C f ta σ H fun cls d H' => W cls d σ H'
theorem ps_raiseE {a : Expr} {ta : TA} {W : WX} {p pos pos2 : Pos} {k : Nat} (hc : X.calm = true) (T : PySem.ErrX.ErrT X.prog X.K X.mg x f C) (hr : Room k X.A) (tk : Takes X W) (ha : PA X [a] ta) (hg : Gl X x) (hdb : (x == ("__debug__" : Str)) = false := by decide)
    (he : starEach (a :: []) X.env = (false, eval a X.env) :: starEach [] X.env := by rfl) (hpl : (backTo pos (starEach [] X.env)).any (·.1) = false := by rfl) :
    PS X (.Raise (some (.Call (.Name x p) [a] [] pos)) none pos2) (tRaiseE C f W ta) := ps_raise hc tk (pmk_err T hr ha hg hdb he hpl)
end
end RD

namespace PySem
namespace ErrX
open PySem.W PySem.Calls PyProof.Rows PySem.Spec
section
variable {prog : Program} {w : World} {A : Around} {E : Value → Shared → Prop} {s : Shared} {K : Frag} {x D : Addr} {ox : Obj} {od : Option Obj}
theorem findObj_dataO {C : Addr} {name : Str} {a g : Value} (hc : (clsIn K C).isSome = true) (ha : findIn K (.ref C) name = some (some a)) (hg : specialIn K a "__get__" = some (some g)) (ht : takesIn K a = some true) : findObj K C od name = some (.bind g a) := by
  obtain ⟨cd, hc⟩ := Option.isSome_iff_exists.mp hc
  unfold findObj
  rw [hc, Option.bind_some, ha, Option.bind_some]
  simp [hg, ht]
/-- the class asked of an exception that may have a dict -/
theorem cls_of_exc {Q : Option Value → Shared → Prop} (T : L2.ExcC K D) (X : K.In s.heap) (I : InstAt s.heap x ox D od) (h : Q (some (.ref D)) { s with toks := s.toks + 1 }) : wpAny (model prog w) A (getAttr? (.ref x) "__class__") Q E s := by
  have hf : findObj K D od "__class__" = some (.bind (.builtin "getset_descriptor.__get__") (.builtin "object.__class__")) := findObj_dataO (by obtain ⟨cd, hc, _⟩ := any_some T.hd; rw [hc]; rfl) T.ha T.hn T.ht
  obtain ⟨hp, g, d, t, os⟩ := s
  have L0 := I.type (M := model prog w)
  have L1 := looks_findIn (M := model prog w) X T.hg
  have L2 := looks_findIn (M := model prog w) X T.hk
  have L3 := looks_find (M := model prog w) X I hf
  have sub : Looks (model prog w) hp (isInstance (.ref x) (.type "BaseException")) true := L0.andThen (looks_subIn X T.hs)
  have hx0 : (false && onTheHeap (Value.builtin "BaseException.__getattribute__")) = false := rfl
  have hx2 : (Value.builtin "BaseException.__getattribute__" == Value.builtin "object.__getattribute__") = false := by decide +kernel
  have hx1 : (onTheHeap (Value.ref D) && Value.builtin "BaseException.__getattribute__" == Value.builtin "object.__getattribute__") = false := by rw [hx2]; rfl
  unfold getAttr? getAttrBy? getAttrBy
  refine wpAny_bind (wpAny_mkText (wpAny_bind (wpAny_attempt (wpAny_holding (wpAny_bind (L0.at (wpAny_bind (L1.at ?_))))))))
  show wpAny _ _ (if (onTheHeap (Value.ref D) && Value.builtin "BaseException.__getattribute__" == Value.builtin "object.__getattribute__") = true then _ else _) _ _ _
  rw [hx1, if_neg Bool.false_ne_true]
  unfold getAttrByItsOwn hookBefore
  refine wpAny_bind ?_
  rw [if_pos (show onTheHeap (Value.ref D) = true from rfl)]
  refine L2.at ?_
  refine wpAny_bind (wpAny_attempt (wpAny_holding ?_))
  unfold callGetattribute
  rw [hx0, if_neg Bool.false_ne_true]
  unfold boundAndCalled
  rw [PySem.F.excAttr_ValueError.ga.bind (.ref x)]
  refine wpAny_bind (wpAny_pure ?_)
  show wpAny _ _ (call (.builtin "BaseException.__getattribute__") [.ref x, .str "__class__" t]) _ _ _
  refine wpAny_call (codeAny_call_builtin PySem.F.excAttr_ValueError.ga.plain PySem.F.entry_bexc_ga ?_)
  refine @check_slot (model prog w) _ _ ⟨hp, g, d, t + 1, os⟩ "BaseException.__getattribute__" "BaseException" "__getattribute__" (.ref x) [.str "__class__" t] [] _ (by decide +kernel) (by decide +kernel) sub (PySem.F.args_bexc_ga (.ref x) (.str "__class__" t)) ?_
  unfold Builtin.«object.__getattribute__»
  refine wpAny_bind (wpAny_of_eq (a := ((Value.ref x : Value), [Value.str "__class__" t])) (by first | rfl | (simp only [slotArgs]; rfl)) ?_)
  refine wpAny_bind (wpAny_pure (wpAny_bind (L0.at (wpAny_bind (L3.at ?_)))))
  show wpAny _ _ (holding [Value.builtin "object.__class__"] (call (.builtin "getset_descriptor.__get__") [.builtin "object.__class__", .ref x, .ref D]) >>= ret) _ _ _
  refine wpAny_bind (wpAny_holding (wpAny_call (class_get (s := ⟨hp, g, d, t + 1, os⟩) (ox := ox) (od := od) X I T.hm ?_)))
  refine wpAny_pure ?_
  show wpAny _ _ (handedOut (.ref D)) _ _ _
  rw [handedOut_of (v := .ref D) rfl]
  first
    | exact wpAny_pure (wpAny_pure h)
    | exact wpAny_pure h
    | exact wpAny_pure (wpAny_bind (wpAny_pure (wpAny_pure h)))
theorem kitx_err (T : L2.ExcC K D) : KitX K (.ref x) (.ref D) (fun h => InstAt h x ox D od) where
  ty := fun _ _ _ I => I.type
  it := fun _ _ X _ => by
    obtain ⟨cdD, hcD, _⟩ := any_some T.hd
    unfold clsIn at hcD
    split at hcD
    · rename_i c' d' cd' sl' ho
      intro A' Q' E' s' k q
      unfold isType loadHead
      exact wpAny_bind (wpAny_loadPart (k _ _ (X _ _ ho)) (wpAny_pure q))
    · cases hcD
  ne := fun h tp dd its n sl X htp => by
    obtain ⟨cdD, hcD, _⟩ := any_some T.hd
    refine Bool.eq_false_iff.mpr fun q => ?_
    have e : D = tp := Value.ref.inj (beq_iff_eq.mp q)
    subst e
    unfold clsIn at hcD
    split at hcD
    · rename_i c' d' cd' sl' ho
      have z := (X _ _ ho).symm.trans htp
      cases z
    · cases hcD
  ca := fun X I k => cls_of_exc T X I k
end
end ErrX
end PySem
namespace RD
open PySem PySem.Spec PyProof.Rows L2 He
section
variable {X : Cx}
/-- isinstance(e, c), e the exception that the suite holds; its dict known -/
def rIsX (K : PySem.W.Frag) (a : Addr) (cls : Value) (d : Option Addr) : List V → Hp → VK → Prop := fun xs H Q => ∃ (D : Addr) (c : V) (cv : Value) (b : Bool), cls = .ref D ∧ ExcC K D ∧ xs = [.ref a, c] ∧ (d = none ∨ ∃ (dd : Addr) (fs : List (Str × V)), d = some dd ∧ H dd = some (.xd fs)) ∧ (∀ u, RelV c u → u = cv) ∧ PySem.W.kitOne K (.ref D) cv = some b ∧ Q (.bl b) H
theorem call_isX {a : Addr} {cls : Value} {oe : Obj} {d : Option Addr} {pn : List (Addr × Obj)} (hz : Zc cls d oe) (hf : ∃ vs, oe.data = .fields vs) : CallR (X.suite a ((a, oe) :: pn)) (.builtin "isinstance") (rIsX X.K a cls d) := by
  intro pins s σ H xs us Q I r h
  obtain ⟨D, c, cv, b, rfl, C, rfl, hd, hcv, e, q⟩ := h
  cases r with
  | cons rx rr =>
    cases rr with
    | cons rt rr =>
      cases rr
      cases rx
      have ec := hcv _ rt
      subst ec
      obtain ⟨hget, _⟩ := I.pin (a, oe) (List.mem_append.mpr (.inl List.mem_cons_self))
      obtain ⟨vs, hv⟩ := hf
      obtain ⟨od, J⟩ : ∃ od, PySem.W.InstAt s.heap a oe D od := by
        obtain ⟨oc, odd, oda, osl⟩ := oe
        obtain ⟨h1, h2⟩ := hz
        dsimp only at h1 h2 hv
        subst h1 h2 hv
        rcases hd with hd | ⟨dd, fs, hd, hx⟩
        · subst hd
          exact ⟨none, hget, rfl, rfl, trivial⟩
        · subst hd
          have hx : ObjOk X.prog X.w H s.heap dd (.xd fs) := I.hok dd _ hx
          obtain ⟨mA, hns, hr⟩ := hx
          obtain ⟨o, ho, _⟩ := lookIn_ns hns
          exact ⟨some o, hget, rfl, rfl, ho⟩
      exact PySem.W.kia_one (PySem.ErrX.kitx_err C) I.kIn J e (fun z => nomatch z) fun tk => ⟨.bl b, H, I.kept (t' := tk) fun _ _ z => z, rfl, q⟩
/-- e.f, e the exception that the suite holds -/
def tXe (K : PySem.W.Frag) (a : Addr) (cls : Value) (d : Option Addr) (f : Str) (te : TE) : TE := fun σ H Q => te σ H fun x H1 => ∃ (C dd : Addr) (fs : List (Str × V)) (v : V), x = .ref a ∧ cls = .ref C ∧ XfC K C ∧ PySem.W.findIn K (.ref C) f = some none ∧ d = some dd ∧ H1 dd = some (.xd fs) ∧ fs.lookup f = some v ∧ Q v H1
theorem pe_xe {a : Addr} {oe : Obj} {cls : Value} {d : Option Addr} {pn : List (Addr × Obj)} {e : Expr} {te : TE} {pos : Pos} {n : Str} (hz : Zc cls d oe) (hf : ∃ vs, oe.data = .fields vs) (he : PE (X.suite a ((a, oe) :: pn)) e te) (hb : attributeBase e n X.env (eval e X.env) = eval e X.env := by rfl) :
    PE (X.suite a ((a, oe) :: pn)) (.Attribute e n pos) (tXe X.K a cls d n te) := by
  refine ⟨fun pins s σ H Q I h => ?_⟩
  refine attr_of hb (thn (he.run pins s σ H _ I h) fun u s1 hh => ?_)
  obtain ⟨x, H1, I1, rx, C, dd, fs, v, ex, ec, T, hno, ed, ea, l, q⟩ := hh
  subst ex
  obtain rfl : u = Value.ref a := rx
  subst ec
  subst ed
  obtain ⟨ha, _⟩ := I1.pin (a, oe) (List.mem_append_left _ List.mem_cons_self)
  obtain ⟨vs, hd⟩ := hf
  have hx : ObjOk X.prog X.w H1 s1.heap dd (.xd fs) := I1.hok dd _ ea
  obtain ⟨mA, hns, hr⟩ := hx
  obtain ⟨od, ho, hl⟩ := lookIn_ns hns
  obtain ⟨u, hu, ru⟩ := RelO.some_of (v := v) (o := mA n) (by rw [← l]; exact hr n)
  have J : PySem.W.InstAt s1.heap a oe C (some od) := ⟨ha, hz.1, by unfold PySem.W.notCls; rw [hd] <;> rfl, by rw [hz.2]; exact ho⟩
  exact PySem.HandSPX.exc_get I1.kIn J T.ga T.gg T.exC (PySem.W.findObj_own T.hdC hno rfl (by rw [hl, hu])) (handed_of ru) ⟨v, H1, I1.tok _, ru, q⟩
end
/-! ### calls whose errors are wished for at the slots -/
section
variable {X : Cx} {CX : CXT} {k j : Nat} {C : Addr} {x m : Str} {sp : Sp} {dvs : List V} {E : L2.St → XK} {p pos apos : Pos} {e o : Expr} {es : List Expr} {ta : TE} {t : TA}
theorem pe_calS (c : CalX X.prog X.w X.K X.mg X.base CX k x sp dvs) (hr : Room j X.A) (hk : k ≤ j) (hg : Gl X x) (hx : ∀ σ, PassesAt CX X σ (E σ)) (ha : PA X (e :: es) t)
    (hdb : (x == ("__debug__" : Str)) = false := by decide) (he : starEach (e :: es) X.env = (false, eval e X.env) :: starEach es X.env := by rfl) (hpl : (backTo pos (starEach es X.env)).any (·.1) = false := by rfl) :
    PE X (.Call (.Name x p) (e :: es) [] pos) (tCallSD sp dvs E t) := by
  obtain ⟨f, fd, ps, ds, F, hm, kp, b, d⟩ := c.ex
  exact pe_callSD F (hr.mono hk) hg hm kp b d hx ha hdb he hpl
def tMetS (C : Addr) (m : Str) (sp : Sp) (dvs : List V) (E : L2.St → XK) (ta : TE) (t : TA) : TE := fun σ H Q => ta σ H fun x H1 => ∃ a dx fs, x = .ref a ∧ H1 a = some (.ins C dx fs) ∧ fs.lookup m = none ∧ t σ H1 fun vs H2 => sp (x :: (vs ++ dvs)) H2 Q (E σ)
theorem pe_metS {pl : Sem Bool} (c : MetX X.prog X.w X.K X.mg X.base CX k C m sp dvs) (hr : Room j X.A) (hk : k ≤ j) (hx : ∀ σ, PassesAt CX X σ (E σ)) (he : PE X o ta) (ha : PA X (e :: es) t)
    (hst : starEach (e :: es) X.env = (false, eval e X.env) :: starEach es X.env := by rfl) (hpl : (backTo pos (starEach es X.env)).any (·.1) = false := by rfl)
    (ht : eval (.Call (.Attribute o m apos) (e :: es) [] pos) X.env = (do
      let ov ← eval o X.env
      standAt apos.atName
      let (f, first) ← holding [ov] (getMethod ov m pl)
      callWith pos f first (backTo pos (starEach (e :: es) X.env)) (backToKw pos (keywordEach [] X.env))) := by rfl) :
    PE X (.Call (.Attribute o m apos) (e :: es) [] pos) (tMetS C m sp dvs E ta t) := by
  obtain ⟨f, fd, ps, ds, cl, me, F, b, d⟩ := c.ex
  refine ⟨fun pins s σ H Q I h => ?_⟩
  refine PySem.W.methodCall_KW (pl := pl) (thn (he.run pins s σ H _ I h) fun u s1 ⟨x, H1, I1, rx, a, dx, fs, ex, ea, l, q⟩ => ?_) ht
  subst ex
  obtain rfl : u = Value.ref a := rx
  refine getmeth_ok I1 ea cl me l ?_
  refine PySem.W.callWith_K (first := [.ref a]) (h₀ := X.base) I.ok.mod.kin me.kp (thn (ha.run pos pins s1 σ H1 _ I1 q) fun us s2 ⟨vs, H2, I2, r, q2⟩ => ⟨I2.kIn, ?_⟩) hst hpl
  exact run_fnSD (us := .ref a :: us) (vs := .ref a :: vs) F (hr.mono hk) b d (hx σ) I2 (.cons rfl r) q2
theorem pe_metS0 {pl : Sem Bool} (c : MetX X.prog X.w X.K X.mg X.base CX k C m sp dvs) (hr : Room j X.A) (hk : k ≤ j) (hx : ∀ σ, PassesAt CX X σ (E σ)) (he : PE X o ta)
    (ht : eval (.Call (.Attribute o m apos) [] [] pos) X.env = (do
      let ov ← eval o X.env
      standAt apos.atName
      let (f, first) ← holding [ov] (getMethod ov m pl)
      callWith pos f first (backTo pos (starEach [] X.env)) (backToKw pos (keywordEach [] X.env))) := by rfl) :
    PE X (.Call (.Attribute o m apos) [] [] pos) (tMetS C m sp dvs E ta tNil) := by
  obtain ⟨f, fd, ps, ds, cl, me, F, b, d⟩ := c.ex
  refine ⟨fun pins s σ H Q I h => ?_⟩
  refine PySem.W.methodCall_KW (pl := pl) (thn (he.run pins s σ H _ I h) fun u s1 ⟨x, H1, I1, rx, a, dx, fs, ex, ea, l, q⟩ => ?_) ht
  subst ex
  obtain rfl : u = Value.ref a := rx
  refine getmeth_ok I1 ea cl me l ?_
  exact PySem.W.callWith_K0 (first := [.ref a]) I1.kIn me.kp (run_fnSD (us := [.ref a]) (vs := [.ref a]) F (hr.mono hk) b d (hx σ) I1 (.cons rfl .nil) q)
end
/-- a def that may raise: its promise by its body -/
theorem fnDX {P : Program} {w : World} {K : PySem.W.Frag} {mg : Str → Option Value} {base : Heap} {x qual : Str} {params : Arguments} {body : List Stmt} {scope : Scope} {dvs : List V} {kws : List (Str × V)} {f : Addr} {fd : FuncData} {N ps : List Str} {k : Nat} {sp : Sp} (F : FunD K x qual params body scope dvs kws f fd) (S : FnScope N ps scope) (len : ∀ vs H Q E, sp vs H Q E → vs.length = ps.length)
    (hbody : ∀ (cdv : Value) (A : Around) (outer : List Env) (s : Shared) (H : Hp) (vs : List V) (Q : VK) (E : XK), Room k (A.deeper (envOfC qual scope s.heap.objs.size f cdv)) → sp vs H Q E →
      ∃ t, PSs (cxOf (L2.CX P w) P w K mg base N qual scope f cdv A outer s H E) body t ∧ t ⟨fun _ H' => Q .non H', Q, fun _ _ => False, fun _ _ => False⟩ (start N vs) H) : FnOk P w K mg base (L2.CX P w) (k + 1) f fd ps sp :=
  F.ok S len fun cdv A outer s H vs Q E hr h => let ⟨t, h1, h2⟩ := hbody cdv A outer s H vs Q E hr h; ⟨t, h1, h2⟩
/-- what isinstance and except ask of the class -/
structure ErrS (K : PySem.W.Frag) (ys : List Str) (x : Str) : Prop where
  xc : ExcC K (ga K x)
  xf : XfC K (ga K x)
  kit : ∀ y, y ∈ ys → PySem.W.kitOne K (.ref (ga K x)) (.ref (ga K y)) = some (decide (y = x) || decide (y = "GroupError"))
  exm : ∀ y, y ∈ ys → PySem.W.exmOne K (.ref (ga K x)) (.ref (ga K y)) = some (decide (y = x) || decide (y = "GroupError"))
  kve : PySem.W.kitOne K (.ref (ga K x)) (.type "ValueError") = some true
  glo : ∀ y, y ∈ ys → PySem.W.nsIn K mainGlobals y = some (some (.ref (ga K y)))
/-! ### readings -/
section
variable {K : PySem.W.Frag} {σ : L2.St} {H : Hp} {nx bk ct : L2.St → Hp → Prop} {rt : VK} {t : TS} {te ta : TE} {ar : TA} {Q : VK} {v x : V} {W : WX} {C : Addr} {f : Str} {D : Ends}
theorem rd_raiseE (h : ar σ H fun vs H1 => ∃ v, vs = [v] ∧ ∀ d, H1 d = none → W (.ref C) (some d) σ (upd H1 d (.xd [(f, v)]))) : tRaiseE C f W ar D σ H := h
theorem rd_raiseX {P : V → Addr → Prop} (q : ∀ d, H d = none → P v d) : ∃ v', [v] = [v'] ∧ ∀ d, H d = none → P v' d := ⟨v, rfl, q⟩
theorem rd_calS {sp : Sp} {E : L2.St → XK} (h : ar σ H fun vs H1 => sp vs H1 Q (E σ)) : tCallSD sp [] E ar σ H Q := by
  unfold tCallSD
  have e : (fun vs H1 => sp (vs ++ []) H1 Q (E σ)) = fun vs H1 => sp vs H1 Q (E σ) := by
    funext vs H1
    rw [List.append_nil]
  rw [e]
  exact h
theorem rd_metS {m : Str} {sp : Sp} {E : L2.St → XK} (h : ta σ H fun x H1 => ∃ a dx fs, x = .ref a ∧ H1 a = some (.ins C dx fs) ∧ fs.lookup m = none ∧ ar σ H1 fun vs H2 => sp (x :: vs) H2 Q (E σ)) : tMetS C m sp [] E ta ar σ H Q := by
  unfold tMetS
  have e : (fun (x : V) (H1 : Hp) => ∃ a dx fs, x = V.ref a ∧ H1 a = some (.ins C dx fs) ∧ fs.lookup m = none ∧ ar σ H1 fun vs H2 => sp (x :: (vs ++ [])) H2 Q (E σ)) =
      fun (x : V) (H1 : Hp) => ∃ a dx fs, x = V.ref a ∧ H1 a = some (.ins C dx fs) ∧ fs.lookup m = none ∧ ar σ H1 fun vs H2 => sp (x :: vs) H2 Q (E σ) := by
    funext x H1
    simp only [List.append_nil]
  rw [e]
  exact h
/-- what flies is of the class x; the clause names y -/
theorem rd_wAs {ys : List Str} {y : Str} {i : Nat} {ts : Addr → Value → Option Addr → TS} {Wout : WX} {d : Option Addr} {x : Str} {b : Bool} (S : ErrS K ys x) (hy : y ∈ ys) (e : (decide (y = x) || decide (y = "GroupError")) = b)
    (q1 : b = true → ∀ a, H a = none → ts a (.ref (ga K x)) d ⟨fun σ' H' => nx (σ'.set i none) H', rt, fun σ' H' => bk (σ'.set i none) H', fun σ' H' => ct (σ'.set i none) H'⟩ (σ.set i (some (.ref a))) H) (q2 : b = false → Wout (.ref (ga K x)) d σ H) :
    wAs K (.ref (ga K y)) i ts Wout ⟨nx, rt, bk, ct⟩ (.ref (ga K x)) d σ H := ⟨b, e ▸ S.exm y hy, q1, q2⟩
theorem rd_isX {ys : List Str} {x y : Str} {a dd : Addr} {fs : List (Str × V)} {b : Bool} (S : ErrS K ys x) (hy : y ∈ ys) (hd : H dd = some (.xd fs)) (e : (decide (y = x) || decide (y = "GroupError")) = b) (q : Q (.bl b) H) : rIsX K a (.ref (ga K x)) (some dd) [.ref a, .ref (ga K y)] H Q :=
  ⟨ga K x, .ref (ga K y), .ref (ga K y), b, rfl, S.xc, rfl, .inr ⟨dd, fs, rfl, hd⟩, fun u r => r, e ▸ S.kit y hy, q⟩
theorem rd_isXt {ys : List Str} {x y : Str} {a dd : Addr} {fs : List (Str × V)} (S : ErrS K ys x) (hy : y ∈ ys) (hd : H dd = some (.xd fs)) (e : (decide (y = x) || decide (y = "GroupError")) = true) (q : Q (.bl true) H) : rIsX K a (.ref (ga K x)) (some dd) [.ref a, .ref (ga K y)] H Q := rd_isX S hy hd e q
theorem rd_isXf {ys : List Str} {x y : Str} {a dd : Addr} {fs : List (Str × V)} (S : ErrS K ys x) (hy : y ∈ ys) (hd : H dd = some (.xd fs)) (e : (decide (y = x) || decide (y = "GroupError")) = false) (q : Q (.bl false) H) : rIsX K a (.ref (ga K x)) (some dd) [.ref a, .ref (ga K y)] H Q := rd_isX S hy hd e q
theorem rd_isXv {ys : List Str} {x : Str} {a dd : Addr} {fs : List (Str × V)} (S : ErrS K ys x) (hd : H dd = some (.xd fs)) (q : Q (.bl true) H) : rIsX K a (.ref (ga K x)) (some dd) [.ref a, .ty "ValueError"] H Q :=
  ⟨ga K x, .ty "ValueError", .type "ValueError", true, rfl, S.xc, rfl, .inr ⟨dd, fs, rfl, hd⟩, fun u r => r, S.kve, q⟩
theorem rd_xe {x f : Str} {a : Addr} {d : Option Addr} (h : te σ H fun z H1 => ∃ (C dd : Addr) (fs : List (Str × V)) (v : V), z = .ref a ∧ (.ref (ga K x) : Value) = .ref C ∧ XfC K C ∧ PySem.W.findIn K (.ref C) f = some none ∧ d = some dd ∧ H1 dd = some (.xd fs) ∧ fs.lookup f = some v ∧ Q v H1) : tXe K a (.ref (ga K x)) d f te σ H Q := h
theorem rd_xeX {ys : List Str} {x f : Str} {a dd : Addr} {fs : List (Str × V)} {R : V → Prop} (S : ErrS K ys x) (n : PySem.W.findIn K (.ref (ga K x)) f = some none) (hd : H dd = some (.xd fs)) (l : fs.lookup f = some v) (q : R v) :
    ∃ (C dd' : Addr) (fs : List (Str × V)) (v : V), V.ref a = .ref a ∧ (.ref (ga K x) : Value) = .ref C ∧ XfC K C ∧ PySem.W.findIn K (.ref C) f = some none ∧ some dd = some dd' ∧ H dd' = some (.xd fs) ∧ fs.lookup f = some v ∧ R v := ⟨ga K x, dd, fs, v, rfl, rfl, S.xf, n, rfl, hd, l, q⟩
end
end RD

/-! ### the head: error classes, tables with text keys -/
namespace RD
open PySem PySem.Spec PyProof.Rows L2 He
open PySem.W (findIn nsIn subIn typeIn keepIn mroIn kitOne exmOne codeIn clsIn ks_superIn)
structure ErrD where
  name : Str
  fld : Str
  txt : Str
  qual : Str
  params : Arguments
  body : List Stmt
  scope : Scope
abbrev FnE : Type := Option (Str × Str × Arguments × FuncBody × Scope × Addr × List Str × Addr)
def ErrD.seen (K : PySem.W.Frag) (d : ErrD) : FnE := match K.lookup (ma K (ga K d.name) "__init__") with
  | some ⟨_, _, .func fd, _⟩ => some (fd.name, fd.qualname, fd.params, fd.body, fd.scope, fd.globals, fd.closure.map (·.1), fd.builtins)
  | _ => none
def ErrD.val (d : ErrD) : FnE := some ("__init__", d.qual, d.params, .stmts d.body, d.scope, mainGlobals, ["__class__"], builtinsNs)
def excClsB (K : PySem.W.Frag) (C : Addr) : Bool := match K.lookup C with
  | some ⟨.type c, _, .cls cd, sl⟩ => decide (c = "type") && (match cd.mro, sl.toList with
    | .ref C' :: bm, [_, _, _, _, some (.builtin n), _] => decide (C' = C) && (decide (n = "ValueError.__new__") && (!cd.hasDel && (cd.hasDict && PySem.HandSPX.refsVE bm)))
    | _, _ => false)
  | _ => false
theorem excClsB_ok {K : PySem.W.Frag} {C : Addr} (h : excClsB K C = true) : ∃ nm q N bs bm sn sub ab col dd k0 k1 k2 k3 k5, K.lookup C = some (excClassObj nm q C N bs bm true sn sub ab col dd k0 k1 k2 k3 k5 "ValueError.__new__") ∧ PySem.HandSPX.refsVE bm = true := by
  unfold excClsB at h
  split at h
  · rename_i c dd cd sl ho
    obtain ⟨h0, h⟩ := ba h
    split at h
    · rename_i C' bm k0 k1 k2 k3 n k5 hm hs
      obtain ⟨h1, h⟩ := ba h
      obtain ⟨h2, h⟩ := ba h
      obtain ⟨h3, h⟩ := ba h
      obtain ⟨h4, h5⟩ := ba h
      have h3' : cd.hasDel = false := by simpa using h3
      clear h3
      obtain ⟨nm, bs, mro, ns, qn, hd, sn, sub, ab, col, del⟩ := cd
      have e0 := of_decide_eq_true h0
      have e1 := of_decide_eq_true h1
      have e2 := of_decide_eq_true h2
      dsimp only at hm h3' h4
      subst hm h3' h4 e0 e1 e2
      have hsl : sl = #[k0, k1, k2, k3, some (.builtin "ValueError.__new__"), k5] := by
        obtain ⟨l⟩ := sl
        simp only at hs
        rw [hs]
      subst hsl
      exact ⟨nm, qn, ns, bs, bm, sn, sub, ab, col, dd, k0, k1, k2, k3, k5, ho, h5⟩
    · cases h
  · cases h
def isNon : Value → Bool
  | .none => true
  | _ => false
theorem isNon_ok {v : Value} (h : isNon v = true) : v = .none := by
  cases v <;> first | rfl | cases h
def fileB (P : Program) (K : PySem.W.Frag) (cd : Value) : Bool := match cd with
  | .ref c => (match K.lookup c with
    | some ⟨_, _, .fields vs, _⟩ => (match (vs[2]? : Option Value) with
      | some (Value.str file _) => (P.main.file == file)
      | _ => false)
    | _ => false)
  | _ => false
theorem fileB_ok {P : Program} {K : PySem.W.Frag} {cd : Value} (h : fileB P K cd = true) : ∃ cda, cd = .ref cda ∧ ∃ ccl cdd vs ccs file tf, K.lookup cda = some ⟨ccl, cdd, .fields vs, ccs⟩ ∧ vs[2]? = some (.str file tf) ∧ ((P.main.file : Str) == file) = true := by
  unfold fileB at h
  split at h
  · rename_i c
    split at h
    · rename_i ccl cdd vs ccs ho
      split at h
      · rename_i file tf hv
        exact ⟨c, rfl, ccl, cdd, vs, ccs, file, tf, ho, hv, h⟩
      · cases h
    · cases h
  · cases h
def cellB (K : PySem.W.Frag) (cl : List (Str × Addr)) (C : Addr) : Bool := match cl with
  | [(_, c)] => (match K.lookup c with
    | some ⟨_, _, .cell (some (.ref D)), _⟩ => decide (D = C)
    | _ => false)
  | _ => false
theorem cellB_ok {K : PySem.W.Frag} {cl : List (Str × Addr)} {C : Addr} (h : cellB K cl C = true) : ∃ x c, cl = [(x, c)] ∧ ∃ k d s, K.lookup c = some ⟨k, d, .cell (some (.ref C)), s⟩ := by
  unfold cellB at h
  split at h
  · rename_i x c
    split at h
    · rename_i k d D s ho
      have e := of_decide_eq_true h
      subst e
      exact ⟨x, c, rfl, k, d, s, ho⟩
    · cases h
  · cases h
def errSB (K : PySem.W.Frag) (ys : List Str) (x : Str) : Bool :=
  xfB K (ga K x) && (eqO (findIn K (.ref (ga K x)) "__class__") (some (some (.builtin "object.__class__"))) && (eqO (PySem.W.specialIn K (.builtin "object.__class__") "__get__") (some (some (.builtin "getset_descriptor.__get__"))) && (decide (PySem.W.takesIn K (.builtin "object.__class__") = some true) && (decide (mroIn K (ga K x) (.type "object") = some true) &&
    (decide (kitOne K (.ref (ga K x)) (.type "ValueError") = some true) && ys.all fun y => decide (kitOne K (.ref (ga K x)) (.ref (ga K y)) = some (decide (y = x) || decide (y = "GroupError"))) && (decide (exmOne K (.ref (ga K x)) (.ref (ga K y)) = some (decide (y = x) || decide (y = "GroupError"))) && eqO (nsIn K mainGlobals y) (some (some (.ref (ga K y))))))))))
theorem errSB_ok {K : PySem.W.Frag} {ys : List Str} {x : Str} (h : errSB K ys x = true) : ErrS K ys x := by
  obtain ⟨h1, h⟩ := ba h
  obtain ⟨h2, h⟩ := ba h
  obtain ⟨h3, h⟩ := ba h
  obtain ⟨h4, h⟩ := ba h
  obtain ⟨h5, h⟩ := ba h
  obtain ⟨h6, h⟩ := ba h
  have X := xfB_ok h1
  have k := fun y hy => ba (List.all_eq_true.mp h y hy)
  exact ⟨⟨X.ga, X.gg, X.exC, X.hdC, eqO_ok h2, eqO_ok h3, of_decide_eq_true h4, of_decide_eq_true h5⟩, X, fun y hy => of_decide_eq_true (k y hy).1, fun y hy => of_decide_eq_true (ba (k y hy).2).1, of_decide_eq_true h6, fun y hy => eqO_ok (ba (k y hy).2).2⟩
def ErrD.ok (P : Program) (K : PySem.W.Frag) (ys : List Str) (d : ErrD) : Bool :=
  errSB K ys d.name && (eqO (nsIn K mainGlobals d.name) (some (some (.ref (ga K d.name)))) && (eqO (nsIn K mainGlobals "super") (some none) && (!(P.main.scope.names.lookup ("super" : Str)).isSome && (excClsB K (ga K d.name) && (eqO (findIn K (.ref (ga K d.name)) "__setattr__") (some (some (.builtin "object.__setattr__"))) &&
  (eqO (findIn K (.ref (ga K d.name)) d.fld) (some none) && (keepIn K (.ref (ga K d.name)) && (decide (typeIn K (.ref (ga K d.name)) = some (.type "type")) && (decide (mroIn K (ga K d.name) (.ref (ga K d.name)) = some true) && (decide (subIn K (.ref (ga K d.name)) (.type "ValueError") = some true) &&
  (eqO (ks_superIn K (ga K d.name) (ga K d.name) "__init__") (some (some (.builtin "ValueError.__init__"))) && (eqO (nsIn K cStatics "thirdparty.any") (some none) && (eqO (findIn K (.ref (ga K d.name)) "__init__") (some (some (.ref (ma K (ga K d.name) "__init__")))) && (decide (typeIn K (.ref (ma K (ga K d.name) "__init__")) = some (.type "function")) &&
  (match K.lookup (ma K (ga K d.name) "__init__") with
    | some ⟨_, _, .func fd, _⟩ => isNon fd.defaults && (isNon fd.kwdefaults && (codeIn K fd.code d.qual && (fileB P K fd.code && cellB K fd.closure (ga K d.name))))
    | _ => false)))))))))))))))
/-- the text of __init__ is of the known form -/
structure ErrF (d : ErrD) : Prop where
  f1 : (d.fld == ("self" : Str)) = false
  f2 : (("self" : Str) == d.fld) = false
  f3 : (("super" : Str) == d.fld) = false
  f4 : (("__class__" : Str) == d.fld) = false
  f5 : (d.fld == ("__debug__" : Str)) = false
  form : ∃ p1 p2 r1 r2 r3 r4 r5 r6 q1 q2 q3 q4, d.params = ErrX.eA1 d.fld p1 p2 ∧ d.body = ErrX.eB1 d.fld d.txt r1 r2 r3 r4 r5 r6 q1 q2 q3 q4 ∧ d.scope = ErrX.eS1 d.fld ∧ (r3.endLine == r5.line) = true
theorem ErrD.errT {P : Program} {K : PySem.W.Frag} {mg : Str → Option Value} {ys : List Str} {d : ErrD} {h : Heap} (X : K.In h) (G : h.Ns mainGlobals mg) (F : ErrF d) (e : d.seen K = d.val) (c : d.ok P K ys = true) : ErrX.ErrT P K mg d.name d.fld (ga K d.name) ∧ ErrS K ys d.name := by
  obtain ⟨h0, c⟩ := ba c
  obtain ⟨h1, c⟩ := ba c
  obtain ⟨h2, c⟩ := ba c
  obtain ⟨h3, c⟩ := ba c
  obtain ⟨h4, c⟩ := ba c
  obtain ⟨h5, c⟩ := ba c
  obtain ⟨h6, c⟩ := ba c
  obtain ⟨h7, c⟩ := ba c
  obtain ⟨h8, c⟩ := ba c
  obtain ⟨h9, c⟩ := ba c
  obtain ⟨h10, c⟩ := ba c
  obtain ⟨h11, c⟩ := ba c
  obtain ⟨h12, c⟩ := ba c
  obtain ⟨h13, c⟩ := ba c
  obtain ⟨h14, c⟩ := ba c
  have S := errSB_ok h0
  refine ⟨⟨PySem.W.mg_of X G (eqO_ok h1), PySem.W.mg_none_of X G (eqO_ok h2), by simpa using h3, F.f1, F.f2, F.f3, F.f4, F.f5, excClsB_ok h4, eqO_ok h5, eqO_ok h6, h7, S.xf.exC, of_decide_eq_true h8, of_decide_eq_true h9, of_decide_eq_true h10, eqO_ok h11, eqO_ok h12, ?_⟩, S⟩
  obtain ⟨p1, p2, r1, r2, r3, r4, r5, r6, q1, q2, q3, q4, g1, g2, g3, g4⟩ := F.form
  unfold ErrD.seen at e
  cases q : K.lookup (ma K (ga K d.name) "__init__") with
  | none =>
    rw [q] at c
    cases c
  | some o =>
    obtain ⟨oc, od, dt, osl⟩ := o
    rw [q] at c e
    cases dt with
    | func fd =>
      obtain ⟨n1, n2, n3, n4, n5, n6, n7, n8, n9, n10, n11, n12, n13, n14, n15⟩ := fd
      have e2 : (some (n1, n2, n3, n4, n5, n6, n7.map (·.1), n15) : FnE) = ErrD.val d := e
      unfold ErrD.val at e2
      injection e2 with e2
      simp only [Prod.mk.injEq] at e2
      obtain ⟨a1, a2, a3, a4, a5, a6, a7, a8⟩ := e2
      have c3 : (isNon n8 && (isNon n9 && (codeIn K n13 d.qual && (fileB P K n13 && cellB K n7 (ga K d.name))))) = true := c
      obtain ⟨k1, c3⟩ := ba c3
      obtain ⟨k2, c3⟩ := ba c3
      obtain ⟨k3, c3⟩ := ba c3
      obtain ⟨k4, k5⟩ := ba c3
      obtain ⟨cda, z1, z2⟩ := fileB_ok k4
      obtain ⟨y, cc, z3, z4⟩ := cellB_ok k5
      have z5 := isNon_ok k1
      have z6 := isNon_ok k2
      subst z3
      have z7 : y = "__class__" := by
        have z : ([y] : List Str) = ([("__class__" : Str)] : List Str) := a7
        injection z
      subst z7
      subst a1 a2 a3 a4 a5 a6 a8 z5 z6 z1
      rw [g1, g2, g3] at q
      exact ⟨_, cc, cda, oc, od, _, _, _, _, osl, _, _, p1, p2, r1, r2, r3, r4, r5, r6, q1, q2, q3, q4, eqO_ok h13, of_decide_eq_true h14, g4, q, k3, z2, z4⟩
    | _ => cases c
/-- the head with all of it -/
def goQ (g : Addr → Option Obj) : Nat → List Addr → List Addr → List Addr
  | 0, sn, _ => sn
  | n + 1, sn, fr => match ((fr.flatMap fun a => match g a with
      | some o => refsD o
      | none => []).filter fun a => !(sn.contains a)).eraseDups with
    | nw => goQ g n (sn ++ nw) nw
/-- what n steps of naming reach from the module's names -/
def asQ (g : Addr → Option Obj) (n : Nat) : List Addr := goQ g n [cStatics, mainGlobals] [mainGlobals]
abbrev AlQ : Type := AlX × (Bool × (List FnW × List FnE))
def obsQ (P : Program) (n : Nat) (fa : List Fa) (fn : List DefD) (gs : List GetD) (es : List ErrD) (ys : List Str) (ts : List Tab) (tf : List Defn) (ex : PySem.W.Frag → Bool) (g : Addr → Option Obj) : AlQ :=
  ((obsT fa fn ts (frT g (asQ g n)), ex (frT g (asQ g n)) && tabsB g tf (frT g (asQ g n))), (gs.all (GetD.ok (frT g (asQ g n))) && es.all (ErrD.ok P (frT g (asQ g n)) ys), (gs.map (GetD.seen (frT g (asQ g n))), es.map (ErrD.seen (frT g (asQ g n))))))
structure SaysQ (P : Program) (fa : List Fa) (fn : List DefD) (gs : List GetD) (es : List ErrD) (ys : List Str) (ts : List Tab) (tf : List Defn) (ex : PySem.W.Frag → Bool) (w : World) (h : Heap) (K : PySem.W.Frag) : Prop where
  x : SaysX fa fn ts tf ex w h K
  ok : gs.all (GetD.ok K) = true
  seen : gs.map (GetD.seen K) = gs.map GetD.val
  eok : es.all (ErrD.ok P K ys) = true
  eseen : es.map (ErrD.seen K) = es.map ErrD.val
theorem saysXQ {fa : List Fa} {fn : List DefD} {ts : List Tab} {tf : List Defn} {ex : PySem.W.Frag → Bool} {w : World} {h : Heap} {as : List Addr} (e1 : obsT fa fn ts (frT h.get? as) = valT fn ts w) (e2 : (ex (frT h.get? as) && tabsB h.get? tf (frT h.get? as)) = true) : SaysX fa fn ts tf ex w h (frT h.get? as) := by
  obtain ⟨h1, h2⟩ := ba e2
  have key : ∀ p ∈ tf, PySem.W.codeHdIn (frT h.get? as) (cT (frT h.get? as) p).1 (cT (frT h.get? as) p).2 = true ∧ ∃ o, h.get? (cT (frT h.get? as) p).2 = some o ∧ emptyTab o = true := fun p hp => by
    obtain ⟨h3, h4⟩ := ba (List.all_eq_true.mp h2 p hp)
    refine ⟨h3, ?_⟩
    cases q : h.get? (cT (frT h.get? as) p).2 with
    | none =>
      rw [q] at h4
      cases h4
    | some o =>
      rw [q] at h4
      exact ⟨o, rfl, h4⟩
  exact ⟨e1, h1, fun p hp => (key p hp).1, fun p hp => by
    obtain ⟨_, o, q, z⟩ := key p hp
    exact frT_none q z, fun p hp => by
    obtain ⟨_, o, q, z⟩ := key p hp
    rw [q, emptyTab_eq z]⟩
theorem saysQ_of {P : Program} {n : Nat} {fa : List Fa} {fn : List DefD} {gs : List GetD} {es : List ErrD} {ys : List Str} {ts : List Tab} {tf : List Defn} {ex : PySem.W.Frag → Bool} {w : World} {h : Heap} (e : obsQ P n fa fn gs es ys ts tf ex h.get? = (valX fn ts w, (true, (gs.map GetD.val, es.map ErrD.val)))) : SaysQ P fa fn gs es ys ts tf ex w h (frT h.get? (asQ h.get? n)) := by
  have e1 : obsT fa fn ts (frT h.get? (asQ h.get? n)) = valT fn ts w := congrArg (fun z : AlQ => z.1.1) e
  have e2 : (ex (frT h.get? (asQ h.get? n)) && tabsB h.get? tf (frT h.get? (asQ h.get? n))) = true := congrArg (fun z : AlQ => z.1.2) e
  have e3 : (gs.all (GetD.ok (frT h.get? (asQ h.get? n))) && es.all (ErrD.ok P (frT h.get? (asQ h.get? n)) ys)) = true := congrArg (fun z : AlQ => z.2.1) e
  obtain ⟨e4, e5⟩ := ba e3
  exact ⟨saysXQ e1 e2, e4, congrArg (fun z : AlQ => z.2.2.1) e, e5, congrArg (fun z : AlQ => z.2.2.2) e⟩
def hookQ (P : Program) (n : Nat) (fa : List Fa) (fn : List DefD) (gs : List GetD) (es : List ErrD) (ys : List Str) (ts : List Tab) (tf : List Defn) (ex : PySem.W.Frag → Bool) : PySem.W.Hook where
  α := AlQ
  obs := fun s => obsQ P n fa fn gs es ys ts tf ex s.heap.get?
  val := fun w => (valX fn ts w, (true, (gs.map GetD.val, es.map ErrD.val)))
  says := fun w h => ∃ K : PySem.W.Frag, K.In h ∧ SaysQ P fa fn gs es ys ts tf ex w h K
  of := fun _ _ e => ⟨_, frT_in, saysQ_of e⟩
  keeps := fun _ _ _ ⟨K, hK, c⟩ k => ⟨K, PySem.W.Frag.In.keeps hK k, ⟨⟨c.x.t, c.x.more, c.x.hd, c.x.out, fun p hp => k _ _ (c.x.empty p hp)⟩, c.ok, c.seen, c.eok, c.eseen⟩⟩
theorem obsQ_eq {P : Program} {n : Nat} {fa : List Fa} {fn : List DefD} {gs : List GetD} {es : List ErrD} {ys : List Str} {ts : List Tab} {tf : List Defn} {ex : PySem.W.Frag → Bool} {g : Addr → Option Obj} {s : Shared} (h : ∀ a, g a = s.heap.get? a) : obsQ P n fa fn gs es ys ts tf ex g = (hookQ P n fa fn gs es ys ts tf ex).obs s := by
  have e : g = s.heap.get? := funext h
  rw [e] <;> rfl
section
variable {P : Program} {fa : List Fa} {fn : List DefD} {gs : List GetD} {es : List ErrD} {ys : List Str} {ts : List Tab} {tf : List Defn} {ex : PySem.W.Frag → Bool} {w : World} {h : Heap} {K : PySem.W.Frag}
theorem SaysQ.get (c : SaysQ P fa fn gs es ys ts tf ex w h K) {d : GetD} (hd : d ∈ gs) :
    PropOf K (ga K d.cls) d.fld (prA K d.cls d.fld) (prG K d.cls d.fld) ∧ ∃ fd, FunD K d.name d.qual d.params d.body d.scope [] [] (prG K d.cls d.fld) fd := by
  obtain ⟨i, hi, e⟩ := List.mem_iff_getElem.mp hd
  have e1 := congrArg (fun l : List FnW => l[i]?) c.seen
  have e2 : gs[i]? = some d := by rw [List.getElem?_eq_getElem hi, e]
  simp only [List.getElem?_map, e2, Option.map_some, Option.some.injEq] at e1
  exact GetD.funD e1 (List.all_eq_true.mp c.ok d hd)
theorem SaysQ.err {mg : Str → Option Value} (c : SaysQ P fa fn gs es ys ts tf ex w h K) (X : K.In h) (G : h.Ns mainGlobals mg) {d : ErrD} (hd : d ∈ es) (F : ErrF d) : ErrX.ErrT P K mg d.name d.fld (ga K d.name) ∧ ErrS K ys d.name := by
  obtain ⟨i, hi, e⟩ := List.mem_iff_getElem.mp hd
  have e1 := congrArg (fun l : List FnE => l[i]?) c.eseen
  have e2 : es[i]? = some d := by rw [List.getElem?_eq_getElem hi, e]
  simp only [List.getElem?_map, e2, Option.map_some, Option.some.injEq] at e1
  exact ErrD.errT X G F e1 (List.all_eq_true.mp c.eok d hd)
theorem SaysQ.tabd (c : SaysQ P fa fn gs es ys ts tf ex w h K) {t : Tab} (ht : t ∈ ts) : ∃ es n, KDict K w (t.1 K) es n := by
  obtain ⟨i, hi, e⟩ := List.mem_iff_getElem.mp ht
  exact c.x.t.tab i (by rw [List.getElem?_eq_getElem hi, e])
end
end RD

/-! own layer: further rules (behind EXC) -/
namespace RD
open PySem PySem.Spec PyProof.Rows L2 He
section
variable {X : Cx}
/-- l.remove(x) of a list of data: the first item that is == x goes -/
def rRemD (K : PySem.W.Frag) : V → List V → Hp → VK → Prop := fun x vs H Q => ∃ (l : Addr) (xs : List V) (y : V) (d : PyData) (ds : List PyData) (j : Nat), x = .ref l ∧ vs = [y] ∧ H l = some (.lst xs) ∧ DpAll K H xs ds ∧ Dp K H y d ∧
  PyData.plainAll ds = true ∧ d.plain = true ∧ d.depth ≤ 60 ∧ PySem.SeqAt.dataPlace ds d = some j ∧ Q .non (upd H l (.lst (xs.eraseIdx j)))
theorem mt_remD (hu : X.A.units + 65 < cLine) : MtM X "list.remove" (rRemD X.K) := by
  intro pins s σ H x xs v us Q I rx rxs h
  obtain ⟨l, vs, y, d, ds, j, rfl, rfl, hH, hda, hy, pl, pd, dep, hp, q⟩ := h
  cases rx
  obtain ⟨u, rfl, ru⟩ := rxs.one
  obtain ⟨z, its, n, r, hl, e⟩ := I.lstM hH
  obtain ⟨bs, r1⟩ := Dp.reads I d y u hy ru
  obtain ⟨as, h4⟩ := Dp.readsAll I ds _ its hda r
  have hn : its.length = ds.length := SeqAt.ReadsAll.length ds its as h4
  refine PySem.SeqAt.remove_list_data (vs := its.toArray) ⟨_, e, rfl, n, rfl⟩ (show ReadsAll s.heap its.toArray.toList ds as from h4) r1 pl pd (by omega) hp (by rw [List.size_toArray]; omega) ?_
  have rr := r.eraseIdx j
  refine ⟨.non, _, I.lset (its' := its.eraseIdx j) (t' := s.toks) hH e ?_ rr ?_, rfl, q⟩
  · show its.toArray.eraseIdxIfInBounds j = (its.eraseIdx j).toArray
    rw [List.eraseIdxIfInBounds_toArray]
  · have z2 : (vs.eraseIdx j).length ≤ vs.length := List.length_eraseIdx_le vs j
    omega
end
def rIsNB : R2 := fun x y H Q => ∃ a b, x = .bl a ∧ y = .bl b ∧ Q (.bl (!decide (a = b))) H
theorem op_isNB {X : Cx} : OpR X (compareOp .IsNot) rIsNB := by
  intro pins s σ H x y v u Q I rx ry h
  obtain ⟨a, b, rfl, rfl, q⟩ := h
  cases rx
  cases ry
  refine wpAny_of_eq (show compareOp .IsNot (.bool a) (.bool b) = pure (.bool (!decide (a = b))) from ?_) ⟨.bl _, H, I, rfl, q⟩
  cases a <;> cases b <;> rfl
def rIsB' : R2 := fun x y H Q => ∃ a b, x = .bl a ∧ y = .bl b ∧ Q (.bl (decide (a = b))) H
theorem op_isB {X : Cx} : OpR X (compareOp .Is) rIsB' := by
  intro pins s σ H x y v u Q I rx ry h
  obtain ⟨a, b, rfl, rfl, q⟩ := h
  cases rx
  cases ry
  refine wpAny_of_eq (show compareOp .Is (.bool a) (.bool b) = pure (.bool (decide (a = b))) from ?_) ⟨.bl _, H, I, rfl, q⟩
  cases a <;> cases b <;> rfl
theorem rd_isNB {a b : Bool} {H : Hp} {Q : VK} (q : Q (.bl (!decide (a = b))) H) : rIsNB (.bl a) (.bl b) H Q := ⟨a, b, rfl, rfl, q⟩
theorem rd_isB {a b : Bool} {H : Hp} {Q : VK} (q : Q (.bl (decide (a = b))) H) : rIsB' (.bl a) (.bl b) H Q := ⟨a, b, rfl, rfl, q⟩
end RD
theorem _root_.L2.Room.units65 {k : Nat} {A : PySem.Around} (r : L2.Room k A) : A.units + 65 < PySem.cLine := by
  have := r.un
  omega

namespace L2
open PySem PySem.Spec PyProof.Rows GenW

section
variable {M : Model} {A : Around} {R : GenEnd} {Y : Protocol} {n : Nat} {s₀ : Shared} {c : Code} {fs : List Frame} {s : Shared} {env : Env}
  {K : Flow → Sem PySem.Fin} {J : Value → Sem PySem.Fin} {gd : Bool → Bool} {lv : List Value → List Value}
theorem seg_For {tg iter : Expr} {body : List Stmt} {pos : Pos}
    (h : wpAny M (A.over c fs) (eval iter env) (fun x s₁ => wpAny M (A.over c fs) (pyIter x) (fun it s₂ => ∀ p, Seg M A R Y n s₀ (.forLoop tg it body [] env) (M.den (.forLoop tg it body [] env))
      (.ret (fun r => ((match r with | .ok f => (.pure f : Sem Flow) | .error e => .raise e).onRaise (cameBack env)).wrap K J gd lv) none (gd false) (lv []) c p [] :: fs) s₂) (fun x s' => Seg M A R Y n s₀ c (J x) fs s') s₁) (fun x s' => Seg M A R Y n s₀ c (J x) fs s') s)
    (hs : ∀ x, foldedSetIterable iter env x = pure x) :
    Seg M A R Y n s₀ c ((exec (.For tg iter body [] pos) env).wrap K J gd lv) fs s := by
  rw [exec_For]
  refine seg_bind_wrap (wpAny_standAt ?_)
  refine seg_bind_wrap (wpAny_mono h (fun x s₁ h₁ => ?_) fun _ _ h' => h')
  refine seg_bind_wrap (wpAny_of_eq (hs x) ?_)
  refine seg_bind_wrap (wpAny_standAt ?_)
  refine seg_bind_wrap (wpAny_holding (wpAny_mono h₁ (fun it s₂ h₂ => ?_) fun _ _ h' => h'))
  exact seg_call h₂
end
section
variable {prog : Program} {w : World} {A : Around} {R : GenEnd} {Y : Protocol} {n : Nat} {s₀ : Shared} {fs : List Frame} {s : Shared} {env : Env}
theorem seg_forLoop {tg : Expr} {it : Value} {body : List Stmt}
    (h : wpAny (model prog w) (A.over (.forLoop tg it body [] env) fs) (pyNext it) (fun r s₁ => match r with
      | none => Seg (model prog w) A R Y n s₀ (.forLoop tg it body [] env) (.pure (.again (.block [] env))) fs s₁
      | some v => wpAny (model prog w) (A.over (.forLoop tg it body [] env) fs) (letOwnedTupleGo tg it v) (fun _ s₂ => wpAny (model prog w) (A.over (.forLoop tg it body [] env) fs) (assign tg env v) (fun _ s₃ =>
          Seg (model prog w) A R Y n s₀ (.forLoop tg it body [] env) ((execs body env).wrap (fun f => match f with
            | .next | .cont => .pure (.again (.forLoop tg it body [] env))
            | .brk => .pure (.done .next)
            | .ret v => .pure (.done (.ret v))) (fun e => (do noteFrame e env; theTreesLotGoes e : Sem Unit).wrap (fun _ => .raise e) .raise id id) id id) fs s₃)
          (fun x s' => Seg (model prog w) A R Y n s₀ (.forLoop tg it body [] env) ((do noteFrame x env; theTreesLotGoes x : Sem Unit).wrap (fun _ => .raise x) .raise id id) fs s') s₂)
        (fun x s' => Seg (model prog w) A R Y n s₀ (.forLoop tg it body [] env) ((do noteFrame x env; theTreesLotGoes x : Sem Unit).wrap (fun _ => .raise x) .raise id id) fs s') s₁)
      (fun x s' => Seg (model prog w) A R Y n s₀ (.forLoop tg it body [] env) ((do noteFrame x env; theTreesLotGoes x : Sem Unit).wrap (fun _ => .raise x) .raise id id) fs s') s) :
    Seg (model prog w) A R Y n s₀ (.forLoop tg it body [] env) ((model prog w).den (.forLoop tg it body [] env)) fs s := by
  have ex : ∀ e : Value, ((do noteFrame e env; theTreesLotGoes e : Sem Unit) >>= fun _ => (Sem.raise e : Sem PySem.Fin)) = (do noteFrame e env; theTreesLotGoes e : Sem Unit).wrap (fun _ => .raise e) .raise id id := fun e => Sem.bind_eq_wrap _ _
  show Seg _ A R Y n s₀ _ ((forTurn tg it body [] env).onRaise (fun x => do noteFrame x env; theTreesLotGoes x)) fs s
  unfold forTurn
  rw [Sem.onRaise_eq_wrap]
  refine seg_bind_wrap (wpAny_standAt ?_)
  refine seg_bind_wrap (wpAny_onRaise (wpAny_mono h (fun r s₁ h₁ => ?_) fun x s' hx => wpAny_standAt ?_))
  · cases r with
    | none => exact h₁
    | some v =>
      refine seg_bind_wrap (wpAny_mono h₁ (fun _ s₂ h₂ => ?_) fun x s' hx => ?_)
      · refine seg_bind_wrap (wpAny_mono h₂ (fun _ s₃ h₃ => ?_) fun x s' hx => ?_)
        · rw [Sem.bind_eq_wrap', Sem.wrap_wrap]
          refine Eq.mp (congrArg (fun t => Seg _ A R Y n s₀ _ t fs s₃) (Sem.wrap_congr (execs body env) _ _ (fun f => ?_) (fun e => ?_)).symm) h₃
          · cases f <;> rfl
          · exact ex e
        · rw [← ex] at hx
          exact hx
      · rw [← ex] at hx
        exact hx
  · rw [← ex] at hx
    exact hx
end
/-- W: the invariant by the turn, a measure and what is out; N: what the body is to reach -/
def tGFor (wi : TI) (g : TG) (tb : TGn) : TGn := fun D ys σ H => wi σ H fun J H1 => ∃ W : Nat → Nat → List V → St → Hp → Prop, (∃ m, W 0 m ys σ H1) ∧ ∀ i m ys σ H, W i m ys σ H →
  (J.stop i H ∧ D.nx ys σ H) ∨ (J.go i H ∧ ∃ N : List V → St → Hp → Prop, (∀ ys' σ' H', N ys' σ' H' → ∃ m', m' < m ∧ W (i + 1) m' ys' σ' H') ∧ ∀ x H', J.yld i H x H' → g x σ H' fun σ2 H2 => tb { D with nx := N, ct := N, bk := D.nx } ys σ2 H2)
section
variable {X : Cx}
theorem gs_for {tg iter : Expr} {body : List Stmt} {wi : TI} {g : TG} {tb : TGn} {pos : Pos} (hp : PassesOwn (model X.prog X.w) X.A X.env X.xe) (hc : X.calm = true) (hi : PI X tg iter wi) (hg : PG X tg g) (hb : GSs X body tb)
    (hs : ∀ x, foldedSetIterable iter X.env x = pure x := by intro _; rfl) : GS X (.For tg iter body [] pos) (tGFor wi g tb) := by
  refine ⟨fun A S ip R n ys s₀ c fs K J gd lv s σ H D g0 hn k hI ht => ?_⟩
  obtain ⟨acc, cc, r, I⟩ := hI
  refine seg_For ?_ hs
  rw [g0.over]
  refine wpAny_mono (hi.run _ s σ H _ I ht) (fun v s1 h1 => wpAny_mono h1 (fun itv s2 h2 p => ?_) fun x s' hx => k.exc n s₀ x s' hx) fun x s' hx => k.exc n s₀ x s' hx
  obtain ⟨it, fp, tn, Jt, H2, e, I2, T, st2, f2, W, ⟨m0, w0⟩, turn⟩ := h2
  subst e
  have gl := fun (kk : Result → Sem PySem.Fin) => gc_loop (k := kk) (c' := .forLoop tg (.ref it) body [] X.env) (l := lv []) (kp := []) (p := p) g0 rfl rfl
  have fS : S ∉ fp := fun hS => (f2 S hS).2.2.2.2.2 (S, lstObj acc cc) (List.mem_append_right _ List.mem_cons_self) rfl
  have fip : ∀ b ∈ fp, ∀ q ∈ ip, q.1 ≠ b := fun b hb q hq => (f2 b hb).2.2.2.2.2 q (List.mem_append_right _ (List.mem_cons_of_mem _ hq))
  have stat : ∀ {H' : Hp} {acc' : Array Value} {c' : Nat}, (∀ b ∈ fp, H' b = none) → ∀ b ∈ fp, FpOk X ((S, lstObj acc' c') :: ip) H' b := fun hn b hb => by
    obtain ⟨q1, q2, q3, q4, q5, q6⟩ := f2 b hb
    refine ⟨hn b hb, q2, q3, q4, q5, fun q hq => ?_⟩
    rcases List.mem_append.mp hq with hq | hq
    · exact q6 q (List.mem_append_left _ hq)
    · rcases List.mem_cons.mp hq with rfl | hq
      · exact fun z => fS (by rw [show S = b from z]; exact hb)
      · exact q6 q (List.mem_append_right _ (List.mem_cons_of_mem _ hq))
  have loop : ∀ (m i n : Nat) (ys : List V) (s₀ s : Shared) (σ : St) (H : Hp), n + ys.length = sizeLine → W i m ys σ H → tn i s.heap → (∀ b ∈ fp, H b = none) → GI X S ip ys σ H s →
      Seg (model X.prog X.w) A R (GY X S) n s₀ (.forLoop tg (.ref it) body [] X.env) ((model X.prog X.w).den (.forLoop tg (.ref it) body [] X.env))
        (.ret (fun r => ((match r with | .ok f => (.pure f : Sem Flow) | .error e => .raise e).onRaise (cameBack X.env)).wrap K J gd lv) none (gd false) (lv []) c p [] :: fs) s := by
    intro m
    induction m using Nat.strongRecOn with
    | ind m ih =>
      intro i n ys s₀ s σ H hn w htn hfp hI
      have ee : ∀ (n : Nat) (s₀ : Shared) (x : Value) (s' : Shared), X.xe x s' → Seg (model X.prog X.w) A R (GY X S) n s₀ (.forLoop tg (.ref it) body [] X.env)
          ((do noteFrame x X.env; theTreesLotGoes x : Sem Unit).wrap (fun _ => .raise x) .raise id id)
          (.ret (fun r => ((match r with | .ok f => (.pure f : Sem Flow) | .error e => .raise e).onRaise (cameBack X.env)).wrap K J gd lv) none (gd false) (lv []) c p [] :: fs) s' := fun n s₀ x s' hx => by
        refine seg_wrap ?_
        rw [(gl _).over]
        refine wpAny_bind (wpAny_mono (hp x s' hx) (fun _ s'' hcb => wpAny_theTreesLotGoes ?_) fun y s'' hcb => ?_)
        · exact seg_leaf (.error x) (seg_cameBack g0 k hcb)
        · exact seg_leaf (.error y) (seg_cameBack g0 k hcb)
      refine seg_forLoop ?_
      rw [(gl _).over]
      obtain ⟨acc, cc, r, I⟩ := hI
      rcases turn i m ys σ H w with ⟨stop, qn⟩ | ⟨go, N, hN, step⟩
      · refine wpAny_mono (T.done X rfl rfl rfl hc i _ s σ H X.xe I (stat hfp) htn stop) (fun r' s4 h4 => ?_) fun x s' hx => ee n s₀ x s' hx
        obtain ⟨rfl, I4⟩ := h4
        refine seg_again rfl ?_
        exact seg_leaf (.ok .next) (k.ok n ys s₀ s4 .next hn ⟨σ, H, ⟨acc, cc, r, I4⟩, qn⟩)
      · refine wpAny_mono (T.item X rfl rfl rfl hc i _ s σ H X.xe I (stat hfp) htn go) (fun r' s4 h4 => ?_) fun x s' hx => ee n s₀ x s' hx
        obtain ⟨u, rfl, h4⟩ := h4
        refine wpAny_mono h4 (fun _ s5 h5 => ?_) fun x s' hx => ee n s₀ x s' hx
        obtain ⟨x, H5, I5, r5, y5, st5, fr5⟩ := h5
        have I5' := I5.pinned (stat fr5) (T.obj _ _ st5)
        refine wpAny_mono (hg.run _ s5 σ H5 x u _ I5' r5 (step x H5 y5)) (fun _ s6 h6 => ?_) fun x s' hx => ee n s₀ x s' hx
        obtain ⟨σ6, H6, I6, q6⟩ := h6
        have gl6 : GC X S (ip ++ pinsAt fp s5.heap) A (.forLoop tg (.ref it) body [] X.env) (.ret (fun r => ((match r with | .ok f => (.pure f : Sem Flow) | .error e => .raise e).onRaise (cameBack X.env)).wrap K J gd lv) none (gd false) (lv []) c p [] :: fs) id := by
          obtain ⟨a1, a2, a3, a4, a5, a6, a7⟩ := gl (fun r => ((match r with | .ok f => (.pure f : Sem Flow) | .error e => .raise e).onRaise (cameBack X.env)).wrap K J gd lv)
          refine ⟨a1, fun q hq => ?_, a3, a4, a5, a6, a7⟩
          rcases List.mem_append.mp hq with hq | hq
          · exact a2 q hq
          · exact fun z => fS (by rw [← z]; exact (of_pinsAt hq).1)
        have back : ∀ {ys' : List V} {σ7 : St} {H7 : Hp} {s7 : Shared}, GI X S (ip ++ pinsAt fp s5.heap) ys' σ7 H7 s7 → GI X S ip ys' σ7 H7 s7 := fun {ys' σ7 H7 s7} h => by
          obtain ⟨acc7, c7, r7, I7⟩ := h
          exact ⟨acc7, c7, r7, Inv.unpinned (pl := pinsAt fp s5.heap) I7⟩
        refine hb.run A S (ip ++ pinsAt fp s5.heap) R n ys s₀ _ _ _ _ id id s6 σ6 H6 { D with nx := N, ct := N, bk := D.nx } gl6 hn ⟨fun n' ys' s₀' s7 f hn' hs => ?_, fun n' s₀' x s7 hx => ee n' s₀' x s7 hx⟩ ⟨acc, cc, r, I6⟩ q6
        have again : ∀ {σ7 : St} {H7 : Hp}, GI X S (ip ++ pinsAt fp s5.heap) ys' σ7 H7 s7 → N ys' σ7 H7 → Seg (model X.prog X.w) A R (GY X S) n' s₀' (.forLoop tg (.ref it) body [] X.env) ((model X.prog X.w).den (.forLoop tg (.ref it) body [] X.env))
            (.ret (fun r => ((match r with | .ok f => (.pure f : Sem Flow) | .error e => .raise e).onRaise (cameBack X.env)).wrap K J gd lv) none (gd false) (lv []) c p [] :: fs) s7 := fun {σ7 H7} I7 n7 => by
          obtain ⟨m', hm, w7⟩ := hN ys' σ7 H7 n7
          have I8 := I7
          obtain ⟨acc7, c7, r7, I7⟩ := I7
          have pin7 := fun b hb o e => I7.pin (b, o) (List.mem_append_right _ (List.mem_cons_of_mem _ (List.mem_append_right _ (mem_pinsAt (fp := fp) (h := s5.heap) hb e))))
          refine ih m' hm (i + 1) n' ys' s₀' s7 σ7 H7 hn' w7 (T.keep _ _ _ st5 fun b hb o e => (pin7 b hb o e).1) (fun b hb => ?_) (back I8)
          obtain ⟨o, e, d⟩ := T.obj _ _ st5 b hb
          exact (pin7 b hb o e).2.1
        cases f with
        | next => obtain ⟨σ7, H7, I7, n7⟩ := hs; exact seg_again rfl (again I7 n7)
        | cont => obtain ⟨σ7, H7, I7, n7⟩ := hs; exact seg_again rfl (again I7 n7)
        | brk => obtain ⟨σ7, H7, I7, q7⟩ := hs; exact seg_leaf (.ok .next) (k.ok n' ys' s₀' s7 .next hn' ⟨σ7, H7, back I7, q7⟩)
        | ret v => obtain ⟨x7, σ7, H7, I7, r7, q7⟩ := hs; exact seg_leaf (.ok (.ret v)) (k.ok n' ys' s₀' s7 (.ret v) hn' ⟨x7, σ7, H7, back I7, r7, q7⟩)
  exact loop m0 0 n ys s₀ s2 σ H2 hn w0 st2 (fun b hb => (f2 b hb).1) ⟨acc, cc, r, I2⟩
end
end L2

/-! ### ranges of any size -/
namespace L2
open PySem PySem.Spec PyProof.Rows
theorem turn_long {P : Program} {w : World} {K : PySem.W.Frag} {tg : Expr} (it : Addr) (lo : Int) (n : Nat) : Turn P w K tg (Itr lo n) [it] it (fun i h => IsLongIter h it (lo + (i : Nat) * 1) ((n : Int) - (i : Nat)) 1) where
  mem := by simp
  obj := fun i h st b hb => by
    have e : b = it := by simpa using hb
    subst e
    exact ⟨_, st, fun v z => by
      have z' : Data.fields _ = Data.cell v := z
      cases z'⟩
  keep := fun i h h' st k => k it (by simp) _ st
  item := by
    intro X hP hw hK hc i pins s σ H E I hf st hg
    subst hP hw hK
    obtain ⟨f0, f1, f2, f3, f4, f5⟩ := hf it (by simp)
    have W := Walks.longrange (prog := X.prog) (w := X.w) (I.ok.hd hc) it lo 1 n
    refine W.item i s _ _ hg st fun v h' tk hv st' kk => ?_
    obtain ⟨t, rfl⟩ := hv
    have I1 : Inv X pins σ H { s with heap := h', toks := tk } := I.turned (fun b o hb e => kk b o (by simpa using hb) e) f0 f1 f3 f4 f5
    refine ⟨_, rfl, go_of (s := { s with heap := h', toks := tk }) (n := "longrange_iterator") st' rfl rfl (by decide) ⟨.int (lo + i), H, I1, ⟨t, ?_⟩, ⟨rfl, rfl⟩, st', fun b hb => (hf b hb).1⟩⟩
    rw [Int.mul_one]
  done := by
    intro X hP hw hK hc i pins s σ H E I hf st hg
    subst hP hw hK
    obtain ⟨f0, f1, f2, f3, f4, f5⟩ := hf it (by simp)
    exact wpAny_pyNext_long_end (I.ok.hd hc) st (by have : n ≤ i := hg; omega) fun h' eb => ⟨rfl, I.turned (t' := s.toks) (fun b o hb e => eb b o hb e) f0 f1 f3 f4 f5⟩
  self := fun _ _ _ _ _ st h => wpAny_pyIter_longiter st h
section
variable {X : Cx} {tg : Expr}
theorem range_itB {pins : List (Addr × Obj)} {σ : St} {H : Hp} {s : Shared} {R : It → Hp → Prop} {E : Value → Shared → Prop} {lo hi : Int} {t u v : Tok} {tk : Nat} (I : Inv X pins σ H s)
    (q : R (Itr lo (hi - lo).toNat) H) : wpAny (model X.prog X.w) X.A (pyIter (.ref s.heap.objs.size)) (PIE X pins σ tg R) E { s with heap := s.heap.push { cls := .type "range", data := .fields #[.int lo t, .int hi u, .int 1 v] }, toks := tk } := by
  have e1 : lo + ((0 : Nat) : Int) * 1 = lo := by simp
  have e2 : (((hi - lo).toNat : Nat) : Int) - ((0 : Nat) : Int) = Builtin.Range.rangeSize lo hi 1 := by rw [rangeSize_one]; split <;> omega
  have I1 : Inv X pins σ H { s with heap := s.heap.push { cls := .type "range", data := .fields #[.int lo t, .int hi u, .int 1 v] }, toks := tk } := I.kept fun b o e => Heap.get?_push_of_some _ e
  cases hs : Builtin.Range.small lo hi 1 with
  | true =>
    refine wpAny_pyIter_range (IsRange.new ..) hs ?_
    refine ⟨(s.heap.push { cls := .type "range", data := .fields #[.int lo t, .int hi u, .int 1 v] }).objs.size, [(s.heap.push { cls := .type "range", data := .fields #[.int lo t, .int hi u, .int 1 v] }).objs.size], _, _, H, rfl,
      I1.kept (t' := tk) fun b o e => Heap.get?_push_of_some _ e, turn_range _ lo (hi - lo).toNat, ?_, fun b hb => ?_, q⟩
    · show IsRangeIter _ _ (lo + ((0 : Nat) : Int) * 1) ((((hi - lo).toNat : Nat) : Int) - ((0 : Nat) : Int)) 1
      rw [e1, e2]
      exact Heap.get?_push_size _ rfl
    · have e : b = (s.heap.push { cls := .type "range", data := .fields #[.int lo t, .int hi u, .int 1 v] }).objs.size := by simpa using hb
      subst e
      exact I1.fpOk (Nat.le_refl _) (I1.hok.fresh (Nat.le_refl _))
  | false =>
    refine wpAny_pyIter_longrange (IsRange.new ..) hs ?_
    refine ⟨(s.heap.push { cls := .type "range", data := .fields #[.int lo t, .int hi u, .int 1 v] }).objs.size, [(s.heap.push { cls := .type "range", data := .fields #[.int lo t, .int hi u, .int 1 v] }).objs.size], _, _, H, rfl,
      I1.kept (t' := tk) fun b o e => Heap.get?_push_of_some _ e, turn_long _ lo (hi - lo).toNat, ?_, fun b hb => ?_, q⟩
    · show IsLongIter _ _ (lo + ((0 : Nat) : Int) * 1) ((((hi - lo).toNat : Nat) : Int) - ((0 : Nat) : Int)) 1
      rw [e1, e2]
      exact Heap.get?_push_size _ rfl
    · have e : b = (s.heap.push { cls := .type "range", data := .fields #[.int lo t, .int hi u, .int 1 v] }).objs.size := by simpa using hb
      subst e
      exact I1.fpOk (Nat.le_refl _) (I1.hok.fresh (Nat.le_refl _))
def iRng2B (ta : TA) : TI := fun σ H R => ta σ H fun vs H1 => ∃ i j : Int, vs = [.int i, .int j] ∧ R (Itr i (j - i).toNat) H1
theorem pi_range2B {a b : Expr} {ta : TA} {p pos : Pos} (hg : Gl X "range") (hm : X.mg "range" = none) (ha : PA X [a, b] ta) (hs : starEach [a, b] X.env = [(false, eval a X.env), (false, eval b X.env)] := by rfl) (hs2 : starEach [b] X.env = [(false, eval b X.env)] := by rfl) :
    PI X tg (.Call (.Name "range" p) [a, b] [] pos) (iRng2B ta) := by
  refine ⟨fun pins s σ H R I h => ?_⟩
  refine Call_ (ld_blt I hg hm boot_range (PyProof.Rows.callWith_type1 (thn (ha.run pos pins s σ H _ I h) fun us s1 ⟨vs, H1, I1, r1, q1⟩ => ?_) (by rw [hs, hs2]) (by rw [hs2]; rfl)))
  obtain ⟨i, j, e, q⟩ := q1
  subst e
  cases r1 with
  | cons r rr =>
    cases rr with
    | cons r' rr =>
      cases rr
      obtain ⟨t, rfl⟩ := r
      obtain ⟨t', rfl⟩ := r'
      exact call_range_2 (range_itB I1 q)
end
end L2

namespace RD
open PySem PySem.Spec PyProof.Rows L2 C8 GenW
section
variable {P : Program} {w : World} {K : PySem.W.Frag} {mg : Str → Option Value} {base : Heap} {x qual : Str} {scope : Scope} {params : Arguments} {body : List Stmt} {f : Addr} {fd : FuncData} {dvs : List V} {kws : List (Str × V)}
/-- a generator def's promise from its body -/
theorem fnGD {N ps : List Str} {k : Nat} {sp : SpG} (F : FunD K x qual params body scope dvs kws f fd) (S : GScope N ps scope) (len : ∀ vs H Q E, sp vs H Q E → vs.length = ps.length)
    (hbody : ∀ (cdv : Value) (A : Around) (outer : List Env) (s : Shared) (H : Hp) (vs : List V) (Q : List V → Hp → Prop) (E : XK) (pn : List (Addr × Obj)), Room k (A.deeper (envOfC qual scope s.heap.objs.size f cdv)) → sp vs H Q E →
      ∃ t, GSs (gcxOf P w K mg base N qual scope f cdv A outer s H E pn) body t ∧ t ⟨fun ys _ H' => Q ys H', fun ys v H' => v = .non ∧ Q ys H', fun _ _ _ => False, fun _ _ _ => False⟩ [] (start N vs) H) : GFn P w K mg base (k + 1) f fd ps sp := by
  obtain ⟨oc, od, dV, kV, doc, pm, an, cdv, ct, osl, rfl, lk, hcd, _, _⟩ := F.ex
  exact gfn_of lk hcd S len fun A outer s H vs Q E pn hr hsp => hbody cdv A outer s H vs Q E pn hr hsp
structure GalX (P : Program) (w : World) (K : PySem.W.Frag) (mg : Str → Option Value) (base : Heap) (k : Nat) (x : Str) (sp : SpG) (dvs : List V) : Prop where
  ex : ∃ (f : Addr) (fd : FuncData) (ps : List Str) (ds : List Value), GFn P w K mg base k f fd ps sp ∧ mg x = some (.ref f) ∧ PySem.W.keepIn K (.ref f) = true ∧ Binds K fd ps ds ∧ Vals dvs ds
end
theorem passG {P : Program} {w : World} {X : Cx} : Passes (CX P w) X C8.E0 := fun _ _ _ _ _ _ _ c => by
  obtain ⟨_, _, _, _, _, _, _, _, _, _, _, _, h⟩ := c
  exact h.elim
section
variable {X : Cx} {k j : Nat} {x : Str} {sp : SpG} {dvs : List V} {e : Expr} {es : List Expr} {t : TA} {p p2 pos pos2 : Pos}
theorem pe_listGal (c : GalX X.prog X.w X.K X.mg X.base k x sp dvs) (hr : Room j X.A) (hk : k + 3 ≤ j) (hg : Gl X x) (hgl : Gl X "list") (hml : X.mg "list" = none) (ha : PA X (e :: es) t)
    (hdb : (x == ("__debug__" : Str)) = false := by decide) (he : starEach (e :: es) X.env = (false, eval e X.env) :: starEach es X.env := by rfl) (hpl : (backTo pos2 (starEach es X.env)).any (·.1) = false := by rfl)
    (he2 : starEach [Expr.Call (.Name x p2) (e :: es) [] pos2] X.env = (false, eval (.Call (.Name x p2) (e :: es) [] pos2) X.env) :: starEach [] X.env := by rfl) :
    PE X (.Call (.Name "list" p) [.Call (.Name x p2) (e :: es) [] pos2] [] pos) (tListG (tCallG sp dvs C8.E0 t)) := by
  obtain ⟨f, fd, ps, ds, F, hm, kp, b, d⟩ := c.ex
  exact pe_listG (k := k) (pgen_call F (hr.mono (by omega)) hg hm kp b d ha hdb he hpl) passG (fun _ _ _ h => h.elim) (hr.mono hk) hgl hml (by decide +kernel) (by decide) (by decide) he2
end
section
variable {K : PySem.W.Frag} {σ : L2.St} {H : Hp} {nx : List V → L2.St → Hp → Prop} {rt : List V → VK} {bk ct : List V → L2.St → Hp → Prop} {ys : List V}
theorem rd_gthen {t u : TGn} (h : t ⟨fun ys' σ' H' => u ⟨nx, rt, bk, ct⟩ ys' σ' H', rt, bk, ct⟩ ys σ H) : tGThen t u ⟨nx, rt, bk, ct⟩ ys σ H := h
theorem rd_gplain {t : TS} (h : t ⟨fun σ H => nx ys σ H, fun v H => rt ys v H, fun σ H => bk ys σ H, fun σ H => ct ys σ H⟩ σ H) : tPlain t ⟨nx, rt, bk, ct⟩ ys σ H := h
theorem rd_gend (h : nx ys σ H) : tG0 ⟨nx, rt, bk, ct⟩ ys σ H := h
theorem rd_gyield {te : TE} (hl : ys.length < sizeLine) (h : te σ H fun x H1 => nx (ys ++ [x]) σ H1) : tGYield te ⟨nx, rt, bk, ct⟩ ys σ H := ⟨hl, h⟩
def GForG (J : It) (g : TG) (t : TGn) (D : GEnds) (ys : List V) (σ : L2.St) (H1 : Hp) : Prop := ∃ W : Nat → Nat → List V → L2.St → Hp → Prop, (∃ m, W 0 m ys σ H1) ∧ ∀ i m ys σ H, W i m ys σ H →
  (J.stop i H ∧ D.nx ys σ H) ∨ (J.go i H ∧ ∃ N : List V → L2.St → Hp → Prop, (∀ ys' σ' H', N ys' σ' H' → ∃ m', m' < m ∧ W (i + 1) m' ys' σ' H') ∧ ∀ x H', J.yld i H x H' → g x σ H' fun σ2 H2 => t { D with nx := N, ct := N, bk := D.nx } ys σ2 H2)
theorem rd_gfor {wi : TI} {g : TG} {t : TGn} {D : GEnds} (h : wi σ H fun J H1 => GForG J g t D ys σ H1) : tGFor wi g t D ys σ H := h
theorem gforR_by {lo : Int} {n : Nat} {g : TG} {t : TGn} (Pv : Nat → List V → L2.St → Hp → Prop) (h0 : Pv 0 ys σ H)
    (hs : ∀ (i : Nat) ys σ H, i < n → Pv i ys σ H → g (.int (lo + i)) σ H fun σ2 H2 => t ⟨Pv (i + 1), rt, nx, Pv (i + 1)⟩ ys σ2 H2) (hd : ∀ ys σ H, Pv n ys σ H → nx ys σ H) : GForG (Itr lo n) g t ⟨nx, rt, bk, ct⟩ ys σ H := by
  refine ⟨fun i m ys σ H => m = n - i ∧ i ≤ n ∧ Pv i ys σ H, ⟨n, by simp, Nat.zero_le _, h0⟩, ?_⟩
  rintro i m ys σ H ⟨rfl, hi, p⟩
  by_cases hlt : i < n
  · refine .inr ⟨hlt, Pv (i + 1), fun ys' σ' H' p' => ⟨n - (i + 1), by omega, rfl, hlt, p'⟩, fun x H' y => ?_⟩
    obtain ⟨e, y⟩ := y
    subst e
    subst y
    exact hs i ys σ _ hlt p
  · have e : i = n := by omega
    subst e
    exact .inl ⟨Nat.le_refl _, hd ys σ H p⟩
end
end RD

namespace RD
open PySem PySem.Spec PyProof.Rows L2 C8 GenW
section
variable {K : PySem.W.Frag} {σ : L2.St} {H : Hp} {Q : VK}
theorem rd_iRng2B {ar : TA} {R : It → Hp → Prop} (h : ar σ H fun vs H1 => ∃ i j : Int, vs = [.int i, .int j] ∧ R (Itr i (j - i).toNat) H1) : iRng2B ar σ H R := h
theorem rd_sortedI {a : Addr} {ns : List Int} (h : H a = some (.lst (ns.map V.int))) (q : ∀ (os : List Int) (p : Addr), os.Perm ns → os.Pairwise (· ≤ ·) → H p = none → Q (.ref p) (upd H p (.lst (os.map V.int)))) : rSortedI K [.ref a] H Q := ⟨a, ns, rfl, SqL.of h, q⟩
theorem rd_listG {tg : TGen} (h : tg σ H fun out H2 => ∀ p, H2 p = none → Q (.ref p) (upd H2 p (.lst out))) : tListG tg σ H Q := h
theorem rd_callG {sp : SpG} {dvs : List V} {E : XK} {t : TA} {c : List V → Hp → Prop} (h : t σ H fun vs H1 => sp (vs ++ dvs) H1 c E) : tCallG sp dvs E t σ H c := h
end
theorem sort_uniq {a b : List Int} (p : a.Perm b) (h1 : a.Pairwise (· ≤ ·)) (h2 : b.Pairwise (· ≤ ·)) : a = b := List.Perm.eq_of_pairwise (fun _ _ _ _ => Int.le_antisymm) h1 h2 p
end RD

/-! ### walks over a dict that stays -/
namespace RD
open PySem PySem.Spec PyProof.Rows L2 C8 GenW
section
variable {K : PySem.W.Frag} {σ : L2.St} {H : Hp} {Q : VK} {nx : L2.St → Hp → Prop} {rt : VK} {bk ct : L2.St → Hp → Prop} {te : TE} {tt : TT} {t : TS}
theorem rd_lockS {d : Addr} {u : HO} (h : H d = some u) (mu : Mut (some u)) (k : ∀ od, t ⟨fun σ' H' => H' d = some (.frz od u) ∧ nx σ' (upd H' d u), fun v H' => H' d = some (.frz od u) ∧ rt v (upd H' d u), fun σ' H' => H' d = some (.frz od u) ∧ bk σ' (upd H' d u), fun σ' H' => H' d = some (.frz od u) ∧ ct σ' (upd H' d u)⟩ σ (upd H d (.frz od u))) : tLock t ⟨nx, rt, bk, ct⟩ σ H := ⟨d, u, h, mu, k⟩
theorem rd_lockE {d : Addr} {u : HO} (h : H d = some u) (mu : Mut (some u)) (k : ∀ od, te σ (upd H d (.frz od u)) fun v H' => H' d = some (.frz od u) ∧ Q v (upd H' d u)) : tLockE te σ H Q := ⟨d, u, h, mu, k⟩
theorem rd_iKeys {td : TE} {R : It → Hp → Prop} (h : td σ H fun x H1 => ∃ d o, x = .ref d ∧ ((∃ kvs, H1 d = some (.frz o (.dK kvs)) ∧ R (Itk d o kvs) H1) ∨ ∃ kvs, H1 d = some (.frz o (.dT kvs)) ∧ R (Itkt d o kvs) H1)) : iKeys td σ H R := h
theorem rd_iKeysX {d : Addr} {o : Obj} {kvs : List (Key × V)} {R : It → Prop} {B : Addr → Obj → Prop} (h : H d = some (.frz o (.dK kvs))) (q : R (Itk d o kvs)) : ∃ d' o', V.ref d = V.ref d' ∧ ((∃ kvs, H d' = some (.frz o' (.dK kvs)) ∧ R (Itk d' o' kvs)) ∨ B d' o') := ⟨d, o, rfl, .inl ⟨kvs, h, q⟩⟩
theorem forD_by {d : Addr} {o : Obj} {g : TG} (xs : List Int) (f : Int → V) (Pv : Nat → L2.St → Hp → Prop) (h0 : Pv 0 σ H) (hl : ∀ i σ H, i ≤ xs.length → Pv i σ H → H d = some (.frz o (.dK (dmap xs f))))
    (hs : ∀ (i : Nat) (h : i < xs.length) σ H, Pv i σ H → g (.int xs[i]) σ H fun σ2 H2 => t ⟨Pv (i + 1), rt, nx, Pv (i + 1)⟩ σ2 H2) (hd : ∀ σ H, Pv xs.length σ H → nx σ H) : ForG (Itk d o (dmap xs f)) g t ⟨nx, rt, bk, ct⟩ σ H := by
  refine ⟨fun i m σ H => m = xs.length - i ∧ i ≤ xs.length ∧ Pv i σ H, ⟨xs.length, by simp, Nat.zero_le _, h0⟩, ?_⟩
  rintro i m σ H ⟨rfl, hi, p⟩
  have q := hl i σ H hi p
  by_cases hlt : i < xs.length
  · refine .inr ⟨⟨q, by rw [dmap_len]; exact hlt⟩, Pv (i + 1), fun σ' H' p' => ⟨xs.length - (i + 1), by omega, rfl, hlt, p'⟩, fun x H' y => ?_⟩
    obtain ⟨e, k, v, h1, h2⟩ := y
    subst e
    have h3 : (dmap xs f)[i]? = some (.inl xs[i], f xs[i]) := by
      unfold dmap
      rw [List.getElem?_map, List.getElem?_eq_getElem hlt]
      rfl
    rw [h3] at h1
    cases h1
    subst h2
    exact hs i hlt σ _ p
  · have e : i = xs.length := by omega
    subst e
    exact .inl ⟨⟨q, by rw [dmap_len]; exact Nat.le_refl _⟩, hd σ H p⟩
theorem lcD_by {a D : Addr} {o : Obj} {g : TG} {vs : List Nat} {Qd : Hp → Prop} (xs : List Int) (f : Int → V) (Pv : Nat → Hp → Prop) (h0 : Pv 0 (upd H D (.lst []))) (hl : ∀ i H, i ≤ xs.length → Pv i H → H a = some (.frz o (.dK (dmap xs f))))
    (hs : ∀ (i : Nat) (h : i < xs.length) H, Pv i H → g (.int xs[i]) (wipe σ vs) H fun σ2 H2 => wipe σ2 vs = wipe σ vs ∧ tt σ2 H2 fun b H3 =>
      if b = true then te σ2 H3 fun y H4 => ∃ acc, H4 D = some (.lst acc) ∧ acc.length < sizeLine ∧ Pv (i + 1) (upd H4 D (.lst (acc ++ [y]))) else Pv (i + 1) H3) (hd : ∀ H, Pv xs.length H → Qd H) : LcG (Itk a o (dmap xs f)) g tt te vs σ D Qd H := by
  refine ⟨fun i m H => m = xs.length - i ∧ i ≤ xs.length ∧ Pv i H, ⟨xs.length, by simp, Nat.zero_le _, h0⟩, ?_⟩
  rintro i m H ⟨rfl, hi, p⟩
  have q := hl i H hi p
  by_cases hlt : i < xs.length
  · refine .inr ⟨⟨q, by rw [dmap_len]; exact hlt⟩, Pv (i + 1), fun H' p' => ⟨xs.length - (i + 1), by omega, rfl, hlt, p'⟩, fun x H' y => ?_⟩
    obtain ⟨e, k, v, h1, h2⟩ := y
    subst e
    have h3 : (dmap xs f)[i]? = some (.inl xs[i], f xs[i]) := by
      unfold dmap
      rw [List.getElem?_map, List.getElem?_eq_getElem hlt]
      rfl
    rw [h3] at h1
    cases h1
    subst h2
    exact hs i hlt _ p
  · have e : i = xs.length := by omega
    subst e
    exact .inl ⟨⟨q, by rw [dmap_len]; exact Nat.le_refl _⟩, hd H p⟩
theorem rd_listD {a : Addr} {kvs : List (Key × V)} (h : H a = some (.dK kvs)) (q : ∀ p, H p = none → Q (.ref p) (upd H p (.lst (kvs.map fun kv => kV kv.1)))) : ∃ (a' : Addr) (kvs : List (Key × V)), [V.ref a] = [.ref a'] ∧ Rd H a' (.dK kvs) ∧ ∀ p, H p = none → Q (.ref p) (upd H p (.lst (kvs.map fun kv => kV kv.1))) := ⟨a, kvs, rfl, .inl h, q⟩
theorem rd_anyL {a : Addr} {bs : List Bool} (h : H a = some (.lst (bs.map V.bl))) (q : Q (.bl (bs.any id)) H) : rAny K [.ref a] H Q := ⟨a, bs, rfl, SqL.of h, q⟩
theorem dmap_keys {xs : List Int} {f : Int → V} : ((dmap xs f).map fun kv => kV kv.1) = xs.map V.int := by
  unfold dmap
  rw [List.map_map]
  rfl
/-- behind a lock -/
theorem kp_lock {ps : List Addr} {H H2 : Hp} {d : Addr} {u : HO} {od : Obj} (h : H d = some u) (k : Kp ps (upd H d (.frz od u)) H2) : Kp ps H (upd H2 d u) := fun b o hb hn => by
  by_cases e : b = d
  · subst e
    rw [h] at hb
    rw [upd_same]
    exact hb
  · rw [upd_ne e]
    exact k b o (by rw [upd_ne e]; exact hb) hn
end
end RD

namespace RD
open PySem PySem.Spec PyProof.Rows L2 C8 GenW
section
variable {X : Cx} {CX : CXT} {k j : Nat} {C : Addr} {m : Str} {sp : Sp} {dvs : List V} {E : XK} {o : Expr} {ta : TE} {apos pos : Pos}
theorem pe_met0 {pl : Sem Bool} (c : MetX X.prog X.w X.K X.mg X.base CX k C m sp dvs) (hr : Room j X.A) (hk : k ≤ j) (hx : Passes CX X E) (he : PE X o ta)
    (ht : eval (.Call (.Attribute o m apos) [] [] pos) X.env = (do
      let ov ← eval o X.env
      standAt apos.atName
      let (f, first) ← holding [ov] (getMethod ov m pl)
      callWith pos f first (backTo pos (starEach [] X.env)) (backToKw pos (keywordEach [] X.env))) := by rfl) :
    PE X (.Call (.Attribute o m apos) [] [] pos) (tMeth C m sp dvs E ta tNil) := by
  obtain ⟨f, fd, ps, ds, cl, me, F, b, d⟩ := c.ex
  exact pe_meth0 he cl me F (hr.mono hk) b d hx ht
end
end RD

/-! own layer: texts, dicts of tuples (behind MORE) -/
namespace RD
open PySem PySem.Spec PyProof.Rows L2 He
section
variable {K : PySem.W.Frag} {w : World} {σ : L2.St} {H : Hp} {nx bk ct : L2.St → Hp → Prop} {rt : VK} {t : TS} {te ta tb tc to : TE} {tt : TT} {ar : TA} {Q : VK} {v x y z : V} {i j : Int}
/-! texts -/
def rLenStr : List V → Hp → VK → Prop := fun xs H Q => ∃ z : Str, xs = [.str z] ∧ z.length ≤ sizeLine ∧ Q (.int z.length) H
theorem call_lenStr {X : Cx} : CallR X (.builtin "len") rLenStr := call_len_str
theorem rd_lenStr {z : Str} (l : z.length ≤ sizeLine) (q : Q (.int z.length) H) : rLenStr [.str z] H Q := ⟨z, rfl, l, q⟩
theorem rd_ixS {z : Str} {c : Nat} (l : z.length ≤ sizeLine) (a : atI z.cps.toList i = some c) (q : Q (.str ⟨#[c]⟩) H) : rIxS (.str z) (.int i) H Q := ⟨z, i, c, rfl, rfl, l, a, q⟩
def rAddS : R2 := fun x y H Q => ∃ i j, x = .str i ∧ y = .str j ∧ i.length + j.length ≤ sizeLine ∧ Q (.str (i ++ j)) H
theorem op_addS {X : Cx} : OpR X (binaryOp .Add) rAddS := op_add_str
theorem rd_addS {a b : Str} (l : a.length + b.length ≤ sizeLine) (q : Q (.str (a ++ b)) H) : rAddS (.str a) (.str b) H Q := ⟨a, b, rfl, rfl, l, q⟩
theorem rd_slS {z : Str} {lo hi : Option Int} (l : z.length ≤ sizeLine) (q : Q (.str (cutS z lo hi)) H) : rSlS (.str z) lo hi H Q := ⟨z, rfl, l, q⟩
def rInSign : R2 := fun x y H Q => ∃ (c : Nat) (z : Str), x = .str ⟨#[c]⟩ ∧ y = .str z ∧ Q (.bl (decide (c ∈ z.cps.toList))) H
theorem op_inSign {X : Cx} : OpR X (compareOp .In) rInSign := op_in_sign
theorem rd_inSign {c : Nat} {z : Str} (q : Q (.bl (decide (c ∈ z.cps.toList))) H) : rInSign (.str ⟨#[c]⟩) (.str z) H Q := ⟨c, z, rfl, rfl, q⟩
theorem rd_iStr {R : It → Hp → Prop} (h : te σ H fun v H1 => ∃ x, v = .str x ∧ R (Its x) H1) : iStr te σ H R := h
theorem rd_iStrX {x : Str} {R : Str → Prop} (q : R x) : ∃ y, V.str x = V.str y ∧ R y := ⟨x, rfl, q⟩
theorem forS_by {z : Str} {g : TG} (Pv : Nat → L2.St → Hp → Prop) (h0 : Pv 0 σ H)
    (hs : ∀ (i : Nat) c σ H, z.cps.toList[i]? = some c → Pv i σ H → g (.str ⟨#[c]⟩) σ H fun σ2 H2 => t ⟨Pv (i + 1), rt, nx, Pv (i + 1)⟩ σ2 H2) (hd : ∀ σ H, Pv z.cps.size σ H → nx σ H) : ForG (Its z) g t ⟨nx, rt, bk, ct⟩ σ H := by
  refine ⟨fun i m σ H => m = z.cps.size - i ∧ i ≤ z.cps.size ∧ Pv i σ H, ⟨z.cps.size, by simp, Nat.zero_le _, h0⟩, ?_⟩
  rintro i m σ H ⟨rfl, hi, p⟩
  by_cases hlt : i < z.cps.size
  · refine .inr ⟨hlt, Pv (i + 1), fun σ' H' p' => ⟨z.cps.size - (i + 1), by omega, rfl, hlt, p'⟩, fun x H' y => ?_⟩
    obtain ⟨rfl, c, hc, rfl⟩ := y
    exact hs i c σ _ (by rw [Array.getElem?_toList]; exact hc) p
  · have e : i = z.cps.size := by omega
    subst e
    exact .inl ⟨Nat.le_refl _, hd σ H p⟩
theorem lcS_by {z : Str} {D : Addr} {g : TG} {vs : List Nat} {Qd : Hp → Prop} (Pv : Nat → Hp → Prop) (h0 : Pv 0 (upd H D (.lst [])))
    (hs : ∀ (i : Nat) c H, z.cps.toList[i]? = some c → Pv i H → g (.str ⟨#[c]⟩) (wipe σ vs) H fun σ2 H2 => wipe σ2 vs = wipe σ vs ∧ tt σ2 H2 fun b H3 =>
      if b = true then te σ2 H3 fun y H4 => ∃ acc, H4 D = some (.lst acc) ∧ acc.length < sizeLine ∧ Pv (i + 1) (upd H4 D (.lst (acc ++ [y]))) else Pv (i + 1) H3) (hd : ∀ H, Pv z.cps.size H → Qd H) : LcG (Its z) g tt te vs σ D Qd H := by
  refine ⟨fun i m H => m = z.cps.size - i ∧ i ≤ z.cps.size ∧ Pv i H, ⟨z.cps.size, by simp, Nat.zero_le _, h0⟩, ?_⟩
  rintro i m H ⟨rfl, hi, p⟩
  by_cases hlt : i < z.cps.size
  · refine .inr ⟨hlt, Pv (i + 1), fun H' p' => ⟨z.cps.size - (i + 1), by omega, rfl, hlt, p'⟩, fun x H' y => ?_⟩
    obtain ⟨rfl, c, hc, rfl⟩ := y
    exact hs i c _ (by rw [Array.getElem?_toList]; exact hc) p
  · have e : i = z.cps.size := by omega
    subst e
    exact .inl ⟨Nat.le_refl _, hd H p⟩
/-- [.. for c in text]: only looks -/
theorem lcF_str {z : Str} {D : Addr} {g : TG} {vs : List Nat} {Qd : Hp → Prop} (f : Nat → V) (hD : H D = none) (hl : z.cps.size < 1000000)
    (hs : ∀ (i : Nat) c, z.cps.toList[i]? = some c → ∀ H1 (E : VK) (N : Hp → Prop), Kp [] H H1 → (∀ H4, Kp [] H1 H4 → E (f c) H4) → g (.str ⟨#[c]⟩) (wipe σ vs) H1 fun σ2 H2 => wipe σ2 vs = wipe σ vs ∧ tt σ2 H2 fun b H3 => if b = true then te σ2 H3 E else N H3)
    (hd : ∀ H', Kp [] H H' → H' D = some (.lst (z.cps.toList.map f)) → Qd H') : LcG (Its z) g tt te vs σ D Qd H := by
  refine lcS_by (fun i H' => H' D = some (.lst ((z.cps.toList.take i).map f)) ∧ Kp [] H H') ⟨upd_same, Kp.new hD⟩ (fun i c H' hc q => ?_) (fun H' q => ?_)
  · obtain ⟨h1, h2⟩ := List.getElem?_eq_some_iff.mp hc
    refine hs i c hc H' _ _ q.2 (fun H4 k4 => ?_)
    refine ⟨_, k4.g0 q.1, szlt ?_, ?_, Kp.mine (q.2.trans k4) hD⟩
    · rw [List.length_map, List.length_take]
      rw [Array.length_toList] at h1
      omega
    · rw [upd_same, List.take_succ_eq_append_getElem h1, h2, List.map_append]
      rfl
  · rw [List.take_of_length_le (by simp)] at q
    exact hd H' q.2 q.1
def rJoin (K : PySem.W.Frag) : V → List V → Hp → VK → Prop := fun x xs H Q => ∃ a p, ∃ ys : List Str, x = .str a ∧ xs = [.ref p] ∧ (SqL K H p (ys.map V.str) ∨ SqT K H p (ys.map V.str)) ∧ (ys.map (·.length)).sum + ys.length * a.length ≤ 16777216 ∧ Q (.str (Txt.join a ys)) H
theorem pe_join' {X : Cx} {o e : Expr} {apos pos : Pos} (ho : PE X o to) (he : PE X e te) (hs : starEach [e] X.env = [(false, eval e X.env)] := by rfl) (hbase : attributeBase o "join" X.env (eval o X.env) = eval o X.env := by rfl) (hline : (apos.endLine == pos.line) = true := by rfl) :
    PE X (.Call (.Attribute o "join" apos) [e] [] pos) (tM1 (rJoin X.K) to te) := pe_join ho he hs hbase hline
theorem rd_m1 {r : V → List V → Hp → VK → Prop} (h : to σ H fun x H1 => (∃ a, x = .str a) ∧ te σ H1 fun y H2 => r x [y] H2 Q) : tM1 r to te σ H Q := h
theorem rd_m1X {a : Str} {B : Prop} (q : B) : (∃ a', V.str a = V.str a') ∧ B := ⟨⟨a, rfl⟩, q⟩
theorem rd_join {a : Str} {p : Addr} {ys : List Str} (h : H p = some (.lst (ys.map V.str))) (l : (ys.map (·.length)).sum + ys.length * a.length ≤ 16777216) (q : Q (.str (Str.join a ys)) H) : rJoin K (.str a) [.ref p] H Q := ⟨a, p, ys, rfl, rfl, .inl (SqL.of h), l, by
  rw [TL.join_eq]
  exact q⟩
theorem joinL1 : ∀ cs : List Nat, TL.joinL [] (cs.map fun c => [c]) = cs
  | [] => rfl
  | [c] => rfl
  | c :: d :: r => by
    have ih := joinL1 (d :: r)
    show [c] ++ ([] ++ TL.joinL [] ((d :: r).map fun c => [c])) = _
    rw [ih]
    rfl
theorem join1 (cs : List Nat) : Str.join (⟨#[]⟩ : Str) (cs.map fun c => (⟨#[c]⟩ : Str)) = ⟨cs.toArray⟩ := by
  have e := SX.join_S [] (cs.map fun c => [c])
  rw [joinL1, TL.join_eq, List.map_map] at e
  exact e
theorem rd_all {a : Addr} {bs : List Bool} (h : H a = some (.lst (bs.map V.bl))) (q : Q (.bl (bs.all id)) H) : rAll K [.ref a] H Q := ⟨a, bs, rfl, SqL.of h, q⟩
theorem inV_strs (a : Str) : ∀ ns : List Str, inV (.str a) (ns.map V.str) = decide (a ∈ ns)
  | [] => rfl
  | b :: r => by
    have ih := inV_strs a r
    unfold inV at ih ⊢
    rw [List.map_cons, List.any_cons, ih]
    show ((b == a) || decide (a ∈ r)) = decide (a ∈ b :: r)
    by_cases h : b = a
    · subst h
      simp
    · have h2 : (b == a) = false := beq_eq_false_iff_ne.mpr h
      rw [h2, Bool.false_or]
      simp [List.mem_cons, Ne.symm h]
theorem flat_strs : ∀ ns : List Str, (ns.map V.str).all flatV = true
  | [] => rfl
  | _ :: r => by
    rw [List.map_cons, List.all_cons, flat_strs r]
    rfl
theorem rd_inTS {p : Addr} {ns : List Str} {s : Str} (h : SqT K H p (ns.map V.str)) (q : Q (.bl (decide (s ∈ ns))) H) : rIn K false (.str s) (.ref p) H Q := ⟨p, ns.map V.str, rfl, .inr h, rfl, flat_strs ns, by
  rw [inV_strs]
  exact q⟩
theorem rd_indexS {a : Addr} {ns : List Str} {s : Str} {j : Nat} (h : SqL K H a (ns.map V.str)) (e : ns[j]? = some s) (no : ∀ m z, m < j → ns[m]? = some z → z ≠ s) (q : Q (.int (j : Nat)) H) : rIndex K (.ref a) [.str s] H Q :=
  ⟨a, ns.map V.str, .str s, j, .str s, rfl, rfl, h, rfl, flat_strs ns, by rw [List.getElem?_map, e]; rfl, by show (s == s) = true; exact beq_self_eq_true s, fun m z' hm hz => by
    rw [List.getElem?_map] at hz
    obtain ⟨z, h1, rfl⟩ := Option.map_eq_some_iff.mp hz
    show (z == s) = false
    exact beq_eq_false_iff_ne.mpr (no m z hm h1), q⟩
theorem rd_int1b {b : Bool} (h : Q (.int (if b then 1 else 0)) H) : rInt1 [.bl b] H Q := .inr ⟨b, rfl, h⟩
theorem rd_dpop2 (h : ta σ H fun x H1 => ∃ a, x = .ref a ∧ IsD H1 a ∧ tb σ H1 fun y H2 => tc σ H2 fun z H3 => ∃ kvs k, H3 a = some (.dK kvs) ∧ y = kV k ∧
  (∀ v, valV kvs k = some v → Q v (upd H3 a (.dK (dropK kvs k)))) ∧ (valV kvs k = none → Q z H3)) : tDPop2 ta tb tc σ H Q := h
theorem rd_dpopI {a : Addr} {kvs : List (Key × V)} {R1 : List (Key × V) → Key → Prop} (e : H a = some (.dK kvs)) (q : R1 kvs (.inl i)) : ∃ kvs k, H a = some (.dK kvs) ∧ V.int i = kV k ∧ R1 kvs k := ⟨kvs, .inl i, e, rfl, q⟩
theorem rd_ixKD {p : Addr} {s : Str} (h : KDct K w p s v) (q : Q v H) : rIxD K w (.ref p) (.str s) H Q := ⟨p, s, v, rfl, rfl, h, q⟩
theorem kdct_of {a : Addr} {es : Array DictEntry} {n : Nat} {kvs : List (Str × Dv)} (D : KDict K w a es n) (h : valsB K a kvs = true) {s : Str} {d : Dv} (m : (s, d) ∈ kvs) : KDct K w a s (d.v K) := by
  obtain ⟨u, e, r⟩ := valsB_ok h m
  exact ⟨es, n, u, D.at_, D.lit, e, r⟩
end
section
variable {X : L2.Cx} {CX : CXT} {k j : Nat} {x : Str} {sp : Sp} {dvs : List V} {E : XK} {p pos : Pos} {C : Addr}
theorem pe_cal0 (c : CalX X.prog X.w X.K X.mg X.base CX k x sp dvs) (hr : Room j X.A) (hk : k ≤ j) (hg : Gl X x) (hx : Passes CX X E) (hdb : (x == ("__debug__" : Str)) = false := by decide) : PE X (.Call (.Name x p) [] [] pos) (tCall sp dvs E tNil) := by
  obtain ⟨f, fd, ps, ds, F, hm, kp, b, d⟩ := c.ex
  exact pe_call0 F (hr.mono hk) hg hm kp b d hx hdb
theorem pe_mak0 (c : MakX X.prog X.w X.K X.mg X.base CX k x C sp dvs) (hr : Room j X.A) (hk : k + 1 ≤ j) (hg : Gl X x) (hx : Passes CX X E) (hdb : (x == ("__debug__" : Str)) = false := by decide) : PE X (.Call (.Name x p) [] [] pos) (tMake C sp dvs E tNil) := by
  obtain ⟨f, fd, ps, ds, M, F, hm, b, d⟩ := c.ex
  exact pe_make0 M F (hr.mono hk) hg hm b d hx hdb
end
/-! ### a walk over a list or a tuple; ranges with a step; chains -/
section
variable {X : L2.Cx} {K : PySem.W.Frag} {σ : L2.St} {H : Hp} {te ta tb tc : TE} {ar : TA} {Q : VK}
def iSeq (K : PySem.W.Frag) (te : TE) : TI := fun σ H R => te σ H fun x H1 => ∃ a, x = .ref a ∧ (((∃ xs, SqL K H1 a xs) ∧ R (Itl K a) H1) ∨ ((∃ xs, SqT K H1 a xs) ∧ R (Itt K a) H1))
theorem pi_seq {tg l : Expr} (hl : PE X l te) : PI X tg l (iSeq X.K te) := by
  refine ⟨fun pins s σ H R I h => ?_⟩
  refine thn (hl.run pins s σ H _ I h) fun v s1 ⟨x, H1, I1, r1, q1⟩ => ?_
  obtain ⟨a, e, h | h⟩ := q1
  · obtain ⟨⟨xs, hq⟩, q⟩ := h
    subst e
    cases r1
    obtain ⟨its, rv, p, hz⟩ := I1.list hq
    refine wpAny_pyIter_list p.isList ?_
    refine ⟨s1.heap.objs.size, [s1.heap.objs.size], _, _, H1, rfl, I1.kept (t' := s1.toks) fun b o e => Heap.get?_push_of_some _ e, turn_list a _, ⟨_, Heap.get?_push_size _ rfl, rfl, rfl⟩, fun b hb => ?_, q⟩
    have e : b = s1.heap.objs.size := by simpa using hb
    subst e
    exact I1.fpOk (Nat.le_refl _) (I1.hok.fresh (Nat.le_refl _))
  · obtain ⟨⟨xs, hq⟩, q⟩ := h
    subst e
    cases r1
    obtain ⟨its, rv, p, hz⟩ := I1.tuple hq
    refine wpAny_pyIter_tuple (show s1.heap.IsTuple a its.toArray from p) ?_
    refine ⟨s1.heap.objs.size, [s1.heap.objs.size], _, _, H1, rfl, I1.kept (t' := s1.toks) fun b o e => Heap.get?_push_of_some _ e, turn_tuple a _, ⟨_, Heap.get?_push_size _ rfl, rfl, rfl⟩, fun b hb => ?_, q⟩
    have e : b = s1.heap.objs.size := by simpa using hb
    subst e
    exact I1.fpOk (Nat.le_refl _) (I1.hok.fresh (Nat.le_refl _))
theorem rd_iSeq {R : It → Hp → Prop} (h : te σ H fun x H1 => ∃ a, x = V.ref a ∧ (((∃ xs, SqL K H1 a xs) ∧ R (Itl K a) H1) ∨ ((∃ xs, SqT K H1 a xs) ∧ R (Itt K a) H1))) : iSeq K te σ H R := h
theorem rd_iSeqL {p : Addr} {xs : List V} {A : Addr → Prop} {B : Addr → Prop} (h : SqL K H p xs) (q : A p) : ∃ a, V.ref p = V.ref a ∧ (((∃ xs, SqL K H a xs) ∧ A a) ∨ ((∃ xs, SqT K H a xs) ∧ B a)) := ⟨p, rfl, .inl ⟨⟨xs, h⟩, q⟩⟩
theorem rd_iSeqT {p : Addr} {xs : List V} {A : Addr → Prop} {B : Addr → Prop} (h : SqT K H p xs) (q : B p) : ∃ a, V.ref p = V.ref a ∧ (((∃ xs, SqL K H a xs) ∧ A a) ∨ ((∃ xs, SqT K H a xs) ∧ B a)) := ⟨p, rfl, .inr ⟨⟨xs, h⟩, q⟩⟩
theorem rd_chain {r r' : R2} (h : ta σ H fun x H1 => tb σ H1 fun y H2 => r x y H2 fun z H3 => ∃ k, z = V.bl k ∧ (if k = true then tc σ H3 fun w' H4 => r' y w' H4 Q else Q (.bl false) H3)) : tChain r r' ta tb tc σ H Q := h
theorem rd_iRng3 {R : It → Hp → Prop} (h : ar σ H fun vs H1 => ∃ (i j c : Int) (n : Nat), vs = [V.int i, V.int j, V.int c] ∧ RgC i j c n ∧ R (Itc i c n) H1) : iRng3 ar σ H R := h
theorem rd_iRng3X {i j c : Int} {n : Nat} {R : Int → Int → Nat → Prop} (h : RgC i j c n) (q : R i c n) : ∃ (i' j' c' : Int) (n' : Nat), [V.int i, V.int j, V.int c] = [V.int i', V.int j', V.int c'] ∧ RgC i' j' c' n' ∧ R i' c' n' := ⟨i, j, c, n, rfl, h, q⟩
end
/-! ### a tuple at a told place (a default ()) -/
def tupA (K : PySem.W.Frag) (a : Addr) (vs : List Dv) : Bool := match K.lookup a with
  | some ⟨.type c, _, .seq its _, _⟩ => decide (c = "tuple") && (decide (its.size ≤ sizeLine) && relAll (vs.map (Dv.v K)) its.toList)
  | _ => false
theorem tupA_ok {K : PySem.W.Frag} {a : Addr} {vs : List Dv} (h : tupA K a vs = true) (H : Hp) : SqT K H a (vs.map (Dv.v K)) := by
  unfold tupA at h
  cases q : K.lookup a with
  | none =>
    rw [q] at h
    cases h
  | some o =>
    obtain ⟨oc, od, dt, osl⟩ := o
    rw [q] at h
    cases oc with
    | type c =>
      cases dt with
      | seq its n =>
        obtain ⟨h1, h2⟩ := ba (show (decide (c = "tuple") && (decide (its.size ≤ sizeLine) && relAll (vs.map (Dv.v K)) its.toList)) = true from h)
        obtain ⟨h3, h4⟩ := ba h2
        exact .inr ⟨_, its, n, q, congrArg Value.type (of_decide_eq_true h1), rfl, of_decide_eq_true h3, relAll_ok h4⟩
      | _ => cases h
    | _ => cases dt <;> cases h
/-! ### dicts of tuples under int keys -/
section
variable {α : Type}
def kvT (key : α → Int) (xs : List (Addr × α)) : List (Key × V) := xs.map fun p => ((.inl (key p.2) : Key), V.ref p.1)
def fdT (key : α → Int) (xs : List (Addr × α)) (k : Int) : Option (Addr × α) := xs.find? fun p => decide (key p.2 = k)
def ptT (key : α → Int) (xs : List (Addr × α)) (p : Addr × α) : List (Addr × α) := if (xs.any fun q => decide (key q.2 = key p.2)) = true then xs.map (fun q => if key q.2 = key p.2 then p else q) else xs ++ [p]
def dpT (key : α → Int) (xs : List (Addr × α)) (k : Int) : List (Addr × α) := xs.filter fun p => decide (key p.2 ≠ k)
def fdS (key : α → Int) (ys : List α) (k : Int) : Option α := ys.find? fun y => decide (key y = k)
def ptS (key : α → Int) (ys : List α) (y : α) : List α := if (ys.any fun q => decide (key q = key y)) = true then ys.map (fun q => if key q = key y then y else q) else ys ++ [y]
def dpS (key : α → Int) (ys : List α) (k : Int) : List α := ys.filter fun y => decide (key y ≠ k)
theorem inl_iff {a b : Int} : ((.inl a : Key) = .inl b) ↔ a = b := ⟨fun e => Sum.inl.inj e, fun e => by rw [e]⟩
theorem kvT_val (key : α → Int) (k : Int) : ∀ xs : List (Addr × α), valV (kvT key xs) (.inl k) = (fdT key xs k).map fun p => V.ref p.1
  | [] => rfl
  | p :: r => by
    have ih := kvT_val key k r
    by_cases h : key p.2 = k
    · show valV (((.inl (key p.2) : Key), V.ref p.1) :: kvT key r) (.inl k) = _
      rw [valV_pos (inl_iff.mpr h)]
      unfold fdT
      rw [List.find?_cons, decide_eq_true h]
      rfl
    · show valV (((.inl (key p.2) : Key), V.ref p.1) :: kvT key r) (.inl k) = _
      rw [valV_neg (fun e => h (inl_iff.mp e)), ih]
      unfold fdT
      rw [List.find?_cons, decide_eq_false h]
theorem kvT_put (key : α → Int) (xs : List (Addr × α)) (p : Addr × α) : putK (kvT key xs) (.inl (key p.2)) (.ref p.1) = kvT key (ptT key xs p) := by
  have e : ((kvT key xs).any fun kv => decide (kv.1 = (.inl (key p.2) : Key))) = xs.any fun q => decide (key q.2 = key p.2) := by
    unfold kvT
    rw [List.any_map]
    congr 1
    funext q
    exact decide_eq_decide.mpr inl_iff
  unfold putK ptT
  rw [e]
  by_cases h : (xs.any fun q => decide (key q.2 = key p.2)) = true
  · rw [if_pos h, if_pos h]
    unfold kvT
    rw [List.map_map, List.map_map]
    refine List.map_congr_left fun q _ => ?_
    show (if (.inl (key q.2) : Key) = .inl (key p.2) then ((.inl (key q.2) : Key), V.ref p.1) else (.inl (key q.2), V.ref q.1)) = _
    by_cases z : key q.2 = key p.2
    · rw [if_pos (inl_iff.mpr z)]
      show _ = ((.inl (key (if key q.2 = key p.2 then p else q).2) : Key), V.ref (if key q.2 = key p.2 then p else q).1)
      rw [if_pos z, z]
    · rw [if_neg (fun e => z (inl_iff.mp e))]
      show _ = ((.inl (key (if key q.2 = key p.2 then p else q).2) : Key), V.ref (if key q.2 = key p.2 then p else q).1)
      rw [if_neg z]
  · rw [if_neg h, if_neg h]
    unfold kvT
    rw [List.map_append]
    rfl
theorem kvT_drop (key : α → Int) (k : Int) (xs : List (Addr × α)) : dropK (kvT key xs) (.inl k) = kvT key (dpT key xs k) := by
  unfold dropK kvT dpT
  rw [List.filter_map]
  congr 1
  refine List.filter_congr fun q _ => ?_
  exact decide_eq_decide.mpr (not_congr inl_iff)
theorem kvT_keys (key : α → Int) (xs : List (Addr × α)) : ((kvT key xs).map fun kv => kV kv.1) = ((xs.map (·.2)).map key).map V.int := by
  unfold kvT
  rw [List.map_map, List.map_map, List.map_map]
  rfl
theorem kvT_len (key : α → Int) (xs : List (Addr × α)) : (kvT key xs).length = xs.length := List.length_map _
theorem fdT_some {key : α → Int} {xs : List (Addr × α)} {k : Int} {p : Addr × α} (h : fdT key xs k = some p) : p ∈ xs ∧ key p.2 = k := ⟨List.mem_of_find?_eq_some h, by
  have := List.find?_some (p := fun p : Addr × α => decide (key p.2 = k)) h
  exact of_decide_eq_true this⟩
theorem fdT_snd (key : α → Int) (k : Int) : ∀ xs : List (Addr × α), (fdT key xs k).map (·.2) = fdS key (xs.map (·.2)) k
  | [] => rfl
  | p :: r => by
    have ih := fdT_snd key k r
    unfold fdT fdS at ih ⊢
    rw [List.map_cons, List.find?_cons, List.find?_cons]
    cases decide (key p.2 = k) with
    | true => rfl
    | false => exact ih
theorem ptT_snd (key : α → Int) (xs : List (Addr × α)) (p : Addr × α) : (ptT key xs p).map (·.2) = ptS key (xs.map (·.2)) p.2 := by
  unfold ptT ptS
  have e : ((xs.map (·.2)).any fun q => decide (key q = key p.2)) = xs.any fun q => decide (key q.2 = key p.2) := by
    rw [List.any_map]
    rfl
  rw [e]
  by_cases h : (xs.any fun q => decide (key q.2 = key p.2)) = true
  · rw [if_pos h, if_pos h, List.map_map, List.map_map]
    refine List.map_congr_left fun q _ => ?_
    show (if key q.2 = key p.2 then p else q).2 = if key q.2 = key p.2 then p.2 else q.2
    by_cases z : key q.2 = key p.2
    · rw [if_pos z, if_pos z]
    · rw [if_neg z, if_neg z]
  · rw [if_neg h, if_neg h, List.map_append]
    rfl
theorem dpT_snd (key : α → Int) (k : Int) (xs : List (Addr × α)) : (dpT key xs k).map (·.2) = dpS key (xs.map (·.2)) k := by
  unfold dpT dpS
  rw [List.filter_map]
  rfl
theorem ptT_mem {key : α → Int} {xs : List (Addr × α)} {p q : Addr × α} (h : q ∈ ptT key xs p) : q = p ∨ q ∈ xs := by
  unfold ptT at h
  by_cases z : (xs.any fun q => decide (key q.2 = key p.2)) = true
  · rw [if_pos z] at h
    obtain ⟨r, hr, e⟩ := List.mem_map.mp h
    by_cases z2 : key r.2 = key p.2
    · rw [if_pos z2] at e
      exact .inl e.symm
    · rw [if_neg z2] at e
      exact .inr (e ▸ hr)
  · rw [if_neg z] at h
    rcases List.mem_append.mp h with h | h
    · exact .inr h
    · exact .inl (List.mem_singleton.mp h)
theorem ptT_len (key : α → Int) (xs : List (Addr × α)) (p : Addr × α) : (ptT key xs p).length ≤ xs.length + 1 := by
  unfold ptT
  split
  · rw [List.length_map]
    omega
  · rw [List.length_append]
    exact Nat.le_refl _
theorem dpT_len (key : α → Int) (k : Int) (xs : List (Addr × α)) : (dpT key xs k).length ≤ xs.length := List.length_filter_le _ _
theorem dpT_none {key : α → Int} {k : Int} {xs : List (Addr × α)} (h : fdT key xs k = none) : dpT key xs k = xs := by
  refine List.filter_eq_self.mpr fun p hp => ?_
  have := List.find?_eq_none.mp h p hp
  exact decide_eq_true fun z => this (decide_eq_true z)
/-- at d: a dict from int keys to tuples -/
structure TD (key : α → Int) (tup : α → List V) (H : Hp) (d : Addr) (xs : List (Addr × α)) : Prop where
  at_ : H d = some (.dK (kvT key xs))
  ob : ∀ p, p ∈ xs → H p.1 = some (.tup (tup p.2))
def NoT (H : Hp) (ps : List Addr) : Prop := ∀ q, q ∈ ps → ∀ vs, H q ≠ some (.tup vs)
variable {key : α → Int} {tup : α → List V} {H H' : Hp} {d : Addr} {xs : List (Addr × α)} {ps : List Addr}
theorem NoT.n {q : Addr} {vs : List V} (h : NoT H ps) (e : H q = some (.tup vs)) : q ∉ ps := fun m => h q m vs e
theorem TD.kp (B : TD key tup H d xs) (k : Kp ps H H') (n : d ∉ ps) (t : NoT H ps) : TD key tup H' d xs := ⟨k _ _ B.at_ n, fun p hp => k _ _ (B.ob p hp) (t.n (B.ob p hp))⟩
theorem TD.k0 (B : TD key tup H d xs) (k : Kp [] H H') : TD key tup H' d xs := B.kp k (by simp) (fun q hq => by cases hq)
theorem TD.put (B : TD key tup H d xs) {p : Addr × α} (h : H p.1 = some (.tup (tup p.2))) : TD key tup (upd H d (.dK (kvT key (ptT key xs p)))) d (ptT key xs p) := by
  have o : ∀ q vs, H q = some (.tup vs) → upd H d (.dK (kvT key (ptT key xs p))) q = some (.tup vs) := fun q vs e => hu_ne (ne_of e B.at_ (by intro z; cases z)) e
  refine ⟨upd_same, fun q hq => ?_⟩
  rcases ptT_mem hq with rfl | m
  · exact o _ _ h
  · exact o _ _ (B.ob q m)
theorem TD.drop (B : TD key tup H d xs) {k : Int} : TD key tup (upd H d (.dK (kvT key (dpT key xs k)))) d (dpT key xs k) :=
  ⟨upd_same, fun q hq => hu_ne (ne_of (B.ob q (List.mem_filter.mp hq).1) B.at_ (by intro z; cases z)) (B.ob q (List.mem_filter.mp hq).1)⟩
theorem TD.find (B : TD key tup H d xs) {k : Int} {p : Addr × α} (h : fdT key xs k = some p) : H p.1 = some (.tup (tup p.2)) := B.ob p (fdT_some h).1
end
/-! ### ascending lists -/
def srt (l : List Int) : List Int := l.mergeSort fun a b => decide (a ≤ b)
theorem srt_perm (l : List Int) : (srt l).Perm l := List.mergeSort_perm _ _
theorem srt_le (l : List Int) : (srt l).Pairwise (· ≤ ·) := (List.pairwise_mergeSort (le := fun a b : Int => decide (a ≤ b)) (fun a b c h1 h2 => decide_eq_true (Int.le_trans (of_decide_eq_true h1) (of_decide_eq_true h2))) (fun a b => by
  by_cases h : a ≤ b
  · simp [h]
  · simp [h]
    omega) l).imp fun h => of_decide_eq_true h
theorem srt_is {os l : List Int} (p : os.Perm l) (s : os.Pairwise (· ≤ ·)) : os = srt l := sort_uniq (p.trans (srt_perm l).symm) s (srt_le l)
end RD

/-! own layer: own special methods of instances: an operator, ==, !=, len, in (behind MORE) -/
namespace RD
open PySem PySem.Spec PyProof.Rows L2 He
section
variable {X : L2.Cx} {CX : CXT} {k j : Nat} {C : Addr} {m : Str} {sp : Sp} {E : XK}
theorem ins_at {pins : List (Addr × Obj)} {σ : L2.St} {H : Hp} {s : Shared} {a dx : Addr} {fs : List (Str × V)} (I : Inv X pins σ H s) (e : H a = some (.ins C dx fs)) : ∃ od, PySem.W.InstAt s.heap a (PySem.W.instObj C dx) C (some od) := by
  obtain ⟨mA, O, _⟩ := ins_get I.hok e
  obtain ⟨od, J, _⟩ := O.look
  exact ⟨od, J⟩
/-- both instances of the class at C -/
def rOwn2 (C : Addr) (sp : Sp) (E : XK) : R2 := fun x y H Q => ∃ a dx fs b dy gs, x = .ref a ∧ y = .ref b ∧ H a = some (.ins C dx fs) ∧ H b = some (.ins C dy gs) ∧ sp [x, y] H Q E
theorem op_binX {op : Operator} (c : MetX X.prog X.w X.K X.mg X.base CX k C m sp []) (hm : PySem.dunder op.info.2 = m) (hr : Room j X.A) (hk : k ≤ j) (hx : Passes CX X E) (sf : PySem.W.selfFirst X.K C = true) : OpR X (binaryOp op) (rOwn2 C sp E) := by
  intro pins s σ H x y v u Q I rx ry h
  obtain ⟨a, dx, fs, b, dy, gs, rfl, rfl, ha, hb, q⟩ := h
  cases (show v = Value.ref a from rx)
  cases (show u = Value.ref b from ry)
  obtain ⟨od, J⟩ := ins_at I ha
  obtain ⟨od', J'⟩ := ins_at I hb
  obtain ⟨mm, hF⟩ := I.fr
  obtain ⟨f, fd, ps, ds, cl, me, F, bi, d⟩ := c.ex
  refine PySem.W.binop_K hF I.ok.mod.kin J J'.type sf (by rw [hm]; exact me.at_) me.fn ?_
  refine wpAny_mono (run_fn (us := [.ref a, .ref b]) (vs := [.ref a, .ref b]) F (hr.mono hk) bi d hx I (.cons rfl (.cons rfl .nil)) q) (fun w s' z => ?_) fun _ _ x => x
  obtain ⟨z', H', I', rz, qz⟩ := z
  exact SlX.cmpback rz ⟨z', H', I', rz, qz⟩
theorem not_first {K : PySem.W.Frag} {C : Addr} : PySem.W.notFirst K C (.ref C) = true := by
  unfold PySem.W.notFirst
  simp
theorem op_cmpX {op : CmpOp} (hop : ∀ a b, compareOp op a b = richCompare op a b) (c : MetX X.prog X.w X.K X.mg X.base CX k C (cmpInfo op).2.1 sp []) (hr : Room j X.A) (hk : k ≤ j) (hx : Passes CX X E) : OpR X (compareOp op) (rOwn2 C sp E) := by
  intro pins s σ H x y v u Q I rx ry h
  obtain ⟨a, dx, fs, b, dy, gs, rfl, rfl, ha, hb, q⟩ := h
  cases (show v = Value.ref a from rx)
  cases (show u = Value.ref b from ry)
  obtain ⟨od, J⟩ := ins_at I ha
  obtain ⟨od', J'⟩ := ins_at I hb
  obtain ⟨mm, hF⟩ := I.fr
  obtain ⟨f, fd, ps, ds, cl, me, F, bi, d⟩ := c.ex
  rw [hop]
  refine PySem.W.cmp_K (op := op) (tb := .ref C) hr.units0 hF I.ok.mod.kin J J'.type not_first me.at_ me.fn ?_
  refine wpAny_mono (run_fn (us := [.ref a, .ref b]) (vs := [.ref a, .ref b]) F (hr.mono hk) bi d hx I (.cons rfl (.cons rfl .nil)) q) (fun w s' z => ?_) fun _ _ x => x
  obtain ⟨z', H', I', rz, qz⟩ := z
  exact SlX.cmpback rz ⟨z', H', I', rz, qz⟩
/-- a callee below -/
theorem run_below {A : Around} {pins : List (Addr × Obj)} {σ : L2.St} {H : Hp} {s : Shared} {Q : VK} {us : List Value} {vs : List V} {f : Addr} {fd : FuncData} {ps : List Str} {ds : List Value} {dvs : List V} (F : FnOk X.prog X.w X.K X.mg X.base CX k f fd ps sp) (hr : Room k A) (e0 : Env0 X.prog X.w X.K X.mg X.base A X.stack s H) (hb : Binds X.K fd ps ds) (hd : Vals dvs ds) (hx : Passes CX X E)
    (I : Inv X pins σ H s) (r : Vals vs us) (h : sp (vs ++ dvs) H Q E) : wpAny (model X.prog X.w) A (call (.ref f) us) (EP X pins σ Q) X.xe s :=
  wpAny_call (SlX.run_at (F.raw hb hd) hr e0 hx I r h)
def rOwnNe (C : Addr) (sp : Sp) (E : XK) : R2 := fun x y H Q => ∃ a dx fs b dy gs, x = .ref a ∧ y = .ref b ∧ H a = some (.ins C dx fs) ∧ H b = some (.ins C dy gs) ∧ sp [x, y] H (fun z H' => ∃ k, z = .bl k ∧ Q (.bl (!k)) H') E
theorem op_neX (c : MetX X.prog X.w X.K X.mg X.base CX k C "__eq__" sp []) (hne : PySem.W.findIn X.K (.ref C) "__ne__" = some (some (.builtin "object.__ne__"))) (hr : Room j X.A) (hk : k + 1 ≤ j) (hx : Passes CX X E) : OpR X (compareOp .NotEq) (rOwnNe C sp E) := by
  intro pins s σ H x y v u Q I rx ry h
  obtain ⟨a, dx, fs, b, dy, gs, rfl, rfl, ha, hb, q⟩ := h
  cases (show v = Value.ref a from rx)
  cases (show u = Value.ref b from ry)
  obtain ⟨od, J⟩ := ins_at I ha
  obtain ⟨od', J'⟩ := ins_at I hb
  obtain ⟨mm, hF⟩ := I.fr
  obtain ⟨f, fd, ps, ds, cl, me, F, bi, d⟩ := c.ex
  have hr1 : Room k X.A.in1 := (show Room (k + 1) X.A from hr.mono hk).in1
  have XK := I.kIn
  have SF := PySem.F.cmp_object.ne
  obtain ⟨cd, hc, ho⟩ := PySem.W.any_some cl.po
  have nem : cd.mro.isEmpty = false := by cases q : cd.mro with | nil => rw [q] at ho; cases ho | cons _ _ => rfl
  have sub : PySem.W.Looks (model X.prog X.w) s.heap (isInstance (.ref a) (.type "object")) true := J.type.andThen (PySem.W.looks_mroIn XK (by unfold PySem.W.mroIn; rw [hc, Option.bind_some, if_neg (by rw [nem]; decide), PySem.W.only_has ho]))
  show wpAny _ _ (richCompare .NotEq (.ref a) (.ref b)) _ _ _
  have one : wpAny (model X.prog X.w) X.A (tryCompare (.ref a) "__ne__" (.ref b)) (fun r s' => ∃ v, r = some v ∧ EP X pins σ Q v s') X.xe s := by
    unfold tryCompare
    refine wpAny_bind ?_
    simp only [callSpecialIfBound?, bindSpecialIfBound?]
    refine wpAny_holding (wpAny_bind (wpAny_bind (wpAny_bind (J.type.here ((PySem.W.looks_findIn XK hne).here ?_)))))
    simp only [SF.bind]
    have main : wpAny (model X.prog X.w) X.A (call (.builtin "object.__ne__") ([.ref a] ++ [.ref b]) >>= fun v => pure (some v)) (fun r s' => wpAny (model X.prog X.w) X.A (match r with | some .notImplemented | none => pure none | some v => pure (some v)) (fun r s' => ∃ v, r = some v ∧ EP X pins σ Q v s') X.xe s') X.xe s := by
      refine wpAny_bind (wpAny_call (codeAny_call_builtin SF.plain PySem.F.cmpEntry_ne (@PySem.W.check_slot (model X.prog X.w) _ _ s "object.__ne__" "object" "__ne__" (.ref a) [.ref b] [] _ PySem.F.cmpKind_ne PySem.F.cmpSplit_ne sub (PySem.F.cmpArgs_ne _ _) ?_)))
      unfold Builtin.«object.__ne__»
      refine wpAny_bind (wpAny_pure (wpAny_bind (wpAny_cRoomFor (show X.A.in1.units < cLine from hr1.units0) ?_)))
      refine wpAny_bind (PySem.W.ifBound_K XK J me.at_ me.fn ?_)
      refine wpAny_mono (run_below (us := [.ref a, .ref b]) (vs := [.ref a, .ref b]) F hr1 I.env0.in1 bi d hx I (.cons rfl (.cons rfl .nil)) q) (fun w s' z => ?_) fun _ _ x => x
      obtain ⟨z', H', I', rz, kk, e, qz⟩ := z
      subst e
      cases rz
      refine wpAny_bind (wpAny_truthy_bool ?_)
      exact wpAny_pure (wpAny_pure (wpAny_pure ⟨_, rfl, .bl (!kk), H', I', rfl, qz⟩))
    refine wpAny_bind (wpAny_askSetting (wpAny_ite ?_))
    split
    · exact wpAny_bind (wpAny_pure (wpAny_pure main))
    · exact wpAny_tryCatch (wpAny_bind (wpAny_pure (wpAny_pure main)))
  unfold richCompare
  simp only [oneThing_ref]
  refine wpAny_holding (wpAny_bind (wpAny_cRoomFor hr.units0 ?_))
  refine wpAny_bind (J.type.here (wpAny_bind (J'.type.here ?_)))
  simp only [bne_self_eq_false, Bool.false_eq_true, if_false]
  refine wpAny_bind (wpAny_pure ?_)
  simp only [Bool.false_eq_true, if_false]
  refine wpAny_bind (wpAny_mono one (fun r s' z => ?_) fun _ _ e => e)
  obtain ⟨v, rfl, hq⟩ := z
  exact wpAny_pure hq
/-- a own method at a value of another kind -/
def rOwnV (K : PySem.W.Frag) (C : Addr) (sp : Sp) (E : XK) : R2 := fun x y H Q => ∃ a dx fs t, x = .ref a ∧ H a = some (.ins C dx fs) ∧ TyX K H y t ∧ PySem.W.notFirst K C t = true ∧ sp [x, y] H Q E
theorem op_cmpV {op : CmpOp} (hop : ∀ a b, compareOp op a b = richCompare op a b) (c : MetX X.prog X.w X.K X.mg X.base CX k C (cmpInfo op).2.1 sp []) (hr : Room j X.A) (hk : k ≤ j) (hx : Passes CX X E) : OpR X (compareOp op) (rOwnV X.K C sp E) := by
  intro pins s σ H x y v u Q I rx ry h
  obtain ⟨a, dx, fs, t, rfl, ha, ty, nf, q⟩ := h
  cases (show v = Value.ref a from rx)
  obtain ⟨od, J⟩ := ins_at I ha
  obtain ⟨P, Z, pz, _⟩ := kit_of I ry ty
  obtain ⟨mm, hF⟩ := I.fr
  obtain ⟨f, fd, ps, ds, cl, me, F, bi, d⟩ := c.ex
  rw [hop]
  refine PySem.W.cmp_K (op := op) (tb := t) hr.units0 hF I.ok.mod.kin J (Z.ty _ _ I.kIn pz) nf me.at_ me.fn ?_
  refine wpAny_mono (run_fn (us := [.ref a, u]) (vs := [.ref a, y]) F (hr.mono hk) bi d hx I (.cons rfl (.cons ry .nil)) q) (fun w s' z => ?_) fun _ _ x => x
  obtain ⟨z', H', I', rz, qz⟩ := z
  exact SlX.cmpback rz ⟨z', H', I', rz, qz⟩
def rOwnNeV (K : PySem.W.Frag) (C : Addr) (sp : Sp) (E : XK) : R2 := fun x y H Q => ∃ a dx fs t, x = .ref a ∧ H a = some (.ins C dx fs) ∧ TyX K H y t ∧ PySem.W.notFirst K C t = true ∧ sp [x, y] H (fun z H' => ∃ k, z = .bl k ∧ Q (.bl (!k)) H') E
theorem op_neV (c : MetX X.prog X.w X.K X.mg X.base CX k C "__eq__" sp []) (hne : PySem.W.findIn X.K (.ref C) "__ne__" = some (some (.builtin "object.__ne__"))) (hr : Room j X.A) (hk : k + 1 ≤ j) (hx : Passes CX X E) : OpR X (compareOp .NotEq) (rOwnNeV X.K C sp E) := by
  intro pins s σ H x y v u Q I rx ry h
  obtain ⟨a, dx, fs, t, rfl, ha, ty, nf, q⟩ := h
  cases (show v = Value.ref a from rx)
  obtain ⟨od, J⟩ := ins_at I ha
  obtain ⟨P, Z, pz, _⟩ := kit_of I ry ty
  obtain ⟨mm, hF⟩ := I.fr
  obtain ⟨f, fd, ps, ds, cl, me, F, bi, d⟩ := c.ex
  have hr1 : Room k X.A.in1 := (show Room (k + 1) X.A from hr.mono hk).in1
  have XK := I.kIn
  have SF := PySem.F.cmp_object.ne
  obtain ⟨cd, hc, ho⟩ := PySem.W.any_some cl.po
  have nem : cd.mro.isEmpty = false := by cases q : cd.mro with | nil => rw [q] at ho; cases ho | cons _ _ => rfl
  have sub : PySem.W.Looks (model X.prog X.w) s.heap (isInstance (.ref a) (.type "object")) true := J.type.andThen (PySem.W.looks_mroIn XK (by unfold PySem.W.mroIn; rw [hc, Option.bind_some, if_neg (by rw [nem]; decide), PySem.W.only_has ho]))
  show wpAny _ _ (richCompare .NotEq (.ref a) u) _ _ _
  have one : wpAny (model X.prog X.w) X.A (tryCompare (.ref a) "__ne__" u) (fun r s' => ∃ v, r = some v ∧ EP X pins σ Q v s') X.xe s := by
    unfold tryCompare
    refine wpAny_bind ?_
    simp only [callSpecialIfBound?, bindSpecialIfBound?]
    refine wpAny_holding (wpAny_bind (wpAny_bind (wpAny_bind (J.type.here ((PySem.W.looks_findIn XK hne).here ?_)))))
    simp only [SF.bind]
    have main : wpAny (model X.prog X.w) X.A (call (.builtin "object.__ne__") ([.ref a] ++ [u]) >>= fun v => pure (some v)) (fun r s' => wpAny (model X.prog X.w) X.A (match r with | some .notImplemented | none => pure none | some v => pure (some v)) (fun r s' => ∃ v, r = some v ∧ EP X pins σ Q v s') X.xe s') X.xe s := by
      refine wpAny_bind (wpAny_call (codeAny_call_builtin SF.plain PySem.F.cmpEntry_ne (@PySem.W.check_slot (model X.prog X.w) _ _ s "object.__ne__" "object" "__ne__" (.ref a) [u] [] _ PySem.F.cmpKind_ne PySem.F.cmpSplit_ne sub (PySem.F.cmpArgs_ne _ _) ?_)))
      unfold Builtin.«object.__ne__»
      refine wpAny_bind (wpAny_pure (wpAny_bind (wpAny_cRoomFor (show X.A.in1.units < cLine from hr1.units0) ?_)))
      refine wpAny_bind (PySem.W.ifBound_K XK J me.at_ me.fn ?_)
      refine wpAny_mono (run_below (us := [.ref a, u]) (vs := [.ref a, y]) F hr1 I.env0.in1 bi d hx I (.cons rfl (.cons ry .nil)) q) (fun w s' z => ?_) fun _ _ x => x
      obtain ⟨z', H', I', rz, kk, e, qz⟩ := z
      subst e
      cases rz
      refine wpAny_bind (wpAny_truthy_bool ?_)
      exact wpAny_pure (wpAny_pure (wpAny_pure ⟨_, rfl, .bl (!kk), H', I', rfl, qz⟩))
    refine wpAny_bind (wpAny_askSetting (wpAny_ite ?_))
    split
    · exact wpAny_bind (wpAny_pure (wpAny_pure main))
    · exact wpAny_tryCatch (wpAny_bind (wpAny_pure (wpAny_pure main)))
  unfold richCompare
  simp only [oneThing_ref]
  refine wpAny_holding (wpAny_bind (wpAny_cRoomFor hr.units0 ?_))
  refine wpAny_bind (J.type.here (wpAny_bind ((Z.ty (model X.prog X.w) _ I.kIn pz).here ?_)))
  split
  · rename_i qq
    have e : PySem.W.subIn X.K t (.ref C) = some false := by
      rcases Bool.or_eq_true_iff.mp nf with e | e
      · rw [beq_iff_eq.mp e] at qq; simp at qq
      · exact beq_iff_eq.mp e
    refine wpAny_bind ((PySem.W.looks_subIn XK e).here ?_)
    simp only [Bool.false_eq_true, if_false]
    refine wpAny_bind (wpAny_mono one (fun r s' z => ?_) fun _ _ e => e)
    obtain ⟨v, rfl, hq⟩ := z
    exact wpAny_pure hq
  · refine wpAny_bind (wpAny_pure ?_)
    simp only [Bool.false_eq_true, if_false]
    refine wpAny_bind (wpAny_mono one (fun r s' z => ?_) fun _ _ e => e)
    obtain ⟨v, rfl, hq⟩ := z
    exact wpAny_pure hq
def rLenX (C : Addr) (sp : Sp) (E : XK) : List V → Hp → VK → Prop := fun xs H Q => ∃ a dx fs, xs = [V.ref a] ∧ H a = some (.ins C dx fs) ∧ sp [.ref a] H (fun z H' => ∃ i : Int, z = .int i ∧ (0 ≤ i ∧ i < 2 ^ 63) ∧ Q (.int i) H') E
theorem call_lenX (c : MetX X.prog X.w X.K X.mg X.base CX k C "__len__" sp []) (hr : Room j X.A) (hk : k + 1 ≤ j) (hx : Passes CX X E) : CallR X (.builtin "len") (rLenX C sp E) := by
  intro pins s σ H xs us Q I r h
  obtain ⟨a, dx, fs, rfl, ha, q⟩ := h
  obtain ⟨u, rfl, ru⟩ := r.one
  cases (show u = Value.ref a from ru)
  obtain ⟨od, J⟩ := ins_at I ha
  obtain ⟨mm, hF⟩ := I.fr
  obtain ⟨f, fd, ps, ds, cl, me, F, bi, d⟩ := c.ex
  have hr1 : Room k X.A.in1 := (show Room (k + 1) X.A from hr.mono hk).in1
  refine PySem.W.len_K hF I.ok.mod.kin J me.at_ me.fn ?_
  refine wpAny_mono (run_below (us := [.ref a]) (vs := [.ref a]) F hr1 I.env0.in1 bi d hx I (.cons rfl .nil) q) (fun w s' z => ?_) fun _ _ x => x
  obtain ⟨z', H', I', rz, i, e, ⟨h0, h1⟩, qz⟩ := z
  subst e
  obtain ⟨t, rfl⟩ := (show ∃ t, w = Value.int i t from rz)
  exact ⟨⟨h0, h1⟩, .int i, H', I'.tok _, ⟨_, rfl⟩, qz⟩
def rInX (neg : Bool) (C : Addr) (sp : Sp) (E : XK) : R2 := fun x y H Q => ∃ a dx fs, y = .ref a ∧ H a = some (.ins C dx fs) ∧ sp [y, x] H (fun z H' => ∃ k, z = .bl k ∧ Q (.bl (if neg then !k else k)) H') E
theorem op_inX (c : MetX X.prog X.w X.K X.mg X.base CX k C "__contains__" sp []) (hr : Room j X.A) (hk : k ≤ j) (hx : Passes CX X E) : OpR X (compareOp .In) (rInX false C sp E) := by
  intro pins s σ H x y v u Q I rx ry h
  obtain ⟨a, dx, fs, rfl, ha, q⟩ := h
  cases (show u = Value.ref a from ry)
  obtain ⟨od, J⟩ := ins_at I ha
  obtain ⟨mm, hF⟩ := I.fr
  obtain ⟨f, fd, ps, ds, cl, me, F, bi, d⟩ := c.ex
  refine PySem.W.in_K hF I.ok.mod.kin J me.at_ me.fn ?_
  refine wpAny_mono (run_fn (us := [.ref a, v]) (vs := [.ref a, x]) F (hr.mono hk) bi d hx I (.cons rfl (.cons rx .nil)) q) (fun w s' z => ?_) fun _ _ x => x
  obtain ⟨z', H', I', rz, kk, e, qz⟩ := z
  subst e
  cases rz
  exact wpAny_truthy_bool ⟨.bl kk, H', I', rfl, qz⟩
theorem op_notInX (c : MetX X.prog X.w X.K X.mg X.base CX k C "__contains__" sp []) (hr : Room j X.A) (hk : k ≤ j) (hx : Passes CX X E) : OpR X (compareOp .NotIn) (rInX true C sp E) := by
  intro pins s σ H x y v u Q I rx ry h
  obtain ⟨a, dx, fs, rfl, ha, q⟩ := h
  cases (show u = Value.ref a from ry)
  obtain ⟨od, J⟩ := ins_at I ha
  obtain ⟨mm, hF⟩ := I.fr
  obtain ⟨f, fd, ps, ds, cl, me, F, bi, d⟩ := c.ex
  refine PySem.W.notIn_K hF I.ok.mod.kin J me.at_ me.fn ?_
  refine wpAny_mono (run_fn (us := [.ref a, v]) (vs := [.ref a, x]) F (hr.mono hk) bi d hx I (.cons rfl (.cons rx .nil)) q) (fun w s' z => ?_) fun _ _ x => x
  obtain ⟨z', H', I', rz, kk, e, qz⟩ := z
  subst e
  cases rz
  exact wpAny_truthy_bool ⟨.bl (!kk), H', I', rfl, qz⟩
end
section
variable {σ : L2.St} {H : Hp} {Q : VK} {C : Addr} {sp : Sp} {E : XK} {x : V}
theorem rd_own2 {a dx b dy : Addr} {fs gs : List (Str × V)} (h1 : H a = some (.ins C dx fs)) (h2 : H b = some (.ins C dy gs)) (q : sp [.ref a, .ref b] H Q E) : rOwn2 C sp E (.ref a) (.ref b) H Q := ⟨a, dx, fs, b, dy, gs, rfl, rfl, h1, h2, q⟩
theorem rd_ownNe {a dx b dy : Addr} {fs gs : List (Str × V)} (h1 : H a = some (.ins C dx fs)) (h2 : H b = some (.ins C dy gs)) (q : sp [.ref a, .ref b] H (fun z H' => ∃ k, z = .bl k ∧ Q (.bl (!k)) H') E) : rOwnNe C sp E (.ref a) (.ref b) H Q := ⟨a, dx, fs, b, dy, gs, rfl, rfl, h1, h2, q⟩
theorem rd_lenX {a dx : Addr} {fs : List (Str × V)} (h : H a = some (.ins C dx fs)) (q : sp [.ref a] H (fun z H' => ∃ i : Int, z = .int i ∧ (0 ≤ i ∧ i < 2 ^ 63) ∧ Q (.int i) H') E) : rLenX C sp E [.ref a] H Q := ⟨a, dx, fs, rfl, h, q⟩
theorem rd_opInX {a dx : Addr} {fs : List (Str × V)} (h : H a = some (.ins C dx fs)) (q : sp [.ref a, x] H (fun z H' => ∃ k, z = .bl k ∧ Q (.bl (if false then !k else k)) H') E) : rInX false C sp E x (.ref a) H Q := ⟨a, dx, fs, rfl, h, q⟩
theorem rd_opNotInX {a dx : Addr} {fs : List (Str × V)} (h : H a = some (.ins C dx fs)) (q : sp [.ref a, x] H (fun z H' => ∃ k, z = .bl k ∧ Q (.bl (if true then !k else k)) H') E) : rInX true C sp E x (.ref a) H Q := ⟨a, dx, fs, rfl, h, q⟩
end
end RD

/-! ### tuples whose object is told; their methods -/
namespace RD
open PySem PySem.Spec PyProof.Rows L2 He
def TupF (H : Hp) (p : Addr) (xs : List V) : Prop := ∃ o : Obj, o.cls = .type "tuple" ∧ o.dict = none ∧ H p = some (.frz o (.tup xs))
def tTupF (t : TA) : TE := fun σ H Q => t σ H fun xs H1 => xs.length ≤ sizeLine ∧ ∀ (p : Addr) (o : Obj), o.cls = .type "tuple" → o.dict = none → H1 p = none → Q (.ref p) (upd H1 p (.frz o (.tup xs)))
section
variable {X : L2.Cx} {es : List Expr} {t : TA} {pos : Pos}
theorem pe_tupF {x1} (h : PA X es t) : PE X (.Tuple es x1 pos) (tTupF t) := by
  refine ⟨fun pins s σ H Q I hq => ?_⟩
  refine wpAny_Tuple_spliced (thn (h.run pos pins s σ H _ I hq) fun us s1 ⟨xs, H1, I1, r, z, q⟩ => ⟨by rw [← r.length]; exact z, ?_⟩)
  have hf : H1 s1.heap.objs.size = none := I1.hok.fresh (Nat.le_refl _)
  refine ⟨.ref s1.heap.objs.size, upd H1 s1.heap.objs.size (.frz { cls := .type "tuple", data := .seq us.toArray } (.tup xs)), I1.laid (t' := s1.toks) (fun b u e => Heap.get?_push_of_some _ e) (Nat.le_refl _) ?_, rfl, q _ _ rfl rfl hf⟩
  exact ⟨Heap.get?_push_size _ rfl, z, us, r, ⟨_, Heap.get?_push_size _ rfl, rfl, _, rfl⟩⟩
/-- o.m(e, ..), o a tuple whose object is told -/
def tBMT (r : V → List V → Hp → VK → Prop) (to : TE) (t : TA) : TE := fun σ H Q => to σ H fun x H1 => (∃ p xs, x = .ref p ∧ TupF H1 p xs) ∧ t σ H1 fun vs H2 => r x vs H2 Q
theorem pe_bmT {name : Str} {id : String} {r : V → List V → Hp → VK → Prop} {o e : Expr} {es : List Expr} {to : TE} {apos cpos : Pos} (pa : PlainAttrs "tuple") (slot : Slot "tuple" name id) (hty : typeOf (.builtin id) = pure (.type "method_descriptor")) (hm : MtR X id r) (ho : PE X o to) (ha : PA X (e :: es) t)
    (hbase : attributeBase o name X.env (eval o X.env) = eval o X.env := by rfl)
    (hfew : ((backTo cpos (starEach (e :: es) X.env)).all (fun x => !x.1) && (backToKw cpos (keywordEach [] X.env)).all (fun x => x.1.isSome)
      && decide ((e :: es).length + ([] : List Keyword).length + (if ([] : List Keyword).isEmpty then 0 else 1) < 30)) = true := by rfl)
    (hline : (apos.endLine == cpos.line) = true := by rfl) (hs : starEach (e :: es) X.env = (false, eval e X.env) :: starEach es X.env := by rfl) (hplain : (backTo cpos (starEach es X.env)).any (·.1) = false := by rfl) :
    PE X (.Call (.Attribute o name apos) (e :: es) [] cpos) (tBMT r to t) := by
  refine ⟨fun pins s σ H Q I h => ?_⟩
  refine wpAny_Call_method_late hbase hfew hline rfl (thn (ho.run pins s σ H _ I h) fun v s1 ⟨x, H1, I1, r1, ty, q1⟩ => ?_)
  obtain ⟨p, xs, rfl, ob, hc, hd, hH⟩ := ty
  cases (show v = Value.ref p from r1)
  have hg : s1.heap.get? p = some ob := (show ObjOk X.prog X.w H1 s1.heap p (.frz ob (.tup xs)) from I1.hok p _ hH).1
  refine ⟨"tuple", id, pa, slot, hty, ⟨ob, hg, hc⟩, fun a e => by
    cases e
    exact ⟨ob, hg, hd⟩, ?_⟩
  have hA := ha.run cpos pins s1 σ H1 _ I1 q1
  rw [hs] at hA ⊢
  refine Calls.callWith_builtin (by show (false || (backTo cpos (starEach es X.env)).any (·.1)) = false; rw [hplain] <;> rfl) (Calls.evalArgs_plain ?_)
  exact thn hA fun us s2 ⟨vs, H2, I2, r2, q2⟩ => hm pins s2 σ H2 _ vs _ us Q I2 r1 r2 q2
end
section
variable {K : PySem.W.Frag} {σ : L2.St} {H H' : Hp} {Q : VK} {t : TA} {to : TE} {p : Addr} {xs : List V} {r : V → List V → Hp → VK → Prop}
theorem TupF.k0 (h : TupF H p xs) (k : Kp [] H H') : TupF H' p xs := let ⟨o, a, b, c⟩ := h; ⟨o, a, b, k.g0 c⟩
theorem TupF.sq (h : TupF H p xs) : SqT K H p xs := let ⟨o, _, _, c⟩ := h; .inl (.inr ⟨o, c⟩)
theorem rd_tupF (h : t σ H fun xs H1 => xs.length ≤ sizeLine ∧ ∀ (p : Addr) (o : Obj), o.cls = .type "tuple" → o.dict = none → H1 p = none → Q (.ref p) (upd H1 p (.frz o (.tup xs)))) : tTupF t σ H Q := h
theorem rd_bmT (h : to σ H fun x H1 => (∃ p xs, x = .ref p ∧ TupF H1 p xs) ∧ t σ H1 fun vs H2 => r x vs H2 Q) : tBMT r to t σ H Q := h
theorem rd_bmTX {B : Prop} (h : TupF H p xs) (q : B) : (∃ p' xs, V.ref p = .ref p' ∧ TupF H p' xs) ∧ B := ⟨⟨p, xs, rfl, h⟩, q⟩
end
end RD

/-! ### "c" * n, int(text), list(d.values()) -/
namespace RD
open PySem PySem.Spec PyProof.Rows L2 He
theorem foldl_rep (c : Nat) : ∀ (k : Nat) (a : List Nat), (List.replicate k #[c]).foldl (· ++ ·) a.toArray = (a ++ List.replicate k c).toArray
  | 0, a => by simp
  | k + 1, a => by
    rw [List.replicate_succ, List.foldl_cons, List.replicate_succ]
    have := foldl_rep c k (a ++ [c])
    rw [show a.toArray ++ #[c] = (a ++ [c]).toArray by simp, this]
    simp
def rMulC : R2 := fun x y H Q => ∃ (c : Nat) (n : Int), x = .str ⟨#[c]⟩ ∧ y = .int n ∧ 0 ≤ n ∧ n ≤ 100000 ∧ Q (.str ⟨(List.replicate n.toNat c).toArray⟩) H
section
variable {X : L2.Cx}
theorem op_mulC : OpR X (binaryOp .Mult) rMulC := by
  intro pins s σ H x y v u Q I rx ry h
  obtain ⟨c, n, rfl, rfl, h0, h1, q⟩ := h
  obtain ⟨t, rfl⟩ := (show ∃ t, v = Value.str ⟨#[c]⟩ t from rx)
  obtain ⟨t', rfl⟩ := (show ∃ t, u = Value.int n t from ry)
  have hl1 : (⟨#[c]⟩ : Str).length = 1 := rfl
  refine P.mul_str ?_ (fun _ _ => ?_) (fun _ _ => ?_) ?_
  · rw [decide_eq_false (by omega), decide_eq_false (by omega)]
    rfl
  · rw [hl1]
    have : 1 ≤ (2 ^ 63 - 1) / n := by
      refine (Int.le_ediv_iff_mul_le (by omega)).mpr ?_
      omega
    omega
  · rw [hl1, Nat.one_mul]
    have : n.toNat ≤ 100000 := by omega
    have h2 : sizeLine ≥ 100000 := by decide
    exact decide_eq_false (show ¬ n.toNat > sizeLine by omega)
  · by_cases hn : n < 1
    · rw [if_pos hn]
      have e : n.toNat = 0 := by omega
      rw [e] at q
      exact ⟨Nat.zero_le _, .str _, H, I.tok _, ⟨_, rfl⟩, q⟩
    · rw [if_neg hn]
      by_cases e : n = 1
      · subst e
        rw [if_pos (by rfl)]
        exact ⟨.str _, H, I, ⟨_, rfl⟩, q⟩
      · rw [if_neg (by
          rw [hl1]
          simp [e])]
        have hf : (List.replicate n.toNat (⟨#[c]⟩ : Str).cps).foldl (· ++ ·) #[] = (List.replicate n.toNat c).toArray := by
          have := foldl_rep c n.toNat []
          rw [List.nil_append] at this
          exact this
        rw [hf]
        refine ⟨?_, .str _, H, I.tok _, ⟨_, rfl⟩, q⟩
        show (List.replicate n.toNat c).toArray.size ≤ sizeLine
        rw [List.size_toArray, List.length_replicate]
        exact sz1000 (by omega)
def rIntStr : List V → Hp → VK → Prop := fun xs H Q => ∃ a n, xs = [.str a] ∧ PySem.intText? a = some n ∧ a.length ≤ 640 ∧ Q (.int n) H
theorem call_intStr : CallR X (.type "int") rIntStr := call_int_str
def rValsL : V → Hp → VK → Prop := fun x H Q => ∃ (d : Addr) (kvs : List (Key × V)), x = .ref d ∧ H d = some (.dK kvs) ∧ ∀ p, H p = none → Q (.ref p) (upd H p (.lst (kvs.map (·.2))))
def tListVals (te : TE) : TE := fun σ H Q => te σ H fun x H1 => rValsL x H1 Q
theorem kv_vals : ∀ {kvs : List (Key × V)} {vs : List (Key × Value)}, KV kvs vs → Vals (kvs.map (·.2)) (vs.map (·.2))
  | _, _, .nil => .nil
  | _, _, .cons h t => .cons h.2 (kv_vals t)
theorem pe_listVals {e : Expr} {te : TE} {p apos cpos pos : Pos} (hc : X.calm = true) (he : PE X e te) (hg : Gl X "list") (hm : X.mg "list" = none) (hv : bootBuiltins "list" = some (.type "list")) (hbase : attributeBase e "values" X.env (eval e X.env) = eval e X.env := by rfl) (hline : (apos.endLine == cpos.line) = true := by rfl)
    (hs : starEach [.Call (.Attribute e "values" apos) [] [] cpos] X.env = (false, eval (.Call (.Attribute e "values" apos) [] [] cpos) X.env) :: starEach [] X.env := by rfl) :
    PE X (.Call (.Name "list" p) [.Call (.Attribute e "values" apos) [] [] cpos] [] pos) (tListVals te) := by
  refine ⟨fun pins s σ H Q I hq => ?_⟩
  refine wpAny_Call_Name_kw (ld_blt I hg hm hv ?_)
  refine PyProof.Rows.callWith_type1 ?_ hs rfl
  rw [hs]
  show wpAny _ _ (spliced ((false, eval (.Call (.Attribute e "values" apos) [] [] cpos) X.env) :: backTo pos (starEach [] X.env))) _ _ s
  refine Calls.spliced_cons ?_
  refine wpAny_Call_method (T := "dict") (id := "dict.values") hbase rfl hline PySem.F.plainAttrs_dict PySem.F.slot_dict_values PySem.F.type_dict_values (thn (he.run pins s σ H _ I hq) fun u s1 ⟨x, H1, I1, rx, d, kvs, ex, hd, q⟩ => ?_)
  subst ex
  obtain rfl : u = Value.ref d := rx
  obtain ⟨hz, hs0, vs, kv, hdo⟩ := I1.hok d _ hd
  obtain ⟨ep, hat⟩ := hdo.dictAt
  have lk : kvs.length = vs.length := Paired.length kv
  have I2 : Inv X pins σ H1 { s1 with heap := s1.heap.push { cls := .type "dict_values", data := .fields #[.ref d] } } := I1.kept (t' := s1.toks) fun b ob q => Heap.get?_push_of_some _ q
  refine ⟨hdo.typeIs, hdo.mapOf.noDict, ?_⟩
  show wpAny _ _ (callWith cpos (.builtin "dict.values") [.ref d] [] []) _ X.xe s1
  refine method_meetsIn PySem.F.slot_dict_values PySem.F.entry_dict_values rfl (PySem.evalArgs_none ⟨rfl, hdo.typeIs, PySem.F.args_dict_values_1 _, _, meets_dict_values (mixKind X.prog X.w) d hs0, ⟨vs, hdo⟩, ?_⟩)
  refine Calls.spliced_nil ?_
  refine PySem.W.kdl_call (PySem.W.kdl_values (knd := mixKind X.prog X.w) (kvs := vs) (ep := ep)) (I1.ok.hd hc) ⟨⟨_, Heap.get?_push_size _ rfl, rfl, rfl⟩, hat.push _⟩ (by omega) fun h' tk acc c hk hD hacc => ?_
  have ev : acc.toList = vs.map (·.2) := PySem.W.kdl_vals_eq acc.toList (by rw [Array.length_toList]; exact hacc.1) fun j v e => hacc.2 j v (by rw [← Array.getElem?_toList]; exact e)
  refine ⟨.ref _, upd H1 _ (.lst (kvs.map (·.2))), I2.laid (t' := tk) hk (Nat.le_refl _)
    (show ObjOk X.prog X.w _ _ _ (.lst (kvs.map (·.2))) from ⟨by rw [List.length_map]; exact hz, acc.toList, c, by rw [ev]; exact kv_vals kv, by rw [Array.toArray_toList]; exact hD⟩), rfl, q _ (I2.hok.fresh (Nat.le_refl _))⟩
end
section
variable {σ : L2.St} {H : Hp} {Q : VK} {te : TE}
theorem rd_mulC {c : Nat} {n : Int} (h0 : 0 ≤ n) (h1 : n ≤ 100000) (q : Q (.str ⟨(List.replicate n.toNat c).toArray⟩) H) : rMulC (.str ⟨#[c]⟩) (.int n) H Q := ⟨c, n, rfl, rfl, h0, h1, q⟩
theorem rd_intStr {a : Str} {n : Int} (h : PySem.intText? a = some n) (l : a.length ≤ 640) (q : Q (.int n) H) : rIntStr [.str a] H Q := ⟨a, n, rfl, h, l, q⟩
theorem rd_listVals (h : te σ H fun x H1 => rValsL x H1 Q) : tListVals te σ H Q := h
theorem rd_listValsX {d : Addr} {kvs : List (Key × V)} (h : H d = some (.dK kvs)) (q : ∀ p, H p = none → Q (.ref p) (upd H p (.lst (kvs.map (·.2))))) : rValsL (.ref d) H Q := ⟨d, kvs, rfl, h, q⟩
theorem tens : ∀ n : Fin 60, (10 : Int) ≤ 10 ^ (n.val + 1) ∧ (10 : Int) ^ (n.val + 1) ≤ 10 ^ 60 := by decide +kernel
def rTIdx (K : PySem.W.Frag) : V → List V → Hp → VK → Prop := fun x xs H Q => ∃ p, ∃ ys : List Str, ∃ z j, x = .ref p ∧ xs = [.str z] ∧ SqT K H p (ys.map V.str) ∧ ys[j]? = some z ∧ (∀ m, m < j → ys[m]? ≠ some z) ∧ Q (.int (j : Nat)) H
theorem mt_tupIdx {X : L2.Cx} : MtR X "tuple.index" (rTIdx X.K) := mt_tup_index
theorem rd_tidx {K : PySem.W.Frag} {p : Addr} {ys : List Str} {z : Str} {j : Nat} (h : SqT K H p (ys.map V.str)) (e : ys[j]? = some z) (no : ∀ m, m < j → ys[m]? ≠ some z) (q : Q (.int (j : Nat)) H) : rTIdx K (.ref p) [.str z] H Q := ⟨p, ys, z, j, rfl, rfl, h, e, no, q⟩
theorem nines : ∀ n : Fin 61, PySem.intText? ⟨(List.replicate (n.val + 1) 57).toArray⟩ = some (10 ^ (n.val + 1) - 1) := by decide +kernel
end
end RD

/-! ### what of an own class isinstance, | and != ask -/
namespace RD
open PySem PySem.Spec PyProof.Rows L2 He
def clsB (K : PySem.W.Frag) (C : Addr) : Bool := (PySem.W.selfFirst K C && (PySem.W.findIn K (.ref C) "__ne__" == some (some (.builtin "object.__ne__")))) && ((PySem.W.findIn K (.ref C) "__class__" == some (some (.builtin "object.__class__"))) &&
  ((PySem.W.specialIn K (.builtin "object.__class__") "__get__" == some (some (.builtin "getset_descriptor.__get__"))) && ((PySem.W.takesIn K (.builtin "object.__class__") == some true) && (PySem.W.mroIn K C (.type "object") == some true))))
structure OwnC (K : PySem.W.Frag) (C : Addr) : Prop where
  sf : PySem.W.selfFirst K C = true
  ne : PySem.W.findIn K (.ref C) "__ne__" = some (some (.builtin "object.__ne__"))
  ca : PySem.W.findIn K (.ref C) "__class__" = some (some (.builtin "object.__class__"))
  cn : PySem.W.specialIn K (.builtin "object.__class__") "__get__" = some (some (.builtin "getset_descriptor.__get__"))
  ct : PySem.W.takesIn K (.builtin "object.__class__") = some true
  cm : PySem.W.mroIn K C (.type "object") = some true
/-- values of these kinds are none of the class -/
def thgB (K : PySem.W.Frag) (C : Addr) : Bool := ["NoneType", "list", "tuple", "int", "str", "bool", "dict"].all fun n => PySem.W.notFirst K C (.type n) && (PySem.W.kitOne K (.type n) (.ref C) == some false)
theorem thg_of {K : PySem.W.Frag} {C : Addr} (h : thgB K C = true) {n : String} (m : n ∈ ["NoneType", "list", "tuple", "int", "str", "bool", "dict"]) : PySem.W.notFirst K C (.type n) = true ∧ PySem.W.kitOne K (.type n) (.ref C) = some false := by
  have := List.all_eq_true.mp h n m
  rw [Bool.and_eq_true] at this
  exact ⟨this.1, beq_iff_eq.mp this.2⟩
theorem ownC_of {K : PySem.W.Frag} {C : Addr} (h : clsB K C = true) : OwnC K C := by
  unfold clsB at h
  simp only [Bool.and_eq_true] at h
  obtain ⟨⟨a, b⟩, c, d, e, f⟩ := h
  exact ⟨a, beq_iff_eq.mp b, beq_iff_eq.mp c, beq_iff_eq.mp d, beq_iff_eq.mp e, beq_iff_eq.mp f⟩
theorem rd_isiOwn {K : PySem.W.Frag} {H : Hp} {Q : VK} {a C dx : Addr} {fs : List (Str × V)} (o : OwnC K C) (cl : Cls K C) (h : H a = some (.ins C dx fs)) (q : Q (.bl true) H) : rIsi K [.ref a, .ref C] H Q :=
  ⟨.ref a, .ref C, .ref C, .ref C, true, rfl, .own C, .base (.ins h cl o.ca o.cn o.ct o.cm), by
    unfold PySem.W.kitOne
    simp, q⟩
end RD

/-! ### sorted(d), any number of int keys -/
namespace L2
open PySem PySem.Spec PyProof.Rows
def rSortDL : List V → Hp → VK → Prop := fun xs H Q => ∃ (a : Addr) (kvs : List (Key × V)) (ks : List Int), xs = [.ref a] ∧ Rd H a (.dK kvs) ∧ kvs.map (·.1) = ks.map Sum.inl ∧
    ∀ (ys : List Int) (p : Addr), ys.Perm ks → ys.Pairwise (· ≤ ·) → H p = none → Q (.ref p) (upd H p (.lst (ys.map V.int)))
theorem call_sortedDL {X : Cx} (hcalm : X.calm = true) : CallR X (.builtin "sorted") rSortDL := by
  intro pins s σ H xs us Q I r q
  obtain ⟨a, kvs, ks, ex, hd, hks, q⟩ := q
  subst ex
  obtain ⟨u, eu, rx⟩ := vals1 r
  subst eu
  cases rx
  obtain ⟨z, lo, vs, rel, dd⟩ := dk_rd I.hok hd
  obtain ⟨ep, hat⟩ := dd.dictAt
  have hkeys : vs.map (·.1) = ks.map Sum.inl := rel.keys.symm.trans hks
  have hl : vs.length = ks.length := by
    have e := congrArg List.length hkeys
    rw [List.length_map, List.length_map] at e
    exact e
  have h16 : vs.length ≤ sizeLine := by rw [← rel.length]; exact z
  refine Calls.call_function_entry PyProof.Rows.kind_sorted PyProof.Rows.plain_sorted PyProof.Rows.entry_sorted (PyProof.Rows.args_sorted1 _) ?_
  unfold Builtin.«sorted»
  refine wpAny_bind (m := checkCount "sorted" 1 1 _) (wpAny_pure ?_)
  refine wpAny_bind (PySem.W.kdu_collect (A := X.A.in1) (PySem.W.kdl_dict (knd := mixKind X.prog X.w) (kvs := vs) (ep := ep) lo) (I.ok.hd hcalm) hat h16 fun h' tk acc hk hacc => ?_)
  have hal : acc.toList.length = ks.length := by rw [Array.length_toList, hacc.1, hl]
  have hS : IntsAre acc.toList ks := ints_each hal fun j v e => by
    obtain ⟨k, x, e1, e2⟩ := hacc.2 j v (by rw [← Array.getElem?_toList]; exact e)
    have e3 : (vs.map (·.1))[j]? = some k := by rw [List.getElem?_map, e1]; rfl
    rw [hkeys, List.getElem?_map] at e3
    cases e4 : ks[j]? with
    | none => rw [e4] at e3; cases e3
    | some y =>
      rw [e4] at e3
      have e5 : Sum.inl y = k := Option.some.inj e3
      subst e5
      rcases keyIs_shape (show keyIs (Sum.inl y) v = true from e2) with ⟨i, t, ek, ev⟩ | ⟨z, t, ek, ev⟩
      · cases ek
        exact ⟨y, t, rfl, ev⟩
      · cases ek
  have I1 : Inv X pins σ H { s with heap := h', toks := tk } := I.kept hk
  have hz2 : acc.toList.length ≤ sizeLine := by rw [hal, ← hl]; exact h16
  refine wpAny_bind (wpAny_newList ?_ hz2)
  have hoL : (h'.push (seqObj "list" acc.toList.toArray 0)).get? h'.objs.size = some (seqObj "list" acc.toList.toArray 0) := Heap.get?_push_size _ rfl
  show wpAny _ _ _ _ _ { s with heap := h'.push (seqObj "list" acc.toList.toArray 0), toks := tk }
  refine wpAny_bind (wpAny_holding (wpAny_call_entry PyProof.Rows.slot_list_sort ⟨_, hoL, rfl⟩ PyProof.Rows.entry_list_sort
    (SrtO.list_sort_ord (s := { s with heap := h'.push (seqObj "list" acc.toList.toArray 0), toks := tk }) SrtO.swo_int hoL hz2 (fun h2 => SrtO.ints_sortable hS h2) fun out h1 h2 => ⟨_, rfl, ?_⟩) (PyProof.Rows.args_list_sort _)))
  obtain ⟨g1, g2, g3⟩ := SrtO.ints_out hS h1 h2
  obtain ⟨e', he'⟩ := PyProof.Rows.sortedHeap_at (vs := acc.toList) (out := out.toArray) hoL
  have hlen : ((out.map SrtO.iv).map V.int).length ≤ sizeLine := by
    rw [List.length_map, g2.length_eq, ← hal]
    exact hz2
  refine wpAny_pure ⟨_, rfl, .ref h'.objs.size, upd H h'.objs.size (.lst ((out.map SrtO.iv).map V.int)), I1.laid (t' := tk) (fun b u e => ?_) (Nat.le_refl _)
    (show ObjOk X.prog X.w _ _ _ (.lst ((out.map SrtO.iv).map V.int)) from ⟨hlen, out, e', vals_of_ints g1, he'⟩), rfl, q _ _ g2 g3 (I1.hok.fresh (Nat.le_refl _))⟩
  have hb : b < h'.objs.size := Heap.lt_size e
  rw [PyProof.Rows.sortedHeap_old (Nat.ne_of_lt hb) (by rw [size_push']; exact Nat.lt_succ_of_lt hb)]
  exact Heap.get?_push_of_some _ e
end L2
namespace RD
open PySem PySem.Spec PyProof.Rows L2 He
theorem rd_sortedDL {H : Hp} {Q : VK} {a : Addr} {kvs : List (Key × V)} {ks : List Int} (h : H a = some (.dK kvs)) (e : kvs.map (·.1) = ks.map Sum.inl) (q : ∀ (ys : List Int) (p : Addr), ys.Perm ks → ys.Pairwise (· ≤ ·) → H p = none → Q (.ref p) (upd H p (.lst (ys.map V.int)))) : rSortDL [.ref a] H Q := ⟨a, kvs, ks, rfl, .inl h, e, q⟩
end RD
/-! ### == and != of dicts whose values are data -/
namespace RD
open PySem PySem.Spec PyProof.Rows L2 He
def eqDD (f g : Key → PyData) (ks ls : List (Key × V)) : Bool := (ks.length == ls.length) && ks.all fun p => (valV ls p.1).isSome && PyData.eqv (f p.1) (g p.1)
def DDat (K : PySem.W.Frag) (H : Hp) (f : Key → PyData) (ks : List (Key × V)) : Prop := ∀ p, p ∈ ks → Dp K H p.2 (f p.1) ∧ SeqAt.shaped (f p.1) = true
def rEqDD (neg : Bool) (K : PySem.W.Frag) : R2 := fun x y H Q => ∃ a b ks ls f g, x = .ref a ∧ y = .ref b ∧ H a = some (.dK ks) ∧ H b = some (.dK ls) ∧ DDat K H f ks ∧ DDat K H g ls ∧ Q (.bl (if neg then !(eqDD f g ks ls) else eqDD f g ks ls)) H
theorem valV_mem {κ : Type} [DecidableEq κ] {k : κ} {v : V} : ∀ {ls : List (κ × V)}, valV ls k = some v → (k, v) ∈ ls
  | [], h => by cases h
  | p :: r, h => by
    by_cases e : p.1 = k
    · rw [valV_pos e] at h
      cases h
      subst e
      exact List.mem_cons_self ..
    · rw [valV_neg e] at h
      exact List.mem_cons_of_mem _ (valV_mem h)
theorem hits_data {X : L2.Cx} {pins : List (Addr × Obj)} {σ : L2.St} {H : Hp} {s : Shared} {f g : Key → PyData} {ls : List (Key × V)} {vb : List (Key × Value)} (I : Inv X pins σ H s) (hu : X.A.in1.units + 64 < cLine) (rb : KV ls vb) (gb : DDat X.K H g ls) {ks : List (Key × V)} {va : List (Key × Value)} (ra : KV ks va) :
    DDat X.K H f ks → PySem.W.KeqHits X.A.in1 s vb va (ks.all fun p => (valV ls p.1).isSome && PyData.eqv (f p.1) (g p.1)) := by
  unfold KV at ra
  induction ra with
  | nil => intro _; exact .nil
  | @cons p q ps qs h t ih =>
    intro hp
    obtain ⟨h1, h2⟩ := h
    obtain ⟨dp, sp⟩ := hp p List.mem_cons_self
    have it := ih fun p' hm => hp p' (List.mem_cons_of_mem _ hm)
    obtain ⟨k, v⟩ := q
    have h1' : p.1 = k := h1
    rw [List.all_cons]
    cases e : valV ls p.1 with
    | none =>
      have rr : RelO none (valueAt vb p.1) := by rw [← e]; exact rb.val p.1
      rw [show (none : Option V).isSome = false from rfl, Bool.false_and, Bool.false_and]
      refine .miss ?_
      rw [← h1']
      exact rr.none_of
    | some z =>
      have rr : RelO (some z) (valueAt vb p.1) := by rw [← e]; exact rb.val p.1
      obtain ⟨y, hy, ry⟩ := rr.some_of
      rw [h1'] at hy
      obtain ⟨dz, sz⟩ := gb (p.1, z) (valV_mem e)
      obtain ⟨as, r1⟩ := Dp.reads I _ _ _ dp h2
      obtain ⟨bs, r2⟩ := Dp.reads I _ _ _ dz ry
      rw [show (some z).isSome = true from rfl, Bool.true_and]
      exact .hit hy (PySem.W.keq_at r1 r2 sp sz hu) it
theorem op_eqDD {X : L2.Cx} (hu : X.A.units + 70 < cLine) : OpR X (compareOp .Eq) (rEqDD false X.K) := by
  intro pins s σ H x y v u Q I rx ry h
  obtain ⟨a, b, ks, ls, f, g, rfl, rfl, ea, eb, hf, hg, q⟩ := h
  obtain rfl : v = Value.ref a := rx
  obtain rfl : u = Value.ref b := ry
  obtain ⟨_, ya, va, ra, da⟩ := (show ObjOk X.prog X.w H s.heap a (.dK ks) from I.hok a _ ea)
  obtain ⟨_, yb, vb, rb, db⟩ := (show ObjOk X.prog X.w H s.heap b (.dK ls) from I.hok b _ eb)
  have e1 : va.length = ks.length := ra.length.symm
  have e2 : vb.length = ls.length := rb.length.symm
  refine PySem.W.keq_eq (knd := mixKind X.prog X.w) ya yb da db (by omega) (fun _ => hits_data I (show X.A.units + 1 + 64 < cLine by omega) rb hg ra hf) (fin_bl I q ?_)
  rw [if_neg Bool.false_ne_true, e1, e2]
  rfl
theorem op_neDD {X : L2.Cx} (hu : X.A.units + 70 < cLine) : OpR X (compareOp .NotEq) (rEqDD true X.K) := by
  intro pins s σ H x y v u Q I rx ry h
  obtain ⟨a, b, ks, ls, f, g, rfl, rfl, ea, eb, hf, hg, q⟩ := h
  obtain rfl : v = Value.ref a := rx
  obtain rfl : u = Value.ref b := ry
  obtain ⟨_, ya, va, ra, da⟩ := (show ObjOk X.prog X.w H s.heap a (.dK ks) from I.hok a _ ea)
  obtain ⟨_, yb, vb, rb, db⟩ := (show ObjOk X.prog X.w H s.heap b (.dK ls) from I.hok b _ eb)
  have e1 : va.length = ks.length := ra.length.symm
  have e2 : vb.length = ls.length := rb.length.symm
  refine PySem.W.keq_ne (knd := mixKind X.prog X.w) ya yb da db (by omega) (fun _ => hits_data I (show X.A.units + 1 + 64 < cLine by omega) rb hg ra hf) (fin_bl I q ?_)
  rw [if_pos rfl, e1, e2]
  rfl
theorem _root_.L2.Room.units70 {k : Nat} {A : PySem.Around} (r : L2.Room k A) : A.units + 70 < PySem.cLine := by
  have := r.un
  omega
theorem rd_eqDD {K : PySem.W.Frag} {H : Hp} {Q : VK} {a b : Addr} {ks ls : List (Key × V)} {f g : Key → PyData} (h1 : H a = some (.dK ks)) (h2 : H b = some (.dK ls)) (d1 : DDat K H f ks) (d2 : DDat K H g ls) (q : Q (.bl (eqDD f g ks ls)) H) : rEqDD false K (.ref a) (.ref b) H Q := ⟨a, b, ks, ls, f, g, rfl, rfl, h1, h2, d1, d2, q⟩
theorem rd_neDD {K : PySem.W.Frag} {H : Hp} {Q : VK} {a b : Addr} {ks ls : List (Key × V)} {f g : Key → PyData} (h1 : H a = some (.dK ks)) (h2 : H b = some (.dK ls)) (d1 : DDat K H f ks) (d2 : DDat K H g ls) (q : Q (.bl (!(eqDD f g ks ls))) H) : rEqDD true K (.ref a) (.ref b) H Q := ⟨a, b, ks, ls, f, g, rfl, rfl, h1, h2, d1, d2, q⟩
end RD

namespace My
open PySem PySem.Spec PyProof.Rows L2 He RD
open PySem PySem.Spec PyProof.Rows L2 He RD
def top (i : Nat) : Stmt := PySem.Challenge.pw_livingroll_k13_told_until_cycle.main.body.getD i (.Pass ⟨0, 0, 0, 0⟩)
abbrev R : PySem.W.OpenRow := PySem.W.OpenLaw.row PySem.Challenge.rw_livingroll_k13_told_until_cycle
abbrev s_whole : Stmt := (top 7)
abbrev n_whole : List Str := ["value", "low", "high"]
abbrev p_whole : List Str := ["value", "low", "high"]
theorem sc_whole : FnScope n_whole p_whole (defScope s_whole) := ⟨rfl, rfl, rfl, by decide +kernel, rfl, by decide +kernel, by decide +kernel⟩
def d_whole : DefD := ⟨("whole", none), "whole", "whole", defArgs s_whole, defBody s_whole, defScope s_whole, [], []⟩
abbrev s_Setting_init : Stmt := (inClass (top 8) 5)
abbrev n_Setting_init : List Str := ["self", "bits", "patience", "room", "grace", "helpers"]
abbrev p_Setting_init : List Str := ["self", "bits", "patience", "room", "grace", "helpers"]
theorem sc_Setting_init : FnScope n_Setting_init p_Setting_init (defScope s_Setting_init) := ⟨rfl, rfl, rfl, by decide +kernel, rfl, by decide +kernel, by decide +kernel⟩
def d_Setting_init : DefD := ⟨("Setting", some "__init__"), "__init__", "Setting.__init__", defArgs s_Setting_init, defBody s_Setting_init, defScope s_Setting_init, [], [("grace", .int 6), ("helpers", .int 1)]⟩
abbrev s_Setting_cycle : Stmt := (inClass (top 8) 8)
abbrev n_Setting_cycle : List Str := ["self"]
abbrev p_Setting_cycle : List Str := ["self"]
theorem sc_Setting_cycle : FnScope n_Setting_cycle p_Setting_cycle (defScope s_Setting_cycle) := ⟨rfl, rfl, rfl, by decide +kernel, rfl, by decide +kernel, by decide +kernel⟩
def g_Setting_cycle : GetD := ⟨"Setting", "cycle", "cycle", "Setting.cycle", defArgs s_Setting_cycle, defBody s_Setting_cycle, defScope s_Setting_cycle⟩
abbrev s_News_init : Stmt := (inClass (top 2) 0)
abbrev n_News_init : List Str := ["self", "setting"]
abbrev p_News_init : List Str := ["self", "setting"]
theorem sc_News_init : FnScope n_News_init p_News_init (defScope s_News_init) := ⟨rfl, rfl, rfl, by decide +kernel, rfl, by decide +kernel, by decide +kernel⟩
def d_News_init : DefD := ⟨("News", some "__init__"), "__init__", "News.__init__", defArgs s_News_init, defBody s_News_init, defScope s_News_init, [], []⟩
abbrev s_News_note : Stmt := (inClass (top 2) 1)
abbrev n_News_note : List Str := ["self", "saying"]
abbrev p_News_note : List Str := ["self", "saying"]
theorem sc_News_note : FnScope n_News_note p_News_note (defScope s_News_note) := ⟨rfl, rfl, rfl, by decide +kernel, rfl, by decide +kernel, by decide +kernel⟩
def d_News_note : DefD := ⟨("News", some "note"), "note", "News.note", defArgs s_News_note, defBody s_News_note, defScope s_News_note, [], []⟩
abbrev s_News_pick : Stmt := (inClass (top 2) 2)
abbrev n_News_pick : List Str := ["self", "order", "seat", "tellings"]
abbrev p_News_pick : List Str := ["self"]
theorem sc_News_pick : FnScope n_News_pick p_News_pick (defScope s_News_pick) := ⟨rfl, rfl, rfl, by decide +kernel, rfl, by decide +kernel, by decide +kernel⟩
def d_News_pick : DefD := ⟨("News", some "pick"), "pick", "News.pick", defArgs s_News_pick, defBody s_News_pick, defScope s_News_pick, [], []⟩
abbrev s_News_rows : Stmt := (inClass (top 2) 4)
abbrev n_News_rows : List Str := ["self", "seat"]
abbrev p_News_rows : List Str := ["self"]
theorem sc_News_rows : FnScope n_News_rows p_News_rows (defScope s_News_rows) := ⟨rfl, rfl, rfl, by decide +kernel, rfl, by decide +kernel, by decide +kernel⟩
def d_News_rows : DefD := ⟨("News", some "rows"), "rows", "News.rows", defArgs s_News_rows, defBody s_News_rows, defScope s_News_rows, [], []⟩
abbrev s_News_hot : Stmt := (inClass (top 2) 5)
abbrev n_News_hot : List Str := ["self", "seat"]
abbrev p_News_hot : List Str := ["self", "seat"]
theorem sc_News_hot : FnScope n_News_hot p_News_hot (defScope s_News_hot) := ⟨rfl, rfl, rfl, by decide +kernel, rfl, by decide +kernel, by decide +kernel⟩
def d_News_hot : DefD := ⟨("News", some "hot"), "hot", "News.hot", defArgs s_News_hot, defBody s_News_hot, defScope s_News_hot, [], []⟩
abbrev s_News_quiet : Stmt := (inClass (top 2) 6)
abbrev n_News_quiet : List Str := ["self"]
abbrev p_News_quiet : List Str := ["self"]
theorem sc_News_quiet : FnScope n_News_quiet p_News_quiet (defScope s_News_quiet) := ⟨rfl, rfl, rfl, by decide +kernel, rfl, by decide +kernel, by decide +kernel⟩
def g_News_quiet : GetD := ⟨"News", "quiet", "quiet", "News.quiet", defArgs s_News_quiet, defBody s_News_quiet, defScope s_News_quiet⟩
abbrev s_News___len__ : Stmt := (inClass (top 2) 7)
abbrev n_News___len__ : List Str := ["self"]
abbrev p_News___len__ : List Str := ["self"]
theorem sc_News___len__ : FnScope n_News___len__ p_News___len__ (defScope s_News___len__) := ⟨rfl, rfl, rfl, by decide +kernel, rfl, by decide +kernel, by decide +kernel⟩
def d_News___len__ : DefD := ⟨("News", some "__len__"), "__len__", "News.__len__", defArgs s_News___len__, defBody s_News___len__, defScope s_News___len__, [], []⟩
abbrev s_News_told : Stmt := (inClass (top 2) 3)
abbrev n_News_told : List Str := ["self", "sayings", "seat", "saying", "tellings"]
abbrev p_News_told : List Str := ["self", "sayings"]
theorem sc_News_told : FnScope n_News_told p_News_told (defScope s_News_told) := ⟨rfl, rfl, rfl, by decide +kernel, rfl, by decide +kernel, by decide +kernel⟩
def d_News_told : DefD := ⟨("News", some "told"), "told", "News.told", defArgs s_News_told, defBody s_News_told, defScope s_News_told, [], []⟩
abbrev s_l_box : Stmt := (top 10)
abbrev n_l_box : List Str := ["_law_script", "_law_k", "_law_cell"]
abbrev p_l_box : List Str := ["_law_script", "_law_k"]
theorem sc_l_box : FnScope n_l_box p_l_box (defScope s_l_box) := ⟨rfl, rfl, rfl, by decide +kernel, rfl, by decide +kernel, by decide +kernel⟩
def d_l_box : DefD := ⟨("_law_box", none), "_law_box", "_law_box", defArgs s_l_box, defBody s_l_box, defScope s_l_box, [], []⟩
abbrev s_l_take : Stmt := (top 11)
abbrev n_l_take : List Str := ["_law_box_here", "_law_many", "_law_digit", "_law_first", "_law_second", "_law_third"]
abbrev p_l_take : List Str := ["_law_box_here", "_law_many"]
theorem sc_l_take : FnScope n_l_take p_l_take (defScope s_l_take) := ⟨rfl, rfl, rfl, by decide +kernel, rfl, by decide +kernel, by decide +kernel⟩
def d_l_take : DefD := ⟨("_law_take", none), "_law_take", "_law_take", defArgs s_l_take, defBody s_l_take, defScope s_l_take, [], []⟩
abbrev s_l_marks : Stmt := (top 12)
abbrev n_l_marks : List Str := []
abbrev p_l_marks : List Str := []
theorem sc_l_marks : FnScope n_l_marks p_l_marks (defScope s_l_marks) := ⟨rfl, rfl, rfl, by decide +kernel, rfl, by decide +kernel, by decide +kernel⟩
def d_l_marks : DefD := ⟨("_law_marks", none), "_law_marks", "_law_marks", defArgs s_l_marks, defBody s_l_marks, defScope s_l_marks, [], []⟩
abbrev s_l_rank : Stmt := (top 13)
abbrev n_l_rank : List Str := ["_law_row"]
abbrev p_l_rank : List Str := ["_law_row"]
theorem sc_l_rank : FnScope n_l_rank p_l_rank (defScope s_l_rank) := ⟨rfl, rfl, rfl, by decide +kernel, rfl, by decide +kernel, by decide +kernel⟩
def d_l_rank : DefD := ⟨("_law_rank", none), "_law_rank", "_law_rank", defArgs s_l_rank, defBody s_l_rank, defScope s_l_rank, [], []⟩
abbrev s_l_life : Stmt := (top 15)
abbrev n_l_life : List Str := ["_law_box_here", "_law_way"]
abbrev p_l_life : List Str := ["_law_box_here"]
theorem sc_l_life : FnScope n_l_life p_l_life (defScope s_l_life) := ⟨rfl, rfl, rfl, by decide +kernel, rfl, by decide +kernel, by decide +kernel⟩
def d_l_life : DefD := ⟨("_law_life", none), "_law_life", "_law_life", defArgs s_l_life, defBody s_l_life, defScope s_l_life, [], []⟩
abbrev s_l_worth : Stmt := (top 16)
abbrev n_l_worth : List Str := ["_law_box_here", "_law_letters", "_law_size", "_law_k"]
abbrev p_l_worth : List Str := ["_law_box_here"]
theorem sc_l_worth : FnScope n_l_worth p_l_worth (defScope s_l_worth) := ⟨rfl, rfl, rfl, by decide +kernel, rfl, by decide +kernel, by decide +kernel⟩
def d_l_worth : DefD := ⟨("_law_worth", none), "_law_worth", "_law_worth", defArgs s_l_worth, defBody s_l_worth, defScope s_l_worth, [], []⟩
abbrev s_l_menu : Stmt := (top 17)
abbrev n_l_menu : List Str := ["_law_box_here", "_law_seats", "_law_many", "_law_k"]
abbrev p_l_menu : List Str := ["_law_box_here", "_law_seats"]
theorem sc_l_menu : FnScope n_l_menu p_l_menu (defScope s_l_menu) := ⟨rfl, rfl, rfl, by decide +kernel, rfl, by decide +kernel, by decide +kernel⟩
def d_l_menu : DefD := ⟨("_law_menu", none), "_law_menu", "_law_menu", defArgs s_l_menu, defBody s_l_menu, defScope s_l_menu, [], []⟩
abbrev s_l_seat : Stmt := (top 18)
abbrev n_l_seat : List Str := ["_law_box_here", "_law_menu_here", "_law_seats"]
abbrev p_l_seat : List Str := ["_law_box_here", "_law_menu_here", "_law_seats"]
theorem sc_l_seat : FnScope n_l_seat p_l_seat (defScope s_l_seat) := ⟨rfl, rfl, rfl, by decide +kernel, rfl, by decide +kernel, by decide +kernel⟩
def d_l_seat : DefD := ⟨("_law_seat", none), "_law_seat", "_law_seat", defArgs s_l_seat, defBody s_l_seat, defScope s_l_seat, [], []⟩
abbrev s_l_whole : Stmt := (top 20)
abbrev n_l_whole : List Str := ["_law_gave"]
abbrev p_l_whole : List Str := ["_law_gave"]
theorem sc_l_whole : FnScope n_l_whole p_l_whole (defScope s_l_whole) := ⟨rfl, rfl, rfl, by decide +kernel, rfl, by decide +kernel, by decide +kernel⟩
def d_l_whole : DefD := ⟨("_law_whole", none), "_law_whole", "_law_whole", defArgs s_l_whole, defBody s_l_whole, defScope s_l_whole, [], []⟩
abbrev s_l_same : Stmt := (top 21)
abbrev n_l_same : List Str := ["_law_gave", "_law_due"]
abbrev p_l_same : List Str := ["_law_gave", "_law_due"]
theorem sc_l_same : FnScope n_l_same p_l_same (defScope s_l_same) := ⟨rfl, rfl, rfl, by decide +kernel, rfl, by decide +kernel, by decide +kernel⟩
def d_l_same : DefD := ⟨("_law_same", none), "_law_same", "_law_same", defArgs s_l_same, defBody s_l_same, defScope s_l_same, [], []⟩
abbrev s_l_same_rows : Stmt := (top 22)
abbrev n_l_same_rows : List Str := ["_law_gave", "_law_due", "_law_k"]
abbrev p_l_same_rows : List Str := ["_law_gave", "_law_due"]
theorem sc_l_same_rows : FnScope n_l_same_rows p_l_same_rows (defScope s_l_same_rows) := ⟨rfl, rfl, rfl, by decide +kernel, rfl, by decide +kernel, by decide +kernel⟩
def d_l_same_rows : DefD := ⟨("_law_same_rows", none), "_law_same_rows", "_law_same_rows", defArgs s_l_same_rows, defBody s_l_same_rows, defScope s_l_same_rows, [], []⟩
abbrev s_l_ranked : Stmt := (top 14)
abbrev n_l_ranked : List Str := ["_law_seat_here", "_law_number", "_law_worth_here"]
abbrev p_l_ranked : List Str := ["_law_seat_here", "_law_number", "_law_worth_here"]
theorem sc_l_ranked : FnScope n_l_ranked p_l_ranked (defScope s_l_ranked) := ⟨rfl, rfl, rfl, by decide +kernel, rfl, by decide +kernel, by decide +kernel⟩
def d_l_ranked : DefD := ⟨("_law_ranked", none), "_law_ranked", "_law_ranked", defArgs s_l_ranked, defBody s_l_ranked, defScope s_l_ranked, [], []⟩
abbrev s_l_fresh : Stmt := (top 23)
abbrev n_l_fresh : List Str := ["_law_box_here", "_law_menu_here", "_law_seats", "_law_seat_here", "_law_life_here", "_law_mark"]
abbrev p_l_fresh : List Str := ["_law_box_here", "_law_menu_here", "_law_seats"]
theorem sc_l_fresh : FnScope n_l_fresh p_l_fresh (defScope s_l_fresh) := ⟨rfl, rfl, rfl, by decide +kernel, rfl, by decide +kernel, by decide +kernel⟩
def d_l_fresh : DefD := ⟨("_law_fresh", none), "_law_fresh", "_law_fresh", defArgs s_l_fresh, defBody s_l_fresh, defScope s_l_fresh, [], []⟩
abbrev s_l_near : Stmt := (top 24)
abbrev n_l_near : List Str := ["_law_box_here", "_law_row", "_law_before", "_law_way"]
abbrev p_l_near : List Str := ["_law_box_here", "_law_row", "_law_before"]
theorem sc_l_near : FnScope n_l_near p_l_near (defScope s_l_near) := ⟨rfl, rfl, rfl, by decide +kernel, rfl, by decide +kernel, by decide +kernel⟩
def d_l_near : DefD := ⟨("_law_near", none), "_law_near", "_law_near", defArgs s_l_near, defBody s_l_near, defScope s_l_near, [], []⟩
abbrev s_l_says : Stmt := (top 25)
abbrev n_l_says : List Str := ["_law_gave", "_law_due"]
abbrev p_l_says : List Str := ["_law_gave", "_law_due"]
theorem sc_l_says : FnScope n_l_says p_l_says (defScope s_l_says) := ⟨rfl, rfl, rfl, by decide +kernel, rfl, by decide +kernel, by decide +kernel⟩
def d_l_says : DefD := ⟨("_law_says", none), "_law_says", "_law_says", defArgs s_l_says, defBody s_l_says, defScope s_l_says, [], []⟩
abbrev s_l_setting : Stmt := (top 19)
abbrev n_l_setting : List Str := ["_law_box_here", "_law_large", "_law_bits", "_law_patience", "_law_room"]
abbrev p_l_setting : List Str := ["_law_box_here", "_law_large"]
theorem sc_l_setting : FnScope n_l_setting p_l_setting (defScope s_l_setting) := ⟨rfl, rfl, rfl, by decide +kernel, rfl, by decide +kernel, by decide +kernel⟩
def d_l_setting : DefD := ⟨("_law_setting", none), "_law_setting", "_law_setting", defArgs s_l_setting, defBody s_l_setting, defScope s_l_setting, [], []⟩
abbrev s_l_hot : Stmt := (top 26)
abbrev n_l_hot : List Str := ["_law_table", "_law_seat_here"]
abbrev p_l_hot : List Str := ["_law_table", "_law_seat_here"]
theorem sc_l_hot : FnScope n_l_hot p_l_hot (defScope s_l_hot) := ⟨rfl, rfl, rfl, by decide +kernel, rfl, by decide +kernel, by decide +kernel⟩
def d_l_hot : DefD := ⟨("_law_hot", none), "_law_hot", "_law_hot", defArgs s_l_hot, defBody s_l_hot, defScope s_l_hot, [], []⟩
abbrev s_l_counted : Stmt := (top 27)
abbrev n_l_counted : List Str := ["_law_table", "_law_cycle", "_law_handed", "_law_seat_here", "_law_row"]
abbrev p_l_counted : List Str := ["_law_table", "_law_cycle", "_law_handed"]
theorem sc_l_counted : FnScope n_l_counted p_l_counted (defScope s_l_counted) := ⟨rfl, rfl, rfl, by decide +kernel, rfl, by decide +kernel, by decide +kernel⟩
def d_l_counted : DefD := ⟨("_law_counted", none), "_law_counted", "_law_counted", defArgs s_l_counted, defBody s_l_counted, defScope s_l_counted, [], []⟩
abbrev s_l_pick : Stmt := (top 28)
abbrev n_l_pick : List Str := ["_law_table", "_law_room", "_law_order", "_law_seat_here", "_law_pair"]
abbrev p_l_pick : List Str := ["_law_table", "_law_room"]
theorem sc_l_pick : FnScope n_l_pick p_l_pick (defScope s_l_pick) := ⟨rfl, rfl, rfl, by decide +kernel, rfl, by decide +kernel, by decide +kernel⟩
def d_l_pick : DefD := ⟨("_law_pick", none), "_law_pick", "_law_pick", defArgs s_l_pick, defBody s_l_pick, defScope s_l_pick, [], []⟩
abbrev s_l_tell : Stmt := (top 29)
abbrev n_l_tell : List Str := ["_law_news", "_law_table", "_law_cycle", "_law_handed", "_law_kept"]
abbrev p_l_tell : List Str := ["_law_news", "_law_table", "_law_cycle", "_law_handed"]
theorem sc_l_tell : FnScope n_l_tell p_l_tell (defScope s_l_tell) := ⟨rfl, rfl, rfl, by decide +kernel, rfl, by decide +kernel, by decide +kernel⟩
def d_l_tell : DefD := ⟨("_law_tell", none), "_law_tell", "_law_tell", defArgs s_l_tell, defBody s_l_tell, defScope s_l_tell, [], []⟩
abbrev s_l_list : Stmt := (top 30)
abbrev n_l_list : List Str := ["_law_box_here", "_law_table", "_law_menu_here", "_law_seats", "_law_handed", "_law_seat_here", "_law_row", "_law_way", "_law_k"]
abbrev p_l_list : List Str := ["_law_box_here", "_law_table", "_law_menu_here", "_law_seats"]
theorem sc_l_list : FnScope n_l_list p_l_list (defScope s_l_list) := ⟨rfl, rfl, rfl, by decide +kernel, rfl, by decide +kernel, by decide +kernel⟩
def d_l_list : DefD := ⟨("_law_list", none), "_law_list", "_law_list", defArgs s_l_list, defBody s_l_list, defScope s_l_list, [], []⟩
abbrev s_l_picks : Stmt := (top 31)
abbrev n_l_picks : List Str := ["_law_box_here", "_law_news", "_law_table", "_law_cycle", "_law_room", "_law_turn", "_law_gave"]
abbrev p_l_picks : List Str := ["_law_box_here", "_law_news", "_law_table", "_law_cycle", "_law_room"]
theorem sc_l_picks : FnScope n_l_picks p_l_picks (defScope s_l_picks) := ⟨rfl, rfl, rfl, by decide +kernel, rfl, by decide +kernel, by decide +kernel⟩
def d_l_picks : DefD := ⟨("_law_picks", none), "_law_picks", "_law_picks", defArgs s_l_picks, defBody s_l_picks, defScope s_l_picks, [], []⟩
abbrev s_l_to_end : Stmt := (top 32)
abbrev n_l_to_end : List Str := ["_law_box_here", "_law_news", "_law_table", "_law_cycle", "_law_seat_here", "_law_row", "_law_left", "_law_turn"]
abbrev p_l_to_end : List Str := ["_law_box_here", "_law_news", "_law_table", "_law_cycle"]
theorem sc_l_to_end : FnScope n_l_to_end p_l_to_end (defScope s_l_to_end) := ⟨rfl, rfl, rfl, by decide +kernel, rfl, by decide +kernel, by decide +kernel⟩
def d_l_to_end : DefD := ⟨("_law_to_end", none), "_law_to_end", "_law_to_end", defArgs s_l_to_end, defBody s_l_to_end, defScope s_l_to_end, [], []⟩
abbrev s_l_note : Stmt := (top 33)
abbrev n_l_note : List Str := ["_law_box_here", "_law_news", "_law_table", "_law_menu_here", "_law_seats", "_law_row"]
abbrev p_l_note : List Str := ["_law_box_here", "_law_news", "_law_table", "_law_menu_here", "_law_seats"]
theorem sc_l_note : FnScope n_l_note p_l_note (defScope s_l_note) := ⟨rfl, rfl, rfl, by decide +kernel, rfl, by decide +kernel, by decide +kernel⟩
def d_l_note : DefD := ⟨("_law_note", none), "_law_note", "_law_note", defArgs s_l_note, defBody s_l_note, defScope s_l_note, [], []⟩
abbrev s_l_counts : Stmt := (top 35)
abbrev n_l_counts : List Str := ["_law_table", "_law_seat_here"]
abbrev p_l_counts : List Str := ["_law_table"]
theorem sc_l_counts : FnScope n_l_counts p_l_counts (defScope s_l_counts) := ⟨rfl, rfl, rfl, by decide +kernel, rfl, by decide +kernel, by decide +kernel⟩
def d_l_counts : DefD := ⟨("_law_counts", none), "_law_counts", "_law_counts", defArgs s_l_counts, defBody s_l_counts, defScope s_l_counts, [], []⟩
abbrev s_l_same_counts : Stmt := (top 36)
abbrev n_l_same_counts : List Str := ["_law_gave", "_law_due", "_law_k", "_law_entry"]
abbrev p_l_same_counts : List Str := ["_law_gave", "_law_due"]
theorem sc_l_same_counts : FnScope n_l_same_counts p_l_same_counts (defScope s_l_same_counts) := ⟨rfl, rfl, rfl, by decide +kernel, rfl, by decide +kernel, by decide +kernel⟩
def d_l_same_counts : DefD := ⟨("_law_same_counts", none), "_law_same_counts", "_law_same_counts", defArgs s_l_same_counts, defBody s_l_same_counts, defScope s_l_same_counts, [], []⟩
abbrev s_l_look : Stmt := (top 37)
abbrev n_l_look : List Str := ["_law_news", "_law_table", "_law_room", "_law_probes_here", "_law_turn", "_law_gave", "_law_counts_here", "_law_seat_here"]
abbrev p_l_look : List Str := ["_law_news", "_law_table", "_law_room", "_law_probes_here"]
theorem sc_l_look : FnScope n_l_look p_l_look (defScope s_l_look) := ⟨rfl, rfl, rfl, by decide +kernel, rfl, by decide +kernel, by decide +kernel⟩
def d_l_look : DefD := ⟨("_law_look", none), "_law_look", "_law_look", defArgs s_l_look, defBody s_l_look, defScope s_l_look, [], []⟩
abbrev s_l_drained : Stmt := (top 38)
abbrev n_l_drained : List Str := ["_law_news", "_law_table", "_law_cycle", "_law_room", "_law_total", "_law_turn", "_law_gave", "_law_seat_here"]
abbrev p_l_drained : List Str := ["_law_news", "_law_table", "_law_cycle", "_law_room"]
theorem sc_l_drained : FnScope n_l_drained p_l_drained (defScope s_l_drained) := ⟨rfl, rfl, rfl, by decide +kernel, rfl, by decide +kernel, by decide +kernel⟩
def d_l_drained : DefD := ⟨("_law_drained", none), "_law_drained", "_law_drained", defArgs s_l_drained, defBody s_l_drained, defScope s_l_drained, [], []⟩
abbrev s_l_filled : Stmt := (top 39)
abbrev n_l_filled : List Str := ["_law_box_here", "_law_news", "_law_table", "_law_seats", "_law_large", "_law_many", "_law_first", "_law_stride", "_law_k", "_law_row"]
abbrev p_l_filled : List Str := ["_law_box_here", "_law_news", "_law_table", "_law_seats", "_law_large"]
theorem sc_l_filled : FnScope n_l_filled p_l_filled (defScope s_l_filled) := ⟨rfl, rfl, rfl, by decide +kernel, rfl, by decide +kernel, by decide +kernel⟩
def d_l_filled : DefD := ⟨("_law_filled", none), "_law_filled", "_law_filled", defArgs s_l_filled, defBody s_l_filled, defScope s_l_filled, [], []⟩
abbrev s_l_probes : Stmt := (top 40)
abbrev n_l_probes : List Str := ["_law_box_here", "_law_menu_here", "_law_seats", "_law_k"]
abbrev p_l_probes : List Str := ["_law_box_here", "_law_menu_here", "_law_seats"]
theorem sc_l_probes : FnScope n_l_probes p_l_probes (defScope s_l_probes) := ⟨rfl, rfl, rfl, by decide +kernel, rfl, by decide +kernel, by decide +kernel⟩
def d_l_probes : DefD := ⟨("_law_probes", none), "_law_probes", "_law_probes", defArgs s_l_probes, defBody s_l_probes, defScope s_l_probes, [], []⟩
abbrev s_l_deed : Stmt := (top 34)
abbrev n_l_deed : List Str := ["_law_box_here", "_law_news", "_law_table", "_law_drawn", "_law_menu_here", "_law_seats", "_law_cycle", "_law_way", "_law_handed", "_law_seat_here"]
abbrev p_l_deed : List Str := ["_law_box_here", "_law_news", "_law_table", "_law_drawn", "_law_menu_here"]
theorem sc_l_deed : FnScope n_l_deed p_l_deed (defScope s_l_deed) := ⟨rfl, rfl, rfl, by decide +kernel, rfl, by decide +kernel, by decide +kernel⟩
def d_l_deed : DefD := ⟨("_law_deed", none), "_law_deed", "_law_deed", defArgs s_l_deed, defBody s_l_deed, defScope s_l_deed, [], []⟩
abbrev s_law : Stmt := (top 41)
abbrev n_law : List Str := ["_law_script", "_law_box_here", "_law_large", "_law_settings", "_law_pair", "_law_tables", "_law_menus", "_law_probes_here", "_law_k", "_law_drawn", "_law_seats", "_law_at", "_law_kept", "_law_shown", "_law_turn"]
abbrev p_law : List Str := ["_law_script"]
theorem sc_law : FnScope n_law p_law (defScope s_law) := ⟨rfl, rfl, rfl, by decide +kernel, rfl, by decide +kernel, by decide +kernel⟩
def d_law : DefD := ⟨("law", none), "law", "law", defArgs s_law, defBody s_law, defScope s_law, [], []⟩
def fn : List DefD := [d_whole, d_Setting_init, d_News_init, d_News_note, d_News_pick, d_News_rows, d_News_hot, d_News___len__, d_News_told, d_l_box, d_l_take, d_l_marks, d_l_rank, d_l_life, d_l_worth, d_l_menu, d_l_seat, d_l_whole, d_l_same, d_l_same_rows, d_l_ranked, d_l_fresh, d_l_near, d_l_says, d_l_setting, d_l_hot, d_l_counted, d_l_pick, d_l_tell, d_l_list, d_l_picks, d_l_to_end, d_l_note, d_l_counts, d_l_same_counts, d_l_look, d_l_drained, d_l_filled, d_l_probes, d_l_deed, d_law]
def fa : List Fa := [.free "abs", .free "bool", .free "int", .free "isinstance", .free "len", .free "list", .free "max", .free "min", .free "range", .free "sorted", .free "str", .free "sum", .free "tuple", .glo "whole", .meth "News" "note", .meth "News" "pick", .meth "News" "rows", .meth "News" "hot", .meth "News" "__len__", .meth "News" "told", .glo "_law_box", .glo "_law_take", .glo "_law_marks", .glo "_law_rank", .glo "_law_life", .glo "_law_worth", .glo "_law_menu", .glo "_law_seat", .glo "_law_whole", .glo "_law_same", .glo "_law_same_rows", .glo "_law_ranked", .glo "_law_fresh", .glo "_law_near", .glo "_law_says", .glo "_law_setting", .glo "_law_hot", .glo "_law_counted", .glo "_law_pick", .glo "_law_tell", .glo "_law_list", .glo "_law_picks", .glo "_law_to_end", .glo "_law_note", .glo "_law_counts", .glo "_law_same_counts", .glo "_law_look", .glo "_law_drained", .glo "_law_filled", .glo "_law_probes", .glo "_law_deed", .glo "law", .glo "News", .cls "News", .mkr "News", .noat "News" "_setting", .noat "News" "_hot", .glo "Setting", .cls "Setting", .mkr "Setting", .noat "Setting" "bits", .noat "Setting" "patience", .noat "Setting" "room", .noat "Setting" "grace", .noat "Setting" "helpers", .glo "GroupError", .glo "InvalidSetting"]
def ex (K : PySem.W.Frag) : Bool := clsB K (ga K "News") && (conB K "Setting" "MOST_BITS" (.int 8) && (conB K "Setting" "MOST_PATIENCE" (.int 6) && (conB K "Setting" "MOST_ROOM" (.int 64) && (conB K "Setting" "MOST_GRACE" (.int 200) && (conB K "Setting" "MOST_HELPERS" (.int 3))))))
def ed_InvalidSetting : ErrD := ⟨"InvalidSetting", "field", "an invalid setting", "InvalidSetting.__init__", defArgs (inClass (top 5) 0), defBody (inClass (top 5) 0), defScope (inClass (top 5) 0)⟩
theorem ef_InvalidSetting : ErrF ed_InvalidSetting := ⟨by decide, by decide, by decide, by decide, by decide, ⟨_, _, _, _, _, _, _, _, _, _, _, _, rfl, rfl, rfl, rfl⟩⟩
def es : List ErrD := [ed_InvalidSetting]
theorem efs : ∀ d, d ∈ es → ErrF d := fun d hd => by
  simp only [es, List.mem_cons, List.not_mem_nil, or_false] at hd
  rcases hd with rfl
  · exact ef_InvalidSetting
def ys : List Str := ["GroupError", "InvalidSetting"]
def tabs : List Tab := []
def gs : List GetD := [g_Setting_cycle, g_News_quiet]
def tf : List He.Defn := []
abbrev TT (K : PySem.W.Frag) : List (Addr × Str) := []
structure Tb (P : Program) (w : World) (K : PySem.W.Frag) (mg : Str → Option Value) (base : Heap) : Prop where
  t : ∀ p, p ∈ tf.map (He.cT K) → LamX.TabB base mg p.1 p.2
  g : ∀ d, d ∈ gs → PropOf K (ga K d.cls) d.fld (prA K d.cls d.fld) (prG K d.cls d.fld) ∧ ∃ fd, FunD K d.name d.qual d.params d.body d.scope [] [] (prG K d.cls d.fld) fd
  e : ∀ d, d ∈ es → ErrX.ErrT P K mg d.name d.fld (ga K d.name) ∧ ErrS K ys d.name
  d : ∀ t, t ∈ tabs → ∃ es n, KDict K w (t.1 K) es n
theorem er_InvalidSetting {P : Program} {w : World} {K : PySem.W.Frag} {mg : Str → Option Value} {base : Heap} (B : Tb P w K mg base) : ErrX.ErrT P K mg "InvalidSetting" "field" (ga K "InvalidSetting") ∧ ErrS K ys "InvalidSetting" := B.e ed_InvalidSetting (.head _)
abbrev Cx (K : PySem.W.Frag) (mg : Str → Option Value) : Prop := RD.Ctx fa fn ex K mg
section
variable {K : PySem.W.Frag} {mg : Str → Option Value}
theorem fr_abs (T : Cx K mg) : mg "abs" = none := T.fre 0
theorem fr_bool (T : Cx K mg) : mg "bool" = none := T.fre 1
theorem fr_int (T : Cx K mg) : mg "int" = none := T.fre 2
theorem fr_isinstance (T : Cx K mg) : mg "isinstance" = none := T.fre 3
theorem fr_len (T : Cx K mg) : mg "len" = none := T.fre 4
theorem fr_list (T : Cx K mg) : mg "list" = none := T.fre 5
theorem fr_max (T : Cx K mg) : mg "max" = none := T.fre 6
theorem fr_min (T : Cx K mg) : mg "min" = none := T.fre 7
theorem fr_range (T : Cx K mg) : mg "range" = none := T.fre 8
theorem fr_sorted (T : Cx K mg) : mg "sorted" = none := T.fre 9
theorem fr_str (T : Cx K mg) : mg "str" = none := T.fre 10
theorem fr_sum (T : Cx K mg) : mg "sum" = none := T.fre 11
theorem fr_tuple (T : Cx K mg) : mg "tuple" = none := T.fre 12
theorem gl_whole (T : Cx K mg) : mg "whole" = some (.ref (ga K "whole")) := T.glo 13
theorem mt_News_note (T : Cx K mg) : Meth K (ga K "News") "note" (ma K (ga K "News") "note") := T.meth 14
theorem mt_News_pick (T : Cx K mg) : Meth K (ga K "News") "pick" (ma K (ga K "News") "pick") := T.meth 15
theorem mt_News_rows (T : Cx K mg) : Meth K (ga K "News") "rows" (ma K (ga K "News") "rows") := T.meth 16
theorem mt_News_hot (T : Cx K mg) : Meth K (ga K "News") "hot" (ma K (ga K "News") "hot") := T.meth 17
theorem mt_News___len__ (T : Cx K mg) : Meth K (ga K "News") "__len__" (ma K (ga K "News") "__len__") := T.meth 18
theorem mt_News_told (T : Cx K mg) : Meth K (ga K "News") "told" (ma K (ga K "News") "told") := T.meth 19
theorem gl_l_box (T : Cx K mg) : mg "_law_box" = some (.ref (ga K "_law_box")) := T.glo 20
theorem gl_l_take (T : Cx K mg) : mg "_law_take" = some (.ref (ga K "_law_take")) := T.glo 21
theorem gl_l_marks (T : Cx K mg) : mg "_law_marks" = some (.ref (ga K "_law_marks")) := T.glo 22
theorem gl_l_rank (T : Cx K mg) : mg "_law_rank" = some (.ref (ga K "_law_rank")) := T.glo 23
theorem gl_l_life (T : Cx K mg) : mg "_law_life" = some (.ref (ga K "_law_life")) := T.glo 24
theorem gl_l_worth (T : Cx K mg) : mg "_law_worth" = some (.ref (ga K "_law_worth")) := T.glo 25
theorem gl_l_menu (T : Cx K mg) : mg "_law_menu" = some (.ref (ga K "_law_menu")) := T.glo 26
theorem gl_l_seat (T : Cx K mg) : mg "_law_seat" = some (.ref (ga K "_law_seat")) := T.glo 27
theorem gl_l_whole (T : Cx K mg) : mg "_law_whole" = some (.ref (ga K "_law_whole")) := T.glo 28
theorem gl_l_same (T : Cx K mg) : mg "_law_same" = some (.ref (ga K "_law_same")) := T.glo 29
theorem gl_l_same_rows (T : Cx K mg) : mg "_law_same_rows" = some (.ref (ga K "_law_same_rows")) := T.glo 30
theorem gl_l_ranked (T : Cx K mg) : mg "_law_ranked" = some (.ref (ga K "_law_ranked")) := T.glo 31
theorem gl_l_fresh (T : Cx K mg) : mg "_law_fresh" = some (.ref (ga K "_law_fresh")) := T.glo 32
theorem gl_l_near (T : Cx K mg) : mg "_law_near" = some (.ref (ga K "_law_near")) := T.glo 33
theorem gl_l_says (T : Cx K mg) : mg "_law_says" = some (.ref (ga K "_law_says")) := T.glo 34
theorem gl_l_setting (T : Cx K mg) : mg "_law_setting" = some (.ref (ga K "_law_setting")) := T.glo 35
theorem gl_l_hot (T : Cx K mg) : mg "_law_hot" = some (.ref (ga K "_law_hot")) := T.glo 36
theorem gl_l_counted (T : Cx K mg) : mg "_law_counted" = some (.ref (ga K "_law_counted")) := T.glo 37
theorem gl_l_pick (T : Cx K mg) : mg "_law_pick" = some (.ref (ga K "_law_pick")) := T.glo 38
theorem gl_l_tell (T : Cx K mg) : mg "_law_tell" = some (.ref (ga K "_law_tell")) := T.glo 39
theorem gl_l_list (T : Cx K mg) : mg "_law_list" = some (.ref (ga K "_law_list")) := T.glo 40
theorem gl_l_picks (T : Cx K mg) : mg "_law_picks" = some (.ref (ga K "_law_picks")) := T.glo 41
theorem gl_l_to_end (T : Cx K mg) : mg "_law_to_end" = some (.ref (ga K "_law_to_end")) := T.glo 42
theorem gl_l_note (T : Cx K mg) : mg "_law_note" = some (.ref (ga K "_law_note")) := T.glo 43
theorem gl_l_counts (T : Cx K mg) : mg "_law_counts" = some (.ref (ga K "_law_counts")) := T.glo 44
theorem gl_l_same_counts (T : Cx K mg) : mg "_law_same_counts" = some (.ref (ga K "_law_same_counts")) := T.glo 45
theorem gl_l_look (T : Cx K mg) : mg "_law_look" = some (.ref (ga K "_law_look")) := T.glo 46
theorem gl_l_drained (T : Cx K mg) : mg "_law_drained" = some (.ref (ga K "_law_drained")) := T.glo 47
theorem gl_l_filled (T : Cx K mg) : mg "_law_filled" = some (.ref (ga K "_law_filled")) := T.glo 48
theorem gl_l_probes (T : Cx K mg) : mg "_law_probes" = some (.ref (ga K "_law_probes")) := T.glo 49
theorem gl_l_deed (T : Cx K mg) : mg "_law_deed" = some (.ref (ga K "_law_deed")) := T.glo 50
theorem gl_law (T : Cx K mg) : mg "law" = some (.ref (ga K "law")) := T.glo 51
theorem gl_News (T : Cx K mg) : mg "News" = some (.ref (ga K "News")) := T.glo 52
theorem cl_News (T : Cx K mg) : Cls K (ga K "News") := T.cls 53
theorem mk_News (T : Cx K mg) : Mk K (ga K "News") (ma K (ga K "News") "__init__") := T.mkr 54
theorem na_News__setting (T : Cx K mg) : NoAttr K (ga K "News") "_setting" := T.noat 55
theorem na_News__hot (T : Cx K mg) : NoAttr K (ga K "News") "_hot" := T.noat 56
theorem gl_Setting (T : Cx K mg) : mg "Setting" = some (.ref (ga K "Setting")) := T.glo 57
theorem cl_Setting (T : Cx K mg) : Cls K (ga K "Setting") := T.cls 58
theorem mk_Setting (T : Cx K mg) : Mk K (ga K "Setting") (ma K (ga K "Setting") "__init__") := T.mkr 59
theorem na_Setting_bits (T : Cx K mg) : NoAttr K (ga K "Setting") "bits" := T.noat 60
theorem na_Setting_patience (T : Cx K mg) : NoAttr K (ga K "Setting") "patience" := T.noat 61
theorem na_Setting_room (T : Cx K mg) : NoAttr K (ga K "Setting") "room" := T.noat 62
theorem na_Setting_grace (T : Cx K mg) : NoAttr K (ga K "Setting") "grace" := T.noat 63
theorem na_Setting_helpers (T : Cx K mg) : NoAttr K (ga K "Setting") "helpers" := T.noat 64
theorem gl_GroupError (T : Cx K mg) : mg "GroupError" = some (.ref (ga K "GroupError")) := T.glo 65
theorem gl_InvalidSetting (T : Cx K mg) : mg "InvalidSetting" = some (.ref (ga K "InvalidSetting")) := T.glo 66
end

/-- the numbers of a setting -/
structure Stg where
  bits : Int
  pat : Int
  room : Int
  grace : Int
  hel : Int
structure Stg.Ok (s : Stg) : Prop where
  b0 : 1 ≤ s.bits
  b1 : s.bits ≤ 8
  p0 : 1 ≤ s.pat
  p1 : s.pat ≤ 6
  r0 : 1 ≤ s.room
  r1 : s.room ≤ 64
  g0 : 1 ≤ s.grace
  g1 : s.grace ≤ 200
  h0 : 0 ≤ s.hel
  h1 : s.hel ≤ 3
@[irreducible] def Stg.ring (s : Stg) : Int := 2 ^ s.bits.toNat
theorem Stg.ring_eq (s : Stg) : s.ring = 2 ^ s.bits.toNat := by
  unfold Stg.ring
  rfl
def Stg.fs (s : Stg) : List (Str × V) := [(("bits" : Str), .int s.bits), (("patience" : Str), .int s.pat), (("room" : Str), .int s.room), (("grace" : Str), .int s.grace), (("helpers" : Str), .int s.hel)]
theorem Stg.Ok.ring {s : Stg} (h : s.Ok) : s.ring = 2 ∨ s.ring = 4 ∨ s.ring = 8 ∨ s.ring = 16 ∨ s.ring = 32 ∨ s.ring = 64 ∨ s.ring = 128 ∨ s.ring = 256 := by
  have h0 := h.b0
  have h1 := h.b1
  have e : s.bits = 1 ∨ s.bits = 2 ∨ s.bits = 3 ∨ s.bits = 4 ∨ s.bits = 5 ∨ s.bits = 6 ∨ s.bits = 7 ∨ s.bits = 8 := by omega
  rw [Stg.ring_eq]
  rcases e with e | e | e | e | e | e | e | e <;> rw [e] <;> decide
theorem Stg.Ok.r2 {s : Stg} (h : s.Ok) : 2 ≤ s.ring := by
  have := h.ring
  omega
theorem Stg.Ok.r256 {s : Stg} (h : s.Ok) : s.ring ≤ 256 := by
  have := h.ring
  omega
/-- a setting stands at p -/
structure SetAt (K : PySem.W.Frag) (H : Hp) (p : Addr) (s : Stg) : Prop where
  ex : ∃ dx : Addr, H p = some (.ins (ga K "Setting") dx s.fs)
  ok : s.Ok
theorem SetAt.kp {K : PySem.W.Frag} {H H' : Hp} {p : Addr} {s : Stg} {ps : List Addr} (S : SetAt K H p s) (k : Kp ps H H') (n : p ∉ ps) : SetAt K H' p s := by
  obtain ⟨⟨dx, h⟩, ok⟩ := S
  exact ⟨⟨dx, k _ _ h n⟩, ok⟩
theorem SetAt.k0 {K : PySem.W.Frag} {H H' : Hp} {p : Addr} {s : Stg} (S : SetAt K H p s) (k : Kp [] H H') : SetAt K H' p s := S.kp k (by simp)
theorem SetAt.k1 {K : PySem.W.Frag} {H H' : Hp} {p q : Addr} {s : Stg} (S : SetAt K H p s) (k : Kp [q] H H') (n : p ≠ q) : SetAt K H' p s := S.kp k (by simp [n])
theorem SetAt.kt {K : PySem.W.Frag} {H H' : Hp} {p : Addr} {s : Stg} {TT : List (Addr × Str)} (S : SetAt K H p s) (k : Kt TT [] H H') : SetAt K H' p s := by
  obtain ⟨⟨dx, h⟩, ok⟩ := S
  exact ⟨⟨dx, k.g0 (by intro _ z; cases z) h⟩, ok⟩
theorem SetAt.nelst {K : PySem.W.Frag} {H : Hp} {p q : Addr} {s : Stg} {xs : List V} (S : SetAt K H p s) (h : H q = some (.lst xs)) : p ≠ q := by
  obtain ⟨⟨dx, e⟩, ok⟩ := S
  exact ne_of e h (by intro z; cases z)

theorem SetAt.neins {K : PySem.W.Frag} {H : Hp} {p q C dx : Addr} {s : Stg} {f : Str} {v : V} {fs : List (Str × V)} (S : SetAt K H p s) (h : H q = some (.ins C dx ((f, v) :: fs))) (n : f ≠ "bits") : p ≠ q := by
  obtain ⟨⟨dx, e⟩, ok⟩ := S
  refine ne_of e h fun z => ?_
  injection z with _ _ e1
  injection e1 with e2 _
  injection e2 with e3
  exact n e3.symm
theorem SetAt.neins' {K : PySem.W.Frag} {H : Hp} {p q C dx : Addr} {s : Stg} (S : SetAt K H p s) (h : H q = some (.ins C dx [])) : p ≠ q := by
  obtain ⟨⟨dx, e⟩, ok⟩ := S
  refine ne_of e h fun z => ?_
  injection z with _ _ e1
  cases e1
theorem SetAt.nedK {K : PySem.W.Frag} {H : Hp} {p q : Addr} {s : Stg} {xs : List (Key × V)} (S : SetAt K H p s) (h : H q = some (.dK xs)) : p ≠ q := by
  obtain ⟨⟨dx, e⟩, ok⟩ := S
  exact ne_of e h (by intro z; cases z)
theorem con_MOST_BITS {K : PySem.W.Frag} {mg : Str → Option Value} (T : Cx K mg) : ∃ u, Con K (ga K "Setting") "MOST_BITS" (.int 8) u := conB_ok (v := .int 8) (ba (ba T.ex).2).1
theorem con_MOST_PATIENCE {K : PySem.W.Frag} {mg : Str → Option Value} (T : Cx K mg) : ∃ u, Con K (ga K "Setting") "MOST_PATIENCE" (.int 6) u := conB_ok (v := .int 6) (ba (ba (ba T.ex).2).2).1
theorem con_MOST_ROOM {K : PySem.W.Frag} {mg : Str → Option Value} (T : Cx K mg) : ∃ u, Con K (ga K "Setting") "MOST_ROOM" (.int 64) u := conB_ok (v := .int 64) (ba (ba (ba (ba T.ex).2).2).2).1
theorem con_MOST_GRACE {K : PySem.W.Frag} {mg : Str → Option Value} (T : Cx K mg) : ∃ u, Con K (ga K "Setting") "MOST_GRACE" (.int 200) u := conB_ok (v := .int 200) (ba (ba (ba (ba (ba T.ex).2).2).2).2).1
theorem con_MOST_HELPERS {K : PySem.W.Frag} {mg : Str → Option Value} (T : Cx K mg) : ∃ u, Con K (ga K "Setting") "MOST_HELPERS" (.int 3) u := conB_ok (v := .int 3) (ba (ba (ba (ba (ba T.ex).2).2).2).2).2

structure Sy where
  s : Int
  l : Int
  m : Str
  w : Str
  deriving DecidableEq
def Sy.tup (y : Sy) : List V := [.int y.s, .int y.l, .str y.m, .str y.w]
abbrev SyAt (H : Hp) (t : Addr) (y : Sy) : Prop := H t = some (.tup y.tup)
abbrev RowT (H : Hp) (d : Addr) (xs : List (Addr × Sy)) : Prop := TD Sy.s Sy.tup H d xs
def MK : List Str := ["alive", "suspect", "dead", "left"]
def stepM (m : Str) : Int := if m = ("alive" : Str) then 1 else if m = ("suspect" : Str) then 2 else if m = ("dead" : Str) then 3 else 4
def SIGNS : Str := "abcdefghijklmnopqrstuvwxyz0123456789"
def wOk (t : Str) : Bool := decide (t.length ≤ 12) && t.cps.toList.all fun c => decide (c ∈ SIGNS.cps.toList)
def MOST : Int := 10 ^ 60 - 1
def syOk (r : Int) (y : Sy) : Bool := ((decide (0 ≤ y.s) && decide (y.s ≤ r - 1)) && (decide (0 ≤ y.l) && decide (y.l ≤ MOST))) && (decide (y.m ∈ MK) && wOk y.w)
def rk (y : Sy) : Int := 4 * y.l + stepM y.m
def rkO : Option Sy → Int
  | none => 0
  | some y => rk y
def takeT (xs : List (Addr × Sy)) (p : Addr × Sy) : List (Addr × Sy) := if rkO ((fdT Sy.s xs p.2.s).map (·.2)) < rk p.2 then ptT Sy.s xs p else xs
theorem syOk_iff {r : Int} {y : Sy} : syOk r y = true ↔ (0 ≤ y.s ∧ y.s ≤ r - 1) ∧ (0 ≤ y.l ∧ y.l ≤ MOST) ∧ y.m ∈ MK ∧ wOk y.w = true := by
  unfold syOk
  simp only [Bool.and_eq_true, decide_eq_true_eq]
  constructor
  · rintro ⟨⟨a, b⟩, c, d⟩
    exact ⟨a, b, c, d⟩
  · rintro ⟨a, b, c, d⟩
    exact ⟨⟨a, b⟩, c, d⟩
theorem wOk_len {t : Str} (h : wOk t = true) : t.length ≤ 12 := of_decide_eq_true (Bool.and_eq_true_iff.mp h).1
theorem stepM_b {m : Str} (h : m ∈ MK) : 1 ≤ stepM m ∧ stepM m ≤ 4 := by
  unfold stepM
  split
  · omega
  · split
    · omega
    · split <;> omega
theorem rk_pos {y : Sy} (h : 0 ≤ y.l) (m : y.m ∈ MK) : 0 < rk y := by
  have := stepM_b m
  unfold rk
  omega
/-- a saying, or None -/
def IsY (H : Hp) (v : V) : Option Sy → Prop
  | none => v = .non
  | some y => ∃ t, v = .ref t ∧ SyAt H t y
theorem IsY.kp {H H' : Hp} {v : V} {o : Option Sy} (h : IsY H v o) (k : Kp [] H H') : IsY H' v o := by
  cases o with
  | none => exact h
  | some y =>
    obtain ⟨t, e, h⟩ := h
    exact ⟨t, e, k.g0 h⟩
/-- the list l holds these sayings -/
structure SyL (H : Hp) (l : Addr) (ps : List (Addr × Sy)) : Prop where
  at_ : H l = some (.lst (ps.map fun p => V.ref p.1))
  ob : ∀ p, p ∈ ps → SyAt H p.1 p.2
theorem SyL.k0 {H H' : Hp} {l : Addr} {ps : List (Addr × Sy)} (B : SyL H l ps) (k : Kp [] H H') : SyL H' l ps := ⟨k.g0 B.at_, fun p hp => k.g0 (B.ob p hp)⟩
theorem _root_.RD.TD.findY {H : Hp} {d : Addr} {xs : List (Addr × Sy)} (B : RowT H d xs) (k : Int) : IsY H (((valV (kvT Sy.s xs) (.inl k))).getD .non) ((fdT Sy.s xs k).map (·.2)) := by
  rw [kvT_val]
  cases e : fdT Sy.s xs k with
  | none => rfl
  | some p => exact ⟨p.1, rfl, B.find e⟩
theorem takeT_pos {xs : List (Addr × Sy)} {p : Addr × Sy} (h : rkO ((fdT Sy.s xs p.2.s).map (·.2)) < rk p.2) : takeT xs p = ptT Sy.s xs p := if_pos h
theorem takeT_neg {xs : List (Addr × Sy)} {p : Addr × Sy} (h : ¬ rkO ((fdT Sy.s xs p.2.s).map (·.2)) < rk p.2) : takeT xs p = xs := if_neg h
theorem takeT_mem {xs : List (Addr × Sy)} {p q : Addr × Sy} (h : q ∈ takeT xs p) : q = p ∨ q ∈ xs := by
  unfold takeT at h
  split at h
  · exact ptT_mem h
  · exact .inr h
theorem takeT_len (xs : List (Addr × Sy)) (p : Addr × Sy) : (takeT xs p).length ≤ xs.length + 1 := by
  unfold takeT
  split
  · exact ptT_len _ _ _
  · omega
theorem foldT_mem {q : Addr × Sy} : ∀ {ps xs : List (Addr × Sy)}, q ∈ ps.foldl takeT xs → q ∈ ps ∨ q ∈ xs
  | [], _, h => .inr h
  | p :: r, xs, h => by
    rcases foldT_mem (ps := r) (xs := takeT xs p) h with h | h
    · exact .inl (List.mem_cons_of_mem _ h)
    · rcases takeT_mem h with rfl | h
      · exact .inl (List.mem_cons_self ..)
      · exact .inr h
theorem foldT_len : ∀ (ps xs : List (Addr × Sy)), (ps.foldl takeT xs).length ≤ xs.length + ps.length
  | [], xs => by simp
  | p :: r, xs => by
    have h1 := foldT_len r (takeT xs p)
    have h2 := takeT_len xs p
    simp only [List.foldl_cons, List.length_cons]
    omega
theorem takeT_new {xs : List (Addr × Sy)} {p : Addr × Sy} (h : ∀ q, q ∈ xs → q.2.s ≠ p.2.s) (hp : 0 < rk p.2) : takeT xs p = xs ++ [p] := by
  have e : fdT Sy.s xs p.2.s = none := List.find?_eq_none.mpr fun q hq z => h q hq (of_decide_eq_true z)
  unfold takeT
  rw [e, if_pos (show rkO (Option.map (·.2) (none : Option (Addr × Sy))) < rk p.2 from hp)]
  unfold ptT
  rw [if_neg (fun z => by
    obtain ⟨q, hq, e⟩ := List.any_eq_true.mp z
    exact h q hq (of_decide_eq_true e))]
theorem foldT_new : ∀ (ps xs : List (Addr × Sy)), ((xs ++ ps).map fun p => p.2.s).Nodup → (∀ p, p ∈ ps → 0 < rk p.2) → ps.foldl takeT xs = xs ++ ps
  | [], xs, _, _ => by simp
  | p :: r, xs, h, hr => by
    have e : xs ++ p :: r = (xs ++ [p]) ++ r := by simp
    have h2 : ∀ q, q ∈ xs → q.2.s ≠ p.2.s := fun q hq z => by
      rw [List.map_append] at h
      have := (List.nodup_append.mp h).2.2 q.2.s (List.mem_map_of_mem hq) p.2.s (by simp)
      exact this z
    show r.foldl takeT (takeT xs p) = _
    rw [takeT_new h2 (hr p (List.mem_cons_self ..)), e]
    rw [e] at h
    exact foldT_new r (xs ++ [p]) h fun q hq => hr q (List.mem_cons_of_mem _ hq)
/-! sayings as data -/
def dSy (y : Sy) : PyData := .tuple [.int y.s, .int y.l, .str y.m, .str y.w]
theorem dSy_eqv (a b : Sy) : PyData.eqv (dSy a) (dSy b) = decide (a = b) := by
  obtain ⟨a1, a2, a3, a4⟩ := a
  obtain ⟨b1, b2, b3, b4⟩ := b
  unfold dSy
  simp only [PyData.eqv, PyData.eqvAll, Bool.and_true, Sy.mk.injEq]
  by_cases h1 : a1 = b1 <;> by_cases h2 : a2 = b2 <;> by_cases h3 : a3 = b3 <;> by_cases h4 : a4 = b4 <;> simp [h1, h2, h3, h4]
theorem dSys_eqv : ∀ ps qs : List Sy, PyData.eqvAll (ps.map dSy) (qs.map dSy) = decide (ps = qs)
  | [], [] => by simp [PyData.eqvAll]
  | [], q :: qs => by simp [PyData.eqvAll]
  | p :: ps, [] => by simp [PyData.eqvAll]
  | p :: ps, q :: qs => by
    simp only [List.map_cons, PyData.eqvAll, dSy_eqv, dSys_eqv ps qs, List.cons.injEq]
    by_cases h1 : p = q <;> by_cases h2 : ps = qs <;> simp [h1, h2]
def Sy.T (y : Sy) : Prop := PyData.strOk y.m = true ∧ PyData.strOk y.w = true
theorem Sy.T.of {r : Int} {y : Sy} (h : syOk r y = true) : y.T := by
  obtain ⟨-, -, hm, hw⟩ := syOk_iff.mp h
  constructor
  · unfold MK at hm
    simp only [List.mem_cons, List.not_mem_nil, or_false] at hm
    rcases hm with e | e | e | e <;> rw [e] <;> decide +kernel
  · have h2 := (Bool.and_eq_true_iff.mp hw).2
    unfold PyData.strOk
    rw [← Array.all_toList, List.all_eq_true]
    intro c hc
    have h3 := of_decide_eq_true (List.all_eq_true.mp h2 c hc)
    have h4 : ∀ c, c ∈ SIGNS.cps.toList → decide (c < 0x110000) = true := by decide +kernel
    exact h4 c h3
theorem dSys_lay : ∀ ps : List Sy, (∀ p, p ∈ ps → p.T) → PyData.canLayAll0 (ps.map dSy) = true
  | [], _ => by simp [PyData.canLayAll0]
  | p :: r, h => by
    have h1 := h p (List.mem_cons_self ..)
    have h2 := dSys_lay r fun q hq => h q (List.mem_cons_of_mem _ hq)
    simp [PyData.canLayAll0, h2, dSy, PyData.canLay0, h1.1, h1.2]
theorem dSys_depth : ∀ ps : List Sy, PyData.depthAll (ps.map dSy) ≤ 2
  | [] => by simp [PyData.depthAll]
  | p :: r => by
    have := dSys_depth r
    simp only [List.map_cons, PyData.depthAll, dSy, PyData.depth]
    omega
theorem dSy_shaped {y : Sy} (h : y.T) : SeqAt.shaped (dSy y) = true := Bool.and_eq_true_iff.mpr ⟨by simp [dSy, PyData.canLay0, PyData.canLayAll0, h.1, h.2], decide_eq_true (by simp [dSy, PyData.depth, PyData.depthAll])⟩
theorem dSyL_shaped {ps : List Sy} (h : ∀ p, p ∈ ps → p.T) : SeqAt.shaped (.list (ps.map dSy)) = true := Bool.and_eq_true_iff.mpr ⟨by simp only [PyData.canLay0, dSys_lay ps h], decide_eq_true (by
  have := dSys_depth ps
  simp only [PyData.depth]
  omega)⟩
theorem dp_sy {K : PySem.W.Frag} {H : Hp} {t : Addr} {y : Sy} (h : SyAt H t y) : Dp K H (.ref t) (dSy y) := .tup (SqT.of h) (.cons (.int _) (.cons (.int _) (.cons (.str _) (.cons (.str _) .nil))))
theorem dp_sys {K : PySem.W.Frag} {H : Hp} : ∀ {ps : List (Addr × Sy)}, (∀ p, p ∈ ps → SyAt H p.1 p.2) → DpAll K H (ps.map fun p => V.ref p.1) ((ps.map (·.2)).map dSy)
  | [], _ => .nil
  | p :: r, h => .cons (dp_sy (h p (List.mem_cons_self ..))) (dp_sys fun q hq => h q (List.mem_cons_of_mem _ hq))
theorem rd_neSy {K : PySem.W.Frag} {H : Hp} {Q : VK} {a b : Addr} {x y : Sy} (h1 : SyAt H a x) (h2 : SyAt H b y) (t1 : x.T) (t2 : y.T) (q : Q (.bl (!decide (x = y))) H) : rNeD K (.ref a) (.ref b) H Q :=
  ⟨dSy x, dSy y, dp_sy h1, dp_sy h2, dSy_shaped t1, dSy_shaped t2, by
    rw [dSy_eqv]
    exact q⟩
theorem mem_snd {ps : List (Addr × Sy)} (h : ∀ p, p ∈ ps → p.2.T) : ∀ y, y ∈ ps.map (·.2) → y.T := fun y hy => by
  obtain ⟨p, hp, rfl⟩ := List.mem_map.mp hy
  exact h p hp
theorem rd_eqSyL {K : PySem.W.Frag} {H : Hp} {Q : VK} {a b : Addr} {ps qs : List (Addr × Sy)} (h1 : SyL H a ps) (h2 : SyL H b qs) (t1 : ∀ p, p ∈ ps → p.2.T) (t2 : ∀ p, p ∈ qs → p.2.T) (q : Q (.bl (decide (ps.map (·.2) = qs.map (·.2)))) H) : rEqD K (.ref a) (.ref b) H Q :=
  ⟨.list ((ps.map (·.2)).map dSy), .list ((qs.map (·.2)).map dSy), .lst (SqL.of h1.at_) (dp_sys h1.ob), .lst (SqL.of h2.at_) (dp_sys h2.ob), dSyL_shaped (mem_snd t1), dSyL_shaped (mem_snd t2), by
    simp only [PyData.eqv]
    rw [dSys_eqv]
    exact q⟩
theorem st_new {K : PySem.W.Frag} {H : Hp} {l d : Addr} {o : HO} {xs : List V} (nd : H d = none) (h : SqT K H l xs) : SqT K (upd H d o) l xs := by
  rcases h with h | h
  · rcases h with h | ⟨q, h⟩
    · exact .inl (.inl (hu_ne (ne_of_none h nd) h))
    · exact .inl (.inr ⟨q, hu_ne (ne_of_none h nd) h⟩)
  · exact .inr h
theorem st_ins {K : PySem.W.Frag} {H : Hp} {l b C dx : Addr} {fs : List (Str × V)} {o : HO} {xs : List V} (hb : H b = some (.ins C dx fs)) (h : SqT K H l xs) : SqT K (upd H b o) l xs := by
  rcases h with h | h
  · rcases h with h | ⟨q, h⟩
    · exact .inl (.inl (hu_ne (ne_of h hb (by intro z; cases z)) h))
    · exact .inl (.inr ⟨q, hu_ne (ne_of h hb (by intro z; cases z)) h⟩)
  · exact .inr h
/-- a list of sayings, or the empty tuple -/
def LsT (K : PySem.W.Frag) (H : Hp) (l : Addr) (ps : List (Addr × Sy)) : Prop := SyL H l ps ∨ (ps = [] ∧ SqT K H l [])
/-- a book -/
structure BookAt (K : PySem.W.Frag) (H : Hp) (b s d : Addr) (xs : List (Addr × Sy)) : Prop where
  ob : ∃ dx, H b = some (.ins (ga K "Book") dx [(("_setting" : Str), .ref s), (("_rows" : Str), .ref d)])
  ro : RowT H d xs
theorem BookAt.k0 {K : PySem.W.Frag} {H H' : Hp} {b s d : Addr} {xs : List (Addr × Sy)} (B : BookAt K H b s d xs) (k : Kp [] H H') : BookAt K H' b s d xs := by
  obtain ⟨⟨dx, h⟩, r⟩ := B
  exact ⟨⟨dx, k.g0 h⟩, r.k0 k⟩
def rowsL (xs : List (Addr × Sy)) : List (Addr × Sy) := (srt ((xs.map (·.2)).map Sy.s)).filterMap fun k => fdT Sy.s xs k
theorem fdT_key {α : Type} {key : α → Int} {xs : List (Addr × α)} {k : Int} (h : k ∈ (xs.map (·.2)).map key) : ∃ p, fdT key xs k = some p := by
  cases e : fdT key xs k with
  | some p => exact ⟨p, rfl⟩
  | none =>
    obtain ⟨y, hy, rfl⟩ := List.mem_map.mp h
    obtain ⟨p, hp, rfl⟩ := List.mem_map.mp hy
    exact absurd (decide_eq_true rfl) (List.find?_eq_none.mp e p hp)
theorem rowsL_take {xs : List (Addr × Sy)} {os : List Int} (h : ∀ k, k ∈ os → k ∈ (xs.map (·.2)).map Sy.s) {f : Int → Addr × Sy} (hf : ∀ k, k ∈ os → fdT Sy.s xs k = some (f k)) : os.filterMap (fun k => fdT Sy.s xs k) = os.map f := by
  induction os with
  | nil => rfl
  | cons k r ih => rw [List.filterMap_cons_some (hf k (List.mem_cons_self ..)), List.map_cons, ih (fun z hz => h z (List.mem_cons_of_mem _ hz)) fun z hz => hf z (List.mem_cons_of_mem _ hz)]

/-- the box of a cell: a list of three ints -/
def BoxB (H : Hp) (p : Addr) : Prop := ∃ a b c : Int, H p = some (.lst [.int a, .int b, .int c])
theorem BoxB.kp {H H' : Hp} {p : Addr} {ps : List Addr} (B : BoxB H p) (k : Kp ps H H') (n : p ∉ ps) : BoxB H' p := let ⟨a, b, c, h⟩ := B; ⟨a, b, c, k _ _ h n⟩
theorem BoxB.k0 {H H' : Hp} {p : Addr} (B : BoxB H p) (k : Kp [] H H') : BoxB H' p := B.kp k (by simp)
theorem BoxB.k1 {H H' : Hp} {p q : Addr} (B : BoxB H p) (k : Kp [q] H H') (n : p ≠ q) : BoxB H' p := B.kp k (by simp [n])
theorem BoxB.new {H : Hp} {p q : Addr} {o : HO} (B : BoxB H p) (k : H q = none) : BoxB (upd H q o) p := B.k0 (Kp.new k)
theorem BoxB.ne {H : Hp} {p q : Addr} (B : BoxB H p) (k : H q = none) : p ≠ q := let ⟨_, _, _, h⟩ := B; ne_of_none h k
theorem BoxB.off {H : Hp} {p q : Addr} {o : HO} (B : BoxB H p) (h : H q = some o) (n : ∀ a b c : Int, o ≠ .lst [.int a, .int b, .int c]) : q ≠ p := let ⟨a, b, c, e⟩ := B; ne_of h e (n a b c)
theorem BoxB.offR {H : Hp} {p q : Addr} {r : List Addr} (B : BoxB H p) (h : H q = some (.lst (r.map V.ref))) : q ≠ p := B.off h fun a b c e => by
  injection e with e
  cases r with
  | nil => cases e
  | cons x r => injection e with e1 _; cases e1
theorem BoxB.ofL {H : Hp} {p D : Addr} {o : HO} (B : BoxB H p) (n : p ≠ D) : BoxB (upd H D o) p := let ⟨a, b, c, h⟩ := B; ⟨a, b, c, hu_ne n h⟩
theorem wide200 {i j : Int} (h0 : 0 < j) (h1 : j ≤ 10 ^ 60) : CDivW i j := wide_div (b := 200) h0 (by
  have h2 : ((10 : Int) ^ 60).natAbs < 2 ^ 200 := by decide +kernel
  exact Nat.lt_of_le_of_lt (by omega) h2) (by decide) (by decide)
theorem mk_index {m : Str} (h : m ∈ MK) : ∃ j : Nat, MK[j]? = some m ∧ (∀ i, i < j → MK[i]? ≠ some m) ∧ (j : Int) + 1 = stepM m := by
  unfold MK at h
  simp only [List.mem_cons, List.not_mem_nil, or_false] at h
  rcases h with rfl | rfl | rfl | rfl
  · exact ⟨0, rfl, fun i hi => by omega, by decide +kernel⟩
  · refine ⟨1, rfl, fun i hi => ?_, by decide +kernel⟩
    obtain rfl : i = 0 := by omega
    decide +kernel
  · refine ⟨2, rfl, fun i hi => ?_, by decide +kernel⟩
    have : i = 0 ∨ i = 1 := by omega
    rcases this with rfl | rfl <;> decide +kernel
  · refine ⟨3, rfl, fun i hi => ?_, by decide +kernel⟩
    have : i = 0 ∨ i = 1 ∨ i = 2 := by omega
    rcases this with rfl | rfl | rfl <;> decide +kernel
theorem mk_at {i : Int} (h0 : 0 ≤ i) (h1 : i < 4) : ∃ m, m ∈ MK ∧ atI (MK.map V.str) i = some (.str m) := by
  have : i = 0 ∨ i = 1 ∨ i = 2 ∨ i = 3 := by omega
  rcases this with rfl | rfl | rfl | rfl
  · exact ⟨"alive", by decide +kernel, rfl⟩
  · exact ⟨"suspect", by decide +kernel, rfl⟩
  · exact ⟨"dead", by decide +kernel, rfl⟩
  · exact ⟨"left", by decide +kernel, rfl⟩
def lets : List Nat := SIGNS.cps.toList
theorem lets_len : SIGNS.cps.toList.length = 36 := by decide +kernel
theorem lets_at {i : Int} (h0 : 0 ≤ i) (h1 : i < 36) : ∃ c, c ∈ SIGNS.cps.toList ∧ atI SIGNS.cps.toList i = some c := by
  obtain ⟨j, rfl⟩ := Int.eq_ofNat_of_zero_le h0
  have hj : j < SIGNS.cps.toList.length := by rw [lets_len]; omega
  exact ⟨_, List.getElem_mem hj, atI_nat (List.getElem?_eq_getElem hj)⟩
theorem wOk_of {cs : List Nat} (h : cs.length ≤ 12) (hc : ∀ c, c ∈ cs → c ∈ SIGNS.cps.toList) : wOk ⟨cs.toArray⟩ = true := by
  unfold wOk
  rw [decide_eq_true (by simpa [Str.length] using h), Bool.true_and, List.all_eq_true]
  intro c hcm
  exact decide_eq_true (hc c (by simpa using hcm))
theorem made_kp {H H1 : Hp} {x dx C : Addr} (nx : H x = none) (ndx : H dx = none) (ne : dx ≠ x) (k : Kp [x] (upd (upd H dx (.own x)) x (.ins C dx [])) H1) : Kp [] H H1 :=
  ((Kp.new ndx).nw (hn_ne (Ne.symm ne) nx)).via1 k nx
theorem kvT_ks {α : Type} (key : α → Int) (xs : List (Addr × α)) : (kvT key xs).map (·.1) = ((xs.map (·.2)).map key).map Sum.inl := by
  unfold kvT
  rw [List.map_map, List.map_map, List.map_map]
  rfl
theorem BoxB.offI {H : Hp} {p q : Addr} {ns : List Int} (B : BoxB H p) (h : H q = some (.lst (ns.map V.int))) (n : ns.length ≠ 3) : q ≠ p := B.off h fun a b c e => by
  injection e with e
  have := congrArg List.length e
  rw [List.length_map] at this
  exact n this
theorem _root_.RD.Kp.fr {p q : Addr} {H H' : Hp} (k : Kp [p] H H') (B : BoxB H' p) (n : H' q = none) : H q = none := k.back n fun m => B.ne n (List.mem_singleton.mp m).symm

theorem rd_eqSy {K : PySem.W.Frag} {H : Hp} {Q : VK} {a b : Addr} {x y : Sy} (h1 : SyAt H a x) (h2 : SyAt H b y) (t1 : x.T) (t2 : y.T) (q : Q (.bl (decide (x = y))) H) : rEqD K (.ref a) (.ref b) H Q :=
  ⟨dSy x, dSy y, dp_sy h1, dp_sy h2, dSy_shaped t1, dSy_shaped t2, by
    rw [dSy_eqv]
    exact q⟩
theorem filterMap_congr' {α β : Type} {f g : α → Option β} : ∀ {l : List α}, (∀ x, x ∈ l → f x = g x) → l.filterMap f = l.filterMap g
  | [], _ => rfl
  | x :: r, h => by
    rw [List.filterMap_cons, List.filterMap_cons, h x (List.mem_cons_self ..), filterMap_congr' fun y hy => h y (List.mem_cons_of_mem _ hy)]
theorem fdT_put {α : Type} {key : α → Int} {k : Int} {p : Addr × α} (xs : List (Addr × α)) : fdT key (ptT key xs p) k = if key p.2 = k then some p else fdT key xs k := by
  unfold ptT
  by_cases z : (xs.any fun q => decide (key q.2 = key p.2)) = true
  · rw [if_pos z]
    induction xs with
    | nil => simp at z
    | cons q r ih =>
      unfold fdT at ih ⊢
      rw [List.map_cons, List.find?_cons, List.find?_cons]
      by_cases h : key q.2 = key p.2
      · rw [if_pos h]
        by_cases e : key p.2 = k
        · rw [decide_eq_true e, if_pos e]
        · rw [decide_eq_false e, if_neg e, decide_eq_false (fun z => e (h ▸ z))]
          show List.find? _ (List.map _ r) = List.find? _ r
          by_cases z2 : (r.any fun q => decide (key q.2 = key p.2)) = true
          · have := ih z2
            rw [if_neg e] at this
            exact this
          · congr 1
            refine (List.map_congr_left (g := id) fun q hq => if_neg fun z => z2 (List.any_eq_true.mpr ⟨q, hq, decide_eq_true z⟩)).trans (List.map_id _)
      · rw [if_neg h]
        have z2 : (r.any fun q => decide (key q.2 = key p.2)) = true := by
          rw [List.any_cons, decide_eq_false h, Bool.false_or] at z
          exact z
        by_cases e : key q.2 = k
        · rw [decide_eq_true e, if_neg (fun z => h (e.trans z.symm))]
        · rw [decide_eq_false e]
          exact ih z2
  · rw [if_neg z]
    unfold fdT
    rw [List.find?_append, List.find?_cons, List.find?_nil]
    by_cases e : key p.2 = k
    · rw [decide_eq_true e, if_pos e]
      have : List.find? (fun q => decide (key q.2 = k)) xs = none := List.find?_eq_none.mpr fun q hq h => z (List.any_eq_true.mpr ⟨q, hq, decide_eq_true (by
        rw [e]
        exact of_decide_eq_true h)⟩)
      rw [this]
      rfl
    · rw [decide_eq_false e, if_neg e, Option.or_none]
theorem keys_put {α : Type} {key : α → Int} {p : Addr × α} (xs : List (Addr × α)) : ((ptT key xs p).map (·.2)).map key = if (xs.any fun q => decide (key q.2 = key p.2)) = true then (xs.map (·.2)).map key else (xs.map (·.2)).map key ++ [key p.2] := by
  unfold ptT
  by_cases z : (xs.any fun q => decide (key q.2 = key p.2)) = true
  · rw [if_pos z, if_pos z, List.map_map, List.map_map, List.map_map]
    refine List.map_congr_left fun q hq => ?_
    show key (if key q.2 = key p.2 then p else q).2 = key q.2
    by_cases h : key q.2 = key p.2
    · rw [if_pos h]
      exact h.symm
    · rw [if_neg h]
  · rw [if_neg z, if_neg z, List.map_append, List.map_append]
    rfl

abbrev look (xs : List (Addr × Sy)) (k : Int) : Option Sy := (fdT Sy.s xs k).map (·.2)
abbrev keysN (xs : List (Addr × Sy)) : Prop := ((xs.map (·.2)).map Sy.s).Nodup
def tkF (Y : Int → Option Sy) (y : Sy) : Int → Option Sy := fun k => if k = y.s ∧ rkO (Y k) < rk y then some y else Y k
theorem look_put (xs : List (Addr × Sy)) (p : Addr × Sy) (k : Int) : look (ptT Sy.s xs p) k = if k = p.2.s then some p.2 else look xs k := by
  unfold look
  rw [fdT_put]
  by_cases h : p.2.s = k
  · rw [if_pos h, if_pos h.symm]
    rfl
  · rw [if_neg h, if_neg (fun z => h z.symm)]
theorem look_take (xs : List (Addr × Sy)) (p : Addr × Sy) : look (takeT xs p) = tkF (look xs) p.2 := by
  funext k
  unfold tkF
  by_cases h : rkO (look xs p.2.s) < rk p.2
  · rw [takeT_pos h, look_put]
    by_cases e : k = p.2.s
    · rw [if_pos e, if_pos ⟨e, by rw [e]; exact h⟩]
    · rw [if_neg e, if_neg (fun z => e z.1)]
  · rw [takeT_neg h, if_neg]
    rintro ⟨e, z⟩
    rw [e] at z
    exact h z
theorem look_fold : ∀ (ps xs : List (Addr × Sy)), look (ps.foldl takeT xs) = (ps.map (·.2)).foldl tkF (look xs)
  | [], _ => rfl
  | p :: r, xs => by
    rw [List.foldl_cons, List.map_cons, List.foldl_cons, ← look_take]
    exact look_fold r (takeT xs p)
/-- Y tells of each seat one of greatest rank among those with P -/
def isB (P : Sy → Prop) (Y : Int → Option Sy) : Prop := ∀ k, (Y k = none → ∀ z, P z → z.s ≠ k) ∧ ∀ y, Y k = some y → P y ∧ y.s = k ∧ ∀ z, P z → z.s = k → rk z ≤ rk y
theorem isB_nil : isB (fun _ => False) (fun _ => none) := fun k => ⟨fun _ z h => h.elim, fun y e => by cases e⟩
theorem isB.congr {P P' : Sy → Prop} {Y : Int → Option Sy} (h : isB P Y) (e : ∀ z, P z ↔ P' z) : isB P' Y := fun k => ⟨fun n z hz => (h k).1 n z ((e z).mpr hz), fun y hy => by
  obtain ⟨a, b, c⟩ := (h k).2 y hy
  exact ⟨(e y).mp a, b, fun z hz => c z ((e z).mpr hz)⟩⟩
theorem isB.tk {P : Sy → Prop} {Y : Int → Option Sy} {y : Sy} (h : isB P Y) (hy : 0 < rk y) : isB (fun z => P z ∨ z = y) (tkF Y y) := by
  intro k
  unfold tkF
  by_cases c : k = y.s ∧ rkO (Y k) < rk y
  · rw [if_pos c]
    refine ⟨fun e => by (cases e), fun w e => ?_⟩
    cases e
    refine ⟨.inr rfl, c.1.symm, fun z hz ez => ?_⟩
    rcases hz with hz | rfl
    · cases q : Y k with
      | none => exact absurd ez ((h k).1 q z hz)
      | some w =>
        have h1 := ((h k).2 w q).2.2 z hz ez
        have h2 := c.2
        rw [q] at h2
        have h2 : rk w < rk y := h2
        omega
    · exact Int.le_refl _
  · rw [if_neg c]
    refine ⟨fun e z hz => ?_, fun w e => ?_⟩
    · rcases hz with hz | rfl
      · exact (h k).1 e z hz
      · intro q
        exact c ⟨q.symm, by rw [e]; exact hy⟩
    · obtain ⟨a, b, d⟩ := (h k).2 w e
      refine ⟨.inl a, b, fun z hz ez => ?_⟩
      rcases hz with hz | rfl
      · exact d z hz ez
      · rw [e] at c
        have : ¬ rk w < rk z := fun q => c ⟨ez.symm, q⟩
        omega
theorem isB.fold : ∀ {ps : List Sy} {P : Sy → Prop} {Y : Int → Option Sy}, isB P Y → (∀ p, p ∈ ps → 0 < rk p) → isB (fun z => P z ∨ z ∈ ps) (ps.foldl tkF Y)
  | [], P, Y, h, _ => h.congr fun z => by simp
  | p :: r, P, Y, h, hp => by
    have := isB.fold (ps := r) (h.tk (hp p (List.mem_cons_self ..))) fun q hq => hp q (List.mem_cons_of_mem _ hq)
    refine this.congr fun z => ?_
    simp only [List.mem_cons]
    constructor
    · rintro ((a | b) | c)
      · exact .inl a
      · exact .inr (.inl b)
      · exact .inr (.inr c)
    · rintro (a | b | c)
      · exact .inl (.inl a)
      · exact .inl (.inr b)
      · exact .inr c
theorem isB_list {ps : List (Addr × Sy)} (h : ∀ p, p ∈ ps → 0 < rk p.2) : isB (fun z => z ∈ ps.map (·.2)) (look (ps.foldl takeT [])) := by
  rw [look_fold]
  have := isB_nil.fold (ps := ps.map (·.2)) fun y hy => by
    obtain ⟨p, hp, rfl⟩ := List.mem_map.mp hy
    exact h p hp
  exact this.congr fun z => ⟨fun q => q.resolve_left id, .inr⟩
def tieP (P : Sy → Prop) : Prop := ∀ a b, P a → P b → a.s = b.s → rk a = rk b → a = b
theorem isB.uniq {P : Sy → Prop} {Y Y' : Int → Option Sy} (t : tieP P) (h : isB P Y) (h' : isB P Y') : Y = Y' := by
  funext k
  cases e : Y k with
  | none =>
    cases e' : Y' k with
    | none => rfl
    | some w => exact absurd ((h' k).2 w e').2.1 ((h k).1 e w ((h' k).2 w e').1)
  | some y =>
    obtain ⟨a, b, c⟩ := (h k).2 y e
    cases e' : Y' k with
    | none => exact absurd b ((h' k).1 e' y a)
    | some w =>
      obtain ⟨a', b', c'⟩ := (h' k).2 w e'
      have h1 := c w a' b'
      have h2 := c' y a b
      rw [t y w a a' (b.trans b'.symm) (by omega)]
theorem isB.weak {M P : Sy → Prop} {Y : Int → Option Sy} (h : isB M Y) (h1 : ∀ z, M z → P z) (h2 : ∀ z, P z → ∃ w, M w ∧ w.s = z.s ∧ rk z ≤ rk w) : isB P Y := fun k => ⟨fun e z hz q => by
  obtain ⟨w, hw, ew, _⟩ := h2 z hz
  exact (h k).1 e w hw (ew.trans q), fun y e => by
  obtain ⟨a, b, c⟩ := (h k).2 y e
  refine ⟨h1 y a, b, fun z hz q => ?_⟩
  obtain ⟨w, hw, ew, lw⟩ := h2 z hz
  have := c w hw (ew.trans q)
  omega⟩
theorem look_mem {xs : List (Addr × Sy)} {k : Int} {y : Sy} (h : look xs k = some y) : y ∈ xs.map (·.2) ∧ y.s = k := by
  obtain ⟨p, hp, rfl⟩ := Option.map_eq_some_iff.mp h
  exact ⟨List.mem_map_of_mem (fdT_some hp).1, (fdT_some hp).2⟩
theorem look_of {xs : List (Addr × Sy)} (nd : keysN xs) {p : Addr × Sy} (hp : p ∈ xs) : fdT Sy.s xs p.2.s = some p := by
  induction xs with
  | nil => cases hp
  | cons q r ih =>
    unfold fdT
    rw [List.find?_cons]
    have nd' : (q.2.s :: (r.map (·.2)).map Sy.s).Nodup := nd
    rcases List.mem_cons.mp hp with rfl | m
    · rw [decide_eq_true rfl]
    · rw [decide_eq_false (fun e : q.2.s = p.2.s => (List.nodup_cons.mp nd').1 (by
        rw [e]
        exact List.mem_map_of_mem (List.mem_map_of_mem m)))]
      exact ih (List.nodup_cons.mp nd').2 m
theorem look_of' {xs : List (Addr × Sy)} (nd : keysN xs) {p : Addr × Sy} (hp : p ∈ xs) : look xs p.2.s = some p.2 := by
  unfold look
  rw [look_of nd hp]
  rfl
theorem isB_self {xs : List (Addr × Sy)} (nd : keysN xs) : isB (fun z => z ∈ xs.map (·.2)) (look xs) := by
  intro k
  refine ⟨fun e z hz q => ?_, fun y e => ?_⟩
  · obtain ⟨p, hp, rfl⟩ := List.mem_map.mp hz
    have h := look_of' nd hp
    rw [q, e] at h
    cases h
  · obtain ⟨a, b⟩ := look_mem e
    refine ⟨a, b, fun z hz q => ?_⟩
    obtain ⟨p, hp, rfl⟩ := List.mem_map.mp hz
    have := look_of' nd hp
    rw [q, e] at this
    rw [Option.some.inj this]
    exact Int.le_refl _
theorem isB.join {P1 P2 : Sy → Prop} {xs ys : List (Addr × Sy)} (h1 : isB P1 (look xs)) (h2 : isB P2 (look ys)) (n1 : keysN xs) (n2 : keysN ys) (r1 : ∀ p, p ∈ xs → 0 < rk p.2) (r2 : ∀ p, p ∈ ys → 0 < rk p.2) : isB (fun z => P1 z ∨ P2 z) (look ((xs ++ ys).foldl takeT [])) := by
  refine (isB_list (ps := xs ++ ys) fun p hp => (List.mem_append.mp hp).elim (r1 p) (r2 p)).weak (fun z hz => ?_) fun z hz => ?_
  · rw [List.map_append] at hz
    rcases List.mem_append.mp hz with m | m
    · obtain ⟨p, hp, rfl⟩ := List.mem_map.mp m
      exact .inl ((h1 _).2 _ (look_of' n1 hp)).1
    · obtain ⟨p, hp, rfl⟩ := List.mem_map.mp m
      exact .inr ((h2 _).2 _ (look_of' n2 hp)).1
  · rw [List.map_append]
    rcases hz with hz | hz
    · cases e : look xs z.s with
      | none => exact absurd rfl ((h1 _).1 e z hz)
      | some w =>
        obtain ⟨a, b⟩ := look_mem e
        exact ⟨w, List.mem_append_left _ a, b, ((h1 _).2 w e).2.2 z hz rfl⟩
    · cases e : look ys z.s with
      | none => exact absurd rfl ((h2 _).1 e z hz)
      | some w =>
        obtain ⟨a, b⟩ := look_mem e
        exact ⟨w, List.mem_append_right _ a, b, ((h2 _).2 w e).2.2 z hz rfl⟩
theorem keysN_put {xs : List (Addr × Sy)} (nd : keysN xs) (p : Addr × Sy) : keysN (ptT Sy.s xs p) := by
  unfold keysN
  rw [keys_put]
  by_cases z : (xs.any fun q => decide (q.2.s = p.2.s)) = true
  · rw [if_pos z]
    exact nd
  · rw [if_neg z]
    refine List.nodup_append.mpr ⟨nd, by simp, fun a ha b hb e => ?_⟩
    rw [List.mem_singleton.mp hb] at e
    obtain ⟨y, hy, rfl⟩ := List.mem_map.mp ha
    obtain ⟨q, hq, rfl⟩ := List.mem_map.mp hy
    exact z (List.any_eq_true.mpr ⟨q, hq, decide_eq_true e⟩)
theorem keysN_take {xs : List (Addr × Sy)} (nd : keysN xs) (p : Addr × Sy) : keysN (takeT xs p) := by
  unfold takeT
  split
  · exact keysN_put nd p
  · exact nd
theorem keysN_fold : ∀ {ps xs : List (Addr × Sy)}, keysN xs → keysN (ps.foldl takeT xs)
  | [], _, h => h
  | p :: r, _, h => keysN_fold (ps := r) (keysN_take h p)
theorem keysN_nil : keysN [] := List.nodup_nil
theorem keys_look {xs : List (Addr × Sy)} {k : Int} : k ∈ (xs.map (·.2)).map Sy.s ↔ look xs k ≠ none := by
  constructor
  · intro h e
    obtain ⟨p, hp⟩ := fdT_key h
    unfold look at e
    rw [hp] at e
    cases e
  · intro h
    cases e : look xs k with
    | none => exact absurd e h
    | some y =>
      obtain ⟨a, b⟩ := look_mem e
      rw [← b]
      exact List.mem_map_of_mem a
theorem srt_look {xs ys : List (Addr × Sy)} (n1 : keysN xs) (n2 : keysN ys) (h : look xs = look ys) : srt ((xs.map (·.2)).map Sy.s) = srt ((ys.map (·.2)).map Sy.s) := by
  refine srt_is ((srt_perm _).trans ((List.perm_ext_iff_of_nodup n1 n2).mpr fun k => ?_)) (srt_le _)
  rw [keys_look, keys_look, h]
theorem rows_look {xs ys : List (Addr × Sy)} (n1 : keysN xs) (n2 : keysN ys) (h : look xs = look ys) : (rowsL xs).map (·.2) = (rowsL ys).map (·.2) := by
  unfold rowsL
  rw [srt_look n1 n2 h, List.map_filterMap, List.map_filterMap]
  exact filterMap_congr' fun k _ => congrFun h k
theorem rowsL_len (xs : List (Addr × Sy)) : (rowsL xs).length = xs.length := by
  have hf : ∀ k, k ∈ srt ((xs.map (·.2)).map Sy.s) → fdT Sy.s xs k = some ((fdT Sy.s xs k).getD (0, ⟨0, 0, "", ""⟩)) := fun k hk => by
    obtain ⟨p, hp⟩ := fdT_key ((srt_perm _).mem_iff.mp hk)
    rw [hp]
    rfl
  unfold rowsL
  rw [rowsL_take (fun k hk => (srt_perm _).mem_iff.mp hk) hf, List.length_map, (srt_perm _).length_eq, List.length_map, List.length_map]
theorem len_look {xs ys : List (Addr × Sy)} (n1 : keysN xs) (n2 : keysN ys) (h : look xs = look ys) : xs.length = ys.length := by
  have := congrArg List.length (rows_look n1 n2 h)
  rw [List.length_map, List.length_map, rowsL_len, rowsL_len] at this
  exact this
theorem rowsL_mem {xs : List (Addr × Sy)} {p : Addr × Sy} (h : p ∈ rowsL xs) : p ∈ xs ∧ fdT Sy.s xs p.2.s = some p := by
  unfold rowsL at h
  obtain ⟨k, hk, e⟩ := List.mem_filterMap.mp h
  have e2 := (fdT_some e).2
  exact ⟨(fdT_some e).1, by rw [e2]; exact e⟩
theorem mem_rowsL {xs : List (Addr × Sy)} (nd : keysN xs) {p : Addr × Sy} (h : p ∈ xs) : p ∈ rowsL xs := by
  unfold rowsL
  exact List.mem_filterMap.mpr ⟨p.2.s, (srt_perm _).mem_iff.mpr (List.mem_map_of_mem (List.mem_map_of_mem h)), look_of nd h⟩
theorem look_rows {xs : List (Addr × Sy)} (nd : keysN xs) (h : ∀ p, p ∈ xs → 0 < rk p.2) : look ((rowsL xs).foldl takeT []) = look xs := by
  refine isB.uniq (P := fun z => z ∈ xs.map (·.2)) (fun a b ha hb e _ => ?_) ((isB_list (ps := rowsL xs) fun p hp => h p (rowsL_mem hp).1).congr fun z => ?_) (isB_self nd)
  · obtain ⟨p, hp, rfl⟩ := List.mem_map.mp ha
    obtain ⟨q, hq, rfl⟩ := List.mem_map.mp hb
    have h1 := look_of' nd hp
    have h2 := look_of' nd hq
    have e : p.2.s = q.2.s := e
    rw [e, h2] at h1
    exact (Option.some.inj h1).symm
  · constructor
    · intro hz
      obtain ⟨p, hp, rfl⟩ := List.mem_map.mp hz
      exact List.mem_map_of_mem (rowsL_mem hp).1
    · intro hz
      obtain ⟨p, hp, rfl⟩ := List.mem_map.mp hz
      exact List.mem_map_of_mem (mem_rowsL nd hp)
theorem len_keys {xs : List (Addr × Sy)} {r : Int} (nd : keysN xs) (h : ∀ p, p ∈ xs → 0 ≤ p.2.s ∧ p.2.s < r) : (xs.length : Int) ≤ r ∨ xs = [] := by
  cases hx : xs with
  | nil => exact .inr rfl
  | cons p0 r0 =>
    left
    rw [← hx]
    have p0m : p0 ∈ xs := by rw [hx]; exact List.mem_cons_self ..
    have hr : 0 < r := by have := h p0 p0m; omega
    have sub : ∀ k, k ∈ (xs.map (·.2)).map Sy.s → k ∈ (List.range r.toNat).map fun (i : Nat) => (i : Int) := fun k hk => by
      obtain ⟨y, hy, rfl⟩ := List.mem_map.mp hk
      obtain ⟨p, hp, rfl⟩ := List.mem_map.mp hy
      have := h p hp
      exact List.mem_map.mpr ⟨p.2.s.toNat, List.mem_range.mpr (by omega), by omega⟩
    have := List.Nodup.length_le_of_subset nd sub
    simp only [List.length_map, List.length_range] at this
    omega
/-! dicts of sayings compared -/
def dO : Option Sy → PyData
  | none => .none
  | some y => dSy y
def fO (xs : List (Addr × Sy)) : Key → PyData
  | .inl k => dO (look xs k)
  | .inr _ => .none
def eqT (xs ys : List (Addr × Sy)) : Bool := (xs.length == ys.length) && xs.all fun p => decide (look ys p.2.s = some p.2)
theorem dd_at {K : PySem.W.Frag} {H : Hp} {d : Addr} {xs : List (Addr × Sy)} (h : RowT H d xs) (nd : keysN xs) (t : ∀ p, p ∈ xs → p.2.T) : DDat K H (fO xs) (kvT Sy.s xs) := fun p hp => by
  obtain ⟨q, hq, rfl⟩ := List.mem_map.mp hp
  show Dp K H (.ref q.1) (dO (look xs q.2.s)) ∧ SeqAt.shaped (dO (look xs q.2.s)) = true
  rw [look_of' nd hq]
  exact ⟨dp_sy (h.ob q hq), dSy_shaped (t q hq)⟩
theorem eqDD_T {xs ys : List (Addr × Sy)} (nd : keysN xs) : eqDD (fO xs) (fO ys) (kvT Sy.s xs) (kvT Sy.s ys) = eqT xs ys := by
  have g : ∀ p, p ∈ xs → ((valV (kvT Sy.s ys) (.inl p.2.s)).isSome && PyData.eqv (fO xs (.inl p.2.s)) (fO ys (.inl p.2.s))) = decide (look ys p.2.s = some p.2) := fun p hp => by
    rw [kvT_val, show fO xs (.inl p.2.s) = dO (look xs p.2.s) from rfl, look_of' nd hp, show fO ys (.inl p.2.s) = dO (look ys p.2.s) from rfl]
    unfold look
    cases fdT Sy.s ys p.2.s with
    | none => simp
    | some q =>
      show (true && PyData.eqv (dSy p.2) (dSy q.2)) = decide (some q.2 = some p.2)
      rw [dSy_eqv, Bool.true_and]
      exact decide_eq_decide.mpr ⟨fun e => by rw [e], fun e => (Option.some.inj e).symm⟩
  unfold eqDD eqT
  rw [kvT_len, kvT_len]
  congr 1
  show (xs.map _).all _ = _
  rw [List.all_map]
  have : ∀ (l : List (Addr × Sy)), (∀ p, p ∈ l → p ∈ xs) → l.all ((fun p => (valV (kvT Sy.s ys) p.1).isSome && PyData.eqv (fO xs p.1) (fO ys p.1)) ∘ fun p => ((.inl (Sy.s p.2) : Key), V.ref p.1)) = l.all fun p => decide (look ys p.2.s = some p.2) := by
    intro l
    induction l with
    | nil => exact fun _ => rfl
    | cons p r ih =>
      intro hl
      rw [List.all_cons, List.all_cons, ih fun q hq => hl q (List.mem_cons_of_mem _ hq)]
      congr 1
      exact g p (hl p (List.mem_cons_self ..))
  exact this xs fun _ h => h
theorem eqT_of {xs ys : List (Addr × Sy)} (n1 : keysN xs) (n2 : keysN ys) (h : look xs = look ys) : eqT xs ys = true := by
  unfold eqT
  rw [len_look n1 n2 h, beq_self_eq_true, Bool.true_and]
  exact List.all_eq_true.mpr fun p hp => decide_eq_true (by rw [← h]; exact look_of' n1 hp)

/-- a book of this ring that tells the greatest among those with P -/
structure BkP (K : PySem.W.Frag) (H : Hp) (b : Addr) (R : Int) (P : Sy → Prop) : Prop where
  ex : ∃ s d st xs, BookAt K H b s d xs ∧ SetAt K H s st ∧ st.ring = R ∧ (∀ p, p ∈ xs → syOk R p.2 = true) ∧ isB P (look xs) ∧ keysN xs
section
variable {K : PySem.W.Frag} {H H' : Hp} {b p : Addr} {R : Int} {P P' : Sy → Prop}
theorem BkP.k0 (B : BkP K H b R P) (k : Kp [] H H') : BkP K H' b R P := by
  obtain ⟨s, d, st, xs, h1, h2, h⟩ := B
  exact ⟨s, d, st, xs, h1.k0 k, h2.k0 k, h⟩
theorem BookAt.kBx {s d : Addr} {xs : List (Addr × Sy)} (B : BookAt K H b s d xs) (X : BoxB H p) (k : Kp [p] H H') : BookAt K H' b s d xs := by
  obtain ⟨⟨dx, h⟩, r⟩ := B
  exact ⟨⟨dx, k.g1 (X.off h fun _ _ _ z => by cases z) h⟩, ⟨k.g1 (X.off r.at_ fun _ _ _ z => by cases z) r.at_, fun q hq => k.g1 (X.off (r.ob q hq) fun _ _ _ z => by cases z) (r.ob q hq)⟩⟩
theorem SetAt.kBx {s : Addr} {st : Stg} (S : SetAt K H s st) (X : BoxB H p) (k : Kp [p] H H') : SetAt K H' s st := by
  obtain ⟨a, b, c, e⟩ := X
  exact S.k1 k (S.nelst e)
theorem SyL.kBx {l : Addr} {ps : List (Addr × Sy)} (B : SyL H l ps) (X : BoxB H p) (k : Kp [p] H H') : SyL H' l ps := by
  have n : l ≠ p := X.off B.at_ fun a b c e => by
    injection e with e
    cases ps with
    | nil => cases e
    | cons q r => injection e with e1 _; cases e1
  exact ⟨k.g1 n B.at_, fun q hq => k.g1 (X.off (B.ob q hq) fun _ _ _ z => by cases z) (B.ob q hq)⟩
theorem BkP.kBx (B : BkP K H b R P) (X : BoxB H p) (k : Kp [p] H H') : BkP K H' b R P := by
  obtain ⟨s, d, st, xs, h1, h2, h⟩ := B
  exact ⟨s, d, st, xs, h1.kBx X k, h2.kBx X k, h⟩
theorem BkP.congr (B : BkP K H b R P) (e : ∀ z, P z ↔ P' z) : BkP K H b R P' := by
  obtain ⟨s, d, st, xs, h1, h2, h3, h4, h5, h6⟩ := B
  exact ⟨s, d, st, xs, h1, h2, h3, h4, h5.congr e, h6⟩
end
theorem ok_rk {R : Int} {y : Sy} (h : syOk R y = true) : 0 < rk y := by
  have := syOk_iff.mp h
  exact rk_pos this.2.1.1 this.2.2.1
theorem ok_len {R : Int} {xs : List (Addr × Sy)} (nd : keysN xs) (h : ∀ p, p ∈ xs → syOk R p.2 = true) (hR : R ≤ 256) : xs.length ≤ 256 := by
  rcases len_keys (r := R) nd fun p hp => by
    have := syOk_iff.mp (h p hp)
    omega with h | h
  · omega
  · rw [h]
    exact Nat.zero_le _
/-- worths by seat and life -/
abbrev wkv (ws : List ((Int × Int) × Str)) : List (List Key × V) := ws.map fun p => ([.inl p.1.1, .inl p.1.2], V.str p.2)
def wl (ws : List ((Int × Int) × Str)) (s l : Int) : Option Str := (ws.find? fun p => decide (p.1 = (s, l))).map (·.2)
theorem wkv_val (s l : Int) : ∀ ws : List ((Int × Int) × Str), valV (wkv ws) [.inl s, .inl l] = (wl ws s l).map V.str
  | [] => rfl
  | p :: r => by
    have ih := wkv_val s l r
    unfold wl at ih ⊢
    rw [List.find?_cons]
    by_cases h : p.1 = (s, l)
    · rw [decide_eq_true h]
      show valV ((([.inl p.1.1, .inl p.1.2] : List Key), V.str p.2) :: wkv r) [.inl s, .inl l] = _
      rw [valV_pos (by rw [h])]
      rfl
    · rw [decide_eq_false h]
      show valV ((([.inl p.1.1, .inl p.1.2] : List Key), V.str p.2) :: wkv r) [.inl s, .inl l] = _
      rw [valV_neg (fun e => h (by
        injection e with e1 e2
        injection e2 with e3 _
        exact Prod.ext (Sum.inl.inj e1) (Sum.inl.inj e3))), ih]
theorem wl_new {ws : List ((Int × Int) × Str)} {s l s' l' : Int} {w : Str} (n : wl ws s l = none) : wl (ws ++ [((s, l), w)]) s' l' = if s' = s ∧ l' = l then some w else wl ws s' l' := by
  unfold wl at n ⊢
  rw [List.find?_append]
  by_cases h : s' = s ∧ l' = l
  · obtain ⟨rfl, rfl⟩ := h
    rw [if_pos ⟨rfl, rfl⟩]
    cases e : ws.find? fun p => decide (p.1 = (s', l')) with
    | some q => rw [e] at n; cases n
    | none => simp
  · rw [if_neg h]
    cases e : ws.find? fun p => decide (p.1 = (s', l')) with
    | some q => rfl
    | none =>
      rw [List.find?_cons, decide_eq_false (fun z : (s, l) = (s', l') => h (by
        injection z with z1 z2
        exact ⟨z1.symm, z2.symm⟩))]
      rfl
theorem wkv_put {ws : List ((Int × Int) × Str)} {s l : Int} {w : Str} (n : wl ws s l = none) : putK (wkv ws) [.inl s, .inl l] (.str w) = wkv (ws ++ [((s, l), w)]) := by
  have h : valV (wkv ws) [.inl s, .inl l] = none := by rw [wkv_val, n]; rfl
  have h2 : ¬ ((wkv ws).any fun kv => decide (kv.1 = ([.inl s, .inl l] : List Key))) = true := fun z => by
    obtain ⟨kv, hm, e⟩ := List.any_eq_true.mp z
    have e := of_decide_eq_true e
    have g : ∀ (ks : List (List Key × V)) kv, kv ∈ ks → ∃ v, valV ks kv.1 = some v := by
      intro ks
      induction ks with
      | nil => intro kv h; cases h
      | cons a r ih =>
        intro kv hm
        by_cases q : a.1 = kv.1
        · exact ⟨_, valV_pos q⟩
        · rcases List.mem_cons.mp hm with rfl | m
          · exact absurd rfl q
          · obtain ⟨v, hv⟩ := ih kv m
            exact ⟨v, by rw [valV_neg q]; exact hv⟩
    obtain ⟨v, hv⟩ := g _ kv hm
    rw [e, h] at hv
    cases hv
  unfold putK
  rw [if_neg h2]
  unfold wkv
  rw [List.map_append]
  rfl
/-- all sayings have the worth that is told under seat and life -/
def tiedW (ws : List ((Int × Int) × Str)) (L : List Sy) : Prop := ∀ y, y ∈ L → wl ws y.s y.l = some y.w
theorem rk_inj {a b : Sy} (ha : a.m ∈ MK) (hb : b.m ∈ MK) (h : rk a = rk b) : a.l = b.l ∧ a.m = b.m := by
  have h1 := stepM_b ha
  have h2 := stepM_b hb
  unfold rk at h
  refine ⟨by omega, ?_⟩
  have e : stepM a.m = stepM b.m := by omega
  unfold MK at ha hb
  simp only [List.mem_cons, List.not_mem_nil, or_false] at ha hb
  have s1 : stepM "alive" = 1 := by decide +kernel
  have s2 : stepM "suspect" = 2 := by decide +kernel
  have s3 : stepM "dead" = 3 := by decide +kernel
  have s4 : stepM "left" = 4 := by decide +kernel
  rcases ha with e1 | e1 | e1 | e1 <;> rcases hb with e2 | e2 | e2 | e2 <;> rw [e1, e2] at e ⊢ <;> simp only [s1, s2, s3, s4] at e <;> omega
theorem tiedW.tie {ws : List ((Int × Int) × Str)} {L : List Sy} {R : Int} (h : tiedW ws L) (ok : ∀ y, y ∈ L → syOk R y = true) : tieP (fun z => z ∈ L) := fun a b ha hb es er => by
  obtain ⟨el, em⟩ := rk_inj (syOk_iff.mp (ok a ha)).2.2.1 (syOk_iff.mp (ok b hb)).2.2.1 er
  have h1 := h a ha
  have h2 := h b hb
  rw [es, el, h2] at h1
  obtain ⟨s, l, m, w⟩ := a
  obtain ⟨s', l', m', w'⟩ := b
  have es : s = s' := es
  have el : l = l' := el
  have em : m = m' := em
  have ew : w' = w := Option.some.inj h1
  rw [es, el, em, ew]

theorem SyL.snocB {H : Hp} {F t : Addr} {ps : List (Addr × Sy)} {y : Sy} (B : SyL H F ps) (h : SyAt H t y) : SyL (upd H F (.lst ((ps.map fun p => V.ref p.1) ++ [.ref t]))) F (ps ++ [(t, y)]) := by
  refine ⟨by rw [upd_same, List.map_append]; rfl, fun p hp => ?_⟩
  have o : ∀ q z, SyAt H q z → SyAt (upd H F (.lst ((ps.map fun p => V.ref p.1) ++ [.ref t]))) q z := fun q z e => hu_ne (ne_of e B.at_ (by intro z; cases z)) e
  rcases List.mem_append.mp hp with m | m
  · exact o _ _ (B.ob p m)
  · rw [List.mem_singleton.mp m]
    exact o _ _ h
theorem mk_at2 {i : Int} (h0 : 0 ≤ i) (h1 : i < 4) : ∃ m, m ∈ MK ∧ atI (MK.map V.str) i = some (.str m) ∧ stepM m = i + 1 := by
  have : i = 0 ∨ i = 1 ∨ i = 2 ∨ i = 3 := by omega
  rcases this with rfl | rfl | rfl | rfl
  · exact ⟨"alive", by decide +kernel, rfl, by decide +kernel⟩
  · exact ⟨"suspect", by decide +kernel, rfl, by decide +kernel⟩
  · exact ⟨"dead", by decide +kernel, rfl, by decide +kernel⟩
  · exact ⟨"left", by decide +kernel, rfl, by decide +kernel⟩
theorem eqT_iff {xs ys : List (Addr × Sy)} (n1 : keysN xs) (n2 : keysN ys) : eqT xs ys = true ↔ look xs = look ys := by
  refine ⟨fun h => ?_, eqT_of n1 n2⟩
  unfold eqT at h
  rw [Bool.and_eq_true] at h
  obtain ⟨h1, h2⟩ := h
  have h1 := eq_of_beq h1
  have up : ∀ k y, look xs k = some y → look ys k = some y := fun k y e => by
    obtain ⟨a, b⟩ := look_mem e
    obtain ⟨p, hp, rfl⟩ := List.mem_map.mp a
    have := of_decide_eq_true (List.all_eq_true.mp h2 p hp)
    rwa [b] at this
  funext k
  cases e : look xs k with
  | some y => exact (up k y e).symm
  | none =>
    cases e2 : look ys k with
    | none => rfl
    | some y =>
      exfalso
      have hk : k ∉ (xs.map (·.2)).map Sy.s := fun z => (keys_look.mp z) e
      have nd : (k :: (xs.map (·.2)).map Sy.s).Nodup := List.nodup_cons.mpr ⟨hk, n1⟩
      have := List.Nodup.length_le_of_subset (l₂ := (ys.map (·.2)).map Sy.s) nd fun a ha => by
        rcases List.mem_cons.mp ha with rfl | ha
        · exact keys_look.mpr (by rw [e2]; simp)
        · refine keys_look.mpr fun z => ?_
          have h3 := keys_look.mp ha
          cases e3 : look xs a with
          | none => exact h3 e3
          | some w =>
            rw [up a w e3] at z
            cases z
      simp only [List.length_cons, List.length_map] at this
      omega
theorem eqT_congr {xs ys xs' ys' : List (Addr × Sy)} (n1 : keysN xs) (n2 : keysN ys) (m1 : keysN xs') (m2 : keysN ys') (h1 : look xs = look xs') (h2 : look ys = look ys') : eqT xs ys = eqT xs' ys' := by
  rw [Bool.eq_iff_iff, eqT_iff n1 n2, eqT_iff m1 m2, h1, h2]
/-- a book and the dict that the law keeps of it -/
structure PBH (K : PySem.W.Frag) (H : Hp) (R : Int) (b d h : Addr) : Prop where
  ne : d ≠ h
  ex : ∃ s st xs ys, BookAt K H b s d xs ∧ SetAt K H s st ∧ st.ring = R ∧ (∀ p, p ∈ xs → syOk R p.2 = true) ∧ RowT H h ys ∧ (∀ p, p ∈ ys → syOk R p.2 = true) ∧ look xs = look ys ∧ keysN xs ∧ keysN ys
section
variable {K : PySem.W.Frag} {H H' : Hp} {R : Int} {b d h p : Addr}
theorem PBH.kp {qs : List Addr} (P : PBH K H R b d h) (k : Kp qs H H') (hq : ∀ q, q ∈ qs → (∃ kv, H q = some (.dK kv)) ∨ BoxB H q ∨ ∃ r : List Addr, H q = some (.lst (r.map V.ref))) (n1 : d ∉ qs) (n2 : h ∉ qs) : PBH K H' R b d h := by
  obtain ⟨ne, s, st, xs, ys, h1, h2, h3, h4, h5, h6⟩ := P
  have no : ∀ {a : Addr} {o : HO}, H a = some o → (∀ kv, o ≠ .dK kv) → (∀ l, o ≠ .lst l) → a ∉ qs := fun {a o} e n1 n2 m => by
    rcases hq a m with ⟨kv, z⟩ | ⟨x, y, z, z'⟩ | ⟨r, z⟩
    · rw [e] at z
      exact n1 _ (Option.some.inj z)
    · rw [e] at z'
      exact n2 _ (Option.some.inj z')
    · rw [e] at z
      exact n2 _ (Option.some.inj z)
  obtain ⟨⟨dx, hb⟩, hr⟩ := h1
  refine ⟨ne, s, st, xs, ys, ⟨⟨dx, k _ _ hb (no hb (by intro _ z; cases z) (by intro _ z; cases z))⟩, ⟨k _ _ hr.at_ n1, fun q hq' => k _ _ (hr.ob q hq') (no (hr.ob q hq') (by intro _ z; cases z) (by intro _ z; cases z))⟩⟩, h2.kp k ?_, h3, h4, ⟨k _ _ h5.at_ n2, fun q hq' => k _ _ (h5.ob q hq') (no (h5.ob q hq') (by intro _ z; cases z) (by intro _ z; cases z))⟩, h6⟩
  obtain ⟨⟨dx2, hs⟩, _⟩ := h2
  exact no hs (by intro _ z; cases z) (by intro _ z; cases z)
theorem PBH.k0 (P : PBH K H R b d h) (k : Kp [] H H') : PBH K H' R b d h := P.kp k (by simp) (by simp) (by simp)
theorem PBH.dd (P : PBH K H R b d h) : ∃ kv, H d = some (.dK kv) := let ⟨_, _, _, _, _, h1, _⟩ := P; ⟨_, h1.ro.at_⟩
theorem PBH.hh (P : PBH K H R b d h) : ∃ kv, H h = some (.dK kv) := let ⟨_, _, _, _, _, _, _, _, _, h5, _⟩ := P; ⟨_, h5.at_⟩
theorem BoxB.nd {q : Addr} {kv : List (Key × V)} (X : BoxB H p) (e : H q = some (.dK kv)) : q ≠ p := X.off e fun _ _ _ z => by cases z
theorem PBH.kBx (P : PBH K H R b d h) (X : BoxB H p) (k : Kp [p] H H') : PBH K H' R b d h := by
  obtain ⟨kv, e⟩ := P.dd
  obtain ⟨kv2, e2⟩ := P.hh
  exact P.kp k (fun q hq => by rw [List.mem_singleton.mp hq]; exact .inr (.inl X)) (by simp [X.nd e]) (by simp [X.nd e2])
theorem _root_.RD.TD.kBx {xs : List (Addr × Sy)} (B : RowT H d xs) (X : BoxB H p) (k : Kp [p] H H') : RowT H' d xs := ⟨k.g1 (X.nd B.at_) B.at_, fun q hq => k.g1 (X.off (B.ob q hq) fun _ _ _ z => by cases z) (B.ob q hq)⟩
end
theorem all_rows {f : Sy → Bool} {xs ys : List (Addr × Sy)} (n1 : keysN xs) (n2 : keysN ys) (h : look xs = look ys) : ((rowsL xs).all fun p => f p.2) = ys.all fun p => f p.2 := by
  rw [Bool.eq_iff_iff, List.all_eq_true, List.all_eq_true]
  constructor
  · intro a p hp
    have e := look_of' n2 hp
    rw [← h] at e
    obtain ⟨m, _⟩ := look_mem e
    obtain ⟨q, hq, eq⟩ := List.mem_map.mp m
    rw [← eq]
    exact a q (mem_rowsL n1 hq)
  · intro a p hp
    have e := look_of' n1 (rowsL_mem hp).1
    rw [h] at e
    obtain ⟨m, _⟩ := look_mem e
    obtain ⟨q, hq, eq⟩ := List.mem_map.mp m
    rw [← eq]
    exact a q hq
theorem dg_fz {H : Hp} {a : Addr} {i : Int} {v : V} {od : Obj} {kvs : List (Key × V)} (e : H a = some (.frz od (.dK kvs))) (l : valV kvs (.inl i) = some v) : DGet H a (.int i) (some v) := .inl ⟨kvs, .inl i, .inr ⟨od, e⟩, rfl, l.symm⟩
theorem findYo {H : Hp} {xs : List (Addr × Sy)} (h : ∀ q, q ∈ xs → SyAt H q.1 q.2) (k : Int) : IsY H (((valV (kvT Sy.s xs) (.inl k))).getD .non) (look xs k) := by
  rw [kvT_val]
  unfold look
  cases e : fdT Sy.s xs k with
  | none => rfl
  | some p => exact ⟨p.1, rfl, h p (fdT_some e).1⟩
theorem ptT_take {ys : List (Addr × Sy)} (nd : keysN ys) {i : Nat} (hi : i < ys.length) : ptT Sy.s (ys.take i) ys[i] = ys.take (i + 1) := by
  unfold ptT
  rw [if_neg, List.take_succ_eq_append_getElem hi]
  intro z
  obtain ⟨q, hq, e⟩ := List.any_eq_true.mp z
  have e := of_decide_eq_true e
  have nd2 : (((ys.take (i + 1)).map (·.2)).map Sy.s).Nodup := (((List.take_sublist (i + 1) ys).map (·.2)).map Sy.s).nodup nd
  rw [List.take_succ_eq_append_getElem hi, List.map_append, List.map_append] at nd2
  exact (List.nodup_append.mp nd2).2.2 q.2.s (List.mem_map_of_mem (List.mem_map_of_mem hq)) ys[i].2.s (by simp) e
theorem forKT_by {σ : L2.St} {H : Hp} {t : TS} {nx bk ct : L2.St → Hp → Prop} {rt : VK} {d : Addr} {o : Obj} {g : TG} (xs : List (Addr × Sy)) (Pv : Nat → L2.St → Hp → Prop) (h0 : Pv 0 σ H) (hl : ∀ i σ H, i ≤ xs.length → Pv i σ H → H d = some (.frz o (.dK (kvT Sy.s xs))))
    (hs : ∀ (i : Nat) (h : i < xs.length) σ H, Pv i σ H → g (.int xs[i].2.s) σ H fun σ2 H2 => t ⟨Pv (i + 1), rt, nx, Pv (i + 1)⟩ σ2 H2) (hd : ∀ σ H, Pv xs.length σ H → nx σ H) : ForG (Itk d o (kvT Sy.s xs)) g t ⟨nx, rt, bk, ct⟩ σ H := by
  refine ⟨fun i m σ H => m = xs.length - i ∧ i ≤ xs.length ∧ Pv i σ H, ⟨xs.length, by simp, Nat.zero_le _, h0⟩, ?_⟩
  rintro i m σ H ⟨rfl, hi, p⟩
  have q := hl i σ H hi p
  by_cases hlt : i < xs.length
  · refine .inr ⟨⟨q, by rw [kvT_len]; exact hlt⟩, Pv (i + 1), fun σ' H' p' => ⟨xs.length - (i + 1), by omega, rfl, hlt, p'⟩, fun x H' y => ?_⟩
    obtain ⟨e, k, v, h1, h2⟩ := y
    subst e
    have h3 : (kvT Sy.s xs)[i]? = some (.inl xs[i].2.s, .ref xs[i].1) := by
      unfold kvT
      rw [List.getElem?_map, List.getElem?_eq_getElem hlt]
      rfl
    rw [h3] at h1
    cases h1
    subst h2
    exact hs i hlt σ _ p
  · have e : i = xs.length := by omega
    subst e
    exact .inl ⟨⟨q, by rw [kvT_len]; exact Nat.le_refl _⟩, hd σ H p⟩

theorem RowT.inj {H : Hp} {d : Addr} {xs ys : List (Addr × Sy)} (a : RowT H d xs) (b : RowT H d ys) : xs = ys := by
  have e := a.at_
  rw [b.at_] at e
  injection e with e
  injection e with e
  have g : ∀ (xs ys : List (Addr × Sy)), (∀ p, p ∈ xs → SyAt H p.1 p.2) → (∀ p, p ∈ ys → SyAt H p.1 p.2) → kvT Sy.s ys = kvT Sy.s xs → xs = ys := by
    intro xs
    induction xs with
    | nil =>
      intro ys _ _ e
      cases ys with
      | nil => rfl
      | cons q r => cases e
    | cons p r ih =>
      intro ys ha hb e
      cases ys with
      | nil => cases e
      | cons q r' =>
        injection e with e1 e2
        injection e1 with _ e3
        injection e3 with e3
        have h1 := ha p (List.mem_cons_self ..)
        have h2 := hb q (List.mem_cons_self ..)
        unfold SyAt at h1 h2
        rw [e3, h1] at h2
        injection h2 with h2
        injection h2 with h2
        obtain ⟨pa, ps, pl, pm, pw⟩ := p
        obtain ⟨qa, qs, ql, qm, qw⟩ := q
        unfold Sy.tup at h2
        simp only [List.cons.injEq, V.int.injEq, V.str.injEq, and_true] at h2
        obtain ⟨z1, z2, z3, z4⟩ := h2
        have e3 : qa = pa := e3
        rw [ih r' (fun z hz => ha z (List.mem_cons_of_mem _ hz)) (fun z hz => hb z (List.mem_cons_of_mem _ hz)) e2, e3, z1, z2, z3, z4]
  exact g xs ys a.ob b.ob e
theorem filt_rows {f : Sy → Bool} {xs ys : List (Addr × Sy)} (h : xs.map (·.2) = ys.map (·.2)) : (xs.filter fun p => f p.2).map (·.2) = (ys.filter fun p => f p.2).map (·.2) := by
  have g : ∀ l : List (Addr × Sy), (l.filter fun p => f p.2).map (·.2) = (l.map (·.2)).filter f := fun l => by
    rw [List.filter_map]
    rfl
  rw [g, g, h]
theorem look_rot {ps ys : List (Addr × Sy)} (nd : keysN ys) (h : ∀ p, p ∈ ys → 0 < rk p.2) (e : ∀ z, z ∈ ps.map (·.2) ↔ z ∈ ys.map (·.2)) : look (ps.foldl takeT []) = look ys := by
  refine isB.uniq (P := fun z => z ∈ ys.map (·.2)) (fun a b ha hb e _ => ?_) ((isB_list (ps := ps) fun p hp => ?_).congr e) (isB_self nd)
  · obtain ⟨p, hp, rfl⟩ := List.mem_map.mp ha
    obtain ⟨q, hq, rfl⟩ := List.mem_map.mp hb
    have h1 := look_of' nd hp
    have h2 := look_of' nd hq
    have e : p.2.s = q.2.s := e
    rw [e, h2] at h1
    exact (Option.some.inj h1).symm
  · obtain ⟨q, hq, eq⟩ := List.mem_map.mp ((e p.2).mp (List.mem_map_of_mem hp))
    rw [← eq]
    exact h q hq
/-- three books and their dicts; what lay at G stays, but for the box -/
structure St3 (K : PySem.W.Frag) (G H : Hp) (p0 : Addr) (R : Int) (L M : Addr) (bs : List (Addr × Addr × Addr)) : Prop where
  fr : Kp [p0] G H
  bx : BoxB H p0
  l : H L = some (.lst (bs.map fun c => V.ref c.1))
  m : H M = some (.lst (bs.map fun c => V.ref c.2.2))
  lm : L ≠ M
  n3 : bs.length = 3
  ob : ∀ c, c ∈ bs → PBH K H R c.1 c.2.1 c.2.2
  gL : G L = none
  gM : G M = none
  gd : ∀ c, c ∈ bs → G c.2.1 = none ∧ G c.2.2 = none
  nd : ∀ (i j : Nat) (a b : Addr × Addr × Addr), bs[i]? = some a → bs[j]? = some b → (a.2.1 = b.2.1 → i = j) ∧ (a.2.2 = b.2.2 → i = j) ∧ a.2.1 ≠ b.2.2
section
variable {K : PySem.W.Frag} {G H H' : Hp} {p0 L M p : Addr} {R : Int} {bs : List (Addr × Addr × Addr)}
theorem St3.pL (S : St3 K G H p0 R L M bs) (X : BoxB H p) : L ≠ p := X.offR (r := bs.map (·.1)) (by rw [S.l, List.map_map]; rfl)
theorem St3.pM (S : St3 K G H p0 R L M bs) (X : BoxB H p) : M ≠ p := X.offR (r := bs.map (·.2.2)) (by rw [S.m, List.map_map]; rfl)
theorem St3.kBx (S : St3 K G H p0 R L M bs) (X : BoxB H p) (hp : p = p0 ∨ G p = none) (X' : BoxB H' p) (k : Kp [p] H H') : St3 K G H' p0 R L M bs :=
  ⟨S.fr.via k fun q hq => by rw [List.mem_singleton.mp hq]; exact hp.elim (fun e => .inl (by simp [e])) .inr, by
    by_cases e : p0 = p
    · rw [e]
      exact X'
    · exact S.bx.k1 k e, k.g1 (S.pL X) S.l, k.g1 (S.pM X) S.m, S.lm, S.n3, fun c hc => (S.ob c hc).kBx X k, S.gL, S.gM, S.gd, S.nd⟩
theorem St3.k0 (S : St3 K G H p0 R L M bs) (k : Kp [] H H') : St3 K G H' p0 R L M bs :=
  ⟨S.fr.trans k.of0, S.bx.k0 k, k.g0 S.l, k.g0 S.m, S.lm, S.n3, fun c hc => (S.ob c hc).k0 k, S.gL, S.gM, S.gd, S.nd⟩
theorem St3.gn (S : St3 K G H p0 R L M bs) {q : Addr} (h : H q = none) : G q = none := S.fr.back h fun m => S.bx.ne h (List.mem_singleton.mp m).symm
theorem St3.step {qs : List Addr} {i : Nat} {c c' : Addr × Addr × Addr} (S : St3 K G H p0 R L M bs) (hc : bs[i]? = some c) (k : Kp qs H H')
    (hq : ∀ q, q ∈ qs → q = L ∨ q = M ∨ (BoxB H q ∧ (q = p0 ∨ G q = none)) ∨ q = c.2.1 ∨ q = c.2.2) (B' : BoxB H' p0) (l' : H' L = some (.lst ((bs.set i c').map fun c => V.ref c.1))) (m' : H' M = some (.lst ((bs.set i c').map fun c => V.ref c.2.2)))
    (P' : PBH K H' R c'.1 c'.2.1 c'.2.2) (d' : c'.2.1 = c.2.1 ∨ H c'.2.1 = none) (h' : c'.2.2 = c.2.2 ∨ H c'.2.2 = none) : St3 K G H' p0 R L M (bs.set i c') := by
  have hi := (List.getElem?_eq_some_iff.mp hc).1
  have cm := List.mem_of_getElem? hc
  have P := S.ob c cm
  have gd' : G c'.2.1 = none ∧ G c'.2.2 = none := ⟨d'.elim (fun e => e ▸ (S.gd c cm).1) S.gn, h'.elim (fun e => e ▸ (S.gd c cm).2) S.gn⟩
  have sub : ∀ j a, (bs.set i c')[j]? = some a → (j = i ∧ a = c') ∨ (j ≠ i ∧ bs[j]? = some a) := fun j a e => by
    rw [List.getElem?_set] at e
    by_cases z : i = j
    · rw [if_pos z, if_pos (z ▸ hi)] at e
      exact .inl ⟨z.symm, (Option.some.inj e).symm⟩
    · rw [if_neg z] at e
      exact .inr ⟨Ne.symm z, e⟩
  have old : ∀ j a, j ≠ i → bs[j]? = some a → (a.2.1 ≠ c'.2.1 ∧ a.2.2 ≠ c'.2.2 ∧ a.2.1 ≠ c'.2.2 ∧ c'.2.1 ≠ a.2.2) := fun j a n e => by
    have A := S.ob a (List.mem_of_getElem? e)
    obtain ⟨kv, e1⟩ := A.dd
    obtain ⟨kv2, e2⟩ := A.hh
    have n1 := S.nd j i a c e hc
    have n2 := S.nd i j c a hc e
    refine ⟨fun z => ?_, fun z => ?_, fun z => ?_, fun z => ?_⟩
    · rcases d' with h | h
      · exact n (n1.1 (z.trans h))
      · exact ne_of_none e1 h z
    · rcases h' with h | h
      · exact n (n1.2.1 (z.trans h))
      · exact ne_of_none e2 h z
    · rcases h' with h | h
      · exact n1.2.2 (z.trans h)
      · exact ne_of_none e1 h z
    · rcases d' with h | h
      · exact n2.2.2 (h.symm.trans z)
      · exact ne_of_none e2 h z.symm
  refine ⟨S.fr.via k fun q m => ?_, B', l', m', S.lm, by rw [List.length_set]; exact S.n3, fun a ha => ?_, S.gL, S.gM, fun a ha => ?_, fun j1 j2 a b ha hb => ?_⟩
  · rcases hq q m with rfl | rfl | ⟨_, rfl | h⟩ | rfl | rfl
    · exact .inr S.gL
    · exact .inr S.gM
    · exact .inl (by simp)
    · exact .inr h
    · exact .inr (S.gd c cm).1
    · exact .inr (S.gd c cm).2
  · obtain ⟨j, e⟩ := List.mem_iff_getElem?.mp ha
    rcases sub j a e with ⟨_, rfl⟩ | ⟨n, e⟩
    · exact P'
    · have A := S.ob a (List.mem_of_getElem? e)
      obtain ⟨kv, e1⟩ := A.dd
      obtain ⟨kv2, e2⟩ := A.hh
      have n1 := S.nd j i a c e hc
      have n2 := S.nd i j c a hc e
      refine A.kp k (fun q m => ?_) (fun m => ?_) (fun m => ?_)
      · rcases hq q m with rfl | rfl | ⟨h, _⟩ | rfl | rfl
        · exact .inr (.inr ⟨bs.map (·.1), by rw [S.l, List.map_map]; rfl⟩)
        · exact .inr (.inr ⟨bs.map (·.2.2), by rw [S.m, List.map_map]; rfl⟩)
        · exact .inr (.inl h)
        · exact .inl P.dd
        · exact .inl P.hh
      · rcases hq _ m with h | h | ⟨h, _⟩ | h | h
        · rw [h, S.l] at e1
          cases e1
        · rw [h, S.m] at e1
          cases e1
        · exact h.nd e1 rfl
        · exact n (n1.1 h)
        · exact n1.2.2 h
      · rcases hq _ m with h | h | ⟨h, _⟩ | h | h
        · rw [h, S.l] at e2
          cases e2
        · rw [h, S.m] at e2
          cases e2
        · exact h.nd e2 rfl
        · exact n2.2.2 h.symm
        · exact n (n1.2.1 h)
  · obtain ⟨j, e⟩ := List.mem_iff_getElem?.mp ha
    rcases sub j a e with ⟨_, rfl⟩ | ⟨n, e⟩
    · exact gd'
    · exact S.gd a (List.mem_of_getElem? e)
  · rcases sub j1 a ha with ⟨e1, rfl⟩ | ⟨n1, e1⟩ <;> rcases sub j2 b hb with ⟨e2, rfl⟩ | ⟨n2, e2⟩
    · exact ⟨fun _ => e1.trans e2.symm, fun _ => e1.trans e2.symm, P'.ne⟩
    · obtain ⟨o1, o2, o3, o4⟩ := old j2 b n2 e2
      exact ⟨fun z => absurd z.symm o1, fun z => absurd z.symm o2, o4⟩
    · obtain ⟨o1, o2, o3, o4⟩ := old j1 a n1 e1
      exact ⟨fun z => absurd z o1, fun z => absurd z o2, o3⟩
    · exact S.nd j1 j2 a b e1 e2
theorem St3.pick (S : St3 K G H p0 R L M bs) {z : Int} (h0 : 0 ≤ z) (h1 : z < 3) : ∃ c, bs[z.toNat]? = some c ∧ atI (bs.map fun c => V.ref c.1) z = some (.ref c.1) ∧ atI (bs.map fun c => V.ref c.2.2) z = some (.ref c.2.2) := by
  obtain ⟨j, rfl⟩ := Int.eq_ofNat_of_zero_le h0
  have hj : j < bs.length := by rw [S.n3]; omega
  refine ⟨bs[j], by rw [Int.toNat_natCast]; exact List.getElem?_eq_getElem hj, atI_nat ?_, atI_nat ?_⟩
  · rw [List.getElem?_map, List.getElem?_eq_getElem hj]
    rfl
  · rw [List.getElem?_map, List.getElem?_eq_getElem hj]
    rfl
end

theorem rd_dpop1 {td ty : TE} {σ : L2.St} {H : Hp} {Q : VK} (h : td σ H fun x H1 => ∃ a, x = .ref a ∧ IsD H1 a ∧ ty σ H1 fun y H2 => ∃ kvs k v, H2 a = some (.dK kvs) ∧ y = kV k ∧ valV kvs k = some v ∧ Q v (upd H2 a (.dK (dropK kvs k)))) : tDPop1 td ty σ H Q := h

theorem rd_ddel {td ty : TE} {σ : L2.St} {H : Hp} {nx : L2.St → Hp → Prop} {rt : VK} {bk ct : L2.St → Hp → Prop} (h : td σ H fun x H1 => ty σ H1 fun y H2 => ∃ a kvs k, x = .ref a ∧ H2 a = some (.dK kvs) ∧ y = kV k ∧ (valV kvs k).isSome = true ∧ nx σ (upd H2 a (.dK (dropK kvs k)))) : sDDel td ty ⟨nx, rt, bk, ct⟩ σ H := h
theorem lcKT_by {α : Type} {key : α → Int} {σ : L2.St} {H : Hp} {te : TE} {tt : L2.TT} {a D : Addr} {o : Obj} {g : TG} {vs : List Nat} {Qd : Hp → Prop} (xs : List (Addr × α)) (Pv : Nat → Hp → Prop) (h0 : Pv 0 (upd H D (.lst []))) (hl : ∀ i H, i ≤ xs.length → Pv i H → H a = some (.frz o (.dK (kvT key xs))))
    (hs : ∀ (i : Nat) (h : i < xs.length) H, Pv i H → g (.int (key xs[i].2)) (wipe σ vs) H fun σ2 H2 => wipe σ2 vs = wipe σ vs ∧ tt σ2 H2 fun b H3 =>
      if b = true then te σ2 H3 fun y H4 => ∃ acc, H4 D = some (.lst acc) ∧ acc.length < sizeLine ∧ Pv (i + 1) (upd H4 D (.lst (acc ++ [y]))) else Pv (i + 1) H3) (hd : ∀ H, Pv xs.length H → Qd H) : LcG (Itk a o (kvT key xs)) g tt te vs σ D Qd H := by
  refine ⟨fun i m H => m = xs.length - i ∧ i ≤ xs.length ∧ Pv i H, ⟨xs.length, by simp, Nat.zero_le _, h0⟩, ?_⟩
  rintro i m H ⟨rfl, hi, p⟩
  have q := hl i H hi p
  by_cases hlt : i < xs.length
  · refine .inr ⟨⟨q, by rw [kvT_len]; exact hlt⟩, Pv (i + 1), fun H' p' => ⟨xs.length - (i + 1), by omega, rfl, hlt, p'⟩, fun x H' y => ?_⟩
    obtain ⟨e, k, v, h1, h2⟩ := y
    subst e
    have h3 : (kvT key xs)[i]? = some (.inl (key xs[i].2), .ref xs[i].1) := by
      unfold kvT
      rw [List.getElem?_map, List.getElem?_eq_getElem hlt]
      rfl
    rw [h3] at h1
    cases h1
    subst h2
    exact hs i hlt _ p
  · have e : i = xs.length := by omega
    subst e
    exact .inl ⟨⟨q, by rw [kvT_len]; exact Nat.le_refl _⟩, hd H p⟩
/-! ### entries -/
abbrev Ent : Type := Addr × Sy × Int
abbrev ek (z : Ent) : Int := z.2.1.s
abbrev ES : Type := List (Addr × Ent)
def lkE (xs : ES) (k : Int) : Option (Sy × Int) := (fdT ek xs k).map fun p => p.2.2
abbrev keysE (xs : ES) : Prop := ((xs.map (·.2)).map ek).Nodup
abbrev NN : Type := Int → Option (Sy × Int)
theorem lkE_some {xs : ES} {k : Int} {z : Sy × Int} (h : lkE xs k = some z) : ∃ p, p ∈ xs ∧ fdT ek xs k = some p ∧ p.2.2 = z ∧ z.1.s = k := by
  obtain ⟨p, hp, rfl⟩ := Option.map_eq_some_iff.mp h
  exact ⟨p, (fdT_some hp).1, hp, rfl, (fdT_some hp).2⟩
theorem fdE_of {xs : ES} (nd : keysE xs) {p : Addr × Ent} (hp : p ∈ xs) : fdT ek xs (ek p.2) = some p := by
  induction xs with
  | nil => cases hp
  | cons q r ih =>
    unfold fdT
    rw [List.find?_cons]
    have nd' : (ek q.2 :: (r.map (·.2)).map ek).Nodup := nd
    rcases List.mem_cons.mp hp with rfl | m
    · rw [decide_eq_true rfl]
    · rw [decide_eq_false (fun e : ek q.2 = ek p.2 => (List.nodup_cons.mp nd').1 (by
        rw [e]
        exact List.mem_map_of_mem (List.mem_map_of_mem m)))]
      exact ih (List.nodup_cons.mp nd').2 m
theorem lkE_of {xs : ES} (nd : keysE xs) {p : Addr × Ent} (hp : p ∈ xs) : lkE xs (ek p.2) = some p.2.2 := by
  unfold lkE
  rw [fdE_of nd hp]
  rfl
theorem lkE_put (xs : ES) (p : Addr × Ent) (k : Int) : lkE (ptT ek xs p) k = if k = ek p.2 then some p.2.2 else lkE xs k := by
  unfold lkE
  rw [fdT_put]
  by_cases h : ek p.2 = k
  · rw [if_pos h, if_pos h.symm]
    rfl
  · rw [if_neg h, if_neg (fun z => h z.symm)]
theorem fdT_drop {α : Type} {key : α → Int} (k j : Int) : ∀ xs : List (Addr × α), fdT key (dpT key xs k) j = if j = k then none else fdT key xs j
  | [] => by simp [fdT, dpT]
  | p :: r => by
    have ih := fdT_drop (key := key) k j r
    unfold dpT at ih ⊢
    by_cases h : key p.2 = k
    · rw [List.filter_cons_of_neg (by simp [h]), ih]
      by_cases e : j = k
      · rw [if_pos e, if_pos e]
      · rw [if_neg e, if_neg e]
        unfold fdT
        rw [List.find?_cons, decide_eq_false (fun z : key p.2 = j => e (z.symm.trans h))]
    · rw [List.filter_cons_of_pos (by simp [h])]
      unfold fdT at ih ⊢
      rw [List.find?_cons, List.find?_cons, ih]
      by_cases e2 : key p.2 = j
      · rw [decide_eq_true e2]
        show some p = if j = k then none else some p
        rw [if_neg (fun z => h (e2.trans z))]
      · rw [decide_eq_false e2]
theorem lkE_drop (xs : ES) (k j : Int) : lkE (dpT ek xs k) j = if j = k then none else lkE xs j := by
  unfold lkE
  rw [fdT_drop]
  by_cases e : j = k
  · rw [if_pos e, if_pos e]
    rfl
  · rw [if_neg e, if_neg e]
theorem keysE_put {xs : ES} (nd : keysE xs) (p : Addr × Ent) : keysE (ptT ek xs p) := by
  unfold keysE
  rw [keys_put]
  by_cases z : (xs.any fun q => decide (ek q.2 = ek p.2)) = true
  · rw [if_pos z]
    exact nd
  · rw [if_neg z]
    refine List.nodup_append.mpr ⟨nd, by simp, fun a ha b hb e => ?_⟩
    rw [List.mem_singleton.mp hb] at e
    obtain ⟨y, hy, rfl⟩ := List.mem_map.mp ha
    obtain ⟨q, hq, rfl⟩ := List.mem_map.mp hy
    exact z (List.any_eq_true.mpr ⟨q, hq, decide_eq_true e⟩)
theorem keysE_drop {xs : ES} (nd : keysE xs) (k : Int) : keysE (dpT ek xs k) := ((List.filter_sublist (l := xs)).map (·.2) |>.map ek).nodup nd
theorem memE {xs : ES} (nd : keysE xs) (z : Sy × Int) : z ∈ xs.map (fun p => p.2.2) ↔ lkE xs z.1.s = some z := by
  constructor
  · intro h
    obtain ⟨p, hp, rfl⟩ := List.mem_map.mp h
    exact lkE_of nd hp
  · intro h
    obtain ⟨p, hp, _, e, _⟩ := lkE_some h
    exact List.mem_map.mpr ⟨p, hp, e⟩
theorem nodupE {xs : ES} (nd : keysE xs) : (xs.map fun p => p.2.2).Nodup := by
  have : ((xs.map fun p => p.2.2).map fun z => z.1.s).Nodup := by
    rw [List.map_map]
    have nd2 : ((xs.map (·.2)).map ek).Nodup := nd
    rw [List.map_map] at nd2
    exact nd2
  exact List.Pairwise.imp (fun h e => h (congrArg (fun z : Sy × Int => z.1.s) e)) (List.pairwise_map.mp this)
theorem permE {xs ys : ES} (n1 : keysE xs) (n2 : keysE ys) (h : lkE xs = lkE ys) : (xs.map fun p => p.2.2).Perm (ys.map fun p => p.2.2) :=
  (List.perm_ext_iff_of_nodup (nodupE n1) (nodupE n2)).mpr fun z => by rw [memE n1, memE n2, h]
/-- the entries, ascending by seat -/
def rowsE (xs : ES) : ES := (srt ((xs.map (·.2)).map ek)).filterMap fun k => fdT ek xs k
theorem keysE_perm {xs ys : ES} (n1 : keysE xs) (n2 : keysE ys) (h : lkE xs = lkE ys) : ((xs.map (·.2)).map ek).Perm ((ys.map (·.2)).map ek) := by
  have := (permE n1 n2 h).map fun z => z.1.s
  rw [List.map_map, List.map_map] at this
  rw [List.map_map, List.map_map]
  exact this
theorem rowsE_look {xs ys : ES} (n1 : keysE xs) (n2 : keysE ys) (h : lkE xs = lkE ys) : (rowsE xs).map (fun p => p.2.2) = (rowsE ys).map fun p => p.2.2 := by
  unfold rowsE
  rw [show srt ((xs.map (·.2)).map ek) = srt ((ys.map (·.2)).map ek) from srt_is ((srt_perm _).trans (keysE_perm n1 n2 h)) (srt_le _), List.map_filterMap, List.map_filterMap]
  exact filterMap_congr' fun k _ => congrFun h k
/-- tellings and seat in one number -/
def cod (z : Sy × Int) : Int := z.2 * 1000 + z.1.s
def pickE (xs : ES) (room : Int) : ES := ((srt (xs.map fun p => cod p.2.2)).take room.toNat).filterMap fun c => fdT ek xs (c % 1000)
theorem pickE_look {xs ys : ES} (n1 : keysE xs) (n2 : keysE ys) (h : lkE xs = lkE ys) (room : Int) : (pickE xs room).map (fun p => p.2.2) = (pickE ys room).map fun p => p.2.2 := by
  unfold pickE
  have e : (xs.map fun p => cod p.2.2).Perm (ys.map fun p => cod p.2.2) := by
    have := (permE n1 n2 h).map cod
    rwa [List.map_map, List.map_map] at this
  rw [show srt (xs.map fun p => cod p.2.2) = srt (ys.map fun p => cod p.2.2) from srt_is ((srt_perm _).trans e) (srt_le _), List.map_filterMap, List.map_filterMap]
  exact filterMap_congr' fun k _ => congrFun h (k % 1000)
theorem lenE {xs ys : ES} (n1 : keysE xs) (n2 : keysE ys) (h : lkE xs = lkE ys) : xs.length = ys.length := by
  have := (permE n1 n2 h).length_eq
  rwa [List.length_map, List.length_map] at this
/-! ### dicts of entries on the heap -/
structure EN (mk : List V → HO) (H : Hp) (d : Addr) (xs : ES) : Prop where
  at_ : H d = some (.dK (kvT ek xs))
  ob : ∀ p, p ∈ xs → H p.1 = some (mk [.ref p.2.1, .int p.2.2.2]) ∧ SyAt H p.2.1 p.2.2.1
structure MkOk (mk : List V → HO) : Prop where
  dk : ∀ l kv, mk l ≠ .dK kv
  bx : ∀ t n a b c, mk [.ref t, .int n] ≠ .lst [.int a, .int b, .int c]
  rl : ∀ t n (r : List Addr), mk [.ref t, .int n] ≠ .lst (r.map V.ref)
theorem mkT : MkOk HO.tup := ⟨fun _ _ z => (by cases z), fun _ _ _ _ _ z => (by cases z), fun _ _ _ z => (by cases z)⟩
theorem mkL : MkOk HO.lst := by
  refine ⟨fun _ _ z => (by cases z), fun _ _ _ _ _ z => ?_, fun t n r z => ?_⟩
  · injection z with z
    cases z
  · injection z with z
    cases r with
    | nil => cases z
    | cons a r =>
      injection z with _ z
      cases r with
      | nil => cases z
      | cons b r => injection z with z _; cases z
/-- what may be written while entries stay -/
def Wr (H : Hp) (qs : List Addr) : Prop := ∀ q, q ∈ qs → (∃ kv, H q = some (.dK kv)) ∨ BoxB H q ∨ ∃ r : List Addr, H q = some (.lst (r.map V.ref))
section
variable {mk : List V → HO} {H H' : Hp} {d : Addr} {xs : ES} {qs : List Addr}
theorem Wr.no (w : Wr H qs) {a : Addr} {o : HO} (e : H a = some o) (n1 : ∀ kv, o ≠ .dK kv) (n2 : ∀ a b c, o ≠ .lst [.int a, .int b, .int c]) (n3 : ∀ r : List Addr, o ≠ .lst (r.map V.ref)) : a ∉ qs := fun m => by
  rcases w a m with ⟨kv, z⟩ | ⟨x, y, u, z⟩ | ⟨r, z⟩
  · rw [e] at z
    exact n1 _ (Option.some.inj z)
  · rw [e] at z
    exact n2 _ _ _ (Option.some.inj z)
  · rw [e] at z
    exact n3 _ (Option.some.inj z)
theorem Wr.sy (w : Wr H qs) {a : Addr} {y : Sy} (e : SyAt H a y) : a ∉ qs := w.no e (by intro _ z; cases z) (by intro _ _ _ z; cases z) (by intro _ z; cases z)
theorem EN.kp (B : EN mk H d xs) (ok : MkOk mk) (k : Kp qs H H') (w : Wr H qs) (nd : d ∉ qs) : EN mk H' d xs :=
  ⟨k _ _ B.at_ nd, fun p hp => ⟨k _ _ (B.ob p hp).1 (w.no (B.ob p hp).1 (ok.dk _) (ok.bx _ _) (ok.rl _ _)), k _ _ (B.ob p hp).2 (w.sy (B.ob p hp).2)⟩⟩
theorem EN.k0 (B : EN mk H d xs) (k : Kp [] H H') : EN mk H' d xs := ⟨k.g0 B.at_, fun p hp => ⟨k.g0 (B.ob p hp).1, k.g0 (B.ob p hp).2⟩⟩
theorem EN.find (B : EN mk H d xs) {k : Int} {p : Addr × Ent} (h : fdT ek xs k = some p) : H p.1 = some (mk [.ref p.2.1, .int p.2.2.2]) ∧ SyAt H p.2.1 p.2.2.1 := B.ob p (fdT_some h).1
theorem EN.put (B : EN mk H d xs) (ok : MkOk mk) {p : Addr × Ent} (h1 : H p.1 = some (mk [.ref p.2.1, .int p.2.2.2])) (h2 : SyAt H p.2.1 p.2.2.1) : EN mk (upd H d (.dK (kvT ek (ptT ek xs p)))) d (ptT ek xs p) := by
  have o : ∀ q : Addr × Ent, H q.1 = some (mk [.ref q.2.1, .int q.2.2.2]) ∧ SyAt H q.2.1 q.2.2.1 → upd H d (.dK (kvT ek (ptT ek xs p))) q.1 = some (mk [.ref q.2.1, .int q.2.2.2]) ∧ SyAt (upd H d (.dK (kvT ek (ptT ek xs p)))) q.2.1 q.2.2.1 := fun q e => ⟨hu_ne (ne_of e.1 B.at_ (ok.dk _ _)) e.1, hu_ne (ne_of e.2 B.at_ (by intro z; cases z)) e.2⟩
  refine ⟨upd_same, fun q hq => ?_⟩
  rcases ptT_mem hq with rfl | m
  · exact o _ ⟨h1, h2⟩
  · exact o _ (B.ob q m)
theorem EN.drop (B : EN mk H d xs) (ok : MkOk mk) {k : Int} : EN mk (upd H d (.dK (kvT ek (dpT ek xs k)))) d (dpT ek xs k) :=
  ⟨upd_same, fun q hq => ⟨hu_ne (ne_of (B.ob q (List.mem_filter.mp hq).1).1 B.at_ (ok.dk _ _)) (B.ob q (List.mem_filter.mp hq).1).1, hu_ne (ne_of (B.ob q (List.mem_filter.mp hq).1).2 B.at_ (by intro z; cases z)) (B.ob q (List.mem_filter.mp hq).1).2⟩⟩
end
/-- the entries are right -/
def okE (R cy : Int) (xs : ES) : Prop := ∀ p, p ∈ xs → syOk R p.2.2.1 = true ∧ 0 ≤ p.2.2.2 ∧ p.2.2.2 < cy
/-- a dict of entries that tells N -/
structure DN (mk : List V → HO) (H : Hp) (d : Addr) (R cy : Int) (N : NN) : Prop where
  ex : ∃ xs, EN mk H d xs ∧ keysE xs ∧ okE R cy xs ∧ lkE xs = N
theorem DN.k0 {mk : List V → HO} {H H' : Hp} {d : Addr} {R cy : Int} {N : NN} (B : DN mk H d R cy N) (k : Kp [] H H') : DN mk H' d R cy N := let ⟨xs, a, b⟩ := B.ex; ⟨xs, a.k0 k, b⟩
theorem DN.kp {mk : List V → HO} {H H' : Hp} {d : Addr} {R cy : Int} {N : NN} {qs : List Addr} (B : DN mk H d R cy N) (ok : MkOk mk) (k : Kp qs H H') (w : Wr H qs) (nd : d ∉ qs) : DN mk H' d R cy N := let ⟨xs, a, b⟩ := B.ex; ⟨xs, a.kp ok k w nd, b⟩
theorem DN.dd {mk : List V → HO} {H : Hp} {d : Addr} {R cy : Int} {N : NN} (B : DN mk H d R cy N) : ∃ kv, H d = some (.dK kv) := let ⟨_, a, _⟩ := B.ex; ⟨_, a.at_⟩
theorem DN.ok {mk : List V → HO} {H : Hp} {d : Addr} {R cy : Int} {N : NN} (B : DN mk H d R cy N) {k : Int} {z : Sy × Int} (h : N k = some z) : syOk R z.1 = true ∧ 0 ≤ z.2 ∧ z.2 < cy ∧ z.1.s = k := by
  obtain ⟨xs, a, b, c, rfl⟩ := B.ex
  obtain ⟨p, hp, _, rfl, e⟩ := lkE_some h
  exact ⟨(c p hp).1, (c p hp).2.1, (c p hp).2.2, e⟩
theorem lenK {R cy : Int} {xs : ES} (nd : keysE xs) (h : okE R cy xs) (hR : R ≤ 256) : xs.length ≤ 256 := by
  rcases Nat.lt_or_ge 0 xs.length with h0 | h0
  · have sub : ∀ k, k ∈ (xs.map (·.2)).map ek → k ∈ (List.range R.toNat).map fun (i : Nat) => (i : Int) := fun k hk => by
      obtain ⟨y, hy, rfl⟩ := List.mem_map.mp hk
      obtain ⟨p, hp, rfl⟩ := List.mem_map.mp hy
      have := (syOk_iff.mp (h p hp).1).1
      exact List.mem_map.mpr ⟨p.2.2.1.s.toNat, List.mem_range.mpr (by omega), by show ((p.2.2.1.s.toNat : Nat) : Int) = p.2.2.1.s; omega⟩
    have := List.Nodup.length_le_of_subset nd sub
    simp only [List.length_map, List.length_range] at this
    omega
  · omega
/-- the news of a side and the law's table -/
structure SN (K : PySem.W.Frag) (H : Hp) (nw s d e : Addr) (st : Stg) (N : NN) : Prop where
  ob : ∃ dx, H nw = some (.ins (ga K "News") dx [(("_setting" : Str), .ref s), (("_hot" : Str), .ref d)])
  se : SetAt K H s st
  hot : DN HO.tup H d st.ring (st.bits * st.pat) N
  tab : DN HO.lst H e st.ring (st.bits * st.pat) N
  ne : d ≠ e
section
variable {K : PySem.W.Frag} {H H' : Hp} {nw s d e p : Addr} {st : Stg} {N : NN} {qs : List Addr}
theorem SN.k0 (S : SN K H nw s d e st N) (k : Kp [] H H') : SN K H' nw s d e st N := by
  obtain ⟨⟨dx, h⟩, b, c, f, g⟩ := S
  exact ⟨⟨dx, k.g0 h⟩, b.k0 k, c.k0 k, f.k0 k, g⟩
theorem SN.kp (S : SN K H nw s d e st N) (k : Kp qs H H') (w : Wr H qs) (n1 : d ∉ qs) (n2 : e ∉ qs) : SN K H' nw s d e st N := by
  obtain ⟨⟨dx, h⟩, b, c, f, g⟩ := S
  refine ⟨⟨dx, k _ _ h (w.no h (by intro _ z; cases z) (by intro _ _ _ z; cases z) (by intro _ z; cases z))⟩, b.kp k ?_, c.kp mkT k w n1, f.kp mkL k w n2, g⟩
  obtain ⟨⟨dy, h2⟩, _⟩ := b
  exact w.no h2 (by intro _ z; cases z) (by intro _ _ _ z; cases z) (by intro _ z; cases z)
theorem wr1 (X : BoxB H p) : Wr H [p] := fun q hq => by
  rw [List.mem_singleton.mp hq]
  exact .inr (.inl X)
theorem SN.kBx (S : SN K H nw s d e st N) (X : BoxB H p) (k : Kp [p] H H') : SN K H' nw s d e st N := by
  obtain ⟨kv, h1⟩ := S.hot.dd
  obtain ⟨kv2, h2⟩ := S.tab.dd
  exact S.kp k (wr1 X) (by simp [X.nd h1]) (by simp [X.nd h2])
end
/-- behind the telling of the sayings of hs -/
def tell (hs : List Sy) (cy : Int) (N : NN) : NN := fun k => match N k with
  | none => none
  | some z => if z.1 ∈ hs then (if z.2 + 1 < cy then some (z.1, z.2 + 1) else none) else some z
def note (y : Sy) (N : NN) : NN := fun k => if k = y.s then some (y, 0) else N k
theorem mem_dSy {ps : List Sy} {y : Sy} : ((ps.map dSy).any fun z => PyData.eqv z (dSy y)) = decide (y ∈ ps) := by
  rw [List.any_map]
  have e : ((fun z => PyData.eqv z (dSy y)) ∘ dSy) = fun z => decide (z = y) := funext fun z => dSy_eqv z y
  rw [e, Bool.eq_iff_iff, List.any_eq_true, decide_eq_true_iff]
  constructor
  · rintro ⟨z, hz, h⟩
    rw [← of_decide_eq_true h]
    exact hz
  · intro h
    exact ⟨y, h, decide_eq_true rfl⟩
theorem rd_inSy {K : PySem.W.Frag} {H : Hp} {Q : VK} {a l : Addr} {y : Sy} {ps : List (Addr × Sy)} (h : SyAt H a y) (hl : SyL H l ps) (t1 : y.T) (t2 : ∀ p, p ∈ ps → p.2.T) (q : Q (.bl (decide (y ∈ ps.map (·.2)))) H) : rInD K (.ref a) (.ref l) H Q :=
  ⟨dSy y, (ps.map (·.2)).map dSy, dp_sy h, .lst (SqL.of hl.at_) (dp_sys hl.ob), dSy_shaped t1, dSyL_shaped (mem_snd t2), by
    rw [mem_dSy]
    exact q⟩
theorem rd_neSyL {K : PySem.W.Frag} {H : Hp} {Q : VK} {a b : Addr} {ps qs : List (Addr × Sy)} (h1 : SyL H a ps) (h2 : SyL H b qs) (t1 : ∀ p, p ∈ ps → p.2.T) (t2 : ∀ p, p ∈ qs → p.2.T) (q : Q (.bl (!decide (ps.map (·.2) = qs.map (·.2)))) H) : rNeD K (.ref a) (.ref b) H Q :=
  ⟨.list ((ps.map (·.2)).map dSy), .list ((qs.map (·.2)).map dSy), .lst (SqL.of h1.at_) (dp_sys h1.ob), .lst (SqL.of h2.at_) (dp_sys h2.ob), dSyL_shaped (mem_snd t1), dSyL_shaped (mem_snd t2), by
    simp only [PyData.eqv]
    rw [dSys_eqv]
    exact q⟩
/-- a list of pairs (saying, tellings) -/
structure CL (H : Hp) (l : Addr) (ps : ES) : Prop where
  at_ : H l = some (.lst (ps.map fun p => V.ref p.1))
  ob : ∀ p, p ∈ ps → H p.1 = some (.tup [.ref p.2.1, .int p.2.2.2]) ∧ SyAt H p.2.1 p.2.2.1
theorem CL.k0 {H H' : Hp} {l : Addr} {ps : ES} (B : CL H l ps) (k : Kp [] H H') : CL H' l ps := ⟨k.g0 B.at_, fun p hp => ⟨k.g0 (B.ob p hp).1, k.g0 (B.ob p hp).2⟩⟩
theorem CL.kp {H H' : Hp} {l : Addr} {ps : ES} {qs : List Addr} (B : CL H l ps) (k : Kp qs H H') (w : Wr H qs) (nd : l ∉ qs) : CL H' l ps := ⟨k _ _ B.at_ nd, fun p hp => ⟨k _ _ (B.ob p hp).1 (w.no (B.ob p hp).1 (by intro _ z; cases z) (by intro _ _ _ z; cases z) (by intro _ z; cases z)), k _ _ (B.ob p hp).2 (w.sy (B.ob p hp).2)⟩⟩
theorem SyL.kw {H H' : Hp} {l : Addr} {ps : List (Addr × Sy)} {qs : List Addr} (B : SyL H l ps) (k : Kp qs H H') (w : Wr H qs) (nd : l ∉ qs) : SyL H' l ps := ⟨k _ _ B.at_ nd, fun p hp => k _ _ (B.ob p hp) (w.sy (B.ob p hp))⟩
theorem noqL {H : Hp} {l p d e : Addr} {r : List Addr} {kv kv2 : List (Key × V)} (X : BoxB H p) (h1 : H d = some (.dK kv)) (h2 : H e = some (.dK kv2)) (hl : H l = some (.lst (r.map V.ref))) : l ∉ [p, d, e] := by
  simp only [List.mem_cons, List.not_mem_nil, or_false, not_or]
  exact ⟨X.offR hl, ne_of hl h1 (by intro z; cases z), ne_of hl h2 (by intro z; cases z)⟩

/-! ### pairs sorted -/
def kP (H : Hp) : V → Int × Int
  | .ref t => match H t with
    | some (.tup [.int i, .int j]) => (i, j)
    | _ => (0, 0)
  | _ => (0, 0)
theorem kP_at {H : Hp} {t : Addr} {i j : Int} (h : H t = some (.tup [.int i, .int j])) : kP H (.ref t) = (i, j) := by
  simp [kP, h]
def codV (H : Hp) (v : V) : Int := (kP H v).1 * 1000 + (kP H v).2
/-- the addresses of pairs, each with its entry -/
structure PQ (H : Hp) (l : Addr) (qs : List (Addr × Addr × Ent)) : Prop where
  at_ : H l = some (.lst (qs.map fun q => V.ref q.1))
  ob : ∀ q, q ∈ qs → H q.1 = some (.tup [.int q.2.2.2.2, .int (ek q.2.2)])
theorem codV_at {H : Hp} {l : Addr} {qs : List (Addr × Addr × Ent)} (B : PQ H l qs) {q : Addr × Addr × Ent} (m : q ∈ qs) : codV H (.ref q.1) = cod q.2.2.2 ∧ (kP H (.ref q.1)).2 = ek q.2.2 ∧ (kP H (.ref q.1)).1 = q.2.2.2.2 := by
  unfold codV
  rw [kP_at (B.ob q m)]
  exact ⟨rfl, rfl, rfl⟩
theorem sorted_pick {H : Hp} {l : Addr} {qs : List (Addr × Addr × Ent)} {xs : ES} {R cy : Int} (B : PQ H l qs) (eq : qs.map (·.2) = xs) (ok : okE R cy xs) (hR : R ≤ 256) {zs : List V} (s1 : SrtO.Srtd (ltP (kP H)) zs) (s2 : SrtO.Stb (ltP (kP H)) zs (qs.map fun q => V.ref q.1)) (room : Int) :
    (∀ v, v ∈ zs → ∃ q, q ∈ qs ∧ v = V.ref q.1) ∧ (zs.take room.toNat).filterMap (fun v => fdT ek xs (kP H v).2) = pickE xs room := by
  have hm : ∀ v, v ∈ zs → ∃ q, q ∈ qs ∧ v = V.ref q.1 := fun v hv => by
    obtain ⟨q, hq, e⟩ := List.mem_map.mp (s2.perm.mem_iff.mp hv)
    exact ⟨q, hq, e.symm⟩
  have bd : ∀ v, v ∈ zs → 0 ≤ (kP H v).2 ∧ (kP H v).2 < 1000 := fun v hv => by
    obtain ⟨q, hq, rfl⟩ := hm v hv
    rw [(codV_at B hq).2.1]
    have : q.2 ∈ xs := eq ▸ List.mem_map_of_mem hq
    have := (syOk_iff.mp (ok _ this).1).1
    exact ⟨this.1, by show q.2.2.2.1.s < 1000; omega⟩
  refine ⟨hm, ?_⟩
  have e : zs.map (codV H) = srt (xs.map fun p => cod p.2.2) := by
    refine srt_is ?_ ?_
    · have := s2.perm.map (codV H)
      rw [List.map_map] at this
      refine this.trans (List.Perm.of_eq ?_)
      rw [← eq, List.map_map]
      exact List.map_congr_left fun q hq => (codV_at B hq).1
    · refine List.pairwise_map.mpr ?_
      have s1 : zs.Pairwise fun x y => ltP (kP H) y x = false := s1
      refine List.Pairwise.imp_of_mem (fun {x y} hx hy h => ?_) s1
      have h := SrtO.lexB_no.mp h
      have b1 := bd x hx
      have b2 := bd y hy
      show (kP H x).1 * 1000 + (kP H x).2 ≤ (kP H y).1 * 1000 + (kP H y).2
      omega
  unfold pickE
  rw [← e, ← List.map_take, List.filterMap_map]
  refine filterMap_congr' fun v hv => ?_
  have b := bd v (List.mem_of_mem_take hv)
  show fdT ek xs (kP H v).2 = fdT ek xs (((kP H v).1 * 1000 + (kP H v).2) % 1000)
  congr 1
  omega

theorem own_News {K : PySem.W.Frag} {mg : Str → Option Value} (T : Cx K mg) : OwnC K (ga K "News") := ownC_of (ba T.ex).1

theorem pickE_mem {xs : ES} {room : Int} {p : Addr × Ent} (h : p ∈ pickE xs room) : p ∈ xs := by
  unfold pickE at h
  obtain ⟨c, _, e⟩ := List.mem_filterMap.mp h
  exact (fdT_some e).1
theorem pickE_len (xs : ES) (room : Int) : (pickE xs room).length ≤ xs.length := by
  unfold pickE
  have h1 := List.length_filterMap_le (fun c => fdT ek xs (c % 1000)) ((srt (xs.map fun p => cod p.2.2)).take room.toNat)
  rw [List.length_take] at h1
  have h2 := (srt_perm (xs.map fun p => cod p.2.2)).length_eq
  rw [List.length_map] at h2
  omega
/-- the sayings of a pick -/
def pickS (xs : ES) (room : Int) : List (Addr × Sy) := (pickE xs room).map fun p => (p.2.1, p.2.2.1)
theorem pick_same {xs ys : ES} (n1 : keysE xs) (n2 : keysE ys) (h : lkE xs = lkE ys) (room : Int) : (((pickE xs room).map fun p => (p.2.1, p.2.2.1)) : List (Addr × Sy)).map (·.2) = (((pickE ys room).map fun p => (p.2.1, p.2.2.1)) : List (Addr × Sy)).map (·.2) := by
  have := congrArg (List.map fun z : Sy × Int => z.1) (pickE_look n1 n2 h room)
  rw [List.map_map, List.map_map] at this
  rw [List.map_map, List.map_map]
  exact this
theorem pick_T {R cy : Int} {xs : ES} {room : Int} (ok : okE R cy xs) : ∀ q, q ∈ (((pickE xs room).map fun p => (p.2.1, p.2.2.1)) : List (Addr × Sy)) → q.2.T := fun q hq => by
  obtain ⟨p, hp, rfl⟩ := List.mem_map.mp hq
  exact Sy.T.of (ok p (pickE_mem hp)).1
theorem rowsE_mem {xs : ES} {p : Addr × Ent} (h : p ∈ rowsE xs) : p ∈ xs := by
  unfold rowsE at h
  obtain ⟨c, _, e⟩ := List.mem_filterMap.mp h
  exact (fdT_some e).1
theorem rowsE_len (xs : ES) : (rowsE xs).length ≤ xs.length := by
  unfold rowsE
  have h1 := List.length_filterMap_le (fun c => fdT ek xs c) (srt ((xs.map (·.2)).map ek))
  have h2 := (srt_perm ((xs.map (·.2)).map ek)).length_eq
  rw [List.length_map, List.length_map] at h2
  omega
section
variable {K : PySem.W.Frag} {H H' H2 : Hp} {nw s d e p l r : Addr} {st : Stg} {N N2 : NN} {ps : List (Addr × Sy)}
theorem SN.box (S : SN K H nw s d e st N) (X : BoxB H p) (R : SyL H l ps) (k : Kp [d, e, l] H H') : BoxB H' p := by
  obtain ⟨kv, h1⟩ := S.hot.dd
  obtain ⟨kv2, h2⟩ := S.tab.dd
  refine X.kp k ?_
  have := X.nd h1
  have := X.nd h2
  have := X.offR (r := ps.map (·.1)) (by rw [R.at_, List.map_map]; rfl)
  simp [Ne.symm, *]
theorem SN.fr3 (S : SN K H2 nw s d e st N) (X : BoxB H2 p) (k : Kp [p, d, e] H H2) (n : H2 r = none) : H r = none := by
  obtain ⟨kv, h1⟩ := S.hot.dd
  obtain ⟨kv2, h2⟩ := S.tab.dd
  refine k.back n ?_
  have := X.ne n
  have := ne_of_none h1 n
  have := ne_of_none h2 n
  simp [Ne.symm, *]
theorem via3 (k : Kp [p, d, e] H H') (k2 : Kp [d, e, l] H' H2) (n : H l = none) : Kp [p, d, e] H H2 := k.via k2 fun q hq => by
  simp only [List.mem_cons, List.not_mem_nil, or_false] at hq
  rcases hq with rfl | rfl | rfl
  · exact .inl (by simp)
  · exact .inl (by simp)
  · exact .inr n
end
/-! entries as data -/
def dE : Option (Sy × Int) → PyData
  | none => .none
  | some z => .list [dSy z.1, .int z.2]
def fE (xs : ES) : Key → PyData
  | .inl k => dE (lkE xs k)
  | .inr _ => .none
theorem dd_atE {K : PySem.W.Frag} {H : Hp} {d : Addr} {xs : ES} (h : EN HO.lst H d xs) (nd : keysE xs) (t : ∀ p, p ∈ xs → p.2.2.1.T) : DDat K H (fE xs) (kvT ek xs) := fun p hp => by
  obtain ⟨q, hq, rfl⟩ := List.mem_map.mp hp
  show Dp K H (.ref q.1) (dE (lkE xs (ek q.2))) ∧ SeqAt.shaped (dE (lkE xs (ek q.2))) = true
  rw [lkE_of nd hq]
  have tq := t q hq
  refine ⟨.lst (SqL.of (h.ob q hq).1) (.cons (dp_sy (h.ob q hq).2) (.cons (.int _) .nil)), Bool.and_eq_true_iff.mpr ⟨?_, decide_eq_true ?_⟩⟩
  · simp [dE, dSy, PyData.canLay0, PyData.canLayAll0, tq.1, tq.2]
  · simp [dE, dSy, PyData.depth, PyData.depthAll]
theorem eqDD_E {f g : Key → PyData} (xs : ES) : eqDD f g (kvT ek xs) [] = decide (xs.length = 0) := by
  unfold eqDD
  cases xs with
  | nil => rfl
  | cons a r =>
    rw [kvT_len]
    rfl

/-! ### what is left to be told -/
def mu (g : Int → Int) : Nat → Int
  | 0 => 0
  | n + 1 => mu g n + g n
theorem mu_le {f g : Int → Int} : ∀ {n : Nat}, (∀ k : Nat, k < n → f k ≤ g k) → mu f n ≤ mu g n
  | 0, _ => Int.le_refl _
  | n + 1, h => by
    have h1 := mu_le (n := n) fun k hk => h k (Nat.lt_succ_of_lt hk)
    have h2 := h n (Nat.lt_succ_self n)
    show mu f n + f n ≤ mu g n + g n
    omega
theorem mu_lt {f g : Int → Int} {a : Nat} : ∀ {n : Nat}, (∀ k : Nat, k < n → f k ≤ g k) → a < n → f a + 1 ≤ g a → mu f n + 1 ≤ mu g n
  | 0, _, h, _ => absurd h (by omega)
  | n + 1, h, ha, hg => by
    have h2 := h n (Nat.lt_succ_self n)
    show mu f n + f n + 1 ≤ mu g n + g n
    by_cases e : a = n
    · subst e
      have h1 := mu_le (n := a) fun k hk => h k (Nat.lt_succ_of_lt hk)
      omega
    · have := mu_lt (n := n) (fun k hk => h k (Nat.lt_succ_of_lt hk)) (by omega) hg
      omega
theorem mu_add (f g : Int → Int) : ∀ n : Nat, mu (fun k => f k + g k) n = mu f n + mu g n
  | 0 => rfl
  | n + 1 => by
    show mu (fun k => f k + g k) n + (f n + g n) = mu f n + f n + (mu g n + g n)
    rw [mu_add f g n]
    omega
theorem mu_zero : ∀ n : Nat, mu (fun _ => 0) n = 0
  | 0 => rfl
  | n + 1 => by
    show mu (fun _ => 0) n + 0 = 0
    rw [mu_zero n]
    rfl
theorem mu_at {c a : Int} (hc : 0 ≤ c) : ∀ n : Nat, mu (fun k => if k = a then c else 0) n ≤ c ∧ ((n : Int) ≤ a → mu (fun k => if k = a then c else 0) n = 0)
  | 0 => ⟨hc, fun _ => rfl⟩
  | n + 1 => by
    obtain ⟨h1, h2⟩ := mu_at (c := c) (a := a) hc n
    show mu _ n + (if (n : Int) = a then c else 0) ≤ c ∧ (((n + 1 : Nat) : Int) ≤ a → mu _ n + (if (n : Int) = a then c else 0) = 0)
    by_cases e : (n : Int) = a
    · rw [if_pos e]
      have := h2 (by omega)
      exact ⟨by omega, fun z => by omega⟩
    · rw [if_neg e]
      exact ⟨by omega, fun z => by have := h2 (by omega); omega⟩
def gE (cy : Int) : Option (Sy × Int) → Int
  | none => 0
  | some z => cy - z.2
theorem mu_sum {R cy : Int} (n : Nat) : ∀ {xs : ES}, okE R cy xs → mu (fun k => gE cy (lkE xs k)) n ≤ (xs.map fun p => cy - p.2.2.2).sum
  | [], _ => by
    rw [show (fun k => gE cy (lkE [] k)) = fun _ => 0 from rfl, mu_zero]
    exact Int.le_refl _
  | p :: r, h => by
    have hp := h p (List.mem_cons_self ..)
    have ih := mu_sum n (xs := r) fun q hq => h q (List.mem_cons_of_mem _ hq)
    have g0 : ∀ k, 0 ≤ gE cy (lkE r k) := fun k => by
      cases e : lkE r k with
      | none => exact Int.le_refl _
      | some z =>
        obtain ⟨q, hq, _, e2, _⟩ := lkE_some e
        have := h q (List.mem_cons_of_mem _ hq)
        show 0 ≤ cy - z.2
        rw [← e2]
        omega
    have h1 : mu (fun k => gE cy (lkE (p :: r) k)) n ≤ mu (fun k => (if k = ek p.2 then cy - p.2.2.2 else 0) + gE cy (lkE r k)) n := mu_le fun k _ => by
      show gE cy (lkE (p :: r) k) ≤ _
      have g0 := g0 k
      by_cases e : ek p.2 = (k : Int)
      · have : lkE (p :: r) k = some p.2.2 := by
          unfold lkE fdT
          rw [List.find?_cons, decide_eq_true e]
          rfl
        rw [this, if_pos e.symm]
        show cy - p.2.2.2 ≤ _
        omega
      · have : lkE (p :: r) k = lkE r k := by
          unfold lkE fdT
          rw [List.find?_cons, decide_eq_false e]
        rw [this, if_neg (fun z => e z.symm)]
        omega
    rw [mu_add] at h1
    have h2 := (mu_at (c := cy - p.2.2.2) (a := ek p.2) (by omega) n).1
    rw [List.map_cons, List.sum_cons]
    omega
/-- one telling of something hot -/
theorem mu_tell {R cy : Int} {xs : ES} {hs : List Sy} (nd : keysE xs) (ok : okE R cy xs) {p : Addr × Ent} (hp : p ∈ xs) (hh : p.2.2.1 ∈ hs) : mu (fun k => gE cy (tell hs cy (lkE xs) k)) R.toNat + 1 ≤ mu (fun k => gE cy (lkE xs k)) R.toNat := by
  obtain ⟨o1, o2, o3⟩ := ok p hp
  have hs0 := (syOk_iff.mp o1).1
  have e : ((ek p.2).toNat : Int) = ek p.2 := Int.toNat_of_nonneg hs0.1
  have hk : ek p.2 = p.2.2.1.s := rfl
  refine mu_lt (a := (ek p.2).toNat) (fun k _ => ?_) (by omega) ?_
  · show gE cy (tell hs cy (lkE xs) k) ≤ gE cy (lkE xs k)
    unfold tell
    cases e : lkE xs k with
    | none => exact Int.le_refl _
    | some z =>
      obtain ⟨q, hq, _, e2, _⟩ := lkE_some e
      have oq := ok q hq
      rw [e2] at oq
      show gE cy (if z.1 ∈ hs then _ else _) ≤ cy - z.2
      by_cases c : z.1 ∈ hs
      · rw [if_pos c]
        by_cases c2 : z.2 + 1 < cy
        · rw [if_pos c2]
          show cy - (z.2 + 1) ≤ _
          omega
        · rw [if_neg c2]
          show (0 : Int) ≤ _
          omega
      · rw [if_neg c]
        exact Int.le_refl _
  · show gE cy (tell hs cy (lkE xs) ((ek p.2).toNat : Int)) + 1 ≤ gE cy (lkE xs ((ek p.2).toNat : Int))
    rw [e]
    unfold tell
    rw [lkE_of nd hp]
    show gE cy (if p.2.2.1 ∈ hs then _ else _) + 1 ≤ cy - p.2.2.2
    rw [if_pos hh]
    by_cases c2 : p.2.2.2 + 1 < cy
    · rw [if_pos c2]
      show cy - (p.2.2.2 + 1) + 1 ≤ _
      omega
    · rw [if_neg c2]
      show (0 : Int) + 1 ≤ _
      omega
theorem mu_none {R cy : Int} {xs : ES} (nd : keysE xs) (ok : okE R cy xs) (h : mu (fun k => gE cy (lkE xs k)) R.toNat ≤ 0) : xs = [] := by
  cases xs with
  | nil => rfl
  | cons p r =>
    exfalso
    obtain ⟨o1, o2, o3⟩ := ok p (List.mem_cons_self ..)
    have hs0 := (syOk_iff.mp o1).1
    have hk : ek p.2 = p.2.2.1.s := rfl
    have e : ((ek p.2).toNat : Int) = ek p.2 := Int.toNat_of_nonneg hs0.1
    have := mu_lt (f := fun _ => 0) (g := fun k => gE cy (lkE (p :: r) k)) (a := (ek p.2).toNat) (n := R.toNat) (fun k _ => by
      show (0 : Int) ≤ gE cy (lkE (p :: r) k)
      cases e : lkE (p :: r) k with
      | none => exact Int.le_refl _
      | some z =>
        obtain ⟨q, hq, _, e2, _⟩ := lkE_some e
        have oq := ok q hq
        rw [e2] at oq
        show (0 : Int) ≤ cy - z.2
        omega) (by omega) (by
      show (0 : Int) + 1 ≤ gE cy (lkE (p :: r) ((ek p.2).toNat : Int))
      rw [e, lkE_of nd (List.mem_cons_self ..)]
      show (0 : Int) + 1 ≤ cy - p.2.2.2
      omega)
    rw [mu_zero] at this
    omega
theorem pick_ne {R cy room : Int} {xs : ES} (nd : keysE xs) (ok : okE R cy xs) (hR : R ≤ 256) (hr : 1 ≤ room) (h : xs ≠ []) : ∃ p, p ∈ xs ∧ p.2.2.1 ∈ (((pickE xs room).map fun p => (p.2.1, p.2.2.1)) : List (Addr × Sy)).map (·.2) := by
  have hl : 0 < (srt (xs.map fun p => cod p.2.2)).length := by
    rw [(srt_perm _).length_eq, List.length_map]
    exact List.length_pos_iff.mpr h
  cases e : srt (xs.map fun p => cod p.2.2) with
  | nil =>
    rw [e] at hl
    exact absurd hl (by simp)
  | cons c r =>
    have hc : c ∈ xs.map fun p => cod p.2.2 := (srt_perm _).mem_iff.mp (by rw [e]; exact List.mem_cons_self ..)
    obtain ⟨p, hp, ec⟩ := List.mem_map.mp hc
    have hs0 := (syOk_iff.mp (ok p hp).1).1
    have hf : fdT ek xs (c % 1000) = some p := by
      have : c % 1000 = ek p.2 := by
        rw [← ec]
        show (p.2.2.2 * 1000 + p.2.2.1.s) % 1000 = p.2.2.1.s
        omega
      rw [this]
      exact fdE_of nd hp
    obtain ⟨m, hm⟩ : ∃ m, room.toNat = m + 1 := ⟨room.toNat - 1, by omega⟩
    refine ⟨p, hp, List.mem_map.mpr ⟨(p.2.1, p.2.2.1), List.mem_map.mpr ⟨p, ?_, rfl⟩, rfl⟩⟩
    unfold pickE
    rw [e, hm, List.take_succ_cons]
    exact List.mem_filterMap.mpr ⟨c, List.mem_cons_self .., hf⟩

/-! ### two sides -/
structure Sx where
  nw : Addr
  s : Addr
  d : Addr
  e : Addr
  w : Addr
  m : Addr
  pr : Addr
  st : Stg
  ms : List Int
  ks : List Int
structure SX (K : PySem.W.Frag) (H : Hp) (z : Sx) : Prop where
  sn : ∃ N, SN K H z.nw z.s z.d z.e z.st N
  w : H z.w = some (.lst (([z.st.bits, z.st.pat, z.st.room] : List Int).map V.int))
  m : H z.m = some (.lst (z.ms.map V.int))
  mok : z.ms ≠ [] ∧ z.ms.length ≤ 1000 ∧ ∀ y, y ∈ z.ms → 0 ≤ y ∧ y < z.st.ring
  pr : H z.pr = some (.lst (z.ks.map V.int))
section
variable {K : PySem.W.Frag} {H0 H H' : Hp} {z : Sx} {p q a1 a2 a3 a4 a5 e0 e1 : Addr} {qs r1 r2 r4 r5 : List Addr} {zs : List Sx}
theorem SX.kp (S : SX K H z) (k : Kp qs H H') (w : Wr H qs) (n1 : z.d ∉ qs) (n2 : z.e ∉ qs) (f : ∀ x, x ∈ [z.w, z.m, z.pr] → x ∉ qs) : SX K H' z := by
  obtain ⟨⟨N, sn⟩, a, b, c, d⟩ := S
  exact ⟨⟨N, sn.kp k w n1 n2⟩, k _ _ a (f _ (by simp)), k _ _ b (f _ (by simp)), c, k _ _ d (f _ (by simp))⟩
theorem SX.k0 (S : SX K H z) (k : Kp [] H H') : SX K H' z := S.kp k (fun q hq => by cases hq) (by simp) (by simp) (by simp)
theorem SX.dd (S : SX K H z) : ∃ kv, H z.d = some (.dK kv) := let ⟨_, sn⟩ := S.sn; sn.hot.dd
theorem SX.ee (S : SX K H z) : ∃ kv, H z.e = some (.dK kv) := let ⟨_, sn⟩ := S.sn; sn.tab.dd
theorem SX.wl {r : List Addr} (S : SX K H z) (h : H q = some (.lst (r.map V.ref))) (k : Kp [q] H H') (f : ∀ x, x ∈ [z.w, z.m, z.pr] → x ≠ q) : SX K H' z := by
  obtain ⟨kv, h1⟩ := S.dd
  obtain ⟨kv2, h2⟩ := S.ee
  exact S.kp k (fun x hx => by rw [List.mem_singleton.mp hx]; exact .inr (.inr ⟨r, h⟩)) (by simp [ne_of h1 h (by intro z; cases z)]) (by simp [ne_of h2 h (by intro z; cases z)]) fun x hx => by simp [f x hx]
theorem SX.kBx (S : SX K H z) (X : BoxB H p) (k : Kp [p] H H') (f : ∀ x, x ∈ [z.w, z.m, z.pr] → x ≠ p) : SX K H' z := by
  obtain ⟨kv, h1⟩ := S.dd
  obtain ⟨kv2, h2⟩ := S.ee
  exact S.kp k (wr1 X) (by simp [X.nd h1]) (by simp [X.nd h2]) fun x hx => by simp [f x hx]
/-- while the sides are made -/
structure IN (K : PySem.W.Frag) (H0 H : Hp) (p a1 a2 a3 a4 a5 e0 e1 : Addr) (r1 r2 r4 r5 : List Addr) (zs : List Sx) : Prop where
  fr : Kp [] H0 H
  bx : BoxB H p
  l1 : H a1 = some (.lst (r1.map V.ref))
  l2 : H a2 = some (.lst (r2.map V.ref))
  l4 : H a4 = some (.lst (r4.map V.ref))
  l5 : H a5 = some (.lst (r5.map V.ref))
  l3 : H a3 = some (.lst [.ref e0, .ref e1])
  nd : [a1, a2, a3, a4, a5].Nodup
  ne : e0 ≠ e1
  h0 : ∀ x, x ∈ [p, a1, a2, a3, a4, a5, e0, e1] → H0 x = none
  ob : ∀ z, z ∈ zs → SX K H z
  far : ∀ z, z ∈ zs → ∀ x, x ∈ [z.w, z.m, z.pr] → x ∉ [p, a1, a2, a3, a4, a5]
  fd : ∀ z, z ∈ zs → H0 z.d = none ∧ z.d ≠ e0 ∧ z.d ≠ e1
theorem IN.k0 (S : IN K H0 H p a1 a2 a3 a4 a5 e0 e1 r1 r2 r4 r5 zs) (k : Kp [] H H') : IN K H0 H' p a1 a2 a3 a4 a5 e0 e1 r1 r2 r4 r5 zs :=
  ⟨S.fr.trans k, S.bx.k0 k, k.g0 S.l1, k.g0 S.l2, k.g0 S.l4, k.g0 S.l5, k.g0 S.l3, S.nd, S.ne, S.h0, fun z hz => (S.ob z hz).k0 k, S.far, S.fd⟩
theorem IN.kBx (S : IN K H0 H p a1 a2 a3 a4 a5 e0 e1 r1 r2 r4 r5 zs) (B' : BoxB H' p) (k : Kp [p] H H') : IN K H0 H' p a1 a2 a3 a4 a5 e0 e1 r1 r2 r4 r5 zs :=
  ⟨S.fr.via1 k (S.h0 _ (by simp)), B', k.g1 (S.bx.offR S.l1) S.l1, k.g1 (S.bx.offR S.l2) S.l2, k.g1 (S.bx.offR S.l4) S.l4, k.g1 (S.bx.offR S.l5) S.l5, k.g1 (S.bx.offR (r := [e0, e1]) S.l3) S.l3, S.nd, S.ne, S.h0, fun z hz => (S.ob z hz).kBx S.bx k fun x hx e => S.far z hz x hx (by rw [e]; simp), S.far, S.fd⟩

theorem IN.app1 (S : IN K H0 H p a1 a2 a3 a4 a5 e0 e1 r1 r2 r4 r5 zs) (x : Addr) : IN K H0 (upd H a1 (.lst ((r1.map V.ref) ++ [.ref x]))) p a1 a2 a3 a4 a5 e0 e1 (r1 ++ [x]) r2 r4 r5 zs := by
  have k : Kp [a1] H (upd H a1 (.lst ((r1.map V.ref) ++ [.ref x]))) := Kp.refl.wr (by simp)
  have n := S.nd
  simp only [List.nodup_cons, List.mem_cons, List.not_mem_nil, or_false, not_or, List.nodup_nil, and_true] at n
  obtain ⟨⟨n12, n13, n14, n15⟩, ⟨n23, n24, n25⟩, ⟨n34, n35⟩, n45, _⟩ := n
  have q : a1 ∈ [p, a1, a2, a3, a4, a5] := by simp
  refine ⟨S.fr.mine (S.h0 _ (by simp)), S.bx.ofL (Ne.symm (S.bx.offR S.l1)), (by rw [upd_same, List.map_append]; rfl), hu_ne (Ne.symm n12) S.l2, hu_ne (Ne.symm n14) S.l4, hu_ne (Ne.symm n15) S.l5, hu_ne (Ne.symm n13) S.l3, S.nd, S.ne, S.h0, fun z hz => (S.ob z hz).wl S.l1 k (fun y hy e => S.far z hz y hy (e ▸ q)), S.far, S.fd⟩

theorem IN.app2 (S : IN K H0 H p a1 a2 a3 a4 a5 e0 e1 r1 r2 r4 r5 zs) (x : Addr) : IN K H0 (upd H a2 (.lst ((r2.map V.ref) ++ [.ref x]))) p a1 a2 a3 a4 a5 e0 e1 r1 (r2 ++ [x]) r4 r5 zs := by
  have k : Kp [a2] H (upd H a2 (.lst ((r2.map V.ref) ++ [.ref x]))) := Kp.refl.wr (by simp)
  have n := S.nd
  simp only [List.nodup_cons, List.mem_cons, List.not_mem_nil, or_false, not_or, List.nodup_nil, and_true] at n
  obtain ⟨⟨n12, n13, n14, n15⟩, ⟨n23, n24, n25⟩, ⟨n34, n35⟩, n45, _⟩ := n
  have q : a2 ∈ [p, a1, a2, a3, a4, a5] := by simp
  refine ⟨S.fr.mine (S.h0 _ (by simp)), S.bx.ofL (Ne.symm (S.bx.offR S.l2)), hu_ne n12 S.l1, (by rw [upd_same, List.map_append]; rfl), hu_ne (Ne.symm n24) S.l4, hu_ne (Ne.symm n25) S.l5, hu_ne (Ne.symm n23) S.l3, S.nd, S.ne, S.h0, fun z hz => (S.ob z hz).wl S.l2 k (fun y hy e => S.far z hz y hy (e ▸ q)), S.far, S.fd⟩

theorem IN.app4 (S : IN K H0 H p a1 a2 a3 a4 a5 e0 e1 r1 r2 r4 r5 zs) (x : Addr) : IN K H0 (upd H a4 (.lst ((r4.map V.ref) ++ [.ref x]))) p a1 a2 a3 a4 a5 e0 e1 r1 r2 (r4 ++ [x]) r5 zs := by
  have k : Kp [a4] H (upd H a4 (.lst ((r4.map V.ref) ++ [.ref x]))) := Kp.refl.wr (by simp)
  have n := S.nd
  simp only [List.nodup_cons, List.mem_cons, List.not_mem_nil, or_false, not_or, List.nodup_nil, and_true] at n
  obtain ⟨⟨n12, n13, n14, n15⟩, ⟨n23, n24, n25⟩, ⟨n34, n35⟩, n45, _⟩ := n
  have q : a4 ∈ [p, a1, a2, a3, a4, a5] := by simp
  refine ⟨S.fr.mine (S.h0 _ (by simp)), S.bx.ofL (Ne.symm (S.bx.offR S.l4)), hu_ne n14 S.l1, hu_ne n24 S.l2, (by rw [upd_same, List.map_append]; rfl), hu_ne (Ne.symm n45) S.l5, hu_ne n34 S.l3, S.nd, S.ne, S.h0, fun z hz => (S.ob z hz).wl S.l4 k (fun y hy e => S.far z hz y hy (e ▸ q)), S.far, S.fd⟩

theorem IN.app5 (S : IN K H0 H p a1 a2 a3 a4 a5 e0 e1 r1 r2 r4 r5 zs) (x : Addr) : IN K H0 (upd H a5 (.lst ((r5.map V.ref) ++ [.ref x]))) p a1 a2 a3 a4 a5 e0 e1 r1 r2 r4 (r5 ++ [x]) zs := by
  have k : Kp [a5] H (upd H a5 (.lst ((r5.map V.ref) ++ [.ref x]))) := Kp.refl.wr (by simp)
  have n := S.nd
  simp only [List.nodup_cons, List.mem_cons, List.not_mem_nil, or_false, not_or, List.nodup_nil, and_true] at n
  obtain ⟨⟨n12, n13, n14, n15⟩, ⟨n23, n24, n25⟩, ⟨n34, n35⟩, n45, _⟩ := n
  have q : a5 ∈ [p, a1, a2, a3, a4, a5] := by simp
  refine ⟨S.fr.mine (S.h0 _ (by simp)), S.bx.ofL (Ne.symm (S.bx.offR S.l5)), hu_ne n15 S.l1, hu_ne n25 S.l2, hu_ne n45 S.l4, (by rw [upd_same, List.map_append]; rfl), hu_ne n35 S.l3, S.nd, S.ne, S.h0, fun z hz => (S.ob z hz).wl S.l5 k (fun y hy e => S.far z hz y hy (e ▸ q)), S.far, S.fd⟩

theorem IN.away (S : IN K H0 H p a1 a2 a3 a4 a5 e0 e1 r1 r2 r4 r5 zs) {x : Addr} (n : H x = none) : x ∉ [p, a1, a2, a3, a4, a5] := by
  have b := S.bx.ne n
  have c1 := ne_of_none S.l1 n
  have c2 := ne_of_none S.l2 n
  have c3 := ne_of_none S.l3 n
  have c4 := ne_of_none S.l4 n
  have c5 := ne_of_none S.l5 n
  simp [Ne.symm, *]
/-- behind the filling of a new side -/
theorem IN.fill (S : IN K H0 H p a1 a2 a3 a4 a5 e0 e1 r1 r2 r4 r5 zs) {d e : Addr} {kv kv2 : List (Key × V)} (B' : BoxB H' p) (hd : H d = some (.dK kv)) (he : H e = some (.dK kv2)) (k : Kp [p, d, e] H H') (f0 : H0 d = none) (g0 : H0 e = none) (old : ∀ z, z ∈ zs → z.d ≠ d ∧ z.d ≠ e ∧ z.e ≠ d ∧ z.e ≠ e) : IN K H0 H' p a1 a2 a3 a4 a5 e0 e1 r1 r2 r4 r5 zs := by
  have w : Wr H [p, d, e] := fun q hq => by
    simp only [List.mem_cons, List.not_mem_nil, or_false] at hq
    rcases hq with rfl | rfl | rfl
    · exact .inr (.inl S.bx)
    · exact .inl ⟨_, hd⟩
    · exact .inl ⟨_, he⟩
  have g : ∀ {a : Addr} {r : List Addr}, H a = some (.lst (r.map V.ref)) → H' a = some (.lst (r.map V.ref)) := fun {a r} h => k _ _ h (noqL S.bx hd he h)
  refine ⟨S.fr.via k fun q hq => ?_, B', g S.l1, g S.l2, g S.l4, g S.l5, g (r := [e0, e1]) S.l3, S.nd, S.ne, S.h0, fun z hz => ?_, S.far, S.fd⟩
  · simp only [List.mem_cons, List.not_mem_nil, or_false] at hq
    rcases hq with rfl | rfl | rfl
    · exact .inr (S.h0 _ (by simp))
    · exact .inr f0
    · exact .inr g0
  · have Z := S.ob z hz
    obtain ⟨o1, o2, o3, o4⟩ := old z hz
    obtain ⟨kv, h1⟩ := Z.dd
    obtain ⟨kv2, h2⟩ := Z.ee
    refine Z.kp k w (by simp [S.bx.nd h1, o1, o2]) (by simp [S.bx.nd h2, o3, o4]) fun x hx => ?_
    have fp : x ≠ p := fun e => S.far z hz x hx (by rw [e]; simp)
    have hl : ∃ ns : List Int, H x = some (.lst (ns.map V.int)) := by
      simp only [List.mem_cons, List.not_mem_nil, or_false] at hx
      rcases hx with rfl | rfl | rfl
      · exact ⟨_, Z.w⟩
      · exact ⟨_, Z.m⟩
      · exact ⟨_, Z.pr⟩
    obtain ⟨ns, hl⟩ := hl
    have f1 := ne_of hl hd (by intro z; cases z)
    have f2 := ne_of hl he (by intro z; cases z)
    simp [fp, f1, f2]
/-- the two sides -/
structure SL (K : PySem.W.Frag) (H0 H : Hp) (a1 a2 a3 a4 a5 : Addr) (zs : List Sx) : Prop where
  fr : Kp [] H0 H
  l1 : H a1 = some (.lst (zs.map fun z => V.ref z.w))
  l2 : H a2 = some (.lst (zs.map fun z => V.ref z.nw))
  l3 : H a3 = some (.lst (zs.map fun z => V.ref z.e))
  l4 : H a4 = some (.lst (zs.map fun z => V.ref z.m))
  l5 : H a5 = some (.lst (zs.map fun z => V.ref z.pr))
  ob : ∀ z, z ∈ zs → SX K H z
  n2 : zs.length = 2
  h0 : ∀ z, z ∈ zs → H0 z.d = none ∧ H0 z.e = none
  nd : ∀ (i j : Nat) (a b : Sx), zs[i]? = some a → zs[j]? = some b → i ≠ j → a.d ≠ b.d ∧ a.e ≠ b.e ∧ a.d ≠ b.e ∧ a.e ≠ b.d
theorem SL.k0 (S : SL K H0 H a1 a2 a3 a4 a5 zs) (k : Kp [] H H') : SL K H0 H' a1 a2 a3 a4 a5 zs :=
  ⟨S.fr.trans k, k.g0 S.l1, k.g0 S.l2, k.g0 S.l3, k.g0 S.l4, k.g0 S.l5, fun z hz => (S.ob z hz).k0 k, S.n2, S.h0, S.nd⟩
/-- x differs from what lists of ints the sides hold -/
def offS (zs : List Sx) (x : Addr) : Prop := ∀ z, z ∈ zs → ∀ y, y ∈ [z.w, z.m, z.pr] → y ≠ x
theorem SL.off (S : SL K H0 H a1 a2 a3 a4 a5 zs) {x : Addr} (n : H x = none) : offS zs x := fun z hz y hy => by
  have Z := S.ob z hz
  simp only [List.mem_cons, List.not_mem_nil, or_false] at hy
  rcases hy with rfl | rfl | rfl
  · exact ne_of_none Z.w n
  · exact ne_of_none Z.m n
  · exact ne_of_none Z.pr n
theorem SL.put (S : SL K H0 H a1 a2 a3 a4 a5 zs) {i : Nat} {z : Sx} {N : NN} (hz : zs[i]? = some z) (X : BoxB H p) (hp : H0 p = none) (o : offS zs p) (k : Kp [p, z.d, z.e] H H') (N' : SN K H' z.nw z.s z.d z.e z.st N) : SL K H0 H' a1 a2 a3 a4 a5 zs := by
  have zm := List.mem_of_getElem? hz
  have Z := S.ob z zm
  obtain ⟨kv, hd⟩ := Z.dd
  obtain ⟨kv2, he⟩ := Z.ee
  have w : Wr H [p, z.d, z.e] := fun q hq => by
    simp only [List.mem_cons, List.not_mem_nil, or_false] at hq
    rcases hq with rfl | rfl | rfl
    · exact .inr (.inl X)
    · exact .inl ⟨_, hd⟩
    · exact .inl ⟨_, he⟩
  have g : ∀ {a : Addr} {f : Sx → Addr}, H a = some (.lst (zs.map fun z => V.ref (f z))) → H' a = some (.lst (zs.map fun z => V.ref (f z))) := fun {a f} h => k _ _ h (noqL (r := zs.map f) X hd he (by rw [h, List.map_map]; rfl))
  have il : ∀ u, u ∈ zs → ∀ x, x ∈ [u.w, u.m, u.pr] → x ∉ [p, z.d, z.e] := fun u hu x hx => by
    have U := S.ob u hu
    have hl : ∃ ns : List Int, H x = some (.lst (ns.map V.int)) := by
      simp only [List.mem_cons, List.not_mem_nil, or_false] at hx
      rcases hx with rfl | rfl | rfl
      · exact ⟨_, U.w⟩
      · exact ⟨_, U.m⟩
      · exact ⟨_, U.pr⟩
    obtain ⟨ns, hl⟩ := hl
    have f0 := o u hu x hx
    have f1 := ne_of hl hd (by intro z; cases z)
    have f2 := ne_of hl he (by intro z; cases z)
    simp [f0, f1, f2]
  obtain ⟨d0, e0⟩ := S.h0 z zm
  refine ⟨S.fr.via k fun q hq => ?_, g S.l1, g S.l2, g S.l3, g S.l4, g S.l5, fun u hu => ?_, S.n2, S.h0, S.nd⟩
  · simp only [List.mem_cons, List.not_mem_nil, or_false] at hq
    rcases hq with rfl | rfl | rfl
    · exact .inr hp
    · exact .inr d0
    · exact .inr e0
  · obtain ⟨j, hj⟩ := List.mem_iff_getElem?.mp hu
    have U := S.ob u hu
    by_cases c : j = i
    · subst c
      rw [hz] at hj
      obtain rfl := Option.some.inj hj
      exact ⟨⟨N, N'⟩, k _ _ U.w (il z hu _ (by simp)), k _ _ U.m (il z hu _ (by simp)), U.mok, k _ _ U.pr (il z hu _ (by simp))⟩
    · obtain ⟨n1, n2, n3, n4⟩ := S.nd j i u z hj hz c
      obtain ⟨kv3, h1⟩ := U.dd
      obtain ⟨kv4, h2⟩ := U.ee
      exact U.kp k w (by simp [X.nd h1, n1, n3]) (by simp [X.nd h2, n2, n4]) (il u hu)
theorem SL.kBx (S : SL K H0 H a1 a2 a3 a4 a5 zs) (X : BoxB H p) (hp : H0 p = none) (o : offS zs p) (k : Kp [p] H H') : SL K H0 H' a1 a2 a3 a4 a5 zs := by
  have g : ∀ {a : Addr} {f : Sx → Addr}, H a = some (.lst (zs.map fun z => V.ref (f z))) → H' a = some (.lst (zs.map fun z => V.ref (f z))) := fun {a f} h => k.g1 (X.offR (r := zs.map f) (by rw [h, List.map_map]; rfl)) h
  exact ⟨S.fr.via1 k hp, g S.l1, g S.l2, g S.l3, g S.l4, g S.l5, fun z hz => (S.ob z hz).kBx X k (o z hz), S.n2, S.h0, S.nd⟩
theorem SL.pick (S : SL K H0 H a1 a2 a3 a4 a5 zs) {i : Int} (h0 : 0 ≤ i) (h1 : i < 2) : ∃ z, zs[i.toNat]? = some z ∧ ∀ f : Sx → Addr, atI (zs.map fun z => V.ref (f z)) i = some (.ref (f z)) := by
  obtain ⟨j, rfl⟩ := Int.eq_ofNat_of_zero_le h0
  have hj : j < zs.length := by rw [S.n2]; omega
  exact ⟨zs[j], by rw [Int.toNat_natCast]; exact List.getElem?_eq_getElem hj, fun f => atI_nat (by rw [List.getElem?_map, List.getElem?_eq_getElem hj]; rfl)⟩
end
theorem EN.nil {mk : List V → HO} {H : Hp} {d : Addr} (h : H d = some (.dK [])) : EN mk H d [] := ⟨h, fun p hp => by cases hp⟩
theorem SN.new {K : PySem.W.Frag} {H : Hp} {nw s d e dx : Addr} {st : Stg} (h : H nw = some (.ins (ga K "News") dx [(("_setting" : Str), .ref s), (("_hot" : Str), .ref d)])) (S : SetAt K H s st) (hd : H d = some (.dK [])) (he : H e = some (.dK [])) (ne : d ≠ e) : SN K H nw s d e st fun _ => none :=
  ⟨⟨dx, h⟩, S, ⟨[], EN.nil hd, List.nodup_nil, (fun p hp => by cases hp), rfl⟩, ⟨[], EN.nil he, List.nodup_nil, (fun p hp => by cases hp), rfl⟩, ne⟩


abbrev hk : PySem.W.Hook := hookQ PySem.Challenge.pw_livingroll_k13_told_until_cycle 6 fa fn gs es ys tabs tf ex
def ob (s : PySem.W.SharedT) : AlQ := obsQ PySem.Challenge.pw_livingroll_k13_told_until_cycle 6 fa fn gs es ys tabs tf ex (HandSHeadRun.getT s)
theorem ob_eq (s : PySem.W.SharedT) : ob s = hk.obs s.abs := obsQ_eq (HandSHeadRun.getT_eq s)
def names : List Str := (["_wall", "News", "GroupError", "InvalidSetting", "whole", "Setting", "_law_box", "_law_take", "_law_marks", "_law_rank", "_law_ranked", "_law_life", "_law_worth", "_law_menu", "_law_seat", "_law_setting", "_law_whole", "_law_same", "_law_same_rows", "_law_fresh", "_law_near", "_law_says", "_law_hot", "_law_counted", "_law_pick", "_law_tell", "_law_list", "_law_picks", "_law_to_end", "_law_note"] : List Str) ++ (["_law_deed", "_law_counts", "_law_same_counts", "_law_look", "_law_drained", "_law_filled", "_law_probes"] : List Str)
theorem run (w : World) : HandSHeadRun.RunEq R (PySem.W.view R.prog [41]) hk ob 6000 names w := by
  intro os
  kernel_rfl

local macro_rules | `(tactic| wtm_at "look") => `(tactic| fail "no rule")
local macro_rules | `(tactic| wtm_at "ne") => `(tactic| first
  | with_reducible assumption
  | ((with_reducible refine' Ne.symm ?h); (case h => with_reducible assumption))
  | ((with_reducible refine' ne_fresh ?n); (case n => with_reducible assumption))
  | ((with_reducible refine' Ne.symm (ne_fresh ?n)); (case n => with_reducible assumption))
  | ((refine' ne_of_none ?h ?n); (case n => with_reducible assumption); (case h => wtm_at "hp"))
  | ((refine' Ne.symm (ne_of_none ?h ?n)); (case n => with_reducible assumption); (case h => wtm_at "hp"))
  | fail "no rule")
local macro_rules | `(tactic| wtm_at "hp") => `(tactic| first
  | with_reducible assumption
  | with_reducible exact upd_same
  | ((with_reducible refine' upd_is ?e); (case e => exact rfl))
  | ((with_reducible refine' hu_ne ?n ?e); (case n => wtm_at "ne"); (case e => wtm_at "hp"))
  | ((with_reducible refine' Kp.g0 ?k ?e); (case k => with_reducible assumption); (case e => wtm_at "hp"))
  | ((with_reducible refine' Kp.g1 ?k ?n ?e); (case k => with_reducible assumption); (case n => wtm_at "ne"); (case e => wtm_at "hp"))
  | ((with_reducible refine' Kp.g2 ?k ?n ?m ?e); (case k => with_reducible assumption); (case n => wtm_at "ne"); (case m => wtm_at "ne"); (case e => wtm_at "hp"))
  | ((with_reducible refine' Kp.g3 ?k ?n ?m ?l ?e); (case k => with_reducible assumption); (case n => wtm_at "ne"); (case m => wtm_at "ne"); (case l => wtm_at "ne"); (case e => wtm_at "hp"))
  | fail "no rule")
local macro_rules | `(tactic| wtm_at "sq") => `(tactic| first
  | with_reducible assumption
  | wtm_at "sqx"
  | ((refine' SqL.of ?e); (case e => wtm_at "hp"))
  | ((refine' SqT.of ?e); (case e => wtm_at "hp"))
  | fail "no rule")
local macro_rules | `(tactic| wtm_at "at") => `(tactic| first
  | exact rfl
  | assumption
  | ((refine' atI_ints ?a ?b); (case a => omega); (case b => omega))
  | fail "no rule")
local macro_rules | `(tactic| wtm_at "cc") => `(tactic| first
  | with_reducible assumption
  | omega
  | exact rfl
  | decide
  | ((refine' ⟨?a, ?b⟩); (case a => omega); (case b => omega))
  | ((refine' Or.inr ⟨?a, ?b⟩); (case a => omega); (case b => omega))
  | ((refine' Or.inl ⟨?a, ?b⟩); (case a => omega); (case b => omega))
  | ((refine' ⟨?a, ?b, ?c⟩); (case a => first | omega | decide | fail "num"); (case b => first | omega | decide | fail "num"); (case c => first | omega | decide | fail "num"))
  | fail "no rule")
local macro_rules | `(tactic| wtm_at "sz") => `(tactic| first
  | assumption
  | ((refine' szlt ?h); (case h => (simp; omega)))
  | ((refine' szlt ?h); (case h => omega))
  | ((refine' szlt ?h); (case h => exact Nat.le_of_ble_eq_true rfl))
  | ((refine' sz1000 ?h); (case h => (simp; done)))
  | ((refine' sz1000 ?h); (case h => omega))
  | fail "no rule")
local macro_rules | `(tactic| wtm_at "dg") => `(tactic| first
  | ((refine' dg_is ?a ?b); (case a => wtm_at "hp"); (case b => wtm_at "hp"))
  | ((refine' dg_i ?a); (case a => wtm_at "hp"))
  | ((refine' dg_s ?a); (case a => wtm_at "hp"))
  | fail "no rule")
local macro_rules | `(tactic| wtm_at "dgv") => `(tactic| first
  | ((refine' dg_sv ?a ?b); (case a => wtm_at "hp"); (case b => first | assumption | wtm_at "look" | exact rfl | fail "look"))
  | ((refine' dg_iv ?a ?b); (case a => wtm_at "hp"); (case b => first | assumption | wtm_at "look" | exact rfl | fail "look"))
  | fail "no rule")
local macro_rules | `(tactic| wtm_at "dp") => `(tactic| first
  | ((refine' dp_is ?a ?b ?c); (case a => wtm_at "hp"); (case b => wtm_at "hp"); (case c => wtm_at "sz"))
  | ((refine' dp_i ?a ?c); (case a => wtm_at "hp"); (case c => wtm_at "sz"))
  | ((refine' dp_s ?a ?c); (case a => wtm_at "hp"); (case c => wtm_at "sz"))
  | fail "no rule")
local macro_rules | `(tactic| wtm_at "rd1") => `(tactic| first
  | with_reducible refine' rd_seq ?_
  | with_reducible refine' rd_asg ?_
  | ((with_reducible refine' rd_var ?e ?_); (case e => exact rfl))
  | with_reducible refine' rd_c ?_
  | with_reducible refine' rd_op ?_
  | with_reducible refine' rd_gname ?_
  | with_reducible refine' rd_CB ?_
  | with_reducible refine' rd_cons ?_
  | with_reducible refine' rd_nil ?_
  | with_reducible refine' rd_ret ?_
  | with_reducible refine' rd_drop ?_
  | with_reducible refine' rd_ifS ?_
  | with_reducible refine' rd_test ?_
  | with_reducible refine' rd_exb ?_
  | with_reducible refine' rd_call ?_
  | with_reducible refine' rd_I0 ?_
  | ((with_reducible refine' rd_I ?c ?_); (case c => wtm_at "cc"))
  | ((with_reducible refine' rd_ixL ?h ?a ?_); (case h => wtm_at "sq"); (case a => wtm_at "at"))
  | ((with_reducible refine' rd_ixT ?h ?a ?_); (case h => wtm_at "sq"); (case a => wtm_at "at"))
  | with_reducible refine' rd_int1 ?_
  | with_reducible refine' rd_abs ?_
  | ((with_reducible refine' rd_lenI ?h ?_); (case h => wtm_at "sq"))
  | ((with_reducible refine' rd_lenL ?h ?_); (case h => wtm_at "sq"))
  | ((with_reducible refine' rd_lenT ?h ?_); (case h => wtm_at "sq"))
  | with_reducible refine' rd_eqI ?_
  | with_reducible refine' rd_neI ?_
  | with_reducible refine' rd_eqS ?_
  | with_reducible refine' rd_neS ?_
  | with_reducible refine' rd_eqB ?_
  | with_reducible refine' rd_neB ?_
  | with_reducible refine' rd_and ?_
  | with_reducible refine' rd_or ?_
  | with_reducible refine' rd_not ?_
  | with_reducible refine' rd_tB ?_
  | with_reducible refine' rd_gsub ?_
  | ((with_reducible refine' rd_setL ?h ?j ?_); (case h => wtm_at "hp"); (case j => exact rfl))
  | with_reducible refine' rd_next ?_
  | with_reducible refine' rd_un ?_
  | with_reducible refine' rd_U ?_
  | with_reducible refine' rd_tup ?_
  | with_reducible refine' rd_lst ?_
  | with_reducible refine' rd_bm ?_
  | with_reducible refine' rd_bm0 ?_
  | with_reducible refine' rd_meth ?_
  | with_reducible refine' rd_make ?_
  | with_reducible refine' rd_iTup ?_
  | ((with_reducible refine' rd_iTupX ?h ?_); (case h => wtm_at "sq"))
  | with_reducible refine' rd_for ?_
  | with_reducible refine' rd_iList ?_
  | ((with_reducible refine' rd_iListX ?h ?_); (case h => wtm_at "sq"))
  | with_reducible refine' rd_iRng1 ?_
  | ((with_reducible refine' rd_iRng1X ?h1 ?h2 ?_); (case h1 => wtm_at "cc"); (case h2 => wtm_at "cc"))
  | ((with_reducible refine' rd_iRng2X ?h1 ?_); (case h1 => ((refine' ⟨?a, ?b, ?c, ?d⟩); (case a => omega); (case b => omega); (case c => omega); (case d => omega))))
  | with_reducible refine' rd_iRng2 ?_
  | with_reducible refine' rd_lc ?_
  | with_reducible refine' rd_yes ?_
  | with_reducible refine' rd_andV ?_
  | with_reducible refine' rd_orV ?_
  | with_reducible refine' rd_notV ?_
  | with_reducible refine' rd_ifE ?_
  | with_reducible refine' rd_isN ?_
  | with_reducible refine' rd_notN ?_
  | with_reducible refine' rd_min2 ?_
  | with_reducible refine' rd_max2 ?_
  | with_reducible refine' rd_retN ?_
  | with_reducible refine' rd_brk ?_
  | with_reducible refine' rd_cont ?_
  | with_reducible refine' rd_tfld ?_
  | ((with_reducible refine' rd_fldX ?h ?c ?n ?l ?_); (case h => wtm_at "hp"); (case c => wtm_at "cls"); (case n => wtm_at "noat"); (case l => exact rfl))
  | with_reducible refine' rd_sfld ?_
  | ((with_reducible refine' rd_sfldX ?h ?c ?n ?l ?_); (case h => wtm_at "hp"); (case c => wtm_at "cls"); (case n => wtm_at "noat"); (case l => first | decide | exact Nat.le_of_ble_eq_true rfl | fail "len"))
  | with_reducible refine' rd_tcon ?_
  | ((with_reducible refine' rd_conX ?h ?c ?n ?l ?_); (case h => wtm_at "hp"); (case c => wtm_at "cls"); (case n => wtm_at "con"); (case l => exact rfl))
  | ((with_reducible refine' rd_methX ?h ?l ?_); (case h => wtm_at "hp"); (case l => exact rfl))
  | with_reducible refine' rd_isi_ii ?_
  | with_reducible refine' rd_isi_ib ?_
  | with_reducible refine' rd_isi_bb ?_
  | with_reducible refine' rd_isi_bi ?_
  | with_reducible refine' rd_isi_ss ?_
  | ((with_reducible refine' rd_isi_ll ?h ?_); (case h => wtm_at "hp"))
  | ((with_reducible refine' rd_isi_tt ?h ?_); (case h => wtm_at "hp"))
  | with_reducible refine' iteT ?_
  | with_reducible refine' iteF ?_
  | with_reducible refine' ite_nt ?_
  | with_reducible refine' ite_nf ?_
  | with_reducible refine' ite_in ?_
  | with_reducible refine' ite_rn ?_
  | with_reducible refine' ite_sn ?_
  | with_reducible refine' ite_bn ?_
  | with_reducible refine' ite_nn ?_
  | with_reducible refine' ite_xin ?_
  | with_reducible refine' ite_xrn ?_
  | with_reducible refine' ite_xnn ?_
  | with_reducible refine' rd_dget2 ?_
  | ((with_reducible refine' rd_isdX ?h ?_); (case h => first | ((refine' isD_T ?e); (case e => wtm_at "hp")) | ((refine' isD_K ?e); (case e => wtm_at "hp"))))
  | ((with_reducible refine' rd_dgX ?h ?_); (case h => wtm_at "dg"))
  | with_reducible refine' rd_sdput ?_
  | ((with_reducible refine' rd_dpX ?h ?_); (case h => wtm_at "dp"))
  | ((with_reducible refine' ty_l ?h ?_); (case h => wtm_at "sq"))
  | ((with_reducible refine' ty_d ?h ?_); (case h => wtm_at "hp"))
  | ((with_reducible refine' ty_dK ?h ?_); (case h => wtm_at "hp"))
  | ((with_reducible refine' rd_append ?h ?l ?_); (case h => wtm_at "hp"); (case l => wtm_at "sz"))
  | with_reducible refine' rd_lstRg ?_
  | with_reducible refine' rd_rg1 ?_
  | with_reducible refine' rd_rg2 ?_
  | with_reducible refine' rd_inX ?_
  | with_reducible refine' rd_inX2 ?_
  | ((with_reducible refine' rd_listL ?h ?_); (case h => wtm_at "sq"))
  | ((with_reducible refine' rd_gtup ?h ?l ?_); (case h => wtm_at "sq"); (case l => exact rfl))
  | with_reducible refine' rd_gcons ?_
  | with_reducible refine' rd_gnil ?_
  | with_reducible refine' rd_din ?_
  | with_reducible refine' rd_dnotin ?_
  | with_reducible refine' rd_dget ?_
  | with_reducible refine' rd_dget1 ?_
  | ((with_reducible refine' rd_dinX ?h ?_); (case h => wtm_at "dg"))
  | ((with_reducible refine' rd_dgetX ?h ?_); (case h => wtm_at "dgv"))
  | with_reducible refine' rd_pnil ?_
  | with_reducible refine' rd_pcons ?_
  | with_reducible refine' rd_sl ?_
  | with_reducible refine' rd_part ?_
  | with_reducible refine' rd_nopart ?_
  | ((with_reducible refine' rd_slL ?h ?_); (case h => wtm_at "sq"))
  | ((with_reducible refine' rd_clear ?h ?_); (case h => wtm_at "hp"))
  | ((with_reducible refine' rd_aug ?e ?_); (case e => exact rfl))
  | with_reducible refine' rd_ipI ?_
  | ((with_reducible refine' rd_inI ?h ?_); (case h => wtm_at "sq"))
  | ((with_reducible refine' rd_notInI ?h ?_); (case h => wtm_at "sq"))
  | ((with_reducible refine' rd_lenD ?h ?_); (case h => wtm_at "hp"))
  | with_reducible refine' rd_iEnum ?_
  | ((with_reducible refine' rd_iEnumX ?h ?_); (case h => wtm_at "sq"))
  | ((with_reducible refine' rd_eqLI ?h1 ?h2 ?_); (case h1 => wtm_at "sq"); (case h2 => wtm_at "sq"))
  | ((with_reducible refine' rd_neLI ?h1 ?h2 ?_); (case h1 => wtm_at "sq"); (case h2 => wtm_at "sq"))
  | fail "no rule")
local macro_rules | `(tactic| wtm_at "rd") => `(tactic| repeat wtm_at "rd1")
local macro_rules | `(tactic| wtm_at "hn") => `(tactic| first
  | with_reducible assumption
  | ((with_reducible refine' hn_ne ?n ?e); (case n => wtm_at "ne"); (case e => wtm_at "hn"))
  | ((refine' Kp.back ?k ?e ?n); (case k => with_reducible assumption); (case e => with_reducible assumption); (case n => first | with_reducible assumption | (simp; done) | fail "mem"))
  | fail "no rule")
local macro_rules | `(tactic| wtm_at "kp") => `(tactic| first
  | exact Kp.refl
  | with_reducible assumption
  | ((with_reducible refine' Kp.of0 ?k); (case k => with_reducible assumption))
  | ((with_reducible refine' Kp.wr ?a ?h); (case h => (simp; done)); (case a => wtm_at "kp"))
  | ((with_reducible refine' Kp.nw ?a ?h); (case h => wtm_at "hn"); (case a => wtm_at "kp"))
  | ((with_reducible refine' Kp.mine ?a ?h); (case h => wtm_at "hn"); (case a => wtm_at "kp"))
  | ((with_reducible refine' Kp.via1 ?a ?b ?n); (case b => with_reducible assumption); (case n => wtm_at "hn"); (case a => wtm_at "kp"))
  | ((with_reducible refine' Kp.trans ?a ?b); (case b => first | with_reducible assumption | ((with_reducible refine' Kp.of0 ?k); (case k => with_reducible assumption)) | fail "kp"); (case a => wtm_at "kp"))
  | fail "no rule")
local macro_rules | `(tactic| wtm_at "rd1") => `(tactic| first
  | with_reducible refine' rd_prop ?_
  | ((with_reducible refine' rd_propX ?h ?_); (case h => wtm_at "hp"))
  | with_reducible refine' rd_revL ?_
  | ((with_reducible refine' rd_revLX ?h ?_); (case h => wtm_at "sq"))
  | with_reducible refine' rd_makeK ?_
  | with_reducible refine' rd_sortKey ?_
  | with_reducible refine' rd_sfldaug ?_
  | ((with_reducible refine' rd_sfldaugX ?h ?c ?n ?l ?_); (case h => wtm_at "hp"); (case c => wtm_at "cls"); (case n => wtm_at "noat"); (case l => exact rfl))
  | ((with_reducible refine' rd_insX ?h ?l ?_); (case h => wtm_at "hp"); (case l => first | decide | exact Nat.le_of_ble_eq_true rfl | fail "len"))
  | with_reducible refine' rd_addI ?_
  | with_reducible refine' rd_subI ?_
  | with_reducible refine' rd_disp ?_
  | with_reducible refine' rd_dc ?_
  | ((with_reducible refine' rd_dictD ?h ?_); (case h => wtm_at "hp"))
  | with_reducible refine' rd_minKey ?_
  | fail "no rule")
local macro_rules | `(tactic| wtm_at "hp") => `(tactic| first
  | ((with_reducible refine' Kt.g0 ?k ?n ?e); (case k => with_reducible assumption); (case n => (intro _ z; cases z)); (case e => wtm_at "hp"))
  | ((with_reducible refine' Kt.g1 ?k ?n ?m ?e); (case k => with_reducible assumption); (case n => (intro _ z; cases z)); (case m => wtm_at "ne"); (case e => wtm_at "hp"))
  | fail "no rule")
local macro_rules | `(tactic| wtm_at "cc") => `(tactic| first
  | ((refine' wide60 ?a ?b); (case a => omega); (case b => omega))
  | fail "no rule")
local macro_rules | `(tactic| wtm_at "kt") => `(tactic| first
  | with_reducible assumption
  | ((with_reducible refine' Kt.of0 ?k); (case k => with_reducible assumption))
  | ((with_reducible refine' Kt.wr ?a ?h ?e ?w); (case h => (simp; done)); (case e => wtm_at "hp"); (case w => exact trivial); (case a => wtm_at "kt"))
  | ((with_reducible refine' Kt.nw ?a ?e); (case e => wtm_at "hn"); (case a => wtm_at "kt"))
  | fail "no rule")
local macro_rules | `(tactic| wtm_at "dgv") => `(tactic| first
  | ((refine' dg_sl ?a ?b); (case a => wtm_at "hp"); (case b => exact rfl))
  | fail "no rule")
local macro_rules | `(tactic| wtm_at "dg") => `(tactic| first
  | ((refine' dg_ii ?a ?b); (case a => wtm_at "hp"); (case b => wtm_at "hp"))
  | fail "no rule")
local macro_rules | `(tactic| wtm_at "dp") => `(tactic| first
  | ((refine' dp_ii ?a ?b ?c); (case a => wtm_at "hp"); (case b => wtm_at "hp"); (case c => wtm_at "sz"))
  | fail "no rule")
local macro_rules | `(tactic| wtm_at "errS") => `(tactic| fail "no rule")
local macro_rules | `(tactic| wtm_at "errN") => `(tactic| fail "no rule")
local macro_rules | `(tactic| wtm_at "rd1") => `(tactic| first
  | with_reducible refine' rd_raiseE ?_
  | with_reducible refine' rd_isNB ?_
  | with_reducible refine' rd_isB ?_
  | with_reducible refine' rd_raiseX ?_
  | with_reducible refine' rd_calS ?_
  | with_reducible refine' rd_metS ?_
  | with_reducible refine' rd_xe ?_
  | ((with_reducible refine' rd_xeX ?s ?n ?h ?l ?_); (case s => wtm_at "errS"); (case n => wtm_at "errN"); (case h => wtm_at "hp"); (case l => exact rfl))
  | ((with_reducible refine' rd_isXv ?s ?h ?_); (case s => wtm_at "errS"); (case h => wtm_at "hp"))
  | ((with_reducible refine' rd_isXt ?s ?m ?h ?e ?_); (case s => wtm_at "errS"); (case m => decide); (case h => wtm_at "hp"); (case e => decide))
  | ((with_reducible refine' rd_isXf ?s ?m ?h ?e ?_); (case s => wtm_at "errS"); (case m => decide); (case h => wtm_at "hp"); (case e => decide))
  | fail "no rule")
local macro_rules | `(tactic| wtm_at "kd") => `(tactic| fail "no rule")
local macro_rules | `(tactic| wtm_at "rd1") => `(tactic| first
  | ((with_reducible refine' rd_lenStr ?h ?_); (case h => first | assumption | ((refine' sz1000 ?h); (case h => first | omega | exact Nat.le_of_ble_eq_true rfl | fail "len")) | fail "len"))
  | with_reducible refine' rd_inSign ?_
  | with_reducible refine' rd_iStr ?_
  | with_reducible refine' rd_iStrX ?_
  | with_reducible refine' rd_chain ?_
  | with_reducible refine' rd_iRng3 ?_
  | with_reducible refine' rd_iSeq ?_
  | ((with_reducible refine' rd_iSeqL ?h ?_); (case h => wtm_at "sq"))
  | with_reducible refine' rd_m1 ?_
  | with_reducible refine' rd_m1X ?_
  | with_reducible refine' rd_int1b ?_
  | with_reducible refine' rd_dpop2 ?_
  | ((with_reducible refine' rd_dpopI ?h ?_); (case h => wtm_at "hp"))
  | ((with_reducible refine' rd_ixKD ?h ?_); (case h => wtm_at "kd"))
  | ((with_reducible refine' rd_inTS ?h ?_); (case h => wtm_at "sq"))
  | fail "no rule")
local macro_rules | `(tactic| wtm_at "rd1") => `(tactic| first
  | ((with_reducible refine' rd_own2 ?a ?b ?_); (case a => wtm_at "hp"); (case b => wtm_at "hp"))
  | ((with_reducible refine' rd_ownNe ?a ?b ?_); (case a => wtm_at "hp"); (case b => wtm_at "hp"))
  | ((with_reducible refine' rd_lenX ?h ?_); (case h => wtm_at "hp"))
  | ((with_reducible refine' rd_opInX ?h ?_); (case h => wtm_at "hp"))
  | ((with_reducible refine' rd_opNotInX ?h ?_); (case h => wtm_at "hp"))
  | with_reducible refine' rd_tupF ?_
  | with_reducible refine' rd_bmT ?_
  | ((with_reducible refine' rd_bmTX ?h ?_); (case h => with_reducible assumption))
  | with_reducible refine' rd_listVals ?_
  | ((with_reducible refine' rd_listValsX ?h ?_); (case h => wtm_at "hp"))
  | ((with_reducible refine' rd_mulC ?a ?b ?_); (case a => omega); (case b => omega))
  | fail "no rule")
local macro_rules | `(tactic| wtm_at "sqx") => `(tactic| ((with_reducible refine' TupF.sq ?h); (case h => with_reducible assumption)))
local macro_rules | `(tactic| wtm_at "con") => `(tactic| first | exact con_MOST_BITS (by assumption) | exact con_MOST_PATIENCE (by assumption) | exact con_MOST_ROOM (by assumption) | exact con_MOST_GRACE (by assumption) | exact con_MOST_HELPERS (by assumption))

local macro_rules | `(tactic| wtm_at "sqx") => `(tactic| fail "no rule")
local macro_rules | `(tactic| wtm_at "cls") => `(tactic| first | exact cl_News (by assumption) | exact cl_Setting (by assumption))
local macro_rules | `(tactic| wtm_at "noat") => `(tactic| first | exact na_News__setting (by assumption) | exact na_News__hot (by assumption) | exact na_Setting_bits (by assumption) | exact na_Setting_patience (by assumption) | exact na_Setting_room (by assumption) | exact na_Setting_grace (by assumption) | exact na_Setting_helpers (by assumption))
local macro_rules | `(tactic| wtm_at "errS") => `(tactic| first | exact (er_InvalidSetting (by assumption)).2)
local macro_rules | `(tactic| wtm_at "errN") => `(tactic| first | exact (er_InvalidSetting (by assumption)).1.noN)
section
variable {P : Program} {w : World} {K : PySem.W.Frag} {mg : Str → Option Value} {base : Heap}
def sp_whole (K : PySem.W.Frag) : Sp := fun vs H Q E => ∃ (v lo hi : Int), vs = [.int v, .int lo, .int hi] ∧ (Q (.bl (decide (lo ≤ v) && decide (v ≤ hi))) H)
theorem us_whole {K : PySem.W.Frag} {H : Hp} {Q : VK} {E : XK} {v lo hi : Int}  (kk : Q (.bl (decide (lo ≤ v) && decide (v ≤ hi))) H) : sp_whole K [.int v, .int lo, .int hi] H Q E := ⟨_, _, _, rfl, kk⟩
theorem f_whole (T : Cx K mg) (B : Tb P w K mg base) : ∃ fd, FunD K "whole" "whole" (defArgs s_whole) (defBody s_whole) (defScope s_whole) (d_whole.dvs K) (d_whole.kws K) (fAd K d_whole.at_) fd ∧ FnOk P w K mg base CX0 1 (fAd K d_whole.at_) fd p_whole (sp_whole K) := by
  obtain ⟨fd, F⟩ := T.says.def_ 0 (d := d_whole) rfl
  refine ⟨fd, F, fnD F sc_whole (fun vs H Q E h => by
    obtain ⟨_, _, _, rfl, _⟩ := h
    rfl) fun cdv A outer s H vs Q E hr h => ?_⟩
  have hu := hu_of hr
  obtain ⟨v, lo, hi, rfl, kk⟩ := h
  refine ⟨_, (pss_cons (ps_if (PW.pt (pw_or (pt_not (pt_val (pe_callB call_isi (by rfl) (fr_isinstance T) (by decide +kernel) (pa_cons (pv 0) (pa_cons (pe_bltn (v := .ty "int") (by rfl) (fr_int T) (by decide +kernel) rfl) pa_nil))))) (pw_or1 (pt_val (pe_callB call_isi (by rfl) (fr_isinstance T) (by decide +kernel) (pa_cons (pv 0) (pa_cons (pe_bltn (v := .ty "bool") (by rfl) (fr_bool T) (by decide +kernel) rfl) pa_nil))))))) (pss_one (ps_ret pe_bl)) pss_nil) (pss_one (ps_ret (pe_and (pe_cmpR op_le (pv 1) (pv 0) (nomark _)) (pe_one (pe_or (pe_cmp (pc_isN (pv 2))) (pe_one (pe_cmpR op_le (pv 0) (pv 2) (nomark _))))))))), ?_⟩
  rw [show L2.start n_whole [.int v, .int lo, .int hi] = [some (.int v), some (.int lo), some (.int hi)] from rfl]
  try dsimp only [cxOf, Cx.nox, Cx.wish, List.map]

  wtm_at "rd"
  refine ite_d (fun h => ?_) (fun h => ?_)
  · wtm_at "rd"
    rw [decide_eq_true h, Bool.true_and] at kk
    exact kk
  · rw [decide_eq_false h, Bool.false_and] at kk
    exact kk
theorem c_whole (T : Cx K mg) (B : Tb P w K mg base) : CalX P w K mg base CX0 1 "whole" (sp_whole K) [] := by
  obtain ⟨fd, F, ok⟩ := f_whole (P := P) (w := w) (base := base) T B
  exact ⟨_, fd, p_whole, [], ok, gl_whole T, F.kp, FunD.bindsN F fun _ _ _ _ _ _ us hl => match us, hl with | [_, _, _], _ => rfl, .nil⟩
end
section
variable {P : Program} {w : World} {K : PySem.W.Frag} {mg : Str → Option Value} {base : Heap}
def sp_Setting_init (K : PySem.W.Frag) : Sp := fun vs H Q E => ∃ (p dx : Addr) (s : Stg), vs = [.ref p, .int s.bits, .int s.pat, .int s.room, .int s.grace, .int s.hel] ∧ (H p = some (.ins (ga K "Setting") dx [])) ∧ (s.Ok) ∧ (∀ H1, SetAt K H1 p s → Kp [p] H H1 → Q .non H1)
theorem us_Setting_init {K : PySem.W.Frag} {H : Hp} {Q : VK} {E : XK} {p dx : Addr} {s : Stg} (hp : H p = some (.ins (ga K "Setting") dx [])) (ok : s.Ok) (kk : ∀ H1, SetAt K H1 p s → Kp [p] H H1 → Q .non H1) : sp_Setting_init K [.ref p, .int s.bits, .int s.pat, .int s.room, .int s.grace, .int s.hel] H Q E := ⟨_, _, _, rfl, hp, ok, kk⟩
theorem f_Setting_init (T : Cx K mg) (B : Tb P w K mg base) : ∃ fd, FunD K "__init__" "Setting.__init__" (defArgs s_Setting_init) (defBody s_Setting_init) (defScope s_Setting_init) (d_Setting_init.dvs K) (d_Setting_init.kws K) (fAd K d_Setting_init.at_) fd ∧ FnOk P w K mg base CX0 2 (fAd K d_Setting_init.at_) fd p_Setting_init (sp_Setting_init K) := by
  have c_whole := c_whole (P := P) (w := w) (base := base) T B
  obtain ⟨fd, F⟩ := T.says.def_ 1 (d := d_Setting_init) rfl
  refine ⟨fd, F, fnD F sc_Setting_init (fun vs H Q E h => by
    obtain ⟨_, _, _, rfl, _⟩ := h
    rfl) fun cdv A outer s H vs Q E hr h => ?_⟩
  have hu := hu_of hr
  obtain ⟨p, dx, s, rfl, hp, ok, kk⟩ := h
  refine ⟨_, (pss_cons (ps_if (pt_not (pt_val (pe_cal c_whole hr (by decide) (by rfl) pass0 (pa_cons (pv 1) (pa_cons pe_int (pa_cons (pe_con (pv 0) rfl) pa_nil)))))) (pss_one ps_never) pss_nil) (pss_cons (ps_if (pt_not (pt_val (pe_cal c_whole hr (by decide) (by rfl) pass0 (pa_cons (pv 2) (pa_cons pe_int (pa_cons (pe_con (pv 0) rfl) pa_nil)))))) (pss_one ps_never) pss_nil) (pss_cons (ps_if (pt_not (pt_val (pe_cal c_whole hr (by decide) (by rfl) pass0 (pa_cons (pv 3) (pa_cons pe_int (pa_cons (pe_con (pv 0) rfl) pa_nil)))))) (pss_one ps_never) pss_nil) (pss_cons (ps_if (pt_not (pt_val (pe_cal c_whole hr (by decide) (by rfl) pass0 (pa_cons (pv 4) (pa_cons pe_int (pa_cons (pe_con (pv 0) rfl) pa_nil)))))) (pss_one ps_never) pss_nil) (pss_cons (ps_if (pt_not (pt_val (pe_cal c_whole hr (by decide) (by rfl) pass0 (pa_cons (pv 5) (pa_cons pe_int (pa_cons (pe_con (pv 0) rfl) pa_nil)))))) (pss_one ps_never) pss_nil) (pss_cons (ps_fld (pv 0) (pv 1) rfl) (pss_cons (ps_fld (pv 0) (pv 2) rfl) (pss_cons (ps_fld (pv 0) (pv 3) rfl) (pss_cons (ps_fld (pv 0) (pv 4) rfl) (pss_one (ps_fld (pv 0) (pv 5) rfl))))))))))), ?_⟩
  rw [show L2.start n_Setting_init [.ref p, .int s.bits, .int s.pat, .int s.room, .int s.grace, .int s.hel] = [some (.ref p), some (.int s.bits), some (.int s.pat), some (.int s.room), some (.int s.grace), some (.int s.hel)] from rfl]
  try dsimp only [cxOf, Cx.nox, Cx.wish, List.map]

  obtain ⟨b0, b1, p0, p1, r0, r1, g0, g1, h0, h1⟩ := id ok
  wtm_at "rd"
  refine us_whole ?_
  wtm_at "rd"
  refine ite_f (by simp; omega) ?_
  wtm_at "rd"
  refine us_whole ?_
  wtm_at "rd"
  refine ite_f (by simp; omega) ?_
  wtm_at "rd"
  refine us_whole ?_
  wtm_at "rd"
  refine ite_f (by simp; omega) ?_
  wtm_at "rd"
  refine us_whole ?_
  wtm_at "rd"
  refine ite_f (by simp; omega) ?_
  wtm_at "rd"
  refine us_whole ?_
  wtm_at "rd"
  refine ite_f (by simp; omega) ?_
  wtm_at "rd"
  exact kk _ ⟨⟨dx, upd_same⟩, ok⟩ (by wtm_at "kp")
theorem c_Setting_init (T : Cx K mg) (B : Tb P w K mg base) : MakX P w K mg base CX0 2 "Setting" (ga K "Setting") (sp_Setting_init K) [.int 6, .int 1] := by
  obtain ⟨fd, F, ok⟩ := f_Setting_init (P := P) (w := w) (base := base) T B
  obtain ⟨ds, hv, hb⟩ := FunD.binds0 (ps := p_Setting_init) F 4 (fun e => by cases e) rfl fun _ _ _ _ _ _ us ks hu hk => match us, ks, hu, hk with | [_, _, _, _], [_, _], _, _ => ⟨_, _, _, _, _, _, rfl, rfl, ⟨_, _, _, _, _, _, rfl, rfl, rfl⟩⟩
  exact ⟨_, fd, p_Setting_init, ds, mk_Setting T, ok, gl_Setting T, hb, hv⟩
end
section
variable {P : Program} {w : World} {K : PySem.W.Frag} {mg : Str → Option Value} {base : Heap}
def sp_Setting_cycle (K : PySem.W.Frag) : Sp := fun vs H Q E => ∃ (p : Addr) (s : Stg), vs = [.ref p] ∧ (SetAt K H p s) ∧ (Q (.int (s.bits * s.pat)) H)
theorem us_Setting_cycle {K : PySem.W.Frag} {H : Hp} {Q : VK} {E : XK} {p : Addr} {s : Stg} (hS : SetAt K H p s) (kk : Q (.int (s.bits * s.pat)) H) : sp_Setting_cycle K [.ref p] H Q E := ⟨_, _, rfl, hS, kk⟩
theorem f_Setting_cycle (T : Cx K mg) (B : Tb P w K mg base) : ∃ fd, FunD K "cycle" "Setting.cycle" (defArgs s_Setting_cycle) (defBody s_Setting_cycle) (defScope s_Setting_cycle) [] [] (prG K "Setting" "cycle") fd ∧ FnOk P w K mg base CX0 1 (prG K "Setting" "cycle") fd p_Setting_cycle (sp_Setting_cycle K) := by
  obtain ⟨hP, fd, F⟩ := B.g g_Setting_cycle (.head _)
  refine ⟨fd, F, fnD F sc_Setting_cycle (fun vs H Q E h => by
    obtain ⟨_, _, rfl, _⟩ := h
    rfl) fun cdv A outer s H vs Q E hr h => ?_⟩
  have hu := hu_of hr
  obtain ⟨p, s, rfl, hS, kk⟩ := h
  refine ⟨_, (pss_one (ps_ret (pe_op op_mul (pe_fld (pv 0) rfl) (pe_fld (pv 0) rfl)))), ?_⟩
  rw [show L2.start n_Setting_cycle [.ref p] = [some (.ref p)] from rfl]
  try dsimp only [cxOf, Cx.nox, Cx.wish, List.map]

  obtain ⟨⟨dx, hp⟩, ok⟩ := hS
  have b0 := ok.b0
  have b1 := ok.b1
  have p0 := ok.p0
  have p1 := ok.p1
  wtm_at "rd"
  exact kk
theorem c_Setting_cycle (T : Cx K mg) (B : Tb P w K mg base) : PrpX P w K mg base CX0 1 (ga K "Setting") "cycle" (sp_Setting_cycle K) := by
  obtain ⟨fd, F, ok⟩ := f_Setting_cycle (P := P) (w := w) (base := base) T B
  obtain ⟨hP, -⟩ := B.g g_Setting_cycle (.head _)
  exact ⟨_, _, fd, p_Setting_cycle, cl_Setting T, hP, ok, FunD.bindsN F fun _ _ _ _ _ _ us hl => match us, hl with | [_], _ => rfl⟩
end
section
variable {P : Program} {w : World} {K : PySem.W.Frag} {mg : Str → Option Value} {base : Heap}
def sp_News_init (K : PySem.W.Frag) : Sp := fun vs H Q E => ∃ (b dx s : Addr), vs = [.ref b, .ref s] ∧ (H b = some (.ins (ga K "News") dx [])) ∧ (∀ d H1, H1 b = some (.ins (ga K "News") dx [(("_setting" : Str), .ref s), (("_hot" : Str), .ref d)]) → H1 d = some (.dK []) → Kp [b] H H1 → H d = none → Q .non H1)
theorem us_News_init {K : PySem.W.Frag} {H : Hp} {Q : VK} {E : XK} {b dx s : Addr} (hb : H b = some (.ins (ga K "News") dx [])) (kk : ∀ d H1, H1 b = some (.ins (ga K "News") dx [(("_setting" : Str), .ref s), (("_hot" : Str), .ref d)]) → H1 d = some (.dK []) → Kp [b] H H1 → H d = none → Q .non H1) : sp_News_init K [.ref b, .ref s] H Q E := ⟨_, _, _, rfl, hb, kk⟩
theorem f_News_init (T : Cx K mg) (B : Tb P w K mg base) : ∃ fd, FunD K "__init__" "News.__init__" (defArgs s_News_init) (defBody s_News_init) (defScope s_News_init) (d_News_init.dvs K) (d_News_init.kws K) (fAd K d_News_init.at_) fd ∧ FnOk P w K mg base CX0 1 (fAd K d_News_init.at_) fd p_News_init (sp_News_init K) := by
  obtain ⟨fd, F⟩ := T.says.def_ 2 (d := d_News_init) rfl
  refine ⟨fd, F, fnD F sc_News_init (fun vs H Q E h => by
    obtain ⟨_, _, _, rfl, _⟩ := h
    rfl) fun cdv A outer s H vs Q E hr h => ?_⟩
  have hu := hu_of hr
  obtain ⟨b, dx, s, rfl, hb, kk⟩ := h
  refine ⟨_, (pss_cons (ps_fld (pv 0) (pv 1) rfl) (pss_one (ps_fld (pv 0) pe_dnewK rfl))), ?_⟩
  rw [show L2.start n_News_init [.ref b, .ref s] = [some (.ref b), some (.ref s)] from rfl]
  try dsimp only [cxOf, Cx.nox, Cx.wish, List.map]

  wtm_at "rd"
  intro d nd
  have k0 : Kp [b] H (upd H b (.ins (ga K "News") dx (putF "_setting" (.ref s) []))) := Kp.refl.wr (by simp)
  have hb0 : upd H b (.ins (ga K "News") dx (putF "_setting" (.ref s) [])) b = some (.ins (ga K "News") dx (putF "_setting" (.ref s) [])) := upd_same
  have ndb : d ≠ b := fun e => ne_of_none hb0 nd e.symm
  have hb1 := hu_ne (o := .dK []) (Ne.symm ndb) hb0
  wtm_at "rd"
  exact kk d _ upd_same (hu_ne ndb upd_same) ((k0.nw nd).wr (by simp)) (k0.back nd (by simp [ndb]))
theorem c_News_init (T : Cx K mg) (B : Tb P w K mg base) : MakX P w K mg base CX0 1 "News" (ga K "News") (sp_News_init K) [] := by
  obtain ⟨fd, F, ok⟩ := f_News_init (P := P) (w := w) (base := base) T B
  exact ⟨_, fd, p_News_init, [], mk_News T, ok, gl_News T, FunD.bindsN F fun _ _ _ _ _ _ us hl => match us, hl with | [_, _], _ => rfl, .nil⟩
end
section
variable {P : Program} {w : World} {K : PySem.W.Frag} {mg : Str → Option Value} {base : Heap}
def sp_News_note (K : PySem.W.Frag) : Sp := fun vs H Q E => ∃ (b s d t : Addr) (xs : ES) (y : Sy), vs = [.ref b, .ref t] ∧ (∃ dx, H b = some (.ins (ga K "News") dx [(("_setting" : Str), .ref s), (("_hot" : Str), .ref d)])) ∧ (EN HO.tup H d xs) ∧ (SyAt H t y) ∧ (xs.length < 100000) ∧ (∀ a H1, EN HO.tup H1 d (ptT ek xs (a, (t, y, 0))) → Kp [d] H H1 → Q .non H1)
theorem us_News_note {K : PySem.W.Frag} {H : Hp} {Q : VK} {E : XK} {b s d t : Addr} {xs : ES} {y : Sy} (hb : ∃ dx, H b = some (.ins (ga K "News") dx [(("_setting" : Str), .ref s), (("_hot" : Str), .ref d)])) (hE : EN HO.tup H d xs) (ht : SyAt H t y) (hn : xs.length < 100000) (kk : ∀ a H1, EN HO.tup H1 d (ptT ek xs (a, (t, y, 0))) → Kp [d] H H1 → Q .non H1) : sp_News_note K [.ref b, .ref t] H Q E := ⟨_, _, _, _, _, _, rfl, hb, hE, ht, hn, kk⟩
theorem f_News_note (T : Cx K mg) (B : Tb P w K mg base) : ∃ fd, FunD K "note" "News.note" (defArgs s_News_note) (defBody s_News_note) (defScope s_News_note) (d_News_note.dvs K) (d_News_note.kws K) (fAd K d_News_note.at_) fd ∧ FnOk P w K mg base CX0 1 (fAd K d_News_note.at_) fd p_News_note (sp_News_note K) := by
  obtain ⟨fd, F⟩ := T.says.def_ 3 (d := d_News_note) rfl
  refine ⟨fd, F, fnD F sc_News_note (fun vs H Q E h => by
    obtain ⟨_, _, _, _, _, _, rfl, _⟩ := h
    rfl) fun cdv A outer s H vs Q E hr h => ?_⟩
  have hu := hu_of hr
  obtain ⟨b, s, d, t, xs, y, rfl, hb, hE, ht, hn, kk⟩ := h
  refine ⟨_, (pss_one (ps_dput hu (pe_fld (pv 0) rfl) (pe_ix ix_tup (pv 1) pe_int (fun _ _ => rfl)) (pe_tup (pa_cons (pv 1) (pa_cons pe_int pa_nil))) rfl)), ?_⟩
  rw [show L2.start n_News_note [.ref b, .ref t] = [some (.ref b), some (.ref t)] from rfl]
  try dsimp only [cxOf, Cx.nox, Cx.wish, List.map]

  obtain ⟨dx, hb⟩ := hb
  wtm_at "rd"
  refine ⟨sz1000 (by simp), fun a na => ?_⟩
  have k1 : Kp [] H (upd H a (.tup [.ref t, .int 0])) := Kp.new na
  have ga1 : upd H a (.tup [.ref t, .int 0]) a = some (.tup [.ref t, .int 0]) := upd_same
  have hb1 := k1.g0 hb
  have E1 := hE.k0 k1
  have ht1 := k1.g0 ht
  generalize upd H a (.tup [.ref t, .int 0]) = H1 at k1 ga1 hb1 E1 ht1
  have hd1 := E1.at_
  have ht2 := ht1
  unfold Sy.tup at ht2
  have len : (kvT ek xs).length < sizeLine := szlt (by
    rw [kvT_len]
    omega)
  wtm_at "rd"
  have e := kvT_put ek xs (a, (t, y, 0))
  have E2 := E1.put mkT (p := (a, (t, y, 0))) ga1 ht1
  rw [← e] at E2
  exact kk a _ E2 (k1.of0.wr (by simp))
theorem c_News_note (T : Cx K mg) (B : Tb P w K mg base) : MetX P w K mg base CX0 1 (ga K "News") "note" (sp_News_note K) [] := by
  obtain ⟨fd, F, ok⟩ := f_News_note (P := P) (w := w) (base := base) T B
  exact ⟨_, fd, p_News_note, [], cl_News T, mt_News_note T, ok, FunD.bindsN F fun _ _ _ _ _ _ us hl => match us, hl with | [_, _], _ => rfl, .nil⟩
end
section
variable {P : Program} {w : World} {K : PySem.W.Frag} {mg : Str → Option Value} {base : Heap}
def sp_News_pick (K : PySem.W.Frag) : Sp := fun vs H Q E => ∃ (b s d : Addr) (xs : ES) (st : Stg) (R cy : Int), vs = [.ref b] ∧ (∃ dx, H b = some (.ins (ga K "News") dx [(("_setting" : Str), .ref s), (("_hot" : Str), .ref d)])) ∧ (EN HO.tup H d xs) ∧ (SetAt K H s st) ∧ (keysE xs) ∧ (okE R cy xs) ∧ (R ≤ 256) ∧ (∀ r H1, SyL H1 r ((pickE xs st.room).map fun p => (p.2.1, p.2.2.1)) → Kp [] H H1 → H r = none → Q (.ref r) H1)
theorem us_News_pick {K : PySem.W.Frag} {H : Hp} {Q : VK} {E : XK} {b s d : Addr} {xs : ES} {st : Stg} {R cy : Int} (hb : ∃ dx, H b = some (.ins (ga K "News") dx [(("_setting" : Str), .ref s), (("_hot" : Str), .ref d)])) (hE : EN HO.tup H d xs) (hS : SetAt K H s st) (nd : keysE xs) (ok : okE R cy xs) (hR : R ≤ 256) (kk : ∀ r H1, SyL H1 r ((pickE xs st.room).map fun p => (p.2.1, p.2.2.1)) → Kp [] H H1 → H r = none → Q (.ref r) H1) : sp_News_pick K [.ref b] H Q E := ⟨_, _, _, _, _, _, _, rfl, hb, hE, hS, nd, ok, hR, kk⟩
theorem f_News_pick (T : Cx K mg) (B : Tb P w K mg base) : ∃ fd, FunD K "pick" "News.pick" (defArgs s_News_pick) (defBody s_News_pick) (defScope s_News_pick) (d_News_pick.dvs K) (d_News_pick.kws K) (fAd K d_News_pick.at_) fd ∧ FnOk P w K mg base CX0 1 (fAd K d_News_pick.at_) fd p_News_pick (sp_News_pick K) := by
  obtain ⟨fd, F⟩ := T.says.def_ 4 (d := d_News_pick) rfl
  refine ⟨fd, F, fnD F sc_News_pick (fun vs H Q E h => by
    obtain ⟨_, _, _, _, _, _, _, rfl, _⟩ := h
    rfl) fun cdv A outer s H vs Q E hr h => ?_⟩
  have hu := hu_of hr
  obtain ⟨b, s, d, xs, st, R, cy, rfl, hb, hE, hS, nd, ok, hR, kk⟩ := h
  refine ⟨_, (pss_cons (ps_set (i := 1) sc_News_pick.nd rfl (by first | exact Or.inl rfl | exact Or.inr rfl) (pe_callB cr_sortedPO (by rfl) (fr_sorted T) (by decide +kernel) (pa_cons (pe_lock (pe_lc (own := [("seat", 2)]) (g := (gName 2)) (tt := tYes) rfl sc_News_pick.nd (pi_keys (pe_fld (pv 0) rfl)) (blkOk_by (own := [("seat", 2)]) (N := n_News_pick) (sc := defScope s_News_pick) (by decide +kernel)) (fun _ _ _ _ _ => (pg_name (i := 2) sc_News_pick.nd rfl (by first | exact Or.inl rfl | exact Or.inr rfl))) (fun _ _ _ _ _ => pts_nil) (fun _ _ _ _ _ => (pe_tup (pa_cons (pe_ix (ix_tupK (K := K) rfl) (pe_dget hu (pe_fldK (K := K) rfl (pv 0) rfl) (pv 2) (fun _ _ => rfl)) pe_int (fun _ _ => rfl)) (pa_cons (pv 2) pa_nil)))))) pa_nil))) (pss_one (ps_ret (pe_lc (own := [("tellings", 3), ("seat", 2)]) (g := (gTup K 2 (gCons (gName 3) (gCons (gName 2) gNil)))) (tt := tYes) rfl sc_News_pick.nd (pi_list (pe_slice sl_list (pv 1) po_none (po_some (pe_fld (pe_fld (pv 0) rfl) rfl)))) (blkOk_by (own := [("tellings", 3), ("seat", 2)]) (N := n_News_pick) (sc := defScope s_News_pick) (by decide +kernel)) (fun _ _ _ _ _ => (pg_tup rfl (pgs_cons (pg_name (i := 3) sc_News_pick.nd rfl (by first | exact Or.inl rfl | exact Or.inr rfl)) (pgs_cons (pg_name (i := 2) sc_News_pick.nd rfl (by first | exact Or.inl rfl | exact Or.inr rfl)) pgs_nil)))) (fun _ _ _ _ _ => pts_nil) (fun _ _ _ _ _ => (pe_ix (ix_tupK (K := K) rfl) (pe_dget hu (pe_fldK (K := K) rfl (pv 0) rfl) (pv 2) (fun _ _ => rfl)) pe_int (fun _ _ => rfl))))))), ?_⟩
  rw [show L2.start n_News_pick [.ref b] = [some (.ref b), none, none, none] from rfl]
  try dsimp only [cxOf, Cx.nox, Cx.wish, List.map]

  obtain ⟨dx, hb⟩ := id hb
  obtain ⟨⟨dxs, hs⟩, sok⟩ := id hS
  have r0 := sok.r0
  have hd := hE.at_
  have lx := lenK nd ok hR
  wtm_at "rd"
  refine rd_lockE hd trivial fun od => ?_
  have s1 : upd H d (.frz od (.dK (kvT ek xs))) d = some (.frz od (.dK (kvT ek xs))) := upd_same
  have gx : ∀ p, p ∈ xs → upd H d (.frz od (.dK (kvT ek xs))) p.1 = some (HO.tup [.ref p.2.1, .int p.2.2.2]) := fun p hp => hu_ne (ne_of (hE.ob p hp).1 hd (mkT.dk _ _)) (hE.ob p hp).1
  have hb1 := hu_ne (o := .frz od (.dK (kvT ek xs))) (ne_of hb hd (by intro z; cases z)) hb
  have kL : ∀ H2, Kp [] (upd H d (.frz od (.dK (kvT ek xs)))) H2 → Kp [] H (upd H2 d (.dK (kvT ek xs))) := fun H2 k => kp_lock hd k
  generalize upd H d (.frz od (.dK (kvT ek xs))) = H1 at *
  refine rd_lc (rd_iKeys ?_)
  wtm_at "rd"
  refine ⟨d, od, rfl, .inl ⟨_, s1, fun D hD => ?_⟩⟩
  refine lcKT_by xs (fun i H2 => (∃ qs, PQ H2 D qs ∧ qs.map (·.2) = xs.take i) ∧ Kp [] H1 H2) ⟨⟨[], ⟨upd_same, fun q hq => by cases hq⟩, rfl⟩, Kp.new hD⟩ (fun i H2 _ z => z.2.g0 s1) (fun i hi H2 z => ?_) (fun H2 z => ?_)
  · obtain ⟨⟨qs, z1, z2⟩, k2⟩ := z
    have ql : qs.length = i := by
      have := congrArg List.length z2
      rw [List.length_map, List.length_take] at this
      omega
    have pm := List.getElem_mem hi
    have hp1 := k2.g0 (gx _ pm)
    have s2 := k2.g0 s1
    have hb2 := k2.g0 hb1
    wtm_at "rd"
    refine ⟨rfl, ?_⟩
    wtm_at "rd"
    refine rd_dgetX (dg_fz s2 (by rw [kvT_val, fdE_of nd pm]; rfl)) ?_
    wtm_at "rd"
    refine ⟨sz1000 (by simp), fun t nt => ?_⟩
    have z3 := hu_ne (o := .tup [.int xs[i].2.2.2, .int (ek xs[i].2)]) (ne_of_none z1.at_ nt) z1.at_
    have ntD : t ≠ D := fun e => ne_of_none z1.at_ nt e.symm
    refine ⟨_, z3, szlt (by rw [List.length_map]; omega), ⟨qs ++ [(t, xs[i])], ⟨by rw [upd_same, List.map_append]; rfl, fun q hq => ?_⟩, ?_⟩, (k2.nw nt).mine hD⟩
    · rcases List.mem_append.mp hq with m | m
      · have h1 := z1.ob q m
        have h2 := hu_ne (o := .tup [.int xs[i].2.2.2, .int (ek xs[i].2)]) (ne_of_none h1 nt) h1
        exact hu_ne (ne_of h2 z3 (by intro z; cases z)) h2
      · rw [List.mem_singleton.mp m]
        exact hu_ne ntD upd_same
    · rw [List.map_append, z2, List.take_succ_eq_append_getElem hi]
      rfl
  obtain ⟨⟨qs, z1, z2⟩, k2⟩ := z
  rw [List.take_length] at z2
  refine ⟨k2.g0 s1, ?_⟩
  have nDd : D ≠ d := Ne.symm (ne_of_none s1 hD)
  have s2 := k2.g0 s1
  have z3 : PQ (upd H2 d (.dK (kvT ek xs))) D qs := ⟨hu_ne nDd z1.at_, fun q hq => hu_ne (ne_of (z1.ob q hq) s2 (by intro z; cases z)) (z1.ob q hq)⟩
  have k3 := kL H2 k2
  generalize upd H2 d (.dK (kvT ek xs)) = H3 at k3 z3
  clear kL gx s1 s2 z1 k2 hD hb1
  have E3 := hE.k0 k3
  have hb3 := k3.g0 hb
  refine ⟨D, _, kP H3, rfl, SqL.of z3.at_, fun x hx => ?_, fun zs r s1 s2 nr => ?_⟩
  · obtain ⟨q, hq, rfl⟩ := List.mem_map.mp hx
    refine ⟨q.1, rfl, ?_⟩
    rw [kP_at (z3.ob q hq)]
    exact z3.ob q hq
  obtain ⟨zm, zp⟩ := sorted_pick z3 z2 ok hR s1 s2 st.room
  have zl : zs.length = xs.length := by
    rw [s2.perm.length_eq, List.length_map, ← z2, List.length_map]
  have k4 : Kp [] H3 (upd H3 r (.lst zs)) := Kp.new nr
  have hr4 : upd H3 r (.lst zs) r = some (.lst zs) := upd_same
  generalize upd H3 r (.lst zs) = H4 at k4 hr4
  have E4 := E3.k0 k4
  have hb4 := k4.g0 hb3
  have hs4 := (k3.trans k4).g0 hs
  obtain ⟨rm, erm⟩ := Int.eq_ofNat_of_zero_le (show 0 ≤ st.room by omega)
  wtm_at "rd"
  rw [erm] at zp ⊢
  intro c nc
  rw [cut_to]
  rw [Int.toNat_natCast, ← erm] at zp
  have k5 : Kp [] H4 (upd H4 c (.lst (zs.take rm))) := Kp.new nc
  have hc5 : upd H4 c (.lst (zs.take rm)) c = some (.lst (zs.take rm)) := upd_same
  generalize upd H4 c (.lst (zs.take rm)) = H5 at k5 hc5
  have k05 := (k3.trans k4).trans k5
  have k35 := k4.trans k5
  wtm_at "rd"
  intro D2 nD2
  refine lcL_by (K := K) (zs.take rm) (fun i H' => H' D2 = some (.lst ((((zs.take rm).take i).filterMap fun v => fdT ek xs (kP H3 v).2).map fun p => V.ref p.2.1)) ∧ Kp [] H5 H') ⟨upd_same, Kp.new nD2⟩ (fun i H' _ q => SqL.of (q.2.g0 hc5)) (fun i x H' hx q => ?_) (fun H' q => ?_)
  · obtain ⟨q1, k6⟩ := q
    have xm := List.mem_of_mem_take (List.mem_of_getElem? hx)
    obtain ⟨hi, ex⟩ := List.getElem?_eq_some_iff.mp hx
    obtain ⟨q, hq, rfl⟩ := zm x xm
    have pm : q.2 ∈ xs := z2 ▸ List.mem_map_of_mem hq
    have ht := (k35.trans k6).g0 (z3.ob q hq)
    have E6 := E3.k0 (k35.trans k6)
    have hd6 := E6.at_
    have hp6 := (E6.ob q.2 pm).1
    have hb6 := (k35.trans k6).g0 hb3
    have len : ((((zs.take rm).take i).filterMap fun v => fdT ek xs (kP H3 v).2).map fun p => V.ref p.2.1).length < sizeLine := szlt (by
      rw [List.length_map]
      have h1 := List.length_filterMap_le (fun v => fdT ek xs (kP H3 v).2) ((zs.take rm).take i)
      rw [List.length_take, List.length_take] at h1
      omega)
    wtm_at "rd"
    refine ⟨rfl, ?_⟩
    wtm_at "rd"
    refine rd_dgetX (dg_iv hd6 (by rw [kvT_val, fdE_of nd pm]; rfl)) ?_
    wtm_at "rd"
    refine ⟨_, q1, len, ?_, k6.mine nD2⟩
    rw [upd_same, List.take_succ_eq_append_getElem hi, ex, List.filterMap_append, List.map_append]
    rw [show [V.ref q.1].filterMap (fun v => fdT ek xs (kP H3 v).2) = [q.2] by
      rw [List.filterMap_cons_some (by rw [(codV_at z3 hq).2.1]; exact fdE_of nd pm)]
      rfl]
    rfl
  · obtain ⟨q1, k6⟩ := q
    rw [List.take_length, zp] at q1
    have E6 := E3.k0 (k35.trans k6)
    refine kk D2 H' ⟨by rw [q1, List.map_map]; rfl, fun p hp => ?_⟩ (k05.trans k6) (k05.back nD2 (by simp))
    obtain ⟨p', hp', rfl⟩ := List.mem_map.mp hp
    unfold pickE at hp'
    obtain ⟨v, hv, e⟩ := List.mem_filterMap.mp hp'
    exact (E6.find e).2
theorem c_News_pick (T : Cx K mg) (B : Tb P w K mg base) : MetX P w K mg base CX0 1 (ga K "News") "pick" (sp_News_pick K) [] := by
  obtain ⟨fd, F, ok⟩ := f_News_pick (P := P) (w := w) (base := base) T B
  exact ⟨_, fd, p_News_pick, [], cl_News T, mt_News_pick T, ok, FunD.bindsN F fun _ _ _ _ _ _ us hl => match us, hl with | [_], _ => rfl, .nil⟩
end
section
variable {P : Program} {w : World} {K : PySem.W.Frag} {mg : Str → Option Value} {base : Heap}
def sp_News_rows (K : PySem.W.Frag) : Sp := fun vs H Q E => ∃ (b s d : Addr) (xs : ES), vs = [.ref b] ∧ (∃ dx, H b = some (.ins (ga K "News") dx [(("_setting" : Str), .ref s), (("_hot" : Str), .ref d)])) ∧ (EN HO.tup H d xs) ∧ (keysE xs) ∧ (xs.length < 100000) ∧ (∀ r H1, CL H1 r (rowsE xs) → Kp [] H H1 → H r = none → Q (.ref r) H1)
theorem us_News_rows {K : PySem.W.Frag} {H : Hp} {Q : VK} {E : XK} {b s d : Addr} {xs : ES} (hb : ∃ dx, H b = some (.ins (ga K "News") dx [(("_setting" : Str), .ref s), (("_hot" : Str), .ref d)])) (hE : EN HO.tup H d xs) (nd : keysE xs) (hn : xs.length < 100000) (kk : ∀ r H1, CL H1 r (rowsE xs) → Kp [] H H1 → H r = none → Q (.ref r) H1) : sp_News_rows K [.ref b] H Q E := ⟨_, _, _, _, rfl, hb, hE, nd, hn, kk⟩
theorem f_News_rows (T : Cx K mg) (B : Tb P w K mg base) : ∃ fd, FunD K "rows" "News.rows" (defArgs s_News_rows) (defBody s_News_rows) (defScope s_News_rows) (d_News_rows.dvs K) (d_News_rows.kws K) (fAd K d_News_rows.at_) fd ∧ FnOk P w K mg base CX0 1 (fAd K d_News_rows.at_) fd p_News_rows (sp_News_rows K) := by
  obtain ⟨fd, F⟩ := T.says.def_ 5 (d := d_News_rows) rfl
  refine ⟨fd, F, fnD F sc_News_rows (fun vs H Q E h => by
    obtain ⟨_, _, _, _, rfl, _⟩ := h
    rfl) fun cdv A outer s H vs Q E hr h => ?_⟩
  have hu := hu_of hr
  obtain ⟨b, s, d, xs, rfl, hb, hE, nd, hn, kk⟩ := h
  refine ⟨_, (pss_one (ps_ret (pe_lc (own := [("seat", 1)]) (g := (gName 1)) (tt := tYes) rfl sc_News_rows.nd (pi_list (pe_callB cr_sortedI (by rfl) (fr_sorted T) (by decide +kernel) (pa_cons (pe_callTy (call_listD rfl) (by rfl) (fr_list T) (by decide +kernel) (pa_cons (pe_fld (pv 0) rfl) pa_nil)) pa_nil))) (blkOk_by (own := [("seat", 1)]) (N := n_News_rows) (sc := defScope s_News_rows) (by decide +kernel)) (fun _ _ _ _ _ => (pg_name (i := 1) sc_News_rows.nd rfl (by first | exact Or.inl rfl | exact Or.inr rfl))) (fun _ _ _ _ _ => pts_nil) (fun _ _ _ _ _ => (pe_dget hu (pe_fldK (K := K) rfl (pv 0) rfl) (pv 1) (fun _ _ => rfl)))))), ?_⟩
  rw [show L2.start n_News_rows [.ref b] = [some (.ref b), none] from rfl]
  try dsimp only [cxOf, Cx.nox, Cx.wish, List.map]

  obtain ⟨dx, hb⟩ := hb
  have hd := hE.at_
  wtm_at "rd"
  refine ⟨d, _, rfl, .inl hd, fun l nl => ?_⟩
  wtm_at "rd"
  refine rd_sortedI (ns := (xs.map (·.2)).map ek) (by rw [kvT_keys]; exact upd_same) fun os r o1 o2 nr => ?_
  rw [srt_is o1 o2]
  have k1 : Kp [] H (upd (upd H l (.lst ((kvT ek xs).map fun kv => kV kv.1))) r (.lst ((srt ((xs.map (·.2)).map ek)).map V.int))) := (Kp.new nl).nw nr
  have hl : upd (upd H l (.lst ((kvT ek xs).map fun kv => kV kv.1))) r (.lst ((srt ((xs.map (·.2)).map ek)).map V.int)) r = some (.lst ((srt ((xs.map (·.2)).map ek)).map V.int)) := upd_same
  generalize upd (upd H l (.lst ((kvT ek xs).map fun kv => kV kv.1))) r (.lst ((srt ((xs.map (·.2)).map ek)).map V.int)) = H1 at k1 hl
  wtm_at "rd"
  intro D nD
  have hf : ∀ k, k ∈ srt ((xs.map (·.2)).map ek) → ∃ p, fdT ek xs k = some p := fun k hk => fdT_key ((srt_perm _).mem_iff.mp hk)
  refine lcL_ints (K := K) (srt ((xs.map (·.2)).map ek)) (fun i H2 => H2 D = some (.lst ((((srt ((xs.map (·.2)).map ek)).take i).filterMap fun k => fdT ek xs k).map fun p => V.ref p.1)) ∧ Kp [] H1 H2) ⟨upd_same, Kp.new nD⟩ (fun i H2 _ q => SqL.of (q.2.g0 hl)) (fun i hi H2 q => ?_) (fun H2 q => ?_)
  · obtain ⟨q1, k2⟩ := q
    obtain ⟨p, hp⟩ := hf _ (List.getElem_mem hi)
    have hb2 := k2.g0 (k1.g0 hb)
    have hd2 := k2.g0 (k1.g0 hd)
    have len : ((((srt ((xs.map (·.2)).map ek)).take i).filterMap fun k => fdT ek xs k).map fun p => V.ref p.1).length < sizeLine := szlt (by
      rw [List.length_map]
      have h1 := List.length_filterMap_le (fun k => fdT ek xs k) ((srt ((xs.map (·.2)).map ek)).take i)
      have h2 := (srt_perm ((xs.map (·.2)).map ek)).length_eq
      rw [List.length_take] at h1
      rw [List.length_map, List.length_map] at h2
      omega)
    wtm_at "rd"
    refine ⟨rfl, ?_⟩
    wtm_at "rd"
    refine rd_dgetX (dg_iv hd2 (by rw [kvT_val, hp]; rfl)) ?_
    refine ⟨_, q1, len, ?_, k2.mine nD⟩
    rw [upd_same, List.take_succ_eq_append_getElem hi, List.filterMap_append, List.map_append, List.filterMap_cons_some hp]
    rfl
  · obtain ⟨q1, k2⟩ := q
    rw [List.take_length] at q1
    have E2 := hE.k0 (k1.trans k2)
    refine kk D H2 ⟨q1, fun p hp => ?_⟩ (k1.trans k2) (k1.back nD (by simp))
    unfold rowsE at hp
    obtain ⟨k, hk, e⟩ := List.mem_filterMap.mp hp
    exact E2.find e
theorem c_News_rows (T : Cx K mg) (B : Tb P w K mg base) : MetX P w K mg base CX0 1 (ga K "News") "rows" (sp_News_rows K) [] := by
  obtain ⟨fd, F, ok⟩ := f_News_rows (P := P) (w := w) (base := base) T B
  exact ⟨_, fd, p_News_rows, [], cl_News T, mt_News_rows T, ok, FunD.bindsN F fun _ _ _ _ _ _ us hl => match us, hl with | [_], _ => rfl, .nil⟩
end
section
variable {P : Program} {w : World} {K : PySem.W.Frag} {mg : Str → Option Value} {base : Heap}
def sp_News_hot (K : PySem.W.Frag) : Sp := fun vs H Q E => ∃ (b s d : Addr) (xs : ES) (k : Int), vs = [.ref b, .int k] ∧ (∃ dx, H b = some (.ins (ga K "News") dx [(("_setting" : Str), .ref s), (("_hot" : Str), .ref d)])) ∧ (EN HO.tup H d xs) ∧ (Q (.bl (lkE xs k).isSome) H)
theorem us_News_hot {K : PySem.W.Frag} {H : Hp} {Q : VK} {E : XK} {b s d : Addr} {xs : ES} {k : Int} (hb : ∃ dx, H b = some (.ins (ga K "News") dx [(("_setting" : Str), .ref s), (("_hot" : Str), .ref d)])) (hE : EN HO.tup H d xs) (kk : Q (.bl (lkE xs k).isSome) H) : sp_News_hot K [.ref b, .int k] H Q E := ⟨_, _, _, _, _, rfl, hb, hE, kk⟩
theorem f_News_hot (T : Cx K mg) (B : Tb P w K mg base) : ∃ fd, FunD K "hot" "News.hot" (defArgs s_News_hot) (defBody s_News_hot) (defScope s_News_hot) (d_News_hot.dvs K) (d_News_hot.kws K) (fAd K d_News_hot.at_) fd ∧ FnOk P w K mg base CX0 1 (fAd K d_News_hot.at_) fd p_News_hot (sp_News_hot K) := by
  obtain ⟨fd, F⟩ := T.says.def_ 6 (d := d_News_hot) rfl
  refine ⟨fd, F, fnD F sc_News_hot (fun vs H Q E h => by
    obtain ⟨_, _, _, _, _, rfl, _⟩ := h
    rfl) fun cdv A outer s H vs Q E hr h => ?_⟩
  have hu := hu_of hr
  obtain ⟨b, s, d, xs, k, rfl, hb, hE, kk⟩ := h
  refine ⟨_, (pss_one (ps_ret (pe_cmp (pc_din hu (pv 1) (pe_fld (pv 0) rfl))))), ?_⟩
  rw [show L2.start n_News_hot [.ref b, .int k] = [some (.ref b), some (.int k)] from rfl]
  try dsimp only [cxOf, Cx.nox, Cx.wish, List.map]

  obtain ⟨dx, hb⟩ := hb
  have hd := hE.at_
  wtm_at "rd"
  rw [kvT_val]
  have e : (Option.map (fun p : Addr × Ent => V.ref p.1) (fdT ek xs k)).isSome = (lkE xs k).isSome := by
    unfold lkE
    cases fdT ek xs k <;> rfl
  rw [e]
  exact kk
theorem c_News_hot (T : Cx K mg) (B : Tb P w K mg base) : MetX P w K mg base CX0 1 (ga K "News") "hot" (sp_News_hot K) [] := by
  obtain ⟨fd, F, ok⟩ := f_News_hot (P := P) (w := w) (base := base) T B
  exact ⟨_, fd, p_News_hot, [], cl_News T, mt_News_hot T, ok, FunD.bindsN F fun _ _ _ _ _ _ us hl => match us, hl with | [_, _], _ => rfl, .nil⟩
end
section
variable {P : Program} {w : World} {K : PySem.W.Frag} {mg : Str → Option Value} {base : Heap}
def sp_News_quiet (K : PySem.W.Frag) : Sp := fun vs H Q E => ∃ (b s d : Addr) (xs : ES), vs = [.ref b] ∧ (∃ dx, H b = some (.ins (ga K "News") dx [(("_setting" : Str), .ref s), (("_hot" : Str), .ref d)])) ∧ (EN HO.tup H d xs) ∧ (Q (.bl (decide ((xs.length : Int) = 0))) H)
theorem us_News_quiet {K : PySem.W.Frag} {H : Hp} {Q : VK} {E : XK} {b s d : Addr} {xs : ES} (hb : ∃ dx, H b = some (.ins (ga K "News") dx [(("_setting" : Str), .ref s), (("_hot" : Str), .ref d)])) (hE : EN HO.tup H d xs) (kk : Q (.bl (decide ((xs.length : Int) = 0))) H) : sp_News_quiet K [.ref b] H Q E := ⟨_, _, _, _, rfl, hb, hE, kk⟩
theorem f_News_quiet (T : Cx K mg) (B : Tb P w K mg base) : ∃ fd, FunD K "quiet" "News.quiet" (defArgs s_News_quiet) (defBody s_News_quiet) (defScope s_News_quiet) [] [] (prG K "News" "quiet") fd ∧ FnOk P w K mg base CX0 1 (prG K "News" "quiet") fd p_News_quiet (sp_News_quiet K) := by
  obtain ⟨hP, fd, F⟩ := B.g g_News_quiet (.tail _ (.head _))
  refine ⟨fd, F, fnD F sc_News_quiet (fun vs H Q E h => by
    obtain ⟨_, _, _, _, rfl, _⟩ := h
    rfl) fun cdv A outer s H vs Q E hr h => ?_⟩
  have hu := hu_of hr
  obtain ⟨b, s, d, xs, rfl, hb, hE, kk⟩ := h
  refine ⟨_, (pss_one (ps_ret (pe_cmpR op_eq (pe_callB call_lenD' (by rfl) (fr_len T) (by decide +kernel) (pa_cons (pe_fld (pv 0) rfl) pa_nil)) pe_int (nomark _)))), ?_⟩
  rw [show L2.start n_News_quiet [.ref b] = [some (.ref b)] from rfl]
  try dsimp only [cxOf, Cx.nox, Cx.wish, List.map]

  obtain ⟨dx, hb⟩ := hb
  have hd := hE.at_
  wtm_at "rd"
  rw [kvT_len]
  exact kk
theorem c_News_quiet (T : Cx K mg) (B : Tb P w K mg base) : PrpX P w K mg base CX0 1 (ga K "News") "quiet" (sp_News_quiet K) := by
  obtain ⟨fd, F, ok⟩ := f_News_quiet (P := P) (w := w) (base := base) T B
  obtain ⟨hP, -⟩ := B.g g_News_quiet (.tail _ (.head _))
  exact ⟨_, _, fd, p_News_quiet, cl_News T, hP, ok, FunD.bindsN F fun _ _ _ _ _ _ us hl => match us, hl with | [_], _ => rfl⟩
end
section
variable {P : Program} {w : World} {K : PySem.W.Frag} {mg : Str → Option Value} {base : Heap}
def sp_News___len__ (K : PySem.W.Frag) : Sp := fun vs H Q E => ∃ (b s d : Addr) (xs : ES), vs = [.ref b] ∧ (∃ dx, H b = some (.ins (ga K "News") dx [(("_setting" : Str), .ref s), (("_hot" : Str), .ref d)])) ∧ (EN HO.tup H d xs) ∧ (Q (.int (xs.length : Int)) H)
theorem us_News___len__ {K : PySem.W.Frag} {H : Hp} {Q : VK} {E : XK} {b s d : Addr} {xs : ES} (hb : ∃ dx, H b = some (.ins (ga K "News") dx [(("_setting" : Str), .ref s), (("_hot" : Str), .ref d)])) (hE : EN HO.tup H d xs) (kk : Q (.int (xs.length : Int)) H) : sp_News___len__ K [.ref b] H Q E := ⟨_, _, _, _, rfl, hb, hE, kk⟩
theorem f_News___len__ (T : Cx K mg) (B : Tb P w K mg base) : ∃ fd, FunD K "__len__" "News.__len__" (defArgs s_News___len__) (defBody s_News___len__) (defScope s_News___len__) (d_News___len__.dvs K) (d_News___len__.kws K) (fAd K d_News___len__.at_) fd ∧ FnOk P w K mg base CX0 1 (fAd K d_News___len__.at_) fd p_News___len__ (sp_News___len__ K) := by
  obtain ⟨fd, F⟩ := T.says.def_ 7 (d := d_News___len__) rfl
  refine ⟨fd, F, fnD F sc_News___len__ (fun vs H Q E h => by
    obtain ⟨_, _, _, _, rfl, _⟩ := h
    rfl) fun cdv A outer s H vs Q E hr h => ?_⟩
  have hu := hu_of hr
  obtain ⟨b, s, d, xs, rfl, hb, hE, kk⟩ := h
  refine ⟨_, (pss_one (ps_ret (pe_callB call_lenD' (by rfl) (fr_len T) (by decide +kernel) (pa_cons (pe_fld (pv 0) rfl) pa_nil)))), ?_⟩
  rw [show L2.start n_News___len__ [.ref b] = [some (.ref b)] from rfl]
  try dsimp only [cxOf, Cx.nox, Cx.wish, List.map]

  obtain ⟨dx, hb⟩ := hb
  have hd := hE.at_
  wtm_at "rd"
  rw [kvT_len]
  exact kk
theorem c_News___len__ (T : Cx K mg) (B : Tb P w K mg base) : MetX P w K mg base CX0 1 (ga K "News") "__len__" (sp_News___len__ K) [] := by
  obtain ⟨fd, F, ok⟩ := f_News___len__ (P := P) (w := w) (base := base) T B
  exact ⟨_, fd, p_News___len__, [], cl_News T, mt_News___len__ T, ok, FunD.bindsN F fun _ _ _ _ _ _ us hl => match us, hl with | [_], _ => rfl, .nil⟩
end
section
variable {P : Program} {w : World} {K : PySem.W.Frag} {mg : Str → Option Value} {base : Heap}
def sp_News_told (K : PySem.W.Frag) : Sp := fun vs H Q E => ∃ (b s d l : Addr) (xs : ES) (st : Stg) (ps : List (Addr × Sy)), vs = [.ref b, .ref l] ∧ (∃ dx, H b = some (.ins (ga K "News") dx [(("_setting" : Str), .ref s), (("_hot" : Str), .ref d)])) ∧ (EN HO.tup H d xs) ∧ (SetAt K H s st) ∧ (keysE xs) ∧ (okE st.ring (st.bits * st.pat) xs) ∧ (SyL H l ps) ∧ (∀ p, p ∈ ps → p.2.T) ∧ (∀ zs H1, EN HO.tup H1 d zs → keysE zs → okE st.ring (st.bits * st.pat) zs → lkE zs = tell (ps.map (·.2)) (st.bits * st.pat) (lkE xs) → Kp [d] H H1 → Q .non H1)
theorem us_News_told {K : PySem.W.Frag} {H : Hp} {Q : VK} {E : XK} {b s d l : Addr} {xs : ES} {st : Stg} {ps : List (Addr × Sy)} (hb : ∃ dx, H b = some (.ins (ga K "News") dx [(("_setting" : Str), .ref s), (("_hot" : Str), .ref d)])) (hE : EN HO.tup H d xs) (hS : SetAt K H s st) (nd : keysE xs) (ok : okE st.ring (st.bits * st.pat) xs) (hl : SyL H l ps) (tp : ∀ p, p ∈ ps → p.2.T) (kk : ∀ zs H1, EN HO.tup H1 d zs → keysE zs → okE st.ring (st.bits * st.pat) zs → lkE zs = tell (ps.map (·.2)) (st.bits * st.pat) (lkE xs) → Kp [d] H H1 → Q .non H1) : sp_News_told K [.ref b, .ref l] H Q E := ⟨_, _, _, _, _, _, _, rfl, hb, hE, hS, nd, ok, hl, tp, kk⟩
theorem f_News_told (T : Cx K mg) (B : Tb P w K mg base) : ∃ fd, FunD K "told" "News.told" (defArgs s_News_told) (defBody s_News_told) (defScope s_News_told) (d_News_told.dvs K) (d_News_told.kws K) (fAd K d_News_told.at_) fd ∧ FnOk P w K mg base CX0 3 (fAd K d_News_told.at_) fd p_News_told (sp_News_told K) := by
  have c_Setting_cycle := c_Setting_cycle (P := P) (w := w) (base := base) T B
  obtain ⟨fd, F⟩ := T.says.def_ 8 (d := d_News_told) rfl
  refine ⟨fd, F, fnD F sc_News_told (fun vs H Q E h => by
    obtain ⟨_, _, _, _, _, _, _, rfl, _⟩ := h
    rfl) fun cdv A outer s H vs Q E hr h => ?_⟩
  have hu := hu_of hr
  obtain ⟨b, s, d, l, xs, st, ps, rfl, hb, hE, hS, nd, ok, hl, tp, kk⟩ := h
  refine ⟨_, (pss_one (ps_for PassesOwn.never rfl (pi_list (pe_callTy (call_listD rfl) (by rfl) (fr_list T) (by decide +kernel) (pa_cons (pe_fld (pv 0) rfl) pa_nil))) (pg_name (i := 2) sc_News_told.nd rfl (by first | exact Or.inl rfl | exact Or.inr rfl)) (pss_cons (ps_asg (pe_dget hu (pe_fld (pv 0) rfl) (pv 2) (fun _ _ => rfl)) (pg_tup rfl (pgs_cons (pg_name (i := 3) sc_News_told.nd rfl (by first | exact Or.inl rfl | exact Or.inr rfl)) (pgs_cons (pg_name (i := 4) sc_News_told.nd rfl (by first | exact Or.inl rfl | exact Or.inr rfl)) pgs_nil)))) (pss_one (ps_if (pt_cmpR (op_inD hr.units65) (pv 3) (pv 1) rfl) (pss_one (ps_if (pt_cmpR op_lt (pe_op op_add (pv 4) pe_int) (pe_prpX c_Setting_cycle hr (by decide) pass0 (pe_fld (pv 0) rfl)) (nomark _)) (pss_one (ps_dput hu (pe_fld (pv 0) rfl) (pv 2) (pe_tup (pa_cons (pv 3) (pa_cons (pe_op op_add (pv 4) pe_int) pa_nil))) rfl)) (pss_one (ps_ddel (pe_fld (pv 0) rfl) (pv 2))))) pss_nil))))), ?_⟩
  rw [show L2.start n_News_told [.ref b, .ref l] = [some (.ref b), some (.ref l), none, none, none] from rfl]
  try dsimp only [cxOf, Cx.nox, Cx.wish, List.map]

  obtain ⟨dx, hb⟩ := hb
  have sok := hS.ok
  have hR := sok.r256
  have hd := hE.at_
  wtm_at "rd"
  refine ⟨d, _, rfl, .inl hd, fun r nr => ?_⟩
  rw [kvT_keys]
  have k1 : Kp [] H (upd H r (.lst (((xs.map (·.2)).map ek).map V.int))) := Kp.new nr
  have gl : upd H r (.lst (((xs.map (·.2)).map ek).map V.int)) r = some (.lst (((xs.map (·.2)).map ek).map V.int)) := upd_same
  have nlD : r ≠ d := fun e => ne_of_none hd nr e.symm
  have hE1 := hE.k0 k1
  have hl1 := hl.k0 k1
  have hb1 := k1.g0 hb
  have hS1 := hS.k0 k1
  generalize upd H r (.lst (((xs.map (·.2)).map ek).map V.int)) = H1 at k1 gl hE1 hl1 hb1 hS1

  wtm_at "rd"
  refine forL_by (K := K) (((xs.map (·.2)).map ek).map V.int) (fun i σ H2 => (∃ v2 v3 v4, σ = [some (.ref b), some (.ref l), v2, v3, v4]) ∧ (∃ zs, EN HO.tup H2 d zs ∧ keysE zs ∧ okE st.ring (st.bits * st.pat) zs ∧ ∀ k, lkE zs k = if k ∈ ((xs.map (·.2)).map ek).take i then tell (ps.map (·.2)) (st.bits * st.pat) (lkE xs) k else lkE xs k) ∧ Kp [d] H1 H2) ⟨⟨_, _, _, rfl⟩, ⟨xs, hE1, nd, ok, fun k => by simp⟩, Kp.refl⟩ (fun i σ H2 _ q => SqL.of (q.2.2.g1 nlD gl)) ?_ ?_
  · rintro i x σ H2 hx ⟨⟨v2, v3, v4, rfl⟩, ⟨zs, Z, nz, oz, lz⟩, k2⟩
    rw [List.getElem?_map] at hx
    obtain ⟨k, hk, rfl⟩ := Option.map_eq_some_iff.mp hx
    obtain ⟨hi, ek'⟩ := List.getElem?_eq_some_iff.mp hk
    have km := (List.mem_of_getElem? hk)
    have kn : k ∉ ((xs.map (·.2)).map ek).take i := fun m => by
      obtain ⟨j, hj, e⟩ := List.mem_take_iff_getElem.mp m
      have := (List.getElem_inj nd).mp (e.trans ek'.symm)
      omega
    obtain ⟨p0, hp0⟩ := fdT_key km
    obtain ⟨p, pm, hp, ep, es⟩ := lkE_some (xs := zs) (k := k) (z := p0.2.2) (by
      rw [lz, if_neg kn]
      unfold lkE
      rw [hp0]
      rfl)
    have hN : lkE xs k = some p.2.2 := by
      rw [ep]
      unfold lkE
      rw [hp0]
      rfl
    obtain ⟨op1, op2, op3⟩ := oz p pm
    have ks : ek p.2 = k := (fdT_some hp).2
    obtain ⟨g1, g2⟩ := Z.find hp
    have hd2 := Z.at_
    have lzz := lenK nz oz hR
    have len : (kvT ek zs).length < sizeLine := szlt (by
      rw [kvT_len]
      omega)
    have hl2 : SyL H2 l ps := hl1.kw k2 (fun q hq => by
      rw [List.mem_singleton.mp hq]
      exact .inl ⟨_, hE1.at_⟩) (by simp [ne_of hl1.at_ hE1.at_ (by intro z; cases z)])
    have nxt : ∀ {ys : ES} {j : Int}, (∀ j, lkE ys j = if j = k then (if p.2.2.1 ∈ ps.map (·.2) then (if p.2.2.2 + 1 < (st.bits * st.pat) then some (p.2.2.1, p.2.2.2 + 1) else none) else some p.2.2) else lkE zs j) → lkE ys j = if j ∈ ((xs.map (·.2)).map ek).take (i + 1) then tell (ps.map (·.2)) (st.bits * st.pat) (lkE xs) j else lkE xs j := fun {ys j} h => by
      rw [h j, List.take_succ_eq_append_getElem hi, ek']
      by_cases e : j = k
      · rw [if_pos e, if_pos (List.mem_append_right _ (List.mem_singleton.mpr e)), e]
        unfold tell
        rw [hN]
      · rw [if_neg e, lz]
        by_cases m : j ∈ ((xs.map (·.2)).map ek).take i
        · rw [if_pos m, if_pos (List.mem_append_left _ m)]
        · rw [if_neg m, if_neg (fun z => (List.mem_append.mp z).elim m fun z => e (List.mem_singleton.mp z))]
    have hb2 := k2.g1 (ne_of hb1 hE1.at_ (by intro z; cases z)) hb1
    have hS2 := hS1.k1 k2 (hS1.nedK hE1.at_)
    obtain ⟨⟨dxs, hs2⟩, _⟩ := id hS2
    wtm_at "rd"
    refine rd_dgetX (dg_iv hd2 (by rw [kvT_val, hp]; rfl)) ?_
    wtm_at "rd"
    refine rd_inSy g2 hl2 (Sy.T.of op1) tp ?_
    wtm_at "rd"
    refine ite_d (fun hc => ?_) (fun hc => ?_)
    rotate_left
    · wtm_at "rd"
      refine ⟨⟨_, _, _, rfl⟩, ⟨zs, Z, nz, oz, fun j => nxt fun j => ?_⟩, k2⟩
      by_cases e : j = k
      · rw [if_pos e, if_neg hc, e, lz, if_neg kn, hN]
      · rw [if_neg e]
    wtm_at "rd"
    refine us_Setting_cycle hS2 ?_
    wtm_at "rd"
    refine ite_d (fun hc2 => ?_) (fun hc2 => ?_)
    · wtm_at "rd"
      refine ⟨sz1000 (by simp), fun a na => ?_⟩
      have k3 : Kp [] H2 (upd H2 a (.tup [.ref p.2.1, .int (p.2.2.2 + 1)])) := Kp.new na
      have ga3 : upd H2 a (.tup [.ref p.2.1, .int (p.2.2.2 + 1)]) a = some (.tup [.ref p.2.1, .int (p.2.2.2 + 1)]) := upd_same
      have Z3 := Z.k0 k3
      have hb3 := k3.g0 hb2
      have g23 := k3.g0 g2
      generalize upd H2 a (.tup [.ref p.2.1, .int (p.2.2.2 + 1)]) = H3 at k3 ga3 Z3 hb3 g23
      have hd3 := Z3.at_
      wtm_at "rd"
      have e := kvT_put ek zs (a, (p.2.1, p.2.2.1, p.2.2.2 + 1))
      have Z4 := Z3.put mkT (p := (a, (p.2.1, p.2.2.1, p.2.2.2 + 1))) ga3 g23
      rw [← e, show ek ((a, (p.2.1, p.2.2.1, p.2.2.2 + 1)) : Addr × Ent).2 = k from ks] at Z4
      refine ⟨⟨_, _, _, rfl⟩, ⟨_, Z4, keysE_put nz _, fun q hq => ?_, fun j => nxt fun j => ?_⟩, (k2.trans k3.of0).wr (by simp)⟩
      · rcases ptT_mem hq with rfl | m
        · exact ⟨op1, by show 0 ≤ p.2.2.2 + 1; omega, hc2⟩
        · exact oz q m
      · rw [lkE_put, show ek ((a, (p.2.1, p.2.2.1, p.2.2.2 + 1)) : Addr × Ent).2 = k from ks]
        by_cases e : j = k
        · rw [if_pos e, if_pos e, if_pos hc, if_pos hc2]
        · rw [if_neg e, if_neg e]
    · wtm_at "rd"
      refine rd_ddel ?_
      wtm_at "rd"
      refine ⟨d, _, .inl k, rfl, hd2, rfl, by rw [kvT_val, hp]; rfl, ?_⟩
      rw [kvT_drop]
      wtm_at "rd"
      refine ⟨⟨_, _, _, rfl⟩, ⟨_, Z.drop mkT, keysE_drop nz _, fun q hq => oz q (List.mem_filter.mp hq).1, fun j => nxt fun j => ?_⟩, k2.wr (by simp)⟩
      rw [lkE_drop]
      by_cases e : j = k
      · rw [if_pos e, if_pos e, if_pos hc, if_neg hc2]
      · rw [if_neg e, if_neg e]
  rintro σ H2 ⟨⟨v2, v3, v4, rfl⟩, ⟨zs, Z, nz, oz, lz⟩, k2⟩
  rw [List.length_map, List.take_length] at lz
  wtm_at "rd"
  refine kk zs H2 Z nz oz ?_ (k1.of0.trans k2)
  funext j
  rw [lz]
  by_cases m : j ∈ ((xs.map (·.2)).map ek)
  · rw [if_pos m]
  · rw [if_neg m]
    have : lkE xs j = none := by
      cases e : lkE xs j with
      | none => rfl
      | some z =>
        obtain ⟨q, qm, _, _, e2⟩ := lkE_some e
        have h1 : ek q.2 ∈ ((xs.map (·.2)).map ek) := List.mem_map_of_mem (List.mem_map_of_mem qm)
        have h2 : ek q.2 = j := by
          obtain ⟨q', _, h3, h4, h5⟩ := lkE_some e
          have : q.2.2.1.s = j := by
            have h6 := lkE_some e
            rw [show q.2.2 = z by assumption]
            exact e2
          exact this
        exact absurd (h2 ▸ h1) (m)
    unfold tell
    rw [this]
theorem c_News_told (T : Cx K mg) (B : Tb P w K mg base) : MetX P w K mg base CX0 3 (ga K "News") "told" (sp_News_told K) [] := by
  obtain ⟨fd, F, ok⟩ := f_News_told (P := P) (w := w) (base := base) T B
  exact ⟨_, fd, p_News_told, [], cl_News T, mt_News_told T, ok, FunD.bindsN F fun _ _ _ _ _ _ us hl => match us, hl with | [_, _], _ => rfl, .nil⟩
end
section
variable {P : Program} {w : World} {K : PySem.W.Frag} {mg : Str → Option Value} {base : Heap}
def sp_l_box (K : PySem.W.Frag) : Sp := fun vs H Q E => ∃ (s : Addr) (ns : List Int) (k : Int), vs = [.ref s, .int k] ∧ (SqL K H s (ns.map V.int)) ∧ (ns.length ≤ 63) ∧ (0 ≤ k) ∧ (∀ p H1, BoxB H1 p → Kp [] H H1 → H p = none → Q (.ref p) H1)
theorem us_l_box {K : PySem.W.Frag} {H : Hp} {Q : VK} {E : XK} {s : Addr} {ns : List Int} {k : Int} (hS : SqL K H s (ns.map V.int)) (hl : ns.length ≤ 63) (k0 : 0 ≤ k) (kk : ∀ p H1, BoxB H1 p → Kp [] H H1 → H p = none → Q (.ref p) H1) : sp_l_box K [.ref s, .int k] H Q E := ⟨_, _, _, rfl, hS, hl, k0, kk⟩
theorem f_l_box (T : Cx K mg) (B : Tb P w K mg base) : ∃ fd, FunD K "_law_box" "_law_box" (defArgs s_l_box) (defBody s_l_box) (defScope s_l_box) (d_l_box.dvs K) (d_l_box.kws K) (fAd K d_l_box.at_) fd ∧ FnOk P w K mg base CX0 1 (fAd K d_l_box.at_) fd p_l_box (sp_l_box K) := by
  obtain ⟨fd, F⟩ := T.says.def_ 9 (d := d_l_box) rfl
  refine ⟨fd, F, fnD F sc_l_box (fun vs H Q E h => by
    obtain ⟨_, _, _, rfl, _⟩ := h
    rfl) fun cdv A outer s H vs Q E hr h => ?_⟩
  have hu := hu_of hr
  obtain ⟨s, ns, k, rfl, hS, hl, k0, kk⟩ := h
  refine ⟨_, (pss_cons (ps_set (i := 2) sc_l_box.nd rfl (by first | exact Or.inl rfl | exact Or.inr rfl) (pe_op op_add (pe_op op_mul (pe_op op_mod (pe_callTy call_int1' (by rfl) (fr_int T) (by decide +kernel) (pa_cons (pe_callB (cr_sum rfl) (by rfl) (fr_sum T) (by decide +kernel) (pa_cons (pe_slice sl_list (pv 0) po_none (po_some pe_int)) pa_nil)) pa_nil)) pe_int) pe_int) (pv 1))) (C8.pss_cut (ps_if (pt_cmpR op_lt (pv 1) (pe_callB call_lenS (by rfl) (fr_len T) (by decide +kernel) (pa_cons (pv 0) pa_nil)) (nomark _)) (pss_one (ps_set (i := 2) sc_l_box.nd rfl (by first | exact Or.inl rfl | exact Or.inr rfl) (pe_ix ix_list (pv 0) (pv 1) (fun _ _ => rfl)))) pss_nil) (pss_cons (ps_set (i := 2) sc_l_box.nd rfl (by first | exact Or.inl rfl | exact Or.inr rfl) (pe_callB call_abs' (by rfl) (fr_abs T) (by decide +kernel) (pa_cons (pe_callTy call_int1' (by rfl) (fr_int T) (by decide +kernel) (pa_cons (pv 2) pa_nil)) pa_nil))) (pss_cons (ps_if (pt_cmpR op_lt (pv 2) (pe_op op_pow pe_int pe_int) (nomark _)) (pss_one (ps_ret (pe_lst (pa_cons (pv 2) (pa_cons pe_int (pa_cons (pv 1) pa_nil)))))) pss_nil) (pss_one (ps_ret (pe_lst (pa_cons (pe_op op_mod (pe_callTy call_int1' (by rfl) (fr_int T) (by decide +kernel) (pa_cons (pv 2) pa_nil)) pe_int) (pa_cons (pv 2) (pa_cons (pv 1) pa_nil)))))))))), ?_⟩
  rw [show L2.start n_l_box [.ref s, .int k] = [some (.ref s), some (.int k), none] from rfl]
  try dsimp only [cxOf, Cx.nox, Cx.wish, List.map]

  wtm_at "rd"
  intro q nq
  have e : cutV (ns.map V.int) none (some 2) = (ns.take 2).map V.int := by
    rw [show (2 : Int) = ((2 : Nat) : Int) from rfl, cut_to, List.map_take]
  rw [e]
  have hq : upd H q (.lst ((ns.take 2).map V.int)) q = some (.lst ((ns.take 2).map V.int)) := upd_same
  have k1 : Kp [] H (upd H q (.lst ((ns.take 2).map V.int))) := Kp.new nq
  have hS1 : SqL K (upd H q (.lst ((ns.take 2).map V.int))) s (ns.map V.int) := sl_kp k1 (by simp) hS
  generalize upd H q (.lst ((ns.take 2).map V.int)) = H1 at hq k1 hS1
  wtm_at "rd"
  refine rd_sumL (SqL.of hq) ?_
  wtm_at "rd"
  refine rd_cut (fun σ H2 => (∃ z : Int, σ = [some (.ref s), some (.int k), some (.int z)]) ∧ H2 = H1) ?_ ?_
  · wtm_at "rd"
    refine ite_d (fun h => ?_) (fun h => ?_)
    · wtm_at "rd"
      exact ⟨⟨_, rfl⟩, rfl⟩
    · wtm_at "rd"
      exact ⟨⟨_, rfl⟩, rfl⟩
  rintro σ H2 ⟨⟨z, rfl⟩, rfl⟩
  wtm_at "rd"
  generalize (10 : Int) ^ Int.toNat 18 = m18
  refine ite_d (fun h => ?_) (fun h => ?_)
  · wtm_at "rd"
    refine ⟨sz1000 (by simp), fun p np => ?_⟩
    exact kk p _ ⟨_, _, _, upd_same⟩ (k1.nw np) (k1.back np (by simp))
  · wtm_at "rd"
    refine ⟨sz1000 (by simp), fun p np => ?_⟩
    exact kk p _ ⟨_, _, _, upd_same⟩ (k1.nw np) (k1.back np (by simp))
theorem c_l_box (T : Cx K mg) (B : Tb P w K mg base) : CalX P w K mg base CX0 1 "_law_box" (sp_l_box K) [] := by
  obtain ⟨fd, F, ok⟩ := f_l_box (P := P) (w := w) (base := base) T B
  exact ⟨_, fd, p_l_box, [], ok, gl_l_box T, F.kp, FunD.bindsN F fun _ _ _ _ _ _ us hl => match us, hl with | [_, _], _ => rfl, .nil⟩
end
section
variable {P : Program} {w : World} {K : PySem.W.Frag} {mg : Str → Option Value} {base : Heap}
def sp_l_take (K : PySem.W.Frag) : Sp := fun vs H Q E => ∃ (p : Addr) (top : Int), vs = [.ref p, .int top] ∧ (BoxB H p) ∧ (0 < top) ∧ (top ≤ 10 ^ 60) ∧ (∀ n H1, 0 ≤ n → n < top → BoxB H1 p → Kp [p] H H1 → Q (.int n) H1)
theorem us_l_take {K : PySem.W.Frag} {H : Hp} {Q : VK} {E : XK} {p : Addr} {top : Int} (hB : BoxB H p) (ht0 : 0 < top) (ht1 : top ≤ 10 ^ 60) (kk : ∀ n H1, 0 ≤ n → n < top → BoxB H1 p → Kp [p] H H1 → Q (.int n) H1) : sp_l_take K [.ref p, .int top] H Q E := ⟨_, _, rfl, hB, ht0, ht1, kk⟩
theorem f_l_take (T : Cx K mg) (B : Tb P w K mg base) : ∃ fd, FunD K "_law_take" "_law_take" (defArgs s_l_take) (defBody s_l_take) (defScope s_l_take) (d_l_take.dvs K) (d_l_take.kws K) (fAd K d_l_take.at_) fd ∧ FnOk P w K mg base CX0 1 (fAd K d_l_take.at_) fd p_l_take (sp_l_take K) := by
  obtain ⟨fd, F⟩ := T.says.def_ 10 (d := d_l_take) rfl
  refine ⟨fd, F, fnD F sc_l_take (fun vs H Q E h => by
    obtain ⟨_, _, rfl, _⟩ := h
    rfl) fun cdv A outer s H vs Q E hr h => ?_⟩
  have hu := hu_of hr
  obtain ⟨p, top, rfl, hB, ht0, ht1, kk⟩ := h
  refine ⟨_, (pss_cons (ps_if (pt_cmpR op_gt (pe_ix ix_list (pv 0) pe_int (fun _ _ => rfl)) pe_int (nomark _)) (pss_cons (ps_set (i := 2) sc_l_take.nd rfl (by first | exact Or.inl rfl | exact Or.inr rfl) (pe_op op_mod (pe_callTy call_int1' (by rfl) (fr_int T) (by decide +kernel) (pa_cons (pe_ix ix_list (pv 0) pe_int (fun _ _ => rfl)) pa_nil)) (pv 1))) (pss_cons (ps_asg (pe_op op_fdivW (pe_callTy call_int1' (by rfl) (fr_int T) (by decide +kernel) (pa_cons (pe_ix ix_list (pv 0) pe_int (fun _ _ => rfl)) pa_nil)) (pv 1)) (pg_sub (pv 0) pe_int set_list)) (pss_one (ps_ret (pv 2))))) pss_nil) (pss_cons (ps_asg (pe_op op_add (pe_ix ix_list (pv 0) pe_int (fun _ _ => rfl)) pe_int) (pg_sub (pv 0) pe_int set_list)) (pss_cons (ps_set (i := 3) sc_l_take.nd rfl (by first | exact Or.inl rfl | exact Or.inr rfl) (pe_op op_mod (pe_callTy call_int1' (by rfl) (fr_int T) (by decide +kernel) (pa_cons (pe_op op_add (pe_op op_add (pe_op op_mul (pe_ix ix_list (pv 0) pe_int (fun _ _ => rfl)) pe_int) (pe_op op_mul (pe_ix ix_list (pv 0) pe_int (fun _ _ => rfl)) pe_int)) pe_int) pa_nil)) pe_int)) (pss_cons (ps_set (i := 4) sc_l_take.nd rfl (by first | exact Or.inl rfl | exact Or.inr rfl) (pe_op op_mod (pe_callTy call_int1' (by rfl) (fr_int T) (by decide +kernel) (pa_cons (pe_op op_add (pe_op op_add (pe_op op_mul (pv 3) (pv 3)) (pe_op op_mul (pe_ix ix_list (pv 0) pe_int (fun _ _ => rfl)) pe_int)) pe_int) pa_nil)) pe_int)) (pss_cons (ps_set (i := 5) sc_l_take.nd rfl (by first | exact Or.inl rfl | exact Or.inr rfl) (pe_op op_mod (pe_callTy call_int1' (by rfl) (fr_int T) (by decide +kernel) (pa_cons (pe_op op_add (pe_op op_add (pe_op op_mul (pv 4) (pv 4)) (pe_op op_mul (pv 3) pe_int)) pe_int) pa_nil)) pe_int)) (pss_one (ps_ret (pe_op op_mod (pe_callTy call_int1' (by rfl) (fr_int T) (by decide +kernel) (pa_cons (pe_op op_fdiv (pv 5) pe_int) pa_nil)) (pv 1))))))))), ?_⟩
  rw [show L2.start n_l_take [.ref p, .int top] = [some (.ref p), some (.int top), none, none, none, none] from rfl]
  try dsimp only [cxOf, Cx.nox, Cx.wish, List.map]

  obtain ⟨a, b, c, hp⟩ := hB
  wtm_at "rd"
  refine ite_d (fun h => ?_) (fun h => ?_)
  · wtm_at "rd"
    refine rd_I (wide200 ht0 ht1) ?_
    wtm_at "rd"
    exact kk _ _ (Int.emod_nonneg _ (by omega)) (Int.emod_lt_of_pos _ ht0) ⟨_, _, _, upd_same⟩ (Kp.refl.wr (by simp))
  · wtm_at "rd"
    exact kk _ _ (Int.emod_nonneg _ (by omega)) (Int.emod_lt_of_pos _ ht0) ⟨_, _, _, upd_same⟩ (Kp.refl.wr (by simp))
theorem c_l_take (T : Cx K mg) (B : Tb P w K mg base) : CalX P w K mg base CX0 1 "_law_take" (sp_l_take K) [] := by
  obtain ⟨fd, F, ok⟩ := f_l_take (P := P) (w := w) (base := base) T B
  exact ⟨_, fd, p_l_take, [], ok, gl_l_take T, F.kp, FunD.bindsN F fun _ _ _ _ _ _ us hl => match us, hl with | [_, _], _ => rfl, .nil⟩
end
section
variable {P : Program} {w : World} {K : PySem.W.Frag} {mg : Str → Option Value} {base : Heap}
def sp_l_marks (K : PySem.W.Frag) : Sp := fun vs H Q E => vs = [] ∧ (∀ t H1, TupF H1 t (MK.map V.str) → Kp [] H H1 → H t = none → Q (.ref t) H1)
theorem us_l_marks {K : PySem.W.Frag} {H : Hp} {Q : VK} {E : XK}   (kk : ∀ t H1, TupF H1 t (MK.map V.str) → Kp [] H H1 → H t = none → Q (.ref t) H1) : sp_l_marks K [] H Q E := ⟨rfl, kk⟩
theorem f_l_marks (T : Cx K mg) (B : Tb P w K mg base) : ∃ fd, FunD K "_law_marks" "_law_marks" (defArgs s_l_marks) (defBody s_l_marks) (defScope s_l_marks) (d_l_marks.dvs K) (d_l_marks.kws K) (fAd K d_l_marks.at_) fd ∧ FnOk P w K mg base CX0 1 (fAd K d_l_marks.at_) fd p_l_marks (sp_l_marks K) := by
  obtain ⟨fd, F⟩ := T.says.def_ 11 (d := d_l_marks) rfl
  refine ⟨fd, F, fnD F sc_l_marks (fun vs H Q E h => by
    obtain ⟨rfl, _⟩ := h
    rfl) fun cdv A outer s H vs Q E hr h => ?_⟩
  have hu := hu_of hr
  obtain ⟨rfl, kk⟩ := h
  refine ⟨_, (pss_one (ps_ret (pe_tupF (pa_cons pe_str (pa_cons pe_str (pa_cons pe_str (pa_cons pe_str pa_nil))))))), ?_⟩
  rw [show L2.start n_l_marks [] = [] from rfl]
  try dsimp only [cxOf, Cx.nox, Cx.wish, List.map]

  wtm_at "rd"
  refine ⟨sz1000 (by simp), fun t o h1 h2 nt => ?_⟩
  exact kk t _ ⟨o, h1, h2, upd_same⟩ (Kp.new nt) nt
theorem c_l_marks (T : Cx K mg) (B : Tb P w K mg base) : CalX P w K mg base CX0 1 "_law_marks" (sp_l_marks K) [] := by
  obtain ⟨fd, F, ok⟩ := f_l_marks (P := P) (w := w) (base := base) T B
  exact ⟨_, fd, p_l_marks, [], ok, gl_l_marks T, F.kp, FunD.bindsN F fun _ _ _ _ _ _ us hl => match us, hl with | [], _ => rfl, .nil⟩
end
section
variable {P : Program} {w : World} {K : PySem.W.Frag} {mg : Str → Option Value} {base : Heap}
def sp_l_rank (K : PySem.W.Frag) : Sp := fun vs H Q E => ∃ (v : V) (o : Option Sy), vs = [v] ∧ (IsY H v o) ∧ (∀ y, o = some y → y.m ∈ MK) ∧ (∀ H1, Kp [] H H1 → Q (.int (rkO o)) H1)
theorem us_l_rank {K : PySem.W.Frag} {H : Hp} {Q : VK} {E : XK} {v : V} {o : Option Sy} (hv : IsY H v o) (hm : ∀ y, o = some y → y.m ∈ MK) (kk : ∀ H1, Kp [] H H1 → Q (.int (rkO o)) H1) : sp_l_rank K [v] H Q E := ⟨_, _, rfl, hv, hm, kk⟩
theorem f_l_rank (T : Cx K mg) (B : Tb P w K mg base) : ∃ fd, FunD K "_law_rank" "_law_rank" (defArgs s_l_rank) (defBody s_l_rank) (defScope s_l_rank) (d_l_rank.dvs K) (d_l_rank.kws K) (fAd K d_l_rank.at_) fd ∧ FnOk P w K mg base CX0 2 (fAd K d_l_rank.at_) fd p_l_rank (sp_l_rank K) := by
  have c_l_marks := c_l_marks (P := P) (w := w) (base := base) T B
  obtain ⟨fd, F⟩ := T.says.def_ 12 (d := d_l_rank) rfl
  refine ⟨fd, F, fnD F sc_l_rank (fun vs H Q E h => by
    obtain ⟨_, _, rfl, _⟩ := h
    rfl) fun cdv A outer s H vs Q E hr h => ?_⟩
  have hu := hu_of hr
  obtain ⟨v, o, rfl, hv, hm, kk⟩ := h
  refine ⟨_, (pss_cons (ps_if (pt_cmp (pc_isN (pv 0))) (pss_one (ps_ret pe_int)) pss_nil) (pss_one (ps_ret (pe_op op_add (pe_op op_add (pe_op op_mul pe_int (pe_ix ix_tup (pv 0) pe_int (fun _ _ => rfl))) (pe_bmT PySem.F.plainAttrs_tuple PySem.F.slot_tuple_index PySem.F.type_tuple_index mt_tupIdx (pe_cal0 c_l_marks hr (by decide) (by rfl) pass0) (pa_cons (pe_ix ix_tup (pv 0) pe_int (fun _ _ => rfl)) pa_nil))) pe_int)))), ?_⟩
  rw [show L2.start n_l_rank [v] = [some (v)] from rfl]
  try dsimp only [cxOf, Cx.nox, Cx.wish, List.map]

  cases o with
  | none =>
    obtain rfl : v = .non := hv
    wtm_at "rd"
    exact kk _ Kp.refl
  | some y =>
    obtain ⟨t, rfl, ht⟩ := hv
    unfold SyAt Sy.tup at ht
    obtain ⟨j, e1, e2, e3⟩ := mk_index (hm y rfl)
    wtm_at "rd"
    refine us_l_marks fun t2 H1 h2 k1 n1 => ?_
    have ht1 := k1.g0 ht
    wtm_at "rd"
    refine rd_tidx h2.sq e1 e2 ?_
    wtm_at "rd"
    rw [show 4 * y.l + (j : Int) + 1 = rkO (some y) by
      show _ = 4 * y.l + stepM y.m
      omega]
    exact kk _ k1
theorem c_l_rank (T : Cx K mg) (B : Tb P w K mg base) : CalX P w K mg base CX0 2 "_law_rank" (sp_l_rank K) [] := by
  obtain ⟨fd, F, ok⟩ := f_l_rank (P := P) (w := w) (base := base) T B
  exact ⟨_, fd, p_l_rank, [], ok, gl_l_rank T, F.kp, FunD.bindsN F fun _ _ _ _ _ _ us hl => match us, hl with | [_], _ => rfl, .nil⟩
end
section
variable {P : Program} {w : World} {K : PySem.W.Frag} {mg : Str → Option Value} {base : Heap}
def sp_l_life (K : PySem.W.Frag) : Sp := fun vs H Q E => ∃ (p : Addr), vs = [.ref p] ∧ (BoxB H p) ∧ (∀ n H1, 0 ≤ n → n ≤ MOST → BoxB H1 p → Kp [p] H H1 → Q (.int n) H1)
theorem us_l_life {K : PySem.W.Frag} {H : Hp} {Q : VK} {E : XK} {p : Addr} (hB : BoxB H p) (kk : ∀ n H1, 0 ≤ n → n ≤ MOST → BoxB H1 p → Kp [p] H H1 → Q (.int n) H1) : sp_l_life K [.ref p] H Q E := ⟨_, rfl, hB, kk⟩
theorem f_l_life (T : Cx K mg) (B : Tb P w K mg base) : ∃ fd, FunD K "_law_life" "_law_life" (defArgs s_l_life) (defBody s_l_life) (defScope s_l_life) (d_l_life.dvs K) (d_l_life.kws K) (fAd K d_l_life.at_) fd ∧ FnOk P w K mg base CX0 2 (fAd K d_l_life.at_) fd p_l_life (sp_l_life K) := by
  have c_l_take := c_l_take (P := P) (w := w) (base := base) T B
  obtain ⟨fd, F⟩ := T.says.def_ 13 (d := d_l_life) rfl
  refine ⟨fd, F, fnD F sc_l_life (fun vs H Q E h => by
    obtain ⟨_, rfl, _⟩ := h
    rfl) fun cdv A outer s H vs Q E hr h => ?_⟩
  have hu := hu_of hr
  obtain ⟨p, rfl, hB, kk⟩ := h
  refine ⟨_, (pss_cons (ps_set (i := 1) sc_l_life.nd rfl (by first | exact Or.inl rfl | exact Or.inr rfl) (pe_cal c_l_take hr (by decide) (by rfl) pass0 (pa_cons (pv 0) (pa_cons pe_int pa_nil)))) (pss_cons (ps_if (pt_cmpR op_lt (pv 1) pe_int (nomark _)) (pss_one (ps_ret (pe_cal c_l_take hr (by decide) (by rfl) pass0 (pa_cons (pv 0) (pa_cons pe_int pa_nil))))) pss_nil) (pss_cons (ps_if (pt_cmpR op_eq (pv 1) pe_int (nomark _)) (pss_one (ps_ret (pe_op op_sub (pe_callTy call_intStr (by rfl) (fr_int T) (by decide +kernel) (pa_cons (pe_op op_mulC pe_str (pe_op op_add pe_int (pe_cal c_l_take hr (by decide) (by rfl) pass0 (pa_cons (pv 0) (pa_cons pe_int pa_nil))))) pa_nil)) (pe_cal c_l_take hr (by decide) (by rfl) pass0 (pa_cons (pv 0) (pa_cons pe_int pa_nil)))))) pss_nil) (pss_one (ps_ret (pe_cal c_l_take hr (by decide) (by rfl) pass0 (pa_cons (pv 0) (pa_cons (pe_op op_pow pe_int pe_int) pa_nil)))))))), ?_⟩
  rw [show L2.start n_l_life [.ref p] = [some (.ref p), none] from rfl]
  try dsimp only [cxOf, Cx.nox, Cx.wish, List.map]

  have hmost : MOST = 999999999999999999999999999999999999999999999999999999999999 := by decide +kernel
  wtm_at "rd"
  refine us_l_take hB (by decide) (by decide) fun n H1 n0 n1 B1 k1 => ?_
  wtm_at "rd"
  refine ite_d (fun h => ?_) (fun h => ?_)
  · wtm_at "rd"
    refine us_l_take B1 (by decide) (by decide) fun m H2 m0 m1 B2 k2 => ?_
    exact kk _ _ m0 (by omega) B2 (k1.trans k2)
  wtm_at "rd"
  refine ite_d (fun h => ?_) (fun h => ?_)
  · wtm_at "rd"
    refine us_l_take B1 (by decide) (by decide) fun m H2 m0 m1 B2 k2 => ?_
    wtm_at "rd"
    rw [show ("9" : Str) = ⟨#[57]⟩ by decide +kernel]
    obtain ⟨j, rfl⟩ := Int.eq_ofNat_of_zero_le m0
    wtm_at "rd"
    rw [show (1 + (j : Int)).toNat = j + 1 by omega]
    have hn := nines ⟨j, by omega⟩
    refine rd_intStr hn (by
      show (List.replicate (j + 1) 57).toArray.size ≤ 640
      rw [List.size_toArray, List.length_replicate]
      omega) ?_
    wtm_at "rd"
    refine us_l_take B2 (by decide) (by decide) fun z H3 z0 z1 B3 k3 => ?_
    wtm_at "rd"
    have ⟨p1, p2⟩ := tens ⟨j, by omega⟩
    simp only at p1 p2
    have p3 : (10 : Int) ^ 60 = 1000000000000000000000000000000000000000000000000000000000000 := by decide +kernel
    exact kk _ _ (by show 0 ≤ (10 : Int) ^ (j + 1) - 1 - z; omega) (by show (10 : Int) ^ (j + 1) - 1 - z ≤ MOST; omega) B3 ((k1.trans k2).trans k3)
  · wtm_at "rd"
    refine us_l_take B1 (by decide) (by decide) fun m H2 m0 m1 B2 k2 => ?_
    have p3 : (10 : Int) ^ (60 : Int).toNat = 1000000000000000000000000000000000000000000000000000000000000 := by decide +kernel
    exact kk _ _ m0 (by omega) B2 (k1.trans k2)
theorem c_l_life (T : Cx K mg) (B : Tb P w K mg base) : CalX P w K mg base CX0 2 "_law_life" (sp_l_life K) [] := by
  obtain ⟨fd, F, ok⟩ := f_l_life (P := P) (w := w) (base := base) T B
  exact ⟨_, fd, p_l_life, [], ok, gl_l_life T, F.kp, FunD.bindsN F fun _ _ _ _ _ _ us hl => match us, hl with | [_], _ => rfl, .nil⟩
end
section
variable {P : Program} {w : World} {K : PySem.W.Frag} {mg : Str → Option Value} {base : Heap}
def sp_l_worth (K : PySem.W.Frag) : Sp := fun vs H Q E => ∃ (p : Addr), vs = [.ref p] ∧ (BoxB H p) ∧ (∀ (w : Str) H1, wOk w = true → BoxB H1 p → Kp [p] H H1 → Q (.str w) H1)
theorem us_l_worth {K : PySem.W.Frag} {H : Hp} {Q : VK} {E : XK} {p : Addr} (hB : BoxB H p) (kk : ∀ (w : Str) H1, wOk w = true → BoxB H1 p → Kp [p] H H1 → Q (.str w) H1) : sp_l_worth K [.ref p] H Q E := ⟨_, rfl, hB, kk⟩
theorem f_l_worth (T : Cx K mg) (B : Tb P w K mg base) : ∃ fd, FunD K "_law_worth" "_law_worth" (defArgs s_l_worth) (defBody s_l_worth) (defScope s_l_worth) (d_l_worth.dvs K) (d_l_worth.kws K) (fAd K d_l_worth.at_) fd ∧ FnOk P w K mg base CX0 2 (fAd K d_l_worth.at_) fd p_l_worth (sp_l_worth K) := by
  have c_l_take := c_l_take (P := P) (w := w) (base := base) T B
  obtain ⟨fd, F⟩ := T.says.def_ 14 (d := d_l_worth) rfl
  refine ⟨fd, F, fnD F sc_l_worth (fun vs H Q E h => by
    obtain ⟨_, rfl, _⟩ := h
    rfl) fun cdv A outer s H vs Q E hr h => ?_⟩
  have hu := hu_of hr
  obtain ⟨p, rfl, hB, kk⟩ := h
  refine ⟨_, (pss_cons (ps_set (i := 1) sc_l_worth.nd rfl (by first | exact Or.inl rfl | exact Or.inr rfl) pe_str) (pss_cons (ps_set (i := 2) sc_l_worth.nd rfl (by first | exact Or.inl rfl | exact Or.inr rfl) (pe_cal c_l_take hr (by decide) (by rfl) pass0 (pa_cons (pv 0) (pa_cons pe_int pa_nil)))) (C8.pss_cut (ps_if (pt_cmpR op_eq (pv 2) pe_int (nomark _)) (pss_one (ps_set (i := 2) sc_l_worth.nd rfl (by first | exact Or.inl rfl | exact Or.inr rfl) (pe_op op_add pe_int (pe_cal c_l_take hr (by decide) (by rfl) pass0 (pa_cons (pv 0) (pa_cons pe_int pa_nil)))))) pss_nil) (pss_one (ps_ret (pe_join' pe_str (pe_lc (own := [("_law_k", 3)]) (g := (gName 3)) (tt := tYes) rfl sc_l_worth.nd (pi_range1 (by rfl) (fr_range T) (pa_cons (pv 2) pa_nil)) (blkOk_by (own := [("_law_k", 3)]) (N := n_l_worth) (sc := defScope s_l_worth) (by decide +kernel)) (fun _ _ _ _ _ => (pg_name (i := 3) sc_l_worth.nd rfl (by first | exact Or.inl rfl | exact Or.inr rfl))) (fun _ _ _ _ _ => pts_nil) (fun _ _ _ _ _ => (pe_ix ix_str (pv 1) (pe_cal c_l_take hr (by decide) (by rfl) pass0 (pa_cons (pv 0) (pa_cons pe_int pa_nil))) (fun _ _ => rfl)))))))))), ?_⟩
  rw [show L2.start n_l_worth [.ref p] = [some (.ref p), none, none, none] from rfl]
  try dsimp only [cxOf, Cx.nox, Cx.wish, List.map]

  wtm_at "rd"
  refine us_l_take hB (by decide) (by decide) fun n H1 n0 n1 B1 k1 => ?_
  wtm_at "rd"
  refine rd_cut (fun σ H2 => (∃ z : Int, σ = [some (.ref p), some (.str SIGNS), some (.int z), none] ∧ 0 ≤ z ∧ z ≤ 12) ∧ BoxB H2 p ∧ Kp [p] H H2) ?_ ?_
  · wtm_at "rd"
    refine ite_d (fun h => ?_) (fun h => ?_)
    · wtm_at "rd"
      refine us_l_take B1 (by decide) (by decide) fun m H2 m0 m1 B2 k2 => ?_
      wtm_at "rd"
      exact ⟨⟨_, rfl, by omega, by omega⟩, B2, k1.trans k2⟩
    · wtm_at "rd"
      exact ⟨⟨_, rfl, by omega, by omega⟩, B1, k1⟩
  rintro σ H2 ⟨⟨z, rfl, z0, z1⟩, B2, k2⟩
  wtm_at "rd"
  intro D nD
  have nDp : D ≠ p := fun e => B2.ne nD e.symm
  refine lcR_by (fun i H' => (∃ cs : List Nat, H' D = some (.lst (cs.map fun c => V.str ⟨#[c]⟩)) ∧ cs.length = i ∧ ∀ c, c ∈ cs → c ∈ SIGNS.cps.toList) ∧ BoxB H' p ∧ Kp [p] H2 H') ⟨⟨[], upd_same, rfl, fun c hc => by cases hc⟩, B2.new nD, Kp.new nD⟩ (fun i H' hi q => ?_) (fun H' q => ?_)
  · obtain ⟨⟨cs, q1, q2, q3⟩, B3, k3⟩ := q
    wtm_at "rd"
    refine ⟨rfl, ?_⟩
    wtm_at "rd"
    refine us_l_take B3 (by decide) (by decide) fun m H4 m0 m1 B4 k4 => ?_
    obtain ⟨c, hc, hat⟩ := lets_at m0 m1
    wtm_at "rd"
    refine rd_ixS (sz1000 (show SIGNS.length ≤ 1000000 by decide +kernel)) hat ?_
    exact ⟨_, k4.g1 nDp q1, szlt (by rw [List.length_map]; omega), ⟨cs ++ [c], by rw [upd_same, List.map_append]; rfl, by rw [List.length_append, q2]; rfl, fun y hy => by
      rcases List.mem_append.mp hy with m | m
      · exact q3 y m
      · rw [List.mem_singleton.mp m]
        exact hc⟩, B4.ofL (Ne.symm nDp), (k3.trans k4).mine nD⟩
  · obtain ⟨⟨cs, q1, q2, q3⟩, B3, k3⟩ := q
    have hl : cs.length ≤ 12 := by omega
    wtm_at "rd"
    refine rd_join (ys := cs.map fun c => (⟨#[c]⟩ : Str)) (by rw [q1, List.map_map]; rfl) ?_ ?_
    · rw [show (("" : Str)).length = 0 from rfl, Nat.mul_zero, Nat.add_zero, List.map_map]
      rw [show (fun x : Str => x.length) ∘ (fun c => (⟨#[c]⟩ : Str)) = fun _ => 1 from rfl, List.map_const', List.sum_replicate_nat]
      omega
    · rw [show ("" : Str) = (⟨#[]⟩ : Str) from rfl, join1]
      exact kk _ _ (wOk_of hl q3) B3 (k2.trans k3)
theorem c_l_worth (T : Cx K mg) (B : Tb P w K mg base) : CalX P w K mg base CX0 2 "_law_worth" (sp_l_worth K) [] := by
  obtain ⟨fd, F, ok⟩ := f_l_worth (P := P) (w := w) (base := base) T B
  exact ⟨_, fd, p_l_worth, [], ok, gl_l_worth T, F.kp, FunD.bindsN F fun _ _ _ _ _ _ us hl => match us, hl with | [_], _ => rfl, .nil⟩
end
section
variable {P : Program} {w : World} {K : PySem.W.Frag} {mg : Str → Option Value} {base : Heap}
def sp_l_menu (K : PySem.W.Frag) : Sp := fun vs H Q E => ∃ (p : Addr) (n : Int), vs = [.ref p, .int n] ∧ (BoxB H p) ∧ (0 < n ∧ n ≤ 256) ∧ (∀ r ms H1, H1 r = some (.lst (ms.map V.int)) → ms ≠ [] → ms.length ≤ 6 → (∀ z, z ∈ ms → 0 ≤ z ∧ z < n) → BoxB H1 p → Kp [p] H H1 → H r = none → r ≠ p → Q (.ref r) H1)
theorem us_l_menu {K : PySem.W.Frag} {H : Hp} {Q : VK} {E : XK} {p : Addr} {n : Int} (hB : BoxB H p) (hn : 0 < n ∧ n ≤ 256) (kk : ∀ r ms H1, H1 r = some (.lst (ms.map V.int)) → ms ≠ [] → ms.length ≤ 6 → (∀ z, z ∈ ms → 0 ≤ z ∧ z < n) → BoxB H1 p → Kp [p] H H1 → H r = none → r ≠ p → Q (.ref r) H1) : sp_l_menu K [.ref p, .int n] H Q E := ⟨_, _, rfl, hB, hn, kk⟩
theorem f_l_menu (T : Cx K mg) (B : Tb P w K mg base) : ∃ fd, FunD K "_law_menu" "_law_menu" (defArgs s_l_menu) (defBody s_l_menu) (defScope s_l_menu) (d_l_menu.dvs K) (d_l_menu.kws K) (fAd K d_l_menu.at_) fd ∧ FnOk P w K mg base CX0 2 (fAd K d_l_menu.at_) fd p_l_menu (sp_l_menu K) := by
  have c_l_take := c_l_take (P := P) (w := w) (base := base) T B
  obtain ⟨fd, F⟩ := T.says.def_ 15 (d := d_l_menu) rfl
  refine ⟨fd, F, fnD F sc_l_menu (fun vs H Q E h => by
    obtain ⟨_, _, rfl, _⟩ := h
    rfl) fun cdv A outer s H vs Q E hr h => ?_⟩
  have hu := hu_of hr
  obtain ⟨p, n, rfl, hB, hn, kk⟩ := h
  refine ⟨_, (pss_cons (ps_set (i := 2) sc_l_menu.nd rfl (by first | exact Or.inl rfl | exact Or.inr rfl) (pe_op op_add pe_int (pe_cal c_l_take hr (by decide) (by rfl) pass0 (pa_cons (pv 0) (pa_cons pe_int pa_nil))))) (pss_one (ps_ret (pe_lc (own := [("_law_k", 3)]) (g := (gName 3)) (tt := tYes) rfl sc_l_menu.nd (pi_range1 (by rfl) (fr_range T) (pa_cons (pv 2) pa_nil)) (blkOk_by (own := [("_law_k", 3)]) (N := n_l_menu) (sc := defScope s_l_menu) (by decide +kernel)) (fun _ _ _ _ _ => (pg_name (i := 3) sc_l_menu.nd rfl (by first | exact Or.inl rfl | exact Or.inr rfl))) (fun _ _ _ _ _ => pts_nil) (fun _ _ _ _ _ => (pe_cal c_l_take hr (by decide) (by rfl) pass0 (pa_cons (pv 0) (pa_cons (pv 1) pa_nil)))))))), ?_⟩
  rw [show L2.start n_l_menu [.ref p, .int n] = [some (.ref p), some (.int n), none, none] from rfl]
  try dsimp only [cxOf, Cx.nox, Cx.wish, List.map]

  obtain ⟨hn0, hn1⟩ := hn
  wtm_at "rd"
  refine us_l_take hB (by decide) (by decide) fun m H1 m0 m1 B1 k1 => ?_
  wtm_at "rd"
  intro D nD
  have nDp : D ≠ p := fun e => B1.ne nD e.symm
  refine lcR_by (fun i H' => (∃ ms : List Int, H' D = some (.lst (ms.map V.int)) ∧ ms.length = i ∧ ∀ z, z ∈ ms → 0 ≤ z ∧ z < n) ∧ BoxB H' p ∧ Kp [p] H1 H') ⟨⟨[], upd_same, rfl, fun c hc => by cases hc⟩, B1.new nD, Kp.new nD⟩ (fun i H' hi q => ?_) (fun H' q => ?_)
  · obtain ⟨⟨ms, q1, q2, q3⟩, B3, k3⟩ := q
    wtm_at "rd"
    refine ⟨rfl, ?_⟩
    wtm_at "rd"
    refine us_l_take B3 hn0 (by
      have : (256 : Int) ≤ 10 ^ 60 := by decide +kernel
      omega) fun z H4 z0 z1 B4 k4 => ?_
    exact ⟨_, k4.g1 nDp q1, szlt (by rw [List.length_map]; omega), ⟨ms ++ [z], by rw [upd_same, List.map_append]; rfl, by rw [List.length_append, q2]; rfl, fun y hy => by
      rcases List.mem_append.mp hy with m | m
      · exact q3 y m
      · rw [List.mem_singleton.mp m]
        exact ⟨z0, z1⟩⟩, B4.ofL (Ne.symm nDp), (k3.trans k4).mine nD⟩
  · obtain ⟨⟨ms, q1, q2, q3⟩, B3, k3⟩ := q
    have nD0 : H D = none := k1.fr B1 nD
    wtm_at "rd"
    exact kk D ms H' q1 (fun e => by rw [e] at q2; simp at q2; omega) (by omega) q3 B3 (k1.trans k3) nD0 nDp
theorem c_l_menu (T : Cx K mg) (B : Tb P w K mg base) : CalX P w K mg base CX0 2 "_law_menu" (sp_l_menu K) [] := by
  obtain ⟨fd, F, ok⟩ := f_l_menu (P := P) (w := w) (base := base) T B
  exact ⟨_, fd, p_l_menu, [], ok, gl_l_menu T, F.kp, FunD.bindsN F fun _ _ _ _ _ _ us hl => match us, hl with | [_, _], _ => rfl, .nil⟩
end
section
variable {P : Program} {w : World} {K : PySem.W.Frag} {mg : Str → Option Value} {base : Heap}
def sp_l_seat (K : PySem.W.Frag) : Sp := fun vs H Q E => ∃ (p l : Addr) (ms : List Int) (n : Int), vs = [.ref p, .ref l, .int n] ∧ (BoxB H p) ∧ (H l = some (.lst (ms.map V.int))) ∧ (ms ≠ [] ∧ ms.length ≤ 1000 ∧ ∀ z, z ∈ ms → 0 ≤ z ∧ z < n) ∧ (0 < n ∧ n ≤ 256) ∧ (l ≠ p) ∧ (∀ z H1, 0 ≤ z → z < n → BoxB H1 p → Kp [p] H H1 → Q (.int z) H1)
theorem us_l_seat {K : PySem.W.Frag} {H : Hp} {Q : VK} {E : XK} {p l : Addr} {ms : List Int} {n : Int} (hB : BoxB H p) (hl : H l = some (.lst (ms.map V.int))) (hm : ms ≠ [] ∧ ms.length ≤ 1000 ∧ ∀ z, z ∈ ms → 0 ≤ z ∧ z < n) (hn : 0 < n ∧ n ≤ 256) (np : l ≠ p) (kk : ∀ z H1, 0 ≤ z → z < n → BoxB H1 p → Kp [p] H H1 → Q (.int z) H1) : sp_l_seat K [.ref p, .ref l, .int n] H Q E := ⟨_, _, _, _, rfl, hB, hl, hm, hn, np, kk⟩
theorem f_l_seat (T : Cx K mg) (B : Tb P w K mg base) : ∃ fd, FunD K "_law_seat" "_law_seat" (defArgs s_l_seat) (defBody s_l_seat) (defScope s_l_seat) (d_l_seat.dvs K) (d_l_seat.kws K) (fAd K d_l_seat.at_) fd ∧ FnOk P w K mg base CX0 2 (fAd K d_l_seat.at_) fd p_l_seat (sp_l_seat K) := by
  have c_l_take := c_l_take (P := P) (w := w) (base := base) T B
  obtain ⟨fd, F⟩ := T.says.def_ 16 (d := d_l_seat) rfl
  refine ⟨fd, F, fnD F sc_l_seat (fun vs H Q E h => by
    obtain ⟨_, _, _, _, rfl, _⟩ := h
    rfl) fun cdv A outer s H vs Q E hr h => ?_⟩
  have hu := hu_of hr
  obtain ⟨p, l, ms, n, rfl, hB, hl, hm, hn, np, kk⟩ := h
  refine ⟨_, (pss_cons (ps_if (pt_cmpR op_eq (pe_cal c_l_take hr (by decide) (by rfl) pass0 (pa_cons (pv 0) (pa_cons pe_int pa_nil))) pe_int (nomark _)) (pss_one (ps_ret (pe_cal c_l_take hr (by decide) (by rfl) pass0 (pa_cons (pv 0) (pa_cons (pv 2) pa_nil))))) pss_nil) (pss_one (ps_ret (pe_ix ix_list (pv 1) (pe_cal c_l_take hr (by decide) (by rfl) pass0 (pa_cons (pv 0) (pa_cons (pe_callB call_lenS (by rfl) (fr_len T) (by decide +kernel) (pa_cons (pv 1) pa_nil)) pa_nil))) (fun _ _ => rfl))))), ?_⟩
  rw [show L2.start n_l_seat [.ref p, .ref l, .int n] = [some (.ref p), some (.ref l), some (.int n)] from rfl]
  try dsimp only [cxOf, Cx.nox, Cx.wish, List.map]

  obtain ⟨hn0, hn1⟩ := hn
  obtain ⟨hm0, hm1, hm2⟩ := hm
  have h256 : (1000 : Int) ≤ 10 ^ 60 := by decide +kernel
  have hl0 : 0 < ms.length := List.length_pos_iff.mpr hm0
  wtm_at "rd"
  refine us_l_take hB (by decide) (by decide) fun m H1 m0 m1 B1 k1 => ?_
  have hl1 := k1.g1 np hl
  wtm_at "rd"
  refine ite_d (fun h => ?_) (fun h => ?_)
  · wtm_at "rd"
    refine us_l_take B1 hn0 (by omega) fun z H2 z0 z1 B2 k2 => ?_
    exact kk _ _ z0 z1 B2 (k1.trans k2)
  · wtm_at "rd"
    refine us_l_take B1 (by omega) (by omega) fun z H2 z0 z1 B2 k2 => ?_
    have hl2 := k2.g1 np hl1
    obtain ⟨v, hv, hat⟩ := pickI ms z0 z1
    wtm_at "rd"
    exact kk _ _ (hm2 v hv).1 (hm2 v hv).2 B2 (k1.trans k2)
theorem c_l_seat (T : Cx K mg) (B : Tb P w K mg base) : CalX P w K mg base CX0 2 "_law_seat" (sp_l_seat K) [] := by
  obtain ⟨fd, F, ok⟩ := f_l_seat (P := P) (w := w) (base := base) T B
  exact ⟨_, fd, p_l_seat, [], ok, gl_l_seat T, F.kp, FunD.bindsN F fun _ _ _ _ _ _ us hl => match us, hl with | [_, _, _], _ => rfl, .nil⟩
end
section
variable {P : Program} {w : World} {K : PySem.W.Frag} {mg : Str → Option Value} {base : Heap}
def sp_l_whole (K : PySem.W.Frag) : Sp := fun vs H Q E => ∃ (v : Int), vs = [.int v] ∧ (Q (.bl true) H)
theorem us_l_whole {K : PySem.W.Frag} {H : Hp} {Q : VK} {E : XK} {v : Int}  (kk : Q (.bl true) H) : sp_l_whole K [.int v] H Q E := ⟨_, rfl, kk⟩
theorem f_l_whole (T : Cx K mg) (B : Tb P w K mg base) : ∃ fd, FunD K "_law_whole" "_law_whole" (defArgs s_l_whole) (defBody s_l_whole) (defScope s_l_whole) (d_l_whole.dvs K) (d_l_whole.kws K) (fAd K d_l_whole.at_) fd ∧ FnOk P w K mg base CX0 1 (fAd K d_l_whole.at_) fd p_l_whole (sp_l_whole K) := by
  obtain ⟨fd, F⟩ := T.says.def_ 17 (d := d_l_whole) rfl
  refine ⟨fd, F, fnD F sc_l_whole (fun vs H Q E h => by
    obtain ⟨_, rfl, _⟩ := h
    rfl) fun cdv A outer s H vs Q E hr h => ?_⟩
  have hu := hu_of hr
  obtain ⟨v, rfl, kk⟩ := h
  refine ⟨_, (pss_one (ps_ret (pe_and (pe_callB call_isi (by rfl) (fr_isinstance T) (by decide +kernel) (pa_cons (pv 0) (pa_cons (pe_bltn (v := .ty "int") (by rfl) (fr_int T) (by decide +kernel) rfl) pa_nil))) (pe_one (pe_not (pe_callB call_isi (by rfl) (fr_isinstance T) (by decide +kernel) (pa_cons (pv 0) (pa_cons (pe_bltn (v := .ty "bool") (by rfl) (fr_bool T) (by decide +kernel) rfl) pa_nil)))))))), ?_⟩
  rw [show L2.start n_l_whole [.int v] = [some (.int v)] from rfl]
  try dsimp only [cxOf, Cx.nox, Cx.wish, List.map]

  wtm_at "rd"
  exact kk
theorem c_l_whole (T : Cx K mg) (B : Tb P w K mg base) : CalX P w K mg base CX0 1 "_law_whole" (sp_l_whole K) [] := by
  obtain ⟨fd, F, ok⟩ := f_l_whole (P := P) (w := w) (base := base) T B
  exact ⟨_, fd, p_l_whole, [], ok, gl_l_whole T, F.kp, FunD.bindsN F fun _ _ _ _ _ _ us hl => match us, hl with | [_], _ => rfl, .nil⟩
end
section
variable {P : Program} {w : World} {K : PySem.W.Frag} {mg : Str → Option Value} {base : Heap}
def sp_l_same (K : PySem.W.Frag) : Sp := fun vs H Q E => ∃ (u v : V) (o : Option Sy), vs = [u, v] ∧ (IsY H u o) ∧ (IsY H v o) ∧ (∀ y, o = some y → y.T) ∧ (Q (.bl true) H)
theorem us_l_same {K : PySem.W.Frag} {H : Hp} {Q : VK} {E : XK} {u v : V} {o : Option Sy} (hu : IsY H u o) (hv : IsY H v o) (hT : ∀ y, o = some y → y.T) (kk : Q (.bl true) H) : sp_l_same K [u, v] H Q E := ⟨_, _, _, rfl, hu, hv, hT, kk⟩
theorem f_l_same (T : Cx K mg) (B : Tb P w K mg base) : ∃ fd, FunD K "_law_same" "_law_same" (defArgs s_l_same) (defBody s_l_same) (defScope s_l_same) (d_l_same.dvs K) (d_l_same.kws K) (fAd K d_l_same.at_) fd ∧ FnOk P w K mg base CX0 2 (fAd K d_l_same.at_) fd p_l_same (sp_l_same K) := by
  have c_l_whole := c_l_whole (P := P) (w := w) (base := base) T B
  obtain ⟨fd, F⟩ := T.says.def_ 18 (d := d_l_same) rfl
  refine ⟨fd, F, fnD F sc_l_same (fun vs H Q E h => by
    obtain ⟨_, _, _, rfl, _⟩ := h
    rfl) fun cdv A outer s H vs Q E hr h => ?_⟩
  have hu := hu_of hr
  obtain ⟨u, v, o, rfl, hu, hv, hT, kk⟩ := h
  refine ⟨_, (pss_cons (ps_if (pt_cmp (pc_isN (pv 1))) (pss_one (ps_ret (pe_cmp (pc_isN (pv 0))))) pss_nil) (pss_cons (ps_if (PW.pt (pw_or (pt_not (pt_val (pe_callB call_isi (by rfl) (fr_isinstance T) (by decide +kernel) (pa_cons (pv 0) (pa_cons (pe_bltn (v := .ty "tuple") (by rfl) (fr_tuple T) (by decide +kernel) rfl) pa_nil))))) (pw_or1 (pt_cmpR op_ne (pe_callB call_lenS (by rfl) (fr_len T) (by decide +kernel) (pa_cons (pv 0) pa_nil)) pe_int (nomark _))))) (pss_one (ps_ret pe_bl)) pss_nil) (pss_cons (ps_if (PW.pt (pw_or (pt_not (pt_val (pe_cal c_l_whole hr (by decide) (by rfl) pass0 (pa_cons (pe_ix ix_tup (pv 0) pe_int (fun _ _ => rfl)) pa_nil)))) (pw_or1 (pt_not (pt_val (pe_cal c_l_whole hr (by decide) (by rfl) pass0 (pa_cons (pe_ix ix_tup (pv 0) pe_int (fun _ _ => rfl)) pa_nil))))))) (pss_one (ps_ret pe_bl)) pss_nil) (pss_one (ps_ret (pe_and (pe_callB call_isi (by rfl) (fr_isinstance T) (by decide +kernel) (pa_cons (pe_ix ix_tup (pv 0) pe_int (fun _ _ => rfl)) (pa_cons (pe_bltn (v := .ty "str") (by rfl) (fr_str T) (by decide +kernel) rfl) pa_nil))) (pe_and (pe_callB call_isi (by rfl) (fr_isinstance T) (by decide +kernel) (pa_cons (pe_ix ix_tup (pv 0) pe_int (fun _ _ => rfl)) (pa_cons (pe_bltn (v := .ty "str") (by rfl) (fr_str T) (by decide +kernel) rfl) pa_nil))) (pe_one (pe_cmpR (op_eqD hr.units) (pv 0) (pv 1) (nomark _)))))))))), ?_⟩
  rw [show L2.start n_l_same [u, v] = [some (u), some (v)] from rfl]
  try dsimp only [cxOf, Cx.nox, Cx.wish, List.map]

  cases o with
  | none =>
    obtain rfl : u = .non := hu
    obtain rfl : v = .non := hv
    wtm_at "rd"
    exact kk
  | some y =>
    obtain ⟨t, rfl, ht⟩ := hu
    obtain ⟨t2, rfl, ht2⟩ := hv
    have ht1 : H t = some (.tup [.int y.s, .int y.l, .str y.m, .str y.w]) := ht
    wtm_at "rd"
    refine ite_n (fun h => absurd rfl h) (fun _ => ?_)
    wtm_at "rd"
    refine us_l_whole ?_
    wtm_at "rd"
    refine us_l_whole ?_
    wtm_at "rd"
    refine rd_eqSy ht ht2 (hT y rfl) (hT y rfl) ?_
    rw [decide_eq_true rfl]
    exact kk
theorem c_l_same (T : Cx K mg) (B : Tb P w K mg base) : CalX P w K mg base CX0 2 "_law_same" (sp_l_same K) [] := by
  obtain ⟨fd, F, ok⟩ := f_l_same (P := P) (w := w) (base := base) T B
  exact ⟨_, fd, p_l_same, [], ok, gl_l_same T, F.kp, FunD.bindsN F fun _ _ _ _ _ _ us hl => match us, hl with | [_, _], _ => rfl, .nil⟩
end
section
variable {P : Program} {w : World} {K : PySem.W.Frag} {mg : Str → Option Value} {base : Heap}
def sp_l_same_rows (K : PySem.W.Frag) : Sp := fun vs H Q E => ∃ (r1 r2 : Addr) (ps qs : List (Addr × Sy)), vs = [.ref r1, .ref r2] ∧ (SyL H r1 ps) ∧ (SyL H r2 qs) ∧ (ps.map (·.2) = qs.map (·.2)) ∧ (∀ y, y ∈ qs.map (·.2) → y.T) ∧ (qs.length ≤ 10000) ∧ (Q (.bl true) H)
theorem us_l_same_rows {K : PySem.W.Frag} {H : Hp} {Q : VK} {E : XK} {r1 r2 : Addr} {ps qs : List (Addr × Sy)} (h1 : SyL H r1 ps) (h2 : SyL H r2 qs) (he : ps.map (·.2) = qs.map (·.2)) (hT : ∀ y, y ∈ qs.map (·.2) → y.T) (hn : qs.length ≤ 10000) (kk : Q (.bl true) H) : sp_l_same_rows K [.ref r1, .ref r2] H Q E := ⟨_, _, _, _, rfl, h1, h2, he, hT, hn, kk⟩
theorem f_l_same_rows (T : Cx K mg) (B : Tb P w K mg base) : ∃ fd, FunD K "_law_same_rows" "_law_same_rows" (defArgs s_l_same_rows) (defBody s_l_same_rows) (defScope s_l_same_rows) (d_l_same_rows.dvs K) (d_l_same_rows.kws K) (fAd K d_l_same_rows.at_) fd ∧ FnOk P w K mg base CX0 3 (fAd K d_l_same_rows.at_) fd p_l_same_rows (sp_l_same_rows K) := by
  have c_l_same := c_l_same (P := P) (w := w) (base := base) T B
  obtain ⟨fd, F⟩ := T.says.def_ 19 (d := d_l_same_rows) rfl
  refine ⟨fd, F, fnD F sc_l_same_rows (fun vs H Q E h => by
    obtain ⟨_, _, _, _, rfl, _⟩ := h
    rfl) fun cdv A outer s H vs Q E hr h => ?_⟩
  have hu := hu_of hr
  obtain ⟨r1, r2, ps, qs, rfl, h1, h2, he, hT, hn, kk⟩ := h
  refine ⟨_, (pss_cons (ps_if (PW.pt (pw_or (pt_not (pt_val (pe_callB call_isi (by rfl) (fr_isinstance T) (by decide +kernel) (pa_cons (pv 0) (pa_cons (pe_bltn (v := .ty "list") (by rfl) (fr_list T) (by decide +kernel) rfl) pa_nil))))) (pw_or1 (pt_cmpR op_ne (pe_callB call_lenS (by rfl) (fr_len T) (by decide +kernel) (pa_cons (pv 0) pa_nil)) (pe_callB call_lenS (by rfl) (fr_len T) (by decide +kernel) (pa_cons (pv 1) pa_nil)) (nomark _))))) (pss_one (ps_ret pe_bl)) pss_nil) (pss_cons (ps_for PassesOwn.never rfl (pi_range1 (by rfl) (fr_range T) (pa_cons (pe_callB call_lenS (by rfl) (fr_len T) (by decide +kernel) (pa_cons (pv 1) pa_nil)) pa_nil)) (pg_name (i := 2) sc_l_same_rows.nd rfl (by first | exact Or.inl rfl | exact Or.inr rfl)) (pss_one (ps_if (pt_not (pt_val (pe_cal c_l_same hr (by decide) (by rfl) pass0 (pa_cons (pe_ix ix_list (pv 0) (pv 2) (fun _ _ => rfl)) (pa_cons (pe_ix ix_list (pv 1) (pv 2) (fun _ _ => rfl)) pa_nil))))) (pss_one (ps_ret pe_bl)) pss_nil))) (pss_one (ps_ret pe_bl)))), ?_⟩
  rw [show L2.start n_l_same_rows [.ref r1, .ref r2] = [some (.ref r1), some (.ref r2), none] from rfl]
  try dsimp only [cxOf, Cx.nox, Cx.wish, List.map]

  have hl : ps.length = qs.length := by
    have := congrArg List.length he
    rwa [List.length_map, List.length_map] at this
  have g1 := h1.at_
  have g2 := h2.at_
  wtm_at "rd"
  refine ite_n (fun h => absurd (by rw [List.length_map, List.length_map, hl]) h) (fun _ => ?_)
  wtm_at "rd"
  refine rd_iRng1X (by omega) (by rw [List.length_map]; omega) ?_
  wtm_at "rd"
  refine forR_by (fun i σ H1 => (∃ v2, σ = [some (.ref r1), some (.ref r2), v2]) ∧ H1 = H) ⟨⟨_, rfl⟩, rfl⟩ ?_ ?_
  · rintro i σ H1 hi ⟨⟨v2, rfl⟩, rfl⟩
    rw [List.length_map] at hi
    have hi2 : i < qs.length := by omega
    have hi1 : i < ps.length := by omega
    have ea : atI (ps.map fun p => V.ref p.1) (0 + (i : Int)) = some (.ref ps[i].1) := by
      rw [Int.zero_add]
      exact atI_nat (by rw [List.getElem?_map, List.getElem?_eq_getElem hi1]; rfl)
    have eb : atI (qs.map fun p => V.ref p.1) (0 + (i : Int)) = some (.ref qs[i].1) := by
      rw [Int.zero_add]
      exact atI_nat (by rw [List.getElem?_map, List.getElem?_eq_getElem hi2]; rfl)
    have e2 : ps[i].2 = qs[i].2 := by
      have := congrArg (fun l => l[i]?) he
      simp only [List.getElem?_map, List.getElem?_eq_getElem hi1, List.getElem?_eq_getElem hi2, Option.map_some] at this
      exact Option.some.inj this
    have s1 := h1.ob ps[i] (List.getElem_mem hi1)
    have s2 := h2.ob qs[i] (List.getElem_mem hi2)
    have t2 : qs[i].2.T := hT _ (List.mem_map_of_mem (List.getElem_mem hi2))
    wtm_at "rd"
    refine us_l_same (o := some qs[i].2) ⟨_, rfl, e2 ▸ s1⟩ ⟨_, rfl, s2⟩ (fun y e => by cases e; exact t2) ?_
    wtm_at "rd"
    exact ⟨⟨_, rfl⟩, rfl⟩
  · rintro σ H1 ⟨⟨v2, rfl⟩, rfl⟩
    wtm_at "rd"
    exact kk
theorem c_l_same_rows (T : Cx K mg) (B : Tb P w K mg base) : CalX P w K mg base CX0 3 "_law_same_rows" (sp_l_same_rows K) [] := by
  obtain ⟨fd, F, ok⟩ := f_l_same_rows (P := P) (w := w) (base := base) T B
  exact ⟨_, fd, p_l_same_rows, [], ok, gl_l_same_rows T, F.kp, FunD.bindsN F fun _ _ _ _ _ _ us hl => match us, hl with | [_, _], _ => rfl, .nil⟩
end
section
variable {P : Program} {w : World} {K : PySem.W.Frag} {mg : Str → Option Value} {base : Heap}
def sp_l_ranked (K : PySem.W.Frag) : Sp := fun vs H Q E => ∃ (s n : Int) (w : Str), vs = [.int s, .int n, .str w] ∧ (∀ t (y : Sy) H1, SyAt H1 t y → y.s = s → y.w = w → y.m ∈ MK → 0 ≤ y.l → y.l ≤ MOST → rk y = min (max n 1) (4 * 10 ^ 60) → Kp [] H H1 → Q (.ref t) H1)
theorem us_l_ranked {K : PySem.W.Frag} {H : Hp} {Q : VK} {E : XK} {s n : Int} {w : Str}  (kk : ∀ t (y : Sy) H1, SyAt H1 t y → y.s = s → y.w = w → y.m ∈ MK → 0 ≤ y.l → y.l ≤ MOST → rk y = min (max n 1) (4 * 10 ^ 60) → Kp [] H H1 → Q (.ref t) H1) : sp_l_ranked K [.int s, .int n, .str w] H Q E := ⟨_, _, _, rfl, kk⟩
theorem f_l_ranked (T : Cx K mg) (B : Tb P w K mg base) : ∃ fd, FunD K "_law_ranked" "_law_ranked" (defArgs s_l_ranked) (defBody s_l_ranked) (defScope s_l_ranked) (d_l_ranked.dvs K) (d_l_ranked.kws K) (fAd K d_l_ranked.at_) fd ∧ FnOk P w K mg base CX0 2 (fAd K d_l_ranked.at_) fd p_l_ranked (sp_l_ranked K) := by
  have c_l_marks := c_l_marks (P := P) (w := w) (base := base) T B
  obtain ⟨fd, F⟩ := T.says.def_ 20 (d := d_l_ranked) rfl
  refine ⟨fd, F, fnD F sc_l_ranked (fun vs H Q E h => by
    obtain ⟨_, _, _, rfl, _⟩ := h
    rfl) fun cdv A outer s H vs Q E hr h => ?_⟩
  have hu := hu_of hr
  obtain ⟨s, n, w, rfl, kk⟩ := h
  refine ⟨_, (pss_cons (ps_set (i := 1) sc_l_ranked.nd rfl (by first | exact Or.inl rfl | exact Or.inr rfl) (pe_op op_sub (pe_callB (call_min2' rfl) (by rfl) (fr_min T) (by decide +kernel) (pa_cons (pe_callB (call_max2' rfl) (by rfl) (fr_max T) (by decide +kernel) (pa_cons (pv 1) (pa_cons pe_int pa_nil))) (pa_cons (pe_op op_mul pe_int (pe_op op_pow pe_int pe_int)) pa_nil))) pe_int)) (pss_one (ps_ret (pe_tup (pa_cons (pv 0) (pa_cons (pe_op op_fdiv (pv 1) pe_int) (pa_cons (pe_ix ix_tup (pe_cal0 c_l_marks hr (by decide) (by rfl) pass0) (pe_op op_mod (pe_callTy call_int1' (by rfl) (fr_int T) (by decide +kernel) (pa_cons (pv 1) pa_nil)) pe_int) (fun _ _ => rfl)) (pa_cons (pv 2) pa_nil)))))))), ?_⟩
  rw [show L2.start n_l_ranked [.int s, .int n, .str w] = [some (.int s), some (.int n), some (.str w)] from rfl]
  try dsimp only [cxOf, Cx.nox, Cx.wish, List.map]

  wtm_at "rd"
  refine us_l_marks fun tm H1 hm1 k1 nm1 => ?_
  obtain ⟨m, hmk, hma, hms⟩ := mk_at2 (Int.emod_nonneg (min (max n 1) (4 * 10 ^ Int.toNat 60) - 1) (show (4 : Int) ≠ 0 by decide)) (Int.emod_lt_of_pos (min (max n 1) (4 * 10 ^ Int.toNat 60) - 1) (show (0 : Int) < 4 by decide))
  wtm_at "rd"
  refine ⟨sz1000 (by simp), fun t nt => ?_⟩
  have hp : (10 : Int) ^ Int.toNat 60 = 1000000000000000000000000000000000000000000000000000000000000 := by decide +kernel
  have hp2 : (10 : Int) ^ 60 = 1000000000000000000000000000000000000000000000000000000000000 := by decide +kernel
  have hmost : MOST = 999999999999999999999999999999999999999999999999999999999999 := by decide +kernel
  rw [hp] at hms ⊢
  refine kk t ⟨s, (min (max n 1) (4 * 1000000000000000000000000000000000000000000000000000000000000) - 1) / 4, m, w⟩ _ upd_same rfl rfl hmk (by show 0 ≤ _ / 4; omega) (by show _ / 4 ≤ MOST; omega) ?_ (k1.nw nt)
  rw [hp2]
  show 4 * (_ / 4) + stepM m = _
  rw [hms]
  omega
theorem c_l_ranked (T : Cx K mg) (B : Tb P w K mg base) : CalX P w K mg base CX0 2 "_law_ranked" (sp_l_ranked K) [] := by
  obtain ⟨fd, F, ok⟩ := f_l_ranked (P := P) (w := w) (base := base) T B
  exact ⟨_, fd, p_l_ranked, [], ok, gl_l_ranked T, F.kp, FunD.bindsN F fun _ _ _ _ _ _ us hl => match us, hl with | [_, _, _], _ => rfl, .nil⟩
end
section
variable {P : Program} {w : World} {K : PySem.W.Frag} {mg : Str → Option Value} {base : Heap}
def sp_l_fresh (K : PySem.W.Frag) : Sp := fun vs H Q E => ∃ (p l : Addr) (ms : List Int) (n : Int), vs = [.ref p, .ref l, .int n] ∧ (BoxB H p) ∧ (H l = some (.lst (ms.map V.int))) ∧ (ms ≠ [] ∧ ms.length ≤ 1000 ∧ ∀ z, z ∈ ms → 0 ≤ z ∧ z < n) ∧ (0 < n ∧ n ≤ 256) ∧ (l ≠ p) ∧ (∀ t (y : Sy) H1, SyAt H1 t y → syOk n y = true → BoxB H1 p → Kp [p] H H1 → Q (.ref t) H1)
theorem us_l_fresh {K : PySem.W.Frag} {H : Hp} {Q : VK} {E : XK} {p l : Addr} {ms : List Int} {n : Int} (hB : BoxB H p) (hl : H l = some (.lst (ms.map V.int))) (hm : ms ≠ [] ∧ ms.length ≤ 1000 ∧ ∀ z, z ∈ ms → 0 ≤ z ∧ z < n) (hn : 0 < n ∧ n ≤ 256) (np : l ≠ p) (kk : ∀ t (y : Sy) H1, SyAt H1 t y → syOk n y = true → BoxB H1 p → Kp [p] H H1 → Q (.ref t) H1) : sp_l_fresh K [.ref p, .ref l, .int n] H Q E := ⟨_, _, _, _, rfl, hB, hl, hm, hn, np, kk⟩
theorem f_l_fresh (T : Cx K mg) (B : Tb P w K mg base) : ∃ fd, FunD K "_law_fresh" "_law_fresh" (defArgs s_l_fresh) (defBody s_l_fresh) (defScope s_l_fresh) (d_l_fresh.dvs K) (d_l_fresh.kws K) (fAd K d_l_fresh.at_) fd ∧ FnOk P w K mg base CX0 3 (fAd K d_l_fresh.at_) fd p_l_fresh (sp_l_fresh K) := by
  have c_l_take := c_l_take (P := P) (w := w) (base := base) T B
  have c_l_seat := c_l_seat (P := P) (w := w) (base := base) T B
  have c_l_life := c_l_life (P := P) (w := w) (base := base) T B
  have c_l_marks := c_l_marks (P := P) (w := w) (base := base) T B
  have c_l_worth := c_l_worth (P := P) (w := w) (base := base) T B
  obtain ⟨fd, F⟩ := T.says.def_ 21 (d := d_l_fresh) rfl
  refine ⟨fd, F, fnD F sc_l_fresh (fun vs H Q E h => by
    obtain ⟨_, _, _, _, rfl, _⟩ := h
    rfl) fun cdv A outer s H vs Q E hr h => ?_⟩
  have hu := hu_of hr
  obtain ⟨p, l, ms, n, rfl, hB, hl, hm, hn, np, kk⟩ := h
  refine ⟨_, (pss_cons (ps_set (i := 3) sc_l_fresh.nd rfl (by first | exact Or.inl rfl | exact Or.inr rfl) (pe_cal c_l_seat hr (by decide) (by rfl) pass0 (pa_cons (pv 0) (pa_cons (pv 1) (pa_cons (pv 2) pa_nil))))) (pss_cons (ps_set (i := 4) sc_l_fresh.nd rfl (by first | exact Or.inl rfl | exact Or.inr rfl) (pe_cal c_l_life hr (by decide) (by rfl) pass0 (pa_cons (pv 0) pa_nil))) (pss_cons (ps_set (i := 5) sc_l_fresh.nd rfl (by first | exact Or.inl rfl | exact Or.inr rfl) (pe_ix ix_tup (pe_cal0 c_l_marks hr (by decide) (by rfl) pass0) (pe_cal c_l_take hr (by decide) (by rfl) pass0 (pa_cons (pv 0) (pa_cons pe_int pa_nil))) (fun _ _ => rfl))) (pss_one (ps_ret (pe_tup (pa_cons (pv 3) (pa_cons (pv 4) (pa_cons (pv 5) (pa_cons (pe_cal c_l_worth hr (by decide) (by rfl) pass0 (pa_cons (pv 0) pa_nil)) pa_nil)))))))))), ?_⟩
  rw [show L2.start n_l_fresh [.ref p, .ref l, .int n] = [some (.ref p), some (.ref l), some (.int n), none, none, none] from rfl]
  try dsimp only [cxOf, Cx.nox, Cx.wish, List.map]

  wtm_at "rd"
  refine us_l_seat hB hl hm hn np fun s H1 s0 s1 B1 k1 => ?_
  wtm_at "rd"
  refine us_l_life B1 fun lf H2 l0 l1 B2 k2 => ?_
  wtm_at "rd"
  refine us_l_marks fun tm H5 hm5 k5 nm5 => ?_
  have B5 := B2.k0 k5
  have hmp : tm ≠ p := fun e => B2.ne nm5 e.symm
  wtm_at "rd"
  refine us_l_take B5 (by decide) (by decide) fun mi H6 mi0 mi1 B6 k6 => ?_
  have hm6 : TupF H6 tm (MK.map V.str) := by
    obtain ⟨o, a, b, c⟩ := hm5
    exact ⟨o, a, b, k6.g1 hmp c⟩
  obtain ⟨m, hmk, hma⟩ := mk_at mi0 mi1
  wtm_at "rd"
  refine us_l_worth B6 fun wt H8 hwt B8 k8 => ?_
  wtm_at "rd"
  refine ⟨sz1000 (by simp), fun t nt => ?_⟩
  exact kk t ⟨s, lf, m, wt⟩ _ upd_same (syOk_iff.mpr ⟨⟨s0, by show s ≤ n - 1; omega⟩, ⟨l0, l1⟩, hmk, hwt⟩) (B8.new nt) (((((k1.trans k2).trans k5.of0).trans k6).trans k8).nw nt)
theorem c_l_fresh (T : Cx K mg) (B : Tb P w K mg base) : CalX P w K mg base CX0 3 "_law_fresh" (sp_l_fresh K) [] := by
  obtain ⟨fd, F, ok⟩ := f_l_fresh (P := P) (w := w) (base := base) T B
  exact ⟨_, fd, p_l_fresh, [], ok, gl_l_fresh T, F.kp, FunD.bindsN F fun _ _ _ _ _ _ us hl => match us, hl with | [_, _, _], _ => rfl, .nil⟩
end
section
variable {P : Program} {w : World} {K : PySem.W.Frag} {mg : Str → Option Value} {base : Heap}
def sp_l_near (K : PySem.W.Frag) : Sp := fun vs H Q E => ∃ (p t : Addr) (n : Int) (x : Sy) (v : V) (o : Option Sy), vs = [.ref p, .ref t, v] ∧ (BoxB H p) ∧ (SyAt H t x) ∧ (syOk n x = true) ∧ (IsY H v o) ∧ (∀ y, o = some y → syOk n y = true) ∧ (∀ t2 (y : Sy) H1, SyAt H1 t2 y → syOk n y = true → BoxB H1 p → Kp [p] H H1 → Q (.ref t2) H1)
theorem us_l_near {K : PySem.W.Frag} {H : Hp} {Q : VK} {E : XK} {p t : Addr} {n : Int} {x : Sy} {v : V} {o : Option Sy} (hB : BoxB H p) (ht : SyAt H t x) (hx : syOk n x = true) (hv : IsY H v o) (ho : ∀ y, o = some y → syOk n y = true) (kk : ∀ t2 (y : Sy) H1, SyAt H1 t2 y → syOk n y = true → BoxB H1 p → Kp [p] H H1 → Q (.ref t2) H1) : sp_l_near K [.ref p, .ref t, v] H Q E := ⟨_, _, _, _, _, _, rfl, hB, ht, hx, hv, ho, kk⟩
theorem f_l_near (T : Cx K mg) (B : Tb P w K mg base) : ∃ fd, FunD K "_law_near" "_law_near" (defArgs s_l_near) (defBody s_l_near) (defScope s_l_near) (d_l_near.dvs K) (d_l_near.kws K) (fAd K d_l_near.at_) fd ∧ FnOk P w K mg base CX0 3 (fAd K d_l_near.at_) fd p_l_near (sp_l_near K) := by
  have c_l_take := c_l_take (P := P) (w := w) (base := base) T B
  have c_l_rank := c_l_rank (P := P) (w := w) (base := base) T B
  have c_l_ranked := c_l_ranked (P := P) (w := w) (base := base) T B
  obtain ⟨fd, F⟩ := T.says.def_ 22 (d := d_l_near) rfl
  refine ⟨fd, F, fnD F sc_l_near (fun vs H Q E h => by
    obtain ⟨_, _, _, _, _, _, rfl, _⟩ := h
    rfl) fun cdv A outer s H vs Q E hr h => ?_⟩
  have hu := hu_of hr
  obtain ⟨p, t, n, x, v, o, rfl, hB, ht, hx, hv, ho, kk⟩ := h
  refine ⟨_, (pss_cons (ps_set (i := 3) sc_l_near.nd rfl (by first | exact Or.inl rfl | exact Or.inr rfl) (pe_cal c_l_take hr (by decide) (by rfl) pass0 (pa_cons (pv 0) (pa_cons pe_int pa_nil)))) (pss_cons (ps_if (PW.pt (pw_or (pt_cmp (pc_isN (pv 2))) (pw_or1 (pt_cmpR op_gt (pv 3) pe_int (nomark _))))) (pss_one (ps_ret (pv 1))) pss_nil) (pss_cons (ps_if (pt_cmpR op_eq (pv 3) pe_int (nomark _)) (pss_one (ps_ret (pe_tup (pa_cons (pe_ix ix_tup (pv 2) pe_int (fun _ _ => rfl)) (pa_cons (pe_ix ix_tup (pv 2) pe_int (fun _ _ => rfl)) (pa_cons (pe_ix ix_tup (pv 2) pe_int (fun _ _ => rfl)) (pa_cons (pe_ix ix_tup (pv 2) pe_int (fun _ _ => rfl)) pa_nil))))))) pss_nil) (pss_cons (ps_if (pt_cmpR op_eq (pv 3) pe_int (nomark _)) (pss_one (ps_ret (pe_tup (pa_cons (pe_ix ix_tup (pv 2) pe_int (fun _ _ => rfl)) (pa_cons (pe_ix ix_tup (pv 2) pe_int (fun _ _ => rfl)) (pa_cons (pe_ix ix_tup (pv 2) pe_int (fun _ _ => rfl)) (pa_cons (pe_ix ix_tup (pv 1) pe_int (fun _ _ => rfl)) pa_nil))))))) pss_nil) (pss_cons (ps_if (pt_cmpR op_eq (pv 3) pe_int (nomark _)) (pss_one (ps_ret (pe_cal c_l_ranked hr (by decide) (by rfl) pass0 (pa_cons (pe_ix ix_tup (pv 2) pe_int (fun _ _ => rfl)) (pa_cons (pe_op op_add (pe_cal c_l_rank hr (by decide) (by rfl) pass0 (pa_cons (pv 2) pa_nil)) pe_int) (pa_cons (pe_ix ix_tup (pv 2) pe_int (fun _ _ => rfl)) pa_nil)))))) pss_nil) (pss_one (ps_ret (pe_cal c_l_ranked hr (by decide) (by rfl) pass0 (pa_cons (pe_ix ix_tup (pv 2) pe_int (fun _ _ => rfl)) (pa_cons (pe_op op_sub (pe_cal c_l_rank hr (by decide) (by rfl) pass0 (pa_cons (pv 2) pa_nil)) pe_int) (pa_cons (pe_ix ix_tup (pv 2) pe_int (fun _ _ => rfl)) pa_nil))))))))))), ?_⟩
  rw [show L2.start n_l_near [.ref p, .ref t, v] = [some (.ref p), some (.ref t), some (v), none] from rfl]
  try dsimp only [cxOf, Cx.nox, Cx.wish, List.map]

  wtm_at "rd"
  refine us_l_take hB (by decide) (by decide) fun wy H1 w0 w1 B1 k1 => ?_
  have ht1 : SyAt H1 t x := k1.g1 (hB.off ht fun _ _ _ z => by cases z) ht
  cases o with
  | none =>
    obtain rfl : v = .non := hv
    wtm_at "rd"
    exact kk t x H1 ht1 hx B1 k1
  | some y =>
    obtain ⟨u, rfl, hu⟩ := hv
    have hu1 : SyAt H1 u y := k1.g1 (hB.off hu fun _ _ _ z => by cases z) hu
    have oy := ho y rfl
    obtain ⟨ys, yl, ym, yw⟩ := syOk_iff.mp oy
    obtain ⟨xs', xl, xm, xw⟩ := syOk_iff.mp hx
    have hu2 := hu1
    have ht2 := ht1
    unfold SyAt Sy.tup at hu2 ht2
    wtm_at "rd"
    refine ite_d (fun h => ?_) (fun h => ?_)
    · wtm_at "rd"
      exact kk t x H1 ht1 hx B1 k1
    wtm_at "rd"
    refine ite_d (fun h => ?_) (fun h => ?_)
    · wtm_at "rd"
      refine ⟨sz1000 (by simp), fun q nq => ?_⟩
      exact kk q y _ upd_same oy (B1.new nq) (k1.nw nq)
    wtm_at "rd"
    refine ite_d (fun h => ?_) (fun h => ?_)
    · wtm_at "rd"
      refine ⟨sz1000 (by simp), fun q nq => ?_⟩
      exact kk q ⟨y.s, y.l, y.m, x.w⟩ _ upd_same (syOk_iff.mpr ⟨ys, yl, ym, xw⟩) (B1.new nq) (k1.nw nq)
    have hm : ∀ z, some y = some z → z.m ∈ MK := fun z e => by cases e; exact ym
    wtm_at "rd"
    refine ite_d (fun h => ?_) (fun h => ?_)
    · wtm_at "rd"
      refine us_l_rank (o := some y) ⟨_, rfl, hu1⟩ hm fun H2 k2 => ?_
      have hu3 := k2.g0 hu2
      have ht3 := k2.g0 ht2
      wtm_at "rd"
      refine us_l_ranked fun q z H3 hz z1 z2 z3 z4 z5 z6 k3 => ?_
      exact kk q z H3 hz (syOk_iff.mpr ⟨z1 ▸ ys, ⟨z4, z5⟩, z3, z2 ▸ yw⟩) ((B1.k0 k2).k0 k3) ((k1.trans k2.of0).trans k3.of0)
    · wtm_at "rd"
      refine us_l_rank (o := some y) ⟨_, rfl, hu1⟩ hm fun H2 k2 => ?_
      have hu3 := k2.g0 hu2
      have ht3 := k2.g0 ht2
      wtm_at "rd"
      refine us_l_ranked fun q z H3 hz z1 z2 z3 z4 z5 z6 k3 => ?_
      exact kk q z H3 hz (syOk_iff.mpr ⟨z1 ▸ ys, ⟨z4, z5⟩, z3, z2 ▸ yw⟩) ((B1.k0 k2).k0 k3) ((k1.trans k2.of0).trans k3.of0)
theorem c_l_near (T : Cx K mg) (B : Tb P w K mg base) : CalX P w K mg base CX0 3 "_law_near" (sp_l_near K) [] := by
  obtain ⟨fd, F, ok⟩ := f_l_near (P := P) (w := w) (base := base) T B
  exact ⟨_, fd, p_l_near, [], ok, gl_l_near T, F.kp, FunD.bindsN F fun _ _ _ _ _ _ us hl => match us, hl with | [_, _, _], _ => rfl, .nil⟩
end
section
variable {P : Program} {w : World} {K : PySem.W.Frag} {mg : Str → Option Value} {base : Heap}
def sp_l_says (K : PySem.W.Frag) : Sp := fun vs H Q E => ∃ (a b : Bool), vs = [.bl a, .bl b] ∧ (Q (.bl (decide (a = b))) H)
theorem us_l_says {K : PySem.W.Frag} {H : Hp} {Q : VK} {E : XK} {a b : Bool}  (kk : Q (.bl (decide (a = b))) H) : sp_l_says K [.bl a, .bl b] H Q E := ⟨_, _, rfl, kk⟩
theorem f_l_says (T : Cx K mg) (B : Tb P w K mg base) : ∃ fd, FunD K "_law_says" "_law_says" (defArgs s_l_says) (defBody s_l_says) (defScope s_l_says) (d_l_says.dvs K) (d_l_says.kws K) (fAd K d_l_says.at_) fd ∧ FnOk P w K mg base CX0 1 (fAd K d_l_says.at_) fd p_l_says (sp_l_says K) := by
  obtain ⟨fd, F⟩ := T.says.def_ 23 (d := d_l_says) rfl
  refine ⟨fd, F, fnD F sc_l_says (fun vs H Q E h => by
    obtain ⟨_, _, rfl, _⟩ := h
    rfl) fun cdv A outer s H vs Q E hr h => ?_⟩
  have hu := hu_of hr
  obtain ⟨a, b, rfl, kk⟩ := h
  refine ⟨_, (pss_one (ps_ret (pe_and (pe_callB call_isi (by rfl) (fr_isinstance T) (by decide +kernel) (pa_cons (pv 0) (pa_cons (pe_bltn (v := .ty "bool") (by rfl) (fr_bool T) (by decide +kernel) rfl) pa_nil))) (pe_one (pe_cmpR op_eq (pv 0) (pv 1) (nomark _)))))), ?_⟩
  rw [show L2.start n_l_says [.bl a, .bl b] = [some (.bl a), some (.bl b)] from rfl]
  try dsimp only [cxOf, Cx.nox, Cx.wish, List.map]

  wtm_at "rd"
  exact kk
theorem c_l_says (T : Cx K mg) (B : Tb P w K mg base) : CalX P w K mg base CX0 1 "_law_says" (sp_l_says K) [] := by
  obtain ⟨fd, F, ok⟩ := f_l_says (P := P) (w := w) (base := base) T B
  exact ⟨_, fd, p_l_says, [], ok, gl_l_says T, F.kp, FunD.bindsN F fun _ _ _ _ _ _ us hl => match us, hl with | [_, _], _ => rfl, .nil⟩
end
section
variable {P : Program} {w : World} {K : PySem.W.Frag} {mg : Str → Option Value} {base : Heap}
def sp_l_setting (K : PySem.W.Frag) : Sp := fun vs H Q E => ∃ (p : Addr) (lg : Bool), vs = [.ref p, .bl lg] ∧ (BoxB H p) ∧ (∀ r (b pt rm : Int) H1, H1 r = some (.lst (([b, pt, rm] : List Int).map V.int)) → 1 ≤ b ∧ b ≤ 8 → 1 ≤ pt ∧ pt ≤ 6 → 1 ≤ rm ∧ rm ≤ 64 → BoxB H1 p → Kp [p] H H1 → H r = none → r ≠ p → Q (.ref r) H1)
theorem us_l_setting {K : PySem.W.Frag} {H : Hp} {Q : VK} {E : XK} {p : Addr} {lg : Bool} (hB : BoxB H p) (kk : ∀ r (b pt rm : Int) H1, H1 r = some (.lst (([b, pt, rm] : List Int).map V.int)) → 1 ≤ b ∧ b ≤ 8 → 1 ≤ pt ∧ pt ≤ 6 → 1 ≤ rm ∧ rm ≤ 64 → BoxB H1 p → Kp [p] H H1 → H r = none → r ≠ p → Q (.ref r) H1) : sp_l_setting K [.ref p, .bl lg] H Q E := ⟨_, _, rfl, hB, kk⟩
theorem f_l_setting (T : Cx K mg) (B : Tb P w K mg base) : ∃ fd, FunD K "_law_setting" "_law_setting" (defArgs s_l_setting) (defBody s_l_setting) (defScope s_l_setting) (d_l_setting.dvs K) (d_l_setting.kws K) (fAd K d_l_setting.at_) fd ∧ FnOk P w K mg base CX0 2 (fAd K d_l_setting.at_) fd p_l_setting (sp_l_setting K) := by
  have c_l_take := c_l_take (P := P) (w := w) (base := base) T B
  obtain ⟨fd, F⟩ := T.says.def_ 24 (d := d_l_setting) rfl
  refine ⟨fd, F, fnD F sc_l_setting (fun vs H Q E h => by
    obtain ⟨_, _, rfl, _⟩ := h
    rfl) fun cdv A outer s H vs Q E hr h => ?_⟩
  have hu := hu_of hr
  obtain ⟨p, lg, rfl, hB, kk⟩ := h
  refine ⟨_, (pss_cons (ps_set (i := 2) sc_l_setting.nd rfl (by first | exact Or.inl rfl | exact Or.inr rfl) (pe_op op_add pe_int (pe_cal c_l_take hr (by decide) (by rfl) pass0 (pa_cons (pv 0) (pa_cons pe_int pa_nil))))) (pss_cons (ps_set (i := 3) sc_l_setting.nd rfl (by first | exact Or.inl rfl | exact Or.inr rfl) (pe_op op_add pe_int (pe_cal c_l_take hr (by decide) (by rfl) pass0 (pa_cons (pv 0) (pa_cons pe_int pa_nil))))) (pss_cons (ps_set (i := 4) sc_l_setting.nd rfl (by first | exact Or.inl rfl | exact Or.inr rfl) (pe_op op_add pe_int (pe_cal c_l_take hr (by decide) (by rfl) pass0 (pa_cons (pv 0) (pa_cons pe_int pa_nil))))) (C8.pss_cut (ps_if (pt_cmpR op_eq (pe_cal c_l_take hr (by decide) (by rfl) pass0 (pa_cons (pv 0) (pa_cons pe_int pa_nil))) pe_int (nomark _)) (pss_one (ps_set (i := 2) sc_l_setting.nd rfl (by first | exact Or.inl rfl | exact Or.inr rfl) (pe_op op_add pe_int (pe_cal c_l_take hr (by decide) (by rfl) pass0 (pa_cons (pv 0) (pa_cons pe_int pa_nil)))))) pss_nil) (C8.pss_cut (ps_if (pt_cmpR op_eq (pe_cal c_l_take hr (by decide) (by rfl) pass0 (pa_cons (pv 0) (pa_cons pe_int pa_nil))) pe_int (nomark _)) (pss_one (ps_set (i := 3) sc_l_setting.nd rfl (by first | exact Or.inl rfl | exact Or.inr rfl) (pe_op op_add pe_int (pe_cal c_l_take hr (by decide) (by rfl) pass0 (pa_cons (pv 0) (pa_cons pe_int pa_nil)))))) pss_nil) (C8.pss_cut (ps_if (pt_cmpR op_eq (pe_cal c_l_take hr (by decide) (by rfl) pass0 (pa_cons (pv 0) (pa_cons pe_int pa_nil))) pe_int (nomark _)) (pss_one (ps_set (i := 4) sc_l_setting.nd rfl (by first | exact Or.inl rfl | exact Or.inr rfl) (pe_op op_add pe_int (pe_cal c_l_take hr (by decide) (by rfl) pass0 (pa_cons (pv 0) (pa_cons pe_int pa_nil)))))) pss_nil) (C8.pss_cut (ps_if (PW.pt (pw_and (pt_val (pv 1)) (pw_and1 (pt_cmpR op_eq (pe_cal c_l_take hr (by decide) (by rfl) pass0 (pa_cons (pv 0) (pa_cons pe_int pa_nil))) pe_int (nomark _))))) (pss_cons (ps_set (i := 2) sc_l_setting.nd rfl (by first | exact Or.inl rfl | exact Or.inr rfl) (pe_op op_add pe_int (pe_cal c_l_take hr (by decide) (by rfl) pass0 (pa_cons (pv 0) (pa_cons pe_int pa_nil))))) (pss_one (ps_set (i := 4) sc_l_setting.nd rfl (by first | exact Or.inl rfl | exact Or.inr rfl) (pe_op op_add pe_int (pe_cal c_l_take hr (by decide) (by rfl) pass0 (pa_cons (pv 0) (pa_cons pe_int pa_nil))))))) pss_nil) (pss_one (ps_ret (pe_lst (pa_cons (pv 2) (pa_cons (pv 3) (pa_cons (pv 4) pa_nil))))))))))))), ?_⟩
  rw [show L2.start n_l_setting [.ref p, .bl lg] = [some (.ref p), some (.bl lg), none, none, none] from rfl]
  try dsimp only [cxOf, Cx.nox, Cx.wish, List.map]

  wtm_at "rd"
  refine us_l_take hB (by decide) (by decide) fun b H1 b0 b1 B1 k1 => ?_
  wtm_at "rd"
  refine us_l_take B1 (by decide) (by decide) fun pt H2 p0 p1 B2 k2 => ?_
  wtm_at "rd"
  refine us_l_take B2 (by decide) (by decide) fun rm H3 r0 r1 B3 k3 => ?_
  have k03 := (k1.trans k2).trans k3
  wtm_at "rd"
  refine rd_cut (fun σ H' => (∃ b : Int, σ = [some (.ref p), some (.bl lg), some (.int b), some (.int (1 + pt)), some (.int (1 + rm))] ∧ 1 ≤ b ∧ b ≤ 8) ∧ BoxB H' p ∧ Kp [p] H H') ?_ ?_
  · wtm_at "rd"
    refine us_l_take B3 (by decide) (by decide) fun z H4 z0 z1 B4 k4 => ?_
    wtm_at "rd"
    refine ite_d (fun h => ?_) (fun h => ?_)
    · wtm_at "rd"
      refine us_l_take B4 (by decide) (by decide) fun z H5 z0 z1 B5 k5 => ?_
      wtm_at "rd"
      exact ⟨⟨_, rfl, by omega, by omega⟩, B5, (k03.trans k4).trans k5⟩
    · wtm_at "rd"
      exact ⟨⟨_, rfl, by omega, by omega⟩, B4, k03.trans k4⟩
  rintro σ H4 ⟨⟨b, rfl, b0, b1⟩, B4, k4⟩
  wtm_at "rd"
  refine rd_cut (fun σ H' => (∃ pt : Int, σ = [some (.ref p), some (.bl lg), some (.int b), some (.int pt), some (.int (1 + rm))] ∧ 1 ≤ pt ∧ pt ≤ 6) ∧ BoxB H' p ∧ Kp [p] H H') ?_ ?_
  · wtm_at "rd"
    refine us_l_take B4 (by decide) (by decide) fun z H5 z0 z1 B5 k5 => ?_
    wtm_at "rd"
    refine ite_d (fun h => ?_) (fun h => ?_)
    · wtm_at "rd"
      refine us_l_take B5 (by decide) (by decide) fun z H6 z0 z1 B6 k6 => ?_
      wtm_at "rd"
      exact ⟨⟨_, rfl, by omega, by omega⟩, B6, (k4.trans k5).trans k6⟩
    · wtm_at "rd"
      exact ⟨⟨_, rfl, by omega, by omega⟩, B5, k4.trans k5⟩
  rintro σ H5 ⟨⟨pt, rfl, p0, p1⟩, B5, k5⟩
  wtm_at "rd"
  refine rd_cut (fun σ H' => (∃ rm : Int, σ = [some (.ref p), some (.bl lg), some (.int b), some (.int pt), some (.int rm)] ∧ 1 ≤ rm ∧ rm ≤ 64) ∧ BoxB H' p ∧ Kp [p] H H') ?_ ?_
  · wtm_at "rd"
    refine us_l_take B5 (by decide) (by decide) fun z H6 z0 z1 B6 k6 => ?_
    wtm_at "rd"
    refine ite_d (fun h => ?_) (fun h => ?_)
    · wtm_at "rd"
      refine us_l_take B6 (by decide) (by decide) fun z H7 z0 z1 B7 k7 => ?_
      wtm_at "rd"
      exact ⟨⟨_, rfl, by omega, by omega⟩, B7, (k5.trans k6).trans k7⟩
    · wtm_at "rd"
      exact ⟨⟨_, rfl, by omega, by omega⟩, B6, k5.trans k6⟩
  rintro σ H6 ⟨⟨rm, rfl, r0, r1⟩, B6, k6⟩
  wtm_at "rd"
  refine rd_cut (fun σ H' => (∃ b rm : Int, σ = [some (.ref p), some (.bl lg), some (.int b), some (.int pt), some (.int rm)] ∧ (1 ≤ b ∧ b ≤ 8) ∧ (1 ≤ rm ∧ rm ≤ 64)) ∧ BoxB H' p ∧ Kp [p] H H') ?_ ?_
  · wtm_at "rd"
    cases lg with
    | false =>
      wtm_at "rd"
      exact ⟨⟨_, _, rfl, ⟨b0, b1⟩, ⟨r0, r1⟩⟩, B6, k6⟩
    | true =>
      wtm_at "rd"
      refine us_l_take B6 (by decide) (by decide) fun z H7 z0 z1 B7 k7 => ?_
      wtm_at "rd"
      refine ite_d (fun h => ?_) (fun h => ?_)
      · wtm_at "rd"
        refine us_l_take B7 (by decide) (by decide) fun x H8 x0 x1 B8 k8 => ?_
        wtm_at "rd"
        refine us_l_take B8 (by decide) (by decide) fun y H9 y0 y1 B9 k9 => ?_
        wtm_at "rd"
        exact ⟨⟨_, _, rfl, ⟨by omega, by omega⟩, ⟨by omega, by omega⟩⟩, B9, ((k6.trans k7).trans k8).trans k9⟩
      · wtm_at "rd"
        exact ⟨⟨_, _, rfl, ⟨b0, b1⟩, ⟨r0, r1⟩⟩, B7, k6.trans k7⟩
  rintro σ H7 ⟨⟨b, rm, rfl, hb, hr⟩, B7, k7⟩
  wtm_at "rd"
  refine ⟨sz1000 (by simp), fun r nr => ?_⟩
  exact kk r b pt rm _ upd_same hb ⟨p0, p1⟩ hr (B7.new nr) (k7.nw nr) (k7.fr B7 nr) (fun e => B7.ne nr e.symm)
theorem c_l_setting (T : Cx K mg) (B : Tb P w K mg base) : CalX P w K mg base CX0 2 "_law_setting" (sp_l_setting K) [] := by
  obtain ⟨fd, F, ok⟩ := f_l_setting (P := P) (w := w) (base := base) T B
  exact ⟨_, fd, p_l_setting, [], ok, gl_l_setting T, F.kp, FunD.bindsN F fun _ _ _ _ _ _ us hl => match us, hl with | [_, _], _ => rfl, .nil⟩
end
section
variable {P : Program} {w : World} {K : PySem.W.Frag} {mg : Str → Option Value} {base : Heap}
def sp_l_hot (K : PySem.W.Frag) : Sp := fun vs H Q E => ∃ (e : Addr) (xs : ES) (k : Int), vs = [.ref e, .int k] ∧ (EN HO.lst H e xs) ∧ (∀ v, IsY H v ((lkE xs k).map (·.1)) → Q v H)
theorem us_l_hot {K : PySem.W.Frag} {H : Hp} {Q : VK} {E : XK} {e : Addr} {xs : ES} {k : Int} (hE : EN HO.lst H e xs) (kk : ∀ v, IsY H v ((lkE xs k).map (·.1)) → Q v H) : sp_l_hot K [.ref e, .int k] H Q E := ⟨_, _, _, rfl, hE, kk⟩
theorem f_l_hot (T : Cx K mg) (B : Tb P w K mg base) : ∃ fd, FunD K "_law_hot" "_law_hot" (defArgs s_l_hot) (defBody s_l_hot) (defScope s_l_hot) (d_l_hot.dvs K) (d_l_hot.kws K) (fAd K d_l_hot.at_) fd ∧ FnOk P w K mg base CX0 1 (fAd K d_l_hot.at_) fd p_l_hot (sp_l_hot K) := by
  obtain ⟨fd, F⟩ := T.says.def_ 25 (d := d_l_hot) rfl
  refine ⟨fd, F, fnD F sc_l_hot (fun vs H Q E h => by
    obtain ⟨_, _, _, rfl, _⟩ := h
    rfl) fun cdv A outer s H vs Q E hr h => ?_⟩
  have hu := hu_of hr
  obtain ⟨e, xs, k, rfl, hE, kk⟩ := h
  refine ⟨_, (pss_cons (ps_if (pt_cmp (pc_din hu (pv 1) (pv 0))) (pss_one (ps_ret (pe_ix ix_list (pe_dget hu (pv 0) (pv 1) (fun _ _ => rfl)) pe_int (fun _ _ => rfl)))) pss_nil) (pss_one (ps_ret pe_non))), ?_⟩
  rw [show L2.start n_l_hot [.ref e, .int k] = [some (.ref e), some (.int k)] from rfl]
  try dsimp only [cxOf, Cx.nox, Cx.wish, List.map]

  have hd := hE.at_
  wtm_at "rd"
  rw [kvT_val]
  cases e1 : fdT ek xs k with
  | none =>
    have e2 : lkE xs k = none := by
      unfold lkE
      rw [e1]
      rfl
    rw [e2] at kk
    rw [show (Option.map (fun p : Addr × Ent => V.ref p.1) none).isSome = false from rfl]
    wtm_at "rd"
    exact kk _ rfl
  | some p =>
    have e2 : lkE xs k = some p.2.2 := by
      unfold lkE
      rw [e1]
      rfl
    rw [e2] at kk
    obtain ⟨g1, g2⟩ := hE.find e1
    rw [show (Option.map (fun p : Addr × Ent => V.ref p.1) (some p)).isSome = true from rfl]
    wtm_at "rd"
    refine rd_dgetX (dg_iv hd (by rw [kvT_val, e1]; rfl)) ?_
    wtm_at "rd"
    exact kk _ ⟨_, rfl, g2⟩
theorem c_l_hot (T : Cx K mg) (B : Tb P w K mg base) : CalX P w K mg base CX0 1 "_law_hot" (sp_l_hot K) [] := by
  obtain ⟨fd, F, ok⟩ := f_l_hot (P := P) (w := w) (base := base) T B
  exact ⟨_, fd, p_l_hot, [], ok, gl_l_hot T, F.kp, FunD.bindsN F fun _ _ _ _ _ _ us hl => match us, hl with | [_, _], _ => rfl, .nil⟩
end
section
variable {P : Program} {w : World} {K : PySem.W.Frag} {mg : Str → Option Value} {base : Heap}
def sp_l_counted (K : PySem.W.Frag) : Sp := fun vs H Q E => ∃ (e l : Addr) (R cy : Int) (xs : ES) (ps : List (Addr × Sy)), vs = [.ref e, .int cy, .ref l] ∧ (EN HO.lst H e xs) ∧ (keysE xs) ∧ (okE R cy xs) ∧ (R ≤ 256) ∧ (SyL H l ps) ∧ (∀ p, p ∈ ps → p.2.T) ∧ (∀ zs H1, EN HO.lst H1 e zs → keysE zs → okE R cy zs → lkE zs = tell (ps.map (·.2)) cy (lkE xs) → Kp [e] H H1 → Q .non H1)
theorem us_l_counted {K : PySem.W.Frag} {H : Hp} {Q : VK} {E : XK} {e l : Addr} {R cy : Int} {xs : ES} {ps : List (Addr × Sy)} (hE : EN HO.lst H e xs) (nd : keysE xs) (ok : okE R cy xs) (hR : R ≤ 256) (hl : SyL H l ps) (tp : ∀ p, p ∈ ps → p.2.T) (kk : ∀ zs H1, EN HO.lst H1 e zs → keysE zs → okE R cy zs → lkE zs = tell (ps.map (·.2)) cy (lkE xs) → Kp [e] H H1 → Q .non H1) : sp_l_counted K [.ref e, .int cy, .ref l] H Q E := ⟨_, _, _, _, _, _, rfl, hE, nd, ok, hR, hl, tp, kk⟩
theorem f_l_counted (T : Cx K mg) (B : Tb P w K mg base) : ∃ fd, FunD K "_law_counted" "_law_counted" (defArgs s_l_counted) (defBody s_l_counted) (defScope s_l_counted) (d_l_counted.dvs K) (d_l_counted.kws K) (fAd K d_l_counted.at_) fd ∧ FnOk P w K mg base CX0 1 (fAd K d_l_counted.at_) fd p_l_counted (sp_l_counted K) := by
  obtain ⟨fd, F⟩ := T.says.def_ 26 (d := d_l_counted) rfl
  refine ⟨fd, F, fnD F sc_l_counted (fun vs H Q E h => by
    obtain ⟨_, _, _, _, _, _, rfl, _⟩ := h
    rfl) fun cdv A outer s H vs Q E hr h => ?_⟩
  have hu := hu_of hr
  obtain ⟨e, l, R, cy, xs, ps, rfl, hE, nd, ok, hR, hl, tp, kk⟩ := h
  refine ⟨_, (pss_one (ps_for PassesOwn.never rfl (pi_list (pe_callB (call_sortedDL rfl) (by rfl) (fr_sorted T) (by decide +kernel) (pa_cons (pv 0) pa_nil))) (pg_name (i := 3) sc_l_counted.nd rfl (by first | exact Or.inl rfl | exact Or.inr rfl)) (pss_cons (ps_set (i := 4) sc_l_counted.nd rfl (by first | exact Or.inl rfl | exact Or.inr rfl) (pe_ix ix_list (pe_dget hu (pv 0) (pv 3) (fun _ _ => rfl)) pe_int (fun _ _ => rfl))) (pss_one (ps_if (pt_cmpR (op_inD hr.units65) (pv 4) (pv 2) rfl) (pss_cons (ps_dput hu (pv 0) (pv 3) (pe_lst (pa_cons (pv 4) (pa_cons (pe_op op_add (pe_ix ix_list (pe_dget hu (pv 0) (pv 3) (fun _ _ => rfl)) pe_int (fun _ _ => rfl)) pe_int) pa_nil))) rfl) (pss_one (ps_if (pt_cmpR op_ge (pe_ix ix_list (pe_dget hu (pv 0) (pv 3) (fun _ _ => rfl)) pe_int (fun _ _ => rfl)) (pv 1) (nomark _)) (pss_one (ps_expr (pe_dpop1 (pv 0) (pv 3) ⟨rfl, rfl, rfl, rfl⟩))) pss_nil))) pss_nil))))), ?_⟩
  rw [show L2.start n_l_counted [.ref e, .int cy, .ref l] = [some (.ref e), some (.int cy), some (.ref l), none, none] from rfl]
  try dsimp only [cxOf, Cx.nox, Cx.wish, List.map]

  have hd := hE.at_
  wtm_at "rd"
  refine rd_sortedDL hd (kvT_ks ek xs) fun os r o1 o2 nr => ?_
  have k1 : Kp [] H (upd H r (.lst (os.map V.int))) := Kp.new nr
  have gl : upd H r (.lst (os.map V.int)) r = some (.lst (os.map V.int)) := upd_same
  have nlD : r ≠ e := fun z => ne_of_none hd nr z.symm
  have ond := o1.nodup_iff.mpr nd
  have hE1 := hE.k0 k1
  have hl1 := hl.k0 k1
  generalize upd H r (.lst (os.map V.int)) = H1 at k1 gl hE1 hl1

  wtm_at "rd"
  refine forL_by (K := K) (os.map V.int) (fun i σ H2 => (∃ v3 v4, σ = [some (.ref e), some (.int cy), some (.ref l), v3, v4]) ∧ (∃ zs, EN HO.lst H2 e zs ∧ keysE zs ∧ okE R cy zs ∧ ∀ k, lkE zs k = if k ∈ os.take i then tell (ps.map (·.2)) cy (lkE xs) k else lkE xs k) ∧ Kp [e] H1 H2) ⟨⟨_, _, rfl⟩, ⟨xs, hE1, nd, ok, fun k => by simp⟩, Kp.refl⟩ (fun i σ H2 _ q => SqL.of (q.2.2.g1 nlD gl)) ?_ ?_
  · rintro i x σ H2 hx ⟨⟨v3, v4, rfl⟩, ⟨zs, Z, nz, oz, lz⟩, k2⟩
    rw [List.getElem?_map] at hx
    obtain ⟨k, hk, rfl⟩ := Option.map_eq_some_iff.mp hx
    obtain ⟨hi, ek'⟩ := List.getElem?_eq_some_iff.mp hk
    have km := o1.mem_iff.mp (List.mem_of_getElem? hk)
    have kn : k ∉ os.take i := fun m => by
      obtain ⟨j, hj, e⟩ := List.mem_take_iff_getElem.mp m
      have := (List.getElem_inj ond).mp (e.trans ek'.symm)
      omega
    obtain ⟨p0, hp0⟩ := fdT_key km
    obtain ⟨p, pm, hp, ep, es⟩ := lkE_some (xs := zs) (k := k) (z := p0.2.2) (by
      rw [lz, if_neg kn]
      unfold lkE
      rw [hp0]
      rfl)
    have hN : lkE xs k = some p.2.2 := by
      rw [ep]
      unfold lkE
      rw [hp0]
      rfl
    obtain ⟨op1, op2, op3⟩ := oz p pm
    have ks : ek p.2 = k := (fdT_some hp).2
    obtain ⟨g1, g2⟩ := Z.find hp
    have hd2 := Z.at_
    have lzz := lenK nz oz hR
    have len : (kvT ek zs).length < sizeLine := szlt (by
      rw [kvT_len]
      omega)
    have hl2 : SyL H2 l ps := hl1.kw k2 (fun q hq => by
      rw [List.mem_singleton.mp hq]
      exact .inl ⟨_, hE1.at_⟩) (by simp [ne_of hl1.at_ hE1.at_ (by intro z; cases z)])
    have nxt : ∀ {ys : ES} {j : Int}, (∀ j, lkE ys j = if j = k then (if p.2.2.1 ∈ ps.map (·.2) then (if p.2.2.2 + 1 < cy then some (p.2.2.1, p.2.2.2 + 1) else none) else some p.2.2) else lkE zs j) → lkE ys j = if j ∈ os.take (i + 1) then tell (ps.map (·.2)) cy (lkE xs) j else lkE xs j := fun {ys j} h => by
      rw [h j, List.take_succ_eq_append_getElem hi, ek']
      by_cases e : j = k
      · rw [if_pos e, if_pos (List.mem_append_right _ (List.mem_singleton.mpr e)), e]
        unfold tell
        rw [hN]
      · rw [if_neg e, lz]
        by_cases m : j ∈ os.take i
        · rw [if_pos m, if_pos (List.mem_append_left _ m)]
        · rw [if_neg m, if_neg (fun z => (List.mem_append.mp z).elim m fun z => e (List.mem_singleton.mp z))]
    wtm_at "rd"
    refine rd_dgetX (dg_iv hd2 (by rw [kvT_val, hp]; rfl)) ?_
    wtm_at "rd"
    refine rd_inSy g2 hl2 (Sy.T.of op1) tp ?_
    wtm_at "rd"
    refine ite_d (fun hc => ?_) (fun hc => ?_)
    rotate_left
    · wtm_at "rd"
      refine ⟨⟨_, _, rfl⟩, ⟨zs, Z, nz, oz, fun j => nxt fun j => ?_⟩, k2⟩
      by_cases e : j = k
      · rw [if_pos e, if_neg hc, e, lz, if_neg kn, hN]
      · rw [if_neg e]
    wtm_at "rd"
    refine rd_dgetX (dg_iv hd2 (by rw [kvT_val, hp]; rfl)) ?_
    wtm_at "rd"
    refine ⟨sz1000 (by simp), fun a na => ?_⟩
    have k3 : Kp [] H2 (upd H2 a (.lst [.ref p.2.1, .int (p.2.2.2 + 1)])) := Kp.new na
    have ga3 : upd H2 a (.lst [.ref p.2.1, .int (p.2.2.2 + 1)]) a = some (.lst [.ref p.2.1, .int (p.2.2.2 + 1)]) := upd_same
    have Z3 := Z.k0 k3
    have g23 := k3.g0 g2
    generalize upd H2 a (.lst [.ref p.2.1, .int (p.2.2.2 + 1)]) = H3 at k3 ga3 Z3 g23
    have hd3 := Z3.at_
    wtm_at "rd"
    have ep2 := kvT_put ek zs (a, (p.2.1, p.2.2.1, p.2.2.2 + 1))
    have Z4 := Z3.put mkL (p := (a, (p.2.1, p.2.2.1, p.2.2.2 + 1))) ga3 g23
    rw [← ep2, show ek ((a, (p.2.1, p.2.2.1, p.2.2.2 + 1)) : Addr × Ent).2 = k from ks] at Z4
    have k4 : Kp [e] H2 (upd H3 e (.dK (putK (kvT ek zs) (.inl k) (.ref a)))) := k3.of0.wr (by simp)
    generalize upd H3 e (.dK (putK (kvT ek zs) (.inl k) (.ref a))) = H4 at Z4 k4
    have hd4 := Z4.at_
    have hf4 : fdT ek (ptT ek zs (a, (p.2.1, p.2.2.1, p.2.2.2 + 1))) k = some (a, (p.2.1, p.2.2.1, p.2.2.2 + 1)) := by
      rw [fdT_put, if_pos (show ek ((a, (p.2.1, p.2.2.1, p.2.2.2 + 1)) : Addr × Ent).2 = k from ks)]
    have ha4 := (Z4.find hf4).1
    refine rd_dgetX (dg_iv hd4 (by rw [kvT_val, hf4]; rfl)) ?_
    wtm_at "rd"
    refine ite_d (fun hc2 => ?_) (fun hc2 => ?_)
    · wtm_at "rd"
      refine rd_dpop1 ?_
      wtm_at "rd"
      refine ⟨_, .inl k, .ref a, hd4, rfl, by rw [kvT_val, hf4]; rfl, ?_⟩
      rw [kvT_drop]
      wtm_at "rd"
      refine ⟨⟨_, _, rfl⟩, ⟨_, Z4.drop mkL, keysE_drop (keysE_put nz _) _, fun q hq => ?_, fun j => nxt fun j => ?_⟩, (k2.trans k4).wr (by simp)⟩
      · obtain ⟨m, hne⟩ := List.mem_filter.mp hq
        rcases ptT_mem m with rfl | m
        · exact absurd ks (of_decide_eq_true hne)
        · exact oz q m
      · rw [lkE_drop, lkE_put, show ek ((a, (p.2.1, p.2.2.1, p.2.2.2 + 1)) : Addr × Ent).2 = k from ks]
        by_cases e : j = k
        · rw [if_pos e, if_pos e, if_pos hc, if_neg (by have : p.2.2.2 + 1 ≥ cy := hc2; omega)]
        · rw [if_neg e, if_neg e, if_neg e]
    · wtm_at "rd"
      have hc3 : p.2.2.2 + 1 < cy := by
        have : ¬ p.2.2.2 + 1 ≥ cy := hc2
        omega
      refine ⟨⟨_, _, rfl⟩, ⟨_, Z4, keysE_put nz _, fun q hq => ?_, fun j => nxt fun j => ?_⟩, k2.trans k4⟩
      · rcases ptT_mem hq with rfl | m
        · exact ⟨op1, by show 0 ≤ p.2.2.2 + 1; omega, hc3⟩
        · exact oz q m
      · rw [lkE_put, show ek ((a, (p.2.1, p.2.2.1, p.2.2.2 + 1)) : Addr × Ent).2 = k from ks]
        by_cases e : j = k
        · rw [if_pos e, if_pos e, if_pos hc, if_pos hc3]
        · rw [if_neg e, if_neg e]
  rintro σ H2 ⟨⟨v3, v4, rfl⟩, ⟨zs, Z, nz, oz, lz⟩, k2⟩
  rw [List.length_map, List.take_length] at lz
  wtm_at "rd"
  refine kk zs H2 Z nz oz ?_ (k1.of0.trans k2)
  funext j
  rw [lz]
  by_cases m : j ∈ os
  · rw [if_pos m]
  · rw [if_neg m]
    have : lkE xs j = none := by
      cases e : lkE xs j with
      | none => rfl
      | some z =>
        obtain ⟨q, qm, _, _, e2⟩ := lkE_some e
        have h1 : ek q.2 ∈ ((xs.map (·.2)).map ek) := List.mem_map_of_mem (List.mem_map_of_mem qm)
        have h2 : ek q.2 = j := by
          obtain ⟨q', _, h3, h4, h5⟩ := lkE_some e
          have : q.2.2.1.s = j := by
            have h6 := lkE_some e
            rw [show q.2.2 = z by assumption]
            exact e2
          exact this
        exact absurd (h2 ▸ h1) (fun z => m (o1.mem_iff.mpr z))
    unfold tell
    rw [this]
theorem c_l_counted (T : Cx K mg) (B : Tb P w K mg base) : CalX P w K mg base CX0 1 "_law_counted" (sp_l_counted K) [] := by
  obtain ⟨fd, F, ok⟩ := f_l_counted (P := P) (w := w) (base := base) T B
  exact ⟨_, fd, p_l_counted, [], ok, gl_l_counted T, F.kp, FunD.bindsN F fun _ _ _ _ _ _ us hl => match us, hl with | [_, _, _], _ => rfl, .nil⟩
end
section
variable {P : Program} {w : World} {K : PySem.W.Frag} {mg : Str → Option Value} {base : Heap}
def sp_l_pick (K : PySem.W.Frag) : Sp := fun vs H Q E => ∃ (e : Addr) (xs : ES) (R cy room : Int), vs = [.ref e, .int room] ∧ (EN HO.lst H e xs) ∧ (keysE xs) ∧ (okE R cy xs) ∧ (R ≤ 256) ∧ (0 ≤ room) ∧ (∀ r H1, SyL H1 r ((pickE xs room).map fun p => (p.2.1, p.2.2.1)) → Kp [] H H1 → H r = none → Q (.ref r) H1)
theorem us_l_pick {K : PySem.W.Frag} {H : Hp} {Q : VK} {E : XK} {e : Addr} {xs : ES} {R cy room : Int} (hE : EN HO.lst H e xs) (nd : keysE xs) (ok : okE R cy xs) (hR : R ≤ 256) (hr : 0 ≤ room) (kk : ∀ r H1, SyL H1 r ((pickE xs room).map fun p => (p.2.1, p.2.2.1)) → Kp [] H H1 → H r = none → Q (.ref r) H1) : sp_l_pick K [.ref e, .int room] H Q E := ⟨_, _, _, _, _, rfl, hE, nd, ok, hR, hr, kk⟩
theorem f_l_pick (T : Cx K mg) (B : Tb P w K mg base) : ∃ fd, FunD K "_law_pick" "_law_pick" (defArgs s_l_pick) (defBody s_l_pick) (defScope s_l_pick) (d_l_pick.dvs K) (d_l_pick.kws K) (fAd K d_l_pick.at_) fd ∧ FnOk P w K mg base CX0 1 (fAd K d_l_pick.at_) fd p_l_pick (sp_l_pick K) := by
  obtain ⟨fd, F⟩ := T.says.def_ 27 (d := d_l_pick) rfl
  refine ⟨fd, F, fnD F sc_l_pick (fun vs H Q E h => by
    obtain ⟨_, _, _, _, _, rfl, _⟩ := h
    rfl) fun cdv A outer s H vs Q E hr h => ?_⟩
  have hu := hu_of hr
  obtain ⟨e, xs, R, cy, room, rfl, hE, nd, ok, hR, hr, kk⟩ := h
  refine ⟨_, (pss_cons (ps_set (i := 2) sc_l_pick.nd rfl (by first | exact Or.inl rfl | exact Or.inr rfl) (pe_callB cr_sortedPO (by rfl) (fr_sorted T) (by decide +kernel) (pa_cons (pe_lock (pe_lc (own := [("_law_seat_here", 3)]) (g := (gName 3)) (tt := tYes) rfl sc_l_pick.nd (pi_keys (pv 0)) (blkOk_by (own := [("_law_seat_here", 3)]) (N := n_l_pick) (sc := defScope s_l_pick) (by decide +kernel)) (fun _ _ _ _ _ => (pg_name (i := 3) sc_l_pick.nd rfl (by first | exact Or.inl rfl | exact Or.inr rfl))) (fun _ _ _ _ _ => pts_nil) (fun _ _ _ _ _ => (pe_tup (pa_cons (pe_ix (ix_listK (K := K) rfl) (pe_dget hu (pv 0) (pv 3) (fun _ _ => rfl)) pe_int (fun _ _ => rfl)) (pa_cons (pv 3) pa_nil)))))) pa_nil))) (pss_one (ps_ret (pe_lc (own := [("_law_pair", 4)]) (g := (gName 4)) (tt := tYes) rfl sc_l_pick.nd (pi_list (pe_slice sl_list (pv 2) po_none (po_some (pv 1)))) (blkOk_by (own := [("_law_pair", 4)]) (N := n_l_pick) (sc := defScope s_l_pick) (by decide +kernel)) (fun _ _ _ _ _ => (pg_name (i := 4) sc_l_pick.nd rfl (by first | exact Or.inl rfl | exact Or.inr rfl))) (fun _ _ _ _ _ => pts_nil) (fun _ _ _ _ _ => (pe_ix (ix_listK (K := K) rfl) (pe_dget hu (pv 0) (pe_ix (ix_tupK (K := K) rfl) (pv 4) pe_int (fun _ _ => rfl)) (fun _ _ => rfl)) pe_int (fun _ _ => rfl))))))), ?_⟩
  rw [show L2.start n_l_pick [.ref e, .int room] = [some (.ref e), some (.int room), none, none, none] from rfl]
  try dsimp only [cxOf, Cx.nox, Cx.wish, List.map]

  skip
  have hd := hE.at_
  have lx := lenK nd ok hR
  wtm_at "rd"
  refine rd_lockE hd trivial fun od => ?_
  have s1 : upd H e (.frz od (.dK (kvT ek xs))) e = some (.frz od (.dK (kvT ek xs))) := upd_same
  have gx : ∀ p, p ∈ xs → upd H e (.frz od (.dK (kvT ek xs))) p.1 = some (HO.lst [.ref p.2.1, .int p.2.2.2]) := fun p hp => hu_ne (ne_of (hE.ob p hp).1 hd (mkL.dk _ _)) (hE.ob p hp).1
  have kL : ∀ H2, Kp [] (upd H e (.frz od (.dK (kvT ek xs)))) H2 → Kp [] H (upd H2 e (.dK (kvT ek xs))) := fun H2 k => kp_lock hd k
  generalize upd H e (.frz od (.dK (kvT ek xs))) = H1 at *
  refine rd_lc (rd_iKeys ?_)
  wtm_at "rd"
  refine ⟨e, od, rfl, .inl ⟨_, s1, fun D hD => ?_⟩⟩
  refine lcKT_by xs (fun i H2 => (∃ qs, PQ H2 D qs ∧ qs.map (·.2) = xs.take i) ∧ Kp [] H1 H2) ⟨⟨[], ⟨upd_same, fun q hq => by cases hq⟩, rfl⟩, Kp.new hD⟩ (fun i H2 _ z => z.2.g0 s1) (fun i hi H2 z => ?_) (fun H2 z => ?_)
  · obtain ⟨⟨qs, z1, z2⟩, k2⟩ := z
    have ql : qs.length = i := by
      have := congrArg List.length z2
      rw [List.length_map, List.length_take] at this
      omega
    have pm := List.getElem_mem hi
    have hp1 := k2.g0 (gx _ pm)
    have s2 := k2.g0 s1
    wtm_at "rd"
    refine ⟨rfl, ?_⟩
    wtm_at "rd"
    refine rd_dgetX (dg_fz s2 (by rw [kvT_val, fdE_of nd pm]; rfl)) ?_
    wtm_at "rd"
    refine ⟨sz1000 (by simp), fun t nt => ?_⟩
    have z3 := hu_ne (o := .tup [.int xs[i].2.2.2, .int (ek xs[i].2)]) (ne_of_none z1.at_ nt) z1.at_
    have ntD : t ≠ D := fun e => ne_of_none z1.at_ nt e.symm
    refine ⟨_, z3, szlt (by rw [List.length_map]; omega), ⟨qs ++ [(t, xs[i])], ⟨by rw [upd_same, List.map_append]; rfl, fun q hq => ?_⟩, ?_⟩, (k2.nw nt).mine hD⟩
    · rcases List.mem_append.mp hq with m | m
      · have h1 := z1.ob q m
        have h2 := hu_ne (o := .tup [.int xs[i].2.2.2, .int (ek xs[i].2)]) (ne_of_none h1 nt) h1
        exact hu_ne (ne_of h2 z3 (by intro z; cases z)) h2
      · rw [List.mem_singleton.mp m]
        exact hu_ne ntD upd_same
    · rw [List.map_append, z2, List.take_succ_eq_append_getElem hi]
      rfl
  obtain ⟨⟨qs, z1, z2⟩, k2⟩ := z
  rw [List.take_length] at z2
  refine ⟨k2.g0 s1, ?_⟩
  have nDd : D ≠ e := Ne.symm (ne_of_none s1 hD)
  have s2 := k2.g0 s1
  have z3 : PQ (upd H2 e (.dK (kvT ek xs))) D qs := ⟨hu_ne nDd z1.at_, fun q hq => hu_ne (ne_of (z1.ob q hq) s2 (by intro z; cases z)) (z1.ob q hq)⟩
  have k3 := kL H2 k2
  generalize upd H2 e (.dK (kvT ek xs)) = H3 at k3 z3
  clear kL gx s1 s2 z1 k2 hD 
  have E3 := hE.k0 k3
  have hb3 := trivial
  refine ⟨D, _, kP H3, rfl, SqL.of z3.at_, fun x hx => ?_, fun zs r s1 s2 nr => ?_⟩
  · obtain ⟨q, hq, rfl⟩ := List.mem_map.mp hx
    refine ⟨q.1, rfl, ?_⟩
    rw [kP_at (z3.ob q hq)]
    exact z3.ob q hq
  obtain ⟨zm, zp⟩ := sorted_pick z3 z2 ok hR s1 s2 room
  have zl : zs.length = xs.length := by
    rw [s2.perm.length_eq, List.length_map, ← z2, List.length_map]
  have k4 : Kp [] H3 (upd H3 r (.lst zs)) := Kp.new nr
  have hr4 : upd H3 r (.lst zs) r = some (.lst zs) := upd_same
  generalize upd H3 r (.lst zs) = H4 at k4 hr4
  have E4 := E3.k0 k4
  skip
  obtain ⟨rm, erm⟩ := Int.eq_ofNat_of_zero_le (show 0 ≤ room by omega)
  wtm_at "rd"
  rw [erm] at zp ⊢
  intro c nc
  rw [cut_to]
  rw [Int.toNat_natCast, ← erm] at zp
  have k5 : Kp [] H4 (upd H4 c (.lst (zs.take rm))) := Kp.new nc
  have hc5 : upd H4 c (.lst (zs.take rm)) c = some (.lst (zs.take rm)) := upd_same
  generalize upd H4 c (.lst (zs.take rm)) = H5 at k5 hc5
  have k05 := (k3.trans k4).trans k5
  have k35 := k4.trans k5
  wtm_at "rd"
  intro D2 nD2
  refine lcL_by (K := K) (zs.take rm) (fun i H' => H' D2 = some (.lst ((((zs.take rm).take i).filterMap fun v => fdT ek xs (kP H3 v).2).map fun p => V.ref p.2.1)) ∧ Kp [] H5 H') ⟨upd_same, Kp.new nD2⟩ (fun i H' _ q => SqL.of (q.2.g0 hc5)) (fun i x H' hx q => ?_) (fun H' q => ?_)
  · obtain ⟨q1, k6⟩ := q
    have xm := List.mem_of_mem_take (List.mem_of_getElem? hx)
    obtain ⟨hi, ex⟩ := List.getElem?_eq_some_iff.mp hx
    obtain ⟨q, hq, rfl⟩ := zm x xm
    have pm : q.2 ∈ xs := z2 ▸ List.mem_map_of_mem hq
    have ht := (k35.trans k6).g0 (z3.ob q hq)
    have E6 := E3.k0 (k35.trans k6)
    have hd6 := E6.at_
    have hp6 := (E6.ob q.2 pm).1
    skip
    have len : ((((zs.take rm).take i).filterMap fun v => fdT ek xs (kP H3 v).2).map fun p => V.ref p.2.1).length < sizeLine := szlt (by
      rw [List.length_map]
      have h1 := List.length_filterMap_le (fun v => fdT ek xs (kP H3 v).2) ((zs.take rm).take i)
      rw [List.length_take, List.length_take] at h1
      omega)
    wtm_at "rd"
    refine ⟨rfl, ?_⟩
    wtm_at "rd"
    refine rd_dgetX (dg_iv hd6 (by rw [kvT_val, fdE_of nd pm]; rfl)) ?_
    wtm_at "rd"
    refine ⟨_, q1, len, ?_, k6.mine nD2⟩
    rw [upd_same, List.take_succ_eq_append_getElem hi, ex, List.filterMap_append, List.map_append]
    rw [show [V.ref q.1].filterMap (fun v => fdT ek xs (kP H3 v).2) = [q.2] by
      rw [List.filterMap_cons_some (by rw [(codV_at z3 hq).2.1]; exact fdE_of nd pm)]
      rfl]
    rfl
  · obtain ⟨q1, k6⟩ := q
    rw [List.take_length, zp] at q1
    have E6 := E3.k0 (k35.trans k6)
    refine kk D2 H' ⟨by rw [q1, List.map_map]; rfl, fun p hp => ?_⟩ (k05.trans k6) (k05.back nD2 (by simp))
    obtain ⟨p', hp', rfl⟩ := List.mem_map.mp hp
    unfold pickE at hp'
    obtain ⟨v, hv, e⟩ := List.mem_filterMap.mp hp'
    exact (E6.find e).2
theorem c_l_pick (T : Cx K mg) (B : Tb P w K mg base) : CalX P w K mg base CX0 1 "_law_pick" (sp_l_pick K) [] := by
  obtain ⟨fd, F, ok⟩ := f_l_pick (P := P) (w := w) (base := base) T B
  exact ⟨_, fd, p_l_pick, [], ok, gl_l_pick T, F.kp, FunD.bindsN F fun _ _ _ _ _ _ us hl => match us, hl with | [_, _], _ => rfl, .nil⟩
end
section
variable {P : Program} {w : World} {K : PySem.W.Frag} {mg : Str → Option Value} {base : Heap}
def sp_l_tell (K : PySem.W.Frag) : Sp := fun vs H Q E => ∃ (nw s d e l : Addr) (st : Stg) (N : NN) (ps : List (Addr × Sy)), vs = [.ref nw, .ref e, .int (st.bits * st.pat), .ref l] ∧ (SN K H nw s d e st N) ∧ (SyL H l ps) ∧ (∀ p, p ∈ ps → p.2.T) ∧ (ps.length ≤ 5000) ∧ (∀ H1, SN K H1 nw s d e st (tell (ps.map (·.2)) (st.bits * st.pat) N) → Kp [d, e, l] H H1 → Q (.bl true) H1)
theorem us_l_tell {K : PySem.W.Frag} {H : Hp} {Q : VK} {E : XK} {nw s d e l : Addr} {st : Stg} {N : NN} {ps : List (Addr × Sy)} (hN : SN K H nw s d e st N) (hl : SyL H l ps) (tp : ∀ p, p ∈ ps → p.2.T) (hn : ps.length ≤ 5000) (kk : ∀ H1, SN K H1 nw s d e st (tell (ps.map (·.2)) (st.bits * st.pat) N) → Kp [d, e, l] H H1 → Q (.bl true) H1) : sp_l_tell K [.ref nw, .ref e, .int (st.bits * st.pat), .ref l] H Q E := ⟨_, _, _, _, _, _, _, _, rfl, hN, hl, tp, hn, kk⟩
theorem f_l_tell (T : Cx K mg) (B : Tb P w K mg base) : ∃ fd, FunD K "_law_tell" "_law_tell" (defArgs s_l_tell) (defBody s_l_tell) (defScope s_l_tell) (d_l_tell.dvs K) (d_l_tell.kws K) (fAd K d_l_tell.at_) fd ∧ FnOk P w K mg base CX0 4 (fAd K d_l_tell.at_) fd p_l_tell (sp_l_tell K) := by
  have c_News_told := c_News_told (P := P) (w := w) (base := base) T B
  have c_l_counted := c_l_counted (P := P) (w := w) (base := base) T B
  have c_News___len__ := c_News___len__ (P := P) (w := w) (base := base) T B
  obtain ⟨fd, F⟩ := T.says.def_ 28 (d := d_l_tell) rfl
  refine ⟨fd, F, fnD F sc_l_tell (fun vs H Q E h => by
    obtain ⟨_, _, _, _, _, _, _, _, rfl, _⟩ := h
    rfl) fun cdv A outer s H vs Q E hr h => ?_⟩
  have hu := hu_of hr
  obtain ⟨nw, s, d, e, l, st, N, ps, rfl, hN, hl, tp, hn, kk⟩ := h
  refine ⟨_, (pss_cons (ps_set (i := 4) sc_l_tell.nd rfl (by first | exact Or.inl rfl | exact Or.inr rfl) (pe_callTy call_listOf (by rfl) (fr_list T) (by decide +kernel) (pa_cons (pv 3) pa_nil))) (pss_cons (ps_if (PW.pt (pw_or (pt_cmp (pc_notN (pe_met c_News_told hr (by decide) pass0 (pv 0) (pa_cons (pv 3) pa_nil)))) (pw_or1 (pt_cmpR (op_neD hr.units) (pv 3) (pv 4) (nomark _))))) (pss_one (ps_ret pe_bl)) pss_nil) (pss_cons (ps_expr (pe_bm0 PySem.F.plainAttrs_list PySem.F.slot_list_reverse PySem.F.type_list_reverse mt_reverse (pv 3))) (pss_cons (ps_expr (pe_bm PySem.F.plainAttrs_list PySem.F.slot_list_append PySem.F.type_list_append mt_append (pv 3) (pa_cons (pe_tup (pa_cons pe_int (pa_cons pe_int (pa_cons pe_str (pa_cons pe_str pa_nil))))) pa_nil))) (pss_cons (ps_expr (pe_cal c_l_counted hr (by decide) (by rfl) pass0 (pa_cons (pv 1) (pa_cons (pv 2) (pa_cons (pv 4) pa_nil))))) (pss_one (ps_ret (pe_cmpR op_eq (pe_callB (call_lenX c_News___len__ hr (by decide) pass0) (by rfl) (fr_len T) (by decide +kernel) (pa_cons (pv 0) pa_nil)) (pe_callB call_lenD' (by rfl) (fr_len T) (by decide +kernel) (pa_cons (pv 1) pa_nil)) (nomark _))))))))), ?_⟩
  rw [show L2.start n_l_tell [.ref nw, .ref e, .int (st.bits * st.pat), .ref l] = [some (.ref nw), some (.ref e), some (.int (st.bits * st.pat)), some (.ref l), none] from rfl]
  try dsimp only [cxOf, Cx.nox, Cx.wish, List.map]

  obtain ⟨⟨dx, hb⟩, hS, hh, hta, ne⟩ := id hN
  have hR := hS.ok.r256
  obtain ⟨xs, E0, nd, ok, e1⟩ := hh.ex
  obtain ⟨ys, T0, nt, okt, e2⟩ := hta.ex
  have g := hl.at_
  wtm_at "rd"
  intro c nc
  have k1 : Kp [] H (upd H c (.lst (ps.map fun p => V.ref p.1))) := Kp.new nc
  have C1 : SyL (upd H c (.lst (ps.map fun p => V.ref p.1))) c ps := ⟨upd_same, fun q hq => k1.g0 (hl.ob q hq)⟩
  have ncl : c ≠ l := fun e => ne_of_none g nc e.symm
  have E1 := E0.k0 k1
  have T1 := T0.k0 k1
  have L1 := hl.k0 k1
  have hb1 := k1.g0 hb
  have hS1 := hS.k0 k1
  generalize upd H c (.lst (ps.map fun p => V.ref p.1)) = H1 at k1 C1 E1 T1 L1 hb1 hS1
  wtm_at "rd"
  refine us_News_told ⟨dx, hb1⟩ E1 hS1 nd ok L1 tp fun zs H2 Z nz oz lz k2 => ?_
  have w1 : Wr H1 [d] := fun q hq => by
    rw [List.mem_singleton.mp hq]
    exact .inl ⟨_, E1.at_⟩
  have T2 := T1.kp mkL k2 w1 (by simp [Ne.symm ne])
  have nld : l ≠ d := ne_of L1.at_ E1.at_ (by intro z; cases z)
  have ncd : c ≠ d := ne_of C1.at_ E1.at_ (by intro z; cases z)
  have nle : l ≠ e := ne_of L1.at_ T1.at_ (by intro z; cases z)
  have nce : c ≠ e := ne_of C1.at_ T1.at_ (by intro z; cases z)
  have L2 := L1.kw k2 w1 (by simp [nld])
  have C2 := C1.kw k2 w1 (by simp [ncd])
  have hb2 := k2.g1 (ne_of hb1 E1.at_ (by intro z; cases z)) hb1
  have hS2 := hS1.k1 k2 (hS1.nedK E1.at_)
  have g2 := L2.at_
  wtm_at "rd"
  refine rd_neSyL L2 C2 tp tp ?_
  rw [decide_eq_true rfl]
  wtm_at "rd"
  refine ⟨l, _, rfl, rfl, g2, ?_⟩
  have lC : ((ps.map fun p => V.ref p.1).reverse).length < sizeLine := szlt (by rw [List.length_reverse, List.length_map]; omega)
  have wl2 : Wr H2 [l] := fun q hq => by
    rw [List.mem_singleton.mp hq]
    exact .inr (.inr ⟨ps.map (·.1), by rw [g2, List.map_map]; rfl⟩)
  have k3 : Kp [l] H2 (upd H2 l (.lst (ps.map fun p => V.ref p.1).reverse)) := Kp.refl.wr (by simp)
  have g3 : upd H2 l (.lst (ps.map fun p => V.ref p.1).reverse) l = some (.lst (ps.map fun p => V.ref p.1).reverse) := upd_same
  generalize upd H2 l (.lst (ps.map fun p => V.ref p.1).reverse) = H3 at k3 g3
  wtm_at "rd"
  refine ⟨sz1000 (by simp), fun t nt' => ?_⟩
  have k4 : Kp [l] H2 (upd H3 t (.tup [.int 0, .int 0, .str "alive", .str ""])) := k3.nw nt'
  have g4 := hu_ne (o := .tup [.int 0, .int 0, .str "alive", .str ""]) (ne_of_none g3 nt') g3
  generalize upd H3 t (.tup [.int 0, .int 0, .str "alive", .str ""]) = H4 at k4 g4
  wtm_at "rd"
  have k5 : Kp [l] H2 (upd H4 l (.lst ((ps.map fun p => V.ref p.1).reverse ++ [.ref t]))) := k4.wr (by simp)
  generalize upd H4 l (.lst ((ps.map fun p => V.ref p.1).reverse ++ [.ref t])) = H5 at k5
  have Z5 := Z.kp mkT k5 wl2 (by simp [Ne.symm nld])
  have T5 := T2.kp mkL k5 wl2 (by simp [Ne.symm nle])
  have C5 := C2.kw k5 wl2 (by simp [ncl])
  have hb5 := k5.g1 (ne_of hb2 g2 (by intro z; cases z)) hb2
  have hS5 := hS2.k1 k5 (hS2.nelst g2)
  refine us_l_counted T5 nt okt hR C5 tp fun us H6 U nu ou lu k6 => ?_
  have w5 : Wr H5 [e] := fun q hq => by
    rw [List.mem_singleton.mp hq]
    exact .inl ⟨_, T5.at_⟩
  have Z6 := Z5.kp mkT k6 w5 (by simp [ne])
  have hb6 := k6.g1 (ne_of hb5 T5.at_ (by intro z; cases z)) hb5
  have hS6 := hS5.k1 k6 (hS5.nedK T5.at_)
  have hu6 := U.at_
  have eq : lkE zs = lkE us := by rw [lz, lu, e1, e2]
  wtm_at "rd"
  refine us_News___len__ ⟨dx, hb6⟩ Z6 ?_
  have lzz := lenK nz oz hR
  wtm_at "rd"
  refine ⟨⟨by omega, by omega⟩, ?_⟩
  wtm_at "rd"
  rw [kvT_len, lenE nz nu eq, decide_eq_true rfl]
  refine kk H6 ⟨⟨dx, hb6⟩, hS6, ⟨zs, Z6, nz, oz, by rw [lz, e1]⟩, ⟨us, U, nu, ou, by rw [lu, e2]⟩, ne⟩ ?_
  exact ((k1.of0.trans (k2.mono (by simp))).trans (k5.mono (by simp))).trans (k6.mono (by simp))
theorem c_l_tell (T : Cx K mg) (B : Tb P w K mg base) : CalX P w K mg base CX0 4 "_law_tell" (sp_l_tell K) [] := by
  obtain ⟨fd, F, ok⟩ := f_l_tell (P := P) (w := w) (base := base) T B
  exact ⟨_, fd, p_l_tell, [], ok, gl_l_tell T, F.kp, FunD.bindsN F fun _ _ _ _ _ _ us hl => match us, hl with | [_, _, _, _], _ => rfl, .nil⟩
end
section
variable {P : Program} {w : World} {K : PySem.W.Frag} {mg : Str → Option Value} {base : Heap}
def sp_l_list (K : PySem.W.Frag) : Sp := fun vs H Q E => ∃ (p e m : Addr) (R cy : Int) (xs : ES) (ms : List Int), vs = [.ref p, .ref e, .ref m, .int R] ∧ (BoxB H p) ∧ (EN HO.lst H e xs) ∧ (keysE xs) ∧ (okE R cy xs) ∧ (H m = some (.lst (ms.map V.int))) ∧ (ms ≠ [] ∧ ms.length ≤ 1000 ∧ ∀ z, z ∈ ms → 0 ≤ z ∧ z < R) ∧ (m ≠ p) ∧ (0 < R ∧ R ≤ 256) ∧ (∀ r ps H1, SyL H1 r ps → (∀ q, q ∈ ps → syOk R q.2 = true) → ps.length ≤ 2000 → BoxB H1 p → Kp [p] H H1 → H r = none → Q (.ref r) H1)
theorem us_l_list {K : PySem.W.Frag} {H : Hp} {Q : VK} {E : XK} {p e m : Addr} {R cy : Int} {xs : ES} {ms : List Int} (hB : BoxB H p) (hE : EN HO.lst H e xs) (nd : keysE xs) (ok : okE R cy xs) (hm : H m = some (.lst (ms.map V.int))) (hms : ms ≠ [] ∧ ms.length ≤ 1000 ∧ ∀ z, z ∈ ms → 0 ≤ z ∧ z < R) (np : m ≠ p) (hR : 0 < R ∧ R ≤ 256) (kk : ∀ r ps H1, SyL H1 r ps → (∀ q, q ∈ ps → syOk R q.2 = true) → ps.length ≤ 2000 → BoxB H1 p → Kp [p] H H1 → H r = none → Q (.ref r) H1) : sp_l_list K [.ref p, .ref e, .ref m, .int R] H Q E := ⟨_, _, _, _, _, _, _, rfl, hB, hE, nd, ok, hm, hms, np, hR, kk⟩
theorem f_l_list (T : Cx K mg) (B : Tb P w K mg base) : ∃ fd, FunD K "_law_list" "_law_list" (defArgs s_l_list) (defBody s_l_list) (defScope s_l_list) (d_l_list.dvs K) (d_l_list.kws K) (fAd K d_l_list.at_) fd ∧ FnOk P w K mg base CX0 5 (fAd K d_l_list.at_) fd p_l_list (sp_l_list K) := by
  have c_l_take := c_l_take (P := P) (w := w) (base := base) T B
  have c_l_fresh := c_l_fresh (P := P) (w := w) (base := base) T B
  have c_l_near := c_l_near (P := P) (w := w) (base := base) T B
  obtain ⟨fd, F⟩ := T.says.def_ 29 (d := d_l_list) rfl
  refine ⟨fd, F, fnD F sc_l_list (fun vs H Q E h => by
    obtain ⟨_, _, _, _, _, _, _, rfl, _⟩ := h
    rfl) fun cdv A outer s H vs Q E hr h => ?_⟩
  have hu := hu_of hr
  obtain ⟨p, e, m, R, cy, xs, ms, rfl, hB, hE, nd, ok, hm, hms, np, hR, kk⟩ := h
  refine ⟨_, (pss_cons (ps_set (i := 4) sc_l_list.nd rfl (by first | exact Or.inl rfl | exact Or.inr rfl) (pe_lst pa_nil)) (pss_cons (ps_for PassesOwn.never rfl (pi_list (pe_callB (call_sortedDL rfl) (by rfl) (fr_sorted T) (by decide +kernel) (pa_cons (pv 1) pa_nil))) (pg_name (i := 5) sc_l_list.nd rfl (by first | exact Or.inl rfl | exact Or.inr rfl)) (pss_cons (ps_set (i := 6) sc_l_list.nd rfl (by first | exact Or.inl rfl | exact Or.inr rfl) (pe_ix ix_list (pe_dget hu (pv 1) (pv 5) (fun _ _ => rfl)) pe_int (fun _ _ => rfl))) (pss_cons (ps_set (i := 7) sc_l_list.nd rfl (by first | exact Or.inl rfl | exact Or.inr rfl) (pe_cal c_l_take hr (by decide) (by rfl) pass0 (pa_cons (pv 0) (pa_cons pe_int pa_nil)))) (C8.pss_cut (ps_if (pt_cmpR op_eq (pv 7) pe_int (nomark _)) (pss_one (ps_expr (pe_bm PySem.F.plainAttrs_list PySem.F.slot_list_append PySem.F.type_list_append mt_append (pv 4) (pa_cons (pe_tup (pa_cons (pe_ix ix_tup (pv 6) pe_int (fun _ _ => rfl)) (pa_cons (pe_ix ix_tup (pv 6) pe_int (fun _ _ => rfl)) (pa_cons (pe_ix ix_tup (pv 6) pe_int (fun _ _ => rfl)) (pa_cons (pe_ix ix_tup (pv 6) pe_int (fun _ _ => rfl)) pa_nil))))) pa_nil)))) pss_nil) (C8.pss_cut (ps_if (pt_cmpR op_eq (pv 7) pe_int (nomark _)) (pss_one (ps_expr (pe_bm PySem.F.plainAttrs_list PySem.F.slot_list_append PySem.F.type_list_append mt_append (pv 4) (pa_cons (pe_cal c_l_near hr (by decide) (by rfl) pass0 (pa_cons (pv 0) (pa_cons (pe_cal c_l_fresh hr (by decide) (by rfl) pass0 (pa_cons (pv 0) (pa_cons (pe_lst (pa_cons (pv 5) pa_nil)) (pa_cons (pv 3) pa_nil)))) (pa_cons (pv 6) pa_nil)))) pa_nil)))) pss_nil) (pss_one (ps_if (PW.pt (pw_and (pt_cmpR op_eq (pv 7) pe_int (nomark _)) (pw_and1 (pt_cmpR op_eq (pe_cal c_l_take hr (by decide) (by rfl) pass0 (pa_cons (pv 0) (pa_cons pe_int pa_nil))) pe_int (nomark _))))) (pss_cons (ps_expr (pe_bm PySem.F.plainAttrs_list PySem.F.slot_list_insert PySem.F.type_list_insert mt_insert (pv 4) (pa_cons pe_int (pa_cons (pe_tup (pa_cons (pe_ix ix_tup (pv 6) pe_int (fun _ _ => rfl)) (pa_cons (pe_ix ix_tup (pv 6) pe_int (fun _ _ => rfl)) (pa_cons (pe_ix ix_tup (pv 6) pe_int (fun _ _ => rfl)) (pa_cons (pe_ix ix_tup (pv 6) pe_int (fun _ _ => rfl)) pa_nil))))) pa_nil)))) (pss_one (ps_expr (pe_bm PySem.F.plainAttrs_list PySem.F.slot_list_append PySem.F.type_list_append mt_append (pv 4) (pa_cons (pv 6) pa_nil))))) pss_nil))))))) (pss_cons (ps_for PassesOwn.never rfl (pi_range1 (by rfl) (fr_range T) (pa_cons (pe_cal c_l_take hr (by decide) (by rfl) pass0 (pa_cons (pv 0) (pa_cons pe_int pa_nil))) pa_nil)) (pg_name (i := 8) sc_l_list.nd rfl (by first | exact Or.inl rfl | exact Or.inr rfl)) (pss_one (ps_expr (pe_bm PySem.F.plainAttrs_list PySem.F.slot_list_insert PySem.F.type_list_insert mt_insert (pv 4) (pa_cons (pe_cal c_l_take hr (by decide) (by rfl) pass0 (pa_cons (pv 0) (pa_cons (pe_op op_add (pe_callB call_lenS (by rfl) (fr_len T) (by decide +kernel) (pa_cons (pv 4) pa_nil)) pe_int) pa_nil))) (pa_cons (pe_cal c_l_fresh hr (by decide) (by rfl) pass0 (pa_cons (pv 0) (pa_cons (pv 2) (pa_cons (pv 3) pa_nil)))) pa_nil)))))) (pss_one (ps_ret (pv 4)))))), ?_⟩
  rw [show L2.start n_l_list [.ref p, .ref e, .ref m, .int R] = [some (.ref p), some (.ref e), some (.ref m), some (.int R), none, none, none, none, none] from rfl]
  try dsimp only [cxOf, Cx.nox, Cx.wish, List.map]

  have hd := hE.at_
  have lx := lenK nd ok hR.2
  wtm_at "rd"
  refine ⟨sz1000 (by simp), fun L nL => ?_⟩
  have k1 : Kp [] H (upd H L (.lst [])) := Kp.new nL
  have S1 : SyL (upd H L (.lst [])) L [] := ⟨upd_same, fun q hq => by cases hq⟩
  have nLp : L ≠ p := fun e => hB.ne nL e.symm
  have nLm : m ≠ L := ne_of_none hm nL
  have B1 := hB.k0 k1
  have E1 := hE.k0 k1
  have hm1 := k1.g0 hm
  generalize upd H L (.lst []) = H1 at k1 S1 B1 E1 hm1
  have hd1 := E1.at_
  wtm_at "rd"
  refine rd_sortedDL hd1 (kvT_ks ek xs) fun os r o1 o2 nr => ?_
  have ol : os.length = xs.length := by rw [o1.length_eq, List.length_map, List.length_map]
  have k2 : Kp [] H1 (upd H1 r (.lst (os.map V.int))) := Kp.new nr
  have gl : upd H1 r (.lst (os.map V.int)) r = some (.lst (os.map V.int)) := upd_same
  have nrp : r ≠ p := fun e => B1.ne nr e.symm
  have nrL : r ≠ L := fun e => ne_of_none S1.at_ nr e.symm
  have S2 := S1.k0 k2
  have B2 := B1.k0 k2
  have E2 := E1.k0 k2
  have hm2 := k2.g0 hm1
  generalize upd H1 r (.lst (os.map V.int)) = H2 at k2 gl S2 B2 E2 hm2
  have k02 := k1.trans k2
  have neL : e ≠ L := ne_of E2.at_ S2.at_ (by intro z; cases z)
  have wr : ∀ {H' : Hp} {ps : List (Addr × Sy)}, BoxB H' p → SyL H' L ps → Wr H' [p, L] := fun {H' ps} X Y q hq => by
    simp only [List.mem_cons, List.not_mem_nil, or_false] at hq
    rcases hq with rfl | rfl
    · exact .inr (.inl X)
    · exact .inr (.inr ⟨ps.map (·.1), by rw [Y.at_, List.map_map]; rfl⟩)
  have st : ∀ {H' : Hp}, Kp [p, L] H2 H' → EN HO.lst H' e xs ∧ H' r = some (.lst (os.map V.int)) ∧ H' m = some (.lst (ms.map V.int)) := fun {H'} k =>
    ⟨E2.kp mkL k (wr B2 S2) (by simp [B2.nd E2.at_, neL]), k.g2 nrp nrL gl, k.g2 np nLm hm2⟩
  have put : ∀ {H' : Hp} {ps : List (Addr × Sy)} {t : Addr} {y : Sy}, SyL H' L ps → SyAt H' t y → SyL (upd H' L (.lst ((ps.map fun p => V.ref p.1) ++ [.ref t]))) L (ps ++ [(t, y)]) := fun h1 h2 => h1.snocB h2
  have putO : ∀ {ps : List (Addr × Sy)} {t : Addr} {y : Sy}, (∀ q, q ∈ ps → syOk R q.2 = true) → syOk R y = true → ∀ q, q ∈ ps ++ [(t, y)] → syOk R q.2 = true := fun {ps t y} h1 h2 q hq => by
    rcases List.mem_append.mp hq with m | m
    · exact h1 q m
    · rw [List.mem_singleton.mp m]
      exact h2
  wtm_at "rd"
  refine forL_by (K := K) (os.map V.int) (fun i σ H' => (∃ v5 v6 v7 v8, σ = [some (.ref p), some (.ref e), some (.ref m), some (.int R), some (.ref L), v5, v6, v7, v8]) ∧ (∃ ps, SyL H' L ps ∧ (∀ q, q ∈ ps → syOk R q.2 = true) ∧ ps.length ≤ 2 * i) ∧ BoxB H' p ∧ Kp [p, L] H2 H') ⟨⟨_, _, _, _, rfl⟩, ⟨[], S2, (fun q hq => by cases hq), by simp⟩, B2, Kp.refl⟩ (fun i σ H' _ q => SqL.of (st q.2.2.2).2.1) ?_ ?_
  · rintro i x σ H3 hx ⟨⟨v5, v6, v7, v8, rfl⟩, ⟨ps, S3, ok3, l3⟩, B3, k3⟩
    rw [List.getElem?_map] at hx
    obtain ⟨k, hk, rfl⟩ := Option.map_eq_some_iff.mp hx
    have hi := (List.getElem?_eq_some_iff.mp hk).1
    obtain ⟨q, hq⟩ := fdT_key (o1.mem_iff.mp (List.mem_of_getElem? hk))
    have qm := (fdT_some hq).1
    have oq := (ok q qm).1
    have kr : 0 ≤ k ∧ k < R := by
      have := (syOk_iff.mp oq).1
      have e2 : q.2.2.1.s = k := (fdT_some hq).2
      omega
    obtain ⟨E3, gl3, hm3⟩ := st k3
    have hd3 := E3.at_
    obtain ⟨q1, q2⟩ := E3.find hq
    wtm_at "rd"
    refine rd_dgetX (dg_iv hd3 (by rw [kvT_val, hq]; rfl)) ?_
    wtm_at "rd"
    refine us_l_take B3 (by decide) (by decide) fun wy H4 w0 w1 B4 k4 => ?_
    have S4 := S3.kBx B3 k4
    have k24 : Kp [p, L] H2 H4 := k3.trans (k4.mono (by simp))
    have q4 : SyAt H4 q.2.1 q.2.2.1 := k4.g1 (B3.off q2 fun _ _ _ z => by cases z) q2
    wtm_at "rd"
    refine rd_cut (fun σ H' => σ = [some (.ref p), some (.ref e), some (.ref m), some (.int R), some (.ref L), some (.int k), some (.ref q.2.1), some (.int wy), v8] ∧ (∃ ps, SyL H' L ps ∧ (∀ q, q ∈ ps → syOk R q.2 = true) ∧ (wy = 0 → ps.length ≤ 2 * i + 1) ∧ (wy ≠ 0 → ps.length ≤ 2 * i)) ∧ BoxB H' p ∧ Kp [p, L] H2 H') ?_ ?_
    · wtm_at "rd"
      refine ite_d (fun hc => ?_) (fun hc => ?_)
      · have hS4 := S4.at_
        have q5 := q4
        unfold SyAt Sy.tup at q5
        wtm_at "rd"
        refine ⟨sz1000 (by simp), fun t nt => ?_⟩
        have k5 : Kp [] H4 (upd H4 t (.tup [.int q.2.2.1.s, .int q.2.2.1.l, .str q.2.2.1.m, .str q.2.2.1.w])) := Kp.new nt
        have g5 : SyAt (upd H4 t (.tup [.int q.2.2.1.s, .int q.2.2.1.l, .str q.2.2.1.m, .str q.2.2.1.w])) t q.2.2.1 := upd_same
        have S5 := S4.k0 k5
        have B5 := B4.k0 k5
        generalize upd H4 t (.tup [.int q.2.2.1.s, .int q.2.2.1.l, .str q.2.2.1.m, .str q.2.2.1.w]) = H5 at k5 g5 S5 B5
        have hS5 := S5.at_
        have len : (ps.map fun p => V.ref p.1).length < sizeLine := szlt (by rw [List.length_map]; omega)
        wtm_at "rd"
        exact ⟨rfl, ⟨_, put S5 g5, putO ok3 oq, fun _ => by rw [List.length_append]; exact Nat.succ_le_succ l3, fun z => absurd hc z⟩, B5.ofL (Ne.symm nLp), (k24.trans k5.of0).wr (by simp)⟩
      · wtm_at "rd"
        exact ⟨rfl, ⟨ps, S4, ok3, fun z => absurd z hc, fun _ => l3⟩, B4, k24⟩
    rintro σ H5 ⟨rfl, ⟨ps5, S5, ok5, l50, l51⟩, B5, k5⟩
    have hS5 := S5.at_
    obtain ⟨E5, gl5, hm5⟩ := st k5
    have q5 : SyAt H5 q.2.1 q.2.2.1 := (E5.find hq).2
    wtm_at "rd"
    refine rd_cut (fun σ H' => σ = [some (.ref p), some (.ref e), some (.ref m), some (.int R), some (.ref L), some (.int k), some (.ref q.2.1), some (.int wy), v8] ∧ (∃ ps, SyL H' L ps ∧ (∀ q, q ∈ ps → syOk R q.2 = true) ∧ (wy = 0 ∨ wy = 1 → ps.length ≤ 2 * i + 1) ∧ (¬ (wy = 0 ∨ wy = 1) → ps.length ≤ 2 * i)) ∧ BoxB H' p ∧ Kp [p, L] H2 H') ?_ ?_
    · wtm_at "rd"
      refine ite_d (fun hc => ?_) (fun hc => ?_)
      · have hc : wy = 1 := hc
        have l5 := l51 (by omega)
        wtm_at "rd"
        refine ⟨sz1000 (by simp), fun u nu => ?_⟩
        have k6 : Kp [] H5 (upd H5 u (.lst [.int k])) := Kp.new nu
        have g6 : upd H5 u (.lst [.int k]) u = some (.lst (([k] : List Int).map V.int)) := upd_same
        have nup : u ≠ p := fun e => B5.ne nu e.symm
        have B6 := B5.k0 k6
        have S6 := S5.k0 k6
        have q6 := k6.g0 q5
        generalize upd H5 u (.lst [.int k]) = H6 at k6 g6 B6 S6 q6
        wtm_at "rd"
        refine us_l_fresh (n := R) B6 g6 ⟨by simp, by simp, fun z hz => by rw [List.mem_singleton.mp hz]; exact kr⟩ hR nup fun t y H7 ht oy B7 k7 => ?_
        have q7 : SyAt H7 q.2.1 q.2.2.1 := k7.g1 (B6.off q6 fun _ _ _ z => by cases z) q6
        have S7 := S6.kBx B6 k7
        wtm_at "rd"
        refine us_l_near (n := R) (o := some q.2.2.1) B7 ht oy ⟨_, rfl, q7⟩ (fun z e => by cases e; exact oq) fun t2 y2 H8 ht2 oy2 B8 k8 => ?_
        have S8 := S7.kBx B7 k8
        have hS8 := S8.at_
        have len : (ps5.map fun p => V.ref p.1).length < sizeLine := szlt (by rw [List.length_map]; omega)
        wtm_at "rd"
        exact ⟨rfl, ⟨_, put S8 ht2, putO ok5 oy2, fun _ => by rw [List.length_append]; exact Nat.succ_le_succ l5, fun z => absurd (.inr hc) z⟩, B8.ofL (Ne.symm nLp), ((k5.trans k6.of0).trans ((k7.trans k8).mono (by simp))).wr (by simp)⟩
      · have hc : ¬ wy = 1 := hc
        wtm_at "rd"
        exact ⟨rfl, ⟨ps5, S5, ok5, fun z => z.elim l50 (fun z => absurd z hc), fun z => l51 fun z2 => z (.inl z2)⟩, B5, k5⟩
    rintro σ H6 ⟨rfl, ⟨ps6, S6, ok6, l60, l61⟩, B6, k6⟩
    have l6 : ps6.length ≤ 2 * i + 1 := by
      by_cases z : wy = 0 ∨ wy = 1
      · exact l60 z
      · have := l61 z
        omega
    wtm_at "rd"
    refine ite_d (fun hc => ?_) (fun hc => ?_)
    rotate_left
    · wtm_at "rd"
      exact ⟨⟨_, _, _, _, rfl⟩, ⟨ps6, S6, ok6, by omega⟩, B6, k6⟩
    have hc : wy = 2 := hc
    have l6 := l61 (by omega)
    wtm_at "rd"
    refine us_l_take B6 (by decide) (by decide) fun z H7 z0 z1 B7 k7 => ?_
    have S7 := S6.kBx B6 k7
    have k27 : Kp [p, L] H2 H7 := k6.trans (k7.mono (by simp))
    wtm_at "rd"
    refine ite_d (fun hc2 => ?_) (fun hc2 => ?_)
    rotate_left
    · wtm_at "rd"
      exact ⟨⟨_, _, _, _, rfl⟩, ⟨ps6, S7, ok6, by omega⟩, B7, k27⟩
    obtain ⟨E7, gl7, hm7⟩ := st k27
    have q7 : SyAt H7 q.2.1 q.2.2.1 := (E7.find hq).2
    have q7' := q7
    unfold SyAt Sy.tup at q7'
    have hS7 := S7.at_
    wtm_at "rd"
    refine ⟨sz1000 (by simp), fun t nt => ?_⟩
    have k8 : Kp [] H7 (upd H7 t (.tup [.int q.2.2.1.s, .int q.2.2.1.l, .str q.2.2.1.m, .str q.2.2.1.w])) := Kp.new nt
    have g8 : SyAt (upd H7 t (.tup [.int q.2.2.1.s, .int q.2.2.1.l, .str q.2.2.1.m, .str q.2.2.1.w])) t q.2.2.1 := upd_same
    have S8 := S7.k0 k8
    have B8 := B7.k0 k8
    have q8 := k8.g0 q7
    generalize upd H7 t (.tup [.int q.2.2.1.s, .int q.2.2.1.l, .str q.2.2.1.m, .str q.2.2.1.w]) = H8 at k8 g8 S8 B8 q8
    have hS8 := S8.at_
    refine ⟨L, _, (0 : Int), .ref t, rfl, rfl, hS8, szlt (by rw [List.length_map]; omega), Int.le_refl _, by omega, ?_⟩
    have S9 : SyL (upd H8 L (.lst ([] ++ [V.ref t] ++ ps6.map fun p => V.ref p.1))) L ([(t, q.2.2.1)] ++ ps6) := ⟨by rw [upd_same, List.map_append]; rfl, fun a ha => by
      have off : ∀ (a : Addr) v, H8 a = some (.tup v) → upd H8 L (.lst ([] ++ [V.ref t] ++ ps6.map fun p => V.ref p.1)) a = some (.tup v) := fun a v e => hu_ne (ne_of e hS8 (by intro z; cases z)) e
      rcases List.mem_append.mp ha with m | m
      · rw [List.mem_singleton.mp m]
        exact off _ _ g8
      · exact off _ _ (S8.ob a m)⟩
    have k9 : Kp [L] H8 (upd H8 L (.lst ([] ++ [V.ref t] ++ ps6.map fun p => V.ref p.1))) := Kp.refl.wr (by simp)
    have q9 : SyAt _ q.2.1 q.2.2.1 := k9.g1 (ne_of q8 hS8 (by intro z; cases z)) q8
    have B9 : BoxB _ p := B8.k1 k9 (Ne.symm nLp)
    have S9 : SyL (upd H8 L (.lst (((ps6.map fun p => V.ref p.1).take (Int.toNat 0) ++ [V.ref t]) ++ (ps6.map fun p => V.ref p.1).drop (Int.toNat 0)))) L ([(t, q.2.2.1)] ++ ps6) := S9
    have k9 : Kp [L] H8 (upd H8 L (.lst (((ps6.map fun p => V.ref p.1).take (Int.toNat 0) ++ [V.ref t]) ++ (ps6.map fun p => V.ref p.1).drop (Int.toNat 0)))) := k9
    have q9 : SyAt (upd H8 L (.lst (((ps6.map fun p => V.ref p.1).take (Int.toNat 0) ++ [V.ref t]) ++ (ps6.map fun p => V.ref p.1).drop (Int.toNat 0)))) q.2.1 q.2.2.1 := q9
    have B9 : BoxB (upd H8 L (.lst (((ps6.map fun p => V.ref p.1).take (Int.toNat 0) ++ [V.ref t]) ++ (ps6.map fun p => V.ref p.1).drop (Int.toNat 0)))) p := B9
    generalize upd H8 L (.lst (((ps6.map fun p => V.ref p.1).take (Int.toNat 0) ++ [V.ref t]) ++ (ps6.map fun p => V.ref p.1).drop (Int.toNat 0))) = H9 at S9 k9 q9 B9 ⊢
    have hS9 := S9.at_
    have len : (([(t, q.2.2.1)] ++ ps6).map fun p => V.ref p.1).length < sizeLine := szlt (by rw [List.length_map, List.length_append, List.length_singleton]; omega)
    wtm_at "rd"
    refine ⟨⟨_, _, _, _, rfl⟩, ⟨_, put S9 q9, putO (fun a ha => ?_) oq, ?_⟩, B9.ofL (Ne.symm nLp), ((k27.trans k8.of0).trans (k9.mono (by simp))).wr (by simp)⟩
    · rcases List.mem_append.mp ha with m | m
      · rw [List.mem_singleton.mp m]
        exact oq
      · exact ok6 a m
    · rw [List.length_append, List.length_append, List.length_singleton, List.length_singleton]
      omega
  rintro σ H3 ⟨⟨v5, v6, v7, v8, rfl⟩, ⟨ps, S3, ok3, l3⟩, B3, k3⟩
  rw [List.length_map] at l3
  wtm_at "rd"
  refine us_l_take B3 (by decide) (by decide) fun mo H4 m0 m1 B4 k4 => ?_
  have k24 : Kp [p, L] H2 H4 := k3.trans (k4.mono (by simp))
  have h256 : (10000 : Int) ≤ 10 ^ 60 := by decide +kernel
  wtm_at "rd"
  refine forR_by (fun i σ H' => (∃ v5 v6 v7 v8, σ = [some (.ref p), some (.ref e), some (.ref m), some (.int R), some (.ref L), v5, v6, v7, v8]) ∧ (∃ ps, SyL H' L ps ∧ (∀ q, q ∈ ps → syOk R q.2 = true) ∧ ps.length ≤ 512 + i) ∧ BoxB H' p ∧ Kp [p, L] H2 H') ⟨⟨_, _, _, _, rfl⟩, ⟨ps, S3.kBx B3 k4, ok3, by omega⟩, B4, k24⟩ ?_ ?_
  · rintro i σ H5 hi ⟨⟨v5, v6, v7, v8, rfl⟩, ⟨ps, S5, ok5, l5⟩, B5, k5⟩
    have hi3 : i < 3 := by omega
    obtain ⟨E5, gl5, hm5⟩ := st k5
    have hS5 := S5.at_
    wtm_at "rd"
    rw [List.length_map]
    refine us_l_take B5 (by omega) (by omega) fun z H6 z0 z1 B6 k6 => ?_
    have S6 := S5.kBx B5 k6
    have k26 : Kp [p, L] H2 H6 := k5.trans (k6.mono (by simp))
    obtain ⟨E6, gl6, hm6⟩ := st k26
    wtm_at "rd"
    refine us_l_fresh (n := R) B6 hm6 hms hR np fun t y H7 ht oy B7 k7 => ?_
    have S7 := S6.kBx B6 k7
    obtain ⟨j, rfl⟩ := Int.eq_ofNat_of_zero_le z0
    refine ⟨L, _, (j : Int), .ref t, rfl, rfl, S7.at_, szlt (by rw [List.length_map]; omega), z0, by omega, ?_⟩
    have off : ∀ o (q : Addr) v, H7 q = some (.tup v) → upd H7 L o q = some (.tup v) := fun o q v e => hu_ne (ne_of e S7.at_ (by intro z; cases z)) e
    wtm_at "rd"
    refine ⟨⟨_, _, _, _, rfl⟩, ⟨ps.take j ++ [(t, y)] ++ ps.drop j, ⟨?_, fun q hq => ?_⟩, fun q hq => ?_, ?_⟩, B7.ofL (Ne.symm nLp), (k26.trans (k7.mono (by simp))).wr (by simp)⟩
    · rw [upd_same, List.map_append, List.map_append, List.map_take, List.map_drop]
      rfl
    · rcases List.mem_append.mp hq with m | m
      · rcases List.mem_append.mp m with m | m
        · exact off _ _ _ (S7.ob q (List.mem_of_mem_take m))
        · rw [List.mem_singleton.mp m]
          exact off _ _ _ ht
      · exact off _ _ _ (S7.ob q (List.mem_of_mem_drop m))
    · rcases List.mem_append.mp hq with m | m
      · rcases List.mem_append.mp m with m | m
        · exact ok5 q (List.mem_of_mem_take m)
        · rw [List.mem_singleton.mp m]
          exact oy
      · exact ok5 q (List.mem_of_mem_drop m)
    · rw [List.length_append, List.length_append, List.length_take, List.length_drop, List.length_singleton]
      omega
  rintro σ H5 ⟨⟨v5, v6, v7, v8, rfl⟩, ⟨ps, S5, ok5, l5⟩, B5, k5⟩
  wtm_at "rd"
  refine kk L ps H5 S5 ok5 (by omega) B5 (k02.of0.via k5 fun q hq => ?_) nL
  simp only [List.mem_cons, List.not_mem_nil, or_false] at hq
  rcases hq with rfl | rfl
  · exact .inl (by simp)
  · exact .inr nL
theorem c_l_list (T : Cx K mg) (B : Tb P w K mg base) : CalX P w K mg base CX0 5 "_law_list" (sp_l_list K) [] := by
  obtain ⟨fd, F, ok⟩ := f_l_list (P := P) (w := w) (base := base) T B
  exact ⟨_, fd, p_l_list, [], ok, gl_l_list T, F.kp, FunD.bindsN F fun _ _ _ _ _ _ us hl => match us, hl with | [_, _, _, _], _ => rfl, .nil⟩
end
section
variable {P : Program} {w : World} {K : PySem.W.Frag} {mg : Str → Option Value} {base : Heap}
def sp_l_picks (K : PySem.W.Frag) : Sp := fun vs H Q E => ∃ (p nw s d e : Addr) (st : Stg) (N : NN), vs = [.ref p, .ref nw, .ref e, .int (st.bits * st.pat), .int st.room] ∧ (BoxB H p) ∧ (SN K H nw s d e st N) ∧ (∀ N2 H1, SN K H1 nw s d e st N2 → BoxB H1 p → Kp [p, d, e] H H1 → Q (.bl true) H1)
theorem us_l_picks {K : PySem.W.Frag} {H : Hp} {Q : VK} {E : XK} {p nw s d e : Addr} {st : Stg} {N : NN} (hB : BoxB H p) (hN : SN K H nw s d e st N) (kk : ∀ N2 H1, SN K H1 nw s d e st N2 → BoxB H1 p → Kp [p, d, e] H H1 → Q (.bl true) H1) : sp_l_picks K [.ref p, .ref nw, .ref e, .int (st.bits * st.pat), .int st.room] H Q E := ⟨_, _, _, _, _, _, _, rfl, hB, hN, kk⟩
theorem f_l_picks (T : Cx K mg) (B : Tb P w K mg base) : ∃ fd, FunD K "_law_picks" "_law_picks" (defArgs s_l_picks) (defBody s_l_picks) (defScope s_l_picks) (d_l_picks.dvs K) (d_l_picks.kws K) (fAd K d_l_picks.at_) fd ∧ FnOk P w K mg base CX0 6 (fAd K d_l_picks.at_) fd p_l_picks (sp_l_picks K) := by
  have c_l_take := c_l_take (P := P) (w := w) (base := base) T B
  have c_News_pick := c_News_pick (P := P) (w := w) (base := base) T B
  have c_l_same_rows := c_l_same_rows (P := P) (w := w) (base := base) T B
  have c_l_pick := c_l_pick (P := P) (w := w) (base := base) T B
  have c_l_tell := c_l_tell (P := P) (w := w) (base := base) T B
  obtain ⟨fd, F⟩ := T.says.def_ 30 (d := d_l_picks) rfl
  refine ⟨fd, F, fnD F sc_l_picks (fun vs H Q E h => by
    obtain ⟨_, _, _, _, _, _, _, rfl, _⟩ := h
    rfl) fun cdv A outer s H vs Q E hr h => ?_⟩
  have hu := hu_of hr
  obtain ⟨p, nw, s, d, e, st, N, rfl, hB, hN, kk⟩ := h
  refine ⟨_, (pss_cons (ps_for PassesOwn.never rfl (pi_range1 (by rfl) (fr_range T) (pa_cons (pe_op op_add pe_int (pe_cal c_l_take hr (by decide) (by rfl) pass0 (pa_cons (pv 0) (pa_cons pe_int pa_nil)))) pa_nil)) (pg_name (i := 5) sc_l_picks.nd rfl (by first | exact Or.inl rfl | exact Or.inr rfl)) (pss_cons (ps_set (i := 6) sc_l_picks.nd rfl (by first | exact Or.inl rfl | exact Or.inr rfl) (pe_met0 c_News_pick hr (by decide) pass0 (pv 1))) (pss_cons (ps_if (pt_not (pt_val (pe_cal c_l_same_rows hr (by decide) (by rfl) pass0 (pa_cons (pv 6) (pa_cons (pe_cal c_l_pick hr (by decide) (by rfl) pass0 (pa_cons (pv 2) (pa_cons (pv 4) pa_nil))) pa_nil))))) (pss_one (ps_ret pe_bl)) pss_nil) (pss_one (ps_if (pt_not (pt_val (pe_cal c_l_tell hr (by decide) (by rfl) pass0 (pa_cons (pv 1) (pa_cons (pv 2) (pa_cons (pv 3) (pa_cons (pv 6) pa_nil))))))) (pss_one (ps_ret pe_bl)) pss_nil))))) (pss_one (ps_ret pe_bl))), ?_⟩
  rw [show L2.start n_l_picks [.ref p, .ref nw, .ref e, .int (st.bits * st.pat), .int st.room] = [some (.ref p), some (.ref nw), some (.ref e), some (.int (st.bits * st.pat)), some (.int st.room), none, none] from rfl]
  try dsimp only [cxOf, Cx.nox, Cx.wish, List.map]

  wtm_at "rd"
  refine us_l_take hB (by decide) (by decide) fun mo H1 m0 m1 B1 k1 => ?_
  have N1 := hN.kBx hB k1
  wtm_at "rd"
  refine forR_by (fun i σ H' => (∃ v5 v6, σ = [some (.ref p), some (.ref nw), some (.ref e), some (.int (st.bits * st.pat)), some (.int st.room), v5, v6]) ∧ (∃ N', SN K H' nw s d e st N') ∧ BoxB H' p ∧ Kp [p, d, e] H H') ⟨⟨_, _, rfl⟩, ⟨N, N1⟩, B1, k1.mono (by simp)⟩ ?_ ?_
  · rintro i σ H2 hi ⟨⟨v5, v6, rfl⟩, ⟨N2, S2⟩, B2, k2⟩
    obtain ⟨dx, hb2⟩ := S2.ob
    obtain ⟨xs, E2, nd, ok, e1⟩ := S2.hot.ex
    have hR := S2.se.ok.r256
    have r0 := S2.se.ok.r0
    wtm_at "rd"
    refine us_News_pick ⟨dx, hb2⟩ E2 S2.se nd ok hR fun r H3 R3 k3 nr => ?_
    have S3 := S2.k0 k3
    obtain ⟨ys, T3, nt, okt, e2⟩ := S3.tab.ex
    have ly := lenK nt okt hR
    have lx := lenK nd ok hR
    have py := pickE_len ys st.room
    have px := pickE_len xs st.room
    wtm_at "rd"
    refine us_l_pick T3 nt okt hR (by omega) fun r2 H4 R4 k4 nr2 => ?_
    have S4 := S3.k0 k4
    have R34 := R3.k0 k4
    wtm_at "rd"
    refine us_l_same_rows R34 R4 (pick_same nd nt (e1.trans e2.symm) _) (fun y hy => ?_) (by rw [List.length_map]; omega) ?_
    · obtain ⟨q, hq, rfl⟩ := List.mem_map.mp hy
      exact pick_T okt q hq
    wtm_at "rd"
    refine us_l_tell S4 R34 (pick_T ok) (by rw [List.length_map]; omega) fun H5 S5 k5 => ?_
    have k24 := k3.trans k4
    wtm_at "rd"
    exact ⟨⟨_, _, rfl⟩, ⟨_, S5⟩, S4.box (B2.k0 k24) R34 k5, via3 (k2.trans k24.of0) k5 (S2.fr3 B2 k2 nr)⟩
  · rintro σ H2 ⟨⟨v5, v6, rfl⟩, ⟨N2, S2⟩, B2, k2⟩
    wtm_at "rd"
    exact kk N2 H2 S2 B2 k2
theorem c_l_picks (T : Cx K mg) (B : Tb P w K mg base) : CalX P w K mg base CX0 6 "_law_picks" (sp_l_picks K) [] := by
  obtain ⟨fd, F, ok⟩ := f_l_picks (P := P) (w := w) (base := base) T B
  exact ⟨_, fd, p_l_picks, [], ok, gl_l_picks T, F.kp, FunD.bindsN F fun _ _ _ _ _ _ us hl => match us, hl with | [_, _, _, _, _], _ => rfl, .nil⟩
end
section
variable {P : Program} {w : World} {K : PySem.W.Frag} {mg : Str → Option Value} {base : Heap}
def sp_l_to_end (K : PySem.W.Frag) : Sp := fun vs H Q E => ∃ (p nw s d e : Addr) (st : Stg) (N : NN), vs = [.ref p, .ref nw, .ref e, .int (st.bits * st.pat)] ∧ (BoxB H p) ∧ (SN K H nw s d e st N) ∧ (∀ N2 H1, SN K H1 nw s d e st N2 → BoxB H1 p → Kp [p, d, e] H H1 → Q (.bl true) H1)
theorem us_l_to_end {K : PySem.W.Frag} {H : Hp} {Q : VK} {E : XK} {p nw s d e : Addr} {st : Stg} {N : NN} (hB : BoxB H p) (hN : SN K H nw s d e st N) (kk : ∀ N2 H1, SN K H1 nw s d e st N2 → BoxB H1 p → Kp [p, d, e] H H1 → Q (.bl true) H1) : sp_l_to_end K [.ref p, .ref nw, .ref e, .int (st.bits * st.pat)] H Q E := ⟨_, _, _, _, _, _, _, rfl, hB, hN, kk⟩
theorem f_l_to_end (T : Cx K mg) (B : Tb P w K mg base) : ∃ fd, FunD K "_law_to_end" "_law_to_end" (defArgs s_l_to_end) (defBody s_l_to_end) (defScope s_l_to_end) (d_l_to_end.dvs K) (d_l_to_end.kws K) (fAd K d_l_to_end.at_) fd ∧ FnOk P w K mg base CX0 6 (fAd K d_l_to_end.at_) fd p_l_to_end (sp_l_to_end K) := by
  have c_l_take := c_l_take (P := P) (w := w) (base := base) T B
  have c_News_hot := c_News_hot (P := P) (w := w) (base := base) T B
  have c_l_says := c_l_says (P := P) (w := w) (base := base) T B
  have c_l_tell := c_l_tell (P := P) (w := w) (base := base) T B
  obtain ⟨fd, F⟩ := T.says.def_ 31 (d := d_l_to_end) rfl
  refine ⟨fd, F, fnD F sc_l_to_end (fun vs H Q E h => by
    obtain ⟨_, _, _, _, _, _, _, rfl, _⟩ := h
    rfl) fun cdv A outer s H vs Q E hr h => ?_⟩
  have hu := hu_of hr
  obtain ⟨p, nw, s, d, e, st, N, rfl, hB, hN, kk⟩ := h
  refine ⟨_, (pss_cons (ps_if (pt_cmpR (op_eqDD hr.units70) (pv 2) pe_dnewK (nomark _)) (pss_one (ps_ret (pe_cal c_l_tell hr (by decide) (by rfl) pass0 (pa_cons (pv 1) (pa_cons (pv 2) (pa_cons (pv 3) (pa_cons (pe_lst pa_nil) pa_nil))))))) pss_nil) (pss_cons (ps_set (i := 4) sc_l_to_end.nd rfl (by first | exact Or.inl rfl | exact Or.inr rfl) (pe_ix ix_list (pe_callB (call_sortedDL rfl) (by rfl) (fr_sorted T) (by decide +kernel) (pa_cons (pv 2) pa_nil)) (pe_cal c_l_take hr (by decide) (by rfl) pass0 (pa_cons (pv 0) (pa_cons (pe_callB call_lenD' (by rfl) (fr_len T) (by decide +kernel) (pa_cons (pv 2) pa_nil)) pa_nil))) (fun _ _ => rfl))) (pss_cons (ps_set (i := 5) sc_l_to_end.nd rfl (by first | exact Or.inl rfl | exact Or.inr rfl) (pe_ix ix_list (pe_dget hu (pv 2) (pv 4) (fun _ _ => rfl)) pe_int (fun _ _ => rfl))) (pss_cons (ps_set (i := 6) sc_l_to_end.nd rfl (by first | exact Or.inl rfl | exact Or.inr rfl) (pe_op op_sub (pv 3) (pe_ix ix_list (pe_dget hu (pv 2) (pv 4) (fun _ _ => rfl)) pe_int (fun _ _ => rfl)))) (pss_cons (ps_for PassesOwn.never rfl (pi_range1 (by rfl) (fr_range T) (pa_cons (pe_op op_add (pv 6) pe_int) pa_nil)) (pg_name (i := 7) sc_l_to_end.nd rfl (by first | exact Or.inl rfl | exact Or.inr rfl)) (pss_cons (ps_if (pt_not (pt_val (pe_cal c_l_says hr (by decide) (by rfl) pass0 (pa_cons (pe_met c_News_hot hr (by decide) pass0 (pv 1) (pa_cons (pv 4) pa_nil)) (pa_cons (pe_cmpR op_lt (pv 7) (pv 6) (nomark _)) pa_nil))))) (pss_one (ps_ret pe_bl)) pss_nil) (pss_one (ps_if (pt_not (pt_val (pe_cal c_l_tell hr (by decide) (by rfl) pass0 (pa_cons (pv 1) (pa_cons (pv 2) (pa_cons (pv 3) (pa_cons (pe_lst (pa_cons (pe_tup (pa_cons (pe_ix ix_tup (pv 5) pe_int (fun _ _ => rfl)) (pa_cons (pe_ix ix_tup (pv 5) pe_int (fun _ _ => rfl)) (pa_cons (pe_ix ix_tup (pv 5) pe_int (fun _ _ => rfl)) (pa_cons (pe_ix ix_tup (pv 5) pe_int (fun _ _ => rfl)) pa_nil))))) pa_nil)) pa_nil))))))) (pss_one (ps_ret pe_bl)) pss_nil)))) (pss_one (ps_ret (pe_cal c_l_says hr (by decide) (by rfl) pass0 (pa_cons (pe_met c_News_hot hr (by decide) pass0 (pv 1) (pa_cons (pv 4) pa_nil)) (pa_cons pe_bl pa_nil)))))))))), ?_⟩
  rw [show L2.start n_l_to_end [.ref p, .ref nw, .ref e, .int (st.bits * st.pat)] = [some (.ref p), some (.ref nw), some (.ref e), some (.int (st.bits * st.pat)), none, none, none, none] from rfl]
  try dsimp only [cxOf, Cx.nox, Cx.wish, List.map]

  obtain ⟨ys, T0, nt, okt, e2⟩ := hN.tab.ex
  have hR := hN.se.ok.r256
  have hd0 := T0.at_
  wtm_at "rd"
  intro EE nEE
  have kE : Kp [] H (upd H EE (.dK [])) := Kp.new nEE
  have gE : upd H EE (.dK []) EE = some (.dK []) := upd_same
  have TE := T0.k0 kE
  have NE := hN.k0 kE
  have BE := hB.k0 kE
  generalize upd H EE (.dK []) = HE at kE gE TE NE BE
  refine rd_eqDD TE.at_ gE (dd_atE TE nt fun q hq => Sy.T.of (okt q hq).1) (g := fun _ => .none) (fun q hq => by cases hq) ?_
  rw [eqDD_E]
  have ly := lenK nt okt hR

  wtm_at "rd"
  refine ite_d (fun hz => ?_) (fun hz => ?_)
  · wtm_at "rd"
    refine ⟨sz1000 (by simp), fun l nl => ?_⟩
    have k1 : Kp [] HE (upd HE l (.lst [])) := Kp.new nl
    have S1 : SyL (upd HE l (.lst [])) l [] := ⟨upd_same, fun q hq => by cases hq⟩
    have N1 := NE.k0 k1
    have B1 := BE.k0 k1
    have nl0 : H l = none := kE.back nl (by simp)
    generalize upd HE l (.lst []) = H1 at k1 S1 N1 B1
    wtm_at "rd"
    refine us_l_tell N1 S1 (fun q hq => by cases hq) (by simp) fun H2 S2 k2 => ?_
    exact kk _ H2 S2 (N1.box B1 S1 k2) (via3 (kE.trans k1).of0 k2 nl0)
  have yl : 0 < ys.length := by omega
  have hd1 := TE.at_
  wtm_at "rd"
  refine rd_sortedDL hd1 (kvT_ks ek ys) fun os r o1 o2 nr => ?_
  have ol : os.length = ys.length := by rw [o1.length_eq, List.length_map, List.length_map]
  have k1 : Kp [] HE (upd HE r (.lst (os.map V.int))) := Kp.new nr
  have gl : upd HE r (.lst (os.map V.int)) r = some (.lst (os.map V.int)) := upd_same
  have nrp : r ≠ p := fun e => BE.ne nr e.symm
  have N1 := NE.k0 k1
  have B1 := BE.k0 k1
  have T1 := TE.k0 k1
  generalize upd HE r (.lst (os.map V.int)) = H1 at k1 gl N1 B1 T1
  have hd1 := T1.at_
  have h256 : (1000 : Int) ≤ 10 ^ 60 := by decide +kernel
  wtm_at "rd"
  rw [kvT_len]
  refine us_l_take B1 (by omega) (by omega) fun z H2 z0 z1 B2 k2 => ?_
  have gl2 := k2.g1 nrp gl
  obtain ⟨k, km, hat⟩ := pickI os z0 (by omega)
  have N2 := N1.kBx B1 k2
  obtain ⟨q, hq⟩ := fdT_key (o1.mem_iff.mp km)
  have qm := (fdT_some hq).1
  have qk : ek q.2 = k := (fdT_some hq).2
  have T2 : EN HO.lst H2 e ys := T1.kp mkL k2 (wr1 B1) (by simp [B1.nd T1.at_])
  have hd2 := T2.at_
  obtain ⟨q1, q2⟩ := T2.find hq
  obtain ⟨oq1, oq2, oq3⟩ := okt q qm
  have Nk : N k = some q.2.2 := by
    rw [← e2, ← qk]
    exact lkE_of nt qm
  wtm_at "rd"
  refine rd_dgetX (dg_iv hd2 (by rw [kvT_val, hq]; rfl)) ?_
  wtm_at "rd"
  refine rd_dgetX (dg_iv hd2 (by rw [kvT_val, hq]; rfl)) ?_
  wtm_at "rd"
  obtain ⟨lf, hlf⟩ : ∃ lf : Int, st.bits * st.pat - q.2.2.2 = lf := ⟨_, rfl⟩
  rw [hlf]
  have k02 : Kp [p, d, e] H H2 := (kE.trans k1).of0.trans (k2.mono (by simp))
  have cyb : st.bits * st.pat ≤ 48 := by
    have o := hN.se.ok
    have h1 : st.bits * st.pat ≤ 8 * st.pat := Int.mul_le_mul_of_nonneg_right o.b1 (by have := o.p0; omega)
    have := o.p1
    omega
  refine rd_iRng1X (by omega) (by omega) ?_
  wtm_at "rd"
  refine forR_by (fun i σ H' => (∃ v7, σ = [some (.ref p), some (.ref nw), some (.ref e), some (.int (st.bits * st.pat)), some (.int k), some (.ref q.2.1), some (.int lf), v7]) ∧ (∃ N', SN K H' nw s d e st N' ∧ N' k = if (i : Int) < lf then some (q.2.2.1, q.2.2.2 + i) else none) ∧ SyAt H' q.2.1 q.2.2.1 ∧ BoxB H' p ∧ Kp [p, d, e] H H') ⟨⟨_, rfl⟩, ⟨N, N2, by rw [Nk, if_pos (by show ((0 : Nat) : Int) < lf; omega)]; simp⟩, q2, B2, k02⟩ ?_ ?_
  · rintro i σ H3 hi ⟨⟨v7, rfl⟩, ⟨N3, S3, e3⟩, q3, B3, k3⟩
    obtain ⟨dx, hb3⟩ := S3.ob
    obtain ⟨xs, E3, nd, ok, ex⟩ := S3.hot.ex
    wtm_at "rd"
    refine us_News_hot ⟨dx, hb3⟩ E3 ?_
    rw [ex, e3]
    have eh : (if (i : Int) < lf then some (q.2.2.1, q.2.2.2 + (i : Int)) else none).isSome = decide ((i : Int) < lf) := by
      by_cases c : (i : Int) < lf
      · rw [if_pos c, decide_eq_true c]
        rfl
      · rw [if_neg c, decide_eq_false c]
        rfl
    rw [eh]
    wtm_at "rd"
    rw [Int.zero_add]
    refine us_l_says ?_
    rw [decide_eq_true rfl]
    have q3' := q3
    unfold SyAt Sy.tup at q3'
    wtm_at "rd"
    refine ⟨sz1000 (by simp), fun t nt' => ?_⟩
    have k4 : Kp [] H3 (upd H3 t (.tup [.int q.2.2.1.s, .int q.2.2.1.l, .str q.2.2.1.m, .str q.2.2.1.w])) := Kp.new nt'
    have g4 : SyAt (upd H3 t (.tup [.int q.2.2.1.s, .int q.2.2.1.l, .str q.2.2.1.m, .str q.2.2.1.w])) t q.2.2.1 := upd_same
    have S4 := S3.k0 k4
    have B4 := B3.k0 k4
    have q4 := k4.g0 q3
    generalize upd H3 t (.tup [.int q.2.2.1.s, .int q.2.2.1.l, .str q.2.2.1.m, .str q.2.2.1.w]) = H4 at k4 g4 S4 B4 q4
    wtm_at "rd"
    refine ⟨sz1000 (by simp), fun l nl => ?_⟩
    have k5 : Kp [] H4 (upd H4 l (.lst [.ref t])) := Kp.new nl
    have L5 : SyL (upd H4 l (.lst [.ref t])) l [(t, q.2.2.1)] := ⟨upd_same, fun a ha => by
      rw [List.mem_singleton.mp ha]
      exact k5.g0 g4⟩
    have S5 := S4.k0 k5
    have B5 := B4.k0 k5
    have q5 := k5.g0 q4
    have nl3 : H3 l = none := k4.back nl (by simp)
    generalize upd H4 l (.lst [.ref t]) = H5 at k5 L5 S5 B5 q5
    wtm_at "rd"
    refine us_l_tell S5 L5 (fun a ha => by rw [List.mem_singleton.mp ha]; exact Sy.T.of oq1) (by simp) fun H6 S6 k6 => ?_
    have q6 : SyAt H6 q.2.1 q.2.2.1 := by
      obtain ⟨kv, h1⟩ := S5.hot.dd
      obtain ⟨kv2, h2⟩ := S5.tab.dd
      exact k6.g3 (ne_of q5 h1 (by intro z; cases z)) (ne_of q5 h2 (by intro z; cases z)) (ne_of q5 L5.at_ (by intro z; cases z)) q5
    wtm_at "rd"
    refine ⟨⟨_, rfl⟩, ⟨_, S6, ?_⟩, q6, S5.box B5 L5 k6, via3 (k3.trans (k4.trans k5).of0) k6 (S3.fr3 B3 k3 nl3)⟩
    unfold tell
    rw [e3]
    by_cases c : (i : Int) < lf
    · rw [if_pos c]
      show (if q.2.2.1 ∈ [q.2.2.1] then (if q.2.2.2 + (i : Int) + 1 < st.bits * st.pat then some (q.2.2.1, q.2.2.2 + (i : Int) + 1) else none) else _) = _
      rw [if_pos (List.mem_singleton.mpr rfl)]
      by_cases c2 : q.2.2.2 + (i : Int) + 1 < st.bits * st.pat
      · rw [if_pos c2, if_pos (by omega)]
        congr 2
        omega
      · rw [if_neg c2, if_neg (by omega)]
    · rw [if_neg c]
      show none = _
      rw [if_neg (by omega)]
  · rintro σ H3 ⟨⟨v7, rfl⟩, ⟨N3, S3, e3⟩, q3, B3, k3⟩
    obtain ⟨dx, hb3⟩ := S3.ob
    obtain ⟨xs, E3, nd, ok, ex⟩ := S3.hot.ex
    wtm_at "rd"
    refine us_News_hot ⟨dx, hb3⟩ E3 ?_
    rw [ex, e3, if_neg (by omega)]
    wtm_at "rd"
    refine us_l_says ?_
    rw [show decide ((none : Option (Sy × Int)).isSome = false) = true from decide_eq_true rfl]
    exact kk N3 H3 S3 B3 k3
theorem c_l_to_end (T : Cx K mg) (B : Tb P w K mg base) : CalX P w K mg base CX0 6 "_law_to_end" (sp_l_to_end K) [] := by
  obtain ⟨fd, F, ok⟩ := f_l_to_end (P := P) (w := w) (base := base) T B
  exact ⟨_, fd, p_l_to_end, [], ok, gl_l_to_end T, F.kp, FunD.bindsN F fun _ _ _ _ _ _ us hl => match us, hl with | [_, _, _, _], _ => rfl, .nil⟩
end
section
variable {P : Program} {w : World} {K : PySem.W.Frag} {mg : Str → Option Value} {base : Heap}
def sp_l_note (K : PySem.W.Frag) : Sp := fun vs H Q E => ∃ (p nw s d e m : Addr) (st : Stg) (N : NN) (ms : List Int), vs = [.ref p, .ref nw, .ref e, .ref m, .int st.ring] ∧ (BoxB H p) ∧ (SN K H nw s d e st N) ∧ (H m = some (.lst (ms.map V.int))) ∧ (ms ≠ [] ∧ ms.length ≤ 1000 ∧ ∀ z, z ∈ ms → 0 ≤ z ∧ z < st.ring) ∧ (m ≠ p) ∧ (∀ N2 H1, SN K H1 nw s d e st N2 → BoxB H1 p → Kp [p, d, e] H H1 → Q (.bl true) H1)
theorem us_l_note {K : PySem.W.Frag} {H : Hp} {Q : VK} {E : XK} {p nw s d e m : Addr} {st : Stg} {N : NN} {ms : List Int} (hB : BoxB H p) (hN : SN K H nw s d e st N) (hm : H m = some (.lst (ms.map V.int))) (hms : ms ≠ [] ∧ ms.length ≤ 1000 ∧ ∀ z, z ∈ ms → 0 ≤ z ∧ z < st.ring) (np : m ≠ p) (kk : ∀ N2 H1, SN K H1 nw s d e st N2 → BoxB H1 p → Kp [p, d, e] H H1 → Q (.bl true) H1) : sp_l_note K [.ref p, .ref nw, .ref e, .ref m, .int st.ring] H Q E := ⟨_, _, _, _, _, _, _, _, _, rfl, hB, hN, hm, hms, np, kk⟩
theorem f_l_note (T : Cx K mg) (B : Tb P w K mg base) : ∃ fd, FunD K "_law_note" "_law_note" (defArgs s_l_note) (defBody s_l_note) (defScope s_l_note) (d_l_note.dvs K) (d_l_note.kws K) (fAd K d_l_note.at_) fd ∧ FnOk P w K mg base CX0 6 (fAd K d_l_note.at_) fd p_l_note (sp_l_note K) := by
  have c_l_fresh := c_l_fresh (P := P) (w := w) (base := base) T B
  have c_l_hot := c_l_hot (P := P) (w := w) (base := base) T B
  have c_l_near := c_l_near (P := P) (w := w) (base := base) T B
  have c_News_note := c_News_note (P := P) (w := w) (base := base) T B
  have c_News_hot := c_News_hot (P := P) (w := w) (base := base) T B
  have c_l_says := c_l_says (P := P) (w := w) (base := base) T B
  obtain ⟨fd, F⟩ := T.says.def_ 32 (d := d_l_note) rfl
  refine ⟨fd, F, fnD F sc_l_note (fun vs H Q E h => by
    obtain ⟨_, _, _, _, _, _, _, _, _, rfl, _⟩ := h
    rfl) fun cdv A outer s H vs Q E hr h => ?_⟩
  have hu := hu_of hr
  obtain ⟨p, nw, s, d, e, m, st, N, ms, rfl, hB, hN, hm, hms, np, kk⟩ := h
  refine ⟨_, (pss_cons (ps_set (i := 5) sc_l_note.nd rfl (by first | exact Or.inl rfl | exact Or.inr rfl) (pe_cal c_l_fresh hr (by decide) (by rfl) pass0 (pa_cons (pv 0) (pa_cons (pv 3) (pa_cons (pv 4) pa_nil))))) (pss_cons (ps_set (i := 5) sc_l_note.nd rfl (by first | exact Or.inl rfl | exact Or.inr rfl) (pe_cal c_l_near hr (by decide) (by rfl) pass0 (pa_cons (pv 0) (pa_cons (pv 5) (pa_cons (pe_cal c_l_hot hr (by decide) (by rfl) pass0 (pa_cons (pv 2) (pa_cons (pe_ix ix_tup (pv 5) pe_int (fun _ _ => rfl)) pa_nil))) pa_nil))))) (pss_cons (ps_if (pt_cmp (pc_notN (pe_met c_News_note hr (by decide) pass0 (pv 1) (pa_cons (pv 5) pa_nil)))) (pss_one (ps_ret pe_bl)) pss_nil) (pss_cons (ps_dput hu (pv 2) (pe_ix ix_tup (pv 5) pe_int (fun _ _ => rfl)) (pe_lst (pa_cons (pv 5) (pa_cons pe_int pa_nil))) rfl) (pss_one (ps_ret (pe_cal c_l_says hr (by decide) (by rfl) pass0 (pa_cons (pe_met c_News_hot hr (by decide) pass0 (pv 1) (pa_cons (pe_ix ix_tup (pv 5) pe_int (fun _ _ => rfl)) pa_nil)) (pa_cons pe_bl pa_nil))))))))), ?_⟩
  rw [show L2.start n_l_note [.ref p, .ref nw, .ref e, .ref m, .int st.ring] = [some (.ref p), some (.ref nw), some (.ref e), some (.ref m), some (.int st.ring), none] from rfl]
  try dsimp only [cxOf, Cx.nox, Cx.wish, List.map]

  have hR := hN.se.ok.r256
  have r2 := hN.se.ok.r2
  have cyp : 0 < st.bits * st.pat := Int.mul_pos (by have := hN.se.ok.b0; omega) (by have := hN.se.ok.p0; omega)
  wtm_at "rd"
  refine us_l_fresh (n := st.ring) hB hm hms ⟨by omega, hR⟩ np fun t y H1 ht oy B1 k1 => ?_
  have N1 := hN.kBx hB k1
  obtain ⟨ys, T1, nt, okt, e2⟩ := N1.tab.ex
  have ht' := ht
  unfold SyAt Sy.tup at ht'
  wtm_at "rd"
  refine us_l_hot T1 fun v hv => ?_
  wtm_at "rd"
  refine us_l_near (n := st.ring) B1 ht oy hv (fun z e => ?_) fun u z H2 hu oz B2 k2 => ?_
  · obtain ⟨q, hq, rfl⟩ := Option.map_eq_some_iff.mp e
    obtain ⟨p', pm, _, e3, _⟩ := lkE_some hq
    rw [← e3]
    exact (okt p' pm).1
  have N2 := N1.kBx B1 k2
  obtain ⟨xs, E2, nd, ok, e1⟩ := N2.hot.ex
  obtain ⟨dx, hb2⟩ := N2.ob
  obtain ⟨⟨dxs, hs2⟩, _⟩ := id N2.se
  have lx := lenK nd ok hR
  wtm_at "rd"
  refine us_News_note ⟨dx, hb2⟩ E2 hu (by omega) fun a H3 E3 k3 => ?_
  have w2 : Wr H2 [d] := fun q hq => by
    rw [List.mem_singleton.mp hq]
    exact .inl ⟨_, E2.at_⟩
  have hu3 : SyAt H3 u z := k3.g1 (ne_of hu E2.at_ (by intro z; cases z)) hu
  obtain ⟨zs, T2, nz, okz, e3⟩ := N2.tab.ex
  have T3 := T2.kp mkL k3 w2 (by simp [Ne.symm N2.ne])
  have B3 : BoxB H3 p := B2.k1 k3 (fun e => by
    obtain ⟨_, _, _, h⟩ := B2
    rw [e, E2.at_] at h
    cases h)
  have hb3 := k3.g1 (ne_of hb2 E2.at_ (by intro z; cases z)) hb2
  have S3 := N2.se.k1 k3 (N2.se.nedK E2.at_)
  have hu4 := hu3
  unfold SyAt Sy.tup at hu4
  wtm_at "rd"
  refine ⟨sz1000 (by simp), fun c nc => ?_⟩
  have k4 : Kp [] H3 (upd H3 c (.lst [.ref u, .int 0])) := Kp.new nc
  have gc : upd H3 c (.lst [.ref u, .int 0]) c = some (.lst [.ref u, .int 0]) := upd_same
  have T4 := T3.k0 k4
  have E4 := E3.k0 k4
  have hu5 := k4.g0 hu4
  have hb4 := k4.g0 hb3
  have S4 := S3.k0 k4
  have B4 := B3.k0 k4
  generalize upd H3 c (.lst [.ref u, .int 0]) = H4 at k4 gc T4 E4 hu5 hb4 S4 B4
  have hd4 := T4.at_
  have lz := lenK nz okz hR
  have len : (kvT ek zs).length < sizeLine := szlt (by
    rw [kvT_len]
    omega)
  wtm_at "rd"
  have ep := kvT_put ek zs (c, (u, z, 0))
  have T5 := T4.put mkL (p := (c, (u, z, 0))) gc hu5
  rw [← ep] at T5
  have w4 : Wr H4 [e] := fun q hq => by
    rw [List.mem_singleton.mp hq]
    exact .inl ⟨_, hd4⟩
  have k5 : Kp [e] H4 (upd H4 e (.dK (putK (kvT ek zs) (.inl z.s) (.ref c)))) := Kp.refl.wr (by simp)
  have T5 : EN HO.lst (upd H4 e (.dK (putK (kvT ek zs) (.inl z.s) (.ref c)))) e (ptT ek zs (c, (u, z, 0))) := T5
  generalize upd H4 e (.dK (putK (kvT ek zs) (.inl z.s) (.ref c))) = H5 at T5 k5
  have E5 := E4.kp mkT k5 w4 (by simp [N2.ne])
  have hb5 := k5.g1 (ne_of hb4 hd4 (by intro z; cases z)) hb4
  have S5 := S4.k1 k5 (S4.nedK hd4)
  have B5 : BoxB H5 p := B4.k1 k5 (fun e' => by
    obtain ⟨_, _, _, h⟩ := B4
    rw [e', hd4] at h
    cases h)
  have hu6 := k5.g1 (ne_of hu5 hd4 (by intro z; cases z)) hu5
  wtm_at "rd"
  refine us_News_hot ⟨dx, hb5⟩ E5 ?_
  have eh : (lkE (ptT ek xs (a, (u, z, 0))) z.s).isSome = true := by
    rw [lkE_put, if_pos rfl]
    rfl
  rw [eh]
  wtm_at "rd"
  refine us_l_says ?_
  rw [decide_eq_true rfl]
  have oks : ∀ {ws : ES} {x : Addr}, okE st.ring (st.bits * st.pat) ws → okE st.ring (st.bits * st.pat) (ptT ek ws (x, (u, z, 0))) := fun {ws x} h q hq => by
    rcases ptT_mem hq with rfl | m
    · exact ⟨oz, Int.le_refl _, cyp⟩
    · exact h q m
  have k05 : Kp [p, d, e] H H5 := (((k1.trans k2).mono (by simp)).trans (k3.mono (by simp))).trans (k4.of0.trans (k5.mono (by simp)))
  refine kk (lkE (ptT ek xs (a, (u, z, 0)))) H5 ⟨⟨dx, hb5⟩, S5, ⟨_, E5, keysE_put nd _, oks ok, rfl⟩, ⟨_, T5, keysE_put nz _, oks okz, ?_⟩, N2.ne⟩ B5 k05
  funext k
  rw [lkE_put, lkE_put, e3, e1]
theorem c_l_note (T : Cx K mg) (B : Tb P w K mg base) : CalX P w K mg base CX0 6 "_law_note" (sp_l_note K) [] := by
  obtain ⟨fd, F, ok⟩ := f_l_note (P := P) (w := w) (base := base) T B
  exact ⟨_, fd, p_l_note, [], ok, gl_l_note T, F.kp, FunD.bindsN F fun _ _ _ _ _ _ us hl => match us, hl with | [_, _, _, _, _], _ => rfl, .nil⟩
end
section
variable {P : Program} {w : World} {K : PySem.W.Frag} {mg : Str → Option Value} {base : Heap}
def sp_l_counts (K : PySem.W.Frag) : Sp := fun vs H Q E => ∃ (e : Addr) (xs : ES), vs = [.ref e] ∧ (EN HO.lst H e xs) ∧ (keysE xs) ∧ (xs.length < 100000) ∧ (∀ r ps H1, CL H1 r ps → ps.map (fun p => p.2.2) = (rowsE xs).map (fun p => p.2.2) → Kp [] H H1 → H r = none → Q (.ref r) H1)
theorem us_l_counts {K : PySem.W.Frag} {H : Hp} {Q : VK} {E : XK} {e : Addr} {xs : ES} (hE : EN HO.lst H e xs) (nd : keysE xs) (hn : xs.length < 100000) (kk : ∀ r ps H1, CL H1 r ps → ps.map (fun p => p.2.2) = (rowsE xs).map (fun p => p.2.2) → Kp [] H H1 → H r = none → Q (.ref r) H1) : sp_l_counts K [.ref e] H Q E := ⟨_, _, rfl, hE, nd, hn, kk⟩
theorem f_l_counts (T : Cx K mg) (B : Tb P w K mg base) : ∃ fd, FunD K "_law_counts" "_law_counts" (defArgs s_l_counts) (defBody s_l_counts) (defScope s_l_counts) (d_l_counts.dvs K) (d_l_counts.kws K) (fAd K d_l_counts.at_) fd ∧ FnOk P w K mg base CX0 1 (fAd K d_l_counts.at_) fd p_l_counts (sp_l_counts K) := by
  obtain ⟨fd, F⟩ := T.says.def_ 33 (d := d_l_counts) rfl
  refine ⟨fd, F, fnD F sc_l_counts (fun vs H Q E h => by
    obtain ⟨_, _, rfl, _⟩ := h
    rfl) fun cdv A outer s H vs Q E hr h => ?_⟩
  have hu := hu_of hr
  obtain ⟨e, xs, rfl, hE, nd, hn, kk⟩ := h
  refine ⟨_, (pss_one (ps_ret (pe_lc (own := [("_law_seat_here", 1)]) (g := (gName 1)) (tt := tYes) rfl sc_l_counts.nd (pi_list (pe_callB (call_sortedDL rfl) (by rfl) (fr_sorted T) (by decide +kernel) (pa_cons (pv 0) pa_nil))) (blkOk_by (own := [("_law_seat_here", 1)]) (N := n_l_counts) (sc := defScope s_l_counts) (by decide +kernel)) (fun _ _ _ _ _ => (pg_name (i := 1) sc_l_counts.nd rfl (by first | exact Or.inl rfl | exact Or.inr rfl))) (fun _ _ _ _ _ => pts_nil) (fun _ _ _ _ _ => (pe_tup (pa_cons (pe_ix (ix_listK (K := K) rfl) (pe_dget hu (pv 0) (pv 1) (fun _ _ => rfl)) pe_int (fun _ _ => rfl)) (pa_cons (pe_ix (ix_listK (K := K) rfl) (pe_dget hu (pv 0) (pv 1) (fun _ _ => rfl)) pe_int (fun _ _ => rfl)) pa_nil))))))), ?_⟩
  rw [show L2.start n_l_counts [.ref e] = [some (.ref e), none] from rfl]
  try dsimp only [cxOf, Cx.nox, Cx.wish, List.map]

  have hd := hE.at_
  wtm_at "rd"
  refine rd_sortedDL hd (kvT_ks ek xs) fun os r o1 o2 nr => ?_
  have ol : os.length = xs.length := by rw [o1.length_eq, List.length_map, List.length_map]
  have eo := srt_is o1 o2
  have k1 : Kp [] H (upd H r (.lst (os.map V.int))) := Kp.new nr
  have gl : upd H r (.lst (os.map V.int)) r = some (.lst (os.map V.int)) := upd_same
  have E1 := hE.k0 k1
  generalize upd H r (.lst (os.map V.int)) = H1 at k1 gl E1
  wtm_at "rd"
  intro D nD
  refine lcL_ints (K := K) os (fun i H2 => (∃ ps : ES, CL H2 D ps ∧ ps.map (fun p => p.2.2) = ((os.take i).filterMap fun k => fdT ek xs k).map fun p => p.2.2) ∧ Kp [] H1 H2) ⟨⟨[], ⟨upd_same, fun q hq => by cases hq⟩, rfl⟩, Kp.new nD⟩ (fun i H2 _ q => SqL.of (q.2.g0 gl)) (fun i hi H2 q => ?_) (fun H2 q => ?_)
  · obtain ⟨⟨ps, C, e⟩, k2⟩ := q
    have km := o1.mem_iff.mp (List.getElem_mem hi)
    obtain ⟨p, hp⟩ := fdT_key km
    have E2 := E1.k0 k2
    have hd2 := E2.at_
    obtain ⟨g1, g2⟩ := E2.find hp
    have hD := C.at_
    have pl : ps.length ≤ i := by
      have h1 := congrArg List.length e
      rw [List.length_map, List.length_map] at h1
      have h2 := List.length_filterMap_le (fun k => fdT ek xs k) (os.take i)
      rw [List.length_take] at h2
      omega
    wtm_at "rd"
    refine ⟨rfl, ?_⟩
    wtm_at "rd"
    refine rd_dgetX (dg_iv hd2 (by rw [kvT_val, hp]; rfl)) ?_
    wtm_at "rd"
    refine rd_dgetX (dg_iv hd2 (by rw [kvT_val, hp]; rfl)) ?_
    wtm_at "rd"
    refine ⟨sz1000 (by simp), fun a na => ?_⟩
    have k3 : Kp [] H2 (upd H2 a (.tup [.ref p.2.1, .int p.2.2.2])) := Kp.new na
    have ga : upd H2 a (.tup [.ref p.2.1, .int p.2.2.2]) a = some (.tup [.ref p.2.1, .int p.2.2.2]) := upd_same
    have C3 := C.k0 k3
    have g23 := k3.g0 g2
    generalize upd H2 a (.tup [.ref p.2.1, .int p.2.2.2]) = H3 at k3 ga C3 g23
    have hD3 := C3.at_
    have o : ∀ q : Addr × Ent, H3 q.1 = some (.tup [.ref q.2.1, .int q.2.2.2]) ∧ SyAt H3 q.2.1 q.2.2.1 → upd H3 D (.lst ((ps.map fun p => V.ref p.1) ++ [.ref a])) q.1 = some (.tup [.ref q.2.1, .int q.2.2.2]) ∧ SyAt (upd H3 D (.lst ((ps.map fun p => V.ref p.1) ++ [.ref a]))) q.2.1 q.2.2.1 := fun q h => ⟨hu_ne (ne_of h.1 hD3 (by intro z; cases z)) h.1, hu_ne (ne_of h.2 hD3 (by intro z; cases z)) h.2⟩
    refine ⟨_, hD3, szlt (by rw [List.length_map]; omega), ⟨ps ++ [(a, p.2)], ⟨by rw [upd_same, List.map_append]; rfl, fun q hq => ?_⟩, ?_⟩, (k2.trans k3).mine nD⟩
    · rcases List.mem_append.mp hq with m | m
      · exact o q (C3.ob q m)
      · rw [List.mem_singleton.mp m]
        exact o (a, p.2) ⟨ga, g23⟩
    · rw [List.map_append, e, List.take_succ_eq_append_getElem hi, List.filterMap_append, List.map_append, List.filterMap_cons_some hp]
      rfl
  · obtain ⟨⟨ps, C, e⟩, k2⟩ := q
    rw [List.take_length, eo] at e
    exact kk D ps H2 C e (k1.trans k2) (k1.back nD (by simp))
theorem c_l_counts (T : Cx K mg) (B : Tb P w K mg base) : CalX P w K mg base CX0 1 "_law_counts" (sp_l_counts K) [] := by
  obtain ⟨fd, F, ok⟩ := f_l_counts (P := P) (w := w) (base := base) T B
  exact ⟨_, fd, p_l_counts, [], ok, gl_l_counts T, F.kp, FunD.bindsN F fun _ _ _ _ _ _ us hl => match us, hl with | [_], _ => rfl, .nil⟩
end
section
variable {P : Program} {w : World} {K : PySem.W.Frag} {mg : Str → Option Value} {base : Heap}
def sp_l_same_counts (K : PySem.W.Frag) : Sp := fun vs H Q E => ∃ (r1 r2 : Addr) (ps qs : ES), vs = [.ref r1, .ref r2] ∧ (CL H r1 ps) ∧ (CL H r2 qs) ∧ (ps.map (fun p => p.2.2) = qs.map fun p => p.2.2) ∧ (∀ z, z ∈ qs.map (fun p => p.2.2) → z.1.T) ∧ (qs.length ≤ 10000) ∧ (Q (.bl true) H)
theorem us_l_same_counts {K : PySem.W.Frag} {H : Hp} {Q : VK} {E : XK} {r1 r2 : Addr} {ps qs : ES} (h1 : CL H r1 ps) (h2 : CL H r2 qs) (he : ps.map (fun p => p.2.2) = qs.map fun p => p.2.2) (hT : ∀ z, z ∈ qs.map (fun p => p.2.2) → z.1.T) (hn : qs.length ≤ 10000) (kk : Q (.bl true) H) : sp_l_same_counts K [.ref r1, .ref r2] H Q E := ⟨_, _, _, _, rfl, h1, h2, he, hT, hn, kk⟩
theorem f_l_same_counts (T : Cx K mg) (B : Tb P w K mg base) : ∃ fd, FunD K "_law_same_counts" "_law_same_counts" (defArgs s_l_same_counts) (defBody s_l_same_counts) (defScope s_l_same_counts) (d_l_same_counts.dvs K) (d_l_same_counts.kws K) (fAd K d_l_same_counts.at_) fd ∧ FnOk P w K mg base CX0 3 (fAd K d_l_same_counts.at_) fd p_l_same_counts (sp_l_same_counts K) := by
  have c_l_same := c_l_same (P := P) (w := w) (base := base) T B
  have c_l_whole := c_l_whole (P := P) (w := w) (base := base) T B
  obtain ⟨fd, F⟩ := T.says.def_ 34 (d := d_l_same_counts) rfl
  refine ⟨fd, F, fnD F sc_l_same_counts (fun vs H Q E h => by
    obtain ⟨_, _, _, _, rfl, _⟩ := h
    rfl) fun cdv A outer s H vs Q E hr h => ?_⟩
  have hu := hu_of hr
  obtain ⟨r1, r2, ps, qs, rfl, h1, h2, he, hT, hn, kk⟩ := h
  refine ⟨_, (pss_cons (ps_if (PW.pt (pw_or (pt_not (pt_val (pe_callB call_isi (by rfl) (fr_isinstance T) (by decide +kernel) (pa_cons (pv 0) (pa_cons (pe_bltn (v := .ty "list") (by rfl) (fr_list T) (by decide +kernel) rfl) pa_nil))))) (pw_or1 (pt_cmpR op_ne (pe_callB call_lenS (by rfl) (fr_len T) (by decide +kernel) (pa_cons (pv 0) pa_nil)) (pe_callB call_lenS (by rfl) (fr_len T) (by decide +kernel) (pa_cons (pv 1) pa_nil)) (nomark _))))) (pss_one (ps_ret pe_bl)) pss_nil) (pss_cons (ps_for PassesOwn.never rfl (pi_range1 (by rfl) (fr_range T) (pa_cons (pe_callB call_lenS (by rfl) (fr_len T) (by decide +kernel) (pa_cons (pv 1) pa_nil)) pa_nil)) (pg_name (i := 2) sc_l_same_counts.nd rfl (by first | exact Or.inl rfl | exact Or.inr rfl)) (pss_cons (ps_set (i := 3) sc_l_same_counts.nd rfl (by first | exact Or.inl rfl | exact Or.inr rfl) (pe_ix ix_list (pv 0) (pv 2) (fun _ _ => rfl))) (pss_cons (ps_if (PW.pt (pw_or (pt_not (pt_val (pe_callB call_isi (by rfl) (fr_isinstance T) (by decide +kernel) (pa_cons (pv 3) (pa_cons (pe_bltn (v := .ty "tuple") (by rfl) (fr_tuple T) (by decide +kernel) rfl) pa_nil))))) (pw_or1 (pt_cmpR op_ne (pe_callB call_lenS (by rfl) (fr_len T) (by decide +kernel) (pa_cons (pv 3) pa_nil)) pe_int (nomark _))))) (pss_one (ps_ret pe_bl)) pss_nil) (pss_cons (ps_if (PW.pt (pw_or (pt_not (pt_val (pe_cal c_l_same hr (by decide) (by rfl) pass0 (pa_cons (pe_ix ix_tup (pv 3) pe_int (fun _ _ => rfl)) (pa_cons (pe_ix ix_tup (pe_ix ix_list (pv 1) (pv 2) (fun _ _ => rfl)) pe_int (fun _ _ => rfl)) pa_nil))))) (pw_or1 (pt_not (pt_val (pe_cal c_l_whole hr (by decide) (by rfl) pass0 (pa_cons (pe_ix ix_tup (pv 3) pe_int (fun _ _ => rfl)) pa_nil))))))) (pss_one (ps_ret pe_bl)) pss_nil) (pss_one (ps_if (pt_cmpR op_ne (pe_ix ix_tup (pv 3) pe_int (fun _ _ => rfl)) (pe_ix ix_tup (pe_ix ix_list (pv 1) (pv 2) (fun _ _ => rfl)) pe_int (fun _ _ => rfl)) (nomark _)) (pss_one (ps_ret pe_bl)) pss_nil)))))) (pss_one (ps_ret pe_bl)))), ?_⟩
  rw [show L2.start n_l_same_counts [.ref r1, .ref r2] = [some (.ref r1), some (.ref r2), none, none] from rfl]
  try dsimp only [cxOf, Cx.nox, Cx.wish, List.map]

  have hl : ps.length = qs.length := by
    have := congrArg List.length he
    rwa [List.length_map, List.length_map] at this
  have g1 := h1.at_
  have g2 := h2.at_
  wtm_at "rd"
  refine ite_n (fun h => absurd (by rw [List.length_map, List.length_map, hl]) h) (fun _ => ?_)
  wtm_at "rd"
  refine rd_iRng1X (by omega) (by rw [List.length_map]; omega) ?_
  wtm_at "rd"
  refine forR_by (fun i σ H1 => (∃ v2 v3, σ = [some (.ref r1), some (.ref r2), v2, v3]) ∧ H1 = H) ⟨⟨_, _, rfl⟩, rfl⟩ ?_ ?_
  · rintro i σ H1 hi ⟨⟨v2, v3, rfl⟩, rfl⟩
    rw [List.length_map] at hi
    have hi2 : i < qs.length := by omega
    have hi1 : i < ps.length := by omega
    have ea : atI (ps.map fun p => V.ref p.1) (0 + (i : Int)) = some (.ref ps[i].1) := by
      rw [Int.zero_add]
      exact atI_nat (by rw [List.getElem?_map, List.getElem?_eq_getElem hi1]; rfl)
    have eb : atI (qs.map fun p => V.ref p.1) (0 + (i : Int)) = some (.ref qs[i].1) := by
      rw [Int.zero_add]
      exact atI_nat (by rw [List.getElem?_map, List.getElem?_eq_getElem hi2]; rfl)
    have e2 : ps[i].2.2 = qs[i].2.2 := by
      have := congrArg (fun l => l[i]?) he
      simp only [List.getElem?_map, List.getElem?_eq_getElem hi1, List.getElem?_eq_getElem hi2, Option.map_some] at this
      exact Option.some.inj this
    obtain ⟨a1, a2⟩ := h1.ob ps[i] (List.getElem_mem hi1)
    obtain ⟨b1, b2⟩ := h2.ob qs[i] (List.getElem_mem hi2)
    have t2 : qs[i].2.2.1.T := hT qs[i].2.2 (List.mem_map_of_mem (f := fun p : Addr × Ent => p.2.2) (List.getElem_mem hi2))
    wtm_at "rd"
    refine ite_n (fun h => absurd rfl h) (fun _ => ?_)
    wtm_at "rd"
    refine us_l_same (o := some qs[i].2.2.1) ⟨_, rfl, e2 ▸ a2⟩ ⟨_, rfl, b2⟩ (fun y e => by cases e; exact t2) ?_
    wtm_at "rd"
    refine us_l_whole ?_
    wtm_at "rd"
    refine ite_n (fun h => absurd (by rw [e2]) h) (fun _ => ?_)
    wtm_at "rd"
    exact ⟨⟨_, _, rfl⟩, rfl⟩
  · rintro σ H1 ⟨⟨v2, v3, rfl⟩, rfl⟩
    wtm_at "rd"
    exact kk
theorem c_l_same_counts (T : Cx K mg) (B : Tb P w K mg base) : CalX P w K mg base CX0 3 "_law_same_counts" (sp_l_same_counts K) [] := by
  obtain ⟨fd, F, ok⟩ := f_l_same_counts (P := P) (w := w) (base := base) T B
  exact ⟨_, fd, p_l_same_counts, [], ok, gl_l_same_counts T, F.kp, FunD.bindsN F fun _ _ _ _ _ _ us hl => match us, hl with | [_, _], _ => rfl, .nil⟩
end
section
variable {P : Program} {w : World} {K : PySem.W.Frag} {mg : Str → Option Value} {base : Heap}
def sp_l_look (K : PySem.W.Frag) : Sp := fun vs H Q E => ∃ (nw s d e pr : Addr) (st : Stg) (N : NN) (ks : List Int), vs = [.ref nw, .ref e, .int st.room, .ref pr] ∧ (SN K H nw s d e st N) ∧ (H pr = some (.lst (ks.map V.int))) ∧ (∀ H1, Kp [] H H1 → Q (.bl true) H1)
theorem us_l_look {K : PySem.W.Frag} {H : Hp} {Q : VK} {E : XK} {nw s d e pr : Addr} {st : Stg} {N : NN} {ks : List Int} (hN : SN K H nw s d e st N) (hp : H pr = some (.lst (ks.map V.int))) (kk : ∀ H1, Kp [] H H1 → Q (.bl true) H1) : sp_l_look K [.ref nw, .ref e, .int st.room, .ref pr] H Q E := ⟨_, _, _, _, _, _, _, _, rfl, hN, hp, kk⟩
theorem f_l_look (T : Cx K mg) (B : Tb P w K mg base) : ∃ fd, FunD K "_law_look" "_law_look" (defArgs s_l_look) (defBody s_l_look) (defScope s_l_look) (d_l_look.dvs K) (d_l_look.kws K) (fAd K d_l_look.at_) fd ∧ FnOk P w K mg base CX0 5 (fAd K d_l_look.at_) fd p_l_look (sp_l_look K) := by
  have c_News_pick := c_News_pick (P := P) (w := w) (base := base) T B
  have c_News_rows := c_News_rows (P := P) (w := w) (base := base) T B
  have c_l_same_rows := c_l_same_rows (P := P) (w := w) (base := base) T B
  have c_l_pick := c_l_pick (P := P) (w := w) (base := base) T B
  have c_l_same_counts := c_l_same_counts (P := P) (w := w) (base := base) T B
  have c_l_counts := c_l_counts (P := P) (w := w) (base := base) T B
  have c_News_hot := c_News_hot (P := P) (w := w) (base := base) T B
  have c_l_says := c_l_says (P := P) (w := w) (base := base) T B
  have c_News_quiet := c_News_quiet (P := P) (w := w) (base := base) T B
  have c_News___len__ := c_News___len__ (P := P) (w := w) (base := base) T B
  obtain ⟨fd, F⟩ := T.says.def_ 35 (d := d_l_look) rfl
  refine ⟨fd, F, fnD F sc_l_look (fun vs H Q E h => by
    obtain ⟨_, _, _, _, _, _, _, _, rfl, _⟩ := h
    rfl) fun cdv A outer s H vs Q E hr h => ?_⟩
  have hu := hu_of hr
  obtain ⟨nw, s, d, e, pr, st, N, ks, rfl, hN, hp, kk⟩ := h
  refine ⟨_, (pss_cons (ps_for PassesOwn.never rfl (pi_range1 (by rfl) (fr_range T) (pa_cons pe_int pa_nil)) (pg_name (i := 4) sc_l_look.nd rfl (by first | exact Or.inl rfl | exact Or.inr rfl)) (pss_cons (ps_set (i := 5) sc_l_look.nd rfl (by first | exact Or.inl rfl | exact Or.inr rfl) (pe_met0 c_News_pick hr (by decide) pass0 (pv 0))) (pss_cons (ps_set (i := 6) sc_l_look.nd rfl (by first | exact Or.inl rfl | exact Or.inr rfl) (pe_met0 c_News_rows hr (by decide) pass0 (pv 0))) (pss_cons (ps_if (pt_not (pt_val (pe_cal c_l_same_rows hr (by decide) (by rfl) pass0 (pa_cons (pv 5) (pa_cons (pe_cal c_l_pick hr (by decide) (by rfl) pass0 (pa_cons (pv 1) (pa_cons (pv 2) pa_nil))) pa_nil))))) (pss_one (ps_ret pe_bl)) pss_nil) (pss_cons (ps_if (pt_not (pt_val (pe_cal c_l_same_counts hr (by decide) (by rfl) pass0 (pa_cons (pv 6) (pa_cons (pe_cal c_l_counts hr (by decide) (by rfl) pass0 (pa_cons (pv 1) pa_nil)) pa_nil))))) (pss_one (ps_ret pe_bl)) pss_nil) (pss_cons (ps_expr (pe_bm0 PySem.F.plainAttrs_list PySem.F.slot_list_reverse PySem.F.type_list_reverse mt_reverse (pv 5))) (pss_cons (ps_expr (pe_bm PySem.F.plainAttrs_list PySem.F.slot_list_append PySem.F.type_list_append mt_append (pv 5) (pa_cons (pe_tup (pa_cons pe_int (pa_cons pe_int (pa_cons pe_str (pa_cons pe_str pa_nil))))) pa_nil))) (pss_cons (ps_expr (pe_bm0 PySem.F.plainAttrs_list PySem.F.slot_list_reverse PySem.F.type_list_reverse mt_reverse (pv 6))) (pss_one (ps_expr (pe_bm PySem.F.plainAttrs_list PySem.F.slot_list_append PySem.F.type_list_append mt_append (pv 6) (pa_cons (pe_tup (pa_cons (pe_tup (pa_cons pe_int (pa_cons pe_int (pa_cons pe_str (pa_cons pe_str pa_nil))))) (pa_cons pe_int pa_nil))) pa_nil)))))))))))) (pss_cons (ps_for PassesOwn.never rfl (pi_list (pv 3)) (pg_name (i := 7) sc_l_look.nd rfl (by first | exact Or.inl rfl | exact Or.inr rfl)) (pss_one (ps_if (pt_not (pt_val (pe_cal c_l_says hr (by decide) (by rfl) pass0 (pa_cons (pe_met c_News_hot hr (by decide) pass0 (pv 0) (pa_cons (pv 7) pa_nil)) (pa_cons (pe_cmp (pc_din hu (pv 7) (pv 1))) pa_nil))))) (pss_one (ps_ret pe_bl)) pss_nil))) (pss_one (ps_ret (pe_and (pe_cal c_l_says hr (by decide) (by rfl) pass0 (pa_cons (pe_prpX c_News_quiet hr (by decide) pass0 (pv 0)) (pa_cons (pe_cmpR (op_eqDD hr.units70) (pv 1) pe_dnewK (nomark _)) pa_nil))) (pe_one (pe_cmpR op_eq (pe_callB (call_lenX c_News___len__ hr (by decide) pass0) (by rfl) (fr_len T) (by decide +kernel) (pa_cons (pv 0) pa_nil)) (pe_callB call_lenD' (by rfl) (fr_len T) (by decide +kernel) (pa_cons (pv 1) pa_nil)) (nomark _)))))))), ?_⟩
  rw [show L2.start n_l_look [.ref nw, .ref e, .int st.room, .ref pr] = [some (.ref nw), some (.ref e), some (.int st.room), some (.ref pr), none, none, none, none] from rfl]
  try dsimp only [cxOf, Cx.nox, Cx.wish, List.map]

  obtain ⟨dx, hb⟩ := hN.ob
  obtain ⟨xs, E0, nd, ok, e1⟩ := hN.hot.ex
  obtain ⟨ys, T0, nt, okt, e2⟩ := hN.tab.ex
  have hR := hN.se.ok.r256
  have r0 := hN.se.ok.r0
  have ly := lenK nt okt hR
  have lx := lenK nd ok hR
  have py := pickE_len ys st.room
  have px := pickE_len xs st.room
  have ry := rowsE_len ys
  have rx := rowsE_len xs
  have eq : lkE xs = lkE ys := e1.trans e2.symm
  wtm_at "rd"
  refine forR_by (fun i σ H' => (∃ v4 v5 v6 v7, σ = [some (.ref nw), some (.ref e), some (.int st.room), some (.ref pr), v4, v5, v6, v7]) ∧ Kp [] H H') ⟨⟨_, _, _, _, rfl⟩, Kp.refl⟩ ?_ ?_
  · rintro i σ H1 hi ⟨⟨v4, v5, v6, v7, rfl⟩, k1⟩
    have hb1 := k1.g0 hb
    wtm_at "rd"
    refine us_News_pick ⟨dx, hb1⟩ (E0.k0 k1) (hN.se.k0 k1) nd ok hR fun r H2 R2 k2 nr => ?_
    have k02 := k1.trans k2
    have hb2 := k2.g0 hb1
    wtm_at "rd"
    refine us_News_rows ⟨dx, hb2⟩ (E0.k0 k02) nd (by omega) fun r2 H3 C3 k3 nr2 => ?_
    have k03 := k02.trans k3
    wtm_at "rd"
    refine us_l_pick (T0.k0 k03) nt okt hR (by omega) fun r3 H4 R4 k4 nr3 => ?_
    wtm_at "rd"
    refine us_l_same_rows (R2.k0 (k3.trans k4)) R4 (pick_same nd nt eq _) (fun y hy => ?_) (by rw [List.length_map]; omega) ?_
    · obtain ⟨q, hq, rfl⟩ := List.mem_map.mp hy
      exact pick_T okt q hq
    have k04 := k03.trans k4
    wtm_at "rd"
    refine us_l_counts (T0.k0 k04) nt (by omega) fun r4 ps H5 C5 ep k5 nr4 => ?_
    have k05 := k04.trans k5
    have er := rowsE_look nd nt eq
    have pl : ps.length ≤ 256 := by
      have := congrArg List.length ep
      rw [List.length_map, List.length_map] at this
      omega
    wtm_at "rd"
    refine us_l_same_counts (C3.k0 (k4.trans k5)) C5 (er.trans ep.symm) (fun z hz => ?_) (by omega) ?_
    · rw [ep] at hz
      obtain ⟨q, hq, rfl⟩ := List.mem_map.mp hz
      exact Sy.T.of (okt q (rowsE_mem hq)).1
    have g5 := (R2.k0 ((k3.trans k4).trans k5)).at_
    have c5 := (C3.k0 (k4.trans k5)).at_
    have n12 : r ≠ r2 := ne_of_none R2.at_ nr2
    have nrH : H r = none := k1.back nr (by simp)
    have nr2H : H r2 = none := k02.back nr2 (by simp)
    wtm_at "rd"
    refine ⟨r, _, rfl, rfl, g5, ?_⟩
    have l1 : ((((pickE xs st.room).map fun p => (p.2.1, p.2.2.1)) : List (Addr × Sy)).map fun p => V.ref p.1).reverse.length < sizeLine := szlt (by rw [List.length_reverse, List.length_map, List.length_map]; omega)
    generalize ((((pickE xs st.room).map fun p => (p.2.1, p.2.2.1)) : List (Addr × Sy)).map fun p => V.ref p.1).reverse = us at l1
    have k6 : Kp [] H (upd H5 r (.lst us)) := k05.mine nrH
    have g6 : upd H5 r (.lst us) r = some (.lst us) := upd_same
    have c6 := hu_ne (o := .lst us) (Ne.symm n12) c5
    generalize upd H5 r (.lst us) = H6 at k6 g6 c6
    wtm_at "rd"
    refine ⟨sz1000 (by simp), fun t nt' => ?_⟩
    have k7 := k6.nw (o := .tup [.int 0, .int 0, .str "alive", .str ""]) nt'
    have g7 := hu_ne (o := .tup [.int 0, .int 0, .str "alive", .str ""]) (ne_of_none g6 nt') g6
    have c7 := hu_ne (o := .tup [.int 0, .int 0, .str "alive", .str ""]) (ne_of_none c6 nt') c6
    generalize upd H6 t (.tup [.int 0, .int 0, .str "alive", .str ""]) = H7 at k7 g7 c7
    wtm_at "rd"
    have k8 : Kp [] H (upd H7 r (.lst (us ++ [.ref t]))) := k7.mine nrH
    have c8 := hu_ne (o := .lst (us ++ [.ref t])) (Ne.symm n12) c7
    generalize upd H7 r (.lst (us ++ [.ref t])) = H8 at k8 c8
    refine ⟨r2, _, rfl, rfl, c8, ?_⟩
    have l2 : ((rowsE xs).map fun p => V.ref p.1).reverse.length < sizeLine := szlt (by rw [List.length_reverse, List.length_map]; omega)
    generalize ((rowsE xs).map fun p => V.ref p.1).reverse = ws at l2
    have k9 : Kp [] H (upd H8 r2 (.lst ws)) := k8.mine nr2H
    have c9 : upd H8 r2 (.lst ws) r2 = some (.lst ws) := upd_same
    generalize upd H8 r2 (.lst ws) = H9 at k9 c9
    wtm_at "rd"
    refine ⟨sz1000 (by simp), fun t2 nt2 => ?_⟩
    have kA := k9.nw (o := .tup [.int 0, .int 0, .str "alive", .str ""]) nt2
    have cA := hu_ne (o := .tup [.int 0, .int 0, .str "alive", .str ""]) (ne_of_none c9 nt2) c9
    generalize upd H9 t2 (.tup [.int 0, .int 0, .str "alive", .str ""]) = HA at kA cA
    wtm_at "rd"
    refine ⟨sz1000 (by simp), fun t3 nt3 => ?_⟩
    have kB := kA.nw (o := .tup [.ref t2, .int 0]) nt3
    have cB := hu_ne (o := .tup [.ref t2, .int 0]) (ne_of_none cA nt3) cA
    generalize upd HA t3 (.tup [.ref t2, .int 0]) = HB at kB cB
    wtm_at "rd"
    exact ⟨⟨_, _, _, _, rfl⟩, kB.mine nr2H⟩
  rintro σ H1 ⟨⟨v4, v5, v6, v7, rfl⟩, k1⟩
  have hp1 := k1.g0 hp
  wtm_at "rd"
  refine forL_by (K := K) (ks.map V.int) (fun i σ H' => (∃ v7, σ = [some (.ref nw), some (.ref e), some (.int st.room), some (.ref pr), v4, v5, v6, v7]) ∧ H' = H1) ⟨⟨_, rfl⟩, rfl⟩ (fun i σ H' _ q => by rw [q.2]; exact SqL.of hp1) ?_ ?_
  · rintro i x σ H2 hx ⟨⟨v7, rfl⟩, rfl⟩
    rw [List.getElem?_map] at hx
    obtain ⟨k, hk, rfl⟩ := Option.map_eq_some_iff.mp hx
    have hb1 := k1.g0 hb
    have T1 := T0.k0 k1
    have hd1 := T1.at_
    wtm_at "rd"
    refine us_News_hot ⟨dx, hb1⟩ (E0.k0 k1) ?_
    wtm_at "rd"
    rw [kvT_val]
    have eb : (Option.map (fun p : Addr × Ent => V.ref p.1) (fdT ek ys k)).isSome = (lkE xs k).isSome := by
      rw [eq]
      unfold lkE
      cases fdT ek ys k <;> rfl
    rw [eb]
    refine us_l_says ?_
    rw [decide_eq_true rfl]
    wtm_at "rd"
    exact ⟨⟨_, rfl⟩, rfl⟩
  rintro σ H2 ⟨⟨v7, rfl⟩, rfl⟩
  have hb1 := k1.g0 hb
  have E1 := E0.k0 k1
  have T1 := T0.k0 k1
  have hd1 := T1.at_
  wtm_at "rd"
  refine us_News_quiet ⟨dx, hb1⟩ E1 ?_
  wtm_at "rd"
  intro EE nEE
  have kE : Kp [] H2 (upd H2 EE (.dK [])) := Kp.new nEE
  have gE : upd H2 EE (.dK []) EE = some (.dK []) := upd_same
  have TE := T1.k0 kE
  have E2 := E1.k0 kE
  have hb2 := kE.g0 hb1
  generalize upd H2 EE (.dK []) = HE at kE gE TE E2 hb2
  refine rd_eqDD TE.at_ gE (dd_atE TE nt fun q hq => Sy.T.of (okt q hq).1) (g := fun _ => .none) (fun q hq => by cases hq) ?_
  rw [eqDD_E]
  wtm_at "rd"
  refine us_l_says ?_
  have le := lenE nd nt eq
  have hdE := TE.at_
  rw [show decide (decide ((xs.length : Int) = 0) = decide (ys.length = 0)) = true from decide_eq_true (by rw [le]; exact decide_eq_decide.mpr (by omega))]
  wtm_at "rd"
  refine us_News___len__ ⟨dx, hb2⟩ E2 ?_
  wtm_at "rd"
  refine ⟨⟨by omega, by omega⟩, ?_⟩
  wtm_at "rd"
  rw [kvT_len, le, decide_eq_true rfl]
  exact kk HE (k1.trans kE)
theorem c_l_look (T : Cx K mg) (B : Tb P w K mg base) : CalX P w K mg base CX0 5 "_law_look" (sp_l_look K) [] := by
  obtain ⟨fd, F, ok⟩ := f_l_look (P := P) (w := w) (base := base) T B
  exact ⟨_, fd, p_l_look, [], ok, gl_l_look T, F.kp, FunD.bindsN F fun _ _ _ _ _ _ us hl => match us, hl with | [_, _, _, _], _ => rfl, .nil⟩
end
section
variable {P : Program} {w : World} {K : PySem.W.Frag} {mg : Str → Option Value} {base : Heap}
def sp_l_drained (K : PySem.W.Frag) : Sp := fun vs H Q E => ∃ (nw s d e : Addr) (st : Stg) (N : NN), vs = [.ref nw, .ref e, .int (st.bits * st.pat), .int st.room] ∧ (SN K H nw s d e st N) ∧ (∀ N2 H1, SN K H1 nw s d e st N2 → Kp [d, e] H H1 → Q (.bl true) H1)
theorem us_l_drained {K : PySem.W.Frag} {H : Hp} {Q : VK} {E : XK} {nw s d e : Addr} {st : Stg} {N : NN} (hN : SN K H nw s d e st N) (kk : ∀ N2 H1, SN K H1 nw s d e st N2 → Kp [d, e] H H1 → Q (.bl true) H1) : sp_l_drained K [.ref nw, .ref e, .int (st.bits * st.pat), .int st.room] H Q E := ⟨_, _, _, _, _, _, rfl, hN, kk⟩
theorem f_l_drained (T : Cx K mg) (B : Tb P w K mg base) : ∃ fd, FunD K "_law_drained" "_law_drained" (defArgs s_l_drained) (defBody s_l_drained) (defScope s_l_drained) (d_l_drained.dvs K) (d_l_drained.kws K) (fAd K d_l_drained.at_) fd ∧ FnOk P w K mg base CX0 6 (fAd K d_l_drained.at_) fd p_l_drained (sp_l_drained K) := by
  have c_News_pick := c_News_pick (P := P) (w := w) (base := base) T B
  have c_l_same_rows := c_l_same_rows (P := P) (w := w) (base := base) T B
  have c_l_pick := c_l_pick (P := P) (w := w) (base := base) T B
  have c_l_tell := c_l_tell (P := P) (w := w) (base := base) T B
  have c_News_quiet := c_News_quiet (P := P) (w := w) (base := base) T B
  have c_l_says := c_l_says (P := P) (w := w) (base := base) T B
  have c_News___len__ := c_News___len__ (P := P) (w := w) (base := base) T B
  have c_News_rows := c_News_rows (P := P) (w := w) (base := base) T B
  obtain ⟨fd, F⟩ := T.says.def_ 36 (d := d_l_drained) rfl
  refine ⟨fd, F, fnD F sc_l_drained (fun vs H Q E h => by
    obtain ⟨_, _, _, _, _, _, rfl, _⟩ := h
    rfl) fun cdv A outer s H vs Q E hr h => ?_⟩
  have hu := hu_of hr
  obtain ⟨nw, s, d, e, st, N, rfl, hN, kk⟩ := h
  refine ⟨_, (pss_cons (ps_set (i := 4) sc_l_drained.nd rfl (by first | exact Or.inl rfl | exact Or.inr rfl) (pe_callB (cr_sum rfl) (by rfl) (fr_sum T) (by decide +kernel) (pa_cons (pe_lock (pe_lc (own := [("_law_seat_here", 7)]) (g := (gName 7)) (tt := tYes) rfl sc_l_drained.nd (pi_keys (pv 1)) (blkOk_by (own := [("_law_seat_here", 7)]) (N := n_l_drained) (sc := defScope s_l_drained) (by decide +kernel)) (fun _ _ _ _ _ => (pg_name (i := 7) sc_l_drained.nd rfl (by first | exact Or.inl rfl | exact Or.inr rfl))) (fun _ _ _ _ _ => pts_nil) (fun _ _ _ _ _ => (pe_op op_sub (pv 2) (pe_ix (ix_listK (K := K) rfl) (pe_dget hu (pv 1) (pv 7) (fun _ _ => rfl)) pe_int (fun _ _ => rfl)))))) pa_nil))) (pss_cons (ps_if (pt_cmpR op_gt (pv 4) pe_int (nomark _)) (pss_one (ps_ret pe_bl)) pss_nil) (pss_cons (ps_for PassesOwn.never rfl (pi_range1 (by rfl) (fr_range T) (pa_cons (pv 4) pa_nil)) (pg_name (i := 5) sc_l_drained.nd rfl (by first | exact Or.inl rfl | exact Or.inr rfl)) (pss_cons (ps_if (pt_cmpR (op_eqDD hr.units70) (pv 1) pe_dnewK (nomark _)) (pss_one (ps_ret (pe_and (pe_cal c_l_says hr (by decide) (by rfl) pass0 (pa_cons (pe_prpX c_News_quiet hr (by decide) pass0 (pv 0)) (pa_cons pe_bl pa_nil))) (pe_and (pe_cmpR op_eq (pe_callB (call_lenX c_News___len__ hr (by decide) pass0) (by rfl) (fr_len T) (by decide +kernel) (pa_cons (pv 0) pa_nil)) pe_int (nomark _)) (pe_one (pe_cmpR (op_eqD hr.units) (pe_met0 c_News_pick hr (by decide) pass0 (pv 0)) (pe_lst pa_nil) (nomark _))))))) pss_nil) (pss_cons (ps_set (i := 6) sc_l_drained.nd rfl (by first | exact Or.inl rfl | exact Or.inr rfl) (pe_met0 c_News_pick hr (by decide) pass0 (pv 0))) (pss_cons (ps_if (pt_not (pt_val (pe_cal c_l_same_rows hr (by decide) (by rfl) pass0 (pa_cons (pv 6) (pa_cons (pe_cal c_l_pick hr (by decide) (by rfl) pass0 (pa_cons (pv 1) (pa_cons (pv 3) pa_nil))) pa_nil))))) (pss_one (ps_ret pe_bl)) pss_nil) (pss_one (ps_if (pt_not (pt_val (pe_cal c_l_tell hr (by decide) (by rfl) pass0 (pa_cons (pv 0) (pa_cons (pv 1) (pa_cons (pv 2) (pa_cons (pv 6) pa_nil))))))) (pss_one (ps_ret pe_bl)) pss_nil)))))) (pss_one (ps_ret (pe_and (pe_cmpR (op_eqDD hr.units70) (pv 1) pe_dnewK (nomark _)) (pe_and (pe_cal c_l_says hr (by decide) (by rfl) pass0 (pa_cons (pe_prpX c_News_quiet hr (by decide) pass0 (pv 0)) (pa_cons pe_bl pa_nil))) (pe_one (pe_cmpR (op_eqD hr.units) (pe_met0 c_News_rows hr (by decide) pass0 (pv 0)) (pe_lst pa_nil) (nomark _)))))))))), ?_⟩
  rw [show L2.start n_l_drained [.ref nw, .ref e, .int (st.bits * st.pat), .int st.room] = [some (.ref nw), some (.ref e), some (.int (st.bits * st.pat)), some (.int st.room), none, none, none, none] from rfl]
  try dsimp only [cxOf, Cx.nox, Cx.wish, List.map]

  obtain ⟨ys, T0, nt, okt, e2⟩ := hN.tab.ex
  have so := hN.se.ok
  have hR := so.r256
  have r0 := so.r0
  have ly := lenK nt okt hR
  have hd := T0.at_
  wtm_at "rd"
  refine rd_lockE hd trivial fun od => ?_
  have s1 : upd H e (.frz od (.dK (kvT ek ys))) e = some (.frz od (.dK (kvT ek ys))) := upd_same
  have gx : ∀ p, p ∈ ys → upd H e (.frz od (.dK (kvT ek ys))) p.1 = some (.lst [.ref p.2.1, .int p.2.2.2]) := fun p hp => hu_ne (ne_of (T0.ob p hp).1 hd (mkL.dk _ _)) (T0.ob p hp).1
  have kL : ∀ H2, Kp [] (upd H e (.frz od (.dK (kvT ek ys)))) H2 → Kp [] H (upd H2 e (.dK (kvT ek ys))) := fun H2 k => kp_lock hd k
  generalize upd H e (.frz od (.dK (kvT ek ys))) = H1 at *
  refine rd_lc (rd_iKeys ?_)
  wtm_at "rd"
  refine ⟨e, od, rfl, .inl ⟨_, s1, fun D hD => ?_⟩⟩
  refine lcKT_by ys (fun i H2 => H2 D = some (.lst (((ys.take i).map fun p => st.bits * st.pat - p.2.2.2).map V.int)) ∧ Kp [] H1 H2) ⟨upd_same, Kp.new hD⟩ (fun i H2 _ z => z.2.g0 s1) (fun i hi H2 z => ?_) (fun H2 z => ?_)
  · obtain ⟨z1, k2⟩ := z
    have pm := List.getElem_mem hi
    have hp1 := k2.g0 (gx _ pm)
    have s2 := k2.g0 s1
    wtm_at "rd"
    refine ⟨rfl, ?_⟩
    wtm_at "rd"
    refine rd_dgetX (dg_fz s2 (by rw [kvT_val, fdE_of nt pm]; rfl)) ?_
    wtm_at "rd"
    refine ⟨_, z1, szlt (by rw [List.length_map, List.length_map, List.length_take]; omega), ?_, k2.mine hD⟩
    rw [upd_same, List.take_succ_eq_append_getElem hi, List.map_append, List.map_append]
    rfl
  obtain ⟨z1, k2⟩ := z
  rw [List.take_length] at z1
  refine ⟨k2.g0 s1, ?_⟩
  have s2 := k2.g0 s1
  have nDe : D ≠ e := Ne.symm (ne_of_none s1 hD)
  have z3 : upd H2 e (.dK (kvT ek ys)) D = some (.lst ((ys.map fun p => st.bits * st.pat - p.2.2.2).map V.int)) := hu_ne nDe z1
  have k3 := kL H2 k2
  generalize upd H2 e (.dK (kvT ek ys)) = H3 at k3 z3
  clear kL gx s1 s2 z1 k2 hD
  have N3 := hN.k0 k3
  wtm_at "rd"
  refine rd_sumL (SqL.of z3) ?_
  have m0 := mu_sum (n := st.ring.toNat) okt
  obtain ⟨tt, htt⟩ : ∃ tt : Int, (ys.map fun p => st.bits * st.pat - p.2.2.2).sum = tt := ⟨_, rfl⟩
  rw [htt] at m0 ⊢
  rw [e2] at m0
  wtm_at "rd"
  refine ite_d (fun _ => ?_) (fun hc => ?_)
  · wtm_at "rd"
    exact kk N H3 N3 k3.of0
  have hc : ¬ tt > 200 := hc
  have tt0 : 0 ≤ tt := by
    refine Int.le_trans ?_ m0
    have h1 := mu_le (f := fun _ => 0) (g := fun k => gE (st.bits * st.pat) (N k)) (n := st.ring.toNat) fun k _ => by
      show (0 : Int) ≤ gE _ (N k)
      cases e : N k with
      | none => exact Int.le_refl _
      | some z =>
        have := hN.tab.ok e
        show (0 : Int) ≤ st.bits * st.pat - z.2
        omega
    rwa [mu_zero] at h1
  have inn : ∀ {H' : Hp} {N' : NN}, SN K H' nw s d e st N' → ∃ dx xs zs, H' nw = some (.ins (ga K "News") dx [(("_setting" : Str), .ref s), (("_hot" : Str), .ref d)]) ∧ EN HO.tup H' d xs ∧ keysE xs ∧ okE st.ring (st.bits * st.pat) xs ∧ lkE xs = N' ∧ EN HO.lst H' e zs ∧ keysE zs ∧ okE st.ring (st.bits * st.pat) zs ∧ lkE zs = N' := fun {H' N'} S => by
    obtain ⟨dx, hb⟩ := S.ob
    obtain ⟨xs, a1, a2, a3, a4⟩ := S.hot.ex
    obtain ⟨zs, b1, b2, b3, b4⟩ := S.tab.ex
    exact ⟨dx, xs, zs, hb, a1, a2, a3, a4, b1, b2, b3, b4⟩
  wtm_at "rd"
  refine forR_by (fun i σ H' => (∃ v5 v6, σ = [some (.ref nw), some (.ref e), some (.int (st.bits * st.pat)), some (.int st.room), some (.int tt), v5, v6, none]) ∧ (∃ N', SN K H' nw s d e st N' ∧ mu (fun k => gE (st.bits * st.pat) (N' k)) st.ring.toNat ≤ tt - (i : Int)) ∧ Kp [d, e] H H') ⟨⟨_, _, rfl⟩, ⟨N, N3, by simpa using m0⟩, k3.of0⟩ ?_ ?_
  · rintro i σ H4 hi ⟨⟨v5, v6, rfl⟩, ⟨N4, S4, m4⟩, k4⟩
    obtain ⟨dx, xs, zs, hb4, E4, nd, ok, ex, T4, nz, okz, ez⟩ := inn S4
    have lx := lenK nd ok hR
    have lz := lenK nz okz hR
    have hd4 := T4.at_
    wtm_at "rd"
    intro EE nEE
    have kE : Kp [] H4 (upd H4 EE (.dK [])) := Kp.new nEE
    have gE' : upd H4 EE (.dK []) EE = some (.dK []) := upd_same
    have T5 := T4.k0 kE
    have E5 := E4.k0 kE
    have S5 := S4.k0 kE
    have hb5 := kE.g0 hb4
    generalize upd H4 EE (.dK []) = H5 at kE gE' T5 E5 S5 hb5
    refine rd_eqDD T5.at_ gE' (dd_atE T5 nz fun q hq => Sy.T.of (okz q hq).1) (g := fun _ => .none) (fun q hq => by cases hq) ?_
    rw [eqDD_E]
    have le := lenE nd nz (ex.trans ez.symm)
    wtm_at "rd"
    refine ite_d (fun hz => ?_) (fun hz => ?_)
    · have hx0 : xs = [] := List.length_eq_zero_iff.mp (by omega)
      wtm_at "rd"
      refine us_News_quiet ⟨dx, hb5⟩ E5 ?_
      rw [hx0, show decide ((([] : ES).length : Int) = 0) = true from rfl]
      wtm_at "rd"
      refine us_l_says ?_
      rw [decide_eq_true rfl]
      wtm_at "rd"
      refine us_News___len__ ⟨dx, hb5⟩ E5 ?_
      wtm_at "rd"
      refine ⟨⟨by omega, by omega⟩, ?_⟩
      wtm_at "rd"
      rw [hx0]
      refine ite_d (fun _ => ?_) (fun z => absurd rfl z)
      wtm_at "rd"
      refine us_News_pick ⟨dx, hb5⟩ E5 S5.se nd ok hR fun r H6 R6 k6 nr => ?_
      have hr6 : H6 r = some (.lst (([] : List Int).map V.int)) := by
        have : pickE xs st.room = [] := by
          have := pickE_len xs st.room
          rw [show xs.length = 0 by rw [hx0]; rfl] at this
          exact List.length_eq_zero_iff.mp (Nat.le_zero.mp this)
        rw [R6.at_, this]
        rfl
      wtm_at "rd"
      refine ⟨sz1000 (by simp), fun q nq => ?_⟩
      refine rd_eqLI (ns := []) (ms := []) (SqL.of (hu_ne (ne_of_none hr6 nq) hr6)) (SqL.of upd_same) ?_
      rw [decide_eq_true rfl]
      exact kk _ _ ((S5.k0 k6).k0 (Kp.new nq)) (((k4.trans kE.of0).trans k6.of0).nw nq)
    wtm_at "rd"
    refine us_News_pick ⟨dx, hb5⟩ E5 S5.se nd ok hR fun r H6 R6 k6 nr => ?_
    have S6 := S5.k0 k6
    have T6 := T5.k0 k6
    have pz := pickE_len zs st.room
    have px := pickE_len xs st.room
    wtm_at "rd"
    refine us_l_pick T6 nz okz hR (by omega) fun r2 H7 R7 k7 nr2 => ?_
    have S7 := S6.k0 k7
    have R67 := R6.k0 k7
    wtm_at "rd"
    refine us_l_same_rows R67 R7 (pick_same nd nz (ex.trans ez.symm) _) (fun y hy => ?_) (by rw [List.length_map]; omega) ?_
    · obtain ⟨q, hq, rfl⟩ := List.mem_map.mp hy
      exact pick_T okz q hq
    wtm_at "rd"
    refine us_l_tell S7 R67 (pick_T ok) (by rw [List.length_map]; omega) fun H8 S8 k8 => ?_
    obtain ⟨p, hp, hh⟩ := pick_ne nd ok hR (room := st.room) (by omega) (fun z => hz (by rw [← le, z]; rfl))
    have mt := mu_tell nd ok hp hh
    rw [ex] at mt
    have nr0 : H r = none := by
      obtain ⟨kv, h1⟩ := S5.hot.dd
      obtain ⟨kv2, h2⟩ := S5.tab.dd
      refine (k4.trans kE.of0).back nr ?_
      have := ne_of_none h1 nr
      have := ne_of_none h2 nr
      simp [Ne.symm, *]
    wtm_at "rd"
    refine ⟨⟨_, _, rfl⟩, ⟨_, S8, by
      have : mu (fun k => gE (st.bits * st.pat) (tell ((((pickE xs st.room).map fun p => (p.2.1, p.2.2.1)) : List (Addr × Sy)).map (·.2)) (st.bits * st.pat) N4 k)) st.ring.toNat + 1 ≤ mu (fun k => gE (st.bits * st.pat) (N4 k)) st.ring.toNat := mt
      omega⟩, (k4.trans (kE.trans (k6.trans k7)).of0).via k8 fun q hq => ?_⟩
    simp only [List.mem_cons, List.not_mem_nil, or_false] at hq
    rcases hq with rfl | rfl | rfl
    · exact .inl (by simp)
    · exact .inl (by simp)
    · exact .inr nr0
  · rintro σ H4 ⟨⟨v5, v6, rfl⟩, ⟨N4, S4, m4⟩, k4⟩
    obtain ⟨dx, xs, zs, hb4, E4, nd, ok, ex, T4, nz, okz, ez⟩ := inn S4
    have hx0 : xs = [] := mu_none nd ok (by rw [ex]; omega)
    have hz0 : zs = [] := mu_none nz okz (by rw [ez]; omega)
    have hd4 := T4.at_
    wtm_at "rd"
    intro EE nEE
    have kE : Kp [] H4 (upd H4 EE (.dK [])) := Kp.new nEE
    have gE' : upd H4 EE (.dK []) EE = some (.dK []) := upd_same
    have T5 := T4.k0 kE
    have E5 := E4.k0 kE
    have hb5 := kE.g0 hb4
    generalize upd H4 EE (.dK []) = H5 at kE gE' T5 E5 hb5
    refine rd_eqDD T5.at_ gE' (dd_atE T5 nz fun q hq => Sy.T.of (okz q hq).1) (g := fun _ => .none) (fun q hq => by cases hq) ?_
    rw [eqDD_E, hz0]
    wtm_at "rd"
    refine ite_d (fun _ => ?_) (fun z => absurd rfl z)
    wtm_at "rd"
    refine us_News_quiet ⟨dx, hb5⟩ E5 ?_
    rw [hx0, show decide ((([] : ES).length : Int) = 0) = true from rfl]
    wtm_at "rd"
    refine us_l_says ?_
    rw [decide_eq_true rfl]
    wtm_at "rd"
    refine us_News_rows ⟨dx, hb5⟩ E5 nd (by rw [hx0]; decide) fun r H6 R6 k6 nr => ?_
    have hr6 : H6 r = some (.lst (([] : List Int).map V.int)) := by
      have : rowsE xs = [] := by
        have := rowsE_len xs
        rw [show xs.length = 0 by rw [hx0]; rfl] at this
        exact List.length_eq_zero_iff.mp (Nat.le_zero.mp this)
      rw [R6.at_, this]
      rfl
    wtm_at "rd"
    refine ⟨sz1000 (by simp), fun q nq => ?_⟩
    refine rd_eqLI (ns := []) (ms := []) (SqL.of (hu_ne (ne_of_none hr6 nq) hr6)) (SqL.of upd_same) ?_
    rw [decide_eq_true rfl]
    exact kk _ _ (((S4.k0 kE).k0 k6).k0 (Kp.new nq)) (((k4.trans kE.of0).trans k6.of0).nw nq)
theorem c_l_drained (T : Cx K mg) (B : Tb P w K mg base) : CalX P w K mg base CX0 6 "_law_drained" (sp_l_drained K) [] := by
  obtain ⟨fd, F, ok⟩ := f_l_drained (P := P) (w := w) (base := base) T B
  exact ⟨_, fd, p_l_drained, [], ok, gl_l_drained T, F.kp, FunD.bindsN F fun _ _ _ _ _ _ us hl => match us, hl with | [_, _, _, _], _ => rfl, .nil⟩
end
section
variable {P : Program} {w : World} {K : PySem.W.Frag} {mg : Str → Option Value} {base : Heap}
def sp_l_filled (K : PySem.W.Frag) : Sp := fun vs H Q E => ∃ (p nw s d e : Addr) (st : Stg) (N : NN) (lg : Bool), vs = [.ref p, .ref nw, .ref e, .int st.ring, .bl lg] ∧ (BoxB H p) ∧ (SN K H nw s d e st N) ∧ (∀ N2 H1, SN K H1 nw s d e st N2 → BoxB H1 p → Kp [p, d, e] H H1 → Q (.bl true) H1)
theorem us_l_filled {K : PySem.W.Frag} {H : Hp} {Q : VK} {E : XK} {p nw s d e : Addr} {st : Stg} {N : NN} {lg : Bool} (hB : BoxB H p) (hN : SN K H nw s d e st N) (kk : ∀ N2 H1, SN K H1 nw s d e st N2 → BoxB H1 p → Kp [p, d, e] H H1 → Q (.bl true) H1) : sp_l_filled K [.ref p, .ref nw, .ref e, .int st.ring, .bl lg] H Q E := ⟨_, _, _, _, _, _, _, _, rfl, hB, hN, kk⟩
theorem f_l_filled (T : Cx K mg) (B : Tb P w K mg base) : ∃ fd, FunD K "_law_filled" "_law_filled" (defArgs s_l_filled) (defBody s_l_filled) (defScope s_l_filled) (d_l_filled.dvs K) (d_l_filled.kws K) (fAd K d_l_filled.at_) fd ∧ FnOk P w K mg base CX0 5 (fAd K d_l_filled.at_) fd p_l_filled (sp_l_filled K) := by
  have c_l_take := c_l_take (P := P) (w := w) (base := base) T B
  have c_l_fresh := c_l_fresh (P := P) (w := w) (base := base) T B
  have c_News_note := c_News_note (P := P) (w := w) (base := base) T B
  obtain ⟨fd, F⟩ := T.says.def_ 37 (d := d_l_filled) rfl
  refine ⟨fd, F, fnD F sc_l_filled (fun vs H Q E h => by
    obtain ⟨_, _, _, _, _, _, _, _, rfl, _⟩ := h
    rfl) fun cdv A outer s H vs Q E hr h => ?_⟩
  have hu := hu_of hr
  obtain ⟨p, nw, s, d, e, st, N, lg, rfl, hB, hN, kk⟩ := h
  refine ⟨_, (pss_cons (ps_set (i := 5) sc_l_filled.nd rfl (by first | exact Or.inl rfl | exact Or.inr rfl) (pe_cal c_l_take hr (by decide) (by rfl) pass0 (pa_cons (pv 0) (pa_cons pe_int pa_nil)))) (C8.pss_cut (ps_if (pt_val (pv 4)) (pss_one (ps_set (i := 5) sc_l_filled.nd rfl (by first | exact Or.inl rfl | exact Or.inr rfl) (pe_op op_add pe_int (pe_cal c_l_take hr (by decide) (by rfl) pass0 (pa_cons (pv 0) (pa_cons (pv 3) pa_nil)))))) pss_nil) (pss_cons (ps_set (i := 6) sc_l_filled.nd rfl (by first | exact Or.inl rfl | exact Or.inr rfl) (pe_cal c_l_take hr (by decide) (by rfl) pass0 (pa_cons (pv 0) (pa_cons (pv 3) pa_nil)))) (pss_cons (ps_set (i := 7) sc_l_filled.nd rfl (by first | exact Or.inl rfl | exact Or.inr rfl) (pe_op op_add pe_int (pe_op op_mul pe_int (pe_cal c_l_take hr (by decide) (by rfl) pass0 (pa_cons (pv 0) (pa_cons (pv 3) pa_nil)))))) (pss_cons (ps_for PassesOwn.never rfl (pi_range1 (by rfl) (fr_range T) (pa_cons (pv 5) pa_nil)) (pg_name (i := 8) sc_l_filled.nd rfl (by first | exact Or.inl rfl | exact Or.inr rfl)) (pss_cons (ps_set (i := 9) sc_l_filled.nd rfl (by first | exact Or.inl rfl | exact Or.inr rfl) (pe_cal c_l_fresh hr (by decide) (by rfl) pass0 (pa_cons (pv 0) (pa_cons (pe_lst (pa_cons (pe_op op_mod (pe_callTy call_int1' (by rfl) (fr_int T) (by decide +kernel) (pa_cons (pe_op op_add (pv 6) (pe_op op_mul (pv 8) (pv 7))) pa_nil)) (pv 3)) pa_nil)) (pa_cons (pv 3) pa_nil))))) (pss_cons (ps_if (pt_cmp (pc_notN (pe_met c_News_note hr (by decide) pass0 (pv 1) (pa_cons (pv 9) pa_nil)))) (pss_one (ps_ret pe_bl)) pss_nil) (pss_one (ps_dput hu (pv 2) (pe_ix ix_tup (pv 9) pe_int (fun _ _ => rfl)) (pe_lst (pa_cons (pv 9) (pa_cons pe_int pa_nil))) rfl))))) (pss_one (ps_ret pe_bl))))))), ?_⟩
  rw [show L2.start n_l_filled [.ref p, .ref nw, .ref e, .int st.ring, .bl lg] = [some (.ref p), some (.ref nw), some (.ref e), some (.int st.ring), some (.bl lg), none, none, none, none, none] from rfl]
  try dsimp only [cxOf, Cx.nox, Cx.wish, List.map]

  have hR := hN.se.ok.r256
  have r2 := hN.se.ok.r2
  have cyp : 0 < st.bits * st.pat := Int.mul_pos (by have := hN.se.ok.b0; omega) (by have := hN.se.ok.p0; omega)
  have h256 : (1000 : Int) ≤ 10 ^ 60 := by decide +kernel
  wtm_at "rd"
  refine us_l_take hB (by decide) (by decide) fun m0 H1 m1 m2 B1 k1 => ?_
  wtm_at "rd"
  refine rd_cut (fun σ H' => (∃ mo : Int, σ = [some (.ref p), some (.ref nw), some (.ref e), some (.int st.ring), some (.bl lg), some (.int mo), none, none, none, none] ∧ 0 ≤ mo ∧ mo ≤ 256) ∧ BoxB H' p ∧ Kp [p] H H') ?_ ?_
  · wtm_at "rd"
    cases lg with
    | false =>
      wtm_at "rd"
      exact ⟨⟨_, rfl, by omega, by omega⟩, B1, k1⟩
    | true =>
      wtm_at "rd"
      refine us_l_take B1 (by omega) (by omega) fun x H2 x0 x1 B2 k2 => ?_
      wtm_at "rd"
      exact ⟨⟨_, rfl, by omega, by omega⟩, B2, k1.trans k2⟩
  rintro σ H2 ⟨⟨mo, rfl, mo0, mo1⟩, B2, k2⟩
  wtm_at "rd"
  refine us_l_take B2 (by omega) (by omega) fun fi H3 fi0 fi1 B3 k3 => ?_
  wtm_at "rd"
  refine us_l_take B3 (by omega) (by omega) fun sr H4 sr0 sr1 B4 k4 => ?_
  have k04 := (k2.trans k3).trans k4
  have N4 := hN.kBx hB k04
  wtm_at "rd"
  refine forR_by (fun i σ H' => (∃ v8 v9, σ = [some (.ref p), some (.ref nw), some (.ref e), some (.int st.ring), some (.bl lg), some (.int mo), some (.int fi), some (.int (1 + 2 * sr)), v8, v9]) ∧ (∃ N', SN K H' nw s d e st N') ∧ BoxB H' p ∧ Kp [p, d, e] H H') ⟨⟨_, _, rfl⟩, ⟨N, N4⟩, B4, k04.mono (by simp)⟩ ?_ ?_
  · rintro i σ G0 hi ⟨⟨v8, v9, rfl⟩, ⟨N', S0⟩, B0, k0⟩
    have q0 := Int.emod_nonneg (fi + (i : Int) * (1 + 2 * sr)) (show st.ring ≠ 0 by omega)
    have q1 := Int.emod_lt_of_pos (fi + (i : Int) * (1 + 2 * sr)) (show (0 : Int) < st.ring by omega)
    rw [Int.zero_add]
    wtm_at "rd"
    generalize (fi + (i : Int) * (1 + 2 * sr)) % st.ring = sx at q0 q1 ⊢
    wtm_at "rd"
    refine ⟨sz1000 (by simp), fun g ng => ?_⟩
    have k9 : Kp [] G0 (upd G0 g (.lst [.int sx])) := Kp.new ng
    have g9 : upd G0 g (.lst [.int sx]) g = some (.lst (([sx] : List Int).map V.int)) := upd_same
    have ngp : g ≠ p := fun e => B0.ne ng e.symm
    have B9 := B0.k0 k9
    have S9' := S0.k0 k9
    generalize upd G0 g (.lst [.int sx]) = G9 at k9 g9 B9 S9'
    clear k1 k2 k3 k4 B1 B2 B3 B4 N4
    wtm_at "rd"
    refine us_l_fresh (n := st.ring) B9 g9 ⟨by simp, by simp, fun z hz => by rw [List.mem_singleton.mp hz]; exact ⟨q0, q1⟩⟩ ⟨by omega, hR⟩ ngp fun u z H2 hu oz B2 k2 => ?_
    have N2 := S9'.kBx B9 k2
    obtain ⟨xs, E2, nd, ok, e1⟩ := N2.hot.ex
    obtain ⟨dx, hb2⟩ := N2.ob
    obtain ⟨⟨dxs, hs2⟩, _⟩ := id N2.se
    have lx := lenK nd ok hR
    wtm_at "rd"
    refine us_News_note ⟨dx, hb2⟩ E2 hu (by omega) fun a H3 E3 k3 => ?_
    have w2 : Wr H2 [d] := fun q hq => by
      rw [List.mem_singleton.mp hq]
      exact .inl ⟨_, E2.at_⟩
    have hu3 : SyAt H3 u z := k3.g1 (ne_of hu E2.at_ (by intro z; cases z)) hu
    obtain ⟨zs, T2, nz, okz, e3⟩ := N2.tab.ex
    have T3 := T2.kp mkL k3 w2 (by simp [Ne.symm N2.ne])
    have B3 : BoxB H3 p := B2.k1 k3 (fun e => by
      obtain ⟨_, _, _, h⟩ := B2
      rw [e, E2.at_] at h
      cases h)
    have hb3 := k3.g1 (ne_of hb2 E2.at_ (by intro z; cases z)) hb2
    have S3 := N2.se.k1 k3 (N2.se.nedK E2.at_)
    have hu4 := hu3
    unfold SyAt Sy.tup at hu4
    wtm_at "rd"
    refine ⟨sz1000 (by simp), fun c nc => ?_⟩
    have k4 : Kp [] H3 (upd H3 c (.lst [.ref u, .int 0])) := Kp.new nc
    have gc : upd H3 c (.lst [.ref u, .int 0]) c = some (.lst [.ref u, .int 0]) := upd_same
    have T4 := T3.k0 k4
    have E4 := E3.k0 k4
    have hu5 := k4.g0 hu4
    have hb4 := k4.g0 hb3
    have S4 := S3.k0 k4
    have B4 := B3.k0 k4
    generalize upd H3 c (.lst [.ref u, .int 0]) = H4 at k4 gc T4 E4 hu5 hb4 S4 B4
    have hd4 := T4.at_
    have lz := lenK nz okz hR
    have len : (kvT ek zs).length < sizeLine := szlt (by
      rw [kvT_len]
      omega)
    wtm_at "rd"
    have ep := kvT_put ek zs (c, (u, z, 0))
    have T5 := T4.put mkL (p := (c, (u, z, 0))) gc hu5
    rw [← ep] at T5
    have w4 : Wr H4 [e] := fun q hq => by
      rw [List.mem_singleton.mp hq]
      exact .inl ⟨_, hd4⟩
    have k5 : Kp [e] H4 (upd H4 e (.dK (putK (kvT ek zs) (.inl z.s) (.ref c)))) := Kp.refl.wr (by simp)
    have T5 : EN HO.lst (upd H4 e (.dK (putK (kvT ek zs) (.inl z.s) (.ref c)))) e (ptT ek zs (c, (u, z, 0))) := T5
    generalize upd H4 e (.dK (putK (kvT ek zs) (.inl z.s) (.ref c))) = H5 at T5 k5
    have E5 := E4.kp mkT k5 w4 (by simp [N2.ne])
    have hb5 := k5.g1 (ne_of hb4 hd4 (by intro z; cases z)) hb4
    have S5 := S4.k1 k5 (S4.nedK hd4)
    have B5 : BoxB H5 p := B4.k1 k5 (fun e' => by
      obtain ⟨_, _, _, h⟩ := B4
      rw [e', hd4] at h
      cases h)
    have hu6 := k5.g1 (ne_of hu5 hd4 (by intro z; cases z)) hu5

    have oks : ∀ {ws : ES} {x : Addr}, okE st.ring (st.bits * st.pat) ws → okE st.ring (st.bits * st.pat) (ptT ek ws (x, (u, z, 0))) := fun {ws x} h q hq => by
      rcases ptT_mem hq with rfl | m
      · exact ⟨oz, Int.le_refl _, cyp⟩
      · exact h q m
    have S9 : SN K H5 nw s d e st (lkE (ptT ek xs (a, (u, z, 0)))) := ⟨⟨dx, hb5⟩, S5, ⟨_, E5, keysE_put nd _, oks ok, rfl⟩, ⟨_, T5, keysE_put nz _, oks okz, by
      funext k
      rw [lkE_put, lkE_put, e3, e1]⟩, N2.ne⟩

    wtm_at "rd"
    exact ⟨⟨_, _, rfl⟩, ⟨_, S9⟩, B5, (((k0.trans k9.of0).trans (k2.mono (by simp))).trans (k3.mono (by simp))).trans (k4.of0.trans (k5.mono (by simp)))⟩
  rintro σ G0 ⟨⟨v8, v9, rfl⟩, ⟨N', S0⟩, B0, k0⟩
  wtm_at "rd"
  exact kk N' G0 S0 B0 k0
theorem c_l_filled (T : Cx K mg) (B : Tb P w K mg base) : CalX P w K mg base CX0 5 "_law_filled" (sp_l_filled K) [] := by
  obtain ⟨fd, F, ok⟩ := f_l_filled (P := P) (w := w) (base := base) T B
  exact ⟨_, fd, p_l_filled, [], ok, gl_l_filled T, F.kp, FunD.bindsN F fun _ _ _ _ _ _ us hl => match us, hl with | [_, _, _, _, _], _ => rfl, .nil⟩
end
section
variable {P : Program} {w : World} {K : PySem.W.Frag} {mg : Str → Option Value} {base : Heap}
def sp_l_probes (K : PySem.W.Frag) : Sp := fun vs H Q E => ∃ (p m : Addr) (n : Int) (ms : List Int), vs = [.ref p, .ref m, .int n] ∧ (BoxB H p) ∧ (H m = some (.lst (ms.map V.int))) ∧ (ms.length ≤ 1000) ∧ (m ≠ p) ∧ (0 < n ∧ n ≤ 256) ∧ (∀ r (ks : List Int) H1, H1 r = some (.lst (ks.map V.int)) → BoxB H1 p → Kp [p] H H1 → H r = none → r ≠ p → Q (.ref r) H1)
theorem us_l_probes {K : PySem.W.Frag} {H : Hp} {Q : VK} {E : XK} {p m : Addr} {n : Int} {ms : List Int} (hB : BoxB H p) (hm : H m = some (.lst (ms.map V.int))) (hml : ms.length ≤ 1000) (np : m ≠ p) (hn : 0 < n ∧ n ≤ 256) (kk : ∀ r (ks : List Int) H1, H1 r = some (.lst (ks.map V.int)) → BoxB H1 p → Kp [p] H H1 → H r = none → r ≠ p → Q (.ref r) H1) : sp_l_probes K [.ref p, .ref m, .int n] H Q E := ⟨_, _, _, _, rfl, hB, hm, hml, np, hn, kk⟩
theorem f_l_probes (T : Cx K mg) (B : Tb P w K mg base) : ∃ fd, FunD K "_law_probes" "_law_probes" (defArgs s_l_probes) (defBody s_l_probes) (defScope s_l_probes) (d_l_probes.dvs K) (d_l_probes.kws K) (fAd K d_l_probes.at_) fd ∧ FnOk P w K mg base CX0 2 (fAd K d_l_probes.at_) fd p_l_probes (sp_l_probes K) := by
  have c_l_take := c_l_take (P := P) (w := w) (base := base) T B
  obtain ⟨fd, F⟩ := T.says.def_ 38 (d := d_l_probes) rfl
  refine ⟨fd, F, fnD F sc_l_probes (fun vs H Q E h => by
    obtain ⟨_, _, _, _, rfl, _⟩ := h
    rfl) fun cdv A outer s H vs Q E hr h => ?_⟩
  have hu := hu_of hr
  obtain ⟨p, m, n, ms, rfl, hB, hm, hml, np, hn, kk⟩ := h
  refine ⟨_, (pss_cons (ps_if (pt_cmpR op_le (pv 2) pe_int (nomark _)) (pss_one (ps_ret (pe_lc (own := [("_law_k", 3)]) (g := (gName 3)) (tt := tYes) rfl sc_l_probes.nd (pi_range1 (by rfl) (fr_range T) (pa_cons (pv 2) pa_nil)) (blkOk_by (own := [("_law_k", 3)]) (N := n_l_probes) (sc := defScope s_l_probes) (by decide +kernel)) (fun _ _ _ _ _ => (pg_name (i := 3) sc_l_probes.nd rfl (by first | exact Or.inl rfl | exact Or.inr rfl))) (fun _ _ _ _ _ => pts_nil) (fun _ _ _ _ _ => (pv 3))))) pss_nil) (pss_one (ps_ret (pe_op op_cat (pe_op op_cat (pv 1) (pe_lst (pa_cons pe_int (pa_cons (pe_op op_sub (pv 2) pe_int) pa_nil)))) (pe_lc (own := [("_law_k", 3)]) (g := (gName 3)) (tt := tYes) rfl sc_l_probes.nd (pi_range1 (by rfl) (fr_range T) (pa_cons pe_int pa_nil)) (blkOk_by (own := [("_law_k", 3)]) (N := n_l_probes) (sc := defScope s_l_probes) (by decide +kernel)) (fun _ _ _ _ _ => (pg_name (i := 3) sc_l_probes.nd rfl (by first | exact Or.inl rfl | exact Or.inr rfl))) (fun _ _ _ _ _ => pts_nil) (fun _ _ _ _ _ => (pe_cal c_l_take hr (by decide) (by rfl) pass0 (pa_cons (pv 0) (pa_cons (pv 2) pa_nil))))))))), ?_⟩
  rw [show L2.start n_l_probes [.ref p, .ref m, .int n] = [some (.ref p), some (.ref m), some (.int n), none] from rfl]
  try dsimp only [cxOf, Cx.nox, Cx.wish, List.map]

  wtm_at "rd"
  refine ite_d (fun h => ?_) (fun h => ?_)
  · obtain ⟨hn0, hn1⟩ := hn
    wtm_at "rd"
    intro D nD
    refine lcR_by (fun i H' => (∃ ks : List Int, H' D = some (.lst (ks.map V.int)) ∧ ks.length = i) ∧ Kp [] H H') ⟨⟨[], upd_same, rfl⟩, Kp.new nD⟩ (fun i H' hi q => ?_) (fun H' q => ?_)
    · obtain ⟨⟨ks, q1, q2⟩, k3⟩ := q
      wtm_at "rd"
      refine ⟨rfl, ?_⟩
      wtm_at "rd"
      exact ⟨_, q1, szlt (by rw [List.length_map]; omega), ⟨ks ++ [0 + (i : Int)], by rw [upd_same, List.map_append]; rfl, by rw [List.length_append, q2]; rfl⟩, k3.mine nD⟩
    · obtain ⟨⟨ks, q1, q2⟩, k3⟩ := q
      exact kk D ks H' q1 (hB.k0 k3) k3.of0 nD (fun e => hB.ne nD e.symm)
  · obtain ⟨hn0, hn1⟩ := hn
    wtm_at "rd"
    refine ⟨sz1000 (by simp), fun u nu => ?_⟩
    have k1 : Kp [] H (upd H u (.lst [.int 0, .int (n - 1)])) := Kp.new nu
    have g1 : upd H u (.lst [.int 0, .int (n - 1)]) u = some (.lst [.int 0, .int (n - 1)]) := upd_same
    have hm1 := k1.g0 hm
    have B1 := hB.k0 k1
    generalize upd H u (.lst [.int 0, .int (n - 1)]) = H1 at k1 g1 hm1 B1
    refine rd_cat hm1 g1 (sz1000 (by rw [List.length_map]; simp; omega)) fun v nv => ?_
    have k2 : Kp [] H1 (upd H1 v (.lst (ms.map V.int ++ [.int 0, .int (n - 1)]))) := Kp.new nv
    have g2 : upd H1 v (.lst (ms.map V.int ++ [.int 0, .int (n - 1)])) v = some (.lst ((ms ++ [0, n - 1]).map V.int)) := by rw [upd_same, List.map_append]; rfl
    have B2 := B1.k0 k2
    have nvp : v ≠ p := fun e => B1.ne nv e.symm
    generalize upd H1 v (.lst (ms.map V.int ++ [.int 0, .int (n - 1)])) = H2 at k2 g2 B2
    wtm_at "rd"
    intro D nD
    have nDp : D ≠ p := fun e => B2.ne nD e.symm
    have nvD : v ≠ D := ne_of_none g2 nD
    refine lcR_by (fun i H' => (∃ ks : List Int, H' D = some (.lst (ks.map V.int)) ∧ ks.length = i) ∧ BoxB H' p ∧ Kp [p] H2 H') ⟨⟨[], upd_same, rfl⟩, B2.new nD, Kp.new nD⟩ (fun i H' hi q => ?_) (fun H' q => ?_)
    · obtain ⟨⟨ks, q1, q2⟩, B3, k3⟩ := q
      have hi4 : i < 4 := hi
      wtm_at "rd"
      refine ⟨rfl, ?_⟩
      wtm_at "rd"
      refine us_l_take B3 hn0 (by
        have : (256 : Int) ≤ 10 ^ 60 := by decide +kernel
        omega) fun z H4 z0 z1 B4 k4 => ?_
      exact ⟨_, k4.g1 nDp q1, szlt (by rw [List.length_map]; omega), ⟨ks ++ [z], by rw [upd_same, List.map_append]; rfl, by rw [List.length_append, q2]; rfl⟩, B4.ofL (Ne.symm nDp), (k3.trans k4).mine nD⟩
    · obtain ⟨⟨ks, q1, q2⟩, B3, k3⟩ := q
      have q2 : ks.length = 4 := q2
      have g3 := k3.g1 nvp g2
      refine rd_cat g3 q1 (sz1000 (by rw [List.length_map, List.length_map, List.length_append]; simp; omega)) fun c nc => ?_
      rw [← List.map_append]
      have k03 : Kp [p] H H' := (k1.trans k2).of0.trans k3
      exact kk c _ _ upd_same (B3.new nc) (k03.nw nc) (k03.fr B3 nc) (fun e => B3.ne nc e.symm)
theorem c_l_probes (T : Cx K mg) (B : Tb P w K mg base) : CalX P w K mg base CX0 2 "_law_probes" (sp_l_probes K) [] := by
  obtain ⟨fd, F, ok⟩ := f_l_probes (P := P) (w := w) (base := base) T B
  exact ⟨_, fd, p_l_probes, [], ok, gl_l_probes T, F.kp, FunD.bindsN F fun _ _ _ _ _ _ us hl => match us, hl with | [_, _, _], _ => rfl, .nil⟩
end
section
variable {P : Program} {w : World} {K : PySem.W.Frag} {mg : Str → Option Value} {base : Heap}
def sp_l_deed (K : PySem.W.Frag) : Sp := fun vs H Q E => ∃ (p nw s d e m w : Addr) (st : Stg) (N : NN) (ms : List Int), vs = [.ref p, .ref nw, .ref e, .ref w, .ref m] ∧ (BoxB H p) ∧ (SN K H nw s d e st N) ∧ (H m = some (.lst (ms.map V.int))) ∧ (ms ≠ [] ∧ ms.length ≤ 1000 ∧ ∀ z, z ∈ ms → 0 ≤ z ∧ z < st.ring) ∧ (m ≠ p) ∧ (H w = some (.lst (([st.bits, st.pat, st.room] : List Int).map V.int))) ∧ (w ≠ p) ∧ (∀ N2 H1, SN K H1 nw s d e st N2 → BoxB H1 p → Kp [p, d, e] H H1 → Q (.bl true) H1)
theorem us_l_deed {K : PySem.W.Frag} {H : Hp} {Q : VK} {E : XK} {p nw s d e m w : Addr} {st : Stg} {N : NN} {ms : List Int} (hB : BoxB H p) (hN : SN K H nw s d e st N) (hm : H m = some (.lst (ms.map V.int))) (hms : ms ≠ [] ∧ ms.length ≤ 1000 ∧ ∀ z, z ∈ ms → 0 ≤ z ∧ z < st.ring) (np : m ≠ p) (hw : H w = some (.lst (([st.bits, st.pat, st.room] : List Int).map V.int))) (nwp : w ≠ p) (kk : ∀ N2 H1, SN K H1 nw s d e st N2 → BoxB H1 p → Kp [p, d, e] H H1 → Q (.bl true) H1) : sp_l_deed K [.ref p, .ref nw, .ref e, .ref w, .ref m] H Q E := ⟨_, _, _, _, _, _, _, _, _, _, rfl, hB, hN, hm, hms, np, hw, nwp, kk⟩
theorem f_l_deed (T : Cx K mg) (B : Tb P w K mg base) : ∃ fd, FunD K "_law_deed" "_law_deed" (defArgs s_l_deed) (defBody s_l_deed) (defScope s_l_deed) (d_l_deed.dvs K) (d_l_deed.kws K) (fAd K d_l_deed.at_) fd ∧ FnOk P w K mg base CX0 7 (fAd K d_l_deed.at_) fd p_l_deed (sp_l_deed K) := by
  have c_l_take := c_l_take (P := P) (w := w) (base := base) T B
  have c_l_note := c_l_note (P := P) (w := w) (base := base) T B
  have c_l_picks := c_l_picks (P := P) (w := w) (base := base) T B
  have c_l_to_end := c_l_to_end (P := P) (w := w) (base := base) T B
  have c_l_tell := c_l_tell (P := P) (w := w) (base := base) T B
  have c_l_list := c_l_list (P := P) (w := w) (base := base) T B
  obtain ⟨fd, F⟩ := T.says.def_ 39 (d := d_l_deed) rfl
  refine ⟨fd, F, fnD F sc_l_deed (fun vs H Q E h => by
    obtain ⟨_, _, _, _, _, _, _, _, _, _, rfl, _⟩ := h
    rfl) fun cdv A outer s H vs Q E hr h => ?_⟩
  have hu := hu_of hr
  obtain ⟨p, nw, s, d, e, m, w, st, N, ms, rfl, hB, hN, hm, hms, np, hw, nwp, kk⟩ := h
  refine ⟨_, (pss_cons (ps_set (i := 5) sc_l_deed.nd rfl (by first | exact Or.inl rfl | exact Or.inr rfl) (pe_op op_shl pe_int (pe_ix ix_list (pv 3) pe_int (fun _ _ => rfl)))) (pss_cons (ps_set (i := 6) sc_l_deed.nd rfl (by first | exact Or.inl rfl | exact Or.inr rfl) (pe_op op_mul (pe_ix ix_list (pv 3) pe_int (fun _ _ => rfl)) (pe_ix ix_list (pv 3) pe_int (fun _ _ => rfl)))) (pss_cons (ps_set (i := 7) sc_l_deed.nd rfl (by first | exact Or.inl rfl | exact Or.inr rfl) (pe_cal c_l_take hr (by decide) (by rfl) pass0 (pa_cons (pv 0) (pa_cons pe_int pa_nil)))) (pss_cons (ps_if (pt_cmpR op_lt (pv 7) pe_int (nomark _)) (pss_one (ps_ret (pe_cal c_l_note hr (by decide) (by rfl) pass0 (pa_cons (pv 0) (pa_cons (pv 1) (pa_cons (pv 2) (pa_cons (pv 4) (pa_cons (pv 5) pa_nil)))))))) pss_nil) (pss_cons (ps_if (pt_cmpR op_lt (pv 7) pe_int (nomark _)) (pss_one (ps_ret (pe_cal c_l_picks hr (by decide) (by rfl) pass0 (pa_cons (pv 0) (pa_cons (pv 1) (pa_cons (pv 2) (pa_cons (pv 6) (pa_cons (pe_ix ix_list (pv 3) pe_int (fun _ _ => rfl)) pa_nil)))))))) pss_nil) (pss_cons (ps_if (pt_cmpR op_eq (pv 7) pe_int (nomark _)) (pss_one (ps_ret (pe_cal c_l_to_end hr (by decide) (by rfl) pass0 (pa_cons (pv 0) (pa_cons (pv 1) (pa_cons (pv 2) (pa_cons (pv 6) pa_nil))))))) pss_nil) (pss_cons (ps_if (pt_cmpR op_eq (pv 7) pe_int (nomark _)) (pss_one (ps_ret (pe_cal c_l_tell hr (by decide) (by rfl) pass0 (pa_cons (pv 1) (pa_cons (pv 2) (pa_cons (pv 6) (pa_cons (pe_cal c_l_list hr (by decide) (by rfl) pass0 (pa_cons (pv 0) (pa_cons (pv 2) (pa_cons (pv 4) (pa_cons (pv 5) pa_nil))))) pa_nil))))))) pss_nil) (pss_cons (ps_setLc (i := 8) (own := [("_law_seat_here", 9)]) (g := (gName 9)) (tt := tYes) rfl sc_l_deed.nd rfl rfl (sw_true rfl rfl rfl (by decide +kernel)) (pi_list (pe_callB (call_sortedDL rfl) (by rfl) (fr_sorted T) (by decide +kernel) (pa_cons (pv 2) pa_nil))) (blkOk_by (own := [("_law_seat_here", 9)]) (N := n_l_deed) (sc := defScope s_l_deed) (by decide +kernel)) (fun _ _ _ _ _ => (pg_name (i := 9) sc_l_deed.nd rfl (by first | exact Or.inl rfl | exact Or.inr rfl))) (fun _ _ _ _ _ => pts_nil) (fun _ _ _ _ _ => (pe_ix (ix_listK (K := K) rfl) (pe_dget hu (pv 2) (pv 9) (fun _ _ => rfl)) pe_int (fun _ _ => rfl)))) (pss_one (ps_ret (pe_cal c_l_tell hr (by decide) (by rfl) pass0 (pa_cons (pv 1) (pa_cons (pv 2) (pa_cons (pv 6) (pa_cons (pe_slice sl_list (pv 8) po_none (po_some (pe_op op_mul (pe_callB call_lenS (by rfl) (fr_len T) (by decide +kernel) (pa_cons (pv 8) pa_nil)) (pe_cal c_l_take hr (by decide) (by rfl) pass0 (pa_cons (pv 0) (pa_cons pe_int pa_nil)))))) pa_nil))))))))))))))), ?_⟩
  rw [show L2.start n_l_deed [.ref p, .ref nw, .ref e, .ref w, .ref m] = [some (.ref p), some (.ref nw), some (.ref e), some (.ref w), some (.ref m), none, none, none, none, none] from rfl]
  try dsimp only [cxOf, Cx.nox, Cx.wish, List.map]

  have hR := hN.se.ok.r256
  have r2 := hN.se.ok.r2
  have b0 := hN.se.ok.b0
  have b1 := hN.se.ok.b1
  have p0 := hN.se.ok.p0
  have p1 := hN.se.ok.p1
  wtm_at "rd"
  rw [Int.one_mul, ← Stg.ring_eq]
  wtm_at "rd"
  refine us_l_take hB (by decide) (by decide) fun wy H2 w0 w1 B2 kw => ?_
  have N2 := hN.kBx hB kw
  have hm2 := kw.g1 np hm
  have hw2 := kw.g1 nwp hw
  have fin : ∀ {N3 : NN} {H3 : Hp}, SN K H3 nw s d e st N3 → BoxB H3 p → Kp [p, d, e] H2 H3 → Q (.bl true) H3 := fun {N3 H3} a b c => kk N3 H3 a b ((kw.mono (by simp)).trans c)
  wtm_at "rd"
  refine ite_d (fun _ => ?_) (fun _ => ?_)
  · wtm_at "rd"
    exact us_l_note B2 N2 hm2 hms np fun N3 H3 a b c => fin a b c
  wtm_at "rd"
  refine ite_d (fun _ => ?_) (fun _ => ?_)
  · wtm_at "rd"
    exact us_l_picks B2 N2 fun N3 H3 a b c => fin a b c
  wtm_at "rd"
  refine ite_d (fun _ => ?_) (fun _ => ?_)
  · wtm_at "rd"
    exact us_l_to_end B2 N2 fun N3 H3 a b c => fin a b c
  obtain ⟨ys, T2, nt, okt, e2⟩ := N2.tab.ex
  have ly := lenK nt okt hR
  have hd := T2.at_
  wtm_at "rd"
  refine ite_d (fun _ => ?_) (fun _ => ?_)
  · wtm_at "rd"
    refine us_l_list B2 T2 nt okt hm2 hms np ⟨by omega, hR⟩ fun r ps H3 R3 o3 l3 B3 k3 nr => ?_
    have N3 := N2.kBx B2 k3
    wtm_at "rd"
    refine us_l_tell N3 R3 (fun q hq => Sy.T.of (o3 q hq)) (by omega) fun H4 S4 k4 => ?_
    exact fin S4 (N3.box B3 R3 k4) (via3 (k3.mono (by simp)) k4 nr)
  wtm_at "rd"

  refine rd_sortedDL hd (kvT_ks ek ys) fun os r o1 o2 nr => ?_
  have k1' : Kp [] H2 (upd H2 r (.lst (os.map V.int))) := Kp.new nr
  have gl : upd H2 r (.lst (os.map V.int)) r = some (.lst (os.map V.int)) := upd_same
  have T3 := T2.k0 k1'
  have N3 := N2.k0 k1'
  have B3 := B2.k0 k1'
  generalize upd H2 r (.lst (os.map V.int)) = H3 at k1' gl T3 N3 B3
  have ol : os.length = ys.length := by rw [o1.length_eq, List.length_map, List.length_map]
  wtm_at "rd"
  intro D nD
  refine lcL_ints (K := K) os (fun i H' => (∃ ps : List (Addr × Sy), SyL H' D ps ∧ ps.length ≤ i ∧ ∀ q, q ∈ ps → q.2.T) ∧ Kp [] H3 H') ⟨⟨[], ⟨upd_same, fun q hq => by cases hq⟩, Nat.le_refl _, fun q hq => by cases hq⟩, Kp.new nD⟩ (fun i H' _ q => SqL.of (q.2.g0 gl)) (fun i hi H4 q => ?_) (fun H4 q => ?_)
  · obtain ⟨⟨ps, C, pl, pt⟩, k4⟩ := q
    obtain ⟨x, hx⟩ := fdT_key (o1.mem_iff.mp (List.getElem_mem hi))
    have T4 := T3.k0 k4
    have hd4 := T4.at_
    obtain ⟨x1, x2⟩ := T4.find hx
    have hD := C.at_
    wtm_at "rd"
    refine ⟨rfl, ?_⟩
    wtm_at "rd"
    refine rd_dgetX (dg_iv hd4 (by rw [kvT_val, hx]; rfl)) ?_
    wtm_at "rd"
    refine ⟨_, hD, szlt (by rw [List.length_map]; omega), ⟨ps ++ [(x.2.1, x.2.2.1)], C.snocB x2, by rw [List.length_append]; exact Nat.succ_le_succ pl, fun q hq => ?_⟩, k4.mine nD⟩
    rcases List.mem_append.mp hq with m | m
    · exact pt q m
    · rw [List.mem_singleton.mp m]
      exact Sy.T.of (okt x (fdT_some hx).1).1
  obtain ⟨⟨ps, C, pl, pt⟩, k4⟩ := q
  have N4 := N3.k0 k4
  have B4 := B3.k0 k4
  have nD2 : H2 D = none := k1'.back nD (by simp)
  have nDp : D ≠ p := fun e => B3.ne nD e.symm
  have gD := C.at_
  wtm_at "rd"
  rw [List.length_map]
  refine us_l_take B4 (by decide) (by decide) fun z H5 z0 z1 B5 k5 => ?_
  have C5 := C.kBx B4 k5
  have N5 := N4.kBx B4 k5
  have gD5 := C5.at_
  obtain ⟨j, hj⟩ : ∃ j : Nat, (ps.length : Int) * z = (j : Int) := by
    have : z = 0 ∨ z = 1 := by omega
    rcases this with rfl | rfl
    · exact ⟨0, by simp⟩
    · exact ⟨ps.length, by omega⟩
  wtm_at "rd"
  rw [hj]
  intro c nc
  rw [cut_to, ← List.map_take]
  have k6 : Kp [] H5 (upd H5 c (.lst ((ps.take j).map fun p => V.ref p.1))) := Kp.new nc
  have L6 : SyL (upd H5 c (.lst ((ps.take j).map fun p => V.ref p.1))) c (ps.take j) := ⟨upd_same, fun q hq => k6.g0 (C5.ob q (List.mem_of_mem_take hq))⟩
  have N6 := N5.k0 k6
  have B6 := B5.k0 k6
  have k02 : Kp [p, d, e] H H5 := ((kw.mono (by simp)).trans ((k1'.trans k4).of0)).trans (k5.mono (by simp))
  have nc0 : H c = none := N5.fr3 B5 k02 nc
  generalize upd H5 c (.lst ((ps.take j).map fun p => V.ref p.1)) = H6 at k6 L6 N6 B6
  wtm_at "rd"
  refine us_l_tell N6 L6 (fun q hq => pt q (List.mem_of_mem_take hq)) (by rw [List.length_take]; omega) fun H7 S7 k7 => ?_
  exact kk _ H7 S7 (N6.box B6 L6 k7) (via3 (k02.trans k6.of0) k7 nc0)
theorem c_l_deed (T : Cx K mg) (B : Tb P w K mg base) : CalX P w K mg base CX0 7 "_law_deed" (sp_l_deed K) [] := by
  obtain ⟨fd, F, ok⟩ := f_l_deed (P := P) (w := w) (base := base) T B
  exact ⟨_, fd, p_l_deed, [], ok, gl_l_deed T, F.kp, FunD.bindsN F fun _ _ _ _ _ _ us hl => match us, hl with | [_, _, _, _, _], _ => rfl, .nil⟩
end
section
variable {P : Program} {w : World} {K : PySem.W.Frag} {mg : Str → Option Value} {base : Heap}

theorem SyL.refs {H : Hp} {l : Addr} {ps : List (Addr × Sy)} (B : SyL H l ps) : H l = some (.lst ((ps.map (·.1)).map V.ref)) := by
  rw [B.at_, List.map_map]
  rfl
theorem atI_last {l : List Addr} {x : Addr} {i : Nat} (h : l.length = i) : atI ((l ++ [x]).map V.ref) (0 + (i : Int)) = some (.ref x) := by
  rw [Int.zero_add]
  refine atI_nat ?_
  rw [List.map_append, List.getElem?_append_right (by rw [List.length_map]; omega), List.length_map, h]
  simp

def sp_law (K : PySem.W.Frag) : Sp := fun vs H Q E => ∃ (s : Addr) (ns : List Int), vs = [.ref s] ∧ (SqL K H s (ns.map V.int)) ∧ (ns.length ≤ 63) ∧ (LamX.Tabs (TT K) H) ∧ (∀ H1, Q (.bl true) H1)
theorem us_law {K : PySem.W.Frag} {H : Hp} {Q : VK} {E : XK} {s : Addr} {ns : List Int} (hS : SqL K H s (ns.map V.int)) (hl : ns.length ≤ 63) (hT : LamX.Tabs (TT K) H) (kk : ∀ H1, Q (.bl true) H1) : sp_law K [.ref s] H Q E := ⟨_, _, rfl, hS, hl, hT, kk⟩
theorem f_law (T : Cx K mg) (B : Tb P w K mg base) : ∃ fd, FunD K "law" "law" (defArgs s_law) (defBody s_law) (defScope s_law) (d_law.dvs K) (d_law.kws K) (fAd K d_law.at_) fd ∧ FnOk P w K mg base CX0 12 (fAd K d_law.at_) fd p_law (sp_law K) := by
  have c_l_box := c_l_box (P := P) (w := w) (base := base) T B
  have c_l_take := c_l_take (P := P) (w := w) (base := base) T B
  have c_l_setting := c_l_setting (P := P) (w := w) (base := base) T B
  have c_l_menu := c_l_menu (P := P) (w := w) (base := base) T B
  have c_l_probes := c_l_probes (P := P) (w := w) (base := base) T B
  have c_Setting_init := c_Setting_init (P := P) (w := w) (base := base) T B
  have c_News_init := c_News_init (P := P) (w := w) (base := base) T B
  have c_l_look := c_l_look (P := P) (w := w) (base := base) T B
  have c_l_filled := c_l_filled (P := P) (w := w) (base := base) T B
  have c_l_pick := c_l_pick (P := P) (w := w) (base := base) T B
  have c_l_counts := c_l_counts (P := P) (w := w) (base := base) T B
  have c_News_pick := c_News_pick (P := P) (w := w) (base := base) T B
  have c_News_rows := c_News_rows (P := P) (w := w) (base := base) T B
  have c_l_deed := c_l_deed (P := P) (w := w) (base := base) T B
  have c_l_same_rows := c_l_same_rows (P := P) (w := w) (base := base) T B
  have c_l_same_counts := c_l_same_counts (P := P) (w := w) (base := base) T B
  have c_l_drained := c_l_drained (P := P) (w := w) (base := base) T B
  obtain ⟨fd, F⟩ := T.says.def_ 40 (d := d_law) rfl
  refine ⟨fd, F, fnD F sc_law (fun vs H Q E h => by
    obtain ⟨_, _, rfl, _⟩ := h
    rfl) fun cdv A outer s H vs Q E hr h => ?_⟩
  have hu := hu_of hr
  obtain ⟨s, ns, rfl, hS, hl, hT, kk⟩ := h
  refine ⟨_, (pss_cons (ps_set (i := 1) sc_law.nd rfl (by first | exact Or.inl rfl | exact Or.inr rfl) (pe_cal c_l_box hr (by decide) (by rfl) pass0 (pa_cons (pv 0) (pa_cons pe_int pa_nil)))) (pss_cons (ps_set (i := 2) sc_law.nd rfl (by first | exact Or.inl rfl | exact Or.inr rfl) (pe_cmpR op_eq (pe_cal c_l_take hr (by decide) (by rfl) pass0 (pa_cons (pv 1) (pa_cons pe_int pa_nil))) pe_int (nomark _))) (pss_cons (ps_set (i := 3) sc_law.nd rfl (by first | exact Or.inl rfl | exact Or.inr rfl) (pe_lst pa_nil)) (pss_cons (ps_set (i := 4) sc_law.nd rfl (by first | exact Or.inl rfl | exact Or.inr rfl) (pe_lst pa_nil)) (pss_cons (ps_set (i := 5) sc_law.nd rfl (by first | exact Or.inl rfl | exact Or.inr rfl) (pe_lst (pa_cons pe_dnewK (pa_cons pe_dnewK pa_nil)))) (pss_cons (ps_set (i := 6) sc_law.nd rfl (by first | exact Or.inl rfl | exact Or.inr rfl) (pe_lst pa_nil)) (pss_cons (ps_set (i := 7) sc_law.nd rfl (by first | exact Or.inl rfl | exact Or.inr rfl) (pe_lst pa_nil)) (pss_cons (ps_for PassesOwn.never rfl (pi_range1 (by rfl) (fr_range T) (pa_cons pe_int pa_nil)) (pg_name (i := 8) sc_law.nd rfl (by first | exact Or.inl rfl | exact Or.inr rfl)) (pss_cons (ps_set (i := 9) sc_law.nd rfl (by first | exact Or.inl rfl | exact Or.inr rfl) (pe_cal c_l_setting hr (by decide) (by rfl) pass0 (pa_cons (pv 1) (pa_cons (pv 2) pa_nil)))) (pss_cons (ps_set (i := 10) sc_law.nd rfl (by first | exact Or.inl rfl | exact Or.inr rfl) (pe_op op_shl pe_int (pe_ix ix_list (pv 9) pe_int (fun _ _ => rfl)))) (pss_cons (ps_expr (pe_bm PySem.F.plainAttrs_list PySem.F.slot_list_append PySem.F.type_list_append mt_append (pv 3) (pa_cons (pv 9) pa_nil))) (pss_cons (ps_expr (pe_bm PySem.F.plainAttrs_list PySem.F.slot_list_append PySem.F.type_list_append mt_append (pv 6) (pa_cons (pe_cal c_l_menu hr (by decide) (by rfl) pass0 (pa_cons (pv 1) (pa_cons (pv 10) pa_nil))) pa_nil))) (pss_cons (ps_expr (pe_bm PySem.F.plainAttrs_list PySem.F.slot_list_append PySem.F.type_list_append mt_append (pv 7) (pa_cons (pe_cal c_l_probes hr (by decide) (by rfl) pass0 (pa_cons (pv 1) (pa_cons (pe_ix ix_list (pv 6) (pv 8) (fun _ _ => rfl)) (pa_cons (pv 10) pa_nil)))) pa_nil))) (pss_cons (ps_expr (pe_bm PySem.F.plainAttrs_list PySem.F.slot_list_append PySem.F.type_list_append mt_append (pv 4) (pa_cons (pe_mak c_News_init hr (by decide) (by rfl) pass0 (pa_cons (pe_mak c_Setting_init hr (by decide) (by rfl) pass0 (pa_cons (pe_ix ix_list (pv 9) pe_int (fun _ _ => rfl)) (pa_cons (pe_ix ix_list (pv 9) pe_int (fun _ _ => rfl)) (pa_cons (pe_ix ix_list (pv 9) pe_int (fun _ _ => rfl)) pa_nil)))) pa_nil)) pa_nil))) (pss_cons (ps_if (pt_not (pt_val (pe_cal c_l_look hr (by decide) (by rfl) pass0 (pa_cons (pe_ix ix_list (pv 4) (pv 8) (fun _ _ => rfl)) (pa_cons (pe_ix ix_list (pv 5) (pv 8) (fun _ _ => rfl)) (pa_cons (pe_ix ix_list (pv 9) pe_int (fun _ _ => rfl)) (pa_cons (pe_ix ix_list (pv 7) (pv 8) (fun _ _ => rfl)) pa_nil))))))) (pss_one (ps_ret pe_bl)) pss_nil) (pss_one (ps_if (pt_not (pt_val (pe_cal c_l_filled hr (by decide) (by rfl) pass0 (pa_cons (pv 1) (pa_cons (pe_ix ix_list (pv 4) (pv 8) (fun _ _ => rfl)) (pa_cons (pe_ix ix_list (pv 5) (pv 8) (fun _ _ => rfl)) (pa_cons (pv 10) (pa_cons (pv 2) pa_nil)))))))) (pss_one (ps_ret pe_bl)) pss_nil)))))))))) (pss_cons (ps_for PassesOwn.never rfl (pi_range2 (by rfl) (fr_range T) (pa_cons pe_int (pa_cons (pe_callB (call_min2' rfl) (by rfl) (fr_min T) (by decide +kernel) (pa_cons pe_int (pa_cons (pe_callB (call_max2' rfl) (by rfl) (fr_max T) (by decide +kernel) (pa_cons (pe_callB call_lenS (by rfl) (fr_len T) (by decide +kernel) (pa_cons (pv 0) pa_nil)) (pa_cons pe_int pa_nil))) pa_nil))) pa_nil))) (pg_name (i := 8) sc_law.nd rfl (by first | exact Or.inl rfl | exact Or.inr rfl)) (pss_cons (ps_set (i := 1) sc_law.nd rfl (by first | exact Or.inl rfl | exact Or.inr rfl) (pe_cal c_l_box hr (by decide) (by rfl) pass0 (pa_cons (pv 0) (pa_cons (pv 8) pa_nil)))) (pss_cons (ps_set (i := 11) sc_law.nd rfl (by first | exact Or.inl rfl | exact Or.inr rfl) (pe_cal c_l_take hr (by decide) (by rfl) pass0 (pa_cons (pv 1) (pa_cons pe_int pa_nil)))) (pss_cons (ps_set (i := 12) sc_law.nd rfl (by first | exact Or.inl rfl | exact Or.inr rfl) (pe_lst (pa_cons (pe_cal c_l_pick hr (by decide) (by rfl) pass0 (pa_cons (pe_ix ix_list (pv 5) (pv 11) (fun _ _ => rfl)) (pa_cons (pe_ix ix_list (pe_ix ix_list (pv 3) (pv 11) (fun _ _ => rfl)) pe_int (fun _ _ => rfl)) pa_nil))) (pa_cons (pe_cal c_l_counts hr (by decide) (by rfl) pass0 (pa_cons (pe_ix ix_list (pv 5) (pv 11) (fun _ _ => rfl)) pa_nil)) pa_nil)))) (pss_cons (ps_set (i := 13) sc_law.nd rfl (by first | exact Or.inl rfl | exact Or.inr rfl) (pv 12)) (C8.pss_cut (ps_if (pt_cmpR op_lt (pe_cal c_l_take hr (by decide) (by rfl) pass0 (pa_cons (pv 1) (pa_cons (pe_op op_add pe_int (pe_op op_fdiv (pe_callB call_lenD' (by rfl) (fr_len T) (by decide +kernel) (pa_cons (pe_ix ix_list (pv 5) (pv 11) (fun _ _ => rfl)) pa_nil)) pe_int)) pa_nil))) pe_int (nomark _)) (pss_one (ps_set (i := 13) sc_law.nd rfl (by first | exact Or.inl rfl | exact Or.inr rfl) (pe_lst (pa_cons (pe_met0 c_News_pick hr (by decide) pass0 (pe_ix ix_list (pv 4) (pv 11) (fun _ _ => rfl))) (pa_cons (pe_met0 c_News_rows hr (by decide) pass0 (pe_ix ix_list (pv 4) (pv 11) (fun _ _ => rfl))) pa_nil))))) pss_nil) (pss_cons (ps_for PassesOwn.never rfl (pi_range1 (by rfl) (fr_range T) (pa_cons (pe_op op_add pe_int (pe_cal c_l_take hr (by decide) (by rfl) pass0 (pa_cons (pv 1) (pa_cons pe_int pa_nil)))) pa_nil)) (pg_name (i := 14) sc_law.nd rfl (by first | exact Or.inl rfl | exact Or.inr rfl)) (pss_one (ps_if (pt_not (pt_val (pe_cal c_l_deed hr (by decide) (by rfl) pass0 (pa_cons (pv 1) (pa_cons (pe_ix ix_list (pv 4) (pv 11) (fun _ _ => rfl)) (pa_cons (pe_ix ix_list (pv 5) (pv 11) (fun _ _ => rfl)) (pa_cons (pe_ix ix_list (pv 3) (pv 11) (fun _ _ => rfl)) (pa_cons (pe_ix ix_list (pv 6) (pv 11) (fun _ _ => rfl)) pa_nil)))))))) (pss_one (ps_ret pe_bl)) pss_nil))) (pss_cons (ps_if (PW.pt (pw_or (pt_not (pt_val (pe_cal c_l_same_rows hr (by decide) (by rfl) pass0 (pa_cons (pe_ix ix_list (pv 13) pe_int (fun _ _ => rfl)) (pa_cons (pe_ix ix_list (pv 12) pe_int (fun _ _ => rfl)) pa_nil))))) (pw_or1 (pt_not (pt_val (pe_cal c_l_same_counts hr (by decide) (by rfl) pass0 (pa_cons (pe_ix ix_list (pv 13) pe_int (fun _ _ => rfl)) (pa_cons (pe_ix ix_list (pv 12) pe_int (fun _ _ => rfl)) pa_nil)))))))) (pss_one (ps_ret pe_bl)) pss_nil) (pss_cons (ps_set (i := 11) sc_law.nd rfl (by first | exact Or.inl rfl | exact Or.inr rfl) (pe_cal c_l_take hr (by decide) (by rfl) pass0 (pa_cons (pv 1) (pa_cons pe_int pa_nil)))) (pss_one (ps_if (pt_cmpR op_lt (pe_cal c_l_take hr (by decide) (by rfl) pass0 (pa_cons (pv 1) (pa_cons (pe_op op_add pe_int (pe_op op_fdiv (pe_callB call_lenD' (by rfl) (fr_len T) (by decide +kernel) (pa_cons (pe_ix ix_list (pv 5) (pv 11) (fun _ _ => rfl)) pa_nil)) pe_int)) pa_nil))) pe_int (nomark _)) (pss_one (ps_if (pt_not (pt_val (pe_cal c_l_look hr (by decide) (by rfl) pass0 (pa_cons (pe_ix ix_list (pv 4) (pv 11) (fun _ _ => rfl)) (pa_cons (pe_ix ix_list (pv 5) (pv 11) (fun _ _ => rfl)) (pa_cons (pe_ix ix_list (pe_ix ix_list (pv 3) (pv 11) (fun _ _ => rfl)) pe_int (fun _ _ => rfl)) (pa_cons (pe_ix ix_list (pv 7) (pv 11) (fun _ _ => rfl)) pa_nil))))))) (pss_one (ps_ret pe_bl)) pss_nil)) pss_nil))))))))))) (pss_cons (ps_for PassesOwn.never rfl (pi_range1 (by rfl) (fr_range T) (pa_cons pe_int pa_nil)) (pg_name (i := 8) sc_law.nd rfl (by first | exact Or.inl rfl | exact Or.inr rfl)) (pss_cons (ps_set (i := 9) sc_law.nd rfl (by first | exact Or.inl rfl | exact Or.inr rfl) (pe_ix ix_list (pv 3) (pv 8) (fun _ _ => rfl))) (pss_cons (ps_if (pt_not (pt_val (pe_cal c_l_look hr (by decide) (by rfl) pass0 (pa_cons (pe_ix ix_list (pv 4) (pv 8) (fun _ _ => rfl)) (pa_cons (pe_ix ix_list (pv 5) (pv 8) (fun _ _ => rfl)) (pa_cons (pe_ix ix_list (pv 9) pe_int (fun _ _ => rfl)) (pa_cons (pe_ix ix_list (pv 7) (pv 8) (fun _ _ => rfl)) pa_nil))))))) (pss_one (ps_ret pe_bl)) pss_nil) (pss_one (ps_if (pt_not (pt_val (pe_cal c_l_drained hr (by decide) (by rfl) pass0 (pa_cons (pe_ix ix_list (pv 4) (pv 8) (fun _ _ => rfl)) (pa_cons (pe_ix ix_list (pv 5) (pv 8) (fun _ _ => rfl)) (pa_cons (pe_op op_mul (pe_ix ix_list (pv 9) pe_int (fun _ _ => rfl)) (pe_ix ix_list (pv 9) pe_int (fun _ _ => rfl))) (pa_cons (pe_ix ix_list (pv 9) pe_int (fun _ _ => rfl)) pa_nil))))))) (pss_one (ps_ret pe_bl)) pss_nil))))) (pss_one (ps_ret pe_bl)))))))))))), ?_⟩
  rw [show L2.start n_law [.ref s] = [some (.ref s), none, none, none, none, none, none, none, none, none, none, none, none, none, none] from rfl]
  try dsimp only [cxOf, Cx.nox, Cx.wish, List.map]

  wtm_at "rd"
  refine us_l_box hS hl (Int.le_refl 0) fun p H1 B1 k1 np => ?_
  wtm_at "rd"
  refine us_l_take B1 (by decide) (by decide) fun lz H2 lz0 lz1 B2 k2 => ?_
  wtm_at "rd"
  generalize decide (lz = 0) = large
  have k02 : Kp [] H H2 := k1.via1 k2 np
  refine ⟨sz1000 (by simp), fun a1 n1 => ?_⟩
  have c1 : Kp [] H2 (upd H2 a1 (.lst [])) := Kp.new n1
  have g1 : upd H2 a1 (.lst []) a1 = some (.lst []) := upd_same
  generalize upd H2 a1 (.lst []) = G1 at c1 g1
  wtm_at "rd"
  refine ⟨sz1000 (by simp), fun a2 n2 => ?_⟩
  have c2 : Kp [] G1 (upd G1 a2 (.lst [])) := Kp.new n2
  have g2 : upd G1 a2 (.lst []) a2 = some (.lst []) := upd_same
  generalize upd G1 a2 (.lst []) = G2 at c2 g2
  wtm_at "rd"
  intro e0 ne0
  have c3 : Kp [] G2 (upd G2 e0 (.dK [])) := Kp.new ne0
  have g3 : upd G2 e0 (.dK []) e0 = some (.dK []) := upd_same
  generalize upd G2 e0 (.dK []) = G3 at c3 g3
  wtm_at "rd"
  intro e1 ne1
  have c4 : Kp [] G3 (upd G3 e1 (.dK [])) := Kp.new ne1
  have g4 : upd G3 e1 (.dK []) e1 = some (.dK []) := upd_same
  generalize upd G3 e1 (.dK []) = G4 at c4 g4
  wtm_at "rd"
  refine ⟨sz1000 (by simp), fun a3 n3 => ?_⟩
  have c5 : Kp [] G4 (upd G4 a3 (.lst [.ref e0, .ref e1])) := Kp.new n3
  have g5 : upd G4 a3 (.lst [.ref e0, .ref e1]) a3 = some (.lst [.ref e0, .ref e1]) := upd_same
  generalize upd G4 a3 (.lst [.ref e0, .ref e1]) = G5 at c5 g5
  wtm_at "rd"
  refine ⟨sz1000 (by simp), fun a4 n4 => ?_⟩
  have c6 : Kp [] G5 (upd G5 a4 (.lst [])) := Kp.new n4
  have g6 : upd G5 a4 (.lst []) a4 = some (.lst []) := upd_same
  generalize upd G5 a4 (.lst []) = G6 at c6 g6
  wtm_at "rd"
  refine ⟨sz1000 (by simp), fun a5 n5 => ?_⟩
  have c7 : Kp [] G6 (upd G6 a5 (.lst [])) := Kp.new n5
  have g7 : upd G6 a5 (.lst []) a5 = some (.lst []) := upd_same
  generalize upd G6 a5 (.lst []) = G7 at c7 g7
  have d24 := (c3.trans c4)
  have g14 := (c2.trans d24).g0 g1
  have g24 := d24.g0 g2
  have g15 := c5.g0 g14
  have g25 := c5.g0 g24
  have g16 := c6.g0 g15
  have g26 := c6.g0 g25
  have g36 := c6.g0 g5
  have g34 := c4.g0 g3
  have c57 := (c5.trans c6).trans c7
  have c07 : Kp [] H G7 := k02.trans (((c1.trans c2).trans d24).trans c57)
  have f0 : ∀ {x : Addr}, H2 x = none → H x = none := fun h => k02.back h (by simp)
  have z1 : H a1 = none := f0 n1
  have z2 : H a2 = none := f0 (c1.back n2 (by simp))
  have ze0 : H e0 = none := f0 ((c1.trans c2).back ne0 (by simp))
  have ze1 : H e1 = none := f0 (((c1.trans c2).trans c3).back ne1 (by simp))
  have z3 : H a3 = none := f0 (((c1.trans c2).trans d24).back n3 (by simp))
  have z4 : H a4 = none := f0 ((((c1.trans c2).trans d24).trans c5).back n4 (by simp))
  have z5 : H a5 = none := f0 (((((c1.trans c2).trans d24).trans c5).trans c6).back n5 (by simp))
  have q12 := ne_of_none g1 n2
  have q13 := ne_of_none g14 n3
  have q23 := ne_of_none g24 n3
  have q14 := ne_of_none g15 n4
  have q24 := ne_of_none g25 n4
  have q34 := ne_of_none g5 n4
  have q15 := ne_of_none g16 n5
  have q25 := ne_of_none g26 n5
  have q35 := ne_of_none g36 n5
  have q45 := ne_of_none g6 n5
  have T0 : IN K H G7 p a1 a2 a3 a4 a5 e0 e1 [] [] [] [] [] := ⟨c07, B2.k0 (((c1.trans c2).trans d24).trans c57), c7.g0 g16, c7.g0 g26, c7.g0 g6, g7, c7.g0 g36, by simp [*], ne_of_none g3 ne1, fun x hx => by
    simp only [List.mem_cons, List.not_mem_nil, or_false] at hx
    rcases hx with rfl | rfl | rfl | rfl | rfl | rfl | rfl | rfl <;> assumption, (fun z hz => by cases hz), (fun z hz => by cases hz), fun z hz => by cases hz⟩
  have ge0 := c57.g0 g34
  have ge1 := c57.g0 g4
  obtain ⟨ev, hev⟩ : ∃ ev : Nat → Addr, ev = fun j => if j = 0 then e0 else e1 := ⟨_, rfl⟩
  have ev0 : ev 0 = e0 := by rw [hev]; rfl
  have ev1 : ev 1 = e1 := by rw [hev]; rfl
  clear c1 c2 c3 c4 c5 c6 c7 g1 g2 g3 g4 g5 g6 g7 d24 g14 g24 g15 g25 g16 g26 g36 g34 c57 f0 n1 n2 n3 n4 n5 ne0 ne1 q12 q13 q23 q14 q24 q34 q15 q25 q35 q45 k1 k2 k02 B1 B2
  wtm_at "rd"
  refine forR_by (fun i σ H' => (∃ v8 v9 v10, σ = [some (.ref s), some (.ref p), some (.bl large), some (.ref a1), some (.ref a2), some (.ref a3), some (.ref a4), some (.ref a5), v8, v9, v10, none, none, none, none]) ∧ ∃ zs : List Sx, zs.length = i ∧ IN K H H' p a1 a2 a3 a4 a5 e0 e1 (zs.map (·.w)) (zs.map (·.nw)) (zs.map (·.m)) (zs.map (·.pr)) zs ∧ zs.map (·.e) = (List.range i).map ev ∧ (∀ j, j < 2 → ∃ kv, H' (ev j) = some (.dK kv) ∧ (i ≤ j → kv = [])) ∧ (zs.map (·.d)).Nodup) ⟨⟨_, _, _, rfl⟩, [], rfl, T0, rfl, fun j hj => ⟨[], by
    have : j = 0 ∨ j = 1 := by omega
    rcases this with rfl | rfl
    · rw [ev0]; exact ge0
    · rw [ev1]; exact ge1, fun _ => rfl⟩, List.nodup_nil⟩ ?_ ?_
  · rintro i σ H5 hi ⟨⟨v8, v9, v10, rfl⟩, zs, zl, S5, ze, hE5, zd⟩
    have hi2 : i < 2 := hi
    wtm_at "rd"
    refine us_l_setting S5.bx fun w b pt rm H6 hw hb hpt hrm B6 k6 nw0 nwp => ?_
    have fw := S5.away nw0
    obtain ⟨b0, b1⟩ := id hb
    have S6 := S5.kBx B6 k6
    have kE : ∀ {G G' : Hp}, Kp [p] G G' → BoxB G p → (∀ j, j < 2 → ∃ kv, G (ev j) = some (.dK kv) ∧ (i ≤ j → kv = [])) → ∀ j, j < 2 → ∃ kv, G' (ev j) = some (.dK kv) ∧ (i ≤ j → kv = []) := fun {G G'} k X h j hj => by
      obtain ⟨kv, h1, h2⟩ := h j hj
      exact ⟨kv, k.g1 (X.nd h1) h1, h2⟩
    have kL : ∀ {G : Hp} {a : Addr} {xs : List V} {o : HO}, G a = some (.lst xs) → (∀ j, j < 2 → ∃ kv, G (ev j) = some (.dK kv) ∧ (i ≤ j → kv = [])) → ∀ j, j < 2 → ∃ kv, upd G a o (ev j) = some (.dK kv) ∧ (i ≤ j → kv = []) := fun {G a xs o} e h j hj => by
      obtain ⟨kv, h1, h2⟩ := h j hj
      exact ⟨kv, hu_ne (ne_of h1 e (by intro z; cases z)) h1, h2⟩
    have kN : ∀ {G G' : Hp}, Kp [] G G' → (∀ j, j < 2 → ∃ kv, G (ev j) = some (.dK kv) ∧ (i ≤ j → kv = [])) → ∀ j, j < 2 → ∃ kv, G' (ev j) = some (.dK kv) ∧ (i ≤ j → kv = []) := fun {G G'} k h j hj => by
      obtain ⟨kv, h1, h2⟩ := h j hj
      exact ⟨kv, k.g0 h1, h2⟩
    have hE6 := kE k6 S5.bx hE5
    have hl1 := S6.l1
    have len1 : ((zs.map (·.w)).map V.ref).length < sizeLine := szlt (by rw [List.length_map, List.length_map]; omega)
    wtm_at "rd"
    rw [Int.one_mul]
    obtain ⟨R, hRe⟩ : ∃ R : Int, (2 : Int) ^ b.toNat = R := ⟨_, rfl⟩
    have hR : 0 < R ∧ R ≤ 256 := by
      have : ∀ b : Fin 9, (0 : Int) < 2 ^ b.val ∧ (2 : Int) ^ b.val ≤ 256 := by decide +kernel
      have := this ⟨b.toNat, by omega⟩
      simp only at this
      omega
    rw [hRe]
    wtm_at "rd"
    have S7 := S6.app1 w
    have hw7 := hu_ne (o := .lst ((zs.map (·.w)).map V.ref ++ [.ref w])) (fun e : w = a1 => fw (by rw [e]; simp)) hw
    have hE7 := kL (o := .lst ((zs.map (·.w)).map V.ref ++ [.ref w])) hl1 hE6
    generalize upd H6 a1 (.lst ((zs.map (·.w)).map V.ref ++ [.ref w])) = H7 at S7 hw7 hE7
    have hl47 := S7.l4
    wtm_at "rd"
    refine us_l_menu S7.bx hR fun m ms H8 hm m0 m1 m2 B8 k8 nm nmp => ?_
    have fm := S7.away nm
    have S8 := S7.kBx B8 k8
    have hw8 := k8.g1 nwp hw7
    have hE8 := kE k8 S7.bx hE7
    have hl4 := S8.l4
    have len4 : ((zs.map (·.m)).map V.ref).length < sizeLine := szlt (by rw [List.length_map, List.length_map]; omega)
    wtm_at "rd"
    have S9 := S8.app4 m
    have hw9 := hu_ne (o := .lst ((zs.map (·.m)).map V.ref ++ [.ref m])) (fun e : w = a4 => fw (by rw [e]; simp)) hw8
    have hm9 := hu_ne (o := .lst ((zs.map (·.m)).map V.ref ++ [.ref m])) (fun e : m = a4 => fm (by rw [e]; simp)) hm
    have hE9 := kL (o := .lst ((zs.map (·.m)).map V.ref ++ [.ref m])) hl4 hE8
    generalize upd H8 a4 (.lst ((zs.map (·.m)).map V.ref ++ [.ref m])) = H9 at S9 hw9 hm9 hE9
    have hl49 := S9.l4
    have hl59 := S9.l5
    have at4 := atI_last (l := zs.map (·.m)) (x := m) (i := i) (by rw [List.length_map]; exact zl)
    wtm_at "rd"
    refine us_l_probes S9.bx hm9 (by omega) nmp hR fun pr ks HA hpr BA kA npr nprp => ?_
    have fpr := S9.away npr
    have SA := S9.kBx BA kA
    have hwA := kA.g1 nwp hw9
    have hmA := kA.g1 nmp hm9
    have hEA := kE kA S9.bx hE9
    have hl5 := SA.l5
    have len5 : ((zs.map (·.pr)).map V.ref).length < sizeLine := szlt (by rw [List.length_map, List.length_map]; omega)
    wtm_at "rd"
    have SB := SA.app5 pr
    have hwB := hu_ne (o := .lst ((zs.map (·.pr)).map V.ref ++ [.ref pr])) (fun e : w = a5 => fw (by rw [e]; simp)) hwA
    have hmB := hu_ne (o := .lst ((zs.map (·.pr)).map V.ref ++ [.ref pr])) (fun e : m = a5 => fm (by rw [e]; simp)) hmA
    have hprB := hu_ne (o := .lst ((zs.map (·.pr)).map V.ref ++ [.ref pr])) (fun e : pr = a5 => fpr (by rw [e]; simp)) hpr
    have hEB := kL (o := .lst ((zs.map (·.pr)).map V.ref ++ [.ref pr])) hl5 hEA
    generalize upd HA a5 (.lst ((zs.map (·.pr)).map V.ref ++ [.ref pr])) = HB at SB hwB hmB hprB hEB
    have hl2B := SB.l2
    wtm_at "rd"
    intro Sg dS nS ndS neS
    refine us_Setting_init (s := ⟨b, pt, rm, 6, 1⟩) upd_same ⟨b0, b1, hpt.1, hpt.2, hrm.1, hrm.2, by show (1 : Int) ≤ 6; omega, by show (6 : Int) ≤ 200; omega, by show (0 : Int) ≤ 1; omega, by show (1 : Int) ≤ 3; omega⟩ fun HC SgC kC => ⟨rfl, ?_⟩
    have kC := made_kp nS ndS neS kC
    wtm_at "rd"
    intro nw dn nnw ndn nen
    have kD0 : Kp [] HC (upd (upd HC dn (.own nw)) nw (.ins (ga K "News") dn [])) := (Kp.new ndn).nw (hn_ne (Ne.symm nen) nnw)
    refine us_News_init upd_same fun d HD hnw hd kD nd0 => ⟨rfl, ?_⟩
    have ndC : HC d = none := kD0.back nd0 (by simp)
    have kD := made_kp nnw ndn nen kD
    have kBD := kC.trans kD
    have SD := SB.k0 kBD
    have hwD := kBD.g0 hwB
    have hmD := kBD.g0 hmB
    have hprD := kBD.g0 hprB
    have hED := kN kBD hEB
    have SgD := SgC.k0 kD
    have ndB : HB d = none := kC.back ndC (by simp)
    have fd0 : H d = none := SB.fr.back ndB (by simp)
    have nde : ∀ j, j < 2 → d ≠ ev j := fun j hj e => by
      obtain ⟨kv, h1, _⟩ := hEB j hj
      exact ne_of_none h1 ndB e.symm
    have oldd : ∀ u, u ∈ zs → u.d ≠ d ∧ u.e ≠ d := fun u hu => by
      obtain ⟨kv, h1⟩ := (SB.ob u hu).dd
      obtain ⟨kv2, h2⟩ := (SB.ob u hu).ee
      exact ⟨ne_of_none h1 ndB, ne_of_none h2 ndB⟩
    have hl2 := SD.l2
    have len2 : ((zs.map (·.nw)).map V.ref).length < sizeLine := szlt (by rw [List.length_map, List.length_map]; omega)
    wtm_at "rd"
    have SE := SD.app2 nw
    have off2 : ∀ {x : Addr} {o : HO}, HD x = some o → (∀ l, o ≠ .lst l) → upd HD a2 (.lst ((zs.map (·.nw)).map V.ref ++ [.ref nw])) x = some o := fun h n => hu_ne (ne_of h hl2 (n _)) h
    have hnwE := off2 hnw (by intro _ z; cases z)
    have hdE := off2 hd (by intro _ z; cases z)
    have SgE : SetAt K (upd HD a2 (.lst ((zs.map (·.nw)).map V.ref ++ [.ref nw]))) Sg ⟨b, pt, rm, 6, 1⟩ := by
      obtain ⟨⟨dx, h⟩, ok⟩ := SgD
      exact ⟨⟨dx, off2 h (by intro _ z; cases z)⟩, ok⟩
    have hwE := hu_ne (o := .lst ((zs.map (·.nw)).map V.ref ++ [.ref nw])) (fun e : w = a2 => fw (by rw [e]; simp)) hwD
    have hmE := hu_ne (o := .lst ((zs.map (·.nw)).map V.ref ++ [.ref nw])) (fun e : m = a2 => fm (by rw [e]; simp)) hmD
    have hprE := hu_ne (o := .lst ((zs.map (·.nw)).map V.ref ++ [.ref nw])) (fun e : pr = a2 => fpr (by rw [e]; simp)) hprD
    have hEE := kL (o := .lst ((zs.map (·.nw)).map V.ref ++ [.ref nw])) hl2 hED
    generalize upd HD a2 (.lst ((zs.map (·.nw)).map V.ref ++ [.ref nw])) = HE at SE hnwE hdE SgE hwE hmE hprE hEE
    clear off2
    obtain ⟨kv, hei, kv0⟩ := hEE i hi2
    rw [kv0 (Nat.le_refl _)] at hei
    have N0 := SN.new (st := ⟨b, pt, rm, 6, 1⟩) hnwE SgE hdE hei (nde i hi2)
    have at2 := atI_last (l := zs.map (·.nw)) (x := nw) (i := i) (by rw [List.length_map]; exact zl)
    have at5 := atI_last (l := zs.map (·.pr)) (x := pr) (i := i) (by rw [List.length_map]; exact zl)
    have at3 : atI [V.ref e0, V.ref e1] (0 + (i : Int)) = some (.ref (ev i)) := by
      have : i = 0 ∨ i = 1 := by omega
      rcases this with rfl | rfl
      · rw [ev0]; rfl
      · rw [ev1]; rfl
    have hl2E := SE.l2
    have hl3E := SE.l3
    have hl5E := SE.l5
    wtm_at "rd"
    refine us_l_look (st := ⟨b, pt, rm, 6, 1⟩) N0 hprE fun HF kF => ?_
    have SF := SE.k0 kF
    have NF := N0.k0 kF
    have hl2F := SF.l2
    have hl3F := SF.l3
    have eR : (⟨b, pt, rm, 6, 1⟩ : Stg).ring = R := by rw [Stg.ring_eq]; exact hRe
    wtm_at "rd"
    rw [← eR]
    refine us_l_filled SF.bx NF fun N2 HG NG BG kG => ?_
    have hdF := kF.g0 hdE
    have heF := kF.g0 hei
    have zei : ∀ u, u ∈ zs → ∃ j, j < i ∧ u.e = ev j := fun u hu => by
      have : u.e ∈ (List.range i).map ev := ze ▸ List.mem_map_of_mem hu
      obtain ⟨j, hj, e⟩ := List.mem_map.mp this
      exact ⟨j, List.mem_range.mp hj, e.symm⟩
    have evi : H (ev i) = none := by
      have : i = 0 ∨ i = 1 := by omega
      rcases this with rfl | rfl
      · rw [ev0]; exact ze0
      · rw [ev1]; exact ze1
    have evn : ∀ u, u ∈ zs → u.d ≠ ev i := fun u hu => by
      have h := SF.fd u hu
      have : i = 0 ∨ i = 1 := by omega
      rcases this with rfl | rfl
      · rw [ev0]; exact h.2.1
      · rw [ev1]; exact h.2.2
    have eve : ∀ j, j < 2 → j ≠ i → ev j ≠ ev i := fun j hj n => by
      have : (i = 0 ∧ j = 1) ∨ (i = 1 ∧ j = 0) := by omega
      rcases this with ⟨rfl, rfl⟩ | ⟨rfl, rfl⟩
      · rw [ev0, ev1]; exact Ne.symm T0.ne
      · rw [ev0, ev1]; exact T0.ne
    have SG := SF.fill BG hdF heF kG fd0 evi fun u hu => by
      obtain ⟨j, hj, e⟩ := zei u hu
      exact ⟨(oldd u hu).1, evn u hu, (oldd u hu).2, by rw [e]; exact eve j (by omega) (by omega)⟩
    have il : ∀ {x : Addr} {ns : List Int}, HE x = some (.lst (ns.map V.int)) → x ≠ p → HG x = some (.lst (ns.map V.int)) := fun {x ns} h n => by
      have h := kF.g0 h
      exact kG.g3 n (ne_of h hdF (by intro z; cases z)) (ne_of h heF (by intro z; cases z)) h
    have ZX : SX K HG ⟨nw, Sg, d, ev i, w, m, pr, ⟨b, pt, rm, 6, 1⟩, ms, ks⟩ := ⟨⟨N2, NG⟩, il hwE nwp, il hmE nmp, ⟨m0, by show ms.length ≤ 1000; omega, fun y hy => by rw [eR]; exact m2 y hy⟩, il hprE nprp⟩
    wtm_at "rd"
    refine ⟨⟨_, _, _, rfl⟩, zs ++ [⟨nw, Sg, d, ev i, w, m, pr, ⟨b, pt, rm, 6, 1⟩, ms, ks⟩], by rw [List.length_append, zl]; rfl, ?_, by rw [List.map_append, ze, List.range_succ, List.map_append]; rfl, fun j hj => ?_, ?_⟩
    · rw [List.map_append, List.map_append, List.map_append, List.map_append]
      refine ⟨SG.fr, SG.bx, SG.l1, SG.l2, SG.l4, SG.l5, SG.l3, SG.nd, SG.ne, SG.h0, fun z hz => ?_, fun z hz => ?_, fun z hz => ?_⟩
      · rcases List.mem_append.mp hz with h | h
        · exact SG.ob z h
        · rw [List.mem_singleton.mp h]
          exact ZX
      · rcases List.mem_append.mp hz with h | h
        · exact SG.far z h
        · rw [List.mem_singleton.mp h]
          intro x hx
          simp only [List.mem_cons, List.not_mem_nil, or_false] at hx
          rcases hx with rfl | rfl | rfl
          · exact fw
          · exact fm
          · exact fpr
      · rcases List.mem_append.mp hz with h | h
        · exact SG.fd z h
        · rw [List.mem_singleton.mp h]
          exact ⟨fd0, by rw [← ev0]; exact nde 0 (by omega), by rw [← ev1]; exact nde 1 (by omega)⟩
    · by_cases c : j = i
      · subst c
        obtain ⟨kv, h⟩ := NG.tab.dd
        exact ⟨kv, h, fun z => absurd z (by omega)⟩
      · obtain ⟨kv, h1, h2⟩ := kN kF hEE j hj
        exact ⟨kv, kG.g3 (SF.bx.nd h1) (Ne.symm (nde j hj)) (eve j hj c) h1, fun z => h2 (by omega)⟩
    · rw [List.map_append]
      refine List.nodup_append.mpr ⟨zd, by simp, fun a ha b' hb' e => ?_⟩
      rw [List.mem_singleton.mp hb'] at e
      obtain ⟨u, hu, rfl⟩ := List.mem_map.mp ha
      exact (oldd u hu).1 e
  rintro σ H5 ⟨⟨v8, v9, v10, rfl⟩, zs, zl, S5, ze, hE5, zd⟩
  have zl : zs.length = 2 := zl
  have zeR : zs.map (·.e) = [e0, e1] := by
    rw [ze, ← ev0, ← ev1]
    rfl
  have ein : ∀ u, u ∈ zs → u.e = e0 ∨ u.e = e1 := fun u hu => by
    have : u.e ∈ [e0, e1] := zeR ▸ List.mem_map_of_mem hu
    simpa using this
  have end_ : (zs.map (·.e)).Nodup := by
    rw [zeR]
    simp [S5.ne]
  have W0 : SL K H H5 a1 a2 a3 a4 a5 zs := ⟨S5.fr, by rw [S5.l1, List.map_map]; rfl, by rw [S5.l2, List.map_map]; rfl, by
    rw [S5.l3]
    have := congrArg (List.map V.ref) zeR
    rw [List.map_map] at this
    exact congrArg (fun z => some (HO.lst z)) this.symm, by rw [S5.l4, List.map_map]; rfl, by rw [S5.l5, List.map_map]; rfl, S5.ob, zl, fun z hz => ⟨(S5.fd z hz).1, by
    rcases ein z hz with h | h <;> rw [h] <;> assumption⟩, fun i j a b ha hb nij => by
    obtain ⟨hi, ea⟩ := List.getElem?_eq_some_iff.mp ha
    obtain ⟨hj, eb⟩ := List.getElem?_eq_some_iff.mp hb
    have am := List.mem_of_getElem? ha
    have bm := List.mem_of_getElem? hb
    refine ⟨fun z => nij ?_, fun z => nij ?_, fun z => ?_, fun z => ?_⟩
    · refine (List.getElem_inj (h₀ := (by simpa using hi)) (h₁ := (by simpa using hj)) zd).mp ?_
      simp only [List.getElem_map, ea, eb]
      exact z
    · refine (List.getElem_inj (h₀ := (by simpa using hi)) (h₁ := (by simpa using hj)) end_).mp ?_
      simp only [List.getElem_map, ea, eb]
      exact z
    · rcases ein b bm with h | h
      · exact (S5.fd a am).2.1 (z.trans h)
      · exact (S5.fd a am).2.2 (z.trans h)
    · rcases ein a am with h | h
      · exact (S5.fd b bm).2.1 (z.symm.trans h)
      · exact (S5.fd b bm).2.2 (z.symm.trans h)⟩
  have Bp := S5.bx
  have offp : offS zs p := fun z hz y hy e => S5.far z hz y hy (by rw [e]; simp)
  clear S5 T0 hE5 ge0 ge1
  have scr : ∀ {H' : Hp}, Kp [] H H' → SqL K H' s (ns.map V.int) := fun {H'} k => sl_kp k (by simp) hS
  have h256 : (1000 : Int) ≤ 10 ^ 60 := by decide +kernel
  have hs5 := scr W0.fr
  wtm_at "rd"
  refine forR_by (fun i σ H' => (∃ q v8 v11 v12 v13 v14, σ = [some (.ref s), some (.ref q), some (.bl large), some (.ref a1), some (.ref a2), some (.ref a3), some (.ref a4), some (.ref a5), v8, v9, v10, v11, v12, v13, v14] ∧ BoxB H' q ∧ H q = none ∧ offS zs q) ∧ SL K H H' a1 a2 a3 a4 a5 zs) ⟨⟨p, _, _, _, _, _, rfl, Bp, np, offp⟩, W0⟩ ?_ ?_
  · rintro i σ H6 hi ⟨⟨q, v8', v11, v12, v13, v14, rfl, -, -, -⟩, W6⟩
    have hi62 : i < 62 := by omega
    have hs6 := scr W6.fr
    wtm_at "rd"
    refine us_l_box hs6 hl (by omega) fun o H7 O7 k7 no => ?_
    have oo := W6.off no
    have ho : H o = none := W6.fr.back no (by simp)
    have W7 := W6.k0 k7
    wtm_at "rd"
    refine us_l_take O7 (by decide) (by decide) fun a H8 a0 a2' O8 k8 => ?_
    have W8 := W7.kBx O7 ho oo k8
    obtain ⟨z, hz, zat⟩ := W8.pick a0 a2'
    have zm := List.mem_of_getElem? hz
    have hz1 := zat Sx.w
    have hz2 := zat Sx.nw
    have hz3 := zat Sx.e
    have hz4 := zat Sx.m
    have h31 := W8.l1
    have h33 := W8.l3
    have Z8 := W8.ob z zm
    obtain ⟨N8, S8⟩ := Z8.sn
    obtain ⟨ys, T8, nt, okt, e2⟩ := S8.tab.ex
    have so := S8.se.ok
    have hR := so.r256
    have r0 := so.r0
    have ly := lenK nt okt hR
    have hzw := Z8.w
    wtm_at "rd"
    refine us_l_pick T8 nt okt hR (by omega) fun r1 H9 R9 k9 nr1 => ?_
    have h33' := k9.g0 h33
    wtm_at "rd"
    refine us_l_counts (T8.k0 k9) nt (by omega) fun r2 ps HA CA ep kA nr2 => ?_
    have R9A := R9.k0 kA
    wtm_at "rd"
    refine ⟨sz1000 (by simp), fun c nc => ?_⟩
    have kB : Kp [] HA (upd HA c (.lst [.ref r1, .ref r2])) := Kp.new nc
    have gc : upd HA c (.lst [.ref r1, .ref r2]) c = some (.lst (([r1, r2] : List Addr).map V.ref)) := upd_same
    have k8B := (k9.trans kA).trans kB
    have WB := W8.k0 k8B
    have OB := O8.k0 k8B
    have RB := R9A.k0 kB
    have CB := CA.k0 kB
    have SB := S8.k0 k8B
    have TB := T8.k0 k8B
    generalize upd HA c (.lst [.ref r1, .ref r2]) = HB at kB gc k8B WB OB RB CB SB TB
    have h33B := WB.l3
    have hdB := TB.at_
    have py := pickE_len ys z.st.room
    have ry := rowsE_len ys
    have pl : ps.length ≤ 256 := by
      have := congrArg List.length ep
      rw [List.length_map, List.length_map] at this
      omega
    wtm_at "rd"
    refine rd_cut (fun σ H' => (∃ (c2 u1 u2 : Addr) (qs : List (Addr × Sy)) (ws : ES), σ = [some (.ref s), some (.ref o), some (.bl large), some (.ref a1), some (.ref a2), some (.ref a3), some (.ref a4), some (.ref a5), some (.int (1 + (i : Int))), v9, v10, some (.int a), some (.ref c), some (.ref c2), v14] ∧ H' c2 = some (.lst (([u1, u2] : List Addr).map V.ref)) ∧ SyL H' u1 qs ∧ CL H' u2 ws ∧ qs.map (·.2) = (((pickE ys z.st.room).map fun p => (p.2.1, p.2.2.1)) : List (Addr × Sy)).map (·.2) ∧ ws.map (fun p => p.2.2) = ps.map fun p => p.2.2) ∧ BoxB H' o ∧ Kp [o] HB H') ?_ ?_
    · wtm_at "rd"
      rw [kvT_len]
      refine us_l_take OB (by omega) (by omega) fun x HC x0 x1 OC kC => ?_
      have noc : c ≠ o := OB.offR gc
      have WC := WB.kBx OB ho oo kC
      have gcC := kC.g1 noc gc
      wtm_at "rd"
      refine ite_d (fun _ => ?_) (fun _ => ?_)
      · have SC := SB.kBx OB kC
        obtain ⟨dx, hbC⟩ := SC.ob
        obtain ⟨xs, EC, nd, ok, e1⟩ := SC.hot.ex
        have lx := lenK nd ok hR
        have h32 := WC.l2
        wtm_at "rd"
        refine us_News_pick ⟨dx, hbC⟩ EC SC.se nd ok hR fun u1 HD RD kD nu1 => ?_
        have h32D := kD.g0 h32
        have hbD := kD.g0 hbC
        wtm_at "rd"
        refine us_News_rows ⟨dx, hbD⟩ (EC.k0 kD) nd (by omega) fun u2 HE CE kE nu2 => ?_
        wtm_at "rd"
        refine ⟨sz1000 (by simp), fun c2 nc2 => ?_⟩
        have kF : Kp [] HE (upd HE c2 (.lst [.ref u1, .ref u2])) := Kp.new nc2
        wtm_at "rd"
        have eq : lkE xs = lkE ys := e1.trans e2.symm
        exact ⟨⟨c2, u1, u2, _, _, rfl, upd_same, (RD.k0 kE).k0 kF, CE.k0 kF, pick_same nd nt eq _, (rowsE_look nd nt eq).trans ep.symm⟩, ((OC.k0 kD).k0 kE).k0 kF, kC.trans ((kD.trans kE).trans kF).of0⟩
      · wtm_at "rd"
        exact ⟨⟨c, r1, r2, _, _, rfl, gcC, RB.kBx OB kC, CB.kp kC (wr1 OB) (by simp [OB.offR (r := ps.map (·.1)) (by rw [CB.at_, List.map_map]; rfl)]), rfl, rfl⟩, OC, kC⟩
    rintro σ HC ⟨⟨c2, u1, u2, qs, ws, rfl, gc2, RC, CC, eqs, ews⟩, OC, kC⟩
    have WC := WB.kBx OB ho oo kC
    have RkC := RB.kBx OB kC
    have CkC := CB.kp kC (wr1 OB) (by simp [OB.offR (r := ps.map (·.1)) (by rw [CB.at_, List.map_map]; rfl)])
    have gcC := kC.g1 (OB.offR gc) gc
    clear k7 k8 O7 W7 W8 h31 h33 Z8 S8 T8 hzw R9 k9 h33' CA kA R9A kB k8B WB OB RB CB SB TB h33B hdB kC gc
    wtm_at "rd"
    refine us_l_take OC (by decide) (by decide) fun tu HD tu0 tu1 OD kD => ?_
    have wC := wr1 OC
    have keepR : ∀ {G G' : Hp} {l : Addr} {us : List (Addr × Sy)}, SyL G l us → ∀ {qs : List Addr}, Kp qs G G' → Wr G qs → l ∉ qs → SyL G' l us := fun h _ k w n => h.kw k w n
    wtm_at "rd"
    refine forR_by (fun j σ H' => (∃ v14, σ = [some (.ref s), some (.ref o), some (.bl large), some (.ref a1), some (.ref a2), some (.ref a3), some (.ref a4), some (.ref a5), some (.int (1 + (i : Int))), v9, v10, some (.int a), some (.ref c), some (.ref c2), v14]) ∧ SL K H H' a1 a2 a3 a4 a5 zs ∧ BoxB H' o ∧ SyL H' r1 ((pickE ys z.st.room).map fun p => (p.2.1, p.2.2.1)) ∧ CL H' r2 ps ∧ SyL H' u1 qs ∧ CL H' u2 ws ∧ H' c = some (.lst (([r1, r2] : List Addr).map V.ref)) ∧ H' c2 = some (.lst (([u1, u2] : List Addr).map V.ref))) ⟨⟨_, rfl⟩, WC.kBx OC ho oo kD, OD, RkC.kBx OC kD, CkC.kp kD wC (by simp [OC.offR (r := ps.map (·.1)) (by rw [CkC.at_, List.map_map]; rfl)]), RC.kBx OC kD, CC.kp kD wC (by simp [OC.offR (r := ws.map (·.1)) (by rw [CC.at_, List.map_map]; rfl)]), kD.g1 (OC.offR gcC) gcC, kD.g1 (OC.offR gc2) gc2⟩ ?_ ?_
    · rintro j σ HE hj ⟨⟨v14', rfl⟩, WE, OE, x1, x2, x3, x4, x5, x6⟩
      have ZE := WE.ob z zm
      obtain ⟨NE, SE⟩ := ZE.sn
      have h1 := WE.l1
      have h2 := WE.l2
      have h3 := WE.l3
      have h4 := WE.l4
      obtain ⟨kv, hd⟩ := ZE.dd
      obtain ⟨kv2, he⟩ := ZE.ee
      wtm_at "rd"
      refine us_l_deed OE SE ZE.m ZE.mok (oo z zm _ (by simp)) ZE.w (oo z zm _ (by simp)) fun N2 HF NF OF kF => ?_
      have wF : Wr HE [o, z.d, z.e] := fun q hq => by
        simp only [List.mem_cons, List.not_mem_nil, or_false] at hq
        rcases hq with rfl | rfl | rfl
        · exact .inr (.inl OE)
        · exact .inl ⟨_, hd⟩
        · exact .inl ⟨_, he⟩
      wtm_at "rd"
      exact ⟨⟨_, rfl⟩, WE.put hz OE ho oo kF NF, OF, x1.kw kF wF (noqL OE hd he x1.refs), x2.kp kF wF (noqL (r := ps.map (·.1)) OE hd he (by rw [x2.at_, List.map_map]; rfl)), x3.kw kF wF (noqL (r := qs.map (·.1)) OE hd he (by rw [x3.at_, List.map_map]; rfl)), x4.kp kF wF (noqL (r := ws.map (·.1)) OE hd he (by rw [x4.at_, List.map_map]; rfl)), kF _ _ x5 (noqL OE hd he x5), kF _ _ x6 (noqL OE hd he x6)⟩
    rintro σ HE ⟨⟨v14', rfl⟩, WE, OE, x1, x2, x3, x4, x5, x6⟩
    wtm_at "rd"
    refine us_l_same_rows x3 x1 eqs (fun y hy => ?_) (by rw [List.length_map]; omega) ?_
    · obtain ⟨q', hq', rfl⟩ := List.mem_map.mp hy
      exact pick_T okt q' hq'
    wtm_at "rd"
    refine us_l_same_counts x4 x2 ews (fun u hu => ?_) (by omega) ?_
    · rw [ep] at hu
      obtain ⟨q', hq', rfl⟩ := List.mem_map.mp hu
      exact Sy.T.of (okt q' (rowsE_mem hq')).1
    wtm_at "rd"
    refine us_l_take OE (by decide) (by decide) fun a' HF a0' a1' OF kF => ?_
    have WF := WE.kBx OE ho oo kF
    obtain ⟨z', hz', zat'⟩ := WF.pick a0' a1'
    have zm' := List.mem_of_getElem? hz'
    have y1 := zat' Sx.w
    have y2 := zat' Sx.nw
    have y3 := zat' Sx.e
    have y5 := zat' Sx.pr
    have h3F := WF.l3
    obtain ⟨N', S'⟩ := (WF.ob z' zm').sn
    obtain ⟨ys', T', nt', okt', e2'⟩ := S'.tab.ex
    have ly' := lenK nt' okt' S'.se.ok.r256
    have hd' := T'.at_
    wtm_at "rd"
    rw [kvT_len]
    refine us_l_take OF (by omega) (by omega) fun x HG x0 x1 OG kG => ?_
    have WG := WF.kBx OF ho oo kG
    have ZG := WG.ob z' zm'
    obtain ⟨NG, SG'⟩ := ZG.sn
    wtm_at "rd"
    refine ite_d (fun _ => ?_) (fun _ => ?_)
    rotate_left
    · wtm_at "rd"
      exact ⟨⟨o, _, _, _, _, _, rfl, OG, ho, oo⟩, WG⟩
    have h1 := WG.l1
    have h2 := WG.l2
    have h3 := WG.l3
    have h5 := WG.l5
    have hwG := ZG.w
    wtm_at "rd"
    refine us_l_look SG' ZG.pr fun HH kH => ?_
    wtm_at "rd"
    exact ⟨⟨o, _, _, _, _, _, rfl, OG.k0 kH, ho, oo⟩, WG.k0 kH⟩
  rintro σ H6 ⟨⟨q, v8', v11, v12, v13, v14, rfl, Bq, hq0, oq⟩, W6⟩
  wtm_at "rd"
  refine forR_by (fun i σ H' => (∃ v8 v9, σ = [some (.ref s), some (.ref q), some (.bl large), some (.ref a1), some (.ref a2), some (.ref a3), some (.ref a4), some (.ref a5), v8, v9, v10, v11, v12, v13, v14]) ∧ BoxB H' q ∧ SL K H H' a1 a2 a3 a4 a5 zs) ⟨⟨_, _, rfl⟩, Bq, W6⟩ ?_ ?_
  · rintro i σ H7 hi ⟨⟨v8, v9, rfl⟩, B7, W7⟩
    have hi2 : i < 2 := hi
    obtain ⟨z, hz, zat⟩ := W7.pick (i := 0 + (i : Int)) (by omega) (by omega)
    have zm := List.mem_of_getElem? hz
    have y1 := zat Sx.w
    have y2 := zat Sx.nw
    have y3 := zat Sx.e
    have y5 := zat Sx.pr
    have h1 := W7.l1
    have h2 := W7.l2
    have h3 := W7.l3
    have h5 := W7.l5
    have Z7 := W7.ob z zm
    obtain ⟨N7, S7⟩ := Z7.sn
    have hw7 := Z7.w
    wtm_at "rd"
    refine us_l_look S7 Z7.pr fun H8 k8 => ?_
    have W8 := W7.k0 k8
    have S8 := S7.k0 k8
    have h28 := W8.l2
    have h38 := W8.l3
    have hw8 := k8.g0 hw7
    have B8 := B7.k0 k8
    have so := S8.se.ok
    have b0 := so.b0
    have b1 := so.b1
    have p0 := so.p0
    have p1 := so.p1
    wtm_at "rd"
    refine us_l_drained S8 fun N9 H9 S9 k9 => ?_
    obtain ⟨kv, hd⟩ := S8.hot.dd
    obtain ⟨kv2, he⟩ := S8.tab.dd
    have B9 : BoxB H9 q := B8.kp k9 (by simp [Ne.symm (B8.nd hd), Ne.symm (B8.nd he)])
    wtm_at "rd"
    exact ⟨⟨_, _, rfl⟩, B9, W8.put hz B8 hq0 oq (k9.mono (by simp)) S9⟩
  rintro σ H7 ⟨⟨v8, v9, rfl⟩, -⟩
  wtm_at "rd"
  exact kk _
end
theorem law_all {P : Program} {w : World} {K : PySem.W.Frag} {mg : Str → Option Value} (T : Cx K mg) :
    ∃ fd : FuncData, (∀ (s : Shared) (v : Value), BindsTo s fd ⟨[v], []⟩ [("_law_script", v)]) ∧ ∀ base : Heap, Tb P w K mg base → FnOk P w K mg base CX0 12 (ga K "law") fd ["_law_script"] (sp_law K) := by
  obtain ⟨fd, F⟩ := T.says.def_ 40 (d := d_law) rfl
  have b := FunD.bindsA (ps := ["_law_script"]) F fun _ _ _ _ _ _ us hl => match us, hl with | [_], _ => rfl
  refine ⟨fd, fun s v => b s [v] rfl, fun base B => ?_⟩
  obtain ⟨fd2, F2, ok⟩ := f_law (P := P) (w := w) (base := base) T B
  have e : fd2 = fd := by
    obtain ⟨oc, od, dV, kV, doc, pm, an, cdv, ct, osl, e1, l1, -⟩ := F.ex
    obtain ⟨oc2, od2, dV2, kV2, doc2, pm2, an2, cdv2, ct2, osl2, e2, l2, -⟩ := F2.ex
    rw [l1] at l2
    injection l2 with l3
    injection l3 with _ _ l4 _
    injection l4 with l5
    exact l5.symm
  subst e
  exact ok

end My

open PySem PySem.W PySem.Calls PyProof.Rows
set_option maxRecDepth 100000 in
set_option maxHeartbeats 0 in
theorem PySem.Challenge.cw_livingroll_k13_told_until_cycle_holds : PySem.Challenge.rw_livingroll_k13_told_until_cycle.Holds := by
  w_on; o_law
  refine HandSHeadRun.head_any (r := OpenLaw.row PySem.Challenge.rw_livingroll_k13_told_until_cycle) (q := view (OpenLaw.row PySem.Challenge.rw_livingroll_k13_told_until_cycle).prog [41]) (H := My.hk) (ob := My.ob) (M := 6000) (loose := My.names) (d := HandSHeadRun.topDef (OpenLaw.row PySem.Challenge.rw_livingroll_k13_told_until_cycle).prog 41) (kwd := []) My.ob_eq
    (by kernel_rfl) (fun s => by kernel_rfl) My.run (by kernel_rfl) (by kernel_rfl) (by kernel_rfl) (by rfl) (by first | assumption | decide +kernel) (by decide +kernel) ⟨rfl, rfl, rfl, rfl, rfl, by decide +kernel⟩ ?hw ?hc
  case hw => w_witness2
  case hc =>
    refine LamX.walk_ofTsE (l := PySem.Challenge.rw_livingroll_k13_told_until_cycle) (n := 63) (k := 12) (x := "_law_script") (CX := fun _ => L2.CX0) rfl (by decide) (by kernel_rfl) ⟨rfl, by decide, by decide⟩ ?F (fun _ _ _ _ _ z => z)
    intro w mg fa h Y G hmg0
    obtain ⟨K, KX, c⟩ := Y
    have hmg : mg ("law" : PySem.Str) = some (.ref fa) := by
      have e : (HandSHeadRun.topDef (OpenLaw.row PySem.Challenge.rw_livingroll_k13_told_until_cycle).prog 41).name = ("law" : PySem.Str) := by kernel_rfl
      rw [← e]
      exact hmg0
    have T : My.Cx K mg := ⟨c.x.t.d, c.x.more, h, KX, G⟩
    have e := hmg.symm.trans (My.gl_law T)
    cases e
    obtain ⟨fd, hb, hF⟩ := My.law_all (P := PySem.Challenge.pw_livingroll_k13_told_until_cycle) (w := w) T
    refine ⟨K, KX, fd, My.tf.map (He.cT K), My.sp_law K, fun p hp => ?_, fun p hp => ?_, fun p hp => ?_, hb, fun H a ns hl _ hH hS => ⟨a, ns, rfl, hS, hl, RD.tabs_nil (tf := My.tf) (K := K) rfl hH, fun _ => rfl⟩, fun base _ _ B => hF base ⟨B, fun d hd => c.get hd, fun d hd => c.err KX G hd (My.efs d hd), fun t ht => c.tabd ht⟩⟩
    · obtain ⟨q, hq, rfl⟩ := List.mem_map.mp hp
      exact c.x.empty q hq
    · obtain ⟨q, hq, rfl⟩ := List.mem_map.mp hp
      exact c.x.out q hq
    · obtain ⟨q, hq, rfl⟩ := List.mem_map.mp hp
      exact PySem.W.codeHd_of_K KX (c.x.hd q hq)
