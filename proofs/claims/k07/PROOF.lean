import PyProof.Rows.All
import Wide.All
import OpenK.AllK
import Wide.FinOn
import HandS.ForMost
import HandS.ForExc
import HandS.Defaults
import HandS.Lambda
import HandS.EndTab
import HandS.Walk
import HandS.More
import HandS.Conv
import HandS.TupAny
import HandS.Style
import HandS.NoneIn
import HandS.IsInst
import HandS.ListItems
import HandS.Small
import HandS.Nested
import HandS.HeadWalk
import HandS.AnyAll
import HandS.GenList
import PyProof.TupleOfGen
import HandS.Deep
import HandS.Flow
import HandS.StrMore
import HandS.Iter
import HandS.DictComp
import HandS.HeadHook4
import HandS.FStr
import HandS.StrSplit
import HandS.RaiseMore
import KE.KIntText
import KE.KWords
import PyProof.StrLawsTight
import HandS.Text
import KE.SortKeyHeap
import KE.SortData
import HandS.ExcValue
import HandS.SortKw
import PyProof.NeKinds
import HandS.Flt
import KE.DataEq
import KE.KStateDown
import HandS.Head0
import HandS.Head1
import HandS.Head2
import HandS.HeadEnd
import HandS.HeadHook1
import HandS.HeadHook2
import HandS.HeadHook3
import PySem.Challenge.RW_pagestack_k07_cells_that_are_painted
set_option Elab.async false
set_option linter.all false
set_option maxRecDepth 100000
set_option maxHeartbeats 0
namespace Pr
open PySem PySem.Spec PyProof.Rows L2
/-! ## 1. readings, one step each -/
section
variable {K : PySem.W.Frag} {σ : L2.St} {H : Hp} {Q : VK} {v x y : V} {ta tb tc te : TE} {r r' : R2} {i : Nat} {D : Ends} {QB : Bool → Hp → Prop} {QA : List V → Hp → Prop}
theorem g_var (h : σ[i]? = some (some v)) (q : Q v H) : tVar i σ H Q := ⟨v, h, q⟩
theorem g_c (q : Q v H) : tC v σ H Q := q
theorem g_op (q : ta σ H fun x H1 => tb σ H1 fun y H2 => r x y H2 Q) : tOp r ta tb σ H Q := q
theorem g_un {r : V → Hp → VK → Prop} (q : ta σ H fun x H1 => r x H1 Q) : tUn r ta σ H Q := q
theorem g_I0 {g : Int → Int → V} {a b : Int} (q : Q (g a b) H) : rI0 g (.int a) (.int b) H Q := ⟨a, b, rfl, rfl, q⟩
theorem g_I {C : Int → Int → Prop} {g : Int → Int → V} {a b : Int} (c : C a b) (q : Q (g a b) H) : rI C g (.int a) (.int b) H Q := ⟨a, b, rfl, rfl, c, q⟩
theorem g_U {g : Int → V} {a : Int} (q : Q (g a) H) : rU g (.int a) H Q := ⟨a, rfl, q⟩
/-- == of scalars -/
theorem g_eqI {a b : Int} (q : Q (.bl (decide (a = b))) H) : rEq (.int a) (.int b) H Q := ⟨rfl, by rw [dec_int]; rw [Bool.beq_eq_decide_eq]; exact q⟩
theorem g_neI {a b : Int} (q : Q (.bl (!decide (a = b))) H) : rNe (.int a) (.int b) H Q := ⟨rfl, by rw [dec_int]; rw [Bool.beq_eq_decide_eq]; exact q⟩
theorem g_eqS {a b : Str} (q : Q (.bl (decide (a = b))) H) : rEq (.str a) (.str b) H Q := ⟨rfl, by rw [dec_str]; rw [Bool.beq_eq_decide_eq]; exact q⟩
theorem g_neS {a b : Str} (q : Q (.bl (!decide (a = b))) H) : rNe (.str a) (.str b) H Q := ⟨rfl, by rw [dec_str]; rw [Bool.beq_eq_decide_eq]; exact q⟩
theorem g_eqB {a b : Bool} (q : Q (.bl (decide (a = b))) H) : rEq (.bl a) (.bl b) H Q := ⟨rfl, by rw [dec_bl]; rw [Bool.beq_eq_decide_eq]; exact q⟩
theorem g_neB {a b : Bool} (q : Q (.bl (!decide (a = b))) H) : rNe (.bl a) (.bl b) H Q := ⟨rfl, by rw [dec_bl]; rw [Bool.beq_eq_decide_eq]; exact q⟩
/-- fields -/
def rFld (K : PySem.W.Frag) (f : Str) (x : V) (H1 : Hp) (Q : VK) : Prop := ∃ a C dx fs v, x = .ref a ∧ H1 a = some (.ins C dx fs) ∧ Cls K C ∧ NoAttr K C f ∧ fs.lookup f = some v ∧ Q v H1
theorem g_fld {f : Str} (q : ta σ H fun x H1 => rFld K f x H1 Q) : tFld K ta f σ H Q := q
theorem g_fld1 {f : Str} {a C dx : Addr} {fs : List (Str × V)} (h : H a = some (.ins C dx fs)) (c : Cls K C) (n : NoAttr K C f) (l : fs.lookup f = some v) (q : Q v H) : rFld K f (.ref a) H Q := ⟨a, C, dx, fs, v, rfl, h, c, n, l, q⟩
def rSFld (K : PySem.W.Frag) (f : Str) (x y : V) (H2 : Hp) (N : Hp → Prop) : Prop := ∃ a C dx fs, x = .ref a ∧ H2 a = some (.ins C dx fs) ∧ Cls K C ∧ NoAttr K C f ∧ fs.length < 1000 ∧ N (upd H2 a (.ins C dx (putF f y fs)))
theorem g_sfld {f : Str} {tv : TE} (q : tv σ H fun y H1 => ta σ H1 fun x H2 => rSFld K f x y H2 (D.nx σ)) : sFld K ta tv f D σ H := q
theorem g_sfld1 {f : Str} {a C dx : Addr} {fs fs' : List (Str × V)} {N : Hp → Prop} (h : H a = some (.ins C dx fs)) (c : Cls K C) (n : NoAttr K C f) (l : fs.length < 1000) (e : putF f y fs = fs') (q : N (upd H a (.ins C dx fs'))) : rSFld K f (.ref a) y H N := by
  subst e
  exact ⟨a, C, dx, fs, rfl, h, c, n, l, q⟩
/-- o.f += e, ints -/
theorem g_sfaug {f : Str} {tv : TE} {rd : V → V → Hp → VK → Prop} (q : ta σ H fun x H1 => ∃ a C dx fs v, x = .ref a ∧ H1 a = some (.ins C dx fs) ∧ Cls K C ∧ NoAttr K C f ∧ fs.lookup f = some v ∧
    tv σ H1 fun y H2 => rd v y H2 fun z H3 => ∃ dx' fs', H3 a = some (.ins C dx' fs') ∧ fs'.length < 1000 ∧ D.nx σ (upd H3 a (.ins C dx' (putF f z fs')))) : sFldAug K ta tv rd f D σ H := q
/-- tests -/
theorem g_test (q : te σ H fun x H' => ∃ k, x = .bl k ∧ QB k H') : tTest te σ H QB := q
theorem g_tb (q : te σ H fun x H' => ∃ k, x = .bl k ∧ QB k H') : tB te σ H QB := q
theorem g_bl {b : Bool} (q : QB b H) : ∃ k, V.bl b = .bl k ∧ QB k H := ⟨b, rfl, q⟩
theorem g_and {t u : TT} (q : t σ H fun c H1 => if c = true then u σ H1 QB else QB false H1) : tAnd t u σ H QB := q
theorem g_or {t u : TT} (q : t σ H fun c H1 => if c = true then QB true H1 else u σ H1 QB) : tOr t u σ H QB := q
theorem g_not {t : TT} (q : t σ H fun c H1 => QB (!c) H1) : tNot t σ H QB := q
theorem g_tif {t : TT} (q : t σ H fun c H1 => if c = true then ta σ H1 Q else tb σ H1 Q) : tIf t ta tb σ H Q := q
theorem g_andV (q : ta σ H fun x H1 => ∃ c, x = .bl c ∧ if c = true then tb σ H1 Q else Q (.bl false) H1) : tAndV ta tb σ H Q := q
theorem g_orV (q : ta σ H fun x H1 => ∃ c, x = .bl c ∧ if c = true then Q (.bl true) H1 else tb σ H1 Q) : tOrV ta tb σ H Q := q
theorem g_notV (q : ta σ H fun x H1 => ∃ c, x = .bl c ∧ Q (.bl (!c)) H1) : tNotV ta σ H Q := q
theorem g_blx {b : Bool} {P : Bool → Prop} (q : P b) : ∃ k, V.bl b = .bl k ∧ P k := ⟨b, rfl, q⟩
theorem g_chain (q : ta σ H fun x H1 => tb σ H1 fun y H2 => r x y H2 fun z H3 => ∃ k, z = .bl k ∧ (if k = true then tc σ H3 fun w' H4 => r' y w' H4 Q else Q (.bl false) H3)) : tChain r r' ta tb tc σ H Q := q
/-- arguments, displays -/
theorem g_nil (q : QA [] H) : tNil σ H QA := q
theorem g_cons {t : TA} (q : ta σ H fun x H1 => t σ H1 fun xs H2 => QA (x :: xs) H2) : tCons ta t σ H QA := q
theorem g_tup {t : TA} (q : t σ H fun xs H1 => xs.length ≤ sizeLine ∧ ∀ p, H1 p = none → Q (.ref p) (upd H1 p (.tup xs))) : tTup t σ H Q := q
theorem g_lst {t : TA} (q : t σ H fun xs H1 => xs.length ≤ sizeLine ∧ ∀ p, H1 p = none → Q (.ref p) (upd H1 p (.lst xs))) : tLst t σ H Q := q
theorem g_cb {r : List V → Hp → VK → Prop} {t : TA} (q : t σ H fun vs H1 => r vs H1 Q) : tCB r t σ H Q := q
theorem g_call {sp : Sp} {dvs : List V} {E : XK} {t : TA} (q : t σ H fun vs H1 => sp (vs ++ dvs) H1 Q E) : tCall sp dvs E t σ H Q := q
def rMeth (C : Addr) (m : Str) (x : V) (H1 : Hp) (k : V → Prop) : Prop := ∃ a dx fs, x = .ref a ∧ H1 a = some (.ins C dx fs) ∧ fs.lookup m = none ∧ k x
theorem g_meth {C : Addr} {m : Str} {sp : Sp} {dvs : List V} {E : XK} {t : TA} (q : ta σ H fun x H1 => rMeth C m x H1 fun x => t σ H1 fun vs H2 => sp (x :: (vs ++ dvs)) H2 Q E) : tMeth C m sp dvs E ta t σ H Q := by
  unfold tMeth
  have e : (fun x H1 => ∃ a dx fs, x = V.ref a ∧ H1 a = some (.ins C dx fs) ∧ fs.lookup m = none ∧ t σ H1 fun vs H2 => sp (x :: (vs ++ dvs)) H2 Q E) = fun x H1 => rMeth C m x H1 fun x => t σ H1 fun vs H2 => sp (x :: (vs ++ dvs)) H2 Q E := rfl
  exact q
theorem g_meth1 {C a dx : Addr} {m : Str} {fs : List (Str × V)} {k : V → Prop} (h : H a = some (.ins C dx fs)) (l : fs.lookup m = none) (q : k (.ref a)) : rMeth C m (.ref a) H k := ⟨a, dx, fs, rfl, h, l, q⟩
theorem g_make {C : Addr} {sp : Sp} {dvs : List V} {E : XK} {t : TA} (q : t σ H fun vs H1 => ∀ x dx, H1 x = none → H1 dx = none → dx ≠ x →
  sp (.ref x :: (vs ++ dvs)) (upd (upd H1 dx (.own x)) x (.ins C dx [])) (fun v H2 => v = .non ∧ Q (.ref x) H2) E) : tMake C sp dvs E t σ H Q := q
/-- statements -/
theorem g_seq {t u : TS} (q : t { D with nx := u D } σ H) : tSeq t u D σ H := q
theorem g_if {c : TT} {t u : TS} (q : c σ H fun b H1 => if b = true then t D σ H1 else u D σ H1) : tIfS c t u D σ H := q
theorem g_next (q : D.nx σ H) : tNext D σ H := q
theorem g_brk (q : D.bk σ H) : tBreak D σ H := q
theorem g_cont (q : D.ct σ H) : tCont D σ H := q
theorem g_drop (q : te σ H fun _ H1 => D.nx σ H1) : tDrop te D σ H := q
theorem g_ret (q : te σ H D.rt) : tRet te D σ H := q
theorem g_retN (q : D.rt .non H) : tRetN D σ H := q
theorem g_asg {g : TG} (q : te σ H fun x H1 => g x σ H1 D.nx) : tAsg te g D σ H := q
theorem g_name {N : L2.St → Hp → Prop} (q : N (σ.set i (some v)) H) : gName i v σ H N := q
theorem g_for {wi : TI} {g : TG} {tb : TS} (q : wi σ H fun J H1 => ∃ W : Nat → Nat → L2.St → Hp → Prop, (∃ m, W 0 m σ H1) ∧ ∀ i m σ H, W i m σ H → (J.stop i H ∧ D.nx σ H) ∨ (J.go i H ∧ ∃ N : L2.St → Hp → Prop, (∀ σ' H', N σ' H' → ∃ m', m' < m ∧ W (i + 1) m' σ' H') ∧ ∀ x H', J.yld i H x H' → g x σ H' fun σ2 H2 => tb { D with nx := N, ct := N, bk := D.nx } σ2 H2)) : tFor wi g tb D σ H := q
/-- unpacking -/
theorem g_gtup {n : Nat} {t : List V → L2.St → Hp → (L2.St → Hp → Prop) → Prop} {N : L2.St → Hp → Prop} {a : Addr} {xs : List V} (h : SqT K H a xs) (l : xs.length = n) (q : t xs σ H N) : gTup K n t (.ref a) σ H N := ⟨a, xs, rfl, h, l, q⟩
theorem g_gcons {t : TG} {u : List V → L2.St → Hp → (L2.St → Hp → Prop) → Prop} {N : L2.St → Hp → Prop} {vs : List V} (q : t v σ H fun σ' H' => u vs σ' H' N) : gCons t u (v :: vs) σ H N := ⟨v, vs, rfl, q⟩
theorem g_gnil {N : L2.St → Hp → Prop} (q : N σ H) : gNil [] σ H N := ⟨rfl, q⟩
/-- subscripts -/
theorem g_ixL {p : Addr} {xs : List V} {k : Int} (h : SqL K H p xs) (a : atI xs k = some v) (q : Q v H) : rIxL K (.ref p) (.int k) H Q := ⟨p, xs, k, v, rfl, rfl, h, a, q⟩
theorem g_ixT {p : Addr} {xs : List V} {k : Int} (h : SqT K H p xs) (a : atI xs k = some v) (q : Q v H) : rIxT K (.ref p) (.int k) H Q := ⟨p, xs, k, v, rfl, rfl, h, a, q⟩
theorem g_sub {to ti : TE} {t : V → V → V → Hp → (Hp → Prop) → Prop} {N : L2.St → Hp → Prop} (q : to σ H fun o H1 => ti σ H1 fun j H2 => t o j v H2 fun H3 => N σ H3) : gSub to ti t v σ H N := q
theorem g_setL {p : Addr} {xs : List V} {k : Int} {j : Nat} {N : Hp → Prop} (h : H p = some (.lst xs)) (a : ixN xs.length k = some j) (q : N (upd H p (.lst (xs.set j v)))) : rSetL (.ref p) (.int k) v H N := ⟨p, xs, k, j, rfl, rfl, h, a, q⟩
end
/-! ## 2. tests whose answer is a proposition -/
theorem ifP {p A B : Prop} [Decidable p] (h1 : p → A) (h2 : ¬ p → B) : if decide p = true then A else B := by
  by_cases h : p
  · rw [decide_eq_true h]; exact iteT (h1 h)
  · rw [decide_eq_false h]; exact iteF (h2 h)
theorem ifN {p A B : Prop} [Decidable p] (h1 : ¬ p → A) (h2 : p → B) : if (!decide p) = true then A else B := by
  by_cases h : p
  · rw [decide_eq_true h]; exact iteF (h2 h)
  · rw [decide_eq_false h]; exact iteT (h1 h)
theorem ifPt {p A B : Prop} [Decidable p] (hp : p) (h1 : A) : if decide p = true then A else B := by
  rw [decide_eq_true hp]; exact iteT h1
theorem ifPf {p A B : Prop} [Decidable p] (hp : ¬ p) (h1 : B) : if decide p = true then A else B := by
  rw [decide_eq_false hp]; exact iteF h1
theorem ifNt {p A B : Prop} [Decidable p] (hp : ¬ p) (h1 : A) : if (!decide p) = true then A else B := by
  rw [decide_eq_false hp]; exact iteT h1
theorem ifNf {p A B : Prop} [Decidable p] (hp : p) (h1 : B) : if (!decide p) = true then A else B := by
  rw [decide_eq_true hp]; exact iteF h1
/-! ## 3. heaps -/
/-- all that H tracks but M is as it was -/
def Kp (M : List Addr) (H H' : Hp) : Prop := ∀ b o, H b = some o → b ∉ M → H' b = some o
section
variable {M M' : List Addr} {H H1 H2 : Hp} {p : Addr} {o : HO}
theorem Kp.refl : Kp M H H := fun _ _ h _ => h
theorem Kp.trans (a : Kp M H H1) (b : Kp M H1 H2) : Kp M H H2 := fun c u h n => b c u (a c u h n) n
theorem Kp.mono (a : Kp M H H1) (h : ∀ b, b ∈ M → b ∈ M' ∨ H b = none) : Kp M' H H1 := fun c u e n => a c u e fun m => by
  rcases h c m with z | z
  · exact n z
  · rw [z] at e; cases e
theorem Kp.new (a : Kp M H H1) (n : H1 p = none) : Kp M H (upd H1 p o) := fun c u e m => by
  have z := a c u e m
  rw [upd_ne (ne_of_none z n)]
  exact z
theorem Kp.mut (a : Kp M H H1) (m : p ∈ M) : Kp M H (upd H1 p o) := fun c u e n => by
  rw [upd_ne fun z => n (by rw [z]; exact m)]
  exact a c u e n
theorem Kp.own (a : Kp M H H1) (n : H p = none) : Kp M H (upd H1 p o) := fun c u e m => by
  rw [upd_ne (ne_of_none e n)]
  exact a c u e m
theorem Kp.same (h : Same H H1) : Kp M H H1 := fun c u e _ => h c u e
theorem Kp.to_same (h : Kp [] H H1) : Same H H1 := fun c u e => h c u e (by simp)
theorem Kp.free (h : Kp [] H H1) (n : H1 p = none) : H p = none := (Kp.to_same h).free n
theorem Kp.seq {K : PySem.W.Frag} {a : Addr} {xs : List V} (h : Kp M H H1) (n : a ∉ M) (q : SqL K H a xs) : SqL K H1 a xs := by
  rcases q with (q | ⟨ob, q⟩) | q
  · exact .inl (.inl (h _ _ q n))
  · exact .inl (.inr ⟨ob, h _ _ q n⟩)
  · exact .inr q
theorem Kp.sqT {K : PySem.W.Frag} {a : Addr} {xs : List V} (h : Kp M H H1) (n : a ∉ M) (q : SqT K H a xs) : SqT K H1 a xs := by
  rcases q with (q | ⟨ob, q⟩) | q
  · exact .inl (.inl (h _ _ q n))
  · exact .inl (.inr ⟨ob, h _ _ q n⟩)
  · exact .inr q
end
theorem ne_of_none' {H : Hp} {a b : Addr} {o : HO} (h' : H b = none) (h : H a = some o) : a ≠ b := ne_of_none h h'
theorem upd_free {H : Hp} {a b : Addr} {o : HO} (h : upd H a o b = none) : b ≠ a ∧ H b = none := by
  have n : b ≠ a := fun e => by rw [e, upd_same] at h; cases h
  exact ⟨n, by rw [upd_ne n] at h; exact h⟩
theorem g_notin {K : PySem.W.Frag} {H : Hp} {Q : VK} {x : V} {p : Addr} {xs : List V} (h : SqL K H p xs ∨ SqT K H p xs) (h1 : flatV x = true) (h2 : xs.all flatV = true) (q : Q (.bl (!inV x xs)) H) : rIn K true x (.ref p) H Q := ⟨p, xs, rfl, h, h1, h2, q⟩
/-! ## 4. lists by names (dicts with text keys) -/
section
variable {α : Type}
def aGet (L : List (Str × α)) (k : Str) : Option α := (L.find? fun e => decide (e.1 = k)).map (·.2)
def aDrop (L : List (Str × α)) (k : Str) : List (Str × α) := L.filter fun e => decide (e.1 ≠ k)
def aPut (L : List (Str × α)) (k : Str) (v : α) : List (Str × α) :=
  if (L.any fun e => decide (e.1 = k)) = true then L.map (fun e => if e.1 = k then (e.1, v) else e) else L ++ [(k, v)]
def enc (g : α → V) (L : List (Str × α)) : List (Key × V) := L.map fun e => (Sum.inr e.1, g e.2)
variable {g : α → V}
theorem key_inr (a b : Str) : decide ((Sum.inr a : Key) = Sum.inr b) = decide (a = b) := key_rr a b
theorem enc_len (L : List (Str × α)) : (enc g L).length = L.length := List.length_map ..
theorem enc_keys (L : List (Str × α)) : (enc g L).map (·.1) = (L.map (·.1)).map Sum.inr := by
  unfold enc
  rw [List.map_map, List.map_map]
  rfl
theorem valV_enc (k : Str) : ∀ L : List (Str × α), valV (enc g L) (Sum.inr k) = (aGet L k).map g
  | [] => rfl
  | e :: r => by
    have ih := valV_enc k r
    by_cases h : e.1 = k
    · have h1 : valV (enc g (e :: r)) (Sum.inr k) = some (g e.2) := valV_pos (p := (Sum.inr e.1, g e.2)) (by rw [h])
      rw [h1]
      simp [aGet, List.find?_cons, h]
    · have h1 : valV (enc g (e :: r)) (Sum.inr k) = valV (enc g r) (Sum.inr k) := valV_neg (p := (Sum.inr e.1, g e.2)) (fun z => h (Sum.inr.inj z))
      rw [h1, ih]
      simp [aGet, List.find?_cons, h]
theorem putK_enc (k : Str) (v : α) (L : List (Str × α)) : putK (enc g L) (Sum.inr k) (g v) = enc g (aPut L k v) := by
  have e1 : ((enc g L).any fun kv => decide (kv.1 = (Sum.inr k : Key))) = L.any fun e => decide (e.1 = k) := by
    unfold enc
    rw [List.any_map]
    congr 1
    funext e
    exact key_rr e.1 k
  unfold putK aPut
  rw [e1]
  split
  · unfold enc
    rw [List.map_map, List.map_map]
    refine List.map_congr_left fun e _ => ?_
    show (if (Sum.inr e.1 : Key) = Sum.inr k then ((Sum.inr e.1 : Key), g v) else (Sum.inr e.1, g e.2)) = _
    by_cases h : e.1 = k
    · rw [if_pos (by rw [h])]
      show _ = (Sum.inr (if e.1 = k then (e.1, v) else e).1, g (if e.1 = k then (e.1, v) else e).2)
      rw [if_pos h]
    · rw [if_neg (fun z => h (Sum.inr.inj z))]
      show _ = (Sum.inr (if e.1 = k then (e.1, v) else e).1, g (if e.1 = k then (e.1, v) else e).2)
      rw [if_neg h]
  · unfold enc
    rw [List.map_append]
    rfl
theorem dropK_enc (k : Str) (L : List (Str × α)) : dropK (enc g L) (Sum.inr k) = enc g (aDrop L k) := by
  unfold dropK aDrop enc
  rw [List.filter_map]
  congr 1
  refine List.filter_congr fun e _ => ?_
  exact decide_eq_decide.mpr ⟨fun a z => a (congrArg Sum.inr z), fun a z => a (Sum.inr.inj z)⟩
theorem aGet_mem {L : List (Str × α)} {k : Str} {v : α} (h : aGet L k = some v) : (k, v) ∈ L := by
  unfold aGet at h
  obtain ⟨e, he, rfl⟩ := Option.map_eq_some_iff.mp h
  have h1 := List.mem_of_find?_eq_some he
  have h2 : decide (e.1 = k) = true := List.find?_some (p := fun e : Str × α => decide (e.1 = k)) he
  have h3 : e.1 = k := of_decide_eq_true h2
  rw [← h3]
  exact h1
theorem aGet_none {L : List (Str × α)} {k : Str} : aGet L k = none ↔ ∀ v, (k, v) ∉ L := by
  constructor
  · intro h v m
    unfold aGet at h
    have := List.find?_eq_none.mp (Option.map_eq_none_iff.mp h) _ m
    simp at this
  · intro h
    cases e : aGet L k with
    | none => rfl
    | some v => exact absurd (aGet_mem e) (h v)
theorem aGet_of_mem {L : List (Str × α)} {k : Str} {v : α} (nd : (L.map (·.1)).Nodup) (h : (k, v) ∈ L) : aGet L k = some v := by
  induction L with
  | nil => cases h
  | cons e r ih =>
    obtain ⟨n1, n2⟩ := List.nodup_cons.mp (show (e.1 :: r.map (·.1)).Nodup from nd)
    rcases List.mem_cons.mp h with z | z
    · subst z
      simp [aGet, List.find?_cons]
    · have ne : e.1 ≠ k := fun q => n1 (by rw [q]; exact List.mem_map.mpr ⟨_, z, rfl⟩)
      have := ih n2 z
      simp only [aGet, List.find?_cons, decide_eq_false ne] at this ⊢
      exact this
theorem aDrop_mem {L : List (Str × α)} {k : Str} {e : Str × α} : e ∈ aDrop L k ↔ e ∈ L ∧ e.1 ≠ k := by
  unfold aDrop
  rw [List.mem_filter]
  simp
theorem aPut_new {L : List (Str × α)} {k : Str} (v : α) (h : aGet L k = none) : aPut L k v = L ++ [(k, v)] := by
  unfold aPut
  rw [if_neg]
  intro z
  obtain ⟨e, he, q⟩ := List.any_eq_true.mp z
  exact aGet_none.mp h e.2 (by rw [← of_decide_eq_true q]; exact he)
theorem aPut_mem {L : List (Str × α)} {k : Str} {v : α} {e : Str × α} (h : e ∈ aPut L k v) : e = (k, v) ∨ (e ∈ L ∧ e.1 ≠ k) := by
  unfold aPut at h
  split at h
  · obtain ⟨u, hu, rfl⟩ := List.mem_map.mp h
    by_cases z : u.1 = k
    · rw [if_pos z, z]; exact .inl rfl
    · rw [if_neg z]; exact .inr ⟨hu, z⟩
  · rename_i hn
    rcases List.mem_append.mp h with z | z
    · refine .inr ⟨z, fun q => hn (List.any_eq_true.mpr ⟨e, z, decide_eq_true q⟩)⟩
    · exact .inl (List.mem_singleton.mp z)
theorem aPut_keys {L : List (Str × α)} {k : Str} (v : α) : (aPut L k v).map (·.1) = if (L.any fun e => decide (e.1 = k)) = true then L.map (·.1) else L.map (·.1) ++ [k] := by
  unfold aPut
  split
  · rw [List.map_map]
    refine List.map_congr_left fun e _ => ?_
    show (if e.1 = k then (e.1, v) else e).1 = e.1
    split <;> rfl
  · rw [List.map_append]
    rfl
theorem aPut_nd {L : List (Str × α)} {k : Str} (v : α) (nd : (L.map (·.1)).Nodup) : ((aPut L k v).map (·.1)).Nodup := by
  rw [aPut_keys]
  split
  · exact nd
  · rename_i hn
    refine nd_snoc nd fun m => hn ?_
    obtain ⟨e, he, q⟩ := List.mem_map.mp m
    exact List.any_eq_true.mpr ⟨e, he, decide_eq_true q⟩
theorem aDrop_nd {L : List (Str × α)} {k : Str} (nd : (L.map (·.1)).Nodup) : ((aDrop L k).map (·.1)).Nodup := by
  unfold aDrop
  exact nd.sublist ((List.filter_sublist).map _)
theorem aPut_len {L : List (Str × α)} {k : Str} (v : α) : (aPut L k v).length ≤ L.length + 1 := by
  unfold aPut
  split
  · rw [List.length_map]; omega
  · rw [List.length_append]; exact Nat.le_refl _
theorem aDrop_len {L : List (Str × α)} {k : Str} : (aDrop L k).length ≤ L.length := List.length_filter_le ..
theorem aGet_put (L : List (Str × α)) (k j : Str) (v : α) : aGet (aPut L k v) j = if j = k then some v else aGet L j := by
  have h := valV_put (enc (fun _ => V.non) L) (Sum.inr k) (Sum.inr j) V.non
  unfold aPut aGet
  by_cases a : (L.any fun e => decide (e.1 = k)) = true
  · rw [if_pos a]
    clear h
    induction L with
    | nil => simp at a
    | cons e r ih =>
      rw [List.map_cons, List.find?_cons, List.find?_cons]
      by_cases hk : e.1 = k
      · rw [if_pos hk]
        by_cases hj : e.1 = j
        · have : j = k := hj.symm.trans hk
          subst this
          simp [hk]
        · have njk : ¬ j = k := fun z => hj (hk.trans z.symm)
          simp only [decide_eq_false hj, if_neg njk]
          have e2 : (r.map fun e => if e.1 = k then (e.1, v) else e).find? (fun e => decide (e.1 = j)) = r.find? fun e => decide (e.1 = j) := by
            clear ih a
            induction r with
            | nil => rfl
            | cons u t ih2 =>
              rw [List.map_cons, List.find?_cons, List.find?_cons, ih2]
              by_cases hu : u.1 = k
              · rw [if_pos hu]
                have nj : ¬ u.1 = j := fun z => njk (z.symm.trans hu)
                simp only [decide_eq_false nj]
              · rw [if_neg hu]
          rw [e2]
      · rw [if_neg hk]
        by_cases hj : e.1 = j
        · have njk : ¬ j = k := fun z => hk (hj.trans z)
          simp [hj, njk]
        · simp only [decide_eq_false hj]
          have a2 : (r.any fun e => decide (e.1 = k)) = true := by
            rw [List.any_cons, decide_eq_false hk, Bool.false_or] at a
            exact a
          exact ih a2
  · rw [if_neg a]
    clear h
    have hn : ∀ e ∈ L, e.1 ≠ k := fun e he q => a (List.any_eq_true.mpr ⟨e, he, decide_eq_true q⟩)
    rw [List.find?_append]
    by_cases hj : j = k
    · subst hj
      have e1 : L.find? (fun e => decide (e.1 = j)) = none := List.find?_eq_none.mpr fun e he => by simpa using hn e he
      simp [e1]
    · rw [if_neg hj]
      have e2 : ([(k, v)] : List (Str × α)).find? (fun e => decide (e.1 = j)) = none := by
        rw [List.find?_cons]
        simp only [decide_eq_false (fun z : k = j => hj z.symm)]
        rfl
      rw [e2]
      simp
theorem aGet_drop (L : List (Str × α)) (k j : Str) : aGet (aDrop L k) j = if j = k then none else aGet L j := by
  unfold aDrop aGet
  induction L with
  | nil => simp
  | cons e r ih =>
    rw [List.filter_cons]
    by_cases hk : e.1 = k
    · rw [if_neg (by simp [hk])]
      rw [ih]
      by_cases hj : j = k
      · simp [hj]
      · have : ¬ e.1 = j := fun z => hj (z.symm.trans hk)
        simp [hj, List.find?_cons, this]
    · rw [if_pos (by simp [hk]), List.find?_cons]
      by_cases hj : e.1 = j
      · have : ¬ j = k := fun z => hk (hj.trans z)
        simp [hj, this, List.find?_cons]
      · simp only [decide_eq_false hj]
        rw [ih]
        simp [List.find?_cons, hj]
end
/-! ## 5. defs that may raise, by their promises -/
section
variable (P : Program) (w : World) (K : PySem.W.Frag) (mg : Str → Option Value) (base : Heap)
/-- a def by its name -/
structure CalX (k : Nat) (x : Str) (sp : Sp) (dvs : List V) : Prop where
  ex : ∃ (f : Addr) (fd : FuncData) (ps : List Str) (ds : List Value), FnOk P w K mg base (L2.CX P w) k f fd ps sp ∧ mg x = some (.ref f) ∧ PySem.W.keepIn K (.ref f) = true ∧ Binds K fd ps ds ∧ Vals dvs ds
/-- a class by its name -/
structure MakX (k : Nat) (x : Str) (C : Addr) (sp : Sp) (dvs : List V) : Prop where
  ex : ∃ (f : Addr) (fd : FuncData) (ps : List Str) (ds : List Value), Mk K C f ∧ FnOk P w K mg base (L2.CX P w) k f fd ps sp ∧ mg x = some (.ref C) ∧ Binds K fd ps ds ∧ Vals dvs ds
/-- a method of a class -/
structure MetX (k : Nat) (C : Addr) (m : Str) (sp : Sp) (dvs : List V) : Prop where
  ex : ∃ (f : Addr) (fd : FuncData) (ps : List Str) (ds : List Value), Cls K C ∧ Meth K C m f ∧ FnOk P w K mg base (L2.CX P w) k f fd ps sp ∧ Binds K fd ps ds ∧ Vals dvs ds
end
section
variable {X : Cx} {k j : Nat} {x m : Str} {C : Addr} {sp : Sp} {dvs : List V} {E : XK} {p pos apos : Pos} {e o : Expr} {es : List Expr} {t : TA} {ta : TE}
theorem pe_cX (c : CalX X.prog X.w X.K X.mg X.base k x sp dvs) (hr : Room j X.A) (hk : k ≤ j) (hg : Gl X x) (hx : Passes (L2.CX X.prog X.w) X E) (ha : PA X (e :: es) t) (hdb : (x == ("__debug__" : Str)) = false := by decide)
    (he : starEach (e :: es) X.env = (false, eval e X.env) :: starEach es X.env := by rfl) (hpl : (backTo pos (starEach es X.env)).any (·.1) = false := by rfl) : PE X (.Call (.Name x p) (e :: es) [] pos) (tCall sp dvs E t) := by
  obtain ⟨f, fd, ps, ds, F, hm, kp, hb, hd⟩ := c.ex
  exact pe_call F (hr.mono hk) hg hm kp hb hd hx ha hdb he hpl
theorem pe_cX0 (c : CalX X.prog X.w X.K X.mg X.base k x sp dvs) (hr : Room j X.A) (hk : k ≤ j) (hg : Gl X x) (hx : Passes (L2.CX X.prog X.w) X E) (hdb : (x == ("__debug__" : Str)) = false := by decide) : PE X (.Call (.Name x p) [] [] pos) (tCall sp dvs E tNil) := by
  obtain ⟨f, fd, ps, ds, F, hm, kp, hb, hd⟩ := c.ex
  exact pe_call0 F (hr.mono hk) hg hm kp hb hd hx hdb
theorem pe_mkX (c : MakX X.prog X.w X.K X.mg X.base k x C sp dvs) (hr : Room j X.A) (hk : k + 1 ≤ j) (hg : Gl X x) (hx : Passes (L2.CX X.prog X.w) X E) (ha : PA X (e :: es) t) (hdb : (x == ("__debug__" : Str)) = false := by decide)
    (he : starEach (e :: es) X.env = (false, eval e X.env) :: starEach es X.env := by rfl) (hpl : (backTo pos (starEach es X.env)).any (·.1) = false := by rfl) : PE X (.Call (.Name x p) (e :: es) [] pos) (tMake C sp dvs E t) := by
  obtain ⟨f, fd, ps, ds, M, F, hm, hb, hd⟩ := c.ex
  exact pe_make M F (hr.mono hk) hg hm hb hd hx ha hdb he hpl
theorem pe_mkX0 (c : MakX X.prog X.w X.K X.mg X.base k x C sp dvs) (hr : Room j X.A) (hk : k + 1 ≤ j) (hg : Gl X x) (hx : Passes (L2.CX X.prog X.w) X E) (hdb : (x == ("__debug__" : Str)) = false := by decide) : PE X (.Call (.Name x p) [] [] pos) (tMake C sp dvs E tNil) := by
  obtain ⟨f, fd, ps, ds, M, F, hm, hb, hd⟩ := c.ex
  exact pe_make0 M F (hr.mono hk) hg hm hb hd hx hdb
theorem pe_mX {pl : Sem Bool} (c : MetX X.prog X.w X.K X.mg X.base k C m sp dvs) (hr : Room j X.A) (hk : k ≤ j) (hx : Passes (L2.CX X.prog X.w) X E) (he : PE X o ta) (ha : PA X (e :: es) t)
    (hst : starEach (e :: es) X.env = (false, eval e X.env) :: starEach es X.env := by rfl) (hpl : (backTo pos (starEach es X.env)).any (·.1) = false := by rfl)
    (ht : eval (.Call (.Attribute o m apos) (e :: es) [] pos) X.env = (do
      let ov ← eval o X.env
      standAt apos.atName
      let (f, first) ← holding [ov] (getMethod ov m pl)
      callWith pos f first (backTo pos (starEach (e :: es) X.env)) (backToKw pos (keywordEach [] X.env))) := by rfl) :
    PE X (.Call (.Attribute o m apos) (e :: es) [] pos) (tMeth C m sp dvs E ta t) := by
  obtain ⟨f, fd, ps, ds, c1, M, F, hb, hd⟩ := c.ex
  exact pe_meth he c1 M F (hr.mono hk) hb hd hx ha hst hpl ht
theorem pe_mX0 {pl : Sem Bool} (c : MetX X.prog X.w X.K X.mg X.base k C m sp dvs) (hr : Room j X.A) (hk : k ≤ j) (hx : Passes (L2.CX X.prog X.w) X E) (he : PE X o ta)
    (ht : eval (.Call (.Attribute o m apos) [] [] pos) X.env = (do
      let ov ← eval o X.env
      standAt apos.atName
      let (f, first) ← holding [ov] (getMethod ov m pl)
      callWith pos f first (backTo pos (starEach [] X.env)) (backToKw pos (keywordEach [] X.env))) := by rfl) :
    PE X (.Call (.Attribute o m apos) [] [] pos) (tMeth C m sp dvs E ta tNil) := by
  obtain ⟨f, fd, ps, ds, c1, M, F, hb, hd⟩ := c.ex
  exact pe_meth0 he c1 M F (hr.mono hk) hb hd hx ht
end
/-! ## 6. the context of a def that may raise -/
section
variable {P : Program} {w : World} {K : PySem.W.Frag} {mg : Str → Option Value} {base : Heap} {N : List Str} {qual : Str} {scope : Scope} {f : Addr} {cd : Value} {A : Around} {outer : List Env} {s : Shared} {H : Hp} {E : XK}
theorem tkX : Takes (cxOf (L2.CX P w) P w K mg base N qual scope f cd A outer s H E) (fun cls d _ H => E cls d H) := takes_of rfl rfl rfl rfl
theorem paX : Passes (L2.CX P w) (cxOf (L2.CX P w) P w K mg base N qual scope f cd A outer s H E) E := passes_call tkX fun _ _ _ _ z => z
theorem poX : PassesOwn (model P w) (A.deeper (envOfC qual scope s.heap.objs.size f cd)) (cxOf (L2.CX P w) P w K mg base N qual scope f cd A outer s H E).env (cxOf (L2.CX P w) P w K mg base N qual scope f cd A outer s H E).xe := passes_of rfl
end
theorem hU_of {A : Around} {k : Nat} (hr : Room k A) : A.units + 64 < cLine := by
  have := hr.un
  omega
theorem hV_of {A : Around} {k : Nat} (hr : Room k A) : A.units < cLine := by
  have := hr.un
  omega
/-! ## 7. the rules with the written part said (K), readings by names -/
section
variable {X : Cx} {K : PySem.W.Frag} {e o a b l value : Expr} {es : List Expr} {f : Str} {pos pos' tpos p : Pos} {ta tv tb te tl : TE} {tg : Expr} {t : TA}
theorem pe_fldK (hK : X.K = K) (he : PE X e ta) (hb : attributeBase e f X.env (eval e X.env) = eval e X.env) : PE X (.Attribute e f pos) (tFld K ta f) := by
  subst hK; exact pe_fld he hb
theorem ps_fldK (hK : X.K = K) (ha : PE X o ta) (hv : PE X value tv) (hs : swapsWith value (some (.Attribute o f pos')) pos.line X.env = pure false) : PS X (.Assign [.Attribute o f pos'] value pos) (sFld K ta tv f) := by
  subst hK; exact ps_fld ha hv hs
theorem ps_fldaugK {op : Operator} {rd : V → V → Hp → VK → Prop} (hK : X.K = K) (ha : PE X o ta) (hv : PE X value tv) (hop : InOp X op rd) : PS X (.AugAssign (.Attribute o f tpos) op value pos) (sFldAug K ta tv rd f) := by
  subst hK; exact ps_fldaug ha hv hop
theorem ix_listK (hK : X.K = K) : IxR X (rIxL K) := by subst hK; exact ix_list
theorem ix_tupK (hK : X.K = K) : IxR X (rIxT K) := by subst hK; exact ix_tup
theorem op_inK (hK : X.K = K) : OpR X (compareOp .In) (rIn K false) := by subst hK; exact op_in_seq
theorem op_notInK (hK : X.K = K) : OpR X (compareOp .NotIn) (rIn K true) := by subst hK; exact op_notIn_seq
theorem op_eqDK (hK : X.K = K) (hu : X.A.units + 64 < cLine) : OpR X (compareOp .Eq) (rEqD K) := by subst hK; exact op_eqD hu
theorem op_neDK (hK : X.K = K) (hu : X.A.units + 64 < cLine) : OpR X (compareOp .NotEq) (rNeD K) := by subst hK; exact op_neD hu
def rLenA (K : PySem.W.Frag) : List V → Hp → VK → Prop := fun xs H Q => ∃ x n, xs = [x] ∧ LenV K x H n ∧ Q (.int n) H
theorem call_lenK (hK : X.K = K) : CallR X (.builtin "len") (rLenA K) := by subst hK; exact call_len
def rLenD : List V → Hp → VK → Prop := fun xs H Q => ∃ a kvs, xs = [V.ref a] ∧ H a = some (.dK kvs) ∧ Q (.int kvs.length) H
theorem call_lenDN : CallR X (.builtin "len") rLenD := call_lenD
def tTruK (K : PySem.W.Frag) (ta : TE) : TT := fun σ H Q => ta σ H fun x H' => ∃ k, TruV K x H' k ∧ Q k H'
theorem pt_truthK (hK : X.K = K) (ha : PE X a ta) (he : ∀ whole, isTrue a X.env whole = (do let v ← whole; standAt a.pos; holding [v] (truthy v))) : PT X a (tTruK K ta) := by
  subst hK; exact pt_truth ha he
theorem pe_tupleOfK (hK : X.K = K) (hg : Gl X "tuple") (hm : X.mg "tuple" = none) (ha : PE X a ta) (na : starEach [a] X.env = (false, eval a X.env) :: starEach [] X.env := by rfl) : PE X (.Call (.Name "tuple" p) [a] [] pos) (tThen ta (kTup K)) := by
  subst hK; exact pe_tupleOf hg hm ha na
theorem pi_listK (hK : X.K = K) (hl : PE X l tl) : PI X tg l (iList K tl) := by subst hK; exact pi_list hl
theorem pi_tupK (hK : X.K = K) (hl : PE X l tl) : PI X tg l (iTup K tl) := by subst hK; exact pi_tup hl
theorem sl_listK (hK : X.K = K) : SlR X (rSlL K) := by subst hK; exact sl_list
theorem sl_tupAK (hK : X.K = K) : SlR X (rSlA K) := by subst hK; exact sl_tupA
theorem pg_tupK {k n : Nat} {t : TGs} (hK : X.K = K) (hc : X.calm = true) (h : PGs X es t) (hn : (assignEach es X.env).length = n := by rfl) (hst : (assignEach es X.env).findIdx? (·.1) = none := by rfl) : PG X (.Tuple es k pos) (gTup K n t) := by
  subst hK; exact pg_tup hc h hn hst
theorem pg_unlK {k n : Nat} {t : TGs} (hK : X.K = K) (hc : X.calm = true) (h : PGs X es t) (hn : (assignEach es X.env).length = n := by rfl) (hst : (assignEach es X.env).findIdx? (·.1) = none := by rfl) : PG X (.Tuple es k pos) (gUnl K n t) := by
  subst hK; exact pg_unl hc h hn hst
theorem op_catTK (hK : X.K = K) : OpR X (binaryOp .Add) (rCatT K) := by subst hK; exact op_catT
def rDictP (K : PySem.W.Frag) : List V → Hp → VK → Prop := fun xs H Q => ∃ (a : Addr) (ps : List Addr) (kvs : List (Key × V)), xs = [.ref a] ∧ SqL K H a (ps.map V.ref) ∧ Paired (fun p kv => SqT K H p [kV kv.1, kv.2]) ps kvs ∧ ∀ p, H p = none → Q (.ref p) (upd H p (.dK (mergeK [] kvs)))
theorem call_dictPK (hK : X.K = K) (hc : X.calm = true) : CallR X (.type "dict") (rDictP K) := by subst hK; exact call_dictP hc
theorem cr_sortedSK (hK : X.K = K) : CallR X (.builtin "sorted") (rSortedS K) := by subst hK; exact cr_sortedS
theorem cr_sortedK (hK : X.K = K) : CallR X (.builtin "sorted") (rSorted K) := by subst hK; exact cr_sorted
def rSortD : List V → Hp → VK → Prop := fun xs H Q => ∃ (a : Addr) (kvs : List (Key × V)) (ks : List Str), xs = [.ref a] ∧ Rd H a (.dK kvs) ∧ kvs.map (·.1) = ks.map Sum.inr ∧ ks.length < 64 ∧ ∀ ys p, ys.Perm ks → sortedS ys = true → H p = none → Q (.ref p) (upd H p (.lst (ys.map V.str)))
theorem call_sortedDN (hc : X.calm = true) : CallR X (.builtin "sorted") rSortD := call_sortedD hc
def rAbs : List V → Hp → VK → Prop := fun xs H Q => ∃ i, xs = [.int i] ∧ Q (.int (if i < 0 then -i else i)) H
theorem call_absN : CallR X (.builtin "abs") rAbs := call_abs
def rMin2 : List V → Hp → VK → Prop := fun xs H Q => ∃ i j, xs = [.int i, .int j] ∧ Q (.int (if j < i then j else i)) H
theorem call_min2N (hc : X.calm = true) : CallR X (.builtin "min") rMin2 := call_min2 hc
def rMax2 : List V → Hp → VK → Prop := fun xs H Q => ∃ i j, xs = [.int i, .int j] ∧ Q (.int (if j > i then j else i)) H
theorem call_max2N (hc : X.calm = true) : CallR X (.builtin "max") rMax2 := call_max2 hc
def rInt1 : List V → Hp → VK → Prop := fun xs H Q => (∃ i, xs = [.int i] ∧ Q (.int i) H) ∨ ∃ k, xs = [.bl k] ∧ Q (.int (if k then 1 else 0)) H
theorem call_int1N : CallR X (.type "int") rInt1 := call_int1
def rStrI : List V → Hp → VK → Prop := fun xs H Q => ∃ i, xs = [.int i] ∧ i.natAbs.log2 < 1920 ∧ Q (.str (toString i)) H
theorem call_str_intN : CallR X (.type "str") rStrI := call_str_int
def rEqDict : R2 := fun x y H Q => ∃ a b kvs, x = .ref a ∧ y = .ref b ∧ H a = some (.dK kvs) ∧ H b = some (.dK kvs) ∧ (kvs.map (·.1)).Nodup ∧ (∀ p ∈ kvs, flatB p.2 = true) ∧ Q (.bl true) H
theorem op_eq_dictN (hu : X.A.units < cLine) : OpR X (compareOp .Eq) rEqDict := op_eq_dict hu
def rIsN : R2 := fun x y H Q => y = .non ∧ Q (.bl (decide (x = .non))) H
theorem op_isNN : OpR X (compareOp .Is) rIsN := op_isN
def rNotN : R2 := fun x y H Q => y = .non ∧ Q (.bl (!decide (x = .non))) H
theorem op_notNN : OpR X (compareOp .IsNot) rNotN := op_notN
def rAddS : R2 := fun x y H Q => ∃ i j, x = .str i ∧ y = .str j ∧ i.length + j.length ≤ sizeLine ∧ Q (.str (i ++ j)) H
theorem op_add_strN : OpR X (binaryOp .Add) rAddS := op_add_str
end
/-! ## 8. their readings -/
section
variable {K : PySem.W.Frag} {σ : L2.St} {H : Hp} {Q : VK} {v x y : V} {ta tb tc te td ty tx : TE} {i : Nat} {D : Ends} {QB : Bool → Hp → Prop} {a : Addr} {kvs : List (Key × V)} {k : Key}
theorem g_abs {i : Int} (q : Q (.int (if i < 0 then -i else i)) H) : rAbs [.int i] H Q := ⟨i, rfl, q⟩
theorem g_min {i j : Int} (q : Q (.int (min i j)) H) : rMin2 [.int i, .int j] H Q := ⟨i, j, rfl, by
  have e : (if j < i then j else i) = min i j := by
    rw [Int.min_def]
    split <;> split <;> omega
  rw [e]
  exact q⟩
theorem g_max {i j : Int} (q : Q (.int (max i j)) H) : rMax2 [.int i, .int j] H Q := ⟨i, j, rfl, by
  have e : (if j > i then j else i) = max i j := by
    rw [Int.max_def]
    split <;> split <;> omega
  rw [e]
  exact q⟩
theorem g_int {i : Int} (q : Q (.int i) H) : rInt1 [.int i] H Q := .inl ⟨i, rfl, q⟩
theorem g_intB {b : Bool} (q : Q (.int (if b then 1 else 0)) H) : rInt1 [.bl b] H Q := .inr ⟨b, rfl, q⟩
theorem g_lenL {p : Addr} {xs : List V} (h : SqL K H p xs) (q : Q (.int xs.length) H) : rLenA K [.ref p] H Q := ⟨.ref p, xs.length, rfl, .inl ⟨xs, h, rfl⟩, q⟩
theorem g_lenT {p : Addr} {xs : List V} (h : SqT K H p xs) (q : Q (.int xs.length) H) : rLenA K [.ref p] H Q := ⟨.ref p, xs.length, rfl, .inr ⟨xs, h, rfl⟩, q⟩
theorem g_lenS {z : Str} (h : z.length ≤ sizeLine) (q : Q (.int z.length) H) : rLenA K [.str z] H Q := ⟨.str z, z.length, rfl, ⟨h, rfl⟩, q⟩
theorem g_lenD (h : H a = some (.dK kvs)) (q : Q (.int kvs.length) H) : rLenD [.ref a] H Q := ⟨a, kvs, rfl, h, q⟩
theorem g_isN (q : Q (.bl (decide (x = .non))) H) : rIsN x .non H Q := ⟨rfl, q⟩
theorem g_notN (q : Q (.bl (!decide (x = .non))) H) : rNotN x .non H Q := ⟨rfl, q⟩
theorem g_then {k : V → Hp → VK → Prop} (q : ta σ H fun x H1 => k x H1 Q) : tThen ta k σ H Q := q
theorem g_tupL {p : Addr} {xs : List V} (h : SqL K H p xs) (q : ∀ r, H r = none → Q (.ref r) (upd H r (.tup xs))) : kTup K (.ref p) H Q := .inl ⟨p, xs, rfl, h, q⟩
theorem g_tupT {p : Addr} {xs : List V} (h : SqT K H p xs) (q : Q (.ref p) H) : kTup K (.ref p) H Q := .inr ⟨p, xs, rfl, h, q⟩
theorem g_in {neg : Bool} {p : Addr} {xs : List V} (h : SqL K H p xs ∨ SqT K H p xs) (h1 : flatV x = true) (h2 : xs.all flatV = true) (q : Q (.bl (if neg then !inV x xs else inV x xs)) H) : rIn K neg x (.ref p) H Q := ⟨p, xs, rfl, h, h1, h2, q⟩
theorem g_eqD {d e : PyData} (h1 : Dp K H x d) (h2 : Dp K H y e) (s1 : SeqAt.shaped d = true) (s2 : SeqAt.shaped e = true) (q : Q (.bl (PyData.eqv d e)) H) : rEqD K x y H Q := ⟨d, e, h1, h2, s1, s2, q⟩
theorem g_neD {d e : PyData} (h1 : Dp K H x d) (h2 : Dp K H y e) (s1 : SeqAt.shaped d = true) (s2 : SeqAt.shaped e = true) (q : Q (.bl (!PyData.eqv d e)) H) : rNeD K x y H Q := ⟨d, e, h1, h2, s1, s2, q⟩
/-- dicts -/
theorem kV_inr (z : Str) : V.str z = kV (Sum.inr z) := rfl
def rDGet (x y : V) (H2 : Hp) (Q : VK) : Prop := ∃ a v, x = .ref a ∧ DGet H2 a y (some v) ∧ Q v H2
theorem g_dget (q : td σ H fun x H1 => ty σ H1 fun y H2 => rDGet x y H2 Q) : tDGet td ty σ H Q := q
theorem g_dgetS {z : Str} (h : H a = some (.dK kvs)) (e : valV kvs (Sum.inr z) = some v) (q : Q v H) : rDGet (.ref a) (.str z) H Q := ⟨a, v, rfl, by rw [← e]; exact DGet.k (k := Sum.inr z) h, q⟩
theorem g_dgetF {z : Str} {ob : Obj} (h : H a = some (.frz ob (.dK kvs))) (e : valV kvs (Sum.inr z) = some v) (q : Q v H) : rDGet (.ref a) (.str z) H Q := ⟨a, v, rfl, by rw [← e]; exact .inl ⟨kvs, Sum.inr z, .inr ⟨ob, h⟩, rfl, rfl⟩, q⟩
def rDIn (neg : Bool) (y x : V) (H2 : Hp) (Q : VK) : Prop := ∃ a o, x = .ref a ∧ DGet H2 a y o ∧ Q (.bl (if neg then !o.isSome else o.isSome)) H2
theorem g_din (q : ty σ H fun y H1 => td σ H1 fun x H2 => rDIn false y x H2 Q) : tDIn ty td σ H Q := by
  have e : (fun y H1 => td σ H1 fun x H2 => rDIn false y x H2 Q) = fun y H1 => td σ H1 fun x H2 => ∃ a o, x = .ref a ∧ DGet H2 a y o ∧ Q (.bl o.isSome) H2 := by
    funext y H1
    congr 1
  rw [e] at q
  exact q
theorem g_dnotin (q : ty σ H fun y H1 => td σ H1 fun x H2 => rDIn true y x H2 Q) : tDNotIn ty td σ H Q := by
  have e : (fun y H1 => td σ H1 fun x H2 => rDIn true y x H2 Q) = fun y H1 => td σ H1 fun x H2 => ∃ a o, x = .ref a ∧ DGet H2 a y o ∧ Q (.bl (!o.isSome)) H2 := by
    funext y H1
    congr 1
  rw [e] at q
  exact q
theorem g_dinS {neg : Bool} {z : Str} (h : H a = some (.dK kvs)) (q : Q (.bl (if neg then !(valV kvs (Sum.inr z)).isSome else (valV kvs (Sum.inr z)).isSome)) H) : rDIn neg (.str z) (.ref a) H Q := ⟨a, _, rfl, DGet.k (k := Sum.inr z) h, q⟩
theorem g_dinF {neg : Bool} {z : Str} {ob : Obj} (h : H a = some (.frz ob (.dK kvs))) (q : Q (.bl (if neg then !(valV kvs (Sum.inr z)).isSome else (valV kvs (Sum.inr z)).isSome)) H) : rDIn neg (.str z) (.ref a) H Q := ⟨a, _, rfl, .inl ⟨kvs, Sum.inr z, .inr ⟨ob, h⟩, rfl, rfl⟩, q⟩
def rDPut (v x y : V) (H3 : Hp) (N : Hp → Prop) : Prop := ∃ a H4, x = .ref a ∧ DPut H3 a y v H4 ∧ N H4
theorem g_dput {tv : TE} (q : tv σ H fun v H1 => td σ H1 fun x H2 => ty σ H2 fun y H3 => rDPut v x y H3 (D.nx σ)) : sDPut td ty tv D σ H := q
theorem g_dputS {z : Str} {N : Hp → Prop} (h : H a = some (.dK kvs)) (l : kvs.length < sizeLine) (q : N (upd H a (.dK (putK kvs (Sum.inr z) v)))) : rDPut v (.ref a) (.str z) H N := ⟨a, _, rfl, DPut.k (k := Sum.inr z) h l, q⟩
theorem g_dget1 (q : td σ H fun x H1 => ∃ a, x = .ref a ∧ IsD H1 a ∧ ty σ H1 fun y H2 => ∃ o, DGet H2 a y o ∧ Q (o.getD .non) H2) : tDGet1 td ty σ H Q := q
theorem g_dget2 (q : td σ H fun x H1 => ∃ a, x = .ref a ∧ IsD H1 a ∧ ty σ H1 fun y H2 => tx σ H2 fun z H3 => ∃ o, DGet H3 a y o ∧ Q (o.getD z) H3) : tDGet2 td ty tx σ H Q := q
theorem g_isD {P : Addr → Prop} (h : H a = some (.dK kvs)) (q : P a) : ∃ b, V.ref a = .ref b ∧ IsD H b ∧ P b := ⟨a, rfl, .inl ⟨kvs, .inl h⟩, q⟩
theorem g_dgo {z : Str} {P : Option V → Prop} (h : H a = some (.dK kvs)) (q : P (valV kvs (Sum.inr z))) : ∃ o, DGet H a (.str z) o ∧ P o := ⟨_, DGet.k (k := Sum.inr z) h, q⟩
end
/-! ## 9. comprehensions -/
section
variable {K : PySem.W.Frag} {σ : L2.St} {H H1 : Hp} {Q : VK} {D a : Addr} {tl td : TE} {tt : TT} {te : TE} {i0 : Nat}
/-- what a test, an expression answers, the heap as it was -/
def An (t : TT) (σ : L2.St) (H : Hp) (b : Bool) : Prop := ∀ R : Bool → Hp → Prop, R b H → t σ H R
def Vl (t : TE) (σ : L2.St) (H : Hp) (v : V) : Prop := ∀ R : VK, R v H → t σ H R
theorem an_yes {σ : L2.St} {H : Hp} : An tYes σ H true := fun _ q => q
theorem paired_snoc {α β : Type} {F : α → β → Prop} {a : α} {b : β} (r : F a b) : ∀ {l : List α} {m : List β}, Paired F l m → Paired F (l ++ [a]) (m ++ [b])
  | _, _, .nil => .cons r .nil
  | _, _, .cons h t => .cons h (paired_snoc r t)
theorem wipe_one (σ : L2.St) (i : Nat) : wipe σ [i] = σ.set i none := rfl
theorem wipe_set (σ : L2.St) (i : Nat) (x : Option V) : wipe ((wipe σ [i]).set i x) [i] = wipe σ [i] := by
  rw [wipe_one, wipe_one, List.set_set, List.set_set]
theorem take_snoc {α : Type} {l : List α} {i : Nat} {x : α} (h : l[i]? = some x) : l.take (i + 1) = l.take i ++ [x] := by
  rw [List.take_add_one, h]
  rfl
theorem take_mem {α : Type} {l : List α} {i : Nat} {x : α} (h : l[i]? = some x) : x ∈ l := List.mem_of_getElem? h
/-- element and test leave the heap alone -/
theorem lc_pure {J : It} {G : Hp → Prop} {items : List V} (w : Walk J items.length G (YAt items)) (hG : ∀ l, G (upd H1 D (.lst l))) (hz : items.length < sizeLine) (p : V → Bool) (f : V → V)
    (ht : ∀ x ∈ items, ∀ l, An tt ((wipe σ [i0]).set i0 (some x)) (upd H1 D (.lst l)) (p x)) (he : ∀ x ∈ items, p x = true → ∀ l, Vl te ((wipe σ [i0]).set i0 (some x)) (upd H1 D (.lst l)) (f x)) (q : Q (.ref D) (upd H1 D (.lst ((items.filter p).map f)))) :
    ∃ W : Nat → Nat → Hp → Prop, (∃ m, W 0 m (upd H1 D (.lst []))) ∧ ∀ i m H, W i m H →
      (J.stop i H ∧ Q (.ref D) H) ∨ (J.go i H ∧ ∃ Nx : Hp → Prop, (∀ H', Nx H' → ∃ m', m' < m ∧ W (i + 1) m' H') ∧ ∀ x H', J.yld i H x H' → gName i0 x (wipe σ [i0]) H' fun σ2 H2 => wipe σ2 [i0] = wipe σ [i0] ∧ tt σ2 H2 fun b H3 =>
        if b = true then te σ2 H3 fun y H4 => ∃ acc, H4 D = some (.lst acc) ∧ acc.length < sizeLine ∧ Nx (upd H4 D (.lst (acc ++ [y]))) else Nx H3) := by
  refine lc_it (Qd := fun H => Q (.ref D) H) w (fun i H => H = upd H1 D (.lst (((items.take i).filter p).map f))) rfl (fun i H _ e => by rw [e]; exact hG _) (fun i x H H' hi e y => ?_) (fun H e => by rw [e, List.take_length]; exact q)
  obtain ⟨rfl, hx⟩ := y
  subst e
  have hm := take_mem hx
  show wipe ((wipe σ [i0]).set i0 (some x)) [i0] = wipe σ [i0] ∧ _
  refine ⟨wipe_set σ i0 _, ht x hm _ _ ?_⟩
  have len : (((items.take i).filter p).map f).length < sizeLine := by
    rw [List.length_map]
    have := List.length_filter_le p (items.take i)
    have := List.length_take_le i items
    omega
  cases hp : p x with
  | false =>
    refine iteF ?_
    rw [take_snoc hx, List.filter_append, List.filter_cons, if_neg (by rw [hp]; exact Bool.false_ne_true), List.filter_nil, List.append_nil]
  | true =>
    refine iteT (he x hm hp _ _ ?_)
    refine ⟨_, upd_same, len, ?_⟩
    rw [upd_upd, take_snoc hx, List.filter_append, List.filter_cons, if_pos hp, List.filter_nil, List.map_append]
    all_goals rfl
/-- each element a new tuple -/
theorem lc_tups {J : It} {G : Hp → Prop} {items : List V} (w : Walk J items.length G (YAt items)) (hG : ∀ H', (∀ b o, H1 b = some o → H' b = some o) → G H') (hD : H1 D = none) (hz : items.length < sizeLine) (p : V → Bool) (c : V → List V)
    (ht : ∀ x ∈ items, ∀ H', (∀ b o, H1 b = some o → H' b = some o) → An tt ((wipe σ [i0]).set i0 (some x)) H' (p x))
    (he : ∀ x ∈ items, p x = true → ∀ H', (∀ b o, H1 b = some o → H' b = some o) → ∀ R : VK, (∀ t, H' t = none → R (.ref t) (upd H' t (.tup (c x)))) → te ((wipe σ [i0]).set i0 (some x)) H' R)
    (q : ∀ (H' : Hp) (ps : List Addr), (∀ b o, H1 b = some o → H' b = some o) → H' D = some (.lst (ps.map V.ref)) → Paired (fun t x => H1 t = none ∧ t ≠ D ∧ H' t = some (.tup (c x))) ps (items.filter p) → Q (.ref D) H') :
    ∃ W : Nat → Nat → Hp → Prop, (∃ m, W 0 m (upd H1 D (.lst []))) ∧ ∀ i m H, W i m H →
      (J.stop i H ∧ Q (.ref D) H) ∨ (J.go i H ∧ ∃ Nx : Hp → Prop, (∀ H', Nx H' → ∃ m', m' < m ∧ W (i + 1) m' H') ∧ ∀ x H', J.yld i H x H' → gName i0 x (wipe σ [i0]) H' fun σ2 H2 => wipe σ2 [i0] = wipe σ [i0] ∧ tt σ2 H2 fun b H3 =>
        if b = true then te σ2 H3 fun y H4 => ∃ acc, H4 D = some (.lst acc) ∧ acc.length < sizeLine ∧ Nx (upd H4 D (.lst (acc ++ [y]))) else Nx H3) := by
  refine lc_it (Qd := fun H => Q (.ref D) H) w (fun i H => ∃ ps : List Addr, (∀ b o, H1 b = some o → H b = some o) ∧ H D = some (.lst (ps.map V.ref)) ∧ Paired (fun t x => H1 t = none ∧ t ≠ D ∧ H t = some (.tup (c x))) ps ((items.take i).filter p))
    ⟨[], Kp.to_same (Kp.new Kp.refl hD), upd_same, .nil⟩ (fun i H _ ⟨_, e, _⟩ => hG H e) (fun i x H H' hi hh y => ?_) (fun H ⟨ps, e1, e2, e3⟩ => q H ps e1 e2 (by rw [List.take_length] at e3; exact e3))
  obtain ⟨ps, s1, hDl, hp2⟩ := hh
  obtain ⟨rfl, hx⟩ := y
  have hm := take_mem hx
  show wipe ((wipe σ [i0]).set i0 (some x)) [i0] = wipe σ [i0] ∧ _
  refine ⟨wipe_set σ i0 _, ht x hm _ s1 _ ?_⟩
  cases hp : p x with
  | false =>
    refine iteF ⟨ps, s1, hDl, ?_⟩
    rw [take_snoc hx, List.filter_append, List.filter_cons, if_neg (by rw [hp]; exact Bool.false_ne_true), List.filter_nil, List.append_nil]
    exact hp2
  | true =>
    refine iteT (he x hm hp _ s1 _ fun t nt => ?_)
    have nDt : D ≠ t := ne_of_none hDl nt
    have nt1 : H1 t = none := by
      cases e : H1 t with
      | none => rfl
      | some o => rw [s1 t o e] at nt; cases nt
    have len : (ps.map V.ref).length < sizeLine := by
      rw [List.length_map, Paired.length hp2]
      have := List.length_filter_le p (items.take i)
      have := List.length_take_le i items
      omega
    refine ⟨_, (upd_ne nDt).trans hDl, len, ps ++ [t], ?_, ?_, ?_⟩
    · intro b o e
      rw [upd_ne (ne_of_none e hD), upd_ne (ne_of_none e nt1)]
      exact s1 b o e
    · rw [upd_same, List.map_append]
      rfl
    · rw [take_snoc hx, List.filter_append, List.filter_cons, if_pos hp, List.filter_nil]
      refine paired_snoc ⟨nt1, nDt.symm, by rw [upd_ne nDt.symm, upd_same]⟩ (Paired.mapP hp2 fun u z ⟨h1, h2, h3⟩ => ⟨h1, h2, ?_⟩)
      rw [upd_ne h2, upd_ne (ne_of_none h3 nt)]
      exact h3
/-- what a comprehension asks behind its iterable -/
def LcRun (J : It) (g : TG) (tt : TT) (te : TE) (vs : List Nat) (σ : L2.St) (H1 : Hp) (D : Addr) (Q : VK) : Prop := ∃ W : Nat → Nat → Hp → Prop, (∃ m, W 0 m (upd H1 D (.lst []))) ∧ ∀ i m H, W i m H →
  (J.stop i H ∧ Q (.ref D) H) ∨ (J.go i H ∧ ∃ Nx : Hp → Prop, (∀ H', Nx H' → ∃ m', m' < m ∧ W (i + 1) m' H') ∧ ∀ x H', J.yld i H x H' → g x (wipe σ vs) H' fun σ2 H2 => wipe σ2 vs = wipe σ vs ∧ tt σ2 H2 fun b H3 =>
    if b = true then te σ2 H3 fun y H4 => ∃ acc, H4 D = some (.lst acc) ∧ acc.length < sizeLine ∧ Nx (upd H4 D (.lst (acc ++ [y]))) else Nx H3)
theorem g_lcl {g : TG} {vs : List Nat} (q : tl σ H fun x H1 => ∃ a, x = .ref a ∧ (∃ xs, SqL K H1 a xs) ∧ ∀ D, H1 D = none → LcRun (Itl K a) g tt te vs σ H1 D Q) : tLc (iList K tl) g tt te vs σ H Q := q
theorem r_lclP {xs : List V} (h : SqL K H1 a xs) (hz : xs.length < sizeLine) (p : V → Bool) (f : V → V) (ht : ∀ x ∈ xs, ∀ D l, H1 D = none → An tt ((wipe σ [i0]).set i0 (some x)) (upd H1 D (.lst l)) (p x))
    (he : ∀ x ∈ xs, p x = true → ∀ D l, H1 D = none → Vl te ((wipe σ [i0]).set i0 (some x)) (upd H1 D (.lst l)) (f x)) (q : ∀ D, H1 D = none → Q (.ref D) (upd H1 D (.lst ((xs.filter p).map f)))) :
    ∃ b, V.ref a = .ref b ∧ (∃ xs, SqL K H1 b xs) ∧ ∀ D, H1 D = none → LcRun (Itl K b) (gName i0) tt te [i0] σ H1 D Q :=
  ⟨a, rfl, ⟨xs, h⟩, fun D hD => lc_pure (walk_list (xs := xs)) (fun l => Kp.seq (M := []) (Kp.new Kp.refl hD) (by simp) h) hz p f (fun x hx l => ht x hx D l hD) (fun x hx hp l => he x hx hp D l hD) (q D hD)⟩
theorem r_lclT {xs : List V} (h : SqL K H1 a xs) (hz : xs.length < sizeLine) (p : V → Bool) (c : V → List V) (ht : ∀ x ∈ xs, ∀ H', Same H1 H' → An tt ((wipe σ [i0]).set i0 (some x)) H' (p x))
    (he : ∀ x ∈ xs, p x = true → ∀ H', Same H1 H' → ∀ R : VK, (∀ t, H' t = none → R (.ref t) (upd H' t (.tup (c x)))) → te ((wipe σ [i0]).set i0 (some x)) H' R)
    (q : ∀ (D : Addr) (H' : Hp) (ps : List Addr), H1 D = none → Same H1 H' → H' D = some (.lst (ps.map V.ref)) → Paired (fun t x => H1 t = none ∧ t ≠ D ∧ H' t = some (.tup (c x))) ps (xs.filter p) → Q (.ref D) H') :
    ∃ b, V.ref a = .ref b ∧ (∃ xs, SqL K H1 b xs) ∧ ∀ D, H1 D = none → LcRun (Itl K b) (gName i0) tt te [i0] σ H1 D Q :=
  ⟨a, rfl, ⟨xs, h⟩, fun D hD => lc_tups (walk_list (xs := xs)) (fun H' e => Kp.seq (M := []) (Kp.same e) (by simp) h) hD hz p c ht he fun H' ps e1 e2 e3 => q D H' ps hD e1 e2 e3⟩
/-- over a range -/
theorem g_lcr {g : TG} {vs : List Nat} {ta : TA} (q : ta σ H fun ws H1 => ∃ j : Int, ws = [.int j] ∧ -(2 ^ 62) ≤ j ∧ j < 2 ^ 62 ∧ ∀ D, H1 D = none → LcRun (Itr 0 j.toNat) g tt te vs σ H1 D Q) : tLc (iRng1 ta) g tt te vs σ H Q := q
def rngV (n : Nat) : List V := (List.range n).map fun i : Nat => V.int (i : Int)
theorem rngV_at {n i : Nat} (h : i < n) : (rngV n)[i]? = some (.int (i : Int)) := by
  unfold rngV
  rw [List.getElem?_map, List.getElem?_range h]
  rfl
theorem rngV_len (n : Nat) : (rngV n).length = n := by
  unfold rngV
  rw [List.length_map, List.length_range]
theorem rngV_mem {n : Nat} {x : V} (h : x ∈ rngV n) : ∃ i : Nat, i < n ∧ x = .int (i : Int) := by
  obtain ⟨i, hi, rfl⟩ := List.mem_map.mp h
  exact ⟨i, List.mem_range.mp hi, rfl⟩
theorem walk_rng (n : Nat) : Walk (Itr 0 n) (rngV n).length (fun _ => True) (YAt (rngV n)) := by
  rw [rngV_len]
  refine (walk_range (lo := 0) (n := n)).mono (fun _ h => h) fun i H x H' hi _ y => ?_
  obtain ⟨e1, e2⟩ := y
  refine ⟨e1, ?_⟩
  rw [rngV_at hi, e2]
  show some (V.int (i : Int)) = some (V.int (0 + (i : Int)))
  rw [Int.zero_add]
theorem r_lcrP {j : Int} (h0 : 0 ≤ j) (hz : j < 16777216) (p : V → Bool) (f : V → V) (ht : ∀ x ∈ rngV j.toNat, ∀ D l, H1 D = none → An tt ((wipe σ [i0]).set i0 (some x)) (upd H1 D (.lst l)) (p x))
    (he : ∀ x ∈ rngV j.toNat, p x = true → ∀ D l, H1 D = none → Vl te ((wipe σ [i0]).set i0 (some x)) (upd H1 D (.lst l)) (f x)) (q : ∀ D, H1 D = none → Q (.ref D) (upd H1 D (.lst (((rngV j.toNat).filter p).map f)))) :
    ∃ k : Int, [V.int j] = [.int k] ∧ -(2 ^ 62) ≤ k ∧ k < 2 ^ 62 ∧ ∀ D, H1 D = none → LcRun (Itr 0 k.toNat) (gName i0) tt te [i0] σ H1 D Q :=
  ⟨j, rfl, by omega, by omega, fun D hD => lc_pure (walk_rng j.toNat) (fun _ => trivial) (by rw [rngV_len, sizeLine_eq]; omega) p f (fun x hx l => ht x hx D l hD) (fun x hx hp l => he x hx hp D l hD) (q D hD)⟩
theorem r_lcrT {j : Int} (h0 : 0 ≤ j) (hz : j < 16777216) (p : V → Bool) (c : V → List V) (ht : ∀ x ∈ rngV j.toNat, ∀ H', Same H1 H' → An tt ((wipe σ [i0]).set i0 (some x)) H' (p x))
    (he : ∀ x ∈ rngV j.toNat, p x = true → ∀ H', Same H1 H' → ∀ R : VK, (∀ t, H' t = none → R (.ref t) (upd H' t (.tup (c x)))) → te ((wipe σ [i0]).set i0 (some x)) H' R)
    (q : ∀ (D : Addr) (H' : Hp) (ps : List Addr), H1 D = none → Same H1 H' → H' D = some (.lst (ps.map V.ref)) → Paired (fun t x => H1 t = none ∧ t ≠ D ∧ H' t = some (.tup (c x))) ps ((rngV j.toNat).filter p) → Q (.ref D) H') :
    ∃ k : Int, [V.int j] = [.int k] ∧ -(2 ^ 62) ≤ k ∧ k < 2 ^ 62 ∧ ∀ D, H1 D = none → LcRun (Itr 0 k.toNat) (gName i0) tt te [i0] σ H1 D Q :=
  ⟨j, rfl, by omega, by omega, fun D hD => lc_tups (walk_rng j.toNat) (fun _ _ => trivial) hD (by rw [rngV_len, sizeLine_eq]; omega) p c ht he fun H' ps e1 e2 e3 => q D H' ps hD e1 e2 e3⟩
/-- over a dict's names, the dict locked -/
def keysV (kvs : List (Key × V)) : List V := kvs.map fun e => kV e.1
theorem walk_keysV {d : Addr} {o : Obj} (kvs : List (Key × V)) : Walk (Itk d o kvs) (keysV kvs).length (fun H => H d = some (.frz o (.dK kvs))) (YAt (keysV kvs)) := by
  unfold keysV
  rw [List.length_map]
  refine (walk_keys (kvs := kvs)).mono (fun _ h => h) fun i H x H' hi _ y => ?_
  obtain ⟨e1, k, v, e2, e3⟩ := y
  refine ⟨e1, ?_⟩
  rw [List.getElem?_map, e2, e3]
  rfl
theorem g_lock {t : TE} {d : Addr} {kvs : List (Key × V)} (h : H d = some (.dK kvs)) (q : ∀ od, t σ (upd H d (.frz od (.dK kvs))) fun v H' => H' d = some (.frz od (.dK kvs)) ∧ Q v (upd H' d (.dK kvs))) : tLockE t σ H Q := ⟨d, _, h, trivial, q⟩
theorem g_lcKT {d : Addr} {kvs : List (Key × V)} (h : H d = some (.dK kvs)) (hd : ∀ (H' : Hp) (R : VK), R (.ref d) H' → td σ H' R) (hz : kvs.length < sizeLine) (p : V → Bool) (c : V → List V)
    (ht : ∀ x ∈ keysV kvs, ∀ od H', H' d = some (.frz od (.dK kvs)) → Kp [d] H H' → An tt ((wipe σ [i0]).set i0 (some x)) H' (p x))
    (he : ∀ x ∈ keysV kvs, p x = true → ∀ od H', H' d = some (.frz od (.dK kvs)) → Kp [d] H H' → ∀ R : VK, (∀ t, H' t = none → R (.ref t) (upd H' t (.tup (c x)))) → te ((wipe σ [i0]).set i0 (some x)) H' R)
    (q : ∀ (D : Addr) (H' : Hp) (ps : List Addr), H D = none → Same H H' → H' D = some (.lst (ps.map V.ref)) → Paired (fun t x => H t = none ∧ t ≠ D ∧ H' t = some (.tup (c x))) ps ((keysV kvs).filter p) → Q (.ref D) H') : tLockE (tLc (iKeys td) (gName i0) tt te [i0]) σ H Q := by
  refine g_lock h fun od => ?_
  refine hd _ _ ⟨d, od, rfl, .inl ⟨kvs, upd_same, fun D hD => ?_⟩⟩
  have nDd : D ≠ d := fun e => by rw [e, upd_same] at hD; cases hD
  have hD0 : H D = none := by rw [upd_ne nDd] at hD; exact hD
  have kp : ∀ H', (∀ b o, upd H d (.frz od (.dK kvs)) b = some o → H' b = some o) → Kp [d] H H' := fun H' e b o z m => e b o (by rw [upd_ne (by simpa using m)]; exact z)
  refine lc_tups (Q := fun v H' => H' d = some (.frz od (.dK kvs)) ∧ Q v (upd H' d (.dK kvs))) (walk_keysV kvs) (fun H' e => e _ _ upd_same) hD (by unfold keysV; rw [List.length_map]; exact hz) p c (fun x hx H' e => ht x hx od H' (e _ _ upd_same) (kp H' e)) (fun x hx hp H' e => he x hx hp od H' (e _ _ upd_same) (kp H' e)) fun H' ps e1 e2 e3 => ⟨e1 _ _ upd_same, ?_⟩
  refine q D _ ps hD0 (fun b o z => ?_) (by rw [upd_ne nDd]; exact e2) (Paired.mapP e3 fun t x ⟨h1, h2, h3⟩ => ?_)
  · by_cases hb : b = d
    · rw [hb] at z ⊢
      rw [upd_same, ← h, z]
    · rw [upd_ne hb]
      exact e1 b o (by rw [upd_ne hb]; exact z)
  · have ntd : t ≠ d := fun e => by rw [e, upd_same] at h1; cases h1
    refine ⟨by rw [upd_ne ntd] at h1; exact h1, h2, by rw [upd_ne ntd]; exact h3⟩
end
/-! ## 10. slices, flat data, order of texts -/
section
variable {K : PySem.W.Frag} {σ : L2.St} {H : Hp} {Q : VK} {a : Addr} {te : TE}
theorem g_sl {r : V → Option Int → Option Int → Hp → VK → Prop} {tl th : TO} (q : te σ H fun x H1 => tl σ H1 fun l H2 => th σ H2 fun u H3 => r x l u H3 Q) : tSl r te tl th σ H Q := q
theorem g_nopart {P : Option Int → Hp → Prop} (q : P none H) : tNoPart σ H P := q
theorem g_part {P : Option Int → Hp → Prop} (q : te σ H fun x H1 => ∃ i, x = .int i ∧ P (some i) H1) : tPart te σ H P := q
theorem g_pint {i : Int} {P : Option Int → Hp → Prop} (q : P (some i) H) : ∃ j, V.int i = .int j ∧ P (some j) H := ⟨i, rfl, q⟩
theorem g_slL {xs : List V} {lo hi : Option Int} (h : SqL K H a xs) (q : ∀ p, H p = none → Q (.ref p) (upd H p (.lst (cutV xs lo hi)))) : rSlL K (.ref a) lo hi H Q := ⟨a, xs, rfl, h, q⟩
/-- flat data -/
def strOkS (l : List Str) : Bool := l.all PyData.strOk
theorem dpAll_str : ∀ l : List Str, DpAll K H (l.map V.str) (l.map PyData.str)
  | [] => .nil
  | x :: r => .cons (.str x) (dpAll_str r)
theorem dpAll_int : ∀ l : List Int, DpAll K H (l.map V.int) (l.map PyData.int)
  | [] => .nil
  | x :: r => .cons (.int x) (dpAll_int r)
theorem eqvAll_str : ∀ l m : List Str, PyData.eqvAll (l.map .str) (m.map .str) = decide (l = m)
  | [], [] => rfl
  | [], _ :: _ => rfl
  | _ :: _, [] => rfl
  | x :: l, y :: m => by
    show ((x == y) && PyData.eqvAll (l.map .str) (m.map .str)) = _
    rw [eqvAll_str l m, Bool.beq_eq_decide_eq, ← Bool.decide_and]
    exact decide_eq_decide.mpr ⟨fun ⟨h1, h2⟩ => by rw [h1, h2], fun h => List.cons.inj h⟩
theorem eqvAll_int : ∀ l m : List Int, PyData.eqvAll (l.map .int) (m.map .int) = decide (l = m)
  | [], [] => rfl
  | [], _ :: _ => rfl
  | _ :: _, [] => rfl
  | x :: l, y :: m => by
    show ((x == y) && PyData.eqvAll (l.map .int) (m.map .int)) = _
    rw [eqvAll_int l m, Bool.beq_eq_decide_eq, ← Bool.decide_and]
    exact decide_eq_decide.mpr ⟨fun ⟨h1, h2⟩ => by rw [h1, h2], fun h => List.cons.inj h⟩
theorem lay_str : ∀ l : List Str, strOkS l = true → PyData.canLayAll0 (l.map .str) = true
  | [], _ => rfl
  | x :: r, h => by
    have h : (PyData.strOk x && strOkS r) = true := h
    obtain ⟨h1, h2⟩ := Bool.and_eq_true_iff.mp h
    show (PyData.strOk x && PyData.canLayAll0 (r.map .str)) = true
    rw [h1, lay_str r h2]
    rfl
theorem lay_int : ∀ l : List Int, PyData.canLayAll0 (l.map .int) = true
  | [] => rfl
  | _ :: r => by
    show (true && PyData.canLayAll0 (r.map .int)) = true
    rw [lay_int r]
    rfl
theorem deep_str : ∀ l : List Str, PyData.depthAll (l.map .str) = 0
  | [] => rfl
  | _ :: r => by
    show max 0 (PyData.depthAll (r.map .str)) = 0
    rw [deep_str r]
    rfl
theorem deep_int : ∀ l : List Int, PyData.depthAll (l.map .int) = 0
  | [] => rfl
  | _ :: r => by
    show max 0 (PyData.depthAll (r.map .int)) = 0
    rw [deep_int r]
    rfl
theorem shaped_tstr {l : List Str} (h : strOkS l = true) : SeqAt.shaped (.tuple (l.map .str)) = true := by
  show (PyData.canLayAll0 (l.map .str) && decide (PyData.depthAll (l.map .str) + 1 ≤ 64)) = true
  rw [lay_str l h, deep_str]
  rfl
theorem shaped_lstr {l : List Str} (h : strOkS l = true) : SeqAt.shaped (.list (l.map .str)) = true := by
  show (PyData.canLayAll0 (l.map .str) && decide (PyData.depthAll (l.map .str) + 1 ≤ 64)) = true
  rw [lay_str l h, deep_str]
  rfl
theorem shaped_lint (l : List Int) : SeqAt.shaped (.list (l.map .int)) = true := by
  show (PyData.canLayAll0 (l.map .int) && decide (PyData.depthAll (l.map .int) + 1 ≤ 64)) = true
  rw [lay_int l, deep_int]
  rfl
/-- == of tuples of texts -/
theorem g_neTS {b : Addr} {l m : List Str} (h1 : SqT K H a (l.map V.str)) (h2 : SqT K H b (m.map V.str)) (s1 : strOkS l = true) (s2 : strOkS m = true) (q : Q (.bl (!decide (l = m))) H) : rNeD K (.ref a) (.ref b) H Q :=
  g_neD (.tup h1 (dpAll_str l)) (.tup h2 (dpAll_str m)) (shaped_tstr s1) (shaped_tstr s2) (by rw [show PyData.eqv (.tuple (l.map .str)) (.tuple (m.map .str)) = decide (l = m) from eqvAll_str l m]; exact q)
theorem g_eqTS {b : Addr} {l m : List Str} (h1 : SqT K H a (l.map V.str)) (h2 : SqT K H b (m.map V.str)) (s1 : strOkS l = true) (s2 : strOkS m = true) (q : Q (.bl (decide (l = m))) H) : rEqD K (.ref a) (.ref b) H Q :=
  g_eqD (.tup h1 (dpAll_str l)) (.tup h2 (dpAll_str m)) (shaped_tstr s1) (shaped_tstr s2) (by rw [show PyData.eqv (.tuple (l.map .str)) (.tuple (m.map .str)) = decide (l = m) from eqvAll_str l m]; exact q)
/-- == of lists of ints -/
theorem g_eqLI {b : Addr} {l m : List Int} (h1 : SqL K H a (l.map V.int)) (h2 : SqL K H b (m.map V.int)) (q : Q (.bl (decide (l = m))) H) : rEqD K (.ref a) (.ref b) H Q :=
  g_eqD (.lst h1 (dpAll_int l)) (.lst h2 (dpAll_int m)) (shaped_lint l) (shaped_lint m) (by rw [show PyData.eqv (.list (l.map .int)) (.list (m.map .int)) = decide (l = m) from eqvAll_int l m]; exact q)
theorem g_neLI {b : Addr} {l m : List Int} (h1 : SqL K H a (l.map V.int)) (h2 : SqL K H b (m.map V.int)) (q : Q (.bl (!decide (l = m))) H) : rNeD K (.ref a) (.ref b) H Q :=
  g_neD (.lst h1 (dpAll_int l)) (.lst h2 (dpAll_int m)) (shaped_lint l) (shaped_lint m) (by rw [show PyData.eqv (.list (l.map .int)) (.list (m.map .int)) = decide (l = m) from eqvAll_int l m]; exact q)
/-- x stands at or before y -/
def leS (x y : Str) : Prop := ¬ y.cps.toList < x.cps.toList
theorem leS_trans {x y z : Str} (a : leS x y) (b : leS y z) : leS x z := by
  unfold leS at *
  rw [List.not_lt] at *
  exact List.le_trans a b
theorem leS_antisymm {x y : Str} (a : leS x y) (b : leS y x) : x = y := by
  unfold leS at *
  rw [List.not_lt] at *
  have e := List.le_antisymm a b
  obtain ⟨⟨p⟩⟩ := x
  obtain ⟨⟨q⟩⟩ := y
  have e : p = q := e
  rw [e]
theorem rising_pw : ∀ (r : List Str) (x : Str), risingS x r = true → (x :: r).Pairwise leS
  | [], x, _ => List.pairwise_singleton ..
  | y :: r, x, h => by
    have h : (!ltCps y.cps.toList x.cps.toList && risingS y r) = true := h
    obtain ⟨h1, h2⟩ := Bool.and_eq_true_iff.mp h
    have ih := rising_pw r y h2
    have xy : leS x y := by
      rw [ltCps_eq] at h1
      unfold leS
      simpa using h1
    refine List.pairwise_cons.mpr ⟨fun z hz => ?_, ih⟩
    rcases List.mem_cons.mp hz with e | e
    · rw [e]; exact xy
    · exact leS_trans xy ((List.pairwise_cons.mp ih).1 z e)
theorem sorted_pw {l : List Str} (h : sortedS l = true) : l.Pairwise leS := by
  cases l with
  | nil => exact .nil
  | cons x r => exact rising_pw r x h
theorem pw_unique : ∀ {l m : List Str}, l.Pairwise leS → m.Pairwise leS → l.Perm m → l = m
  | [], m, _, _, p => (List.Perm.nil_eq p)
  | x :: r, m, hl, hm, p => by
    cases m with
    | nil => exact absurd p.length_eq (by simp)
    | cons y t =>
      obtain ⟨l1, l2⟩ := List.pairwise_cons.mp hl
      obtain ⟨m1, m2⟩ := List.pairwise_cons.mp hm
      have e : x = y := by
        rcases List.mem_cons.mp (p.subset List.mem_cons_self) with e | e
        · exact e
        · rcases List.mem_cons.mp (p.symm.subset List.mem_cons_self) with e2 | e2
          · exact e2.symm
          · exact leS_antisymm (l1 y e2) (m1 x e)
      subst e
      rw [pw_unique l2 m2 ((List.perm_cons x).mp p)]
theorem sorted_unique {l m : List Str} (hl : sortedS l = true) (hm : sortedS m = true) (p : l.Perm m) : l = m := pw_unique (sorted_pw hl) (sorted_pw hm) p
theorem sorted_filter {l : List Str} (h : sortedS l = true) (p : Str → Bool) : (l.filter p).Pairwise leS := (sorted_pw h).filter p
end
/-! ## 11. written dicts -/
section
variable {σ : L2.St} {H : Hp} {Q : VK} {tk tv : TE} {r : List (TE × TE)} {R : List (V × V) → Hp → Prop}
theorem g_disp (q : ∀ p, H p = none → tPairs r σ (upd H p (.dK [])) fun ps H2 => H2 p = some (.dK []) ∧ ∃ kvs : List (Key × V), ps = kvs.map (fun kv => (kV kv.1, kv.2)) ∧ kvs.length ≤ 15 ∧ Q (.ref p) (upd H2 p (.dK (mergeK [] kvs)))) : tDisp r σ H Q := q
theorem g_pcons (q : tk σ H fun x H1 => tv σ H1 fun y H2 => tPairs r σ H2 fun ps H3 => R ((x, y) :: ps) H3) : tPairs ((tk, tv) :: r) σ H R := q
theorem g_pnil (q : R [] H) : tPairs [] σ H R := q
theorem g_par {D : Ends} {i j : Nat} {ta : TA} (q : ta σ H fun vs H1 => ∃ v w, vs = [v, w] ∧ D.nx ((σ.set i (some v)).set j (some w)) H1) : tPar i j ta D σ H := q
theorem g_two {x y : V} {F : V → V → Prop} (q : F x y) : ∃ v w, [x, y] = [v, w] ∧ F v w := ⟨x, y, rfl, q⟩
theorem g_dnew (q : ∀ p, H p = none → Q (.ref p) (upd H p (.dK []))) : tDNewK σ H Q := q
end
/-! ## 12. lists by names whose values stand at addresses -/
section
variable {β : Type}
def rf (x : Addr × β) : V := .ref x.1
def pr (L : List (Str × (Addr × β))) : List (Str × β) := L.map fun e => (e.1, e.2.2)
theorem aGet_pr (L : List (Str × (Addr × β))) (k : Str) : aGet (pr L) k = (aGet L k).map (·.2) := by
  unfold aGet pr
  rw [List.find?_map, Option.map_map, Option.map_map]
  rfl
theorem pr_drop (L : List (Str × (Addr × β))) (k : Str) : pr (aDrop L k) = aDrop (pr L) k := by
  unfold aDrop pr
  rw [List.filter_map]
  rfl
theorem pr_keys (L : List (Str × (Addr × β))) : (pr L).map (·.1) = L.map (·.1) := by
  unfold pr
  rw [List.map_map]
  rfl
theorem pr_len (L : List (Str × (Addr × β))) : (pr L).length = L.length := List.length_map ..
theorem pr_app (L M : List (Str × (Addr × β))) : pr (L ++ M) = pr L ++ pr M := List.map_append
theorem pr_put (L : List (Str × (Addr × β))) (k : Str) (a : Addr) (b : β) : pr (aPut L k (a, b)) = aPut (pr L) k b := by
  have e1 : ((pr L).any fun e => decide (e.1 = k)) = L.any fun e => decide (e.1 = k) := by
    unfold pr
    rw [List.any_map]
    rfl
  unfold aPut
  rw [e1]
  split
  · unfold pr
    rw [List.map_map, List.map_map]
    refine List.map_congr_left fun e _ => ?_
    show ((if e.1 = k then (e.1, (a, b)) else e).1, (if e.1 = k then (e.1, (a, b)) else e).2.2) = if e.1 = k then (e.1, b) else (e.1, e.2.2)
    split <;> rfl
  · rw [pr_app]
    rfl
theorem pr_mem {L : List (Str × (Addr × β))} {e : Str × (Addr × β)} (h : e ∈ L) : (e.1, e.2.2) ∈ pr L := List.mem_map.mpr ⟨e, h, rfl⟩
theorem pr_get {L : List (Str × (Addr × β))} {k : Str} {b : β} (h : aGet (pr L) k = some b) : ∃ a, aGet L k = some (a, b) := by
  rw [aGet_pr] at h
  obtain ⟨⟨a, c⟩, h1, h2⟩ := Option.map_eq_some_iff.mp h
  exact ⟨a, by rw [h1, show c = b from h2]⟩
theorem pr_none {L : List (Str × (Addr × β))} {k : Str} (h : aGet (pr L) k = none) : aGet L k = none := by
  rw [aGet_pr] at h
  exact Option.map_eq_none_iff.mp h
theorem enc_get {α : Type} {g : α → V} {L : List (Str × α)} {k : Str} {v : α} (h : aGet L k = some v) : valV (enc g L) (Sum.inr k) = some (g v) := by rw [valV_enc, h]; rfl
theorem enc_none {α : Type} {g : α → V} {L : List (Str × α)} {k : Str} (h : aGet L k = none) : valV (enc g L) (Sum.inr k) = none := by rw [valV_enc, h]; rfl
theorem nd_sub_len {α : Type} [DecidableEq α] : ∀ {l m : List α}, l.Nodup → (∀ x ∈ l, x ∈ m) → l.length ≤ m.length
  | [], _, _, _ => Nat.zero_le _
  | x :: r, m, nd, h => by
    obtain ⟨n1, n2⟩ := List.nodup_cons.mp nd
    have hx := h x List.mem_cons_self
    have := nd_sub_len n2 (m := m.erase x) fun y hy => (List.mem_erase_of_ne fun e => n1 (by rw [← e]; exact hy)).mpr (h y (List.mem_cons_of_mem _ hy))
    have e := List.length_erase_of_mem hx
    have : 0 < m.length := List.length_pos_of_mem hx
    simp only [List.length_cons]
    omega
theorem nd_three {α : Type} {L : List (Str × α)} {a b c : Str} (nd : (L.map (·.1)).Nodup) (h : ∀ e ∈ L, e.1 ∈ [a, b, c]) : L.length ≤ 3 := by
  have := nd_sub_len nd (m := [a, b, c]) fun x hx => by
    obtain ⟨e, he, rfl⟩ := List.mem_map.mp hx
    exact h e he
  rw [List.length_map] at this
  exact this
end
section
variable {H : Hp} {Q : VK} {v : V} {a : Addr} {kvs : List (Key × V)} {z : Str}
theorem g_dinY (h : H a = some (.dK kvs)) (e : valV kvs (Sum.inr z) = some v) (q : Q (.bl true) H) : rDIn false (.str z) (.ref a) H Q := g_dinS h (by rw [e]; exact q)
theorem g_dinN (h : H a = some (.dK kvs)) (e : valV kvs (Sum.inr z) = none) (q : Q (.bl false) H) : rDIn false (.str z) (.ref a) H Q := g_dinS h (by rw [e]; exact q)
theorem g_dniY (h : H a = some (.dK kvs)) (e : valV kvs (Sum.inr z) = some v) (q : Q (.bl false) H) : rDIn true (.str z) (.ref a) H Q := g_dinS h (by rw [e]; exact q)
theorem g_dniN (h : H a = some (.dK kvs)) (e : valV kvs (Sum.inr z) = none) (q : Q (.bl true) H) : rDIn true (.str z) (.ref a) H Q := g_dinS h (by rw [e]; exact q)
end
theorem szl {n : Nat} (h : n ≤ 10000) : n ≤ sizeLine := by rw [sizeLine_eq]; omega
theorem szt {n : Nat} (h : n ≤ 10000) : n < sizeLine := by rw [sizeLine_eq]; omega
theorem enc_rf {β : Type} {L : List (Str × (Addr × β))} {k : Str} {a : Addr} {b : β} (h : aGet L k = some (a, b)) : valV (enc rf L) (Sum.inr k) = some (.ref a) := enc_get h
/-- what is not of a frame's kinds -/
theorem Kp.get {M : List Addr} {H H' : Hp} {a : Addr} {o : HO} (k : Kp M H H') (h : H a = some o) (n : ∀ b ∈ M, H b ≠ some o) : H' a = some o := k _ _ h fun m => n a m h
/-! ## 13. for -/
section
variable {K : PySem.W.Frag} {σ : L2.St} {H : Hp} {v x y : V} {ta tv te td tl ty : TE} {D : Ends} {g : TG} {tb : TS} {a : Addr} {i0 : Nat} {f : Str}
def ForRun (J : It) (g : TG) (tb : TS) (D : Ends) (σ : L2.St) (H : Hp) : Prop := ∃ W : Nat → Nat → L2.St → Hp → Prop, (∃ m, W 0 m σ H) ∧ ∀ i m σ H, W i m σ H →
  (J.stop i H ∧ D.nx σ H) ∨ (J.go i H ∧ ∃ N : L2.St → Hp → Prop, (∀ σ' H', N σ' H' → ∃ m', m' < m ∧ W (i + 1) m' σ' H') ∧ ∀ x H', J.yld i H x H' → g x σ H' fun σ2 H2 => tb { D with nx := N, ct := N, bk := D.nx } σ2 H2)
theorem g_forl (q : tl σ H fun x H1 => ∃ a, x = .ref a ∧ (∃ xs, SqL K H1 a xs) ∧ ForRun (Itl K a) g tb D σ H1) : tFor (iList K tl) g tb D σ H := q
theorem g_forr {ta : TA} (q : ta σ H fun ws H1 => ∃ j : Int, ws = [.int j] ∧ -(2 ^ 62) ≤ j ∧ j < 2 ^ 62 ∧ ForRun (Itr 0 j.toNat) g tb D σ H1) : tFor (iRng1 ta) g tb D σ H := q
theorem run_of {J : It} {items : List V} {G : Hp → Prop} (w : Walk J items.length G (YAt items)) (Pv : Nat → L2.St → Hp → Prop) (h0 : Pv 0 σ H) (hG : ∀ i σ H, Pv i σ H → G H)
    (hb : ∀ i x σ H, i < items.length → items[i]? = some x → Pv i σ H → tb { D with nx := Pv (i + 1), ct := Pv (i + 1), bk := D.nx } (σ.set i0 (some x)) H) (hq : ∀ σ H, Pv items.length σ H → D.nx σ H) : ForRun J (gName i0) tb D σ H :=
  for_it w Pv h0 (fun i σ H _ p => hG i σ H p) (fun i x σ H H' hi p y => by
    obtain ⟨rfl, hx⟩ := y
    exact hb i x σ H' hi hx p) hq
theorem r_forl {xs : List V} (h : SqL K H a xs) (Pv : Nat → L2.St → Hp → Prop) (h0 : Pv 0 σ H) (hG : ∀ i σ H, Pv i σ H → SqL K H a xs)
    (hb : ∀ i x σ H, i < xs.length → xs[i]? = some x → Pv i σ H → tb { D with nx := Pv (i + 1), ct := Pv (i + 1), bk := D.nx } (σ.set i0 (some x)) H) (hq : ∀ σ H, Pv xs.length σ H → D.nx σ H) :
    ∃ b, V.ref a = .ref b ∧ (∃ xs, SqL K H b xs) ∧ ForRun (Itl K b) (gName i0) tb D σ H := ⟨a, rfl, ⟨xs, h⟩, run_of walk_list Pv h0 hG hb hq⟩
theorem r_forr {j : Int} (z0 : 0 ≤ j) (z1 : j < 16777216) (Pv : Nat → L2.St → Hp → Prop) (h0 : Pv 0 σ H)
    (hb : ∀ (i : Nat) σ H, (i : Int) < j → Pv i σ H → tb { D with nx := Pv (i + 1), ct := Pv (i + 1), bk := D.nx } (σ.set i0 (some (.int i))) H) (hq : ∀ σ H, Pv j.toNat σ H → D.nx σ H) :
    ∃ k : Int, [V.int j] = [.int k] ∧ -(2 ^ 62) ≤ k ∧ k < 2 ^ 62 ∧ ForRun (Itr 0 k.toNat) (gName i0) tb D σ H :=
  ⟨j, rfl, by omega, by omega, run_of (walk_rng j.toNat) Pv h0 (fun _ _ _ _ => trivial) (fun i x σ H hi hx p => by
    rw [rngV_len] at hi
    rw [rngV_at hi] at hx
    cases hx
    exact hb i σ H (by omega) p) (by rw [rngV_len]; exact hq)⟩
/-- o.f += e -/
def rFldA (K : PySem.W.Frag) (f : Str) (x : V) (H1 : Hp) (k : Addr → Addr → V → Prop) : Prop := ∃ a C dx fs v, x = .ref a ∧ H1 a = some (.ins C dx fs) ∧ Cls K C ∧ NoAttr K C f ∧ fs.lookup f = some v ∧ k a C v
def rSFldA (f : Str) (z : V) (a C : Addr) (H3 : Hp) (N : Hp → Prop) : Prop := ∃ dx' fs', H3 a = some (.ins C dx' fs') ∧ fs'.length < 1000 ∧ N (upd H3 a (.ins C dx' (putF f z fs')))
theorem g_sfauk {rd : V → V → Hp → VK → Prop} (q : ta σ H fun x H1 => rFldA K f x H1 fun a C v => tv σ H1 fun y H2 => rd v y H2 fun z H3 => rSFldA f z a C H3 (D.nx σ)) : sFldAug K ta tv rd f D σ H := q
theorem g_fldA {a C dx : Addr} {fs : List (Str × V)} {k : Addr → Addr → V → Prop} (h : H a = some (.ins C dx fs)) (c : Cls K C) (n : NoAttr K C f) (l : fs.lookup f = some v) (q : k a C v) : rFldA K f (.ref a) H k := ⟨a, C, dx, fs, v, rfl, h, c, n, l, q⟩
theorem g_sfldA {a C dx : Addr} {fs fs' : List (Str × V)} {N : Hp → Prop} (h : H a = some (.ins C dx fs)) (l : fs.length < 1000) (e : putF f y fs = fs') (q : N (upd H a (.ins C dx fs'))) : rSFldA f y a C H N := by
  subst e
  exact ⟨dx, fs, h, l, q⟩
theorem g_addI {a b : Int} {Q : VK} (q : Q (.int (a + b)) H) : rAdd (.int a) (.int b) H Q := ⟨a, b, rfl, rfl, q⟩
theorem g_ddel (q : td σ H fun x H1 => ty σ H1 fun y H2 => ∃ a kvs k, x = .ref a ∧ H2 a = some (.dK kvs) ∧ y = kV k ∧ (valV kvs k).isSome = true ∧ D.nx σ (upd H2 a (.dK (dropK kvs k)))) : sDDel td ty D σ H := q
theorem g_del1 {kvs : List (Key × V)} {z : Str} {N : Hp → Prop} (h : H a = some (.dK kvs)) (e : (valV kvs (Sum.inr z)).isSome = true) (q : N (upd H a (.dK (dropK kvs (Sum.inr z))))) : ∃ b ws k, V.ref a = .ref b ∧ H b = some (.dK ws) ∧ V.str z = kV k ∧ (valV ws k).isSome = true ∧ N (upd H b (.dK (dropK ws k))) := ⟨a, kvs, .inr z, rfl, h, rfl, e, q⟩
end
theorem aGet_filter {α : Type} (p : Str → Bool) (k : Str) : ∀ L : List (Str × α), aGet (L.filter fun e => p e.1) k = if p k = true then aGet L k else none
  | [] => by cases p k <;> rfl
  | e :: r => by
    have ih := aGet_filter p k r
    rw [List.filter_cons]
    by_cases hk : e.1 = k
    · cases hp : p k with
      | true => rw [if_pos (by rw [hk]; exact hp), if_pos rfl]; simp [aGet, List.find?_cons, hk]
      | false => rw [if_neg (by rw [hk, hp]; exact Bool.false_ne_true), ih, hp]; rfl
    · have e2 : aGet (e :: r) k = aGet r k := by simp [aGet, List.find?_cons, hk]
      rw [e2, ← ih]
      split
      · simp [aGet, List.find?_cons, hk]
      · rfl
theorem pr_filter {β : Type} (p : Str × β → Bool) (L : List (Str × (Addr × β))) : pr (L.filter fun e => p (e.1, e.2.2)) = (pr L).filter p := by
  unfold pr
  rw [List.filter_map]
  rfl
theorem aGet_key {α : Type} {L : List (Str × α)} {k : Str} (h : k ∈ L.map (·.1)) : ∃ v, aGet L k = some v := by
  cases e : aGet L k with
  | some v => exact ⟨v, rfl⟩
  | none =>
    obtain ⟨u, hu, rfl⟩ := List.mem_map.mp h
    exact absurd hu (aGet_none.mp e u.2)
theorem ins_ne {C C' dx dy : Addr} {fs fs' : List (Str × V)} (h : fs.length ≠ fs'.length) : HO.ins C dx fs ≠ HO.ins C' dy fs' := fun z => by
  injection z with _ _ z
  exact h (congrArg List.length z)
theorem not_mem_take {α : Type} {l : List α} {i : Nat} {x : α} (nd : l.Nodup) (h : l[i]? = some x) : x ∉ l.take i := fun m => by
  have e := take_snoc h
  have := nd.sublist (List.take_sublist (i + 1) l)
  rw [e] at this
  exact (List.nodup_append.mp this).2.2 x m x (by simp) rfl
theorem drop_take {α : Type} {L : List (Str × α)} {EE : List Str} {i : Nat} {k : Str} (h : EE[i]? = some k) : aDrop (L.filter fun e => !decide (e.1 ∈ EE.take i)) k = L.filter fun e => !decide (e.1 ∈ EE.take (i + 1)) := by
  unfold aDrop
  rw [List.filter_filter, take_snoc h]
  refine List.filter_congr fun e _ => ?_
  by_cases h1 : e.1 = k
  · simp [h1]
  · simp [h1]
theorem upd_self {H : Hp} {a : Addr} {o : HO} (h : H a = some o) : upd H a o = H := by
  funext b
  by_cases e : b = a
  · rw [e, upd_same, h]
  · rw [upd_ne e]
theorem aDrop_none {α : Type} {L : List (Str × α)} {k : Str} (h : aGet L k = none) : aDrop L k = L := List.filter_eq_self.mpr fun e he => decide_eq_true fun z => aGet_none.mp h e.2 (by rw [← z]; exact he)
theorem g_dpop2 {σ : L2.St} {H : Hp} {Q : VK} {td ty tx : TE} (q : td σ H fun x H1 => ∃ a, x = .ref a ∧ IsD H1 a ∧ ty σ H1 fun y H2 => tx σ H2 fun z H3 => ∃ kvs k, H3 a = some (.dK kvs) ∧ y = kV k ∧
  (∀ v, valV kvs k = some v → Q v (upd H3 a (.dK (dropK kvs k)))) ∧ (valV kvs k = none → Q z H3)) : tDPop2 td ty tx σ H Q := q
/-- d.pop(k, x), the answer not looked at -/
theorem g_popE {α : Type} {g : α → V} {H : Hp} {a : Addr} {z : Str} {L : List (Str × α)} {N : Hp → Prop} (h : H a = some (.dK (enc g L))) (q : N (upd H a (.dK (enc g (aDrop L z))))) :
    ∃ kvs k, H a = some (.dK kvs) ∧ V.str z = kV k ∧ (∀ v, valV kvs k = some v → N (upd H a (.dK (dropK kvs k)))) ∧ (valV kvs k = none → N H) :=
  ⟨_, .inr z, h, rfl, fun _ _ => by rw [dropK_enc]; exact q, fun e => by
    have e2 : aGet L z = none := by
      rw [valV_enc] at e
      exact Option.map_eq_none_iff.mp e
    rw [aDrop_none e2, upd_self h] at q
    exact q⟩
theorem aGet_drop_same {α : Type} (L : List (Str × α)) (k : Str) : aGet (aDrop L k) k = none := by rw [aGet_drop, if_pos rfl]
/-! ## 14. more of lists and dicts -/
section
variable {K : PySem.W.Frag} {σ : L2.St} {H : Hp} {Q : VK} {a b : Addr} {td : TE} {xs zs : List V} {i0 : Nat} {D : Ends} {tb : TS}
theorem g_cat (h1 : H a = some (.lst xs)) (h2 : H b = some (.lst zs)) (l : xs.length + zs.length ≤ sizeLine) (q : ∀ p, H p = none → Q (.ref p) (upd H p (.lst (xs ++ zs)))) : rCat (.ref a) (.ref b) H Q := ⟨a, b, xs, zs, rfl, rfl, h1, h2, l, q⟩
/-- a list taken once or not at all -/
theorem g_repB {c : Bool} (h : H a = some (.lst xs)) (l : xs.length ≤ sizeLine) (q : ∀ p, H p = none → Q (.ref p) (upd H p (.lst (if c then xs else [])))) : rRep (.ref a) (.int (if c then 1 else 0)) H Q := by
  refine ⟨a, _, xs, rfl, rfl, h, ?_, ?_, ?_, fun p hp => ?_⟩
  · cases c <;> decide
  · cases c <;> decide
  · cases c
    · exact Nat.le_trans (Nat.le_of_eq (Nat.mul_zero _)) (Nat.zero_le _)
    · exact Nat.le_trans (Nat.le_of_eq (Nat.mul_one _)) l
  · have e : (List.replicate (if c = true then (1 : Int) else 0).toNat xs).flatten = if c = true then xs else [] := by
      cases c
      · rfl
      · show (xs ++ ([] : List V)) = xs
        rw [List.append_nil]
    rw [e]
    exact q p hp
theorem g_ixS {z : Str} {i : Int} {c : Nat} (l : z.length ≤ sizeLine) (e : atI z.cps.toList i = some c) (q : Q (.str ⟨#[c]⟩) H) : rIxS (.str z) (.int i) H Q := ⟨z, i, c, rfl, rfl, l, e, q⟩
theorem merge_enc {α : Type} {g : α → V} : ∀ (B A : List (Str × α)), ((A ++ B).map (·.1)).Nodup → mergeK (enc g A) (enc g B) = enc g (A ++ B)
  | [], A, _ => by rw [List.append_nil]; rfl
  | e :: B, A, nd => by
    have ne : aGet A e.1 = none := aGet_none.mpr fun v m => by
      rw [List.map_append] at nd
      exact (List.nodup_append.mp nd).2.2 e.1 (List.mem_map.mpr ⟨_, m, rfl⟩) e.1 (by simp) rfl
    show mergeK (putK (enc g A) (Sum.inr e.1) (g e.2)) (enc g B) = _
    rw [putK_enc, aPut_new _ ne, merge_enc B (A ++ [(e.1, e.2)]) (by rw [List.append_assoc]; exact nd), List.append_assoc]
    rfl
/-- dict(pairs), the names all different -/
theorem g_dictN {α : Type} {g : α → V} {ps : List Addr} {L : List (Str × α)} (h : SqL K H a (ps.map V.ref)) (hp : Paired (fun p e => SqT K H p [.str e.1, g e.2]) ps L) (nd : (L.map (·.1)).Nodup) (q : ∀ p, H p = none → Q (.ref p) (upd H p (.dK (enc g L)))) : rDictP K [.ref a] H Q := by
  refine ⟨a, ps, enc g L, rfl, h, ?_, fun p hp => ?_⟩
  · have : ∀ {ps : List Addr} {L : List (Str × α)}, Paired (fun p e => SqT K H p [.str e.1, g e.2]) ps L → Paired (fun p kv => SqT K H p [kV kv.1, kv.2]) ps (enc g L) := by
      intro ps L q
      induction q with
      | nil => exact .nil
      | cons r t ih => exact .cons r ih
    exact this hp
  · have e := merge_enc (g := g) L [] (by simpa using nd)
    rw [show mergeK [] (enc g L) = enc g ([] ++ L) from e]
    exact q p hp
theorem keys_enc {α : Type} {g : α → V} (L : List (Str × α)) : keysV (enc g L) = L.map fun e => V.str e.1 := by
  unfold keysV enc
  rw [List.map_map]
  rfl
theorem paired_flat {α β γ : Type} {F : α → γ → Prop} {f : β → γ} : ∀ {ps : List α} {L : List β}, Paired F ps (L.map f) → Paired (fun p e => F p (f e)) ps L
  | _, [], h => by cases h; exact .nil
  | _, _ :: _, h => by
    cases h with
    | cons r t => exact .cons r (paired_flat t)
theorem paired_mem {α β : Type} {F : α → β → Prop} : ∀ {ps : List α} {L : List β}, Paired F ps L → Paired (fun p e => F p e ∧ e ∈ L) ps L
  | _, _, .nil => .nil
  | _, _, .cons r t => .cons ⟨r, List.mem_cons_self⟩ (Paired.mapP (paired_mem t) fun _ _ h => ⟨h.1, List.mem_cons_of_mem _ h.2⟩)
/-- [(k, d[k]) for k in d if q k] -/
theorem g_lcKN {α : Type} {g : α → V} {d : Addr} {L : List (Str × α)} {tt : TT} {te : TE} (h : H d = some (.dK (enc g L))) (nd : (L.map (·.1)).Nodup) (hd : ∀ (H' : Hp) (R : VK), R (.ref d) H' → td σ H' R) (hz : L.length < sizeLine) (q : Str → Bool)
    (ht : ∀ e ∈ L, ∀ od H', H' d = some (.frz od (.dK (enc g L))) → Kp [d] H H' → An tt ((wipe σ [i0]).set i0 (some (.str e.1))) H' (q e.1))
    (he : ∀ e ∈ L, ∀ od H', H' d = some (.frz od (.dK (enc g L))) → Kp [d] H H' → ∀ R : VK, (∀ t, H' t = none → R (.ref t) (upd H' t (.tup [.str e.1, g e.2]))) → te ((wipe σ [i0]).set i0 (some (.str e.1))) H' R)
    (k : ∀ (D : Addr) (H' : Hp) (ps : List Addr), H D = none → Same H H' → H' D = some (.lst (ps.map V.ref)) → Paired (fun t e => H t = none ∧ t ≠ D ∧ H' t = some (.tup [.str e.1, g e.2])) ps (L.filter fun e => q e.1) → Q (.ref D) H') : tLockE (tLc (iKeys td) (gName i0) tt te [i0]) σ H Q := by
  have back : ∀ x ∈ keysV (enc g L), ∃ e ∈ L, x = .str e.1 := fun x hx => by
    rw [keys_enc] at hx
    obtain ⟨e, he, rfl⟩ := List.mem_map.mp hx
    exact ⟨e, he, rfl⟩
  refine g_lcKT (kvs := enc g L) h hd (by rw [enc_len]; exact hz) (fun v => match v with | .str k => q k | _ => false) (fun v => match v with | .str k => [.str k, (valV (enc g L) (Sum.inr k)).getD .non] | _ => []) (fun x hx od H' e1 e2 => ?_) (fun x hx _ od H' e1 e2 R hR => ?_) fun D H' ps e1 e2 e3 e4 => k D H' ps e1 e2 e3 ?_
  · obtain ⟨e, he, rfl⟩ := back x hx
    exact ht e he od H' e1 e2
  · obtain ⟨e, hm, rfl⟩ := back x hx
    refine he e hm od H' e1 e2 R ?_
    have : valV (enc g L) (Sum.inr e.1) = some (g e.2) := enc_get (aGet_of_mem nd hm)
    have hR : ∀ t, H' t = none → R (.ref t) (upd H' t (.tup [.str e.1, (valV (enc g L) (Sum.inr e.1)).getD .non])) := hR
    rw [this] at hR
    exact hR
  · rw [keys_enc, List.filter_map] at e4
    refine Paired.mapP (paired_mem (paired_flat e4)) fun t e ⟨⟨h1, h2, h3⟩, hm⟩ => ⟨h1, h2, ?_⟩
    have hm := (List.mem_filter.mp hm).1
    have e5 : valV (enc g L) (Sum.inr e.1) = some (g e.2) := enc_get (aGet_of_mem nd hm)
    have h3 : H' t = some (.tup [.str e.1, (valV (enc g L) (Sum.inr e.1)).getD .non]) := h3
    rw [e5] at h3
    exact h3
/-- for over a dict's names, the dict locked -/
theorem r_forK {d : Addr} {kvs : List (Key × V)} (h : H d = some (.dK kvs)) (hd : ∀ (H' : Hp) (R : VK), R (.ref d) H' → td σ H' R) (Pv : Nat → L2.St → Hp → Prop) (h0 : ∀ od, Pv 0 σ (upd H d (.frz od (.dK kvs)))) 
    (hG : ∀ i σ H', Pv i σ H' → Kp [d] H H')
    (hb : ∀ od i x σ H' (D' : Ends), i < kvs.length → (keysV kvs)[i]? = some x → Pv i σ H' → H' d = some (.frz od (.dK kvs)) → (∀ σ H', Pv (i + 1) σ H' → H' d = some (.frz od (.dK kvs)) → D'.nx σ H') → tb D' (σ.set i0 (some x)) H') (hq : ∀ σ H', Pv kvs.length σ H' → D.nx σ (upd H' d (.dK kvs))) :
    tLock (tFor (iKeys td) (gName i0) tb) D σ H := by
  refine ⟨d, _, h, trivial, fun od => hd _ _ ⟨d, od, rfl, .inl ⟨kvs, upd_same, ?_⟩⟩⟩
  have hl : (keysV kvs).length = kvs.length := List.length_map ..
  refine run_of (walk_keysV kvs) (fun i σ H' => Pv i σ H' ∧ H' d = some (.frz od (.dK kvs))) ⟨h0 od, upd_same⟩ (fun _ _ _ z => z.2) (fun i x σ H' hi hx ⟨p, f⟩ => ?_) fun σ H' ⟨p, f⟩ => ⟨f, ?_⟩
  · exact hb od i x σ H' _ (by rw [hl] at hi; exact hi) hx p f fun σ H' p f => ⟨p, f⟩
  · rw [hl] at p
    exact hq σ H' p
end
theorem inV_str (k : Str) : ∀ E : List Str, inV (.str k) (E.map V.str) = decide (k ∈ E)
  | [] => rfl
  | x :: r => by
    have ih := inV_str k r
    show ((x == k) || inV (.str k) (r.map V.str)) = _
    rw [ih, Bool.beq_eq_decide_eq, ← Bool.decide_or]
    exact decide_eq_decide.mpr ⟨fun h => h.elim (fun e => by rw [e]; exact List.mem_cons_self) (List.mem_cons_of_mem _), fun h => (List.mem_cons.mp h).elim (fun e => .inl e.symm) .inr⟩
theorem flat_strs : ∀ E : List Str, (E.map V.str).all flatV = true
  | [] => rfl
  | _ :: r => flat_strs r
theorem g_andB {σ : L2.St} {H : Hp} {Q : VK} {ta tb : TE} {a b : Bool} (h1 : ∀ R : VK, R (.bl a) H → ta σ H R) (h2 : ∀ R : VK, R (.bl b) H → tb σ H R) (q : Q (.bl (a && b)) H) : tAndV ta tb σ H Q := by
  refine h1 _ ⟨a, rfl, ?_⟩
  cases a
  · exact iteF q
  · exact iteT (h2 _ q)
theorem g_orB {σ : L2.St} {H : Hp} {Q : VK} {ta tb : TE} {a b : Bool} (h1 : ∀ R : VK, R (.bl a) H → ta σ H R) (h2 : ∀ R : VK, R (.bl b) H → tb σ H R) (q : Q (.bl (a || b)) H) : tOrV ta tb σ H Q := by
  refine h1 _ ⟨a, rfl, ?_⟩
  cases a
  · exact iteF (h2 _ q)
  · exact iteT q
theorem paired_app {α β : Type} {F : α → β → Prop} : ∀ {l1 : List α} {m1 : List β} {l2 : List α} {m2 : List β}, Paired F l1 m1 → Paired F l2 m2 → Paired F (l1 ++ l2) (m1 ++ m2)
  | _, _, _, _, .nil, q => q
  | _, _, _, _, .cons r t, q => .cons r (paired_app t q)
theorem paired_get {α β : Type} {F : α → β → Prop} : ∀ {l : List α} {m : List β} {i : Nat} {y : β}, Paired F l m → m[i]? = some y → ∃ x, l[i]? = some x ∧ F x y
  | _, _, i, _, .nil, h => by simp at h
  | _, _, 0, _, .cons r _, h => ⟨_, rfl, by rw [← Option.some.inj h]; exact r⟩
  | _, _, i + 1, _, .cons _ t, h => paired_get (i := i) t h
/-- a value of the module's top -/
theorem pe_gcI {X : Cx} {x : Str} {v : V} {pos : Pos} (hg : Gl X x) (hm : ∃ u, X.mg x = some u ∧ RelV v u) (hd : (x == ("__debug__" : Str)) = false := by decide) : PE X (.Name x pos) (tC v) := by
  obtain ⟨u, hm, r⟩ := hm
  exact pe_glob hg hm r hd
section
variable {K : PySem.W.Frag} {σ : L2.St} {H : Hp} {Q : VK} {to : TE} {t : TA} {T : String} {r : V → List V → Hp → VK → Prop} {l : Addr} {xs : List V} {x y : V}
theorem g_bm (q : to σ H fun x H1 => tyV K T x H1 ∧ t σ H1 fun xs H2 => r x xs H2 Q) : tBM K T r to t σ H Q := q
theorem g_append (h : H l = some (.lst xs)) (few : xs.length < sizeLine) (q : Q .non (upd H l (.lst (xs ++ [y])))) : rAppend (.ref l) [y] H Q := ⟨l, xs, y, rfl, rfl, h, few, q⟩
theorem ty_lst (h : H l = some (.lst xs)) : tyV K "list" (.ref l) H := .inl ⟨rfl, xs, SqL.of h⟩
theorem g_isin {p : Addr} (h : SqL K H p xs ∨ SqT K H p xs) (h1 : flatV x = true) (h2 : xs.all flatV = true) (q : Q (.bl (inV x xs)) H) : rIn K false x (.ref p) H Q := ⟨p, xs, rfl, h, h1, h2, q⟩
end
end Pr

/-! lambdas kept in a list, called later -/
namespace Pr
open PySem PySem.Spec PyProof.Rows L2 LamX NdefX
/-- the object at f is the lambda F with the body e -/
def LmO (f : Addr) (F : NF) (e : Expr) : HO := .ext fun h => ∃ (od : Option Addr) (sl : Array (Option Value)) (pm ctv : Value), h.get? f = some (⟨.type "function", od, .func (PySem.W.kla_fn F.name F.qual F.params e F.scope F.cl pm (.ref F.c) ctv), sl⟩ : Obj)
theorem lmO_at {P : Program} {w : World} {H : Hp} {h : Heap} {f : Addr} {F : NF} {e : Expr} (hok : HOk P w H h) (q : H f = some (LmO f F e)) : ∃ (od : Option Addr) (sl : Array (Option Value)) (pm ctv : Value), h.get? f = some (⟨.type "function", od, .func (PySem.W.kla_fn F.name F.qual F.params e F.scope F.cl pm (.ref F.c) ctv), sl⟩ : Obj) := (hok f _ q).1
section
variable {X : Cx} {pins : List (Addr × Obj)} {σ : L2.St} {H : Hp} {s : Shared}
theorem lm_track {F : NF} {e : Expr} {o : Obj} {tk : Nat} {pm ctv : Value} (I : Inv X pins σ H s) (ho : o = { cls := .type "function", data := .func (PySem.W.kla_fn F.name F.qual F.params e F.scope F.cl pm (.ref F.c) ctv) }) :
    Inv X pins σ (upd H s.heap.objs.size (LmO s.heap.objs.size F e)) { s with heap := s.heap.push o, toks := tk } := by
  subst ho
  refine Inv.laid I (fun _ _ z => Heap.get?_push_of_some _ z) (Nat.le_refl _) ⟨⟨none, #[], pm, ctv, Heap.get?_push_size _ rfl⟩, ⟨_, Heap.get?_push_size _ rfl⟩, ?_⟩
  rintro g1 g2 ⟨od, sl, pm2, ct2, z⟩ st
  exact ⟨od, sl, pm2, ct2, st _ z⟩
theorem ext_new {H' : Hp} {b : Addr} {o : HO} (e : ExtN H H') (n : H' b = none) : ExtN H (upd H' b o) := fun c u z q => (upd_ne (ne_of_none (e c u z q) n)).trans (e c u z q)
theorem tabs_new {T : List (Addr × Str)} {H' : Hp} {b : Addr} {o : HO} (t : Tabs T H') (n : H' b = none) : Tabs T (upd H' b o) := t.ext fun _ _ z => (upd_ne (ne_of_none z n)).trans z
/-- a lambda is made and known from now on -/
theorem lm_make {T : List (Addr × Str)} {c P : Addr} {params : Arguments} {body : Expr} {scope : Scope} {pos : Pos} {E : Value → Shared → Prop} {Q : Value → Shared → Prop} (I : Inv X pins σ H s) (TB : TabB X.base X.mg c P) (hcode : X.env.code = .ref c)
    (hm : (P, X.env.qual ++ "<lambda>") ∈ T) (hu : ∀ p ∈ T, p.1 = P → p.2 = X.env.qual ++ "<lambda>") (hT : Tabs T H) (hdef : defaultsOf params X.env = ([], [])) (hfree : ∀ y ∈ scope.names, y.2 = .free → ∃ c, X.env.cells.lookup y.1 = some c)
    (k : ∀ (f c' : Addr) (H' : Hp) (s' : Shared), Inv X pins σ H' s' → ExtN H H' → Tabs T H' → H f = none → H' f = some (LmO f ⟨"<lambda>", X.env.qual ++ "<lambda>", params, [], scope, cloFrom X.env.cells scope.names [], c'⟩ body) → H' c' = some (CodeO c' (X.env.qual ++ "<lambda>")) → Q (.ref f) s') :
    wpAny (model X.prog X.w) X.A (eval (.Lambda params body scope pos) X.env) Q E s := by
  obtain ⟨tab, tabH, tri, told⟩ := hT (P, X.env.qual ++ "<lambda>") hm
  have bmP := TB.bm.keeps I.bk
  have getP : s.heap.get? P = some { cls := .none, data := .fields tab } := I.hok P _ tabH
  have cl0 := closure_ok (scope := scope) hfree
  apply PySem.W.kla_eval hdef
  rcases among : codeAmong pos tab.toList with _ | cv
  · refine PySem.W.kla_makeFunction (P := P) (c := c) (mg := X.mg) (ps := tab) cl0 I.ok.glob (I.mod.glob.keeps I.bk) hcode (TB.code.keeps I.bk) getP tri among TB.gP bmP ?_
    rintro c' ctv h' tk grow ge lt ⟨c2, oc, vs, t, e2, hoc, hd, hv⟩ tabNew
    cases e2
    have freshC : H c' = none := I.hok.fresh ge
    have J := inv_table (t' := tk) (more := #[rawInt pos.line, rawInt pos.col, .ref c']) (h' := h') I tabH (fun b o hb z => grow b o hb z) tabNew ge ⟨oc, vs, t, hoc, hd, hv⟩
    have eN : ExtN H (upd (upd H P (.tbl (tab ++ #[rawInt pos.line, rawInt pos.col, .ref c']))) c' (CodeO c' (X.env.qual ++ "<lambda>"))) := by
      intro b o z n
      have nb : b ≠ P := fun y => n tab (by rw [y, tabH] at z; exact (Option.some.inj z).symm)
      exact (upd_ne (ne_of_none z freshC)).trans ((upd_ne nb).trans z)
    have listE : (tab ++ #[rawInt pos.line, rawInt pos.col, .ref c']).toList = tab.toList ++ [rawInt pos.line, rawInt pos.col, .ref c'] := by simp
    have TN : Tabs T (upd (upd H P (.tbl (tab ++ #[rawInt pos.line, rawInt pos.col, .ref c']))) c' (CodeO c' (X.env.qual ++ "<lambda>"))) := by
      intro p hp
      by_cases at_ : p.1 = P
      · rw [at_, hu p hp at_]
        refine ⟨_, (upd_ne (ne_of_none tabH freshC)).trans upd_same, listE ▸ PySem.TriplesOk_snoc _ _ _ _ tri, ?_⟩
        intro p' cv' hcv
        rw [listE] at hcv
        rcases among_app _ tri hcv with z | z
        · obtain ⟨d, e1, e2⟩ := told p' cv' z
          exact ⟨d, e1, eN _ _ e2 codeO_ne⟩
        · exact ⟨c', z, upd_same⟩
      · obtain ⟨tb, a1, a2, a3⟩ := hT p hp
        refine ⟨tb, (upd_ne (ne_of_none a1 freshC)).trans ((upd_ne at_).trans a1), a2, fun p' cv' hcv => ?_⟩
        obtain ⟨d, e1, e2⟩ := a3 p' cv' hcv
        exact ⟨d, e1, eN _ _ e2 codeO_ne⟩
    have freshF := J.hok.fresh (Nat.le_refl _)
    have J2 := lm_track (F := ⟨"<lambda>", X.env.qual ++ "<lambda>", params, [], scope, cloFrom X.env.cells scope.names [], c'⟩) (e := body) (tk := tk) (pm := (X.mg "__name__").getD .none) (ctv := ctv) J rfl
    exact k h'.objs.size c' _ _ J2 (ext_new eN freshF) (tabs_new TN freshF) (I.hok.fresh (Nat.le_trans ge (Nat.le_of_lt lt))) upd_same ((upd_ne (Nat.ne_of_lt lt)).trans upd_same)
  · obtain ⟨c', rfl, codeH⟩ := told pos cv among
    refine PySem.W.kla_makeFunctionHit (P := P) (c := c) (mg := X.mg) (ps := tab) cl0 I.ok.glob (I.mod.glob.keeps I.bk) hcode (TB.code.keeps I.bk) getP tri among bmP ?_
    intro ctv h' tk grow _
    have J : Inv X pins σ H { s with heap := h', toks := tk } := Inv.kept I grow
    have freshF : H h'.objs.size = none := J.hok.fresh (Nat.le_refl _)
    have J2 := lm_track (F := ⟨"<lambda>", X.env.qual ++ "<lambda>", params, [], scope, cloFrom X.env.cells scope.names [], c'⟩) (e := body) (tk := tk) (pm := (X.mg "__name__").getD .none) (ctv := ctv) J rfl
    exact k h'.objs.size c' _ _ J2 (ext_new (ExtN.refl H) freshF) (tabs_new hT freshF) freshF upd_same ((upd_ne (ne_of_none codeH freshF)).trans codeH)
end
/-- the reading of «lambda: ..» as a value -/
def tMkLam (T : List (Addr × Str)) (e : Expr) (mk : Addr → NF) : TE := fun σ H Q => Tabs T H ∧ ∀ (f c' : Addr) (H' : Hp), ExtN H H' → Tabs T H' → H f = none → H' f = some (LmO f (mk c') e) → H' c' = some (CodeO c' (mk c').qual) → Q (.ref f) H'
theorem pe_lam {X : Cx} {T : List (Addr × Str)} {c P : Addr} {params : Arguments} {body : Expr} {scope : Scope} {pos : Pos} (TB : TabB X.base X.mg c P) (hcode : X.env.code = .ref c) (hm : (P, X.env.qual ++ "<lambda>") ∈ T) (hu : ∀ p ∈ T, p.1 = P → p.2 = X.env.qual ++ "<lambda>")
    (hdef : defaultsOf params X.env = ([], [])) (hfree : ∀ y ∈ scope.names, y.2 = .free → X.env.scope.names.lookup y.1 = some .cell ∨ X.env.scope.names.lookup y.1 = some .free) :
    PE X (.Lambda params body scope pos) (tMkLam T body fun c' => ⟨"<lambda>", X.env.qual ++ "<lambda>", params, [], scope, cloFrom X.env.cells scope.names [], c'⟩) := by
  refine ⟨fun pins s σ H Q I ⟨hT, h⟩ => ?_⟩
  refine lm_make I TB hcode hm hu hT hdef (fun y hy e => (hfree y hy e).elim (fun z => I.ok.has _ (.inl z)) fun z => I.ok.has _ (.inr z)) fun f c' H' s' J eN tN n1 n2 n3 => ?_
  exact ⟨.ref f, H', J, rfl, h f c' H' eN tN n1 n2 n3⟩
/-- what a lambda promises when it is called without arguments: ws tells its captured cells -/
structure LOk (P : Program) (w : World) (K : PySem.W.Frag) (mg : Str → Option Value) (base : Heap) (k : Nat) (f : Addr) (F : NF) (e : Expr) (fr : List Str) (sp : List (Option V) → Hp → VK → XK → Prop) : Prop where
  run : ∀ (A : Around) (outer : List Env) (s : Shared) (H : Hp) (ws : List (Option V)) (Q : VK) (E : XK), Room k A → Env0 P w K mg base A outer s H → H f = some (LmO f F e) → H F.c = some (CodeO F.c F.qual) → CellsAt F.cl fr ws s.heap H → sp ws H Q E →
    codeAny (model P w) A (.call (.ref f) ⟨[], []⟩) (CR (L2.CX P w) outer P w H s Q E) s
section
variable {P : Program} {w : World} {K : PySem.W.Frag} {mg : Str → Option Value} {base : Heap} {k j : Nat} {f : Addr} {F : NF} {e : Expr} {fr N : List Str} {sp : List (Option V) → Hp → VK → XK → Prop}
theorem LOk.mono (o : LOk P w K mg base k f F e fr sp) (h : k ≤ j) : LOk P w K mg base j f F e fr sp := ⟨fun A outer s H ws Q E hr => o.run A outer s H ws Q E (hr.mono h)⟩
/-- a lambda by its body -/
theorem lok_of (S : NScope N [] fr F.scope) (hb : ∀ (pm ctv : Value), bindArgs (PySem.W.kla_fn F.name F.qual F.params e F.scope F.cl pm (.ref F.c) ctv) ⟨[], []⟩ = pure [])
    (body : ∀ (A : Around) (outer : List Env) (s : Shared) (H : Hp) (ws : List (Option V)) (Q : VK) (E : XK), Room k (A.deeper (envF F f s.heap.objs.size)) → ws.length = fr.length → sp ws H Q E → ∃ t, PE (ncx (L2.CX P w) P w K mg base N F f A outer s H E) e t ∧ t (startF N [] ws) H Q) : LOk P w K mg base (k + 1) f F e fr sp := by
  refine ⟨fun A outer s H ws Q E room e0 tr cr cells prom => ?_⟩
  have unlim : s.heap.NoLimit := e0.mod.nolimit.keeps fun b o z => (e0.bs b o z).1
  obtain ⟨od, sl, pm, ctv, obj⟩ := lmO_at e0.hok tr
  obtain ⟨c2, oc, vs, t, cz, oz, dz, vz⟩ := codeO_at e0.hok cr
  apply PySem.W.kla_callFunE room.depth obj rfl S.co S.gen rfl ⟨c2, oc, vs, t, cz, oz, dz, vz⟩
  rw [hb pm ctv]
  refine wpAny_pure (wpAny_newFunctionEnv S.nocell (fun y hy => absurd hy (by simp)) (fun g ns sb => ⟨unlim.fresh _ sb, ?_⟩) S.kind)
  show codeAny _ _ (.expr e (envF F f s.heap.objs.size)) _ _
  obtain ⟨te, der, rd⟩ := body A outer s H ws Q E (room.deeper _) cells.len prom
  have keepG : ∀ b o, s.heap.get? b = some o → g.get? b = some o := fun b o z => sb.extBut b o (Nat.ne_of_lt (Heap.lt_size z)) (Heap.get?_push_of_some _ z)
  have start : Inv (ncx (L2.CX P w) P w K mg base N F f A outer s H E) [] (startF N [] ws) H { s with heap := g, toks := s.toks + ([] : List (Str × Value)).length } := inv_startN (ps := []) (us := []) S room.hd e0 rfl .nil cells ns keepG
  refine PySem.W.kla_codeExpr (wpAny_mono (der.run [] _ _ H Q start rd) (fun u s' hq => ?_) fun _ _ hq => hq)
  obtain ⟨v, H', I', rv, q⟩ := hq
  exact ⟨v, H', I'.os, I'.bare, I'.base, I'.hok, rv, q⟩
end
section
variable {X : Cx} {pins : List (Addr × Obj)} {σ : L2.St} {H : Hp} {s : Shared} {cl : List (Str × Addr)} {fr : List Str} {ws : List (Option V)}
theorem cells_later (C : CellsAt cl fr ws X.s_0.heap X.H_0) (hx : ∀ y c, cl.lookup y = some c → c ∉ X.ex) (I : Inv X pins σ H s) : CellsAt cl fr ws s.heap H := by
  have stay : ∀ y c v, cl.lookup y = some c → X.s_0.heap.IsCell c v → s.heap.IsCell c v := by
    rintro y c v e ⟨o, ho, hd⟩
    obtain ⟨sl, q⟩ := I.base.any ho (C.all y c e).1 (hx y c e)
    exact ⟨_, q, hd⟩
  refine ⟨C.len, fun y c e => ?_, C.inj, fun i y e => ?_⟩
  · obtain ⟨n, v, z⟩ := C.all y c e
    refine ⟨?_, v, stay y c v e z⟩
    obtain ⟨o, ho, _⟩ := z
    exact I.base.free c o ho n (hx y c e)
  · obtain ⟨c, hc, hv⟩ := C.has i y e
    refine ⟨c, hc, fun v ev => ?_⟩
    obtain ⟨u, r, z⟩ := hv v ev
    exact ⟨u, r, stay y c _ hc z⟩
theorem lm_fnAt {f : Addr} {F : NF} {e : Expr} (I : Inv X pins σ H s) (q : H f = some (LmO f F e)) : PySem.W.FnAt f s.heap := by
  obtain ⟨od, sl, pm, ctv, ho⟩ := lmO_at I.hok q
  exact ⟨_, od, _, sl, ho⟩
end
/-- a() in the def that got the lambda f, entered at s -/
theorem pe_actL {X : Cx} {k i : Nat} {f : Addr} {F : NF} {e : Expr} {fr : List Str} {ws : List (Option V)} {sp : List (Option V) → Hp → VK → XK → Prop} {a : Str} {E : XK} {p1 p2 : Pos} (L : LOk X.prog X.w X.K X.mg X.base k f F e fr sp) (hr : Room k X.A)
    (C : CellsAt F.cl fr ws X.s_0.heap X.H_0) (hex : X.ex = []) (hx : Passes (L2.CX X.prog X.w) X E) (hN : X.N[i]? = some a) (hv : Vis X.env.scope a) (hd : (a == ("__debug__" : Str)) = false := by decide) (hcd : (a == ("__classdict__" : Str)) = false := by decide) :
    PE X (.Call (.Name a p1) [] [] p2) (fun σ H Q => σ[i]? = some (some (.ref f)) ∧ H F.c = some (CodeO F.c F.qual) ∧ H f = some (LmO f F e) ∧ sp ws H Q E) := by
  refine ⟨fun pins s σ H Q I ⟨hs, hc, hf, hsp⟩ => ?_⟩
  refine wpAny_Call_Name_kw (thn ((pe_var (pos := p1) hN hv hd hcd).run pins s σ H (fun v H1 => v = .ref f ∧ H1 = H) I ⟨.ref f, hs, rfl, rfl⟩) ?_)
  rintro u s1 ⟨v, H1, I1, r1, rfl, rfl⟩
  obtain rfl : u = Value.ref f := r1
  refine PySem.W.callWith_F0 (lm_fnAt I1 hf) ?_
  have cells := cells_later C (fun y c _ => by rw [hex]; simp) I1
  refine wpAny_call (codeAny_mono (L.run X.A X.stack s1 H1 ws Q E hr I1.env0 hf hc cells hsp) fun r s' hq => ?_)
  rcases r with fl | e'
  · exact hx pins σ H1 s1 _ s' I1 hq
  · rcases e' with _ | _ | _ | u
    all_goals first
      | exact I1.after hq
      | exact False.elim hq
/-- the reading of «told(f)», f a name that holds a lambda; CP: what is known of the captured cells -/
def tToldL (P : Program) (w : World) (K : PySem.W.Frag) (mg : Str → Option Value) (base : Heap) (k i : Nat) (CP : NF → List Str → List (Option V) → Prop) (CS : Addr) (ret : Str) : TE := fun σ H Q =>
  ∃ (f : Addr) (F : NF) (e : Expr) (fr : List Str) (ws : List (Option V)) (sp : List (Option V) → Hp → VK → XK → Prop), σ[i]? = some (some (.ref f)) ∧ CP F fr ws ∧ LOk P w K mg base k f F e fr sp ∧ H f = some (LmO f F e) ∧ H F.c = some (CodeO F.c F.qual) ∧ TTold K CS ret (fun E H' Q' => sp ws H' Q' E) H Q
theorem pe_toldL {X : Cx} {CP : NF → List Str → List (Option V) → Prop} {x a ee ret bn : Str} {g CS : Addr} {k i : Nat} {pg : Arguments} {sg : Scope} {dV kV doc pm cdv ct oc : Value} {an od : Option Addr} {osl : Array (Option Value)} {Ng : List Str} {j : Nat} {p1 p2 p3 p4 p5 p6 p7 p8 p pb pos : Pos}
    (hC : ∀ F fr ws, CP F fr ws → CellsAt F.cl fr ws X.s_0.heap X.H_0 ∧ ∀ y c, F.cl.lookup y = some c → c ∉ X.ex) (hg : Gl X x) (hm : X.mg x = some (.ref g)) (hk : PySem.W.keepIn X.K (.ref g) = true)
    (lk : X.K.lookup g = some ⟨oc, od, .func (PySem.W.fnOf x x pg [.Try [.Return (some (.Call (.Name a p1) [] [] p2)) p3] [.ExceptHandler (some (.Name ee p4)) none [.Return (some (.Constant (.str ret) j p5)) p6] p7] [] [] p8] sg dV kV doc pm an cdv ct), osl⟩) (hcg : PySem.W.codeIn X.K cdv x = true)
    (hb : L2.Binds X.K (PySem.W.fnOf x x pg [.Try [.Return (some (.Call (.Name a p1) [] [] p2)) p3] [.ExceptHandler (some (.Name ee p4)) none [.Return (some (.Constant (.str ret) j p5)) p6] p7] [] [] p8] sg dV kV doc pm an cdv ct) [a] []) (Sg : FnScope Ng [a] sg) (hNg : Ng[0]? = some a) (hva : Vis sg a)
    (hge : sg.names.lookup ee = some .globalImplicit) (hme : X.mg ee = some (.ref CS)) (hde : (ee == ("__debug__" : Str)) = false) (h0 : ∀ f : Addr, (L2.start Ng [V.ref f])[0]? = some (some (V.ref f))) (hr : Room (k + 1) X.A)
    (hN : X.N[i]? = some bn) (hv : Vis X.env.scope bn) (hdb : (x == ("__debug__" : Str)) = false := by decide) (hbd : (bn == ("__debug__" : Str)) = false := by decide) (hbc : (bn == ("__classdict__" : Str)) = false := by decide) (hd : (a == ("__debug__" : Str)) = false := by decide) (hcd : (a == ("__classdict__" : Str)) = false := by decide) :
    PE X (.Call (.Name x p) [.Name bn pb] [] pos) (tToldL X.prog X.w X.K X.mg X.base k i CP CS ret) := by
  refine ⟨fun pins s σ H Q I ⟨f, F, e, fr, ws, sp, hs, cp, L, hf, hc, hT⟩ => ?_⟩
  obtain ⟨cells, cex⟩ := hC F fr ws cp
  refine wpAny_Call_Name_kw (ld_glob I hg hm ?_ hdb)
  refine PySem.W.callWith_K (h₀ := X.base) I.ok.mod.kin hk ?_ (by rfl) (by rfl)
  show wpAny _ _ (spliced ((false, eval (.Name bn pb) X.env) :: backTo pos (starEach [] X.env))) _ _ s
  refine Calls.spliced_cons (thn ((pe_var (pos := pb) hN hv hbd hbc).run pins s σ H (fun v H1 => v = .ref f ∧ H1 = H) I ⟨.ref f, hs, rfl, rfl⟩) ?_)
  rintro u s1 ⟨v, H1, I1, r1, rfl, rfl⟩
  obtain rfl : u = Value.ref f := r1
  refine Calls.spliced_nil ⟨I1.kIn, ?_⟩
  have done : codeAny (model X.prog X.w) X.A (.call (.ref g) ⟨[.ref f], []⟩) (CR C8.CX0 X.stack X.prog X.w H1 s1 Q C8.E0) s1 := by
    refine run_ofS (N := Ng) (ps := [a]) (us := [.ref f]) (vs := [.ref f]) lk hcg Sg hr I1.env0 (hb s1 [.ref f] I1.kIn rfl) (.cons rfl .nil) rfl fun room => ?_
    have G := told_gives (X := X) (Ng := Ng) (x := x) (a := a) (e := ee) (q := F.qual) (ret := ret) (sg := sg) (g := g) (CS := CS) (cdg := cdv) (j := j) (p1 := p1) (p2 := p2) (p3 := p3) (p4 := p4) (p5 := p5) (p6 := p6) (p7 := p7) (p8 := p8) hge hme hde h0
    obtain ⟨t, pt, ht⟩ := G f F.c s1 H1 Q (fun E H' Q' => H' f = some (LmO f F e) ∧ sp ws H' Q' E) (fun W pn xe E q1 q2 tk hW =>
      pe_actL (X := (cxOf C8.CX0 X.prog X.w X.K X.mg X.base Ng x sg g cdv X.A X.stack s1 H1 C8.E0).tr pn xe) L room (cells_later cells cex I1) rfl (passes_call tk hW) hNg hva hd hcd) hc ⟨hf, hT⟩
    exact ⟨t, pt.nox, ht⟩
  refine wpAny_call (codeAny_mono done fun r s2 hq => ?_)
  rcases r with z | z
  · exact (show False from hq).elim
  · rcases z with _ | _ | _ | u
    all_goals first
      | exact I1.after hq
      | exact False.elim hq
end Pr

/-! a list comprehension whose test may lean on the frame's own cells -/
namespace Pr
open PySem PySem.Spec PyProof.Rows L2 LamX NdefX
section
variable {X : Cx}
theorem pe_lcI {elt tg iter : Expr} {ifs : List Expr} {scope : Scope} {own : List (Str × Nat)} {pos : Pos} {wi : TI} {g : TG} {tt : L2.St → TT} {te : TE} (calm : X.calm = true) (nodup : X.N.Nodup) (src : PI X tg iter wi) (blk : BlkOk X.N X.env.scope scope own)
    (gs : ∀ (s : Shared) (H : Hp) (C : Addr) (cl : List (Str × Addr)) (fp : List Addr), PG (X.blk s H scope (compEnvC scope cl C X.env) fp) tg g)
    (ts : ∀ (pins : List (Addr × Obj)) (σ : L2.St) (s : Shared) (H : Hp) (C : Addr) (cl : List (Str × Addr)) (fp : List Addr), Inv X pins σ H s → (∀ b ∈ fp, FpOk X pins H b) → PTs (X.blk s H scope (compEnvC scope cl C X.env) fp) ifs (tt σ))
    (es : ∀ (s : Shared) (H : Hp) (C : Addr) (cl : List (Str × Addr)) (fp : List Addr), PE (X.blk s H scope (compEnvC scope cl C X.env) fp) elt te) (fold : ∀ x, foldedSetIterable iter X.env x = pure x := by intro _; rfl) :
    PE X (.ListComp elt [⟨tg, iter, ifs, 0⟩] scope pos) (fun σ H Q => tLc wi g (tt σ) te (own.map (·.2)) σ H Q) := by
  refine ⟨fun pins s σ H Q I rd => ?_⟩
  rw [eval_ListComp]
  have frees : ∀ y ∈ scope.names, y.2 = .free → ∃ c, X.env.cells.lookup y.1 = some c := by
    intro y hy e
    cases blk.free y hy e with
    | inl z => exact I.ok.has _ (.inl z)
    | inr z => exact I.ok.has _ (.inr z)
  apply wpAny_comprehension_free (use := none) rfl fold (closure_ok frees) blk.kind (fun y hy e => by rw [blk.uniq y hy, e])
  refine thn (src.run pins s σ H _ I rd) fun itx sA ha => thn ha fun itw sB hb => ?_
  obtain ⟨it, fp, tn, J, HB, rfl, IB, turns, stB, fpB, go⟩ := hb
  have room0 : (0 : Nat) ≤ sizeLine := Nat.zero_le _
  refine wpAny_newObj_type (newEnv_comp ?_) room0
  generalize eD : sB.heap.objs.size = D
  have noD : HB D = none := IB.hok.fresh (Nat.le_of_eq eD)
  obtain ⟨W, ⟨m0, W0⟩, turn⟩ := go D noD
  generalize eC : ({ sB with heap := sB.heap.push { cls := .type "list", data := .seq ([] : List Value).toArray } } : Shared) = sC
  have heapC : sC.heap = sB.heap.push { cls := .type "list", data := .seq ([] : List Value).toArray } := by subst eC; rfl
  have IC : Inv X pins σ (upd HB D (.lst [])) sC := by
    subst eC
    refine Inv.laid (t' := sB.toks) IB (fun _ _ e => Heap.get?_push_of_some _ e) (Nat.le_of_eq eD) ⟨Nat.zero_le _, [], 0, .nil, ?_⟩
    subst eD
    exact Heap.get?_push_size _ rfl
  have inB : ∀ b ∈ fp, b < sB.heap.objs.size := by
    intro b hb
    obtain ⟨ob, z, _⟩ := turns.obj _ _ stB b hb
    exact Heap.lt_size z
  have fpC : ∀ b ∈ fp, FpOk X pins (upd HB D (.lst [])) b ∧ b < sC.heap.objs.size := by
    intro b hb
    have lt := inB b hb
    have nD : b ≠ D := by rw [← eD]; exact Nat.ne_of_lt lt
    refine ⟨⟨(upd_ne nD).trans (fpB b hb).1, (fpB b hb).2⟩, ?_⟩
    rw [heapC, Heap.size_push]
    exact Nat.lt_succ_of_lt lt
  have stC : tn 0 sC.heap := turns.keep _ _ _ stB fun _ _ _ e => by rw [heapC]; exact Heap.get?_push_of_some _ e
  have IE := block_start IC blk nodup fpC
  have dg := gs sC (upd HB D (.lst [])) sC.heap.objs.size (cellsFrom (sC.heap.objs.size + 1) scope.names (cloFrom X.env.cells scope.names [])) fp
  have dt := ts pins σ sC (upd HB D (.lst [])) sC.heap.objs.size (cellsFrom (sC.heap.objs.size + 1) scope.names (cloFrom X.env.cells scope.names [])) fp IC (fun b hb => (fpC b hb).1)
  have de := es sC (upd HB D (.lst [])) sC.heap.objs.size (cellsFrom (sC.heap.objs.size + 1) scope.names (cloFrom X.env.cells scope.names [])) fp
  show codeAny _ _ (.compStart (.ListComp elt [⟨tg, iter, ifs, 0⟩] scope pos) 0 (.ref it) (.ref D) (compEnvC scope (cellsFrom (sC.heap.objs.size + 1) scope.names (cloFrom X.env.cells scope.names [])) sC.heap.objs.size X.env)) _ { sC with heap := pushCells (sC.heap.push { cls := .type "dict", data := .dict #[] }) scope.names }
  have nofp : ∀ b ∈ fp, (upd HB D (.lst [])) b = none := fun b hb => (fpC b hb).1.1
  generalize eE : compEnvC scope (cellsFrom (sC.heap.objs.size + 1) scope.names (cloFrom X.env.cells scope.names [])) sC.heap.objs.size X.env = en at IE dg dt de ⊢
  have locE : en.locals = sC.heap.objs.size := by rw [← eE]; rfl
  generalize eH : upd HB D (.lst []) = HC at IC IE dg dt de W0 nofp fpC
  generalize eF : ({ sC with heap := pushCells (sC.heap.push { cls := .type "dict", data := .dict #[] }) scope.names } : Shared) = sE at IE ⊢
  have stE : tn 0 sE.heap := turns.keep _ _ _ stC fun _ _ _ e => by subst eF; exact pushCells_keeps _ _ _ _ (Heap.get?_push_of_some _ e)
  have fpX : ∀ {τ : L2.St} {G : Hp} {z : Shared}, Inv (X.blk sC HC scope en fp) [] τ G z → (∀ b ∈ fp, G b = none) → ∀ b ∈ fp, FpOk (X.blk sC HC scope en fp) [] G b := by
    intro τ G z Iz no b hb
    exact ⟨no b hb, (Iz.ok.exf b hb).1, Iz.ok.exfs b hb, .inl hb, fun x c e => (Iz.ok.exf b hb).2 x c e, fun p hp => absurd (show p ∈ ([] : List (Addr × Obj)) ++ [] from hp) (by simp)⟩
  have loop : codeAny (model X.prog X.w) X.A (.compLoop (.ListComp elt [⟨tg, iter, ifs, 0⟩] scope pos) 0 (.ref it) (.ref D) en) (compPost (model X.prog X.w) X.A X.xe none (EP X pins σ Q) (.ref D) en.locals) sE := by
    refine compLoop_any (fun n z => ∃ i G, Inv (X.blk sC HC scope en fp) [] (wipe σ (own.map (·.2))) G z ∧ tn i z.heap ∧ (∀ b ∈ fp, G b = none) ∧ W i n G) ?_ m0 ⟨0, HC, IE, stE, nofp, W0⟩
    rintro n z5 ⟨i, G5, I5, st5, no5, w5⟩
    rcases turn i n G5 w5 with ⟨stop, fin⟩ | ⟨goes, Nx, nexts, step⟩
    · refine thnF (turns.done (X.blk sC HC scope en fp) rfl rfl rfl calm i [] z5 _ G5 (fun _ _ => False) I5 (fpX I5 no5) st5 stop) ?_
      rintro r z6 ⟨rfl, I6⟩
      have I7 : Inv X pins σ G5 z6 := IC.call' (ch := fp) I6.os I6.base I6.hok I6.bare fun b hb => by
        obtain ⟨⟨q1, q2, q3, q4, q5, q6⟩, _⟩ := fpC b hb
        exact ⟨q4, q2, q5, q6⟩
      have noL : G5 en.locals = none := I6.free
      obtain ⟨mm, ns, _⟩ := I6.loc
      have own_ := IC.fpOk (Nat.le_of_eq locE.symm) noL
      refine ⟨mm, ns, fun h'' sb => ?_⟩
      obtain ⟨f0, f1, f2, f3, f4, f5⟩ := own_
      exact ⟨.ref D, G5, I7.turned (t' := z6.toks) (fun b o hb e => (sb.2 b hb).trans e) f0 f1 f3 f4 f5, rfl, fin⟩
    · refine thnF (turns.item (X.blk sC HC scope en fp) rfl rfl rfl calm i [] z5 _ G5 (fun _ _ => False) I5 (fpX I5 no5) st5 goes) ?_
      rintro r z6 ⟨u, rfl, h6⟩
      refine thnF h6 ?_
      rintro _ z7 ⟨x, G7, I7, r7, y7, st7, no7⟩
      have J7 := I7.pinned (fpX I7 no7) (turns.obj _ _ st7)
      refine thnF (dg.run _ z7 _ G7 x u _ J7 r7 (step x G7 y7)) ?_
      rintro _ z8 ⟨σ8, G8, I8, same8, q8⟩
      refine thnF (dt.run _ z8 σ8 G8 _ I8 q8) ?_
      rintro b z9 ⟨G9, I9, q9⟩
      have back : ∀ {z : Shared} {G : Hp}, Inv (X.blk sC HC scope en fp) ([] ++ pinsAt fp z7.heap) σ8 G z → Nx G → ∃ m, m < n ∧ ∃ i G, Inv (X.blk sC HC scope en fp) [] (wipe σ (own.map (·.2))) G z ∧ tn i z.heap ∧ (∀ b ∈ fp, G b = none) ∧ W i m G := by
        intro z G Iz nx
        obtain ⟨m', less, w'⟩ := nexts G nx
        have pinned : ∀ b ∈ fp, ∀ o, z7.heap.get? b = some o → z.heap.get? b = some o ∧ G b = none := by
          intro b hb o e
          have q := Iz.pin (b, o) (List.mem_append_right _ (List.mem_append_right _ (mem_pinsAt hb e)))
          exact ⟨q.1, q.2.1⟩
        have len8 : (wipe σ (own.map (·.2))).length = σ8.length := by rw [← same8, wipe_length]
        refine ⟨m', less, i + 1, G, (Iz.unpinned (pins := [])).weak len8 (fun j v e => (wipe_some (by rw [same8]; exact e)).1), turns.keep _ _ _ st7 fun b hb o e => (pinned b hb o e).1, fun b hb => ?_, w'⟩
        obtain ⟨o, e, _⟩ := turns.obj _ _ st7 b hb
        exact (pinned b hb o e).2
      cases b
      · exact back I9 q9
      · refine thnF (de.run _ z9 σ8 G9 _ I9 q9) ?_
        rintro vz z10 ⟨yv, G10, I10, r10, acc, hD10, few10, nx⟩
        exact app_ok (X := X.blk sC HC scope en fp) I10 hD10 few10 r10 fun z11 I11 => back I11 nx
  rw [← locE]
  exact codeAny_compStart_list loop (turns.self X.A 0 _ _ _ stE loop)
end
end Pr

open PySem PySem.Spec PyProof.Rows L2
/-! shared lemmas that began in k18's parts -/
namespace Pr
/-- a comprehension without a test, each element a new object -/
theorem r_lclN {K : PySem.W.Frag} {σ : L2.St} {H1 : Hp} {Q : VK} {a : Addr} {te : TE} {i0 : Nat} {xs : List V} (h : SqL K H1 a xs) (hz : xs.length < sizeLine) (C : HO → Prop)
    (he : ∀ x ∈ xs, ∀ H', Same H1 H' → ∀ R : VK, (∀ t o, H' t = none → C o → R (.ref t) (upd H' t o)) → te ((wipe σ [i0]).set i0 (some x)) H' R)
    (q : ∀ (D : Addr) (H' : Hp) (ps : List Addr), H1 D = none → Same H1 H' → H' D = some (.lst (ps.map V.ref)) → ps.length = xs.length → (∀ p ∈ ps, ∃ o, H' p = some o ∧ C o) → Q (.ref D) H') :
    ∃ b, V.ref a = .ref b ∧ (∃ xs, SqL K H1 b xs) ∧ ∀ D, H1 D = none → LcRun (Itl K b) (gName i0) tYes te [i0] σ H1 D Q := by
  refine ⟨a, rfl, ⟨xs, h⟩, fun D hD => ?_⟩
  refine lc_it (Qd := fun H => Q (.ref D) H) (walk_list (xs := xs)) (fun i H => ∃ ps : List Addr, Same H1 H ∧ H D = some (.lst (ps.map V.ref)) ∧ ps.length = (xs.take i).length ∧ ∀ p ∈ ps, p ≠ D ∧ ∃ o, H p = some o ∧ C o)
    ⟨[], Kp.to_same (.new .refl hD), upd_same, rfl, fun _ z => by cases z⟩ (fun i H _ ⟨_, e, _⟩ => Kp.seq (M := []) (Kp.same e) (by simp) h) (fun i x H H' hi hh y => ?_) (fun H ⟨ps, e1, e2, e3, e4⟩ => q D H ps hD e1 e2 (by rw [e3, List.take_length]) fun p hp => (e4 p hp).2)
  obtain ⟨ps, s1, hl, le, all⟩ := hh
  obtain ⟨rfl, hx⟩ := y
  show wipe ((wipe σ [i0]).set i0 (some x)) [i0] = wipe σ [i0] ∧ _
  refine ⟨wipe_set σ i0 _, ?_⟩
  unfold tYes
  dsimp only
  rw [if_pos rfl]
  refine he x (take_mem hx) _ s1 _ fun t o nt co => ?_
  have nDt : D ≠ t := ne_of_none hl nt
  have nt1 : H1 t = none := by
    cases e : H1 t with
    | none => rfl
    | some u => rw [s1 t u e] at nt; cases nt
  have lt := List.length_take_le i xs
  refine ⟨_, (upd_ne nDt).trans hl, by rw [List.length_map]; omega, ps ++ [t], fun b u e => ?_, ?_, ?_, fun p hp => ?_⟩
  · rw [upd_ne (ne_of_none e hD), upd_ne (ne_of_none e nt1)]
    exact s1 b u e
  · rw [upd_same, List.map_append]
    rfl
  · rw [take_snoc hx, List.length_append, List.length_append, le]
    rfl
  · rcases List.mem_append.mp hp with z | z
    · obtain ⟨n1, u, e, c⟩ := all p z
      exact ⟨n1, u, by rw [upd_ne n1, upd_ne (ne_of_none e nt)]; exact e, c⟩
    · rw [List.mem_singleton.mp z]
      exact ⟨nDt.symm, o, by rw [upd_ne nDt.symm, upd_same], co⟩
theorem cut_int (ns : List Int) (lo hi : Option Int) : ∃ ms : List Int, cutV (ns.map V.int) lo hi = ms.map V.int ∧ ms.length ≤ ns.length := by
  refine ⟨(ns.drop (HT.sIx (ns.map V.int).length 0 lo)).take (HT.sIx (ns.map V.int).length (ns.map V.int).length hi - HT.sIx (ns.map V.int).length 0 lo), ?_, ?_⟩
  · unfold cutV
    rw [List.map_take, List.map_drop]
  · rw [List.length_take, List.length_drop]
    omega
end Pr
namespace Pr
open LamX NdefX
/-- what is known of a lambda's captured cells where the comprehension begins -/
def CapP (X : Cx) (σ : L2.St) (F : NF) (fr : List Str) (ws : List (Option V)) : Prop := ∃ js : List Nat, (∀ y ∈ F.scope.names, y.2 = .free → X.env.scope.names.lookup y.1 = some .cell ∨ X.env.scope.names.lookup y.1 = some .free) ∧ F.cl = cloFrom X.env.cells F.scope.names [] ∧ (∀ y ∈ fr, (y, NameKind.free) ∈ F.scope.names) ∧
  js.map (fun j => X.N[j]?) = fr.map some ∧ ws = js.map (slotAt σ)
theorem capP_ok {X : Cx} {pins : List (Addr × Obj)} {σ : L2.St} {s : Shared} {H : Hp} {fp : List Addr} (I : Inv X pins σ H s) (hfp : ∀ b ∈ fp, FpOk X pins H b) (F : NF) (fr : List Str) (ws : List (Option V)) (c : CapP X σ F fr ws) :
    CellsAt F.cl fr ws s.heap H ∧ ∀ y a, F.cl.lookup y = some a → a ∉ fp := by
  obtain ⟨js, hf, hc, hr, hj, hw⟩ := c
  rw [hc, hw]
  refine ⟨cells_of I (Caps.made I.ok hf hr hj), fun y a e m => ?_⟩
  have hfree : ∀ y ∈ F.scope.names, y.2 = .free → ∃ c, X.env.cells.lookup y.1 = some c := fun y hy e => (hf y hy e).elim (fun z => I.ok.has _ (.inl z)) fun z => I.ok.has _ (.inr z)
  obtain ⟨_, _, _, _, z, _⟩ := hfp a m
  exact z y a (clo_cm hfree e) rfl
end Pr
namespace Pr
/-- a comprehension whose test lets nothing through -/
theorem r_lclF {K : PySem.W.Frag} {σ : L2.St} {H1 : Hp} {Q : VK} {a : Addr} {tt : TT} {te : TE} {i0 : Nat} {xs : List V} (h : SqL K H1 a xs)
    (ht : ∀ x ∈ xs, ∀ H', Same H1 H' → ∀ R : Bool → Hp → Prop, (∀ H'', Same H' H'' → R false H'') → tt ((wipe σ [i0]).set i0 (some x)) H' R)
    (q : ∀ (D : Addr) (H' : Hp), H1 D = none → Same H1 H' → H' D = some (.lst []) → Q (.ref D) H') :
    ∃ b, V.ref a = .ref b ∧ (∃ xs, SqL K H1 b xs) ∧ ∀ D, H1 D = none → LcRun (Itl K b) (gName i0) tt te [i0] σ H1 D Q := by
  refine ⟨a, rfl, ⟨xs, h⟩, fun D hD => ?_⟩
  refine lc_it (Qd := fun H => Q (.ref D) H) (walk_list (xs := xs)) (fun i H => Same H1 H ∧ H D = some (.lst [])) ⟨Kp.to_same (.new .refl hD), upd_same⟩ (fun i H _ ⟨e, _⟩ => Kp.seq (M := []) (Kp.same e) (by simp) h) (fun i x H H' hi hh y => ?_) (fun H ⟨e1, e2⟩ => q D H hD e1 e2)
  obtain ⟨s1, hl⟩ := hh
  obtain ⟨rfl, hx⟩ := y
  show wipe ((wipe σ [i0]).set i0 (some x)) [i0] = wipe σ [i0] ∧ _
  exact ⟨wipe_set σ i0 _, ht x (take_mem hx) _ s1 _ fun H'' s2 => iteF ⟨fun b o z => s2 _ _ (s1 _ _ z), s2 _ _ hl⟩⟩
end Pr
namespace Pr
section
variable {H : Hp}
theorem keepO {N : List Addr} {H H' : Hp} {a : Addr} {o : HO} (kp : Kp N H H') (dn : ∀ b ∈ N, ∃ kvs, H b = some (.dK kvs)) (h : H a = some o) (n : ∀ kvs, o ≠ .dK kvs) : H' a = some o := kp.get h fun b hb z => by
  obtain ⟨kvs, e⟩ := dn b hb
  rw [e] at z
  exact n kvs (Option.some.inj z).symm
theorem kpOwn {N D : List Addr} {H0 H H' : Hp} (a : Kp D H0 H) (b : Kp N H H') (n : ∀ c ∈ N, H0 c = none) : Kp D H0 H' := fun c o e m => b c o (a c o e m) fun z => by
  rw [n c z] at e
  cases e
end
end Pr
namespace Pr
/-- for .. in d.items(), the dict locked -/
theorem r_forI {α : Type} {g : α → V} {d : Addr} {L : List (Str × α)} {σ : L2.St} {H : Hp} {td : TE} {tg : TG} {tb : TS} {D : Ends} (h : H d = some (.dK (enc g L))) (hd : ∀ od (R : VK), R (.ref d) (upd H d (.frz od (.dK (enc g L)))) → td σ (upd H d (.frz od (.dK (enc g L)))) R) (Pv : Nat → L2.St → Hp → Prop) (h0 : ∀ od, Pv 0 σ (upd H d (.frz od (.dK (enc g L)))))
    (hb : ∀ od i e σ H' T (D' : Ends), L[i]? = some e → Pv i σ H' → H' d = some (.frz od (.dK (enc g L))) → H' T = none → (∀ σ H', Pv (i + 1) σ H' → H' d = some (.frz od (.dK (enc g L))) → D'.nx σ H') → tg (.ref T) σ (upd H' T (.tup [.str e.1, g e.2])) fun σ2 H2 => tb D' σ2 H2)
    (hq : ∀ σ H', Pv L.length σ H' → D.nx σ (upd H' d (.dK (enc g L)))) : tLock (tFor (iItems td) tg tb) D σ H := by
  refine ⟨d, _, h, trivial, fun od => hd _ _ ⟨d, od, enc g L, rfl, upd_same, ?_⟩⟩
  refine for_it (walk_items (kvs := enc g L)) (fun i σ H' => Pv i σ H' ∧ H' d = some (.frz od (.dK (enc g L)))) ⟨h0 od, upd_same⟩ (fun _ _ _ _ z => z.2) (fun i x σ H1 H2 hi ⟨p, f⟩ y => ?_) fun σ H' ⟨p, f⟩ => ⟨f, ?_⟩
  · obtain ⟨T, a, b, rfl, nT, rfl, e1, e2⟩ := y
    rw [enc_len] at hi
    obtain ⟨e, he⟩ : ∃ e, L[i]? = some e := ⟨L[i], List.getElem?_eq_getElem hi⟩
    have h2 : (enc g L)[i]? = some (Sum.inr e.1, g e.2) := by unfold enc; rw [List.getElem?_map, he]; rfl
    dsimp only at e1 e2
    rw [h2] at e1 e2
    cases e1
    cases e2
    exact hb od i e σ H1 T _ he p f nT fun σ H' p f => ⟨p, f⟩
  · rw [enc_len] at p
    exact hq σ H' p
end Pr

/-! sum(.. for k, v in d.items()) -/
namespace Pr
open PySem PySem.Spec PyProof.Rows L2
section
variable {prog : Program} {w : World} {A : Around}
theorem walksU_items (hh : A.handled = none) (it d : Addr) (hne : d ≠ it) (kvs : List (Key × Value)) (ep : Nat) :
    WalksU prog w A it [it, d] [it] kvs.length (fun i vals => ∃ k v key, kvs[i]? = some (k, v) ∧ (mixKind prog w).is k key = true ∧ vals = #[key, v]) (fun i h => (∃ ok ov, IsItemIter h it d i kvs.length ep ok ov) ∧ h.DictAt (mixKind prog w) d kvs ep)
      (fun i T h => (∃ ok ov, IsItemIterOut h it d (i + 1) kvs.length ep ok ov T) ∧ h.DictAt (mixKind prog w) d kvs ep ∧ T ≠ it) where
  sub := fun b hb => by simp at hb; simp [hb]
  frame := fun i h h' ⟨⟨ok, ov, e⟩, m⟩ k => ⟨⟨ok, ov, k it (by simp) _ e⟩, m.at fun o z => k d (by simp) o z⟩
  item := fun i s Q E hi ⟨⟨ok, ov, e⟩, m⟩ hQ => by
    obtain ⟨⟨k, v⟩, hkv⟩ : ∃ p, kvs[i]? = some p := ⟨kvs[i], List.getElem?_eq_getElem hi⟩
    refine wpAny_pyNext_items_item e m hkv fun key h' hkey ho hT hz hk => ?_
    have lt : it < s.heap.objs.size := Heap.lt_size e
    exact hQ s.heap.objs.size #[key, v] h' s.toks ⟨k, v, key, hkv, hkey, rfl⟩ ⟨_, hT, rfl, _, rfl⟩ ⟨⟨key, v, ho⟩, m.at fun o z => hk d o hne z, Nat.ne_of_gt lt⟩ fun b o hb z => hk b o (by simpa using hb) z
  go := fun elts k pos i T s Q E ⟨⟨ok, ov, e⟩, m, n⟩ hQ => by
    refine wpAny_letOwnedTupleGo_items e fun h' e' sb => ?_
    exact hQ h' ⟨⟨ok, ov, e'⟩, m.at fun o z => (sb.2 d hne).trans z⟩ fun b o hb z => (sb.2 b (by simpa using hb)).trans z
  apart := fun i T h ⟨_, _, n⟩ => by simpa using n
  done := fun s Q E ⟨⟨ok, ov, e⟩, m⟩ hQ => wpAny_pyNext_items_end hh e m (List.getElem?_eq_none (Nat.le_refl _)) fun h' eb => hQ h' s.toks fun b o hb z => eb b o (by simpa using hb) z
  self := fun i s Q E ⟨⟨ok, ov, e⟩, _⟩ h => PySem.W.kcp_self e h
end
/-- the generator expression's scope: two names of its own -/
structure GenS2 (env : Env) (scope : Scope) (xa xb : Str) : Prop where
  kind : scope.kind = .function
  co : scope.isCoroutine = false
  cell : ∀ y ∈ scope.names, y.2 ≠ .cell
  dot : scope.names.lookup (".0" : Str) = some NameKind.local
  la : scope.names.lookup xa = some .local
  lb : scope.names.lookup xb = some .local
  ab : xa ≠ xb
  free : ∀ y ∈ scope.names, y.2 = .free → ∃ c, env.cells.lookup y.1 = some c
/-- the element: of two texts the number f -/
def EltI (prog : Program) (w : World) (base : Heap) (env : Env) (scope : Scope) (xa xb : Str) (elt : Expr) (Pz : Str → Str → Prop) (f : Str → Str → Int) : Prop :=
  ∀ (cl : List (Str × Addr)) (L : Addr) (code : Value) (A' : Around) (E' : Value → Shared → Prop) (ka va : Str) (ta tv : Tok) (s₂ : Shared) (m₂ : Str → Option Value), Pz ka va → (∀ b o, base.get? b = some o → s₂.heap.get? b = some o) → s₂.heap.Ns L m₂ → m₂ xa = some (.str ka ta) → m₂ xb = some (.str va tv) →
    wpAny (model prog w) A' (eval elt (genEnv scope cl L code builtinsNs env)) (fun y s₃ => (∃ t', y = .int (f ka va) t') ∧ Keeps s₂ s₃) E' s₂
def valAt (f : Str → Str → Int) (L : List (Str × Str)) (j : Nat) : Int := match L[j]? with
  | some e => f e.1 e.2
  | none => 0
/-- sum(.. for a, b in d.items()), the dict of texts by texts -/
def tSumIt (P : Addr) (Pz : Str → Str → Prop) (f : Str → Str → Int) (td : TE) : TE := fun σ H Q => td σ H fun x H1 => ∃ (d : Addr) (L : List (Str × Str)), x = .ref d ∧ H1 d = some (.dK (enc V.str L)) ∧ (∀ e ∈ L, Pz e.1 e.2) ∧ GxR.TabG H1 P ∧
  (∀ j, j < L.length → InLong (valAt f L j) ∧ InLong (preSum (valAt f L) (j + 1))) ∧ ∀ H2, GxR.Tabbed P H1 H2 → Q (.int (preSum (valAt f L) L.length)) H2
theorem kv_str {L : List (Str × Str)} {vs : List (Key × Value)} (kv : KV (enc V.str L) vs) {i : Nat} {k : Key} {v : Value} (h : vs[i]? = some (k, v)) : ∃ e t, L[i]? = some e ∧ k = .inr e.1 ∧ v = .str e.2 t := by
  have hl : (enc V.str L).length = vs.length := Paired.length kv
  have hi : i < vs.length := (List.getElem?_eq_some_iff.mp h).1
  obtain ⟨e, he⟩ : ∃ e, L[i]? = some e := ⟨L[i]'(by rw [enc_len] at hl; omega), List.getElem?_eq_getElem _⟩
  have h2 : (enc V.str L)[i]? = some (Sum.inr e.1, V.str e.2) := by unfold enc; rw [List.getElem?_map, he]; rfl
  obtain ⟨u, hu, ru⟩ := kv_get kv h2
  rw [h] at hu
  cases hu
  obtain ⟨t, et⟩ := (show ∃ t, v = Value.str e.2 t from ru)
  exact ⟨e, t, he, rfl, et⟩
theorem code_any {prog : Program} {w : World} {A : Around} {E : Value → Shared → Prop} {s : Shared} {env : Env} {c P : Addr} {ps : Array Value} {pos : Pos} {qn : Str} {scope : Scope} {R : Value → Shared → Prop} (hcode : env.code = .ref c) (cd : PySem.W.CodeHd s.heap c P)
    (hP : s.heap.get? P = some { cls := .none, data := .fields ps }) (ht : TriplesOk ps.toList) (k : ∀ code h3 tk ps', Heap.ExtBut P s.heap h3 → s.heap.objs.size ≤ h3.objs.size → h3.get? P = some { cls := .none, data := .fields ps' } → (∃ more, ps' = ps ++ more) → TriplesOk ps'.toList → R code { s with heap := h3, toks := tk }) :
    wpAny (model prog w) A (genexprCode env pos qn scope) R E s := by
  rcases hf : codeAmong pos ps.toList with _ | cv
  · refine wpAny_genexprCodeX hcode (cd.code hP ht) (cd.tab hP) hf ?_
    intro c' h' tk hx hge hlt hco _ htab _
    obtain ⟨_, _, _, _, _, _, _, _, _, _, _, _, _, _, _, _, _, _, _, tri, _⟩ := hco
    exact k _ h' tk _ hx (Nat.le_trans hge (Nat.le_of_lt hlt)) htab.2 ⟨_, rfl⟩ tri
  · refine wpAny_genexprCode_hit hcode (cd.code hP ht) hf ?_
    exact k cv s.heap s.toks ps (Heap.ExtBut.refl _ _) (Nat.le_refl _) hP ⟨#[], by simp⟩ ht
section
variable {X : Cx}
theorem pe_sumIt {c P : Addr} {elt e : Expr} {xa xb : Str} {pa pb pt p pos gpos apos cpos : Pos} {kt : Nat} {scope : Scope} {Pz : Str → Str → Prop} {f : Str → Str → Int} {td : TE} {k : Nat}
    (hr : Room k X.A) (hg : Gl X "sum") (hm : X.mg "sum" = none) (hb : bootBuiltins "sum" = some (.builtin "sum")) (TB : GxR.TabB X.base X.mg c P) (hcode : X.env.code = .ref c) (S : X.Ok → GenS2 X.env scope xa xb) (hd : PE X e td) (hel : EltI X.prog X.w X.base X.env scope xa xb elt Pz f)
    (hs : ∀ v, genFold (.Call (.Attribute e "items" apos) [] [] cpos) X.env v = pure v) (hbase : attributeBase e "items" X.env (eval e X.env) = eval e X.env := by rfl) (hline : (apos.endLine == cpos.line) = true := by rfl)
    (he : starEach [.GeneratorExp elt [⟨.Tuple [.Name xa pa, .Name xb pb] kt pt, .Call (.Attribute e "items" apos) [] [] cpos, [], 0⟩] scope gpos] X.env = (false, eval (.GeneratorExp elt [⟨.Tuple [.Name xa pa, .Name xb pb] kt pt, .Call (.Attribute e "items" apos) [] [] cpos, [], 0⟩] scope gpos) X.env) :: starEach [] X.env := by rfl) :
    PE X (.Call (.Name "sum" p) [.GeneratorExp elt [⟨.Tuple [.Name xa pa, .Name xb pb] kt pt, .Call (.Attribute e "items" apos) [] [] cpos, [], 0⟩] scope gpos] [] pos) (tSumIt P Pz f td) := by
  refine ⟨fun pins s σ H Q I h => ?_⟩
  have S := S I.ok
  refine wpAny_Call_Name_kw (ld_blt I hg hm hb ?_)
  refine PyProof.Rows.callWith_builtin1 ?_ he (by rfl)
  rw [he]
  refine Calls.spliced_cons ?_
  refine wpAny_GeneratorExp_walksQT hr.hd S.co (closure_ok S.free) S.cell S.dot S.la S.lb S.ab S.kind (by have := hr.dp; omega) ?_ hs
  refine wpAny_Call_method (T := "dict") (id := "dict.items") hbase rfl hline PySem.F.plainAttrs_dict PySem.F.slot_dict_items PySem.F.type_dict_items (thn (hd.run pins s σ H _ I h) ?_)
  rintro u s1 ⟨x, H1, I1, rx, d, L, rfl, hdk, hPz, ⟨ps, hP, ht⟩, fits, q⟩
  obtain rfl := (show u = Value.ref d from rx)
  obtain ⟨z, hsd, vs, kv, ob, es, ep, ho, hx, hdt, r⟩ := I1.hok d _ hdk
  have dAt : s1.heap.DictAt (mixKind X.prog X.w) d vs ep := ⟨ob, es, ho, hx, hdt, r⟩
  refine ⟨dAt.dictOf.typeIs, dAt.dictOf.mapOf.noDict, ?_⟩
  refine method_meetsIn PySem.F.slot_dict_items PySem.F.entry_dict_items rfl (PySem.evalArgs_none ⟨rfl, dAt.dictOf.typeIs, PySem.F.args_dict_items_1 _, _, meets_dict_items (mixKind X.prog X.w) d hsd, ⟨vs, dAt.dictOf⟩, ?_⟩)
  refine wpAny_pyIter_items (d := d) (knd := mixKind X.prog X.w) ⟨_, Heap.get?_push_size _ rfl, rfl, rfl⟩ (dAt.push _) ?_
  generalize ev : ({ cls := .type "dict_items", data := .fields #[.ref d] } : Obj) = view
  generalize eg : s1.heap.push view = h1
  have sz1 : h1.objs.size = s1.heap.objs.size + 1 := by rw [← eg]; exact Heap.size_push ..
  have keep1 : ∀ b o, s1.heap.get? b = some o → h1.get? b = some o := fun b o e => by rw [← eg]; exact Heap.get?_push_of_some _ e
  show (h1.push _).NoLimit ∧ _
  generalize ei : ({ cls := .type "dict_itemiterator", data := .fields #[.none, .bool false, .ref d, .int 0 0, .int vs.length 0, .int ep 0, .none, .none] } : Obj) = ito
  have itAt : IsItemIter (h1.push ito) h1.objs.size d 0 vs.length ep .none .none := by rw [← ei]; exact Heap.get?_push_size _ rfl
  have sz2 : (h1.push ito).objs.size = h1.objs.size + 1 := Heap.size_push ..
  have keep2 : ∀ b o, s1.heap.get? b = some o → (h1.push ito).get? b = some o := fun b o e => Heap.get?_push_of_some _ (keep1 b o e)
  have lim2 : (h1.push ito).NoLimit := I1.nolimit.keeps keep2
  have dAt2 : (h1.push ito).DictAt (mixKind X.prog X.w) d vs ep := dAt.at fun o z => keep2 d o z
  have dlt : d < s1.heap.objs.size := dAt.lt_size
  have ltI : s1.heap.objs.size < h1.objs.size := by rw [sz1]; exact Nat.lt_succ_self _
  have lt2 : h1.objs.size < (h1.push ito).objs.size := by rw [sz2]; exact Nat.lt_succ_self _
  generalize h1.push ito = h2 at itAt lt2 keep2 lim2 dAt2 ⊢
  have hP1 : s1.heap.get? P = some { cls := .none, data := .fields ps } := I1.hok P _ hP
  have Plt : P < s1.heap.objs.size := Heap.lt_size hP1
  have hP2 := keep2 _ _ hP1
  have cd : PySem.W.CodeHd h2 c P := TB.code.keeps fun b u e => keep2 b u (I1.bk b u e)
  refine ⟨lim2, ?_⟩
  refine code_any hcode cd hP2 ht fun code h3 tk ps' hx hsz hP3 hmore ht3 => ?_
  have sz2' : h2.objs.size ≤ h3.objs.size := hsz
  have keep3 : ∀ b u, b ≠ P → h2.get? b = some u → h3.get? b = some u := fun b u n e => hx b u n e
  obtain ⟨bm, bo, e1, e2, e3, e4, e5, e6, e7, e8⟩ := TB.bm
  refine wpAny_builtinsFor (m := X.mg) (by rw [I1.ok.glob]; exact ((I1.mod.glob.keeps I1.bk).keeps keep2).extBut hx TB.gP) e1 e2 (keep3 _ _ e4 (keep2 _ _ (I1.bk _ _ e5))) e6 e7 e8 ?_
  have cP : cStatics ≠ P := fun z => by
    obtain ⟨_, hns, _⟩ := I1.nolimit
    obtain ⟨o', es', ep', ho', hd', _⟩ := hns
    rw [z, hP1] at ho'
    cases ho'
    cases hd'
  have clt : cStatics < s1.heap.objs.size := let ⟨_, hns, _⟩ := I1.nolimit; hns.lt
  have dP : d ≠ P := ne_of hdk hP (by intro y; cases y)
  have IP : h1.objs.size ≠ P := Nat.ne_of_gt (Nat.lt_trans Plt ltI)
  have dI : d ≠ h1.objs.size := Nat.ne_of_lt (Nat.lt_trans dlt ltI)
  have hlen : vs.length = L.length := by
    have := Paired.length kv
    rw [enc_len] at this
    omega
  refine ⟨h1.objs.size, [h1.objs.size, d], [h1.objs.size], vs.length, _, _, _, fun _ => true, fun i y => ∃ e t, L[i]? = some e ∧ y = .int (f e.1 e.2) t, rfl, fun A' hA => walksU_items hA _ d dI vs ep, fun i vals hv => ?_, ⟨⟨_, _, keep3 _ _ IP itAt⟩, dAt2.at fun o y => keep3 _ _ dP y⟩, fun b hb => ?_, lim2.extBut hx cP, ?_, fun href hhref => ?_, fun g h5 tk5 gs hgb hag hsz5 hk5 W5 hgat => ?_⟩
  · obtain ⟨k, v, key, _, _, rfl⟩ := hv
    exact ⟨_, _, rfl⟩
  · show b < h3.objs.size
    rcases List.mem_cons.mp hb with y | y
    · rw [y]; exact Nat.lt_of_lt_of_le lt2 sz2'
    · rw [List.mem_singleton.mp y]; exact Nat.lt_of_lt_of_le dAt2.lt_size sz2'
  · intro y
    exact Nat.ne_of_lt (Nat.lt_trans clt ltI) (List.mem_singleton.mp y)
  · refine ⟨fun A' E' i va vb s₂ m₂ hA hPv hn hma hmb hk => ?_, fun A' E' i va vb s₂ m₂ hA hPv hp hn hma hmb hk => ?_⟩
    · simp only [List.forIn_nil]
      exact wpAny_pure ⟨rfl, GxR.keeps_refl _⟩
    · obtain ⟨k', v', key, hkv, hkey, evs⟩ := hPv
      obtain ⟨e0, t0, he0, rfl, rfl⟩ := kv_str kv hkv
      cases evs
      rcases keyIs_shape (show keyIs (Sum.inr e0.1) va = true from hkey) with ⟨i0, t1, z1, _⟩ | ⟨x0, t1, z1, rfl⟩
      · cases z1
      · cases z1
        have base2 : ∀ b o, X.base.get? b = some o → s₂.heap.get? b = some o := fun b o e => by
          have b1 := I1.bk b o e
          have lb := Heap.lt_size b1
          have nP : b ≠ P := fun y => by
            have := (I1.bs b o e).2
            rw [y, hP] at this
            cases this
          have b3 := keep3 b o nP (keep2 b o b1)
          exact hk b (List.mem_range.mpr (Heap.lt_size b3)) (fun y => Nat.ne_of_lt (Nat.lt_trans lb ltI) (List.mem_singleton.mp y)) o (hhref b o b3)
        refine wpAny_mono (hel _ _ _ A' E' _ _ _ _ s₂ m₂ (hPz _ (List.mem_of_getElem? he0)) base2 hn hma hmb) (fun y s3 rr => ?_) fun _ _ e => e
        obtain ⟨⟨t', et⟩, kp⟩ := rr
        exact ⟨⟨e0, t', he0, et⟩, kp⟩
  · refine Calls.spliced_nil ?_
    simp only [GxR.passing_true, List.length_range] at W5
    refine call_sum_walkS (W5.in4_1.self 0 _ _ _ hgat ⟨g, _, _, _, _, _, _, valAt f L, rfl, W5.in4_1, hgat, fun b hb => ?_, fun i y hy => ?_, fun j hj => ?_, fun s' t' hmv => ?_⟩)
    · show b < h5.objs.size
      rw [show h5.objs.size = g + 1 from hsz5]
      have hag' : h3.objs.size < g := hag
      rcases List.mem_cons.mp hb with y | y
      · rw [y]; exact Nat.lt_succ_self _
      · rcases List.mem_cons.mp y with y | y
        · rw [y]; exact Nat.lt_succ_of_lt hag'
        · exact Nat.lt_succ_of_lt (Nat.lt_trans (List.mem_range.mp y) hag')
    · obtain ⟨i2, hi2, e0, t0, he0, rfl⟩ := hy
      obtain ⟨hj2, ej⟩ := List.getElem?_eq_some_iff.mp hi2
      rw [List.getElem_range] at ej
      subst ej
      exact ⟨t0, by unfold valAt; rw [he0]⟩
    · rw [hlen] at hj
      exact fits j hj
    · obtain ⟨more, em⟩ := hmore
      have lt3 : h1.objs.size < h3.objs.size := Nat.lt_of_lt_of_le lt2 sz2'
      have out : ∀ b u, s1.heap.get? b = some u → b ∉ h3.objs.size :: [h1.objs.size] := fun b u e m => by
        have lb := Heap.lt_size e
        rcases List.mem_cons.mp m with y | y
        · exact Nat.ne_of_lt (Nat.lt_trans (Nat.lt_trans lb ltI) lt3) y
        · exact Nat.ne_of_lt (Nat.lt_trans lb ltI) (List.mem_singleton.mp y)
      have J := GxR.inv_tab (more := more) (h' := s'.heap) (g' := s'.gens) (d' := s'.drawn) (t' := s'.toks) I1 hP (fun b u hb e => hmv.heap b u (out b u e) (hk5 b u (keep3 b u hb (keep2 b u e))))
        (by rw [← em]; exact hmv.heap P _ (out P _ hP1) (hk5 P _ hP3)) (AllBare.movedS (I1.bare.push hgb) hmv)
      rw [GxR.sh_eta s1 s' hmv.os] at J
      refine ⟨.int _, _, J, ⟨t', rfl⟩, ?_⟩
      rw [hlen]
      exact q _ ⟨⟨ps ++ more, upd_same, by rw [← em]; exact ht3⟩, fun b hb => upd_ne hb⟩
end
section
variable {prog : Program} {w : World} {A : Around} {E : Value → Shared → Prop} {s : Shared} {cenv : Env} {x a : Str} {t : Tok} {m mg mb : Str → Option Value} {Q : Value → Shared → Prop} {p1 p2 p3 : Pos}
/-- len(x), x a name that holds a text -/
theorem ev_len (hk : cenv.scope.kind = .function) (hgl : cenv.kindOf "len" = some .globalImplicit) (hg : s.heap.Ns cenv.globals mg) (hmiss : mg "len" = none) (hb : s.heap.Ns cenv.builtins mb) (hlen : mb "len" = some (.builtin "len")) (hl : cenv.scope.names.lookup x = some .local)
    (hn : s.heap.Ns cenv.locals m) (hm : m x = some (.str a t)) (hd : (x == ("__debug__" : Str)) = false) (few : a.length ≤ sizeLine) (k : ∀ t' n, Q (.int a.length t') { s with toks := n }) : wpAny (model prog w) A (eval (.Call (.Name "len" p1) [.Name x p2] [] p3) cenv) Q E s := by
  refine wpAny_Call_Name_kw (Calls.Name_function_global hk hgl (Calls.loadGlobal_builtin hg hmiss hb hlen ?_))
  refine PyProof.Rows.callWith_builtin1 ?_ rfl rfl
  show wpAny _ _ (spliced ((false, eval (.Name x p2) cenv) :: backTo p3 (starEach [] cenv))) _ _ s
  refine Calls.spliced_cons (wpAny_Name (wpAny_loadName_local hk hl hn hm ?_) hd)
  refine Calls.spliced_nil ?_
  rw [sizeLine_eq] at few
  exact len_str (by omega) (k _ _)
end
theorem elt_len2 {prog : Program} {w : World} {K : PySem.W.Frag} {mg : Str → Option Value} {base : Heap} {env : Env} {scope : Scope} {xa xb : Str} {p1 p2 p3 p4 p5 p6 p7 : Pos} (M : Mod K mg base) (hmiss : mg "len" = none) (hglob : env.globals = mainGlobals) (hk : scope.kind = .function) (hgl : scope.names.lookup ("len" : Str) = some .globalImplicit)
    (la : scope.names.lookup xa = some .local) (lb : scope.names.lookup xb = some .local) (da : (xa == ("__debug__" : Str)) = false) (db : (xb == ("__debug__" : Str)) = false) :
    EltI prog w base env scope xa xb (.BinOp (.Call (.Name "len" p1) [.Name xa p2] [] p3) .Add (.Call (.Name "len" p4) [.Name xb p5] [] p6) p7) (fun a b => a.length ≤ sizeLine ∧ b.length ≤ sizeLine) (fun a b => (a.length : Int) + b.length) := by
  intro cl L code A' E' ka va ta tv s₂ m₂ hz kb hn hma hmb
  obtain ⟨mb, hb, hbb⟩ := M.blt
  have hlen : mb "len" = some (.builtin "len") := by rw [hbb "len" (by decide +kernel)]; decide +kernel
  have gl : s₂.heap.Ns (genEnv scope cl L code builtinsNs env).globals mg := by
    show s₂.heap.Ns env.globals mg
    rw [hglob]
    exact M.glob.keeps kb
  have bl : s₂.heap.Ns (genEnv scope cl L code builtinsNs env).builtins mb := hb.keeps kb
  refine wpAny_BinOp ?_
  refine ev_len hk hgl gl hmiss bl hlen la hn hma da hz.1 fun t1 n1 => ?_
  refine ev_len hk hgl gl hmiss bl hlen lb hn hmb db hz.2 fun t2 n2 => ?_
  exact PyProof.Rows.add_int ⟨⟨_, rfl⟩, GxR.keeps_tok _ _⟩
end Pr

/-! lambdas whose making changes their own table alone -/
namespace Pr
open PySem PySem.Spec PyProof.Rows L2 LamX NdefX
/-- the table at P has grown, all else stays -/
def OnlyT (P : Addr) (H H' : Hp) : Prop := ∀ b o, H b = some o → b ≠ P → H' b = some o
section
variable {X : Cx} {pins : List (Addr × Obj)} {σ : L2.St} {H : Hp} {s : Shared}
theorem lm_make1 {c P : Addr} {q : Str} {params : Arguments} {body : Expr} {scope : Scope} {pos : Pos} {E : Value → Shared → Prop} {Q : Value → Shared → Prop} (I : Inv X pins σ H s) (TB : TabB X.base X.mg c P) (hcode : X.env.code = .ref c)
    (hq : q = X.env.qual ++ "<lambda>") (hT : TabS H P q) (hdef : defaultsOf params X.env = ([], [])) (hfree : ∀ y ∈ scope.names, y.2 = .free → ∃ c, X.env.cells.lookup y.1 = some c)
    (k : ∀ (f c' : Addr) (H' : Hp) (s' : Shared), Inv X pins σ H' s' → OnlyT P H H' → TabS H' P q → H f = none → H' f = some (LmO f ⟨"<lambda>", q, params, [], scope, cloFrom X.env.cells scope.names [], c'⟩ body) → H' c' = some (CodeO c' q) → Q (.ref f) s') :
    wpAny (model X.prog X.w) X.A (eval (.Lambda params body scope pos) X.env) Q E s := by
  subst hq
  obtain ⟨tab, tabH, tri, told⟩ := hT
  have bmP := TB.bm.keeps I.bk
  have getP : s.heap.get? P = some { cls := .none, data := .fields tab } := I.hok P _ tabH
  have cl0 := closure_ok (scope := scope) hfree
  apply PySem.W.kla_eval hdef
  rcases among : codeAmong pos tab.toList with _ | cv
  · refine PySem.W.kla_makeFunction (P := P) (c := c) (mg := X.mg) (ps := tab) cl0 I.ok.glob (I.mod.glob.keeps I.bk) hcode (TB.code.keeps I.bk) getP tri among TB.gP bmP ?_
    rintro c' ctv h' tk grow ge lt ⟨c2, oc, vs, t, e2, hoc, hd, hv⟩ tabNew
    cases e2
    have freshC : H c' = none := I.hok.fresh ge
    have J := inv_table (t' := tk) (more := #[rawInt pos.line, rawInt pos.col, .ref c']) (h' := h') I tabH (fun b o hb z => grow b o hb z) tabNew ge ⟨oc, vs, t, hoc, hd, hv⟩
    have eN : OnlyT P H (upd (upd H P (.tbl (tab ++ #[rawInt pos.line, rawInt pos.col, .ref c']))) c' (CodeO c' (X.env.qual ++ "<lambda>"))) := by
      intro b o z nb
      exact (upd_ne (ne_of_none z freshC)).trans ((upd_ne nb).trans z)
    have listE : (tab ++ #[rawInt pos.line, rawInt pos.col, .ref c']).toList = tab.toList ++ [rawInt pos.line, rawInt pos.col, .ref c'] := by simp
    have nPc : ∀ d q', H d = some (CodeO d q') → d ≠ P := fun d q' z y => by
      rw [y, tabH] at z
      exact codeO_ne _ (Option.some.inj z).symm
    have TN : TabS (upd (upd H P (.tbl (tab ++ #[rawInt pos.line, rawInt pos.col, .ref c']))) c' (CodeO c' (X.env.qual ++ "<lambda>"))) P (X.env.qual ++ "<lambda>") := by
      refine ⟨_, (upd_ne (ne_of_none tabH freshC)).trans upd_same, listE ▸ PySem.TriplesOk_snoc _ _ _ _ tri, ?_⟩
      intro p' cv' hcv
      rw [listE] at hcv
      rcases among_app _ tri hcv with z | z
      · obtain ⟨d, e1, e2⟩ := told p' cv' z
        exact ⟨d, e1, eN _ _ e2 (nPc d _ e2)⟩
      · exact ⟨c', z, upd_same⟩
    have freshF := J.hok.fresh (Nat.le_refl _)
    have J2 := lm_track (F := ⟨"<lambda>", X.env.qual ++ "<lambda>", params, [], scope, cloFrom X.env.cells scope.names [], c'⟩) (e := body) (tk := tk) (pm := (X.mg "__name__").getD .none) (ctv := ctv) J rfl
    refine k h'.objs.size c' _ _ J2 (fun b o z n => (upd_ne (ne_of_none (eN b o z n) freshF)).trans (eN b o z n)) ?_ (I.hok.fresh (Nat.le_trans ge (Nat.le_of_lt lt))) upd_same ((upd_ne (Nat.ne_of_lt lt)).trans upd_same)
    obtain ⟨t1, t2, t3, t4⟩ := TN
    exact ⟨t1, (upd_ne (ne_of_none t2 freshF)).trans t2, t3, fun p cv h => by
      obtain ⟨d, e1, e2⟩ := t4 p cv h
      exact ⟨d, e1, (upd_ne (ne_of_none e2 freshF)).trans e2⟩⟩
  · obtain ⟨c', rfl, codeH⟩ := told pos cv among
    refine PySem.W.kla_makeFunctionHit (P := P) (c := c) (mg := X.mg) (ps := tab) cl0 I.ok.glob (I.mod.glob.keeps I.bk) hcode (TB.code.keeps I.bk) getP tri among bmP ?_
    intro ctv h' tk grow _
    have J : Inv X pins σ H { s with heap := h', toks := tk } := Inv.kept I grow
    have freshF : H h'.objs.size = none := J.hok.fresh (Nat.le_refl _)
    have J2 := lm_track (F := ⟨"<lambda>", X.env.qual ++ "<lambda>", params, [], scope, cloFrom X.env.cells scope.names [], c'⟩) (e := body) (tk := tk) (pm := (X.mg "__name__").getD .none) (ctv := ctv) J rfl
    exact k h'.objs.size c' _ _ J2 (fun b o z _ => (upd_ne (ne_of_none z freshF)).trans z) ⟨tab, (upd_ne (ne_of_none tabH freshF)).trans tabH, tri, fun p cv h => by
      obtain ⟨d, e1, e2⟩ := told p cv h
      exact ⟨d, e1, (upd_ne (ne_of_none e2 freshF)).trans e2⟩⟩ freshF upd_same ((upd_ne (ne_of_none codeH freshF)).trans codeH)
end
def tMkLam1 (P : Addr) (q : Str) (e : Expr) (mk : Addr → NF) : TE := fun σ H Q => TabS H P q ∧ ∀ (f c' : Addr) (H' : Hp), OnlyT P H H' → TabS H' P q → H f = none → H' f = some (LmO f (mk c') e) → H' c' = some (CodeO c' (mk c').qual) → Q (.ref f) H'
theorem pe_lam1 {X : Cx} {c P : Addr} {q : Str} {params : Arguments} {body : Expr} {scope : Scope} {pos : Pos} (TB : TabB X.base X.mg c P) (hcode : X.env.code = .ref c) (hq : q = X.env.qual ++ "<lambda>")
    (hdef : defaultsOf params X.env = ([], [])) (hfree : ∀ y ∈ scope.names, y.2 = .free → X.env.scope.names.lookup y.1 = some .cell ∨ X.env.scope.names.lookup y.1 = some .free) :
    PE X (.Lambda params body scope pos) (tMkLam1 P q body fun c' => ⟨"<lambda>", q, params, [], scope, cloFrom X.env.cells scope.names [], c'⟩) := by
  refine ⟨fun pins s σ H Q I ⟨hT, h⟩ => ?_⟩
  refine lm_make1 I TB hcode hq hT hdef (fun y hy e => (hfree y hy e).elim (fun z => I.ok.has _ (.inl z)) fun z => I.ok.has _ (.inr z)) fun f c' H' s' J eN tN n1 n2 n3 => ?_
  exact ⟨.ref f, H', J, rfl, h f c' H' eN tN n1 n2 n3⟩
/-- the reading of «told(lambda: ..)»: js the captured names' slots -/
def tToldM (prog : Program) (w : World) (K : PySem.W.Frag) (mg : Str → Option Value) (base : Heap) (k : Nat) (P : Addr) (q : Str) (mk : Addr → NF) (e : Expr) (fr : List Str) (js : List Nat) (CS : Addr) (ret : Str) (sp : List (Option V) → Hp → VK → XK → Prop) : TE := fun σ H Q =>
  TabS H P q ∧ ∀ (H' : Hp), OnlyT P H H' → TabS H' P q → TTold K CS ret (fun E H' Q' => sp (js.map (slotAt σ)) H' Q' E) H' Q
theorem pe_toldM {X : Cx} {c P : Addr} {q : Str} {params : Arguments} {body : Expr} {scope : Scope} {fr : List Str} {js : List Nat} {sp : List (Option V) → Hp → VK → XK → Prop} {x a ee ret : Str} {g CS : Addr} {k : Nat} {pg : Arguments} {sg : Scope} {dV kV doc pm cdv ct oc : Value} {an od : Option Addr} {osl : Array (Option Value)} {Ng : List Str} {j : Nat} {p1 p2 p3 p4 p5 p6 p7 p8 p pb pos : Pos}
    (TB : TabB X.base X.mg c P) (hcode : X.env.code = .ref c) (hq : q = X.env.qual ++ "<lambda>") (hdef : defaultsOf params X.env = ([], [])) (hfree : ∀ y ∈ scope.names, y.2 = .free → X.env.scope.names.lookup y.1 = some .cell ∨ X.env.scope.names.lookup y.1 = some .free)
    (hfr : ∀ y ∈ fr, (y, NameKind.free) ∈ scope.names) (hjs : js.map (fun j => X.N[j]?) = fr.map some) (L : ∀ f c', LOk X.prog X.w X.K X.mg X.base k f ⟨"<lambda>", q, params, [], scope, cloFrom X.env.cells scope.names [], c'⟩ body fr sp)
    (hg : Gl X x) (hm : X.mg x = some (.ref g)) (hk : PySem.W.keepIn X.K (.ref g) = true)
    (lk : X.K.lookup g = some ⟨oc, od, .func (PySem.W.fnOf x x pg [.Try [.Return (some (.Call (.Name a p1) [] [] p2)) p3] [.ExceptHandler (some (.Name ee p4)) none [.Return (some (.Constant (.str ret) j p5)) p6] p7] [] [] p8] sg dV kV doc pm an cdv ct), osl⟩) (hcg : PySem.W.codeIn X.K cdv x = true)
    (hb : L2.Binds X.K (PySem.W.fnOf x x pg [.Try [.Return (some (.Call (.Name a p1) [] [] p2)) p3] [.ExceptHandler (some (.Name ee p4)) none [.Return (some (.Constant (.str ret) j p5)) p6] p7] [] [] p8] sg dV kV doc pm an cdv ct) [a] []) (Sg : FnScope Ng [a] sg) (hNg : Ng[0]? = some a) (hva : Vis sg a)
    (hge : sg.names.lookup ee = some .globalImplicit) (hme : X.mg ee = some (.ref CS)) (hde : (ee == ("__debug__" : Str)) = false) (h0 : ∀ f : Addr, (L2.start Ng [V.ref f])[0]? = some (some (V.ref f))) (hr : Room (k + 1) X.A)
    (hdb : (x == ("__debug__" : Str)) = false := by decide) (hd : (a == ("__debug__" : Str)) = false := by decide) (hcd : (a == ("__classdict__" : Str)) = false := by decide) :
    PE X (.Call (.Name x p) [.Lambda params body scope pb] [] pos) (tToldM X.prog X.w X.K X.mg X.base k P q (fun c' => ⟨"<lambda>", q, params, [], scope, cloFrom X.env.cells scope.names [], c'⟩) body fr js CS ret sp) := by
  refine ⟨fun pins s σ H Q I ⟨hT, h⟩ => ?_⟩
  refine wpAny_Call_Name_kw (ld_glob I hg hm ?_ hdb)
  refine PySem.W.callWith_K (h₀ := X.base) I.ok.mod.kin hk ?_ (by rfl) (by rfl)
  show wpAny _ _ (spliced ((false, eval (.Lambda params body scope pb) X.env) :: backTo pos (starEach [] X.env))) _ _ s
  refine Calls.spliced_cons (lm_make1 I TB hcode hq hT hdef (fun y hy e => (hfree y hy e).elim (fun z => I.ok.has _ (.inl z)) fun z => I.ok.has _ (.inr z)) fun f c' H1 s1 I1 eN tN n1 hf hc => ?_)
  have hT := h H1 eN tN
  refine Calls.spliced_nil ⟨I1.kIn, ?_⟩
  have cells : CellsAt (cloFrom X.env.cells scope.names []) fr (js.map (slotAt σ)) s1.heap H1 := cells_of I1 (Caps.made I1.ok hfree hfr hjs)
  have done : codeAny (model X.prog X.w) X.A (.call (.ref g) ⟨[.ref f], []⟩) (CR C8.CX0 X.stack X.prog X.w H1 s1 Q C8.E0) s1 := by
    refine run_ofS (N := Ng) (ps := [a]) (us := [.ref f]) (vs := [.ref f]) lk hcg Sg hr I1.env0 (hb s1 [.ref f] I1.kIn rfl) (.cons rfl .nil) rfl fun room => ?_
    have G := told_gives (X := X) (Ng := Ng) (x := x) (a := a) (e := ee) (q := q) (ret := ret) (sg := sg) (g := g) (CS := CS) (cdg := cdv) (j := j) (p1 := p1) (p2 := p2) (p3 := p3) (p4 := p4) (p5 := p5) (p6 := p6) (p7 := p7) (p8 := p8) hge hme hde h0
    obtain ⟨t, pt, ht⟩ := G f c' s1 H1 Q (fun E H' Q' => H' f = some (LmO f ⟨"<lambda>", q, params, [], scope, cloFrom X.env.cells scope.names [], c'⟩ body) ∧ sp (js.map (slotAt σ)) H' Q' E) (fun W pn xe E q1 q2 tk hW =>
      pe_actL (X := (cxOf C8.CX0 X.prog X.w X.K X.mg X.base Ng x sg g cdv X.A X.stack s1 H1 C8.E0).tr pn xe) (L f c') room cells rfl (passes_call tk hW) hNg hva hd hcd) hc ⟨hf, hT⟩
    exact ⟨t, pt.nox, ht⟩
  refine wpAny_call (codeAny_mono done fun r s2 hq => ?_)
  rcases r with z | z
  · exact (show False from hq).elim
  · rcases z with _ | _ | _ | u
    all_goals first
      | exact I1.after hq
      | exact False.elim hq
end Pr

/-! generator expressions whose elements may call, make, change things -/
namespace Pr
open PySem PySem.Spec PyProof.Rows L2 LamX NdefX
/-- a code object that was made within a run, its table at P -/
def GCode (c P : Addr) : HO := .ext fun h => PySem.W.CodeHd h c P
/-- the table of such a code object, while nobody looks into it -/
def GTabO (P : Addr) : HO := .ext fun h => ∃ ps : Array Value, h.get? P = some { cls := .none, data := .fields ps } ∧ TriplesOk ps.toList
/-- the running code's table -/
def CodeP (X : Cx) (P : Addr) (H : Hp) : Prop := ∃ c, X.env.code = .ref c ∧ (PySem.W.CodeHd X.base c P ∨ H c = some (GCode c P))
/-- the context of a generator's body -/
abbrev gnC (X : Cx) (s : Shared) (H : Hp) (A' : Around) (cenv : Env) (fp : List Addr) : Cx :=
  { X with A := A', s_0 := s, H_0 := H, env := cenv, outer := X.stack, stack := cenv :: X.stack, ex := fp, fn := fun x => cenv.scope.names.lookup x == some .cell, calm := true, pn := [], xe := fun _ _ => False }
/-- the generator expression's scope -/
structure GnOk (N : List Str) (sc scope : Scope) (own : List (Str × Nat)) : Prop where
  kind : scope.kind = .function
  co : scope.isCoroutine = false
  dot : scope.names.lookup (".0" : Str) = some NameKind.local
  uniq : ∀ y ∈ scope.names, scope.names.lookup y.1 = some y.2
  ix : ∀ p ∈ own, N[p.2]? = some p.1
  free : ∀ y ∈ scope.names, y.2 = .free → sc.names.lookup y.1 = some .cell ∨ sc.names.lookup y.1 = some .free
  own : ∀ y ∈ scope.names, y.2 = .local ∨ y.2 = .cell → y.1 ∈ own.map (·.1) ∨ y.1 ∉ N
def gnB (N : List Str) (sc scope : Scope) (own : List (Str × Nat)) : Bool :=
  decide (scope.kind = .function) && !scope.isCoroutine && decide (scope.names.lookup (".0" : Str) = some NameKind.local) && (scope.names.all fun y => decide (scope.names.lookup y.1 = some y.2)) && (own.all fun p => decide (N[p.2]? = some p.1)) &&
    (scope.names.all fun y => !decide (y.2 = .free) || decide (sc.names.lookup y.1 = some .cell) || decide (sc.names.lookup y.1 = some .free)) && (scope.names.all fun y => (!decide (y.2 = .local) && !decide (y.2 = .cell)) || decide (y.1 ∈ own.map (·.1)) || decide (y.1 ∉ N))
theorem gnOk_by {N : List Str} {sc scope : Scope} {own : List (Str × Nat)} (h : gnB N sc scope own = true) : GnOk N sc scope own := by
  unfold gnB at h
  simp only [Bool.and_eq_true, List.all_eq_true, decide_eq_true_eq, Bool.not_eq_true', decide_eq_false_iff_not, Bool.or_eq_true] at h
  obtain ⟨⟨⟨⟨⟨⟨h1, h2⟩, h4⟩, h5⟩, h6⟩, h7⟩, h8⟩ := h
  refine ⟨h1, h2, h4, h5, h6, fun y hy e => ?_, fun y hy e => ?_⟩
  · rcases h7 y hy with (z | z) | z
    · exact absurd e z
    · exact .inl z
    · exact .inr z
  · rcases h8 y hy with (z | z) | z
    · exact e.elim (fun e => absurd e z.1) fun e => absurd e z.2
    · exact .inl z
    · exact .inr z
section
variable {X : Cx} {pins : List (Addr × Obj)} {σ : L2.St} {H : Hp} {s : Shared}
theorem gn_start {scope : Scope} {own : List (Str × Nat)} {fp : List Addr} {A' : Around} {code : Value} {h' : Heap} {m' : Str → Option Value} {gp : List (Addr × Obj)} {g' : Array GenState} {t' : Nat} (I : Inv X pins σ H s) (ok : GnOk X.N X.env.scope scope own) (hN : X.N.Nodup) (hfp : ∀ b ∈ fp, FpOk X pins H b ∧ b < s.heap.objs.size)
    (hA : A'.frames = some (genEnv scope (cellsFrom (s.heap.objs.size + 1) scope.names (cloFrom X.env.cells scope.names [])) s.heap.objs.size code builtinsNs X.env :: X.stack)) (hh : A'.handled = none) (hns : h'.Ns s.heap.objs.size m') (kp : ∀ b o, s.heap.get? b = some o → h'.get? b = some o) (hg : AllBare g')
    (kc : ∀ b o, b ≠ s.heap.objs.size → (pushCells (s.heap.push { cls := .type "frame", data := .dict #[] }) scope.names).get? b = some o → h'.get? b = some o) (hp : ∀ p ∈ gp, h'.get? p.1 = some p.2 ∧ s.heap.objs.size < p.1 ∧ ∀ v, p.2.data ≠ .cell v) :
    Inv (gnC X s H A' (genEnv scope (cellsFrom (s.heap.objs.size + 1) scope.names (cloFrom X.env.cells scope.names [])) s.heap.objs.size code builtinsNs X.env) fp) gp (wipe σ (own.map (·.2))) H { s with heap := h', gens := g', toks := t' } := by
  have hfree : ∀ y ∈ scope.names, y.2 = .free → ∃ c, X.env.cells.lookup y.1 = some c := fun y hy e => by
    rcases ok.free y hy e with k | k
    · exact I.ok.has _ (.inl k)
    · exact I.ok.has _ (.inr k)
  generalize hcenv : genEnv scope (cellsFrom (s.heap.objs.size + 1) scope.names (cloFrom X.env.cells scope.names [])) s.heap.objs.size code builtinsNs X.env = cenv at hA ⊢
  have hL : cenv.locals = s.heap.objs.size := by rw [← hcenv]; rfl
  have hcl : cenv.cells = cellsFrom (s.heap.objs.size + 1) scope.names (cloFrom X.env.cells scope.names []) := by rw [← hcenv]; rfl
  have hsc : cenv.scope = scope := by rw [← hcenv]; rfl
  rw [← Heap.size_push s.heap { cls := .type "frame", data := .dict #[] }] at hcl
  have cm : ∀ {y c}, (y, c) ∈ cloFrom X.env.cells scope.names [] → X.env.cells.lookup y = some c ∧ c < s.heap.objs.size := fun {y c} hm => by
    rcases cloFrom_mem hm with hm | ⟨h1, rfl⟩
    · cases hm
    · obtain ⟨c, hc⟩ := hfree _ h1 rfl
      rw [hc]
      obtain ⟨w, z⟩ := I.cell _ _ hc
      exact ⟨rfl, z.lt⟩
  have mem : ∀ {y c}, cenv.cells.lookup y = some c → (X.env.cells.lookup y = some c ∧ c < s.heap.objs.size) ∨ (s.heap.objs.size + 1 ≤ c ∧ CellAt h' c none) := fun {y c} e => by
    rw [hcl] at e
    rcases cells_mem (PySem.mem_of_lookup e) with hm | ⟨_, h2, h3⟩
    · exact .inl (cm hm)
    · rw [Heap.size_push] at h2
      obtain ⟨o, q1, q2⟩ := h3
      exact .inr ⟨h2, o, kc c o (Nat.ne_of_gt h2) q1, q2⟩
  have look : ∀ {y}, scope.names.lookup y = some .free → ∃ c, cenv.cells.lookup y = some c ∧ X.env.cells.lookup y = some c := fun {y} hl => by
    have hy : (y, NameKind.free) ∈ scope.names := PySem.mem_of_lookup hl
    obtain ⟨c', e'⟩ := mem_lookup (cells_acc (names := scope.names) (n := (s.heap.push { cls := .type "frame", data := .dict #[] }).objs.size) (cloFrom_has (cells := X.env.cells) (acc := []) hy))
    rw [← hcl] at e'
    refine ⟨c', e', ?_⟩
    rw [hcl] at e'
    rcases cells_mem (PySem.mem_of_lookup e') with hm | ⟨h1, _, _⟩
    · exact (cm hm).1
    · have := ok.uniq _ h1
      rw [hl] at this; cases this
  have okB : (gnC X s H A' cenv fp).Ok := by
    refine ⟨I.ok.mod, by show cenv.scope.kind = _; rw [hsc]; exact ok.kind, by show cenv.globals = _; rw [← hcenv]; exact I.ok.glob, by show cenv.builtins = _; rw [← hcenv]; rfl, by show s.heap.objs.size ≤ cenv.locals; rw [hL]; exact Nat.le_refl _,
      fun y z c e1 e2 => ?_, fun y hy => ?_, fun y c z e => ?_, fun _ => hh, hA, .inr ⟨rfl, ?_⟩, fun b hb => ⟨?_, fun y c e z => ?_⟩, I.bs, Nat.le_trans I.ok.bsz I.sz, fun b o e hb => ?_, fun b hb z => ?_, I.stack, I.stkFree⟩
    · have e1 : cenv.cells.lookup y = some c := e1
      have e2 : cenv.cells.lookup z = some c := e2
      rw [hcl] at e1 e2
      refine cells_inj (fun p hp => ?_) (fun y z c a b => I.ok.inj y z c (cm a).1 (cm b).1) (PySem.mem_of_lookup e1) (PySem.mem_of_lookup e2)
      rw [Heap.size_push]
      exact Nat.lt_succ_of_lt (cm (y := p.1) (c := p.2) hp).2
    · show ∃ c, cenv.cells.lookup y = some c
      have hy : cenv.scope.names.lookup y = some .cell ∨ cenv.scope.names.lookup y = some .free := hy
      rw [hsc] at hy
      rcases hy with hy | hy
      · obtain ⟨c, hm⟩ := cells_has (n := (s.heap.push { cls := .type "frame", data := .dict #[] }).objs.size) (acc := cloFrom X.env.cells scope.names []) (PySem.mem_of_lookup hy)
        obtain ⟨c', e'⟩ := mem_lookup hm
        exact ⟨c', by rw [hcl]; exact e'⟩
      · obtain ⟨c, h1, _⟩ := look hy
        exact ⟨c, h1⟩
    · have z : (cenv.scope.names.lookup y == some NameKind.cell) = true := z
      have z : scope.names.lookup y = some .cell := by rw [hsc] at z; simpa using z
      have e : cenv.cells.lookup y = some c := e
      rw [hcl] at e
      rcases cells_mem (PySem.mem_of_lookup e) with hm | ⟨_, h2, _⟩
      · rcases cloFrom_mem hm with hm | ⟨h1, _⟩
        · cases hm
        · have q := ok.uniq _ h1
          rw [z] at q; cases q
      · rw [Heap.size_push] at h2
        exact Nat.le_of_succ_le h2
    · show cenv.frame = some cenv.locals
      rw [← hcenv]; rfl
    · show b ≠ cenv.locals
      rw [hL]; exact Nat.ne_of_lt (hfp b hb).2
    · have e : cenv.cells.lookup y = some c := e
      rcases mem e with ⟨h1, _⟩ | ⟨h1, _⟩
      · exact (hfp b hb).1.2.2.2.2.1 y c h1 z
      · have h2 : s.heap.objs.size + 1 ≤ b := by rw [← z]; exact h1
        exact absurd (Nat.lt_of_lt_of_le (hfp b hb).2 (Nat.le_of_succ_le h2)) (Nat.lt_irrefl _)
    · rcases (hfp b hb).1.2.2.2.1 with z | z
      · exact I.ok.noex b o e z
      · exact absurd (Nat.lt_of_lt_of_le (Heap.lt_size e) (Nat.le_trans I.ok.bsz z)) (Nat.lt_irrefl _)
    · rcases List.mem_cons.mp (I.stkSub b z) with z | z
      · exact (hfp b hb).1.2.1 z
      · exact (hfp b hb).1.2.2.1 z
  refine ⟨okB, rfl, hg, Un.kept kp, ⟨m', by show Heap.Ns _ cenv.locals _; rw [hL]; exact hns, fun i y av e1 e2 e3 => ?_⟩, fun y c e => ?_, ?_, fun y c e => ?_, fun p hpm => ?_, I.hok.kept kp, by rw [wipe_length]; exact I.len⟩
  · obtain ⟨e2, hne⟩ := wipe_some e2
    have no : ∀ k', scope.names.lookup y = some k' → ¬ (k' = .local ∨ k' = .cell) := fun k' e hh => by
      rcases ok.own _ (PySem.mem_of_lookup e) hh with e' | e'
      · obtain ⟨p, hp, hpy⟩ := List.mem_map.mp e'
        have e3 := ok.ix p hp
        have : p.1 = y := hpy
        rw [this] at e3
        exact hne (List.mem_map.mpr ⟨p, hp, nodup_ix hN e3 e1⟩)
      · exact e' (List.mem_of_getElem? e1)
    have hfr : scope.names.lookup y = some .free := by
      have e3 : Vis cenv.scope y := e3
      rw [hsc] at e3
      rcases e3 with e3 | e3 | e3
      · exact absurd (.inl rfl) (no _ e3)
      · exact absurd (.inr rfl) (no _ e3)
      · exact e3
    obtain ⟨m, hn, hl⟩ := I.loc
    have hvis : Vis X.env.scope y := (ok.free _ (PySem.mem_of_lookup hfr) rfl).elim (fun k => .inr (.inl k)) (fun k => .inr (.inr k))
    obtain ⟨w, r, q⟩ := hl i y av e1 e2 hvis
    refine ⟨w, r, .inr ⟨.inr (by show cenv.scope.names.lookup y = _; rw [hsc]; exact hfr), ?_⟩⟩
    obtain ⟨c, h1, h2⟩ := look hfr
    rcases q with ⟨k, _⟩ | ⟨_, c', e', z⟩
    · have k : X.env.scope.names.lookup y = some .local := k
      rcases ok.free _ (PySem.mem_of_lookup hfr) rfl with k' | k' <;> rw [show X.env.scope.names.lookup y = _ from k'] at k <;> cases k
    · rw [h2] at e'; cases e'
      exact ⟨c, h1, z.keeps kp⟩
  · have e : cenv.cells.lookup y = some c := e
    rcases mem e with ⟨h1, _⟩ | ⟨_, z⟩
    · obtain ⟨w, z⟩ := I.cell y c h1
      exact ⟨w, z.keeps kp⟩
    · exact ⟨_, z⟩
  · show H cenv.locals = none
    rw [hL]; exact I.hok.fresh (Nat.le_refl _)
  · have e : cenv.cells.lookup y = some c := e
    rcases mem e with ⟨h1, _⟩ | ⟨h1, _⟩
    · exact I.freeC y c h1
    · exact I.hok.fresh (Nat.le_of_succ_le h1)
  · have hpm : p ∈ gp := (List.mem_append.mp hpm).elim (fun z => absurd z (by simp)) id
    obtain ⟨q1, q2, q3⟩ := hp p hpm
    refine ⟨q1, I.hok.fresh (Nat.le_of_lt q2), by show p.1 ≠ cenv.locals; rw [hL]; exact Nat.ne_of_gt q2, fun z => ?_, q3⟩
    obtain ⟨_, o, ho, _⟩ := I.stack.mem z
    exact absurd (Nat.lt_trans q2 (Heap.lt_size ho)) (Nat.lt_irrefl _)
end
/-- a value kept in a slot that no name of the body sees -/
def ghost : Option Nat → Value → L2.St → L2.St
  | some i, .ref c, σ => σ.set i (some (.ref c))
  | _, _, σ => σ
theorem ghost_ok {B : Cx} {gp : List (Addr × Obj)} {σ : L2.St} {H : Hp} {s : Shared} (I : Inv B gp σ H s) (ig : Option Nat) (v : Value) (hg : ∀ i, ig = some i → ∀ x, B.N[i]? = some x → ¬ Vis B.env.scope x) : Inv B gp (ghost ig v σ) H s := by
  unfold ghost
  split
  · rename_i i c
    refine ⟨I.ok, I.os, I.bare, I.base, let ⟨m, hn, hl'⟩ := I.loc; ⟨m, hn, fun j x v e1 e2 e3 => ?_⟩, I.cell, I.free, I.freeC, I.pin, I.hok, by rw [List.length_set]; exact I.len⟩
    by_cases hj : i = j
    · subst hj
      exact absurd e3 (hg i rfl x e1)
    · rw [List.getElem?_set_ne hj] at e2
      exact hl' j x v e1 e2 e3
  · exact I
/-! ## the turns -/
/-- how a generator expression's turns go: J its walk, C what its consumer does with an element, F the end -/
def TnW (J : It) (g : TG) (tt : TT) (te : TE) (vs : List Nat) (σw : L2.St) (C : V → Hp → (Hp → Prop) → Prop) (F : Hp → Prop) (W : Nat → Nat → Hp → Prop) : Prop := ∀ i m H, W i m H →
  (J.stop i H ∧ F H) ∨ (J.go i H ∧ ∃ Nx : Hp → Prop, (∀ H', Nx H' → ∃ m', m' < m ∧ W (i + 1) m' H') ∧ ∀ x H', J.yld i H x H' → g x σw H' fun σ2 H2 => wipe σ2 vs = σw ∧ tt σ2 H2 fun b H3 => if b = true then te σ2 H3 fun y H4 => C y H4 Nx else Nx H3)
def GnY (B : Cx) (gp : List (Addr × Obj)) (fp : List Addr) (tn : Nat → Heap → Prop) (σw : L2.St) (C : V → Hp → (Hp → Prop) → Prop) : Protocol := fun n s₀ v s kap =>
  ∃ y G Nx i, RelV y v ∧ Inv B gp σw G s ∧ tn i s.heap ∧ (∀ b ∈ fp, G b = none) ∧ C y G Nx ∧ ∀ s' G', Inv B gp σw G' s' → tn i s'.heap → (∀ b ∈ fp, G' b = none) → Nx G' → kap (.send .none) s'
def GnR (B : Cx) (gp : List (Addr × Obj)) (fp : List Addr) (σw : L2.St) (F : Hp → Prop) : Nat → Shared → Shared → Prop := fun n s₀ s => ∃ G, Inv B gp σw G s ∧ (∀ b ∈ fp, G b = none) ∧ F G
section
variable {B : Cx} {gp : List (Addr × Obj)} {fp : List Addr} {tn : Nat → Heap → Prop} {σw : L2.St} {vs : List Nat} {C : V → Hp → (Hp → Prop) → Prop} {F : Hp → Prop} {J : It} {g : TG} {tt : TT} {te : TE} {W : Nat → Nat → Hp → Prop} {A₁ : Around} {elt tg iter : Expr} {ifs : List Expr} {scope : Scope} {pos : Pos} {it : Addr}
theorem seg_gnLoop (hB : A₁.over (.compLoop (.GeneratorExp elt [⟨tg, iter, ifs, 0⟩] scope pos) 0 (.ref it) .none B.env) [] = B.A) (hc : B.calm = true) (hco : B.env.scope.isCoroutine = false) (hxe : B.xe = fun _ _ => False) (turns : Turn B.prog B.w B.K tg J fp it tn)
    (fpX : ∀ {pins : List (Addr × Obj)} {τ : L2.St} {G : Hp} {z : Shared}, Inv B pins τ G z → (∀ p ∈ pins, p.1 ∉ fp) → (∀ b ∈ fp, G b = none) → ∀ b ∈ fp, FpOk B pins G b) (hgp : ∀ p ∈ gp, p.1 ∉ fp)
    (dg : PG B tg g) (dt : PTs B ifs tt) (de : PE B elt te) (turn : TnW J g tt te vs σw C F W) :
    ∀ (m n i : Nat) (s₀ s : Shared) (G : Hp), m < n → Inv B gp σw G s → tn i s.heap → (∀ b ∈ fp, G b = none) → W i m G →
      Seg (model B.prog B.w) A₁ (fun n s₀ r s₁ => r = .ok .next ∧ GnR B gp fp σw F n s₀ s₁) (GnY B gp fp tn σw C) n s₀ (.compLoop (.GeneratorExp elt [⟨tg, iter, ifs, 0⟩] scope pos) 0 (.ref it) .none B.env)
        ((model B.prog B.w).den (.compLoop (.GeneratorExp elt [⟨tg, iter, ifs, 0⟩] scope pos) 0 (.ref it) .none B.env)) [] s := by
  intro m
  induction m using Nat.strongRecOn with
  | ind m ih =>
    intro n i s₀ s G hn I st no w
    show Seg _ A₁ _ _ _ s₀ _ ((compTurn (.GeneratorExp elt [⟨tg, iter, ifs, 0⟩] scope pos) 0 (.ref it) .none B.env).onRaise (leaving B.env)) [] s
    rw [compTurn_gen, Sem.onRaise_eq_wrap]
    refine seg_bind_wrap (wpAny_standAt ?_)
    rcases turn i m G w with ⟨stop, fin⟩ | ⟨go, Nx, nx, step⟩
    · refine seg_bind_wrap ?_
      rw [hB]
      refine wpAny_mono (turns.done B rfl rfl rfl hc i gp s _ G _ I (fpX I hgp no) st stop) (fun r s1 h => ?_) fun _ _ e => e
      obtain ⟨rfl, I1⟩ := h
      exact seg_end (.ok .next) ⟨rfl, G, I1, no, fin⟩
    · refine seg_bind_wrap ?_
      rw [hB]
      refine wpAny_mono (turns.item B rfl rfl rfl hc i gp s _ G _ I (fpX I hgp no) st go) (fun r s1 h => ?_) fun _ _ e => e
      obtain ⟨u, rfl, h6⟩ := h
      refine seg_bind_wrap ?_
      rw [hB]
      refine wpAny_mono h6 (fun _ s7 h => ?_) fun _ _ e => e
      obtain ⟨x, G7, I7, r7, y7, st7, no7⟩ := h
      have J7 := I7.pinned (fpX I7 hgp no7) (turns.obj _ _ st7)
      refine seg_bind_wrap ?_
      rw [hB]
      refine wpAny_mono (dg.run _ s7 _ G7 x u _ J7 r7 (step x G7 y7)) (fun _ s8 h => ?_) fun _ _ e => by rw [hxe] at e; exact e.elim
      obtain ⟨σ8, G8, I8, same8, q8⟩ := h
      refine seg_bind_wrap ?_
      rw [hB]
      refine wpAny_mono (dt.run _ s8 σ8 G8 _ I8 q8) (fun b s9 h => ?_) fun _ _ e => by rw [hxe] at e; exact e.elim
      obtain ⟨G9, I9, q9⟩ := h
      have pinnedAt : ∀ {z : Shared} {G' : Hp} {τ : L2.St}, Inv B (gp ++ pinsAt fp s7.heap) τ G' z → ∀ b ∈ fp, ∀ o, s7.heap.get? b = some o → z.heap.get? b = some o ∧ G' b = none := fun {z G' τ} Iz b hb o e => by
        have q := Iz.pin (b, o) (List.mem_append_right _ (List.mem_append_right _ (mem_pinsAt hb e)))
        exact ⟨q.1, q.2.1⟩
      have len8 : (σw).length = σ8.length := by rw [← same8, wipe_length]
      have back : ∀ {z : Shared} {G' : Hp}, Inv B (gp ++ pinsAt fp s7.heap) σ8 G' z → Inv B gp σw G' z ∧ tn (i + 1) z.heap ∧ ∀ b ∈ fp, G' b = none := fun {z G'} Iz =>
        ⟨(Iz.unpinned (pins := gp)).weak len8 (fun j v e => (wipe_some (by rw [same8]; exact e)).1), turns.keep _ _ _ st7 fun b hb o e => (pinnedAt Iz b hb o e).1, fun b hb => by
          obtain ⟨o, e, _⟩ := turns.obj _ _ st7 b hb
          exact (pinnedAt Iz b hb o e).2⟩
      cases b with
      | false =>
        simp only [Bool.false_eq_true, if_false] at q9 ⊢
        obtain ⟨m', less, w'⟩ := nx G9 q9
        obtain ⟨b1, b2, b3⟩ := back I9
        exact seg_again rfl (ih m' less n (i + 1) s₀ s9 G9 (Nat.lt_trans less hn) b1 b2 b3 w')
      | true =>
        simp only [if_true] at q9 ⊢
        have hy : ∀ v, yieldOut B.env v = yieldValue v := fun v => by simp only [yieldOut, hco, Bool.false_eq_true, if_false]
        simp only [hy]
        rw [Sem.bind_eq_wrap', Sem.bind_eq_wrap', Sem.wrap_wrap, Sem.wrap_wrap]
        refine seg_wrap ?_
        rw [hB]
        refine wpAny_mono (de.run _ s9 σ8 G9 _ I9 q9) (fun v s10 h => ?_) fun _ _ e => by rw [hxe] at e; exact e.elim
        obtain ⟨y, G10, I10, r10, c10⟩ := h
        obtain ⟨b1, b2, b3⟩ := back I10
        obtain ⟨n, rfl⟩ : ∃ k, n = k + 1 := ⟨n - 1, by omega⟩
        refine seg_at (seg_yield rfl rfl rfl ⟨y, G10, Nx, i + 1, r10, b1, b2, b3, c10, fun s' G' I' st' no' nx' => ?_⟩)
        obtain ⟨m', less, w'⟩ := nx G' nx'
        exact seg_again rfl (ih m' less n (i + 1) s' s' G' (by omega) I' st' no' w')
theorem seg_gnStart (hB : A₁.over (.compLoop (.GeneratorExp elt [⟨tg, iter, ifs, 0⟩] scope pos) 0 (.ref it) .none B.env) [] = B.A) (hc : B.calm = true) (hco : B.env.scope.isCoroutine = false) (hxe : B.xe = fun _ _ => False) (turns : Turn B.prog B.w B.K tg J fp it tn)
    (fpX : ∀ {pins : List (Addr × Obj)} {τ : L2.St} {G : Hp} {z : Shared}, Inv B pins τ G z → (∀ p ∈ pins, p.1 ∉ fp) → (∀ b ∈ fp, G b = none) → ∀ b ∈ fp, FpOk B pins G b) (hgp : ∀ p ∈ gp, p.1 ∉ fp)
    (dg : PG B tg g) (dt : PTs B ifs tt) (de : PE B elt te) (turn : TnW J g tt te vs σw C F W) (m n : Nat) (s₀ s : Shared) (G : Hp) (hn : m < n) (I : Inv B gp σw G s) (st : tn 0 s.heap) (no : ∀ b ∈ fp, G b = none) (w : W 0 m G) :
      Seg (model B.prog B.w) A₁ (fun n s₀ r s₁ => r = .ok .next ∧ GnR B gp fp σw F n s₀ s₁) (GnY B gp fp tn σw C) n s₀ (.compStart (.GeneratorExp elt [⟨tg, iter, ifs, 0⟩] scope pos) 0 (.ref it) .none B.env)
        ((model B.prog B.w).den (.compStart (.GeneratorExp elt [⟨tg, iter, ifs, 0⟩] scope pos) 0 (.ref it) .none B.env)) [] s := by
  have loop := seg_gnLoop hB hc hco hxe turns fpX hgp dg dt de turn m n 0 s₀ s G hn I st no w
  show Seg _ A₁ _ _ _ s₀ _ ((compStart (.GeneratorExp elt [⟨tg, iter, ifs, 0⟩] scope pos) 0 (.ref it) .none B.env).onRaise (leaving B.env)) [] s
  unfold compStart
  rw [Sem.onRaise_eq_wrap]
  show Seg _ A₁ _ _ _ s₀ _ ((ask >>= _).wrap _ _ _ _) [] s
  refine seg_bind_wrap (wpAny_askSetting ?_)
  split
  · exact seg_again rfl loop
  · first
      | exact seg_bind_wrap (wpAny_rule (seg_bind_wrap (wpAny_standAt (seg_bind_wrap (turns.self _ 0 s _ _ st (seg_again rfl loop))))))
      | (refine seg_bind_wrap (wpAny_rule ?_); show Seg _ A₁ _ _ _ s₀ _ ((standAt iter.pos >>= _).wrap _ _ _ _) [] s; exact seg_bind_wrap (wpAny_standAt (seg_bind_wrap (turns.self _ 0 s _ _ st (seg_again rfl loop)))))
end
end Pr

/-! code objects of generator expressions: found again, made -/
namespace Pr
open PySem PySem.Spec PyProof.Rows L2 LamX NdefX
/-- a table whose code objects are known, and their tables -/
def TabK (H : Hp) (P : Addr) : Prop := ∃ ps : Array Value, H P = some (.tbl ps) ∧ TriplesOk ps.toList ∧ ∀ (pos : Pos) (cv : Value), codeAmong pos ps.toList = some cv → ∃ c P', cv = .ref c ∧ H c = some (GCode c P') ∧ H P' = some (GTabO P')
def GrowK (P : Addr) (H H' : Hp) (code : Value) : Prop := TabK H' P ∧ (∃ c P', code = .ref c ∧ H' c = some (GCode c P') ∧ H' P' = some (GTabO P')) ∧ ∀ b o, H b = some o → b ≠ P → H' b = some o
theorem gcode_ne {c P : Addr} (ps : Array Value) : GCode c P ≠ .tbl ps := fun z => by unfold GCode at z; cases z
theorem gtab_ne {P : Addr} (ps : Array Value) : GTabO P ≠ .tbl ps := fun z => by unfold GTabO at z; cases z
theorem gcode_obj {P : Program} {w : World} {H : Hp} {h : Heap} {c Q : Addr} (x : PySem.W.CodeHd h c Q) : ObjOk P w H h c (GCode c Q) := by
  refine ⟨x, ?_, fun h1 h2 y k => ?_⟩
  · obtain ⟨o, _, _, _, _, _, _, _, _, e, _⟩ := x
    exact ⟨o, e⟩
  · obtain ⟨o, vs, file, tf, flags, tg, inF, text, tt, e, r⟩ := y
    exact ⟨o, vs, file, tf, flags, tg, inF, text, tt, k _ e, r⟩
theorem gtab_obj {P : Program} {w : World} {H : Hp} {h : Heap} {Q : Addr} {ps : Array Value} (x : h.get? Q = some { cls := .none, data := .fields ps }) (t : TriplesOk ps.toList) : ObjOk P w H h Q (GTabO Q) :=
  ⟨⟨ps, x, t⟩, ⟨_, x⟩, fun h1 h2 ⟨ps, y, t⟩ k => ⟨ps, k _ y, t⟩⟩
section
variable {X : Cx} {pins : List (Addr × Obj)} {σ : L2.St} {H : Hp} {s : Shared}
/-- the table has grown, new things are known -/
theorem inv_grow {P : Addr} {ps more : Array Value} {h' : Heap} {t' : Nat} {H' : Hp} (I : Inv X pins σ H s) (hP : H P = some (.tbl ps)) (k : ∀ b o, b ≠ P → s.heap.get? b = some o → h'.get? b = some o)
    (hm : h'.get? P = some { cls := .none, data := .fields (ps ++ more) }) (h1 : H' P = some (.tbl (ps ++ more))) (h2 : ∀ b o, H b = some o → b ≠ P → H' b = some o) (h3 : ∀ b o, H' b = some o → H b = none → s.heap.objs.size ≤ b ∧ ObjOk X.prog X.w H' h' b o) :
    Inv X pins σ H' { s with heap := h', toks := t' } := by
  have nP : ∀ b u, H b = some u → (∀ q, u ≠ .tbl q) → b ≠ P := fun b u e q z => by
    rw [z, hP] at e
    exact q ps (Option.some.inj e).symm
  have nN : ∀ b, H b = none → b ≠ P := fun b e z => by
    rw [z, hP] at e
    cases e
  refine I.step (g' := s.gens) (d' := s.drawn) (ch := []) (fun b hb => absurd hb (by simp)) (fun b o _ _ _ e n => k b o (nN b n) e) (fun b o _ _ _ e n => ⟨o.slots, k b o (nN b n) e⟩)
    (fun b o _ e n => ?_) (fun b o _ e => ?_) (fun b xs e => h2 b _ e (nP b _ e (fun q z => by cases z))) (fun b o u e => h2 b _ e (nP b _ e (fun q z => by cases z))) (fun b qs e => ?_) (fun m hn => ?_) (fun b u e => ?_) I.bare
  · cases q : H' b with
    | none => rfl
    | some u => exact absurd (Nat.lt_of_lt_of_le (Heap.lt_size e) (h3 b u q n).1) (Nat.lt_irrefl _)
  · by_cases hb : b = P
    · rw [hb]
      exact ⟨_, hm⟩
    · exact ⟨o, k b o hb e⟩
  · by_cases hb : b = P
    · rw [hb, hP] at e
      cases e
      rw [hb, h1]
      exact ⟨more, rfl⟩
    · rw [h2 b _ e hb]
      exact ⟨#[], by simp⟩
  · obtain ⟨ob, es, ep, ho, r⟩ := hn
    exact ⟨ob, es, ep, k _ ob (nN _ I.free) ho, r⟩
  · by_cases hb2 : b = P
    · rw [hb2, h1] at e
      cases e
      rw [hb2]
      exact hm
    · cases q : H b with
      | none => exact (h3 b u e q).2
      | some u' =>
        have := h2 b u' q hb2
        rw [e] at this
        cases this
        refine (I.hok b u q).stay (fun d v hd q => k d v ?_ q) (fun d q => h2 d _ q (nP d _ q (fun q z => by cases z))) fun d xs q => h2 d _ q (nP d _ q (fun q z => by cases z))
        rcases hd with z | z
        · rw [z]
          exact hb2
        · exact nP d _ z (fun q z => by cases z)
/-- a known table of a code object within has grown -/
theorem inv_in {P : Addr} {h' : Heap} {t' : Nat} (I : Inv X pins σ H s) (hP : H P = some (GTabO P)) (k : ∀ b o, b ≠ P → s.heap.get? b = some o → h'.get? b = some o)
    (hm : ∃ ps : Array Value, h'.get? P = some { cls := .none, data := .fields ps } ∧ TriplesOk ps.toList) : Inv X pins σ H { s with heap := h', toks := t' } := by
  have nN : ∀ b, H b = none → b ≠ P := fun b e z => by
    rw [z, hP] at e
    cases e
  have nP : ∀ b u, H b = some u → u ≠ GTabO P → b ≠ P := fun b u e q z => by
    rw [z, hP] at e
    exact q (Option.some.inj e).symm
  refine I.step (g' := s.gens) (d' := s.drawn) (ch := []) (fun b hb => absurd hb (by simp)) (fun b o _ _ _ e n => k b o (nN b n) e) (fun b o _ _ _ e n => ⟨o.slots, k b o (nN b n) e⟩)
    (fun b o _ e n => n) (fun b o _ e => ?_) (fun b xs e => e) (fun b o u e => e) (fun b qs e => ⟨#[], by simpa using e⟩) (fun m hn => ?_) (fun b u e => ?_) I.bare
  · by_cases hb : b = P
    · rw [hb]
      obtain ⟨ps, e, _⟩ := hm
      exact ⟨_, e⟩
    · exact ⟨o, k b o hb e⟩
  · obtain ⟨ob, es, ep, ho, r⟩ := hn
    exact ⟨ob, es, ep, k _ ob (nN _ I.free) ho, r⟩
  · by_cases hb2 : b = P
    · rw [hb2, hP] at e
      cases e
      rw [hb2]
      obtain ⟨ps, e1, e2⟩ := hm
      exact gtab_obj e1 e2
    · refine (I.hok b u e).stay (fun d v hd q => k d v ?_ q) (fun d q => q) fun d xs q => q
      rcases hd with z | z
      · rw [z]
        exact hb2
      · exact nP d _ z (fun z => by unfold GTabO at z; cases z)
/-- how a generator expression's code object comes -/
structure CodeStep (X : Cx) (gpos : Pos) (scope : Scope) (Pre : Hp → Prop) (Post : Hp → Hp → Value → Prop) : Prop where
  run : ∀ (pins : List (Addr × Obj)) (σ : L2.St) (H : Hp) (s : Shared) (E : Value → Shared → Prop), Inv X pins σ H s → Pre H → wpAny (model X.prog X.w) X.A (genexprCode X.env gpos (X.env.qual ++ "<genexpr>") scope)
    (fun code s' => ∃ H' h' tk, s' = { s with heap := h', toks := tk } ∧ Inv X pins σ H' s' ∧ s.heap.objs.size ≤ h'.objs.size ∧ (∀ b o, H b = none → s.heap.get? b = some o → h'.get? b = some o) ∧ (∀ b, b < s.heap.objs.size → H b = none → H' b = none) ∧ Post H H' code) E s
theorem codeStep_top {P c : Addr} {gpos : Pos} {scope : Scope} (hc : X.env.code = .ref c) (hcd : PySem.W.CodeHd X.base c P) : CodeStep X gpos scope (fun H => TabK H P) (GrowK P) := by
  refine ⟨fun pins σ H s E I ⟨ps, hP, ht, hk⟩ => ?_⟩
  have cd : PySem.W.CodeHd s.heap c P := hcd.keeps fun b u e => I.bk b u e
  have hP2 : s.heap.get? P = some { cls := .none, data := .fields ps } := I.hok P _ hP
  rcases hf : codeAmong gpos ps.toList with _ | cv
  · refine wpAny_genexprCodeX hc (cd.code hP2 ht) (cd.tab hP2) hf ?_
    intro c' h' tk hx hge hlt hco _ htab ⟨P', hgeP, hco', htab'⟩
    have tri : TriplesOk (ps ++ #[rawInt gpos.line, rawInt gpos.col, Value.ref c']).toList := by
      obtain ⟨_, _, _, _, _, _, _, _, _, _, _, _, _, _, _, _, _, _, _, tri, _⟩ := hco
      exact tri
    have Plt : P < s.heap.objs.size := Heap.lt_size hP2
    have ncP : c' ≠ P := Nat.ne_of_gt (Nat.lt_of_lt_of_le Plt hge)
    have nP'P : P' ≠ P := Nat.ne_of_gt (Nat.lt_of_lt_of_le Plt hgeP)
    have cd' := PySem.W.CodeHd.of hco' htab'
    have ncc : c' ≠ P' := by
      obtain ⟨_, _, _, _, _, _, _, _, _, _, _, _, _, _, _, _, _, _, n⟩ := cd'
      exact n
    have fc : H c' = none := I.hok.fresh hge
    have fP : H P' = none := I.hok.fresh hgeP
    have e1 : ∀ b, b ≠ P → b ≠ c' → b ≠ P' → upd (upd (upd H P (.tbl (ps ++ #[rawInt gpos.line, rawInt gpos.col, Value.ref c']))) c' (GCode c' P')) P' (GTabO P') b = H b := fun b h1 h2 h3 => by rw [upd_ne h3, upd_ne h2, upd_ne h1]
    have e2 : upd (upd (upd H P (.tbl (ps ++ #[rawInt gpos.line, rawInt gpos.col, Value.ref c']))) c' (GCode c' P')) P' (GTabO P') P = some (.tbl (ps ++ #[rawInt gpos.line, rawInt gpos.col, Value.ref c'])) := by rw [upd_ne (Ne.symm nP'P), upd_ne (Ne.symm ncP), upd_same]
    have e3 : upd (upd (upd H P (.tbl (ps ++ #[rawInt gpos.line, rawInt gpos.col, Value.ref c']))) c' (GCode c' P')) P' (GTabO P') c' = some (GCode c' P') := by rw [upd_ne ncc, upd_same]
    have e4 : ∀ b o, H b = some o → b ≠ P → upd (upd (upd H P (.tbl (ps ++ #[rawInt gpos.line, rawInt gpos.col, Value.ref c']))) c' (GCode c' P')) P' (GTabO P') b = some o := fun b o e n => by
      rw [e1 b n (fun z => by rw [z, fc] at e; cases e) (fun z => by rw [z, fP] at e; cases e)]
      exact e
    refine ⟨upd (upd (upd H P (.tbl (ps ++ #[rawInt gpos.line, rawInt gpos.col, Value.ref c']))) c' (GCode c' P')) P' (GTabO P'), h', tk, rfl, inv_grow I hP (fun b o n e => hx b o n e) htab.2 e2 e4 (fun b o e n => ?_), Nat.le_trans hge (Nat.le_of_lt hlt), fun b o n e => hx b o (fun z => by rw [z, hP] at n; cases n) e, fun b hb n => ?_, ⟨⟨_, e2, tri, fun pos cv hcv => ?_⟩, ⟨c', P', rfl, e3, upd_same⟩, e4⟩⟩
    · by_cases b1 : b = P'
      · subst b1
        rw [upd_same] at e
        cases e
        exact ⟨hgeP, gtab_obj htab'.2 (by simp [TriplesOk])⟩
      · rw [upd_ne b1] at e
        by_cases b2 : b = c'
        · subst b2
          rw [upd_same] at e
          cases e
          exact ⟨hge, gcode_obj cd'⟩
        · rw [upd_ne b2] at e
          by_cases b3 : b = P
          · rw [b3, hP] at n; cases n
          · rw [upd_ne b3, n] at e; cases e
    · rw [e1 b (fun z => by rw [z, hP] at n; cases n) (fun z => by rw [z] at hb; exact absurd (Nat.lt_of_lt_of_le hb hge) (Nat.lt_irrefl _)) (fun z => by rw [z] at hb; exact absurd (Nat.lt_of_lt_of_le hb hgeP) (Nat.lt_irrefl _))]
      exact n
    · have hl : (ps ++ #[rawInt gpos.line, rawInt gpos.col, Value.ref c']).toList = ps.toList ++ [rawInt gpos.line, rawInt gpos.col, .ref c'] := by simp
      rw [hl] at hcv
      rcases among_app _ ht hcv with z | z
      · obtain ⟨c0, P0, rfl, q1, q2⟩ := hk pos cv z
        exact ⟨c0, P0, rfl, e4 _ _ q1 (fun z => by rw [z, hP] at q1; exact absurd (Option.some.inj q1).symm (gcode_ne ps)), e4 _ _ q2 (fun z => by rw [z, hP] at q2; exact absurd (Option.some.inj q2).symm (gtab_ne ps))⟩
      · exact ⟨c', P', z, e3, upd_same⟩
  · refine wpAny_genexprCode_hit hc (cd.code hP2 ht) hf ?_
    obtain ⟨c0, P0, rfl, q1, q2⟩ := hk _ _ hf
    exact ⟨H, s.heap, s.toks, rfl, I, Nat.le_refl _, fun _ _ _ e => e, fun _ _ n => n, ⟨ps, hP, ht, hk⟩, ⟨c0, P0, rfl, q1, q2⟩, fun _ _ e _ => e⟩
theorem codeStep_in {gpos : Pos} {scope : Scope} : CodeStep X gpos scope (fun H => ∃ c P, X.env.code = .ref c ∧ H c = some (GCode c P) ∧ H P = some (GTabO P)) (fun H H' _ => H' = H) := by
  refine ⟨fun pins σ H s E I ⟨c, P, hc, hcd, hP⟩ => ?_⟩
  have cd : PySem.W.CodeHd s.heap c P := (I.hok c _ hcd).1
  obtain ⟨ps, hP2, ht⟩ := (I.hok P _ hP).1
  have hne : ∀ b, H b = none → b ≠ P := fun b n z => by rw [z, hP] at n; cases n
  rcases hf : codeAmong gpos ps.toList with _ | cv
  · refine wpAny_genexprCodeX hc (cd.code hP2 ht) (cd.tab hP2) hf ?_
    intro c' h' tk hx hge hlt hco _ htab _
    have tri : TriplesOk (ps ++ #[rawInt gpos.line, rawInt gpos.col, Value.ref c']).toList := by
      obtain ⟨_, _, _, _, _, _, _, _, _, _, _, _, _, _, _, _, _, _, _, tri, _⟩ := hco
      exact tri
    exact ⟨H, h', tk, rfl, inv_in I hP (fun b o n e => hx b o n e) ⟨_, htab.2, tri⟩, Nat.le_trans hge (Nat.le_of_lt hlt), fun b o n e => hx b o (hne b n) e, fun _ _ n => n, rfl⟩
  · exact wpAny_genexprCode_hit hc (cd.code hP2 ht) hf ⟨H, s.heap, s.toks, rfl, I, Nat.le_refl _, fun _ _ _ e => e, fun _ _ n => n, rfl⟩
end
end Pr

/-! any, all over such generator expressions -/
namespace Pr
open PySem PySem.Spec PyProof.Rows L2 LamX NdefX
/-! a generator expression's frame, with cells of its own -/
section
variable {M : Model} {A : Around} {E : Value → Shared → Prop} {s : Shared}
theorem gexp_env {scope : Scope} {globals : Addr} {closure : List (Str × Addr)} {it : Value} {qual : Str} {func : Option Addr} {code : Value} {builtins : Addr} {Q : Env → Shared → Prop}
    (hk : scope.kind = .function) (h0 : scope.names.lookup (".0" : Str) = some NameKind.local)
    (hQ : ∀ h', h'.Ns s.heap.objs.size (fun y => if y = ".0" then some it else none) → Heap.SameBut s.heap.objs.size (pushCells (s.heap.push { cls := .type "frame", data := .dict #[] }) scope.names) h' →
      Q (newEnv scope s.heap.objs.size globals (cellsFrom (s.heap.objs.size + 1) scope.names closure) qual func code none builtins) { s with heap := h', toks := s.toks + 1 }) :
    wpAny M A (newFunctionEnv scope globals closure [(".0", it)] qual func code none builtins) Q E s := by
  simp only [newFunctionEnv, Option.isSome_none, Bool.false_eq_true, if_false]
  refine wpAny_bind (wpAny_alloc ?_)
  refine wpAny_bind (wpAny_layCells _ (fun n k c => by cases hkc : k == NameKind.cell <;> simp [hkc]) scope.names closure _ _ ?_)
  rw [show ({ s with heap := s.heap.push { cls := .type "frame", data := .dict #[] } } : Shared).heap.objs.size = s.heap.objs.size + 1 from Heap.size_push ..]
  rw [List.forIn_cons]
  have ns0 : (pushCells (s.heap.push { cls := .type "frame", data := .dict #[] }) scope.names).Ns s.heap.objs.size (fun _ => none) := (Heap.Ns.new s.heap (.type "frame")).keeps (pushCells_keeps _ _)
  refine wpAny_bind (wpAny_bind (wpAny_bind (wpAny_storeName_local h0 ns0 (fun h' hn' hs' => ?_) (by show (scope.kind == .class || _) = _; rw [hk]; rfl))))
  refine wpAny_pure ?_
  simp only [List.forIn_nil]
  exact wpAny_pure (wpAny_pure (hQ h' hn' hs'))
theorem gexp_make {env : Env} {elt target iter : Expr} {ifs : List Expr} {scope : Scope} {cl : List (Str × Addr)} {pos : Pos} {Q : Value → Shared → Prop}
    (hco : scope.isCoroutine = false) (hclos : closureFor scope env = pure cl) (h0 : scope.names.lookup (".0" : Str) = some NameKind.local) (hkind : scope.kind = .function)
    (hroom : A.depth < recursionLimit)
    (h : wpAny M A (eval iter env) (fun xv s₁ => wpAny M A (pyIter xv) (fun it s₂ => s₂.heap.NoLimit ∧
      wpAny M A (genexprCode env pos (env.qual ++ "<genexpr>") scope) (fun code s₃ => wpAny M A (builtinsFor env.globals env.builtins) (fun bi s₄ =>
        ∀ h', h'.Ns s₄.heap.objs.size (fun y => if y = ".0" then some it else none) → Heap.SameBut s₄.heap.objs.size (pushCells (s₄.heap.push { cls := .type "frame", data := .dict #[] }) scope.names) h' →
          Q (.ref h'.objs.size) { s₄ with
            gens := s₄.gens.push (.fresh (.compStart (.GeneratorExp elt [⟨target, iter, ifs, 0⟩] scope pos) 0 it .none (genEnv scope (cellsFrom (s₄.heap.objs.size + 1) scope.names cl) s₄.heap.objs.size code bi env))),
            toks := s₄.toks + 1 + 1 + 1,
            heap := h'.push { cls := .type "generator", data := .fields #[.int s₄.gens.size 0, .str "<genexpr>" (s₄.toks + 1), .str (env.qual ++ "<genexpr>") (s₄.toks + 1 + 1)] } }) E s₃) E s₂) E s₁) E s)
    (hs : ∀ x, genFold iter env x = pure x) :
    wpAny M A (eval (.GeneratorExp elt [⟨target, iter, ifs, 0⟩] scope pos) env) Q E s := by
  rw [eval_GeneratorExp1 _ _ _ _ _ _ _ hco, hclos]
  refine wpAny_bind (wpAny_mono h (fun xv s₁ h₁ => ?_) fun _ _ e => e)
  refine wpAny_bind (wpAny_standAt ?_)
  refine wpAny_bind (wpAny_of_eq (hs xv) ?_)
  refine wpAny_bind (wpAny_holding (wpAny_mono h₁ (fun it s₂ h₂ => ?_) fun _ _ e => e))
  refine wpAny_bind (wpAny_enterFrame h₂.1 hroom ?_)
  refine wpAny_bind (wpAny_pure ?_)
  refine wpAny_bind (wpAny_mono h₂.2 (fun code s₃ h₃ => ?_) fun _ _ e => e)
  refine wpAny_bind (wpAny_mono h₃ (fun bi s₄ h₄ => ?_) fun _ _ e => e)
  refine wpAny_bind (gexp_env hkind h0 (fun h' hn' hs' => ?_))
  simp only [newGenerator, newFields]
  refine wpAny_bind (wpAny_newGen (wpAny_bind (wpAny_mkText (wpAny_bind (wpAny_mkText (wpAny_newObj_type ?_ (by size_fits)))))))
  exact h₄ h' hn' hs'
end
theorem Inv.gens {X : Cx} {pins : List (Addr × Obj)} {σ : L2.St} {H : Hp} {s : Shared} (I : Inv X pins σ H s) {g' : Array GenState} (hb : AllBare g') {t' : Nat} {d' : Drawn} : Inv X pins σ H { s with gens := g', toks := t', drawn := d' } :=
  ⟨I.ok, I.os, hb, I.base, I.loc, I.cell, I.free, I.freeC, I.pin, I.hok, I.len⟩
theorem Inv.setG {X : Cx} {pins : List (Addr × Obj)} {σ : L2.St} {H : Hp} {s : Shared} (I : Inv X pins σ H s) {g : Nat} {x : GenState} (hx : x.bare = true) : Inv X pins σ H (s.setGen g x) := Inv.gens I (allBare_setGen I.bare hx)
/-- the around of a generator expression's body -/
abbrev gnA (A₁ : Around) (elt tg iter : Expr) (ifs : List Expr) (scope : Scope) (pos : Pos) (it : Addr) (cenv : Env) : Around := A₁.over (.compLoop (.GeneratorExp elt [⟨tg, iter, ifs, 0⟩] scope pos) 0 (.ref it) .none cenv) []
section
variable {A₁ : Around} {elt tg iter : Expr} {ifs : List Expr} {scope : Scope} {pos : Pos} {it : Addr} {cenv : Env} {l : List Env} {k : Nat}
theorem gnA_frames (h : A₁.frames = some l) : (gnA A₁ elt tg iter ifs scope pos it cenv).frames = some (cenv :: l) := by
  show pushEnvs [cenv] (pushEnvs [] A₁.frames) = _
  rw [h]
  rfl
theorem gnA_room (h : Room (k + 1) A₁) : Room k (gnA A₁ elt tg iter ifs scope pos it cenv) := by
  refine ⟨h.hd, ?_, ?_⟩
  · have := h.dp
    show A₁.depth + 0 + 1 + 3 * k + 5 < _
    omega
  · have := h.un
    show A₁.units + 0 + _ + 16 * k + 200 < _
    have h2 : (Code.compLoop (.GeneratorExp elt [⟨tg, iter, ifs, 0⟩] scope pos) 0 (.ref it) .none cenv).cUnits ≤ 8 := Nat.le_of_ble_eq_true rfl
    omega
end
/-- a generator expression has been made -/
structure GnMade (X : Cx) (pins : List (Addr × Obj)) (σ : L2.St) (elt tg iter : Expr) (ifs : List Expr) (scope : Scope) (pos : Pos) (Q : It → Hp → Value → Prop) (v : Value) (s : Shared) : Prop where
  ex : ∃ (a g : Nat) (it : Addr) (fp : List Addr) (tn : Nat → Heap → Prop) (J : It) (H2 : Hp) (s4 : Shared) (code : Value) (go : Obj), v = .ref a ∧ Inv X pins σ H2 s4 ∧ Turn X.prog X.w X.K tg J fp it tn ∧ (∀ b ∈ fp, FpOk X pins H2 b ∧ b < s4.heap.objs.size) ∧ tn 0 s.heap ∧
    s.heap.IsGen a g ∧ s.heap.get? a = some go ∧ (∀ v, go.data ≠ .cell v) ∧ s4.heap.objs.size < a ∧ s.gens[g]? = some (.fresh (.compStart (.GeneratorExp elt [⟨tg, iter, ifs, 0⟩] scope pos) 0 (.ref it) .none (genEnv scope (cellsFrom (s4.heap.objs.size + 1) scope.names (cloFrom X.env.cells scope.names [])) s4.heap.objs.size code builtinsNs X.env))) ∧
    AllBare s.gens ∧ s.os = s4.os ∧ (∃ m', s.heap.Ns s4.heap.objs.size m') ∧ (∀ b o, s4.heap.get? b = some o → s.heap.get? b = some o) ∧ (∀ b o, b ≠ s4.heap.objs.size → (pushCells (s4.heap.push { cls := .type "frame", data := .dict #[] }) scope.names).get? b = some o → s.heap.get? b = some o) ∧ Q J H2 code
theorem gn_make {X : Cx} {pins : List (Addr × Obj)} {σ : L2.St} {H : Hp} {s : Shared} {elt tg iter : Expr} {ifs : List Expr} {scope : Scope} {pos : Pos} {own : List (Str × Nat)} {k : Nat} {wi : TI} {K : It → Hp → Value → Prop} {P0 : Addr} {Pre : Hp → Prop} {Post : Hp → Hp → Value → Prop}
    (hr : Room k X.A) (hbm : X.base.BuiltinsAt X.mg P0) (cs : CodeStep X pos scope Pre Post) (ok : GnOk X.N X.env.scope scope own) (hi : PI X tg iter wi) (hs : ∀ v, genFold iter X.env v = pure v) (I : Inv X pins σ H s)
    (h : wi σ H fun J H1 => Pre H1 ∧ ∀ H2 code, Post H1 H2 code → K J H2 code) :
    wpAny (model X.prog X.w) X.A (eval (.GeneratorExp elt [⟨tg, iter, ifs, 0⟩] scope pos) X.env) (GnMade X pins σ elt tg iter ifs scope pos K) X.xe s := by
  have hfree : ∀ y ∈ scope.names, y.2 = .free → ∃ c, X.env.cells.lookup y.1 = some c := fun y hy e => by
    rcases ok.free y hy e with k | k
    · exact I.ok.has _ (.inl k)
    · exact I.ok.has _ (.inr k)
  refine gexp_make ok.co (closure_ok hfree) ok.dot ok.kind (by have := hr.dp; omega) (thn (hi.run pins s σ H _ I h) fun xv s1 h1 => thn h1 fun itv s2 h2 => ?_) hs
  obtain ⟨it, fp, tn, J, H1, rfl, I2, turns, st2, fp2, pre, q⟩ := h2
  refine ⟨I2.nolimit, ?_⟩
  refine wpAny_mono (cs.run pins σ H1 s2 X.xe I2 pre) (fun code s3 h3 => ?_) fun _ _ e => e
  obtain ⟨H2, h3, tk, rfl, I3, hsz, kU, nU, post⟩ := h3
  obtain ⟨bm, bo, e1, e2, e3, e4, e5, e6, e7, e8⟩ := hbm
  refine wpAny_builtinsFor (m := X.mg) (by rw [I3.ok.glob]; exact I3.mod.glob.keeps I3.bk) e1 e2 (I3.bk _ _ e5) e6 e7 e8 ?_
  intro h' hns hsb
  have szh : h3.objs.size + 1 ≤ h'.objs.size := by
    have := pushCells_size scope.names (h3.push { cls := .type "frame", data := .dict #[] })
    rw [Heap.size_push] at this
    rw [hsb.1]
    exact this
  have keep' : ∀ b o, h3.get? b = some o → h'.get? b = some o := fun b o e => hsb.extBut b o (Nat.ne_of_lt (Heap.lt_size e)) (pushCells_keeps _ _ _ _ (Heap.get?_push_of_some _ e))
  have kfp : ∀ b ∈ fp, ∀ o, s2.heap.get? b = some o → h3.get? b = some o := fun b hb o e => kU b o (fp2 b hb).1 e
  refine ⟨h'.objs.size, _, it, fp, tn, J, _, _, code, _, rfl, I3, turns, fun b hb => ?_, ?_, ⟨_, _, _, Heap.get?_push_size _ rfl, rfl, rfl, rfl⟩, Heap.get?_push_size _ rfl, (fun v z => by cases z), ?_, Array.getElem?_push_size .., AllBare.push (g := GenState.fresh _) I3.bare rfl, rfl, ⟨_, hns.push _⟩, fun b o e => Heap.get?_push_of_some _ (keep' b o e), fun b o n e => Heap.get?_push_of_some _ (hsb.extBut b o n e), q _ _ post⟩
  · obtain ⟨o, e, _⟩ := turns.obj _ _ st2 b hb
    obtain ⟨f0, f⟩ := fp2 b hb
    exact ⟨⟨nU b (Heap.lt_size e) f0, f⟩, Heap.lt_size (kfp b hb o e)⟩
  · exact turns.keep _ _ _ st2 fun b hb o e => Heap.get?_push_of_some _ (keep' b o (kfp b hb o e))
  · show h3.objs.size < h'.objs.size
    omega
theorem bool_nf {b : Bool} (h : ¬ b = false) : b = true := by
  cases b
  · exact absurd rfl h
  · rfl
theorem wpAny_truthy_bool {M : Model} {A : Around} {b : Bool} {Q : Bool → Shared → Prop} {E : Value → Shared → Prop} {s : Shared} (h : Q b s) : wpAny M A (truthy (.bool b)) Q E s := wpAny_pure h
theorem gn_any_loop {B : Cx} {gp : List (Addr × Obj)} {fp : List Addr} {tn : Nat → Heap → Prop} {σw : L2.St} {QE : VK} {A : Around} {a g : Nat} {Rr : Result → Shared → Prop} (hh : A.handled = none) (hd : A.depth < recursionLimit)
    (gpa : ∃ (go : Obj) (nm qn : Value), (a, go) ∈ gp ∧ go.cls = .type "generator" ∧ go.data = .fields #[.int g 0, nm, qn] ∧ go.slots = #[]) (hR : ∀ b s' G', Inv B gp σw G' s' → QE (.bl b) G' → Rr (.ok (.ret (.bool b))) s') :
    ∀ (n : Nat) (s : Shared) (G : Hp), Inv B gp σw G s → (∃ gs, s.gens[g]? = some gs ∧ gs.Goes (model B.prog B.w) A.in1.in1 (fun n s₀ r s₁ => r = .ok .next ∧ GnR B gp fp σw (QE (.bl false)) n s₀ s₁) (GnY B gp fp tn σw fun y H4 Nx => ∃ b, y = .bl b ∧ if b = true then QE (.bl true) H4 else Nx H4) n (.send .none) (s.setGen g .running)) →
      codeAny (model B.prog B.w) A (.builtin "any.loop" ⟨[.ref a], []⟩) Rr s := by
  intro n
  obtain ⟨go, nm, qn, gm, g1, g2, g3⟩ := gpa
  induction n with
  | zero =>
    intro s G I ⟨gs, hgs, hgo⟩
    refine codeAny_builtin F.entry_any_loop ?_
    rw [Around.under_plainId F.plain_any_loop _]
    show wpAny _ A.in1 (pyNext (.ref a) >>= _) _ _ s
    have hg : s.heap.IsGen a g := ⟨go, nm, qn, (I.pin (a, go) (List.mem_append_right _ gm)).1, g1, g2, g3⟩
    refine wpAny_bind (wpAny_pyNext_genexpQ (A := A.in1) (P := GnR B gp fp σw (QE (.bl false))) hh I.nolimit hd hg hgs hgo (fun v s₁ gs' hb hv => ?_) (fun s₁ hp h' hk => ?_))
    · obtain ⟨y, G1, Nx, i, ry, I1, st, no, ⟨b, rfl, c⟩, kap⟩ := hv
      obtain rfl : v = Value.bool b := ry
      refine wpAny_bind (wpAny_holding (wpAny_truthy_bool ?_))
      refine wpAny_bind (wpAny_letGo ?_)
      by_cases hs : b = true
      · subst hs
        rw [if_pos rfl] at c
        simp only [if_true, Bool.false_eq_true, if_false]
        exact wpAny_bind (wpAny_rule (wpAny_pure (hR _ _ G1 (Inv.setG I1 hb) c)))
      · rw [if_neg hs] at c
        exact (kap _ _ I1 st no c).elim
    · obtain ⟨G1, I1, no, fin⟩ := hp
      exact wpAny_bind (wpAny_rule (wpAny_pure (hR _ _ G1 ((Inv.setG (g := g) (x := .finished) I1 rfl).kept (t' := s₁.toks) hk) fin)))
  | succ n ih =>
    intro s G I ⟨gs, hgs, hgo⟩
    refine codeAny_builtin F.entry_any_loop ?_
    rw [Around.under_plainId F.plain_any_loop _]
    show wpAny _ A.in1 (pyNext (.ref a) >>= _) _ _ s
    have hg : s.heap.IsGen a g := ⟨go, nm, qn, (I.pin (a, go) (List.mem_append_right _ gm)).1, g1, g2, g3⟩
    have hlt : g < s.gens.size := by
      rcases Nat.lt_or_ge g s.gens.size with z | z
      · exact z
      · rw [Array.getElem?_eq_none z] at hgs; cases hgs
    refine wpAny_bind (GenW.wpAny_gsz (Nat.succ_le_of_lt hlt) (wpAny_pyNext_genexpQ (A := A.in1) (P := GnR B gp fp σw (QE (.bl false))) hh I.nolimit hd hg hgs hgo (fun v s₁ gs' hb hv => ?_) (fun s₁ hp h' hk => ?_)))
    · intro hsz
      rw [GenW.setGen_size] at hsz
      obtain ⟨y, G1, Nx, i, ry, I1, st, no, ⟨b, rfl, c⟩, kap⟩ := hv
      obtain rfl : v = Value.bool b := ry
      refine wpAny_bind (wpAny_holding (wpAny_truthy_bool ?_))
      refine wpAny_bind (wpAny_letGo ?_)
      by_cases hs : b = true
      · subst hs
        rw [if_pos rfl] at c
        simp only [if_true, Bool.false_eq_true, if_false]
        exact wpAny_bind (wpAny_rule (wpAny_pure (hR _ _ G1 (Inv.setG I1 hb) c)))
      · rw [if_neg hs] at c
        obtain rfl : b = false := Bool.eq_false_iff.mpr hs
        simp only [if_true, Bool.false_eq_true, if_false]
        refine wpAny_pure ⟨plainId_quiet F.plain_any_loop _, ih _ G1 (Inv.setG I1 hb) ⟨gs', setGen_at hsz, ?_⟩⟩
        exact kap _ G1 (Inv.setG (g := g) (x := .running) (Inv.setG I1 hb) rfl) st no c
    · intro _
      obtain ⟨G1, I1, no, fin⟩ := hp
      exact wpAny_bind (wpAny_rule (wpAny_pure (hR _ _ G1 ((Inv.setG (g := g) (x := .finished) I1 rfl).kept (t' := s₁.toks) hk) fin)))
theorem gn_all_loop {B : Cx} {gp : List (Addr × Obj)} {fp : List Addr} {tn : Nat → Heap → Prop} {σw : L2.St} {QE : VK} {A : Around} {a g : Nat} {Rr : Result → Shared → Prop} (hh : A.handled = none) (hd : A.depth < recursionLimit)
    (gpa : ∃ (go : Obj) (nm qn : Value), (a, go) ∈ gp ∧ go.cls = .type "generator" ∧ go.data = .fields #[.int g 0, nm, qn] ∧ go.slots = #[]) (hR : ∀ b s' G', Inv B gp σw G' s' → QE (.bl b) G' → Rr (.ok (.ret (.bool b))) s') :
    ∀ (n : Nat) (s : Shared) (G : Hp), Inv B gp σw G s → (∃ gs, s.gens[g]? = some gs ∧ gs.Goes (model B.prog B.w) A.in1.in1 (fun n s₀ r s₁ => r = .ok .next ∧ GnR B gp fp σw (QE (.bl true)) n s₀ s₁) (GnY B gp fp tn σw fun y H4 Nx => ∃ b, y = .bl b ∧ if b = false then QE (.bl false) H4 else Nx H4) n (.send .none) (s.setGen g .running)) →
      codeAny (model B.prog B.w) A (.builtin "all.loop" ⟨[.ref a], []⟩) Rr s := by
  intro n
  obtain ⟨go, nm, qn, gm, g1, g2, g3⟩ := gpa
  induction n with
  | zero =>
    intro s G I ⟨gs, hgs, hgo⟩
    refine codeAny_builtin F.entry_all_loop ?_
    rw [Around.under_plainId F.plain_all_loop _]
    show wpAny _ A.in1 (pyNext (.ref a) >>= _) _ _ s
    have hg : s.heap.IsGen a g := ⟨go, nm, qn, (I.pin (a, go) (List.mem_append_right _ gm)).1, g1, g2, g3⟩
    refine wpAny_bind (wpAny_pyNext_genexpQ (A := A.in1) (P := GnR B gp fp σw (QE (.bl true))) hh I.nolimit hd hg hgs hgo (fun v s₁ gs' hb hv => ?_) (fun s₁ hp h' hk => ?_))
    · obtain ⟨y, G1, Nx, i, ry, I1, st, no, ⟨b, rfl, c⟩, kap⟩ := hv
      obtain rfl : v = Value.bool b := ry
      refine wpAny_bind (wpAny_holding (wpAny_truthy_bool ?_))
      refine wpAny_bind (wpAny_letGo ?_)
      by_cases hs : b = false
      · subst hs
        rw [if_pos rfl] at c
        simp only [if_true, Bool.false_eq_true, if_false]
        exact wpAny_bind (wpAny_rule (wpAny_pure (hR _ _ G1 (Inv.setG I1 hb) c)))
      · rw [if_neg hs] at c
        exact (kap _ _ I1 st no c).elim
    · obtain ⟨G1, I1, no, fin⟩ := hp
      exact wpAny_bind (wpAny_rule (wpAny_pure (hR _ _ G1 ((Inv.setG (g := g) (x := .finished) I1 rfl).kept (t' := s₁.toks) hk) fin)))
  | succ n ih =>
    intro s G I ⟨gs, hgs, hgo⟩
    refine codeAny_builtin F.entry_all_loop ?_
    rw [Around.under_plainId F.plain_all_loop _]
    show wpAny _ A.in1 (pyNext (.ref a) >>= _) _ _ s
    have hg : s.heap.IsGen a g := ⟨go, nm, qn, (I.pin (a, go) (List.mem_append_right _ gm)).1, g1, g2, g3⟩
    have hlt : g < s.gens.size := by
      rcases Nat.lt_or_ge g s.gens.size with z | z
      · exact z
      · rw [Array.getElem?_eq_none z] at hgs; cases hgs
    refine wpAny_bind (GenW.wpAny_gsz (Nat.succ_le_of_lt hlt) (wpAny_pyNext_genexpQ (A := A.in1) (P := GnR B gp fp σw (QE (.bl true))) hh I.nolimit hd hg hgs hgo (fun v s₁ gs' hb hv => ?_) (fun s₁ hp h' hk => ?_)))
    · intro hsz
      rw [GenW.setGen_size] at hsz
      obtain ⟨y, G1, Nx, i, ry, I1, st, no, ⟨b, rfl, c⟩, kap⟩ := hv
      obtain rfl : v = Value.bool b := ry
      refine wpAny_bind (wpAny_holding (wpAny_truthy_bool ?_))
      refine wpAny_bind (wpAny_letGo ?_)
      by_cases hs : b = false
      · subst hs
        rw [if_pos rfl] at c
        simp only [if_true, Bool.false_eq_true, if_false]
        exact wpAny_bind (wpAny_rule (wpAny_pure (hR _ _ G1 (Inv.setG I1 hb) c)))
      · rw [if_neg hs] at c
        obtain rfl : b = true := bool_nf hs
        simp only [if_true, Bool.false_eq_true, if_false]
        refine wpAny_pure ⟨plainId_quiet F.plain_all_loop _, ih _ G1 (Inv.setG I1 hb) ⟨gs', setGen_at hsz, ?_⟩⟩
        exact kap _ G1 (Inv.setG (g := g) (x := .running) (Inv.setG I1 hb) rfl) st no c
    · intro _
      obtain ⟨G1, I1, no, fin⟩ := hp
      exact wpAny_bind (wpAny_rule (wpAny_pure (hR _ _ G1 ((Inv.setG (g := g) (x := .finished) I1 rfl).kept (t' := s₁.toks) hk) fin)))
/-- the reading of any (stop = true), all (stop = false); ig: the slot that keeps the code object for generator expressions within -/
def tAnyG (Pre : Hp → Prop) (Post : Hp → Hp → Value → Prop) (ig : Option Nat) (stop : Bool) (wi : TI) (g : TG) (tt : Value → TT) (te : Value → TE) (vs : List Nat) : TE := fun σ H Q => wi σ H fun J H1 => Pre H1 ∧ ∀ H2 code, Post H1 H2 code →
  ∃ W : Nat → Nat → Hp → Prop, (∃ m, W 0 m H2) ∧ TnW J g (tt code) (te code) vs (ghost ig code (wipe σ vs)) (fun y H4 Nx => ∃ b, y = .bl b ∧ if b = stop then Q (.bl stop) H4 else Nx H4) (Q (.bl (!stop))) W
/-- the body's parts, wherever it runs -/
structure GnParts (X : Cx) (k : Nat) (scope : Scope) (elt tg : Expr) (ifs : List Expr) (g : TG) (tt : Value → TT) (te : Value → TE) : Prop where
  g : ∀ (s : Shared) (H : Hp) (A' : Around) (cl : List (Str × Addr)) (L : Addr) (code : Value) (fp : List Addr), Room k A' → PG (gnC X s H A' (genEnv scope cl L code builtinsNs X.env) fp) tg g
  t : ∀ (s : Shared) (H : Hp) (A' : Around) (cl : List (Str × Addr)) (L : Addr) (code : Value) (fp : List Addr), Room k A' → PTs (gnC X s H A' (genEnv scope cl L code builtinsNs X.env) fp) ifs (tt code)
  e : ∀ (s : Shared) (H : Hp) (A' : Around) (cl : List (Str × Addr)) (L : Addr) (code : Value) (fp : List Addr), Room k A' → PE (gnC X s H A' (genEnv scope cl L code builtinsNs X.env) fp) elt (te code)
section
variable {X : Cx} {pins : List (Addr × Obj)} {σ : L2.St} {elt tg iter : Expr} {ifs : List Expr} {scope : Scope} {gpos : Pos} {own : List (Str × Nat)} {g : TG} {tt : Value → TT} {te : Value → TE} {k : Nat} {ig : Option Nat}
/-- what a consumer needs of a generator expression that was made -/
theorem gn_enter {Q : It → Hp → Value → Prop} {v : Value} {s5 : Shared} {A₁ : Around} (hr : Room (k + 1) A₁) (hfr : A₁.frames = X.A.frames) (hN : X.N.Nodup) (ok : GnOk X.N X.env.scope scope own) (hig : ∀ i, ig = some i → ∀ x, X.N[i]? = some x → ¬ Vis scope x) (pt : GnParts X k scope elt tg ifs g tt te)
    (M : GnMade X pins σ elt tg iter ifs scope gpos Q v s5) :
    ∃ (a gn : Nat) (B : Cx) (gp : List (Addr × Obj)) (fp : List Addr) (tn : Nat → Heap → Prop) (J : It) (H2 : Hp) (gs : GenState) (code : Value), v = .ref a ∧ B.prog = X.prog ∧ B.w = X.w ∧ B.K = X.K ∧ s5.heap.IsGen a gn ∧ (∃ (go : Obj) (nm qn : Value), (a, go) ∈ gp ∧ go.cls = .type "generator" ∧ go.data = .fields #[.int gn 0, nm, qn] ∧ go.slots = #[]) ∧
      Inv B gp (ghost ig code (wipe σ (own.map (·.2)))) H2 s5 ∧ s5.gens[gn]? = some gs ∧ Q J H2 code ∧ (∀ σ' H' s', Inv B gp σ' H' s' → Inv X pins σ H' s') ∧ (∀ b ∈ fp, H2 b = none) ∧ tn 0 s5.heap ∧ ((∀ i h h', tn i h → (∀ b ∈ fp, ∀ o, h.get? b = some o → h'.get? b = some o) → tn i h') ∧ ∀ b ∈ fp, b < s5.heap.objs.size) ∧
      ∀ (C : V → Hp → (Hp → Prop) → Prop) (F : Hp → Prop) (W : Nat → Nat → Hp → Prop), TnW J g (tt code) (te code) (own.map (·.2)) (ghost ig code (wipe σ (own.map (·.2)))) C F W → ∀ (m n : Nat) (s' : Shared) (G : Hp), m < n → Inv B gp (ghost ig code (wipe σ (own.map (·.2)))) G s' → tn 0 s'.heap → (∀ b ∈ fp, G b = none) → W 0 m G →
        gs.Goes (model X.prog X.w) A₁ (fun n s₀ r s₁ => r = .ok .next ∧ GnR B gp fp (ghost ig code (wipe σ (own.map (·.2)))) F n s₀ s₁) (GnY B gp fp tn (ghost ig code (wipe σ (own.map (·.2)))) C) n (.send .none) s' := by
  obtain ⟨a, gn, it, fp, tn, J, H2, s4, code, go, rfl, I4, turns, fp4, st, hgen, hgo, hnc, hlt, hgs, hbare, hos, ⟨m', hns⟩, keep, kc, q⟩ := M
  have hA : (gnA A₁ elt tg iter ifs scope gpos it (genEnv scope (cellsFrom (s4.heap.objs.size + 1) scope.names (cloFrom X.env.cells scope.names [])) s4.heap.objs.size code builtinsNs X.env)).frames = some (genEnv scope (cellsFrom (s4.heap.objs.size + 1) scope.names (cloFrom X.env.cells scope.names [])) s4.heap.objs.size code builtinsNs X.env :: X.stack) := gnA_frames (hfr.trans I4.ok.frames)
  have room := gnA_room (elt := elt) (tg := tg) (iter := iter) (ifs := ifs) (scope := scope) (pos := gpos) (it := it) (cenv := genEnv scope (cellsFrom (s4.heap.objs.size + 1) scope.names (cloFrom X.env.cells scope.names [])) s4.heap.objs.size code builtinsNs X.env) hr
  obtain ⟨h5, g5, d5, t5, o5⟩ := s5
  obtain rfl : o5 = s4.os := hos
  have IB0 := gn_start (X := X) (own := own) (gp := [(a, go)]) (t' := t5) I4 ok hN fp4 hA hr.hd hns keep hbare kc (fun p hp => by rw [List.mem_singleton.mp hp]; exact ⟨hgo, hlt, hnc⟩)
  have IB := ghost_ok (Inv.gens (g' := g5) (t' := t5) (d' := d5) IB0 hbare) ig code hig
  obtain ⟨go', nm, qn, e1, e2, e3, e4⟩ := id hgen
  rw [hgo] at e1
  cases e1
  have gpf : ∀ p ∈ [(a, go)], p.1 ∉ fp := fun p hp hm => by
    rw [List.mem_singleton.mp hp] at hm
    exact absurd (Nat.lt_trans (fp4 a hm).2 hlt) (Nat.lt_irrefl _)
  refine ⟨a, gn, gnC X s4 H2 (gnA A₁ elt tg iter ifs scope gpos it (genEnv scope (cellsFrom (s4.heap.objs.size + 1) scope.names (cloFrom X.env.cells scope.names [])) s4.heap.objs.size code builtinsNs X.env)) (genEnv scope (cellsFrom (s4.heap.objs.size + 1) scope.names (cloFrom X.env.cells scope.names [])) s4.heap.objs.size code builtinsNs X.env) fp, [(a, go)], fp, tn, J, H2, _, code, rfl, rfl, rfl, rfl, hgen, ⟨go, nm, qn, List.mem_singleton.mpr rfl, e2, e3, e4⟩, IB, hgs, q, fun σ' H' s' I' => ?_, fun b hb => (fp4 b hb).1.1, st, ⟨turns.keep, fun b hb => ?_⟩, fun C F W turn m n s' G hn I' st' no w => ?_⟩
  · exact I4.call' (ch := fp) I'.os I'.base I'.hok I'.bare fun b hb => by
      obtain ⟨⟨q1, q2, q3, q4, q5, q6⟩, _⟩ := fp4 b hb
      exact ⟨q4, q2, q5, q6⟩
  · obtain ⟨o, e, _⟩ := turns.obj _ _ st b hb
    exact Heap.lt_size e
  · refine ⟨rfl, ?_⟩
    exact seg_gnStart (B := gnC X s4 H2 (gnA A₁ elt tg iter ifs scope gpos it (genEnv scope (cellsFrom (s4.heap.objs.size + 1) scope.names (cloFrom X.env.cells scope.names [])) s4.heap.objs.size code builtinsNs X.env)) (genEnv scope (cellsFrom (s4.heap.objs.size + 1) scope.names (cloFrom X.env.cells scope.names [])) s4.heap.objs.size code builtinsNs X.env) fp) rfl rfl ok.co rfl turns (fun {pins τ G z} Iz hp no b hb => ⟨no b hb, (Iz.ok.exf b hb).1, Iz.ok.exfs b hb, .inl hb, fun x c e => (Iz.ok.exf b hb).2 x c e, fun p hpm e => hp p ((List.mem_append.mp hpm).elim (fun z => absurd z (by simp)) id) (by rw [e]; exact hb)⟩) gpf
      (pt.g _ _ _ (cellsFrom (s4.heap.objs.size + 1) scope.names (cloFrom X.env.cells scope.names [])) s4.heap.objs.size code fp room) (pt.t _ _ _ (cellsFrom (s4.heap.objs.size + 1) scope.names (cloFrom X.env.cells scope.names [])) s4.heap.objs.size code fp room) (pt.e _ _ _ (cellsFrom (s4.heap.objs.size + 1) scope.names (cloFrom X.env.cells scope.names [])) s4.heap.objs.size code fp room) turn m n s' s' G hn I' st' no w
theorem pe_gnAny {wi : TI} {P0 : Addr} {p pos : Pos} {Pre : Hp → Prop} {Post : Hp → Hp → Value → Prop} (stop : Bool) (nm : Str) (hnm : (nm = "any" ∧ stop = true) ∨ (nm = "all" ∧ stop = false)) (hr : Room (k + 3) X.A) (hgl : Gl X nm) (hm : X.mg nm = none) (hbm : X.base.BuiltinsAt X.mg P0) (cs : CodeStep X gpos scope Pre Post) (hN : X.N.Nodup) (ok : GnOk X.N X.env.scope scope own) (hig : ∀ i, ig = some i → ∀ x, X.N[i]? = some x → ¬ Vis scope x)
    (hi : PI X tg iter wi) (hs : ∀ v, genFold iter X.env v = pure v) (pt : GnParts X k scope elt tg ifs g tt te)
    (hst : starEach [.GeneratorExp elt [⟨tg, iter, ifs, 0⟩] scope gpos] X.env = (false, eval (.GeneratorExp elt [⟨tg, iter, ifs, 0⟩] scope gpos) X.env) :: starEach [] X.env := by rfl) :
    PE X (.Call (.Name nm p) [.GeneratorExp elt [⟨tg, iter, ifs, 0⟩] scope gpos] [] pos) (tAnyG Pre Post ig stop wi g tt te (own.map (·.2))) := by
  refine ⟨fun pins s σ H Q I h => ?_⟩
  have hb : bootBuiltins nm = some (.builtin (if stop = true then "any" else "all")) := by
    rcases hnm with ⟨rfl, rfl⟩ | ⟨rfl, rfl⟩ <;> decide +kernel
  have hd : nm ≠ "__name__" ∧ (nm == ("__debug__" : Str)) = false := by
    rcases hnm with ⟨rfl, rfl⟩ | ⟨rfl, rfl⟩ <;> exact ⟨by decide, by decide⟩
  refine wpAny_Call_Name_kw (ld_blt I hgl hm hb ?_ hd.1 hd.2)
  refine PyProof.Rows.callWith_builtin1 ?_ hst (by rfl)
  rw [hst]
  show wpAny _ _ (spliced ((false, eval (.GeneratorExp elt [⟨tg, iter, ifs, 0⟩] scope gpos) X.env) :: backTo pos (starEach [] X.env))) _ _ s
  refine Calls.spliced_cons (thn (gn_make hr hbm cs ok hi hs I h) fun v s5 M => ?_)
  refine Calls.spliced_nil ?_
  have hr1 : Room (k + 1) X.A.in1.in1 := ⟨hr.hd, by have := hr.dp; show X.A.depth + 3 * (k + 1) + 5 < _; omega, by have := hr.un; show X.A.units + 1 + 1 + 16 * (k + 1) + 200 < _; omega⟩
  obtain ⟨a, gn, B, gp, fp, tn, J, H2, gs, code, rfl, hp, hw, hK, hgen, gpa, IB, hgs, ⟨W, ⟨m0, w0⟩, turn⟩, back, no, st, _, goes⟩ := gn_enter (k := k) (A₁ := X.A.in1.in1) hr1 rfl hN ok hig pt M
  rw [← hp, ← hw] at goes ⊢
  have hdep : X.A.depth < recursionLimit := by have := hr.dp; omega
  have start := goes _ _ W turn m0 (m0 + 1) (s5.setGen gn .running) H2 (Nat.lt_succ_self _) (Inv.setG (g := gn) (x := .running) IB rfl) st no w0
  rcases hnm with ⟨rfl, rfl⟩ | ⟨rfl, rfl⟩
  · show wpAny _ _ (call (.builtin "any") [.ref a]) _ _ _
    refine call_function_tree F.kind_any F.plain_any F.entry_any (F.args_any1 _) ?_
    unfold Builtin.«any»
    refine wpAny_bind (m := oneArg "any" _) (wpAny_pure ?_)
    refine wpAny_bind (wpAny_pyIter_gen hgen ?_)
    refine wpAny_pure ⟨plainId_quiet F.plain_any_loop _, gn_any_loop hr.hd hdep gpa (fun b s' G' I' q => ?_) (m0 + 1) _ H2 IB ⟨gs, hgs, start⟩⟩
    exact ⟨.bl b, G', back _ _ _ I', rfl, q⟩
  · show wpAny _ _ (call (.builtin "all") [.ref a]) _ _ _
    refine call_function_tree F.kind_all F.plain_all F.entry_all (F.args_all1 _) ?_
    unfold Builtin.«all»
    refine wpAny_bind (m := oneArg "all" _) (wpAny_pure ?_)
    refine wpAny_bind (wpAny_pyIter_gen hgen ?_)
    refine wpAny_pure ⟨plainId_quiet F.plain_all_loop _, gn_all_loop hr.hd hdep gpa (fun b s' G' I' q => ?_) (m0 + 1) _ H2 IB ⟨gs, hgs, start⟩⟩
    exact ⟨.bl b, G', back _ _ _ I', rfl, q⟩
end
end Pr

/-! tuple over such generator expressions -/
namespace Pr
open PySem PySem.Spec PyProof.Rows L2 LamX NdefX
open PySem.AutoSeq1 (wpAny_loadPart')
def CTup (S : Addr) : V → Hp → (Hp → Prop) → Prop := fun y H4 Nx => ∃ acc, H4 S = some (.lst acc) ∧ acc.length < sizeLine ∧ Nx (upd H4 S (.lst (acc ++ [y])))
theorem gn_ext_loop {B : Cx} {gp : List (Addr × Obj)} {fp : List Addr} {tn : Nat → Heap → Prop} {σw : L2.St} {Fe : Hp → Prop} {A : Around} {a g S : Nat} {res : Value} {Rr : Result → Shared → Prop} (hh : A.handled = none) (hd : A.depth < recursionLimit)
    (htn : ∀ i h h', tn i h → (∀ b ∈ fp, ∀ o, h.get? b = some o → h'.get? b = some o) → tn i h') (hSf : S ∉ fp)
    (gpa : ∃ (go : Obj) (nm qn : Value), (a, go) ∈ gp ∧ go.cls = .type "generator" ∧ go.data = .fields #[.int g 0, nm, qn] ∧ go.slots = #[]) (hR : ∀ s' G', Inv B gp σw G' s' → Fe G' → Rr (.ok (.ret res)) s') :
    ∀ (n : Nat) (s : Shared) (G : Hp), Inv B gp σw G s → (∃ gs, s.gens[g]? = some gs ∧ gs.Goes (model B.prog B.w) A.in1.in1 (fun n s₀ r s₁ => r = .ok .next ∧ GnR B gp fp σw Fe n s₀ s₁) (GnY B gp fp tn σw (CTup S)) n (.send .none) (s.setGen g .running)) →
      codeAny (model B.prog B.w) A (.builtin "list.extend.loop" ⟨[.ref S, .ref a, res], []⟩) Rr s := by
  intro n
  obtain ⟨go, nm, qn, gm, g1, g2, g3⟩ := gpa
  induction n with
  | zero =>
    intro s G I ⟨gs, hgs, hgo⟩
    refine codeAny_builtin F.entry_extend_loop ?_
    rw [Around.under_plainId F.plain_extend_loop _]
    show wpAny _ A.in1 (pyNext (.ref a) >>= _) _ _ s
    have hg : s.heap.IsGen a g := ⟨go, nm, qn, (I.pin (a, go) (List.mem_append_right _ gm)).1, g1, g2, g3⟩
    refine wpAny_bind (wpAny_pyNext_genexpQ (A := A.in1) (P := GnR B gp fp σw Fe) hh I.nolimit hd hg hgs hgo (fun v s₁ gs' hb hv => ?_) (fun s₁ hp h' hk => ?_))
    · obtain ⟨y, G1, Nx, i, ry, I1, st, no, ⟨acc, hS, hz, nx⟩, kap⟩ := hv
      have I2 := Inv.setG (g := g) I1 hb
      obtain ⟨hz', its, c, ri, e⟩ := I2.hok S _ hS
      have hl := ri.length
      show wpAny _ A.in1 (updateSeq S (·.push v) >>= _) _ _ _
      refine wpAny_bind (wpAny_updateSeq e rfl (wpAny_pure ⟨plainId_quiet F.plain_extend_loop _, ?_⟩) (by rw [List.size_toArray]; omega) (by show (its.toArray.push v).size ≤ sizeLine + 1; rw [Array.size_push, List.size_toArray]; omega))
      have I3 := I2.write (t' := (s₁.setGen g gs').toks) (o := .lst (acc ++ [y])) (by rw [hS]; trivial) (.inl rfl) (fun b u hb q => (Heap.get?_update_other _ (Obj.mapSeq (·.push v)) (Ne.symm hb)).trans q) ⟨_, Heap.get?_update_self (Obj.mapSeq (·.push v)) e rfl⟩
        ⟨by rw [List.length_append]; exact hz, its ++ [v], c + 1, ri.append (.cons ry .nil), by rw [Heap.get?_update_self (Obj.mapSeq (·.push v)) e rfl]; simp [Obj.mapSeq]⟩
      exact (kap _ _ I3 (htn _ _ _ st fun b hb o q => (Heap.get?_update_other _ (Obj.mapSeq (·.push v)) (fun z : S = b => hSf (by rw [z]; exact hb))).trans q) (fun b hb => by rw [upd_ne (fun z => hSf (by rw [← z]; exact hb))]; exact no b hb) nx).elim
    · obtain ⟨G1, I1, no, fin⟩ := hp
      exact wpAny_pure (hR _ G1 ((Inv.setG (g := g) (x := .finished) I1 rfl).kept (t' := s₁.toks) hk) fin)
  | succ n ih =>
    intro s G I ⟨gs, hgs, hgo⟩
    refine codeAny_builtin F.entry_extend_loop ?_
    rw [Around.under_plainId F.plain_extend_loop _]
    show wpAny _ A.in1 (pyNext (.ref a) >>= _) _ _ s
    have hg : s.heap.IsGen a g := ⟨go, nm, qn, (I.pin (a, go) (List.mem_append_right _ gm)).1, g1, g2, g3⟩
    have hlt : g < s.gens.size := by
      rcases Nat.lt_or_ge g s.gens.size with z | z
      · exact z
      · rw [Array.getElem?_eq_none z] at hgs; cases hgs
    refine wpAny_bind (GenW.wpAny_gsz (Nat.succ_le_of_lt hlt) (wpAny_pyNext_genexpQ (A := A.in1) (P := GnR B gp fp σw Fe) hh I.nolimit hd hg hgs hgo (fun v s₁ gs' hb hv => ?_) (fun s₁ hp h' hk => ?_)))
    · intro hsz
      rw [GenW.setGen_size] at hsz
      obtain ⟨y, G1, Nx, i, ry, I1, st, no, ⟨acc, hS, hz, nx⟩, kap⟩ := hv
      have I2 := Inv.setG (g := g) I1 hb
      obtain ⟨hz', its, c, ri, e⟩ := I2.hok S _ hS
      have hl := ri.length
      show wpAny _ A.in1 (updateSeq S (·.push v) >>= _) _ _ _
      have I3 := I2.write (t' := (s₁.setGen g gs').toks) (o := .lst (acc ++ [y])) (by rw [hS]; trivial) (.inl rfl) (fun b u hb q => (Heap.get?_update_other _ (Obj.mapSeq (·.push v)) (Ne.symm hb)).trans q) ⟨_, Heap.get?_update_self (Obj.mapSeq (·.push v)) e rfl⟩
        ⟨by rw [List.length_append]; exact hz, its ++ [v], c + 1, ri.append (.cons ry .nil), by rw [Heap.get?_update_self (Obj.mapSeq (·.push v)) e rfl]; simp [Obj.mapSeq]⟩
      refine wpAny_bind (wpAny_updateSeq e rfl (wpAny_pure ⟨plainId_quiet F.plain_extend_loop _, ih _ _ I3 ⟨gs', setGen_at hsz, ?_⟩⟩) (by rw [List.size_toArray]; omega) (by show (its.toArray.push v).size ≤ sizeLine + 1; rw [Array.size_push, List.size_toArray]; omega))
      exact kap _ _ (Inv.setG (g := g) (x := .running) I3 rfl) (htn _ _ _ st fun b hb o q => (Heap.get?_update_other _ (Obj.mapSeq (·.push v)) (fun z : S = b => hSf (by rw [z]; exact hb))).trans q) (fun b hb => by rw [upd_ne (fun z => hSf (by rw [← z]; exact hb))]; exact no b hb) nx
    · intro _
      obtain ⟨G1, I1, no, fin⟩ := hp
      exact wpAny_pure (hR _ G1 ((Inv.setG (g := g) (x := .finished) I1 rfl).kept (t' := s₁.toks) hk) fin)
/-- the reading of tuple -/
def tTupG (Pre : Hp → Prop) (Post : Hp → Hp → Value → Prop) (ig : Option Nat) (wi : TI) (g : TG) (tt : Value → TT) (te : Value → TE) (vs : List Nat) : TE := fun σ H Q => wi σ H fun J H1 => Pre H1 ∧ ∀ H2 code, Post H1 H2 code → ∀ D, H2 D = none →
  ∃ W : Nat → Nat → Hp → Prop, (∃ m, W 0 m (upd H2 D (.lst []))) ∧ TnW J g (tt code) (te code) vs (ghost ig code (wipe σ vs)) (CTup D) (fun H4 => ∃ xs, H4 D = some (.lst xs) ∧ ∀ p, H4 p = none → Q (.ref p) (upd H4 p (.tup xs))) W
section
variable {X : Cx} {pins : List (Addr × Obj)} {σ : L2.St} {elt tg iter : Expr} {ifs : List Expr} {scope : Scope} {gpos : Pos} {own : List (Str × Nat)} {g : TG} {tt : Value → TT} {te : Value → TE} {k : Nat} {ig : Option Nat}
theorem gn_collect {B : Cx} {gp : List (Addr × Obj)} {fp : List Addr} {tn : Nat → Heap → Prop} {σw : L2.St} {Fe : Hp → Prop} {A : Around} {a gn : Nat} {Q : List Value → Shared → Prop} {E : Value → Shared → Prop} {s : Shared} {H2 : Hp} {gs : GenState} (hh : A.handled = none) (hd : A.depth < recursionLimit)
    (htn : ∀ i h h', tn i h → (∀ b ∈ fp, ∀ o, h.get? b = some o → h'.get? b = some o) → tn i h') (hfp : ∀ b ∈ fp, b < s.heap.objs.size) (hgen : s.heap.IsGen a gn)
    (gpa : ∃ (go : Obj) (nm qn : Value), (a, go) ∈ gp ∧ go.cls = .type "generator" ∧ go.data = .fields #[.int gn 0, nm, qn] ∧ go.slots = #[]) (IB : Inv B gp σw H2 s) (hgs : s.gens[gn]? = some gs) (st : tn 0 s.heap) (no : ∀ b ∈ fp, H2 b = none)
    (start : ∃ n, ∀ s', Inv B gp σw (upd H2 s.heap.objs.size (.lst [])) s' → tn 0 s'.heap → (∀ b ∈ fp, upd H2 s.heap.objs.size (.lst []) b = none) → gs.Goes (model B.prog B.w) A.in1.in1 (fun n s₀ r s₁ => r = .ok .next ∧ GnR B gp fp σw Fe n s₀ s₁) (GnY B gp fp tn σw (CTup s.heap.objs.size)) n (.send .none) s')
    (hF : ∀ G', Fe G' → ∃ xs, G' s.heap.objs.size = some (.lst xs)) (hQ : ∀ s' G' xs its, Inv B gp σw G' s' → Fe G' → G' s.heap.objs.size = some (.lst xs) → Vals xs its → its.length ≤ sizeLine → Q its s') : wpAny (model B.prog B.w) A (collect (.ref a)) Q E s := by
  have hlta : a < s.heap.objs.size := by
    obtain ⟨o, _, _, e, _⟩ := hgen
    exact Heap.lt_size e
  have hSI : s.heap.objs.size ≠ a := Nat.ne_of_gt hlta
  have hSf : s.heap.objs.size ∉ fp := fun hm => Nat.lt_irrefl _ (hfp _ hm)
  unfold collect
  refine wpAny_bind (wpAny_runValue (codeAny_builtin F.entry_proto_collect ?_))
  rw [Around.under_plainId F.plain_proto_collect _]
  show wpAny _ A.in1 (newList [] >>= fun l => again (.builtin "list.__iadd__" ⟨[l, .ref a], []⟩)) _ _ s
  refine wpAny_bind (wpAny_newObj_type ?_)
  refine wpAny_pure ⟨plainId_quiet F.plain_list_iadd _, codeAny_builtin F.entry_list_iadd ?_⟩
  rw [Around.under_plainId F.plain_list_iadd _]
  have hg1 : (s.heap.push { cls := .type "list", data := .seq ([] : List Value).toArray }).IsGen a gn := hgen.push _
  show wpAny _ A.in1 (Builtin.List.listExtendWith (.ref s.heap.objs.size) (.ref a) (.ref s.heap.objs.size)) _ _ _
  unfold Builtin.List.listExtendWith
  refine wpAny_bind (wpAny_typeOf (Heap.IsGen.typeIs (s := { s with heap := _ }) hg1) ?_)
  have h1 : Builtin.List.listSameRef (.ref s.heap.objs.size) (.ref a) = false := by simp [Builtin.List.listSameRef, hSI]
  have h2 : (Value.type "generator" == Value.type "list") = false := by decide
  have h3 : (Value.type "generator" == Value.type "tuple") = false := by decide
  simp only [h1, h2, h3, Bool.or_false, Bool.false_eq_true, if_false]
  refine wpAny_bind (wpAny_pyIter_gen (s := { s with heap := _ }) hg1 ?_)
  refine wpAny_bind (wpAny_holding ?_)
  unfold Builtin.List.listLengthHint
  refine wpAny_bind (wpAny_specialOf (Heap.IsGen.typeIs (s := { s with heap := _ }) hg1) F.gen_no_len ?_)
  show wpAny _ A.in1 (specialOf (Value.ref a) (Str.ofString "__length_hint__") >>= _) _ _ _
  refine wpAny_bind (wpAny_specialOf (Heap.IsGen.typeIs (s := { s with heap := _ }) hg1) F.gen_no_hint ?_)
  refine wpAny_pure ?_
  show wpAny _ A.in1 (rule "list.extend.makes-room" >>= fun _ => Builtin.List.listTouch (.ref s.heap.objs.size) >>= fun _ =>
    again (.builtin "list.extend.loop" ⟨[.ref s.heap.objs.size, .ref a, .ref s.heap.objs.size], []⟩)) _ _ _
  refine wpAny_bind (wpAny_rule ?_)
  have hS₁ : (s.heap.push { cls := .type "list", data := .seq ([] : List Value).toArray }).get? s.heap.objs.size = some { cls := .type "list", data := .seq ([] : List Value).toArray } := Heap.get?_push_size _ rfl
  refine wpAny_bind ?_
  show wpAny _ A.in1 (updateSeq s.heap.objs.size (·.push .none) >>= fun _ => updateSeq s.heap.objs.size (·.pop)) _ _ _
  refine wpAny_bind (wpAny_updateSeq hS₁ rfl ?_)
  have hS₂ := Heap.get?_update_self (Obj.mapSeq (·.push Value.none)) hS₁ rfl
  refine wpAny_updateSeq hS₂ rfl ?_
  have hS₃ := Heap.get?_update_self (Obj.mapSeq (·.pop)) hS₂ rfl
  have oth : ∀ b o, b ≠ s.heap.objs.size → (s.heap.push { cls := .type "list", data := .seq ([] : List Value).toArray }).get? b = some o →
      (((s.heap.push { cls := .type "list", data := .seq ([] : List Value).toArray }).update s.heap.objs.size (Obj.mapSeq (·.push Value.none))).update s.heap.objs.size (Obj.mapSeq (·.pop))).get? b = some o :=
    fun b o hb e => (Heap.get?_update_other _ _ (Ne.symm hb)).trans ((Heap.get?_update_other _ _ (Ne.symm hb)).trans e)
  have keep : ∀ b o, s.heap.get? b = some o → (((s.heap.push { cls := .type "list", data := .seq ([] : List Value).toArray }).update s.heap.objs.size (Obj.mapSeq (·.push Value.none))).update s.heap.objs.size (Obj.mapSeq (·.pop))).get? b = some o :=
    fun b o e => oth b o (Nat.ne_of_lt (Heap.lt_size e)) (Heap.get?_push_of_some _ e)
  have I1 := IB.laid (t' := s.toks) (o := .lst []) keep (Nat.le_refl _) ⟨Nat.zero_le _, [], _, .nil, hS₃⟩
  obtain ⟨n, start⟩ := start
  refine wpAny_pure ⟨plainId_quiet F.plain_extend_loop _, gn_ext_loop hh hd htn hSf gpa (fun s' G' I' f' => ?_) n _ _ I1 ⟨gs, hgs, start _ (Inv.setG (g := gn) (x := .running) I1 rfl) (htn _ _ _ st fun b _ o e => keep b o e) fun b hb => ?_⟩⟩
  · obtain ⟨xs, hS⟩ := hF G' f'
    obtain ⟨hz, its, c, ri, e⟩ := I'.hok _ _ hS
    show wpAny _ A (load s.heap.objs.size >>= _) _ _ s'
    refine wpAny_bind (wpAny_load e ?_)
    refine wpAny_pure ?_
    have := hQ s' G' xs its I' f' hS ri (by rw [← ri.length]; exact hz)
    simpa using this
  · rw [upd_ne (fun z => hSf (by rw [← z]; exact hb))]
    exact no b hb
theorem col_of {M : Model} {A : Around} {a : Addr} {Q0 Q : List Value → Shared → Prop} {E : Value → Shared → Prop} {s : Shared} (h : wpAny M A (collect (.ref a)) Q0 (fun _ _ => False) s) (hQ : ∀ v s', Q0 v s' → Q v s') : wpAny M A (collect (.ref a)) Q E s := wpAny_mono h hQ fun _ _ z => z.elim
theorem code_tuple_new_g {prog : Program} {w : World} {A : Around} {E : Value → Shared → Prop} {s : Shared} {a : Addr} {Q₁ : Value → Shared → Prop} (hTI : s.TypeIs (.ref a) "generator")
    (hcol : wpAny (model prog w) A.in1 (collect (.ref a)) (fun its s' => its.length ≤ sizeLine ∧ Q₁ (.ref s'.heap.objs.size) { s' with heap := s'.heap.push { cls := .type "tuple", data := .seq its.toArray } }) (fun _ _ => False) s) :
    codeAny (model prog w) A (.call (.builtin "tuple.__new__") ⟨[.type "tuple", .ref a], []⟩) (wants Q₁ E) s := by
  refine codeAny_of_tree ?_
  show wpAny _ A.in1 (do checkBuiltinCall "tuple.__new__" ⟨[.type "tuple", .ref a], []⟩; again (.builtin "tuple.__new__" ⟨[.type "tuple", .ref a], []⟩)) _ _ s
  refine wpAny_bind (wpAny_of_eq (F.newCall_tuple_1 _) (wpAny_pure ⟨plainId_quiet F.plain_tuple_new _, codeAny_builtin F.entry_tuple_new ?_⟩))
  rw [Around.under_plainId F.plain_tuple_new _]
  have hsub := sub_tuple_self
  have hinit := init_tuple_lookup
  have hmh := madeHere_tuple
  wp_walk using wpAny_typeOf hTI, col_of hcol
  intro its s' hz
  show wpAny _ _ (Builtin.Tuple.tupleExact its.toArray >>= fun v => ret v) _ _ _
  unfold Builtin.Tuple.tupleExact
  refine wpAny_bind (wpAny_newObj_type ?_ (by show its.toArray.size ≤ sizeLine; rw [List.size_toArray]; exact hz.1))
  exact wpAny_pure hz.2
theorem pe_gnTup {wi : TI} {P0 : Addr} {p pos : Pos} {Pre : Hp → Prop} {Post : Hp → Hp → Value → Prop} (hr : Room (k + 3) X.A) (hgl : Gl X "tuple") (hm : X.mg "tuple" = none) (hbm : X.base.BuiltinsAt X.mg P0) (cs : CodeStep X gpos scope Pre Post) (hN : X.N.Nodup) (ok : GnOk X.N X.env.scope scope own) (hig : ∀ i, ig = some i → ∀ x, X.N[i]? = some x → ¬ Vis scope x)
    (hi : PI X tg iter wi) (hs : ∀ v, genFold iter X.env v = pure v) (pt : GnParts X k scope elt tg ifs g tt te)
    (hst : starEach [.GeneratorExp elt [⟨tg, iter, ifs, 0⟩] scope gpos] X.env = (false, eval (.GeneratorExp elt [⟨tg, iter, ifs, 0⟩] scope gpos) X.env) :: starEach [] X.env := by rfl) :
    PE X (.Call (.Name "tuple" p) [.GeneratorExp elt [⟨tg, iter, ifs, 0⟩] scope gpos] [] pos) (tTupG Pre Post ig wi g tt te (own.map (·.2))) := by
  refine ⟨fun pins s σ H Q I h => ?_⟩
  refine wpAny_Call_Name_kw (ld_blt I hgl hm (show bootBuiltins "tuple" = some (.type "tuple") by decide +kernel) ?_ (by decide) (by decide))
  refine PyProof.Rows.callWith_type1 ?_ hst (by rfl)
  rw [hst]
  show wpAny _ _ (spliced ((false, eval (.GeneratorExp elt [⟨tg, iter, ifs, 0⟩] scope gpos) X.env) :: backTo pos (starEach [] X.env))) _ _ s
  refine Calls.spliced_cons (thn (gn_make hr hbm cs ok hi hs I h) fun v s5 M => ?_)
  refine Calls.spliced_nil ?_
  have hr1 : Room (k + 1) X.A.in1.in1.in1.in1 := ⟨hr.hd, by have := hr.dp; show X.A.depth + 3 * (k + 1) + 5 < _; omega, by have := hr.un; show X.A.units + 1 + 1 + 1 + 1 + 16 * (k + 1) + 200 < _; omega⟩
  obtain ⟨a, gn, B, gp, fp, tn, J, H2, gs, code, rfl, hp, hw, hK, hgen, gpa, IB, hgs, q, back, no, st, ⟨htn, hfp⟩, goes⟩ := gn_enter (k := k) (A₁ := X.A.in1.in1.in1.in1) hr1 rfl hN ok hig pt M
  rw [← hp, ← hw] at goes ⊢
  have hdep : X.A.depth < recursionLimit := by have := hr.dp; omega
  obtain ⟨W, ⟨m0, w0⟩, turn⟩ := q s5.heap.objs.size (IB.hok.fresh (Nat.le_refl _))
  refine callType_codes (Q₁ := fun obj s₁ => s₁.TypeIs obj "tuple" ∧ ∃ x H', Inv X pins σ H' s₁ ∧ RelV x obj ∧ Q x H') F.called_tuple (F.typeCall_tuple_1 _) F.entry_object_init
    (code_tuple_new_g hgen.typeIs (gn_collect (A := X.A.in1.in1) hr.hd hdep htn hfp hgen gpa IB hgs st no ⟨m0 + 1, fun s' I' st' no' => goes _ _ W turn m0 (m0 + 1) s' _ (Nat.lt_succ_self _) I' st' no' w0⟩ (fun G' f' => ?_) (fun s' G' xs its I' f' hS ri hz => ?_))) fun obj s₁ h₁ => ?_
  · obtain ⟨xs, e, _⟩ := f'
    exact ⟨xs, e⟩
  · obtain ⟨xs', e, q⟩ := f'
    rw [hS] at e
    cases e
    have IX := back _ _ _ I'
    have I2 := IX.laid (t' := s'.toks) (o := .tup xs) (a := s'.heap.objs.size) (h' := s'.heap.push { cls := .type "tuple", data := .seq its.toArray }) (fun b u e => Heap.get?_push_of_some _ e) (Nat.le_refl _) ⟨by rw [ri.length]; exact hz, its, ri, ⟨_, Heap.get?_push_size _ rfl, rfl, _, rfl⟩⟩
    exact ⟨hz, ⟨_, Heap.get?_push_size _ rfl, rfl⟩, .ref s'.heap.objs.size, _, I2, rfl, q _ (IX.hok.fresh (Nat.le_refl _))⟩
  · exact ⟨h₁.1, F.args_object_init_2 obj _, object_init_meets F.called_tuple.init.lookup F.called_tuple.made (by decide) B.prog B.w X.A.in1 _ s₁ ⟨h₁.1, rfl, h₁.2⟩⟩
end
end Pr

/-! values with all that stands within them; a store of what changes; readings over these -/
namespace Dn
open PySem PySem.Spec PyProof.Rows L2 Pr
inductive Dt where
  | non | bl (b : Bool) | int (i : Int) | str (z : Str) | ref (a : Addr) | ty (n : String)
  | tup (l : List Dt) | lst (l : List Dt) | dic (l : List (Key × Dt))
  /-- an instance that stands still: its class, the names of its attributes in the order of their making, the values of the first of them -/
  | obj (C : Addr) (nm : List Str) (l : List Dt)
  /-- the script -/
  | scr (ns : List Int)
  /-- a lambda, kept -/
  | lam (F : NdefX.NF) (b : Expr)
  /-- a generator expression's code object, kept for those within it -/
  | gco (c P : Addr)
/-- what stands at an address that may change -/
inductive Cell where
  | lst (l : List Dt) | dic (l : List (Key × Dt)) | dct (l : List (List Key × Dt)) | lck (o : HO) (l : List (Key × Dt))
  | ins (C : Addr) (nm : List Str) (l : List Dt)
  /-- the table of codes of a def, for lambdas and generators of this name -/
  | tbl (q : Str)
  /-- the table of a def whose generator expressions' code objects are known -/
  | gtb
abbrev Store := Addr → Option Cell
abbrev DS := List (Option Dt)
abbrev DK := Dt → Store → Prop
abbrev DX := Addr → Store → Prop
/-- a text that the machine can hold -/
structure SOk (z : Str) : Prop where
  len : z.length ≤ sizeLine
  ok : PySem.PyData.strOk z = true
def KOk : Key → Prop
  | .inl _ => True
  | .inr z => SOk z
section
variable (K : PySem.W.Frag) (G : Hp)
mutual
def Rep : Dt → V → Prop
  | .non, v => v = .non
  | .bl b, v => v = .bl b
  | .int i, v => v = .int i
  | .str z, v => v = .str z ∧ SOk z
  | .ref a, v => v = .ref a
  | .ty n, v => v = .ty n
  | .tup l, v => ∃ a vs, v = .ref a ∧ SqT K G a vs ∧ Reps l vs
  | .lst l, v => ∃ a vs, v = .ref a ∧ G a = some (.lst vs) ∧ Reps l vs
  | .dic l, v => ∃ a kvs, v = .ref a ∧ Rd G a (.dK kvs) ∧ Repk l kvs
  | .obj C nm l, v => ∃ a dx vs, v = .ref a ∧ G a = some (.ins C dx ((nm.take l.length).zip vs)) ∧ Reps l vs ∧ l.length ≤ nm.length
  | .scr ns, v => ∃ a, v = .ref a ∧ SqL K G a (ns.map V.int)
  | .gco c P, v => v = .ref c ∧ G c = some (GCode c P) ∧ G P = some (GTabO P)
  | .lam F b, v => ∃ f, v = .ref f ∧ G f = some (LmO f F b) ∧ G F.c = some (LamX.CodeO F.c F.qual)
def Reps : List Dt → List V → Prop
  | [], vs => vs = []
  | d :: l, vs => ∃ v r, vs = v :: r ∧ Rep d v ∧ Reps l r
def Repk : List (Key × Dt) → List (Key × V) → Prop
  | [], kvs => kvs = []
  | (k, d) :: l, kvs => ∃ v r, kvs = (k, v) :: r ∧ (KOk k ∧ Rep d v) ∧ Repk l r
end
def Rept : List (List Key × Dt) → List (List Key × V) → Prop
  | [], kvs => kvs = []
  | (k, d) :: l, kvs => ∃ v r, kvs = (k, v) :: r ∧ ((∀ x ∈ k, KOk x) ∧ Rep K G d v) ∧ Rept l r
def CRep : Cell → HO → Prop
  | .lst l, o => ∃ vs, o = .lst vs ∧ Reps K G l vs
  | .dic l, o => ∃ kvs, o = .dK kvs ∧ Repk K G l kvs
  | .dct l, o => ∃ kvs, o = .dT kvs ∧ Rept K G l kvs
  | .lck u l, o => o = u ∧ ∃ ob kvs, o = .frz ob (.dK kvs) ∧ Repk K G l kvs
  | .ins C nm l, o => ∃ dx vs, o = .ins C dx ((nm.take l.length).zip vs) ∧ Reps K G l vs ∧ l.length ≤ nm.length
  | .gtb, o => ∃ ps : Array Value, o = .tbl ps ∧ TriplesOk ps.toList ∧ ∀ (pos : Pos) (cv : Value), codeAmong pos ps.toList = some cv → ∃ c P', cv = .ref c ∧ G c = some (GCode c P') ∧ G P' = some (GTabO P')
  | .tbl q, o => ∃ ps : Array Value, o = .tbl ps ∧ TriplesOk ps.toList ∧ ∀ (pos : Pos) (cv : Value), codeAmong pos ps.toList = some cv → ∃ c, cv = .ref c ∧ G c = some (LamX.CodeO c q)
end
/-- a dict, walked or not -/
def IsDk (o : HO) (kvs : List (Key × V)) : Prop := o = .dK kvs ∨ ∃ ob, o = .frz ob (.dK kvs)
/-- all that G holds G' holds; a dict may be walked in the one and not in the other -/
def Alt (o o' : HO) : Prop := o = o' ∨ ∃ kvs, IsDk o kvs ∧ IsDk o' kvs
def IsTb (o : HO) : Prop := ∃ ps, o = .tbl ps
/-- of tables that stand aside nothing is told -/
def Ext (G G' : Hp) : Prop := ∀ b o, G b = some o → ¬ IsTb o → ∃ o', G' b = some o' ∧ Alt o o'
theorem IsDk.uniq {o : HO} {k1 k2 : List (Key × V)} (a : IsDk o k1) (b : IsDk o k2) : k1 = k2 := by
  rcases a with rfl | ⟨ob, rfl⟩ <;> rcases b with h | ⟨ob2, h⟩ <;> cases h <;> rfl
theorem Alt.trans {o o1 o2 : HO} (a : Alt o o1) (b : Alt o1 o2) : Alt o o2 := by
  rcases a with rfl | ⟨k1, x1, y1⟩
  · exact b
  · rcases b with rfl | ⟨k2, x2, y2⟩
    · exact .inr ⟨k1, x1, y1⟩
    · have := y1.uniq x2
      subst this
      exact .inr ⟨k1, x1, y2⟩
/-- what is neither a dict nor a table -/
def Still : HO → Prop
  | .dK _ => False
  | .frz _ (.dK _) => False
  | .tbl _ => False
  | _ => True
theorem Alt.still {o o' : HO} (a : Alt o o') (h : Still o) : o' = o := by
  rcases a with rfl | ⟨k, x, y⟩
  · rfl
  · rcases x with rfl | ⟨ob, rfl⟩ <;> exact h.elim
theorem Alt.noTb {o o' : HO} (a : Alt o o') (h : ¬ IsTb o) : ¬ IsTb o' := by
  rcases a with rfl | ⟨k, x, y⟩
  · exact h
  · rintro ⟨ps, rfl⟩
    rcases y with y | ⟨_, y⟩ <;> cases y
theorem Ext.refl {G : Hp} : Ext G G := fun _ o h _ => ⟨o, h, .inl rfl⟩
theorem Ext.trans {G G1 G2 : Hp} (a : Ext G G1) (b : Ext G1 G2) : Ext G G2 := fun c o h n => by
  obtain ⟨o1, h1, e1⟩ := a c o h n
  obtain ⟨o2, h2, e2⟩ := b c o1 h1 (e1.noTb n)
  exact ⟨o2, h2, e1.trans e2⟩
theorem Ext.of {G G' : Hp} (h : ∀ b o, G b = some o → G' b = some o) : Ext G G' := fun b o e _ => ⟨o, h b o e, .inl rfl⟩
theorem Still.noTb {o : HO} (s : Still o) : ¬ IsTb o := by
  rintro ⟨ps, rfl⟩
  exact s
theorem Ext.still {G G' : Hp} {a : Addr} {o : HO} (e : Ext G G') (h : G a = some o) (s : Still o) : G' a = some o := by
  obtain ⟨o', h', z⟩ := e a _ h s.noTb
  rw [h', z.still s]
theorem Ext.lst {G G' : Hp} {a : Addr} {vs : List V} (e : Ext G G') (h : G a = some (.lst vs)) : G' a = some (.lst vs) := e.still h trivial
theorem Ext.ins {G G' : Hp} {a C dx : Addr} {fs : List (Str × V)} (e : Ext G G') (h : G a = some (.ins C dx fs)) : G' a = some (.ins C dx fs) := e.still h trivial
theorem Ext.tup {K : PySem.W.Frag} {G G' : Hp} {a : Addr} {vs : List V} (e : Ext G G') (h : SqT K G a vs) : SqT K G' a vs := by
  rcases h with (h | ⟨ob, h⟩) | h
  · exact .inl (.inl (e.still h trivial))
  · exact .inl (.inr ⟨ob, e.still h trivial⟩)
  · exact .inr h
theorem Ext.scr {K : PySem.W.Frag} {G G' : Hp} {a : Addr} {vs : List V} (e : Ext G G') (h : SqL K G a vs) : SqL K G' a vs := by
  rcases h with (h | ⟨ob, h⟩) | h
  · exact .inl (.inl (e.still h trivial))
  · exact .inl (.inr ⟨ob, e.still h trivial⟩)
  · exact .inr h
theorem Ext.dic {G G' : Hp} {a : Addr} {kvs : List (Key × V)} (e : Ext G G') (h : Rd G a (.dK kvs)) : Rd G' a (.dK kvs) := by
  have fin : ∀ o, G a = some o → IsDk o kvs → Rd G' a (.dK kvs) := fun o h q => by
    obtain ⟨o', h', z⟩ := e a _ h (by
      rintro ⟨ps, rfl⟩
      rcases q with h | ⟨_, h⟩ <;> cases h)
    have : IsDk o' kvs := by
      rcases z with rfl | ⟨k, x, y⟩
      · exact q
      · have := x.uniq q
        subst this
        exact y
    rcases this with rfl | ⟨ob, rfl⟩
    · exact .inl h'
    · exact .inr ⟨ob, h'⟩
  rcases h with h | ⟨ob, h⟩
  · exact fin _ h (.inl rfl)
  · exact fin _ h (.inr ⟨ob, rfl⟩)
section
variable {K : PySem.W.Frag} {G G' : Hp}
mutual
theorem Rep.ext (e : Ext G G') : ∀ (d : Dt) (v : V), Rep K G d v → Rep K G' d v
  | .non, _, h | .bl _, _, h | .int _, _, h | .str _, _, h | .ref _, _, h | .ty _, _, h => h
  | .tup l, v, ⟨a, vs, h1, h2, h3⟩ => ⟨a, vs, h1, e.tup h2, Reps.ext e l vs h3⟩
  | .lst l, v, ⟨a, vs, h1, h2, h3⟩ => ⟨a, vs, h1, e.lst h2, Reps.ext e l vs h3⟩
  | .dic l, v, ⟨a, vs, h1, h2, h3⟩ => ⟨a, vs, h1, e.dic h2, Repk.ext e l vs h3⟩
  | .obj C nm l, v, ⟨a, dx, vs, h1, h2, h3, h4⟩ => ⟨a, dx, vs, h1, e.ins h2, Reps.ext e l vs h3, h4⟩
  | .scr ns, v, ⟨a, h1, h2⟩ => ⟨a, h1, e.scr h2⟩
  | .gco c P, v, ⟨h1, h2, h3⟩ => ⟨h1, e.still h2 trivial, e.still h3 trivial⟩
  | .lam F b, v, ⟨f, h1, h2, h3⟩ => ⟨f, h1, e.still h2 trivial, e.still h3 trivial⟩
theorem Reps.ext (e : Ext G G') : ∀ (l : List Dt) (vs : List V), Reps K G l vs → Reps K G' l vs
  | [], _, h => h
  | d :: l, vs, ⟨v, r, h1, h2, h3⟩ => ⟨v, r, h1, Rep.ext e d v h2, Reps.ext e l r h3⟩
theorem Repk.ext (e : Ext G G') : ∀ (l : List (Key × Dt)) (vs : List (Key × V)), Repk K G l vs → Repk K G' l vs
  | [], _, h => h
  | (k, d) :: l, vs, ⟨v, r, h1, h2, h3⟩ => ⟨v, r, h1, ⟨h2.1, Rep.ext e d v h2.2⟩, Repk.ext e l r h3⟩
end
theorem Rept.ext (e : Ext G G') : ∀ (l : List (List Key × Dt)) (vs : List (List Key × V)), Rept K G l vs → Rept K G' l vs
  | [], _, h => h
  | (k, d) :: l, vs, ⟨v, r, h1, h2, h3⟩ => ⟨v, r, h1, ⟨h2.1, Rep.ext e d v h2.2⟩, Rept.ext e l r h3⟩
theorem CRep.ext (e : Ext G G') (c : Cell) (o : HO) (h : CRep K G c o) : CRep K G' c o := by
  cases c with
  | lst l => obtain ⟨vs, h1, h2⟩ := h; exact ⟨vs, h1, Reps.ext e _ _ h2⟩
  | dic l => obtain ⟨vs, h1, h2⟩ := h; exact ⟨vs, h1, Repk.ext e _ _ h2⟩
  | dct l => obtain ⟨vs, h1, h2⟩ := h; exact ⟨vs, h1, Rept.ext e _ _ h2⟩
  | lck u l => obtain ⟨h0, ob, vs, h1, h2⟩ := h; exact ⟨h0, ob, vs, h1, Repk.ext e _ _ h2⟩
  | ins C nm l => obtain ⟨dx, vs, h1, h2, h3⟩ := h; exact ⟨dx, vs, h1, Reps.ext e _ _ h2, h3⟩
  | tbl q =>
    obtain ⟨ps, h1, h2, h3⟩ := h
    refine ⟨ps, h1, h2, fun pos cv hc => ?_⟩
    obtain ⟨c, e1, e2⟩ := h3 pos cv hc
    exact ⟨c, e1, e.still e2 trivial⟩
  | gtb =>
    obtain ⟨ps, h1, h2, h3⟩ := h
    refine ⟨ps, h1, h2, fun pos cv hc => ?_⟩
    obtain ⟨c, P', e1, e2, e3⟩ := h3 pos cv hc
    exact ⟨c, P', e1, e.still e2 trivial, e.still e3 trivial⟩
theorem Reps.pair : ∀ {l : List Dt} {vs : List V}, Reps K G l vs ↔ Paired (Rep K G) l vs
  | [], vs => ⟨fun h => by rw [show vs = [] from h]; exact .nil, fun h => by cases h; exact rfl⟩
  | d :: l, vs => ⟨fun ⟨v, r, e, h1, h2⟩ => by rw [e]; exact .cons h1 (Reps.pair.mp h2), fun h => by
    cases h with
    | cons h1 h2 => exact ⟨_, _, rfl, h1, Reps.pair.mpr h2⟩⟩
theorem Reps.len {l : List Dt} {vs : List V} (h : Reps K G l vs) : l.length = vs.length := Paired.length (Reps.pair.mp h)
theorem Repk.pair : ∀ {l : List (Key × Dt)} {vs : List (Key × V)}, Repk K G l vs ↔ Paired (fun p q => p.1 = q.1 ∧ (KOk p.1 ∧ Rep K G p.2 q.2)) l vs
  | [], vs => ⟨fun h => by rw [show vs = [] from h]; exact .nil, fun h => by cases h; exact rfl⟩
  | (k, d) :: l, vs => ⟨fun ⟨v, r, e, h1, h2⟩ => by rw [e]; exact .cons ⟨rfl, h1⟩ (Repk.pair.mp h2), fun h => by
    cases h with
    | @cons _ q _ r h1 h2 =>
      obtain ⟨q1, q2⟩ := q
      obtain ⟨e, h1⟩ := h1
      cases e
      exact ⟨_, _, rfl, h1, Repk.pair.mpr h2⟩⟩
theorem Rept.pair : ∀ {l : List (List Key × Dt)} {vs : List (List Key × V)}, Rept K G l vs ↔ Paired (fun p q => p.1 = q.1 ∧ ((∀ x ∈ p.1, KOk x) ∧ Rep K G p.2 q.2)) l vs
  | [], vs => ⟨fun h => by rw [show vs = [] from h]; exact .nil, fun h => by cases h; exact rfl⟩
  | (k, d) :: l, vs => ⟨fun ⟨v, r, e, h1, h2⟩ => by rw [e]; exact .cons ⟨rfl, h1⟩ (Rept.pair.mp h2), fun h => by
    cases h with
    | @cons _ q _ r h1 h2 =>
      obtain ⟨q1, q2⟩ := q
      obtain ⟨e, h1⟩ := h1
      cases e
      exact ⟨_, _, rfl, h1, Rept.pair.mpr h2⟩⟩
end
section
variable {α β : Type} {F : α → β → Prop}
theorem Paired.get : ∀ {l : List α} {m : List β} {i : Nat} {x : α}, Paired F l m → l[i]? = some x → ∃ y, m[i]? = some y ∧ F x y
  | _, _, i, x, .nil, h => by simp at h
  | _, _, 0, x, .cons r t, h => by simp at h; subst h; exact ⟨_, rfl, r⟩
  | _, _, i + 1, x, .cons r t, h => by
    obtain ⟨y, h1, h2⟩ := Paired.get (i := i) t (by simpa using h)
    exact ⟨y, by simpa using h1, h2⟩
theorem Paired.get' : ∀ {l : List α} {m : List β} {i : Nat} {y : β}, Paired F l m → m[i]? = some y → ∃ x, l[i]? = some x ∧ F x y
  | _, _, i, x, .nil, h => by simp at h
  | _, _, 0, x, .cons r t, h => by simp at h; subst h; exact ⟨_, rfl, r⟩
  | _, _, i + 1, x, .cons r t, h => by
    obtain ⟨y, h1, h2⟩ := Paired.get' (i := i) t (by simpa using h)
    exact ⟨y, by simpa using h1, h2⟩
theorem Paired.app : ∀ {l l' : List α} {m m' : List β}, Paired F l m → Paired F l' m' → Paired F (l ++ l') (m ++ m')
  | _, _, _, _, .nil, h => h
  | _, _, _, _, .cons r t, h => .cons r (Paired.app t h)
theorem Paired.setp {x : α} {y : β} (r : F x y) : ∀ {l : List α} {m : List β} (i : Nat), Paired F l m → Paired F (l.set i x) (m.set i y)
  | _, _, _, .nil => .nil
  | _, _, 0, .cons _ t => .cons r t
  | _, _, i + 1, .cons q t => .cons q (Paired.setp r i t)
theorem Paired.drop : ∀ {l : List α} {m : List β} (n : Nat), Paired F l m → Paired F (l.drop n) (m.drop n)
  | _, _, 0, h => h
  | _, _, _ + 1, .nil => .nil
  | _, _, n + 1, .cons _ t => Paired.drop n t
theorem Paired.take : ∀ {l : List α} {m : List β} (n : Nat), Paired F l m → Paired F (l.take n) (m.take n)
  | _, _, 0, _ => .nil
  | _, _, _ + 1, .nil => .nil
  | _, _, n + 1, .cons r t => .cons r (Paired.take n t)
theorem Paired.rev : ∀ {l : List α} {m : List β}, Paired F l m → Paired F l.reverse m.reverse
  | _, _, .nil => .nil
  | _, _, .cons r t => by rw [List.reverse_cons, List.reverse_cons]; exact Paired.app (Paired.rev t) (.cons r .nil)
end
/-! ## the heap beside the store -/
/-- what stands still: all but the store's and what is hidden -/
def out (H : Hp) (S : Store) (Z : Hp) : Hp := fun b => if (S b).isSome = true ∨ (Z b).isSome = true then none else H b
def sput (S : Store) (a : Addr) (c : Cell) : Store := fun b => if b = a then some c else S b
def sdel (S : Store) (a : Addr) : Store := fun b => if b = a then none else S b
theorem sput_same {S : Store} {a : Addr} {c : Cell} : sput S a c a = some c := by unfold sput; rw [if_pos rfl]
theorem sput_ne {S : Store} {a b : Addr} {c : Cell} (h : b ≠ a) : sput S a c b = S b := by unfold sput; rw [if_neg h]
theorem sdel_same {S : Store} {a : Addr} : sdel S a a = none := by unfold sdel; rw [if_pos rfl]
theorem sdel_ne {S : Store} {a b : Addr} (h : b ≠ a) : sdel S a b = S b := by unfold sdel; rw [if_neg h]
theorem sput_sput {S : Store} {a : Addr} {c d : Cell} : sput (sput S a c) a d = sput S a d := by
  funext b; unfold sput; split <;> rfl
/-- what is hidden: lists, dicts under way -/
def Hid (o : HO) : Prop := (∃ vs, o = .lst vs) ∨ ∃ kvs, o = .dK kvs
structure Good (K : PySem.W.Frag) (Z H : Hp) (S : Store) : Prop where
  z : ∀ b o, Z b = some o → H b = some o ∧ S b = none ∧ Hid o
  c : ∀ a x, S a = some x → ∃ o, H a = some o ∧ CRep K (out H S Z) x o
section
variable {K : PySem.W.Frag} {Z H H' : Hp} {S S' : Store} {a p : Addr} {o : HO}
theorem out_some {b : Addr} (h : out H S Z b = some o) : S b = none ∧ Z b = none ∧ H b = some o := by
  unfold out at h
  split at h
  · cases h
  · rename_i n
    refine ⟨?_, ?_, h⟩
    · cases e : S b with
      | none => rfl
      | some x => exact absurd (.inl (by rw [e]; rfl)) n
    · cases e : Z b with
      | none => rfl
      | some x => exact absurd (.inr (by rw [e]; rfl)) n
theorem out_of {b : Addr} (h1 : S b = none) (h2 : Z b = none) : out H S Z b = H b := by
  unfold out
  rw [if_neg]
  rintro (h | h)
  · rw [h1] at h; cases h
  · rw [h2] at h; cases h
theorem Good.nS (g : Good K Z H S) (n : H p = none) : S p = none := by
  cases e : S p with
  | none => rfl
  | some x => obtain ⟨o, h, _⟩ := g.c p x e; rw [n] at h; cases h
theorem Good.nZ (g : Good K Z H S) (n : H p = none) : Z p = none := by
  cases e : Z p with
  | none => rfl
  | some x => have := (g.z p x e).1; rw [n] at this; cases this
/-- a new thing that stands still -/
theorem ext_new (g : Good K Z H S) (n : H p = none) : Ext (out H S Z) (out (upd H p o) S Z) := Ext.of fun b o' h => by
  obtain ⟨h1, h2, h3⟩ := out_some h
  rw [out_of h1 h2, upd_ne (ne_of_none h3 n)]
  exact h3
theorem Good.new (g : Good K Z H S) (n : H p = none) : Good K Z (upd H p o) S := by
  have e := ext_new (o := o) g n
  refine ⟨fun b o' h => ⟨(upd_ne (ne_of_none (g.z b o' h).1 n)).trans (g.z b o' h).1, (g.z b o' h).2⟩, fun b x h => ?_⟩
  obtain ⟨o', h1, h2⟩ := g.c b x h
  exact ⟨o', (upd_ne (ne_of_none h1 n)).trans h1, CRep.ext e _ _ h2⟩
theorem out_new (g : Good K Z H S) (n : H p = none) : out (upd H p o) S Z p = some o := by
  rw [out_of (g.nS n) (g.nZ n), upd_same]
/-- a new cell -/
theorem out_own (g : Good K Z H S) (n : H p = none) {c : Cell} : out (upd H p o) (sput S p c) Z = out H S Z := by
  funext b
  by_cases hb : b = p
  · subst hb
    have e1 : out (upd H b o) (sput S b c) Z b = none := by
      unfold out
      rw [if_pos]
      rw [sput_same]; exact .inl rfl
    rw [e1, out_of (g.nS n) (g.nZ n), n]
  · unfold out
    rw [sput_ne hb, upd_ne hb]
theorem Good.own (g : Good K Z H S) (n : H p = none) {c : Cell} (h : CRep K (out H S Z) c o) : Good K Z (upd H p o) (sput S p c) := by
  refine ⟨fun b o' e => ?_, fun b x e => ?_⟩
  · have hb := ne_of_none (g.z b o' e).1 n
    rw [upd_ne hb, sput_ne hb]
    exact g.z b o' e
  · rw [out_own g n]
    by_cases hb : b = p
    · subst hb
      rw [sput_same] at e
      cases e
      exact ⟨o, upd_same, h⟩
    · rw [sput_ne hb] at e
      rw [upd_ne hb]
      exact g.c b x e
/-- a cell changes -/
theorem out_mut {c c' : Cell} (h : S a = some c) : out (upd H a o) (sput S a c') Z = out H S Z := by
  funext b
  by_cases hb : b = a
  · subst hb
    unfold out
    rw [if_pos (.inl (by rw [sput_same]; rfl)), if_pos (.inl (by rw [h]; rfl))]
  · unfold out
    rw [sput_ne hb, upd_ne hb]
theorem Good.mut (g : Good K Z H S) {c c' : Cell} (h : S a = some c) (r : CRep K (out H S Z) c' o) : Good K Z (upd H a o) (sput S a c') := by
  refine ⟨fun b o' e => ?_, fun b x e => ?_⟩
  · have hb : b ≠ a := fun z => by
      have := (g.z b o' e).2.1
      rw [z, h] at this
      cases this
    rw [upd_ne hb, sput_ne hb]
    exact g.z b o' e
  · rw [out_mut h]
    by_cases hb : b = a
    · subst hb
      rw [sput_same] at e
      cases e
      exact ⟨o, upd_same, r⟩
    · rw [sput_ne hb] at e
      rw [upd_ne hb]
      exact g.c b x e
/-- a cell stands still from now on -/
theorem ext_del : Ext (out H S Z) (out H (sdel S a) Z) := Ext.of fun b o h => by
  obtain ⟨h1, h2, h3⟩ := out_some h
  have : sdel S a b = none := by
    by_cases hb : b = a
    · rw [hb, sdel_same]
    · rw [sdel_ne hb, h1]
  rw [out_of this h2]
  exact h3
theorem Good.del (g : Good K Z H S) : Good K Z H (sdel S a) := by
  refine ⟨fun b o' e => ?_, fun b x e => ?_⟩
  · refine ⟨(g.z b o' e).1, ?_, (g.z b o' e).2.2⟩
    by_cases hb : b = a
    · rw [hb, sdel_same]
    · rw [sdel_ne hb]; exact (g.z b o' e).2.1
  · by_cases hb : b = a
    · rw [hb, sdel_same] at e; cases e
    · rw [sdel_ne hb] at e
      obtain ⟨o', h1, h2⟩ := g.c b x e
      exact ⟨o', h1, CRep.ext ext_del _ _ h2⟩
theorem out_del (g : Good K Z H S) {c : Cell} (h : S a = some c) : out H (sdel S a) Z a = H a := by
  refine out_of sdel_same ?_
  cases e : Z a with
  | none => rfl
  | some x => have := (g.z a x e).2.1; rw [h] at this; cases this
theorem out_le {b : Addr} (h : out H S Z b = some o) : H b = some o := (out_some h).2.2
end
/-! ## slots -/
@[reducible] def look : DS → Nat → Option Dt
  | [], _ => none
  | x :: _, 0 => x
  | _ :: l, n + 1 => look l n
@[reducible] def putS : DS → Nat → Dt → DS
  | [], _, _ => []
  | _ :: l, 0, d => some d :: l
  | x :: l, n + 1, d => x :: putS l n d
@[reducible] def wipeS : DS → Nat → DS
  | [], _ => []
  | _ :: l, 0 => none :: l
  | x :: l, n + 1 => x :: wipeS l n
def SltR (K : PySem.W.Frag) (G : Hp) (v : Option V) (d : Option Dt) : Prop := ∀ x, d = some x → ∃ u, v = some u ∧ Rep K G x u
def Slots (K : PySem.W.Frag) (G : Hp) (σ : L2.St) (δ : DS) : Prop := Paired (SltR K G) σ δ
section
variable {K : PySem.W.Frag} {G G' : Hp} {σ : L2.St} {δ : DS}
theorem Slots.ext (h : Slots K G σ δ) (e : Ext G G') : Slots K G' σ δ := Paired.mapP h fun v d q x hx => by
  obtain ⟨u, h1, h2⟩ := q x hx
  exact ⟨u, h1, Rep.ext e _ _ h2⟩
theorem look_get : ∀ {δ : DS} {i : Nat} {d : Dt}, look δ i = some d → δ[i]? = some (some d)
  | [], _, _, h => by simp [look] at h
  | x :: _, 0, d, h => by simp [look] at h; simp [h]
  | _ :: l, n + 1, d, h => by
    have : l[n]? = some (some d) := look_get (by simpa [look] using h)
    simpa using this
theorem Slots.look (h : Slots K G σ δ) {i : Nat} {d : Dt} (e : look δ i = some d) : ∃ v, σ[i]? = some (some v) ∧ Rep K G d v := by
  obtain ⟨v, h1, h2⟩ := Paired.get' h (look_get e)
  obtain ⟨u, h3, h4⟩ := h2 d rfl
  exact ⟨u, by rw [h1, h3], h4⟩
theorem putS_set : ∀ (δ : DS) (i : Nat) (d : Dt), putS δ i d = δ.set i (some d)
  | [], _, _ => rfl
  | _ :: _, 0, _ => rfl
  | x :: l, n + 1, d => by show x :: putS l n d = x :: l.set n (some d); rw [putS_set]
theorem wipeS_set : ∀ (δ : DS) (i : Nat), wipeS δ i = δ.set i none
  | [], _ => rfl
  | _ :: _, 0 => rfl
  | x :: l, n + 1 => by show x :: wipeS l n = x :: l.set n none; rw [wipeS_set]
theorem Slots.put (h : Slots K G σ δ) {i : Nat} {d : Dt} {v : V} (r : Rep K G d v) : Slots K G (σ.set i (some v)) (putS δ i d) := by
  rw [putS_set]
  exact Paired.setp (fun x hx => ⟨v, rfl, by cases hx; exact r⟩) i h
theorem Slots.wipe (h : Slots K G σ δ) {i : Nat} {o : Option V} : Slots K G (σ.set i o) (wipeS δ i) := by
  rw [wipeS_set]
  exact Paired.setp (fun x hx => by cases hx) i h
end
/-! ## readings -/
abbrev DTE := DS → Store → DK → Prop
abbrev DTT := DS → Store → (Bool → Store → Prop) → Prop
abbrev DTA := DS → Store → (List Dt → Store → Prop) → Prop
structure DEnds where
  nx : DS → Store → Prop
  rt : DK
  bk : DS → Store → Prop := fun _ _ => False
  ct : DS → Store → Prop := fun _ _ => False
abbrev DTS := DEnds → DS → Store → Prop
/-- an exception that leaves -/
def Lk (K : PySem.W.Frag) (E : XK) (e : DX) (Z G : Hp) : Prop := ∀ c H' S', Good K Z H' S' → Ext G (out H' S' Z) → e c S' → E (.ref c) none H'
theorem Lk.ext {K : PySem.W.Frag} {E : XK} {e : DX} {Z G G' : Hp} (h : Lk K E e Z G) (x : Ext G G') : Lk K E e Z G' := fun c H' S' g y q => h c H' S' g (x.trans y) q
/-- the state at which a reading stands -/
structure At (K : PySem.W.Frag) (E : XK) (e : DX) (Z H : Hp) (S : Store) (σ : L2.St) (δ : DS) : Prop where
  good : Good K Z H S
  sl : Slots K (out H S Z) σ δ
  lk : Lk K E e Z (out H S Z)
/-- behind it -/
def Ty (K : PySem.W.Frag) (Z H : Hp) (S : Store) (q : DK) (Q : VK) : Prop := ∀ v x H' S', Good K Z H' S' → Ext (out H S Z) (out H' S' Z) → Rep K (out H' S' Z) x v → q x S' → Q v H'
def tD (K : PySem.W.Frag) (E : XK) (e : DX) (d : DTE) : TE := fun σ H Q => ∃ δ S Z q, At K E e Z H S σ δ ∧ d δ S q ∧ Ty K Z H S q Q
def tDT (K : PySem.W.Frag) (E : XK) (e : DX) (d : DTT) : TT := fun σ H Q => ∃ δ S Z q, At K E e Z H S σ δ ∧ d δ S q ∧ ∀ b H' S', Good K Z H' S' → Ext (out H S Z) (out H' S' Z) → q b S' → Q b H'
def tDA (K : PySem.W.Frag) (E : XK) (e : DX) (d : DTA) : TA := fun σ H Q => ∃ δ S Z q, At K E e Z H S σ δ ∧ d δ S q ∧ ∀ vs ds H' S', Good K Z H' S' → Ext (out H S Z) (out H' S' Z) → Reps K (out H' S' Z) ds vs → q ds S' → Q vs H'
/-- the ends -/
structure EnL (K : PySem.W.Frag) (Z G : Hp) (D : Ends) (DD : DEnds) : Prop where
  nx : ∀ σ δ H S, Good K Z H S → Ext G (out H S Z) → Slots K (out H S Z) σ δ → DD.nx δ S → D.nx σ H
  rt : ∀ v x H S, Good K Z H S → Ext G (out H S Z) → Rep K (out H S Z) x v → DD.rt x S → D.rt v H
  bk : ∀ σ δ H S, Good K Z H S → Ext G (out H S Z) → Slots K (out H S Z) σ δ → DD.bk δ S → D.bk σ H
  ct : ∀ σ δ H S, Good K Z H S → Ext G (out H S Z) → Slots K (out H S Z) σ δ → DD.ct δ S → D.ct σ H
theorem EnL.ext {K : PySem.W.Frag} {Z G G' : Hp} {D : Ends} {DD : DEnds} (h : EnL K Z G D DD) (x : Ext G G') : EnL K Z G' D DD :=
  ⟨fun σ δ H S g y => h.nx σ δ H S g (x.trans y), fun v d H S g y => h.rt v d H S g (x.trans y), fun σ δ H S g y => h.bk σ δ H S g (x.trans y), fun σ δ H S g y => h.ct σ δ H S g (x.trans y)⟩
def tDS (K : PySem.W.Frag) (E : XK) (e : DX) (d : DTS) : TS := fun D σ H => ∃ δ S Z DD, At K E e Z H S σ δ ∧ d DD δ S ∧ EnL K Z (out H S Z) D DD
section
variable {K : PySem.W.Frag} {E : XK} {e : DX} {Z H H' : Hp} {S S' : Store} {σ : L2.St} {δ : DS} {q : DK} {Q : VK}
theorem At.to (a : At K E e Z H S σ δ) (g : Good K Z H' S') (x : Ext (out H S Z) (out H' S' Z)) : At K E e Z H' S' σ δ := ⟨g, a.sl.ext x, a.lk.ext x⟩
theorem Ty.ext (h : Ty K Z H S q Q) (x : Ext (out H S Z) (out H' S' Z)) : Ty K Z H' S' q Q := fun v d H2 S2 g y => h v d H2 S2 g (x.trans y)
end
section
variable {X : Cx} {ex : Expr} {t t' : TE}
theorem PE.imp (h : PE X ex t) (i : ∀ σ H Q, t' σ H Q → t σ H Q) : PE X ex t' := ⟨fun pins s σ H Q I q => h.run pins s σ H Q I (i _ _ _ q)⟩
theorem PT.imp {t t' : TT} (h : PT X ex t) (i : ∀ σ H Q, t' σ H Q → t σ H Q) : PT X ex t' := ⟨fun pins s σ H Q I q => h.run pins s σ H Q I (i _ _ _ q)⟩
theorem PW.imp {t t' : TT} (h : PW X ex t) (i : ∀ σ H Q, t' σ H Q → t σ H Q) : PW X ex t' := ⟨fun wh pins s σ H Q I q => h.run wh pins s σ H Q I (i _ _ _ q)⟩
theorem PA.imp {es : List Expr} {t t' : TA} (h : PA X es t) (i : ∀ σ H Q, t' σ H Q → t σ H Q) : PA X es t' := ⟨fun po pins s σ H Q I q => h.run po pins s σ H Q I (i _ _ _ q)⟩
theorem PS.imp {st : Stmt} {t t' : TS} (h : PS X st t) (i : ∀ D σ H, t' D σ H → t D σ H) : PS X st t' := ⟨fun pins s σ H D I q => h.run pins s σ H D I (i _ _ _ q)⟩
theorem PSs.imp {st : List Stmt} {t t' : TS} (h : PSs X st t) (i : ∀ D σ H, t' D σ H → t D σ H) : PSs X st t' := ⟨fun pins s σ H D I q => h.run pins s σ H D I (i _ _ _ q)⟩
end
end Dn

namespace Dn
open PySem PySem.Spec PyProof.Rows L2 Pr
/-! ## operations by values -/
abbrev D2 := Dt → Dt → Store → DK → Prop
def rD (K : PySem.W.Frag) (dr : D2) : R2 := fun x y H Q => ∃ dx dy S Z q, Good K Z H S ∧ Rep K (out H S Z) dx x ∧ Rep K (out H S Z) dy y ∧ dr dx dy S q ∧ Ty K Z H S q Q
@[reducible] def dOp (dr : D2) (a b : DTE) : DTE := fun δ S q => a δ S fun x S1 => b δ S1 fun y S2 => dr x y S2 q
@[reducible] def dVar (i : Nat) : DTE := fun δ S q => match look δ i with
  | some d => q d S
  | none => False
@[reducible] def dC (d : Dt) : DTE := fun _ S q => q d S
section
variable {K : PySem.W.Frag} {Z H : Hp} {S : Store} {q : DK} {Q : VK} {v x y : V} {d dx dy : Dt} {E : XK} {e : DX} {σ : L2.St} {δ : DS}
/-- the same heap, the same store -/
theorem Ty.here (k : Ty K Z H S q Q) (g : Good K Z H S) (h : q d S) (r : Rep K (out H S Z) d v) : Q v H := k v d H S g Ext.refl r h
/-- a new thing that stands still -/
theorem Ty.new (k : Ty K Z H S q Q) (g : Good K Z H S) {p : Addr} {o : HO} (np : H p = none) (h : q d S) (r : Rep K (out (upd H p o) S Z) d (.ref p)) : Q (.ref p) (upd H p o) := k _ d _ S (g.new np) (ext_new g np) r h
/-- a new cell -/
theorem Ty.own (k : Ty K Z H S q Q) (g : Good K Z H S) {p : Addr} {o : HO} {c : Cell} (np : H p = none) (h : q (.ref p) (sput S p c)) (r : CRep K (out H S Z) c o) : Q (.ref p) (upd H p o) :=
  k _ (.ref p) _ _ (g.own np r) (by rw [out_own g np]; exact Ext.refl) rfl h
theorem tD_op {dr : D2} {da db : DTE} (h : tD K E e (dOp dr da db) σ H Q) : tOp (rD K dr) (tD K E e da) (tD K E e db) σ H Q := by
  obtain ⟨δ, S, Z, q, t, h, k⟩ := h
  exact ⟨δ, S, Z, _, t, h, fun v x H1 S1 g1 x1 r1 h1 => ⟨δ, S1, Z, _, t.to g1 x1, h1, fun w y H2 S2 g2 x2 r2 h2 => ⟨x, y, S2, Z, q, g2, Rep.ext x2 _ _ r1, r2, h2, k.ext (x1.trans x2)⟩⟩⟩
end
section
variable {X : Cx} {K : PySem.W.Frag} {E : XK} {e : DX} {pos pos' apos : Pos} {a b c ex : Expr} {da db dc : DTE}
theorem de_op {op : Operator} {dr : D2} (ho : OpR X (binaryOp op) (rD K dr)) (ha : PE X a (tD K E e da)) (hb : PE X b (tD K E e db)) : PE X (.BinOp a op b pos) (tD K E e (dOp dr da db)) :=
  PE.imp (pe_op ho ha hb) fun _ _ _ h => tD_op h
theorem de_cmp {op : CmpOp} {dr : D2} (ho : OpR X (compareOp op) (rD K dr)) (ha : PE X a (tD K E e da)) (hb : PE X b (tD K E e db)) (hm : behindInMarks op b = false := by rfl) : PE X (.Compare a [op] [b] pos) (tD K E e (dOp dr da db)) :=
  PE.imp (pe_cmpR ho ha hb hm) fun _ _ _ h => tD_op h
theorem dv {i : Nat} {x : Str} (h : PE X (.Name x pos) (tVar i)) : PE X (.Name x pos) (tD K E e (dVar i)) := PE.imp h fun σ H Q h => by
  obtain ⟨δ, S, Z, q, t, h, k⟩ := h
  cases hl : look δ i with
  | none => simp only [dVar, hl] at h
  | some d =>
    simp only [dVar, hl] at h
    obtain ⟨v, h1, h2⟩ := t.sl.look hl
    exact ⟨v, h1, k.here t.good h h2⟩
theorem de_c {v : V} {d : Dt} (h : PE X ex (tC v)) (r : ∀ G, Rep K G d v) : PE X ex (tD K E e (dC d)) := PE.imp h fun σ H Q h => by
  obtain ⟨δ, S, Z, q, t, h, k⟩ := h
  exact k.here t.good h (r _)
theorem de_int {i j} : PE X (.Constant (.int i) j pos) (tD K E e (dC (.int i))) := de_c pe_int fun _ => rfl
theorem de_bl {b j} : PE X (.Constant (.bool b) j pos) (tD K E e (dC (.bl b))) := de_c pe_bl fun _ => rfl
theorem de_non {j} : PE X (.Constant .none j pos) (tD K E e (dC .non)) := de_c pe_non fun _ => rfl
theorem de_str {x j} (h : SOk x := by exact ⟨by decide +kernel, by decide +kernel⟩) : PE X (.Constant (.str x) j pos) (tD K E e (dC (.str x))) := de_c pe_str fun _ => ⟨rfl, h⟩
/-- a module's constant -/
theorem de_gcI {x : Str} {i : Int} (hg : Gl X x) (hm : ∃ u, X.mg x = some u ∧ RelV (.int i) u) (hd : (x == ("__debug__" : Str)) = false := by decide) : PE X (.Name x pos) (tD K E e (dC (.int i))) := de_c (pe_gcI hg hm hd) fun _ => rfl
theorem de_gcS {x z : Str} (hg : Gl X x) (hm : ∃ u, X.mg x = some u ∧ RelV (.str z) u) (h : SOk z := by exact ⟨by decide +kernel, by decide +kernel⟩) (hd : (x == ("__debug__" : Str)) = false := by decide) : PE X (.Name x pos) (tD K E e (dC (.str z))) := de_c (pe_gcI hg hm hd) fun _ => ⟨rfl, h⟩
theorem de_gcT {x : Str} {a : Addr} {d : Dt} (hg : Gl X x) (hm : X.mg x = some (.ref a)) (h : ∀ G, Rep K G d (.ref a)) (hd : (x == ("__debug__" : Str)) = false := by decide) : PE X (.Name x pos) (tD K E e (dC d)) := de_c (pe_glob (v := .ref a) hg hm rfl hd) h
end
/-! ## seeing what stands in a list, a dict, a row -/
@[reducible] def seeL (x : Dt) (S : Store) (k : List Dt → Prop) : Prop := match x with
  | .lst l => k l
  | .ref a => ∃ l, S a = some (.lst l) ∧ k l
  | _ => False
@[reducible] def seeQ (x : Dt) (S : Store) (k : List Dt → Prop) : Prop := match x with
  | .lst l => k l
  | .tup l => k l
  | .ref a => ∃ l, S a = some (.lst l) ∧ k l
  | _ => False
@[reducible] def seeD (x : Dt) (S : Store) (k : List (Key × Dt) → Prop) : Prop := match x with
  | .dic l => k l
  | .ref a => ∃ l, (S a = some (.dic l) ∨ ∃ o, S a = some (.lck o l)) ∧ k l
  | _ => False
section
variable {K : PySem.W.Frag} {Z H : Hp} {S : Store} {v : V} {d : Dt}
theorem see_lst (g : Good K Z H S) (r : Rep K (out H S Z) d v) {k : List Dt → Prop} (h : seeL d S k) : ∃ a vs l, v = .ref a ∧ H a = some (.lst vs) ∧ Reps K (out H S Z) l vs ∧ k l := by
  cases d with
  | lst l => obtain ⟨a, vs, h1, h2, h3⟩ := r; exact ⟨a, vs, l, h1, out_le h2, h3, h⟩
  | ref a =>
    obtain ⟨l, h1, h2⟩ := h
    obtain ⟨o, h3, vs, rfl, h4⟩ := g.c a _ h1
    exact ⟨a, vs, l, r, h3, h4, h2⟩
  | _ => exact h.elim
theorem SqT.out {a : Addr} {vs : List V} (h : SqT K (out H S Z) a vs) : SqT K H a vs := by
  rcases h with (h | ⟨o, h⟩) | h
  · exact .inl (.inl (out_le h))
  · exact .inl (.inr ⟨o, out_le h⟩)
  · exact .inr h
theorem Rd.out {a : Addr} {u : HO} (h : Rd (out H S Z) a u) : Rd H a u := by
  rcases h with h | ⟨o, h⟩
  · exact .inl (out_le h)
  · exact .inr ⟨o, out_le h⟩
theorem see_seq (g : Good K Z H S) (r : Rep K (out H S Z) d v) {k : List Dt → Prop} (h : seeQ d S k) : ∃ a vs l, v = .ref a ∧ (SqL K H a vs ∨ SqT K H a vs) ∧ Reps K (out H S Z) l vs ∧ k l := by
  cases d with
  | lst l => obtain ⟨a, vs, h1, h2, h3⟩ := r; exact ⟨a, vs, l, h1, .inl (SqL.of (out_le h2)), h3, h⟩
  | tup l => obtain ⟨a, vs, h1, h2, h3⟩ := r; exact ⟨a, vs, l, h1, .inr (SqT.out h2), h3, h⟩
  | ref a =>
    obtain ⟨l, h1, h2⟩ := h
    obtain ⟨o, h3, vs, rfl, h4⟩ := g.c a _ h1
    exact ⟨a, vs, l, r, .inl (SqL.of h3), h4, h2⟩
  | _ => exact h.elim
theorem see_dic (g : Good K Z H S) (r : Rep K (out H S Z) d v) {k : List (Key × Dt) → Prop} (h : seeD d S k) : ∃ a vs l, v = .ref a ∧ Rd H a (.dK vs) ∧ Repk K (out H S Z) l vs ∧ k l := by
  cases d with
  | dic l => obtain ⟨a, vs, h1, h2, h3⟩ := r; exact ⟨a, vs, l, h1, Rd.out h2, h3, h⟩
  | ref a =>
    obtain ⟨l, h1, h2⟩ := h
    rcases h1 with h1 | ⟨o', h1⟩
    · obtain ⟨o, h3, vs, rfl, h4⟩ := g.c a _ h1
      exact ⟨a, vs, l, r, .inl h3, h4, h2⟩
    · obtain ⟨o, h3, rfl, ob, vs, rfl, h4⟩ := g.c a _ h1
      exact ⟨a, vs, l, r, .inr ⟨ob, h3⟩, h4, h2⟩
  | _ => exact h.elim
end
/-! ## texts -/
theorem SOk.empty : SOk "" := ⟨by decide +kernel, by decide +kernel⟩
theorem sok_all {z : Str} : PySem.PyData.strOk z = true ↔ ∀ c ∈ z.cps.toList, c < 0x110000 := by
  show (z.cps.all fun c => decide (c < 0x110000)) = true ↔ _
  rw [Array.all_eq_true_iff_forall_mem]
  constructor
  · intro h c hc; exact of_decide_eq_true (h c (Array.mem_toList_iff.mp hc))
  · intro h c hc; exact decide_eq_true (h c (Array.mem_toList_iff.mpr hc))
theorem app_cps (a b : Str) : (a ++ b).cps.toList = a.cps.toList ++ b.cps.toList := by
  show (a.cps ++ b.cps).toList = _
  rw [Array.toList_append]
theorem len_cps (a : Str) : a.length = a.cps.toList.length := by show a.cps.size = _; rw [Array.length_toList]
theorem app_len (a b : Str) : (a ++ b).length = a.length + b.length := by rw [len_cps, app_cps, List.length_append, ← len_cps, ← len_cps]
theorem SOk.app {a b : Str} (ha : SOk a) (hb : SOk b) (h : a.length + b.length ≤ sizeLine) : SOk (a ++ b) := ⟨by rw [app_len]; exact h, by
  rw [sok_all, app_cps]
  intro c hc
  rcases List.mem_append.mp hc with m | m
  · exact sok_all.mp ha.ok c m
  · exact sok_all.mp hb.ok c m⟩
theorem SOk.sub {a b : Str} (ha : SOk a) (h : ∀ c ∈ b.cps.toList, c ∈ a.cps.toList) (hl : b.length ≤ a.length) : SOk b := ⟨Nat.le_trans hl ha.len, sok_all.mpr fun c hc => sok_all.mp ha.ok c (h c hc)⟩
theorem SOk.sign {a : Str} (ha : SOk a) {c : Nat} (h : c ∈ a.cps.toList) : SOk ⟨#[c]⟩ := ⟨Nat.le_of_ble_eq_true rfl, sok_all.mpr fun d hd => by
  simp at hd
  rw [hd]
  exact sok_all.mp ha.ok c h⟩
/-! ## data -/
def strLt (a b : Str) : Bool := decide (a.cps.toList < b.cps.toList)
mutual
def py : Dt → PyData
  | .non => .none
  | .bl b => .bool b
  | .int i => .int i
  | .str z => .str z
  | .ref _ => .none
  | .ty _ => .none
  | .tup l => .tuple (pys l)
  | .lst l => .list (pys l)
  | .dic _ => .none
  | .obj _ _ _ => .none
  | .scr _ => .none
  | .lam _ _ => .none
  | .gco _ _ => .none
def pys : List Dt → List PyData
  | [] => []
  | d :: l => py d :: pys l
end
mutual
def isDat : Dt → Bool
  | .non | .bl _ | .int _ | .str _ => true
  | .ref _ | .ty _ | .dic _ | .obj _ _ _ | .scr _ | .lam _ _ | .gco _ _ => false
  | .tup l => areDat l
  | .lst l => areDat l
def areDat : List Dt → Bool
  | [] => true
  | d :: l => isDat d && areDat l
end
def deqv (x y : Dt) : Bool := PyData.eqv (py x) (py y)
theorem pys_map : ∀ l : List Dt, pys l = l.map py
  | [] => rfl
  | d :: l => by show py d :: pys l = _; rw [pys_map l]; rfl
theorem areDat_all : ∀ l : List Dt, areDat l = l.all isDat
  | [] => rfl
  | d :: l => by show (isDat d && areDat l) = _; rw [areDat_all l]; rfl
section
variable {K : PySem.W.Frag} {Z H : Hp} {S : Store}
mutual
theorem Rep.dp : ∀ (d : Dt) (v : V), isDat d = true → Rep K (out H S Z) d v → Dp K H v (py d)
  | .non, v, _, h => by rw [show v = .non from h]; exact .non
  | .bl b, v, _, h => by rw [show v = .bl b from h]; exact .bl b
  | .int i, v, _, h => by rw [show v = .int i from h]; exact .int i
  | .str z, v, _, h => by rw [h.1]; exact .str z
  | .ref _, _, x, _ | .ty _, _, x, _ | .dic _, _, x, _ | .obj _ _ _, _, x, _ | .scr _, _, x, _ | .lam _ _, _, x, _ | .gco _ _, _, x, _ => by simp [isDat] at x
  | .tup l, v, x, ⟨a, vs, e, h2, h3⟩ => by rw [e]; exact .tup (SqT.out h2) (Reps.dp l vs x h3)
  | .lst l, v, x, ⟨a, vs, e, h2, h3⟩ => by rw [e]; exact .lst (SqL.of (out_le h2)) (Reps.dp l vs x h3)
theorem Reps.dp : ∀ (l : List Dt) (vs : List V), areDat l = true → Reps K (out H S Z) l vs → DpAll K H vs (pys l)
  | [], vs, _, h => by rw [show vs = [] from h]; exact .nil
  | d :: l, vs, x, ⟨v, r, e, h1, h2⟩ => by
    have x : (isDat d && areDat l) = true := x
    rw [Bool.and_eq_true] at x
    rw [e]
    exact .cons (Rep.dp d v x.1 h1) (Reps.dp l r x.2 h2)
end
mutual
theorem Rep.lay {G : Hp} : ∀ (d : Dt) (v : V), Rep K G d v → (py d).canLay0 = true
  | .non, _, _ | .bl _, _, _ | .int _, _, _ | .ref _, _, _ | .ty _, _, _ | .dic _, _, _ | .obj _ _ _, _, _ | .scr _, _, _ | .lam _ _, _, _ | .gco _ _, _, _ => rfl
  | .str z, _, h => h.2.ok
  | .tup l, v, ⟨a, vs, e, h2, h3⟩ => Reps.lay l vs h3
  | .lst l, v, ⟨a, vs, e, h2, h3⟩ => Reps.lay l vs h3
theorem Reps.lay {G : Hp} : ∀ (l : List Dt) (vs : List V), Reps K G l vs → PyData.canLayAll0 (pys l) = true
  | [], _, _ => rfl
  | d :: l, vs, ⟨v, r, e, h1, h2⟩ => by
    show (PyData.canLay0 (py d) && PyData.canLayAll0 (pys l)) = true
    rw [Rep.lay d v h1, Reps.lay l r h2]
    rfl
end
theorem Rep.shaped {G : Hp} {d : Dt} {v : V} (h : Rep K G d v) (hd : (py d).depth ≤ 64) : SeqAt.shaped (py d) = true := by
  show ((py d).canLay0 && decide ((py d).depth ≤ 64)) = true
  rw [Rep.lay d v h, decide_eq_true hd]
  rfl
end
/-! ## the operations -/
@[reducible] def rAdd : D2 := fun x y S q => match x, y with
  | .int i, .int j => q (.int (i + j)) S
  | .str a, .str b => a.length + b.length ≤ sizeLine ∧ q (.str (a ++ b)) S
  | .tup a, .tup b => a.length + b.length ≤ sizeLine ∧ q (.tup (a ++ b)) S
  | x, y => seeL x S fun a => seeL y S fun b => a.length + b.length ≤ sizeLine ∧ q (.lst (a ++ b)) S
@[reducible] def rSub : D2 := fun x y S q => match x, y with
  | .int i, .int j => q (.int (i - j)) S
  | _, _ => False
/-- a text many times -/
def repS (z : Str) (n : Nat) : Str := ⟨((List.replicate n z.cps.toList).flatten).toArray⟩
@[reducible] def rMul : D2 := fun x y S q => match x, y with
  | .int i, .int j => CMul i j ∧ q (.int (i * j)) S
  | .str z, .int n => (0 ≤ n ∧ n < 2 ^ 24 ∧ z.length * n.toNat ≤ sizeLine) ∧ q (.str (repS z n.toNat)) S
  | x, .int n => seeL x S fun l => (-(2 ^ 63) ≤ n ∧ n < 2 ^ 63 ∧ l.length * n.toNat ≤ sizeLine) ∧ q (.lst (List.replicate n.toNat l).flatten) S
  | _, _ => False
@[reducible] def rFdiv : D2 := fun x y S q => match x, y with
  | .int i, .int j => (0 < j ∧ j < 1073741824) ∧ q (.int (i / j)) S
  | _, _ => False
@[reducible] def rMod : D2 := fun x y S q => match x, y with
  | .int i, .int j => 0 < j ∧ q (.int (i % j)) S
  | _, _ => False
@[reducible] def rPow : D2 := fun x y S q => match x, y with
  | .int i, .int j => (0 ≤ j ∧ j ≤ 1000000 ∧ i.natAbs < 2 ^ 64) ∧ q (.int (i ^ j.toNat)) S
  | _, _ => False
@[reducible] def rLt : D2 := fun x y S q => match x, y with
  | .int i, .int j => q (.bl (decide (i < j))) S
  | .str a, .str b => q (.bl (strLt a b)) S
  | _, _ => False
@[reducible] def rLe : D2 := fun x y S q => match x, y with
  | .int i, .int j => q (.bl (decide (i ≤ j))) S
  | .str a, .str b => q (.bl (!strLt b a)) S
  | _, _ => False
@[reducible] def rGt : D2 := fun x y S q => match x, y with
  | .int i, .int j => q (.bl (decide (j < i))) S
  | .str a, .str b => q (.bl (strLt b a)) S
  | _, _ => False
@[reducible] def rGe : D2 := fun x y S q => match x, y with
  | .int i, .int j => q (.bl (decide (j ≤ i))) S
  | .str a, .str b => q (.bl (!strLt a b)) S
  | _, _ => False
@[reducible] def isNon : Dt → Bool
  | .non => true
  | _ => false
@[reducible] def notNon : Dt → Bool
  | .non => false
  | _ => true
theorem notNon_eq (x : Dt) : notNon x = !isNon x := by cases x <;> rfl
@[reducible] def rIs : D2 := fun x y S q => match x, y with
  | x, .non => q (.bl (isNon x)) S
  | .bl a, .bl b => q (.bl (decide (a = b))) S
  | _, _ => False
@[reducible] def rIsNot : D2 := fun x y S q => match x, y with
  | x, .non => q (.bl (notNon x)) S
  | .bl a, .bl b => q (.bl (!decide (a = b))) S
  | _, _ => False
/-- equal data -/
def dEq : D2 := fun x y S q => (isDat x = true ∧ isDat y = true ∧ (py x).depth ≤ 64 ∧ (py y).depth ≤ 64) ∧ q (.bl (deqv x y)) S
def dNe : D2 := fun x y S q => (isDat x = true ∧ isDat y = true ∧ (py x).depth ≤ 64 ∧ (py y).depth ≤ 64) ∧ q (.bl (!deqv x y)) S
/-- among the items of a list -/
def memD (x : Dt) (l : List Dt) : Bool := l.any fun z => deqv z x
def hasS (z y : Str) : Bool := !(Builtin.Str.occurrences z y 0 z.length 1).isEmpty
def dIn (neg : Bool) : D2 := fun x y S q => match y with
  | .str z => ∃ t, x = .str t ∧ q (.bl (if neg then !hasS z t else hasS z t)) S
  | .tup l => (isDat x = true ∧ (py x).depth = 0 ∧ l.all (fun z => isDat z && decide ((py z).depth = 0)) = true) ∧ q (.bl (if neg then !memD x l else memD x l)) S
  | y => seeL y S fun l => (isDat x = true ∧ areDat l = true ∧ (py x).depth ≤ 64 ∧ (py (.lst l)).depth ≤ 64) ∧ q (.bl (if neg then !memD x l else memD x l)) S
section
variable {X : Cx} {K : PySem.W.Frag}
theorem od_add (hK : X.K = K) : OpR X (binaryOp .Add) (rD K rAdd) := fun pins s σ H x y v u Q I rv ru ⟨dx, dy, S, Z, q, g, rx, ry, h, k⟩ => by
  have lists : (seeL dx S fun a => seeL dy S fun b => a.length + b.length ≤ sizeLine ∧ q (.lst (a ++ b)) S) → wpAny (model X.prog X.w) X.A (binaryOp .Add v u) (EP X pins σ Q) X.xe s := fun h => by
    obtain ⟨a, xs, l, rfl, ha, ra, h⟩ := see_lst g rx h
    obtain ⟨b, ys, m, rfl, hb, rb, hl, h⟩ := see_lst g ry h
    exact op_cat pins s σ H _ _ v u Q I rv ru ⟨a, b, xs, ys, rfl, rfl, ha, hb, by rw [← ra.len, ← rb.len]; exact hl, fun p np => k.new g np h ⟨p, _, rfl, out_new g np, Reps.pair.mpr (Paired.app (Reps.pair.mp (Reps.ext (ext_new g np) _ _ ra)) (Reps.pair.mp (Reps.ext (ext_new g np) _ _ rb)))⟩⟩
  cases dx with
  | int i =>
    cases dy with
    | int j => exact op_add pins s σ H x y v u Q I rv ru ⟨i, j, rx, ry, k.here g h rfl⟩
    | _ => exact lists h
  | str a =>
    cases dy with
    | str b => exact op_add_str pins s σ H x y v u Q I rv ru ⟨a, b, rx.1, ry.1, h.1, k.here g h.2 ⟨rfl, rx.2.app ry.2 h.1⟩⟩
    | _ => exact lists h
  | tup l =>
    cases dy with
    | tup m =>
      obtain ⟨a, xs, rfl, ha, ra⟩ := rx
      obtain ⟨b, ys, rfl, hb, rb⟩ := ry
      subst hK
      refine op_catA pins s σ H _ _ v u Q I rv ru ⟨a, b, xs, ys, rfl, rfl, SqT.out ha, SqT.out hb, by rw [← ra.len, ← rb.len]; exact h.1, fun ex => ?_, fun nx ey => ?_, fun nx ny p np => ?_⟩
      · have : l = [] := by subst ex; exact List.eq_nil_of_length_eq_zero ra.len
        subst this
        exact k.here g h.2 ⟨b, ys, rfl, hb, by simpa using rb⟩
      · have : m = [] := by subst ey; exact List.eq_nil_of_length_eq_zero rb.len
        subst this
        exact k.here g h.2 ⟨a, xs, rfl, ha, by simpa using ra⟩
      · exact k.new g np h.2 ⟨p, _, rfl, SqT.of (out_new g np), Reps.pair.mpr (Paired.app (Reps.pair.mp (Reps.ext (ext_new g np) _ _ ra)) (Reps.pair.mp (Reps.ext (ext_new g np) _ _ rb)))⟩
    | _ => exact lists h
  | _ => exact lists h
theorem od_sub : OpR X (binaryOp .Sub) (rD K rSub) := fun pins s σ H x y v u Q I rv ru ⟨dx, dy, S, Z, q, g, rx, ry, h, k⟩ => by
  cases dx with
  | int i =>
    cases dy with
    | int j => exact op_sub pins s σ H x y v u Q I rv ru ⟨i, j, rx, ry, k.here g h rfl⟩
    | _ => exact h.elim
  | _ => exact h.elim
theorem od_fdiv : OpR X (binaryOp .FloorDiv) (rD K rFdiv) := fun pins s σ H x y v u Q I rv ru ⟨dx, dy, S, Z, q, g, rx, ry, h, k⟩ => by
  cases dx with
  | int i =>
    cases dy with
    | int j => exact op_fdiv pins s σ H x y v u Q I rv ru ⟨i, j, rx, ry, h.1, k.here g h.2 rfl⟩
    | _ => exact h.elim
  | _ => exact h.elim
theorem od_mod : OpR X (binaryOp .Mod) (rD K rMod) := fun pins s σ H x y v u Q I rv ru ⟨dx, dy, S, Z, q, g, rx, ry, h, k⟩ => by
  cases dx with
  | int i =>
    cases dy with
    | int j => exact op_mod pins s σ H x y v u Q I rv ru ⟨i, j, rx, ry, h.1, k.here g h.2 rfl⟩
    | _ => exact h.elim
  | _ => exact h.elim
theorem od_pow : OpR X (binaryOp .Pow) (rD K rPow) := fun pins s σ H x y v u Q I rv ru ⟨dx, dy, S, Z, q, g, rx, ry, h, k⟩ => by
  cases dx with
  | int i =>
    cases dy with
    | int j => exact op_pow pins s σ H x y v u Q I rv ru ⟨i, j, rx, ry, h.1, k.here g h.2 rfl⟩
    | _ => exact h.elim
  | _ => exact h.elim
theorem od_lt : OpR X (compareOp .Lt) (rD K rLt) := fun pins s σ H x y v u Q I rv ru ⟨dx, dy, S, Z, q, g, rx, ry, h, k⟩ => by
  cases dx with
  | int i =>
    cases dy with
    | int j => exact op_lt pins s σ H x y v u Q I rv ru ⟨i, j, rx, ry, k.here g h rfl⟩
    | _ => exact h.elim
  | str a =>
    cases dy with
    | str b => exact op_lt_str pins s σ H x y v u Q I rv ru ⟨a, b, rx.1, ry.1, k.here g h rfl⟩
    | _ => exact h.elim
  | _ => exact h.elim
theorem od_le : OpR X (compareOp .LtE) (rD K rLe) := fun pins s σ H x y v u Q I rv ru ⟨dx, dy, S, Z, q, g, rx, ry, h, k⟩ => by
  cases dx with
  | int i =>
    cases dy with
    | int j => exact op_le pins s σ H x y v u Q I rv ru ⟨i, j, rx, ry, k.here g h rfl⟩
    | _ => exact h.elim
  | str a =>
    cases dy with
    | str b => exact op_le_str pins s σ H x y v u Q I rv ru ⟨a, b, rx.1, ry.1, k.here g h rfl⟩
    | _ => exact h.elim
  | _ => exact h.elim
theorem od_gt : OpR X (compareOp .Gt) (rD K rGt) := fun pins s σ H x y v u Q I rv ru ⟨dx, dy, S, Z, q, g, rx, ry, h, k⟩ => by
  cases dx with
  | int i =>
    cases dy with
    | int j => exact op_gt pins s σ H x y v u Q I rv ru ⟨i, j, rx, ry, k.here g h rfl⟩
    | _ => exact h.elim
  | str a =>
    cases dy with
    | str b => exact op_gt_str pins s σ H x y v u Q I rv ru ⟨a, b, rx.1, ry.1, k.here g h rfl⟩
    | _ => exact h.elim
  | _ => exact h.elim
theorem od_ge : OpR X (compareOp .GtE) (rD K rGe) := fun pins s σ H x y v u Q I rv ru ⟨dx, dy, S, Z, q, g, rx, ry, h, k⟩ => by
  cases dx with
  | int i =>
    cases dy with
    | int j => exact op_ge pins s σ H x y v u Q I rv ru ⟨i, j, rx, ry, k.here g h rfl⟩
    | _ => exact h.elim
  | str a =>
    cases dy with
    | str b => exact op_ge_str pins s σ H x y v u Q I rv ru ⟨a, b, rx.1, ry.1, k.here g h rfl⟩
    | _ => exact h.elim
  | _ => exact h.elim
theorem isNon_rep {G : Hp} {d : Dt} {v : V} (r : Rep K G d v) : decide (v = .non) = isNon d := by
  cases d with
  | non => rw [show v = .non from r]; rfl
  | str z => rw [r.1]; rfl
  | tup l => obtain ⟨a, vs, rfl, _⟩ := r; rfl
  | lst l => obtain ⟨a, vs, rfl, _⟩ := r; rfl
  | dic l => obtain ⟨a, vs, rfl, _⟩ := r; rfl
  | obj C nm l => obtain ⟨a, dx, vs, rfl, _⟩ := r; rfl
  | scr ns => obtain ⟨a, rfl, _⟩ := r; rfl
  | lam F b => obtain ⟨a, rfl, _⟩ := r; rfl
  | gco c P => obtain ⟨rfl, _⟩ := r; rfl
  | bl b => rw [show v = _ from r]; rfl
  | int i => rw [show v = _ from r]; rfl
  | ref a => rw [show v = _ from r]; rfl
  | ty a => rw [show v = _ from r]; rfl
theorem od_is : OpR X (compareOp .Is) (rD K rIs) := fun pins s σ H x y v u Q I rv ru ⟨dx, dy, S, Z, q, g, rx, ry, h, k⟩ => by
  cases dy with
  | non =>
    have h : q (.bl (isNon dx)) S := by cases dx <;> exact h
    exact op_isN pins s σ H x y v u Q I rv ru ⟨ry, by rw [isNon_rep rx]; exact k.here g h rfl⟩
  | bl b =>
    cases dx with
    | bl a => exact op_isBl pins s σ H x y v u Q I rv ru ⟨a, b, rx, ry, k.here g h rfl⟩
    | _ => exact h.elim
  | _ => cases dx <;> exact h.elim
theorem od_isNot : OpR X (compareOp .IsNot) (rD K rIsNot) := fun pins s σ H x y v u Q I rv ru ⟨dx, dy, S, Z, q, g, rx, ry, h, k⟩ => by
  cases dy with
  | non =>
    have h : q (.bl (!isNon dx)) S := by cases dx <;> exact h
    exact op_notN pins s σ H x y v u Q I rv ru ⟨ry, by rw [isNon_rep rx]; exact k.here g h rfl⟩
  | bl b =>
    cases dx with
    | bl a => exact op_notBl pins s σ H x y v u Q I rv ru ⟨a, b, rx, ry, k.here g h rfl⟩
    | _ => exact h.elim
  | _ => cases dx <;> exact h.elim
theorem od_eq (hK : X.K = K) (hu : X.A.units + 64 < cLine) : OpR X (compareOp .Eq) (rD K dEq) := fun pins s σ H x y v u Q I rv ru ⟨dx, dy, S, Z, q, g, rx, ry, ⟨⟨h1, h2, h3, h4⟩, h⟩, k⟩ => by
  subst hK
  exact op_eqD hu pins s σ H x y v u Q I rv ru ⟨py dx, py dy, Rep.dp _ _ h1 rx, Rep.dp _ _ h2 ry, Rep.shaped rx h3, Rep.shaped ry h4, k.here g h rfl⟩
theorem od_ne (hK : X.K = K) (hu : X.A.units + 64 < cLine) : OpR X (compareOp .NotEq) (rD K dNe) := fun pins s σ H x y v u Q I rv ru ⟨dx, dy, S, Z, q, g, rx, ry, ⟨⟨h1, h2, h3, h4⟩, h⟩, k⟩ => by
  subst hK
  exact op_neD hu pins s σ H x y v u Q I rv ru ⟨py dx, py dy, Rep.dp _ _ h1 rx, Rep.dp _ _ h2 ry, Rep.shaped rx h3, Rep.shaped ry h4, k.here g h rfl⟩
end
end Dn

namespace Dn
open PySem PySem.Spec PyProof.Rows L2 Pr
@[reducible] def Ift (b : Bool) (A B : Prop) : Prop := match b with
  | true => A
  | false => B
theorem Ift.ite {b : Bool} {A B : Prop} (h : Ift b A B) : if b = true then A else B := by cases b <;> simpa using h
theorem ift {p A B : Prop} [Decidable p] (h1 : p → A) (h2 : ¬ p → B) : Ift (decide p) A B := by
  by_cases h : p
  · rw [decide_eq_true h]; exact h1 h
  · rw [decide_eq_false h]; exact h2 h
theorem iftN {p A B : Prop} [Decidable p] (h1 : ¬ p → A) (h2 : p → B) : Ift (!decide p) A B := by
  by_cases h : p
  · rw [decide_eq_true h]; exact h2 h
  · rw [decide_eq_false h]; exact h1 h
theorem ift_b {b : Bool} {A B : Prop} (h1 : b = true → A) (h2 : b = false → B) : Ift b A B := by
  cases b
  · exact h2 rfl
  · exact h1 rfl
theorem iftNb {b : Bool} {A B : Prop} (h1 : b = false → A) (h2 : b = true → B) : Ift (!b) A B := by
  cases b
  · exact h1 rfl
  · exact h2 rfl
theorem ift_t {b : Bool} {A B : Prop} (h : b = true) (h1 : A) : Ift b A B := by rw [h]; exact h1
theorem ift_f {b : Bool} {A B : Prop} (h : b = false) (h1 : B) : Ift b A B := by rw [h]; exact h1
theorem ift_pt {p A B : Prop} [Decidable p] (h : p) (h1 : A) : Ift (decide p) A B := by rw [decide_eq_true h]; exact h1
theorem ift_pf {p A B : Prop} [Decidable p] (h : ¬ p) (h1 : B) : Ift (decide p) A B := by rw [decide_eq_false h]; exact h1
theorem iftN_t {p A B : Prop} [Decidable p] (h : ¬ p) (h1 : A) : Ift (!decide p) A B := by rw [decide_eq_false h]; exact h1
theorem iftN_f {p A B : Prop} [Decidable p] (h : p) (h1 : B) : Ift (!decide p) A B := by rw [decide_eq_true h]; exact h1
/-! ## truth -/
@[reducible] def dTruV (x : Dt) (S : Store) (k : Bool → Prop) : Prop := match x with
  | .non => k false
  | .bl b => k b
  | .int i => k (!decide (i = 0))
  | .str z => k (!decide (z = ""))
  | .tup l => k (!l.isEmpty)
  | .lst l => k (!l.isEmpty)
  | .dic l => False
  | .ref a => ∃ c, S a = some c ∧ (match c with
    | .lst l => k (!l.isEmpty)
    | .dic l => k (!l.isEmpty)
    | _ => False)
  | .ty _ => False
  | .obj _ _ _ => False
  | .scr _ => False
  | .lam _ _ => False
  | .gco _ _ => False
theorem str_zero {z : Str} : ((z.length : Int) != 0) = !decide (z = "") := by
  have e : (("" : Str) : Str) = ⟨#[]⟩ := by decide +kernel
  rw [e]
  obtain ⟨c⟩ := z
  by_cases h : c = #[]
  · subst h; rfl
  · have h1 : ¬ ((⟨c⟩ : Str) = ⟨#[]⟩) := fun q => h (by injection q)
    rw [decide_eq_false h1]
    show ((c.size : Int) != 0) = true
    rw [bne_iff_ne]
    intro q
    apply h
    have : c.size = 0 := by omega
    exact Array.eq_empty_of_size_eq_zero this
theorem isEmpty_len {α β : Type} {l : List α} {m : List β} (h : l.length = m.length) : m.isEmpty = l.isEmpty := by
  cases l <;> cases m <;> first | rfl | simp at h
theorem Repk.len {K : PySem.W.Frag} {G : Hp} {l : List (Key × Dt)} {vs : List (Key × V)} (h : Repk K G l vs) : l.length = vs.length := Paired.length (Repk.pair.mp h)
section
variable {K : PySem.W.Frag} {Z H : Hp} {S : Store} {v : V} {d : Dt}
theorem tru_of (g : Good K Z H S) (r : Rep K (out H S Z) d v) {k : Bool → Prop} (h : dTruV d S k) : ∃ b, k b ∧ TruV K v H b := by
  cases d with
  | non => rw [show v = _ from r]; exact ⟨_, h, rfl⟩
  | bl b => rw [show v = _ from r]; exact ⟨_, h, rfl⟩
  | int i => rw [show v = _ from r]; exact ⟨_, h, by
      show _ = (i != 0)
      by_cases z : i = 0 <;> simp [z]⟩
  | str z => rw [r.1]; exact ⟨_, h, r.2.len, str_zero.symm⟩
  | tup l =>
    obtain ⟨a, vs, rfl, h1, h2⟩ := r
    exact ⟨_, h, .inr (.inl ⟨vs, SqT.out h1, by rw [isEmpty_len h2.len]⟩)⟩
  | lst l =>
    obtain ⟨a, vs, rfl, h1, h2⟩ := r
    exact ⟨_, h, .inl ⟨vs, SqL.of (out_le h1), by rw [isEmpty_len h2.len]⟩⟩
  | dic l => exact h.elim
  | ref a =>
    obtain ⟨c, h1, h2⟩ := h
    rw [show v = _ from r]
    obtain ⟨o, h3, h4⟩ := g.c a _ h1
    cases c with
    | lst l => obtain ⟨vs, rfl, h5⟩ := h4; exact ⟨_, h2, .inl ⟨vs, SqL.of h3, by rw [isEmpty_len h5.len]⟩⟩
    | dic l => obtain ⟨vs, rfl, h5⟩ := h4; exact ⟨_, h2, .inr (.inr ⟨vs, h3, by rw [isEmpty_len h5.len]⟩)⟩
    | _ => exact h2.elim
  | ty _ => exact h.elim
  | obj _ _ _ => exact h.elim
  | scr _ => exact h.elim
  | lam _ _ => exact h.elim
  | gco _ _ => exact h.elim
end
@[reducible] def dTru (a : DTE) : DTT := fun δ S q => a δ S fun x S1 => dTruV x S1 fun b => q b S1
@[reducible] def dNotT (a : DTE) : DTE := fun δ S q => a δ S fun x S1 => dTruV x S1 fun b => q (.bl (!b)) S1
@[reducible] def dAnd (a b : DTE) : DTE := fun δ S q => a δ S fun x S1 => dTruV x S1 fun k => Ift k (b δ S1 q) (q x S1)
@[reducible] def dOr (a b : DTE) : DTE := fun δ S q => a δ S fun x S1 => dTruV x S1 fun k => Ift k (q x S1) (b δ S1 q)
@[reducible] def dTAnd (t u : DTT) : DTT := fun δ S q => t δ S fun c S1 => Ift c (u δ S1 q) (q false S1)
@[reducible] def dTOr (t u : DTT) : DTT := fun δ S q => t δ S fun c S1 => Ift c (q true S1) (u δ S1 q)
@[reducible] def dTNot (t : DTT) : DTT := fun δ S q => t δ S fun c S1 => q (!c) S1
@[reducible] def dIfE (t : DTT) (a b : DTE) : DTE := fun δ S q => t δ S fun c S1 => Ift c (a δ S1 q) (b δ S1 q)
@[reducible] def dChain (r r' : D2) (a b c : DTE) : DTE := fun δ S q => a δ S fun x S1 => b δ S1 fun y S2 => r x y S2 fun z S3 => ∃ k, z = .bl k ∧ Ift k (c δ S3 fun w S4 => r' y w S4 q) (q (.bl false) S3)
@[reducible] def dNeg (a : DTE) : DTE := fun δ S q => a δ S fun x S1 => match x with
  | .int i => q (.int (-i)) S1
  | _ => False
/-- few things -/
@[reducible] def Lim : List Dt → Nat → Prop → Prop
  | [], _, A => A
  | _ :: l, n + 1, A => Lim l n A
  | _ :: _, 0, _ => False
theorem Lim.le : ∀ {l : List Dt} {n : Nat} {A : Prop}, Lim l n A → l.length ≤ n ∧ A
  | [], _, _, h => ⟨Nat.zero_le _, h⟩
  | _ :: l, n + 1, A, h => by
    obtain ⟨h1, h2⟩ := Lim.le (l := l) (n := n) h
    exact ⟨Nat.succ_le_succ h1, h2⟩
  | _ :: _, 0, _, h => h.elim
@[reducible] def dTup (t : DTA) : DTE := fun δ S q => t δ S fun xs S1 => Lim xs 1000 (q (.tup xs) S1)
@[reducible] def dLst (t : DTA) : DTE := fun δ S q => t δ S fun xs S1 => Lim xs 1000 (q (.lst xs) S1)
/-- a list that will change -/
@[reducible] def dLstO (t : DTA) : DTE := fun δ S q => t δ S fun xs S1 => Lim xs 1000 (∀ p, S1 p = none → q (.ref p) (sput S1 p (.lst xs)))
@[reducible] def dNil : DTA := fun _ S q => q [] S
@[reducible] def dCons (a : DTE) (t : DTA) : DTA := fun δ S q => a δ S fun x S1 => t δ S1 fun xs S2 => q (x :: xs) S2
section
variable {X : Cx} {K : PySem.W.Frag} {E : XK} {e : DX} {pos pos' apos : Pos} {a b c ex : Expr} {es rest : List Expr} {da db dc : DTE} {ta tb : DTT} {ts : DTA}
theorem tD_seq {d : DTE} {f : Dt → Store → DK → Prop} {σ : L2.St} {H : Hp} {Q : VK} {R : V → Hp → Prop} (h : tD K E e (fun δ S q => d δ S fun x S1 => f x S1 q) σ H Q)
    (k : ∀ v x δ S Z H1 q, At K E e Z H1 S σ δ → Rep K (out H1 S Z) x v → f x S q → Ty K Z H1 S q Q → R v H1) : tD K E e d σ H R := by
  obtain ⟨δ, S, Z, q, t, h, k'⟩ := h
  exact ⟨δ, S, Z, _, t, h, fun v x H1 S1 g1 x1 r1 h1 => k v x δ S1 Z H1 q (t.to g1 x1) r1 h1 (k'.ext x1)⟩
theorem de_tru (hK : X.K = K) (ha : PE X a (tD K E e da)) (he : ∀ whole, isTrue a X.env whole = (do let v ← whole; standAt a.pos; holding [v] (truthy v)) := by intro _; rfl) : PT X a (tDT K E e (dTru da)) := PT.imp (pt_truthK hK ha he) fun σ H Q h => by
  obtain ⟨δ, S, Z, q, t, h, k⟩ := h
  refine ⟨δ, S, Z, _, t, h, fun v x H1 S1 g1 x1 r1 h1 => ?_⟩
  obtain ⟨b, h2, h3⟩ := tru_of g1 r1 h1
  exact ⟨b, h3, k b H1 S1 g1 x1 h2⟩
theorem de_not (hK : X.K = K) (ha : PE X a (tD K E e da)) : PE X (.UnaryOp .Not a pos) (tD K E e (dNotT da)) := by
  subst hK
  refine PE.imp (pe_notT ha) fun σ H Q h => ?_
  refine tD_seq (f := fun x S q => dTruV x S fun b => q (.bl (!b)) S) h fun v x δ S Z H1 q t r h k => ?_
  obtain ⟨b, h2, h3⟩ := tru_of t.good r h
  exact ⟨b, h3, k.here t.good h2 rfl⟩
theorem de_and (hK : X.K = K) (ha : PE X a (tD K E e da)) (hb : PE X (.BoolOp .And (b :: rest) pos) (tD K E e db)) : PE X (.BoolOp .And (a :: b :: rest) pos) (tD K E e (dAnd da db)) := PE.imp (pe_andT ha hb) fun σ H Q h => by
  subst hK
  obtain ⟨δ, S, Z, q, t, h, k⟩ := h
  refine ⟨δ, S, Z, _, t, h, fun v x H1 S1 g1 x1 r1 h1 => ?_⟩
  obtain ⟨b, h2, h3⟩ := tru_of g1 r1 h1
  refine ⟨b, h3, ?_⟩
  cases b with
  | true => exact iteT ⟨δ, S1, Z, q, t.to g1 x1, h2, k.ext x1⟩
  | false => exact iteF (k v x H1 S1 g1 x1 r1 h2)
theorem de_or (hK : X.K = K) (ha : PE X a (tD K E e da)) (hb : PE X (.BoolOp .Or (b :: rest) pos) (tD K E e db)) : PE X (.BoolOp .Or (a :: b :: rest) pos) (tD K E e (dOr da db)) := PE.imp (pe_orT ha hb) fun σ H Q h => by
  subst hK
  obtain ⟨δ, S, Z, q, t, h, k⟩ := h
  refine ⟨δ, S, Z, _, t, h, fun v x H1 S1 g1 x1 r1 h1 => ?_⟩
  obtain ⟨b, h2, h3⟩ := tru_of g1 r1 h1
  refine ⟨b, h3, ?_⟩
  cases b with
  | true => exact iteT (k v x H1 S1 g1 x1 r1 h2)
  | false => exact iteF ⟨δ, S1, Z, q, t.to g1 x1, h2, k.ext x1⟩
theorem dt_and (ha : PT X a (tDT K E e ta)) (hb : PW X (.BoolOp .And (b :: rest) pos) (tDT K E e tb)) : PW X (.BoolOp .And (a :: b :: rest) pos) (tDT K E e (dTAnd ta tb)) := PW.imp (pw_and ha hb) fun σ H Q h => by
  obtain ⟨δ, S, Z, q, t, h, k⟩ := h
  refine ⟨δ, S, Z, _, t, h, fun c H1 S1 g1 x1 h1 => ?_⟩
  cases c with
  | true => exact iteT ⟨δ, S1, Z, q, t.to g1 x1, h1, fun b H' S' g' x' => k b H' S' g' (x1.trans x')⟩
  | false => exact iteF (k false H1 S1 g1 x1 h1)
theorem dt_or (ha : PT X a (tDT K E e ta)) (hb : PW X (.BoolOp .Or (b :: rest) pos) (tDT K E e tb)) : PW X (.BoolOp .Or (a :: b :: rest) pos) (tDT K E e (dTOr ta tb)) := PW.imp (pw_or ha hb) fun σ H Q h => by
  obtain ⟨δ, S, Z, q, t, h, k⟩ := h
  refine ⟨δ, S, Z, _, t, h, fun c H1 S1 g1 x1 h1 => ?_⟩
  cases c with
  | true => exact iteT (k true H1 S1 g1 x1 h1)
  | false => exact iteF ⟨δ, S1, Z, q, t.to g1 x1, h1, fun b H' S' g' x' => k b H' S' g' (x1.trans x')⟩
theorem dt_not (ha : PT X a (tDT K E e ta)) : PT X (.UnaryOp .Not a pos) (tDT K E e (dTNot ta)) := PT.imp (pt_not ha) fun σ H Q h => by
  obtain ⟨δ, S, Z, q, t, h, k⟩ := h
  exact ⟨δ, S, Z, _, t, h, fun c H1 S1 g1 x1 h1 => k (!c) H1 S1 g1 x1 h1⟩
theorem de_if (ht : PT X c (tDT K E e ta)) (ha : PE X a (tD K E e da)) (hb : PE X b (tD K E e db)) : PE X (.IfExp c a b pos) (tD K E e (dIfE ta da db)) := PE.imp (pe_ifExp ht ha hb) fun σ H Q h => by
  obtain ⟨δ, S, Z, q, t, h, k⟩ := h
  refine ⟨δ, S, Z, _, t, h, fun c H1 S1 g1 x1 h1 => ?_⟩
  cases c with
  | true => exact iteT ⟨δ, S1, Z, q, t.to g1 x1, h1, k.ext x1⟩
  | false => exact iteF ⟨δ, S1, Z, q, t.to g1 x1, h1, k.ext x1⟩
theorem de_chain {op op' : CmpOp} {r r' : D2} (ho : OpR X (compareOp op) (rD K r)) (ho' : OpR X (compareOp op') (rD K r')) (ha : PE X a (tD K E e da)) (hb : PE X b (tD K E e db)) (hc : PE X c (tD K E e dc)) (hm : lastMarks [op, op'] [b, c] = false := by rfl) :
    PE X (.Compare a [op, op'] [b, c] pos) (tD K E e (dChain r r' da db dc)) := PE.imp (pe_chain ho ho' ha hb hc hm) fun σ H Q h => by
  obtain ⟨δ, S, Z, q, t, h, k⟩ := h
  refine ⟨δ, S, Z, _, t, h, fun v x H1 S1 g1 x1 r1 h1 => ⟨δ, S1, Z, _, t.to g1 x1, h1, fun w y H2 S2 g2 x2 r2 h2 => ⟨x, y, S2, Z, _, g2, Rep.ext x2 _ _ r1, r2, h2, fun u z H3 S3 g3 x3 r3 h3 => ?_⟩⟩⟩
  obtain ⟨c, rfl, h4⟩ := h3
  refine ⟨c, r3, ?_⟩
  have x13 := x1.trans (x2.trans x3)
  cases c with
  | true => exact iteT ⟨δ, S3, Z, _, t.to g3 x13, h4, fun w' y' H4 S4 g4 x4 r4 h5 => ⟨y, y', S4, Z, q, g4, Rep.ext (x3.trans x4) _ _ r2, r4, h5, k.ext (x13.trans x4)⟩⟩
  | false => exact iteF (k _ (.bl false) H3 S3 g3 x13 rfl h4)
theorem de_neg (ha : PE X a (tD K E e da)) : PE X (.UnaryOp .USub a pos) (tD K E e (dNeg da)) := PE.imp (pe_un un_neg ha) fun σ H Q h => by
  refine tD_seq h fun v x δ S Z H1 q t r h k => ?_
  cases x with
  | int i => exact ⟨i, r, k.here t.good h rfl⟩
  | _ => exact h.elim
theorem da_nil : PA X [] (tDA K E e dNil) := PA.imp pa_nil fun σ H Q h => by
  obtain ⟨δ, S, Z, q, t, h, k⟩ := h
  exact k [] [] H S t.good Ext.refl rfl h
theorem da_cons (ha : PE X a (tD K E e da)) (hr : PA X es (tDA K E e ts)) (hs : starEach (a :: es) X.env = (false, eval a X.env) :: starEach es X.env := by rfl) : PA X (a :: es) (tDA K E e (dCons da ts)) := PA.imp (pa_cons ha hr hs) fun σ H Q h => by
  obtain ⟨δ, S, Z, q, t, h, k⟩ := h
  exact ⟨δ, S, Z, _, t, h, fun v x H1 S1 g1 x1 r1 h1 => ⟨δ, S1, Z, _, t.to g1 x1, h1, fun vs xs H2 S2 g2 x2 r2 h2 => k (v :: vs) (x :: xs) H2 S2 g2 (x1.trans x2) ⟨v, vs, rfl, Rep.ext x2 _ _ r1, r2⟩ h2⟩⟩
theorem le_line {n : Nat} (h : n ≤ 1000) : n ≤ sizeLine := Nat.le_trans h (Nat.le_of_ble_eq_true rfl)
theorem de_tup {x1} (h : PA X es (tDA K E e ts)) : PE X (.Tuple es x1 pos) (tD K E e (dTup ts)) := PE.imp (pe_tup h) fun σ H Q h => by
  obtain ⟨δ, S, Z, q, t, h, k⟩ := h
  refine ⟨δ, S, Z, _, t, h, fun vs xs H1 S1 g1 x1 r1 h1 => ?_⟩
  obtain ⟨l1, h1⟩ := h1.le
  refine ⟨by rw [← r1.len]; exact le_line l1, fun p np => (k.ext x1).new g1 np h1 ⟨p, vs, rfl, SqT.of (out_new g1 np), Reps.ext (ext_new g1 np) _ _ r1⟩⟩
theorem de_lst (h : PA X es (tDA K E e ts)) : PE X (.List es pos) (tD K E e (dLst ts)) := PE.imp (pe_lst h) fun σ H Q h => by
  obtain ⟨δ, S, Z, q, t, h, k⟩ := h
  refine ⟨δ, S, Z, _, t, h, fun vs xs H1 S1 g1 x1 r1 h1 => ?_⟩
  obtain ⟨l1, h1⟩ := h1.le
  refine ⟨by rw [← r1.len]; exact le_line l1, fun p np => (k.ext x1).new g1 np h1 ⟨p, vs, rfl, out_new g1 np, Reps.ext (ext_new g1 np) _ _ r1⟩⟩
theorem de_lstO (h : PA X es (tDA K E e ts)) : PE X (.List es pos) (tD K E e (dLstO ts)) := PE.imp (pe_lst h) fun σ H Q h => by
  obtain ⟨δ, S, Z, q, t, h, k⟩ := h
  refine ⟨δ, S, Z, _, t, h, fun vs xs H1 S1 g1 x1 r1 h1 => ?_⟩
  obtain ⟨l1, h1⟩ := h1.le
  refine ⟨by rw [← r1.len]; exact le_line l1, fun p np => (k.ext x1).own g1 np (h1 p (g1.nS np)) ⟨vs, rfl, r1⟩⟩
end
end Dn

namespace Dn
open PySem PySem.Spec PyProof.Rows L2 Pr
/-! ## dicts by keys -/
section
variable {κ : Type} [DecidableEq κ]
def kGet (l : List (κ × Dt)) (k : κ) : Option Dt := (l.find? fun p => decide (p.1 = k)).map (·.2)
def kPut (l : List (κ × Dt)) (k : κ) (d : Dt) : List (κ × Dt) := if (l.any fun p => decide (p.1 = k)) = true then l.map (fun p => if p.1 = k then (p.1, d) else p) else l ++ [(k, d)]
def kDel (l : List (κ × Dt)) (k : κ) : List (κ × Dt) := l.filter fun p => decide (p.1 ≠ k)
def kMerge (l more : List (κ × Dt)) : List (κ × Dt) := more.foldl (fun acc p => kPut acc p.1 p.2) l
def KR (ok : κ → Prop) (K : PySem.W.Frag) (G : Hp) : List (κ × Dt) → List (κ × V) → Prop := Paired fun p q => p.1 = q.1 ∧ (ok p.1 ∧ Rep K G p.2 q.2)
variable {K : PySem.W.Frag} {G G' : Hp} {ok : κ → Prop}
theorem KR.ext {l : List (κ × Dt)} {m : List (κ × V)} (h : KR ok K G l m) (e : Ext G G') : KR ok K G' l m := Paired.mapP h fun _ _ z => ⟨z.1, z.2.1, Rep.ext e _ _ z.2.2⟩
theorem KR.get : ∀ {l : List (κ × Dt)} {m : List (κ × V)} {k : κ}, KR ok K G l m → (kGet l k = none ∧ valV m k = none) ∨ ∃ d v, kGet l k = some d ∧ valV m k = some v ∧ Rep K G d v
  | [], [], k, .nil => .inl ⟨rfl, rfl⟩
  | p :: l, q :: m, k, .cons h t => by
    obtain ⟨e, _, r⟩ := h
    unfold kGet valV
    rw [List.find?_cons, List.find?_cons, ← e]
    by_cases hk : p.1 = k
    · rw [decide_eq_true hk]; exact .inr ⟨_, _, rfl, rfl, r⟩
    · rw [decide_eq_false hk]; exact KR.get t
theorem KR.any {l : List (κ × Dt)} {m : List (κ × V)} {k : κ} (h : KR ok K G l m) : (l.any fun p => decide (p.1 = k)) = m.any fun p => decide (p.1 = k) := by
  induction h with
  | nil => rfl
  | cons h t ih => rw [List.any_cons, List.any_cons, ih, h.1]
theorem KR.put {l : List (κ × Dt)} {m : List (κ × V)} {k : κ} {d : Dt} {v : V} (h : KR ok K G l m) (o : ok k) (r : Rep K G d v) : KR ok K G (kPut l k d) (putK m k v) := by
  unfold kPut putK
  rw [h.any]
  split
  · rename_i z
    clear z
    induction h with
    | nil => exact .nil
    | cons h t ih =>
      rw [List.map_cons, List.map_cons]
      refine .cons ?_ ih
      rw [← h.1]
      split
      · exact ⟨rfl, h.2.1, r⟩
      · exact h
  · exact Paired.app h (.cons ⟨rfl, o, r⟩ .nil)
theorem KR.del {l : List (κ × Dt)} {m : List (κ × V)} {k : κ} (h : KR ok K G l m) : KR ok K G (kDel l k) (dropK m k) := by
  unfold kDel dropK
  induction h with
  | nil => exact .nil
  | cons h t ih =>
    rw [List.filter_cons, List.filter_cons, ← h.1]
    split
    · exact .cons h ih
    · exact ih
theorem KR.merge {l : List (κ × Dt)} {m : List (κ × V)} : ∀ {more : List (κ × Dt)} {mm : List (κ × V)}, KR ok K G l m → KR ok K G more mm → KR ok K G (kMerge l more) (mm.foldl (fun acc kv => putK acc kv.1 kv.2) m) := fun {more mm} h hm => by
  unfold kMerge
  induction hm generalizing l m with
  | nil => exact h
  | cons q t ih =>
    rw [List.foldl_cons, List.foldl_cons, ← q.1]
    exact ih (h.put q.2.1 q.2.2)
theorem KR.len {l : List (κ × Dt)} {m : List (κ × V)} (h : KR ok K G l m) : l.length = m.length := Paired.length h
end
theorem Repk.kr {K : PySem.W.Frag} {G : Hp} {l : List (Key × Dt)} {m : List (Key × V)} : Repk K G l m ↔ KR KOk K G l m := Repk.pair
theorem Rept.kr {K : PySem.W.Frag} {G : Hp} {l : List (List Key × Dt)} {m : List (List Key × V)} : Rept K G l m ↔ KR (fun k => ∀ x ∈ k, KOk x) K G l m := Rept.pair
@[reducible] def isKeyed (x : Dt) (S : Store) (A : Prop) : Prop := match x with
  | .dic _ => A
  | .ref a => ∃ c, S a = some c ∧ (match c with
    | .dic _ => A
    | .lck _ _ => A
    | .dct _ => A
    | _ => False)
  | _ => False
@[reducible] def dGetD (x y : Dt) (S : Store) (k : Option Dt → Prop) : Prop := match y with
  | .int i => seeD x S fun l => k (kGet l (.inl i))
  | .str z => seeD x S fun l => k (kGet l (.inr z))
  | _ => False
section
variable {K : PySem.W.Frag} {Z H : Hp} {S : Store} {v w : V} {d dy : Dt}
theorem keyed_of (g : Good K Z H S) (r : Rep K (out H S Z) d v) {A : Prop} (h : isKeyed d S A) : ∃ a, v = .ref a ∧ IsD H a ∧ A := by
  cases d with
  | dic l => obtain ⟨a, vs, rfl, h1, h2⟩ := r; exact ⟨a, rfl, .inl ⟨vs, Rd.out h1⟩, h⟩
  | ref a =>
    obtain ⟨c, h1, h2⟩ := h
    obtain ⟨o, h3, h4⟩ := g.c a _ h1
    cases c with
    | dic l => obtain ⟨vs, rfl, h5⟩ := h4; exact ⟨a, r, .inl ⟨vs, .inl h3⟩, h2⟩
    | lck u l => obtain ⟨_, ob, vs, rfl, h5⟩ := h4; exact ⟨a, r, .inl ⟨vs, .inr ⟨ob, h3⟩⟩, h2⟩
    | dct l => obtain ⟨vs, rfl, h5⟩ := h4; exact ⟨a, r, .inr ⟨vs, .inl h3⟩, h2⟩
    | _ => exact h2.elim
  | _ => exact h.elim
theorem getD_of (g : Good K Z H S) (r : Rep K (out H S Z) d v) (ry : Rep K (out H S Z) dy w) {k : Option Dt → Prop} (h : dGetD d dy S k) : ∃ a o, v = .ref a ∧ k o ∧ ((o = none ∧ DGet H a w none) ∨ ∃ x u, o = some x ∧ DGet H a w (some u) ∧ Rep K (out H S Z) x u) := by
  have go : ∀ key : Key, w = kV key → (seeD d S fun l => k (kGet l key)) → ∃ a o, v = .ref a ∧ k o ∧ ((o = none ∧ DGet H a w none) ∨ ∃ x u, o = some x ∧ DGet H a w (some u) ∧ Rep K (out H S Z) x u) := fun key e h => by
    obtain ⟨a, vs, l, rfl, h1, h2, h3⟩ := see_dic g r h
    refine ⟨a, _, rfl, h3, ?_⟩
    rcases KR.get (k := key) (Repk.kr.mp h2) with ⟨e1, e2⟩ | ⟨x, u, e1, e2, e3⟩
    · exact .inl ⟨e1, .inl ⟨vs, key, h1, e, e2.symm⟩⟩
    · exact .inr ⟨x, u, e1, .inl ⟨vs, key, h1, e, e2.symm⟩, e3⟩
  cases dy with
  | int i => exact go (.inl i) ry h
  | str z => exact go (.inr z) ry.1 h
  | _ => exact h.elim
end
@[reducible] def dDget (a b : DTE) : DTE := fun δ S q => a δ S fun x S1 => b δ S1 fun y S2 => dGetD x y S2 fun o => ∃ d, o = some d ∧ q d S2
@[reducible] def dDin (b a : DTE) : DTE := fun δ S q => b δ S fun y S1 => a δ S1 fun x S2 => dGetD x y S2 fun o => q (.bl o.isSome) S2
@[reducible] def dDnotin (b a : DTE) : DTE := fun δ S q => b δ S fun y S1 => a δ S1 fun x S2 => dGetD x y S2 fun o => q (.bl (!o.isSome)) S2
@[reducible] def dDget1 (a b : DTE) : DTE := fun δ S q => a δ S fun x S1 => isKeyed x S1 (b δ S1 fun y S2 => dGetD x y S2 fun o => q (o.getD .non) S2)
@[reducible] def dDget2 (a b c : DTE) : DTE := fun δ S q => a δ S fun x S1 => isKeyed x S1 (b δ S1 fun y S2 => c δ S2 fun z S3 => dGetD x y S3 fun o => q (o.getD z) S3)
section
variable {X : Cx} {K : PySem.W.Frag} {E : XK} {e : DX} {pos pos' apos cpos : Pos} {a b c ex : Expr} {es rest : List Expr} {da db dc : DTE} {ta tb : DTT} {ts : DTA}
theorem de_dget (hu : X.A.units + 1 < cLine) (ha : PE X a (tD K E e da)) (hb : PE X b (tD K E e db)) (hs : NoSl b) : PE X (.Subscript a b pos) (tD K E e (dDget da db)) := PE.imp (pe_dget hu ha hb hs) fun σ H Q h => by
  obtain ⟨δ, S, Z, q, t, h, k⟩ := h
  refine ⟨δ, S, Z, _, t, h, fun v x H1 S1 g1 x1 r1 h1 => ⟨δ, S1, Z, _, t.to g1 x1, h1, fun w y H2 S2 g2 x2 r2 h2 => ?_⟩⟩
  obtain ⟨a, o, rfl, ⟨d, rfl, h3⟩, h4⟩ := getD_of g2 (Rep.ext x2 _ _ r1) r2 h2
  rcases h4 with ⟨h4, _⟩ | ⟨x', u, h5, h6, h7⟩
  · cases h4
  · cases h5
    exact ⟨a, u, rfl, h6, (k.ext (x1.trans x2)).here g2 h3 h7⟩
theorem de_din (hu : X.A.units + 1 < cLine) (hb : PE X b (tD K E e db)) (ha : PE X a (tD K E e da)) (hm : behindInMarks .In a = false := by rfl) : PE X (.Compare b [.In] [a] pos) (tD K E e (dDin db da)) := PE.imp (pe_cmp (pc_din hu hb ha) hm) fun σ H Q h => by
  obtain ⟨δ, S, Z, q, t, h, k⟩ := h
  refine ⟨δ, S, Z, _, t, h, fun v x H1 S1 g1 x1 r1 h1 => ⟨δ, S1, Z, _, t.to g1 x1, h1, fun w y H2 S2 g2 x2 r2 h2 => ?_⟩⟩
  obtain ⟨a, o, rfl, h3, h4⟩ := getD_of g2 r2 (Rep.ext x2 _ _ r1) h2
  rcases h4 with ⟨rfl, h4⟩ | ⟨x', u, rfl, h6, h7⟩
  · exact ⟨a, _, rfl, h4, (k.ext (x1.trans x2)).here g2 h3 rfl⟩
  · exact ⟨a, _, rfl, h6, (k.ext (x1.trans x2)).here g2 h3 rfl⟩
theorem de_dnotin (hu : X.A.units + 1 < cLine) (hb : PE X b (tD K E e db)) (ha : PE X a (tD K E e da)) (hm : behindInMarks .NotIn a = false := by rfl) : PE X (.Compare b [.NotIn] [a] pos) (tD K E e (dDnotin db da)) := PE.imp (pe_cmp (pc_dnotin hu hb ha) hm) fun σ H Q h => by
  obtain ⟨δ, S, Z, q, t, h, k⟩ := h
  refine ⟨δ, S, Z, _, t, h, fun v x H1 S1 g1 x1 r1 h1 => ⟨δ, S1, Z, _, t.to g1 x1, h1, fun w y H2 S2 g2 x2 r2 h2 => ?_⟩⟩
  obtain ⟨a, o, rfl, h3, h4⟩ := getD_of g2 r2 (Rep.ext x2 _ _ r1) h2
  rcases h4 with ⟨rfl, h4⟩ | ⟨x', u, rfl, h6, h7⟩
  · exact ⟨a, _, rfl, h4, (k.ext (x1.trans x2)).here g2 h3 rfl⟩
  · exact ⟨a, _, rfl, h6, (k.ext (x1.trans x2)).here g2 h3 rfl⟩
theorem de_dget1 (hu : X.A.units + 1 < cLine) (ha : PE X a (tD K E e da)) (hb : PE X b (tD K E e db)) (m : M1 X a "get" apos b cpos) : PE X (.Call (.Attribute a "get" apos) [b] [] cpos) (tD K E e (dDget1 da db)) := PE.imp (pe_dget1 hu ha hb m) fun σ H Q h => by
  obtain ⟨δ, S, Z, q, t, h, k⟩ := h
  refine ⟨δ, S, Z, _, t, h, fun v x H1 S1 g1 x1 r1 h1 => ?_⟩
  obtain ⟨a, rfl, hd, h1⟩ := keyed_of g1 r1 h1
  refine ⟨a, rfl, hd, δ, S1, Z, _, t.to g1 x1, h1, fun w y H2 S2 g2 x2 r2 h2 => ?_⟩
  obtain ⟨a', o, ea, h3, h4⟩ := getD_of g2 (Rep.ext x2 _ _ r1) r2 h2
  cases ea
  rcases h4 with ⟨rfl, h4⟩ | ⟨x', u, rfl, h6, h7⟩
  · exact ⟨_, h4, (k.ext (x1.trans x2)).here g2 h3 rfl⟩
  · exact ⟨_, h6, (k.ext (x1.trans x2)).here g2 h3 h7⟩
theorem de_dget2 (hu : X.A.units + 1 < cLine) (ha : PE X a (tD K E e da)) (hb : PE X b (tD K E e db)) (hc : PE X c (tD K E e dc)) (m : M2 X a "get" apos b c cpos) : PE X (.Call (.Attribute a "get" apos) [b, c] [] cpos) (tD K E e (dDget2 da db dc)) := PE.imp (pe_dget2 hu ha hb hc m) fun σ H Q h => by
  obtain ⟨δ, S, Z, q, t, h, k⟩ := h
  refine ⟨δ, S, Z, _, t, h, fun v x H1 S1 g1 x1 r1 h1 => ?_⟩
  obtain ⟨a, rfl, hd, h1⟩ := keyed_of g1 r1 h1
  refine ⟨a, rfl, hd, δ, S1, Z, _, t.to g1 x1, h1, fun w y H2 S2 g2 x2 r2 h2 => ⟨δ, S2, Z, _, t.to g2 (x1.trans x2), h2, fun z u H3 S3 g3 x3 r3 h3 => ?_⟩⟩
  obtain ⟨a', o, ea, h4, h5⟩ := getD_of g3 (Rep.ext (x2.trans x3) _ _ r1) (Rep.ext x3 _ _ r2) h3
  cases ea
  rcases h5 with ⟨rfl, h5⟩ | ⟨x', u, rfl, h6, h7⟩
  · exact ⟨_, h5, (k.ext (x1.trans (x2.trans x3))).here g3 h4 r3⟩
  · exact ⟨_, h6, (k.ext (x1.trans (x2.trans x3))).here g3 h4 h7⟩
/-- {} -/
theorem de_dnew : PE X (.Dict [] [] pos) (tD K E e (dC (.dic []))) := PE.imp pe_dnewK fun σ H Q h => by
  obtain ⟨δ, S, Z, q, t, h, k⟩ := h
  exact fun p np => k.new t.good np h ⟨p, [], rfl, .inl (out_new t.good np), rfl⟩
@[reducible] def dNewD : DTE := fun _ S q => ∀ p, S p = none → q (.ref p) (sput S p (.dic []))
theorem de_dnewO : PE X (.Dict [] [] pos) (tD K E e dNewD) := PE.imp pe_dnewK fun σ H Q h => by
  obtain ⟨δ, S, Z, q, t, h, k⟩ := h
  exact fun p np => k.own t.good np (h p (t.good.nS np)) ⟨[], rfl, rfl⟩
end
/-! ## something that is made while it is hidden -/
section
variable {K : PySem.W.Frag} {Z H H' : Hp} {S S' : Store} {p : Addr} {o o' : HO}
theorem hide_out (g : Good K Z H S) (n : H p = none) : out (upd H p o) S (upd Z p o) = out H S Z := by
  funext b
  by_cases hb : b = p
  · subst hb
    have e1 : out (upd H b o) S (upd Z b o) b = none := by
      unfold out
      rw [if_pos]
      rw [upd_same]; exact .inr rfl
    rw [e1, out_of (g.nS n) (g.nZ n), n]
  · unfold out
    rw [upd_ne hb, upd_ne hb]
theorem Good.hide (g : Good K Z H S) (n : H p = none) (hd : Hid o := by first | exact .inl ⟨_, rfl⟩ | exact .inr ⟨_, rfl⟩) : Good K (upd Z p o) (upd H p o) S := by
  refine ⟨fun b x e => ?_, fun b x e => ?_⟩
  · by_cases hb : b = p
    · subst hb
      rw [upd_same] at e
      cases e
      exact ⟨upd_same, g.nS n, hd⟩
    · rw [upd_ne hb] at e
      rw [upd_ne hb]
      exact g.z b x e
  · rw [hide_out g n]
    obtain ⟨o', h1, h2⟩ := g.c b x e
    exact ⟨o', (upd_ne (ne_of_none h1 n)).trans h1, h2⟩
/-- what is hidden may change -/
theorem rehide_out : out (upd H p o') S (upd Z p o') = out H S (upd Z p o) := by
  funext b
  by_cases hb : b = p
  · subst hb
    unfold out
    rw [if_pos (.inr (by rw [upd_same]; rfl)), if_pos (.inr (by rw [upd_same]; rfl))]
  · unfold out
    rw [upd_ne hb, upd_ne hb, upd_ne hb]
theorem Good.rehide (g : Good K (upd Z p o) H S) (hd : Hid o' := by first | exact .inl ⟨_, rfl⟩ | exact .inr ⟨_, rfl⟩) : Good K (upd Z p o') (upd H p o') S := by
  refine ⟨fun b x e => ?_, fun b x e => ?_⟩
  · by_cases hb : b = p
    · subst hb
      rw [upd_same] at e
      cases e
      exact ⟨upd_same, (g.z b o upd_same).2.1, hd⟩
    · rw [upd_ne hb] at e
      rw [upd_ne hb]
      exact g.z b x (by rw [upd_ne hb]; exact e)
  · rw [rehide_out (o := o)]
    obtain ⟨o2, h1, h2⟩ := g.c b x e
    have hb : b ≠ p := fun z => by
      subst z
      have := (g.z b o upd_same).2.1
      rw [e] at this
      cases this
    exact ⟨o2, (upd_ne hb).trans h1, h2⟩
theorem Good.at (g : Good K (upd Z p o) H S) : H p = some o := (g.z p o upd_same).1
theorem Good.noS (g : Good K (upd Z p o) H S) : S p = none := (g.z p o upd_same).2.1
/-- it comes out -/
theorem show_ext (g : Good K (upd Z p o) H S) (nz : Z p = none) : Ext (out H S (upd Z p o)) (out (upd H p o') S Z) := Ext.of fun b x h => by
  obtain ⟨h1, h2, h3⟩ := out_some h
  have hb : b ≠ p := fun z => by rw [z, upd_same] at h2; cases h2
  rw [upd_ne hb] at h2
  rw [out_of h1 h2, upd_ne hb]
  exact h3
theorem Good.shown (g : Good K (upd Z p o) H S) (nz : Z p = none) : Good K Z (upd H p o') S := by
  refine ⟨fun b x e => ?_, fun b x e => ?_⟩
  · have hb : b ≠ p := fun z => by rw [z, nz] at e; cases e
    rw [upd_ne hb]
    exact g.z b x (by rw [upd_ne hb]; exact e)
  · obtain ⟨o2, h1, h2⟩ := g.c b x e
    have hb : b ≠ p := fun z => by
      subst z
      have := (g.z b o upd_same).2.1
      rw [e] at this
      cases this
    exact ⟨o2, (upd_ne hb).trans h1, CRep.ext (show_ext g nz) _ _ h2⟩
theorem shown_at (g : Good K (upd Z p o) H S) (nz : Z p = none) : out (upd H p o') S Z p = some o' := by
  rw [out_of g.noS nz, upd_same]
/-- it comes out as a cell -/
theorem showO_out (g : Good K (upd Z p o) H S) (nz : Z p = none) {c : Cell} : out (upd H p o') (sput S p c) Z = out H S (upd Z p o) := by
  funext b
  by_cases hb : b = p
  · subst hb
    unfold out
    rw [if_pos (.inl (by rw [sput_same]; rfl)), if_pos (.inr (by rw [upd_same]; rfl))]
  · unfold out
    rw [upd_ne hb, upd_ne hb, sput_ne hb]
theorem Good.shownO (g : Good K (upd Z p o) H S) (nz : Z p = none) {c : Cell} (r : CRep K (out H S (upd Z p o)) c o') : Good K Z (upd H p o') (sput S p c) := by
  refine ⟨fun b x e => ?_, fun b x e => ?_⟩
  · have hb : b ≠ p := fun z => by rw [z, nz] at e; cases e
    rw [upd_ne hb, sput_ne hb]
    exact g.z b x (by rw [upd_ne hb]; exact e)
  · rw [showO_out g nz]
    by_cases hb : b = p
    · subst hb
      rw [sput_same] at e
      cases e
      exact ⟨o', upd_same, r⟩
    · rw [sput_ne hb] at e
      rw [upd_ne hb]
      exact g.c b x e
/-- what leaves while it is hidden -/
theorem Good.bare (g : Good K (upd Z p o) H S) (nz : Z p = none) : Good K Z H S := by
  have h := g.shown (o' := o) nz
  have e : upd H p o = H := by
    funext b
    by_cases hb : b = p
    · rw [hb, upd_same, g.at]
    · rw [upd_ne hb]
  rw [e] at h
  exact h
theorem bare_ext (g : Good K (upd Z p o) H S) (nz : Z p = none) : Ext (out H S (upd Z p o)) (out H S Z) := by
  have h := show_ext (o' := o) g nz
  have e : upd H p o = H := by
    funext b
    by_cases hb : b = p
    · rw [hb, upd_same, g.at]
    · rw [upd_ne hb]
  rw [e] at h
  exact h
theorem Lk.hide {E : XK} {e : DX} {G : Hp} (h : Lk K E e Z G) (nz : Z p = none) : Lk K E e (upd Z p o) G := fun c H' S' g x q => h c H' S' (g.bare nz) (x.trans (bare_ext g nz)) q
end
end Dn

namespace Dn
open PySem PySem.Spec PyProof.Rows L2 Pr
/-! ## written dicts -/
@[reducible] def keyOf (x : Dt) (k : Key → Prop) : Prop := match x with
  | .int i => k (.inl i)
  | .str z => k (.inr z)
  | _ => False
@[reducible] def dPairs : List (DTE × DTE) → DS → Store → (List (Key × Dt) → Store → Prop) → Prop
  | [], _, S, q => q [] S
  | (k, v) :: r, δ, S, q => k δ S fun x S1 => v δ S1 fun y S2 => keyOf x fun key => dPairs r δ S2 fun ps S3 => q ((key, y) :: ps) S3
@[reducible] def dDisp (trs : List (DTE × DTE)) : DTE := fun δ S q => dPairs trs δ S fun ps S1 => q (.dic (kMerge [] ps)) S1
@[reducible] def dDispO (trs : List (DTE × DTE)) : DTE := fun δ S q => dPairs trs δ S fun ps S1 => ∀ p, S1 p = none → q (.ref p) (sput S1 p (.dic (kMerge [] ps)))
section
variable {X : Cx} {K : PySem.W.Frag} {E : XK} {e : DX} {pos pos' apos cpos : Pos} {a b c ex : Expr} {es rest : List Expr} {da db dc : DTE} {ta tb : DTT} {ts : DTA} {keys : List (Option Expr)} {values : List Expr}
theorem keyOf_rep {G : Hp} {x : Dt} {v : V} (r : Rep K G x v) {k : Key → Prop} (h : keyOf x k) : ∃ key, v = kV key ∧ KOk key ∧ k key := by
  cases x with
  | int i => exact ⟨.inl i, r, trivial, h⟩
  | str z => exact ⟨.inr z, r.1, r.2, h⟩
  | _ => exact h.elim
theorem pairs_run : ∀ (trs : List (DTE × DTE)) (σ : L2.St) (δ : DS) (H : Hp) (S : Store) (Z : Hp) (q : List (Key × Dt) → Store → Prop) (Q : List (V × V) → Hp → Prop), At K E e Z H S σ δ → dPairs trs δ S q →
    (∀ (kvs : List (Key × V)) (ds : List (Key × Dt)) H' S', Good K Z H' S' → Ext (out H S Z) (out H' S' Z) → KR KOk K (out H' S' Z) ds kvs → kvs.length = trs.length → q ds S' → Q (kvs.map fun kv => (kV kv.1, kv.2)) H') → tPairs (trs.map fun p => (tD K E e p.1, tD K E e p.2)) σ H Q
  | [], σ, δ, H, S, Z, q, Q, t, h, k => k [] [] H S t.good Ext.refl .nil rfl h
  | (a, b) :: r, σ, δ, H, S, Z, q, Q, t, h, k => by
    refine ⟨δ, S, Z, _, t, h, fun v x H1 S1 g1 x1 r1 h1 => ⟨δ, S1, Z, _, t.to g1 x1, h1, fun w y H2 S2 g2 x2 r2 h2 => ?_⟩⟩
    obtain ⟨key, e1, ko, h3⟩ := keyOf_rep r1 h2
    refine pairs_run r σ δ H2 S2 Z _ _ (t.to g2 (x1.trans x2)) h3 fun kvs ds H3 S3 g3 x3 r3 l3 h4 => ?_
    subst e1
    exact k ((key, w) :: kvs) ((key, y) :: ds) H3 S3 g3 (x1.trans (x2.trans x3)) (.cons ⟨rfl, ko, Rep.ext x3 _ _ r2⟩ r3) (congrArg (· + 1) l3) h4
theorem de_disp {trs : List (DTE × DTE)} (h : PPs X pos keys values (trs.map fun p => (tD K E e p.1, tD K E e p.2))) (hall : keys.all (·.isSome) = true) (hl : keys.length = values.length) (h0 : keys ≠ []) (h15 : keys.length ≤ 15) (hn : trs.length ≤ 15 := by decide) :
    PE X (.Dict keys values pos) (tD K E e (dDisp trs)) := PE.imp (pe_disp h hall hl h0 h15) fun σ H Q h => by
  obtain ⟨δ, S, Z, q, t, h, k⟩ := h
  intro p np
  have g0 := t.good.hide (o := .dK []) np
  have nz := t.good.nZ np
  have o0 := hide_out (o := HO.dK []) t.good np
  refine pairs_run trs σ δ _ S (upd Z p (.dK [])) _ _ ⟨g0, by rw [o0]; exact t.sl, by rw [o0]; exact t.lk.hide nz⟩ h fun kvs ds H1 S1 g1 x1 r1 l1 h1 => ?_
  rw [o0] at x1
  refine ⟨g1.at, kvs, rfl, by omega, ?_⟩
  refine k _ (.dic (kMerge [] ds)) _ S1 (g1.shown nz) (x1.trans (show_ext g1 nz)) ⟨p, _, rfl, .inl (shown_at g1 nz), ?_⟩ h1
  exact Repk.kr.mpr (KR.merge .nil (r1.ext (show_ext g1 nz)))
theorem de_dispO {trs : List (DTE × DTE)} (h : PPs X pos keys values (trs.map fun p => (tD K E e p.1, tD K E e p.2))) (hall : keys.all (·.isSome) = true) (hl : keys.length = values.length) (h0 : keys ≠ []) (h15 : keys.length ≤ 15) (hn : trs.length ≤ 15 := by decide) :
    PE X (.Dict keys values pos) (tD K E e (dDispO trs)) := PE.imp (pe_disp h hall hl h0 h15) fun σ H Q h => by
  obtain ⟨δ, S, Z, q, t, h, k⟩ := h
  intro p np
  have g0 := t.good.hide (o := .dK []) np
  have nz := t.good.nZ np
  have o0 := hide_out (o := HO.dK []) t.good np
  refine pairs_run trs σ δ _ S (upd Z p (.dK [])) _ _ ⟨g0, by rw [o0]; exact t.sl, by rw [o0]; exact t.lk.hide nz⟩ h fun kvs ds H1 S1 g1 x1 r1 l1 h1 => ?_
  rw [o0] at x1
  refine ⟨g1.at, kvs, rfl, by omega, ?_⟩
  have r2 : CRep K (out H1 S1 (upd Z p (.dK []))) (.dic (kMerge [] ds)) (.dK (mergeK [] kvs)) := ⟨_, rfl, Repk.kr.mpr (KR.merge .nil r1)⟩
  refine k _ (.ref p) _ (sput S1 p (.dic (kMerge [] ds))) (g1.shownO nz r2) (by rw [showO_out g1 nz]; exact x1) rfl (h1 p g1.noS)
theorem dps_nil : PPs X pos [] [] (([] : List (DTE × DTE)).map fun p => (tD K E e p.1, tD K E e p.2)) := pps_nil
theorem dps_cons {ks : List (Option Expr)} {vs : List Expr} {trs : List (DTE × DTE)} (ha : PE X a (tD K E e da)) (hb : PE X b (tD K E e db)) (hr : PPs X pos ks vs (trs.map fun p => (tD K E e p.1, tD K E e p.2))) :
    PPs X pos (some a :: ks) (b :: vs) (((da, db) :: trs).map fun p => (tD K E e p.1, tD K E e p.2)) := pps_cons ha hb hr
end
/-! ## items and parts -/
@[reducible] def dAtN : List Dt → Nat → (Dt → Prop) → Prop
  | x :: _, 0, k => k x
  | _ :: l, n + 1, k => dAtN l n k
  | [], _, _ => False
theorem dAtN_of : ∀ {l : List Dt} {n : Nat} {d : Dt} {k : Dt → Prop}, l[n]? = some d → k d → dAtN l n k
  | [], _, _, _, h, _ => by simp at h
  | x :: _, 0, d, k, h, q => by simp at h; subst h; exact q
  | _ :: l, n + 1, d, k, h, q => dAtN_of (l := l) (by simpa using h) q
theorem dAtN.get : ∀ {l : List Dt} {n : Nat} {k : Dt → Prop}, dAtN l n k → ∃ d, l[n]? = some d ∧ k d
  | [], _, _, h => h.elim
  | x :: _, 0, k, h => ⟨x, rfl, h⟩
  | _ :: l, n + 1, k, h => by
    obtain ⟨d, h1, h2⟩ := dAtN.get (l := l) h
    exact ⟨d, by simpa using h1, h2⟩
/-- x[3], a written number -/
@[reducible] def dIxC (a : DTE) (n : Nat) : DTE := fun δ S q => a δ S fun x S1 => match x with
  | .str z => ∃ c, z.cps.toList[n]? = some c ∧ q (.str ⟨#[c]⟩) S1
  | x => seeQ x S1 fun l => dAtN l n fun d => q d S1
@[reducible] def rIx : D2 := fun x y S q => match x, y with
  | .str z, .int i => ∃ c, atI z.cps.toList i = some c ∧ q (.str ⟨#[c]⟩) S
  | x, .int i => seeQ x S fun l => ∃ d, atI l i = some d ∧ q d S
  | _, _ => False
def cutD (l : List Dt) (lo hi : Option Int) : List Dt := (l.drop (HT.sIx l.length 0 lo)).take (HT.sIx l.length l.length hi - HT.sIx l.length 0 lo)
@[reducible] def rSl (x : Dt) (lo hi : Option Int) (S : Store) (q : DK) : Prop := match x with
  | .str z => q (.str (cutS z lo hi)) S
  | .tup l => q (.tup (cutD l lo hi)) S
  | .scr ns => q (.lst (cutD (ns.map Dt.int) lo hi)) S
  | x => seeL x S fun l => q (.lst (cutD l lo hi)) S
abbrev DTO := DS → Store → (Option Int → Store → Prop) → Prop
def tDO (K : PySem.W.Frag) (E : XK) (e : DX) (d : DTO) : TO := fun σ H Q => ∃ δ S Z q, At K E e Z H S σ δ ∧ d δ S q ∧ ∀ i H' S', Good K Z H' S' → Ext (out H S Z) (out H' S' Z) → q i S' → Q i H'
@[reducible] def dNoPart : DTO := fun _ S q => q none S
@[reducible] def dPart (a : DTE) : DTO := fun δ S q => a δ S fun x S1 => match x with
  | .int i => q (some i) S1
  | _ => False
@[reducible] def dSl (a : DTE) (lo hi : DTO) : DTE := fun δ S q => a δ S fun x S1 => lo δ S1 fun l S2 => hi δ S2 fun h S3 => rSl x l h S3 q
def rDS (K : PySem.W.Frag) (x : V) (lo hi : Option Int) (H : Hp) (Q : VK) : Prop := ∃ d S Z q, Good K Z H S ∧ Rep K (out H S Z) d x ∧ rSl d lo hi S q ∧ Ty K Z H S q Q
theorem atI_pair {α β : Type} {F : α → β → Prop} {l : List α} {m : List β} {i : Int} {x : α} (h : Paired F l m) (e : atI l i = some x) : ∃ y, atI m i = some y ∧ F x y := by
  unfold atI at e ⊢
  rw [← Paired.length h]
  cases hi : ixN l.length i with
  | none => rw [hi] at e; cases e
  | some j =>
    rw [hi] at e
    exact Paired.get h e
theorem atI_mem {α : Type} {l : List α} {i : Int} {x : α} (e : atI l i = some x) : x ∈ l := by
  unfold atI at e
  cases hi : ixN l.length i with
  | none => rw [hi] at e; cases e
  | some j => rw [hi] at e; exact List.mem_of_getElem? e
theorem cutV_pair {K : PySem.W.Frag} {G : Hp} {l : List Dt} {vs : List V} {lo hi : Option Int} (h : Reps K G l vs) : Reps K G (cutD l lo hi) (cutV vs lo hi) := by
  unfold cutD cutV
  show Reps K G _ ((vs.drop (HT.sIx vs.length 0 lo)).take (HT.sIx vs.length vs.length hi - HT.sIx vs.length 0 lo))
  rw [← h.len]
  exact Reps.pair.mpr (Paired.take _ (Paired.drop _ (Reps.pair.mp h)))
section
variable {X : Cx} {K : PySem.W.Frag} {E : XK} {e : DX} {pos pos' apos cpos p2 : Pos} {a b c ex : Expr} {es rest : List Expr} {da db dc : DTE} {ta tb : DTT} {ts : DTA} {lo hi : Option Expr} {dl dh : DTO}
theorem ix_D (hK : X.K = K) : IxR X (rD K rIx) := by
  subst hK
  intro value slice pins s σ H x y v u Q I rv ru h sub
  obtain ⟨dx, dy, S, Z, q, g, rx, ry, h, k⟩ := h
  have seq : ∀ i : Int, y = .int i → (seeQ dx S fun l => ∃ d, atI l i = some d ∧ q d S) → wpAny (model X.prog X.w) X.A (subscriptTail value slice v u) (EP X pins σ Q) X.xe s := fun i ei h0 => by
    obtain ⟨p, vs, l, rfl, hp, hl, d, hd, hq⟩ := see_seq g rx h0
    obtain ⟨y', h1, h2⟩ := atI_pair (Reps.pair.mp hl) hd
    rcases hp with hp | hp
    · exact ix_list value slice pins s σ H _ y v u Q I rv ru ⟨p, vs, i, y', rfl, ei, hp, h1, k.here g hq h2⟩ sub
    · exact ix_tup value slice pins s σ H _ y v u Q I rv ru ⟨p, vs, i, y', rfl, ei, hp, h1, k.here g hq h2⟩ sub
  cases dy with
  | int i =>
    cases dx with
    | str z =>
      obtain ⟨c, hc, hq⟩ := h
      exact ix_str value slice pins s σ H x y v u Q I rv ru ⟨z, i, c, rx.1, ry, rx.2.len, hc, k.here g hq ⟨rfl, rx.2.sign (atI_mem hc)⟩⟩ sub
    | _ => exact seq i ry h
  | _ => cases dx <;> exact h.elim
theorem de_ix (hK : X.K = K) (ha : PE X a (tD K E e da)) (hb : PE X b (tD K E e db)) (hs : PlainIx b := by exact fun _ _ => rfl) : PE X (.Subscript a b pos) (tD K E e (dOp rIx da db)) := PE.imp (pe_ix (ix_D hK) ha hb hs) fun _ _ _ h => tD_op h
theorem de_ixC (hK : X.K = K) {n : Nat} {j} (ha : PE X a (tD K E e da)) (hs : PlainIx (.Constant (.int (n : Int)) j p2) := by exact fun _ _ => rfl) : PE X (.Subscript a (.Constant (.int (n : Int)) j p2) pos) (tD K E e (dIxC da n)) := PE.imp (pe_ix (ix_D hK) ha pe_int hs) fun σ H Q h => by
  refine tD_seq (f := fun x S q => match x with
    | .str z => ∃ c, z.cps.toList[n]? = some c ∧ q (.str ⟨#[c]⟩) S
    | x => seeQ x S fun l => dAtN l n fun d => q d S) h fun v x δ S Z H1 q t r h k => ?_
  refine ⟨x, .int n, S, Z, q, t.good, r, rfl, ?_, k⟩
  cases x with
  | str z => obtain ⟨c, h1, h2⟩ := h; exact ⟨c, atI_nat h1, h2⟩
  | lst l => obtain ⟨d, h1, h2⟩ := dAtN.get h; exact ⟨d, atI_nat h1, h2⟩
  | tup l => obtain ⟨d, h1, h2⟩ := dAtN.get h; exact ⟨d, atI_nat h1, h2⟩
  | ref a => obtain ⟨l, h0, h⟩ := h; obtain ⟨d, h1, h2⟩ := dAtN.get h; exact ⟨l, h0, d, atI_nat h1, h2⟩
  | _ => exact h.elim
theorem sl_D (hK : X.K = K) : SlR X (rDS K) := by
  subst hK
  intro pins s σ H x v vl vu lo hi sl Q I rv is pl ph h
  obtain ⟨d, S, Z, q, g, r, h, k⟩ := h
  have lists : (seeL d S fun l => q (.lst (cutD l lo hi)) S) → ∃ T id, typeLookup (.type T) "__getitem__" = pure (some (.builtin id)) ∧ s.TypeIs v T ∧ wpAny (model X.prog X.w) X.A (getItem v (.ref sl)) (EP X pins σ Q) X.xe s := fun h => by
    obtain ⟨p, vs, l, rfl, hp, hl, hq⟩ := see_lst g r h
    exact sl_list pins s σ H _ v vl vu lo hi sl Q I rv is pl ph ⟨p, vs, rfl, SqL.of hp, fun p np => k.new g np hq ⟨p, _, rfl, out_new g np, cutV_pair (Reps.ext (ext_new g np) _ _ hl)⟩⟩
  cases d with
  | str z => exact sl_str pins s σ H x v vl vu lo hi sl Q I rv is pl ph ⟨z, r.1, r.2.len, k.here g h ⟨rfl, r.2.sub (fun c hc => List.mem_of_mem_drop (List.mem_of_mem_take (by
      unfold cutS at hc; simpa using hc))) (by
      rw [len_cps, len_cps]; unfold cutS; simp; omega)⟩⟩
  | tup l =>
    obtain ⟨p, vs, rfl, hp, hl⟩ := r
    refine sl_tupA pins s σ H _ v vl vu lo hi sl Q I rv is pl ph ⟨p, vs, rfl, SqT.out hp, fun hw => ?_, fun hw p np => ?_⟩
    · have e : cutD l lo hi = l := by
        obtain ⟨h1, h2⟩ := hw
        have h1 : HT.sIx vs.length 0 lo = 0 := h1
        have h2 : HT.sIx vs.length vs.length hi = vs.length := h2
        unfold cutD
        rw [hl.len, h1, h2]
        simp [← hl.len]
      have h : q (.tup (cutD l lo hi)) S := h
      rw [e] at h
      exact k.here g h ⟨p, vs, rfl, hp, hl⟩
    · exact k.new g np h ⟨p, _, rfl, SqT.of (out_new g np), cutV_pair (Reps.ext (ext_new g np) _ _ hl)⟩
  | scr ns =>
    obtain ⟨a, rfl, h1⟩ := r
    have h2 : SqL X.K H a (ns.map V.int) := by
      rcases h1 with (h1 | ⟨ob, h1⟩) | h1
      · exact .inl (.inl (out_le h1))
      · exact .inl (.inr ⟨ob, out_le h1⟩)
      · exact .inr h1
    have ri : ∀ (l : List Int) (G : Hp), Reps X.K G (l.map Dt.int) (l.map V.int) := fun l G => by
      induction l with
      | nil => exact rfl
      | cons x l ih => exact ⟨_, _, rfl, rfl, ih⟩
    exact sl_list pins s σ H _ v vl vu lo hi sl Q I rv is pl ph ⟨a, _, rfl, h2, fun p np => k.new g np h ⟨p, _, rfl, out_new g np, cutV_pair (ri ns _)⟩⟩
  | _ => exact lists h
theorem do_none : PO X none (tDO K E e dNoPart) := ⟨fun pins s σ H Q I h => by
  obtain ⟨δ, S, Z, q, t, h, k⟩ := h
  exact po_none.run pins s σ H Q I (k none H S t.good Ext.refl h)⟩
theorem do_some (ha : PE X a (tD K E e da)) : PO X (some a) (tDO K E e (dPart da)) := ⟨fun pins s σ H Q I h => by
  refine (po_some ha).run pins s σ H Q I ?_
  obtain ⟨δ, S, Z, q, t, h, k⟩ := h
  refine ⟨δ, S, Z, _, t, h, fun v x H1 S1 g1 x1 r1 h1 => ?_⟩
  cases x with
  | int i => exact ⟨i, r1, k (some i) H1 S1 g1 x1 h1⟩
  | _ => exact h1.elim⟩
theorem de_sl (hK : X.K = K) (ha : PE X a (tD K E e da)) (hl : PO X lo (tDO K E e dl)) (hh : PO X hi (tDO K E e dh)) : PE X (.Subscript a (.Slice lo hi none p2) pos) (tD K E e (dSl da dl dh)) := PE.imp (pe_slice (sl_D hK) ha hl hh) fun σ H Q h => by
  obtain ⟨δ, S, Z, q, t, h, k⟩ := h
  exact ⟨δ, S, Z, _, t, h, fun v x H1 S1 g1 x1 r1 h1 => ⟨δ, S1, Z, _, t.to g1 x1, h1, fun i H2 S2 g2 x2 h2 => ⟨δ, S2, Z, _, t.to g2 (x1.trans x2), h2, fun j H3 S3 g3 x3 h3 => ⟨x, S3, Z, q, g3, Rep.ext (x2.trans x3) _ _ r1, h3, k.ext (x1.trans (x2.trans x3))⟩⟩⟩⟩
end
end Dn

namespace Dn
open PySem PySem.Spec PyProof.Rows L2 Pr
/-! ## attributes -/
structure FldI (K : PySem.W.Frag) (C : Addr) (nm : List Str) (f : Str) (i : Nat) : Prop where
  cls : Cls K C
  no : NoAttr K C f
  nd : nm.Nodup
  at' : nm[i]? = some f
  few : nm.length < 1000
@[reducible] def seeO (C : Addr) (nm : List Str) (x : Dt) (S : Store) (k : List Dt → Prop) : Prop := match x with
  | .obj C' nm' l => (C' = C ∧ nm' = nm) ∧ k l
  | .ref a => ∃ l, S a = some (.ins C nm l) ∧ k l
  | _ => False
@[reducible] def dFld (C : Addr) (nm : List Str) (i : Nat) (a : DTE) : DTE := fun δ S q => a δ S fun x S1 => seeO C nm x S1 fun l => dAtN l i fun d => q d S1
@[reducible] def putAt : List Dt → Nat → Dt → (List Dt → Prop) → Prop
  | [], 0, y, k => k [y]
  | _ :: l, 0, y, k => k (y :: l)
  | x :: l, n + 1, y, k => putAt l n y fun r => k (x :: r)
  | [], _ + 1, _, _ => False
theorem putAt.of : ∀ {l : List Dt} {n : Nat} {y : Dt} {k : List Dt → Prop}, putAt l n y k → (n < l.length ∧ k (l.set n y)) ∨ (n = l.length ∧ k (l ++ [y]))
  | [], 0, y, k, h => .inr ⟨rfl, h⟩
  | x :: l, 0, y, k, h => .inl ⟨Nat.succ_pos _, h⟩
  | x :: l, n + 1, y, k, h => by
    rcases putAt.of (l := l) (n := n) h with ⟨h1, h2⟩ | ⟨h1, h2⟩
    · exact .inl ⟨Nat.succ_lt_succ h1, h2⟩
    · exact .inr ⟨congrArg (· + 1) h1, h2⟩
  | [], _ + 1, _, _, h => h.elim
/-- o.f = e -/
@[reducible] def dSetF (C : Addr) (nm : List Str) (i : Nat) (o v : DTE) : DTS := fun D δ S => v δ S fun y S1 => o δ S1 fun x S2 => match x with
  | .ref a => ∃ l, S2 a = some (.ins C nm l) ∧ putAt l i y fun l' => D.nx δ (sput S2 a (.ins C nm l'))
  | _ => False
/-- o.f op= e -/
@[reducible] def dAugF (C : Addr) (nm : List Str) (i : Nat) (dr : D2) (o v : DTE) : DTS := fun D δ S => o δ S fun x S1 => match x with
  | .ref a => ∃ l, S1 a = some (.ins C nm l) ∧ dAtN l i fun d => v δ S1 fun y S2 => dr d y S2 fun z S3 => ∃ l', S3 a = some (.ins C nm l') ∧ putAt l' i z fun l'' => D.nx δ (sput S3 a (.ins C nm l''))
  | _ => False
section
variable {K : PySem.W.Frag} {G : Hp}
theorem lookup_zip : ∀ {nm : List Str} {n i : Nat} {vs : List V} {f : Str} {v : V}, nm.Nodup → nm[i]? = some f → vs[i]? = some v → i < n → ((nm.take n).zip vs).lookup f = some v
  | [], _, _, _, _, _, _, h, _, _ => by simp at h
  | x :: nm, 0, _, _, _, _, _, _, _, h => absurd h (Nat.not_lt_zero _)
  | x :: nm, n + 1, i, [], _, _, _, _, h, _ => by simp at h
  | x :: nm, n + 1, 0, v' :: vs, f, v, nd, h1, h2, _ => by
    simp at h1 h2
    subst h1 h2
    show ((x, v') :: ((nm.take n).zip vs)).lookup x = some v'
    rw [List.lookup_cons_self]
  | x :: nm, n + 1, i + 1, v' :: vs, f, v, nd, h1, h2, h3 => by
    have h1 : nm[i]? = some f := by simpa using h1
    have nx : f ≠ x := fun e => (List.nodup_cons.mp nd).1 (e ▸ List.mem_of_getElem? h1)
    show ((x, v') :: ((nm.take n).zip vs)).lookup f = some v
    rw [List.lookup_cons, show (f == x) = false from by simpa using nx]
    exact lookup_zip (List.nodup_cons.mp nd).2 h1 (by simpa using h2) (Nat.lt_of_succ_lt_succ h3)
theorem putF_zip_set : ∀ {nm : List Str} {n i : Nat} {vs : List V} {f : Str} {y : V}, nm.Nodup → nm[i]? = some f → i < n → vs.length = n → n ≤ nm.length → putF f y ((nm.take n).zip vs) = (nm.take n).zip (vs.set i y)
  | [], _, _, _, _, _, _, h, _, _, _ => by simp at h
  | x :: nm, 0, _, _, _, _, _, _, h, _, _ => absurd h (Nat.not_lt_zero _)
  | x :: nm, n + 1, i, [], _, _, _, _, _, h, _ => by simp at h
  | x :: nm, n + 1, 0, v' :: vs, f, y, nd, h1, h2, _, _ => by
    simp at h1
    subst h1
    show putF x y ((x, v') :: ((nm.take n).zip vs)) = (x, y) :: ((nm.take n).zip vs)
    unfold putF
    rw [if_pos rfl]
  | x :: nm, n + 1, i + 1, v' :: vs, f, y, nd, h1, h2, h3, h4 => by
    have h1 : nm[i]? = some f := by simpa using h1
    have nx : ¬ x = f := fun e => (List.nodup_cons.mp nd).1 (e ▸ List.mem_of_getElem? h1)
    show putF f y ((x, v') :: ((nm.take n).zip vs)) = (x, v') :: ((nm.take n).zip (vs.set i y))
    unfold putF
    rw [if_neg nx, putF_zip_set (List.nodup_cons.mp nd).2 h1 (Nat.lt_of_succ_lt_succ h2) (by simpa using h3) (by simpa using h4)]
theorem putF_zip_new : ∀ {nm : List Str} {n : Nat} {vs : List V} {f : Str} {y : V}, nm.Nodup → nm[n]? = some f → vs.length = n → putF f y ((nm.take n).zip vs) = (nm.take (n + 1)).zip (vs ++ [y])
  | [], _, _, _, _, _, h, _ => by simp at h
  | x :: nm, 0, [], f, y, nd, h1, _ => by
    simp at h1
    subst h1
    rfl
  | x :: nm, 0, _ :: _, _, _, _, _, h => by simp at h
  | x :: nm, n + 1, [], _, _, _, _, h => by simp at h
  | x :: nm, n + 1, v' :: vs, f, y, nd, h1, h3 => by
    have h1 : nm[n]? = some f := by simpa using h1
    have nx : ¬ x = f := fun e => (List.nodup_cons.mp nd).1 (e ▸ List.mem_of_getElem? h1)
    show putF f y ((x, v') :: ((nm.take n).zip vs)) = (x, v') :: ((nm.take (n + 1)).zip (vs ++ [y]))
    unfold putF
    rw [if_neg nx, putF_zip_new (List.nodup_cons.mp nd).2 h1 (by simpa using h3)]
theorem put_ins {nm : List Str} {l : List Dt} {vs : List V} {i : Nat} {f : Str} {y : V} {d : Dt} {k : List Dt → Prop} {C dx : Addr} (nd : nm.Nodup) (hf : nm[i]? = some f) (r : Reps K G l vs) (rd : Rep K G d y) (ln : l.length ≤ nm.length) (h : putAt l i d k) :
    ∃ l', k l' ∧ CRep K G (.ins C nm l') (.ins C dx (putF f y ((nm.take l.length).zip vs))) := by
  rcases putAt.of h with ⟨h1, h2⟩ | ⟨h1, h2⟩
  · refine ⟨_, h2, dx, vs.set i y, ?_, Reps.pair.mpr (Paired.setp rd i (Reps.pair.mp r)), by rw [List.length_set]; exact ln⟩
    rw [putF_zip_set nd hf h1 r.len.symm ln, List.length_set]
  · subst h1
    refine ⟨_, h2, dx, vs ++ [y], ?_, Reps.pair.mpr (Paired.app (Reps.pair.mp r) (.cons rd .nil)), ?_⟩
    · rw [putF_zip_new nd hf r.len.symm, List.length_append]
      rfl
    · have := (List.getElem?_eq_some_iff.mp hf).1
      rw [List.length_append]
      exact this
variable {Z H : Hp} {S : Store} {v : V} {d : Dt} {C : Addr} {nm : List Str}
theorem seeO_of (g : Good K Z H S) (r : Rep K (out H S Z) d v) {k : List Dt → Prop} (h : seeO C nm d S k) : ∃ a dx vs l, v = .ref a ∧ H a = some (.ins C dx ((nm.take l.length).zip vs)) ∧ Reps K (out H S Z) l vs ∧ l.length ≤ nm.length ∧ k l := by
  cases d with
  | obj C' nm' l =>
    obtain ⟨⟨rfl, rfl⟩, h⟩ := h
    obtain ⟨a, dx, vs, rfl, h1, h2, h3⟩ := r
    exact ⟨a, dx, vs, l, rfl, out_le h1, h2, h3, h⟩
  | ref a =>
    obtain ⟨l, h1, h2⟩ := h
    obtain ⟨o, h3, dx, vs, rfl, h4, h5⟩ := g.c a _ h1
    exact ⟨a, dx, vs, l, r, h3, h4, h5, h2⟩
  | _ => exact h.elim
theorem zip_len {l : List Dt} {vs : List V} (r : Reps K G l vs) (h : nm.length < 1000) : ((nm.take l.length).zip vs).length < 1000 := by
  rw [List.length_zip, List.length_take]
  omega
end
section
variable {X : Cx} {K : PySem.W.Frag} {E : XK} {e : DX} {pos pos' apos cpos p2 tpos : Pos} {a b c o ex value : Expr} {es rest : List Expr} {da db dc dw : DTE} {ta tb : DTT} {ts : DTA} {C : Addr} {nm : List Str} {f : Str} {i : Nat}
theorem de_fld (hK : X.K = K) (F : FldI K C nm f i) (ha : PE X o (tD K E e da)) (hb : attributeBase o f X.env (eval o X.env) = eval o X.env := by rfl) : PE X (.Attribute o f pos) (tD K E e (dFld C nm i da)) := PE.imp (pe_fldK hK ha hb) fun σ H Q h => by
  obtain ⟨δ, S, Z, q, t, h, k⟩ := h
  refine ⟨δ, S, Z, _, t, h, fun v x H1 S1 g1 x1 r1 h1 => ?_⟩
  obtain ⟨a, dx, vs, l, rfl, h2, h3, h4, h5⟩ := seeO_of g1 r1 h1
  obtain ⟨d, h6, h7⟩ := dAtN.get h5
  obtain ⟨v', h8, h9⟩ := Paired.get (Reps.pair.mp h3) h6
  exact ⟨a, C, dx, _, v', rfl, h2, F.cls, F.no, lookup_zip F.nd F.at' h8 (List.getElem?_eq_some_iff.mp h6).1, (k.ext x1).here g1 h7 h9⟩
theorem ds_fld (hK : X.K = K) (F : FldI K C nm f i) (ha : PE X o (tD K E e da)) (hv : PE X value (tD K E e dw)) (hs : swapsWith value (some (.Attribute o f pos')) pos.line X.env = pure false := by rfl) :
    PS X (.Assign [.Attribute o f pos'] value pos) (tDS K E e (dSetF C nm i da dw)) := PS.imp (ps_fldK hK ha hv hs) fun D σ H h => by
  obtain ⟨δ, S, Z, DD, t, h, k⟩ := h
  refine ⟨δ, S, Z, _, t, h, fun v x H1 S1 g1 x1 r1 h1 => ⟨δ, S1, Z, _, t.to g1 x1, h1, fun w y H2 S2 g2 x2 r2 h2 => ?_⟩⟩
  cases y with
  | ref a =>
    obtain ⟨l, h3, h4⟩ := h2
    obtain ⟨ob, h5, dx, vs, rfl, h6, h7⟩ := g2.c a _ h3
    obtain ⟨l', h8, h9⟩ := put_ins (C := C) (dx := dx) F.nd F.at' h6 (Rep.ext x2 _ _ r1) h7 h4
    refine ⟨a, C, dx, _, r2, h5, F.cls, F.no, zip_len h6 F.few, ?_⟩
    have xx := x1.trans x2
    exact k.nx _ _ _ _ (g2.mut h3 h9) (by rw [out_mut h3]; exact xx) (by rw [out_mut h3]; exact t.sl.ext xx) h8
  | _ => exact h2.elim
theorem ds_fldaug (hK : X.K = K) (F : FldI K C nm f i) {op : Operator} {dr : D2} (ho : InOp X op (rD K dr)) (ha : PE X o (tD K E e da)) (hv : PE X value (tD K E e dw)) :
    PS X (.AugAssign (.Attribute o f tpos) op value pos) (tDS K E e (dAugF C nm i dr da dw)) := PS.imp (ps_fldaugK hK ha hv ho) fun D σ H h => by
  obtain ⟨δ, S, Z, DD, t, h, k⟩ := h
  refine ⟨δ, S, Z, _, t, h, fun v x H1 S1 g1 x1 r1 h1 => ?_⟩
  cases x with
  | ref a =>
    obtain ⟨l, h3, h4⟩ := h1
    obtain ⟨ob, h5, dx, vs, rfl, h6, h7⟩ := g1.c a _ h3
    obtain ⟨d, h8, h9⟩ := dAtN.get h4
    obtain ⟨v', h10, h11⟩ := Paired.get (Reps.pair.mp h6) h8
    refine ⟨a, C, dx, _, v', r1, h5, F.cls, F.no, lookup_zip F.nd F.at' h10 (List.getElem?_eq_some_iff.mp h8).1, δ, S1, Z, _, t.to g1 x1, h9, fun w y H2 S2 g2 x2 r2 h12 => ?_⟩
    refine ⟨d, y, S2, Z, _, g2, Rep.ext x2 _ _ h11, r2, h12, fun u z H3 S3 g3 x3 r3 h13 => ?_⟩
    obtain ⟨l', h14, h15⟩ := h13
    obtain ⟨ob, h16, dx', vs', rfl, h17, h18⟩ := g3.c a _ h14
    obtain ⟨l'', h19, h20⟩ := put_ins (C := C) (dx := dx') F.nd F.at' h17 r3 h18 h15
    have xx := x1.trans (x2.trans x3)
    exact ⟨dx', _, h16, zip_len h17 F.few, k.nx _ _ _ _ (g3.mut h14 h20) (by rw [out_mut h14]; exact xx) (by rw [out_mut h14]; exact t.sl.ext xx) h19⟩
  | _ => exact h1.elim
end
/-! ## calls of what is built in -/
abbrev DCr := List Dt → Store → DK → Prop
def rDC (K : PySem.W.Frag) (dr : DCr) : List V → Hp → VK → Prop := fun xs H Q => ∃ ds S Z q, Good K Z H S ∧ Reps K (out H S Z) ds xs ∧ dr ds S q ∧ Ty K Z H S q Q
@[reducible] def dCB (dr : DCr) (t : DTA) : DTE := fun δ S q => t δ S fun xs S1 => dr xs S1 q
abbrev DMr := Dt → List Dt → Store → DK → Prop
def rDM (K : PySem.W.Frag) (dr : DMr) : V → List V → Hp → VK → Prop := fun x xs H Q => ∃ d ds S Z q, Good K Z H S ∧ Rep K (out H S Z) d x ∧ Reps K (out H S Z) ds xs ∧ dr d ds S q ∧ Ty K Z H S q Q
@[reducible] def isTx (x : Dt) (S : Store) (A : Prop) : Prop := match x with
  | .str _ => A
  | _ => False
@[reducible] def isLs (x : Dt) (S : Store) (A : Prop) : Prop := match x with
  | .lst _ => A
  | .ref a => ∃ l, S a = some (.lst l) ∧ A
  | _ => False
@[reducible] def dMt (is : Dt → Store → Prop → Prop) (dr : DMr) (o : DTE) (t : DTA) : DTE := fun δ S q => o δ S fun x S1 => is x S1 (t δ S1 fun xs S2 => dr x xs S2 q)
def IsTyp (K : PySem.W.Frag) (T : String) (is : Dt → Store → Prop → Prop) : Prop := ∀ (Z H : Hp) (S : Store) (d : Dt) (v : V) (A : Prop), Good K Z H S → Rep K (out H S Z) d v → is d S A → tyV K T v H ∧ A
theorem is_tx {K : PySem.W.Frag} : IsTyp K "str" isTx := fun Z H S d v A g r h => by
  cases d with
  | str z => rw [r.1]; exact ⟨rfl, h⟩
  | _ => exact h.elim
theorem is_ls {K : PySem.W.Frag} : IsTyp K "list" isLs := fun Z H S d v A g r h => by
  cases d with
  | lst l => obtain ⟨a, vs, rfl, h1, h2⟩ := r; exact ⟨.inl ⟨rfl, _, SqL.of (out_le h1)⟩, h⟩
  | ref a =>
    obtain ⟨l, h1, h2⟩ := h
    obtain ⟨o, h3, vs, rfl, h4⟩ := g.c a _ h1
    rw [show v = _ from r]
    exact ⟨.inl ⟨rfl, _, SqL.of h3⟩, h2⟩
  | _ => exact h.elim
section
variable {X : Cx} {K : PySem.W.Frag} {E : XK} {e : DX} {pos p apos cpos : Pos} {a o : Expr} {es : List Expr} {da : DTE} {ts : DTA} {dr : DCr} {dm : DMr} {x name : Str} {id T : String} {is : Dt → Store → Prop → Prop}
theorem tD_cb {σ : L2.St} {H : Hp} {Q : VK} (h : tD K E e (dCB dr ts) σ H Q) : tDA K E e ts σ H fun xs H1 => rDC K dr xs H1 Q := by
  obtain ⟨δ, S, Z, q, t, h, k⟩ := h
  exact ⟨δ, S, Z, _, t, h, fun vs ds H1 S1 g1 x1 r1 h1 => ⟨ds, S1, Z, q, g1, r1, h1, k.ext x1⟩⟩
theorem de_callB (hc : CallR X (.builtin id) (rDC K dr)) (hg : Gl X x) (hm : X.mg x = none) (hv : bootBuiltins x = some (.builtin id)) (ha : PA X (a :: es) (tDA K E e ts)) (hn : x ≠ "__name__" := by decide +kernel) (hd : (x == ("__debug__" : Str)) = false := by decide)
    (he : starEach (a :: es) X.env = (false, eval a X.env) :: starEach es X.env := by rfl) (hpl : (backTo pos (starEach es X.env)).any (·.1) = false := by rfl) :
    PE X (.Call (.Name x p) (a :: es) [] pos) (tD K E e (dCB dr ts)) := PE.imp (pe_callB hc hg hm hv ha hn hd he hpl) fun σ H Q h => tD_cb h
theorem de_callTy (hc : CallR X (.type T) (rDC K dr)) (hg : Gl X x) (hm : X.mg x = none) (hv : bootBuiltins x = some (.type T)) (ha : PA X (a :: es) (tDA K E e ts)) (hn : x ≠ "__name__" := by decide +kernel) (hd : (x == ("__debug__" : Str)) = false := by decide)
    (he : starEach (a :: es) X.env = (false, eval a X.env) :: starEach es X.env := by rfl) (hpl : (backTo pos (starEach es X.env)).any (·.1) = false := by rfl) :
    PE X (.Call (.Name x p) (a :: es) [] pos) (tD K E e (dCB dr ts)) := PE.imp (pe_callTy hc hg hm hv ha hn hd he hpl) fun σ H Q h => tD_cb h
theorem tD_mt (hi : IsTyp K T is) {σ : L2.St} {H : Hp} {Q : VK} (h : tD K E e (dMt is dm da ts) σ H Q) : tBM K T (rDM K dm) (tD K E e da) (tDA K E e ts) σ H Q := by
  obtain ⟨δ, S, Z, q, t, h, k⟩ := h
  refine ⟨δ, S, Z, _, t, h, fun v x H1 S1 g1 x1 r1 h1 => ?_⟩
  obtain ⟨h2, h3⟩ := hi Z H1 S1 x v _ g1 r1 h1
  exact ⟨h2, δ, S1, Z, _, t.to g1 x1, h3, fun vs ds H2 S2 g2 x2 r2 h4 => ⟨x, ds, S2, Z, q, g2, Rep.ext x2 _ _ r1, r2, h4, k.ext (x1.trans x2)⟩⟩
theorem de_bm (hK : X.K = K) (hi : IsTyp K T is) (pa : PlainAttrs T) (slot : Slot T name id) (hty : typeOf (.builtin id) = pure (.type "method_descriptor")) (hm : MtR X id (rDM K dm)) (ho : PE X o (tD K E e da)) (ha : PA X (a :: es) (tDA K E e ts))
    (hbase : attributeBase o name X.env (eval o X.env) = eval o X.env := by rfl)
    (hfew : ((backTo cpos (starEach (a :: es) X.env)).all (fun x => !x.1) && (backToKw cpos (keywordEach [] X.env)).all (fun x => x.1.isSome)
      && decide ((a :: es).length + ([] : List Keyword).length + (if ([] : List Keyword).isEmpty then 0 else 1) < 30)) = true := by rfl)
    (hline : (apos.endLine == cpos.line) = true := by rfl) (hs : starEach (a :: es) X.env = (false, eval a X.env) :: starEach es X.env := by rfl) (hplain : (backTo cpos (starEach es X.env)).any (·.1) = false := by rfl) :
    PE X (.Call (.Attribute o name apos) (a :: es) [] cpos) (tD K E e (dMt is dm da ts)) := by
  subst hK
  exact PE.imp (pe_bm pa slot hty hm ho ha hbase hfew hline hs hplain) fun σ H Q h => tD_mt hi h
@[reducible] def dMt0 (is : Dt → Store → Prop → Prop) (dr : DMr) (o : DTE) : DTE := fun δ S q => o δ S fun x S1 => is x S1 (dr x [] S1 q)
theorem de_bm0 (hK : X.K = K) (hi : IsTyp K T is) (pa : PlainAttrs T) (slot : Slot T name id) (hty : typeOf (.builtin id) = pure (.type "method_descriptor")) (hm : MtR X id (rDM K dm)) (ho : PE X o (tD K E e da))
    (hbase : attributeBase o name X.env (eval o X.env) = eval o X.env := by rfl) (hline : (apos.endLine == cpos.line) = true := by rfl) : PE X (.Call (.Attribute o name apos) [] [] cpos) (tD K E e (dMt0 is dm da)) := by
  subst hK
  refine PE.imp (pe_bm0 pa slot hty hm ho hbase hline) fun σ H Q h => ?_
  obtain ⟨δ, S, Z, q, t, h, k⟩ := h
  refine ⟨δ, S, Z, _, t, h, fun v x H1 S1 g1 x1 r1 h1 => ?_⟩
  obtain ⟨h2, h3⟩ := hi Z H1 S1 x v _ g1 r1 h1
  exact ⟨h2, x, [], S1, Z, q, g1, r1, rfl, h3, k.ext x1⟩
end
end Dn

namespace Dn
open PySem PySem.Spec PyProof.Rows L2 Pr
/-! ## statements -/
@[reducible] def dSeq (t u : DTS) : DTS := fun D δ S => t { D with nx := u D } δ S
@[reducible] def dNext : DTS := fun D δ S => D.nx δ S
@[reducible] def dBreak : DTS := fun D δ S => D.bk δ S
@[reducible] def dCont : DTS := fun D δ S => D.ct δ S
@[reducible] def dDrop (a : DTE) : DTS := fun D δ S => a δ S fun _ S1 => D.nx δ S1
@[reducible] def dRet (a : DTE) : DTS := fun D δ S => a δ S D.rt
@[reducible] def dRetN : DTS := fun D _ S => D.rt .non S
@[reducible] def dIf (c : DTT) (t u : DTS) : DTS := fun D δ S => c δ S fun b S1 => Ift b (t D δ S1) (u D δ S1)
@[reducible] def dRaise (e : DX) (C : Addr) : DTS := fun _ _ S => e C S
abbrev DTG := Dt → DS → Store → (DS → Store → Prop) → Prop
abbrev DTGs := List Dt → DS → Store → (DS → Store → Prop) → Prop
@[reducible] def dName (i : Nat) : DTG := fun x δ S n => n (putS δ i x) S
@[reducible] def dGNil : DTGs := fun l δ S n => match l with
  | [] => n δ S
  | _ => False
@[reducible] def dGCons (t : DTG) (u : DTGs) : DTGs := fun l δ S n => match l with
  | d :: r => t d δ S fun δ' S' => u r δ' S' n
  | [] => False
@[reducible] def LenIs : List Dt → Nat → Prop → Prop
  | [], n, A => match n with
    | 0 => A
    | _ + 1 => False
  | _ :: l, n, A => match n with
    | 0 => False
    | k + 1 => LenIs l k A
theorem LenIs.len : ∀ {l : List Dt} {n : Nat} {A : Prop}, LenIs l n A → l.length = n ∧ A
  | [], 0, _, h => ⟨rfl, h⟩
  | _ :: l, n + 1, A, h => by
    obtain ⟨h1, h2⟩ := LenIs.len (l := l) (n := n) h
    exact ⟨congrArg (· + 1) h1, h2⟩
  | [], _ + 1, _, h => h.elim
  | _ :: _, 0, _, h => h.elim
@[reducible] def dGTup (n : Nat) (t : DTGs) : DTG := fun x δ S m => match x with
  | .tup l => LenIs l n (t l δ S m)
  | _ => False
/-- o[i] = .. -/
@[reducible] def dGSubL (o i : DTE) : DTG := fun v δ S n => o δ S fun x S1 => i δ S1 fun y S2 => match x, y with
  | .ref a, .int k => ∃ l, S2 a = some (.lst l) ∧ ∃ j, ixN l.length k = some j ∧ n δ (sput S2 a (.lst (l.set j v)))
  | _, _ => False
@[reducible] def dGSubD (o i : DTE) : DTG := fun v δ S n => o δ S fun x S1 => i δ S1 fun y S2 => match x with
  | .ref a => keyOf y fun k => ∃ l, S2 a = some (.dic l) ∧ l.length < sizeLine ∧ n δ (sput S2 a (.dic (kPut l k v)))
  | _ => False
@[reducible] def dAsg (a : DTE) (g : DTG) : DTS := fun D δ S => a δ S fun x S1 => g x δ S1 D.nx
def tDG (K : PySem.W.Frag) (E : XK) (e : DX) (g : DTG) : TG := fun v σ H N => ∃ x δ S Z n, At K E e Z H S σ δ ∧ Rep K (out H S Z) x v ∧ g x δ S n ∧ ∀ σ' δ' H' S', Good K Z H' S' → Ext (out H S Z) (out H' S' Z) → Slots K (out H' S' Z) σ' δ' → n δ' S' → N σ' H'
def tDGs (K : PySem.W.Frag) (E : XK) (e : DX) (g : DTGs) : TGs := fun vs σ H N => ∃ xs δ S Z n, At K E e Z H S σ δ ∧ Reps K (out H S Z) xs vs ∧ g xs δ S n ∧ ∀ σ' δ' H' S', Good K Z H' S' → Ext (out H S Z) (out H' S' Z) → Slots K (out H' S' Z) σ' δ' → n δ' S' → N σ' H'
/-! ## what is walked -/
abbrev DTL := DS → Store → (List Dt → (Store → Prop) → Store → Prop) → Prop
structure ItOk (K : PySem.W.Frag) (G : Hp) (J : It) (l : List Dt) (keep : Store → Prop) : Prop where
  go : ∀ Z i H S, Good K Z H S → Ext G (out H S Z) → keep S → i < l.length → J.go i H
  stop : ∀ Z H S, Good K Z H S → Ext G (out H S Z) → keep S → J.stop l.length H
  yld : ∀ Z i H S x H', Good K Z H S → Ext G (out H S Z) → keep S → i < l.length → J.yld i H x H' → ∃ d, l[i]? = some d ∧ Good K Z H' S ∧ Ext (out H S Z) (out H' S Z) ∧ Rep K (out H' S Z) d x
def tDI (K : PySem.W.Frag) (E : XK) (e : DX) (it : DTL) : TI := fun σ H R => ∃ δ S Z q, At K E e Z H S σ δ ∧ it δ S q ∧ ∀ l keep H' S' J, Good K Z H' S' → Ext (out H S Z) (out H' S' Z) → ItOk K (out H' S' Z) J l keep → q l keep S' → R J H'
@[reducible] def dItL (a : DTE) : DTL := fun δ S q => a δ S fun x S1 => match x with
  | .lst l => q l (fun _ => True) S1
  | .tup l => q l (fun _ => True) S1
  | .ref a => ∃ l, S1 a = some (.lst l) ∧ q l (fun S => S a = some (.lst l)) S1
  | _ => False
@[reducible] def dItT (a : DTE) : DTL := fun δ S q => a δ S fun x S1 => match x with
  | .tup l => q l (fun _ => True) S1
  | _ => False
@[reducible] def dItLs (a : DTE) : DTL := fun δ S q => a δ S fun x S1 => match x with
  | .lst l => q l (fun _ => True) S1
  | .ref a => ∃ l, S1 a = some (.lst l) ∧ q l (fun S => S a = some (.lst l)) S1
  | _ => False
def rangeD (lo : Int) (n : Nat) : List Dt := (List.range n).map fun (i : Nat) => Dt.int (lo + i)
@[reducible] def dItR1 (t : DTA) : DTL := fun δ S q => t δ S fun xs S1 => match xs with
  | [.int n] => (-(2 ^ 62) ≤ n ∧ n < 2 ^ 62) ∧ q (rangeD 0 n.toNat) (fun _ => True) S1
  | _ => False
@[reducible] def dItR2 (t : DTA) : DTL := fun δ S q => t δ S fun xs S1 => match xs with
  | [.int lo, .int hi] => (-(2 ^ 62) ≤ lo ∧ lo < 2 ^ 62 ∧ -(2 ^ 62) ≤ hi ∧ hi < 2 ^ 62) ∧ q (rangeD lo (hi - lo).toNat) (fun _ => True) S1
  | _ => False
def enumD (l : List Dt) : List Dt := (List.range l.length).zipWith (fun (i : Nat) d => Dt.tup [.int i, d]) l
@[reducible] def dItE (t : DTA) : DTL := fun δ S q => t δ S fun xs S1 => match xs with
  | [.lst l] => q (enumD l) (fun _ => True) S1
  | [.ref a] => ∃ l, S1 a = some (.lst l) ∧ q (enumD l) (fun S => S a = some (.lst l)) S1
  | _ => False
def zipD (l m : List Dt) : List Dt := l.zipWith (fun x y => Dt.tup [x, y]) m
@[reducible] def dItZ (t : DTA) : DTL := fun δ S q => t δ S fun xs S1 => match xs with
  | [x, y] => seeLk x S1 fun l k1 => seeLk y S1 fun m k2 => q (zipD l m) (fun S => k1 S ∧ k2 S) S1
  | _ => False
where
  seeLk (x : Dt) (S : Store) (k : List Dt → (Store → Prop) → Prop) : Prop := match x with
  | .lst l => k l fun _ => True
  | .ref a => ∃ l, S a = some (.lst l) ∧ k l fun S => S a = some (.lst l)
  | _ => False
def signsD (z : Str) : List Dt := z.cps.toList.map fun c => Dt.str ⟨#[c]⟩
@[reducible] def dItS (a : DTE) : DTL := fun δ S q => a δ S fun x S1 => match x with
  | .str z => q (signsD z) (fun _ => True) S1
  | _ => False
/-- the keys, the values, the items of a dict that is locked -/
def keyD : Key → Dt
  | .inl i => .int i
  | .inr z => .str z
@[reducible] def seeLck (x : Dt) (S : Store) (k : List (Key × Dt) → (Store → Prop) → Prop) : Prop := match x with
  | .ref a => ∃ o l, S a = some (.lck o l) ∧ k l fun S => S a = some (.lck o l)
  | _ => False
@[reducible] def dItK (a : DTE) : DTL := fun δ S q => a δ S fun x S1 => seeLck x S1 fun l keep => q (l.map fun p => keyD p.1) keep S1
@[reducible] def dItV (a : DTE) : DTL := fun δ S q => a δ S fun x S1 => seeLck x S1 fun l keep => q (l.map fun p => p.2) keep S1
@[reducible] def dItI (a : DTE) : DTL := fun δ S q => a δ S fun x S1 => seeLck x S1 fun l keep => q (l.map fun p => .tup [keyD p.1, p.2]) keep S1
/-! ## loops -/
def dFor (it : DTL) (g : DTG) (b : DTS) : DTS := fun D δ S => it δ S fun l keep S1 => ∃ I : Nat → DS → Store → Prop, I 0 δ S1 ∧ (∀ i δ S, i ≤ l.length → I i δ S → keep S) ∧
  (∀ i d δ S, l[i]? = some d → I i δ S → g d δ S fun δ' S' => b { D with nx := I (i + 1), ct := I (i + 1), bk := D.nx } δ' S') ∧ ∀ δ S, I l.length δ S → D.nx δ S
def dWhile (c : DTT) (b : DTS) : DTS := fun D δ S => ∃ I : Nat → DS → Store → Prop, (∃ m, I m δ S) ∧ ∀ m δ S, I m δ S →
  c δ S fun k S1 => Ift k (b { D with nx := fun δ S => ∃ m', m' < m ∧ I m' δ S, ct := fun δ S => ∃ m', m' < m ∧ I m' δ S, bk := D.nx } δ S1) (D.nx δ S1)
/-- a dict is walked -/
def dLock (t : DTS) : DTS := fun D δ S => ∃ a l, S a = some (.dic l) ∧ ∀ o, t ⟨fun δ' S' => S' a = some (.lck o l) ∧ D.nx δ' (sput S' a (.dic l)), fun v S' => S' a = some (.lck o l) ∧ D.rt v (sput S' a (.dic l)), fun δ' S' => S' a = some (.lck o l) ∧ D.bk δ' (sput S' a (.dic l)), fun δ' S' => S' a = some (.lck o l) ∧ D.ct δ' (sput S' a (.dic l))⟩ δ (sput S a (.lck o l))
def dLockE (t : DTE) : DTE := fun δ S q => ∃ a l, S a = some (.dic l) ∧ ∀ o, t δ (sput S a (.lck o l)) fun v S' => S' a = some (.lck o l) ∧ q v (sput S' a (.dic l))
/-! ## comprehensions -/
@[reducible] def wipesS : DS → List Nat → DS
  | δ, [] => δ
  | δ, v :: vs => wipeS (wipesS δ vs) v
@[reducible] def dYes : DTT := fun _ S q => q true S
def dLc (it : DTL) (g : DTG) (w : List Nat) (tt : DTT) (te : DTE) (q : List Dt → Store → Prop) : DS → Store → Prop := fun δ S => it δ S fun l keep S1 => l.length < sizeLine ∧ ∃ I : Nat → List Dt → Store → Prop, I 0 [] S1 ∧ (∀ i acc S, i ≤ l.length → I i acc S → keep S) ∧
  (∀ i d acc S, l[i]? = some d → I i acc S → g d (wipesS δ w) S fun δ' S' => tt δ' S' fun b S2 => Ift b (te δ' S2 fun y S3 => I (i + 1) (acc ++ [y]) S3) (I (i + 1) acc S2)) ∧ ∀ acc S, I l.length acc S → q acc S
@[reducible] def dLcF (it : DTL) (g : DTG) (w : List Nat) (tt : DTT) (te : DTE) : DTE := fun δ S q => dLc it g w tt te (fun l S' => q (.lst l) S') δ S
@[reducible] def dLcO (it : DTL) (g : DTG) (w : List Nat) (tt : DTT) (te : DTE) : DTE := fun δ S q => dLc it g w tt te (fun l S' => ∀ p, S' p = none → q (.ref p) (sput S' p (.lst l))) δ S
section
variable {X : Cx} {K : PySem.W.Frag} {E : XK} {e : DX} {pos pos' apos cpos p2 tpos : Pos} {a b c o ex value tg : Expr} {es rest : List Expr} {da db dc dw : DTE} {ta tb : DTT} {ts : DTA} {st : Stmt} {sts sts' : List Stmt} {dt du : DTS} {g : DTG} {gs : DTGs} {it : DTL}
theorem dss_cons (h1 : PS X st (tDS K E e dt)) (h2 : PSs X sts (tDS K E e du)) : PSs X (st :: sts) (tDS K E e (dSeq dt du)) := PSs.imp (pss_cons h1 h2) fun D σ H h => by
  obtain ⟨δ, S, Z, DD, t, h, k⟩ := h
  exact ⟨δ, S, Z, _, t, h, fun σ' δ' H' S' g x s h' => ⟨δ', S', Z, DD, ⟨g, s, t.lk.ext x⟩, h', k.ext x⟩, k.rt, k.bk, k.ct⟩
theorem dss_one (h1 : PS X st (tDS K E e dt)) : PSs X [st] (tDS K E e dt) := pss_one h1
theorem dss_nil : PSs X [] (tDS K E e dNext) := PSs.imp pss_nil fun D σ H h => by
  obtain ⟨δ, S, Z, DD, t, h, k⟩ := h
  exact k.nx _ _ _ _ t.good Ext.refl t.sl h
theorem ds_pass : PS X (.Pass pos) (tDS K E e dNext) := PS.imp ps_pass fun D σ H h => by
  obtain ⟨δ, S, Z, DD, t, h, k⟩ := h
  exact k.nx _ _ _ _ t.good Ext.refl t.sl h
theorem ds_doc {x j} : PS X (.Expr (.Constant (.str x) j pos) pos') (tDS K E e dNext) := PS.imp ps_doc fun D σ H h => by
  obtain ⟨δ, S, Z, DD, t, h, k⟩ := h
  exact k.nx _ _ _ _ t.good Ext.refl t.sl h
theorem ds_break : PS X (.Break pos) (tDS K E e dBreak) := PS.imp ps_break fun D σ H h => by
  obtain ⟨δ, S, Z, DD, t, h, k⟩ := h
  exact k.bk _ _ _ _ t.good Ext.refl t.sl h
theorem ds_continue : PS X (.Continue pos) (tDS K E e dCont) := PS.imp ps_continue fun D σ H h => by
  obtain ⟨δ, S, Z, DD, t, h, k⟩ := h
  exact k.ct _ _ _ _ t.good Ext.refl t.sl h
theorem ds_expr (he : PE X ex (tD K E e da)) (hs : swapsWith ex none pos.line X.env = pure false := by rfl) : PS X (.Expr ex pos) (tDS K E e (dDrop da)) := PS.imp (ps_expr he hs) fun D σ H h => by
  obtain ⟨δ, S, Z, DD, t, h, k⟩ := h
  exact ⟨δ, S, Z, _, t, h, fun v x H1 S1 g1 x1 r1 h1 => k.nx _ _ _ _ g1 x1 (t.sl.ext x1) h1⟩
theorem ds_ret (he : PE X ex (tD K E e da)) : PS X (.Return (some ex) pos) (tDS K E e (dRet da)) := PS.imp (ps_ret he) fun D σ H h => by
  obtain ⟨δ, S, Z, DD, t, h, k⟩ := h
  exact ⟨δ, S, Z, _, t, h, fun v x H1 S1 g1 x1 r1 h1 => k.rt _ _ _ _ g1 x1 r1 h1⟩
theorem ds_retN : PS X (.Return none pos) (tDS K E e dRetN) := PS.imp ps_retN fun D σ H h => by
  obtain ⟨δ, S, Z, DD, t, h, k⟩ := h
  exact k.rt _ .non _ _ t.good Ext.refl rfl h
theorem ds_if (hc : PT X c (tDT K E e ta)) (h1 : PSs X sts (tDS K E e dt)) (h2 : PSs X sts' (tDS K E e du)) : PS X (.If c sts sts' pos) (tDS K E e (dIf ta dt du)) := PS.imp (ps_if hc h1 h2) fun D σ H h => by
  obtain ⟨δ, S, Z, DD, t, h, k⟩ := h
  refine ⟨δ, S, Z, _, t, h, fun b H1 S1 g1 x1 h1 => ?_⟩
  cases b with
  | true => exact iteT ⟨δ, S1, Z, DD, t.to g1 x1, h1, k.ext x1⟩
  | false => exact iteF ⟨δ, S1, Z, DD, t.to g1 x1, h1, k.ext x1⟩
theorem ds_raise {W : WX} {B : String} {t : L2.St → Hp → XK → Prop} {C : Addr} (hc : X.calm = true) (tk : Takes X W) (hW : ∀ cls d σ H, E cls d H → W cls d σ H) (he : PMk X ex fun σ H Q => Q (.ref C) none H) : PS X (.Raise (some ex) none pos) (tDS K E e (dRaise e C)) := PS.imp (ps_raise hc tk he) fun D σ H h => by
  obtain ⟨δ, S, Z, DD, t, h, k⟩ := h
  exact hW _ _ _ _ (t.lk C H S t.good Ext.refl h)
/-! targets -/
theorem dg_name {i : Nat} {x : Str} (hN : X.N.Nodup) (hi : X.N[i]? = some x) (hx : Loc X.env.scope x) (hf : X.fn x = true ∨ X.env.scope.names.lookup x = some .local := by first | exact .inl rfl | exact .inr rfl | assumption) : PG X (.Name x pos) (tDG K E e (dName i)) := ⟨fun pins s σ H v u Q I r h => by
  refine (pg_name (pos := pos) hN hi hx hf).run pins s σ H v u Q I r ?_
  obtain ⟨x, δ, S, Z, n, t, rx, h, k⟩ := h
  exact k _ _ H S t.good Ext.refl (t.sl.put rx) h⟩
theorem dgs_nil : PGs X [] (tDGs K E e dGNil) := ⟨fun pins s σ H v u Q I r h => by
  refine pgs_nil.run pins s σ H v u Q I r ?_
  obtain ⟨x, δ, S, Z, n, t, rx, h, k⟩ := h
  cases x with
  | nil => exact ⟨rx, k σ δ H S t.good Ext.refl t.sl h⟩
  | cons _ _ => exact h.elim⟩
theorem dgs_cons (h1 : PG X a (tDG K E e g)) (h2 : PGs X es (tDGs K E e gs)) (hs : (assignEach (a :: es) X.env).map (·.2) = assign a X.env :: (assignEach es X.env).map (·.2) := by rfl) : PGs X (a :: es) (tDGs K E e (dGCons g gs)) := ⟨fun pins s σ H v u Q I r h => by
  refine (pgs_cons h1 h2 hs).run pins s σ H v u Q I r ?_
  obtain ⟨x, δ, S, Z, n, t, rx, h, k⟩ := h
  cases x with
  | nil => exact h.elim
  | cons d l =>
    obtain ⟨v1, vr, rfl, r1, r2⟩ := rx
    exact ⟨v1, vr, rfl, d, δ, S, Z, _, t, r1, h, fun σ' δ' H' S' g' x' s' h' => ⟨l, δ', S', Z, n, ⟨g', s', t.lk.ext x'⟩, Reps.ext x' _ _ r2, h', fun σ'' δ'' H'' S'' g'' x'' => k σ'' δ'' H'' S'' g'' (x'.trans x'')⟩⟩⟩
theorem dg_tup (hK : X.K = K) {k n : Nat} (hc : X.calm = true) (h : PGs X es (tDGs K E e gs)) (hn : (assignEach es X.env).length = n := by rfl) (hst : (assignEach es X.env).findIdx? (·.1) = none := by rfl) : PG X (.Tuple es k pos) (tDG K E e (dGTup n gs)) := ⟨fun pins s σ H v u Q I r h0 => by
  subst hK
  refine (pg_tup (k := k) (pos := pos) hc h hn hst).run pins s σ H v u Q I r ?_
  obtain ⟨x, δ, S, Z, m, t, rx, h1, k⟩ := h0
  cases x with
  | tup l =>
    obtain ⟨p, vs, rfl, hp, hl⟩ := rx
    obtain ⟨h2, h3⟩ := LenIs.len h1
    exact ⟨p, vs, rfl, SqT.out hp, by rw [← hl.len]; exact h2, l, δ, S, Z, m, t, hl, h3, k⟩
  | _ => exact h1.elim⟩
theorem dg_subL (ho : PE X o (tD K E e da)) (hi : PE X b (tD K E e db))
    (ha : ∀ v, assign (.Subscript o b pos) X.env v = (do
      let ov ← holding [v] (eval o X.env)
      let iv ← holding [v, ov] (eval b X.env)
      standAt pos
      holding [v, ov, iv] (setItem ov iv v)
      release [v, ov, iv] []) := by intro _; rfl) : PG X (.Subscript o b pos) (tDG K E e (dGSubL da db)) := ⟨fun pins s σ H v u Q I r h => by
  refine (pg_sub ho hi set_list ha).run pins s σ H v u Q I r ?_
  obtain ⟨x, δ, S, Z, n, t, rx, h, k⟩ := h
  refine ⟨δ, S, Z, _, t, h, fun v1 x1 H1 S1 g1 y1 r1 h1 => ⟨δ, S1, Z, _, t.to g1 y1, h1, fun v2 x2 H2 S2 g2 y2 r2 h2 => ?_⟩⟩
  cases x1 with
  | ref p =>
    cases x2 with
    | int j =>
      obtain ⟨l, h3, m, h4, h5⟩ := h2
      obtain ⟨ob, h6, vs, rfl, h7⟩ := g2.c p _ h3
      have cr : CRep K (out H2 S2 Z) (.lst (l.set m x)) (.lst (vs.set m v)) := ⟨_, rfl, Reps.pair.mpr (Paired.setp (Rep.ext (y1.trans y2) _ _ rx) m (Reps.pair.mp h7))⟩
      have xx := y1.trans y2
      exact ⟨p, vs, j, m, r1, r2, h6, by rw [← h7.len]; exact h4, k σ δ _ _ (g2.mut h3 cr) (by rw [out_mut h3]; exact xx) (by rw [out_mut h3]; exact t.sl.ext xx) h5⟩
    | _ => exact h2.elim
  | _ => exact h2.elim⟩
theorem dg_subD (hu : X.A.units + 1 < cLine) (ho : PE X o (tD K E e da)) (hi : PE X b (tD K E e db))
    (ha : ∀ v, assign (.Subscript o b pos) X.env v = (do
      let ov ← holding [v] (eval o X.env)
      let iv ← holding [v, ov] (eval b X.env)
      standAt pos
      holding [v, ov, iv] (setItem ov iv v)
      release [v, ov, iv] []) := by intro _; rfl) : PG X (.Subscript o b pos) (tDG K E e (dGSubD da db)) := ⟨fun pins s σ H v u Q I r h => by
  refine (pg_sub ho hi (set_dict hu) ha).run pins s σ H v u Q I r ?_
  obtain ⟨x, δ, S, Z, n, t, rx, h, k⟩ := h
  refine ⟨δ, S, Z, _, t, h, fun v1 x1 H1 S1 g1 y1 r1 h1 => ⟨δ, S1, Z, _, t.to g1 y1, h1, fun v2 x2 H2 S2 g2 y2 r2 h2 => ?_⟩⟩
  cases x1 with
  | ref p =>
    obtain ⟨key, rfl, ko, l, h3, h4, h5⟩ := keyOf_rep r2 h2
    obtain ⟨ob, h6, vs, rfl, h7⟩ := g2.c p _ h3
    have xx := y1.trans y2
    have cr : CRep K (out H2 S2 Z) (.dic (kPut l key x)) (.dK (putK vs key v)) := ⟨_, rfl, Repk.kr.mpr (KR.put (Repk.kr.mp h7) ko (Rep.ext xx _ _ rx))⟩
    exact ⟨p, _, r1, DPut.k h6 (by rw [← h7.len]; exact h4), k σ δ _ _ (g2.mut h3 cr) (by rw [out_mut h3]; exact xx) (by rw [out_mut h3]; exact t.sl.ext xx) h5⟩
  | _ => exact h2.elim⟩
theorem ds_asg (he : PE X ex (tD K E e da)) (hg : PG X tg (tDG K E e g)) (hs : swapsWithSole [tg] ex pos.line X.env = pure false := by rfl) (hw : swappedStores [tg] ex X.env = pure none := by rfl)
    (h1 : (assignEach [tg] X.env).map (·.2) = [assign tg X.env] := by rfl) : PS X (.Assign [tg] ex pos) (tDS K E e (dAsg da g)) := PS.imp (ps_asg he hg hs hw h1) fun D σ H h => by
  obtain ⟨δ, S, Z, DD, t, h, k⟩ := h
  exact ⟨δ, S, Z, _, t, h, fun v x H1 S1 g1 x1 r1 h1 => ⟨x, δ, S1, Z, _, t.to g1 x1, r1, h1, fun σ' δ' H' S' g' x' s' h' => k.nx σ' δ' H' S' g' (x1.trans x') s' h'⟩⟩
theorem ds_set {i : Nat} {x : Str} (hN : X.N.Nodup) (hi : X.N[i]? = some x) (hx : Loc X.env.scope x) (he : PE X ex (tD K E e da)) (hs : swapsWith ex (some (.Name x pos')) pos.line X.env = pure false := by rfl) (hf : X.fn x = true ∨ X.env.scope.names.lookup x = some .local := by first | exact .inl rfl | exact .inr rfl | assumption) :
    PS X (.Assign [.Name x pos'] ex pos) (tDS K E e (dAsg da (dName i))) := PS.imp (ps_set hN hi hx he hs hf) fun D σ H h => by
  obtain ⟨δ, S, Z, DD, t, h, k⟩ := h
  exact ⟨δ, S, Z, _, t, h, fun v x H1 S1 g1 x1 r1 h1 => k.nx _ _ _ _ g1 x1 ((t.sl.ext x1).put r1) h1⟩
/-- a, b = e1, e2 -/
@[reducible] def dPar (i j : Nat) (t : DTA) : DTS := fun D δ S => t δ S fun xs S1 => match xs with
  | [x, y] => D.nx (putS (putS δ i x) j y) S1
  | _ => False
theorem ds_par {i j : Nat} {x y : Str} {px py pt : Pos} {kt k2 pt2} (hc : X.calm = true) (hN : X.N.Nodup) (hi : X.N[i]? = some x) (hj : X.N[j]? = some y) (hij : i ≠ j)
    (hx : X.env.scope.names.lookup x = some .local) (hy : X.env.scope.names.lookup y = some .local) (ha : PA X [a, b] (tDA K E e ts))
    (hw : swappedStores [.Tuple [.Name x px, .Name y py] kt pt] (.Tuple [a, b] k2 pt2) X.env = pure (some [x, y]))
    (hs : swapsWithSole [.Tuple [.Name x px, .Name y py] kt pt] (.Tuple [a, b] k2 pt2) pos.line X.env = pure false := by rfl) :
    PS X (.Assign [.Tuple [.Name x px, .Name y py] kt pt] (.Tuple [a, b] k2 pt2) pos) (tDS K E e (dPar i j ts)) := PS.imp (ps_par hc hN hi hj hij hx hy ha hw hs) fun D σ H h => by
  obtain ⟨δ, S, Z, DD, t, h, k⟩ := h
  refine ⟨δ, S, Z, _, t, h, fun vs xs H1 S1 g1 x1 r1 h1 => ?_⟩
  match xs, h1 with
  | [x, y], h1 =>
    obtain ⟨v, _, rfl, rv, w, _, rfl, rw', rfl⟩ := r1
    exact ⟨v, w, rfl, k.nx _ _ _ _ g1 x1 (((t.sl.ext x1).put rv).put rw') h1⟩
/-- x op= e -/
@[reducible] def dAug (i : Nat) (dr : D2) (a : DTE) : DTS := fun D δ S => match look δ i with
  | some x => a δ S fun y S1 => dr x y S1 fun z S2 => D.nx (putS δ i z) S2
  | none => False
theorem ds_aug {i : Nat} {x : Str} {op : Operator} {dr : D2} (hN : X.N.Nodup) (hi : X.N[i]? = some x) (hx : Loc X.env.scope x) (he : PE X ex (tD K E e da)) (ho : PIp X op (rD K dr)) (hf : X.fn x = true ∨ X.env.scope.names.lookup x = some .local := by first | exact .inl rfl | exact .inr rfl | assumption) :
    PS X (.AugAssign (.Name x pos') op ex pos) (tDS K E e (dAug i dr da)) := PS.imp (ps_aug hN hi hx he ho hf) fun D σ H h => by
  obtain ⟨δ, S, Z, DD, t, h, k⟩ := h
  cases hl : look δ i with
  | none => simp only [dAug, hl] at h
  | some d =>
    simp only [dAug, hl] at h
    obtain ⟨v, h1, h2⟩ := t.sl.look hl
    refine ⟨v, h1, δ, S, Z, _, t, h, fun w y H1 S1 g1 x1 r1 h3 => ⟨d, y, S1, Z, _, g1, Rep.ext x1 _ _ h2, r1, h3, fun u z H2 S2 g2 x2 r2 h4 => ?_⟩⟩
    exact k.nx _ _ _ _ g2 (x1.trans x2) ((t.sl.ext (x1.trans x2)).put r2) h4
/-! loops -/
theorem ds_for {body : List Stmt} (hp : PassesOwn (model X.prog X.w) X.A X.env X.xe) (hc : X.calm = true) (hi : PI X tg ex (tDI K E e it)) (hg : PG X tg (tDG K E e g)) (hb : PSs X body (tDS K E e dt)) (hs : ∀ x, foldedSetIterable ex X.env x = pure x := by intro _; rfl) :
    PS X (.For tg ex body [] pos) (tDS K E e (dFor it g dt)) := PS.imp (ps_for hp hc hi hg hb hs) fun D σ H h => by
  obtain ⟨δ, S, Z, DD, t, h, k⟩ := h
  refine ⟨δ, S, Z, _, t, h, fun l keep H1 S1 J g1 x1 ok h1 => ?_⟩
  obtain ⟨I, h0, hk, hs, hd⟩ := h1
  have t1 := t.to g1 x1
  refine for_it (n := l.length) (G := fun H => ∃ S, Good K Z H S ∧ Ext (out H1 S1 Z) (out H S Z) ∧ keep S) (Y := fun i H x H' => J.yld i H x H') ⟨fun i H hi ⟨S, g, x, kp⟩ => ok.go Z i H S g x kp hi, fun H ⟨S, g, x, kp⟩ => ok.stop Z H S g x kp, fun i H x H' _ _ y => y⟩
    (fun i σ H => ∃ δ S, Good K Z H S ∧ Ext (out H1 S1 Z) (out H S Z) ∧ Slots K (out H S Z) σ δ ∧ I i δ S) ⟨δ, S1, g1, Ext.refl, t1.sl, h0⟩ (fun i σ H hi ⟨δ, S, g, x, s, q⟩ => ⟨S, g, x, hk i δ S hi q⟩) (fun i x σ H H' hi hh y => ?_) (fun σ H ⟨δ, S, g, x, s, q⟩ => k.nx _ _ _ _ g (x1.trans x) s (hd δ S q))
  obtain ⟨δ2, S2, g2, x2, s2, q2⟩ := hh
  obtain ⟨d, e1, g3, x3, r3⟩ := ok.yld Z i H S2 x H' g2 x2 (hk i δ2 S2 (Nat.le_of_lt hi) q2) hi y
  have x23 := x2.trans x3
  refine ⟨d, δ2, S2, Z, _, ⟨g3, s2.ext x3, t1.lk.ext x23⟩, r3, hs i d δ2 S2 e1 q2, fun σ' δ' H' S' g' x' s' h' => ⟨δ', S', Z, _, ⟨g', s', t1.lk.ext (x23.trans x')⟩, h', ?_⟩⟩
  have x4 := x23.trans x'
  exact ⟨fun σ δ H S g x s q => ⟨δ, S, g, x4.trans x, s, q⟩, fun v d H S g x r q => k.rt v d H S g (x1.trans (x4.trans x)) r q, fun σ δ H S g x s q => k.nx σ δ H S g (x1.trans (x4.trans x)) s q, fun σ δ H S g x s q => ⟨δ, S, g, x4.trans x, s, q⟩⟩
theorem ds_while {body : List Stmt} (hp : PassesOwn (model X.prog X.w) X.A X.env X.xe) (hc : PT X c (tDT K E e ta)) (hb : PSs X body (tDS K E e dt)) : PS X (.While c body [] pos) (tDS K E e (dWhile ta dt)) := PS.imp (ps_while hp hc hb) fun D σ H h => by
  obtain ⟨δ, S, Z, DD, t, ⟨I, ⟨m, h0⟩, hs⟩, k⟩ := h
  refine ⟨fun m σ H' => ∃ δ S', Good K Z H' S' ∧ Ext (out H S Z) (out H' S' Z) ∧ Slots K (out H' S' Z) σ δ ∧ I m δ S', ⟨m, δ, S, t.good, Ext.refl, t.sl, h0⟩, fun m σ H1 hh => ?_⟩
  obtain ⟨δ1, S1, g1, x1, s1, q1⟩ := hh
  refine ⟨δ1, S1, Z, _, ⟨g1, s1, t.lk.ext x1⟩, hs m δ1 S1 q1, fun b H2 S2 g2 x2 h2 => ?_⟩
  have x12 := x1.trans x2
  cases b with
  | false => exact iteF (k.nx _ _ _ _ g2 x12 (s1.ext x2) h2)
  | true =>
    refine iteT ⟨fun σ H' => ∃ m', m' < m ∧ ∃ δ S', Good K Z H' S' ∧ Ext (out H S Z) (out H' S' Z) ∧ Slots K (out H' S' Z) σ δ ∧ I m' δ S', fun σ' H' q => q, δ1, S2, Z, _, ⟨g2, s1.ext x2, t.lk.ext x12⟩, h2, ?_⟩
    exact ⟨fun σ δ H S g x s ⟨m', l, q⟩ => ⟨m', l, δ, S, g, x12.trans x, s, q⟩, fun v d H S g x r q => k.rt v d H S g (x12.trans x) r q, fun σ δ H S g x s q => k.nx σ δ H S g (x12.trans x) s q, fun σ δ H S g x s ⟨m', l, q⟩ => ⟨m', l, δ, S, g, x12.trans x, s, q⟩⟩
end
end Dn

namespace Dn
open PySem PySem.Spec PyProof.Rows L2 Pr
section
variable {K : PySem.W.Frag} {Z G : Hp}
theorem ok_lst {a : Addr} {vs : List V} {l : List Dt} (h : G a = some (.lst vs)) (r : Reps K G l vs) : ItOk K G (Itl K a) l (fun _ => True) :=
  ⟨fun Z i H S g x _ hi => by
    obtain ⟨v, hv⟩ : ∃ v, vs[i]? = some v := ⟨vs[i]'(by rw [← r.len]; exact hi), List.getElem?_eq_getElem _⟩
    exact ⟨vs, v, SqL.of (out_le (x.lst h)), hv⟩,
   fun Z H S g x _ => ⟨vs, SqL.of (out_le (x.lst h)), by rw [r.len]; exact Nat.le_refl _⟩,
   fun Z i H S x H' g e _ hi y => by
    obtain ⟨rfl, y⟩ := y
    have hv := y vs (SqL.of (out_le (e.lst h)))
    obtain ⟨d, h1, h2⟩ := Paired.get' (Reps.pair.mp r) hv
    exact ⟨d, h1, g, Ext.refl, Rep.ext e _ _ h2⟩⟩
theorem ok_tup {a : Addr} {vs : List V} {l : List Dt} (h : SqT K G a vs) (r : Reps K G l vs) : ItOk K G (Itt K a) l (fun _ => True) :=
  ⟨fun Z i H S g x _ hi => by
    obtain ⟨v, hv⟩ : ∃ v, vs[i]? = some v := ⟨vs[i]'(by rw [← r.len]; exact hi), List.getElem?_eq_getElem _⟩
    exact ⟨vs, v, SqT.out (x.tup h), hv⟩,
   fun Z H S g x _ => ⟨vs, SqT.out (x.tup h), by rw [r.len]; exact Nat.le_refl _⟩,
   fun Z i H S x H' g e _ hi y => by
    obtain ⟨rfl, y⟩ := y
    have hv := y vs (SqT.out (e.tup h))
    obtain ⟨d, h1, h2⟩ := Paired.get' (Reps.pair.mp r) hv
    exact ⟨d, h1, g, Ext.refl, Rep.ext e _ _ h2⟩⟩
/-- a list that is a cell, unchanged while it is walked -/
theorem ok_cell {a : Addr} {l : List Dt} : ItOk K G (Itl K a) l (fun S => S a = some (.lst l)) :=
  ⟨fun Z i H S g x kp hi => by
    obtain ⟨o, h1, vs, rfl, r⟩ := g.c a _ kp
    obtain ⟨v, hv⟩ : ∃ v, vs[i]? = some v := ⟨vs[i]'(by rw [← r.len]; exact hi), List.getElem?_eq_getElem _⟩
    exact ⟨vs, v, SqL.of h1, hv⟩,
   fun Z H S g x kp => by
    obtain ⟨o, h1, vs, rfl, r⟩ := g.c a _ kp
    exact ⟨vs, SqL.of h1, by rw [r.len]; exact Nat.le_refl _⟩,
   fun Z i H S x H' g e kp hi y => by
    obtain ⟨rfl, y⟩ := y
    obtain ⟨o, h1, vs, rfl, r⟩ := g.c a _ kp
    obtain ⟨d, h2, h3⟩ := Paired.get' (Reps.pair.mp r) (y vs (SqL.of h1))
    exact ⟨d, h2, g, Ext.refl, h3⟩⟩
theorem ok_range {lo : Int} {n : Nat} : ItOk K G (Itr lo n) (rangeD lo n) (fun _ => True) :=
  ⟨fun Z i H S g x _ hi => by
    unfold rangeD at hi
    rw [List.length_map, List.length_range] at hi
    exact hi,
   fun Z H S g x _ => by
    show n ≤ _
    unfold rangeD
    rw [List.length_map, List.length_range]
    exact Nat.le_refl _,
   fun Z i H S x H' g e _ hi y => by
    obtain ⟨rfl, rfl⟩ := y
    unfold rangeD at hi ⊢
    rw [List.length_map, List.length_range] at hi
    refine ⟨.int (lo + i), ?_, g, Ext.refl, rfl⟩
    rw [List.getElem?_map, List.getElem?_range hi]
    rfl⟩
theorem ok_str {z : Str} (h : SOk z) : ItOk K G (Its z) (signsD z) (fun _ => True) := by
  have w := walk_str (z := z)
  have hl : (signsD z).length = z.cps.size := by unfold signsD; rw [List.length_map, Array.length_toList]
  refine ⟨fun Z i H S g x _ hi => w.goes i H (by rw [← hl]; exact hi) trivial, fun Z H S g x _ => by rw [hl]; exact w.stops H trivial, fun Z i H S x H' g e _ hi y => ?_⟩
  obtain ⟨rfl, c, hc, rfl⟩ := w.yields i H x H' (by rw [← hl]; exact hi) trivial y
  refine ⟨.str ⟨#[c]⟩, ?_, g, Ext.refl, rfl, h.sign ?_⟩
  · unfold signsD
    rw [List.getElem?_map, Array.getElem?_toList, hc]
    rfl
  · exact Array.mem_toList_iff.mpr (Array.mem_of_getElem? hc)
theorem enumD_len (l : List Dt) : (enumD l).length = l.length := by unfold enumD; rw [List.length_zipWith, List.length_range, Nat.min_self]
theorem enumD_get (l : List Dt) (i : Nat) : (enumD l)[i]? = l[i]?.map fun d => .tup [.int i, d] := by
  unfold enumD
  rw [List.getElem?_zipWith]
  by_cases h : i < l.length
  · rw [List.getElem?_range h, List.getElem?_eq_getElem h]
    rfl
  · rw [List.getElem?_eq_none (by rw [List.length_range]; omega), List.getElem?_eq_none (l := l) (by omega)]
    rfl
/-- new pairs -/
theorem ok_pair {J : It} {l : List Dt} {keep : Store → Prop} {Gd : Hp → Prop} {f g : Nat → Option V} {dl dm : List Dt} (w : Walk J l.length Gd (YPair f g)) (hg : ∀ Z H S, Good K Z H S → Ext G (out H S Z) → keep S → Gd H)
    (hy : ∀ Z i H S x y, Good K Z H S → Ext G (out H S Z) → keep S → f i = some x → g i = some y → ∃ dx dy, l[i]? = some (.tup [dx, dy]) ∧ Rep K (out H S Z) dx x ∧ Rep K (out H S Z) dy y) : ItOk K G J l keep := by
  refine ⟨fun Z i H S g x k hi => w.goes i H hi (hg Z H S g x k), fun Z H S g x k => w.stops H (hg Z H S g x k), fun Z i H S x H' gd e k hi y => ?_⟩
  obtain ⟨T, u, v, rfl, nT, rfl, h1, h2⟩ := w.yields i H x H' hi (hg Z H S gd e k) y
  obtain ⟨dx, dy, h3, h4, h5⟩ := hy Z i H S u v gd e k h1 h2
  refine ⟨_, h3, gd.new nT, ext_new gd nT, T, [u, v], rfl, SqT.of (out_new gd nT), u, [v], rfl, Rep.ext (ext_new gd nT) _ _ h4, v, [], rfl, Rep.ext (ext_new gd nT) _ _ h5, rfl⟩
theorem ok_enum {a : Addr} {vs : List V} {l : List Dt} (h : G a = some (.lst vs)) (r : Reps K G l vs) : ItOk K G (Ite K a) (enumD l) (fun _ => True) := by
  refine ok_pair (dl := []) (dm := []) (Gd := fun H => SqL K H a vs) (f := fun i => some (.int (i : Nat))) (g := fun i => vs[i]?) (by rw [enumD_len, r.len]; exact walk_enum) (fun Z H S g x _ => SqL.of (out_le (x.lst h))) fun Z i H S x y g e _ h1 h2 => ?_
  cases h1
  obtain ⟨d, h3, h4⟩ := Paired.get' (Reps.pair.mp r) h2
  exact ⟨.int i, d, by rw [enumD_get, h3]; rfl, rfl, Rep.ext e _ _ h4⟩
theorem ok_enumC {a : Addr} {l : List Dt} {H0 : Hp} {S0 : Store} (g0 : Good K Z H0 S0) (h0 : S0 a = some (.lst l)) (e0 : G = out H0 S0 Z) {vs : List V} (hv : H0 a = some (.lst vs)) (hl : l.length = vs.length) : ItOk K G (Ite K a) (enumD l) (fun S => S a = some (.lst l)) := by
  refine ⟨fun Z i H S g x kp hi => ?_, fun Z H S g x kp => ?_, fun Z i H S x H' g e kp hi y => ?_⟩
  · obtain ⟨o, h1, ws, rfl, r⟩ := g.c a _ kp
    rw [enumD_len] at hi
    exact ⟨ws, ws[i]'(by rw [← r.len]; exact hi), SqL.of h1, List.getElem?_eq_getElem _⟩
  · obtain ⟨o, h1, ws, rfl, r⟩ := g.c a _ kp
    exact ⟨ws, SqL.of h1, by rw [enumD_len, r.len]; exact Nat.le_refl _⟩
  · obtain ⟨o, h1, ws, rfl, r⟩ := g.c a _ kp
    obtain ⟨T, u, rfl, nT, rfl, h2⟩ := y
    obtain ⟨d, h3, h4⟩ := Paired.get' (Reps.pair.mp r) (h2 ws (SqL.of h1))
    exact ⟨.tup [.int i, d], by rw [enumD_get, h3]; rfl, g.new nT, ext_new g nT, T, [.int i, u], rfl, SqT.of (out_new g nT), .int i, [u], rfl, rfl, u, [], rfl, Rep.ext (ext_new g nT) _ _ h4, rfl⟩
/-! a dict that is locked -/
theorem key_rep {G : Hp} {k : Key} (h : KOk k) : Rep K G (keyD k) (kV k) := by
  cases k with
  | inl i => exact rfl
  | inr z => exact ⟨rfl, h⟩
theorem lck_at {H : Hp} {S : Store} {a : Addr} {u : HO} {l : List (Key × Dt)} (g : Good K Z H S) (h : S a = some (.lck u l)) : ∃ ob kvs, u = .frz ob (.dK kvs) ∧ H a = some u ∧ KR KOk K (out H S Z) l kvs := by
  obtain ⟨o, h1, rfl, ob, kvs, e, r⟩ := g.c a _ h
  exact ⟨ob, kvs, e, h1, Repk.kr.mp r⟩
/-- one thing for each entry -/
theorem ok_lck {J : It} {a : Addr} {ob : Obj} {kvs : List (Key × V)} {l : List (Key × Dt)} {f : Key × Dt → Dt} {Y : Nat → Hp → V → Hp → Prop} (w : Walk J kvs.length (fun H => H a = some (.frz ob (.dK kvs))) Y) (hl : l.length = kvs.length)
    (hy : ∀ Z i H S x H' p v, Good K Z H S → l[i]? = some p → kvs[i]? = some (p.1, v) → KOk p.1 → Rep K (out H S Z) p.2 v → Y i H x H' → Good K Z H' S ∧ Ext (out H S Z) (out H' S Z) ∧ Rep K (out H' S Z) (f p) x) :
    ItOk K G J (l.map f) (fun S => S a = some (.lck (.frz ob (.dK kvs)) l)) := by
  have at_ : ∀ Z H S, Good K Z H S → S a = some (.lck (.frz ob (.dK kvs)) l) → H a = some (.frz ob (.dK kvs)) ∧ KR KOk K (out H S Z) l kvs := fun Z H S g kp => by
    obtain ⟨ob', kvs', e, h1, h2⟩ := lck_at g kp
    cases e
    exact ⟨h1, h2⟩
  refine ⟨fun Z i H S g x kp hi => w.goes i H (by rw [← hl]; simpa using hi) (at_ Z H S g kp).1, fun Z H S g x kp => by rw [List.length_map, hl]; exact w.stops H (at_ Z H S g kp).1, fun Z i H S x H' g e kp hi y => ?_⟩
  rw [List.length_map] at hi
  obtain ⟨h1, h2⟩ := at_ Z H S g kp
  have y := w.yields i H x H' (by rw [← hl]; exact hi) h1 y
  have e1 : l[i]? = some l[i] := List.getElem?_eq_getElem hi
  obtain ⟨q, h3, h4, h5, h6⟩ := Paired.get h2 e1
  obtain ⟨q1, q2⟩ := q
  cases h4
  obtain ⟨g', e', r'⟩ := hy Z i H S x H' _ q2 g e1 h3 h5 h6 y
  exact ⟨_, by rw [List.getElem?_map, e1]; rfl, g', e', r'⟩
end
section
variable {X : Cx} {K : PySem.W.Frag} {E : XK} {e : DX} {pos p apos cpos : Pos} {a b ex tg : Expr} {da db : DTE} {ts : DTA} {dt : DTS}
theorem di_lst (hK : X.K = K) (ha : PE X ex (tD K E e da)) : PI X tg ex (tDI K E e (dItLs da)) := ⟨fun pins s σ H R I h => by
  refine (pi_listK hK ha).run pins s σ H R I ?_
  obtain ⟨δ, S, Z, q, t, h, k⟩ := h
  refine ⟨δ, S, Z, _, t, h, fun v x H1 S1 g1 x1 r1 h1 => ?_⟩
  cases x with
  | lst l =>
    obtain ⟨a, vs, rfl, h2, h3⟩ := r1
    exact ⟨a, rfl, ⟨vs, SqL.of (out_le h2)⟩, k l _ H1 S1 _ g1 x1 (ok_lst h2 h3) h1⟩
  | ref a =>
    obtain ⟨l, h2, h3⟩ := h1
    obtain ⟨o, h4, vs, rfl, h5⟩ := g1.c a _ h2
    exact ⟨a, r1, ⟨vs, SqL.of h4⟩, k l _ H1 S1 _ g1 x1 ok_cell h3⟩
  | _ => exact h1.elim⟩
theorem di_tup (hK : X.K = K) (ha : PE X ex (tD K E e da)) : PI X tg ex (tDI K E e (dItT da)) := ⟨fun pins s σ H R I h => by
  refine (pi_tupK hK ha).run pins s σ H R I ?_
  obtain ⟨δ, S, Z, q, t, h, k⟩ := h
  refine ⟨δ, S, Z, _, t, h, fun v x H1 S1 g1 x1 r1 h1 => ?_⟩
  cases x with
  | tup l =>
    obtain ⟨a, vs, rfl, h2, h3⟩ := r1
    exact ⟨a, rfl, ⟨vs, SqT.out h2⟩, k l _ H1 S1 _ g1 x1 (ok_tup h2 h3) h1⟩
  | _ => exact h1.elim⟩
theorem di_str (ha : PE X ex (tD K E e da)) : PI X tg ex (tDI K E e (dItS da)) := ⟨fun pins s σ H R I h => by
  refine (pi_str ha).run pins s σ H R I ?_
  obtain ⟨δ, S, Z, q, t, h, k⟩ := h
  refine ⟨δ, S, Z, _, t, h, fun v x H1 S1 g1 x1 r1 h1 => ?_⟩
  cases x with
  | str z => exact ⟨z, r1.1, k _ _ H1 S1 _ g1 x1 (ok_str r1.2) h1⟩
  | _ => exact h1.elim⟩
theorem reps1 {K : PySem.W.Frag} {G : Hp} {d : Dt} {vs : List V} (h : Reps K G [d] vs) : ∃ v, vs = [v] ∧ Rep K G d v := by
  obtain ⟨v, _, rfl, r, rfl⟩ := h
  exact ⟨v, rfl, r⟩
theorem reps2 {K : PySem.W.Frag} {G : Hp} {d c : Dt} {vs : List V} (h : Reps K G [d, c] vs) : ∃ v w, vs = [v, w] ∧ Rep K G d v ∧ Rep K G c w := by
  obtain ⟨v, _, rfl, r, w, _, rfl, r2, rfl⟩ := h
  exact ⟨v, w, rfl, r, r2⟩
theorem reps3 {K : PySem.W.Frag} {G : Hp} {d c f : Dt} {vs : List V} (h : Reps K G [d, c, f] vs) : ∃ v w u, vs = [v, w, u] ∧ Rep K G d v ∧ Rep K G c w ∧ Rep K G f u := by
  obtain ⟨v, _, rfl, r, w, _, rfl, r2, u, _, rfl, r3, rfl⟩ := h
  exact ⟨v, w, u, rfl, r, r2, r3⟩
theorem di_range1 (hg : Gl X "range") (hm : X.mg "range" = none) (ha : PA X [a] (tDA K E e ts)) (hs : starEach [a] X.env = [(false, eval a X.env)] := by rfl) : PI X tg (.Call (.Name "range" p) [a] [] pos) (tDI K E e (dItR1 ts)) := ⟨fun pins s σ H R I h => by
  refine (pi_range1 (pos := pos) hg hm ha hs).run pins s σ H R I ?_
  obtain ⟨δ, S, Z, q, t, h, k⟩ := h
  refine ⟨δ, S, Z, _, t, h, fun vs xs H1 S1 g1 x1 r1 h1 => ?_⟩
  match xs, h1 with
  | [.int n], h1 =>
    obtain ⟨v, rfl, rv⟩ := reps1 r1
    exact ⟨n, by rw [show v = _ from rv], h1.1.1, h1.1.2, k _ _ H1 S1 _ g1 x1 ok_range h1.2⟩⟩
theorem di_range2 (hg : Gl X "range") (hm : X.mg "range" = none) (ha : PA X [a, b] (tDA K E e ts)) (hs : starEach [a, b] X.env = [(false, eval a X.env), (false, eval b X.env)] := by rfl) (hs2 : starEach [b] X.env = [(false, eval b X.env)] := by rfl) :
    PI X tg (.Call (.Name "range" p) [a, b] [] pos) (tDI K E e (dItR2 ts)) := ⟨fun pins s σ H R I h => by
  refine (pi_range2 (pos := pos) hg hm ha hs hs2).run pins s σ H R I ?_
  obtain ⟨δ, S, Z, q, t, h, k⟩ := h
  refine ⟨δ, S, Z, _, t, h, fun vs xs H1 S1 g1 x1 r1 h1 => ?_⟩
  match xs, h1 with
  | [.int lo, .int hi], h1 =>
    obtain ⟨v, w, rfl, rv, rw'⟩ := reps2 r1
    exact ⟨lo, hi, by rw [show v = _ from rv, show w = _ from rw'], h1.1, k _ _ H1 S1 _ g1 x1 ok_range h1.2⟩⟩
theorem di_enum (hK : X.K = K) {elts : List Expr} {kk : Nat} {tpos : Pos} (hg : Gl X "enumerate") (hm : X.mg "enumerate" = none) (ha : PA X [a] (tDA K E e ts)) (hs : starEach [a] X.env = [(false, eval a X.env)] := by rfl) :
    PI X (.Tuple elts kk tpos) (.Call (.Name "enumerate" p) [a] [] pos) (tDI K E e (dItE ts)) := ⟨fun pins s σ H R I h => by
  subst hK
  refine (pi_enum (pos := pos) hg hm ha hs).run pins s σ H R I ?_
  obtain ⟨δ, S, Z, q, t, h, k⟩ := h
  refine ⟨δ, S, Z, _, t, h, fun vs xs H1 S1 g1 x1 r1 h1 => ?_⟩
  match xs, h1 with
  | [.lst l], h1 =>
    obtain ⟨v, rfl, rv⟩ := reps1 r1
    obtain ⟨a, ws, rfl, h2, h3⟩ := rv
    exact ⟨a, ws, rfl, SqL.of (out_le h2), k _ _ H1 S1 _ g1 x1 (ok_enum h2 h3) h1⟩
  | [.ref a], h1 =>
    obtain ⟨v, rfl, rv⟩ := reps1 r1
    obtain ⟨l, h2, h3⟩ := h1
    obtain ⟨o, h4, ws, rfl, h5⟩ := g1.c a _ h2
    exact ⟨a, ws, by rw [show v = _ from rv], SqL.of h4, k _ _ H1 S1 _ g1 x1 (ok_enumC g1 h2 rfl h4 h5.len) h3⟩⟩
theorem di_keys (ha : PE X ex (tD K E e da)) : PI X tg ex (tDI K E e (dItK da)) := ⟨fun pins s σ H R I h => by
  refine (pi_keys ha).run pins s σ H R I ?_
  obtain ⟨δ, S, Z, q, t, h, k⟩ := h
  refine ⟨δ, S, Z, _, t, h, fun v x H1 S1 g1 x1 r1 h1 => ?_⟩
  cases x with
  | ref a =>
    obtain ⟨u, l, h2, h3⟩ := h1
    obtain ⟨ob, kvs, rfl, h4, h5⟩ := lck_at g1 h2
    refine ⟨a, ob, r1, .inl ⟨kvs, h4, k _ _ H1 S1 _ g1 x1 (ok_lck (f := fun p => keyD p.1) walk_keys h5.len fun Z i H S x H' p v g e1 e2 ko r y => ?_) h3⟩⟩
    obtain ⟨rfl, k', v', e3, rfl⟩ := y
    rw [e2] at e3
    cases e3
    exact ⟨g, Ext.refl, key_rep ko⟩
  | _ => exact h1.elim⟩
theorem di_values (ha : PE X a (tD K E e da)) (hbase : attributeBase a "values" X.env (eval a X.env) = eval a X.env := by rfl) (hline : (apos.endLine == cpos.line) = true := by rfl) : PI X tg (.Call (.Attribute a "values" apos) [] [] cpos) (tDI K E e (dItV da)) := ⟨fun pins s σ H R I h => by
  refine (pi_values ha hbase hline).run pins s σ H R I ?_
  obtain ⟨δ, S, Z, q, t, h, k⟩ := h
  refine ⟨δ, S, Z, _, t, h, fun v x H1 S1 g1 x1 r1 h1 => ?_⟩
  cases x with
  | ref a =>
    obtain ⟨u, l, h2, h3⟩ := h1
    obtain ⟨ob, kvs, rfl, h4, h5⟩ := lck_at g1 h2
    refine ⟨a, ob, kvs, r1, h4, k _ _ H1 S1 _ g1 x1 (ok_lck (f := fun p => p.2) walk_values h5.len fun Z i H S x H' p v g e1 e2 ko r y => ?_) h3⟩
    obtain ⟨rfl, k', e3⟩ := y
    rw [e2] at e3
    cases e3
    exact ⟨g, Ext.refl, r⟩
  | _ => exact h1.elim⟩
theorem di_items {elts : List Expr} {kk : Nat} {tpos : Pos} (ha : PE X a (tD K E e da)) (hbase : attributeBase a "items" X.env (eval a X.env) = eval a X.env := by rfl) (hline : (apos.endLine == cpos.line) = true := by rfl) :
    PI X (.Tuple elts kk tpos) (.Call (.Attribute a "items" apos) [] [] cpos) (tDI K E e (dItI da)) := ⟨fun pins s σ H R I h => by
  refine (pi_items ha hbase hline).run pins s σ H R I ?_
  obtain ⟨δ, S, Z, q, t, h, k⟩ := h
  refine ⟨δ, S, Z, _, t, h, fun v x H1 S1 g1 x1 r1 h1 => ?_⟩
  cases x with
  | ref a =>
    obtain ⟨u, l, h2, h3⟩ := h1
    obtain ⟨ob, kvs, rfl, h4, h5⟩ := lck_at g1 h2
    refine ⟨a, ob, kvs, r1, h4, k _ _ H1 S1 _ g1 x1 (ok_lck (f := fun p => .tup [keyD p.1, p.2]) walk_items h5.len fun Z i H S x H' p v g e1 e2 ko r y => ?_) h3⟩
    obtain ⟨T, y1, y2, rfl, nT, rfl, h6, h7⟩ := y
    simp only [e2, Option.map_some, Option.some.injEq] at h6 h7
    subst h6 h7
    exact ⟨g.new nT, ext_new g nT, T, _, rfl, SqT.of (out_new g nT), _, _, rfl, key_rep ko, _, _, rfl, Rep.ext (ext_new g nT) _ _ r, rfl⟩
  | _ => exact h1.elim⟩
/-! locks -/
theorem ds_lock {st : Stmt} (h : PS X st (tDS K E e dt)) : PS X st (tDS K E e (dLock dt)) := PS.imp (ps_lock h) fun D σ H h => by
  obtain ⟨δ, S, Z, DD, t, ⟨a, l, h1, h2⟩, k⟩ := h
  obtain ⟨ob, h3, kvs, rfl, h4⟩ := t.good.c a _ h1
  refine ⟨a, _, h3, trivial, fun od => ?_⟩
  have cr : CRep K (out H S Z) (.lck (.frz od (.dK kvs)) l) (.frz od (.dK kvs)) := ⟨rfl, od, kvs, rfl, h4⟩
  have g1 := t.good.mut h1 cr
  have o1 := out_mut (H := H) (Z := Z) (o := .frz od (.dK kvs)) (c' := .lck (.frz od (.dK kvs)) l) h1
  refine ⟨δ, _, Z, _, ⟨g1, by rw [o1]; exact t.sl, by rw [o1]; exact t.lk⟩, h2 (.frz od (.dK kvs)), ?_⟩
  rw [o1]
  have back : ∀ H' S', Good K Z H' S' → Ext (out H S Z) (out H' S' Z) → S' a = some (.lck (.frz od (.dK kvs)) l) → H' a = some (.frz od (.dK kvs)) ∧ Good K Z (upd H' a (.dK kvs)) (sput S' a (.dic l)) ∧ out (upd H' a (.dK kvs)) (sput S' a (.dic l)) Z = out H' S' Z := fun H' S' g x e => by
    obtain ⟨ob', kvs', e1, e2, e3⟩ := lck_at g e
    cases e1
    exact ⟨e2, g.mut e ⟨kvs, rfl, Repk.kr.mpr e3⟩, out_mut e⟩
  refine ⟨fun σ' δ' H' S' g x s ⟨e, q⟩ => ?_, fun v d H' S' g x r ⟨e, q⟩ => ?_, fun σ' δ' H' S' g x s ⟨e, q⟩ => ?_, fun σ' δ' H' S' g x s ⟨e, q⟩ => ?_⟩
  all_goals
    obtain ⟨e1, g2, o2⟩ := back H' S' g x e
    refine ⟨e1, ?_⟩
  · exact k.nx _ _ _ _ g2 (by rw [o2]; exact x) (by rw [o2]; exact s) q
  · exact k.rt _ _ _ _ g2 (by rw [o2]; exact x) (by rw [o2]; exact r) q
  · exact k.bk _ _ _ _ g2 (by rw [o2]; exact x) (by rw [o2]; exact s) q
  · exact k.ct _ _ _ _ g2 (by rw [o2]; exact x) (by rw [o2]; exact s) q
theorem de_lock (h : PE X ex (tD K E e da)) : PE X ex (tD K E e (dLockE da)) := PE.imp (pe_lock h) fun σ H Q h => by
  obtain ⟨δ, S, Z, q, t, ⟨a, l, h1, h2⟩, k⟩ := h
  obtain ⟨ob, h3, kvs, rfl, h4⟩ := t.good.c a _ h1
  refine ⟨a, _, h3, trivial, fun od => ?_⟩
  have cr : CRep K (out H S Z) (.lck (.frz od (.dK kvs)) l) (.frz od (.dK kvs)) := ⟨rfl, od, kvs, rfl, h4⟩
  have g1 := t.good.mut h1 cr
  have o1 := out_mut (H := H) (Z := Z) (o := .frz od (.dK kvs)) (c' := .lck (.frz od (.dK kvs)) l) h1
  refine ⟨δ, _, Z, _, ⟨g1, by rw [o1]; exact t.sl, by rw [o1]; exact t.lk⟩, h2 (.frz od (.dK kvs)), ?_⟩
  intro v d H' S' g x r ⟨e, q⟩
  rw [o1] at x
  obtain ⟨ob', kvs', e1, e2, e3⟩ := lck_at g e
  cases e1
  have o2 := out_mut (H := H') (Z := Z) (o := .dK kvs) (c' := .dic l) e
  have cr2 : CRep K (out H' S' Z) (.dic l) (.dK kvs) := ⟨kvs, rfl, Repk.kr.mpr e3⟩
  exact ⟨e2, k v d _ _ (g.mut e cr2) (by rw [o2]; exact x) (by rw [o2]; exact r) q⟩
end
end Dn

/-! comprehensions -/
namespace Dn
open PySem PySem.Spec PyProof.Rows L2 Pr
@[reducible] def snds : List (Str × Nat) → List Nat
  | [] => []
  | (_, n) :: r => n :: snds r
theorem snds_eq : ∀ l : List (Str × Nat), snds l = l.map (·.2)
  | [] => rfl
  | (_, n) :: r => by show n :: snds r = n :: r.map (·.2); rw [snds_eq r]
def noX : DX := fun _ _ => False
theorem lk_no {K : PySem.W.Frag} {E : XK} {Z G : Hp} : Lk K E noX Z G := fun _ _ _ _ _ h => h.elim
def tGw (K : PySem.W.Frag) (vs : List Nat) (g : DTG) : TG := fun v σ H N => ∃ x δ S Z n, Good K Z H S ∧ Slots K (out H S Z) σ δ ∧ Rep K (out H S Z) x v ∧ g x δ S n ∧
  ∀ σ' δ' H' S', wipe σ' vs = wipe σ vs → Good K Z H' S' → Ext (out H S Z) (out H' S' Z) → Slots K (out H' S' Z) σ' δ' → n δ' S' → N σ' H'
def tGws (K : PySem.W.Frag) (vs : List Nat) (g : DTGs) : TGs := fun us σ H N => ∃ xs δ S Z n, Good K Z H S ∧ Slots K (out H S Z) σ δ ∧ Reps K (out H S Z) xs us ∧ g xs δ S n ∧
  ∀ σ' δ' H' S', wipe σ' vs = wipe σ vs → Good K Z H' S' → Ext (out H S Z) (out H' S' Z) → Slots K (out H' S' Z) σ' δ' → n δ' S' → N σ' H'
theorem wipe_mem {σ : L2.St} {i : Nat} {x : Option V} : ∀ {vs : List Nat}, i ∈ vs → wipe (σ.set i x) vs = wipe σ vs
  | v :: vs, h => by
    show (wipe (σ.set i x) vs).set v none = (wipe σ vs).set v none
    have comm : ∀ ws : List Nat, wipe (σ.set i x) ws = (wipe σ ws).set i ((wipe (σ.set i x) ws)[i]?.getD none) := fun ws => by
      induction ws with
      | nil =>
        show σ.set i x = σ.set i (((σ.set i x)[i]?).getD none)
        by_cases hi : i < σ.length
        · rw [List.getElem?_set_self hi]; rfl
        · rw [List.set_eq_of_length_le (by omega), List.set_eq_of_length_le (by omega)]
      | cons w ws ih =>
        show (wipe (σ.set i x) ws).set w none = ((wipe σ ws).set w none).set i _
        by_cases hw : w = i
        · subst hw
          rw [ih, List.set_set, List.set_set]
          show _ = (wipe σ ws).set w (((wipe (σ.set w x) (w :: ws))[w]?).getD none)
          by_cases hl : w < (wipe σ ws).length
          · have : ((wipe (σ.set w x) (w :: ws))[w]?).getD none = none := by
              show (((wipe (σ.set w x) ws).set w none)[w]?).getD none = none
              rw [ih, List.set_set, List.getElem?_set_self hl]
              rfl
            rw [this]
          · rw [List.set_eq_of_length_le (by omega), List.set_eq_of_length_le (by omega)]
        · rw [ih, List.set_comm _ _ (Ne.symm hw)]
          congr 1
          show _ = ((wipe (σ.set i x) (w :: ws))[i]?).getD none
          show _ = (((wipe (σ.set i x) ws).set w none)[i]?).getD none
          rw [List.getElem?_set_ne hw]
    rcases List.mem_cons.mp h with rfl | h
    · rw [comm vs, List.set_set]
    · rw [wipe_mem h]
theorem slots_wipes {K : PySem.W.Frag} {G : Hp} {σ : L2.St} {δ : DS} (h : Slots K G σ δ) : ∀ vs : List Nat, Slots K G (wipe σ vs) (wipesS δ vs)
  | [] => h
  | v :: vs => Slots.wipe (slots_wipes h vs)
section
variable {X : Cx} {K : PySem.W.Frag} {E : XK} {e : DX} {pos pos' apos cpos p2 tpos : Pos} {a b c o ex value tg : Expr} {es rest ifs : List Expr} {da : DTE} {g : DTG} {gs : DTGs} {vs : List Nat}
theorem gw_name {i : Nat} {x : Str} (hN : X.N.Nodup) (hi : X.N[i]? = some x) (hx : Loc X.env.scope x) (hv : i ∈ vs := by decide) (hf : X.fn x = true ∨ X.env.scope.names.lookup x = some .local := by first | exact .inl rfl | exact .inr rfl | assumption) : PG X (.Name x pos) (tGw K vs (dName i)) := ⟨fun pins s σ H v u Q I r h => by
  refine (pg_name (pos := pos) hN hi hx hf).run pins s σ H v u Q I r ?_
  obtain ⟨x, δ, S, Z, n, gd, sl, rx, h, k⟩ := h
  exact k _ _ H S (wipe_mem hv) gd Ext.refl (sl.put rx) h⟩
theorem gws_nil : PGs X [] (tGws K vs dGNil) := ⟨fun pins s σ H v u Q I r h => by
  refine pgs_nil.run pins s σ H v u Q I r ?_
  obtain ⟨x, δ, S, Z, n, gd, sl, rx, h, k⟩ := h
  cases x with
  | nil => exact ⟨rx, k σ δ H S rfl gd Ext.refl sl h⟩
  | cons _ _ => exact h.elim⟩
theorem gws_cons (h1 : PG X a (tGw K vs g)) (h2 : PGs X es (tGws K vs gs)) (hs : (assignEach (a :: es) X.env).map (·.2) = assign a X.env :: (assignEach es X.env).map (·.2) := by rfl) : PGs X (a :: es) (tGws K vs (dGCons g gs)) := ⟨fun pins s σ H v u Q I r h => by
  refine (pgs_cons h1 h2 hs).run pins s σ H v u Q I r ?_
  obtain ⟨x, δ, S, Z, n, gd, sl, rx, h, k⟩ := h
  cases x with
  | nil => exact h.elim
  | cons d l =>
    obtain ⟨v1, vr, rfl, r1, r2⟩ := rx
    exact ⟨v1, vr, rfl, d, δ, S, Z, _, gd, sl, r1, h, fun σ' δ' H' S' w' g' x' s' h' => ⟨l, δ', S', Z, n, g', s', Reps.ext x' _ _ r2, h', fun σ'' δ'' H'' S'' w'' g'' x'' => k σ'' δ'' H'' S'' (w''.trans w') g'' (x'.trans x'')⟩⟩⟩
theorem gw_tup (hK : X.K = K) {k n : Nat} (hc : X.calm = true) (h : PGs X es (tGws K vs gs)) (hn : (assignEach es X.env).length = n := by rfl) (hst : (assignEach es X.env).findIdx? (·.1) = none := by rfl) : PG X (.Tuple es k pos) (tGw K vs (dGTup n gs)) := ⟨fun pins s σ H v u Q I r h0 => by
  subst hK
  refine (pg_tup (k := k) (pos := pos) hc h hn hst).run pins s σ H v u Q I r ?_
  obtain ⟨x, δ, S, Z, m, gd, sl, rx, h1, k⟩ := h0
  cases x with
  | tup l =>
    obtain ⟨p, ws, rfl, hp, hl⟩ := rx
    obtain ⟨h2, h3⟩ := LenIs.len h1
    exact ⟨p, ws, rfl, SqT.out hp, by rw [← hl.len]; exact h2, l, δ, S, Z, m, gd, sl, hl, h3, k⟩
  | _ => exact h1.elim⟩
theorem ts_nil : PTs X [] (tDT K E e dYes) := ⟨fun pins s σ H Q I h => by
  obtain ⟨δ, S, Z, q, t, h, k⟩ := h
  exact pts_nil.run pins s σ H Q I (k true H S t.good Ext.refl h)⟩
theorem ts_one {tt : DTT} (h : PT X c (tDT K E e tt)) : PTs X [c] (tDT K E e tt) := pts_one h
end
/-! the run -/
section
variable {K : PySem.W.Frag} {E : XK} {e : DX}
theorem hide_same {Z H : Hp} {S : Store} {p : Addr} {o : HO} (g : Good K (upd Z p o) H S) : upd H p o = H := by
  funext b
  by_cases hb : b = p
  · rw [hb, upd_same, g.at]
  · rw [upd_ne hb]
theorem lc_run {it : DTL} {wi : TI} {g : DTG} {tt : DTT} {te : DTE} {vs : List Nat} {qL : List Dt → Store → Prop} {σ : L2.St} {H : Hp} {Q : VK} {δ : DS} {S : Store} {Z : Hp}
    (t : At K E e Z H S σ δ) (h : dLc it g vs tt te qL δ S)
    (fin : ∀ D accV acc H' S', Z D = none → Good K (upd Z D (.lst accV)) H' S' → Ext (out H S Z) (out H' S' (upd Z D (.lst accV))) → Reps K (out H' S' (upd Z D (.lst accV))) acc accV → qL acc S' → Q (.ref D) H') :
    tLc (tDI K E e it) (tGw K vs g) (tDT K E0 noX tt) (tD K E0 noX te) vs σ H Q := by
  refine ⟨δ, S, Z, _, t, h, fun l keep H1 S1 J g1 x1 ok h1 => ?_⟩
  obtain ⟨hl, I, h0, hk, hs, hd⟩ := h1
  intro D nD
  have nZ := g1.nZ nD
  have sl1 := t.sl.ext x1
  refine lc_it (n := l.length) (G := fun H => ∃ Z' S, Good K Z' H S ∧ Ext (out H1 S1 Z) (out H S Z') ∧ keep S) (Y := fun i H x H' => J.yld i H x H') (Qd := fun H => Q (.ref D) H)
    ⟨fun i H hi ⟨Z', S, g, x, kp⟩ => ok.go Z' i H S g x kp hi, fun H ⟨Z', S, g, x, kp⟩ => ok.stop Z' H S g x kp, fun i H x H' _ _ y => y⟩
    (fun i H => ∃ S acc accV, Good K (upd Z D (.lst accV)) H S ∧ Ext (out H1 S1 Z) (out H S (upd Z D (.lst accV))) ∧ Reps K (out H S (upd Z D (.lst accV))) acc accV ∧ acc.length ≤ i ∧ I i acc S)
    ⟨S1, [], [], g1.hide nD, by rw [hide_out g1 nD]; exact Ext.refl, rfl, Nat.le_refl _, h0⟩
    (fun i H hi ⟨S, acc, accV, g, x, r, n, q⟩ => ⟨_, S, g, x, hk i acc S hi q⟩) (fun i x H H' hi hh y => ?_)
    (fun H ⟨S, acc, accV, g, x, r, n, q⟩ => fin D accV acc H S nZ g (x1.trans x) r (hd acc S q))
  obtain ⟨S2, acc, accV, g2, x2, r2, n2, q2⟩ := hh
  obtain ⟨d, e1, g3, x3, r3⟩ := ok.yld _ i H S2 x H' g2 x2 (hk i acc S2 (Nat.le_of_lt hi) q2) hi y
  have x23 := x2.trans x3
  refine ⟨d, _, S2, _, _, g3, slots_wipes (sl1.ext x23) vs, r3, hs i d acc S2 e1 q2, fun σ' δ' H4 S4 w4 g4 x4 s4 h4 => ?_⟩
  refine ⟨by rw [w4, wipe_wipe], δ', S4, _, _, ⟨g4, s4, lk_no⟩, h4, fun b H5 S5 g5 x5 h5 => ?_⟩
  have x45 := x4.trans x5
  cases b with
  | false => exact iteF ⟨S5, acc, accV, g5, x23.trans x45, Reps.ext (x3.trans x45) _ _ r2, Nat.le_succ_of_le n2, h5⟩
  | true =>
    refine iteT ⟨δ', S5, _, _, ⟨g5, s4.ext x5, lk_no⟩, h5, fun v z H6 S6 g6 x6 r6 h6 => ?_⟩
    have x46 := x45.trans x6
    have r7 := Reps.ext (x3.trans x46) _ _ r2
    refine ⟨accV, g6.at, by rw [← r7.len]; omega, S6, acc ++ [z], accV ++ [v], g6.rehide, ?_, ?_, by rw [List.length_append]; exact Nat.succ_le_succ n2, h6⟩
    · rw [rehide_out (o := .lst accV)]
      exact x23.trans x46
    · rw [rehide_out (o := .lst accV)]
      exact Reps.pair.mpr (Paired.app (Reps.pair.mp r7) (.cons r6 .nil))
where
  wipe_wipe {σ : L2.St} {vs : List Nat} : wipe (wipe σ vs) vs = wipe σ vs := by
    have go : ∀ ws : List Nat, (∀ v ∈ ws, v ∈ vs) → wipe (wipe σ ws) vs = wipe σ vs := fun ws => by
      induction ws with
      | nil => intro _; rfl
      | cons v ws ih =>
        intro h
        show wipe ((wipe σ ws).set v none) vs = _
        rw [wipe_mem (h v List.mem_cons_self)]
        exact ih fun w hw => h w (List.mem_cons_of_mem _ hw)
    exact go vs fun _ h => h
theorem lc_frozen {it : DTL} {g : DTG} {tt : DTT} {te : DTE} {vs : List Nat} {σ : L2.St} {H : Hp} {Q : VK} (h : tD K E e (dLcF it g vs tt te) σ H Q) : tLc (tDI K E e it) (tGw K vs g) (tDT K E0 noX tt) (tD K E0 noX te) vs σ H Q := by
  obtain ⟨δ, S, Z, q, t, h, k⟩ := h
  refine lc_run (wi := tDI K E e it) t h fun D accV acc H' S' nz g x r q' => ?_
  refine k _ (.lst acc) _ S' (g.bare nz) (x.trans (bare_ext g nz)) ⟨D, accV, rfl, ?_, Reps.ext (bare_ext g nz) _ _ r⟩ q'
  rw [out_of g.noS nz]
  exact g.at
theorem lc_owned {it : DTL} {g : DTG} {tt : DTT} {te : DTE} {vs : List Nat} {σ : L2.St} {H : Hp} {Q : VK} (h : tD K E e (dLcO it g vs tt te) σ H Q) : tLc (tDI K E e it) (tGw K vs g) (tDT K E0 noX tt) (tD K E0 noX te) vs σ H Q := by
  obtain ⟨δ, S, Z, q, t, h, k⟩ := h
  refine lc_run (wi := tDI K E e it) t h fun D accV acc H' S' nz g x r q' => ?_
  have cr : CRep K (out H' S' (upd Z D (.lst accV))) (.lst acc) (.lst accV) := ⟨accV, rfl, r⟩
  have g2 := g.shownO nz cr
  have o2 := showO_out (o' := .lst accV) g nz (c := .lst acc)
  rw [hide_same g] at g2 o2
  exact k _ (.ref D) _ _ g2 (by rw [o2]; exact x) rfl (q' D g.noS)
end
section
variable {X : Cx} {K : PySem.W.Frag} {E : XK} {e : DX} {pos spos py : Pos} {elt tg iter : Expr} {ifs : List Expr} {scope : Scope} {own : List (Str × Nat)} {it : DTL} {g : DTG} {tt : DTT} {te : DTE}
theorem de_lc (calm : X.calm = true) (hN : X.N.Nodup) (hi : PI X tg iter (tDI K E e it)) (ok : BlkOk X.N X.env.scope scope own)
    (hg : ∀ (s : Shared) (H : Hp) (C : Addr) (cl : List (Str × Addr)) (fp : List Addr), PG (X.blk s H scope (compEnvC scope cl C X.env) fp) tg (tGw K (snds own) g))
    (ht : ∀ (s : Shared) (H : Hp) (C : Addr) (cl : List (Str × Addr)) (fp : List Addr), PTs (X.blk s H scope (compEnvC scope cl C X.env) fp) ifs (tDT K E0 noX tt))
    (he : ∀ (s : Shared) (H : Hp) (C : Addr) (cl : List (Str × Addr)) (fp : List Addr), PE (X.blk s H scope (compEnvC scope cl C X.env) fp) elt (tD K E0 noX te)) (hs : ∀ x, foldedSetIterable iter X.env x = pure x := by intro _; rfl) :
    PE X (.ListComp elt [⟨tg, iter, ifs, 0⟩] scope pos) (tD K E e (dLcF it g (snds own) tt te)) := by
  rw [snds_eq] at hg ⊢
  exact PE.imp (pe_lc calm hN hi ok hg ht he hs) fun σ H Q h => lc_frozen h
theorem de_lcO (calm : X.calm = true) (hN : X.N.Nodup) (hi : PI X tg iter (tDI K E e it)) (ok : BlkOk X.N X.env.scope scope own)
    (hg : ∀ (s : Shared) (H : Hp) (C : Addr) (cl : List (Str × Addr)) (fp : List Addr), PG (X.blk s H scope (compEnvC scope cl C X.env) fp) tg (tGw K (snds own) g))
    (ht : ∀ (s : Shared) (H : Hp) (C : Addr) (cl : List (Str × Addr)) (fp : List Addr), PTs (X.blk s H scope (compEnvC scope cl C X.env) fp) ifs (tDT K E0 noX tt))
    (he : ∀ (s : Shared) (H : Hp) (C : Addr) (cl : List (Str × Addr)) (fp : List Addr), PE (X.blk s H scope (compEnvC scope cl C X.env) fp) elt (tD K E0 noX te)) (hs : ∀ x, foldedSetIterable iter X.env x = pure x := by intro _; rfl) :
    PE X (.ListComp elt [⟨tg, iter, ifs, 0⟩] scope pos) (tD K E e (dLcO it g (snds own) tt te)) := by
  rw [snds_eq] at hg ⊢
  exact PE.imp (pe_lc calm hN hi ok hg ht he hs) fun σ H Q h => lc_owned h
/-- y = [..], a local name -/
theorem ds_setLc {i : Nat} {y : Str} (calm : X.calm = true) (hN : X.N.Nodup) (hy : X.N[i]? = some y) (hyl : X.env.scope.names.lookup y = some .local) (hsw : swapsWith (.ListComp elt [⟨tg, iter, ifs, 0⟩] scope pos) (some (.Name y py)) spos.line X.env = pure true)
    (hi : PI X tg iter (tDI K E e it)) (ok : BlkOk X.N X.env.scope scope own)
    (hg : ∀ (s : Shared) (H : Hp) (C : Addr) (cl : List (Str × Addr)) (fp : List Addr), PG (X.blk s H scope (compEnvC scope cl C X.env) fp) tg (tGw K (snds own) g))
    (ht : ∀ (s : Shared) (H : Hp) (C : Addr) (cl : List (Str × Addr)) (fp : List Addr), PTs (X.blk s H scope (compEnvC scope cl C X.env) fp) ifs (tDT K E0 noX tt))
    (he : ∀ (s : Shared) (H : Hp) (C : Addr) (cl : List (Str × Addr)) (fp : List Addr), PE (X.blk s H scope (compEnvC scope cl C X.env) fp) elt (tD K E0 noX te)) (hs : ∀ x, foldedSetIterable iter X.env x = pure x := by intro _; rfl) :
    PS X (.Assign [.Name y py] (.ListComp elt [⟨tg, iter, ifs, 0⟩] scope pos) spos) (tDS K E e (dAsg (dLcF it g (snds own) tt te) (dName i))) := by
  rw [snds_eq] at hg ⊢
  exact PS.imp (ps_setLc calm hN hy hyl hsw hi ok hg ht he hs) fun D σ H h => by
    obtain ⟨δ, S, Z, DD, t, h, k⟩ := h
    exact lc_frozen ⟨δ, S, Z, _, t, h, fun v x H1 S1 g1 x1 r1 h1 => k.nx _ _ _ _ g1 x1 ((t.sl.ext x1).put r1) h1⟩
theorem ds_setLcO {i : Nat} {y : Str} (calm : X.calm = true) (hN : X.N.Nodup) (hy : X.N[i]? = some y) (hyl : X.env.scope.names.lookup y = some .local) (hsw : swapsWith (.ListComp elt [⟨tg, iter, ifs, 0⟩] scope pos) (some (.Name y py)) spos.line X.env = pure true)
    (hi : PI X tg iter (tDI K E e it)) (ok : BlkOk X.N X.env.scope scope own)
    (hg : ∀ (s : Shared) (H : Hp) (C : Addr) (cl : List (Str × Addr)) (fp : List Addr), PG (X.blk s H scope (compEnvC scope cl C X.env) fp) tg (tGw K (snds own) g))
    (ht : ∀ (s : Shared) (H : Hp) (C : Addr) (cl : List (Str × Addr)) (fp : List Addr), PTs (X.blk s H scope (compEnvC scope cl C X.env) fp) ifs (tDT K E0 noX tt))
    (he : ∀ (s : Shared) (H : Hp) (C : Addr) (cl : List (Str × Addr)) (fp : List Addr), PE (X.blk s H scope (compEnvC scope cl C X.env) fp) elt (tD K E0 noX te)) (hs : ∀ x, foldedSetIterable iter X.env x = pure x := by intro _; rfl) :
    PS X (.Assign [.Name y py] (.ListComp elt [⟨tg, iter, ifs, 0⟩] scope pos) spos) (tDS K E e (dAsg (dLcO it g (snds own) tt te) (dName i))) := by
  rw [snds_eq] at hg ⊢
  exact PS.imp (ps_setLc calm hN hy hyl hsw hi ok hg ht he hs) fun D σ H h => by
    obtain ⟨δ, S, Z, DD, t, h, k⟩ := h
    exact lc_owned ⟨δ, S, Z, _, t, h, fun v x H1 S1 g1 x1 r1 h1 => k.nx _ _ _ _ g1 x1 ((t.sl.ext x1).put r1) h1⟩
end
end Dn

/-! defs, methods, classes by their promises over deep values -/
namespace Dn
open PySem PySem.Spec PyProof.Rows L2 Pr
abbrev DSp := List Dt → Store → DK → DX → Prop
def spD (K : PySem.W.Frag) (c : DSp) : Sp := fun vs H Q E => ∃ ds S Z q e, Good K Z H S ∧ Reps K (out H S Z) ds vs ∧ Lk K E e Z (out H S Z) ∧ c ds S q e ∧ Ty K Z H S q Q
@[reducible] def appD : List Dt → List Dt → List Dt
  | [], m => m
  | x :: l, m => x :: appD l m
theorem appD_eq : ∀ l m : List Dt, appD l m = l ++ m
  | [], _ => rfl
  | x :: l, m => by show x :: appD l m = x :: (l ++ m); rw [appD_eq l m]
@[reducible] def startD : Nat → List Dt → DS
  | 0, _ => []
  | n + 1, [] => none :: startD n []
  | n + 1, d :: l => some d :: startD n l
/-- what defaults are worth, everywhere -/
def Dfl (K : PySem.W.Frag) (dds : List Dt) (dvs : List V) : Prop := ∀ G, Reps K G dds dvs
@[reducible] def dCall (c : DSp) (dds : List Dt) (e : DX) (t : DTA) : DTE := fun δ S q => t δ S fun ds S1 => c (appD ds dds) S1 q e
@[reducible] def isIns (C : Addr) (nm : List Str) (x : Dt) (S : Store) (A : Prop) : Prop := match x with
  | .obj C' nm' _ => (C' = C ∧ nm' = nm) ∧ A
  | .ref a => ∃ l, S a = some (.ins C nm l) ∧ A
  | _ => False
@[reducible] def dMeth (C : Addr) (nm : List Str) (c : DSp) (dds : List Dt) (e : DX) (o : DTE) (t : DTA) : DTE := fun δ S q => o δ S fun x S1 => isIns C nm x S1 (t δ S1 fun ds S2 => c (x :: appD ds dds) S2 q e)
@[reducible] def dMake (C : Addr) (nm : List Str) (c : DSp) (dds : List Dt) (e : DX) (t : DTA) : DTE := fun δ S q => t δ S fun ds S1 => ∀ p, S1 p = none → c (.ref p :: appD ds dds) (sput S1 p (.ins C nm [])) (fun v S2 => v = .non ∧ q (.ref p) S2) e
section
variable {P : Program} {w : World} {K : PySem.W.Frag} {mg : Str → Option Value} {base : Heap} {x qual : Str} {params : Arguments} {body : List Stmt} {scope : Scope} {dvs : List V} {f : Addr} {fd : FuncData} {N ps : List Str} {k : Nat}
theorem start_slots {G : Hp} : ∀ (N : List Str) (ds : List Dt) (vs : List V), Reps K G ds vs → vs.length ≤ N.length → Slots K G (start N vs) (startD N.length ds) := fun N ds vs => by
  have go : ∀ (n : Nat) (ds : List Dt) (vs : List V), Reps K G ds vs → vs.length ≤ n → Slots K G (vs.map some ++ List.replicate (n - vs.length) none) (startD n ds) := fun n => by
    induction n with
    | zero =>
      intro ds vs r h
      have : vs = [] := List.eq_nil_of_length_eq_zero (by omega)
      subst this
      exact .nil
    | succ n ih =>
      intro ds vs r h
      cases ds with
      | nil =>
        have : vs = [] := r
        subst this
        have := ih [] [] rfl (Nat.zero_le _)
        show Slots K G (List.replicate (n + 1) none) (none :: startD n [])
        exact .cons (fun x hx => by cases hx) (by simpa [Slots] using this)
      | cons d l =>
        obtain ⟨v, vr, rfl, r1, r2⟩ := r
        have := ih l vr r2 (by simpa using h)
        show Slots K G (some v :: (vr.map some ++ List.replicate (n + 1 - (vr.length + 1)) none)) (some d :: startD n l)
        rw [show n + 1 - (vr.length + 1) = n - vr.length by omega]
        exact .cons (fun x hx => by cases hx; exact ⟨v, rfl, r1⟩) this
  exact go N.length ds vs
/-- THE RULE for a def -/
theorem dfn {c : DSp} {kws : List (Str × V)} (n : Nat) (F : FunD K x qual params body scope dvs kws f fd) (S : FnScope N ps scope) (len : ∀ ds S q e, c ds S q e → ds.length = ps.length) (hn : N.length = n := by rfl)
    (run : ∀ (cdv : Value) (A : Around) (outer : List Env) (s : Shared) (H : Hp) (E : XK) (e : DX), Room k (A.deeper (envOfC qual scope s.heap.objs.size f cdv)) →
      ∃ t, PSs (cxOf (L2.CX P w) P w K mg base N qual scope f cdv A outer s H E) body (tDS K E e t) ∧ ∀ ds S q, c ds S q e → t { nx := fun _ S => q .non S, rt := q } (startD n ds) S) : FnOk P w K mg base (L2.CX P w) (k + 1) f fd ps (spD K c) := by
  refine F.ok S (fun vs H Q E h => ?_) (fun cdv A outer s H vs Q E hr h => ?_)
  · obtain ⟨ds, S, Z, q, e, g, r, l, h, k⟩ := h
    rw [← r.len]
    exact len ds S q e h
  · obtain ⟨ds, S', Z, q, e, g, r, l, h, kk⟩ := h
    obtain ⟨t, p, h2⟩ := run cdv A outer s H E e hr
    refine ⟨_, p, _, S', Z, _, ⟨g, ?_, l⟩, h2 ds S' q h, ?_⟩
    · rw [← hn]
      refine start_slots N ds vs r ?_
      rw [← r.len, len ds S' q e h]
      have := congrArg List.length S.pre
      rw [List.length_take] at this
      omega
    · exact ⟨fun σ δ H S g x s q => kk .non .non H S g x rfl q, fun v d H S g x r q => kk v d H S g x r q, fun _ _ _ _ _ _ _ h => h, fun _ _ _ _ _ _ _ h => h⟩
end
section
variable {X : Cx} {K : PySem.W.Frag} {E : XK} {e : DX} {k j : Nat} {x m : Str} {C : Addr} {c : DSp} {dvs : List V} {dds : List Dt} {p pos apos : Pos} {a o : Expr} {es : List Expr} {ts : DTA} {da : DTE} {nm : List Str}
theorem tD_call (hd : Dfl K dds dvs) {σ : L2.St} {H : Hp} {Q : VK} (h : tD K E e (dCall c dds e ts) σ H Q) : tCall (spD K c) dvs E (tDA K E e ts) σ H Q := by
  obtain ⟨δ, S, Z, q, t, h, k⟩ := h
  refine ⟨δ, S, Z, _, t, h, fun vs ds H1 S1 g1 x1 r1 h1 => ⟨appD ds dds, S1, Z, q, e, g1, ?_, t.lk.ext x1, h1, k.ext x1⟩⟩
  rw [appD_eq]
  exact Reps.pair.mpr (Paired.app (Reps.pair.mp r1) (Reps.pair.mp (hd _)))
theorem dfl_nil : Dfl K [] [] := fun _ => rfl
theorem de_call (hK : X.K = K) (cl : CalX X.prog X.w K X.mg X.base k x (spD K c) dvs) (hd : Dfl K dds dvs) (hr : Room j X.A) (hk : k ≤ j) (hg : Gl X x) (hx : Passes (L2.CX X.prog X.w) X E) (ha : PA X (a :: es) (tDA K E e ts)) (hdb : (x == ("__debug__" : Str)) = false := by decide)
    (he : starEach (a :: es) X.env = (false, eval a X.env) :: starEach es X.env := by rfl) (hpl : (backTo pos (starEach es X.env)).any (·.1) = false := by rfl) : PE X (.Call (.Name x p) (a :: es) [] pos) (tD K E e (dCall c dds e ts)) := by
  subst hK
  exact PE.imp (pe_cX cl hr hk hg hx ha hdb he hpl) fun σ H Q h => tD_call hd h
theorem de_call0 (hK : X.K = K) (cl : CalX X.prog X.w K X.mg X.base k x (spD K c) dvs) (hd : Dfl K dds dvs) (hr : Room j X.A) (hk : k ≤ j) (hg : Gl X x) (hx : Passes (L2.CX X.prog X.w) X E) (hdb : (x == ("__debug__" : Str)) = false := by decide) :
    PE X (.Call (.Name x p) [] [] pos) (tD K E e (dCall c dds e dNil)) := by
  subst hK
  refine PE.imp (pe_cX0 cl hr hk hg hx hdb) fun σ H Q h => ?_
  obtain ⟨δ, S, Z, q, t, h, k⟩ := h
  exact ⟨appD [] dds, S, Z, q, e, t.good, hd _, t.lk, h, k⟩
theorem ins_of {Z H : Hp} {S : Store} {v : V} {d : Dt} (g : Good K Z H S) (r : Rep K (out H S Z) d v) (hm : m ∉ nm) {A : Prop} (h : isIns C nm d S A) : (∃ a dx fs, v = .ref a ∧ H a = some (.ins C dx fs) ∧ fs.lookup m = none) ∧ A := by
  have look : ∀ (n : Nat) (vs : List V), ((nm.take n).zip vs).lookup m = none := fun n vs => by
    rw [List.lookup_eq_none_iff]
    intro p hp
    have := List.of_mem_zip hp
    have h1 : p.1 ≠ m := fun z => hm (z ▸ List.mem_of_mem_take this.1)
    simpa using Ne.symm h1
  cases d with
  | obj C' nm' l =>
    obtain ⟨⟨rfl, rfl⟩, h⟩ := h
    obtain ⟨a, dx, vs, rfl, h1, _⟩ := r
    exact ⟨⟨a, dx, _, rfl, out_le h1, look _ _⟩, h⟩
  | ref a =>
    obtain ⟨l, h1, h2⟩ := h
    obtain ⟨ob, h3, dx, vs, rfl, _⟩ := g.c a _ h1
    exact ⟨⟨a, dx, _, r, h3, look _ _⟩, h2⟩
  | _ => exact h.elim
theorem de_meth (hK : X.K = K) {pl : Sem Bool} (cl : MetX X.prog X.w K X.mg X.base k C m (spD K c) dvs) (hm : m ∉ nm) (hd : Dfl K dds dvs) (hr : Room j X.A) (hk : k ≤ j) (hx : Passes (L2.CX X.prog X.w) X E) (ho : PE X o (tD K E e da)) (ha : PA X (a :: es) (tDA K E e ts))
    (hst : starEach (a :: es) X.env = (false, eval a X.env) :: starEach es X.env := by rfl) (hpl : (backTo pos (starEach es X.env)).any (·.1) = false := by rfl)
    (ht : eval (.Call (.Attribute o m apos) (a :: es) [] pos) X.env = (do
      let ov ← eval o X.env
      standAt apos.atName
      let (f, first) ← holding [ov] (getMethod ov m pl)
      callWith pos f first (backTo pos (starEach (a :: es) X.env)) (backToKw pos (keywordEach [] X.env))) := by rfl) :
    PE X (.Call (.Attribute o m apos) (a :: es) [] pos) (tD K E e (dMeth C nm c dds e da ts)) := by
  subst hK
  refine PE.imp (pe_mX cl hr hk hx ho ha hst hpl ht) fun σ H Q h => ?_
  obtain ⟨δ, S, Z, q, t, h, k⟩ := h
  refine ⟨δ, S, Z, _, t, h, fun v x H1 S1 g1 x1 r1 h1 => ?_⟩
  obtain ⟨⟨b, dx, fs, rfl, h2, h3⟩, h4⟩ := ins_of g1 r1 hm h1
  refine ⟨b, dx, fs, rfl, h2, h3, δ, S1, Z, _, t.to g1 x1, h4, fun vs ds H2 S2 g2 x2 r2 h5 => ⟨x :: appD ds dds, S2, Z, q, e, g2, ⟨.ref b, _, rfl, Rep.ext x2 _ _ r1, ?_⟩, t.lk.ext (x1.trans x2), h5, k.ext (x1.trans x2)⟩⟩
  rw [appD_eq]
  exact Reps.pair.mpr (Paired.app (Reps.pair.mp r2) (Reps.pair.mp (hd _)))
theorem de_meth0 (hK : X.K = K) {pl : Sem Bool} (cl : MetX X.prog X.w K X.mg X.base k C m (spD K c) dvs) (hm : m ∉ nm) (hd : Dfl K dds dvs) (hr : Room j X.A) (hk : k ≤ j) (hx : Passes (L2.CX X.prog X.w) X E) (ho : PE X o (tD K E e da))
    (ht : eval (.Call (.Attribute o m apos) [] [] pos) X.env = (do
      let ov ← eval o X.env
      standAt apos.atName
      let (f, first) ← holding [ov] (getMethod ov m pl)
      callWith pos f first (backTo pos (starEach [] X.env)) (backToKw pos (keywordEach [] X.env))) := by rfl) :
    PE X (.Call (.Attribute o m apos) [] [] pos) (tD K E e (dMeth C nm c dds e da dNil)) := by
  subst hK
  refine PE.imp (pe_mX0 cl hr hk hx ho ht) fun σ H Q h => ?_
  obtain ⟨δ, S, Z, q, t, h, k⟩ := h
  refine ⟨δ, S, Z, _, t, h, fun v x H1 S1 g1 x1 r1 h1 => ?_⟩
  obtain ⟨⟨b, dx, fs, rfl, h2, h3⟩, h4⟩ := ins_of g1 r1 hm h1
  exact ⟨b, dx, fs, rfl, h2, h3, x :: appD [] dds, S1, Z, q, e, g1, ⟨.ref b, _, rfl, r1, hd _⟩, t.lk.ext x1, h4, k.ext x1⟩
theorem tD_make (hd : Dfl K dds dvs) {σ : L2.St} {H : Hp} {Q : VK} (h : tD K E e (dMake C nm c dds e ts) σ H Q) : tMake C (spD K c) dvs E (tDA K E e ts) σ H Q := by
  obtain ⟨δ, S, Z, q, t, h, k⟩ := h
  refine ⟨δ, S, Z, _, t, h, fun vs ds H1 S1 g1 x1 r1 h1 p dx np ndx ne => ?_⟩
  have g2 := g1.new (o := .own p) ndx
  have np2 : upd H1 dx (.own p) p = none := by rw [upd_ne (Ne.symm ne)]; exact np
  have g3 : Good K Z (upd (upd H1 dx (.own p)) p (.ins C dx [])) (sput S1 p (.ins C nm [])) := g2.own np2 (c := .ins C nm []) ⟨dx, [], by simp, rfl, Nat.zero_le _⟩
  have o3 := out_own (o := .ins C dx []) g2 np2 (c := .ins C nm [])
  have x3 : Ext (out H1 S1 Z) (out (upd (upd H1 dx (.own p)) p (.ins C dx [])) (sput S1 p (.ins C nm [])) Z) := by rw [o3]; exact ext_new g1 ndx
  refine ⟨.ref p :: appD ds dds, _, Z, _, e, g3, ⟨.ref p, _, rfl, rfl, ?_⟩, t.lk.ext (x1.trans x3), h1 p (g1.nS np), ?_⟩
  · rw [appD_eq]
    exact Reps.pair.mpr (Paired.app (Reps.pair.mp (Reps.ext x3 _ _ r1)) (Reps.pair.mp (hd _)))
  · intro v d H4 S4 g4 x4 r4 h4
    obtain ⟨rfl, h4⟩ := h4
    exact ⟨r4, k (.ref p) (.ref p) H4 S4 g4 (x1.trans (x3.trans x4)) rfl h4⟩
theorem de_make (hK : X.K = K) (cl : MakX X.prog X.w K X.mg X.base k x C (spD K c) dvs) (hd : Dfl K dds dvs) (hr : Room j X.A) (hk : k + 1 ≤ j) (hg : Gl X x) (hx : Passes (L2.CX X.prog X.w) X E) (ha : PA X (a :: es) (tDA K E e ts)) (hdb : (x == ("__debug__" : Str)) = false := by decide)
    (he : starEach (a :: es) X.env = (false, eval a X.env) :: starEach es X.env := by rfl) (hpl : (backTo pos (starEach es X.env)).any (·.1) = false := by rfl) : PE X (.Call (.Name x p) (a :: es) [] pos) (tD K E e (dMake C nm c dds e ts)) := by
  subst hK
  exact PE.imp (pe_mkX cl hr hk hg hx ha hdb he hpl) fun σ H Q h => tD_make hd h
theorem de_make0 (hK : X.K = K) (cl : MakX X.prog X.w K X.mg X.base k x C (spD K c) dvs) (hd : Dfl K dds dvs) (hr : Room j X.A) (hk : k + 1 ≤ j) (hg : Gl X x) (hx : Passes (L2.CX X.prog X.w) X E) (hdb : (x == ("__debug__" : Str)) = false := by decide) :
    PE X (.Call (.Name x p) [] [] pos) (tD K E e (dMake C nm c dds e dNil)) := by
  subst hK
  refine PE.imp (pe_mkX0 cl hr hk hg hx hdb) fun σ H Q h => ?_
  have h2 := tD_make (ts := dNil) hd h
  exact h2_nil h2
where
  h2_nil {X : Cx} {E : XK} {e : DX} {C : Addr} {c : DSp} {dvs : List V} {σ : L2.St} {H : Hp} {Q : VK} (h : tMake C (spD X.K c) dvs E (tDA X.K E e dNil) σ H Q) : tMake C (spD X.K c) dvs E tNil σ H Q := by
    obtain ⟨δ, S, Z, q, t, h, k⟩ := h
    exact k [] [] H S t.good Ext.refl rfl h
end
/-- exceptions in what a comprehension makes: none -/
theorem no_pass {X : Cx} : Passes (L2.CX X.prog X.w) X E0 := passL
end Dn

/-! what is built in -/
namespace Dn
open PySem PySem.Spec PyProof.Rows L2 Pr
@[reducible] def rcLen : DCr := fun xs S q => match xs with
  | [.str z] => q (.int z.length) S
  | [.lst l] => q (.int l.length) S
  | [.tup l] => q (.int l.length) S
  | [.ref a] => ∃ c, S a = some c ∧ (match c with
    | .lst l => q (.int l.length) S
    | .dic l => q (.int l.length) S
    | _ => False)
  | _ => False
@[reducible] def rcAbs : DCr := fun xs S q => match xs with
  | [.int i] => q (.int (if i < 0 then -i else i)) S
  | _ => False
@[reducible] def rcMin : DCr := fun xs S q => match xs with
  | [.int i, .int j] => q (.int (min i j)) S
  | _ => False
@[reducible] def rcMax : DCr := fun xs S q => match xs with
  | [.int i, .int j] => q (.int (max i j)) S
  | _ => False
@[reducible] def rcInt : DCr := fun xs S q => match xs with
  | [.int i] => q (.int i) S
  | [.bl b] => q (.int (if b then 1 else 0)) S
  | _ => False
/-- list(x), a new list that stands still or will change -/
@[reducible] def rcListF : DCr := fun xs S q => match xs with
  | [x] => seeQ x S fun l => q (.lst l) S
  | _ => False
@[reducible] def rcListO : DCr := fun xs S q => match xs with
  | [x] => seeQ x S fun l => ∀ p, S p = none → q (.ref p) (sput S p (.lst l))
  | _ => False
/-- list(d) -/
@[reducible] def rcKeysF : DCr := fun xs S q => match xs with
  | [x] => seeD x S fun l => q (.lst (l.map fun p => keyD p.1)) S
  | _ => False
/-- dict(d) -/
@[reducible] def rcCopyO : DCr := fun xs S q => match xs with
  | [x] => seeD x S fun l => ∀ p, S p = none → q (.ref p) (sput S p (.dic l))
  | _ => False
/-- dict([(k, v), ..]) -/
@[reducible] def rcPairsO : DCr := fun xs S q => match xs with
  | [x] => seeL x S fun l => ∃ m : List (Key × Dt), l = (m.map fun p => Dt.tup [keyD p.1, p.2]) ∧ ∀ p, S p = none → q (.ref p) (sput S p (.dic (kMerge [] m)))
  | _ => False
@[reducible] def rcPairsF : DCr := fun xs S q => match xs with
  | [x] => seeL x S fun l => ∃ m : List (Key × Dt), l = (m.map fun p => Dt.tup [keyD p.1, p.2]) ∧ q (.dic (kMerge [] m)) S
  | _ => False
/-- sorted of a dict with texts as keys, of a list of texts, of ints -/
@[reducible] def rcSortD : DCr := fun xs S q => match xs with
  | [x] => seeD x S fun l => ∃ ks : List Str, l.map (·.1) = ks.map Sum.inr ∧ ks.length < 64 ∧ ∀ ys : List Str, ys.Perm ks → sortedS ys = true → q (.lst (ys.map Dt.str)) S
  | _ => False
@[reducible] def rcSortS : DCr := fun xs S q => match xs with
  | [x] => seeL x S fun l => ∃ ks : List Str, l = ks.map Dt.str ∧ ks.length < 64 ∧ ∀ ys : List Str, ys.Perm ks → sortedS ys = true → q (.lst (ys.map Dt.str)) S
  | _ => False
@[reducible] def rcSortI : DCr := fun xs S q => match xs with
  | [x] => seeL x S fun l => ∃ ks : List Int, l = ks.map Dt.int ∧ ks.length < 64 ∧ ∀ ys : List Int, ys.Perm ks → ys.Pairwise (· ≤ ·) → q (.lst (ys.map Dt.int)) S
  | _ => False
@[reducible] def rcSum : DCr := fun xs S q => match xs with
  | [x] => seeL x S fun l => ∃ ks : List Int, l = ks.map Dt.int ∧ q (.int ks.sum) S
  | _ => False
/-- isinstance(x, str) and the like -/
@[reducible] def tyN (x : Dt) (k : String → Prop) : Prop := match x with
  | .str _ => k "str"
  | .int _ => k "int"
  | .bl _ => k "bool"
  | .non => k "NoneType"
  | .tup _ => k "tuple"
  | .lst _ => k "list"
  | .dic _ => k "dict"
  | _ => False
@[reducible] def rcIsi (n : String) : DCr := fun xs S q => match xs with
  | [x, .ty m] => m = n ∧ tyN x fun t => ∃ b, kitB t n = some b ∧ q (.bl b) S
  | _ => False
section
variable {X : Cx} {K : PySem.W.Frag}
theorem strs_rep {G : Hp} {ks : List Str} {vs : List V} (h : Reps K G (ks.map Dt.str) vs) : vs = ks.map V.str ∧ ∀ k ∈ ks, SOk k := by
  induction ks generalizing vs with
  | nil => exact ⟨h, fun _ h => by cases h⟩
  | cons k ks ih =>
    obtain ⟨v, r, rfl, ⟨rfl, h1⟩, h2⟩ := h
    obtain ⟨rfl, h3⟩ := ih h2
    exact ⟨rfl, fun x hx => by
      rcases List.mem_cons.mp hx with rfl | hx
      · exact h1
      · exact h3 x hx⟩
theorem strs_reps {G : Hp} {ks : List Str} (h : ∀ k ∈ ks, SOk k) : Reps K G (ks.map Dt.str) (ks.map V.str) := by
  induction ks with
  | nil => exact rfl
  | cons k ks ih => exact ⟨_, _, rfl, ⟨rfl, h k List.mem_cons_self⟩, ih fun x hx => h x (List.mem_cons_of_mem _ hx)⟩
theorem ints_rep {G : Hp} {ks : List Int} {vs : List V} (h : Reps K G (ks.map Dt.int) vs) : vs = ks.map V.int := by
  induction ks generalizing vs with
  | nil => exact h
  | cons k ks ih =>
    obtain ⟨v, r, rfl, h1, h2⟩ := h
    rw [ih h2, show v = _ from h1]
    rfl
theorem ints_reps {G : Hp} {ks : List Int} : Reps K G (ks.map Dt.int) (ks.map V.int) := by
  induction ks with
  | nil => exact rfl
  | cons k ks ih => exact ⟨_, _, rfl, rfl, ih⟩
theorem cd_len (hK : X.K = K) : CallR X (.builtin "len") (rDC K rcLen) := fun pins s σ H xs us Q I r ⟨ds, S, Z, q, g, rs, h, k⟩ => by
  subst hK
  match ds, h with
  | [.str z], h =>
    obtain ⟨v, rfl, rv⟩ := reps1 rs
    exact call_len pins s σ H _ us Q I r ⟨v, z.length, rfl, by rw [rv.1]; exact ⟨rv.2.len, rfl⟩, k.here g h rfl⟩
  | [.lst l], h =>
    obtain ⟨v, rfl, rv⟩ := reps1 rs
    obtain ⟨a, vs, rfl, h1, h2⟩ := rv
    exact call_len pins s σ H _ us Q I r ⟨_, vs.length, rfl, .inl ⟨vs, SqL.of (out_le h1), rfl⟩, by rw [← h2.len]; exact k.here g h rfl⟩
  | [.tup l], h =>
    obtain ⟨v, rfl, rv⟩ := reps1 rs
    obtain ⟨a, vs, rfl, h1, h2⟩ := rv
    exact call_len pins s σ H _ us Q I r ⟨_, vs.length, rfl, .inr ⟨vs, SqT.out h1, rfl⟩, by rw [← h2.len]; exact k.here g h rfl⟩
  | [.ref a], h =>
    obtain ⟨v, rfl, rv⟩ := reps1 rs
    obtain rfl := (show v = _ from rv)
    obtain ⟨c, h1, h2⟩ := h
    obtain ⟨o, h3, h4⟩ := g.c a _ h1
    cases c with
    | lst l => obtain ⟨vs, rfl, h5⟩ := h4; exact call_len pins s σ H _ us Q I r ⟨_, vs.length, rfl, .inl ⟨vs, SqL.of h3, rfl⟩, by rw [← h5.len]; exact k.here g h2 rfl⟩
    | dic l => obtain ⟨vs, rfl, h5⟩ := h4; exact call_lenD pins s σ H _ us Q I r ⟨_, vs, rfl, h3, by rw [← h5.len]; exact k.here g h2 rfl⟩
    | _ => exact h2.elim
theorem cd_abs : CallR X (.builtin "abs") (rDC K rcAbs) := fun pins s σ H xs us Q I r ⟨ds, S, Z, q, g, rs, h, k⟩ => by
  match ds, h with
  | [.int i], h =>
    obtain ⟨v, rfl, rv⟩ := reps1 rs
    exact call_absN pins s σ H _ us Q I r ⟨i, by rw [show v = _ from rv], k.here g h rfl⟩
theorem cd_min (hc : X.calm = true) : CallR X (.builtin "min") (rDC K rcMin) := fun pins s σ H xs us Q I r ⟨ds, S, Z, q, g, rs, h, k⟩ => by
  match ds, h with
  | [.int i, .int j], h =>
    obtain ⟨v, w, rfl, rv, rw'⟩ := reps2 rs
    obtain rfl := (show v = _ from rv)
    obtain rfl := (show w = _ from rw')
    exact call_min2N hc pins s σ H _ us Q I r (g_min (k.here g h rfl))
theorem cd_max (hc : X.calm = true) : CallR X (.builtin "max") (rDC K rcMax) := fun pins s σ H xs us Q I r ⟨ds, S, Z, q, g, rs, h, k⟩ => by
  match ds, h with
  | [.int i, .int j], h =>
    obtain ⟨v, w, rfl, rv, rw'⟩ := reps2 rs
    obtain rfl := (show v = _ from rv)
    obtain rfl := (show w = _ from rw')
    exact call_max2N hc pins s σ H _ us Q I r (g_max (k.here g h rfl))
theorem cd_int : CallR X (.type "int") (rDC K rcInt) := fun pins s σ H xs us Q I r ⟨ds, S, Z, q, g, rs, h, k⟩ => by
  match ds, h with
  | [.int i], h =>
    obtain ⟨v, rfl, rv⟩ := reps1 rs
    exact call_int1N pins s σ H _ us Q I r (.inl ⟨i, by rw [show v = _ from rv], k.here g h rfl⟩)
  | [.bl b], h =>
    obtain ⟨v, rfl, rv⟩ := reps1 rs
    exact call_int1N pins s σ H _ us Q I r (.inr ⟨b, by rw [show v = _ from rv], k.here g h rfl⟩)
theorem one_arg {ds : List Dt} {P : Dt → Prop} (h : match ds with
  | [x] => P x
  | _ => False) : ∃ x, ds = [x] ∧ P x := by
  match ds, h with
  | [x], h => exact ⟨x, rfl, h⟩
theorem cd_listF (hK : X.K = K) : CallR X (.type "list") (rDC K rcListF) := fun pins s σ H xs us Q I r ⟨ds, S, Z, q, g, rs, h, k⟩ => by
  subst hK
  obtain ⟨x, rfl, h⟩ := one_arg h
  obtain ⟨v, rfl, rv⟩ := reps1 rs
  obtain ⟨a, vs, l, rfl, h1, h2, h3⟩ := see_seq g rv h
  exact call_list_of pins s σ H _ us Q I r ⟨a, vs, rfl, h1, fun p np => k.new g np h3 ⟨p, vs, rfl, out_new g np, Reps.ext (ext_new g np) _ _ h2⟩⟩
theorem cd_listO (hK : X.K = K) : CallR X (.type "list") (rDC K rcListO) := fun pins s σ H xs us Q I r ⟨ds, S, Z, q, g, rs, h, k⟩ => by
  subst hK
  obtain ⟨x, rfl, h⟩ := one_arg h
  obtain ⟨v, rfl, rv⟩ := reps1 rs
  obtain ⟨a, vs, l, rfl, h1, h2, h3⟩ := see_seq g rv h
  exact call_list_of pins s σ H _ us Q I r ⟨a, vs, rfl, h1, fun p np => k.own g np (h3 p (g.nS np)) ⟨vs, rfl, h2⟩⟩
theorem keys_rep {G : Hp} {l : List (Key × Dt)} {vs : List (Key × V)} (h : KR KOk K G l vs) : Reps K G (l.map fun p => keyD p.1) (vs.map fun p => kV p.1) := by
  induction h with
  | nil => exact rfl
  | @cons p q l m h t ih => exact ⟨_, _, rfl, by show Rep K G (keyD p.1) (kV q.1); rw [← h.1]; exact key_rep h.2.1, ih⟩
theorem cd_keysF (hc : X.calm = true) : CallR X (.type "list") (rDC K rcKeysF) := fun pins s σ H xs us Q I r ⟨ds, S, Z, q, g, rs, h, k⟩ => by
  obtain ⟨x, rfl, h⟩ := one_arg h
  obtain ⟨v, rfl, rv⟩ := reps1 rs
  obtain ⟨a, vs, l, rfl, h1, h2, h3⟩ := see_dic g rv h
  exact call_listD hc pins s σ H _ us Q I r ⟨a, vs, rfl, h1, fun p np => k.new g np h3 ⟨p, _, rfl, out_new g np, Reps.ext (ext_new g np) _ _ (keys_rep (Repk.kr.mp h2))⟩⟩
theorem cd_copyO (hc : X.calm = true) : CallR X (.type "dict") (rDC K rcCopyO) := fun pins s σ H xs us Q I r ⟨ds, S, Z, q, g, rs, h, k⟩ => by
  obtain ⟨x, rfl, h⟩ := one_arg h
  obtain ⟨v, rfl, rv⟩ := reps1 rs
  obtain ⟨a, vs, l, rfl, h1, h2, h3⟩ := see_dic g rv h
  exact call_dictD pins s σ H _ us Q I r ⟨a, vs, rfl, h1, fun p np => k.own g np (h3 p (g.nS np)) ⟨vs, rfl, h2⟩⟩
theorem keyD_rep {G : Hp} {k : Key} {v : V} (h : Rep K G (keyD k) v) : v = kV k ∧ KOk k := by
  cases k with
  | inl i => exact ⟨h, trivial⟩
  | inr z => exact ⟨h.1, h.2⟩
theorem pairs_rep {Z H : Hp} {S : Store} : ∀ {m : List (Key × Dt)} {vs : List V}, Reps K (out H S Z) (m.map fun p => Dt.tup [keyD p.1, p.2]) vs →
    ∃ (ps : List Addr) (kvs : List (Key × V)), vs = ps.map V.ref ∧ Paired (fun p kv => SqT K H p [kV kv.1, kv.2]) ps kvs ∧ KR KOk K (out H S Z) m kvs
  | [], vs, h => by
    rw [show vs = [] from h]
    exact ⟨[], [], rfl, .nil, .nil⟩
  | (key, d) :: m, vs, h => by
    obtain ⟨v, r, rfl, h1, h2⟩ := h
    obtain ⟨ps, kvs, rfl, h3, h4⟩ := pairs_rep h2
    obtain ⟨a, us, rfl, h5, h6⟩ := h1
    obtain ⟨u1, u2, rfl, h7, h8⟩ := reps2 h6
    obtain ⟨rfl, ko⟩ := keyD_rep h7
    exact ⟨a :: ps, (key, u2) :: kvs, rfl, .cons (SqT.out h5) h3, .cons ⟨rfl, ko, h8⟩ h4⟩
theorem cd_pairsO (hK : X.K = K) (hc : X.calm = true) : CallR X (.type "dict") (rDC K rcPairsO) := fun pins s σ H xs us Q I r ⟨ds, S, Z, q, g, rs, h, k⟩ => by
  obtain ⟨x, rfl, h⟩ := one_arg h
  obtain ⟨v, rfl, rv⟩ := reps1 rs
  obtain ⟨a, vs, l, rfl, h1, h2, m, rfl, h3⟩ := see_lst g rv h
  obtain ⟨ps, kvs, rfl, h4, h5⟩ := pairs_rep h2
  exact call_dictPK hK hc pins s σ H _ us Q I r ⟨a, ps, kvs, rfl, SqL.of h1, h4, fun p np => k.own g np (h3 p (g.nS np)) ⟨_, rfl, Repk.kr.mpr (KR.merge .nil h5)⟩⟩
theorem cd_pairsF (hK : X.K = K) (hc : X.calm = true) : CallR X (.type "dict") (rDC K rcPairsF) := fun pins s σ H xs us Q I r ⟨ds, S, Z, q, g, rs, h, k⟩ => by
  obtain ⟨x, rfl, h⟩ := one_arg h
  obtain ⟨v, rfl, rv⟩ := reps1 rs
  obtain ⟨a, vs, l, rfl, h1, h2, m, rfl, h3⟩ := see_lst g rv h
  obtain ⟨ps, kvs, rfl, h4, h5⟩ := pairs_rep h2
  exact call_dictPK hK hc pins s σ H _ us Q I r ⟨a, ps, kvs, rfl, SqL.of h1, h4, fun p np => k.new g np h3 ⟨p, _, rfl, .inl (out_new g np), Repk.kr.mpr (KR.merge .nil (h5.ext (ext_new g np)))⟩⟩
theorem cd_sortD (hc : X.calm = true) : CallR X (.builtin "sorted") (rDC K rcSortD) := fun pins s σ H xs us Q I r ⟨ds, S, Z, q, g, rs, h, k⟩ => by
  obtain ⟨x, rfl, h⟩ := one_arg h
  obtain ⟨v, rfl, rv⟩ := reps1 rs
  obtain ⟨a, vs, l, rfl, h1, h2, ks, e, hl, h3⟩ := see_dic g rv h
  have ek : vs.map (·.1) = ks.map Sum.inr := by
    rw [← e]
    have := Repk.kr.mp h2
    clear h1 e h3 r h h2
    induction this with
    | nil => rfl
    | cons h t ih => rw [List.map_cons, List.map_cons, ih, h.1]
  have ok : ∀ z ∈ ks, SOk z := fun z hz => by
    have hz : (Sum.inr z : Key) ∈ l.map (·.1) := by rw [e]; exact List.mem_map.mpr ⟨z, hz, rfl⟩
    obtain ⟨p, hp, ep⟩ := List.mem_map.mp hz
    obtain ⟨i, hi⟩ := List.getElem?_of_mem hp
    obtain ⟨_, _, _, h5, _⟩ := Paired.get (Repk.kr.mp h2) hi
    rw [ep] at h5
    exact h5
  exact call_sortedD hc pins s σ H _ us Q I r ⟨a, vs, ks, rfl, h1, ek, hl, fun ys p pe so np => k.new g np (h3 ys pe so) ⟨p, _, rfl, out_new g np, strs_reps fun z hz => ok z (pe.mem_iff.mp hz)⟩⟩
theorem cd_sortS (hK : X.K = K) : CallR X (.builtin "sorted") (rDC K rcSortS) := fun pins s σ H xs us Q I r ⟨ds, S, Z, q, g, rs, h, k⟩ => by
  obtain ⟨x, rfl, h⟩ := one_arg h
  obtain ⟨v, rfl, rv⟩ := reps1 rs
  obtain ⟨a, vs, l, rfl, h1, h2, ks, rfl, hl, h3⟩ := see_lst g rv h
  obtain ⟨rfl, ok⟩ := strs_rep h2
  exact cr_sortedSK hK pins s σ H _ us Q I r ⟨a, ks, rfl, SqL.of h1, hl, fun ys p pe so np => k.new g np (h3 ys pe so) ⟨p, _, rfl, out_new g np, strs_reps fun z hz => ok z (pe.mem_iff.mp hz)⟩⟩
theorem cd_sortI (hK : X.K = K) : CallR X (.builtin "sorted") (rDC K rcSortI) := fun pins s σ H xs us Q I r ⟨ds, S, Z, q, g, rs, h, k⟩ => by
  obtain ⟨x, rfl, h⟩ := one_arg h
  obtain ⟨v, rfl, rv⟩ := reps1 rs
  obtain ⟨a, vs, l, rfl, h1, h2, ks, rfl, hl, h3⟩ := see_lst g rv h
  obtain rfl := ints_rep h2
  exact cr_sortedK hK pins s σ H _ us Q I r ⟨a, ks, rfl, SqL.of h1, hl, fun ys p pe so np => k.new g np (h3 ys pe so) ⟨p, _, rfl, out_new g np, ints_reps⟩⟩
theorem cd_sum (hK : X.K = K) (hc : X.calm = true) : CallR X (.builtin "sum") (rDC K rcSum) := fun pins s σ H xs us Q I r ⟨ds, S, Z, q, g, rs, h, k⟩ => by
  subst hK
  obtain ⟨x, rfl, h⟩ := one_arg h
  obtain ⟨v, rfl, rv⟩ := reps1 rs
  obtain ⟨a, vs, l, rfl, h1, h2, ks, rfl, h3⟩ := see_lst g rv h
  obtain rfl := ints_rep h2
  exact cr_sum hc pins s σ H _ us Q I r ⟨a, ks, rfl, SqL.of h1, k.here g h3 rfl⟩
theorem tyN_of {Z H : Hp} {S : Store} {x : Dt} {v : V} {f : String → Prop} (r : Rep K (out H S Z) x v) (h : tyN x f) : ∃ t, TyX K H v (.type t) ∧ f t := by
  cases x with
  | str z => rw [r.1]; exact ⟨_, .base (.str z), h⟩
  | int i => rw [show v = _ from r]; exact ⟨_, .base (.int i), h⟩
  | bl b => rw [show v = _ from r]; exact ⟨_, .base (.bl b), h⟩
  | non => rw [show v = _ from r]; exact ⟨_, .base .non, h⟩
  | tup l =>
    obtain ⟨a, vs, rfl, h1, h2⟩ := r
    rcases SqT.out h1 with (h1 | ⟨o, h1⟩) | ⟨o, its, n, h1, h3, _⟩
    · exact ⟨_, .base (.tup h1), h⟩
    · exact ⟨_, .fTuple h1, h⟩
    · exact ⟨_, .kTuple h1 h3, h⟩
  | lst l =>
    obtain ⟨a, vs, rfl, h1, h2⟩ := r
    exact ⟨_, .base (.lst (out_le h1)), h⟩
  | dic l =>
    obtain ⟨a, vs, rfl, h1, h2⟩ := r
    rcases Rd.out h1 with h1 | ⟨o, h1⟩
    · exact ⟨_, .base (.dK h1), h⟩
    · exact ⟨_, .fDict h1, h⟩
  | _ => exact h.elim
theorem cd_isi {n : String} (hK : X.K = K) : CallR X (.builtin "isinstance") (rDC K (rcIsi n)) := fun pins s σ H xs us Q I r ⟨ds, S, Z, q, g, rs, h, k⟩ => by
  subst hK
  match ds, h with
  | [x, .ty m], h =>
    obtain ⟨rfl, h⟩ := h
    obtain ⟨v, w, rfl, rv, rw'⟩ := reps2 rs
    obtain rfl := (show w = _ from rw')
    obtain ⟨t, ty, b, e, h⟩ := tyN_of rv h
    exact call_isi pins s σ H _ us Q I r ⟨v, .ty m, _, _, b, rfl, .ty m, ty, kit_ty e, k.here g h rfl⟩
/-! ## methods of lists -/
@[reducible] def rmAppend : DMr := fun x xs S q => match x, xs with
  | .ref a, [y] => ∃ l, S a = some (.lst l) ∧ l.length < sizeLine ∧ q .non (sput S a (.lst (l ++ [y])))
  | _, _ => False
@[reducible] def rmPop0 : DMr := fun x xs S q => match x, xs with
  | .ref a, [] => ∃ l, S a = some (.lst l) ∧ ∃ y, l[l.length - 1]? = some y ∧ q y (sput S a (.lst l.dropLast))
  | _, _ => False
@[reducible] def rmPop : DMr := fun x xs S q => match x, xs with
  | .ref a, [.int i] => ∃ l, S a = some (.lst l) ∧ (0 ≤ i ∧ i < l.length ∧ i < 2 ^ 63) ∧ ∃ y, l[i.toNat]? = some y ∧ q y (sput S a (.lst (l.eraseIdx i.toNat)))
  | _, _ => False
@[reducible] def rmInsert : DMr := fun x xs S q => match x, xs with
  | .ref a, [.int i, y] => ∃ l, S a = some (.lst l) ∧ (l.length < sizeLine ∧ 0 ≤ i ∧ i < 2 ^ 63) ∧ q .non (sput S a (.lst (l.take i.toNat ++ [y] ++ l.drop i.toNat)))
  | _, _ => False
theorem md_append : MtR X "list.append" (rDM K rmAppend) := fun pins s σ H x xs v us Q I rx r ⟨d, ds, S, Z, q, g, rd, rs, h, k⟩ => by
  match d, ds, h with
  | .ref a, [y], h =>
    obtain ⟨l, h1, h2, h3⟩ := h
    obtain ⟨w, rfl, rw'⟩ := reps1 rs
    obtain ⟨o, h4, vs, rfl, h5⟩ := g.c a _ h1
    have cr : CRep K (out H S Z) (.lst (l ++ [y])) (.lst (vs ++ [w])) := ⟨_, rfl, Reps.pair.mpr (Paired.app (Reps.pair.mp h5) (.cons rw' .nil))⟩
    exact mt_append pins s σ H x _ v us Q I rx r ⟨a, vs, w, rd, rfl, h4, by rw [← h5.len]; exact h2, k _ .non _ _ (g.mut h1 cr) (by rw [out_mut h1]; exact Ext.refl) rfl h3⟩
theorem reps_nil {G : Hp} {vs : List V} (h : Reps K G [] vs) : vs = [] := h
theorem md_pop0 : MtR X "list.pop" (rDM K rmPop0) := fun pins s σ H x xs v us Q I rx r ⟨d, ds, S, Z, q, g, rd, rs, h, k⟩ => by
  match d, ds, h with
  | .ref a, [], h =>
    obtain ⟨l, h1, y, h2, h3⟩ := h
    have e1 := reps_nil rs
    obtain ⟨o, h4, vs, rfl, h5⟩ := g.c a _ h1
    obtain ⟨w, h6, h7⟩ := Paired.get (Reps.pair.mp h5) h2
    have cr : CRep K (out H S Z) (.lst l.dropLast) (.lst vs.dropLast) := ⟨_, rfl, Reps.pair.mpr (by
      rw [List.dropLast_eq_take, List.dropLast_eq_take, h5.len]
      exact Paired.take _ (Reps.pair.mp h5))⟩
    exact mt_pop pins s σ H x _ v us Q I rx r ⟨a, vs, w, rd, e1, h4, by rw [← h5.len]; exact h6, k w y _ _ (g.mut h1 cr) (by rw [out_mut h1]; exact Ext.refl) (by rw [out_mut h1]; exact h7) h3⟩
theorem Paired.erase {α β : Type} {F : α → β → Prop} : ∀ {l : List α} {m : List β} (i : Nat), Paired F l m → Paired F (l.eraseIdx i) (m.eraseIdx i)
  | _, _, _, .nil => .nil
  | _, _, 0, .cons _ t => t
  | _, _, i + 1, .cons r t => .cons r (Paired.erase i t)
theorem md_pop : MtR X "list.pop" (rDM K rmPop) := fun pins s σ H x xs v us Q I rx r ⟨d, ds, S, Z, q, g, rd, rs, h, k⟩ => by
  match d, ds, h with
  | .ref a, [.int i], h =>
    obtain ⟨l, h1, ⟨i0, i1, i2⟩, y, h2, h3⟩ := h
    obtain ⟨w, rfl, rw'⟩ := reps1 rs
    obtain ⟨o, h4, vs, rfl, h5⟩ := g.c a _ h1
    obtain ⟨w2, h6, h7⟩ := Paired.get (Reps.pair.mp h5) h2
    have cr : CRep K (out H S Z) (.lst (l.eraseIdx i.toNat)) (.lst (vs.eraseIdx i.toNat)) := ⟨_, rfl, Reps.pair.mpr (Paired.erase _ (Reps.pair.mp h5))⟩
    have lv := h5.len
    have e2 : seqIndex? i vs.length = some i.toNat := by
      unfold seqIndex?
      have h1 : ¬ i < 0 := by omega
      have h2 : i < (vs.length : Int) := by omega
      simp [h1, i0, h2]
    exact mt_popAt pins s σ H x _ v us Q I rx r ⟨a, vs, i, i.toNat, w2, rd, by rw [show w = _ from rw'], h4, by omega, i2, e2, h6, k w2 y _ _ (g.mut h1 cr) (by rw [out_mut h1]; exact Ext.refl) (by rw [out_mut h1]; exact h7) h3⟩
theorem md_insert : MtR X "list.insert" (rDM K rmInsert) := fun pins s σ H x xs v us Q I rx r ⟨d, ds, S, Z, q, g, rd, rs, h, k⟩ => by
  match d, ds, h with
  | .ref a, [.int i, y], h =>
    obtain ⟨l, h1, ⟨l1, i0, i1⟩, h3⟩ := h
    obtain ⟨w, w2, rfl, rw1, rw2⟩ := reps2 rs
    obtain ⟨o, h4, vs, rfl, h5⟩ := g.c a _ h1
    have cr : CRep K (out H S Z) (.lst (l.take i.toNat ++ [y] ++ l.drop i.toNat)) (.lst (vs.take i.toNat ++ [w2] ++ vs.drop i.toNat)) := ⟨_, rfl, Reps.pair.mpr (Paired.app (Paired.app (Paired.take _ (Reps.pair.mp h5)) (.cons rw2 .nil)) (Paired.drop _ (Reps.pair.mp h5)))⟩
    exact mt_insert pins s σ H x _ v us Q I rx r ⟨a, vs, i, w2, rd, by rw [show w = _ from rw1], h4, by rw [← h5.len]; exact l1, i0, i1, k _ .non _ _ (g.mut h1 cr) (by rw [out_mut h1]; exact Ext.refl) rfl h3⟩
end
/-! ## tuple(x) -/
@[reducible] def dTupOf (a : DTE) : DTE := fun δ S q => a δ S fun x S1 => seeQ x S1 fun l => q (.tup l) S1
theorem de_tupOf {X : Cx} {K : PySem.W.Frag} {E : XK} {e : DX} {p pos : Pos} {a : Expr} {da : DTE} (hK : X.K = K) (hg : Gl X "tuple") (hm : X.mg "tuple" = none) (ha : PE X a (tD K E e da)) (na : starEach [a] X.env = (false, eval a X.env) :: starEach [] X.env := by rfl) :
    PE X (.Call (.Name "tuple" p) [a] [] pos) (tD K E e (dTupOf da)) := PE.imp (pe_tupleOfK (p := p) (pos := pos) hK hg hm ha na) fun σ H Q h => by
  refine tD_seq (f := fun x S q => seeQ x S fun l => q (.tup l) S) h fun v x δ S Z H1 q t r h k => ?_
  have lists : (seeL x S fun l => q (.tup l) S) → kTup K v H1 Q := fun h => by
    obtain ⟨a, vs, l, rfl, h1, h2, h3⟩ := see_lst t.good r h
    exact .inl ⟨a, vs, rfl, SqL.of h1, fun p np => k.new t.good np h3 ⟨p, vs, rfl, SqT.of (out_new t.good np), Reps.ext (ext_new t.good np) _ _ h2⟩⟩
  cases x with
  | tup m =>
    obtain ⟨b, ws, e1, h4, h5⟩ := r
    cases e1
    exact .inr ⟨_, _, rfl, SqT.out h4, k.here t.good (show q (.tup m) S from h) ⟨_, _, rfl, h4, h5⟩⟩
  | _ => exact lists h
end Dn

/-! lambdas: told(lambda: ..), kept -/
namespace Dn
open PySem PySem.Spec PyProof.Rows L2 Pr LamX NdefX
theorem cell_ext {K : PySem.W.Frag} {G : Hp} {x : Cell} {φ : Heap → Prop} (h : CRep K G x (.ext φ)) : False := by
  cases x with
  | tbl q => obtain ⟨_, h, _⟩ := h; cases h
  | gtb => obtain ⟨_, h, _⟩ := h; cases h
  | lst l => obtain ⟨_, h, _⟩ := h; cases h
  | dic l => obtain ⟨_, h, _⟩ := h; cases h
  | dct l => obtain ⟨_, h, _⟩ := h; cases h
  | lck u l => obtain ⟨_, _, _, h, _⟩ := h; cases h
  | ins C nm l => obtain ⟨_, _, h, _⟩ := h; cases h
section
variable {K : PySem.W.Frag} {Z H H1 : Hp} {S : Store} {P : Addr} {q : Str}
/-- a thing that is known by its object alone stands still -/
theorem out_ext (g : Good K Z H S) (x : OnlyT P H H1) (hP : ∀ φ, H1 P ≠ some (.ext φ)) {b : Addr} {φ : Heap → Prop} (h : H1 b = some (.ext φ)) : out H1 S Z b = some (.ext φ) := by
  have nb : b ≠ P := fun z => hP φ (by rw [← z]; exact h)
  refine (out_of ?_ ?_).trans h
  · cases hs : S b with
    | none => rfl
    | some d =>
      obtain ⟨o, h1, h2⟩ := g.c b d hs
      have := x b o h1 nb
      rw [h] at this
      cases this
      exact (cell_ext h2).elim
  · cases hs : Z b with
    | none => rfl
    | some d =>
      obtain ⟨q1, _, q3⟩ := g.z b d hs
      have := x b d q1 nb
      rw [h] at this
      cases this
      rcases q3 with ⟨vs, z⟩ | ⟨kvs, z⟩ <;> cases z
theorem good_only (g : Good K Z H S) (x : OnlyT P H H1) {c : Cell} (hS : S P = some c) (hr : Ext (out H S Z) (out H1 S Z) → ∃ o, H1 P = some o ∧ CRep K (out H1 S Z) c o) : Good K Z H1 S ∧ Ext (out H S Z) (out H1 S Z) := by
  have e : Ext (out H S Z) (out H1 S Z) := Ext.of fun b o hb => by
    obtain ⟨h1, h2, h3⟩ := out_some hb
    rw [out_of h1 h2]
    exact x b o h3 fun z => by rw [z, hS] at h1; cases h1
  refine ⟨⟨fun b o hb => ?_, fun a d hd => ?_⟩, e⟩
  · obtain ⟨h1, h2, h3⟩ := g.z b o hb
    exact ⟨x b o h1 (fun z => by rw [z, hS] at h2; cases h2), h2, h3⟩
  · by_cases ha : a = P
    · subst ha
      rw [hS] at hd
      cases hd
      exact hr e
    · obtain ⟨o, h1, h2⟩ := g.c a d hd
      exact ⟨o, x a o h1 ha, CRep.ext e _ _ h2⟩
theorem good_tab (g : Good K Z H S) (hS : S P = some (.tbl q)) (x : OnlyT P H H1) (t : TabS H1 P q) : Good K Z H1 S ∧ Ext (out H S Z) (out H1 S Z) := by
  obtain ⟨ps, t1, t2, t3⟩ := t
  refine good_only g x hS fun _ => ⟨_, t1, ps, rfl, t2, fun pos cv hcv => ?_⟩
  obtain ⟨c, e1, e2⟩ := t3 pos cv hcv
  exact ⟨c, e1, out_ext g x (fun φ z => by rw [t1] at z; cases z) e2⟩
theorem tab_of (g : Good K Z H S) (hS : S P = some (.tbl q)) : TabS H P q := by
  obtain ⟨o, h1, ps, rfl, h2, h3⟩ := g.c _ _ hS
  exact ⟨ps, h1, h2, fun pos cv hc => by
    obtain ⟨c, e1, e2⟩ := h3 pos cv hc
    exact ⟨c, e1, out_le e2⟩⟩
end
/-- what a lambda promises, by the deep values of its captured cells -/
abbrev DLp := DS → Store → DK → DX → Prop
def spLD (K : PySem.W.Frag) (c : DLp) : List (Option V) → Hp → VK → XK → Prop := fun ws H Q E => ∃ δ S Z q e, Good K Z H S ∧ Slots K (out H S Z) ws δ ∧ Lk K E e Z (out H S Z) ∧ c δ S q e ∧ Ty K Z H S q Q
section
variable {P : Program} {w : World} {K : PySem.W.Frag} {mg : Str → Option Value} {base : Heap} {k : Nat} {f : Addr} {F : NF} {b : Expr} {N : List Str} {c : DLp}
theorem paN {N : List Str} {F : NF} {f : Addr} {A : Around} {outer : List Env} {s : Shared} {H : Hp} {E : XK} : Passes (L2.CX P w) (ncx (L2.CX P w) P w K mg base N F f A outer s H E) E := passes_call (W := fun cls d _ H => E cls d H) (takes_of rfl rfl rfl rfl) fun _ _ _ _ z => z
theorem lokD (S : NScope N [] N F.scope) (hb : ∀ (pm ctv : Value), bindArgs (PySem.W.kla_fn F.name F.qual F.params b F.scope F.cl pm (.ref F.c) ctv) ⟨[], []⟩ = pure [])
    (db : DX → DTE) (body : ∀ (e : DX) (A : Around) (outer : List Env) (s : Shared) (H : Hp) (E : XK), Room k (A.deeper (envF F f s.heap.objs.size)) → PE (ncx (L2.CX P w) P w K mg base N F f A outer s H E) b (tD K E e (db e))) : LOk P w K mg base (k + 1) f F b N (spLD K fun δ S q e => db e δ S q) := by
  refine lok_of S hb fun A outer s H ws Q E hr hl h => ?_
  obtain ⟨δ, S', Z, q, e, g, sl, lk, h, kk⟩ := h
  refine ⟨_, body e A outer s H E hr, δ, S', Z, q, ⟨g, ?_, lk⟩, h, kk⟩
  unfold startF
  rw [List.map_nil, List.nil_append, List.length_nil, Nat.sub_zero, hl, Nat.sub_self, List.replicate_zero, List.append_nil]
  exact sl
end
@[reducible] def lookL : DS → List Nat → DS
  | _, [] => []
  | δ, j :: r => look δ j :: lookL δ r
theorem lookL_eq (δ : DS) : ∀ js : List Nat, lookL δ js = js.map (look δ)
  | [] => rfl
  | j :: r => by show look δ j :: lookL δ r = _; rw [lookL_eq δ r]; rfl
theorem slotAt_slots {K : PySem.W.Frag} {G : Hp} {σ : L2.St} {δ : DS} (h : Slots K G σ δ) (js : List Nat) : Slots K G (js.map (slotAt σ)) (lookL δ js) := by
  induction js with
  | nil => exact .nil
  | cons j r ih =>
    refine .cons (fun x hx => ?_) ih
    obtain ⟨v, h1, h2⟩ := h.look hx
    exact ⟨v, slotAt_of h1, h2⟩
def freeB (sc scope : Scope) : Bool := scope.names.all fun y => !decide (y.2 = .free) || decide (sc.names.lookup y.1 = some .cell) || decide (sc.names.lookup y.1 = some .free)
theorem free_by {sc scope : Scope} (h : freeB sc scope = true) : ∀ y ∈ scope.names, y.2 = .free → sc.names.lookup y.1 = some .cell ∨ sc.names.lookup y.1 = some .free := fun y hy e => by
  have h := List.all_eq_true.mp h y hy
  simp only [Bool.or_eq_true, Bool.not_eq_true', decide_eq_true_eq, decide_eq_false_iff_not] at h
  rcases h with (z | z) | z
  · exact absurd e z
  · exact .inl z
  · exact .inr z
section
variable {X : Cx} {K : PySem.W.Frag} {E : XK} {e : DX}
/-- told(lambda: ..) -/
@[reducible] def dTold (P : Addr) (q : Str) (CS : Addr) (ret : Str) (js : List Nat) (db : DX → DTE) : DTE := fun δ S k => S P = some (.tbl q) ∧ db (fun c S' => c = CS ∧ k (.str ret) S') (lookL δ js) S k
theorem de_told {c P : Addr} {q : Str} {params : Arguments} {body : Expr} {scope : Scope} {fr : List Str} {js : List Nat} {db : DX → DTE} {x a ee ret : Str} {g CS : Addr} {k : Nat} {pg : Arguments} {sg : Scope} {dV kV doc pm cdv ct oc : Value} {an od : Option Addr} {osl : Array (Option Value)} {Ng : List Str} {j : Nat} {p1 p2 p3 p4 p5 p6 p7 p8 p pb pos : Pos}
    (hK : X.K = K) (hg : Gl X x) (hm : X.mg x = some (.ref g)) (hk : PySem.W.keepIn X.K (.ref g) = true)
    (lk : X.K.lookup g = some ⟨oc, od, .func (PySem.W.fnOf x x pg [.Try [.Return (some (.Call (.Name a p1) [] [] p2)) p3] [.ExceptHandler (some (.Name ee p4)) none [.Return (some (.Constant (.str ret) j p5)) p6] p7] [] [] p8] sg dV kV doc pm an cdv ct), osl⟩) (hcg : PySem.W.codeIn X.K cdv x = true)
    (hb : L2.Binds X.K (PySem.W.fnOf x x pg [.Try [.Return (some (.Call (.Name a p1) [] [] p2)) p3] [.ExceptHandler (some (.Name ee p4)) none [.Return (some (.Constant (.str ret) j p5)) p6] p7] [] [] p8] sg dV kV doc pm an cdv ct) [a] []) (Sg : FnScope Ng [a] sg) (hNg : Ng[0]? = some a) (hva : Vis sg a)
    (hge : sg.names.lookup ee = some .globalImplicit) (hme : X.mg ee = some (.ref CS)) (exm : PySem.W.exmOne K (.ref CS) (.ref CS) = some true) (TB : TabB X.base X.mg c P) (hcode : X.env.code = .ref c) (hq : q = X.env.qual ++ "<lambda>") (hr : Room (k + 2) X.A)
    (hdef : defaultsOf params X.env = ([], [])) (hfree : freeB X.env.scope scope = true) (hfr : fr.all (fun y => decide ((y, NameKind.free) ∈ scope.names)) = true) (hjs : js.map (fun j => X.N[j]?) = fr.map some) (hn : nscB fr [] fr scope = true)
    (hbind : ∀ (q : Str) (cl : List (Str × Addr)) (pm cv ctv : Value), bindArgs (PySem.W.kla_fn "<lambda>" q params body scope cl pm cv ctv) ⟨[], []⟩ = pure [])
    (hbody : ∀ (f c' : Addr) (cl : List (Str × Addr)) (e' : DX) (A : Around) (outer : List Env) (s : Shared) (H : Hp) (E : XK), Room k (A.deeper (envF ⟨"<lambda>", q, params, [], scope, cl, c'⟩ f s.heap.objs.size)) → PE (ncx (L2.CX X.prog X.w) X.prog X.w K X.mg X.base fr ⟨"<lambda>", q, params, [], scope, cl, c'⟩ f A outer s H E) body (tD K E e' (db e')))
    (h0 : ∀ f : Addr, (L2.start Ng [V.ref f])[0]? = some (some (V.ref f)) := by intro _; rfl) (sok : SOk ret := by exact ⟨by decide +kernel, by decide +kernel⟩) (hde : (ee == ("__debug__" : Str)) = false := by decide) (hdb : (x == ("__debug__" : Str)) = false := by decide) (hd : (a == ("__debug__" : Str)) = false := by decide) (hcd : (a == ("__classdict__" : Str)) = false := by decide) :
    PE X (.Call (.Name x p) [.Lambda params body scope pb] [] pos) (tD K E e (dTold P q CS ret js db)) := by
  subst hK
  have L : ∀ f c', LOk X.prog X.w X.K X.mg X.base (k + 1) f ⟨"<lambda>", q, params, [], scope, cloFrom X.env.cells scope.names [], c'⟩ body fr (spLD X.K fun δ S q e => db e δ S q) := fun f c' =>
    lokD (F := ⟨"<lambda>", q, params, [], scope, cloFrom X.env.cells scope.names [], c'⟩) (k := k) (nscope_by hn) (fun pm ctv => hbind q _ pm _ ctv) db fun e A outer s H E hr' => hbody f c' _ e A outer s H E hr'
  have D := pe_toldM (p := p) (pos := pos) (pb := pb) TB hcode hq hdef (free_by hfree) (fun y hy => of_decide_eq_true (List.all_eq_true.mp hfr y hy)) hjs L hg hm hk lk hcg hb Sg hNg hva hge hme hde h0 hr hdb hd hcd
  refine PE.imp D fun σ H Q h => ?_
  obtain ⟨δ, S, Z, k, t, ⟨hS, h⟩, kk⟩ := h
  refine ⟨tab_of t.good hS, fun H1 x1 t1 => ?_⟩
  obtain ⟨g1, e1⟩ := good_tab t.good hS x1 t1
  refine ⟨_, S, Z, k, _, g1, slotAt_slots (t.sl.ext e1) js, fun c' H' S' g' x' hq => ?_, h, kk.ext e1⟩
  obtain ⟨rfl, hq⟩ := hq
  exact ⟨true, exm, fun _ => kk (.str ret) (.str ret) H' S' g' (e1.trans x') ⟨rfl, sok⟩ hq, fun z => by cases z⟩
/-- a lambda as a value -/
@[reducible] def dLam (P : Addr) (q : Str) (mk : Addr → NF) (b : Expr) : DTE := fun _ S k => S P = some (.tbl q) ∧ ∀ c', k (.lam (mk c') b) S
theorem de_lamV {c P : Addr} {q : Str} {params : Arguments} {body : Expr} {scope : Scope} {pos : Pos} (TB : TabB X.base X.mg c P) (hcode : X.env.code = .ref c) (hq : q = X.env.qual ++ "<lambda>")
    (hdef : defaultsOf params X.env = ([], [])) (hfree : ∀ y ∈ scope.names, y.2 = .free → X.env.scope.names.lookup y.1 = some .cell ∨ X.env.scope.names.lookup y.1 = some .free) :
    PE X (.Lambda params body scope pos) (tD K E e (dLam P q (fun c' => ⟨"<lambda>", q, params, [], scope, cloFrom X.env.cells scope.names [], c'⟩) body)) := PE.imp (pe_lam1 TB hcode hq hdef hfree) fun σ H Q h => by
  obtain ⟨δ, S, Z, k, t, ⟨hS, h⟩, kk⟩ := h
  refine ⟨tab_of t.good hS, fun f c' H' x' t' nf hf hc => ?_⟩
  obtain ⟨g1, e1⟩ := good_tab t.good hS x' t'
  obtain ⟨ps, tP, _⟩ := t'
  have nP : ∀ φ, H' P ≠ some (.ext φ) := fun φ z => by rw [tP] at z; cases z
  exact kk (.ref f) (.lam ⟨"<lambda>", q, params, [], scope, cloFrom X.env.cells scope.names [], c'⟩ body) H' S g1 e1 ⟨f, rfl, out_ext t.good x' nP hf, out_ext t.good x' nP hc⟩ (h c')
end
end Dn

namespace Dn
open PySem PySem.Spec PyProof.Rows L2 Pr
theorem repL_pair {α β : Type} {F : α → β → Prop} {l : List α} {m : List β} (h : Paired F l m) : ∀ n : Nat, Paired F (List.replicate n l).flatten (List.replicate n m).flatten
  | 0 => .nil
  | n + 1 => by
    rw [List.replicate_succ, List.replicate_succ, List.flatten_cons, List.flatten_cons]
    exact Paired.app h (repL_pair h n)
section
variable {X : Cx} {K : PySem.W.Frag}
theorem foldl_rep (c : Array Nat) : ∀ (n : Nat) (acc : Array Nat), ((List.replicate n c).foldl (· ++ ·) acc).toList = acc.toList ++ (List.replicate n c.toList).flatten
  | 0, acc => by simp
  | n + 1, acc => by
    rw [List.replicate_succ, List.foldl_cons, foldl_rep c n, List.replicate_succ, List.flatten_cons, Array.toList_append, List.append_assoc]
theorem mul_rep {z : Str} {n : Int} (h0 : 0 ≤ n) : Txt.mul z n = repS z n.toNat := by
  have ext : ∀ a b : Str, a.cps.toList = b.cps.toList → a = b := fun a b h => by
    obtain ⟨a⟩ := a
    obtain ⟨b⟩ := b
    congr 1
    exact Array.toList_inj.mp h
  apply ext
  unfold Txt.mul repS
  by_cases h1 : n < 1
  · have : n = 0 := by omega
    subst this
    rw [if_pos h1]
    rfl
  · rw [if_neg h1]
    split
    · rename_i hc
      rw [Bool.or_eq_true] at hc
      rcases hc with hc | hc
      · have : n = 1 := by simpa using hc
        subst this
        simp
      · have : z.cps.size = 0 := by
          have hc : (z.cps.size == 0) = true := hc
          simpa using hc
        have e : z.cps.toList = [] := by rw [← List.length_eq_zero_iff, Array.length_toList]; exact this
        rw [e]
        simp
    · simp [foldl_rep]
theorem repS_len (z : Str) (n : Nat) : (repS z n).length = n * z.length := by
  rw [len_cps, len_cps]
  unfold repS
  simp
theorem sok_rep {z : Str} {n : Nat} (h : SOk z) (hl : z.length * n ≤ sizeLine) : SOk (repS z n) := ⟨by rw [repS_len, Nat.mul_comm]; exact hl, by
  rw [sok_all]
  intro c hc
  unfold repS at hc
  simp only [List.mem_flatten] at hc
  obtain ⟨l, hl, hc⟩ := hc
  rw [List.eq_of_mem_replicate hl] at hc
  exact sok_all.mp h.ok c hc⟩
theorem od_mul : OpR X (binaryOp .Mult) (rD K rMul) := fun pins s σ H x y v u Q I rv ru ⟨dx, dy, S, Z, q, g, rx, ry, h, k⟩ => by
  have lists : ∀ n : Int, y = .int n → (seeL dx S fun l => (-(2 ^ 63) ≤ n ∧ n < 2 ^ 63 ∧ l.length * n.toNat ≤ sizeLine) ∧ q (.lst (List.replicate n.toNat l).flatten) S) → wpAny (model X.prog X.w) X.A (binaryOp .Mult v u) (EP X pins σ Q) X.xe s := fun n e h => by
    obtain ⟨a, xs, l, rfl, ha, ra, ⟨h1, h2, h3⟩, h⟩ := see_lst g rx h
    exact op_rep pins s σ H _ _ v u Q I rv ru ⟨a, n, xs, rfl, e, ha, h1, h2, by rw [← ra.len]; exact h3, fun p np => k.new g np h ⟨p, _, rfl, out_new g np, Reps.pair.mpr (repL_pair (Reps.pair.mp (Reps.ext (ext_new g np) _ _ ra)) _)⟩⟩
  cases dy with
  | int n =>
    cases dx with
    | int i => exact op_mul pins s σ H x y v u Q I rv ru ⟨i, n, rx, ry, h.1, k.here g h.2 rfl⟩
    | str z =>
      obtain ⟨⟨h1, h2, h3⟩, h⟩ := h
      obtain rfl := rx.1
      obtain rfl := (show y = _ from ry)
      obtain ⟨t, rfl⟩ := (show ∃ t, v = Value.str z t from rv)
      obtain ⟨t', rfl⟩ := (show ∃ t, u = Value.int n t from ru)
      refine SB.mul ⟨?_, fun h4 h5 => ?_, fun h4 h5 => ?_⟩ fun t2 k2 => ⟨.str (Txt.mul z n), H, I.tok _, ⟨_, rfl⟩, ?_⟩
      · have a1 : ¬ n < -(2 ^ 63 : Int) := by omega
        have a2 : ¬ n ≥ 2 ^ 63 := by omega
        rw [decide_eq_false a1, decide_eq_false a2]; rfl
      · intro hc
        have hz := rx.2.len
        rw [sizeLine_eq] at hz
        have a1 : (2 ^ 63 - 1 : Int) / n ≥ (2 ^ 63 - 1) / 2 ^ 24 := by
          apply Int.le_ediv_of_mul_le (by omega)
          have : (2 ^ 63 - 1 : Int) / 2 ^ 24 * n ≤ (2 ^ 63 - 1 : Int) / 2 ^ 24 * 2 ^ 24 := Int.mul_le_mul_of_nonneg_left (by omega) (by decide)
          exact Int.le_trans this (by decide)
        have a2 : ((2 ^ 63 - 1) / 2 ^ 24 : Int) = 549755813887 := by decide
        omega
      · unfold Builtin.Str.tooLong
        have := h3
        rw [sizeLine_eq] at this ⊢
        simp
        omega
      · rw [mul_rep h1]
        exact k.here g h ⟨rfl, sok_rep rx.2 h3⟩
    | _ => exact lists n ry h
  | _ => cases dx <;> exact h.elim
theorem od_inG (neg : Bool) {op : CmpOp} (hK : X.K = K) (o1 : OpR X (compareOp op) fun x y H Q => ∃ d ds, Dp X.K H x d ∧ Dp X.K H y (.list ds) ∧ SeqAt.shaped d = true ∧ SeqAt.shaped (.list ds) = true ∧ Q (.bl (if neg then !(ds.any fun z => PyData.eqv z d) else ds.any fun z => PyData.eqv z d)) H)
    (o2 : OpR X (compareOp op) fun x y H Q => ∃ i j, x = .str i ∧ y = .str j ∧ Q (.bl (if neg then !hasS j i else hasS j i)) H) (o3 : OpR X (compareOp op) (rIn X.K neg)) : OpR X (compareOp op) (rD K (dIn neg)) := fun pins s σ H x y v u Q I rv ru ⟨dx, dy, S, Z, q, g, rx, ry, h, k⟩ => by
  subst hK
  have lists : (seeL dy S fun l => (isDat dx = true ∧ areDat l = true ∧ (py dx).depth ≤ 64 ∧ (py (.lst l)).depth ≤ 64) ∧ q (.bl (if neg then !memD dx l else memD dx l)) S) → wpAny (model X.prog X.w) X.A (compareOp op v u) (EP X pins σ Q) X.xe s := fun h => by
    obtain ⟨a, xs, l, rfl, ha, ra, ⟨h1, h2, h3, h4⟩, h⟩ := see_lst g ry h
    have dl : Dp X.K H (.ref a) (.list (pys l)) := .lst (SqL.of ha) (Reps.dp l xs h2 ra)
    have e : ((pys l).any fun z => PyData.eqv z (py dx)) = memD dx l := by
      unfold memD
      rw [pys_map, List.any_map]
      rfl
    refine o1 pins s σ H _ _ v u Q I rv ru ⟨py dx, pys l, Rep.dp _ _ h1 rx, dl, Rep.shaped rx h3, ?_, by rw [e]; exact k.here g h rfl⟩
    show ((PyData.list (pys l)).canLay0 && decide ((PyData.list (pys l)).depth ≤ 64)) = true
    rw [decide_eq_true (show (PyData.list (pys l)).depth ≤ 64 from h4), Bool.and_true]
    exact Reps.lay l xs ra
  cases dy with
  | str z =>
    obtain ⟨t, rfl, h⟩ := h
    exact o2 pins s σ H x y v u Q I rv ru ⟨t, z, rx.1, ry.1, k.here g h rfl⟩
  | tup l =>
    obtain ⟨⟨h1, h2, h3⟩, h⟩ := h
    obtain ⟨a, xs, rfl, ha, ra⟩ := ry
    have flat1 : ∀ (d : Dt) (v : V) (G : Hp), isDat d = true → (py d).depth = 0 → Rep X.K G d v → flatV v = true ∧ ∀ (e : Dt) (w : V), isDat e = true → (py e).depth = 0 → Rep X.K G e w → eqV w v = deqv e d := fun d v G hd hp r => by
      have flat0 : ∀ (e : Dt), isDat e = true → (py e).depth = 0 → e = .non ∨ (∃ b, e = .bl b) ∨ (∃ i, e = .int i) ∨ ∃ z, e = .str z := fun e he hp => by
        cases e with
        | non => exact .inl rfl
        | bl b => exact .inr (.inl ⟨b, rfl⟩)
        | int i => exact .inr (.inr (.inl ⟨i, rfl⟩))
        | str z => exact .inr (.inr (.inr ⟨z, rfl⟩))
        | tup l => simp [py, PyData.depth] at hp
        | lst l => simp [py, PyData.depth] at hp
        | _ => simp [isDat] at he
      rcases flat0 d hd hp with rfl | ⟨b, rfl⟩ | ⟨i, rfl⟩ | ⟨z, rfl⟩
      all_goals first
        | obtain rfl := (show v = _ from r)
        | obtain rfl := r.1
      all_goals refine ⟨rfl, fun e w he hq r2 => ?_⟩
      all_goals rcases flat0 e he hq with rfl | ⟨b', rfl⟩ | ⟨i', rfl⟩ | ⟨z', rfl⟩
      all_goals first
        | obtain rfl := (show w = _ from r2)
        | obtain rfl := r2.1
      all_goals rfl
    have all : ∀ (l : List Dt) (xs : List V), l.all (fun z => isDat z && decide ((py z).depth = 0)) = true → Reps X.K (out H S Z) l xs → xs.all flatV = true ∧ inV x xs = memD dx l := fun l => by
      induction l with
      | nil => intro xs _ r; rw [show xs = [] from r]; exact ⟨rfl, rfl⟩
      | cons d l ih =>
        intro xs hh r
        obtain ⟨v', r', rfl, r1, r2⟩ := r
        rw [List.all_cons, Bool.and_eq_true, Bool.and_eq_true, decide_eq_true_iff] at hh
        obtain ⟨i1, i2⟩ := ih r' hh.2 r2
        obtain ⟨f1, f2⟩ := flat1 d v' _ hh.1.1 hh.1.2 r1
        obtain ⟨f3, f4⟩ := flat1 dx x _ h1 h2 rx
        refine ⟨by rw [List.all_cons, f1, i1]; rfl, ?_⟩
        show ((v' :: r').any fun y => eqV y x) = (d :: l).any fun z => deqv z dx
        rw [List.any_cons, List.any_cons, f4 d v' hh.1.1 hh.1.2 r1]
        congr 1
    obtain ⟨a1, a2⟩ := all l xs h3 ra
    refine o3 pins s σ H _ _ v u Q I rv ru ⟨a, xs, rfl, .inr (SqT.out ha), (flat1 dx x _ h1 h2 rx).1, a1, ?_⟩
    rw [a2]
    exact k.here g h rfl
  | _ => exact lists h
theorem od_in (hK : X.K = K) (hu : X.A.units + 65 < cLine) : OpR X (compareOp .In) (rD K (dIn false)) := od_inG false hK (op_inD hu) op_in_str op_in_seq
theorem od_notin (hK : X.K = K) (hu : X.A.units + 65 < cLine) : OpR X (compareOp .NotIn) (rD K (dIn true)) := od_inG true hK (op_notInD hu) op_notin_str op_notIn_seq
end
end Dn

namespace Dn
open PySem PySem.Spec PyProof.Rows L2 Pr LamX
theorem hW_of {A : Around} {k : Nat} (hr : Room k A) : A.units + 65 < cLine := by
  have := hr.un
  omega
/-! ## a cell stands still from here on -/
@[reducible] def frzOf (x : Dt) (S : Store) (k : Dt → Store → Prop) : Prop := match x with
  | .ref a => ∃ c, S a = some c ∧ (match c with
    | .lst l => k (.lst l) (sdel S a)
    | .dic l => k (.dic l) (sdel S a)
    | .ins C nm l => k (.obj C nm l) (sdel S a)
    | _ => False)
  | x => k x S
@[reducible] def dFrz (a : DTE) : DTE := fun δ S q => a δ S fun x S1 => frzOf x S1 q
theorem de_frz {X : Cx} {K : PySem.W.Frag} {E : XK} {e : DX} {ex : Expr} {da : DTE} (h : PE X ex (tD K E e da)) : PE X ex (tD K E e (dFrz da)) := PE.imp h fun σ H Q h => by
  obtain ⟨δ, S, Z, q, t, h, k⟩ := h
  refine ⟨δ, S, Z, _, t, h, fun v x H1 S1 g1 x1 r1 h1 => ?_⟩
  cases x with
  | ref a =>
    obtain ⟨c, h2, h3⟩ := h1
    obtain ⟨o, h4, h5⟩ := g1.c a _ h2
    have od := out_del g1 h2
    have ex := ext_del (H := H1) (S := S1) (Z := Z) (a := a)
    obtain rfl := (show v = _ from r1)
    cases c with
    | lst l => obtain ⟨vs, rfl, h6⟩ := h5; exact k _ (.lst l) _ _ g1.del (x1.trans ex) ⟨a, vs, rfl, by rw [od, h4], Reps.ext ex _ _ h6⟩ h3
    | dic l => obtain ⟨vs, rfl, h6⟩ := h5; exact k _ (.dic l) _ _ g1.del (x1.trans ex) ⟨a, vs, rfl, .inl (by rw [od, h4]), Repk.ext ex _ _ h6⟩ h3
    | ins C nm l => obtain ⟨dx, vs, rfl, h6, h7⟩ := h5; exact k _ (.obj C nm l) _ _ g1.del (x1.trans ex) ⟨a, dx, vs, rfl, by rw [od, h4], Reps.ext ex _ _ h6, h7⟩ h3
    | _ => exact h3.elim
  | _ => exact k _ _ _ _ g1 x1 r1 h1
/-! ## raise -/
section
variable {P : Program} {w : World} {K : PySem.W.Frag} {mg : Str → Option Value} {base : Heap} {N : List Str} {qual : Str} {scope : Scope} {f : Addr} {cd : Value} {A : Around} {outer : List Env} {s : Shared} {H : Hp} {E : XK} {e : DX} {ex : Expr} {pos : Pos} {C : Addr}
theorem dr_raise {B newId initId bmB} {x m : Str} {j : Nat} {p p2 pos2 : Pos} (F : ExcBaseFacts B newId initId bmB) (q : PySem.W.excIn K C bmB newId = true) (gC : mg x = some (.ref C)) (kC : PySem.W.keepIn K (.ref C) = true)
    (r : Raises (cxOf (L2.CX P w) P w K mg base N qual scope f cd A outer s H E) (.ref C)) (hg : Gl (cxOf (L2.CX P w) P w K mg base N qual scope f cd A outer s H E) x) (hdb : (x == ("__debug__" : Str)) = false := by decide) :
    PS (cxOf (L2.CX P w) P w K mg base N qual scope f cd A outer s H E) (.Raise (some (.Call (.Name x p) [.Constant (.str m) j p2] [] pos2)) none pos) (tDS K E e (dRaise e C)) :=
  ds_raise (W := fun cls d _ H => E cls d H) (B := "") (t := fun _ H Q => Q (.ref C) none H) rfl tkX (fun _ _ _ _ h => h) (pmk_own F q gC kC r hg hdb)
end
/-! ## dicts that change -/
section
variable {X : Cx} {K : PySem.W.Frag} {E : XK} {e : DX} {pos pos' apos cpos tpos p : Pos} {a b c ex : Expr} {da db dc : DTE}
@[reducible] def dDel (a b : DTE) : DTS := fun D δ S => a δ S fun x S1 => b δ S1 fun y S2 => match x with
  | .ref p => keyOf y fun k => ∃ l, S2 p = some (.dic l) ∧ (kGet l k).isSome = true ∧ D.nx δ (sput S2 p (.dic (kDel l k)))
  | _ => False
theorem ds_ddel (ha : PE X a (tD K E e da)) (hb : PE X b (tD K E e db)) : PS X (.Delete [.Subscript a b tpos] pos) (tDS K E e (dDel da db)) := PS.imp (ps_ddel ha hb) fun D σ H h => by
  obtain ⟨δ, S, Z, DD, t, h, k⟩ := h
  refine ⟨δ, S, Z, _, t, h, fun v x H1 S1 g1 x1 r1 h1 => ⟨δ, S1, Z, _, t.to g1 x1, h1, fun w y H2 S2 g2 x2 r2 h2 => ?_⟩⟩
  cases x with
  | ref p =>
    obtain ⟨key, rfl, ko, l, h3, h4, h5⟩ := keyOf_rep r2 h2
    obtain ⟨o, h6, vs, rfl, h7⟩ := g2.c p _ h3
    have cr : CRep K (out H2 S2 Z) (.dic (kDel l key)) (.dK (dropK vs key)) := ⟨_, rfl, Repk.kr.mpr (KR.del (Repk.kr.mp h7))⟩
    refine ⟨p, vs, key, r1, h6, rfl, ?_, k.nx _ _ _ _ (g2.mut h3 cr) (by rw [out_mut h3]; exact x1.trans x2) (by rw [out_mut h3]; exact t.sl.ext (x1.trans x2)) h5⟩
    rcases KR.get (k := key) (Repk.kr.mp h7) with ⟨e1, e2⟩ | ⟨d, u, e1, e2, _⟩
    · rw [e1] at h4; cases h4
    · rw [e2]; rfl
  | _ => exact h2.elim
@[reducible] def dDpop2 (a b c : DTE) : DTE := fun δ S q => a δ S fun x S1 => match x with
  | .ref p => isKeyed (.ref p) S1 (b δ S1 fun y S2 => c δ S2 fun z S3 => keyOf y fun k => ∃ l, S3 p = some (.dic l) ∧ q ((kGet l k).getD z) (sput S3 p (.dic (kDel l k))))
  | _ => False
theorem kDel_none {κ : Type} [DecidableEq κ] {l : List (κ × Dt)} {k : κ} (h : kGet l k = none) : kDel l k = l := by
  unfold kGet at h
  rw [Option.map_eq_none_iff, List.find?_eq_none] at h
  unfold kDel
  rw [List.filter_eq_self]
  intro p hp
  have := h p hp
  simpa using this
theorem sput_id {S : Store} {a : Addr} {c : Cell} (h : S a = some c) : sput S a c = S := by
  funext b
  unfold sput
  split
  · rename_i e; rw [e, h]
  · rfl
theorem de_dpop2 (ha : PE X a (tD K E e da)) (hb : PE X b (tD K E e db)) (hc : PE X c (tD K E e dc)) (m : M2 X a "pop" apos b c cpos) : PE X (.Call (.Attribute a "pop" apos) [b, c] [] cpos) (tD K E e (dDpop2 da db dc)) := PE.imp (pe_dpop2 ha hb hc m) fun σ H Q h => by
  obtain ⟨δ, S, Z, q, t, h, k⟩ := h
  refine ⟨δ, S, Z, _, t, h, fun v x H1 S1 g1 x1 r1 h1 => ?_⟩
  cases x with
  | ref p =>
    obtain ⟨a', e1, hd, h1⟩ := keyed_of g1 r1 h1
    obtain rfl := (show v = _ from r1)
    cases e1
    refine ⟨_, rfl, hd, δ, S1, Z, _, t.to g1 x1, h1, fun w y H2 S2 g2 x2 r2 h2 => ⟨δ, S2, Z, _, t.to g2 (x1.trans x2), h2, fun u z H3 S3 g3 x3 r3 h3 => ?_⟩⟩
    obtain ⟨key, rfl, ko, l, h4, h5⟩ := keyOf_rep (Rep.ext x3 _ _ r2) h3
    obtain ⟨o, h6, vs, rfl, h7⟩ := g3.c p _ h4
    have xx := x1.trans (x2.trans x3)
    refine ⟨vs, key, h6, rfl, fun vv hv => ?_, fun hv => ?_⟩
    · have cr : CRep K (out H3 S3 Z) (.dic (kDel l key)) (.dK (dropK vs key)) := ⟨_, rfl, Repk.kr.mpr (KR.del (Repk.kr.mp h7))⟩
      rcases KR.get (k := key) (Repk.kr.mp h7) with ⟨e1, e2⟩ | ⟨d, u', e1, e2, e3⟩
      · rw [e2] at hv; cases hv
      · rw [e2] at hv
        cases hv
        rw [e1] at h5
        exact k _ d _ _ (g3.mut h4 cr) (by rw [out_mut h4]; exact xx) (by rw [out_mut h4]; exact e3) h5
    · rcases KR.get (k := key) (Repk.kr.mp h7) with ⟨e1, e2⟩ | ⟨d, u', e1, e2, e3⟩
      · rw [e1, kDel_none e1, sput_id h4] at h5
        exact k _ z _ _ g3 xx r3 h5
      · rw [e2] at hv; cases hv
  | _ => exact h1.elim
/-- equal dicts of plain things -/
def flatDt : Dt → Bool
  | .non | .bl _ | .int _ | .str _ => true
  | _ => false
theorem flat_same {G : Hp} {d : Dt} {v w : V} (h : flatDt d = true) (r1 : Rep K G d v) (r2 : Rep K G d w) : v = w ∧ flatB v = true := by
  cases d with
  | non => rw [show v = _ from r1, show w = _ from r2]; exact ⟨rfl, rfl⟩
  | bl b => rw [show v = _ from r1, show w = _ from r2]; exact ⟨rfl, rfl⟩
  | int i => rw [show v = _ from r1, show w = _ from r2]; exact ⟨rfl, rfl⟩
  | str z => rw [r1.1, r2.1]; exact ⟨rfl, rfl⟩
  | _ => cases h
@[reducible] def rEqDic (b : Bool) : D2 := fun x y S q => match x, y with
  | .ref a, .ref c => ∃ l, S a = some (.dic l) ∧ ∃ m, S c = some (.dic m) ∧ (l.length = m.length ∧ ∀ p ∈ l, kGet m p.1 = some p.2 ∧ flatDt p.2 = true) ∧ q (.bl b) S
  | _, _ => False
theorem eqDic_of {Z H : Hp} {S : Store} {a c : Addr} {l m : List (Key × Dt)} (g : Good K Z H S) (h1 : S a = some (.dic l)) (h2 : S c = some (.dic m)) (hl : l.length = m.length) (hp : ∀ p ∈ l, kGet m p.1 = some p.2 ∧ flatDt p.2 = true) :
    ∃ ks ls, H a = some (.dK ks) ∧ H c = some (.dK ls) ∧ ks.length = ls.length ∧ ∀ p ∈ ks, valV ls p.1 = some p.2 ∧ flatB p.2 = true := by
  obtain ⟨o, h3, ks, rfl, h4⟩ := g.c a _ h1
  obtain ⟨o, h5, ls, rfl, h6⟩ := g.c c _ h2
  refine ⟨ks, ls, h3, h5, by rw [← h4.len, ← h6.len]; exact hl, fun p hpm => ?_⟩
  obtain ⟨i, hi⟩ := List.getElem?_of_mem hpm
  obtain ⟨q, e1, e2, _, e3⟩ := Paired.get' (Repk.kr.mp h4) hi
  obtain ⟨f1, f2⟩ := hp q (List.mem_of_getElem? e1)
  rcases KR.get (k := q.1) (Repk.kr.mp h6) with ⟨z, _⟩ | ⟨d, u, z1, z2, z3⟩
  · rw [f1] at z; cases z
  · rw [f1] at z1
    cases z1
    obtain ⟨s1, s2⟩ := flat_same f2 e3 z3
    rw [← e2, z2, s1]
    exact ⟨rfl, by rw [← s1]; exact s2⟩
theorem od_eqDic (hu : X.A.units < cLine) : OpR X (compareOp .Eq) (rD K (rEqDic true)) := fun pins s σ H x y v u Q I rv ru ⟨dx, dy, S, Z, q, g, rx, ry, h, k⟩ => by
  cases dx with
  | ref a =>
    cases dy with
    | ref c =>
      obtain ⟨l, h1, m, h2, ⟨h3, h4⟩, h5⟩ := h
      obtain ⟨ks, ls, e1, e2, e3, e4⟩ := eqDic_of g h1 h2 h3 h4
      exact op_eq_dictA hu pins s σ H x y v u Q I rv ru ⟨a, c, ks, ls, rx, ry, e1, e2, e3, e4, k.here g h5 rfl⟩
    | _ => exact h.elim
  | _ => cases dy <;> exact h.elim
theorem od_neDic (hu : X.A.units < cLine) : OpR X (compareOp .NotEq) (rD K (rEqDic false)) := fun pins s σ H x y v u Q I rv ru ⟨dx, dy, S, Z, q, g, rx, ry, h, k⟩ => by
  cases dx with
  | ref a =>
    cases dy with
    | ref c =>
      obtain ⟨l, h1, m, h2, ⟨h3, h4⟩, h5⟩ := h
      obtain ⟨ks, ls, e1, e2, e3, e4⟩ := eqDic_of g h1 h2 h3 h4
      exact op_ne_dictA hu pins s σ H x y v u Q I rv ru ⟨a, c, ks, ls, rx, ry, e1, e2, e3, e4, k.here g h5 rfl⟩
    | _ => exact h.elim
  | _ => cases dy <;> exact h.elim
/-! ## in place -/
@[reducible] def rIAdd : D2 := fun x y S q => match x, y with
  | .int i, .int j => q (.int (i + j)) S
  | .str a, .str b => a.length + b.length ≤ sizeLine ∧ q (.str (a ++ b)) S
  | _, _ => False
theorem ip_addD : OpR X (inplaceOp .Add) (rD K rIAdd) := fun pins s σ H x y v u Q I rv ru ⟨dx, dy, S, Z, q, g, rx, ry, h, k⟩ => by
  cases dx with
  | int i =>
    cases dy with
    | int j => exact iop_add pins s σ H x y v u Q I rv ru ⟨i, j, rx, ry, k.here g h rfl⟩
    | _ => exact h.elim
  | str a =>
    cases dy with
    | str b => exact iop_add_str pins s σ H x y v u Q I rv ru ⟨a, b, rx.1, ry.1, h.1, k.here g h.2 ⟨rfl, rx.2.app ry.2 h.1⟩⟩
    | _ => exact h.elim
  | _ => cases dy <;> exact h.elim
theorem in_addD : InOp X .Add (rD K rIAdd) := fun pins s σ H x y v u Q I rv ru h => ip_addD pins s σ H x y v u Q I rv ru h
theorem ip_subD : OpR X (inplaceOp .Sub) (rD K rSub) := fun pins s σ H x y v u Q I rv ru ⟨dx, dy, S, Z, q, g, rx, ry, h, k⟩ => by
  cases dx with
  | int i =>
    cases dy with
    | int j => exact ip_sub pins s σ H x y v u Q I rv ru ⟨i, j, rx, ry, k.here g h rfl⟩
    | _ => exact h.elim
  | _ => cases dy <;> exact h.elim
theorem in_subD : InOp X .Sub (rD K rSub) := fun pins s σ H x y v u Q I rv ru h => ip_subD pins s σ H x y v u Q I rv ru h
end
/-! ## list(d.items()) -/
section
variable {X : Cx} {K : PySem.W.Frag} {E : XK} {e : DX} {p pos apos cpos : Pos} {a : Expr} {da : DTE}
@[reducible] def dItems (a : DTE) : DTE := fun δ S q => a δ S fun x S1 => match x with
  | .ref p => ∃ l, S1 p = some (.dic l) ∧ q (.lst (l.map fun p => .tup [keyD p.1, p.2])) S1
  | _ => False
/-- many new things that stand still -/
theorem Good.news {Z H H' : Hp} {S : Store} (g : Good K Z H S) (h : ∀ b o, H b = some o → H' b = some o) : Good K Z H' S ∧ Ext (out H S Z) (out H' S Z) := by
  have e : Ext (out H S Z) (out H' S Z) := Ext.of fun b o hb => by
    obtain ⟨h1, h2, h3⟩ := out_some hb
    rw [out_of h1 h2]
    exact h b o h3
  refine ⟨⟨fun b o hb => ⟨h b o (g.z b o hb).1, (g.z b o hb).2⟩, fun a c hc => ?_⟩, e⟩
  obtain ⟨o, h1, h2⟩ := g.c a c hc
  exact ⟨o, h a o h1, CRep.ext e _ _ h2⟩
theorem de_listItems (hc : X.calm = true) (ha : PE X a (tD K E e da)) (hg : Gl X "list") (hm : X.mg "list" = none) (hv : bootBuiltins "list" = some (.type "list")) (hbase : attributeBase a "items" X.env (eval a X.env) = eval a X.env := by rfl) (hline : (apos.endLine == cpos.line) = true := by rfl)
    (hs : starEach [.Call (.Attribute a "items" apos) [] [] cpos] X.env = (false, eval (.Call (.Attribute a "items" apos) [] [] cpos) X.env) :: starEach [] X.env := by rfl) :
    PE X (.Call (.Name "list" p) [.Call (.Attribute a "items" apos) [] [] cpos] [] pos) (tD K E e (dItems da)) := PE.imp (LiI.pe_listItems hc ha hg hm hv hbase hline hs) fun σ H Q h => by
  obtain ⟨δ, S, Z, q, t, h, k⟩ := h
  refine ⟨δ, S, Z, _, t, h, fun v x H1 S1 g1 x1 r1 h1 => ?_⟩
  cases x with
  | ref b =>
    obtain ⟨l, h2, h3⟩ := h1
    obtain ⟨o, h4, vs, rfl, h5⟩ := g1.c b _ h2
    refine ⟨b, vs, r1, h4, fun H' p ts hk np nt pt hp pr => ?_⟩
    obtain ⟨g2, e2⟩ := g1.news hk
    have nS : ∀ c, H1 c = none → S1 c = none ∧ Z c = none := fun c n => ⟨g1.nS n, g1.nZ n⟩
    refine k _ (.lst (l.map fun p => .tup [keyD p.1, p.2])) H' S1 g2 (x1.trans e2) ⟨p, ts.map V.ref, rfl, ?_, ?_⟩ h3
    · rw [out_of (nS p np).1 (nS p np).2, hp]
    · have kr := (Repk.kr.mp h5).ext e2
      clear h3 h2 h4 h5 hp
      clear r1
      induction kr generalizing ts with
      | nil => cases pr; exact rfl
      | @cons q1 q2 l' m' hq t' ih =>
        cases pr with
        | @cons t1 _ ts' _ ht pr' =>
          refine ⟨.ref t1, _, rfl, ⟨t1, [kV q2.1, q2.2], rfl, SqT.of ?_, kV q2.1, [q2.2], rfl, by rw [← hq.1]; exact key_rep hq.2.1, q2.2, [], rfl, hq.2.2, rfl⟩, ?_⟩
          · rw [out_of (nS t1 (nt t1 List.mem_cons_self)).1 (nS t1 (nt t1 List.mem_cons_self)).2, ht]
          · exact ih ts' (fun t ht => nt t (List.mem_cons_of_mem _ ht)) (fun z => pt (List.mem_cons_of_mem _ z)) pr'
  | _ => exact h1.elim
end
end Dn

/-! tools over stores and deep values -/
namespace Dn
open PySem PySem.Spec PyProof.Rows L2 Pr
/-! ## stores -/
/-- all cells but M are as they were -/
def Kps (M : List Addr) (S S' : Store) : Prop := ∀ b c, S b = some c → b ∉ M → S' b = some c
section
variable {M M' : List Addr} {S S1 S2 : Store} {p : Addr} {c d : Cell}
theorem ne_cell {a b : Addr} (h : S a = some c) (h' : S b = some d) (n : c ≠ d) : a ≠ b := fun e => by rw [e, h'] at h; exact n (Option.some.inj h).symm
theorem ne_free {a b : Addr} (h : S a = some c) (h' : S b = none) : a ≠ b := fun e => by rw [e, h'] at h; cases h
theorem ne_free' {a b : Addr} (h : S a = none) (h' : S b = some c) : a ≠ b := fun e => by rw [e, h'] at h; cases h
theorem Kps.refl : Kps M S S := fun _ _ h _ => h
theorem Kps.trans (a : Kps M S S1) (b : Kps M S1 S2) : Kps M S S2 := fun e u h n => b e u (a e u h n) n
theorem Kps.mono (a : Kps M S S1) (h : ∀ b, b ∈ M → b ∈ M' ∨ S b = none) : Kps M' S S1 := fun e u q n => a e u q fun m => by
  rcases h e m with z | z
  · exact n z
  · rw [z] at q; cases q
theorem Kps.sub (a : Kps M S S1) (h : ∀ b, b ∈ M → b ∈ M') : Kps M' S S1 := a.mono fun b hb => .inl (h b hb)
theorem Kps.new (a : Kps M S S1) (n : S1 p = none) : Kps M S (sput S1 p c) := fun e u h m => by
  have z := a e u h m
  rw [sput_ne (ne_free z n)]
  exact z
theorem Kps.own (a : Kps M S S1) (n : S p = none) : Kps M S (sput S1 p c) := fun e u h m => by
  rw [sput_ne (ne_free h n)]
  exact a e u h m
theorem Kps.mut (a : Kps M S S1) (m : p ∈ M) : Kps M S (sput S1 p c) := fun e u h n => by
  rw [sput_ne fun z => n (by rw [z]; exact m)]
  exact a e u h n
theorem Kps.del (a : Kps M S S1) (m : p ∈ M) : Kps M S (sdel S1 p) := fun e u h n => by
  rw [sdel_ne fun z => n (by rw [z]; exact m)]
  exact a e u h n
theorem Kps.delN (a : Kps M S S1) (n : S p = none) : Kps M S (sdel S1 p) := fun e u h m => by
  rw [sdel_ne (ne_free h n)]
  exact a e u h m
/-- what is in M is of another kind -/
theorem Kps.get (a : Kps M S S1) (h : S p = some c) (n : ∀ b ∈ M, S b ≠ some c) : S1 p = some c := a p c h fun m => n p m h
theorem Kps.free (a : Kps [] S S1) (n : S1 p = none) : S p = none := by
  cases e : S p with
  | none => rfl
  | some u => rw [a p u e (by simp)] at n; cases n
/-- no new tables of codes -/
def NoT (S S' : Store) : Prop := ∀ a q, S' a = some (.tbl q) → S a = some (.tbl q)
theorem NoT.put (h : NoT S S1) (nt : ∀ q, c ≠ .tbl q) : NoT S (sput S1 p c) := fun a q e => by
  by_cases ha : a = p
  · rw [ha, sput_same] at e
    exact absurd (Option.some.inj e) (nt q)
  · rw [sput_ne ha] at e
    exact h a q e
theorem NoT.del (h : NoT S S1) : NoT S (sdel S1 p) := fun a q e => by
  by_cases ha : a = p
  · rw [ha, sdel_same] at e
    cases e
  · rw [sdel_ne ha] at e
    exact h a q e
/-- a frame -/
structure Frm (M : List Addr) (S S' : Store) : Prop where
  k : Kps M S S'
  t : NoT S S'
theorem Frm.refl : Frm M S S := ⟨Kps.refl, fun _ _ h => h⟩
theorem Frm.trans (a : Frm M S S1) (b : Frm M S1 S2) : Frm M S S2 := ⟨a.k.trans b.k, fun x q h => a.t x q (b.t x q h)⟩
theorem Frm.mono (a : Frm M S S1) (h : ∀ b, b ∈ M → b ∈ M' ∨ S b = none) : Frm M' S S1 := ⟨a.k.mono h, a.t⟩
theorem Frm.new (a : Frm M S S1) (n : S1 p = none) (nt : ∀ q, c ≠ .tbl q := by intro q z; cases z) : Frm M S (sput S1 p c) := ⟨a.k.new n, a.t.put nt⟩
theorem Frm.own (a : Frm M S S1) (n : S p = none) (nt : ∀ q, c ≠ .tbl q := by intro q z; cases z) : Frm M S (sput S1 p c) := ⟨a.k.own n, a.t.put nt⟩
theorem Frm.mut (a : Frm M S S1) (m : p ∈ M) (nt : ∀ q, c ≠ .tbl q := by intro q z; cases z) : Frm M S (sput S1 p c) := ⟨a.k.mut m, a.t.put nt⟩
theorem Frm.del (a : Frm M S S1) (m : p ∈ M) : Frm M S (sdel S1 p) := ⟨a.k.del m, a.t.del⟩
theorem Frm.delN (a : Frm M S S1) (n : S p = none) : Frm M S (sdel S1 p) := ⟨a.k.delN n, a.t.del⟩
/-- new addresses -/
def NewA (O O' : List Addr) (S : Store) : Prop := ∀ b ∈ O', b ∈ O ∨ S b = none
theorem sput_free {a b : Addr} (h : sput S a c b = none) : b ≠ a ∧ S b = none := by
  have n : b ≠ a := fun e => by rw [e, sput_same] at h; cases h
  exact ⟨n, by rw [sput_ne n] at h; exact h⟩
end
/-! ## dicts with texts as keys -/
section
variable {α : Type} {g : α → Dt}
def encD (g : α → Dt) (L : List (Str × α)) : List (Key × Dt) := L.map fun e => (Sum.inr e.1, g e.2)
theorem encD_len (L : List (Str × α)) : (encD g L).length = L.length := List.length_map ..
theorem encD_get (k : Str) : ∀ L : List (Str × α), kGet (encD g L) (Sum.inr k) = (aGet L k).map g
  | [] => rfl
  | e :: r => by
    have ih := encD_get k r
    unfold kGet aGet encD at *
    rw [List.map_cons, List.find?_cons, List.find?_cons, key_inr]
    by_cases h : e.1 = k
    · rw [decide_eq_true h]; rfl
    · rw [decide_eq_false h]; exact ih
theorem encD_put (k : Str) (v : α) (L : List (Str × α)) : kPut (encD g L) (Sum.inr k) (g v) = encD g (aPut L k v) := by
  have e1 : ((encD g L).any fun p => decide (p.1 = (Sum.inr k : Key))) = L.any fun e => decide (e.1 = k) := by
    unfold encD
    rw [List.any_map]
    congr 1
    funext e
    exact key_inr e.1 k
  unfold kPut aPut
  rw [e1]
  split
  · unfold encD
    rw [List.map_map, List.map_map]
    refine List.map_congr_left fun e _ => ?_
    show (if (Sum.inr e.1 : Key) = Sum.inr k then ((Sum.inr e.1 : Key), g v) else (Sum.inr e.1, g e.2)) = _
    by_cases h : e.1 = k
    · rw [if_pos (by rw [h])]; simp [h]
    · rw [if_neg fun z => h (Sum.inr.inj z)]; simp [h]
  · unfold encD
    rw [List.map_append]
    rfl
theorem encD_del (k : Str) (L : List (Str × α)) : kDel (encD g L) (Sum.inr k) = encD g (aDrop L k) := by
  unfold kDel aDrop encD
  rw [List.filter_map]
  congr 1
  refine List.filter_congr fun e _ => ?_
  show decide ((Sum.inr e.1 : Key) ≠ Sum.inr k) = decide (e.1 ≠ k)
  rw [decide_not, decide_not, key_inr]
theorem encD_keys (L : List (Str × α)) : (encD g L).map (·.1) = (L.map (·.1)).map Sum.inr := by
  unfold encD
  rw [List.map_map, List.map_map]
  rfl
/-- dict([(k, v), ..]) of keys that differ -/
theorem merge_nodup {κ : Type} [DecidableEq κ] : ∀ (m l : List (κ × Dt)), (m.map (·.1)).Nodup → (∀ p ∈ m, ∀ q ∈ l, p.1 ≠ q.1) → kMerge l m = l ++ m
  | [], l, _, _ => by simp [kMerge]
  | p :: m, l, nd, dis => by
    have nd' := List.nodup_cons.mp nd
    have e : kPut l p.1 p.2 = l ++ [p] := by
      unfold kPut
      rw [if_neg (fun h => by
        obtain ⟨q, hq, e⟩ := List.any_eq_true.mp h
        exact dis p List.mem_cons_self q hq (of_decide_eq_true e).symm)]
    show kMerge (kPut l p.1 p.2) m = _
    rw [e, merge_nodup m (l ++ [p]) nd'.2 (fun a ha q hq => by
      rcases List.mem_append.mp hq with hq | hq
      · exact dis a (List.mem_cons_of_mem _ ha) q hq
      · rw [List.mem_singleton.mp hq]
        exact fun z => nd'.1 (List.mem_map.mpr ⟨a, ha, z⟩)), List.append_assoc]
    rfl
theorem encD_merge {L : List (Str × α)} (nd : (L.map (·.1)).Nodup) : kMerge [] (encD g L) = encD g L := by
  rw [merge_nodup _ _ ?_ (fun _ _ q hq => by cases hq)]
  · rfl
  · rw [encD_keys]
    exact List.pairwise_map.mpr (nd.imp fun h e => h (Sum.inr.inj e))
end
/-! ## comparing typed things -/
class Enc (α : Type) [DecidableEq α] where
  enc : α → Dt
  dat : ∀ a, isDat (enc a) = true
  eqv : ∀ a b, deqv (enc a) (enc b) = decide (a = b)
  dep : Nat
  dep_le : ∀ a, (py (enc a)).depth ≤ dep
/-- never None -/
class EncN (α : Type) [DecidableEq α] extends Enc α where
  nn : ∀ a, deqv .non (enc a) = false ∧ deqv (enc a) .non = false
theorem beq_dec {α : Type} [DecidableEq α] [BEq α] [LawfulBEq α] (a b : α) : (a == b) = decide (a = b) := by
  rw [Bool.eq_iff_iff, beq_iff_eq, decide_eq_true_eq]
instance : EncN Int := { enc := .int, dat := fun _ => rfl, eqv := fun a b => beq_dec a b, dep := 0, dep_le := fun _ => Nat.le_refl _, nn := fun _ => ⟨rfl, rfl⟩ }
instance : EncN Bool := { enc := .bl, dat := fun _ => rfl, eqv := fun a b => beq_dec a b, dep := 0, dep_le := fun _ => Nat.le_refl _, nn := fun _ => ⟨rfl, rfl⟩ }
instance : EncN Str := { enc := .str, dat := fun _ => rfl, eqv := fun a b => beq_dec a b, dep := 0, dep_le := fun _ => Nat.le_refl _, nn := fun _ => ⟨rfl, rfl⟩ }
section
variable {α β γ : Type} [DecidableEq α] [DecidableEq β] [DecidableEq γ]
@[reducible] def encO [Enc α] : Option α → Dt
  | none => .non
  | some a => Enc.enc a
theorem encO_dat [Enc α] (a : Option α) : isDat (encO a) = true := by
  cases a
  · exact rfl
  · exact Enc.dat _
theorem encO_eqv [EncN α] (a b : Option α) : deqv (encO a) (encO b) = decide (a = b) := by
  cases a with
  | none =>
    cases b with
    | none => rfl
    | some b => exact (EncN.nn b).1
  | some a =>
    cases b with
    | none => exact (EncN.nn a).2
    | some b =>
      rw [show deqv (encO (some a)) (encO (some b)) = _ from Enc.eqv a b]
      simp
theorem encO_dep [Enc α] (a : Option α) : (py (encO a)).depth ≤ Enc.dep α := by
  cases a
  · exact Nat.zero_le _
  · exact Enc.dep_le _
instance [EncN α] : Enc (Option α) := { enc := encO, dat := encO_dat, eqv := encO_eqv, dep := Enc.dep α, dep_le := encO_dep }
def encP [Enc α] [Enc β] (p : α × β) : Dt := .tup [Enc.enc p.1, Enc.enc p.2]
theorem encP_dat [Enc α] [Enc β] (p : α × β) : isDat (encP p) = true := by
  show (isDat (Enc.enc p.1) && (isDat (Enc.enc p.2) && true)) = true
  rw [Enc.dat, Enc.dat]
  rfl
theorem encP_eqv [Enc α] [Enc β] (a b : α × β) : deqv (encP a) (encP b) = decide (a = b) := by
  show (deqv (Enc.enc a.1) (Enc.enc b.1) && (deqv (Enc.enc a.2) (Enc.enc b.2) && true)) = _
  rw [Enc.eqv, Enc.eqv, Bool.and_true, Bool.eq_iff_iff]
  simp [Prod.ext_iff]
theorem encP_dep [Enc α] [Enc β] (p : α × β) : (py (encP p)).depth ≤ max (Enc.dep α) (Enc.dep β) + 1 := by
  show max (py (Enc.enc p.1)).depth (max (py (Enc.enc p.2)).depth 0) + 1 ≤ _
  have h1 := Enc.dep_le p.1
  have h2 := Enc.dep_le p.2
  omega
instance [Enc α] [Enc β] : EncN (α × β) := { enc := encP, dat := encP_dat, eqv := encP_eqv, dep := max (Enc.dep α) (Enc.dep β) + 1, dep_le := encP_dep, nn := fun _ => ⟨rfl, rfl⟩ }
/-- rows of three, four, .. : the parts one by one -/
theorem eqv_tup {l m : List Dt} : deqv (.tup l) (.tup m) = PyData.eqvAll (pys l) (pys m) := rfl
theorem eqvAll_cons {a b : Dt} {l m : List Dt} : PyData.eqvAll (pys (a :: l)) (pys (b :: m)) = (deqv a b && PyData.eqvAll (pys l) (pys m)) := rfl
theorem eqvAll_nil : PyData.eqvAll (pys []) (pys []) = true := rfl
theorem tup_dep {l : List Dt} {n : Nat} (h : PyData.depthAll (pys l) ≤ n) : (py (.tup l)).depth ≤ n + 1 := Nat.succ_le_succ h
theorem pys_dep {l : List Dt} {n : Nat} (h : ∀ d ∈ l, (py d).depth ≤ n) : PyData.depthAll (pys l) ≤ n := by
  induction l with
  | nil => exact Nat.zero_le _
  | cons d l ih =>
    show max (py d).depth (PyData.depthAll (pys l)) ≤ n
    exact Nat.max_le.mpr ⟨h d List.mem_cons_self, ih fun x hx => h x (List.mem_cons_of_mem _ hx)⟩
theorem areDat_of {l : List Dt} (h : ∀ d ∈ l, isDat d = true) : areDat l = true := by rw [areDat_all]; exact List.all_eq_true.mpr h
theorem eqvAll_map {f : α → Dt} (h : ∀ a b, deqv (f a) (f b) = decide (a = b)) : ∀ l m : List α, PyData.eqvAll (pys (l.map f)) (pys (m.map f)) = decide (l = m)
  | [], [] => rfl
  | [], _ :: _ => rfl
  | _ :: _, [] => rfl
  | a :: l, b :: m => by
    show (deqv (f a) (f b) && PyData.eqvAll (pys (l.map f)) (pys (m.map f))) = _
    rw [h, eqvAll_map h l m, Bool.eq_iff_iff]
    simp
end
/-- things of one kind, by a function that tells them apart -/
structure Tells {α : Type} [DecidableEq α] (f : α → Dt) (n : Nat) : Prop where
  dat : ∀ a, isDat (f a) = true
  eqv : ∀ a b, deqv (f a) (f b) = decide (a = b)
  dep : ∀ a, (py (f a)).depth ≤ n
section
variable {α : Type} [DecidableEq α] {f : α → Dt} {n : Nat} {S : Store} {q : DK}
theorem tells_enc [Enc α] : Tells (Enc.enc (α := α)) (Enc.dep α) := ⟨Enc.dat, Enc.eqv, Enc.dep_le⟩
theorem Tells.lst (t : Tells f n) : Tells (fun l : List α => Dt.lst (l.map f)) (n + 1) := ⟨fun l => areDat_of fun d hd => by
  obtain ⟨a, _, rfl⟩ := List.mem_map.mp hd
  exact t.dat a, fun l m => eqvAll_map t.eqv l m, fun l => Nat.succ_le_succ (pys_dep fun d hd => by
  obtain ⟨a, _, rfl⟩ := List.mem_map.mp hd
  exact t.dep a)⟩
theorem Tells.tup (t : Tells f n) : Tells (fun l : List α => Dt.tup (l.map f)) (n + 1) := ⟨fun l => areDat_of fun d hd => by
  obtain ⟨a, _, rfl⟩ := List.mem_map.mp hd
  exact t.dat a, fun l m => eqvAll_map t.eqv l m, fun l => Nat.succ_le_succ (pys_dep fun d hd => by
  obtain ⟨a, _, rfl⟩ := List.mem_map.mp hd
  exact t.dep a)⟩
theorem Tells.eq (t : Tells f n) (hn : n ≤ 64) {a b : α} (h : q (.bl (decide (a = b))) S) : dEq (f a) (f b) S q := ⟨⟨t.dat a, t.dat b, Nat.le_trans (t.dep a) hn, Nat.le_trans (t.dep b) hn⟩, by rw [t.eqv]; exact h⟩
theorem Tells.ne (t : Tells f n) (hn : n ≤ 64) {a b : α} (h : q (.bl (!decide (a = b))) S) : dNe (f a) (f b) S q := ⟨⟨t.dat a, t.dat b, Nat.le_trans (t.dep a) hn, Nat.le_trans (t.dep b) hn⟩, by rw [t.eqv]; exact h⟩
theorem Tells.mem (t : Tells f n) (a : α) (l : List α) : memD (f a) (l.map f) = decide (a ∈ l) := by
  unfold memD
  rw [List.any_map, Bool.eq_iff_iff, List.any_eq_true, decide_eq_true_iff]
  constructor
  · rintro ⟨x, hx, h⟩
    have h : deqv (f x) (f a) = true := h
    rw [t.eqv] at h
    rw [← of_decide_eq_true h]
    exact hx
  · exact fun h => ⟨a, h, by show deqv (f a) (f a) = true; rw [t.eqv]; simp⟩
end
section
variable {S : Store} {q : DK}
theorem eq_int {a b : Int} (h : q (.bl (decide (a = b))) S) : dEq (.int a) (.int b) S q := (tells_enc (α := Int)).eq (Nat.zero_le _) h
theorem eq_str {a b : Str} (h : q (.bl (decide (a = b))) S) : dEq (.str a) (.str b) S q := (tells_enc (α := Str)).eq (Nat.zero_le _) h
theorem eq_bl {a b : Bool} (h : q (.bl (decide (a = b))) S) : dEq (.bl a) (.bl b) S q := (tells_enc (α := Bool)).eq (Nat.zero_le _) h
theorem ne_int {a b : Int} (h : q (.bl (!decide (a = b))) S) : dNe (.int a) (.int b) S q := (tells_enc (α := Int)).ne (Nat.zero_le _) h
theorem ne_str {a b : Str} (h : q (.bl (!decide (a = b))) S) : dNe (.str a) (.str b) S q := (tells_enc (α := Str)).ne (Nat.zero_le _) h
theorem ne_bl {a b : Bool} (h : q (.bl (!decide (a = b))) S) : dNe (.bl a) (.bl b) S q := (tells_enc (α := Bool)).ne (Nat.zero_le _) h
end
end Dn

namespace Dn
open PySem PySem.Spec PyProof.Rows L2 Pr
section
variable {X : Cx} {K : PySem.W.Frag} {E : XK} {e : DX} {st : Stmt}
theorem ds_never : PS X st (tDS K E e (fun _ _ _ => False)) := PS.imp ps_never fun D σ H h => by
  obtain ⟨D', S, Z, δ, t, h, k⟩ := h
  exact h.elim
end
theorem szD {n : Nat} (h : n ≤ 10000) : n < sizeLine := Nat.lt_of_le_of_lt h (Nat.le_of_ble_eq_true rfl)
/-! tests that are comparisons -/
@[reducible] def dTst (a : DTE) : DTT := fun δ S q => a δ S fun x S1 => ∃ k, x = .bl k ∧ q k S1
section
variable {X : Cx} {K : PySem.W.Frag} {E : XK} {e : DX} {pos : Pos} {a b c : Expr} {da db dc : DTE}
theorem tD_tst {σ : L2.St} {H : Hp} {Q : Bool → Hp → Prop} (h : tDT K E e (dTst da) σ H Q) : tTest (tD K E e da) σ H Q := by
  obtain ⟨δ, S, Z, q, t, h, k⟩ := h
  refine ⟨δ, S, Z, _, t, h, fun v x H1 S1 g1 x1 r1 h1 => ?_⟩
  obtain ⟨b, rfl, h1⟩ := h1
  exact ⟨b, r1, k b H1 S1 g1 x1 h1⟩
theorem dt_cmp {op : CmpOp} {dr : D2} (ho : OpR X (compareOp op) (rD K dr)) (ha : PE X a (tD K E e da)) (hb : PE X b (tD K E e db)) (hm : behindInMarks op b = false := by rfl) : PT X (.Compare a [op] [b] pos) (tDT K E e (dTst (dOp dr da db))) :=
  PT.imp (pt_cmpR ho ha hb hm) fun σ H Q h => by
    exact tT_op (tD_tst h)
where
  tT_op {dr : D2} {σ : L2.St} {H : Hp} {Q : Bool → Hp → Prop} (h : tTest (tD K E e (dOp dr da db)) σ H Q) : tTest (tOp (rD K dr) (tD K E e da) (tD K E e db)) σ H Q := tD_op h
theorem dt_din (hu : X.A.units + 1 < cLine) (hb : PE X b (tD K E e db)) (ha : PE X a (tD K E e da)) (hm : behindInMarks .In a = false := by rfl) : PT X (.Compare b [.In] [a] pos) (tDT K E e (dTst (dDin db da))) := PT.imp (pt_cmp (pc_din hu hb ha) hm) fun σ H Q h => by
  obtain ⟨δ, S, Z, q, t, h, k⟩ := (tD_tst h : tD K E e (dDin db da) σ H _)
  refine ⟨δ, S, Z, _, t, h, fun v x H1 S1 g1 x1 r1 h1 => ⟨δ, S1, Z, _, t.to g1 x1, h1, fun w y H2 S2 g2 x2 r2 h2 => ?_⟩⟩
  obtain ⟨a, o, rfl, h3, h4⟩ := getD_of g2 r2 (Rep.ext x2 _ _ r1) h2
  rcases h4 with ⟨rfl, h4⟩ | ⟨x', u, rfl, h6, h7⟩
  · exact ⟨a, _, rfl, h4, (k.ext (x1.trans x2)).here g2 h3 rfl⟩
  · exact ⟨a, _, rfl, h6, (k.ext (x1.trans x2)).here g2 h3 rfl⟩
theorem dt_dnotin (hu : X.A.units + 1 < cLine) (hb : PE X b (tD K E e db)) (ha : PE X a (tD K E e da)) (hm : behindInMarks .NotIn a = false := by rfl) : PT X (.Compare b [.NotIn] [a] pos) (tDT K E e (dTst (dDnotin db da))) := PT.imp (pt_cmp (pc_dnotin hu hb ha) hm) fun σ H Q h => by
  obtain ⟨δ, S, Z, q, t, h, k⟩ := (tD_tst h : tD K E e (dDnotin db da) σ H _)
  refine ⟨δ, S, Z, _, t, h, fun v x H1 S1 g1 x1 r1 h1 => ⟨δ, S1, Z, _, t.to g1 x1, h1, fun w y H2 S2 g2 x2 r2 h2 => ?_⟩⟩
  obtain ⟨a, o, rfl, h3, h4⟩ := getD_of g2 r2 (Rep.ext x2 _ _ r1) h2
  rcases h4 with ⟨rfl, h4⟩ | ⟨x', u, rfl, h6, h7⟩
  · exact ⟨a, _, rfl, h4, (k.ext (x1.trans x2)).here g2 h3 rfl⟩
  · exact ⟨a, _, rfl, h6, (k.ext (x1.trans x2)).here g2 h3 rfl⟩
theorem dt_chain {op op' : CmpOp} {r r' : D2} (ho : OpR X (compareOp op) (rD K r)) (ho' : OpR X (compareOp op') (rD K r')) (ha : PE X a (tD K E e da)) (hb : PE X b (tD K E e db)) (hc : PE X c (tD K E e dc)) (hm : lastMarks [op, op'] [b, c] = false := by rfl) :
    PT X (.Compare a [op, op'] [b, c] pos) (tDT K E e (dTst (dChain r r' da db dc))) := PT.imp (pt_chain ho ho' ha hb hc hm) fun σ H Q h => by
  exact tD_chain (tD_tst h)
where
  tD_chain {r r' : D2} {σ : L2.St} {H : Hp} {Q : VK} (h : tD K E e (dChain r r' da db dc) σ H Q) : tChain (rD K r) (rD K r') (tD K E e da) (tD K E e db) (tD K E e dc) σ H Q := by
    obtain ⟨δ, S, Z, q, t, h, k⟩ := h
    refine ⟨δ, S, Z, _, t, h, fun v x H1 S1 g1 x1 r1 h1 => ⟨δ, S1, Z, _, t.to g1 x1, h1, fun w y H2 S2 g2 x2 r2 h2 => ⟨x, y, S2, Z, _, g2, Rep.ext x2 _ _ r1, r2, h2, fun u z H3 S3 g3 x3 r3 h3 => ?_⟩⟩⟩
    obtain ⟨c, rfl, h4⟩ := h3
    refine ⟨c, r3, ?_⟩
    have x13 := x1.trans (x2.trans x3)
    cases c with
    | true => exact iteT ⟨δ, S3, Z, _, t.to g3 x13, h4, fun w' y' H4 S4 g4 x4 r4 h5 => ⟨y, y', S4, Z, q, g4, Rep.ext (x3.trans x4) _ _ r2, r4, h5, k.ext (x13.trans x4)⟩⟩
    | false => exact iteF (k _ (.bl false) H3 S3 g3 x13 rfl h4)
end
theorem lenIs0 {A : Prop} (h : A) : LenIs [] 0 A := h
theorem ift_nt {A B : Prop} (h : B) : Ift (!true) A B := h
theorem ift_nf {A B : Prop} (h : A) : Ift (!false) A B := h
theorem nd_inj {α β : Type} {f : α → β} : ∀ {L : List α} {a b : α}, (L.map f).Nodup → a ∈ L → b ∈ L → f a = f b → a = b
  | [], _, _, _, ha, _, _ => by cases ha
  | x :: r, a, b, nd, ha, hb, h => by
    rw [List.map_cons] at nd
    obtain ⟨n1, n2⟩ := List.nodup_cons.mp nd
    rcases List.mem_cons.mp ha with ea | ha
    · rcases List.mem_cons.mp hb with eb | hb
      · rw [ea, eb]
      · exact absurd (List.mem_map.mpr ⟨b, hb, by rw [← h, ea]⟩) n1
    · rcases List.mem_cons.mp hb with eb | hb
      · exact absurd (List.mem_map.mpr ⟨a, ha, by rw [h, eb]⟩) n1
      · exact nd_inj n2 ha hb h
/-! names with addresses -/
section
variable {β : Type} {L : List (Str × (Addr × β))} {k : Str} {p b : Addr} {l : β}
theorem put_addr (h : b ∈ (aPut L k (p, l)).map (·.2.1)) : b = p ∨ b ∈ L.map (·.2.1) := by
  obtain ⟨e, he, rfl⟩ := List.mem_map.mp h
  rcases aPut_mem he with rfl | ⟨he, _⟩
  · exact .inl rfl
  · exact .inr (List.mem_map.mpr ⟨e, he, rfl⟩)
theorem put_nda (nk : (L.map (·.1)).Nodup) (na : (L.map (·.2.1)).Nodup) (hp : p ∉ L.map (·.2.1)) : ((aPut L k (p, l)).map (·.2.1)).Nodup := by
  have mem : ∀ e ∈ L, e.2.1 ≠ p := fun e he z => hp (List.mem_map.mpr ⟨e, he, z⟩)
  unfold aPut
  split
  · rw [List.map_map]
    have h : L.Pairwise fun x y => x.1 ≠ y.1 ∧ x.2.1 ≠ y.2.1 := List.Pairwise.and (List.pairwise_map.mp nk) (List.pairwise_map.mp na)
    refine List.pairwise_map.mpr (h.imp_of_mem fun {x y} hx hy z => ?_)
    show (if x.1 = k then (x.1, (p, l)) else x).2.1 ≠ (if y.1 = k then (y.1, (p, l)) else y).2.1
    by_cases h1 : x.1 = k
    · rw [if_pos h1, if_neg fun h2 => z.1 (h1.trans h2.symm)]
      exact (mem y hy).symm
    · rw [if_neg h1]
      by_cases h2 : y.1 = k
      · rw [if_pos h2]
        exact mem x hx
      · rw [if_neg h2]
        exact z.2
  · rw [List.map_append]
    refine List.nodup_append.mpr ⟨na, by simp, fun a ha b hb => ?_⟩
    rw [List.mem_singleton.mp hb]
    exact fun z => hp (by rw [show a = p from z] at ha; exact ha)
theorem drop_addr (h : b ∈ (aDrop L k).map (·.2.1)) : b ∈ L.map (·.2.1) := by
  obtain ⟨e, he, rfl⟩ := List.mem_map.mp h
  exact List.mem_map.mpr ⟨e, (aDrop_mem.mp he).1, rfl⟩
theorem drop_nda (na : (L.map (·.2.1)).Nodup) : ((aDrop L k).map (·.2.1)).Nodup := by
  unfold aDrop
  exact na.sublist (List.filter_sublist.map _)
theorem wPut : kPut (encD (fun e : Addr × β => Dt.ref e.1) L) (Sum.inr k) (.ref p) = encD (fun e : Addr × β => Dt.ref e.1) (aPut L k (p, l)) := encD_put k (p, l) L
end
theorem put_keys {α : Type} {L : List (Str × α)} {k : Str} {v w : α} (h : aGet L k = some w) : (aPut L k v).map (·.1) = L.map (·.1) := by
  rw [aPut_keys, if_pos (List.any_eq_true.mpr ⟨_, aGet_mem h, decide_eq_true rfl⟩)]
theorem keys_map {α : Type} {L : List (Str × α)} : (L.map fun p => Dt.str p.1) = (L.map (·.1)).map Dt.str := by
  rw [List.map_map]
  rfl
theorem strs_drop {α : Type} {L : List (Str × α)} {k : Str} : L.filterMap (fun p => if p.1 = k then none else some (Dt.str p.1)) = (aDrop L k).map fun p => Dt.str p.1 := by
  induction L with
  | nil => rfl
  | cons x r ih =>
    by_cases h : x.1 = k
    · rw [List.filterMap_cons_none (by rw [if_pos h]), ih]
      show _ = (List.filter _ (x :: r)).map _
      rw [List.filter_cons_of_neg (by simp [h])]
      rfl
    · rw [List.filterMap_cons_some (by rw [if_neg h]), ih]
      show _ = (List.filter _ (x :: r)).map _
      rw [List.filter_cons_of_pos (by simp [h]), List.map_cons]
      rfl
section
variable {α : Type} {g : α → Dt} {L : List (Str × α)}
theorem items_encD : (encD g L).map (fun p => Dt.tup [keyD p.1, p.2]) = L.map fun e => Dt.tup [.str e.1, g e.2] := by
  unfold encD
  rw [List.map_map]
  rfl
theorem keys_encD : (encD g L).map (fun p => keyD p.1) = L.map fun e => Dt.str e.1 := by
  unfold encD
  rw [List.map_map]
  rfl
theorem vals_encD : (encD g L).map (fun p => p.2) = L.map fun e => g e.2 := by
  unfold encD
  rw [List.map_map]
  rfl
end
/-- a store told by what it holds -/
theorem store_eq {S S' : Store} {p : Addr} {c : Cell} (h1 : S' p = some c) (h2 : ∀ b, b ≠ p → S' b = S b) : S' = sput S p c := by
  funext b
  by_cases h : b = p
  · rw [h, h1, sput_same]
  · rw [h2 b h, sput_ne h]
/-- a text or None -/
@[reducible] def oS : Option Str → Dt
  | none => .non
  | some z => .str z
theorem oS_eq (o : Option Str) : oS o = Enc.enc o := by cases o <;> rfl
theorem tells_oS : Tells oS 0 := ⟨fun a => by rw [oS_eq]; exact Enc.dat a, fun a b => by rw [oS_eq, oS_eq]; exact Enc.eqv a b, fun a => by rw [oS_eq]; exact Enc.dep_le a⟩
@[reducible] def oI : Option Int → Dt
  | none => .non
  | some z => .int z
theorem oI_eq (o : Option Int) : oI o = Enc.enc o := by cases o <;> rfl
theorem tells_oI : Tells oI 0 := ⟨fun a => by rw [oI_eq]; exact Enc.dat a, fun a b => by rw [oI_eq, oI_eq]; exact Enc.eqv a b, fun a => by rw [oI_eq]; exact Enc.dep_le a⟩
/-! in -/
section
variable {S : Store} {q : DK} {α : Type} {f : α → Str} {L : List α} {a : Addr} {k : Str}
theorem strs_mem : memD (.str k) (L.map fun x => Dt.str (f x)) = decide (k ∈ L.map f) := by
  have h := (tells_enc (α := Str)).mem k (L.map f)
  rw [List.map_map] at h
  exact h
theorem strs_dat : areDat (L.map fun x => Dt.str (f x)) = true := areDat_of fun d hd => by
  obtain ⟨_, _, rfl⟩ := List.mem_map.mp hd
  rfl
theorem strs_dep : (py (.lst (L.map fun x => Dt.str (f x)))).depth ≤ 64 := Nat.le_trans (Nat.succ_le_succ (pys_dep (n := 0) fun d hd => by
  obtain ⟨_, _, rfl⟩ := List.mem_map.mp hd
  exact Nat.le_refl _)) (by decide)
theorem in_strsC (h : S a = some (.lst (L.map fun x => .str (f x)))) (hq : q (.bl (decide (k ∈ L.map f))) S) : dIn false (.str k) (.ref a) S q := ⟨_, h, ⟨rfl, strs_dat, Nat.zero_le _, strs_dep⟩, by rw [strs_mem]; exact hq⟩
theorem notin_strsC (h : S a = some (.lst (L.map fun x => .str (f x)))) (hq : q (.bl (!decide (k ∈ L.map f))) S) : dIn true (.str k) (.ref a) S q := ⟨_, h, ⟨rfl, strs_dat, Nat.zero_le _, strs_dep⟩, by rw [strs_mem]; exact hq⟩
theorem in_strs (hq : q (.bl (decide (k ∈ L.map f))) S) : dIn false (.str k) (.lst (L.map fun x => .str (f x))) S q := ⟨⟨rfl, strs_dat, Nat.zero_le _, strs_dep⟩, by rw [strs_mem]; exact hq⟩
theorem notin_strs (hq : q (.bl (!decide (k ∈ L.map f))) S) : dIn true (.str k) (.lst (L.map fun x => .str (f x))) S q := ⟨⟨rfl, strs_dat, Nat.zero_le _, strs_dep⟩, by rw [strs_mem]; exact hq⟩
end
/-! runs over a list, item by item -/
section
variable {keep : Store → Prop} {g : DTG} {b : DTS} {D : DEnds} {tt : DTT} {te : DTE} {q : List Dt → Store → Prop} {δ : DS} {l : List Dt} {S : Store} {it : DTL} {w : List Nat}
@[reducible] def forGo (keep : Store → Prop) (g : DTG) (b : DTS) (D : DEnds) : List Dt → DS → Store → Prop
  | [], δ, S => keep S ∧ D.nx δ S
  | d :: r, δ, S => keep S ∧ g d δ S fun δ' S' => b { D with nx := forGo keep g b D r, ct := forGo keep g b D r, bk := D.nx } δ' S'
theorem forGo_keep : ∀ {l : List Dt} {δ : DS} {S : Store}, forGo keep g b D l δ S → keep S
  | [], _, _, h => h.1
  | _ :: _, _, _, h => h.1
theorem for_go (h : forGo keep g b D l δ S) : ∃ I : Nat → DS → Store → Prop, I 0 δ S ∧ (∀ i δ S, i ≤ l.length → I i δ S → keep S) ∧
    (∀ i d δ S, l[i]? = some d → I i δ S → g d δ S fun δ' S' => b { D with nx := I (i + 1), ct := I (i + 1), bk := D.nx } δ' S') ∧ ∀ δ S, I l.length δ S → D.nx δ S := by
  refine ⟨fun i => forGo keep g b D (l.drop i), h, fun i δ S _ h => forGo_keep h, fun i d δ S e h => ?_, fun δ S h => ?_⟩
  · have e2 : l.drop i = d :: l.drop (i + 1) := by
      obtain ⟨hi, e⟩ := List.getElem?_eq_some_iff.mp e
      rw [List.drop_eq_getElem_cons hi, e]
    have h : forGo keep g b D (l.drop i) δ S := h
    rw [e2] at h
    exact h.2
  · have h : forGo keep g b D (l.drop l.length) δ S := h
    rw [List.drop_length] at h
    exact h.2
theorem forGo_ind {α : Type} (enc : α → Dt) (P : List α → DS → Store → Prop) (nil : ∀ δ S, P [] δ S → keep S ∧ D.nx δ S)
    (cons : ∀ x r δ S, P (x :: r) δ S → keep S ∧ ∀ nx, (∀ δ' S', P r δ' S' → nx δ' S') → g (enc x) δ S fun δ' S' => b { D with nx := nx, ct := nx, bk := D.nx } δ' S') :
    ∀ (L : List α) (δ : DS) (S : Store), P L δ S → forGo keep g b D (L.map enc) δ S
  | [], δ, S, h => nil δ S h
  | x :: r, δ, S, h => ⟨(cons x r δ S h).1, (cons x r δ S h).2 _ fun δ' S' h' => forGo_ind enc P nil cons r δ' S' h'⟩
@[reducible] def lcGo (keep : Store → Prop) (g : DTG) (tt : DTT) (te : DTE) (q : List Dt → Store → Prop) (δ : DS) : List Dt → List Dt → Store → Prop
  | [], acc, S => keep S ∧ q acc S
  | d :: r, acc, S => keep S ∧ g d δ S fun δ' S' => tt δ' S' fun b S2 => Ift b (te δ' S2 fun y S3 => lcGo keep g tt te q δ r (acc ++ [y]) S3) (lcGo keep g tt te q δ r acc S2)
theorem lcGo_keep : ∀ {l acc : List Dt} {S : Store}, lcGo keep g tt te q δ l acc S → keep S
  | [], _, _, h => h.1
  | _ :: _, _, _, h => h.1
theorem lc_go (h : lcGo keep g tt te q δ l [] S) : ∃ I : Nat → List Dt → Store → Prop, I 0 [] S ∧ (∀ i acc S, i ≤ l.length → I i acc S → keep S) ∧
    (∀ i d acc S, l[i]? = some d → I i acc S → g d δ S fun δ' S' => tt δ' S' fun b S2 => Ift b (te δ' S2 fun y S3 => I (i + 1) (acc ++ [y]) S3) (I (i + 1) acc S2)) ∧ ∀ acc S, I l.length acc S → q acc S := by
  refine ⟨fun i => lcGo keep g tt te q δ (l.drop i), h, fun i acc S _ h => lcGo_keep h, fun i d acc S e h => ?_, fun acc S h => ?_⟩
  · have e2 : l.drop i = d :: l.drop (i + 1) := by
      obtain ⟨hi, e⟩ := List.getElem?_eq_some_iff.mp e
      rw [List.drop_eq_getElem_cons hi, e]
    have h : lcGo keep g tt te q δ (l.drop i) acc S := h
    rw [e2] at h
    exact h.2
  · have h : lcGo keep g tt te q δ (l.drop l.length) acc S := h
    rw [List.drop_length] at h
    exact h.2
/-- what changes nothing -/
theorem lcGo_pure {α : Type} (enc : α → Dt) (f : α → Option Dt) (hk : keep S) : ∀ (L : List α) (acc : List Dt), (∀ x ∈ L, ∀ (kY : Dt → Store → Prop) (kN : Store → Prop), (∀ y, f x = some y → kY y S) → (f x = none → kN S) → g (enc x) δ S fun δ' S' => tt δ' S' fun b S2 => Ift b (te δ' S2 kY) (kN S2)) →
    q (acc ++ L.filterMap f) S → lcGo keep g tt te q δ (L.map enc) acc S
  | [], acc, _, h => ⟨hk, by simpa using h⟩
  | x :: r, acc, st, h => ⟨hk, st x List.mem_cons_self _ _
      (fun y e => lcGo_pure enc f hk r (acc ++ [y]) (fun x' hx' => st x' (List.mem_cons_of_mem _ hx')) (by rw [List.filterMap_cons_some e] at h; rw [List.append_assoc]; exact h))
      (fun e => lcGo_pure enc f hk r acc (fun x' hx' => st x' (List.mem_cons_of_mem _ hx')) (by rw [List.filterMap_cons_none e] at h; exact h))⟩
end
/-! the dice of every law -/
def cRoll : DSp := fun ds S q _ => ∃ (d : Addr) (x n k m : Int), ds = [.ref d, .int m] ∧ S d = some (.lst [.int x, .int n, .int k]) ∧ (0 < m ∧ m ≤ 100000000) ∧
  ∀ r x' n' k' : Int, 0 ≤ r → r < m → q (.int r) (sput S d (.lst [.int x', .int n', .int k']))
def cDice : DSp := fun ds S q _ => ∃ c : Int, ds = [.int c] ∧ ∀ (p : Addr) (x n k : Int), S p = none → q (.ref p) (sput S p (.lst [.int x, .int n, .int k]))
def cRounds : DSp := fun ds S q _ => ∃ ns : List Int, ds = [.scr ns, .int 1] ∧ ns.length ≤ 10000 ∧ ∀ (p : Addr) (x n k : Int), S p = none → q (.lst [.ref p]) (sput S p (.lst [.int x, .int n, .int k]))
end Dn

/-! lists that are cells compared; sum(len(k) + len(v) for k, v in d.items()) -/
namespace Dn
open PySem PySem.Spec PyProof.Rows L2 Pr LamX
/-- a cell that is a list, as a list -/
@[reducible] def seeV (x : Dt) (S : Store) (k : Dt → Prop) : Prop := match x with
  | .ref a => ∃ l, S a = some (.lst l) ∧ k (.lst l)
  | x => k x
@[reducible] def dEqV : D2 := fun x y S q => seeV x S fun x' => seeV y S fun y' => dEq x' y' S q
@[reducible] def dNeV : D2 := fun x y S q => seeV x S fun x' => seeV y S fun y' => dNe x' y' S q
section
variable {X : Cx} {K : PySem.W.Frag} {Z H : Hp} {S : Store}
theorem seeV_of {d : Dt} {v : V} (g : Good K Z H S) (r : Rep K (out H S Z) d v) {k : Dt → Prop} (h : seeV d S k) : ∃ d', k d' ∧ (isDat d' = true → Dp K H v (py d') ∧ ((py d').depth ≤ 64 → SeqAt.shaped (py d') = true)) := by
  cases d with
  | ref a =>
    obtain ⟨l, h1, h2⟩ := h
    obtain ⟨o, h3, vs, rfl, h4⟩ := g.c a _ h1
    refine ⟨_, h2, fun hd => ⟨?_, fun hl => ?_⟩⟩
    · rw [show v = _ from r]
      exact .lst (SqL.of h3) (Reps.dp _ _ hd h4)
    · show ((py (.lst l)).canLay0 && decide ((py (.lst l)).depth ≤ 64)) = true
      rw [show (py (.lst l)).canLay0 = true from Reps.lay _ _ h4, decide_eq_true hl]
      rfl
  | _ => exact ⟨_, h, fun hd => ⟨Rep.dp _ _ hd r, fun hl => Rep.shaped r hl⟩⟩
theorem od_eqV (hK : X.K = K) (hu : X.A.units + 64 < cLine) : OpR X (compareOp .Eq) (rD K dEqV) := fun pins s σ H x y v u Q I rv ru ⟨dx, dy, S, Z, q, g, rx, ry, h, k⟩ => by
  subst hK
  obtain ⟨x', h, fx⟩ := seeV_of g rx h
  obtain ⟨y', ⟨⟨h1, h2, h3, h4⟩, h⟩, fy⟩ := seeV_of g ry h
  exact op_eqD hu pins s σ H x y v u Q I rv ru ⟨py x', py y', (fx h1).1, (fy h2).1, (fx h1).2 h3, (fy h2).2 h4, k.here g h rfl⟩
theorem od_neV (hK : X.K = K) (hu : X.A.units + 64 < cLine) : OpR X (compareOp .NotEq) (rD K dNeV) := fun pins s σ H x y v u Q I rv ru ⟨dx, dy, S, Z, q, g, rx, ry, h, k⟩ => by
  subst hK
  obtain ⟨x', h, fx⟩ := seeV_of g rx h
  obtain ⟨y', ⟨⟨h1, h2, h3, h4⟩, h⟩, fy⟩ := seeV_of g ry h
  exact op_neD hu pins s σ H x y v u Q I rv ru ⟨py x', py y', (fx h1).1, (fy h2).1, (fx h1).2 h3, (fy h2).2 h4, k.here g h rfl⟩
end
theorem Tells.neS {α : Type} [DecidableEq α] {f : α → Dt} {n : Nat} {S : Store} {q : DK} (t : Tells f n) (hn : n ≤ 64) {a : α} (h : q (.bl false) S) : dNe (f a) (f a) S q := t.ne hn (by rw [decide_eq_true rfl]; exact h)
theorem Tells.eqS {α : Type} [DecidableEq α] {f : α → Dt} {n : Nat} {S : Store} {q : DK} (t : Tells f n) (hn : n ≤ 64) {a : α} (h : q (.bl true) S) : dEq (f a) (f a) S q := t.eq hn (by rw [decide_eq_true rfl]; exact h)
section
variable {S : Store} {q : DK} {z : Str} {b : Bool} {i : Int}
theorem eq_strS (h : q (.bl true) S) : dEq (.str z) (.str z) S q := (tells_enc (α := Str)).eqS (Nat.zero_le _) h
theorem ne_strS (h : q (.bl false) S) : dNe (.str z) (.str z) S q := (tells_enc (α := Str)).neS (Nat.zero_le _) h
theorem eq_blS (h : q (.bl true) S) : dEq (.bl b) (.bl b) S q := (tells_enc (α := Bool)).eqS (Nat.zero_le _) h
theorem ne_blS (h : q (.bl false) S) : dNe (.bl b) (.bl b) S q := (tells_enc (α := Bool)).neS (Nat.zero_le _) h
theorem eq_intS (h : q (.bl true) S) : dEq (.int i) (.int i) S q := (tells_enc (α := Int)).eqS (Nat.zero_le _) h
theorem ne_intS (h : q (.bl false) S) : dNe (.int i) (.int i) S q := (tells_enc (α := Int)).neS (Nat.zero_le _) h
theorem eq_nonS (h : q (.bl false) S) : dEq .non (.str z) S q := ⟨⟨rfl, rfl, Nat.zero_le _, Nat.zero_le _⟩, h⟩
theorem ne_nonS (h : q (.bl true) S) : dNe .non (.str z) S q := ⟨⟨rfl, rfl, Nat.zero_le _, Nat.zero_le _⟩, h⟩
theorem eq_blStr (h : q (.bl false) S) : dEq (.bl b) (.str z) S q := ⟨⟨rfl, rfl, Nat.zero_le _, Nat.zero_le _⟩, h⟩
theorem ne_blStr (h : q (.bl true) S) : dNe (.bl b) (.str z) S q := ⟨⟨rfl, rfl, Nat.zero_le _, Nat.zero_le _⟩, h⟩
end
theorem sput_self {S : Store} {a : Addr} {c : Cell} (h : S a = some c) : sput S a c = S := by
  funext b
  by_cases hb : b = a
  · rw [hb, sput_same, h]
  · rw [sput_ne hb]
theorem sput_back {S : Store} {a : Addr} {c d : Cell} (h : S a = some c) : sput (sput S a d) a c = S := by
  rw [sput_sput]
  funext b
  by_cases hb : b = a
  · rw [hb, sput_same, h]
  · rw [sput_ne hb]
theorem has_enc {α : Type} {g : α → Dt} {L : List (Str × α)} {k : Str} : (kGet (encD g L) (Sum.inr k)).isSome = decide (k ∈ L.map (·.1)) := by
  rw [encD_get, Option.isSome_map]
  cases h : aGet L k with
  | some v =>
    rw [decide_eq_true (List.mem_map.mpr ⟨_, aGet_mem h, rfl⟩)]
    rfl
  | none =>
    rw [decide_eq_false fun z => ?_]
    · rfl
    · obtain ⟨e, he, z⟩ := List.mem_map.mp z
      exact aGet_none.mp h e.2 (by rw [← z]; exact he)
theorem get_enc {α : Type} {g : α → Dt} {L : List (Str × α)} {e : Str × α} (nd : (L.map (·.1)).Nodup) (h : e ∈ L) : kGet (encD g L) (Sum.inr e.1) = some (g e.2) := by
  rw [encD_get, aGet_of_mem nd h]
  rfl
theorem fm_if {α β : Type} {p : α → Prop} [DecidablePred p] {g : α → β} : ∀ {L : List α}, L.filterMap (fun e => if p e then none else some (g e)) = (L.filter fun e => decide (¬ p e)).map g
  | [] => rfl
  | x :: r => by
    by_cases h : p x
    · rw [List.filterMap_cons_none (by rw [if_pos h]), fm_if, List.filter_cons_of_neg (by simp [h])]
    · rw [List.filterMap_cons_some (by rw [if_neg h]), fm_if, List.filter_cons_of_pos (by simp [h])]
      rfl
/-! ## a def with a table of codes -/
theorem dfnC {P : Program} {w : World} {K : PySem.W.Frag} {mg : Str → Option Value} {base : Heap} {x qual : Str} {params : Arguments} {body : List Stmt} {scope : Scope} {dvs : List V} {f Pt : Addr} {fd : FuncData} {N ps : List Str} {k : Nat} {c : DSp} {kws : List (Str × V)} (n : Nat) (F : FunD K x qual params body scope dvs kws f fd) (S : FnScope N ps scope) (hT : ∀ c0, fd.code = .ref c0 → TabB base mg c0 Pt) (len : ∀ ds S q e, c ds S q e → ds.length = ps.length) (hn : N.length = n := by rfl)
    (run : ∀ (c0 : Addr) (A : Around) (outer : List Env) (s : Shared) (H : Hp) (E : XK) (e : DX), TabB base mg c0 Pt → Room k (A.deeper (envOfC qual scope s.heap.objs.size f (.ref c0))) →
      ∃ t, PSs (cxOf (L2.CX P w) P w K mg base N qual scope f (.ref c0) A outer s H E) body (tDS K E e t) ∧ ∀ ds S q, c ds S q e → t { nx := fun _ S => q .non S, rt := q } (startD n ds) S) : FnOk P w K mg base (L2.CX P w) (k + 1) f fd ps (spD K c) := by
  obtain ⟨oc, od, dV, kV, doc, pm, an, cdv, ct, osl, rfl, lk, hcd, _, _⟩ := F.ex
  obtain ⟨c0, rfl⟩ := He.codeIn_ref hcd
  have TB := hT c0 rfl
  refine fn_of lk hcd S (fun vs H Q E h => ?_) fun A outer s H vs Q E hr h => ?_
  · obtain ⟨ds, S, Z, q, e, g, r, l, h, k⟩ := h
    rw [← r.len]
    exact len ds S q e h
  · obtain ⟨ds, S', Z, q, e, g, r, l, h, kk⟩ := h
    obtain ⟨t, p, h2⟩ := run c0 A outer s H E e TB hr
    refine ⟨_, p, _, S', Z, _, ⟨g, ?_, l⟩, h2 ds S' q h, ?_⟩
    · rw [← hn]
      refine start_slots N ds vs r ?_
      rw [← r.len, len ds S' q e h]
      have := congrArg List.length S.pre
      rw [List.length_take] at this
      omega
    · exact ⟨fun σ δ H S g x s q => kk .non .non H S g x rfl q, fun v d H S g x r q => kk v d H S g x r q, fun _ _ _ _ _ _ _ h => h, fun _ _ _ _ _ _ _ h => h⟩
end Dn

/-! lambdas kept in a list -/
namespace Dn
open PySem PySem.Spec PyProof.Rows L2 Pr LamX NdefX
section
variable {X : Cx} {K : PySem.W.Frag} {E : XK} {e : DX}
/-! a comprehension whose test leans on the slots at its begin -/
def tDTI (K : PySem.W.Frag) (ti : DS → DTT) (σ : L2.St) : TT := fun σ2 H Q => ∃ δ δ2 S Z q, Good K Z H S ∧ Slots K (out H S Z) σ δ ∧ Slots K (out H S Z) σ2 δ2 ∧ ti δ δ2 S q ∧ ∀ b H' S', Good K Z H' S' → Ext (out H S Z) (out H' S' Z) → q b S' → Q b H'
theorem lc_runI {it : DTL} {wi : TI} {g : DTG} {ti : DS → DTT} {te : DTE} {vs : List Nat} {qL : List Dt → Store → Prop} {σ : L2.St} {H : Hp} {Q : VK} {δ : DS} {S : Store} {Z : Hp}
    (t : At K E e Z H S σ δ) (h : dLc it g vs (ti δ) te qL δ S)
    (fin : ∀ D accV acc H' S', Z D = none → Good K (upd Z D (.lst accV)) H' S' → Ext (out H S Z) (out H' S' (upd Z D (.lst accV))) → Reps K (out H' S' (upd Z D (.lst accV))) acc accV → qL acc S' → Q (.ref D) H') :
    tLc (tDI K E e it) (tGw K vs g) (tDTI K ti σ) (tD K E0 noX te) vs σ H Q := by
  refine ⟨δ, S, Z, _, t, h, fun l keep H1 S1 J g1 x1 ok h1 => ?_⟩
  obtain ⟨hl, I, h0, hk, hs, hd⟩ := h1
  intro D nD
  have nZ := g1.nZ nD
  have sl1 := t.sl.ext x1
  refine lc_it (n := l.length) (G := fun H => ∃ Z' S, Good K Z' H S ∧ Ext (out H1 S1 Z) (out H S Z') ∧ keep S) (Y := fun i H x H' => J.yld i H x H') (Qd := fun H => Q (.ref D) H)
    ⟨fun i H hi ⟨Z', S, g, x, kp⟩ => ok.go Z' i H S g x kp hi, fun H ⟨Z', S, g, x, kp⟩ => ok.stop Z' H S g x kp, fun i H x H' _ _ y => y⟩
    (fun i H => ∃ S acc accV, Good K (upd Z D (.lst accV)) H S ∧ Ext (out H1 S1 Z) (out H S (upd Z D (.lst accV))) ∧ Reps K (out H S (upd Z D (.lst accV))) acc accV ∧ acc.length ≤ i ∧ I i acc S)
    ⟨S1, [], [], g1.hide nD, by rw [hide_out g1 nD]; exact Ext.refl, rfl, Nat.le_refl _, h0⟩
    (fun i H hi ⟨S, acc, accV, g, x, r, n, q⟩ => ⟨_, S, g, x, hk i acc S hi q⟩) (fun i x H H' hi hh y => ?_)
    (fun H ⟨S, acc, accV, g, x, r, n, q⟩ => fin D accV acc H S nZ g (x1.trans x) r (hd acc S q))
  obtain ⟨S2, acc, accV, g2, x2, r2, n2, q2⟩ := hh
  obtain ⟨d, e1, g3, x3, r3⟩ := ok.yld _ i H S2 x H' g2 x2 (hk i acc S2 (Nat.le_of_lt hi) q2) hi y
  have x23 := x2.trans x3
  refine ⟨d, _, S2, _, _, g3, slots_wipes (sl1.ext x23) vs, r3, hs i d acc S2 e1 q2, fun σ' δ' H4 S4 w4 g4 x4 s4 h4 => ?_⟩
  refine ⟨by rw [w4, lc_run.wipe_wipe], δ, δ', S4, _, _, g4, sl1.ext (x23.trans x4), s4, h4, fun b H5 S5 g5 x5 h5 => ?_⟩
  have x45 := x4.trans x5
  cases b with
  | false => exact iteF ⟨S5, acc, accV, g5, x23.trans x45, Reps.ext (x3.trans x45) _ _ r2, Nat.le_succ_of_le n2, h5⟩
  | true =>
    refine iteT ⟨δ', S5, _, _, ⟨g5, s4.ext x5, lk_no⟩, h5, fun v z H6 S6 g6 x6 r6 h6 => ?_⟩
    have x46 := x45.trans x6
    have r7 := Reps.ext (x3.trans x46) _ _ r2
    refine ⟨accV, g6.at, by rw [← r7.len]; omega, S6, acc ++ [z], accV ++ [v], g6.rehide, ?_, ?_, by rw [List.length_append]; exact Nat.succ_le_succ n2, h6⟩
    · rw [rehide_out (o := .lst accV)]
      exact x23.trans x46
    · rw [rehide_out (o := .lst accV)]
      exact Reps.pair.mpr (Paired.app (Reps.pair.mp r7) (.cons r6 .nil))
@[reducible] def dLcI (it : DTL) (g : DTG) (w : List Nat) (ti : DS → DTT) (te : DTE) : DTE := fun δ S q => dLc it g w (ti δ) te (fun l S' => q (.lst l) S') δ S
theorem lc_frozenI {it : DTL} {g : DTG} {ti : DS → DTT} {te : DTE} {vs : List Nat} {σ : L2.St} {H : Hp} {Q : VK} (h : tD K E e (dLcI it g vs ti te) σ H Q) : tLc (tDI K E e it) (tGw K vs g) (tDTI K ti σ) (tD K E0 noX te) vs σ H Q := by
  obtain ⟨δ, S, Z, q, t, h, k⟩ := h
  refine lc_runI (wi := tDI K E e it) t h fun D accV acc H' S' nz g x r q' => ?_
  refine k _ (.lst acc) _ S' (g.bare nz) (x.trans (bare_ext g nz)) ⟨D, accV, rfl, ?_, Reps.ext (bare_ext g nz) _ _ r⟩ q'
  rw [out_of g.noS nz]
  exact g.at
theorem de_lcI {elt tg iter : Expr} {ifs : List Expr} {scope : Scope} {own : List (Str × Nat)} {pos : Pos} {it : DTL} {g : DTG} {ti : DS → DTT} {te : DTE} (calm : X.calm = true) (hN : X.N.Nodup) (hi : PI X tg iter (tDI K E e it)) (ok : BlkOk X.N X.env.scope scope own)
    (hg : ∀ (s : Shared) (H : Hp) (C : Addr) (cl : List (Str × Addr)) (fp : List Addr), PG (X.blk s H scope (compEnvC scope cl C X.env) fp) tg (tGw K (snds own) g))
    (ht : ∀ (pins : List (Addr × Obj)) (σ : L2.St) (s : Shared) (H : Hp) (C : Addr) (cl : List (Str × Addr)) (fp : List Addr), Inv X pins σ H s → (∀ b ∈ fp, FpOk X pins H b) → PTs (X.blk s H scope (compEnvC scope cl C X.env) fp) ifs (tDTI K ti σ))
    (he : ∀ (s : Shared) (H : Hp) (C : Addr) (cl : List (Str × Addr)) (fp : List Addr), PE (X.blk s H scope (compEnvC scope cl C X.env) fp) elt (tD K E0 noX te)) (hs : ∀ x, foldedSetIterable iter X.env x = pure x := by intro _; rfl) :
    PE X (.ListComp elt [⟨tg, iter, ifs, 0⟩] scope pos) (tD K E e (dLcI it g (snds own) ti te)) := by
  rw [snds_eq] at hg ⊢
  exact PE.imp (pe_lcI calm hN hi ok hg ht he hs) fun σ H Q h => lc_frozenI h
/-- what is known of a lambda's captured cells -/
def CapD (X : Cx) (F : NF) (fr : List Str) (js : List Nat) : Prop := (∀ y ∈ F.scope.names, y.2 = .free → X.env.scope.names.lookup y.1 = some .cell ∨ X.env.scope.names.lookup y.1 = some .free) ∧ F.cl = cloFrom X.env.cells F.scope.names [] ∧ (∀ y ∈ fr, (y, NameKind.free) ∈ F.scope.names) ∧
  js.map (fun j => X.N[j]?) = fr.map some
/-- the test «told(f) != "X"» of a kept lambda that raises: it is not so -/
@[reducible] def dBad (X : Cx) (K : PySem.W.Frag) (k i : Nat) (CS : Addr) : DS → DTT := fun δ δ2 S q => ∃ F b fr js c, look δ2 i = some (.lam F b) ∧ (CapD X F fr js ∧ ∀ f, LOk X.prog X.w K X.mg X.base k f F b fr (spLD K c)) ∧ c (lookL δ js) S (fun _ _ => False) (fun C S' => C = CS ∧ q false S')
theorem ts_bad {pins : List (Addr × Obj)} {σ : L2.St} {s : Shared} {H : Hp} {fp : List Addr} (I : Inv X pins σ H s) (hfp : ∀ b ∈ fp, FpOk X pins H b) {scope : Scope} {cl : List (Str × Addr)} {C : Addr} (hK : X.K = K)
    {x a ee ret bn : Str} {g CS : Addr} {k i : Nat} {pg : Arguments} {sg : Scope} {dV kV doc pm cdv ct oc : Value} {an od : Option Addr} {osl : Array (Option Value)} {Ng : List Str} {j j2 : Nat} {p1 p2 p3 p4 p5 p6 p7 p8 p pb pos pos2 pos3 : Pos}
    (hg : Gl (X.blk s H scope (compEnvC scope cl C X.env) fp) x) (hm : X.mg x = some (.ref g)) (hk : PySem.W.keepIn X.K (.ref g) = true)
    (lk : X.K.lookup g = some ⟨oc, od, .func (PySem.W.fnOf x x pg [.Try [.Return (some (.Call (.Name a p1) [] [] p2)) p3] [.ExceptHandler (some (.Name ee p4)) none [.Return (some (.Constant (.str ret) j p5)) p6] p7] [] [] p8] sg dV kV doc pm an cdv ct), osl⟩) (hcg : PySem.W.codeIn X.K cdv x = true)
    (hb : L2.Binds X.K (PySem.W.fnOf x x pg [.Try [.Return (some (.Call (.Name a p1) [] [] p2)) p3] [.ExceptHandler (some (.Name ee p4)) none [.Return (some (.Constant (.str ret) j p5)) p6] p7] [] [] p8] sg dV kV doc pm an cdv ct) [a] []) (Sg : FnScope Ng [a] sg) (hNg : Ng[0]? = some a) (hva : Vis sg a)
    (hge : sg.names.lookup ee = some .globalImplicit) (hme : X.mg ee = some (.ref CS)) (exm : PySem.W.exmOne K (.ref CS) (.ref CS) = some true) (hde : (ee == ("__debug__" : Str)) = false) (h0 : ∀ f : Addr, (L2.start Ng [V.ref f])[0]? = some (some (V.ref f))) (hr : Room (k + 1) X.A)
    (hN : X.N[i]? = some bn) (hv : Vis (compEnvC scope cl C X.env).scope bn) (hdb : (x == ("__debug__" : Str)) = false := by decide) (hbd : (bn == ("__debug__" : Str)) = false := by decide) (hbc : (bn == ("__classdict__" : Str)) = false := by decide) (hd : (a == ("__debug__" : Str)) = false := by decide) (hcd : (a == ("__classdict__" : Str)) = false := by decide) :
    PTs (X.blk s H scope (compEnvC scope cl C X.env) fp) [.Compare (.Call (.Name x p) [.Name bn pb] [] pos) [.NotEq] [.Constant (.str ret) j2 pos2] pos3] (tDTI K (dBad X K k i CS) σ) := by
  subst hK
  have D := pt_cmpR (pos := pos3) op_ne (pe_toldL (X := X.blk s H scope (compEnvC scope cl C X.env) fp) (CP := CapP X σ) (k := k) (i := i) (g := g) (Ng := Ng) (p := p) (pb := pb) (pos := pos) (capP_ok I hfp) hg hm hk lk hcg hb Sg hNg hva hge hme hde h0 hr hN hv hdb hbd hbc hd hcd) (pe_str (x := ret) (j := j2) (pos := pos2)) (nomark _)
  refine pts_one (PT.imp D fun σ2 H2 Q h => ?_)
  obtain ⟨δ, δ2, S, Z, q, gd, sl, sl2, ⟨F, b, fr, js, c, lf, ⟨⟨c1, c2, c3, c4⟩, L⟩, hc⟩, kk⟩ := h
  obtain ⟨v, hv1, rv⟩ := sl2.look lf
  obtain ⟨f, rfl, hf, hcode⟩ := rv
  refine g_test (g_op ⟨f, F, b, fr, _, _, hv1, ⟨js, c1, c2, c3, c4, rfl⟩, L f, out_le hf, out_le hcode, ?_⟩)
  refine ⟨_, S, Z, _, (fun C' S' => C' = CS ∧ q false S'), gd, slotAt_slots sl js, ?_, hc, fun _ _ _ _ _ _ _ z => z.elim⟩
  intro C' H' S' g' x' hq
  obtain ⟨rfl, hq⟩ := hq
  refine ⟨true, exm, fun _ => ?_, fun z => by cases z⟩
  show rNe (.str ret) (.str ret) H' (fun x H'' => ∃ k, x = .bl k ∧ Q k H'')
  refine g_neS ⟨false, by rw [decide_eq_true rfl]; rfl, ?_⟩
  exact kk false H' S' g' x' hq
end
/-- the parts of a lambda -/
def laB : Expr → Expr
  | .Lambda _ b _ _ => b
  | e => e
def laS (d : Scope) : Expr → Scope
  | .Lambda _ _ s _ => s
  | _ => d
def laP (d : Arguments) : Expr → Arguments
  | .Lambda p _ _ _ => p
  | _ => d
def listE : Stmt → List Expr
  | .Assign _ (.List es _) _ => es
  | _ => []
end Dn

/-! the law's call -/
namespace Dn
open PySem PySem.Spec PyProof.Rows L2 Pr LamX NdefX
/-- what stands in the store at the law's begin: tables -/
def tabS (T : List (Addr × Cell)) : Store := fun b => (T.find? fun p => decide (p.1 = b)).map (·.2)
theorem tabS_mem {T : List (Addr × Cell)} {b : Addr} {c : Cell} (h : tabS T b = some c) : (b, c) ∈ T := by
  unfold tabS at h
  cases e : T.find? fun p => decide (p.1 = b) with
  | none => rw [e] at h; cases h
  | some p =>
    rw [e] at h
    cases h
    have h1 := List.mem_of_find?_eq_some e
    have h2 : p.1 = b := by simpa using List.find?_some e
    rw [← h2]
    exact h1
theorem tabS_at {T : List (Addr × Cell)} (nd : (T.map (·.1)).Nodup) : ∀ p ∈ T, tabS T p.1 = some p.2 := by
  unfold tabS
  induction T with
  | nil => intro p h; cases h
  | cons x r ih =>
    intro p hp
    rw [List.map_cons, List.nodup_cons] at nd
    rw [List.find?_cons]
    rcases List.mem_cons.mp hp with rfl | hp
    · rw [decide_eq_true rfl]; rfl
    · have n : ¬ x.1 = p.1 := fun e => nd.1 (by rw [e]; exact List.mem_map.mpr ⟨p, hp, rfl⟩)
      rw [decide_eq_false n]
      exact ih nd.2 p hp
theorem law_start {K : PySem.W.Frag} {T : List (Addr × Cell)} {H : Hp} {a : Addr} {ns : List Int} {c : DSp} (hT : ∀ p ∈ T, H p.1 = some (.tbl #[]) ∧ ((∃ q, p.2 = .tbl q) ∨ p.2 = .gtb)) (hS : SqL K H a (ns.map V.int))
    (h : ∀ (q : DK), (∀ S', q (.bl true) S') → c [.scr ns] (tabS T) q noX) : spD K c [.ref a] H (fun v _ => v = .bl true) (fun _ _ _ => False) := by
  refine ⟨[.scr ns], tabS T, fun _ => none, fun v _ => v = .bl true, noX, ⟨fun b o z => (by cases z), fun b x hx => ?_⟩, ?_, lk_no, h _ fun _ => rfl, fun v d H' S' g x r q => ?_⟩
  · obtain ⟨h1, h2⟩ := hT _ (tabS_mem hx)
    rcases h2 with ⟨q, h2⟩ | h2
    · rw [show x = .tbl q from h2]
      exact ⟨_, h1, #[], rfl, trivial, fun pos cv z => by cases z⟩
    · rw [show x = .gtb from h2]
      exact ⟨_, h1, #[], rfl, trivial, fun pos cv z => by cases z⟩
  · refine ⟨.ref a, [], rfl, ⟨a, rfl, ?_⟩, rfl⟩
    have free : ∀ o, H a = some o → (∀ ps, o ≠ .tbl ps) → out H (tabS T) (fun _ => none) a = some o := fun o ho n => by
      refine (out_of ?_ rfl).trans ho
      cases e : tabS T a with
      | none => rfl
      | some x =>
        have := (hT _ (tabS_mem e)).1
        rw [ho] at this
        exact absurd (Option.some.inj this) (n _)
    rcases hS with (z | ⟨o, z⟩) | z
    · exact .inl (.inl (free _ z fun ps e => by cases e))
    · exact .inl (.inr ⟨o, free _ z fun ps e => by cases e⟩)
    · exact .inr z
  · rw [show d = .bl true from q] at r
    exact r
theorem tab_at {K : PySem.W.Frag} {base : Heap} {mg : Str → Option Value} {p : Str × Option Str} {oc : Value} {od : Option Addr} {osl : Array (Option Value)} {fd : FuncData} {c : Addr} (lk : K.lookup (He.fAd K p) = some ⟨oc, od, .func fd, osl⟩) (TB : TabB base mg (He.cT K p).1 (He.cT K p).2) (e : fd.code = .ref c) : TabB base mg c (He.cT K p).2 := by
  have e1 : He.codeOf K p = c := He.codeOf_eq (p := p) lk e
  rw [show (He.cT K p).1 = c from e1] at TB
  exact TB
end Dn

/-! any, all, tuple over generator expressions -/
namespace Dn
open PySem PySem.Spec PyProof.Rows L2 Pr LamX NdefX
section
variable {K : PySem.W.Frag} {Z H H1 : Hp} {S : Store} {P : Addr}
theorem good_gtb (g : Good K Z H S) (hS : S P = some .gtb) {code : Value} (x : GrowK P H H1 code) : Good K Z H1 S ∧ Ext (out H S Z) (out H1 S Z) ∧ ∃ c P', code = .ref c ∧ Rep K (out H1 S Z) (.gco c P') (.ref c) := by
  obtain ⟨⟨ps, t1, t2, t3⟩, ⟨c, P', rfl, c1, c2⟩, x⟩ := x
  have nP : ∀ φ, H1 P ≠ some (.ext φ) := fun φ z => by rw [t1] at z; cases z
  obtain ⟨g1, e1⟩ := good_only g x hS fun _ => ⟨_, t1, ps, rfl, t2, fun pos cv hcv => by
    obtain ⟨c', P'', e1, e2, e3⟩ := t3 pos cv hcv
    exact ⟨c', P'', e1, out_ext g x nP e2, out_ext g x nP e3⟩⟩
  exact ⟨g1, e1, c, P', rfl, rfl, out_ext g x nP c1, out_ext g x nP c2⟩
theorem tabK_of (g : Good K Z H S) (hS : S P = some .gtb) : TabK H P := by
  obtain ⟨o, h1, ps, rfl, h2, h3⟩ := g.c _ _ hS
  exact ⟨ps, h1, h2, fun pos cv hc => by
    obtain ⟨c, P', e1, e2, e3⟩ := h3 pos cv hc
    exact ⟨c, P', e1, out_le e2, out_le e3⟩⟩
end
/-- the slot that keeps the code object -/
@[reducible] def gho : Option Nat → Dt → DS → DS
  | some i, d, δ => putS δ i d
  | none, _, δ => δ
theorem wipe_ghost {σ : L2.St} {vs : List Nat} {ig : Option Nat} {code : Value} (h : ∀ i, ig = some i → i ∉ vs) : wipe (ghost ig code (wipe σ vs)) vs = ghost ig code (wipe σ vs) := by
  have comm : ∀ (ws : List Nat) (τ : L2.St) (i : Nat) (x : Option V), i ∉ ws → wipe (τ.set i x) ws = (wipe τ ws).set i x := fun ws τ i x hi => by
    induction ws with
    | nil => rfl
    | cons w ws ih =>
      show (wipe (τ.set i x) ws).set w none = ((wipe τ ws).set w none).set i x
      rw [ih (fun m => hi (List.mem_cons_of_mem _ m)), List.set_comm _ _ (fun z => hi (by rw [z]; exact List.mem_cons_self))]
  unfold ghost
  split
  · rename_i i c
    rw [comm vs _ i _ (h i rfl), lc_run.wipe_wipe]
  · exact lc_run.wipe_wipe
theorem slots_gho {K : PySem.W.Frag} {G : Hp} {σ : L2.St} {δ : DS} (h : Slots K G σ δ) {ig : Option Nat} {c P : Addr} (r : Rep K G (.gco c P) (.ref c)) : Slots K G (ghost ig (.ref c) σ) (gho ig (.gco c P) δ) := by
  cases ig with
  | none => exact h
  | some i => exact h.put r
@[reducible] def stopIf (stop k : Bool) (A B : Prop) : Prop := match stop with
  | true => Ift k A B
  | false => Ift k B A
/-- the turns of any (stop = true), all -/
def dAnyT (δw : DS) (stop : Bool) (g : DTG) (tt : DTT) (te : DTE) (l : List Dt) (keep : Store → Prop) (q : DK) (S1 : Store) : Prop := ∃ I : Nat → Store → Prop, I 0 S1 ∧ (∀ i S, i ≤ l.length → I i S → keep S) ∧
  (∀ i d S, l[i]? = some d → I i S → g d δw S fun δ' S' => tt δ' S' fun b S2 => Ift b (te δ' S2 fun y S3 => ∃ k, y = .bl k ∧ stopIf stop k (q (.bl stop) S3) (I (i + 1) S3)) (I (i + 1) S2)) ∧ ∀ S, I l.length S → q (.bl (!stop)) S
/-- the turns of tuple -/
def dTupT (δw : DS) (g : DTG) (tt : DTT) (te : DTE) (l : List Dt) (keep : Store → Prop) (q : DK) (S1 : Store) : Prop := l.length < sizeLine ∧ ∃ I : Nat → List Dt → Store → Prop, I 0 [] S1 ∧ (∀ i acc S, i ≤ l.length → I i acc S → keep S) ∧
  (∀ i d acc S, l[i]? = some d → I i acc S → g d δw S fun δ' S' => tt δ' S' fun b S2 => Ift b (te δ' S2 fun y S3 => I (i + 1) (acc ++ [y]) S3) (I (i + 1) acc S2)) ∧ ∀ acc S, I l.length acc S → q (.tup acc) S
section
variable {K : PySem.W.Frag}
theorem any_turns {J : It} {l : List Dt} {keep : Store → Prop} {Z H2 : Hp} {S1 : Store} {σw : L2.St} {δw : DS} {vs : List Nat} {g : DTG} {tt : DTT} {te : DTE} {q : DK} {Q : VK} {stop : Bool} {G0 : Hp} (ok : ItOk K G0 J l keep) (x0 : Ext G0 (out H2 S1 Z)) (gd : Good K Z H2 S1) (sl : Slots K (out H2 S1 Z) σw δw) (hw : wipe σw vs = σw)
    (h : dAnyT δw stop g tt te l keep q S1) (k : Ty K Z H2 S1 q Q) : ∃ W : Nat → Nat → Hp → Prop, (∃ m, W 0 m H2) ∧ TnW J (tGw K vs g) (tDT K E0 noX tt) (tD K E0 noX te) vs σw (fun y H4 Nx => ∃ b, y = .bl b ∧ if b = stop then Q (.bl stop) H4 else Nx H4) (Q (.bl (!stop))) W := by
  obtain ⟨I, h0, hk, hs, hd⟩ := h
  refine ⟨fun i m H => m = l.length - i ∧ i ≤ l.length ∧ ∃ S, Good K Z H S ∧ Ext (out H2 S1 Z) (out H S Z) ∧ I i S, ⟨_, rfl, Nat.zero_le _, S1, gd, Ext.refl, h0⟩, fun i m H ⟨hm, hi, S, g1, x1, q1⟩ => ?_⟩
  by_cases e : i = l.length
  · subst e
    exact .inl ⟨ok.stop Z H S g1 (x0.trans x1) (hk _ S hi q1), k (.bl (!stop)) (.bl (!stop)) H S g1 x1 rfl (hd S q1)⟩
  · have hi2 : i < l.length := by omega
    refine .inr ⟨ok.go Z i H S g1 (x0.trans x1) (hk i S hi q1) hi2, fun H' => ∃ S', Good K Z H' S' ∧ Ext (out H2 S1 Z) (out H' S' Z) ∧ I (i + 1) S', fun H' ⟨S', g', x', q'⟩ => ⟨l.length - (i + 1), by omega, rfl, by omega, S', g', x', q'⟩, fun x H' y => ?_⟩
    obtain ⟨d, e1, g3, x3, r3⟩ := ok.yld Z i H S x H' g1 (x0.trans x1) (hk i S hi q1) hi2 y
    have x13 := x1.trans x3
    refine ⟨d, δw, S, Z, _, g3, sl.ext x13, r3, hs i d S e1 q1, fun σ' δ' H4 S4 w4 g4 x4 s4 h4 => ⟨w4.trans hw, δ', S4, Z, _, ⟨g4, s4, lk_no⟩, h4, fun b H5 S5 g5 x5 h5 => ?_⟩⟩
    have x15 := x13.trans (x4.trans x5)
    cases b with
    | false => exact iteF ⟨S5, g5, x15, h5⟩
    | true =>
      refine iteT ⟨δ', S5, Z, _, ⟨g5, s4.ext x5, lk_no⟩, h5, fun v z H6 S6 g6 x6 r6 h6 => ?_⟩
      obtain ⟨b, rfl, h6⟩ := h6
      refine ⟨b, r6, ?_⟩
      have x16 := x15.trans x6
      cases stop <;> cases b
      · rw [if_pos rfl]
        exact k (.bl false) (.bl false) H6 S6 g6 x16 rfl h6
      · rw [if_neg (by decide)]
        exact ⟨S6, g6, x16, h6⟩
      · rw [if_neg (by decide)]
        exact ⟨S6, g6, x16, h6⟩
      · rw [if_pos rfl]
        exact k (.bl true) (.bl true) H6 S6 g6 x16 rfl h6
theorem tup_turns {J : It} {l : List Dt} {keep : Store → Prop} {Z H2 : Hp} {S1 : Store} {σw : L2.St} {δw : DS} {vs : List Nat} {g : DTG} {tt : DTT} {te : DTE} {q : DK} {Q : VK} {G0 : Hp} (ok : ItOk K G0 J l keep) (x0 : Ext G0 (out H2 S1 Z)) (gd : Good K Z H2 S1) (sl : Slots K (out H2 S1 Z) σw δw) (hw : wipe σw vs = σw)
    (h : dTupT δw g tt te l keep q S1) (k : Ty K Z H2 S1 q Q) (D : Addr) (nD : H2 D = none) : ∃ W : Nat → Nat → Hp → Prop, (∃ m, W 0 m (upd H2 D (.lst []))) ∧ TnW J (tGw K vs g) (tDT K E0 noX tt) (tD K E0 noX te) vs σw (CTup D) (fun H4 => ∃ xs, H4 D = some (.lst xs) ∧ ∀ p, H4 p = none → Q (.ref p) (upd H4 p (.tup xs))) W := by
  obtain ⟨hl, I, h0, hk, hs, hd⟩ := h
  have nZ := gd.nZ nD
  refine ⟨fun i m H => m = l.length - i ∧ i ≤ l.length ∧ ∃ S acc accV, Good K (upd Z D (.lst accV)) H S ∧ Ext (out H2 S1 Z) (out H S (upd Z D (.lst accV))) ∧ Reps K (out H S (upd Z D (.lst accV))) acc accV ∧ acc.length ≤ i ∧ I i acc S,
    ⟨_, rfl, Nat.zero_le _, S1, [], [], gd.hide nD, by rw [hide_out gd nD]; exact Ext.refl, rfl, Nat.le_refl _, h0⟩, fun i m H ⟨hm, hi, S, acc, accV, g1, x1, r1, n1, q1⟩ => ?_⟩
  by_cases e : i = l.length
  · subst e
    refine .inl ⟨ok.stop _ H S g1 (x0.trans x1) (hk _ acc S hi q1), accV, g1.at, fun p np => ?_⟩
    have nDp : D ≠ p := ne_of_none g1.at np
    have gb := g1.bare nZ
    have xb := x1.trans (bare_ext g1 nZ)
    have rb := Reps.ext (bare_ext g1 nZ) _ _ r1
    exact k (.ref p) (.tup acc) _ S (gb.new np) (xb.trans (ext_new gb np)) ⟨p, accV, rfl, SqT.of (out_new gb np), Reps.ext (ext_new gb np) _ _ rb⟩ (hd acc S q1)
  · have hi2 : i < l.length := by omega
    refine .inr ⟨ok.go _ i H S g1 (x0.trans x1) (hk i acc S hi q1) hi2, fun H' => ∃ S' acc' accV', Good K (upd Z D (.lst accV')) H' S' ∧ Ext (out H2 S1 Z) (out H' S' (upd Z D (.lst accV'))) ∧ Reps K (out H' S' (upd Z D (.lst accV'))) acc' accV' ∧ acc'.length ≤ i + 1 ∧ I (i + 1) acc' S',
      fun H' ⟨S', acc', accV', z⟩ => ⟨l.length - (i + 1), by omega, rfl, by omega, S', acc', accV', z⟩, fun x H' y => ?_⟩
    obtain ⟨d, e1, g3, x3, r3⟩ := ok.yld _ i H S x H' g1 (x0.trans x1) (hk i acc S hi q1) hi2 y
    have x13 := x1.trans x3
    refine ⟨d, δw, S, _, _, g3, sl.ext x13, r3, hs i d acc S e1 q1, fun σ' δ' H4 S4 w4 g4 x4 s4 h4 => ⟨w4.trans hw, δ', S4, _, _, ⟨g4, s4, lk_no⟩, h4, fun b H5 S5 g5 x5 h5 => ?_⟩⟩
    have x45 := x4.trans x5
    cases b with
    | false => exact iteF ⟨S5, acc, accV, g5, x13.trans x45, Reps.ext (x3.trans x45) _ _ r1, Nat.le_succ_of_le n1, h5⟩
    | true =>
      refine iteT ⟨δ', S5, _, _, ⟨g5, s4.ext x5, lk_no⟩, h5, fun v z H6 S6 g6 x6 r6 h6 => ?_⟩
      have x46 := x45.trans x6
      have r7 := Reps.ext (x3.trans x46) _ _ r1
      refine ⟨accV, g6.at, by rw [← r7.len]; omega, S6, acc ++ [z], accV ++ [v], g6.rehide, ?_, ?_, by rw [List.length_append]; exact Nat.succ_le_succ n1, h6⟩
      · rw [rehide_out (o := .lst accV)]
        exact x13.trans x46
      · rw [rehide_out (o := .lst accV)]
        exact Reps.pair.mpr (Paired.app (Reps.pair.mp r7) (.cons r6 .nil))
end
/-! rules: at the top of a def (its table P), and within another generator expression (slot iq keeps the code object) -/
@[reducible] def dAnyG (P : Addr) (ig : Option Nat) (stop : Bool) (it : DTL) (g : DTG) (w : List Nat) (tt : Value → DTT) (te : Value → DTE) : DTE := fun δ S q => it δ S fun l keep S1 => S1 P = some .gtb ∧ ∀ c P', dAnyT (gho ig (.gco c P') (wipesS δ w)) stop g (tt (.ref c)) (te (.ref c)) l keep q S1
@[reducible] def dTupG (P : Addr) (ig : Option Nat) (it : DTL) (g : DTG) (w : List Nat) (tt : Value → DTT) (te : Value → DTE) : DTE := fun δ S q => it δ S fun l keep S1 => S1 P = some .gtb ∧ ∀ c P', dTupT (gho ig (.gco c P') (wipesS δ w)) g (tt (.ref c)) (te (.ref c)) l keep q S1
@[reducible] def dAnyI (iq : Nat) (code : Value) (stop : Bool) (it : DTL) (g : DTG) (w : List Nat) (tt : DTT) (te : DTE) : DTE := fun δ S q => (∃ c P, look δ iq = some (.gco c P) ∧ code = .ref c) ∧ it δ S fun l keep S1 => dAnyT (wipesS δ w) stop g tt te l keep q S1
@[reducible] def dTupI (iq : Nat) (code : Value) (it : DTL) (g : DTG) (w : List Nat) (tt : DTT) (te : DTE) : DTE := fun δ S q => (∃ c P, look δ iq = some (.gco c P) ∧ code = .ref c) ∧ it δ S fun l keep S1 => dTupT (wipesS δ w) g tt te l keep q S1
section
variable {X : Cx} {K : PySem.W.Frag} {E : XK} {e : DX} {elt tg iter : Expr} {ifs : List Expr} {scope : Scope} {gpos p pos : Pos} {own : List (Str × Nat)} {it : DTL} {g : DTG} {tt : Value → DTT} {te : Value → DTE} {ti : DTT} {ei : DTE} {k : Nat} {ig : Option Nat} {P0 P c iq : Addr} {nm : Str} {stop : Bool}
/-- the body's parts over deep values -/
structure GnP (X : Cx) (K : PySem.W.Frag) (k : Nat) (scope : Scope) (vs : List Nat) (elt tg : Expr) (ifs : List Expr) (g : DTG) (tt : Value → DTT) (te : Value → DTE) : Prop where
  g : ∀ (s : Shared) (H : Hp) (A' : Around) (cl : List (Str × Addr)) (L : Addr) (code : Value) (fp : List Addr), Room k A' → PG (gnC X s H A' (genEnv scope cl L code builtinsNs X.env) fp) tg (tGw K vs g)
  t : ∀ (s : Shared) (H : Hp) (A' : Around) (cl : List (Str × Addr)) (L : Addr) (code : Value) (fp : List Addr), Room k A' → PTs (gnC X s H A' (genEnv scope cl L code builtinsNs X.env) fp) ifs (tDT K E0 noX (tt code))
  e : ∀ (s : Shared) (H : Hp) (A' : Around) (cl : List (Str × Addr)) (L : Addr) (code : Value) (fp : List Addr), Room k A' → PE (gnC X s H A' (genEnv scope cl L code builtinsNs X.env) fp) elt (tD K E0 noX (te code))
theorem GnP.parts {vs : List Nat} (h : GnP X K k scope vs elt tg ifs g tt te) : GnParts X k scope elt tg ifs (tGw K vs g) (fun c => tDT K E0 noX (tt c)) (fun c => tD K E0 noX (te c)) := ⟨h.g, h.t, h.e⟩
theorem de_anyG (hK : X.K = K) (hnm : (nm = "any" ∧ stop = true) ∨ (nm = "all" ∧ stop = false)) (hr : Room (k + 3) X.A) (hgl : Gl X nm) (hm : X.mg nm = none) (TB : TabB X.base X.mg c P) (hcode : X.env.code = .ref c) (hN : X.N.Nodup) (ok : gnB X.N X.env.scope scope own = true)
    (hig : ∀ i, ig = some i → i ∉ snds own ∧ ∀ x, X.N[i]? = some x → ¬ Vis scope x) (hi : PI X tg iter (tDI K E e it)) (hs : ∀ v, genFold iter X.env v = pure v) (pt : GnP X K k scope (snds own) elt tg ifs g tt te)
    (hst : starEach [.GeneratorExp elt [⟨tg, iter, ifs, 0⟩] scope gpos] X.env = (false, eval (.GeneratorExp elt [⟨tg, iter, ifs, 0⟩] scope gpos) X.env) :: starEach [] X.env := by rfl) :
    PE X (.Call (.Name nm p) [.GeneratorExp elt [⟨tg, iter, ifs, 0⟩] scope gpos] [] pos) (tD K E e (dAnyG P ig stop it g (snds own) tt te)) := by
  subst hK
  refine PE.imp (pe_gnAny (ig := ig) (own := own) stop nm hnm hr hgl hm TB.bm (codeStep_top hcode TB.code) hN (gnOk_by ok) (fun i e => (hig i e).2) hi hs pt.parts hst) fun σ H Q h => ?_
  obtain ⟨δ, S, Z, q, t, h, kk⟩ := h
  refine ⟨δ, S, Z, _, t, h, fun l keep H1 S1 J g1 x1 ok' h1 => ?_⟩
  obtain ⟨hP, h1⟩ := h1
  refine ⟨tabK_of g1 hP, fun H2 code gr => ?_⟩
  obtain ⟨g2, x2, c', P', rfl, rc⟩ := good_gtb g1 hP gr
  have sl := slots_gho (ig := ig) (slots_wipes (t.sl.ext (x1.trans x2)) (snds own)) rc
  rw [← snds_eq]
  exact any_turns ok' x2 g2 sl (wipe_ghost fun i e => (hig i e).1) (h1 c' P') (kk.ext (x1.trans x2))
theorem de_tupG (hK : X.K = K) (hr : Room (k + 3) X.A) (hgl : Gl X "tuple") (hm : X.mg "tuple" = none) (TB : TabB X.base X.mg c P) (hcode : X.env.code = .ref c) (hN : X.N.Nodup) (ok : gnB X.N X.env.scope scope own = true)
    (hig : ∀ i, ig = some i → i ∉ snds own ∧ ∀ x, X.N[i]? = some x → ¬ Vis scope x) (hi : PI X tg iter (tDI K E e it)) (hs : ∀ v, genFold iter X.env v = pure v) (pt : GnP X K k scope (snds own) elt tg ifs g tt te)
    (hst : starEach [.GeneratorExp elt [⟨tg, iter, ifs, 0⟩] scope gpos] X.env = (false, eval (.GeneratorExp elt [⟨tg, iter, ifs, 0⟩] scope gpos) X.env) :: starEach [] X.env := by rfl) :
    PE X (.Call (.Name "tuple" p) [.GeneratorExp elt [⟨tg, iter, ifs, 0⟩] scope gpos] [] pos) (tD K E e (dTupG P ig it g (snds own) tt te)) := by
  subst hK
  refine PE.imp (pe_gnTup (ig := ig) (own := own) hr hgl hm TB.bm (codeStep_top hcode TB.code) hN (gnOk_by ok) (fun i e => (hig i e).2) hi hs pt.parts hst) fun σ H Q h => ?_
  obtain ⟨δ, S, Z, q, t, h, kk⟩ := h
  refine ⟨δ, S, Z, _, t, h, fun l keep H1 S1 J g1 x1 ok' h1 => ?_⟩
  obtain ⟨hP, h1⟩ := h1
  refine ⟨tabK_of g1 hP, fun H2 code gr D nD => ?_⟩
  obtain ⟨g2, x2, c', P', rfl, rc⟩ := good_gtb g1 hP gr
  have sl := slots_gho (ig := ig) (slots_wipes (t.sl.ext (x1.trans x2)) (snds own)) rc
  rw [← snds_eq]
  exact tup_turns ok' x2 g2 sl (wipe_ghost fun i e => (hig i e).1) (h1 c' P') (kk.ext (x1.trans x2)) D nD
theorem de_anyI {code : Value} {iq : Nat} (hK : X.K = K) (hnm : (nm = "any" ∧ stop = true) ∨ (nm = "all" ∧ stop = false)) (hr : Room (k + 3) X.A) (hgl : Gl X nm) (hm : X.mg nm = none) (hbm : X.base.BuiltinsAt X.mg P0) (hcode : X.env.code = code) (hN : X.N.Nodup) (ok : gnB X.N X.env.scope scope own = true)
    (hi : PI X tg iter (tDI K E e it)) (hs : ∀ v, genFold iter X.env v = pure v) (pt : GnP X K k scope (snds own) elt tg ifs g (fun _ => ti) (fun _ => ei))
    (hst : starEach [.GeneratorExp elt [⟨tg, iter, ifs, 0⟩] scope gpos] X.env = (false, eval (.GeneratorExp elt [⟨tg, iter, ifs, 0⟩] scope gpos) X.env) :: starEach [] X.env := by rfl) :
    PE X (.Call (.Name nm p) [.GeneratorExp elt [⟨tg, iter, ifs, 0⟩] scope gpos] [] pos) (tD K E e (dAnyI iq code stop it g (snds own) ti ei)) := by
  subst hK
  refine PE.imp (pe_gnAny (ig := none) (own := own) stop nm hnm hr hgl hm hbm codeStep_in hN (gnOk_by ok) (fun i e => by cases e) hi hs pt.parts hst) fun σ H Q h => ?_
  obtain ⟨δ, S, Z, q, t, ⟨⟨c, P, hl, ec⟩, h⟩, kk⟩ := h
  obtain ⟨v, _, rv, rc, rP⟩ := t.sl.look hl
  refine ⟨δ, S, Z, _, t, h, fun l keep H1 S1 J g1 x1 ok' h1 => ?_⟩
  refine ⟨⟨c, P, hcode.trans ec, out_le (x1.still rc trivial), out_le (x1.still rP trivial)⟩, fun H2 code gr => ?_⟩
  subst gr
  have sl := slots_wipes (t.sl.ext x1) (snds own)
  rw [← snds_eq]
  exact any_turns ok' Ext.refl g1 sl lc_run.wipe_wipe h1 (kk.ext x1)
theorem de_tupI {code : Value} {iq : Nat} (hK : X.K = K) (hr : Room (k + 3) X.A) (hgl : Gl X "tuple") (hm : X.mg "tuple" = none) (hbm : X.base.BuiltinsAt X.mg P0) (hcode : X.env.code = code) (hN : X.N.Nodup) (ok : gnB X.N X.env.scope scope own = true)
    (hi : PI X tg iter (tDI K E e it)) (hs : ∀ v, genFold iter X.env v = pure v) (pt : GnP X K k scope (snds own) elt tg ifs g (fun _ => ti) (fun _ => ei))
    (hst : starEach [.GeneratorExp elt [⟨tg, iter, ifs, 0⟩] scope gpos] X.env = (false, eval (.GeneratorExp elt [⟨tg, iter, ifs, 0⟩] scope gpos) X.env) :: starEach [] X.env := by rfl) :
    PE X (.Call (.Name "tuple" p) [.GeneratorExp elt [⟨tg, iter, ifs, 0⟩] scope gpos] [] pos) (tD K E e (dTupI iq code it g (snds own) ti ei)) := by
  subst hK
  refine PE.imp (pe_gnTup (ig := none) (own := own) hr hgl hm hbm codeStep_in hN (gnOk_by ok) (fun i e => by cases e) hi hs pt.parts hst) fun σ H Q h => ?_
  obtain ⟨δ, S, Z, q, t, ⟨⟨c, P, hl, ec⟩, h⟩, kk⟩ := h
  obtain ⟨v, _, rv, rc, rP⟩ := t.sl.look hl
  refine ⟨δ, S, Z, _, t, h, fun l keep H1 S1 J g1 x1 ok' h1 => ?_⟩
  refine ⟨⟨c, P, hcode.trans ec, out_le (x1.still rc trivial), out_le (x1.still rP trivial)⟩, fun H2 code gr D nD => ?_⟩
  subst gr
  have sl := slots_wipes (t.sl.ext x1) (snds own)
  rw [← snds_eq]
  exact tup_turns ok' Ext.refl g1 sl lc_run.wipe_wipe h1 (kk.ext x1) D nD
end
end Dn

/-! texts' methods, f-strings, int and str -/
namespace Dn
open PySem PySem.Spec PyProof.Rows L2 Pr LamX NdefX
open PySem.Builtin.Str (strSub partsBetween glued)
theorem SOk.strSub {a : Str} (h : SOk a) (i j : Nat) : SOk (Builtin.Str.strSub a i j) := by
  have e := StrLaws.strSub_toList a i j
  refine h.sub (fun c hc => ?_) ?_
  · rw [e] at hc
    exact List.mem_of_mem_drop (List.mem_of_mem_take hc)
  · rw [len_cps, len_cps, e]
    rw [List.length_take, List.length_drop]
    omega
theorem SOk.partition {a b : Str} (ha : SOk a) (hb : SOk b) : SOk (Txt.partition a b).1 ∧ SOk (Txt.partition a b).2.1 ∧ SOk (Txt.partition a b).2.2 := by
  unfold Txt.partition
  split
  · exact ⟨ha.strSub _ _, hb, ha.strSub _ _⟩
  · exact ⟨ha, SOk.empty, SOk.empty⟩
theorem SOk.parts {a : Str} (h : SOk a) (cuts : List Nat) (w : Nat) : ∀ x ∈ Builtin.Str.partsBetween a cuts w, SOk x := fun x hx => by
  unfold Builtin.Str.partsBetween at hx
  obtain ⟨p, _, rfl⟩ := List.mem_map.mp hx
  exact h.strSub _ _
theorem SOk.split {a : Str} (h : SOk a) (b : Str) : ∀ x ∈ Txt.split a b, SOk x := fun x hx => by
  unfold Txt.split at hx
  split at hx
  · rw [List.mem_singleton.mp hx]; exact h
  · split at hx
    · rw [List.mem_singleton.mp hx]; exact h
    · exact h.parts _ _ x hx
theorem SOk.strip {a : Str} (h : SOk a) : SOk (Txt.strip a) := by
  unfold Txt.strip Txt.stripBy
  split
  · exact h
  · exact h.strSub _ _
theorem SOk.words {a : Str} (h : SOk a) : ∀ x ∈ Txt.words a, SOk x := fun x hx => by
  unfold Txt.words at hx
  split at hx
  · rw [List.mem_singleton.mp hx]; exact h
  · unfold wordsOf at hx
    obtain ⟨p, _, rfl⟩ := List.mem_map.mp hx
    exact h.strSub _ _
section
variable {K : PySem.W.Frag} {Z H : Hp} {S : Store}
theorem reps_strs {G : Hp} : ∀ {ys : List Str}, (∀ y ∈ ys, SOk y) → Reps K G (ys.map Dt.str) (ys.map V.str)
  | [], _ => rfl
  | y :: r, h => ⟨.str y, r.map V.str, rfl, ⟨rfl, h y List.mem_cons_self⟩, reps_strs fun z hz => h z (List.mem_cons_of_mem _ hz)⟩
theorem strs_of {G : Hp} : ∀ {ys : List Str} {vs : List V}, Reps K G (ys.map Dt.str) vs → vs = ys.map V.str ∧ ∀ y ∈ ys, SOk y
  | [], vs, h => ⟨h, fun y hy => by cases hy⟩
  | y :: r, vs, h => by
    obtain ⟨v, w, rfl, h1, h2⟩ := h
    obtain ⟨rfl, h3⟩ := strs_of (ys := r) h2
    rw [h1.1]
    exact ⟨rfl, fun z hz => (List.mem_cons.mp hz).elim (fun e => by rw [e]; exact h1.2) (h3 z)⟩
end
/-! readings -/
@[reducible] def rmPartition : DMr := fun x ds S q => match x, ds with
  | .str a, [.str b] => (b.length == 0) = false ∧ q (.tup [.str (Txt.partition a b).1, .str (Txt.partition a b).2.1, .str (Txt.partition a b).2.2]) S
  | _, _ => False
@[reducible] def rmSplit1 : DMr := fun x ds S q => match x, ds with
  | .str a, [.str b] => (b.length == 0) = false ∧ a.length + 2 ≤ sizeLine ∧ q (.lst ((Txt.split a b).map Dt.str)) S
  | _, _ => False
@[reducible] def rmSplit0 : DMr := fun x ds S q => match x, ds with
  | .str a, [] => a.length + 2 ≤ sizeLine ∧ q (.lst ((Txt.words a).map Dt.str)) S
  | _, _ => False
@[reducible] def rmStrip0 : DMr := fun x ds S q => match x, ds with
  | .str a, [] => q (.str (Txt.strip a)) S
  | _, _ => False
@[reducible] def rmStarts : DMr := fun x ds S q => match x, ds with
  | .str a, [.str b] => q (.bl (Txt.startswith a b)) S
  | _, _ => False
@[reducible] def rmEnds : DMr := fun x ds S q => match x, ds with
  | .str a, [.str b] => q (.bl (Txt.endswith a b)) S
  | _, _ => False
@[reducible] def rmFind : DMr := fun x ds S q => match x, ds with
  | .str a, [.str b] => q (.int (Txt.find a b)) S
  | _, _ => False
@[reducible] def rmRfind : DMr := fun x ds S q => match x, ds with
  | .str a, [.str b] => q (.int (Txt.rfind a b)) S
  | _, _ => False
/-- the texts of a list or a tuple -/
def rmJoin : DMr := fun x ds S q => match x, ds with
  | .str a, [y] => seeQ y S fun l => ∃ ys : List Str, l = ys.map Dt.str ∧ ((ys.map (·.length)).sum + ys.length * a.length ≤ 16777216 ∧ SOk (Txt.join a ys)) ∧ q (.str (Txt.join a ys)) S
  | _, _ => False
@[reducible] def rcStr : DCr := fun xs S q => match xs with
  | [.int i] => (i.natAbs.log2 < 1920 ∧ SOk (toString i)) ∧ q (.str (toString i)) S
  | [.str z] => q (.str z) S
  | _ => False
def rcIntS : DCr := fun xs S q => match xs with
  | [.str z] => ∃ n, (PySem.intText? z = some n ∧ z.length ≤ 640) ∧ q (.int n) S
  | _ => False
section
variable {X : Cx} {K : PySem.W.Frag} {E : XK} {e : DX}
theorem md_partition : MtR X "str.partition" (rDM K rmPartition) := fun pins s σ H x xs v us Q I rx r ⟨d, ds, S, Z, q, g, rd, rs, h, k⟩ => by
  match d, ds, h with
  | .str a, [.str b], h =>
    obtain ⟨w, rfl, rw'⟩ := reps1 rs
    have sp := SOk.partition rd.2 rw'.2
    exact mt_partition pins s σ H x _ v us Q I rx r ⟨a, b, rd.1, by rw [rw'.1], h.1, rd.2.len, fun p np => k.new g np h.2 ⟨p, _, rfl, SqT.of (out_new g np), _, _, rfl, ⟨rfl, sp.1⟩, _, _, rfl, ⟨rfl, sp.2.1⟩, _, _, rfl, ⟨rfl, sp.2.2⟩, rfl⟩⟩
theorem md_split1 : MtR X "str.split" (rDM K rmSplit1) := fun pins s σ H x xs v us Q I rx r ⟨d, ds, S, Z, q, g, rd, rs, h, k⟩ => by
  match d, ds, h with
  | .str a, [.str b], h =>
    obtain ⟨w, rfl, rw'⟩ := reps1 rs
    exact mt_split pins s σ H x _ v us Q I rx r ⟨a, b, rd.1, by rw [rw'.1], h.1, h.2.1, fun p np => k.new g np h.2.2 ⟨p, _, rfl, out_new g np, reps_strs (SOk.split rd.2 b)⟩⟩
theorem md_split0 : MtR X "str.split" (rDM K rmSplit0) := fun pins s σ H x xs v us Q I rx r ⟨d, ds, S, Z, q, g, rd, rs, h, k⟩ => by
  match d, ds, h with
  | .str a, [], h =>
    exact mt_words pins s σ H x _ v us Q I rx r ⟨a, rd.1, rs, h.1, fun p np => k.new g np h.2 ⟨p, _, rfl, out_new g np, reps_strs (SOk.words rd.2)⟩⟩
theorem md_strip0 : MtR X "str.strip" (rDM K rmStrip0) := fun pins s σ H x xs v us Q I rx r ⟨d, ds, S, Z, q, g, rd, rs, h, k⟩ => by
  match d, ds, h with
  | .str a, [], h => exact mt_strip pins s σ H x _ v us Q I rx r ⟨a, rd.1, rs, rd.2.len, k.here g h ⟨rfl, SOk.strip rd.2⟩⟩
theorem md_startswith1 : MtR X "str.startswith" (rDM K rmStarts) := fun pins s σ H x xs v us Q I rx r ⟨d, ds, S, Z, q, g, rd, rs, h, k⟩ => by
  match d, ds, h with
  | .str a, [.str b], h =>
    obtain ⟨w, rfl, rw'⟩ := reps1 rs
    exact mt_startswith pins s σ H x _ v us Q I rx r ⟨a, b, rd.1, by rw [rw'.1], k.here g h rfl⟩
theorem md_endswith1 : MtR X "str.endswith" (rDM K rmEnds) := fun pins s σ H x xs v us Q I rx r ⟨d, ds, S, Z, q, g, rd, rs, h, k⟩ => by
  match d, ds, h with
  | .str a, [.str b], h =>
    obtain ⟨w, rfl, rw'⟩ := reps1 rs
    exact mt_endswith pins s σ H x _ v us Q I rx r ⟨a, b, rd.1, by rw [rw'.1], k.here g h rfl⟩
theorem md_find1 : MtR X "str.find" (rDM K rmFind) := fun pins s σ H x xs v us Q I rx r ⟨d, ds, S, Z, q, g, rd, rs, h, k⟩ => by
  match d, ds, h with
  | .str a, [.str b], h =>
    obtain ⟨w, rfl, rw'⟩ := reps1 rs
    exact mt_find pins s σ H x _ v us Q I rx r ⟨a, b, rd.1, by rw [rw'.1], k.here g h rfl⟩
theorem md_rfind1 : MtR X "str.rfind" (rDM K rmRfind) := fun pins s σ H x xs v us Q I rx r ⟨d, ds, S, Z, q, g, rd, rs, h, k⟩ => by
  match d, ds, h with
  | .str a, [.str b], h =>
    obtain ⟨w, rfl, rw'⟩ := reps1 rs
    exact mt_rfind pins s σ H x _ v us Q I rx r ⟨a, b, rd.1, by rw [rw'.1], k.here g h rfl⟩
theorem md_join (hK : X.K = K) : MtR X "str.join" (rDM K rmJoin) := fun pins s σ H x xs v us Q I rx r ⟨d, ds, S, Z, q, g, rd, rs, h, k⟩ => by
  subst hK
  match d, ds, h with
  | .str a, [y], h =>
    obtain ⟨w, rfl, rw'⟩ := reps1 rs
    obtain ⟨p, vs, l, rfl, hs, hl, ys, rfl, hz, hq⟩ := see_seq g rw' h
    obtain ⟨rfl, _⟩ := strs_of hl
    exact mt_join pins s σ H x _ v us Q I rx r ⟨a, p, ys, rd.1, rfl, hs, hz.1, k.here g hq ⟨rfl, hz.2⟩⟩
theorem cd_str : CallR X (.type "str") (rDC K rcStr) := fun pins s σ H xs us Q I r ⟨ds, S, Z, q, g, rs, h, k⟩ => by
  match ds, h with
  | [.int i], h =>
    obtain ⟨v, rfl, rv⟩ := reps1 rs
    exact call_str_int pins s σ H _ us Q I r ⟨i, by rw [show v = _ from rv], h.1.1, k.here g h.2 ⟨rfl, h.1.2⟩⟩
  | [.str z], h =>
    obtain ⟨v, rfl, rv⟩ := reps1 rs
    exact SkE.call_str_str pins s σ H _ us Q I r ⟨z, by rw [rv.1], k.here g h ⟨rfl, rv.2⟩⟩
theorem cd_intS : CallR X (.type "int") (rDC K rcIntS) := fun pins s σ H xs us Q I r ⟨ds, S, Z, q, g, rs, h, k⟩ => by
  match ds, h with
  | [.str z], ⟨n, h1, h⟩ =>
    obtain ⟨v, rfl, rv⟩ := reps1 rs
    exact call_int_str pins s σ H _ us Q I r ⟨z, n, by rw [rv.1], h1.1, h1.2, k.here g h rfl⟩
/-! f-strings -/
@[reducible] def dFmt (a : DTE) : DTE := fun δ S q => a δ S fun x S1 => match x with
  | .str z => q (.str z) S1
  | .int i => (i.natAbs.log2 < 1920 ∧ SOk (toString i)) ∧ q (.str (toString i)) S1
  | _ => False
theorem de_fmt {a : Expr} {da : DTE} {pos : Pos} (h : PE X a (tD K E e da)) : PE X (.FormattedValue a (-1) none pos) (tD K E e (dFmt da)) := PE.imp (pe_fmt h) fun σ H Q h => by
  refine tD_seq h fun v x δ S Z H1 q t r h k => ?_
  cases x with
  | str z => exact .inl ⟨z, r.1, r.2.len, k.here t.good h ⟨rfl, r.2⟩⟩
  | int i => exact .inr ⟨i, r, h.1.1, k.here t.good h.2 ⟨rfl, h.1.2⟩⟩
  | _ => exact h.elim
inductive PJD (X : Cx) (K : PySem.W.Frag) (E : XK) (e : DX) : List Expr → List DTE → Prop where
  | nil : PJD X K E e [] []
  | cons {a : Expr} {t : DTE} {es : List Expr} {ts : List DTE} (h : PE X a (tD K E e t)) (r : PJD X K E e es ts) : PJD X K E e (a :: es) (t :: ts)
@[reducible] def dJs : List DTE → Str → DS → Store → (Str → Store → Prop) → Prop
  | [], acc, _, S, q => q acc S
  | t :: ts, acc, δ, S, q => t δ S fun x S1 => match x with
    | .str y => (acc.length + y.length ≤ sizeLine) ∧ dJs ts (acc ++ y) δ S1 q
    | _ => False
@[reducible] def dJoined (ts : List DTE) : DTE := fun δ S q => dJs ts "" δ S fun z S1 => q (.str z) S1
theorem PJD.pj {es : List Expr} {ts : List DTE} (h : PJD X K E e es ts) : PJ X es (ts.map (tD K E e)) := by
  induction h with
  | nil => exact .nil
  | cons h _ ih => exact .cons h ih
theorem de_joined {v1 v2 : Expr} {rest : List Expr} {ts : List DTE} {pos : Pos} (h : PJD X K E e (v1 :: v2 :: rest) ts) : PE X (.JoinedStr (v1 :: v2 :: rest) pos) (tD K E e (dJoined ts)) := PE.imp (pe_joined h.pj) fun σ H Q hq => by
  obtain ⟨δ, S, Z, q, t, hd, k⟩ := hq
  have go : ∀ (ts : List DTE) (acc : Str) (H1 : Hp) (S1 : Store), SOk acc → Good K Z H1 S1 → Ext (out H S Z) (out H1 S1 Z) → dJs ts acc δ S1 (fun z S1 => q (.str z) S1) → tJs (ts.map (tD K E e)) acc σ H1 fun out H1 => Q (.str out) H1 := fun ts => by
    induction ts with
    | nil => intro acc H1 S1 sa g x h; exact k _ (.str acc) H1 S1 g x ⟨rfl, sa⟩ h
    | cons t0 ts ih =>
      intro acc H1 S1 sa g x h
      refine ⟨δ, S1, Z, _, t.to g x, h, fun v y H2 S2 g2 x2 r2 h2 => ?_⟩
      cases y with
      | str y =>
        obtain ⟨h3, h4⟩ := h2
        exact ⟨y, r2.1, by rw [app_len]; exact h3, ih (acc ++ y) H2 S2 (sa.app r2.2 h3) g2 (x.trans x2) h4⟩
      | _ => exact h2.elim
  exact go ts _ H S SOk.empty t.good Ext.refl hd
theorem de_joined1 {a : Expr} {da : DTE} {pos : Pos} (h : PE X a (tD K E e da)) : PE X (.JoinedStr [a] pos) (tD K E e da) := pe_joined1 h
end
end Dn

/-! constants of the module: dicts with texts as keys, tuples; equal dicts of data -/
namespace Dn
open PySem PySem.Spec PyProof.Rows L2 Pr LamX NdefX
/-! the top's run asks the world's rows: by cases -/
def ftW (L : List (String × Bool)) (w : World) : World := { w with params := { w.params with followText := fun s => match L.lookup s with
  | some b => b
  | none => w.params.followText s } }
theorem ftW_eq {w : World} : ∀ {L : List (String × Bool)}, (∀ p ∈ L, w.params.followText p.1 = p.2) → ftW L w = w := fun {L} h => by
  have e : (fun s => match L.lookup s with
    | some b => b
    | none => w.params.followText s) = w.params.followText := by
    funext s
    induction L with
    | nil => rfl
    | cons p r ih =>
      obtain ⟨a, b⟩ := p
      rw [List.lookup_cons]
      by_cases hs : s = a
      · subst hs
        simp only [beq_self_eq_true]
        exact (h (s, b) List.mem_cons_self).symm
      · rw [show (s == a) = false from by simpa using hs]
        exact ih fun p hp => h p (List.mem_cons_of_mem _ hp)
  unfold ftW
  rw [e]
/-- a constant's value -/
@[reducible] def dvD : He.Dv → Dt
  | .bl b => .bl b
  | .int i => .int i
  | .str z => .str z
  | _ => .non
def sokB (z : Str) : Bool := decide (z.length ≤ sizeLine) && PySem.PyData.strOk z
def dvOk : He.Dv → Bool
  | .non => true
  | .bl _ => true
  | .int _ => true
  | .str z => sokB z
  | _ => false
theorem sokB_ok {z : Str} (h : sokB z = true) : SOk z := by
  unfold sokB at h
  rw [Bool.and_eq_true, decide_eq_true_iff] at h
  exact ⟨h.1, h.2⟩
theorem rep_dv {K : PySem.W.Frag} {G : Hp} {d : He.Dv} (h : dvOk d = true) : Rep K G (dvD d) (d.v K) := by
  cases d with
  | str z => exact ⟨rfl, sokB_ok h⟩
  | non => rfl
  | bl b => rfl
  | int i => rfl
  | _ => cases h
theorem reps_dv {K : PySem.W.Frag} {G : Hp} : ∀ {l : List He.Dv}, l.all dvOk = true → Reps K G (l.map dvD) (l.map (He.Dv.v K))
  | [], _ => rfl
  | d :: l, h => by
    rw [List.all_cons, Bool.and_eq_true] at h
    exact ⟨_, _, rfl, rep_dv h.1, reps_dv h.2⟩
/-- a tuple of the module -/
theorem rep_tup {K : PySem.W.Frag} {a : Addr} {l : List He.Dv} (h : ∀ H, SqT K H a (l.map (He.Dv.v K))) (ok : l.all dvOk = true := by decide +kernel) : ∀ G, Rep K G (.tup (l.map dvD)) (.ref a) := fun G => ⟨a, _, rfl, h G, reps_dv ok⟩
/-- a dict of the module with texts as keys -/
structure KdX (K : PySem.W.Frag) (w : World) (a : Addr) (kvs : List (Str × He.Dv)) : Prop where
  kd : ∃ es n, KDict K w a es n
  ok : kvs.all (fun p => dvOk p.2) = true
  get : ∀ z d, aGet kvs z = some d → ∃ u, PySem.W.nsIn K a z = some (some u) ∧ RelV (d.v K) u
  no : ∀ z, aGet kvs z = none → PySem.W.nsIn K a z = some none
theorem tabW {fa : List He.Fa} {fn : List He.DefD} {ts : List He.Tab} {w : World} {K : PySem.W.Frag} (c : He.SaysT fa fn ts w K) (i : Nat) {t : He.Tab} (h : ts[i]? = some t := by rfl) : He.dicW K (t.1 K) = some (He.keysIn w.params t.2) := by
  have e : ts.map (fun t => He.dicW K (t.1 K)) = ts.map fun t => some (He.keysIn w.params t.2) := congrArg (fun z : He.AlT => z.2) c
  have e2 : (ts.map fun t => He.dicW K (t.1 K))[i]? = (ts.map fun t => some (He.keysIn w.params t.2))[i]? := by rw [e]
  rw [List.getElem?_map, List.getElem?_map, h] at e2
  exact Option.some.inj e2
theorem ents_none {P : Params} {z : Str} : ∀ {l : List DictEntry} {ks : List Str}, l.map He.keyOf = He.keysIn P ks → z ∉ ks → l.find? (fun e => e.key.isStr z) = none ∧ l.any (·.refKey) = false
  | [], _, _, _ => ⟨rfl, rfl⟩
  | e :: r, [], h, _ => by cases h
  | e :: r, k :: ks, h, n => by
    have h1 : He.keyOf e :: r.map He.keyOf = some (k, PyData.keyHash P k) :: He.keysIn P ks := h
    injection h1 with h2 h3
    obtain ⟨i1, i2⟩ := ents_none h3 fun m => n (List.mem_cons_of_mem _ m)
    unfold He.keyOf at h2
    split at h2
    · rename_i x t q
      obtain ⟨h5, _⟩ := Prod.mk.inj (Option.some.inj h2)
      subst h5
      have ne : (x == z) = false := by
        cases hb : x == z with
        | false => rfl
        | true => exact absurd List.mem_cons_self (by rw [← eq_of_beq hb] at n; exact n)
      refine ⟨?_, ?_⟩
      · rw [List.find?_cons, q]
        show (match x == z with | true => some e | false => r.find? _) = none
        rw [ne]
        exact i1
      · rw [List.any_cons, i2]
        show (e.refKey || false) = false
        unfold DictEntry.refKey
        rw [q]
        rfl
    · cases h2
theorem dicW_none {K : PySem.W.Frag} {w : World} {a : Addr} {ks : List Str} {z : Str} (h : He.dicW K a = some (He.keysIn w.params ks)) (hz : z ∉ ks) : PySem.W.nsIn K a z = some none := by
  unfold He.dicW at h
  unfold PySem.W.nsIn
  split at h
  · rename_i c es n sl e
    rw [e]
    split at h
    · obtain ⟨h1, h2⟩ := ents_none (Option.some.inj h) hz
      show (match es.toList.find? (fun e => e.key.isStr z) with
        | some e => some (some e.val)
        | none => if es.toList.any (·.refKey) then none else some none) = some none
      rw [h1, h2]
      rfl
    · cases h
  · cases h
theorem kdx_of {K : PySem.W.Frag} {w : World} {a : Addr} {kvs : List (Str × He.Dv)} (hd : He.dicW K a = some (He.keysIn w.params (kvs.map (·.1)))) (hv : He.valsB K a kvs = true) (ok : kvs.all (fun p => dvOk p.2) = true := by decide +kernel) : KdX K w a kvs :=
  ⟨He.dicW_ok hd, ok, fun z d h => He.valsB_ok hv (q := (z, d)) (aGet_mem h), fun z h => dicW_none hd fun hm => by
    obtain ⟨⟨k, v⟩, hp, rfl⟩ := List.mem_map.mp hm
    exact aGet_none.mp h v hp⟩
section
variable {X : Cx} {K : PySem.W.Frag} {E : XK} {e : DX} {a b : Expr} {da db : DTE} {pos : Pos} {d : Addr} {kvs : List (Str × He.Dv)}
/-- key in the dict d -/
@[reducible] def rInK (d : Addr) (kvs : List (Str × He.Dv)) : D2 := fun x y S q => match x, y with
  | .str z, .ref a => a = d ∧ q (.bl (aGet kvs z).isSome) S
  | _, _ => False
@[reducible] def rNinK (d : Addr) (kvs : List (Str × He.Dv)) : D2 := fun x y S q => match x, y with
  | .str z, .ref a => a = d ∧ q (.bl (!(aGet kvs z).isSome)) S
  | _, _ => False
@[reducible] def rIxK (d : Addr) (kvs : List (Str × He.Dv)) : D2 := fun x y S q => match x, y with
  | .ref a, .str z => a = d ∧ ∃ v, aGet kvs z = some v ∧ q (dvD v) S
  | _, _ => False
theorem kdx_ns (k : KdX K X.w d kvs) (z : Str) : ∃ r, PySem.W.nsIn K d z = some r ∧ r.isSome = (aGet kvs z).isSome := by
  cases e : aGet kvs z with
  | none => exact ⟨none, k.no z e, rfl⟩
  | some v =>
    obtain ⟨u, h1, _⟩ := k.get z v e
    exact ⟨some u, h1, rfl⟩
theorem od_inK (hK : X.K = K) (kd : KdX K X.w d kvs) : OpR X (compareOp .In) (rD K (rInK d kvs)) := fun pins s σ H x y v u Q I rv ru ⟨dx, dy, S, Z, q, g, rx, ry, h, k⟩ => by
  subst hK
  match dx, dy, h with
  | .str z, .ref a, h =>
    obtain ⟨rfl, hq⟩ := h
    obtain ⟨es, n, D⟩ := kd.kd
    obtain ⟨r, h1, h2⟩ := kdx_ns kd z
    exact op_in_kd D pins s σ H x y v u Q I rv ru ⟨z, r, rx.1, ry, h1, by rw [h2]; exact k.here g hq rfl⟩
theorem od_notinK (hK : X.K = K) (kd : KdX K X.w d kvs) : OpR X (compareOp .NotIn) (rD K (rNinK d kvs)) := fun pins s σ H x y v u Q I rv ru ⟨dx, dy, S, Z, q, g, rx, ry, h, k⟩ => by
  subst hK
  match dx, dy, h with
  | .str z, .ref a, h =>
    obtain ⟨rfl, hq⟩ := h
    obtain ⟨es, n, D⟩ := kd.kd
    obtain ⟨r, h1, h2⟩ := kdx_ns kd z
    exact op_notIn_kd D pins s σ H x y v u Q I rv ru ⟨z, r, rx.1, ry, h1, by rw [h2]; exact k.here g hq rfl⟩
theorem ix_K (hK : X.K = K) (kd : KdX K X.w d kvs) : IxR X (rD K (rIxK d kvs)) := by
  subst hK
  intro value slice pins s σ H x y v u Q I rv ru h sub
  obtain ⟨dx, dy, S, Z, q, g, rx, ry, h, k⟩ := h
  match dx, dy, h with
  | .ref a, .str z, h =>
    obtain ⟨rfl, d, hd, hq⟩ := h
    obtain ⟨es, n, D⟩ := kd.kd
    obtain ⟨u0, h1, h2⟩ := kd.get z d hd
    refine ix_kdict value slice pins s σ H x y v u Q I rv ru ⟨a, z, d.v X.K, rx, ry.1, ⟨es, n, u0, D.at_, D.lit, h1, h2⟩, k.here g hq (rep_dv ?_)⟩ sub
    exact List.all_eq_true.mp kd.ok (z, d) (aGet_mem hd)
theorem de_ixK (hK : X.K = K) (kd : KdX K X.w d kvs) (ha : PE X a (tD K E e da)) (hb : PE X b (tD K E e db)) (hs : PlainIx b := by exact fun _ _ => rfl) : PE X (.Subscript a b pos) (tD K E e (dOp (rIxK d kvs) da db)) := PE.imp (pe_ix (ix_K hK kd) ha hb hs) fun _ _ _ h => tD_op h
/-! generator expressions: tests -/
theorem gnB_of {N : List Str} {sc scope : Scope} {own : List (Str × Nat)} (h : gnB N sc scope own = true) : gnB N sc scope own = true := h
def higB (N : List Str) (scope : Scope) (own : List (Str × Nat)) (i : Nat) : Bool := decide (i ∉ snds own) && (match N[i]? with
  | some x => !decide (scope.names.lookup x = some NameKind.local) && !decide (scope.names.lookup x = some NameKind.cell) && !decide (scope.names.lookup x = some NameKind.free)
  | none => true)
theorem hig_by {N : List Str} {scope : Scope} {own : List (Str × Nat)} {j : Nat} (h : higB N scope own j = true) : ∀ i, some j = some i → i ∉ snds own ∧ ∀ x, N[i]? = some x → ¬ Vis scope x := fun i e => by
  cases e
  unfold higB at h
  rw [Bool.and_eq_true, decide_eq_true_iff] at h
  refine ⟨h.1, fun x hx v => ?_⟩
  have h2 := h.2
  rw [hx] at h2
  simp only [Bool.and_eq_true, Bool.not_eq_true', decide_eq_false_iff_not] at h2
  rcases v with v | v | v
  · exact h2.1.1 v
  · exact h2.1.2 v
  · exact h2.2 v
/-! equal dicts of data -/
@[reducible] def rNeDat : D2 := fun x y S q => match x, y with
  | .ref a, .ref c => ∃ l, S a = some (.dic l) ∧ ∃ m, S c = some (.dic m) ∧ (l.length = m.length ∧ ∀ p ∈ l, kGet m p.1 = some p.2 ∧ isDat p.2 = true ∧ (py p.2).depth ≤ 62 ∧ deqv p.2 p.2 = true) ∧ q (.bl false) S
  | _, _ => False
theorem hits_dat {H : Hp} {s : Shared} {A : Around} {pins : List (Addr × Obj)} {σ : L2.St} (I : Inv X pins σ H s) (hu : A.units + 64 < cLine) {ls : List (Key × V)} {vb : List (Key × Value)} (rb : KV ls vb) {ks : List (Key × V)} {va : List (Key × Value)} (ra : KV ks va) :
    (∀ p ∈ ks, ∃ u d, valV ls p.1 = some u ∧ Dp X.K H p.2 d ∧ Dp X.K H u d ∧ SeqAt.shaped d = true ∧ PyData.eqv d d = true) → PySem.W.KeqHits A s vb va true := by
  unfold KV at ra
  induction ra with
  | nil => intro _; exact .nil
  | @cons p q ps qs h t ih =>
    intro hp
    obtain ⟨h1, h2⟩ := h
    obtain ⟨x, d, e, d1, d2, sh, eq⟩ := hp p List.mem_cons_self
    have rr : RelO (some x) (valueAt vb p.1) := by rw [← e]; exact rb.val p.1
    obtain ⟨y, hy, ry⟩ := rr.some_of
    obtain ⟨k, v⟩ := q
    have h1' : p.1 = k := h1
    rw [h1'] at hy
    obtain ⟨as, r1⟩ := Dp.reads I d _ _ d1 h2
    obtain ⟨bs, r2⟩ := Dp.reads I d _ _ d2 ry
    have cl := SeqAt.canLay_of_shaped sh
    have eqa := SeqAt.eqAt_reads d d A s _ _ _ _ r1 r2 cl cl (SeqAt.room_of_shaped sh hu)
    rw [eq] at eqa
    show PySem.W.KeqHits A s vb ((k, v) :: qs) (true && true)
    exact .hit hy eqa (ih fun p' hm => hp p' (List.mem_cons_of_mem _ hm))
theorem od_neDat (hK : X.K = K) (hu : X.A.units + 65 < cLine) : OpR X (compareOp .NotEq) (rD K rNeDat) := fun pins s σ H x y v u Q I rv ru ⟨dx, dy, S, Z, q, g, rx, ry, h, k⟩ => by
  subst hK
  match dx, dy, h with
  | .ref a, .ref c, h =>
    obtain ⟨l, h1, m, h2, ⟨h3, h4⟩, h5⟩ := h
    obtain ⟨o, f1, ks, rfl, f2⟩ := g.c a _ h1
    obtain ⟨o, f3, ls, rfl, f4⟩ := g.c c _ h2
    obtain rfl := (show x = _ from rx)
    obtain rfl := (show y = _ from ry)
    obtain rfl : v = Value.ref a := rv
    obtain rfl : u = Value.ref c := ru
    obtain ⟨_, ya, va, ra, da⟩ := (show ObjOk X.prog X.w H s.heap a (.dK ks) from I.hok a _ f1)
    obtain ⟨_, yb, vb, rb, db⟩ := (show ObjOk X.prog X.w H s.heap c (.dK ls) from I.hok c _ f3)
    have hl : va.length = vb.length := by rw [← ra.length, ← rb.length, ← f2.len, ← f4.len]; exact h3
    refine PySem.W.keq_ne (knd := mixKind X.prog X.w) (r := true) ya yb da db (by omega) (fun _ => hits_dat I (A := X.A.in1) (by show X.A.units + 1 + 64 < cLine; omega) rb ra fun p hp => ?_) (fin_bl (k := false) I (k.here g h5 rfl) (by simp [hl]))
    obtain ⟨i, hi⟩ := List.getElem?_of_mem hp
    obtain ⟨q, e1, e2, _, e3⟩ := Paired.get' (Repk.kr.mp f2) hi
    obtain ⟨j1, j2, j3, j4⟩ := h4 q (List.mem_of_getElem? e1)
    rcases KR.get (k := q.1) (Repk.kr.mp f4) with ⟨z, _⟩ | ⟨d, t, z1, z2, z3⟩
    · rw [j1] at z; cases z
    · rw [j1] at z1
      cases z1
      exact ⟨t, py q.2, by rw [← e2, z2], Rep.dp _ _ j2 e3, Rep.dp _ _ j2 z3, Rep.shaped e3 (by omega), j4⟩
end
end Dn

/-! any and all of what changes nothing; texts of a row; in -/
namespace Dn
open PySem PySem.Spec PyProof.Rows L2 Pr LamX NdefX
theorem anyT_pure {δw : DS} {stop : Bool} {g : DTG} {tt : DTT} {te : DTE} {l : List Dt} {keep : Store → Prop} {q : DK} {S1 : Store} (p : Dt → Bool) (hk : keep S1)
    (h : ∀ d ∈ l, ∀ (C : Store → Bool → Prop) (D : Store → Prop), C S1 (p d) → g d δw S1 fun δ' S' => tt δ' S' fun b S2 => Ift b (te δ' S2 fun y S3 => ∃ k, y = .bl k ∧ C S3 k) (D S2))
    (hq : q (.bl (if stop then l.any p else l.all p)) S1) : dAnyT δw stop g tt te l keep q S1 := by
  refine ⟨fun i S => S = S1 ∧ ∀ j d, j < i → l[j]? = some d → p d = !stop, ⟨rfl, fun j d hj => absurd hj (Nat.not_lt_zero _)⟩, fun i S _ z => by rw [z.1]; exact hk, fun i d S hd z => ?_, fun S z => ?_⟩
  · obtain ⟨rfl, z⟩ := z
    refine h d (List.mem_of_getElem? hd) (fun S3 k => stopIf stop k (q (.bl stop) S3) (S3 = S ∧ ∀ j d, j < i + 1 → l[j]? = some d → p d = !stop)) _ ?_
    have nx : p d = (!stop) → ∀ j d, j < i + 1 → l[j]? = some d → p d = !stop := fun e j d' hj hd' => by
      rcases Nat.lt_succ_iff_lt_or_eq.mp hj with hj | rfl
      · exact z j d' hj hd'
      · rw [hd] at hd'
        cases hd'
        exact e
    cases stop with
    | true =>
      cases e : p d with
      | true =>
        show q (.bl true) S
        have : l.any p = true := List.any_eq_true.mpr ⟨d, List.mem_of_getElem? hd, e⟩
        rw [if_pos rfl, this] at hq
        exact hq
      | false => exact ⟨rfl, nx e⟩
    | false =>
      cases e : p d with
      | true => exact ⟨rfl, nx e⟩
      | false =>
        show q (.bl false) S
        have : l.all p = false := by
          rw [← Bool.not_eq_true]
          intro ha
          rw [List.all_eq_true.mp ha d (List.mem_of_getElem? hd)] at e
          cases e
        rw [if_neg (by decide), this] at hq
        exact hq
  · obtain ⟨rfl, z⟩ := z
    have all : ∀ d ∈ l, p d = !stop := fun d hd => by
      obtain ⟨j, hj⟩ := List.getElem?_of_mem hd
      exact z j d (List.getElem?_eq_some_iff.mp hj).1 hj
    cases stop with
    | true =>
      have : l.any p = false := by
        rw [← Bool.not_eq_true]
        intro ha
        obtain ⟨d, hd, e⟩ := List.any_eq_true.mp ha
        rw [all d hd] at e
        cases e
      rw [if_pos rfl, this] at hq
      exact hq
    | false =>
      have : l.all p = true := List.all_eq_true.mpr fun d hd => all d hd
      rw [if_neg (by decide), this] at hq
      exact hq
/-- the items are f of things -/
theorem anyT_map {α : Type} {δw : DS} {stop : Bool} {g : DTG} {tt : DTT} {te : DTE} {xs : List α} {f : α → Dt} {l : List Dt} (hl : l = xs.map f) {keep : Store → Prop} {q : DK} {S1 : Store} (p : α → Bool) (hk : keep S1)
    (h : ∀ x ∈ xs, ∀ (C : Store → Bool → Prop) (D : Store → Prop), C S1 (p x) → g (f x) δw S1 fun δ' S' => tt δ' S' fun b S2 => Ift b (te δ' S2 fun y S3 => ∃ k, y = .bl k ∧ C S3 k) (D S2))
    (hq : q (.bl (if stop then xs.any p else xs.all p)) S1) : dAnyT δw stop g tt te l keep q S1 := by
  subst hl
  refine ⟨fun i S => S = S1 ∧ ∀ j d, j < i → xs[j]? = some d → p d = !stop, ⟨rfl, fun j d hj => absurd hj (Nat.not_lt_zero _)⟩, fun i S _ z => by rw [z.1]; exact hk, fun i d S hd z => ?_, fun S z => ?_⟩
  · obtain ⟨rfl, z⟩ := z
    rw [List.getElem?_map] at hd
    obtain ⟨x, hx, rfl⟩ := Option.map_eq_some_iff.mp hd
    have hm := List.mem_of_getElem? hx
    refine h x hm (fun S3 k => stopIf stop k (q (.bl stop) S3) (S3 = S ∧ ∀ j d, j < i + 1 → xs[j]? = some d → p d = !stop)) _ ?_
    have nx : p x = (!stop) → ∀ j d, j < i + 1 → xs[j]? = some d → p d = !stop := fun e j d' hj hd' => by
      rcases Nat.lt_succ_iff_lt_or_eq.mp hj with hj | rfl
      · exact z j d' hj hd'
      · rw [hx] at hd'
        cases hd'
        exact e
    cases stop with
    | true =>
      cases e : p x with
      | true =>
        show q (.bl true) S
        have : xs.any p = true := List.any_eq_true.mpr ⟨x, hm, e⟩
        rw [if_pos rfl, this] at hq
        exact hq
      | false => exact ⟨rfl, nx e⟩
    | false =>
      cases e : p x with
      | true => exact ⟨rfl, nx e⟩
      | false =>
        show q (.bl false) S
        have : xs.all p = false := by
          rw [← Bool.not_eq_true]
          intro ha
          rw [List.all_eq_true.mp ha x hm] at e
          cases e
        rw [if_neg (by decide), this] at hq
        exact hq
  · obtain ⟨rfl, z⟩ := z
    have all : ∀ d ∈ xs, p d = !stop := fun d hd => by
      obtain ⟨j, hj⟩ := List.getElem?_of_mem hd
      exact z j d (by rw [List.length_map]; exact (List.getElem?_eq_some_iff.mp hj).1) hj
    cases stop with
    | true =>
      have : xs.any p = false := by
        rw [← Bool.not_eq_true]
        intro ha
        obtain ⟨d, hd, e⟩ := List.any_eq_true.mp ha
        rw [all d hd] at e
        cases e
      rw [if_pos rfl, this] at hq
      exact hq
    | false =>
      have : xs.all p = true := List.all_eq_true.mpr fun d hd => all d hd
      rw [if_neg (by decide), this] at hq
      exact hq
theorem any_map {α : Type} {δw : DS} {g : DTG} {tt : DTT} {te : DTE} {xs : List α} {f : α → Dt} {l : List Dt} (hl : l = xs.map f) {keep : Store → Prop} {q : DK} {S1 : Store} (p : α → Bool) (hk : keep S1)
    (h : ∀ x ∈ xs, ∀ (C : Store → Bool → Prop) (D : Store → Prop), C S1 (p x) → g (f x) δw S1 fun δ' S' => tt δ' S' fun b S2 => Ift b (te δ' S2 fun y S3 => ∃ k, y = .bl k ∧ C S3 k) (D S2))
    (hq : q (.bl (xs.any p)) S1) : dAnyT δw true g tt te l keep q S1 := anyT_map hl p hk h hq
theorem all_map {α : Type} {δw : DS} {g : DTG} {tt : DTT} {te : DTE} {xs : List α} {f : α → Dt} {l : List Dt} (hl : l = xs.map f) {keep : Store → Prop} {q : DK} {S1 : Store} (p : α → Bool) (hk : keep S1)
    (h : ∀ x ∈ xs, ∀ (C : Store → Bool → Prop) (D : Store → Prop), C S1 (p x) → g (f x) δw S1 fun δ' S' => tt δ' S' fun b S2 => Ift b (te δ' S2 fun y S3 => ∃ k, y = .bl k ∧ C S3 k) (D S2))
    (hq : q (.bl (xs.all p)) S1) : dAnyT δw false g tt te l keep q S1 := anyT_map hl p hk h (by rw [if_neg (by decide)]; exact hq)
/-- the letters of a text, each a text -/
def lets (z : Str) : List Str := z.cps.toList.map fun c => ⟨#[c]⟩
/-- a text in a row of texts, a written one or one that the state keeps -/
theorem signs_lets {z : Str} : signsD z = (lets z).map Dt.str := by unfold lets signsD; rw [List.map_map]; rfl
theorem memD_strs {z : Str} {l : List Str} : memD (.str z) (l.map Dt.str) = decide (z ∈ l) := (tells_enc (α := Str)).mem z l
theorem in_tupS {z : Str} {l : List Dt} {m : List Str} {neg : Bool} {S : Store} {q : DK} (e : l = m.map Dt.str) (h : q (.bl (if neg then !decide (z ∈ m) else decide (z ∈ m))) S) : dIn neg (.str z) (.tup l) S q := by
  subst e
  refine ⟨⟨rfl, rfl, ?_⟩, by rw [memD_strs]; exact h⟩
  rw [List.all_eq_true]
  intro d hd
  obtain ⟨y, _, rfl⟩ := List.mem_map.mp hd
  rfl
theorem szX {n : Nat} (h : n ≤ 16777216) : n ≤ sizeLine := h
theorem in_str {y z : Str} {S : Store} {q : DK} (h : q (.bl (hasS z y)) S) : dIn false (.str y) (.str z) S q := ⟨y, rfl, h⟩
theorem nin_str {y z : Str} {S : Store} {q : DK} (h : q (.bl (!hasS z y)) S) : dIn true (.str y) (.str z) S q := ⟨y, rfl, h⟩
/-! written texts, numbers as texts -/
theorem ofs_len (s : String) : (Str.ofString s).length = s.toList.length := by
  rw [len_cps, signs_ofString, List.length_map]
theorem ofs_ok (s : String) : PySem.PyData.strOk (Str.ofString s) = true := by
  rw [sok_all, signs_ofString]
  intro c hc
  obtain ⟨k, _, rfl⟩ := List.mem_map.mp hc
  have := k.valid
  have h : k.toNat < 0xd800 ∨ (0xdfff < k.toNat ∧ k.toNat < 0x110000) := this
  omega
theorem sdel_sput {S : Store} {a : Addr} {c : Cell} (h : S a = none) : sdel (sput S a c) a = S := by
  funext b
  by_cases e : b = a
  · subst e; rw [sdel_same, h]
  · rw [sdel_ne e, sput_ne e]
def numS (i : Int) : Str := Str.ofString (toString i)
theorem num_len {i : Int} (h0 : 0 ≤ i) (h1 : i < 10 ^ 10) : (numS i).length ≤ 10 := by
  obtain ⟨m, rfl⟩ := Int.eq_ofNat_of_zero_le h0
  unfold numS
  rw [len_cps]
  rw [show (Str.ofString (toString (m : Int))).cps.toList = (Nat.toDigits 10 m).map Char.toNat from PySem.W.KIN.signs_num m, List.length_map]
  exact toDigits_len_pow (by decide) (by decide) (by omega)
theorem num_ok {i : Int} (h0 : 0 ≤ i) (h1 : i < 10 ^ 10) : i.natAbs.log2 < 1920 ∧ SOk (Str.ofString (toString i)) := by
  refine ⟨?_, Nat.le_trans (num_len h0 h1) (by decide), ofs_ok _⟩
  by_cases h : i.natAbs = 0
  · rw [h]; decide
  · rw [Nat.log2_lt h]
    exact Nat.lt_of_lt_of_le (show i.natAbs < 2 ^ 34 by omega) (Nat.pow_le_pow_right (by decide) (by decide))
theorem part_len (x y : Str) : (Txt.partition x y).1.length ≤ x.length ∧ (Txt.partition x y).2.1.length ≤ x.length ∧ (Txt.partition x y).2.2.length ≤ x.length := fact_partition x y
end Dn

/-! equal dicts, owned or still -/
namespace Dn
open PySem PySem.Spec PyProof.Rows L2 Pr LamX NdefX
@[reducible] def rNeDc : D2 := fun x y S q => seeD x S fun l => seeD y S fun m => (l.length = m.length ∧ ∀ p ∈ l, kGet m p.1 = some p.2 ∧ isDat p.2 = true ∧ (py p.2).depth ≤ 62 ∧ deqv p.2 p.2 = true) ∧ q (.bl false) S
@[reducible] def rEqDc : D2 := fun x y S q => seeD x S fun l => seeD y S fun m => (l.length = m.length ∧ ∀ p ∈ l, kGet m p.1 = some p.2 ∧ isDat p.2 = true ∧ (py p.2).depth ≤ 62 ∧ deqv p.2 p.2 = true) ∧ q (.bl true) S
section
variable {X : Cx} {K : PySem.W.Frag}
theorem pair_dat {H Z : Hp} {S : Store} {l m : List (Key × Dt)} {ks ls : List (Key × V)} (f2 : Repk K (out H S Z) l ks) (f4 : Repk K (out H S Z) m ls)
    (h4 : ∀ p ∈ l, kGet m p.1 = some p.2 ∧ isDat p.2 = true ∧ (py p.2).depth ≤ 62 ∧ deqv p.2 p.2 = true) : ∀ p ∈ ks, ∃ u d, valV ls p.1 = some u ∧ Dp K H p.2 d ∧ Dp K H u d ∧ SeqAt.shaped d = true ∧ PyData.eqv d d = true := fun p hp => by
  obtain ⟨i, hi⟩ := List.getElem?_of_mem hp
  obtain ⟨q, e1, e2, _, e3⟩ := Paired.get' (Repk.kr.mp f2) hi
  obtain ⟨j1, j2, j3, j4⟩ := h4 q (List.mem_of_getElem? e1)
  rcases KR.get (k := q.1) (Repk.kr.mp f4) with ⟨z, _⟩ | ⟨d, t, z1, z2, z3⟩
  · rw [j1] at z; cases z
  · rw [j1] at z1
    cases z1
    exact ⟨t, py q.2, by rw [← e2, z2], Rep.dp _ _ j2 e3, Rep.dp _ _ j2 z3, Rep.shaped e3 (by omega), j4⟩
theorem od_neDc (hK : X.K = K) (hu : X.A.units + 65 < cLine) : OpR X (compareOp .NotEq) (rD K rNeDc) := fun pins s σ H x y v u Q I rv ru ⟨dx, dy, S, Z, q, g, rx, ry, h, k⟩ => by
  subst hK
  obtain ⟨a, ks, l, rfl, h1, f2, h⟩ := see_dic g rx h
  obtain ⟨c, ls, m, rfl, h2, f4, ⟨h3, h4⟩, h5⟩ := see_dic g ry h
  obtain rfl : v = Value.ref a := rv
  obtain rfl : u = Value.ref c := ru
  obtain ⟨_, ya, va, ra, da⟩ := dk_rd I.hok h1
  obtain ⟨_, yb, vb, rb, db⟩ := dk_rd I.hok h2
  have hl : va.length = vb.length := by rw [← ra.length, ← rb.length, ← f2.len, ← f4.len]; exact h3
  exact PySem.W.keq_ne (knd := mixKind X.prog X.w) (r := true) ya yb da db (by omega) (fun _ => hits_dat I (A := X.A.in1) (by show X.A.units + 1 + 64 < cLine; omega) rb ra (pair_dat f2 f4 h4)) (fin_bl (k := false) I (k.here g h5 rfl) (by simp [hl]))
theorem od_eqDc (hK : X.K = K) (hu : X.A.units + 65 < cLine) : OpR X (compareOp .Eq) (rD K rEqDc) := fun pins s σ H x y v u Q I rv ru ⟨dx, dy, S, Z, q, g, rx, ry, h, k⟩ => by
  subst hK
  obtain ⟨a, ks, l, rfl, h1, f2, h⟩ := see_dic g rx h
  obtain ⟨c, ls, m, rfl, h2, f4, ⟨h3, h4⟩, h5⟩ := see_dic g ry h
  obtain rfl : v = Value.ref a := rv
  obtain rfl : u = Value.ref c := ru
  obtain ⟨_, ya, va, ra, da⟩ := dk_rd I.hok h1
  obtain ⟨_, yb, vb, rb, db⟩ := dk_rd I.hok h2
  have hl : va.length = vb.length := by rw [← ra.length, ← rb.length, ← f2.len, ← f4.len]; exact h3
  exact PySem.W.keq_eq (knd := mixKind X.prog X.w) (r := true) ya yb da db (by omega) (fun _ => hits_dat I (A := X.A.in1) (by show X.A.units + 1 + 64 < cLine; omega) rb ra (pair_dat f2 f4 h4)) (fin_bl (k := true) I (k.here g h5 rfl) (by simp [hl]))
end
section
variable {S : Store} {q : DK}
theorem in_tup {z : Str} {l : List Dt} (m : List Str) (e : l = m.map Dt.str) (h : q (.bl (decide (z ∈ m))) S) : dIn false (.str z) (.tup l) S q := in_tupS e (by rw [if_neg (by decide)]; exact h)
theorem nin_tup {z : Str} {l : List Dt} (m : List Str) (e : l = m.map Dt.str) (h : q (.bl (!decide (z ∈ m))) S) : dIn true (.str z) (.tup l) S q := in_tupS e (by rw [if_pos rfl]; exact h)
theorem dq_str {a b : Str} : deqv (.str a) (.str b) = decide (a = b) := (tells_enc (α := Str)).eqv a b
theorem dq_int {a b : Int} : deqv (.int a) (.int b) = decide (a = b) := (tells_enc (α := Int)).eqv a b
theorem dq_tup3 {x1 x2 x3 y1 y2 y3 : Dt} : deqv (.tup [x1, x2, x3]) (.tup [y1, y2, y3]) = (deqv x1 y1 && (deqv x2 y2 && (deqv x3 y3 && true))) := rfl
theorem dq_tup4 {x1 x2 x3 x4 y1 y2 y3 y4 : Dt} : deqv (.tup [x1, x2, x3, x4]) (.tup [y1, y2, y3, y4]) = (deqv x1 y1 && (deqv x2 y2 && (deqv x3 y3 && (deqv x4 y4 && true)))) := rfl
theorem dq_ssi {a b c d : Str} {i j : Int} : deqv (.tup [.str a, .str b, .int i]) (.tup [.str c, .str d, .int j]) = decide (a = c ∧ b = d ∧ i = j) := by
  rw [dq_tup3, dq_str, dq_str, dq_int, Bool.and_true, ← Bool.decide_and, ← Bool.decide_and]
theorem dq_ssis {a b c d e f : Str} {i j : Int} : deqv (.tup [.str a, .str b, .int i, .str e]) (.tup [.str c, .str d, .int j, .str f]) = decide (a = c ∧ b = d ∧ i = j ∧ e = f) := by
  rw [dq_tup4, dq_str, dq_str, dq_str, dq_int, Bool.and_true, ← Bool.decide_and, ← Bool.decide_and, ← Bool.decide_and]
theorem eq_ssi {a b c d : Str} {i j : Int} (h : q (.bl (decide (a = c ∧ b = d ∧ i = j))) S) : dEq (.tup [.str a, .str b, .int i]) (.tup [.str c, .str d, .int j]) S q := ⟨⟨rfl, rfl, Nat.le_of_ble_eq_true rfl, Nat.le_of_ble_eq_true rfl⟩, by rw [dq_ssi]; exact h⟩
theorem ne_ssi {a b c d : Str} {i j : Int} (h : q (.bl (!decide (a = c ∧ b = d ∧ i = j))) S) : dNe (.tup [.str a, .str b, .int i]) (.tup [.str c, .str d, .int j]) S q := ⟨⟨rfl, rfl, Nat.le_of_ble_eq_true rfl, Nat.le_of_ble_eq_true rfl⟩, by rw [dq_ssi]; exact h⟩
theorem ne_ssis {a b c d e f : Str} {i j : Int} (h : q (.bl (!decide (a = c ∧ b = d ∧ i = j ∧ e = f))) S) : dNe (.tup [.str a, .str b, .int i, .str e]) (.tup [.str c, .str d, .int j, .str f]) S q := ⟨⟨rfl, rfl, Nat.le_of_ble_eq_true rfl, Nat.le_of_ble_eq_true rfl⟩, by rw [dq_ssis]; exact h⟩
end
theorem cut_len {z : Str} {lo hi : Option Int} : (cutS z lo hi).length ≤ z.length := by
  rw [len_cps, len_cps]
  unfold cutS
  simp
  omega
open PySem.Builtin.Str (strSub partsBetween) in
theorem sub_len {a : Str} {i j : Nat} : (strSub a i j).length ≤ a.length := by
  have e := StrLaws.strSub_toList a i j
  rw [len_cps, len_cps, e, List.length_take, List.length_drop]
  omega
theorem split_len {a b : Str} : ∀ x ∈ Txt.split a b, x.length ≤ a.length := fun x hx => by
  unfold Txt.split at hx
  split at hx
  · rw [List.mem_singleton.mp hx]; exact Nat.le_refl _
  · split at hx
    · rw [List.mem_singleton.mp hx]; exact Nat.le_refl _
    · unfold Builtin.Str.partsBetween at hx
      obtain ⟨p, _, rfl⟩ := List.mem_map.mp hx
      exact sub_len
theorem words_len {a : Str} : ∀ x ∈ Txt.words a, x.length ≤ a.length := fun x hx => by
  unfold Txt.words at hx
  split at hx
  · rw [List.mem_singleton.mp hx]; exact Nat.le_refl _
  · unfold wordsOf at hx
    obtain ⟨p, _, rfl⟩ := List.mem_map.mp hx
    exact sub_len
theorem cutD_from1 {l : List Dt} : cutD l (some 1) none = l.drop 1 := by
  unfold cutD
  cases l with
  | nil => rfl
  | cons x r =>
    have e1 : HT.sIx (x :: r).length 0 (some 1) = 1 := by
      unfold HT.sIx
      simp
    have e2 : HT.sIx (x :: r).length (x :: r).length none = (x :: r).length := rfl
    rw [e1, e2]
    simp
theorem in_lstG {z : Str} {l : List Dt} {S : Store} {q : DK} (neg : Bool) (m : List Str) (e : l = m.map Dt.str) (h : q (.bl (if neg then !decide (z ∈ m) else decide (z ∈ m))) S) : dIn neg (.str z) (.lst l) S q := by
  subst e
  have t := (tells_enc (α := Str)).lst
  refine ⟨⟨rfl, t.dat m, Nat.zero_le _, Nat.le_trans (t.dep m) (by decide)⟩, ?_⟩
  rw [memD_strs]
  exact h
theorem in_lst {z : Str} {l : List Dt} {S : Store} {q : DK} (m : List Str) (e : l = m.map Dt.str) (h : q (.bl (decide (z ∈ m))) S) : dIn false (.str z) (.lst l) S q := in_lstG false m e (by rw [if_neg (by decide)]; exact h)
theorem nin_lst {z : Str} {l : List Dt} {S : Store} {q : DK} (m : List Str) (e : l = m.map Dt.str) (h : q (.bl (!decide (z ∈ m))) S) : dIn true (.str z) (.lst l) S q := in_lstG true m e (by rw [if_pos rfl]; exact h)
theorem cut43 {a b c d : Dt} : cutD [a, b, c, d] none (some 3) = [a, b, c] := rfl
/-- one of a written row, by the dice -/
theorem pickG {α : Type} {l : List α} {r : Int} (h0 : 0 ≤ r) (h1 : r < l.length) : ∃ x ∈ l, atI l r = some x := by
  obtain ⟨n, rfl⟩ := Int.eq_ofNat_of_zero_le h0
  have hn : n < l.length := by omega
  exact ⟨l[n], List.getElem_mem hn, atI_nat (List.getElem?_eq_getElem hn)⟩
theorem atI_map {α β : Type} {f : α → β} {l : List α} {r : Int} {x : α} (h : atI l r = some x) : atI (l.map f) r = some (f x) := by
  unfold atI at h ⊢
  rw [List.length_map]
  cases hi : ixN l.length r with
  | none => rw [hi] at h; cases h
  | some j =>
    rw [hi] at h
    show (l.map f)[j]? = some (f x)
    rw [List.getElem?_map, show l[j]? = some x from h]
    rfl
theorem pickM {α : Type} (m : List α) (f : α → Dt) {l : List Dt} (e : l = m.map f) {r : Int} (h0 : 0 ≤ r) (h1 : r < m.length) : ∃ x ∈ m, atI l r = some (f x) := by
  obtain ⟨x, hx, h⟩ := pickG h0 h1
  exact ⟨x, hx, by rw [e]; exact atI_map h⟩
end Dn

/-! texts that were joined: split and words give the parts back -/
namespace Dn
open PySem PySem.Spec PyProof.Rows L2 Pr
theorem st_ext {a b : Str} (h : a.cps.toList = b.cps.toList) : a = b := Str.ext' (Array.toList_inj.mp h)
/-- a word -/
structure Tok1 (t : Str) : Prop where
  pos : t.length ≠ 0
  no : ∀ c ∈ t.cps.toList, Unicode.isSpace c = false
theorem fold_tok : ∀ (l : List Nat) (ws : List Str) (run : Str), (∀ c ∈ l, Unicode.isSpace c = false) → l.foldl PySem.KWd.step (ws, run) = (ws, run ++ ⟨l.toArray⟩)
  | [], ws, run, _ => by
    have : run ++ (⟨#[]⟩ : Str) = run := st_ext (by rw [app_cps]; simp)
    show (ws, run) = (ws, run ++ (⟨#[]⟩ : Str))
    rw [this]
  | c :: l, ws, run, h => by
    rw [List.foldl_cons]
    have e : PySem.KWd.step (ws, run) c = (ws, run ++ ⟨#[c]⟩) := by
      unfold PySem.KWd.step
      rw [if_neg (by rw [h c List.mem_cons_self]; decide)]
    rw [e, fold_tok l ws _ fun c' hc => h c' (List.mem_cons_of_mem _ hc)]
    have : run ++ (⟨#[c]⟩ : Str) ++ ⟨l.toArray⟩ = run ++ ⟨(c :: l).toArray⟩ := st_ext (by simp [app_cps])
    rw [this]
theorem nil_appD (a : Str) : Str.empty ++ a = a := st_ext (by rw [app_cps]; rfl)
theorem fold_str {t : Str} {ws : List Str} (h : ∀ c ∈ t.cps.toList, Unicode.isSpace c = false) : t.cps.toList.foldl PySem.KWd.step (ws, Str.empty) = (ws, t) := by
  rw [fold_tok _ ws Str.empty h, nil_appD]
theorem sp_toList : (" " : Str).cps.toList = [32] := by decide +kernel
theorem fold_join : ∀ (ts : List Str) (t : Str) (ws : List Str), (∀ x ∈ t :: ts, Tok1 x) → PySem.KWd.fin ((Str.join " " (t :: ts)).cps.toList.foldl PySem.KWd.step (ws, Str.empty)) = ws ++ t :: ts
  | [], t, ws, h => by
    have h1 := h t List.mem_cons_self
    show PySem.KWd.fin (t.cps.toList.foldl _ _) = _
    rw [fold_str h1.no]
    unfold PySem.KWd.fin
    rw [if_neg h1.pos]
  | u :: r, t, ws, h => by
    have h1 := h t List.mem_cons_self
    show PySem.KWd.fin ((t ++ " " ++ Str.join " " (u :: r)).cps.toList.foldl _ _) = _
    rw [app_cps, app_cps, List.foldl_append, List.foldl_append, fold_str h1.no, sp_toList]
    have e : [32].foldl PySem.KWd.step (ws, t) = (ws ++ [t], Str.empty) := by
      show PySem.KWd.step (ws, t) 32 = _
      unfold PySem.KWd.step
      rw [if_pos (by decide +kernel), if_neg h1.pos]
    rw [e, fold_join r u (ws ++ [t]) fun x hx => h x (List.mem_cons_of_mem _ hx), List.append_assoc]
    rfl
theorem words_join {t : Str} {ts : List Str} (h : ∀ x ∈ t :: ts, Tok1 x) : Txt.words (Str.join " " (t :: ts)) = t :: ts := by
  rw [PySem.KWd.words_scan]
  unfold PySem.KWd.scan
  rw [fold_join ts t [] h, List.nil_append]
theorem words_blank {x : Str} : Txt.words (" " ++ x) = Txt.words x := by
  rw [PySem.KWd.words_scan, PySem.KWd.words_scan]
  unfold PySem.KWd.scan
  rw [app_cps, List.foldl_append, sp_toList]
  rfl
/-! parts free of a sign -/
theorem cut_uniq {c : Nat} : ∀ {l1 l2 r1 r2 : List Nat}, c ∉ l1 → c ∉ l2 → l1 ++ c :: r1 = l2 ++ c :: r2 → l1 = l2 ∧ r1 = r2
  | [], [], _, _, _, _, h => ⟨rfl, (List.cons.inj h).2⟩
  | [], b :: l2, _, _, _, n2, h => absurd List.mem_cons_self (by rw [← (List.cons.inj h).1] at n2; exact n2)
  | a :: l1, [], _, _, n1, _, h => absurd List.mem_cons_self (by rw [(List.cons.inj h).1] at n1; exact n1)
  | a :: l1, b :: l2, _, _, n1, n2, h => by
    obtain ⟨e, h⟩ := List.cons.inj h
    obtain ⟨h1, h2⟩ := cut_uniq (fun z => n1 (List.mem_cons_of_mem _ z)) (fun z => n2 (List.mem_cons_of_mem _ z)) h
    exact ⟨by rw [e, h1], h2⟩
theorem join_cons2 {s x y : Str} {r : List Str} : (Str.join s (x :: y :: r)).cps.toList = x.cps.toList ++ (s.cps.toList ++ (Str.join s (y :: r)).cps.toList) := by
  show (x ++ s ++ Str.join s (y :: r)).cps.toList = _
  rw [app_cps, app_cps, List.append_assoc]
theorem join_uniq {c : Nat} : ∀ {l m : List Str}, l ≠ [] → m ≠ [] → (∀ x ∈ l, c ∉ x.cps.toList) → (∀ x ∈ m, c ∉ x.cps.toList) → Str.join ⟨#[c]⟩ l = Str.join ⟨#[c]⟩ m → l = m
  | [], _, n, _, _, _, _ => absurd rfl n
  | _, [], _, n, _, _, _ => absurd rfl n
  | [x], [y], _, _, _, _, h => by rw [show x = y from h]
  | [x], y :: z :: r, _, _, h1, _, h => by
    have e := congrArg (fun s => s.cps.toList) h
    rw [join_cons2] at e
    have : c ∈ x.cps.toList := by
      rw [show x.cps.toList = _ from e]
      simp
    exact absurd this (h1 x List.mem_cons_self)
  | x :: z :: r, [y], _, _, _, h2, h => by
    have e := congrArg (fun s => s.cps.toList) h
    rw [join_cons2] at e
    have : c ∈ y.cps.toList := by
      rw [show y.cps.toList = _ from e.symm]
      simp
    exact absurd this (h2 y List.mem_cons_self)
  | x :: x2 :: r, y :: y2 :: t, _, _, h1, h2, h => by
    have e := congrArg (fun s => s.cps.toList) h
    rw [join_cons2, join_cons2] at e
    obtain ⟨e1, e2⟩ := cut_uniq (h1 x List.mem_cons_self) (h2 y List.mem_cons_self) e
    rw [st_ext e1, join_uniq (l := x2 :: r) (m := y2 :: t) (by simp) (by simp) (fun z hz => h1 z (List.mem_cons_of_mem _ hz)) (fun z hz => h2 z (List.mem_cons_of_mem _ hz)) (st_ext e2)]
theorem split_join {c : Nat} {l : List Str} (hl : l ≠ []) (h : ∀ x ∈ l, c ∉ x.cps.toList) : Txt.split (Str.join ⟨#[c]⟩ l) ⟨#[c]⟩ = l := by
  refine join_uniq ?_ hl (StrLaws.split_free _ c) h (StrLaws.join_split _ _)
  intro e
  have := split_pos (Str.join ⟨#[c]⟩ l) ⟨#[c]⟩
  rw [e] at this
  exact absurd this (by decide)
end Dn

/-! three names at once -/
namespace Dn
open PySem PySem.Spec PyProof.Rows L2 Pr LamX
section
variable {X : Cx} {K : PySem.W.Frag} {E : XK} {e : DX} {a b c : Expr} {ts : DTA} {pos : Pos}
@[reducible] def dPar3 (i j l : Nat) (t : DTA) : DTS := fun D δ S => t δ S fun xs S1 => match xs with
  | [x, y, z] => D.nx (putS (putS (putS δ i x) j y) l z) S1
  | _ => False
theorem ds_par3 {i j l : Nat} {x y z : Str} {px py pz pt : Pos} {kt k2 pt2} (hc : X.calm = true) (hN : X.N.Nodup) (hi : X.N[i]? = some x) (hj : X.N[j]? = some y) (hl : X.N[l]? = some z) (hij : i ≠ j) (hil : i ≠ l) (hjl : j ≠ l)
    (hx : X.env.scope.names.lookup x = some .local) (hy : X.env.scope.names.lookup y = some .local) (hz : X.env.scope.names.lookup z = some .local) (ha : PA X [a, b, c] (tDA K E e ts))
    (hw : swappedStores [.Tuple [.Name x px, .Name y py, .Name z pz] kt pt] (.Tuple [a, b, c] k2 pt2) X.env = pure (some [x, y, z]))
    (hs : swapsWithSole [.Tuple [.Name x px, .Name y py, .Name z pz] kt pt] (.Tuple [a, b, c] k2 pt2) pos.line X.env = pure false := by rfl) :
    PS X (.Assign [.Tuple [.Name x px, .Name y py, .Name z pz] kt pt] (.Tuple [a, b, c] k2 pt2) pos) (tDS K E e (dPar3 i j l ts)) := PS.imp (ps_par3 hc hN hi hj hl hij hil hjl hx hy hz ha hw hs) fun D σ H h => by
  obtain ⟨δ, S, Z, DD, t, h, k⟩ := h
  refine ⟨δ, S, Z, _, t, h, fun vs xs H1 S1 g1 x1 r1 h1 => ?_⟩
  match xs, h1 with
  | [x, y, z], h1 =>
    obtain ⟨v, _, rfl, rv, w, _, rfl, rw', u, _, rfl, ru, rfl⟩ := r1
    exact ⟨v, w, u, rfl, k.nx _ _ _ _ g1 x1 ((((t.sl.ext x1).put rv).put rw').put ru) h1⟩
end
end Dn

/-! texts joined: their signs and lengths -/
namespace Dn
open PySem PySem.Spec PyProof.Rows L2 Pr LamX
theorem join_signs {s : Str} {c : Nat} : ∀ {ys : List Str}, c ∈ (Str.join s ys).cps.toList → c ∈ s.cps.toList ∨ ∃ y ∈ ys, c ∈ y.cps.toList
  | [], h => by simp [Str.join, Str.empty] at h
  | [x], h => .inr ⟨x, List.mem_cons_self, h⟩
  | x :: y :: r, h => by
    rw [join_cons2] at h
    rcases List.mem_append.mp h with h | h
    · exact .inr ⟨x, List.mem_cons_self, h⟩
    · rcases List.mem_append.mp h with h | h
      · exact .inl h
      · rcases join_signs h with h | ⟨z, hz, h⟩
        · exact .inl h
        · exact .inr ⟨z, List.mem_cons_of_mem _ hz, h⟩
theorem join_len {s : Str} {k : Nat} : ∀ {ys : List Str}, (∀ y ∈ ys, y.length ≤ k) → (Str.join s ys).length ≤ ys.length * (k + s.length)
  | [], _ => Nat.zero_le _
  | [x], h => by
    have := h x List.mem_cons_self
    show x.length ≤ 1 * (k + s.length)
    omega
  | x :: y :: r, h => by
    have h1 := h x List.mem_cons_self
    have h2 := join_len (s := s) (ys := y :: r) fun z hz => h z (List.mem_cons_of_mem _ hz)
    rw [len_cps, join_cons2, List.length_append, List.length_append, ← len_cps, ← len_cps, ← len_cps, List.length_cons, Nat.add_mul]
    omega
theorem sok_join {s : Str} {k : Nat} {ys : List Str} (hs : SOk s) (hy : ∀ y ∈ ys, SOk y ∧ y.length ≤ k) (hb : ys.length * (k + s.length) ≤ 16777216) : SOk (Txt.join s ys) ∧ (Txt.join s ys).length ≤ ys.length * (k + s.length) := by
  rw [TL.join_eq]
  have h1 := join_len (s := s) (ys := ys) fun y h => (hy y h).2
  refine ⟨⟨Nat.le_trans h1 hb, ?_⟩, h1⟩
  rw [sok_all]
  intro c hc
  rcases join_signs hc with h | ⟨y, h, h2⟩
  · exact sok_all.mp hs.ok c h
  · exact sok_all.mp (hy y h).1.ok c h2
theorem sum_len {k : Nat} : ∀ {ys : List Str}, (∀ y ∈ ys, y.length ≤ k) → (ys.map (·.length)).sum ≤ ys.length * k
  | [], _ => Nat.zero_le _
  | x :: r, h => by
    have h1 := h x List.mem_cons_self
    have h2 := sum_len (ys := r) fun z hz => h z (List.mem_cons_of_mem _ hz)
    rw [List.map_cons, List.sum_cons, List.length_cons, Nat.add_mul]
    omega
theorem join_go {s : Str} {k : Nat} {ys : List Str} {x : Dt} {S : Store} {q : DK} (hx : x = .tup (ys.map Dt.str) ∨ x = .lst (ys.map Dt.str)) (hs : SOk s) (hy : ∀ y ∈ ys, SOk y ∧ y.length ≤ k) (hb : ys.length * (k + s.length) ≤ 16777216) (h : q (.str (Txt.join s ys)) S) : rmJoin (.str s) [x] S q := by
  have g : ∃ zs : List Str, ys.map Dt.str = zs.map Dt.str ∧ ((zs.map (·.length)).sum + zs.length * s.length ≤ 16777216 ∧ SOk (Txt.join s zs)) ∧ q (.str (Txt.join s zs)) S := by
    refine ⟨ys, rfl, ⟨?_, (sok_join hs hy hb).1⟩, h⟩
    have := sum_len (ys := ys) fun y h => (hy y h).2
    rw [Nat.mul_add] at hb
    omega
  rcases hx with rfl | rfl
  · exact g
  · exact g
theorem sok_of {z : Str} (h : (decide (z.length ≤ 16777216) && PySem.PyData.strOk z) = true) : SOk z := by
  rw [Bool.and_eq_true, decide_eq_true_iff] at h
  exact ⟨h.1, h.2⟩
end Dn

/-! sorted of data; sorted by a key -/
namespace Dn
open PySem PySem.Spec PyProof.Rows L2 Pr
open PySem.W (EachIs AllAlike Sortable dataLe)
/-- what may be compared, all with all -/
structure SrtOk (l : List Dt) : Prop where
  dat : areDat l = true
  alike : AllAlike (pys l)
  srt : Sortable (pys l)
  dep : ∀ d ∈ l, (py d).depth ≤ 60
def srtD (key : Dt → Dt) (l : List Dt) : List Dt := l.mergeSort (dataLe false fun d => py (key d))
theorem each_of {G : Hp} {K : PySem.W.Frag} : ∀ {l : List Dt} {vs : List V} {us : List Value}, Reps K G l vs → Vals vs us → EachIs (fun u d => ∃ v, RelV v u ∧ Rep K G d v) us l
  | [], vs, us, h, r => by
    have h : vs = [] := h
    subst h
    cases r
    exact .nil
  | d :: l, vs, us, ⟨v, t, e, h1, h2⟩, r => by
    subst e
    cases r with
    | cons r1 r2 => exact .cons ⟨v, r1, h1⟩ (each_of h2 r2)
theorem of_each {G : Hp} {K : PySem.W.Frag} : ∀ {l : List Dt} {us : List Value}, EachIs (fun u d => ∃ v, RelV v u ∧ Rep K G d v) us l → ∃ vs, Reps K G l vs ∧ Vals vs us
  | [], us, h => by cases h; exact ⟨[], rfl, .nil⟩
  | d :: l, us, h => by
    cases h with
    | cons h1 h2 =>
      obtain ⟨v, r, q⟩ := h1
      obtain ⟨vs, a, b⟩ := of_each h2
      exact ⟨v :: vs, ⟨v, vs, rfl, q, a⟩, .cons r b⟩
@[reducible] def rcSortX : DCr := fun xs S q => match xs with
  | [x] => seeL x S fun l => SrtOk l ∧ q (.lst (srtD id l)) S
  | _ => False
section
variable {X : Cx} {K : PySem.W.Frag}
theorem srt_reads {pins : List (Addr × Obj)} {σ : L2.St} {H : Hp} {s : Shared} {Z : Hp} {S : Store} {l : List Dt} {vs : List V} {us : List Value} (I : Inv X pins σ H s) (hK : X.K = K) (ok : SrtOk l) (rs : Reps K (out H S Z) l vs) (r : Vals vs us) :
    EachIs (fun v d => ∃ as, Reads s.heap v (py d) as) us l := by
  subst hK
  obtain ⟨as, ra⟩ := Dp.readsAll I (pys l) vs us (Reps.dp l vs ok.dat rs) r
  rw [pys_map] at ra
  exact PySem.W.readsAll_each py ra
theorem cd_sortX (hK : X.K = K) (hu : X.A.units + 65 < cLine) : CallR X (.builtin "sorted") (rDC K rcSortX) := fun pins s σ H xs us Q I r ⟨ds, S, Z, q, g, rs, h, k⟩ => by
  obtain ⟨x, rfl, h⟩ := one_arg h
  obtain ⟨v, rfl, rv⟩ := reps1 rs
  obtain ⟨a, vs, l, rfl, h1, h2, ok, h3⟩ := see_lst g rv h
  obtain ⟨u, rfl, ru⟩ := vals1 r
  obtain rfl : u = Value.ref a := ru
  obtain ⟨its, rv2, hl, hz⟩ := I.list (SqL.of h1)
  have e1 := each_of h2 rv2
  have al := ok.alike
  have sr := ok.srt
  rw [pys_map] at al sr
  refine PySem.W.sorted_data (enc := py) hl.isList e1 (srt_reads I hK ok h2 rv2) al sr (by rw [h2.len]; exact hz) (fun d hd => by have := ok.dep d hd; omega) fun out' hlen he => ?_
  obtain ⟨ws, w1, w2⟩ := of_each he
  obtain ⟨ep, hep⟩ := PyProof.Rows.sortedAll_at s.heap its (List.toArray out')
  have np : H (s.heap.objs.size + 1) = none := I.hok.fresh (Nat.le_succ _)
  have lenw : ws.length ≤ sizeLine := by rw [w2.length, hlen, h2.len]; exact hz
  refine ⟨.ref _, upd H (s.heap.objs.size + 1) (.lst ws), I.laid (t' := s.toks) (fun _ _ => PyProof.Rows.sortedAll_old) (Nat.le_succ _) ⟨lenw, out', ep, w2, hep⟩, rfl, k.new g np h3 ⟨_, _, rfl, out_new g np, ?_⟩⟩
  exact Reps.ext (ext_new g np) _ _ w1
end
/-! ## by a key -/
/-- the object of a list -/
abbrev lsO (xs : Array Value) (n : Nat) : Obj := ⟨.type "list", none, .seq xs n, #[]⟩
section
variable {X : Cx} {pins : List (Addr × Obj)} {σ : L2.St} {H : Hp} {s : Shared}
/-- an object of ours, told from now on -/
theorem inv_track {D : Addr} {o : HO} (I : Inv X pins σ H s) (hn : H D = none) (h0 : X.s_0.heap.objs.size ≤ D) (hL : D ≠ X.env.locals) (hc : ∀ x c, X.env.cells.lookup x = some c → c ≠ D) (hp : ∀ p ∈ X.pn ++ pins, p.1 ≠ D)
    (new : ObjOk X.prog X.w (upd H D o) s.heap D o) : Inv X pins σ (upd H D o) s := by
  have u := I.base
  have some_ne : ∀ {b : Addr} {x : HO}, H b = some x → b ≠ D := fun {b x} e z => by rw [z, hn] at e; cases e
  refine ⟨I.ok, I.os, I.bare, ⟨u.keep, u.slot, fun b ob e n nx => ?_, u.there, fun b xs e => ?_, fun b ob x e => ?_, fun b ps e => ?_⟩, I.loc, I.cell, ?_, fun x c e => ?_, fun p hm => ?_, ?_, I.len⟩
  · have hb : b ≠ D := fun z => Nat.not_lt.mpr h0 (z ▸ Heap.lt_size e)
    rw [upd_ne hb]
    exact u.free b ob e n nx
  · have q := u.tups b xs e
    rw [upd_ne (some_ne q)]
    exact q
  · have q := u.frzs b ob x e
    rw [upd_ne (some_ne q)]
    exact q
  · obtain ⟨more, q⟩ := u.tbls b ps e
    refine ⟨more, ?_⟩
    rw [upd_ne (some_ne q)]
    exact q
  · rw [upd_ne (Ne.symm hL)]
    exact I.free
  · rw [upd_ne (hc x c e)]
    exact I.freeC x c e
  · obtain ⟨a, b, c⟩ := I.pin p hm
    refine ⟨a, ?_, c⟩
    rw [upd_ne (hp p hm)]
    exact b
  · exact I.hok.laidN (fun _ _ z => z) hn new
theorem unpin1 {p : Addr × Obj} (I : Inv X (p :: pins) σ H s) : Inv X pins σ H s := I.pins_of fun r hr => I.pin r (List.mem_append_right _ (List.mem_cons_of_mem _ hr))
/-- an object of ours changes: all that must be known of its address -/
structure Ours (X : Cx) (pins : List (Addr × Obj)) (D : Addr) : Prop where
  new : X.s_0.heap.objs.size ≤ D
  loc : D ≠ X.env.locals
  cel : ∀ x c, X.env.cells.lookup x = some c → c ≠ D
  fs : D ∉ X.fs
  pin : ∀ p ∈ X.pn ++ pins, p.1 ≠ D
theorem ours_of {D : Addr} (I : Inv X pins σ H s) (h : s.heap.objs.size ≤ D) : Ours X pins D := by
  have no : ∀ b o, s.heap.get? b = some o → b ≠ D := fun b o e z => Nat.not_lt.mpr h (z ▸ Heap.lt_size e)
  refine ⟨Nat.le_trans I.sz h, fun z => ?_, fun x c e => ?_, I.nofs h, fun p hp => no _ _ (I.pin p hp).1⟩
  · exact Nat.not_lt.mpr h (z ▸ I.lt)
  · obtain ⟨v, o, ho, _⟩ := I.cell x c e
    exact no c o ho
/-- a pinned list gets another content -/
theorem pin_turn {D : Addr} {o o' : Obj} {h' : Heap} {t' : Nat} (I : Inv X ((D, o) :: pins) σ H s) (O : Ours X pins D) (k : ∀ b u, b ≠ D → s.heap.get? b = some u → h'.get? b = some u) (e : h'.get? D = some o') (hd : ∀ v, o'.data ≠ .cell v) :
    Inv X ((D, o') :: pins) σ H { s with heap := h', toks := t' } := by
  have hn := (I.pin (D, o) (List.mem_append_right _ List.mem_cons_self)).2.1
  have J : Inv X pins σ H { s with heap := h', toks := t' } := (unpin1 I).turned k hn O.loc (.inr O.new) O.cel O.pin
  refine J.pins_of fun p hp => ?_
  rcases List.mem_cons.mp hp with rfl | hp
  · exact ⟨e, hn, O.loc, O.fs, hd⟩
  · exact J.pin p (List.mem_append_right _ hp)
theorem pin_swap {p q : Addr × Obj} (I : Inv X (p :: q :: pins) σ H s) : Inv X (q :: p :: pins) σ H s := I.pins_of fun r hr => I.pin r (List.mem_append_right _ (by
  rcases List.mem_cons.mp hr with rfl | hr
  · exact List.mem_cons_of_mem _ List.mem_cons_self
  · rcases List.mem_cons.mp hr with rfl | hr
    · exact List.mem_cons_self
    · exact List.mem_cons_of_mem _ (List.mem_cons_of_mem _ hr)))
theorem Ours.more {D : Addr} (O : Ours X pins D) {p : Addr × Obj} (h : p.1 ≠ D) : Ours X (p :: pins) D := ⟨O.new, O.loc, O.cel, O.fs, fun q hq => by
  rcases List.mem_append.mp hq with z | z
  · exact O.pin q (List.mem_append_left _ z)
  · rcases List.mem_cons.mp z with rfl | z
    · exact h
    · exact O.pin q (List.mem_append_right _ z)⟩
/-- one that is ours is pinned -/
theorem pin_new {D : Addr} {o : Obj} (I : Inv X pins σ H s) (O : Ours X pins D) (hn : H D = none) (e : s.heap.get? D = some o) (hd : ∀ v, o.data ≠ .cell v) : Inv X ((D, o) :: pins) σ H s := I.pins_of fun p hp => by
  rcases List.mem_cons.mp hp with rfl | hp
  · exact ⟨e, hn, O.loc, O.fs, hd⟩
  · exact I.pin p (List.mem_append_right _ hp)
end
end Dn

/-! sorted(xs, key=f): f a def or a lambda that changes nothing -/
namespace Dn
open PySem PySem.Spec PyProof.Rows L2 Pr
open PySem.W (EachIs AllAlike Sortable dataLe SortsAt copyHeap sortingHeap sortVals sort_out)
section
variable {prog : Program} {w : World} {A : Around} {E : Value → Shared → Prop} {s : Shared} {D kS : Addr} {vs : List Value} {keys : Array Value} {e e1 : Nat} {P : PySem.Fin → Shared → Prop}
/-- the end: the keys are let go, the list gets what is sorted -/
theorem key_last {st : SortSt} {o : List Value} (nk : s.heap.get? kS = some (seqObj "list" keys e)) (na : s.heap.get? D = some (seqObj "list" #[] e1)) (hka : kS ≠ D) (hs : keys.size ≤ sizeLine) (hz : o.length ≤ sizeLine) (hf : failedOf st = none) (ho : (arrOf st).map (·.2) = o.toArray)
    (h : ∀ tk, P (.done (.ret .none)) { s with heap := (s.heap.update kS (Obj.mapSeq fun _ => #[])).update D (Obj.mapSeq fun _ => o.toArray), toks := tk }) : wpAny (model prog w) A (ksk_tail D false e1 (.ref kS) st) P E s := by
  have na1 : (s.heap.update kS (Obj.mapSeq fun _ => (#[] : Array Value))).get? D = some (seqObj "list" #[] e1) := ((Heap.SameBut.update s.heap kS _).2 D hka.symm).trans na
  have hz2 : o.toArray.size ≤ sizeLine + 1 := by
    rw [List.size_toArray]
    omega
  unfold ksk_tail
  try dsimp only
  rw [ho]
  refine wpAny_bind (listUpdate_at nk rfl ?_ hs (Nat.zero_le _))
  refine wpAny_bind (wpAny_letGo ?_)
  refine wpAny_bind (seqEpoch_at na1 rfl ?_)
  refine wpAny_bind (listUpdate_at na1 rfl ?_ (Nat.zero_le _) hz2)
  rw [hf]
  simp only [bne_self_eq_false, Bool.false_eq_true, if_false]
  exact wpAny_pure (h _)
theorem key_sorts {κ : PyProof.Rows.KeyKind} (nk : s.heap.get? kS = some (seqObj "list" keys e)) (na : s.heap.get? D = some (seqObj "list" #[] e1)) (hka : kS ≠ D) (S : SortsAt prog w A s κ keys.toList) (hsz : keys.size = vs.length) (hZ : vs.length ≤ sizeLine)
    (h : ∀ tk, P (.done (.ret .none)) { s with heap := (s.heap.update kS (Obj.mapSeq fun _ => #[])).update D (Obj.mapSeq fun _ => (sortVals κ false keys.toList vs).toArray), toks := tk }) :
    wpAny (model prog w) A (ksk_end D false vs.toArray e1 (.ref kS) keys) P E s := by
  obtain ⟨kd, h1, h2⟩ := S.kind
  have hK : PyProof.Rows.KeysOf κ (keys.zip vs.toArray) := PySem.W.keysOf_zip S.keys
  have hol : (sortVals κ false keys.toList vs).length ≤ sizeLine := by
    rw [PySem.W.sortVals_length false (by rw [Array.length_toList]; exact hsz)]
    exact hZ
  have hss : (keys.zip vs.toArray).size = vs.length := by rw [Array.size_zip, hsz, List.size_toArray, Nat.min_self]
  have fin : ∀ st' : SortSt, (arrOf st').Perm (keys.zip vs.toArray) → SortedToK κ (arrOf st') (keys.zip vs.toArray).size → Stable κ (arrOf st') (keys.zip vs.toArray) → (arrOf st').map (·.2) = (sortVals κ false keys.toList vs).toArray := fun st' hp hs ht => by
    have q := congrArg List.toArray (sort_out (rev := false) (keys := keys) (items := vs.toArray) (xs := arrOf st') (κ := κ) hK hp hs ht)
    rw [Array.toArray_toList] at q
    exact q
  unfold ksk_end
  try dsimp only
  simp only [Bool.false_eq_true, if_false]
  by_cases hl : vs.toArray.size < 2
  · rw [if_pos hl, if_pos hl]
    refine wpAny_bind (wpAny_pure ?_)
    rw [StateT.run_pure]
    refine wpAny_bind (wpAny_pure ?_)
    try dsimp only
    refine key_last (st := SortSt.mk' general' (keys.zip vs.toArray) #[] 7 none) nk na hka (by rw [hsz]; exact hZ) hol rfl (fin _ (Array.Perm.refl _) (fun i j hij hj => ?_) (Stable.refl _)) h
    rw [hss] at hj
    rw [List.size_toArray] at hl
    have : i = j := by omega
    subst this
    exact KeyOrd.kle_refl _
  · rw [if_neg hl, if_neg hl]
    rw [List.size_toArray] at hl
    refine wpAny_bind (h2 (by rw [Array.length_toList]; omega) _ ?_)
    refine wpAny_bind (wpAny_mono (H.wpS_sortRunsSt (κ := κ) (kd := kd) (a₀ := keys.zip vs.toArray) (st := SortSt.mk' kd (keys.zip vs.toArray) #[] 7 none)
      (Q := fun _ st' => failedOf st' = none ∧ (arrOf st').map (·.2) = (sortVals κ false keys.toList vs).toArray)
      h1 hK ⟨Array.Perm.refl _, rfl, rfl⟩ rfl (Stable.refl _) (by rw [hss]; omega) fun st' a1 a2 a3 a4 => ⟨a2, fin st' a1 a3 a4⟩) ?_ fun _ _ e => e)
    rintro ⟨⟨⟩, st'⟩ s' ⟨rfl, hf, ho⟩
    try dsimp only at ho ⊢
    exact key_last nk na hka (by rw [hsz]; exact hZ) hol hf ho h
end
/-- what the call of the key's function gives: the key of each item, and nothing changes -/
def Turn (X : Cx) (K : PySem.W.Frag) (f : Value) (key : Dt → Dt) (l : List Dt) (G : Hp) (S : Store) (Z : Hp) : Prop :=
  ∀ (d : Dt) (pins : List (Addr × Obj)) (σ : L2.St) (H : Hp) (s : Shared) (u : V) (v : Value), d ∈ l → Inv X pins σ H s → Good K Z H S → Ext G (out H S Z) → Rep K (out H S Z) d u → RelV u v →
    wpAny (model X.prog X.w) X.A.in1.in1 (call f [v]) (EP X pins σ fun y H' => Good K Z H' S ∧ Ext (out H S Z) (out H' S Z) ∧ Rep K (out H' S Z) (key d) y) (fun _ _ => False) s
section
variable {X : Cx} {pins : List (Addr × Obj)} {σ : L2.St} {H : Hp} {s : Shared} {K : PySem.W.Frag} {Z : Hp} {S : Store} {l : List Dt} {vs : List V} {us : List Value} {f : Value} {key : Dt → Dt} {a : Addr} {Q : VK}
theorem reps_len {G : Hp} {l : List Dt} {vs : List V} {us : List Value} (h : Reps K G l vs) (r : Vals vs us) : l.length = us.length := h.len.trans r.length
/-- sorted(xs, key=f) -/
theorem sort_by (hK : X.K = K) (hu : X.A.units + 65 < cLine) (ht : ∀ x, Builtin.«list.sort» ⟨[.ref x], [(Str.ofString "key", f)]⟩ = ksk_tree x f false) (I : Inv X pins σ H s) (g : Good K Z H S) (hl : PlainL s.heap a us.toArray) (hz : vs.length ≤ sizeLine) (rs : Reps K (out H S Z) l vs) (rv : Vals vs us)
    (ok : SrtOk (l.map key)) (turn : Turn X K f key l (out H S Z) S Z)
    (k : ∀ p H', Good K Z H' S → Ext (out H S Z) (out H' S Z) → Rep K (out H' S Z) (.lst (srtD key l)) (.ref p) → Q (.ref p) H') :
    wpAny (model X.prog X.w) X.A (call (.builtin "sorted") [.ref a] [(Str.ofString "key", f)]) (EP X pins σ Q) X.xe s := by
  have hn : l.length = us.length := reps_len rs rv
  have hZ : us.length ≤ sizeLine := by rw [← rv.length]; exact hz
  refine PySem.W.sorted_of_sort hl.isList hZ (ksk_s1 _ _) (fun x => ksk_l1 _ _) fun E' => ?_
  rw [ht]
  have ho := PySem.W.copyHeap_at s.heap us
  obtain ⟨e1, ho1⟩ : ∃ e1, ((copyHeap s.heap us).update (s.heap.objs.size + 1) (Obj.mapSeq fun _ => (#[] : Array Value))).get? (s.heap.objs.size + 1) = some (seqObj "list" #[] e1) := ⟨_, get?_update_seq ho fun _ => #[]⟩
  have hD : s.heap.objs.size + 1 < (copyHeap s.heap us).objs.size := Heap.lt_size ho
  unfold ksk_tree
  refine wpAny_bind (listItems_at ho rfl ?_)
  refine wpAny_bind (listUpdate_at ho rfl ?_ (by rw [List.size_toArray]; exact hZ) (Nat.zero_le _))
  refine wpAny_bind (seqEpoch_at ho1 rfl ?_)
  refine wpAny_bind (wpAny_newTuple ?_ (by show us.length ≤ _; exact hZ))
  refine wpAny_bind (wpAny_newList ?_ (Nat.zero_le _))
  refine wpAny_holding ?_
  obtain ⟨D, eD⟩ : ∃ D, D = s.heap.objs.size + 1 := ⟨_, rfl⟩
  obtain ⟨kS, ekS⟩ : ∃ kS, kS = (((copyHeap s.heap us).update (s.heap.objs.size + 1) (Obj.mapSeq fun _ => (#[] : Array Value))).push (seqObj "tuple" us.toArray 0)).objs.size := ⟨_, rfl⟩
  have hkS : (copyHeap s.heap us).objs.size ≤ kS := by
    rw [ekS, size_push', Heap.size_update]
    exact Nat.le_succ _
  have hka : kS ≠ D := by omega
  have hold : ∀ b o, s.heap.get? b = some o → (sortingHeap (copyHeap s.heap us) (s.heap.objs.size + 1) us).get? b = some o := fun b o => PySem.W.sorting_copy_old
  have nk0 : (sortingHeap (copyHeap s.heap us) (s.heap.objs.size + 1) us).get? kS = some (seqObj "list" #[] 0) := by
    rw [ekS]
    exact Heap.get?_push_size _ rfl
  have na0 : (sortingHeap (copyHeap s.heap us) (s.heap.objs.size + 1) us).get? D = some (seqObj "list" #[] e1) := by
    rw [eD]
    exact Heap.get?_push_of_some _ (Heap.get?_push_of_some _ ho1)
  have OD : Ours X pins D := ours_of I (by omega)
  have OK : Ours X pins kS := ours_of I (by omega)
  have fD : H D = none := I.hok.fresh (by omega)
  have fK : H kS = none := I.hok.fresh (by omega)
  show wpAny _ _ (ksk_rest (s.heap.objs.size + 1) f false us.toArray e1 (.ref (((copyHeap s.heap us).update (s.heap.objs.size + 1) (Obj.mapSeq fun _ => (#[] : Array Value))).push (seqObj "tuple" us.toArray 0)).objs.size)) _ _ { s with heap := sortingHeap (copyHeap s.heap us) (s.heap.objs.size + 1) us }
  rw [← ekS, ← eD]
  rw [← eD] at nk0 na0
  have I0 : Inv X ((kS, seqObj "list" #[] 0) :: (D, seqObj "list" #[] e1) :: pins) σ H { s with heap := sortingHeap (copyHeap s.heap us) D us } := by
    have J : Inv X pins σ H { s with heap := sortingHeap (copyHeap s.heap us) D us } := I.kept (t' := s.toks) (by rw [eD]; exact hold)
    exact pin_new (pin_new J OD fD na0 fun v z => by cases z) (OK.more hka.symm) fK nk0 fun v z => by cases z
  have tk : ∀ i, i < us.length → ∃ d u, l[i]? = some d ∧ us[i]? = some u := fun i hi => ⟨_, _, List.getElem?_eq_getElem (by omega), List.getElem?_eq_getElem hi⟩
  unfold ksk_rest
  refine wpAny_bind (wpAny_rule ?_)
  first
    | rw [List.forIn_toArray]
    | (rw [← Array.forIn_toList]; simp only [List.toList_toArray])
    | rw [← Array.forIn_toList]
  refine wpAny_bind (ksk_fold (fun i s' => ∃ H' ks kA ep, Inv X ((kS, seqObj "list" kA ep) :: (D, seqObj "list" #[] e1) :: pins) σ H' s' ∧ Good K Z H' S ∧ Ext (out H S Z) (out H' S Z) ∧ Vals ks kA.toList ∧ Reps K (out H' S Z) ((l.take i).map key) ks) us 0 _
    ⟨H, [], #[], 0, I0, g, Ext.refl, .nil, rfl⟩ ?step ?done)
  case step =>
    rintro j x s' hx ⟨H', ks, kA, ep, I', g', x', r', q'⟩
    simp only [Nat.zero_add] at q' ⊢
    have hj : j < us.length := (List.getElem?_eq_some_iff.mp hx).1
    obtain ⟨d, _, hd, _⟩ := tk j hj
    obtain ⟨y, hy, ry⟩ := Paired.get (Reps.pair.mp rs) hd
    obtain ⟨x2, hx2, rx⟩ := rv.get hy
    obtain rfl : x = x2 := Option.some.inj (hx.symm.trans hx2)
    have lk : kA.size = j := by
      have h1 : ks.length = kA.size := by rw [Vals.length r', Array.length_toList]
      have h2 : min j l.length = ks.length := by rw [← q'.len, List.length_map, List.length_take]
      omega
    refine wpAny_bind (wpAny_attempt (wpAny_mono (turn d _ σ H' s' y x (List.mem_of_getElem? hd) I' g' x' (Rep.ext x' _ _ ry) rx) (fun v s'' he => ?_) fun _ _ hF => hF.elim))
    obtain ⟨z, H2, I2, rz, g2, x2', rk⟩ := he
    try dsimp only
    have nk2 : s''.heap.get? kS = some (seqObj "list" kA ep) := (I2.pin (kS, seqObj "list" kA ep) (List.mem_append_right _ List.mem_cons_self)).1
    refine wpAny_bind (listUpdate_at nk2 rfl ?_ (by omega) (by rw [Array.size_push]; omega))
    obtain ⟨c2, hc2⟩ : ∃ c2, (s''.heap.update kS (Obj.mapSeq (·.push v))).get? kS = some (seqObj "list" (kA.push v) c2) := ⟨_, get?_update_seq nk2 (·.push v)⟩
    refine wpAny_pure ⟨rfl, H2, ks ++ [z], kA.push v, c2, pin_turn (t' := s''.toks) I2 (OK.more hka.symm) (fun b u hb e => ((Heap.SameBut.update s''.heap kS _).2 b hb).trans e) hc2 (fun v z => by cases z), g2, x'.trans x2', ?_, ?_⟩
    · rw [Array.toList_push]
      exact r'.append (.cons rz .nil)
    · rw [List.take_add_one, hd, List.map_append]
      exact Reps.pair.mpr (Paired.app (Reps.pair.mp (Reps.ext x2' _ _ q')) (.cons rk .nil))
  case done =>
    rintro s' ⟨H', ks, kA, ep, I', g', x', r', q'⟩
    rw [Nat.zero_add, ← hn, List.take_length] at q'
    have nk' : s'.heap.get? kS = some (seqObj "list" kA ep) := (I'.pin (kS, seqObj "list" kA ep) (List.mem_append_right _ List.mem_cons_self)).1
    have na' : s'.heap.get? D = some (seqObj "list" #[] e1) := (I'.pin (D, seqObj "list" #[] e1) (List.mem_append_right _ (List.mem_cons_of_mem _ List.mem_cons_self))).1
    have lk : kA.size = us.length := by
      have h1 : ks.length = kA.size := by rw [Vals.length r', Array.length_toList]
      have h2 : l.length = ks.length := by rw [← q'.len, List.length_map]
      omega
    have hr : EachIs (fun v d => ∃ as, Reads s'.heap v (py d) as) kA.toList (l.map key) := srt_reads I' hK ok q' r'
    have al := ok.alike
    have sr := ok.srt
    rw [pys_map] at al sr
    have hr2 : EachIs (fun v d => ∃ as, Reads s'.heap v d as) kA.toList ((l.map key).map py) := by
      have go : ∀ {us : List Value} {ds : List Dt}, EachIs (fun v d => ∃ as, Reads s'.heap v (py d) as) us ds → EachIs (fun v d => ∃ as, Reads s'.heap v d as) us (ds.map py) := fun {us ds} h => by
        induction h with
        | nil => exact .nil
        | cons h1 h2 ih => exact .cons h1 ih
      exact go hr
    try dsimp only
    refine wpAny_bind (listItems_at nk' rfl ?_)
    refine key_sorts (κ := PySem.W.dataKind s'.heap ((l.map key).map py)) nk' na' hka (SortsAt.data hr2 al sr fun d hd => ?_) lk hZ fun tk => ⟨rfl, ?_⟩
    · obtain ⟨m, hm, rfl⟩ := List.mem_map.mp hd
      have := ok.dep m hm
      show X.A.units + 1 + 1 + _ < _
      omega
    have ej := PySem.W.keyedOut_each (rev := false) (β := Dt) (R := fun u d => ∃ v, RelV v u ∧ Rep K (out H S Z) d v) (bs := l) (vs := us) (fun d => py (key d)) ⟨s'.heap, kA.toList, by rw [List.map_map] at al; exact al, rfl, by rw [List.map_map] at hr2; exact hr2⟩ (each_of rs rv)
    obtain ⟨ws, w1, w2⟩ := of_each ej
    have e3 : ((l.map key).map py) = l.map fun d => py (key d) := by rw [List.map_map]; rfl
    rw [e3]
    obtain ⟨c3, hc3⟩ : ∃ c3, ((s'.heap.update kS (Obj.mapSeq fun _ => (#[] : Array Value))).update D (Obj.mapSeq fun _ => (sortVals (PySem.W.dataKind s'.heap (l.map fun d => py (key d))) false kA.toList us).toArray)).get? D = some (seqObj "list" (sortVals (PySem.W.dataKind s'.heap (l.map fun d => py (key d))) false kA.toList us).toArray c3) :=
      ⟨_, get?_update_seq (((Heap.SameBut.update s'.heap kS _).2 D hka.symm).trans na') fun _ => _⟩
    have J1 : Inv X pins σ H' { s' with heap := s'.heap.update kS (Obj.mapSeq fun _ => (#[] : Array Value)), toks := tk } := by
      exact unpin1 (unpin1 (pin_turn (t' := tk) I' (OK.more hka.symm) (fun b u hb e => ((Heap.SameBut.update s'.heap kS _).2 b hb).trans e) (get?_update_seq nk' fun _ => #[]) fun v z => by cases z))
    have hn' : H' D = none := (I'.pin (D, seqObj "list" #[] e1) (List.mem_append_right _ (List.mem_cons_of_mem _ List.mem_cons_self))).2.1
    have J2 : Inv X pins σ H' { s' with heap := (s'.heap.update kS (Obj.mapSeq fun _ => (#[] : Array Value))).update D (Obj.mapSeq fun _ => (sortVals (PySem.W.dataKind s'.heap (l.map fun d => py (key d))) false kA.toList us).toArray), toks := tk } := by
      exact J1.turned (t' := tk) (fun b u hb e => ((Heap.SameBut.update _ D _).2 b hb).trans e) hn' OD.loc (.inr OD.new) OD.cel OD.pin
    have J3 := inv_track (o := .lst ws) J2 hn' OD.new OD.loc OD.cel OD.pin ⟨by rw [w2.length, PySem.W.sortVals_length false (by rw [Array.length_toList]; exact lk)]; exact hZ, _, c3, w2, hc3⟩
    have gg : Good K Z (upd H' D (.lst ws)) S := g'.new hn'
    refine ⟨.ref D, upd H' D (.lst ws), J3, rfl, k D _ gg (x'.trans (ext_new g' hn')) ⟨D, ws, rfl, out_new g' hn', Reps.ext (x'.trans (ext_new g' hn')) _ _ w1⟩⟩
end
end Dn

/-! sorted(xs, key=f) as rules -/
namespace Dn
open PySem PySem.Spec PyProof.Rows L2 Pr LamX NdefX
@[reducible] def oneD (xs : List Dt) (k : Dt → Prop) : Prop := match xs with
  | [x] => k x
  | _ => False
theorem oneD_of {xs : List Dt} {k : Dt → Prop} (h : oneD xs k) : ∃ x, xs = [x] ∧ k x := by
  match xs, h with
  | [x], h => exact ⟨x, rfl, h⟩
def rSK (X : Cx) (K : PySem.W.Frag) : List V → List V → Hp → VK → Prop := fun xs zs H Q => ∃ x l key f S Z q, Good K Z H S ∧ Reps K (out H S Z) [x] xs ∧ zs = [.ref f] ∧ (seeL x S fun m => m = l) ∧ SrtOk (l.map key) ∧ Turn X K (.ref f) key l (out H S Z) S Z ∧ q (.lst (srtD key l)) S ∧ Ty K Z H S q Q
theorem clo_none {cells : List (Str × Addr)} {ns : List (Str × NameKind)} (h : ∀ y ∈ ns, y.2 ≠ .free) : cloFrom cells ns [] = [] := by
  induction ns with
  | nil => rfl
  | cons y r ih =>
    obtain ⟨n, kd⟩ := y
    have hk : kd ≠ .free := h (n, kd) List.mem_cons_self
    cases kd <;> first | exact absurd rfl hk | exact ih fun z hz => h z (List.mem_cons_of_mem _ hz)
section
variable {X : Cx} {K : PySem.W.Frag} {E : XK} {e : DX} {k j : Nat} {a : Expr} {da : DTA} {c : DSp}
theorem cr_sortK (hK : X.K = K) (hu : X.A.units + 65 < cLine) : CallRK X (.builtin "sorted") [Str.ofString "key"] (rSK X K) := fun pins s σ H xs zs us ws Q I r rz ⟨x, l, key, f, S, Z, q, g, rs, e, h, ok, turn, hq, k⟩ => by
  subst e
  obtain ⟨v, rfl, rv⟩ := reps1 rs
  obtain ⟨a, vs, m, rfl, h1, h2, rfl⟩ := see_lst g rv h
  obtain ⟨u, rfl, ru⟩ := vals1 r
  obtain rfl : u = Value.ref a := ru
  obtain ⟨w, rfl, rw'⟩ := vals1 rz
  obtain rfl : w = Value.ref f := rw'
  obtain ⟨its, rv2, hl, hz⟩ := I.list (SqL.of h1)
  exact sort_by (us := its) hK hu (fun x => ksk_t1 f x) I g (by simpa using hl) hz h2 rv2 ok turn fun p H' g' x' r' => k _ _ _ _ g' x' r' hq
/-- nothing may be raised -/
abbrev noE : XK := fun _ _ _ => False
/-- a def is called -/
theorem turn_fn {f : Addr} {fd : FuncData} {ps : List Str} {key : Dt → Dt} {l : List Dt} {G : Hp} {S : Store} {Z : Hp} (hK : X.K = K) (F : FnOk X.prog X.w K X.mg X.base (L2.CX X.prog X.w) k f fd ps (spD K c)) (hb : Binds K fd ps []) (hr : Room k X.A.in1.in1)
    (h : ∀ d ∈ l, ∀ q : DK, q (key d) S → c [d] S q noX) : Turn X K (.ref f) key l G S Z := fun d pins σ H s u v hd I g x r rv => by
  subst hK
  have sp : spD X.K c [u] H (fun y H' => Good X.K Z H' S ∧ Ext (out H S Z) (out H' S Z) ∧ Rep X.K (out H' S Z) (key d) y) noE :=
    ⟨[d], S, Z, fun y S' => y = key d ∧ S' = S, noX, g, ⟨u, [], rfl, r, rfl⟩, lk_no, h d hd _ ⟨rfl, rfl⟩, fun y z H' S' g' x' r' hq => by
      obtain ⟨rfl, rfl⟩ := hq
      exact ⟨g', x', r'⟩⟩
  have hl : ([v] ++ ([] : List Value)).length = ps.length := by rw [← F.len _ _ _ _ sp]; rfl
  refine wpAny_call (codeAny_mono (F.run X.A.in1.in1 X.stack s H ⟨[v], []⟩ ([v] ++ []) [u] _ noE hr I.env0.in1.in1 (hb s [v] I.kIn hl) (.cons rv .nil) sp) fun rr s' hq => ?_)
  cases rr with
  | error e =>
    obtain ⟨_, _, _, _, _, _, _, _, _, _, _, _, z⟩ := hq
    exact z
  | ok fl =>
    cases fl with
    | ret u => exact I.after hq
    | next => exact False.elim hq
    | brk => exact False.elim hq
    | cont => exact False.elim hq
@[reducible] def dSortK (c : DSp) (t : DTA) : DTE := fun δ S q => t δ S fun xs S1 => oneD xs fun x => seeL x S1 fun l => ∃ key : Dt → Dt, SrtOk (l.map key) ∧ (∀ d ∈ l, ∀ qq : DK, qq (key d) S1 → c [d] S1 qq noX) ∧ q (.lst (srtD key l)) S1
theorem see_eq {x : Dt} {S : Store} {k : List Dt → Prop} (h : seeL x S k) : ∃ l, (seeL x S fun m => m = l) ∧ k l := by
  cases x with
  | lst l => exact ⟨l, rfl, h⟩
  | ref a => obtain ⟨l, h1, h2⟩ := h; exact ⟨l, ⟨l, h1, rfl⟩, h2⟩
  | _ => exact h.elim
theorem de_sortK {x : Str} {p p1 kp pos : Pos} (hK : X.K = K) (hr : Room j X.A) (hk : k + 1 ≤ j) (cl : CalX X.prog X.w K X.mg X.base k x (spD K c) []) (hg : Gl X "sorted") (hm : X.mg "sorted" = none) (hgx : Gl X x) (ha : PA X [a] (tDA K E e da)) (hdx : (x == ("__debug__" : Str)) = false := by decide)
    (he : backTo pos (starEach [a] X.env) = (false, eval a X.env) :: backTo pos (starEach [] X.env) := by rfl) (hpl : (backTo pos (starEach [a] X.env)).any (·.1) = false := by rfl)
    (hall : (backToKw pos (keywordEach [⟨some "key", .Name x p1, kp⟩] X.env)).all (·.1.isSome) = true := by rfl) (hnone : (backToKw pos (keywordEach [⟨some "key", .Name x p1, kp⟩] X.env)).any (·.1.isNone) = false := by rfl) (hks : (backToKw pos (keywordEach [⟨some "key", .Name x p1, kp⟩] X.env)).filterMap (·.1) = [Str.ofString "key"] := by rfl) :
    PE X (.Call (.Name "sorted" p) [a] [⟨some "key", .Name x p1, kp⟩] pos) (tD K E e (dSortK c da)) := by
  obtain ⟨f, fd, ps, ds, F, hm1, _, hb, hd⟩ := cl.ex
  cases hd
  have hu : X.A.units + 65 < cLine := hW_of hr
  have hr2 : Room k X.A.in1.in1 := ⟨hr.hd, by have := hr.dp; show X.A.depth + 3 * k + 5 < _; omega, by have := hr.un; show X.A.units + 1 + 1 + 16 * k + 200 < _; omega⟩
  refine PE.imp (pe_callBK (id := "sorted") (cr_sortK hK hu) hg hm (by rfl) ha (pk_cons (pe_glob (v := .ref f) hgx hm1 rfl hdx) pk_nil) (by decide) (by decide) he hpl hall hnone hks) fun σ H Q h => ?_
  obtain ⟨δ, S, Z, q, t, h, kk⟩ := h
  refine ⟨δ, S, Z, _, t, h, fun vs xs H1 S1 g1 x1 r1 h1 => ?_⟩
  obtain ⟨x, rfl, h1⟩ := oneD_of h1
  obtain ⟨l, hl, key, ok, hc, hq⟩ := see_eq h1
  exact ⟨x, l, key, f, S1, Z, q, g1, r1, rfl, hl, ok, turn_fn hK F (by rw [hK] at *; exact hb) hr2 hc, hq, kk.ext x1⟩
/-- a lambda of one parameter that captures nothing -/
theorem turn_lam {F : NF} {fa : Addr} {b : Expr} {p1 : Str} {db : DTE} {key : Dt → Dt} {l : List Dt} {G : Hp} {S : Store} {Z : Hp} (hK : X.K = K) (hS : NScope [p1] [p1] [] F.scope) (hcl : F.cl = []) (hr : Room (k + 1) X.A.in1.in1)
    (hb : ∀ (pm ctv v : Value), bindArgs (PySem.W.kla_fn F.name F.qual F.params b F.scope F.cl pm (.ref F.c) ctv) ⟨[v], []⟩ = pure [(p1, v)])
    (body : ∀ (A : Around) (outer : List Env) (s : Shared) (H : Hp), Room k (A.deeper (envF F fa s.heap.objs.size)) → PE (ncx (L2.CX X.prog X.w) X.prog X.w K X.mg X.base [p1] F fa A outer s H noE) b (tD K noE noX db))
    (gf : G fa = some (LmO fa F b)) (gc : G F.c = some (CodeO F.c F.qual)) (h : ∀ d ∈ l, ∀ q : DK, q (key d) S → db [some d] S q) : Turn X K (.ref fa) key l G S Z := fun d pins σ H s u v hd I g x r rv => by
  subst hK
  have e0 : Env0 X.prog X.w X.K X.mg X.base X.A.in1.in1 X.stack s H := I.env0.in1.in1
  have tr : H fa = some (LmO fa F b) := out_le (x.still gf trivial)
  have cr : H F.c = some (CodeO F.c F.qual) := out_le (x.still gc trivial)
  have unlim : s.heap.NoLimit := e0.mod.nolimit.keeps fun b o z => (e0.bs b o z).1
  have cells : CellsAt F.cl [] [] s.heap H := by
    rw [hcl]
    exact ⟨rfl, (fun y c z => by cases z), (fun x y c z => by cases z), (fun i y z => by cases z)⟩
  have co : codeAny (model X.prog X.w) X.A.in1.in1 (.call (.ref fa) ⟨[v], []⟩) (CR (L2.CX X.prog X.w) X.stack X.prog X.w H s (fun y H' => Good X.K Z H' S ∧ Ext (out H S Z) (out H' S Z) ∧ Rep X.K (out H' S Z) (key d) y) noE) s := by
    obtain ⟨od, sl, pm, ctv, obj⟩ := lmO_at e0.hok tr
    obtain ⟨c2, oc, vs, t, cz, oz, dz, vz⟩ := codeO_at e0.hok cr
    apply PySem.W.kla_callFunE hr.depth obj rfl hS.co hS.gen rfl ⟨c2, oc, vs, t, cz, oz, dz, vz⟩
    rw [hb pm ctv v]
    refine wpAny_pure (wpAny_newFunctionEnv hS.nocell (fun y hy => ?_) (fun g2 ns sb => ⟨unlim.fresh _ sb, ?_⟩) hS.kind)
    · rw [List.mem_singleton.mp hy]
      exact hS.par p1 List.mem_cons_self
    show codeAny _ _ (.expr b (envF F fa s.heap.objs.size)) _ _
    have der := body X.A.in1.in1 X.stack s H (hr.deeper _)
    have keepG : ∀ b o, s.heap.get? b = some o → g2.get? b = some o := fun b o z => sb.extBut b o (Nat.ne_of_lt (Heap.lt_size z)) (Heap.get?_push_of_some _ z)
    have start : Inv (ncx (L2.CX X.prog X.w) X.prog X.w X.K X.mg X.base [p1] F fa X.A.in1.in1 X.stack s H noE) [] (startF [p1] [u] []) H { s with heap := g2, toks := s.toks + ([(p1, v)] : List (Str × Value)).length } := inv_startN (ps := [p1]) (us := [v]) hS hr.hd e0 rfl (.cons rv .nil) cells ns keepG
    refine PySem.W.kla_codeExpr (wpAny_mono (der.run [] _ _ H (fun y H' => Good X.K Z H' S ∧ Ext (out H S Z) (out H' S Z) ∧ Rep X.K (out H' S Z) (key d) y) start ⟨[some d], S, Z, fun y S' => y = key d ∧ S' = S, ⟨g, ?_, lk_no⟩, h d hd _ ⟨rfl, rfl⟩, fun y z H' S' g' x' r' hq => ?_⟩) (fun u2 s' hq => ?_) fun _ _ hq => hq)
    · exact .cons (fun x hx => by cases hx; exact ⟨u, rfl, r⟩) .nil
    · obtain ⟨rfl, rfl⟩ := hq
      exact ⟨g', x', r'⟩
    · obtain ⟨v3, H', I', rv3, q⟩ := hq
      exact ⟨v3, H', I'.os, I'.bare, I'.base, I'.hok, rv3, q⟩
  refine wpAny_call (codeAny_mono co fun rr s' hq => ?_)
  cases rr with
  | error e =>
    obtain ⟨_, _, _, _, _, _, _, _, _, _, _, _, z⟩ := hq
    exact z
  | ok fl =>
    cases fl with
    | ret u => exact I.after hq
    | next => exact False.elim hq
    | brk => exact False.elim hq
    | cont => exact False.elim hq
@[reducible] def dSortL (P : Addr) (qn : Str) (db : DTE) (t : DTA) : DTE := fun δ S q => t δ S fun xs S1 => S1 P = some (.tbl qn) ∧ oneD xs fun x => seeL x S1 fun l => ∃ key : Dt → Dt, SrtOk (l.map key) ∧ (∀ d ∈ l, ∀ qq : DK, qq (key d) S1 → db [some d] S1 qq) ∧ q (.lst (srtD key l)) S1
theorem de_sortL {c P : Addr} {qn p1 : Str} {params : Arguments} {body : Expr} {scope : Scope} {db : DTE} {p pb kp pos : Pos} (hK : X.K = K) (hr : Room j X.A) (hk : k + 2 ≤ j) (hg : Gl X "sorted") (hm : X.mg "sorted" = none)
    (TB : TabB X.base X.mg c P) (hcode : X.env.code = .ref c) (hq : qn = X.env.qual ++ "<lambda>") (hdef : defaultsOf params X.env = ([], [])) (hnf : scope.names.all (fun y => !decide (y.2 = .free)) = true) (hn : nscB [p1] [p1] [] scope = true)
    (hb : ∀ (q : Str) (cl : List (Str × Addr)) (pm cv ctv v : Value), bindArgs (PySem.W.kla_fn "<lambda>" q params body scope cl pm cv ctv) ⟨[v], []⟩ = pure [(p1, v)])
    (hbody : ∀ (f c' : Addr) (cl : List (Str × Addr)) (A : Around) (outer : List Env) (s : Shared) (H : Hp), Room k (A.deeper (envF ⟨"<lambda>", qn, params, [], scope, cl, c'⟩ f s.heap.objs.size)) → PE (ncx (L2.CX X.prog X.w) X.prog X.w K X.mg X.base [p1] ⟨"<lambda>", qn, params, [], scope, cl, c'⟩ f A outer s H noE) body (tD K noE noX db))
    (ha : PA X [a] (tDA K E e da))
    (he : backTo pos (starEach [a] X.env) = (false, eval a X.env) :: backTo pos (starEach [] X.env) := by rfl) (hpl : (backTo pos (starEach [a] X.env)).any (·.1) = false := by rfl)
    (hall : (backToKw pos (keywordEach [⟨some "key", .Lambda params body scope pb, kp⟩] X.env)).all (·.1.isSome) = true := by rfl) (hnone : (backToKw pos (keywordEach [⟨some "key", .Lambda params body scope pb, kp⟩] X.env)).any (·.1.isNone) = false := by rfl) (hks : (backToKw pos (keywordEach [⟨some "key", .Lambda params body scope pb, kp⟩] X.env)).filterMap (·.1) = [Str.ofString "key"] := by rfl) :
    PE X (.Call (.Name "sorted" p) [a] [⟨some "key", .Lambda params body scope pb, kp⟩] pos) (tD K E e (dSortL P qn db da)) := by
  have hu : X.A.units + 65 < cLine := hW_of hr
  have hr2 : Room (k + 1) X.A.in1.in1 := ⟨hr.hd, by have := hr.dp; show X.A.depth + 3 * (k + 1) + 5 < _; omega, by have := hr.un; show X.A.units + 1 + 1 + 16 * (k + 1) + 200 < _; omega⟩
  have nofree : ∀ y ∈ scope.names, y.2 ≠ .free := fun y hy e => by
    have := List.all_eq_true.mp hnf y hy
    simp [e] at this
  refine PE.imp (pe_callBK (id := "sorted") (cr_sortK hK hu) hg hm (by rfl) ha (pk_cons (de_lamV (K := K) (E := E) (e := e) TB hcode hq hdef fun y hy e => absurd e (nofree y hy)) pk_nil) (by decide) (by decide) he hpl hall hnone hks) fun σ H Q h => ?_
  obtain ⟨δ, S, Z, q, t, h, kk⟩ := h
  refine ⟨δ, S, Z, _, t, h, fun vs xs H1 S1 g1 x1 r1 h1 => ?_⟩
  obtain ⟨hP, h1⟩ := h1
  obtain ⟨x, rfl, h1⟩ := oneD_of h1
  obtain ⟨l, hl, key, ok, hc, hq2⟩ := see_eq h1
  refine ⟨δ, S1, Z, fun y S2 => S2 = S1 ∧ ∃ c', y = .lam ⟨"<lambda>", qn, params, [], scope, cloFrom X.env.cells scope.names [], c'⟩ body, t.to g1 x1, ⟨hP, fun c' => ⟨rfl, c', rfl⟩⟩, fun y z H2 S2 g2 x2 r2 h2 => ?_⟩
  obtain ⟨rfl, c', rfl⟩ := h2
  obtain ⟨f, rfl, gf, gc⟩ := r2
  have hcl : cloFrom X.env.cells scope.names [] = [] := clo_none nofree
  exact ⟨x, l, key, f, S2, Z, q, g2, Reps.ext x2 _ _ r1, rfl, hl, ok, turn_lam hK (nscope_by hn) hcl hr2 (fun pm ctv v => hb qn _ pm _ ctv v) (fun A outer s H hr3 => hbody f c' _ A outer s H hr3) gf gc hc, hq2, kk.ext (x1.trans x2)⟩
end
end Dn

/-! an attribute among several targets; what stands still from now on -/
namespace Dn
open PySem PySem.Spec PyProof.Rows L2 Pr LamX NdefX
section
variable {X : Cx} {K : PySem.W.Frag} {E : XK} {e : DX} {o : Expr} {da : DTE} {C : Addr} {nm : List Str} {f : Str} {i : Nat} {pos : Pos} {st : Stmt} {t : DTS}
@[reducible] def dGFld (C : Addr) (nm : List Str) (i : Nat) (o : DTE) : DTG := fun y δ S n => o δ S fun x S2 => match x with
  | .ref a => ∃ l, S2 a = some (.ins C nm l) ∧ putAt l i y fun l' => n δ (sput S2 a (.ins C nm l'))
  | _ => False
theorem dg_fld (hK : X.K = K) (F : FldI K C nm f i) (ho : PE X o (tD K E e da))
    (ha : ∀ v, assign (.Attribute o f pos) X.env v = (do
      let ov ← holding [v] (eval o X.env)
      standAt pos.atName
      holding [v, ov] (setAttr ov f v)
      release [v, ov] []) := by intro _; rfl) : PG X (.Attribute o f pos) (tDG K E e (dGFld C nm i da)) := ⟨fun pins s σ H v u Q I r h => by
  subst hK
  obtain ⟨y, δ, S, Z, n, t, ry, h, k⟩ := h
  rw [ha]
  refine wpAny_bind (wpAny_holding (thn (ho.run pins s σ H (fun x H2 => ∃ a C' dx fs, x = .ref a ∧ H2 a = some (.ins C' dx fs) ∧ Cls X.K C' ∧ NoAttr X.K C' f ∧ fs.length < 1000 ∧ Q σ (upd H2 a (.ins C' dx (putF f v fs)))) I ⟨δ, S, Z, _, t, h, fun x z H2 S2 g2 x2 r2 h2 => ?_⟩) fun ov s2 ⟨x, H2, I2, rx, a, C', dx, fs, ex, ea, c, nn, l, q2⟩ => ?_))
  · cases z with
    | ref a =>
      obtain ⟨l, h3, h4⟩ := h2
      obtain ⟨ob, h5, dx, vs, rfl, h6, h7⟩ := g2.c a _ h3
      obtain ⟨l', h8, h9⟩ := put_ins (C := C) (dx := dx) F.nd F.at' h6 (Rep.ext x2 _ _ ry) h7 h4
      exact ⟨a, C, dx, _, r2, h5, F.cls, F.no, zip_len h6 F.few, k _ _ _ _ (g2.mut h3 h9) (by rw [out_mut h3]; exact x2) (by rw [out_mut h3]; exact t.sl.ext x2) h8⟩
    | _ => exact h2.elim
  · subst ex
    obtain rfl : ov = Value.ref a := rx
    refine wpAny_bind (wpAny_standAt (wpAny_bind (wpAny_holding (setattr_ok I2 ea c nn l r fun s3 I3 => wpAny_release ⟨σ, _, I3, q2⟩))))⟩
/-- what the slot names stands still from now on -/
@[reducible] def frzSlot (i : Nat) (δ : DS) (S : Store) (k : DS → Store → Prop) : Prop := match look δ i with
  | some (.ref a) => ∃ c, S a = some c ∧ (match c with
    | .ins C nm l => k (putS δ i (.obj C nm l)) (sdel S a)
    | .lst l => k (putS δ i (.lst l)) (sdel S a)
    | .dic l => k (putS δ i (.dic l)) (sdel S a)
    | _ => False)
  | _ => False
theorem frz_slot {Z H : Hp} {S : Store} {σ : L2.St} {δ : DS} {k : DS → Store → Prop} (g : Good K Z H S) (sl : Slots K (out H S Z) σ δ) (h : frzSlot i δ S k) : ∃ δ' S', Good K Z H S' ∧ Ext (out H S Z) (out H S' Z) ∧ Slots K (out H S' Z) σ δ' ∧ k δ' S' := by
  unfold frzSlot at h
  cases hl : look δ i with
  | none => simp only [hl] at h
  | some d =>
    obtain ⟨v, h1, rv⟩ := sl.look hl
    cases d with
    | ref a =>
      simp only [hl] at h
      obtain rfl : v = .ref a := rv
      obtain ⟨c, hc, h⟩ := h
      obtain ⟨o, ho, hr⟩ := g.c a c hc
      have hd := out_del g hc
      have put : ∀ {d : Dt}, Rep K (out H (sdel S a) Z) d (.ref a) → Slots K (out H (sdel S a) Z) σ (putS δ i d) := fun {d} r => by
        have := (sl.ext (ext_del (a := a))).put (i := i) (v := .ref a) r
        rwa [show σ.set i (some (.ref a)) = σ from by
          obtain ⟨hi, e⟩ := List.getElem?_eq_some_iff.mp h1
          rw [← e]
          exact List.set_getElem_self hi] at this
      cases c with
      | ins C nm l =>
        obtain ⟨dx, vs, rfl, h2, h3⟩ := hr
        exact ⟨_, _, g.del, ext_del, put (d := .obj C nm l) ⟨a, dx, vs, rfl, hd.trans ho, Reps.ext ext_del _ _ h2, h3⟩, h⟩
      | lst l =>
        obtain ⟨vs, rfl, h2⟩ := hr
        exact ⟨_, _, g.del, ext_del, put (d := .lst l) ⟨a, vs, rfl, hd.trans ho, Reps.ext ext_del _ _ h2⟩, h⟩
      | dic l =>
        obtain ⟨vs, rfl, h2⟩ := hr
        exact ⟨_, _, g.del, ext_del, put (d := .dic l) ⟨a, vs, rfl, .inl (hd.trans ho), Repk.ext ext_del _ _ h2⟩, h⟩
      | _ => exact h.elim
    | _ => simp only [hl] at h
@[reducible] def dFrzS (i : Nat) (t : DTS) : DTS := fun D δ S => t { D with nx := fun δ' S' => frzSlot i δ' S' D.nx } δ S
theorem ds_frz (i : Nat) (h : PS X st (tDS K E e t)) : PS X st (tDS K E e (dFrzS i t)) := PS.imp h fun D σ H h => by
  obtain ⟨δ, S, Z, DD, t, h, k⟩ := h
  refine ⟨δ, S, Z, _, t, h, ⟨fun σ' δ' H' S' g x s hh => ?_, k.rt, k.bk, k.ct⟩⟩
  obtain ⟨δ2, S2, g2, x2, s2, h2⟩ := frz_slot g s hh
  exact k.nx σ' δ2 H' S2 g2 (x.trans x2) s2 h2
end
/-! a list against the empty one -/
@[reducible] def nilD (x : Dt) (S : Store) (k : Prop) : Prop := seeL x S fun m => match m with
  | [] => k
  | _ => False
@[reducible] def dEqN : D2 := fun x y S q => seeL x S fun l => nilD y S (q (.bl l.isEmpty) S)
@[reducible] def dNeN : D2 := fun x y S q => seeL x S fun l => nilD y S (q (.bl (!l.isEmpty)) S)
section
variable {X : Cx} {K : PySem.W.Frag}
theorem nil_of {x : Dt} {S : Store} {k : Prop} (h : nilD x S k) : (seeL x S fun m => m = []) ∧ k := by
  have go : ∀ m : List Dt, (match m with
    | [] => k
    | _ => False) → m = [] ∧ k := fun m h => by
    cases m with
    | nil => exact ⟨rfl, h⟩
    | cons a b => exact h.elim
  cases x with
  | lst m => exact go m h
  | ref a =>
    obtain ⟨m, h1, h2⟩ := h
    obtain ⟨rfl, h3⟩ := go m h2
    exact ⟨⟨[], h1, rfl⟩, h3⟩
  | _ => exact h.elim
theorem nil_lists {pins : List (Addr × Obj)} {σ : L2.St} {H : Hp} {s : Shared} {Z : Hp} {S : Store} {dx dy : Dt} {x y : V} {v u : Value} {k : Prop} {kk : List Dt → Prop} (I : Inv X pins σ H s) (g : Good K Z H S) (rx : Rep K (out H S Z) dx x) (ry : Rep K (out H S Z) dy y) (rv : RelV x v) (ru : RelV y u) (h : seeL dx S kk) (hk : ∀ l, kk l → nilD dy S k ∧ True) :
    ∃ a b its l, v = .ref a ∧ u = .ref b ∧ s.heap.IsList a its ∧ s.heap.IsList b #[] ∧ its.size = l.length ∧ kk l ∧ k := by
  obtain ⟨a, vs, l, rfl, h1, h2, h3⟩ := see_lst g rx h
  obtain ⟨h4, hk⟩ := nil_of (hk l h3).1
  obtain ⟨b, ws, m, rfl, h5, h6, rfl⟩ := see_lst g ry h4
  obtain rfl : ws = [] := h6
  obtain ⟨its, r1, p1, _⟩ := I.list (SqL.of h1)
  obtain ⟨its2, r2, p2, _⟩ := I.list (SqL.of h5)
  cases r2
  obtain rfl : v = Value.ref a := rv
  obtain rfl : u = Value.ref b := ru
  exact ⟨a, b, its.toArray, l, rfl, rfl, p1.isList, p2.isList, by rw [List.size_toArray, ← r1.length, h2.len], h3, hk⟩
theorem size_nil {its : Array Value} {l : List Dt} (h : its.size = l.length) : (its.size != (#[] : Array Value).size) = !l.isEmpty := by
  rw [h]
  cases l with
  | nil => rfl
  | cons a b => rfl
theorem od_eqN (hu : X.A.units + 65 < cLine) : OpR X (compareOp .Eq) (rD K dEqN) := fun pins s σ H x y v u Q I rv ru ⟨dx, dy, S, Z, q, g, rx, ry, h, k⟩ => by
  obtain ⟨l0, hl0, hl1⟩ := see_eq h
  obtain ⟨a, b, its, l, rfl, rfl, p1, p2, hs, h3, h4⟩ := nil_lists (k := q (.bl l0.isEmpty) S) (kk := fun m => m = l0) I g rx ry rv ru hl0 (fun m e => ⟨hl1, trivial⟩)
  subst h3
  have hn := size_nil hs
  cases hl : l.isEmpty with
  | true =>
    rw [hl] at hn h4
    refine PySem.SeqAt.eq_listAt (e := fun _ => true) p1 p2 (by simpa using hn) (by omega) (fun j h1 h2 => absurd h2 (by simp)) ?_
    refine ⟨.bl _, H, I, rfl, ?_⟩
    have e0 : its.size = 0 := by simpa using hn
    rw [e0]
    exact k.here g h4 rfl
  | false =>
    rw [hl] at hn h4
    exact PySem.SeqAt.eq_list_lengthsAt p1 p2 (by simpa using hn) (by omega) ⟨.bl _, H, I, rfl, k.here g h4 rfl⟩
theorem od_neN (hu : X.A.units + 65 < cLine) : OpR X (compareOp .NotEq) (rD K dNeN) := fun pins s σ H x y v u Q I rv ru ⟨dx, dy, S, Z, q, g, rx, ry, h, k⟩ => by
  obtain ⟨l0, hl0, hl1⟩ := see_eq h
  obtain ⟨a, b, its, l, rfl, rfl, p1, p2, hs, h3, h4⟩ := nil_lists (k := q (.bl (!l0.isEmpty)) S) (kk := fun m => m = l0) I g rx ry rv ru hl0 (fun m e => ⟨hl1, trivial⟩)
  subst h3
  have hn := size_nil hs
  cases hl : l.isEmpty with
  | true =>
    rw [hl] at hn h4
    refine PySem.SeqAt.RcNeAt.lists (e := fun _ => true) p1 p2 (by simpa using hn) (by omega) (fun j h1 h2 => absurd h2 (by simp)) X.prog X.w _ _ ?_
    refine ⟨.bl _, H, I, rfl, ?_⟩
    have e0 : its.size = 0 := by simpa using hn
    rw [e0]
    exact k.here g h4 rfl
  | false =>
    rw [hl] at hn h4
    exact PySem.SeqAt.RcNeAt.lists_lengths p1 p2 (by simpa using hn) (by omega) X.prog X.w _ _ ⟨.bl _, H, I, rfl, k.here g h4 rfl⟩
end
end Dn

/-! sorting by numbers; three texts at once -/
namespace Dn
open PySem PySem.Spec PyProof.Rows L2 Pr
open PySem.W (EachIs AllAlike Sortable dataLe)
theorem srtD_int {α : Type} (enc : α → Dt) (key : Dt → Dt) (k : α → Int) (h : ∀ a, key (enc a) = .int (k a)) (l : List α) : srtD key (l.map enc) = (l.mergeSort fun a b => decide (k a ≤ k b)).map enc := by
  unfold srtD
  refine (PySem.W.sort_maps (s := dataLe false fun d => py (key d)) enc fun a _ b _ => ?_).symm
  show decide (k a ≤ k b) = dataLe false (fun c => py (key (enc c))) a b
  have e : (fun c => py (key (enc c))) = fun c => PyData.int (k c) := by
    funext c
    rw [h c]
    rfl
  rw [e, PySem.W.dataLe_int]
theorem ints_py (L : List Int) : pys (L.map Dt.int) = L.map PyData.int := by
  rw [pys_map, List.map_map]
  rfl
theorem srtOk_ints {α : Type} (enc : α → Dt) (key : Dt → Dt) (k : α → Int) (h : ∀ a, key (enc a) = .int (k a)) (l : List α) : SrtOk ((l.map enc).map key) := by
  have e : (l.map enc).map key = (l.map k).map Dt.int := by
    rw [List.map_map, List.map_map]
    exact List.map_congr_left fun a _ => h a
  rw [e]
  refine ⟨?_, ?_, ?_, fun d hd => ?_⟩
  · rw [areDat_all, List.all_eq_true]
    intro d hd
    obtain ⟨i, _, rfl⟩ := List.mem_map.mp hd
    rfl
  · rw [ints_py]
    exact PySem.W.AllAlike.of fun a b => by simp [PySem.W.alike]
  · rw [ints_py]
    exact PySem.W.Sortable.others fun a => ⟨by simp, fun xs => by simp⟩
  · obtain ⟨i, _, rfl⟩ := List.mem_map.mp hd
    exact Nat.zero_le _
section
variable {S : Store} {q : DK}
theorem dq_sss {a b c d e f : Str} : deqv (.tup [.str a, .str b, .str c]) (.tup [.str d, .str e, .str f]) = decide (a = d ∧ b = e ∧ c = f) := by
  rw [dq_tup3, dq_str, dq_str, dq_str, Bool.and_true, ← Bool.decide_and, ← Bool.decide_and]
theorem eq_sss {a b c d e f : Str} (h : q (.bl (decide (a = d ∧ b = e ∧ c = f))) S) : dEq (.tup [.str a, .str b, .str c]) (.tup [.str d, .str e, .str f]) S q := ⟨⟨rfl, rfl, Nat.le_of_ble_eq_true rfl, Nat.le_of_ble_eq_true rfl⟩, by rw [dq_sss]; exact h⟩
theorem ne_sss {a b c d e f : Str} (h : q (.bl (!decide (a = d ∧ b = e ∧ c = f))) S) : dNe (.tup [.str a, .str b, .str c]) (.tup [.str d, .str e, .str f]) S q := ⟨⟨rfl, rfl, Nat.le_of_ble_eq_true rfl, Nat.le_of_ble_eq_true rfl⟩, by rw [dq_sss]; exact h⟩
end
/-- rows of two numbers and a text -/
theorem srtOk_iis {l : List (Int × Int × Str)} : SrtOk (l.map fun r => Dt.tup [.int r.1, .int r.2.1, .str r.2.2]) := by
  have e : pys (l.map fun r => Dt.tup [.int r.1, .int r.2.1, .str r.2.2]) = l.map fun r => PyData.tuple [.int r.1, .int r.2.1, .str r.2.2] := by
    rw [pys_map, List.map_map]
    rfl
  refine ⟨?_, ?_, ?_, fun d hd => ?_⟩
  · rw [areDat_all, List.all_eq_true]
    intro d hd
    obtain ⟨i, _, rfl⟩ := List.mem_map.mp hd
    rfl
  · rw [e]
    exact PySem.W.AllAlike.of fun a b => by simp [PySem.W.alike, PySem.W.alikeAll]
  · rw [e]
    exact PySem.W.Sortable.tuples fun a => ⟨_, _, rfl⟩
  · obtain ⟨i, _, rfl⟩ := List.mem_map.mp hd
    exact Nat.le_of_ble_eq_true rfl
/-- what is sorted is what was there -/
theorem srtD_perm {key : Dt → Dt} {l : List Dt} : (srtD key l).Perm l := List.mergeSort_perm _ _
/-- something new that changes and then stands still -/
theorem put_frz {S : Store} {p m : Addr} {x y z : Cell} (hp : S p = none) (hn : p ≠ m) : sdel (sput (sput (sput S p x) m y) p z) p = sput S m y := by
  funext b
  by_cases h1 : b = p
  · subst h1
    rw [sdel_same, sput_ne hn, hp]
  · rw [sdel_ne h1, sput_ne h1]
    by_cases h2 : b = m
    · subst h2
      rw [sput_same, sput_same]
    · rw [sput_ne h2, sput_ne h1, sput_ne h2]
end Dn

/-! dicts whose keys are tuples -/
namespace Dn
open PySem PySem.Spec PyProof.Rows L2 Pr
@[reducible] def keyOfs : List Dt → (List Key → Prop) → Prop
  | [], k => k []
  | x :: r, k => keyOf x fun a => keyOfs r fun l => k (a :: l)
theorem keyOfs_rep {K : PySem.W.Frag} {G : Hp} : ∀ {ks : List Dt} {vs : List V} {k : List Key → Prop}, Reps K G ks vs → keyOfs ks k → ∃ key, vs = key.map kV ∧ (∀ x ∈ key, KOk x) ∧ k key
  | [], vs, k, r, h => ⟨[], r, fun x hx => (nomatch hx), h⟩
  | d :: l, vs, k, r, h => by
    obtain ⟨v, vr, rfl, r1, r2⟩ := r
    obtain ⟨a, rfl, ha, h⟩ := keyOf_rep r1 h
    obtain ⟨key, rfl, hk, h⟩ := keyOfs_rep r2 h
    exact ⟨a :: key, rfl, fun x hx => (List.mem_cons.mp hx).elim (fun e => e ▸ ha) (hk x), h⟩
@[reducible] def seeT (x : Dt) (S : Store) (k : List (List Key × Dt) → Prop) : Prop := match x with
  | .ref a => ∃ l, S a = some (.dct l) ∧ k l
  | _ => False
@[reducible] def dTget2 (a : DTE) (ts : DTA) (c : DTE) : DTE := fun δ S q => a δ S fun x S1 => isKeyed x S1 (ts δ S1 fun ks S2 => Lim ks 1000 (c δ S2 fun z S3 => keyOfs ks fun key => seeT x S3 fun l => q ((kGet l key).getD z) S3))
@[reducible] def dNewTD : DTE := fun _ S q => ∀ p, S p = none → q (.ref p) (sput S p (.dct []))
@[reducible] def dGSubT (o : DTE) (ts : DTA) : DTG := fun v δ S n => o δ S fun x S1 => ts δ S1 fun ks S2 => Lim ks 1000 (match x with
  | .ref p => keyOfs ks fun key => ∃ l, S2 p = some (.dct l) ∧ l.length < sizeLine ∧ n δ (sput S2 p (.dct (kPut l key v)))
  | _ => False)
section
variable {X : Cx} {K : PySem.W.Frag} {E : XK} {e : DX} {pos pos' apos cpos : Pos} {a b c ex o : Expr} {es rest : List Expr} {da db dc : DTE} {ts : DTA}
theorem de_dnewT : PE X (.Dict [] [] pos) (tD K E e dNewTD) := PE.imp pe_dnewT fun σ H Q h => by
  obtain ⟨δ, S, Z, q, t, h, k⟩ := h
  exact fun p np => k.own t.good np (h p (t.good.nS np)) ⟨[], rfl, rfl⟩
theorem de_tget2 {x1} (hu : X.A.units + 1 < cLine) (ha : PE X a (tD K E e da)) (hb : PA X es (tDA K E e ts)) (hc : PE X c (tD K E e dc)) (m : M2 X a "get" apos (.Tuple es x1 pos) c cpos) :
    PE X (.Call (.Attribute a "get" apos) [.Tuple es x1 pos, c] [] cpos) (tD K E e (dTget2 da ts dc)) := PE.imp (pe_dget2 hu ha (pe_tup hb) hc m) fun σ H Q h => by
  obtain ⟨δ, S, Z, q, t, h, k⟩ := h
  refine ⟨δ, S, Z, _, t, h, fun v x H1 S1 g1 x1 r1 h1 => ?_⟩
  obtain ⟨a, rfl, hd, h1⟩ := keyed_of g1 r1 h1
  refine ⟨a, rfl, hd, δ, S1, Z, _, t.to g1 x1, h1, fun vs ks H2 S2 g2 x2 r2 h2 => ?_⟩
  obtain ⟨l2, h2⟩ := h2.le
  refine ⟨by rw [← r2.len]; exact le_line l2, fun p np => ?_⟩
  have x2n := x2.trans (ext_new (o := .tup vs) g2 np)
  refine ⟨δ, S2, Z, _, t.to (g2.new np) (x1.trans x2n), h2, fun z u H3 S3 g3 x3 r3 h3 => ?_⟩
  have hp : out H3 S3 Z p = some (.tup vs) := x3.still (out_new g2 np) trivial
  obtain ⟨key, rfl, hk, h3⟩ := keyOfs_rep r2 h3
  have r1' := Rep.ext (x2n.trans x3) _ _ r1
  cases x with
  | ref a' =>
    cases r1'
    obtain ⟨l, e1, h4⟩ := h3
    obtain ⟨ob, e2, kvs, rfl, rk⟩ := g3.c a _ e1
    have xx := x1.trans (x2n.trans x3)
    rcases KR.get (k := key) (Rept.kr.mp rk) with ⟨q1, q2⟩ | ⟨d, w, q1, q2, q3⟩
    · rw [q1] at h4
      exact ⟨_, DGet.t e2 (out_le hp), by rw [q2]; exact (k.ext xx).here g3 h4 r3⟩
    · rw [q1] at h4
      exact ⟨_, DGet.t e2 (out_le hp), by rw [q2]; exact (k.ext xx).here g3 h4 q3⟩
  | _ => exact h3.elim
theorem dg_subT {x1} {pt : Pos} (hu : X.A.units + 1 < cLine) (ho : PE X o (tD K E e da)) (hi : PA X es (tDA K E e ts))
    (ha : ∀ v, assign (.Subscript o (.Tuple es x1 pt) pos) X.env v = (do
      let ov ← holding [v] (eval o X.env)
      let iv ← holding [v, ov] (eval (.Tuple es x1 pt) X.env)
      standAt pos
      holding [v, ov, iv] (setItem ov iv v)
      release [v, ov, iv] []) := by intro _; rfl) : PG X (.Subscript o (.Tuple es x1 pt) pos) (tDG K E e (dGSubT da ts)) := ⟨fun pins s σ H v u Q I r h => by
  refine (pg_sub ho (pe_tup hi) (set_dict hu) ha).run pins s σ H v u Q I r ?_
  obtain ⟨x, δ, S, Z, n, t, rx, h, k⟩ := h
  refine ⟨δ, S, Z, _, t, h, fun v1 x1 H1 S1 g1 y1 r1 h1 => ⟨δ, S1, Z, _, t.to g1 y1, h1, fun vs ks H2 S2 g2 y2 r2 h2 => ?_⟩⟩
  obtain ⟨l2, h2⟩ := h2.le
  refine ⟨by rw [← r2.len]; exact le_line l2, fun p np => ?_⟩
  cases x1 with
  | ref a =>
    obtain ⟨key, rfl, ko, l, h3, h4, h5⟩ := keyOfs_rep r2 h2
    obtain ⟨ob, h6, vs, rfl, h7⟩ := g2.c a _ h3
    have gn := g2.new (o := .tup (key.map kV)) np
    have xx := (y1.trans y2).trans (ext_new (o := .tup (key.map kV)) g2 np)
    have nap : a ≠ p := fun z => by rw [z, np] at h6; cases h6
    have h7' := Rept.ext (ext_new (o := .tup (key.map kV)) g2 np) _ _ h7
    have cr : CRep K (out (upd H2 p (.tup (key.map kV))) S2 Z) (.dct (kPut l key x)) (.dT (putK vs key v)) := ⟨_, rfl, Rept.kr.mpr (KR.put (Rept.kr.mp h7') ko (Rep.ext xx _ _ rx))⟩
    exact ⟨a, _, r1, DPut.t (by rw [upd_ne nap]; exact h6) upd_same (by rw [← (Rept.kr.mp h7).len]; exact h4), k σ δ _ _ (gn.mut h3 cr) (by rw [out_mut h3]; exact xx) (by rw [out_mut h3]; exact t.sl.ext xx) h5⟩
  | _ => exact h2.elim⟩
end
end Dn

/-! enumerate over a text; min and max of three -/
namespace Dn
open PySem PySem.Spec PyProof.Rows L2 Pr
def Ites (x : Str) : It := ⟨fun i _ => i < x.cps.size, fun i H v H' => ∃ T c, v = .ref T ∧ H T = none ∧ H' = upd H T (.tup [.int (i : Nat), .str ⟨#[c]⟩]) ∧ x.cps[i]? = some c, fun i _ => x.cps.size ≤ i⟩
theorem turn_enumS {P : Program} {w : World} {K : PySem.W.Frag} {elts : List Expr} {kk : Nat} {tpos : Pos} (e it : Addr) (x : Str) (t : Tok) (ty : String) (hty : ty = "str_ascii_iterator" ∨ ty = "str_iterator") :
    L2.Turn P w K (.Tuple elts kk tpos) (Ites x) [e, it] e (fun i h => (∃ old, IsEnum h e it ((i : Nat) : Int) old) ∧ h.IsStrIter it ty x t i ∧ e ≠ it ∧ i ≤ x.cps.size) where
  mem := by simp
  obj := fun i h st b hb => by
    obtain ⟨⟨old, he⟩, ⟨o, ho, hc, hd⟩, _⟩ := st
    have e' : b = e ∨ b = it := by simpa using hb
    rcases e' with z | z
    · rw [z]; exact ⟨_, he, fun v q => nomatch q⟩
    · rw [z]; exact ⟨o, ho, fun v q => by rw [hd] at q; cases q⟩
  keep := fun i h h' st k => let ⟨⟨old, he⟩, ⟨o, ho, r⟩, hne, hle⟩ := st; ⟨⟨old, k e (by simp) _ he⟩, ⟨o, k it (by simp) o ho, r⟩, hne, hle⟩
  item := by
    intro X hP hw hK hc i pins s σ H E I hf st hg
    subst hP hw hK
    obtain ⟨⟨old, he⟩, hit, hne, hle⟩ := st
    have D : Draws X.prog X.w X.A.in1 it [it] x.cps.size (fun i v => ∃ c u, x.cps[i]? = some c ∧ v = .str ⟨#[c]⟩ u) (fun i h => h.IsStrIter it ty x t i) := by
      rcases hty with z | z
      · rw [z]; exact Draws.strAscii (A := X.A.in1) (I.ok.hd hc) it x t
      · rw [z]; exact Draws.strWide (A := X.A.in1) (I.ok.hd hc) it x t
    have hel : e < s.heap.objs.size := Heap.lt_size he
    have hil : it < s.heap.objs.size := by obtain ⟨_, q, _⟩ := hit; exact Heap.lt_size q
    refine wpAny_pyNext_enum_itemD D he hit hg hne (by simpa using hne) fun u h' tk hP ho hit' hT hsz hk => ?_
    obtain ⟨c, tu, hcx, rfl⟩ := hP
    refine ⟨_, rfl, wpAny_letOwnedTupleGo_enum (s := { s with heap := h', toks := tk + 1 }) ho fun h'' he' sb => ?_⟩
    have hT2 : h''.get? s.heap.objs.size = some { cls := .type "tuple", data := .seq #[.int i tk, .str ⟨#[c]⟩ tu] } := (sb.2 _ (Nat.ne_of_gt hel)).trans hT
    have new : ObjOk X.prog X.w (upd H s.heap.objs.size (.tup [.int (i : Nat), .str ⟨#[c]⟩])) h'' s.heap.objs.size (.tup [.int (i : Nat), .str ⟨#[c]⟩]) :=
      ⟨by show 2 ≤ sizeLine; decide, [.int i tk, .str ⟨#[c]⟩ tu], .cons ⟨_, rfl⟩ (.cons ⟨_, rfl⟩ .nil), ⟨_, hT2, rfl, _, rfl⟩⟩
    have I1 : Inv X pins σ (upd H s.heap.objs.size (.tup [.int (i : Nat), .str ⟨#[c]⟩])) { s with heap := h'', toks := tk + 1 } :=
      I.turnedNew (ch := [e, it]) (fun b ob hb q => (sb.2 b (fun z => hb (by simp [z]))).trans (hk b ob (fun z => hb (by simp [z])) (fun z => hb (by simp [z])) q)) hf (Nat.le_refl _) new
    refine ⟨.ref s.heap.objs.size, _, I1, rfl, ⟨_, c, rfl, I.hok.fresh (Nat.le_refl _), rfl, hcx⟩, ⟨⟨.str ⟨#[c]⟩ tu, ?_⟩, ?_, hne, hg⟩, fun b hb => ?_⟩
    · have e1 : ((i + 1 : Nat) : Int) = (i : Int) + 1 := by omega
      rw [e1]; exact he'
    · obtain ⟨o, q1, q2⟩ := hit'
      exact ⟨o, (sb.2 it (Ne.symm hne)).trans q1, q2⟩
    · have hb' : b < s.heap.objs.size := by
        have e' : b = e ∨ b = it := by simpa using hb
        rcases e' with z | z
        · rw [z]; exact hel
        · rw [z]; exact hil
      rw [upd_ne (Nat.ne_of_lt hb')]
      exact (hf b hb).1
  done := by
    intro X hP hw hK hc i pins s σ H E I hf st hg
    subst hP hw hK
    obtain ⟨⟨old, he⟩, hit, hne, hle⟩ := st
    obtain rfl : i = x.cps.size := Nat.le_antisymm hle hg
    have D : Draws X.prog X.w X.A.in1 it [it] x.cps.size (fun i v => ∃ c u, x.cps[i]? = some c ∧ v = .str ⟨#[c]⟩ u) (fun i h => h.IsStrIter it ty x t i) := by
      rcases hty with z | z
      · rw [z]; exact Draws.strAscii (A := X.A.in1) (I.ok.hd hc) it x t
      · rw [z]; exact Draws.strWide (A := X.A.in1) (I.ok.hd hc) it x t
    obtain ⟨f0, f1, f2, f3, f4, f5⟩ := hf it (by simp)
    exact wpAny_pyNext_enum_endD D he hit fun h' eb => ⟨rfl, I.turned (t' := s.toks) (fun b o hb q => eb b o hb q) f0 f1 f3 f4 f5⟩
  self := fun A i s Q E st h => let ⟨⟨_, he⟩, _⟩ := st; wpAny_pyIter_enum he h
def iEnumS (ta : TA) : TI := fun σ H R => ta σ H fun vs H1 => ∃ x, vs = [.str x] ∧ R (Ites x) H1
theorem pi_enumS {X : Cx} {e : Expr} {ta : TA} {p pos tpos : Pos} {elts : List Expr} {kk : Nat} (hg : Gl X "enumerate") (hm : X.mg "enumerate" = none) (ha : PA X [e] ta) (hs : starEach [e] X.env = [(false, eval e X.env)] := by rfl) :
    PI X (.Tuple elts kk tpos) (.Call (.Name "enumerate" p) [e] [] pos) (iEnumS ta) := by
  refine ⟨fun pins s σ H R I h => ?_⟩
  refine Call_ (ld_blt I hg hm boot_enumerate (PyProof.Rows.callWith_type1 (thn (ha.run pos pins s σ H _ I h) fun us s1 ⟨vs, H1, I1, r1, q1⟩ => ?_) hs rfl))
  obtain ⟨x, ex, q⟩ := q1
  subst ex
  cases r1 with
  | cons r rr =>
    cases rr
    obtain ⟨t, rfl⟩ := r
    refine call_enumerate_str fun h' he hit hsz hk => wpAny_pyIter_enum he ?_
    have I2 : Inv X pins σ H1 { s1 with heap := h' } := I1.kept (t' := s1.toks) hk
    have hty : strIterType x = "str_ascii_iterator" ∨ strIterType x = "str_iterator" := by unfold strIterType; split; exact .inl rfl; exact .inr rfl
    refine ⟨s1.heap.objs.size + 1, [s1.heap.objs.size + 1, s1.heap.objs.size], _, _, H1, rfl, I2, turn_enumS (s1.heap.objs.size + 1) s1.heap.objs.size x t _ hty, ⟨⟨.none, he⟩, hit, Nat.succ_ne_self _, Nat.zero_le _⟩, fun b hb => ?_, q⟩
    have e' : b = s1.heap.objs.size + 1 ∨ b = s1.heap.objs.size := by simpa using hb
    have hle : s1.heap.objs.size ≤ b := by
      rcases e' with z | z
      · rw [z]; exact Nat.le_add_right _ _
      · rw [z]; exact Nat.le_refl _
    exact I1.fpOk hle (I1.hok.fresh hle)
theorem signs_len (x : Str) : (signsD x).length = x.cps.size := by unfold signsD; rw [List.length_map, Array.length_toList]
theorem ok_enumS {K : PySem.W.Frag} {G : Hp} {x : Str} (h : SOk x) : ItOk K G (Ites x) (enumD (signsD x)) (fun _ => True) := by
  have hl : (enumD (signsD x)).length = x.cps.size := by rw [enumD_len, signs_len]
  refine ⟨fun Z i H S g _ _ hi => by rw [hl] at hi; exact hi, fun Z H S g _ _ => by rw [hl]; exact Nat.le_refl _, fun Z i H S v H' g e _ hi y => ?_⟩
  obtain ⟨T, c, rfl, nT, rfl, hc⟩ := y
  refine ⟨.tup [.int i, .str ⟨#[c]⟩], ?_, g.new nT, ext_new g nT, T, [.int i, .str ⟨#[c]⟩], rfl, SqT.of (out_new g nT), .int i, _, rfl, rfl, .str ⟨#[c]⟩, [], rfl, ⟨rfl, h.sign ?_⟩, rfl⟩
  · rw [enumD_get]
    unfold signsD
    rw [List.getElem?_map, Array.getElem?_toList, hc]
    rfl
  · exact Array.mem_toList_iff.mpr (Array.mem_of_getElem? hc)
@[reducible] def dItES (t : DTA) : DTL := fun δ S q => t δ S fun xs S1 => match xs with
  | [.str z] => q (enumD (signsD z)) (fun _ => True) S1
  | _ => False
theorem di_enumS {X : Cx} {K : PySem.W.Frag} {E : XK} {e : DX} {a : Expr} {p pos : Pos} {ts : DTA} {elts : List Expr} {kk : Nat} {tpos : Pos} (hg : Gl X "enumerate") (hm : X.mg "enumerate" = none) (ha : PA X [a] (tDA K E e ts)) (hs : starEach [a] X.env = [(false, eval a X.env)] := by rfl) :
    PI X (.Tuple elts kk tpos) (.Call (.Name "enumerate" p) [a] [] pos) (tDI K E e (dItES ts)) := ⟨fun pins s σ H R I h => by
  refine (pi_enumS (pos := pos) hg hm ha hs).run pins s σ H R I ?_
  obtain ⟨δ, S, Z, q, t, h, k⟩ := h
  refine ⟨δ, S, Z, _, t, h, fun vs xs H1 S1 g1 x1 r1 h1 => ?_⟩
  match xs, h1 with
  | [.str z], h1 =>
    obtain ⟨v, rfl, rv⟩ := reps1 r1
    exact ⟨z, by rw [rv.1], k _ _ H1 S1 _ g1 x1 (ok_enumS rv.2) h1⟩⟩
/-! min and max of three -/
@[reducible] def rcMin3 : DCr := fun xs S q => match xs with
  | [.int i, .int j, .int k] => q (.int (min (min i j) k)) S
  | _ => False
@[reducible] def rcMax3 : DCr := fun xs S q => match xs with
  | [.int i, .int j, .int k] => q (.int (max (max i j) k)) S
  | _ => False
theorem nu_lt (i j : Int) : nuLt (.int i) (.int j) = some (decide (i < j)) := rfl
theorem cd_max3 {X : Cx} {K : PySem.W.Frag} (hc : X.calm = true) : CallR X (.builtin "max") (rDC K rcMax3) := fun pins s σ H xs us Q I r ⟨ds, S, Z, q, g, rs, h, k⟩ => by
  match ds, h with
  | [.int i, .int j, .int l], h =>
    obtain ⟨u, v, w, rfl, r1, r2, r3⟩ := reps3 rs
    obtain rfl := (show u = _ from r1)
    obtain rfl := (show v = _ from r2)
    obtain rfl := (show w = _ from r3)
    refine call_max3Nu hc pins s σ H _ us Q I r ⟨_, _, _, .int (max (max i j) l), rfl, ?_, k.here g h rfl⟩
    unfold nuMax3 nuMax2
    rw [nu_lt]
    have e : (if decide (i < j) = true then V.int j else V.int i) = V.int (max i j) := by split <;> rename_i z <;> simp at z <;> congr 1 <;> omega
    simp only [Option.map_some, Option.bind_some, e, nu_lt]
    congr 1
    split <;> rename_i z <;> simp at z <;> congr 1 <;> omega
theorem cd_min3 {X : Cx} {K : PySem.W.Frag} (hc : X.calm = true) : CallR X (.builtin "min") (rDC K rcMin3) := fun pins s σ H xs us Q I r ⟨ds, S, Z, q, g, rs, h, k⟩ => by
  match ds, h with
  | [.int i, .int j, .int l], h =>
    obtain ⟨u, v, w, rfl, r1, r2, r3⟩ := reps3 rs
    obtain rfl := (show u = _ from r1)
    obtain rfl := (show v = _ from r2)
    obtain rfl := (show w = _ from r3)
    refine call_min3Nu hc pins s σ H _ us Q I r ⟨_, _, _, .int (min (min i j) l), rfl, ?_, k.here g h rfl⟩
    unfold nuMin3 nuMin2
    rw [nu_lt]
    have e : (if decide (j < i) = true then V.int j else V.int i) = V.int (min i j) := by split <;> rename_i z <;> simp at z <;> congr 1 <;> omega
    simp only [Option.map_some, Option.bind_some, e, nu_lt]
    congr 1
    split <;> rename_i z <;> simp at z <;> congr 1 <;> omega
end Dn

/-! equal data; a dict's items; comprehensions that map; numbers of a row -/
namespace Dn
open PySem PySem.Spec PyProof.Rows L2 Pr
mutual
theorem plain_of : ∀ d : Dt, isDat d = true → PyData.plain (py d) = true
  | .non, _ | .bl _, _ | .int _, _ | .str _, _ => rfl
  | .ref _, x | .ty _, x | .dic _, x | .obj _ _ _, x | .scr _, x | .lam _ _, x | .gco _ _, x => by simp [isDat] at x
  | .tup l, x => plains_of l x
  | .lst l, x => plains_of l x
theorem plains_of : ∀ l : List Dt, areDat l = true → PyData.plainAll (pys l) = true
  | [], _ => rfl
  | d :: l, x => by
    have x : (isDat d && areDat l) = true := x
    rw [Bool.and_eq_true] at x
    show (PyData.plain (py d) && PyData.plainAll (pys l)) = true
    rw [plain_of d x.1, plains_of l x.2]
    rfl
end
theorem deqv_self {d : Dt} (h : isDat d = true) : deqv d d = true := PySem.SeqAt.eqv_refl_plain _ (plain_of d h)
theorem ne_self {d : Dt} {S : Store} {q : DK} (h : isDat d = true) (hd : (py d).depth ≤ 64) (hq : q (.bl false) S) : dNe d d S q := ⟨⟨h, h, hd, hd⟩, by rw [deqv_self h]; exact hq⟩
theorem eq_self {d : Dt} {S : Store} {q : DK} (h : isDat d = true) (hd : (py d).depth ≤ 64) (hq : q (.bl true) S) : dEq d d S q := ⟨⟨h, h, hd, hd⟩, by rw [deqv_self h]; exact hq⟩
/-- data of a depth -/
structure DatN (d : Dt) (n : Nat) : Prop where
  dat : isDat d = true
  dep : (py d).depth ≤ n
theorem DatN.lst {l : List Dt} {n : Nat} (h : ∀ d ∈ l, DatN d n) : DatN (.lst l) (n + 1) := ⟨areDat_of fun d hd => (h d hd).dat, Nat.succ_le_succ (pys_dep fun d hd => (h d hd).dep)⟩
theorem DatN.tup {l : List Dt} {n : Nat} (h : ∀ d ∈ l, DatN d n) : DatN (.tup l) (n + 1) := ⟨areDat_of fun d hd => (h d hd).dat, Nat.succ_le_succ (pys_dep fun d hd => (h d hd).dep)⟩
theorem DatN.ne {d : Dt} {n : Nat} {S : Store} {q : DK} (h : DatN d n) (hn : n ≤ 64) (hq : q (.bl false) S) : dNe d d S q := ne_self h.dat (Nat.le_trans h.dep hn) hq
theorem DatN.lstM {α : Type} {L : List α} {f : α → Dt} {n : Nat} (h : ∀ x ∈ L, DatN (f x) n) : DatN (.lst (L.map f)) (n + 1) := DatN.lst fun d hd => by
  obtain ⟨x, hx, rfl⟩ := List.mem_map.mp hd
  exact h x hx
theorem DatN.tupM {α : Type} {L : List α} {f : α → Dt} {n : Nat} (h : ∀ x ∈ L, DatN (f x) n) : DatN (.tup (L.map f)) (n + 1) := DatN.tup fun d hd => by
  obtain ⟨x, hx, rfl⟩ := List.mem_map.mp hd
  exact h x hx
/-! what a dict holds -/
section
variable {κ : Type} [DecidableEq κ]
theorem kGet_any (k : κ) : ∀ l : List (κ × Dt), (l.any fun p => decide (p.1 = k)) = (kGet l k).isSome
  | [] => rfl
  | p :: l => by
    unfold kGet
    rw [List.any_cons, List.find?_cons]
    by_cases h : p.1 = k
    · simp [h]
    · have := kGet_any k l
      unfold kGet at this
      simp [h, this]
theorem kGet_put (l : List (κ × Dt)) (k j : κ) (d : Dt) : kGet (kPut l k d) j = if j = k then some d else kGet l j := by
  unfold kPut
  split
  · rename_i h
    rw [kGet_any] at h
    induction l with
    | nil => simp [kGet] at h
    | cons p l ih =>
      rw [List.map_cons]
      by_cases hp : p.1 = k
      · rw [if_pos hp]
        by_cases hj : j = k
        · subst hj
          simp [kGet, hp]
        · have e : ∀ m : List (κ × Dt), kGet (m.map fun p => if p.1 = k then (p.1, d) else p) j = kGet m j := fun m => by
            induction m with
            | nil => rfl
            | cons q m ih =>
              unfold kGet at ih ⊢
              rw [List.map_cons, List.find?_cons, List.find?_cons]
              by_cases hq : q.1 = k
              · rw [if_pos hq]
                have : ¬ k = j := fun z => hj z.symm
                simp only [hq, decide_eq_false this]
                exact ih
              · rw [if_neg hq]
                by_cases hqj : q.1 = j
                · simp [hqj]
                · simp only [decide_eq_false hqj]
                  exact ih
          have e := e l
          rw [if_neg hj]
          have : ¬ k = j := fun z => hj z.symm
          unfold kGet at e ⊢
          simp only [List.find?_cons, hp, decide_eq_false this]
          exact e
      · rw [if_neg hp]
        by_cases hj : p.1 = j
        · have : ¬ j = k := fun z => hp (hj.trans z)
          simp [kGet, hj, this]
        · have h2 : (kGet l k).isSome = true := by
            unfold kGet at h ⊢
            rw [List.find?_cons, decide_eq_false hp] at h
            exact h
          have := ih h2
          unfold kGet at this ⊢
          simp only [List.find?_cons, decide_eq_false hj]
          exact this
  · rename_i h
    rw [kGet_any, Bool.not_eq_true, Option.isSome_eq_false_iff, Option.isNone_iff_eq_none] at h
    unfold kGet at h ⊢
    rw [List.find?_append]
    by_cases hj : j = k
    · subst hj
      rw [if_pos rfl]
      rw [Option.map_eq_none_iff] at h
      rw [h]
      simp
    · rw [if_neg hj]
      have : ¬ k = j := fun z => hj z.symm
      simp [this]
theorem kPut_len (l : List (κ × Dt)) (k : κ) (d : Dt) : (kPut l k d).length ≤ l.length + 1 := by
  unfold kPut
  split
  · rw [List.length_map]; omega
  · rw [List.length_append]; exact Nat.le_refl _
end
/-! comprehensions that map, where nothing changes -/
section
variable {keep : Store → Prop} {g : DTG} {tt : DTT} {te : DTE} {q : List Dt → Store → Prop} {δ : DS} {S : Store}
theorem lc_map {α : Type} (enc : α → Dt) (f : α → Dt) (hk : keep S) (L : List α)
    (h : ∀ x ∈ L, ∀ (kY : Dt → Store → Prop) (kN : Store → Prop), kY (f x) S → g (enc x) δ S fun δ' S' => tt δ' S' fun b S2 => Ift b (te δ' S2 kY) (kN S2))
    (hq : q (L.map f) S) : lcGo keep g tt te q δ (L.map enc) [] S := by
  refine lcGo_pure enc (fun x => some (f x)) hk L [] (fun x hx kY kN hY _ => h x hx kY kN (hY _ rfl)) ?_
  rw [List.nil_append, show L.filterMap (fun x => some (f x)) = L.map f from congrFun List.filterMap_eq_map' L]
  exact hq
theorem filt_mapD {α β : Type} (enc : α → β) (p : α → Bool) : ∀ L : List α, L.filterMap (fun x => if p x = true then some (enc x) else none) = (L.filter p).map enc
  | [] => rfl
  | x :: r => by
    cases h : p x with
    | true => rw [List.filterMap_cons_some (b := enc x) (by simp [h]), List.filter_cons_of_pos h, List.map_cons, filt_mapD enc p r]
    | false => rw [List.filterMap_cons_none (by simp [h]), List.filter_cons_of_neg (by simp [h]), filt_mapD enc p r]
theorem lc_choose {α : Type} (enc : α → Dt) (p : α → Bool) (f : α → Dt) (hk : keep S) (L : List α)
    (h : ∀ x ∈ L, ∀ (kY : Dt → Store → Prop) (kN : Store → Prop), (p x = true → kY (f x) S) → (p x = false → kN S) → g (enc x) δ S fun δ' S' => tt δ' S' fun b S2 => Ift b (te δ' S2 kY) (kN S2))
    (hq : q ((L.filter p).map f) S) : lcGo keep g tt te q δ (L.map enc) [] S := by
  refine lcGo_pure enc (fun x => if p x = true then some (f x) else none) hk L [] (fun x hx kY kN hY hN => h x hx kY kN (fun e => hY _ (by rw [if_pos e])) (fun e => hN (by rw [e]; rfl))) ?_
  rw [List.nil_append, filt_mapD]
  exact hq
end
theorem dFor_eq (it : DTL) (g : DTG) (b : DTS) (D : DEnds) (δ : DS) (S : Store) : dFor it g b D δ S = it δ S fun l keep S1 => ∃ I : Nat → DS → Store → Prop, I 0 δ S1 ∧ (∀ i δ S, i ≤ l.length → I i δ S → keep S) ∧
  (∀ i d δ S, l[i]? = some d → I i δ S → g d δ S fun δ' S' => b { D with nx := I (i + 1), ct := I (i + 1), bk := D.nx } δ' S') ∧ ∀ δ S, I l.length δ S → D.nx δ S := rfl
theorem dLc_eq (it : DTL) (g : DTG) (w : List Nat) (tt : DTT) (te : DTE) (q : List Dt → Store → Prop) (δ : DS) (S : Store) : dLc it g w tt te q δ S = it δ S fun l keep S1 => l.length < sizeLine ∧ ∃ I : Nat → List Dt → Store → Prop, I 0 [] S1 ∧ (∀ i acc S, i ≤ l.length → I i acc S → keep S) ∧
  (∀ i d acc S, l[i]? = some d → I i acc S → g d (wipesS δ w) S fun δ' S' => tt δ' S' fun b S2 => Ift b (te δ' S2 fun y S3 => I (i + 1) (acc ++ [y]) S3) (I (i + 1) acc S2)) ∧ ∀ acc S, I l.length acc S → q acc S := rfl
/-! a for over a row, by an invariant over the index -/
section
variable {keep : Store → Prop} {g : DTG} {b : DTS} {D : DEnds}
theorem forGo_at {α : Type} (enc : α → Dt) (L : List α) (I : Nat → DS → Store → Prop) (hk : ∀ i δ S, I i δ S → keep S)
    (h : ∀ i x δ S, L[i]? = some x → I i δ S → ∀ nx : DS → Store → Prop, (∀ δ' S', I (i + 1) δ' S' → nx δ' S') → g (enc x) δ S fun δ' S' => b { D with nx := nx, ct := nx, bk := D.nx } δ' S')
    (fin : ∀ δ S, I L.length δ S → D.nx δ S) : ∀ {δ : DS} {S : Store}, I 0 δ S → forGo keep g b D (L.map enc) δ S := by
  have go : ∀ (M : List α) (k : Nat), M = L.drop k → k + M.length = L.length → ∀ δ S, I k δ S → forGo keep g b D (M.map enc) δ S := by
    intro M
    induction M with
    | nil => exact fun k e hl δ S i => ⟨hk _ _ _ i, fin δ S (by rw [← hl]; exact i)⟩
    | cons x M ih =>
      intro k e hl δ S i
      have ex : L[k]? = some x := by
        have := congrArg (fun l => l[0]?) e
        rw [List.getElem?_drop] at this
        simpa using this.symm
      refine ⟨hk _ _ _ i, h k x δ S ex i _ fun δ' S' i' => ih (k + 1) ?_ (by rw [List.length_cons] at hl; omega) δ' S' i'⟩
      have := congrArg List.tail e
      rw [List.tail_cons, List.tail_drop] at this
      exact this
  exact fun {δ S} i => go L 0 rfl (by omega) δ S i
theorem forGo_rng (lo : Int) (n : Nat) (I : Nat → DS → Store → Prop)
    (h : ∀ (i : Nat) δ S, i < n → I i δ S → ∀ nx : DS → Store → Prop, (∀ δ' S', I (i + 1) δ' S' → nx δ' S') → g (.int (lo + i)) δ S fun δ' S' => b { D with nx := nx, ct := nx, bk := D.nx } δ' S')
    (fin : ∀ δ S, I n δ S → D.nx δ S) {δ : DS} {S : Store} (i0 : I 0 δ S) : forGo (fun _ => True) g b D (rangeD lo n) δ S := by
  refine forGo_at (fun (i : Nat) => Dt.int (lo + i)) (List.range n) I (fun _ _ _ _ => trivial) (fun i x δ S e ii nx k => ?_) (fun δ S ii => fin δ S (by rw [List.length_range] at ii; exact ii)) i0
  have hi : i < n := by
    have := (List.getElem?_eq_some_iff.mp e).1
    rwa [List.length_range] at this
  rw [List.getElem?_range hi] at e
  cases e
  exact h i δ S hi ii nx k
end
theorem rangeD0 (n : Nat) : rangeD 0 n = (List.range n).map fun (i : Nat) => Dt.int i := by
  rw [show rangeD 0 n = (List.range n).map fun (i : Nat) => Dt.int (0 + i) from rfl]
  exact List.map_congr_left fun i _ => by rw [Int.zero_add]
theorem tup_go {δw : DS} {g : DTG} {tt : DTT} {te : DTE} {l : List Dt} {keep : Store → Prop} {q : DK} {S1 : Store} (hl : l.length < sizeLine) (h : lcGo keep g tt te (fun acc S => q (.tup acc) S) δw l [] S1) : dTupT δw g tt te l keep q S1 := ⟨hl, lc_go h⟩
theorem rangeD_eq (lo : Int) (n : Nat) : rangeD lo n = (List.range n).map fun (i : Nat) => Dt.int (lo + i) := rfl
end Dn

namespace K07
open PySem PySem.Spec PyProof.Rows L2 Pr Dn
def top (i : Nat) : Stmt := PySem.Challenge.pw_pagestack_k07_cells_that_are_painted.main.body.getD i (.Pass ⟨0, 0, 0, 0⟩)
abbrev s_Canvas_init : Stmt := inClass (top 5) 0
abbrev s_Canvas_cell : Stmt := inClass (top 5) 1
abbrev s_Canvas_fill : Stmt := inClass (top 5) 2
abbrev s_Canvas_write : Stmt := inClass (top 5) 3
abbrev s_Canvas_letter_rows : Stmt := inClass (top 5) 4
abbrev s_Canvas_shown : Stmt := inClass (top 5) 5
abbrev s_meeting : Stmt := top 6
abbrev s_element_at : Stmt := top 7
abbrev s_law_dice : Stmt := top 9
abbrev s_law_roll : Stmt := top 10
abbrev s_law_rounds : Stmt := top 11
abbrev s_law_told : Stmt := top 12
abbrev s_law_in : Stmt := top 13
abbrev s_law : Stmt := top 14
theorem sc_Canvas_init : FnScope ["self", "width", "height"] ["self", "width", "height"] (defScope s_Canvas_init) := ⟨rfl, rfl, rfl, by decide +kernel, rfl, by decide +kernel, by decide +kernel⟩
theorem sc_Canvas_cell : FnScope ["self", "column", "row"] ["self", "column", "row"] (defScope s_Canvas_cell) := ⟨rfl, rfl, rfl, by decide +kernel, rfl, by decide +kernel, by decide +kernel⟩
theorem sc_Canvas_fill : FnScope ["self", "area", "colour", "number", "clip", "left", "top", "width", "height", "row", "column", "old"] ["self", "area", "colour", "number", "clip"] (defScope s_Canvas_fill) := ⟨rfl, rfl, rfl, by decide +kernel, rfl, by decide +kernel, by decide +kernel⟩
theorem sc_Canvas_write : FnScope ["self", "column", "row", "text", "look", "clip", "colour", "background", "number", "place", "sign", "spot", "inside", "old"] ["self", "column", "row", "text", "look", "clip"] (defScope s_Canvas_write) := ⟨rfl, rfl, rfl, by decide +kernel, rfl, by decide +kernel, by decide +kernel⟩
theorem sc_Canvas_letter_rows : FnScope ["self", "row", "column"] ["self"] (defScope s_Canvas_letter_rows) := ⟨rfl, rfl, rfl, by decide +kernel, rfl, by decide +kernel, by decide +kernel⟩
theorem sc_Canvas_shown : FnScope ["self", "?g", "row", "column"] ["self"] (defScope s_Canvas_shown) := ⟨rfl, rfl, rfl, by decide +kernel, rfl, by decide +kernel, by decide +kernel⟩
theorem sc_meeting : FnScope ["one", "other", "left", "top", "width"] ["one", "other"] (defScope s_meeting) := ⟨rfl, rfl, rfl, by decide +kernel, rfl, by decide +kernel, by decide +kernel⟩
theorem sc_element_at : FnScope ["canvas", "column", "row"] ["canvas", "column", "row"] (defScope s_element_at) := ⟨rfl, rfl, rfl, by decide +kernel, rfl, by decide +kernel, by decide +kernel⟩
theorem sc_law_dice : FnScope ["cell"] ["cell"] (defScope s_law_dice) := ⟨rfl, rfl, rfl, by decide +kernel, rfl, by decide +kernel, by decide +kernel⟩
theorem sc_law_roll : FnScope ["dice", "many", "found"] ["dice", "many"] (defScope s_law_roll) := ⟨rfl, rfl, rfl, by decide +kernel, rfl, by decide +kernel, by decide +kernel⟩
theorem sc_law_rounds : FnScope ["script", "most", "cells", "cell"] ["script", "most"] (defScope s_law_rounds) := ⟨rfl, rfl, rfl, by decide +kernel, rfl, by decide +kernel, by decide +kernel⟩
theorem sc_law_told : FnScope ["what"] ["what"] (defScope s_law_told) := ⟨rfl, rfl, rfl, by decide +kernel, rfl, by decide +kernel, by decide +kernel⟩
theorem sc_law_in : FnScope ["area", "column", "row"] ["area", "column", "row"] (defScope s_law_in) := ⟨rfl, rfl, rfl, by decide +kernel, rfl, by decide +kernel, by decide +kernel⟩
theorem sc_law : FnScope ["script", "dice", "width", "height", "cells", "canvas", "step", "area", "clip", "colour", "number", "whole", "column", "row", "old", "text", "place", "sign", "due", "one", "other", "both", "shared", "k", "spot"] ["script"] (defScope s_law) := ⟨rfl, rfl, rfl, by decide +kernel, rfl, by decide +kernel, by decide +kernel⟩
abbrev sl_Canvas_init : List Str := ["self", "width", "height"]
abbrev sl_Canvas_cell : List Str := ["self", "column", "row"]
abbrev sl_Canvas_fill : List Str := ["self", "area", "colour", "number", "clip", "left", "top", "width", "height", "row", "column", "old"]
abbrev sl_Canvas_write : List Str := ["self", "column", "row", "text", "look", "clip", "colour", "background", "number", "place", "sign", "spot", "inside", "old"]
abbrev sl_Canvas_letter_rows : List Str := ["self", "row", "column"]
abbrev sl_Canvas_shown : List Str := ["self", "?g", "row", "column"]
abbrev sl_meeting : List Str := ["one", "other", "left", "top", "width"]
abbrev sl_element_at : List Str := ["canvas", "column", "row"]
abbrev sl_law_dice : List Str := ["cell"]
abbrev sl_law_roll : List Str := ["dice", "many", "found"]
abbrev sl_law_rounds : List Str := ["script", "most", "cells", "cell"]
abbrev sl_law_told : List Str := ["what"]
abbrev sl_law_in : List Str := ["area", "column", "row"]
abbrev sl_law : List Str := ["script", "dice", "width", "height", "cells", "canvas", "step", "area", "clip", "colour", "number", "whole", "column", "row", "old", "text", "place", "sign", "due", "one", "other", "both", "shared", "k", "spot"]
def d_Canvas_init : He.DefD := ⟨("Canvas", some "__init__"), "__init__", "Canvas.__init__", defArgs s_Canvas_init, defBody s_Canvas_init, defScope s_Canvas_init, [], []⟩
def d_Canvas_cell : He.DefD := ⟨("Canvas", some "cell"), "cell", "Canvas.cell", defArgs s_Canvas_cell, defBody s_Canvas_cell, defScope s_Canvas_cell, [], []⟩
def d_Canvas_fill : He.DefD := ⟨("Canvas", some "fill"), "fill", "Canvas.fill", defArgs s_Canvas_fill, defBody s_Canvas_fill, defScope s_Canvas_fill, [], []⟩
def d_Canvas_write : He.DefD := ⟨("Canvas", some "write"), "write", "Canvas.write", defArgs s_Canvas_write, defBody s_Canvas_write, defScope s_Canvas_write, [], []⟩
def d_Canvas_letter_rows : He.DefD := ⟨("Canvas", some "letter_rows"), "letter_rows", "Canvas.letter_rows", defArgs s_Canvas_letter_rows, defBody s_Canvas_letter_rows, defScope s_Canvas_letter_rows, [], []⟩
def d_Canvas_shown : He.DefD := ⟨("Canvas", some "shown"), "shown", "Canvas.shown", defArgs s_Canvas_shown, defBody s_Canvas_shown, defScope s_Canvas_shown, [], []⟩
def d_meeting : He.DefD := ⟨("meeting", none), "meeting", "meeting", defArgs s_meeting, defBody s_meeting, defScope s_meeting, [], []⟩
def d_element_at : He.DefD := ⟨("element_at", none), "element_at", "element_at", defArgs s_element_at, defBody s_element_at, defScope s_element_at, [], []⟩
def d_law_dice : He.DefD := ⟨("_law_dice", none), "_law_dice", "_law_dice", defArgs s_law_dice, defBody s_law_dice, defScope s_law_dice, [], []⟩
def d_law_roll : He.DefD := ⟨("_law_roll", none), "_law_roll", "_law_roll", defArgs s_law_roll, defBody s_law_roll, defScope s_law_roll, [], []⟩
def d_law_rounds : He.DefD := ⟨("_law_rounds", none), "_law_rounds", "_law_rounds", defArgs s_law_rounds, defBody s_law_rounds, defScope s_law_rounds, [], []⟩
def d_law_told : He.DefD := ⟨("_law_told", none), "_law_told", "_law_told", defArgs s_law_told, defBody s_law_told, defScope s_law_told, [], []⟩
def d_law_in : He.DefD := ⟨("_law_in", none), "_law_in", "_law_in", defArgs s_law_in, defBody s_law_in, defScope s_law_in, [], []⟩
def d_law : He.DefD := ⟨("law", none), "law", "law", defArgs s_law, defBody s_law, defScope s_law, [], []⟩
def fn : List He.DefD := [d_Canvas_init, d_Canvas_cell, d_Canvas_fill, d_Canvas_write, d_Canvas_letter_rows, d_Canvas_shown, d_meeting, d_element_at, d_law_dice, d_law_roll, d_law_rounds, d_law_told, d_law_in, d_law]
def fa : List He.Fa := [.glo "PageError", .glo "SizeError", .glo "Canvas", .glo "meeting", .glo "element_at", .glo "_law_dice", .glo "_law_roll", .glo "_law_rounds", .glo "_law_told", .glo "_law_in", .glo "law", .int "MOST_CELLS" (20000), .free "range", .free "max", .free "min", .free "enumerate", .free "tuple", .free "int", .free "abs", .free "list", .free "len", .exc "PageError", .keep "PageError", .exc "SizeError", .keep "SizeError", .cls "Canvas", .noat "Canvas" "width", .noat "Canvas" "height", .noat "Canvas" "cells", .mkr "Canvas", .meth "Canvas" "cell", .meth "Canvas" "fill", .meth "Canvas" "write", .meth "Canvas" "letter_rows", .meth "Canvas" "shown", .exm "SizeError" "SizeError" true]
def tf : List He.Defn := [("law", none), ("Canvas", some "letter_rows"), ("Canvas", some "shown")]
def ts : List He.Tab := []
def exB : PySem.W.Frag → Bool := fun K => (decide ([(He.cT K ("law", none)).2, (He.cT K ("Canvas", some "letter_rows")).2, (He.cT K ("Canvas", some "shown")).2].Nodup))
abbrev R : PySem.W.OpenRow := PySem.W.OpenLaw.row PySem.Challenge.rw_pagestack_k07_cells_that_are_painted
abbrev hk : PySem.W.Hook := He.hookX 6 fa fn ts tf exB
def ob (s : PySem.W.SharedT) : He.AlX := He.obsX 6 fa fn ts tf exB (HandSHeadRun.getT s)
theorem ob_eq (s : PySem.W.SharedT) : ob s = hk.obs s.abs := He.obsX_eq (HandSHeadRun.getT_eq s)
def looseN : List PySem.Str := ["PageError", "SizeError", "MOST_CELLS", "Canvas", "meeting", "element_at", "_law_dice", "_law_roll", "_law_rounds", "_law_told", "_law_in"]
theorem run (w : World) : HandSHeadRun.RunEq R (PySem.W.view R.prog [14]) hk ob 20000 looseN w := by
  intro os
  kernel_rfl
structure Tx (K : PySem.W.Frag) (mg : Str → Option Value) : Prop where
  g_PageError : mg "PageError" = some (.ref (He.ga K "PageError"))
  g_SizeError : mg "SizeError" = some (.ref (He.ga K "SizeError"))
  g_Canvas : mg "Canvas" = some (.ref (He.ga K "Canvas"))
  g_meeting : mg "meeting" = some (.ref (He.ga K "meeting"))
  g_element_at : mg "element_at" = some (.ref (He.ga K "element_at"))
  g__law_dice : mg "_law_dice" = some (.ref (He.ga K "_law_dice"))
  g__law_roll : mg "_law_roll" = some (.ref (He.ga K "_law_roll"))
  g__law_rounds : mg "_law_rounds" = some (.ref (He.ga K "_law_rounds"))
  g__law_told : mg "_law_told" = some (.ref (He.ga K "_law_told"))
  g__law_in : mg "_law_in" = some (.ref (He.ga K "_law_in"))
  g_law : mg "law" = some (.ref (He.ga K "law"))
  g_MOST_CELLS : ∃ u, mg "MOST_CELLS" = some u ∧ RelV (.int (20000)) u
  b_range : mg "range" = none
  b_max : mg "max" = none
  b_min : mg "min" = none
  b_enumerate : mg "enumerate" = none
  b_tuple : mg "tuple" = none
  b_int : mg "int" = none
  b_abs : mg "abs" = none
  b_list : mg "list" = none
  b_len : mg "len" = none
  x_PageError : PySem.W.excIn K (He.ga K "PageError") He.veBase "ValueError.__new__" = true ∧ PySem.W.keepIn K (.ref (He.ga K "PageError")) = true ∧ PySem.W.subIn K (.ref (He.ga K "PageError")) (.type "BaseException") = some true ∧ PySem.W.typeIn K (.ref (He.ga K "PageError")) = some (.type "type")
  x_SizeError : PySem.W.excIn K (He.ga K "SizeError") He.veBase "ValueError.__new__" = true ∧ PySem.W.keepIn K (.ref (He.ga K "SizeError")) = true ∧ PySem.W.subIn K (.ref (He.ga K "SizeError")) (.type "BaseException") = some true ∧ PySem.W.typeIn K (.ref (He.ga K "SizeError")) = some (.type "type")
  cl_Canvas : Cls K (He.ga K "Canvas")
  no_Canvas_width : NoAttr K (He.ga K "Canvas") "width"
  no_Canvas_height : NoAttr K (He.ga K "Canvas") "height"
  no_Canvas_cells : NoAttr K (He.ga K "Canvas") "cells"
  mk_Canvas : Mk K (He.ga K "Canvas") (He.ma K (He.ga K "Canvas") "__init__")
  me_Canvas_cell : Meth K (He.ga K "Canvas") "cell" (He.ma K (He.ga K "Canvas") "cell")
  me_Canvas_fill : Meth K (He.ga K "Canvas") "fill" (He.ma K (He.ga K "Canvas") "fill")
  me_Canvas_write : Meth K (He.ga K "Canvas") "write" (He.ma K (He.ga K "Canvas") "write")
  me_Canvas_letter_rows : Meth K (He.ga K "Canvas") "letter_rows" (He.ma K (He.ga K "Canvas") "letter_rows")
  me_Canvas_shown : Meth K (He.ga K "Canvas") "shown" (He.ma K (He.ga K "Canvas") "shown")
  e_SizeError_SizeError : PySem.W.exmOne K (.ref (He.ga K "SizeError")) (.ref (He.ga K "SizeError")) = some true
theorem tx_of {K : PySem.W.Frag} {h : Heap} {mg : Str → Option Value} (X : K.In h) (G : h.Ns mainGlobals mg) (c : He.SaysD fa fn K) (ex : exB K = true) : Tx K mg := by
  exact {
    g_PageError := He.glo_ok X G (c.fact 0 (f := .glo "PageError") rfl)
    g_SizeError := He.glo_ok X G (c.fact 1 (f := .glo "SizeError") rfl)
    g_Canvas := He.glo_ok X G (c.fact 2 (f := .glo "Canvas") rfl)
    g_meeting := He.glo_ok X G (c.fact 3 (f := .glo "meeting") rfl)
    g_element_at := He.glo_ok X G (c.fact 4 (f := .glo "element_at") rfl)
    g__law_dice := He.glo_ok X G (c.fact 5 (f := .glo "_law_dice") rfl)
    g__law_roll := He.glo_ok X G (c.fact 6 (f := .glo "_law_roll") rfl)
    g__law_rounds := He.glo_ok X G (c.fact 7 (f := .glo "_law_rounds") rfl)
    g__law_told := He.glo_ok X G (c.fact 8 (f := .glo "_law_told") rfl)
    g__law_in := He.glo_ok X G (c.fact 9 (f := .glo "_law_in") rfl)
    g_law := He.glo_ok X G (c.fact 10 (f := .glo "law") rfl)
    g_MOST_CELLS := let ⟨t, e⟩ := He.int_ok X G (c.fact 11 (f := .int "MOST_CELLS" (20000)) rfl); ⟨_, e, t, rfl⟩
    b_range := He.free_ok X G (c.fact 12 (f := .free "range") rfl)
    b_max := He.free_ok X G (c.fact 13 (f := .free "max") rfl)
    b_min := He.free_ok X G (c.fact 14 (f := .free "min") rfl)
    b_enumerate := He.free_ok X G (c.fact 15 (f := .free "enumerate") rfl)
    b_tuple := He.free_ok X G (c.fact 16 (f := .free "tuple") rfl)
    b_int := He.free_ok X G (c.fact 17 (f := .free "int") rfl)
    b_abs := He.free_ok X G (c.fact 18 (f := .free "abs") rfl)
    b_list := He.free_ok X G (c.fact 19 (f := .free "list") rfl)
    b_len := He.free_ok X G (c.fact 20 (f := .free "len") rfl)
    x_PageError := He.exc_ok (c.fact 21 (f := .exc "PageError") rfl)
    x_SizeError := He.exc_ok (c.fact 23 (f := .exc "SizeError") rfl)
    cl_Canvas := He.cls_ok (c.fact 25 (f := .cls "Canvas") rfl)
    no_Canvas_width := He.noat_ok (c.fact 26 (f := .noat "Canvas" "width") rfl)
    no_Canvas_height := He.noat_ok (c.fact 27 (f := .noat "Canvas" "height") rfl)
    no_Canvas_cells := He.noat_ok (c.fact 28 (f := .noat "Canvas" "cells") rfl)
    mk_Canvas := He.mkr_ok (c.fact 29 (f := .mkr "Canvas") rfl)
    me_Canvas_cell := He.meth_ok (c.fact 30 (f := .meth "Canvas" "cell") rfl)
    me_Canvas_fill := He.meth_ok (c.fact 31 (f := .meth "Canvas" "fill") rfl)
    me_Canvas_write := He.meth_ok (c.fact 32 (f := .meth "Canvas" "write") rfl)
    me_Canvas_letter_rows := He.meth_ok (c.fact 33 (f := .meth "Canvas" "letter_rows") rfl)
    me_Canvas_shown := He.meth_ok (c.fact 34 (f := .meth "Canvas" "shown") rfl)
    e_SizeError_SizeError := He.exm_ok (c.fact 35 (f := .exm "SizeError" "SizeError" true) rfl)
  }
def nm_Canvas : List Str := ["width", "height", "cells"]
theorem fd_Canvas_width {K : PySem.W.Frag} {mg : Str → Option Value} (T : Tx K mg) : Dn.FldI K (He.ga K "Canvas") nm_Canvas "width" 0 := ⟨T.cl_Canvas, T.no_Canvas_width, by decide +kernel, rfl, by decide⟩
theorem fd_Canvas_height {K : PySem.W.Frag} {mg : Str → Option Value} (T : Tx K mg) : Dn.FldI K (He.ga K "Canvas") nm_Canvas "height" 1 := ⟨T.cl_Canvas, T.no_Canvas_height, by decide +kernel, rfl, by decide⟩
theorem fd_Canvas_cells {K : PySem.W.Frag} {mg : Str → Option Value} (T : Tx K mg) : Dn.FldI K (He.ga K "Canvas") nm_Canvas "cells" 2 := ⟨T.cl_Canvas, T.no_Canvas_cells, by decide +kernel, rfl, by decide⟩
end K07


open PySem PySem.Spec PyProof.Rows L2 Pr Dn

/-! steps over deep values -/
local macro_rules | `(tactic| walk_at "w") => `(tactic| with_reducible conv => whnf)
local macro_rules | `(tactic| walk_at "ne") => `(tactic| first
  | with_reducible assumption
  | exact Ne.symm (by with_reducible assumption)
  | exact ne_free (by with_reducible assumption) (by with_reducible assumption)
  | exact Ne.symm (ne_free (by with_reducible assumption) (by with_reducible assumption))
  | exact ne_cell (by with_reducible assumption) (by with_reducible assumption) (fun z => Cell.noConfusion z))
local macro_rules | `(tactic| walk_at "st") => `(tactic| first
  | with_reducible assumption
  | ((with_reducible refine Eq.trans sput_same ?_); rfl)
  | ((with_reducible refine Eq.trans (sput_ne ?_) ?_); (focus (walk_at "ne")); (walk_at "st"))
  | ((with_reducible refine Eq.trans (sdel_ne ?_) ?_); (focus (walk_at "ne")); (walk_at "st")))
local macro_rules | `(tactic| walk_at "su") => `(tactic| ((try dsimp only); walk_at "st"))
local macro_rules | `(tactic| walk_at "ar") => `(tactic| first | with_reducible assumption | omega | exact And.intro (by omega) (by omega) | exact ⟨by omega, by omega, by omega⟩ | exact Or.inr ⟨by omega, by omega⟩ | exact Or.inl ⟨by omega, by omega⟩ | decide)
local macro_rules | `(tactic| walk_at "sz") => `(tactic| first | with_reducible assumption | (refine szD ?_; first | (simp only [List.length_map, List.length_append, List.length_cons, List.length_nil, Dn.encD_len]; omega) | (simp; done)))
local macro_rules | `(tactic| walk_at "len") => `(tactic| omega)
local macro_rules | `(tactic| walk_at "q") => `(tactic| first
  | ((with_reducible show ∃ c, sput _ _ _ _ = some c ∧ _); refine ⟨_, by walk_at "st", ?_⟩)
  | ((with_reducible show ∃ c, (_ : Store) _ = some c ∧ _); refine ⟨_, by walk_at "st", ?_⟩)
  | ((with_reducible show ∃ l, _ = some (Cell.ins _ _ l) ∧ _); refine ⟨_, by walk_at "st", ?_⟩)
  | ((with_reducible show ∃ l, _ = some (Cell.lst l) ∧ _); refine ⟨_, by walk_at "st", ?_⟩)
  | ((with_reducible show ∃ l, _ = some (Cell.dct l) ∧ _); refine ⟨_, by walk_at "st", ?_⟩)
  | ((with_reducible show ∃ l, _ = some (Cell.dic l) ∧ _); refine ⟨_, by walk_at "st", ?_⟩)
  | ((with_reducible show ∃ l, (_ = some (Cell.dic l) ∨ _) ∧ _); refine ⟨_, Or.inl (by walk_at "st"), ?_⟩)
  | ((with_reducible show ∃ l, (_ = some (Cell.dic l) ∨ _) ∧ _); refine ⟨_, Or.inr ⟨_, by walk_at "st"⟩, ?_⟩)
  | ((with_reducible show ∃ u l, _ = some (Cell.lck u l) ∧ _); refine ⟨_, _, by walk_at "st", ?_⟩)
  | ((with_reducible show ∃ k, Dt.bl _ = Dt.bl k ∧ _); refine ⟨_, rfl, ?_⟩)
  | with_reducible refine eq_strS ?_ | with_reducible refine ne_strS ?_ | with_reducible refine eq_blS ?_ | with_reducible refine ne_blS ?_ | with_reducible refine eq_nonS ?_ | with_reducible refine ne_nonS ?_ | with_reducible refine eq_blStr ?_ | with_reducible refine ne_blStr ?_
  | with_reducible refine eq_int ?_ | with_reducible refine eq_str ?_ | with_reducible refine eq_bl ?_ | with_reducible refine ne_int ?_ | with_reducible refine ne_str ?_ | with_reducible refine ne_bl ?_
  | ((with_reducible show ∃ j, ixN _ _ = some j ∧ _); refine ⟨_, rfl, ?_⟩)
  | ((with_reducible show dAtN (List.set _ _ _) _ _); dsimp only [List.set, Int.reduceToNat])
  | with_reducible refine ift_nt ?_ | with_reducible refine ift_nf ?_
  | ((with_reducible show dLc _ _ _ _ _ _ _ _); rw [dLc_eq])
  | ((with_reducible show dFor _ _ _ _ _ _); rw [dFor_eq])
  | ((with_reducible show (_ < sizeLine) ∧ _); refine And.intro ?_ ?_; (focus (walk_at "sz")))
  | ((with_reducible show (_ ≤ sizeLine) ∧ _); refine And.intro ?_ ?_; (focus (first | with_reducible assumption | (refine szX ?_; walk_at "len") | (refine szl ?_; first | (simp only [List.length_map, List.length_append, List.length_cons, List.length_nil, Dn.encD_len]; omega) | (simp; done)))))
  | with_reducible refine in_str ?_ | with_reducible refine nin_str ?_
  | ((with_reducible show ∃ I : Nat → List Dt → Store → Prop, _); refine lc_go ?_)
  | ((with_reducible show ∃ I : Nat → DS → Store → Prop, _); refine for_go ?_)
  | ((with_reducible show ∃ b, kitB _ _ = some b ∧ _); refine ⟨_, rfl, ?_⟩)
  | ((with_reducible show dAtN (List.set _ _ _) _ _); dsimp only [List.set, Int.reduceToNat])
  | ((with_reducible show dLc _ _ _ _ _ _ _ _); rw [dLc_eq])
  | ((with_reducible show dFor _ _ _ _ _ _); rw [dFor_eq])
  | ((with_reducible show (_ < sizeLine) ∧ _); refine ⟨by walk_at "sz", lc_go ?_⟩)
  | ((with_reducible show ∃ I : Nat → DS → Store → Prop, (_ ∧ (∀ i δ S, i ≤ _ → _ → _) ∧ (∀ i d δ S, _ → _ → _) ∧ (∀ δ S, _ → _))); refine for_go ?_)
  | ((with_reducible refine iftN_f ?_ ?_); (focus decide)) | ((with_reducible refine iftN_t ?_ ?_); (focus decide))
  | ((with_reducible show _ ∧ _); refine ⟨by first | exact trivial | with_reducible exact rfl | exact ⟨rfl, rfl⟩ | walk_at "st" | walk_at "ar", ?_⟩))
local macro_rules | `(tactic| walk_at "go") => `(tactic| ((walk_at "w"); repeat ((walk_at "q"); (walk_at "w"))))
local macro_rules | `(tactic| walk_at "a") => `(tactic| first
  | with_reducible refine g_seq ?_)
open K07
open PySem PySem.Spec PyProof.Rows L2 Pr Dn

namespace K07
section
variable {P : Program} {w : World} {K : PySem.W.Frag} {mg : Str → Option Value} {base : Heap}
theorem ok_roll (T : Tx K mg) {f : Addr} {fd : FuncData} (F : FunD K "_law_roll" "_law_roll" (defArgs s_law_roll) (defBody s_law_roll) (defScope s_law_roll) [] [] f fd) : FnOk P w K mg base (L2.CX P w) 1 f fd ["dice", "many"] (spD K cRoll) := by
  refine dfn 3 F sc_law_roll (fun ds S q e h => ?_) rfl (fun cdv A outer s H E e hr => ⟨_, (dss_cons (ds_if (PW.pt (dt_or (dt_cmp (od_eq rfl (hU_of hr)) (de_ixC (n := 2) rfl (dv (pv 0))) de_int) (pw_or1 (PW.pt (dt_and (dt_cmp (od_eq rfl (hU_of hr)) (de_ixC (n := 2) rfl (dv (pv 0))) de_int) (pw_and1 (dt_cmp od_gt (de_ixC (n := 0) rfl (dv (pv 0))) de_int))))))) (dss_cons (ds_set (i := 2) sc_law_roll.nd rfl (Or.inl rfl) (de_op od_mod (de_callTy cd_int (by rfl) T.b_int (by decide +kernel) (da_cons (de_ixC (n := 0) rfl (dv (pv 0))) da_nil)) (dv (pv 1))))
  (dss_cons (ds_asg (de_op od_fdiv (de_ixC (n := 0) rfl (dv (pv 0))) (dv (pv 1))) (dg_subL (dv (pv 0)) de_int))
  (dss_one (ds_ret (dv (pv 2)))))) dss_nil)
  (dss_cons (ds_asg de_int (dg_subL (dv (pv 0)) de_int))
  (dss_cons (ds_if (dt_cmp od_gt (dv (pv 1)) de_int) (dss_one ds_never) dss_nil)
  (dss_cons (ds_asg (de_op od_mod (de_callTy cd_int (by rfl) T.b_int (by decide +kernel) (da_cons (de_op (od_add rfl) (de_op (od_add rfl) (de_op od_mul (de_ixC (n := 0) rfl (dv (pv 0))) de_int) (de_op od_mul (de_ixC (n := 1) rfl (dv (pv 0))) de_int)) de_int) da_nil)) de_int) (dg_subL (dv (pv 0)) de_int))
  (dss_cons (ds_asg (de_op (od_add rfl) (de_ixC (n := 1) rfl (dv (pv 0))) de_int) (dg_subL (dv (pv 0)) de_int))
  (dss_one (ds_ret (de_op od_mod (de_callTy cd_int (by rfl) T.b_int (by decide +kernel) (da_cons (de_op od_fdiv (de_ixC (n := 0) rfl (dv (pv 0))) de_int) da_nil)) (dv (pv 1)))))))))), fun ds S q h => ?_⟩)
  · obtain ⟨d, x, n, k, m, rfl, _⟩ := h
    rfl
  · obtain ⟨d, x, n, k, m, rfl, hd, hm, kk⟩ := h
    have fin : ∀ (y : Int) (x' n' k' : Int), q (.int (y % m)) (sput S d (.lst [.int x', .int n', .int k'])) := fun y x' n' k' => kk _ _ _ _ (Int.emod_nonneg _ (by omega)) (Int.emod_lt_of_pos _ hm.1)
    walk_at "go"
    refine ift (fun h => ?_) (fun h => ?_)
    · walk_at "go"
      exact fin _ _ _ _
    · walk_at "go"
      refine ift (fun h => ?_) (fun h => ?_)
      · walk_at "go"
        refine ift (fun h => ?_) (fun h => ?_)
        · walk_at "go"
          exact fin _ _ _ _
        · walk_at "go"
          refine ift_pf (by omega) ?_
          walk_at "go"
          simp only [sput_sput]
          exact fin _ _ _ _
      · walk_at "go"
        refine ift_pf (by omega) ?_
        walk_at "go"
        simp only [sput_sput]
        exact fin _ _ _ _
theorem ok_dice (T : Tx K mg) {f : Addr} {fd : FuncData} (F : FunD K "_law_dice" "_law_dice" (defArgs s_law_dice) (defBody s_law_dice) (defScope s_law_dice) [] [] f fd) : FnOk P w K mg base (L2.CX P w) 1 f fd ["cell"] (spD K cDice) := by
  refine dfn 1 F sc_law_dice (fun ds S q e h => ?_) rfl (fun cdv A outer s H E e hr => ⟨_, (dss_cons (ds_if (dt_chain od_lt od_lt (de_op od_sub de_int de_int) (dv (pv 0)) de_int) (dss_one (ds_ret (de_lstO (da_cons (de_callB cd_abs (by rfl) T.b_abs (by decide +kernel) (da_cons (dv (pv 0)) da_nil)) (da_cons de_int (da_cons de_int da_nil)))))) dss_nil)
  (dss_one (ds_ret (de_lstO (da_cons (dv (pv 0)) (da_cons (de_op (od_add rfl) de_int (de_op od_mod (de_callTy cd_int (by rfl) T.b_int (by decide +kernel) (da_cons (dv (pv 0)) da_nil)) de_int)) (da_cons (de_callTy cd_int (by rfl) T.b_int (by decide +kernel) (da_cons (de_cmp od_ge (dv (pv 0)) (de_op od_pow de_int de_int)) da_nil)) da_nil))))))), fun ds S q h => ?_⟩)
  · obtain ⟨c, rfl, _⟩ := h
    rfl
  · obtain ⟨c, rfl, kk⟩ := h
    walk_at "go"
    refine ift (fun h1 => ?_) (fun h1 => ?_)
    · walk_at "go"
      refine ift (fun h2 => ?_) (fun h2 => ?_)
      · walk_at "go"
        exact fun p hp => kk p _ _ _ hp
      · walk_at "go"
        exact fun p hp => kk p _ _ _ hp
    · walk_at "go"
      exact fun p hp => kk p _ _ _ hp
theorem ok_rounds (T : Tx K mg) (c__law_dice : CalX P w K mg base 1 "_law_dice" (spD K cDice) []) {f : Addr} {fd : FuncData} (F : FunD K "_law_rounds" "_law_rounds" (defArgs s_law_rounds) (defBody s_law_rounds) (defScope s_law_rounds) [] [] f fd) : FnOk P w K mg base (L2.CX P w) 2 f fd ["script", "most"] (spD K cRounds) := by
  refine dfn 4 F sc_law_rounds (fun ds S q e h => ?_) rfl (fun cdv A outer s H E e hr => ⟨_, (dss_cons (ds_set (i := 2) sc_law_rounds.nd rfl (Or.inl rfl) (de_sl rfl (dv (pv 0)) do_none (do_some (dv (pv 1)))))
  (dss_cons (ds_if (dt_cmp (od_eqV rfl (hU_of hr)) (dv (pv 2)) (de_lst da_nil)) (dss_one (ds_set (i := 2) sc_law_rounds.nd rfl (Or.inl rfl) (de_lst (da_cons de_int da_nil)))) dss_nil)
  (dss_one (ds_ret (de_lc (own := [("cell", 3)]) rfl sc_law_rounds.nd (di_lst rfl (dv (pv 2))) (blkOk_by (own := [("cell", 3)]) (N := sl_law_rounds) (sc := defScope s_law_rounds) (by decide +kernel)) (fun _ _ _ _ _ => (gw_name (i := 3) sc_law_rounds.nd rfl (Or.inl rfl) (by decide))) (fun _ _ _ _ _ => ts_nil) (fun _ _ _ _ _ => (de_call rfl c__law_dice dfl_nil hr (by decide) rfl passL (da_cons (dv (pv 3)) da_nil)))))))), fun ds S q h => ?_⟩)
  · obtain ⟨ns, rfl, _⟩ := h
    rfl
  · obtain ⟨ns, rfl, nl, kk⟩ := h
    walk_at "go"
    have e1 : ∃ ms : List Int, Dn.cutD (ns.map Dt.int) none (some 1) = ms.map Dt.int ∧ ms.length ≤ 1 := by
      refine ⟨ns.take 1, ?_, by simp; omega⟩
      unfold Dn.cutD
      simp only [HT.sIx, List.length_map, List.map_take]
      cases ns with
      | nil => rfl
      | cons n r => simp
    obtain ⟨ms, e1, ml⟩ := e1
    rw [e1]
    refine ((tells_enc (α := Int)).lst).eq (a := ms) (b := []) (by decide) ?_
    walk_at "go"
    have fin : ∀ i : Int, dLc (dItLs (dVar 2)) (dName 3) [3] dYes (dCall cDice [] noX (dCons (dVar 3) dNil)) (fun l S' => q (.lst l) S') [some (.scr ns), some (.int 1), some (.lst [.int i]), none] S := fun i => by
      walk_at "go"
      refine ⟨i, rfl, fun p x n k np => ?_⟩
      walk_at "go"
      exact kk p x n k np
    refine ift (fun h => ?_) (fun h => ?_)
    · subst h
      walk_at "w"
      exact fin _
    · walk_at "w"
      obtain ⟨i, rfl⟩ : ∃ i, ms = [i] := by
        cases ms with
        | nil => exact absurd rfl h
        | cons i r =>
          cases r with
          | nil => exact ⟨i, rfl⟩
          | cons _ _ => simp at ml
      exact fin _
end
end K07

open PySem PySem.Spec PyProof.Rows L2 Pr Dn LamX

namespace K07
structure Px where
  s : Str
  c : Str
  b : Str
  n : Option Int
@[reducible] def pxD (p : Px) : Dt := .tup [.str p.s, .str p.c, .str p.b, oI p.n]
def px0 : Px := ⟨" ", "black", "white", none⟩
abbrev Pic := Int → Int → Option Px
abbrev Cells := List (List Key × Dt)
@[reducible] def ky (c r : Int) : List Key := [.inl c, .inl r]
def PicAt (l : Cells) (p : Pic) : Prop := ∀ c r, kGet l (ky c r) = (p c r).map pxD
def pput (p : Pic) (c r : Int) (x : Px) : Pic := fun c' r' => if c' = c ∧ r' = r then some x else p c' r'
def pg (p : Pic) (c r : Int) : Px := (p c r).getD px0
theorem PicAt.get {l : Cells} {p : Pic} (h : PicAt l p) (c r : Int) : (kGet l (ky c r)).getD (pxD px0) = pxD (pg p c r) := by
  rw [h c r]
  unfold pg
  cases p c r <;> rfl
theorem PicAt.put {l : Cells} {p : Pic} (h : PicAt l p) (c r : Int) (x : Px) : PicAt (kPut l (ky c r) (pxD x)) (pput p c r x) := fun c' r' => by
  rw [kGet_put]
  unfold pput
  by_cases e : c' = c ∧ r' = r
  · obtain ⟨rfl, rfl⟩ := e
    rw [if_pos rfl, if_pos ⟨rfl, rfl⟩]
    rfl
  · rw [if_neg e, if_neg, h c' r']
    intro z
    simp only [ky, List.cons.injEq, Sum.inl.injEq, and_true] at z
    exact e z
theorem sput_swap {S : Store} {a b : Addr} {c d : Cell} (h : a ≠ b) : sput (sput S a c) b d = sput (sput S b d) a c := by
  funext x
  unfold sput
  by_cases h1 : x = a
  · subst h1
    rw [if_pos rfl, if_neg h, if_pos rfl]
  · by_cases h2 : x = b
    · subst h2
      rw [if_pos rfl, if_neg h1, if_pos rfl]
    · rw [if_neg h2, if_neg h1, if_neg h1, if_neg h2]
theorem PicAt.nil : PicAt [] fun _ _ => none := fun c r => rfl
@[reducible] def cvC (K : PySem.W.Frag) (w h : Int) (k : Addr) : Cell := .ins (He.ga K "Canvas") nm_Canvas [.int w, .int h, .ref k]
@[reducible] def inC (w h c r : Int) : Prop := (0 ≤ c ∧ c < w) ∧ 0 ≤ r ∧ r < h
structure Ar where
  x : Int
  y : Int
  w : Int
  h : Int
@[reducible] def arD (a : Ar) : Dt := .tup [.int a.x, .int a.y, .int a.w, .int a.h]
def inA (a : Ar) (c r : Int) : Bool := decide (a.x ≤ c ∧ c < a.x + a.w) && decide (a.y ≤ r ∧ r < a.y + a.h)
def meet (a b : Ar) : Ar := ⟨max a.x b.x, max a.y b.y, max 0 (min (a.x + a.w) (b.x + b.w) - max a.x b.x), max 0 (min (a.y + a.h) (b.y + b.h) - max a.y b.y)⟩
def cCanvas (K : PySem.W.Frag) : DSp := fun ds S q e => ∃ m w h, ds = [.ref m, .int w, .int h] ∧ S m = some (.ins (He.ga K "Canvas") nm_Canvas []) ∧ (-1000 ≤ w ∧ w ≤ 1000) ∧
  ((w < 1 ∨ h < 0 ∨ 20000 < w * h) → e (He.ga K "SizeError") S) ∧ (¬ (w < 1 ∨ h < 0 ∨ 20000 < w * h) → ∀ k, S k = none → q .non (sput (sput S k (.dct [])) m (cvC K w h k)))
def cCell (K : PySem.W.Frag) : DSp := fun ds S q e => ∃ m c r w h k l, ds = [.ref m, .int c, .int r] ∧ S m = some (cvC K w h k) ∧ S k = some (.dct l) ∧
  (inC w h c r → q ((kGet l (ky c r)).getD (pxD px0)) S) ∧ (¬ inC w h c r → e (He.ga K "SizeError") S)
def cElem (K : PySem.W.Frag) : DSp := fun ds S q e => ∃ m c r w h k l p, ds = [.ref m, .int c, .int r] ∧ S m = some (cvC K w h k) ∧ S k = some (.dct l) ∧ PicAt l p ∧ inC w h c r ∧ q (oI (pg p c r).n) S
def cMeet : DSp := fun ds S q e => ∃ a b, ds = [arD a, arD b] ∧ q (arD (meet a b)) S
def cIn : DSp := fun ds S q e => ∃ a c r, ds = [arD a, .int c, .int r] ∧ q (.bl (inA a c r)) S
section
variable {P : Program} {w : World} {K : PySem.W.Frag} {mg : Str → Option Value} {base : Heap}
theorem ok_Canvas (T : Tx K mg) {f : Addr} {fd : FuncData} (F : FunD K "__init__" "Canvas.__init__" (defArgs s_Canvas_init) (defBody s_Canvas_init) (defScope s_Canvas_init) [] [] f fd) : FnOk P w K mg base (L2.CX P w) 1 f fd ["self", "width", "height"] (spD K (cCanvas K)) := by
  refine dfn 3 F sc_Canvas_init (fun ds S q e h => ?_) rfl (fun cdv A outer s H E e hr => ⟨_, (dss_cons (ds_if (PW.pt (dt_or (dt_cmp od_lt (dv (pv 1)) de_int) (dt_or (dt_cmp od_lt (dv (pv 2)) de_int) (pw_or1 (dt_cmp od_gt (de_op od_mul (dv (pv 1)) (dv (pv 2))) (de_gcI rfl T.g_MOST_CELLS)))))) (dss_one (dr_raise (C := He.ga K "SizeError") PySem.F.excBase_ValueError T.x_SizeError.1 T.g_SizeError T.x_SizeError.2.1 (raises_own T.x_SizeError.2.2.1 T.x_SizeError.2.2.2) rfl)) dss_nil)
  (dss_cons (ds_fld rfl (fd_Canvas_width T) (dv (pv 0)) (dv (pv 1)))
  (dss_cons (ds_fld rfl (fd_Canvas_height T) (dv (pv 0)) (dv (pv 2)))
  (dss_one (ds_fld rfl (fd_Canvas_cells T) (dv (pv 0)) de_dnewT))))), fun ds S q h => ?_⟩)
  · obtain ⟨_, _, _, rfl, _⟩ := h
    rfl
  · obtain ⟨m, w, h', rfl, hm, hb, he, hq⟩ := h
    walk_at "go"
    have fin : ¬ (w < 1 ∨ h' < 0 ∨ 20000 < w * h') → ∀ p, S p = none → q .non (sput (sput (sput S m (.ins (He.ga K "Canvas") nm_Canvas [.int w, .int h'])) p (.dct [])) m (cvC K w h' p)) := fun hn p hp => by
      rw [sput_swap (ne_free hm hp), sput_sput]
      exact hq hn p hp
    refine ift (fun h1 => ?_) (fun h1 => ?_)
    · walk_at "go"
      exact he (.inl h1)
    · walk_at "go"
      refine ift (fun h2 => ?_) (fun h2 => ?_)
      · walk_at "go"
        exact he (.inr (.inl h2))
      · walk_at "go"
        refine ift (fun h3 => ?_) (fun h3 => ?_)
        · walk_at "go"
          exact he (.inr (.inr h3))
        · walk_at "go"
          intro p hp
          rw [sput_sput] at hp ⊢
          have nm : m ≠ p := fun z => by rw [z, sput_same] at hp; cases hp
          rw [sput_ne (Ne.symm nm)] at hp
          refine ⟨[.int w, .int h'], by rw [sput_ne nm, sput_same], ?_⟩
          exact fin (fun z => by rcases z with z | z | z; exact h1 z; exact h2 z; exact h3 z) p hp
theorem ok_cell (T : Tx K mg) {f : Addr} {fd : FuncData} (F : FunD K "cell" "Canvas.cell" (defArgs s_Canvas_cell) (defBody s_Canvas_cell) (defScope s_Canvas_cell) [] [] f fd) : FnOk P w K mg base (L2.CX P w) 1 f fd ["self", "column", "row"] (spD K (cCell K)) := by
  refine dfn 3 F sc_Canvas_cell (fun ds S q e h => ?_) rfl (fun cdv A outer s H E e hr => ⟨_, (dss_cons (ds_if (PW.pt (dt_or (dt_not (dt_chain od_le od_lt de_int (dv (pv 1)) (de_fld rfl (fd_Canvas_width T) (dv (pv 0))))) (pw_or1 (dt_not (dt_chain od_le od_lt de_int (dv (pv 2)) (de_fld rfl (fd_Canvas_height T) (dv (pv 0)))))))) (dss_one (dr_raise (C := He.ga K "SizeError") PySem.F.excBase_ValueError T.x_SizeError.1 T.g_SizeError T.x_SizeError.2.1 (raises_own T.x_SizeError.2.2.1 T.x_SizeError.2.2.2) rfl)) dss_nil)
  (dss_one (ds_ret (de_tget2 (hu_of hr) (de_fld rfl (fd_Canvas_cells T) (dv (pv 0))) (da_cons (dv (pv 1)) (da_cons (dv (pv 2)) da_nil)) (de_tup (da_cons de_str (da_cons de_str (da_cons de_str (da_cons de_non da_nil))))) ⟨by rfl, by rfl, by rfl, by rfl⟩)))), fun ds S q h => ?_⟩)
  · obtain ⟨_, _, _, _, _, _, _, rfl, _⟩ := h
    rfl
  · obtain ⟨m, c, r, w, h', k, l, rfl, hm, hk, hq, he⟩ := h
    walk_at "go"
    refine ift (fun h1 => ?_) (fun h1 => ?_)
    · walk_at "go"
      refine iftN (fun h2 => ?_) (fun h2 => ?_)
      · walk_at "go"
        exact he fun z => h2 z.1.2
      · walk_at "go"
        refine ift (fun h3 => ?_) (fun h3 => ?_)
        · walk_at "go"
          refine iftN (fun h4 => ?_) (fun h4 => ?_)
          · walk_at "go"
            exact he fun z => h4 z.2.2
          · walk_at "go"
            exact hq ⟨⟨h1, h2⟩, h3, h4⟩
        · walk_at "go"
          exact he fun z => h3 z.2.1
    · walk_at "go"
      exact he fun z => h1 z.1.1
theorem ok_meeting (T : Tx K mg) {f : Addr} {fd : FuncData} (F : FunD K "meeting" "meeting" (defArgs s_meeting) (defBody s_meeting) (defScope s_meeting) [] [] f fd) : FnOk P w K mg base (L2.CX P w) 1 f fd ["one", "other"] (spD K cMeet) := by
  refine dfn 5 F sc_meeting (fun ds S q e h => ?_) rfl (fun cdv A outer s H E e hr => ⟨_, (dss_cons (ds_par (i := 2) (j := 3) (by rfl) sc_meeting.nd rfl rfl (by decide) rfl rfl (da_cons (de_callB (cd_max rfl) (by rfl) T.b_max (by decide +kernel) (da_cons (de_ixC (n := 0) rfl (dv (pv 0))) (da_cons (de_ixC (n := 0) rfl (dv (pv 1))) da_nil))) (da_cons (de_callB (cd_max rfl) (by rfl) T.b_max (by decide +kernel) (da_cons (de_ixC (n := 1) rfl (dv (pv 0))) (da_cons (de_ixC (n := 1) rfl (dv (pv 1))) da_nil))) da_nil)) (by rfl))
  (dss_cons (ds_set (i := 4) sc_meeting.nd rfl (Or.inl rfl) (de_callB (cd_max rfl) (by rfl) T.b_max (by decide +kernel) (da_cons de_int (da_cons (de_op od_sub (de_callB (cd_min rfl) (by rfl) T.b_min (by decide +kernel) (da_cons (de_op (od_add rfl) (de_ixC (n := 0) rfl (dv (pv 0))) (de_ixC (n := 2) rfl (dv (pv 0)))) (da_cons (de_op (od_add rfl) (de_ixC (n := 0) rfl (dv (pv 1))) (de_ixC (n := 2) rfl (dv (pv 1)))) da_nil))) (dv (pv 2))) da_nil))))
  (dss_one (ds_ret (de_tup (da_cons (dv (pv 2)) (da_cons (dv (pv 3)) (da_cons (dv (pv 4)) (da_cons (de_callB (cd_max rfl) (by rfl) T.b_max (by decide +kernel) (da_cons de_int (da_cons (de_op od_sub (de_callB (cd_min rfl) (by rfl) T.b_min (by decide +kernel) (da_cons (de_op (od_add rfl) (de_ixC (n := 1) rfl (dv (pv 0))) (de_ixC (n := 3) rfl (dv (pv 0)))) (da_cons (de_op (od_add rfl) (de_ixC (n := 1) rfl (dv (pv 1))) (de_ixC (n := 3) rfl (dv (pv 1)))) da_nil))) (dv (pv 3))) da_nil))) da_nil))))))))), fun ds S q h => ?_⟩)
  · obtain ⟨_, _, rfl, _⟩ := h
    rfl
  · obtain ⟨a, b, rfl, hq⟩ := h
    walk_at "go"
    exact hq
theorem ok_in (T : Tx K mg) {f : Addr} {fd : FuncData} (F : FunD K "_law_in" "_law_in" (defArgs s_law_in) (defBody s_law_in) (defScope s_law_in) [] [] f fd) : FnOk P w K mg base (L2.CX P w) 1 f fd ["area", "column", "row"] (spD K cIn) := by
  refine dfn 3 F sc_law_in (fun ds S q e h => ?_) rfl (fun cdv A outer s H E e hr => ⟨_, (dss_one (ds_ret (de_and rfl (de_chain od_le od_lt (de_ixC (n := 0) rfl (dv (pv 0))) (dv (pv 1)) (de_op (od_add rfl) (de_ixC (n := 0) rfl (dv (pv 0))) (de_ixC (n := 2) rfl (dv (pv 0))))) (pe_one (de_chain od_le od_lt (de_ixC (n := 1) rfl (dv (pv 0))) (dv (pv 2)) (de_op (od_add rfl) (de_ixC (n := 1) rfl (dv (pv 0))) (de_ixC (n := 3) rfl (dv (pv 0))))))))), fun ds S q h => ?_⟩)
  · obtain ⟨_, _, _, rfl, _⟩ := h
    rfl
  · obtain ⟨a, c, r, rfl, hq⟩ := h
    unfold inA at hq
    walk_at "go"
    refine ift (fun h1 => ?_) (fun h1 => ?_)
    · walk_at "go"
      rcases Decidable.em (c < a.x + a.w) with h2 | h2
      · rw [decide_eq_true h2]
        walk_at "go"
        rw [decide_eq_true (show a.x ≤ c ∧ c < a.x + a.w from ⟨h1, h2⟩)] at hq
        refine ift (fun h3 => ?_) (fun h3 => ?_)
        · walk_at "go"
          rw [show decide (a.y ≤ r ∧ r < a.y + a.h) = decide (r < a.y + a.h) from decide_eq_decide.mpr ⟨fun z => z.2, fun z => ⟨h3, z⟩⟩] at hq
          exact hq
        · walk_at "go"
          rw [decide_eq_false (fun z : a.y ≤ r ∧ r < a.y + a.h => h3 z.1)] at hq
          exact hq
      · rw [decide_eq_false h2]
        walk_at "go"
        rw [decide_eq_false (fun z : a.x ≤ c ∧ c < a.x + a.w => h2 z.2)] at hq
        exact hq
    · walk_at "go"
      rw [decide_eq_false (fun z : a.x ≤ c ∧ c < a.x + a.w => h1 z.1)] at hq
      exact hq
theorem ok_elem (T : Tx K mg) (m_Canvas_cell : MetX P w K mg base 1 (He.ga K "Canvas") "cell" (spD K (cCell K)) []) {f : Addr} {fd : FuncData} (F : FunD K "element_at" "element_at" (defArgs s_element_at) (defBody s_element_at) (defScope s_element_at) [] [] f fd) : FnOk P w K mg base (L2.CX P w) 2 f fd ["canvas", "column", "row"] (spD K (cElem K)) := by
  refine dfn 3 F sc_element_at (fun ds S q e h => ?_) rfl (fun cdv A outer s H E e hr => ⟨_, (dss_one (ds_ret (de_ixC (n := 3) rfl (de_meth (nm := nm_Canvas) rfl m_Canvas_cell (by decide +kernel) dfl_nil hr (by decide) paX (dv (pv 0)) (da_cons (dv (pv 1)) (da_cons (dv (pv 2)) da_nil)))))), fun ds S q h => ?_⟩)
  · obtain ⟨_, _, _, _, _, _, _, _, rfl, _⟩ := h
    rfl
  · obtain ⟨m, c, r, w, h', k, l, p, rfl, hm, hk, hp, hi, hq⟩ := h
    walk_at "go"
    refine ⟨m, c, r, w, h', k, l, rfl, hm, hk, fun _ => ?_, fun z => absurd hi z⟩
    rw [hp.get]
    walk_at "go"
    exact hq
end
end K07

open PySem PySem.Spec PyProof.Rows L2 Pr Dn LamX

namespace K07
def paintP (p : Pic) (A : Int → Int → Prop) [∀ c r, Decidable (A c r)] (f : Int → Int → Px → Px) : Pic := fun c r => if A c r then some (f c r (pg p c r)) else p c r
theorem paint_none {p : Pic} {A : Int → Int → Prop} [∀ c r, Decidable (A c r)] {f : Int → Int → Px → Px} (h : ∀ c r, ¬ A c r) : paintP p A f = p := by
  funext c r
  unfold paintP
  rw [if_neg (h c r)]
/-- one more place is painted -/
theorem paint_put {p : Pic} {A B : Int → Int → Prop} [∀ c r, Decidable (A c r)] [∀ c r, Decidable (B c r)] {f : Int → Int → Px → Px} {c r : Int} (h0 : ¬ A c r) (h : ∀ c' r', B c' r' ↔ A c' r' ∨ (c' = c ∧ r' = r)) :
    pput (paintP p A f) c r (f c r (pg (paintP p A f) c r)) = paintP p B f := by
  have e : pg (paintP p A f) c r = pg p c r := by unfold pg paintP; rw [if_neg h0]
  rw [e]
  funext c' r'
  unfold pput paintP
  by_cases z : c' = c ∧ r' = r
  · rw [if_pos z, if_pos ((h c' r').mpr (.inr z)), z.1, z.2]
  · rw [if_neg z]
    by_cases a : A c' r'
    · rw [if_pos a, if_pos ((h c' r').mpr (.inl a))]
    · rw [if_neg a, if_neg fun b => ((h c' r').mp b).elim a z]
theorem paint_congr {p : Pic} {A B : Int → Int → Prop} [∀ c r, Decidable (A c r)] [∀ c r, Decidable (B c r)] {f : Int → Int → Px → Px} (h : ∀ c r, A c r ↔ B c r) : paintP p A f = paintP p B f := by
  funext c r
  unfold paintP
  by_cases a : A c r
  · rw [if_pos a, if_pos ((h c r).mp a)]
  · rw [if_neg a, if_neg fun b => a ((h c r).mpr b)]
def fillPx (col : Str) (num : Int) (x : Px) : Px := if col = "none" then ⟨x.s, x.c, x.b, some num⟩ else ⟨" ", "black", col, some num⟩
@[reducible] def fy0 (a cl : Ar) : Int := max (max a.y cl.y) 0
@[reducible] def fy1 (a cl : Ar) (h : Int) : Int := min (min (a.y + a.h) (cl.y + cl.h)) h
@[reducible] def fx0 (a cl : Ar) : Int := max (max a.x cl.x) 0
@[reducible] def fx1 (a cl : Ar) (w : Int) : Int := min (min (a.x + a.w) (cl.x + cl.w)) w
@[reducible] def inF (a cl : Ar) (w h c r : Int) : Prop := (fy0 a cl ≤ r ∧ r < fy1 a cl h) ∧ fx0 a cl ≤ c ∧ c < fx1 a cl w
structure SmA (a : Ar) : Prop where
  x : -1000 ≤ a.x ∧ a.x ≤ 1000
  y : -1000 ≤ a.y ∧ a.y ≤ 1000
  w : 0 ≤ a.w ∧ a.w ≤ 1000
  h : 0 ≤ a.h ∧ a.h ≤ 1000
def cFill (K : PySem.W.Frag) : DSp := fun ds S q e => ∃ m a col num cl w h k l p, ds = [.ref m, arD a, .str col, .int num, arD cl] ∧ S m = some (cvC K w h k) ∧ S k = some (.dct l) ∧ PicAt l p ∧
  (SmA a ∧ SmA cl ∧ a.w ≤ 15 ∧ a.h ≤ 10) ∧ (0 ≤ w ∧ w ≤ 1000 ∧ 0 ≤ h ∧ h ≤ 1000) ∧ l.length ≤ 1000000 ∧
  ∀ l', PicAt l' (paintP p (inF a cl w h) fun _ _ => fillPx col num) → l'.length ≤ l.length + 150 → q .non (sput S k (.dct l'))
section
variable {P : Program} {w : World} {K : PySem.W.Frag} {mg : Str → Option Value} {base : Heap}
theorem ok_fill (T : Tx K mg) (m_Canvas_cell : MetX P w K mg base 1 (He.ga K "Canvas") "cell" (spD K (cCell K)) []) {f : Addr} {fd : FuncData} (F : FunD K "fill" "Canvas.fill" (defArgs s_Canvas_fill) (defBody s_Canvas_fill) (defScope s_Canvas_fill) [] [] f fd) : FnOk P w K mg base (L2.CX P w) 2 f fd ["self", "area", "colour", "number", "clip"] (spD K (cFill K)) := by
  refine dfn 12 F sc_Canvas_fill (fun ds S q e h => ?_) rfl (fun cdv A outer s H E e hr => ⟨_, (dss_cons (ds_asg (dv (pv 1)) (dg_tup (n := 4) rfl rfl (dgs_cons (dg_name (i := 5) sc_Canvas_fill.nd rfl (Or.inl rfl)) (dgs_cons (dg_name (i := 6) sc_Canvas_fill.nd rfl (Or.inl rfl)) (dgs_cons (dg_name (i := 7) sc_Canvas_fill.nd rfl (Or.inl rfl)) (dgs_cons (dg_name (i := 8) sc_Canvas_fill.nd rfl (Or.inl rfl)) dgs_nil))))))
  (dss_one (ds_for poX rfl (di_range2 (by rfl) T.b_range (da_cons (de_callB (cd_max3 rfl) (by rfl) T.b_max (by decide +kernel) (da_cons (dv (pv 6)) (da_cons (de_ixC (n := 1) rfl (dv (pv 4))) (da_cons de_int da_nil)))) (da_cons (de_callB (cd_min3 rfl) (by rfl) T.b_min (by decide +kernel) (da_cons (de_op (od_add rfl) (dv (pv 6)) (dv (pv 8))) (da_cons (de_op (od_add rfl) (de_ixC (n := 1) rfl (dv (pv 4))) (de_ixC (n := 3) rfl (dv (pv 4)))) (da_cons (de_fld rfl (fd_Canvas_height T) (dv (pv 0))) da_nil)))) da_nil))) (dg_name (i := 9) sc_Canvas_fill.nd rfl (Or.inl rfl)) (dss_one (ds_for poX rfl (di_range2 (by rfl) T.b_range (da_cons (de_callB (cd_max3 rfl) (by rfl) T.b_max (by decide +kernel) (da_cons (dv (pv 5)) (da_cons (de_ixC (n := 0) rfl (dv (pv 4))) (da_cons de_int da_nil)))) (da_cons (de_callB (cd_min3 rfl) (by rfl) T.b_min (by decide +kernel) (da_cons (de_op (od_add rfl) (dv (pv 5)) (dv (pv 7))) (da_cons (de_op (od_add rfl) (de_ixC (n := 0) rfl (dv (pv 4))) (de_ixC (n := 2) rfl (dv (pv 4)))) (da_cons (de_fld rfl (fd_Canvas_width T) (dv (pv 0))) da_nil)))) da_nil))) (dg_name (i := 10) sc_Canvas_fill.nd rfl (Or.inl rfl)) (dss_cons (ds_set (i := 11) sc_Canvas_fill.nd rfl (Or.inl rfl) (de_meth (nm := nm_Canvas) rfl m_Canvas_cell (by decide +kernel) dfl_nil hr (by decide) paX (dv (pv 0)) (da_cons (dv (pv 10)) (da_cons (dv (pv 9)) da_nil))))
  (dss_one (ds_if (dt_cmp (od_eq rfl (hU_of hr)) (dv (pv 2)) de_str) (dss_one (ds_asg (de_op (od_add rfl) (de_sl rfl (dv (pv 11)) do_none (do_some de_int)) (de_tup (da_cons (dv (pv 3)) da_nil))) (dg_subT (hu_of hr) (de_fld rfl (fd_Canvas_cells T) (dv (pv 0))) (da_cons (dv (pv 10)) (da_cons (dv (pv 9)) da_nil))))) (dss_one (ds_asg (de_tup (da_cons de_str (da_cons de_str (da_cons (dv (pv 2)) (da_cons (dv (pv 3)) da_nil))))) (dg_subT (hu_of hr) (de_fld rfl (fd_Canvas_cells T) (dv (pv 0))) (da_cons (dv (pv 10)) (da_cons (dv (pv 9)) da_nil))))))))))))), fun ds S q h => ?_⟩)
  · obtain ⟨_, _, _, _, _, _, _, _, _, _, rfl, _⟩ := h
    rfl
  · obtain ⟨m, a, col, num, cl, w, h', k, l, p, rfl, hm, hk, hp, ⟨sa, sc, aw, ah⟩, hwh, hl, hq⟩ := h
    obtain ⟨⟨_, _⟩, ⟨_, _⟩, ⟨_, _⟩, ⟨_, _⟩⟩ := id sa
    obtain ⟨⟨_, _⟩, ⟨_, _⟩, ⟨_, _⟩, ⟨_, _⟩⟩ := id sc
    have mk : m ≠ k := fun z => by rw [z, hk] at hm; cases hm
    have f0 : ∀ c r : Int, ¬ ((fy0 a cl ≤ r ∧ r < fy0 a cl + (0 : Nat)) ∧ fx0 a cl ≤ c ∧ c < fx1 a cl w) := fun c r z => by omega
    walk_at "go"
    refine forGo_rng _ _ (fun i δ S' => ∃ u9 u10 u11 l', δ = [some (.ref m), some (arD a), some (.str col), some (.int num), some (arD cl), some (.int a.x), some (.int a.y), some (.int a.w), some (.int a.h), u9, u10, u11] ∧ S' = sput S k (.dct l') ∧
      PicAt l' (paintP p (fun c r => (fy0 a cl ≤ r ∧ r < fy0 a cl + (i : Nat)) ∧ fx0 a cl ≤ c ∧ c < fx1 a cl w) fun _ _ => fillPx col num) ∧ l'.length ≤ l.length + 15 * i ∧ i ≤ 10) (fun i δ S' hi ii nx kn => ?_) (fun δ S' ii => ?_) ?_
    · obtain ⟨u9, u10, u11, l', rfl, rfl, hp', hl', hi'⟩ := ii
      walk_at "go"
      refine forGo_rng _ _ (fun j δ S' => ∃ u10 u11 l', δ = [some (.ref m), some (arD a), some (.str col), some (.int num), some (arD cl), some (.int a.x), some (.int a.y), some (.int a.w), some (.int a.h), some (.int (fy0 a cl + (i : Nat))), u10, u11] ∧ S' = sput S k (.dct l') ∧
        PicAt l' (paintP p (fun c r => ((fy0 a cl ≤ r ∧ r < fy0 a cl + (i : Nat)) ∧ fx0 a cl ≤ c ∧ c < fx1 a cl w) ∨ (r = fy0 a cl + (i : Nat) ∧ fx0 a cl ≤ c ∧ c < fx0 a cl + (j : Nat))) fun _ _ => fillPx col num) ∧ l'.length ≤ l.length + 15 * i + j) (fun j δ S' hj ii nx2 kn2 => ?_) (fun δ S' ii => ?_) ?_
      · obtain ⟨u10, u11, l2, rfl, rfl, hp2, hl2⟩ := ii
        walk_at "go"
        have hin : inC w h' (fx0 a cl + (j : Nat)) (fy0 a cl + (i : Nat)) := by unfold inC fx0 fy0; omega
        have hz : l2.length < sizeLine := by show _ < 16777216; omega
        refine ⟨m, fx0 a cl + (j : Nat), fy0 a cl + (i : Nat), w, h', k, l2, rfl, (sput_ne mk).trans hm, sput_same, fun _ => ?_, fun z => absurd hin z⟩
        rw [hp2.get]
        have fin : ∀ δ', (∃ u10 u11, δ' = [some (.ref m), some (arD a), some (.str col), some (.int num), some (arD cl), some (.int a.x), some (.int a.y), some (.int a.w), some (.int a.h), some (.int (fy0 a cl + (i : Nat))), u10, u11]) → ∀ x, x = pxD (fillPx col num (pg (paintP p (fun c r => ((fy0 a cl ≤ r ∧ r < fy0 a cl + (i : Nat)) ∧ fx0 a cl ≤ c ∧ c < fx1 a cl w) ∨ (r = fy0 a cl + (i : Nat) ∧ fx0 a cl ≤ c ∧ c < fx0 a cl + (j : Nat))) fun _ _ => fillPx col num) (fx0 a cl + (j : Nat)) (fy0 a cl + (i : Nat)))) →
            nx2 δ' (sput (sput S k (.dct l2)) k (.dct (kPut l2 (ky (fx0 a cl + (j : Nat)) (fy0 a cl + (i : Nat))) x))) := fun δ' ⟨u10, u11, e⟩ x ex => by
          subst ex
          refine kn2 _ _ ⟨u10, u11, _, e, sput_sput, ?_, ?_⟩
          · have := hp2.put (fx0 a cl + (j : Nat)) (fy0 a cl + (i : Nat)) (fillPx col num (pg (paintP p (fun c r => ((fy0 a cl ≤ r ∧ r < fy0 a cl + (i : Nat)) ∧ fx0 a cl ≤ c ∧ c < fx1 a cl w) ∨ (r = fy0 a cl + (i : Nat) ∧ fx0 a cl ≤ c ∧ c < fx0 a cl + (j : Nat))) fun _ _ => fillPx col num) (fx0 a cl + (j : Nat)) (fy0 a cl + (i : Nat))))
            rw [paint_put (f := fun _ _ => fillPx col num) (B := fun c r => ((fy0 a cl ≤ r ∧ r < fy0 a cl + (i : Nat)) ∧ fx0 a cl ≤ c ∧ c < fx1 a cl w) ∨ (r = fy0 a cl + (i : Nat) ∧ fx0 a cl ≤ c ∧ c < fx0 a cl + ((j + 1 : Nat) : Int))) (by omega) (by intro c' r'; omega)] at this
            exact this
          · have := kPut_len l2 (ky (fx0 a cl + (j : Nat)) (fy0 a cl + (i : Nat))) (pxD (fillPx col num (pg (paintP p (fun c r => ((fy0 a cl ≤ r ∧ r < fy0 a cl + (i : Nat)) ∧ fx0 a cl ≤ c ∧ c < fx1 a cl w) ∨ (r = fy0 a cl + (i : Nat) ∧ fx0 a cl ≤ c ∧ c < fx0 a cl + (j : Nat))) fun _ _ => fillPx col num) (fx0 a cl + (j : Nat)) (fy0 a cl + (i : Nat)))))
            omega
        generalize pg (paintP p (fun c r => ((fy0 a cl ≤ r ∧ r < fy0 a cl + (i : Nat)) ∧ fx0 a cl ≤ c ∧ c < fx1 a cl w) ∨ (r = fy0 a cl + (i : Nat) ∧ fx0 a cl ≤ c ∧ c < fx0 a cl + (j : Nat))) fun _ _ => fillPx col num) (fx0 a cl + (j : Nat)) (fy0 a cl + (i : Nat)) = old at fin ⊢
        walk_at "go"
        refine ift (fun h1 => ?_) (fun h1 => ?_)
        · walk_at "go"
          rw [show Dn.cutD [Dt.str old.s, Dt.str old.c, Dt.str old.b, oI old.n] none (some 3) = [Dt.str old.s, Dt.str old.c, Dt.str old.b] from rfl]
          walk_at "go"
          refine fin _ ⟨_, _, rfl⟩ _ ?_
          unfold fillPx
          rw [if_pos h1]
          rfl
        · walk_at "go"
          refine fin _ ⟨_, _, rfl⟩ _ ?_
          unfold fillPx
          rw [if_neg h1]
      · obtain ⟨u10, u11, l2, rfl, rfl, hp2, hl2⟩ := ii
        walk_at "go"
        refine kn _ _ ⟨_, _, _, l2, rfl, rfl, ?_, by omega, by omega⟩
        rw [← paint_congr (A := fun c r => ((fy0 a cl ≤ r ∧ r < fy0 a cl + (i : Nat)) ∧ fx0 a cl ≤ c ∧ c < fx1 a cl w) ∨ (r = fy0 a cl + (i : Nat) ∧ fx0 a cl ≤ c ∧ c < fx0 a cl + ((fx1 a cl w - fx0 a cl).toNat : Nat)))]
        · exact hp2
        · intro c r; omega
      · refine ⟨_, _, l', rfl, rfl, ?_, by omega⟩
        rw [← paint_congr (A := fun c r => (fy0 a cl ≤ r ∧ r < fy0 a cl + (i : Nat)) ∧ fx0 a cl ≤ c ∧ c < fx1 a cl w)]
        · exact hp'
        · intro c r; omega
    · obtain ⟨u9, u10, u11, l', rfl, rfl, hp', hl', hi'⟩ := ii
      walk_at "go"
      refine hq l' ?_ (by omega)
      rw [← paint_congr (A := fun c r => (fy0 a cl ≤ r ∧ r < fy0 a cl + ((fy1 a cl h' - fy0 a cl).toNat : Nat)) ∧ fx0 a cl ≤ c ∧ c < fx1 a cl w)]
      · exact hp'
      · intro c r; omega
    · refine ⟨_, _, _, l, rfl, (sput_self hk).symm, ?_, by omega, by omega⟩
      rw [paint_none f0]
      exact hp
end
end K07

open PySem PySem.Spec PyProof.Rows L2 Pr Dn LamX

namespace K07
def sg (z : Str) (i : Nat) : Str := ((lets z)[i]?).getD ""
theorem lets_len (z : Str) : (lets z).length = z.length := by unfold lets; rw [List.length_map, Array.length_toList]; rfl
theorem enum_text (z : Str) : enumD (signsD z) = (List.range z.length).map fun (i : Nat) => Dt.tup [.int i, .str (sg z i)] := by
  refine List.ext_getElem? fun i => ?_
  rw [enumD_get, signs_lets, List.getElem?_map, List.getElem?_map]
  by_cases h : i < z.length
  · have h2 : i < (lets z).length := by rw [lets_len]; exact h
    rw [List.getElem?_range h, List.getElem?_eq_getElem h2]
    have e : sg z i = (lets z)[i] := by unfold sg; rw [List.getElem?_eq_getElem h2]; rfl
    rw [Option.map_some, Option.map_some, Option.map_some, e]
  · rw [List.getElem?_eq_none (by rw [lets_len]; omega), List.getElem?_eq_none (by rw [List.length_range]; omega)]
    rfl
def wrPx (z : Str) (c0 : Int) (col bg : Str) (num : Int) (c _r : Int) (x : Px) : Px := ⟨sg z (c - c0).toNat, col, if bg = "none" then x.b else bg, some num⟩
@[reducible] def inV (cl : Ar) (w h c r : Int) : Prop := ((cl.x ≤ c ∧ c < cl.x + cl.w) ∧ cl.y ≤ r ∧ r < cl.y + cl.h) ∧ inC w h c r
@[reducible] def inW (cl : Ar) (w h c0 r0 n c r : Int) : Prop := (r = r0 ∧ c0 ≤ c ∧ c < c0 + n) ∧ inV cl w h c r
def cWrite (K : PySem.W.Frag) : DSp := fun ds S q e => ∃ m c0 r0 z col bg num cl w h k l p, ds = [.ref m, .int c0, .int r0, .str z, .tup [.str col, .str bg, .int num], arD cl] ∧ S m = some (cvC K w h k) ∧ S k = some (.dct l) ∧ PicAt l p ∧
  z.length ≤ 100 ∧ l.length ≤ 1000000 ∧ ∀ l', PicAt l' (paintP p (inW cl w h c0 r0 z.length) (wrPx z c0 col bg num)) → l'.length ≤ l.length + 100 → q .non (sput S k (.dct l'))
section
variable {P : Program} {w : World} {K : PySem.W.Frag} {mg : Str → Option Value} {base : Heap}
theorem ok_write (T : Tx K mg) (m_Canvas_cell : MetX P w K mg base 1 (He.ga K "Canvas") "cell" (spD K (cCell K)) []) {f : Addr} {fd : FuncData} (F : FunD K "write" "Canvas.write" (defArgs s_Canvas_write) (defBody s_Canvas_write) (defScope s_Canvas_write) [] [] f fd) : FnOk P w K mg base (L2.CX P w) 2 f fd ["self", "column", "row", "text", "look", "clip"] (spD K (cWrite K)) := by
  refine dfn 14 F sc_Canvas_write (fun ds S q e h => ?_) rfl (fun cdv A outer s H E e hr => ⟨_, (dss_cons (ds_asg (dv (pv 4)) (dg_tup (n := 3) rfl rfl (dgs_cons (dg_name (i := 6) sc_Canvas_write.nd rfl (Or.inl rfl)) (dgs_cons (dg_name (i := 7) sc_Canvas_write.nd rfl (Or.inl rfl)) (dgs_cons (dg_name (i := 8) sc_Canvas_write.nd rfl (Or.inl rfl)) dgs_nil)))))
  (dss_one (ds_for poX rfl (di_enumS (by rfl) T.b_enumerate (da_cons (dv (pv 3)) da_nil)) (dg_tup (n := 2) rfl rfl (dgs_cons (dg_name (i := 9) sc_Canvas_write.nd rfl (Or.inl rfl)) (dgs_cons (dg_name (i := 10) sc_Canvas_write.nd rfl (Or.inl rfl)) dgs_nil))) (dss_cons (ds_set (i := 11) sc_Canvas_write.nd rfl (Or.inl rfl) (de_op (od_add rfl) (dv (pv 1)) (dv (pv 9))))
  (dss_cons (ds_set (i := 12) sc_Canvas_write.nd rfl (Or.inl rfl) (de_and rfl (de_chain od_le od_lt (de_ixC (n := 0) rfl (dv (pv 5))) (dv (pv 11)) (de_op (od_add rfl) (de_ixC (n := 0) rfl (dv (pv 5))) (de_ixC (n := 2) rfl (dv (pv 5))))) (pe_one (de_chain od_le od_lt (de_ixC (n := 1) rfl (dv (pv 5))) (dv (pv 2)) (de_op (od_add rfl) (de_ixC (n := 1) rfl (dv (pv 5))) (de_ixC (n := 3) rfl (dv (pv 5))))))))
  (dss_one (ds_if (PW.pt (dt_and (de_tru rfl (dv (pv 12))) (dt_and (dt_chain od_le od_lt de_int (dv (pv 11)) (de_fld rfl (fd_Canvas_width T) (dv (pv 0)))) (pw_and1 (dt_chain od_le od_lt de_int (dv (pv 2)) (de_fld rfl (fd_Canvas_height T) (dv (pv 0)))))))) (dss_cons (ds_set (i := 13) sc_Canvas_write.nd rfl (Or.inl rfl) (de_meth (nm := nm_Canvas) rfl m_Canvas_cell (by decide +kernel) dfl_nil hr (by decide) paX (dv (pv 0)) (da_cons (dv (pv 11)) (da_cons (dv (pv 2)) da_nil))))
  (dss_one (ds_asg (de_tup (da_cons (dv (pv 10)) (da_cons (dv (pv 6)) (da_cons (de_if (dt_cmp (od_eq rfl (hU_of hr)) (dv (pv 7)) de_str) (de_ixC (n := 2) rfl (dv (pv 13))) (dv (pv 7))) (da_cons (dv (pv 8)) da_nil))))) (dg_subT (hu_of hr) (de_fld rfl (fd_Canvas_cells T) (dv (pv 0))) (da_cons (dv (pv 11)) (da_cons (dv (pv 2)) da_nil)))))) dss_nil))))))), fun ds S q h => ?_⟩)
  · obtain ⟨_, _, _, _, _, _, _, _, _, _, _, _, _, rfl, _⟩ := h
    rfl
  · obtain ⟨m, c0, r0, z, col, bg, num, cl, w, h', k, l, p, rfl, hm, hk, hp, zl, hl, hq⟩ := h
    have mk : m ≠ k := fun z => by rw [z, hk] at hm; cases hm
    walk_at "go"
    rw [enum_text]
    refine forGo_at _ _ (fun i δ S' => ∃ u9 u10 u11 u12 u13 l', δ = [some (.ref m), some (.int c0), some (.int r0), some (.str z), some (.tup [.str col, .str bg, .int num]), some (arD cl), some (.str col), some (.str bg), some (.int num), u9, u10, u11, u12, u13] ∧ S' = sput S k (.dct l') ∧
      PicAt l' (paintP p (inW cl w h' c0 r0 (i : Nat)) (wrPx z c0 col bg num)) ∧ l'.length ≤ l.length + i) (fun _ _ _ _ => trivial) (fun i x δ S' ex ii nx kn => ?_) (fun δ S' ii => ?_) ?_
    · obtain ⟨u9, u10, u11, u12, u13, l', rfl, rfl, hp', hl'⟩ := ii
      have hi : i < z.length := by
        have := (List.getElem?_eq_some_iff.mp ex).1
        rwa [List.length_range] at this
      rw [List.getElem?_range hi] at ex
      cases ex
      have fno : ¬ inV cl w h' (c0 + (i : Nat)) r0 → ∀ u9 u10 u11 u12 u13, nx [some (.ref m), some (.int c0), some (.int r0), some (.str z), some (.tup [.str col, .str bg, .int num]), some (arD cl), some (.str col), some (.str bg), some (.int num), u9, u10, u11, u12, u13] (sput S k (.dct l')) := fun no u9 u10 u11 u12 u13 => by
        refine kn _ _ ⟨u9, u10, u11, u12, u13, l', rfl, rfl, ?_, by omega⟩
        rw [← paint_congr (A := inW cl w h' c0 r0 (i : Nat))]
        · exact hp'
        · intro c r
          refine ⟨fun ⟨⟨a, b, d⟩, v⟩ => ⟨⟨a, b, by omega⟩, v⟩, fun ⟨⟨a, b, d⟩, v⟩ => ⟨⟨a, b, ?_⟩, v⟩⟩
          rcases Int.lt_or_le c (c0 + (i : Nat)) with y | y
          · exact y
          · have e : c = c0 + (i : Nat) := by omega
            subst a
            subst e
            exact absurd v no
      walk_at "go"
      rcases Decidable.em (cl.x ≤ c0 + (i : Nat)) with h1 | h1
      · rw [decide_eq_true h1]
        walk_at "go"
        rcases Decidable.em (c0 + (i : Nat) < cl.x + cl.w) with h2 | h2
        · rw [decide_eq_true h2]
          walk_at "go"
          rcases Decidable.em (cl.y ≤ r0) with h3 | h3
          · rw [decide_eq_true h3]
            walk_at "go"
            rcases Decidable.em (r0 < cl.y + cl.h) with h4 | h4
            · rw [decide_eq_true h4]
              walk_at "go"
              rcases Decidable.em (0 ≤ c0 + (i : Nat)) with h5 | h5
              · rw [decide_eq_true h5]
                walk_at "go"
                rcases Decidable.em (c0 + (i : Nat) < w) with h6 | h6
                · rw [decide_eq_true h6]
                  walk_at "go"
                  rcases Decidable.em (0 ≤ r0) with h7 | h7
                  · rw [decide_eq_true h7]
                    walk_at "go"
                    rcases Decidable.em (r0 < h') with h8 | h8
                    · rw [decide_eq_true h8]
                      walk_at "go"
                      have hin : inC w h' (c0 + (i : Nat)) r0 := ⟨⟨h5, h6⟩, h7, h8⟩
                      have hz : l'.length < sizeLine := by show _ < 16777216; omega
                      refine ⟨m, c0 + (i : Nat), r0, w, h', k, l', rfl, (sput_ne mk).trans hm, sput_same, fun _ => ?_, fun y => absurd hin y⟩
                      rw [hp'.get]
                      have fin : ∀ u9 u10 u11 u12 u13 x, x = pxD (wrPx z c0 col bg num (c0 + (i : Nat)) r0 (pg (paintP p (inW cl w h' c0 r0 (i : Nat)) (wrPx z c0 col bg num)) (c0 + (i : Nat)) r0)) →
                          nx [some (.ref m), some (.int c0), some (.int r0), some (.str z), some (.tup [.str col, .str bg, .int num]), some (arD cl), some (.str col), some (.str bg), some (.int num), u9, u10, u11, u12, u13] (sput (sput S k (.dct l')) k (.dct (kPut l' (ky (c0 + (i : Nat)) r0) x))) := fun u9 u10 u11 u12 u13 x ex => by
                        subst ex
                        refine kn _ _ ⟨u9, u10, u11, u12, u13, _, rfl, sput_sput, ?_, ?_⟩
                        · have := hp'.put (c0 + (i : Nat)) r0 (wrPx z c0 col bg num (c0 + (i : Nat)) r0 (pg (paintP p (inW cl w h' c0 r0 (i : Nat)) (wrPx z c0 col bg num)) (c0 + (i : Nat)) r0))
                          rw [paint_put (f := wrPx z c0 col bg num) (B := inW cl w h' c0 r0 ((i + 1 : Nat) : Int)) (by omega) (fun c' r' => ?_)] at this
                          · exact this
                          · refine ⟨fun ⟨⟨a, b, d⟩, v⟩ => ?_, fun y => ?_⟩
                            · rcases Int.lt_or_le c' (c0 + (i : Nat)) with y | y
                              · exact .inl ⟨⟨a, b, y⟩, v⟩
                              · exact .inr ⟨by omega, a⟩
                            · rcases y with ⟨⟨a, b, d⟩, v⟩ | ⟨a, b⟩
                              · exact ⟨⟨a, b, by omega⟩, v⟩
                              · subst a b
                                exact ⟨⟨rfl, by omega, by omega⟩, ⟨⟨h1, h2⟩, h3, h4⟩, hin⟩
                        · have := kPut_len l' (ky (c0 + (i : Nat)) r0) (pxD (wrPx z c0 col bg num (c0 + (i : Nat)) r0 (pg (paintP p (inW cl w h' c0 r0 (i : Nat)) (wrPx z c0 col bg num)) (c0 + (i : Nat)) r0)))
                          omega
                      generalize pg (paintP p (inW cl w h' c0 r0 (i : Nat)) (wrPx z c0 col bg num)) (c0 + (i : Nat)) r0 = old at fin ⊢
                      have es : sg z (c0 + (i : Nat) - c0).toNat = sg z i := by rw [show (c0 + (i : Nat) - c0).toNat = i by omega]
                      walk_at "go"
                      refine ift (fun hb => ?_) (fun hb => ?_)
                      · walk_at "go"
                        refine fin _ _ _ _ _ _ ?_
                        unfold wrPx
                        rw [es, if_pos hb]
                      · walk_at "go"
                        refine fin _ _ _ _ _ _ ?_
                        unfold wrPx
                        rw [es, if_neg hb]
                    · rw [decide_eq_false h8]
                      walk_at "go"
                      exact fno (fun y => h8 y.2.2.2) _ _ _ _ _
                  · rw [decide_eq_false h7]
                    walk_at "go"
                    exact fno (fun y => h7 y.2.2.1) _ _ _ _ _
                · rw [decide_eq_false h6]
                  walk_at "go"
                  exact fno (fun y => h6 y.2.1.2) _ _ _ _ _
              · rw [decide_eq_false h5]
                walk_at "go"
                exact fno (fun y => h5 y.2.1.1) _ _ _ _ _
            · rw [decide_eq_false h4]
              walk_at "go"
              exact fno (fun y => h4 y.1.2.2) _ _ _ _ _
          · rw [decide_eq_false h3]
            walk_at "go"
            exact fno (fun y => h3 y.1.2.1) _ _ _ _ _
        · rw [decide_eq_false h2]
          walk_at "go"
          exact fno (fun y => h2 y.1.1.2) _ _ _ _ _
      · rw [decide_eq_false h1]
        walk_at "go"
        exact fno (fun y => h1 y.1.1.1) _ _ _ _ _
    · obtain ⟨u9, u10, u11, u12, u13, l', rfl, rfl, hp', hl'⟩ := ii
      rw [List.length_range] at hp' hl'
      walk_at "go"
      exact hq l' hp' (by omega)
    · refine ⟨_, _, _, _, _, l, rfl, (sput_self hk).symm, ?_, by omega⟩
      rw [paint_none fun c r y => by omega]
      exact hp
end
end K07

open PySem PySem.Spec PyProof.Rows L2 Pr Dn LamX NdefX

namespace K07
structure SgOk (p : Pic) : Prop where
  s : ∀ c r, SOk (pg p c r).s ∧ (pg p c r).s.length ≤ 1
def rowS (p : Pic) (w : Int) (r : Int) : Str := Txt.join "" ((List.range w.toNat).map fun (c : Nat) => (pg p c r).s)
@[reducible] def px3 (x : Px) : Dt := .tup [.str x.s, .str x.c, .str x.b]
def rowsD (p : Pic) (w h : Int) : List Dt := (List.range h.toNat).map fun (r : Nat) => Dt.str (rowS p w r)
def shownD (p : Pic) (w h : Int) : List Dt := (List.range h.toNat).map fun (r : Nat) => Dt.tup ((List.range w.toNat).map fun (c : Nat) => px3 (pg p c r))
def cRows (K : PySem.W.Frag) (Pt : Addr) : DSp := fun ds S q e => ∃ m w h k l p, ds = [.ref m] ∧ S m = some (cvC K w h k) ∧ S k = some (.dct l) ∧ PicAt l p ∧ SgOk p ∧ (0 ≤ w ∧ w ≤ 1000 ∧ 0 ≤ h ∧ h ≤ 1000) ∧ S Pt = some .gtb ∧ q (.tup (rowsD p w h)) S
def cShown (K : PySem.W.Frag) (Pt : Addr) : DSp := fun ds S q e => ∃ m w h k l p, ds = [.ref m] ∧ S m = some (cvC K w h k) ∧ S k = some (.dct l) ∧ PicAt l p ∧ (0 ≤ w ∧ w ≤ 1000 ∧ 0 ≤ h ∧ h ≤ 1000) ∧ S Pt = some .gtb ∧ q (.tup (shownD p w h)) S
section
variable {P : Program} {w : World} {K : PySem.W.Frag} {mg : Str → Option Value} {base : Heap} {Pt : Addr}
theorem ok_rows (T : Tx K mg) (m_Canvas_cell : MetX P w K mg base 1 (He.ga K "Canvas") "cell" (spD K (cCell K)) []) {f : Addr} {fd : FuncData} (F : FunD K "letter_rows" "Canvas.letter_rows" (defArgs s_Canvas_letter_rows) (defBody s_Canvas_letter_rows) (defScope s_Canvas_letter_rows) [] [] f fd) (hT : ∀ c0, fd.code = .ref c0 → TabB base mg c0 Pt) : FnOk P w K mg base (L2.CX P w) 6 f fd ["self"] (spD K (cRows K Pt)) := by
  refine dfnC 3 F sc_Canvas_letter_rows hT (fun ds S q e h => ?_) rfl (fun c0 A outer s H E e TB hr => ⟨_, (dss_one (ds_ret (de_tupG (k := 2) (ig := none) (own := [("row", 1)]) rfl (hr.mono (by decide)) (by rfl) T.b_tuple TB rfl sc_Canvas_letter_rows.nd (gnB_of (N := sl_Canvas_letter_rows) (sc := defScope s_Canvas_letter_rows) (by decide +kernel)) (fun _ z => by cases z) (di_range1 (by rfl) T.b_range (da_cons (de_fld rfl (fd_Canvas_height T) (dv (pv 0))) da_nil)) (fun _ => rfl) ⟨(fun s H A' cl L code fp hr => (gw_name (i := 1) sc_Canvas_letter_rows.nd rfl (Or.inr rfl) (by decide))), (fun s H A' cl L code fp hr => ts_nil), (fun s H A' cl L code fp hr => (de_bm rfl is_tx PySem.F.plainAttrs_str PySem.F.slot_str_join PySem.F.type_str_join (md_join rfl) de_str (da_cons (de_lc (own := [("column", 2)]) rfl sc_Canvas_letter_rows.nd (di_range1 (by rfl) T.b_range (da_cons (de_fld rfl (fd_Canvas_width T) (dv (pv 0))) da_nil)) (blkOk_by (own := [("column", 2)]) (by kernel_rfl)) (fun _ _ _ _ _ => (gw_name (i := 2) sc_Canvas_letter_rows.nd rfl (Or.inl rfl) (by decide))) (fun _ _ _ _ _ => ts_nil) (fun _ _ _ _ _ => (de_ixC (n := 0) rfl (de_meth (nm := nm_Canvas) rfl m_Canvas_cell (by decide +kernel) dfl_nil hr (by decide) passL (dv (pv 0)) (da_cons (dv (pv 2)) (da_cons (dv (pv 1)) da_nil)))))) da_nil)))⟩))), fun ds S q h => ?_⟩)
  · obtain ⟨_, _, _, _, _, _, rfl, _⟩ := h
    rfl
  · obtain ⟨m, w, h', k, l, p, rfl, hm, hk, hp, hs, hwh, hP, hq⟩ := h
    walk_at "go"
    intro c P'
    have hh : h'.toNat < 16777216 := by omega
    rw [rangeD0]
    refine tup_go (by rw [List.length_map, List.length_range]; exact hh) (lc_map _ (fun (r : Nat) => Dt.str (rowS p w r)) trivial _ (fun r hr kY kN hY => ?_) hq)
    have hr := List.mem_range.mp hr
    have hw : w.toNat < 16777216 := by omega
    walk_at "go"
    rw [rangeD0]
    refine ⟨by rw [List.length_map, List.length_range]; exact hw, lc_go ?_⟩
    refine lc_map _ (fun (c : Nat) => Dt.str (pg p c r).s) trivial _ (fun c hc kY2 kN2 hY2 => ?_) ?_
    · have hc := List.mem_range.mp hc
      walk_at "go"
      refine ⟨m, (c : Nat), (r : Nat), w, h', k, l, rfl, hm, hk, fun _ => ?_, fun y => absurd (show inC w h' (c : Nat) (r : Nat) by unfold inC; omega) y⟩
      rw [hp.get]
      walk_at "go"
      exact hY2
    · walk_at "go"
      refine join_go (k := 1) (ys := (List.range w.toNat).map fun (c : Nat) => (pg p c r).s) (.inr (by rw [List.map_map]; rfl)) SOk.empty (fun y hy => ?_) (by rw [List.length_map, List.length_range]; show _ * (1 + 0) ≤ _; omega) hY
      obtain ⟨c, _, rfl⟩ := List.mem_map.mp hy
      exact hs.s _ _
theorem ok_shown (T : Tx K mg) (m_Canvas_cell : MetX P w K mg base 1 (He.ga K "Canvas") "cell" (spD K (cCell K)) []) {f : Addr} {fd : FuncData} (F : FunD K "shown" "Canvas.shown" (defArgs s_Canvas_shown) (defBody s_Canvas_shown) (defScope s_Canvas_shown) [] [] f fd) (hT : ∀ c0, fd.code = .ref c0 → TabB base mg c0 Pt) : FnOk P w K mg base (L2.CX P w) 9 f fd ["self"] (spD K (cShown K Pt)) := by
  refine dfnC 4 F sc_Canvas_shown hT (fun ds S q e h => ?_) rfl (fun c0 A outer s H E e TB hr => ⟨_, (dss_one (ds_ret (de_tupG (k := 5) (ig := (some 1)) (own := [("row", 2)]) rfl (hr.mono (by decide)) (by rfl) T.b_tuple TB rfl sc_Canvas_shown.nd (gnB_of (N := sl_Canvas_shown) (sc := defScope s_Canvas_shown) (by decide +kernel)) (hig_by (N := sl_Canvas_shown) (by decide +kernel)) (di_range1 (by rfl) T.b_range (da_cons (de_fld rfl (fd_Canvas_height T) (dv (pv 0))) da_nil)) (fun _ => rfl) ⟨(fun s H A' cl L code fp hr => (gw_name (i := 2) sc_Canvas_shown.nd rfl (Or.inr rfl) (by decide))), (fun s H A' cl L code fp hr => ts_nil), (fun s H A' cl L code fp hr => (de_tupI (k := 2) (iq := 1) (own := [("column", 3)]) rfl (hr.mono (by decide)) (by rfl) T.b_tuple TB.bm rfl sc_Canvas_shown.nd (by kernel_rfl) (di_range1 (by rfl) T.b_range (da_cons (de_fld rfl (fd_Canvas_width T) (dv (pv 0))) da_nil)) (fun _ => rfl) ⟨(fun s H A' cl L code fp hr => (gw_name (i := 3) sc_Canvas_shown.nd rfl (Or.inl rfl) (by decide))), (fun s H A' cl L code fp hr => ts_nil), (fun s H A' cl L code fp hr => (de_sl rfl (de_meth (nm := nm_Canvas) rfl m_Canvas_cell (by decide +kernel) dfl_nil hr (by decide) passL (dv (pv 0)) (da_cons (dv (pv 3)) (da_cons (dv (pv 2)) da_nil))) do_none (do_some de_int)))⟩))⟩))), fun ds S q h => ?_⟩)
  · obtain ⟨_, _, _, _, _, _, rfl, _⟩ := h
    rfl
  · obtain ⟨m, w, h', k, l, p, rfl, hm, hk, hp, hwh, hP, hq⟩ := h
    walk_at "go"
    intro c P'
    have hh : h'.toNat < 16777216 := by omega
    rw [rangeD0]
    refine tup_go (by rw [List.length_map, List.length_range]; exact hh) (lc_map _ (fun (r : Nat) => Dt.tup ((List.range w.toNat).map fun (c : Nat) => px3 (pg p c r))) trivial _ (fun r hr kY kN hY => ?_) hq)
    have hr := List.mem_range.mp hr
    have hw : w.toNat < 16777216 := by omega
    walk_at "go"
    refine ⟨⟨_, _, rfl, rfl⟩, ?_⟩
    walk_at "go"
    rw [rangeD0]
    refine tup_go (by rw [List.length_map, List.length_range]; exact hw) (lc_map _ (fun (c : Nat) => px3 (pg p c r)) trivial _ (fun c hc kY2 kN2 hY2 => ?_) hY)
    have hc := List.mem_range.mp hc
    walk_at "go"
    refine ⟨m, (c : Nat), (r : Nat), w, h', k, l, rfl, hm, hk, fun _ => ?_, fun y => absurd (show inC w h' (c : Nat) (r : Nat) by unfold inC; omega) y⟩
    rw [hp.get]
    walk_at "go"
    exact hY2
end
end K07

open PySem PySem.Spec PyProof.Rows L2 Pr Dn LamX
namespace K07
abbrev qlam : Str := (envOfC "law" (defScope s_law) 0 0 (.ref 0)).qual ++ "<lambda>"
abbrev pL (K : PySem.W.Frag) : Addr := (He.cT K ("law", none)).2
abbrev pR (K : PySem.W.Frag) : Addr := (He.cT K ("Canvas", some "letter_rows")).2
abbrev pS (K : PySem.W.Frag) : Addr := (He.cT K ("Canvas", some "shown")).2
abbrev lcx (P : Program) (w : World) (K : PySem.W.Frag) (mg : Str → Option Value) (base : Heap) (f : Addr) (cdv : Value) (A : Around) (outer : List Env) (s : Shared) (HE : Hp) (E : XK) : Cx := cxOf (L2.CX P w) P w K mg base sl_law "law" (defScope s_law) f cdv A outer s HE E
def stFor : Stmt → List Stmt
  | .For _ _ b _ _ => b
  | _ => []
def stThen : Stmt → List Stmt
  | .If _ b _ _ => b
  | _ => []
def stElse : Stmt → List Stmt
  | .If _ _ b _ => b
  | _ => []
def nth (l : List Stmt) (i : Nat) : Stmt := l.getD i (.Pass ⟨0, 0, 0, 0⟩)
def bd_s0 : List Stmt := stFor (nth (defBody s_law) 0)
def bd_c : List Stmt := stFor (nth bd_s0 2)
def bd_f : List Stmt := stThen (nth bd_c 4)
def bd_w : List Stmt := stElse (nth bd_c 4)
def bd_s3 : List Stmt := bd_s0.drop 3
def bd_s5 : List Stmt := bd_s0.drop 5
def bd_s6 : List Stmt := bd_s0.drop 6
def bd_s8 : List Stmt := bd_s0.drop 8
def bd_s11 : List Stmt := bd_s0.drop 11
def bd_tail : List Stmt := (defBody s_law).drop 1
/-- the tables -/
structure TbS (K : PySem.W.Frag) (S : Store) : Prop where
  l : S (pL K) = some (.tbl qlam)
  r : S (pR K) = some .gtb
  s : S (pS K) = some .gtb
def Sub (S S' : Store) : Prop := ∀ p c, S p = some c → S' p = some c
theorem sub_put {S : Store} {p : Addr} {c : Cell} (h : S p = none) : Sub S (sput S p c) := fun b e hb => (sput_ne fun z => by rw [z, h] at hb; cases hb).trans hb
theorem TbS.sub {K : PySem.W.Frag} {S S' : Store} (t : TbS K S) (f : Sub S S') : TbS K S' := ⟨f _ _ t.l, f _ _ t.r, f _ _ t.s⟩
theorem TbS.new {K : PySem.W.Frag} {S : Store} {p : Addr} {c : Cell} (t : TbS K S) (h : S p = none) : TbS K (sput S p c) := t.sub (sub_put h)
theorem TbS.put {K : PySem.W.Frag} {S : Store} {p : Addr} {c c' : Cell} (t : TbS K S) (h : S p = some c) (hc : (∀ q, c ≠ .tbl q) ∧ c ≠ .gtb) : TbS K (sput S p c') := by
  have ne : ∀ {b : Addr} {e : Cell}, S b = some e → e ≠ c → sput S p c' b = some e := fun {b e} hb n => (sput_ne fun z => by rw [z, h] at hb; cases hb; exact n rfl).trans hb
  exact ⟨ne t.l fun z => hc.1 _ z.symm, ne t.r fun z => hc.2 z.symm, ne t.s fun z => hc.2 z.symm⟩
def Dice (S : Store) (d : Addr) : Prop := ∃ x n k : Int, S d = some (.lst [.int x, .int n, .int k])
def whA (cl : Ar) (w h : Int) : Ar := ⟨max 0 cl.x, max 0 cl.y, min w (cl.x + cl.w) - max 0 cl.x, min h (cl.y + cl.h) - max 0 cl.y⟩
structure StP (K : PySem.W.Frag) (S : Store) (d m c : Addr) (w h : Int) (p : Pic) (N : Nat) : Prop where
  t : TbS K S
  d : Dice S d
  x : ∃ k l1 l2, (S m = some (cvC K w h k) ∧ S k = some (.dct l1) ∧ S c = some (.dct l2)) ∧ k ≠ c ∧ (PicAt l1 p ∧ PicAt l2 p) ∧ l1.length ≤ N ∧ l2.length ≤ N
  sg : SgOk p
  wh : 1 ≤ w ∧ w ≤ 30 ∧ 0 ≤ h ∧ h ≤ 20
def SlE (δ : DS) : Prop := ∃ u0 u1 u2 u3 u4 u5 u6 u7 u8 u9 u10 u11 u12 u13 u14 u15 u16 u17 u18 u19 u20 u21 u22 u23 u24,  δ = [u0, u1, u2, u3, u4, u5, u6, u7, u8, u9, u10, u11, u12, u13, u14, u15, u16, u17, u18, u19, u20, u21, u22, u23, u24]
def SlD (δ : DS) (d : Addr) : Prop := ∃ u0 u2 u3 u4 u5 u6 u7 u8 u9 u10 u11 u12 u13 u14 u15 u16 u17 u18 u19 u20 u21 u22 u23 u24,  δ = [u0, some (.ref d), u2, u3, u4, u5, u6, u7, u8, u9, u10, u11, u12, u13, u14, u15, u16, u17, u18, u19, u20, u21, u22, u23, u24]
def SlW (δ : DS) (d m c : Addr) (w h : Int) : Prop := ∃ u0 u6 u7 u8 u9 u10 u11 u12 u13 u14 u15 u16 u17 u18 u19 u20 u21 u22 u23 u24,  δ = [u0, some (.ref d), some (.int w), some (.int h), some (.ref c), some (.ref m), u6, u7, u8, u9, u10, u11, u12, u13, u14, u15, u16, u17, u18, u19, u20, u21, u22, u23, u24]
def SlA (δ : DS) (d m c : Addr) (w h : Int) (a cl : Ar) (col : Str) (num : Int) : Prop := ∃ u0 u6 u12 u13 u14 u15 u16 u17 u18 u19 u20 u21 u22 u23 u24,  δ = [u0, some (.ref d), some (.int w), some (.int h), some (.ref c), some (.ref m), u6, some (arD a), some (arD cl), some (.str col), some (.int num), some (arD (whA cl w h)), u12, u13, u14, u15, u16, u17, u18, u19, u20, u21, u22, u23, u24]
theorem SlW.e {δ : DS} {d m c : Addr} {w h : Int} (x : SlW δ d m c w h) : SlE δ := by
  obtain ⟨u0, u6, u7, u8, u9, u10, u11, u12, u13, u14, u15, u16, u17, u18, u19, u20, u21, u22, u23, u24, rfl⟩ := x
  exact ⟨_, _, _, _, _, _, _, _, _, _, _, _, _, _, _, _, _, _, _, _, _, _, _, _, _, rfl⟩
theorem StP.roll {K : PySem.W.Frag} {S : Store} {d m c : Addr} {w h : Int} {p : Pic} {N : Nat} (s : StP K S d m c w h p N) (x y z : Int) : StP K (sput S d (.lst [.int x, .int y, .int z])) d m c w h p N := by
  obtain ⟨t, ⟨x0, y0, z0, e⟩, ⟨k, l1, l2, ⟨hm, hk, hc⟩, r⟩, sg, wh⟩ := s
  have ne : ∀ {b : Addr} {c : Cell}, S b = some c → (∀ l, c ≠ .lst l) → sput S d (.lst [.int x, .int y, .int z]) b = some c := fun {b c} hb n => (sput_ne fun q => by rw [q, e] at hb; cases hb; exact n _ rfl).trans hb
  exact ⟨t.put e ⟨fun _ z => (by cases z), fun z => (by cases z)⟩, ⟨x, y, z, sput_same⟩, ⟨k, l1, l2, ⟨ne hm (fun _ z => by cases z), ne hk (fun _ z => by cases z), ne hc (fun _ z => by cases z)⟩, r⟩, sg, wh⟩
/-- both dicts changed -/
theorem StP.two {K : PySem.W.Frag} {S : Store} {d m c k : Addr} {w h : Int} {p p' : Pic} {N N' : Nat} {l1 l2 l1' l2' : Cells} (s : StP K S d m c w h p N) (hm : S m = some (cvC K w h k)) (hk : S k = some (.dct l1)) (hc : S c = some (.dct l2)) (kc : k ≠ c) (h1 : PicAt l1' p') (h2 : PicAt l2' p') (n1 : l1'.length ≤ N') (n2 : l2'.length ≤ N') (sg : SgOk p') :
    StP K (sput (sput S k (.dct l1')) c (.dct l2')) d m c w h p' N' := by
  obtain ⟨t, ⟨x0, y0, z0, e⟩, _, _, wh⟩ := s
  have hc' : sput S k (.dct l1') c = some (.dct l2) := (sput_ne (Ne.symm kc)).trans hc
  have ne : ∀ {b : Addr} {e : Cell}, S b = some e → (∀ l, e ≠ .dct l) → sput (sput S k (.dct l1')) c (.dct l2') b = some e := fun {b e} hb n => by
    rw [sput_ne fun q => by rw [q, hc] at hb; cases hb; exact n _ rfl, sput_ne fun q => by rw [q, hk] at hb; cases hb; exact n _ rfl]
    exact hb
  exact ⟨(t.put hk ⟨fun _ z => (by cases z), fun z => (by cases z)⟩).put hc' ⟨fun _ z => (by cases z), fun z => (by cases z)⟩, ⟨x0, y0, z0, ne e (fun _ z => by cases z)⟩,
    ⟨k, l1', l2', ⟨ne hm (fun _ z => by cases z), (sput_ne kc).trans sput_same, sput_same⟩, kc, ⟨h1, h2⟩, n1, n2⟩, sg, wh⟩
/-- what the law's blocks are given -/
structure Env07 (P : Program) (w : World) (K : PySem.W.Frag) (mg : Str → Option Value) (base : Heap) (c0 : Addr) : Prop where
  m_Canvas_cell : MetX P w K mg base 1 (He.ga K "Canvas") "cell" (spD K (cCell K)) []
  m_Canvas_fill : MetX P w K mg base 2 (He.ga K "Canvas") "fill" (spD K (cFill K)) []
  m_Canvas_write : MetX P w K mg base 2 (He.ga K "Canvas") "write" (spD K (cWrite K)) []
  m_Canvas_letter_rows : MetX P w K mg base 6 (He.ga K "Canvas") "letter_rows" (spD K (cRows K (pR K))) []
  m_Canvas_shown : MetX P w K mg base 9 (He.ga K "Canvas") "shown" (spD K (cShown K (pS K))) []
  k_Canvas : MakX P w K mg base 1 "Canvas" (He.ga K "Canvas") (spD K (cCanvas K)) []
  c_meeting : CalX P w K mg base 1 "meeting" (spD K cMeet) []
  c_element_at : CalX P w K mg base 2 "element_at" (spD K (cElem K)) []
  c__law_roll : CalX P w K mg base 1 "_law_roll" (spD K Dn.cRoll) []
  c__law_in : CalX P w K mg base 1 "_law_in" (spD K cIn) []
  FT : ∃ fdT, FunD K "_law_told" "_law_told" (defArgs s_law_told) (defBody s_law_told) (defScope s_law_told) [] [] (He.ga K "_law_told") fdT
  TB : TabB base mg c0 (pL K)
end K07

open PySem PySem.Spec PyProof.Rows L2 Pr Dn LamX NdefX

namespace K07
theorem sp_ok : SOk " " ∧ (" " : Str).length ≤ 1 := ⟨⟨by decide +kernel, by decide +kernel⟩, by decide +kernel⟩
theorem pg_paint {p : Pic} {A : Int → Int → Prop} [∀ c r, Decidable (A c r)] {f : Int → Int → Px → Px} {c r : Int} : pg (paintP p A f) c r = if A c r then f c r (pg p c r) else pg p c r := by
  unfold pg paintP
  split <;> rfl
theorem SgOk.fill {p : Pic} {A : Int → Int → Prop} [∀ c r, Decidable (A c r)] {col : Str} {num : Int} (h : SgOk p) : SgOk (paintP p A fun _ _ => fillPx col num) := ⟨fun c r => by
  rw [pg_paint]
  split
  · unfold fillPx
    split
    · exact h.s c r
    · exact sp_ok
  · exact h.s c r⟩
theorem inA_iff {a : Ar} {c r : Int} : inA a c r = true ↔ (a.x ≤ c ∧ c < a.x + a.w) ∧ a.y ≤ r ∧ r < a.y + a.h := by
  unfold inA
  rw [Bool.and_eq_true, decide_eq_true_eq, decide_eq_true_eq]
theorem inwh_iff {cl : Ar} {w h c r : Int} : inA (whA cl w h) c r = true ↔ inV cl w h c r := by
  rw [inA_iff]
  unfold whA inV inC
  dsimp only
  omega
section
variable {P : Program} {w : World} {K : PySem.W.Frag} {mg : Str → Option Value} {base : Heap} {f c0 : Addr} {A0 : Around} {outer : List Env} {s0 : Shared} {HE : Hp} {E : XK} {e : DX}
theorem bl_f (T : Tx K mg) (V : Env07 P w K mg base c0) (hr : Room 14 (A0.deeper (envOfC "law" (defScope s_law) s0.heap.objs.size f (.ref c0)))) :
    ∃ t, PSs (lcx P w K mg base f (.ref c0) A0 outer s0 HE E) bd_f (tDS K E e t) ∧ ∀ (D : DEnds) (δ : DS) (S : Store) (d m c : Addr) (w h : Int) (a cl : Ar) (col : Str) (num : Int) (p : Pic) (N : Nat), SlA δ d m c w h a cl col num → StP K S d m c w h p N → (SmA a ∧ SmA cl ∧ a.w ≤ 15 ∧ a.h ≤ 10) → N ≤ 100000 →
      (∀ δ' S' p', SlW δ' d m c w h → StP K S' d m c w h p' (N + 150) → D.nx δ' S') → t D δ S := by
  have m_Canvas_fill := V.m_Canvas_fill
  have c__law_in := V.c__law_in
  refine ⟨_, (dss_cons (ds_expr (de_meth (nm := nm_Canvas) rfl m_Canvas_fill (by decide +kernel) dfl_nil hr (by decide) paX (dv (pv 5)) (da_cons (dv (pv 7)) (da_cons (dv (pv 9)) (da_cons (dv (pv 10)) (da_cons (dv (pv 8)) da_nil))))))
  (dss_one (ds_for poX rfl (di_range2 (by rfl) T.b_range (da_cons (de_ixC (n := 0) rfl (dv (pv 7))) (da_cons (de_op (od_add rfl) (de_ixC (n := 0) rfl (dv (pv 7))) (de_ixC (n := 2) rfl (dv (pv 7)))) da_nil))) (dg_name (i := 12) sc_law.nd rfl (Or.inr rfl)) (dss_one (ds_for poX rfl (di_range2 (by rfl) T.b_range (da_cons (de_ixC (n := 1) rfl (dv (pv 7))) (da_cons (de_op (od_add rfl) (de_ixC (n := 1) rfl (dv (pv 7))) (de_ixC (n := 3) rfl (dv (pv 7)))) da_nil))) (dg_name (i := 13) sc_law.nd rfl (Or.inr rfl)) (dss_one (ds_if (de_tru rfl (de_call rfl c__law_in dfl_nil hr (by decide) rfl paX (da_cons (dv (pv 11)) (da_cons (dv (pv 12)) (da_cons (dv (pv 13)) da_nil))))) (dss_cons (ds_set (i := 14) sc_law.nd rfl (Or.inl rfl) (de_tget2 (hu_of hr) (dv (pv 4)) (da_cons (dv (pv 12)) (da_cons (dv (pv 13)) da_nil)) (de_tup (da_cons de_str (da_cons de_str (da_cons de_str (da_cons de_non da_nil))))) ⟨by rfl, by rfl, by rfl, by rfl⟩))
  (dss_one (ds_asg (de_if (dt_cmp (od_eq rfl (hU_of hr)) (dv (pv 9)) de_str) (de_op (od_add rfl) (de_sl rfl (dv (pv 14)) do_none (do_some de_int)) (de_tup (da_cons (dv (pv 10)) da_nil))) (de_tup (da_cons de_str (da_cons de_str (da_cons (dv (pv 9)) (da_cons (dv (pv 10)) da_nil)))))) (dg_subT (hu_of hr) (dv (pv 4)) (da_cons (dv (pv 12)) (da_cons (dv (pv 13)) da_nil)))))) dss_nil))))))), fun D δ S d m c w h a cl col num p N sl st sm hN nx => ?_⟩
  obtain ⟨u0, u6, u12, u13, u14, u15, u16, u17, u18, u19, u20, u21, u22, u23, u24, rfl⟩ := sl
  obtain ⟨k, l1, l2, ⟨hm, hk, hc⟩, kc, ⟨p1, p2⟩, n1, n2⟩ := st.x
  have wh := st.wh
  obtain ⟨sa, sc, aw, ah⟩ := id sm
  obtain ⟨⟨_, _⟩, ⟨_, _⟩, ⟨_, _⟩, ⟨_, _⟩⟩ := id sa
  obtain ⟨⟨_, _⟩, ⟨_, _⟩, ⟨_, _⟩, ⟨_, _⟩⟩ := id sc
  walk_at "go"
  refine ⟨m, a, col, num, cl, w, h, k, l1, p, rfl, hm, hk, p1, sm, by omega, by omega, fun l1' q1 nl1 => ?_⟩
  have hc1 : sput S k (.dct l1') c = some (.dct l2) := (sput_ne (Ne.symm kc)).trans hc
  walk_at "go"
  refine forGo_rng _ _ (fun i δ S' => ∃ u12 u13 u14 l', δ = [u0, some (.ref d), some (.int w), some (.int h), some (.ref c), some (.ref m), u6, some (arD a), some (arD cl), some (.str col), some (.int num), some (arD (whA cl w h)), u12, u13, u14, u15, u16, u17, u18, u19, u20, u21, u22, u23, u24] ∧ S' = sput (sput S k (.dct l1')) c (.dct l') ∧
    PicAt l' (paintP p (fun c r => ((a.x ≤ c ∧ c < a.x + (i : Nat)) ∧ a.y ≤ r ∧ r < a.y + a.h) ∧ inV cl w h c r) fun _ _ => fillPx col num) ∧ l'.length ≤ l2.length + 10 * i ∧ i ≤ 15) (fun i δ S' hi ii nx1 kn => ?_) (fun δ S' ii => ?_) ?_
  · obtain ⟨u12, u13, u14, l', rfl, rfl, hp', hl', hi'⟩ := ii
    walk_at "go"
    refine forGo_rng _ _ (fun j δ S' => ∃ u13 u14 l', δ = [u0, some (.ref d), some (.int w), some (.int h), some (.ref c), some (.ref m), u6, some (arD a), some (arD cl), some (.str col), some (.int num), some (arD (whA cl w h)), some (.int (a.x + (i : Nat))), u13, u14, u15, u16, u17, u18, u19, u20, u21, u22, u23, u24] ∧ S' = sput (sput S k (.dct l1')) c (.dct l') ∧
      PicAt l' (paintP p (fun c r => (((a.x ≤ c ∧ c < a.x + (i : Nat)) ∧ a.y ≤ r ∧ r < a.y + a.h) ∧ inV cl w h c r) ∨ (c = a.x + (i : Nat) ∧ a.y ≤ r ∧ r < a.y + (j : Nat)) ∧ inV cl w h c r) fun _ _ => fillPx col num) ∧ l'.length ≤ l2.length + 10 * i + j) (fun j δ S' hj ii nx2 kn2 => ?_) (fun δ S' ii => ?_) ?_
    · obtain ⟨u13, u14, l3, rfl, rfl, hp3, hl3⟩ := ii
      have hz : l3.length < sizeLine := by show _ < 16777216; omega
      walk_at "go"
      refine ⟨whA cl w h, a.x + (i : Nat), a.y + (j : Nat), rfl, ?_⟩
      walk_at "go"
      have fin : ∀ u13 u14 l4, PicAt l4 (paintP p (fun c r => (((a.x ≤ c ∧ c < a.x + (i : Nat)) ∧ a.y ≤ r ∧ r < a.y + a.h) ∧ inV cl w h c r) ∨ (c = a.x + (i : Nat) ∧ a.y ≤ r ∧ r < a.y + ((j + 1 : Nat) : Int)) ∧ inV cl w h c r) fun _ _ => fillPx col num) → l4.length ≤ l3.length + 1 →
          nx2 [u0, some (.ref d), some (.int w), some (.int h), some (.ref c), some (.ref m), u6, some (arD a), some (arD cl), some (.str col), some (.int num), some (arD (whA cl w h)), some (.int (a.x + (i : Nat))), u13, u14, u15, u16, u17, u18, u19, u20, u21, u22, u23, u24] (sput (sput S k (.dct l1')) c (.dct l4)) := fun u13 u14 l4 h4 n4 => kn2 _ _ ⟨u13, u14, l4, rfl, rfl, h4, by omega⟩
      refine ift_b (fun hin => ?_) (fun hout => ?_)
      · have hin := inwh_iff.mp hin
        have put := hp3.put (a.x + (i : Nat)) (a.y + (j : Nat)) (fillPx col num (pg (paintP p (fun c r => (((a.x ≤ c ∧ c < a.x + (i : Nat)) ∧ a.y ≤ r ∧ r < a.y + a.h) ∧ inV cl w h c r) ∨ (c = a.x + (i : Nat) ∧ a.y ≤ r ∧ r < a.y + (j : Nat)) ∧ inV cl w h c r) fun _ _ => fillPx col num) (a.x + (i : Nat)) (a.y + (j : Nat))))
        rw [paint_put (f := fun _ _ => fillPx col num) (B := fun c r => (((a.x ≤ c ∧ c < a.x + (i : Nat)) ∧ a.y ≤ r ∧ r < a.y + a.h) ∧ inV cl w h c r) ∨ (c = a.x + (i : Nat) ∧ a.y ≤ r ∧ r < a.y + ((j + 1 : Nat) : Int)) ∧ inV cl w h c r) (by omega) (fun c' r' => ?_)] at put
        · walk_at "go"
          have get : (kGet l3 [Sum.inl (a.x + (i : Nat)), Sum.inl (a.y + (j : Nat))]).getD (.tup [.str " ", .str "black", .str "white", .non]) = _ := hp3.get (a.x + (i : Nat)) (a.y + (j : Nat))
          generalize pg (paintP p (fun c r => (((a.x ≤ c ∧ c < a.x + (i : Nat)) ∧ a.y ≤ r ∧ r < a.y + a.h) ∧ inV cl w h c r) ∨ (c = a.x + (i : Nat) ∧ a.y ≤ r ∧ r < a.y + (j : Nat)) ∧ inV cl w h c r) fun _ _ => fillPx col num) (a.x + (i : Nat)) (a.y + (j : Nat)) = old at put get
          rw [get]
          refine ift (fun hn => ?_) (fun hn => ?_)
          · rw [show fillPx col num old = ⟨old.s, old.c, old.b, some num⟩ by unfold fillPx; rw [if_pos hn]] at put
            walk_at "go"
            rw [show Dn.cutD [Dt.str old.s, Dt.str old.c, Dt.str old.b, oI old.n] none (some 3) = [Dt.str old.s, Dt.str old.c, Dt.str old.b] from rfl]
            walk_at "go"
            rw [sput_sput]
            exact fin _ _ _ put (kPut_len _ _ _)
          · rw [show fillPx col num old = ⟨" ", "black", col, some num⟩ by unfold fillPx; rw [if_neg hn]] at put
            walk_at "go"
            rw [sput_sput]
            exact fin _ _ _ put (kPut_len _ _ _)
        · refine ⟨fun y => ?_, fun y => ?_⟩
          · rcases y with y | ⟨⟨y1, y2, y3⟩, y4⟩
            · exact .inl (.inl y)
            · rcases Int.lt_or_le r' (a.y + (j : Nat)) with y | y
              · exact .inl (.inr ⟨⟨y1, y2, y⟩, y4⟩)
              · exact .inr ⟨y1, by omega⟩
          · rcases y with (y | ⟨⟨y1, y2, y3⟩, y4⟩) | ⟨y1, y2⟩
            · exact .inl y
            · exact .inr ⟨⟨y1, y2, by omega⟩, y4⟩
            · subst y1 y2
              exact .inr ⟨⟨rfl, by omega, by omega⟩, hin⟩
      · have hout : ¬ inV cl w h (a.x + (i : Nat)) (a.y + (j : Nat)) := fun y => by rw [inwh_iff.mpr y] at hout; cases hout
        walk_at "go"
        refine fin _ _ _ ?_ (Nat.le_succ _)
        rw [← paint_congr (A := fun c r => (((a.x ≤ c ∧ c < a.x + (i : Nat)) ∧ a.y ≤ r ∧ r < a.y + a.h) ∧ inV cl w h c r) ∨ (c = a.x + (i : Nat) ∧ a.y ≤ r ∧ r < a.y + (j : Nat)) ∧ inV cl w h c r)]
        · exact hp3
        · intro c' r'
          refine ⟨fun y => ?_, fun y => ?_⟩
          · rcases y with y | ⟨⟨y1, y2, y3⟩, y4⟩
            · exact .inl y
            · exact .inr ⟨⟨y1, y2, by omega⟩, y4⟩
          · rcases y with y | ⟨⟨y1, y2, y3⟩, y4⟩
            · exact .inl y
            · rcases Int.lt_or_le r' (a.y + (j : Nat)) with y | y
              · exact .inr ⟨⟨y1, y2, y⟩, y4⟩
              · have e : r' = a.y + (j : Nat) := by omega
                subst y1 e
                exact absurd y4 hout
    · obtain ⟨u13, u14, l3, rfl, rfl, hp3, hl3⟩ := ii
      walk_at "go"
      refine kn _ _ ⟨_, _, _, l3, rfl, rfl, ?_, by omega, by omega⟩
      rw [← paint_congr (A := fun c r => (((a.x ≤ c ∧ c < a.x + (i : Nat)) ∧ a.y ≤ r ∧ r < a.y + a.h) ∧ inV cl w h c r) ∨ (c = a.x + (i : Nat) ∧ a.y ≤ r ∧ r < a.y + ((a.y + a.h - a.y).toNat : Nat)) ∧ inV cl w h c r)]
      · exact hp3
      · intro c r; rw [← or_and_right]; exact and_congr_left' (by omega)
    · refine ⟨_, _, l', rfl, rfl, ?_, by omega⟩
      rw [← paint_congr (A := fun c r => ((a.x ≤ c ∧ c < a.x + (i : Nat)) ∧ a.y ≤ r ∧ r < a.y + a.h) ∧ inV cl w h c r)]
      · exact hp'
      · intro c r; rw [← or_and_right]; exact and_congr_left' (by omega)
  · obtain ⟨u12, u13, u14, l', rfl, rfl, hp', hl', hi'⟩ := ii
    walk_at "go"
    refine nx _ _ (paintP p (inF a cl w h) fun _ _ => fillPx col num) ⟨_, _, _, _, _, _, _, _, _, _, _, _, _, _, _, _, _, _, _, _, rfl⟩ (st.two hm hk hc kc q1 ?_ (by omega) (by omega) st.sg.fill)
    rw [← paint_congr (A := fun c r => ((a.x ≤ c ∧ c < a.x + ((a.x + a.w - a.x).toNat : Nat)) ∧ a.y ≤ r ∧ r < a.y + a.h) ∧ inV cl w h c r)]
    · exact hp'
    · intro c r; unfold inV inC inF fx0 fx1 fy0 fy1; omega
  · refine ⟨_, _, _, l2, rfl, (sput_self hc1).symm, ?_, by omega, by omega⟩
    rw [paint_none fun c r y => by omega]
    exact p2
end
end K07

open PySem PySem.Spec PyProof.Rows L2 Pr Dn LamX NdefX

namespace K07
def textOk (z : Str) : Bool := decide (z.length ≤ 8) && (lets z).all fun y => decide (y.length ≤ 1) && (decide (y.length ≤ 16777216) && PySem.PyData.strOk y)
theorem texts_ok : ∀ n ∈ List.range 9, textOk (cutS "abcdefgh" none (some (n : Nat))) = true := by decide +kernel
theorem sg_ok {z : Str} (h : textOk z = true) (i : Nat) : SOk (sg z i) ∧ (sg z i).length ≤ 1 := by
  unfold textOk at h
  rw [Bool.and_eq_true, List.all_eq_true] at h
  unfold sg
  by_cases hi : i < (lets z).length
  · rw [List.getElem?_eq_getElem hi]
    have := h.2 _ (List.getElem_mem hi)
    rw [Bool.and_eq_true, decide_eq_true_eq] at this
    exact ⟨sok_of this.2, this.1⟩
  · rw [List.getElem?_eq_none (by omega)]
    exact ⟨SOk.empty, by decide +kernel⟩
theorem text_of {r : Int} (h0 : 0 ≤ r) (h1 : r < 9) : textOk (cutS "abcdefgh" none (some r)) = true := by
  have := texts_ok r.toNat (List.mem_range.mpr (by omega))
  rwa [show ((r.toNat : Nat) : Int) = r by omega] at this
theorem SgOk.write {p : Pic} {A : Int → Int → Prop} [∀ c r, Decidable (A c r)] {z : Str} {c0 : Int} {bg : Str} {num : Int} (h : SgOk p) (hz : textOk z = true) : SgOk (paintP p A (wrPx z c0 "green" bg num)) := ⟨fun c r => by
  rw [pg_paint]
  split
  · exact sg_ok hz _
  · exact h.s c r⟩
section
variable {P : Program} {w : World} {K : PySem.W.Frag} {mg : Str → Option Value} {base : Heap} {f c0 : Addr} {A0 : Around} {outer : List Env} {s0 : Shared} {HE : Hp} {E : XK} {e : DX}
theorem bl_w (T : Tx K mg) (V : Env07 P w K mg base c0) (hr : Room 14 (A0.deeper (envOfC "law" (defScope s_law) s0.heap.objs.size f (.ref c0)))) :
    ∃ t, PSs (lcx P w K mg base f (.ref c0) A0 outer s0 HE E) bd_w (tDS K E e t) ∧ ∀ (D : DEnds) (δ : DS) (S : Store) (d m c : Addr) (w h : Int) (a cl : Ar) (col : Str) (num : Int) (p : Pic) (N : Nat), SlA δ d m c w h a cl col num → StP K S d m c w h p N → N ≤ 100000 →
      (∀ δ' S' p', SlW δ' d m c w h → StP K S' d m c w h p' (N + 150) → D.nx δ' S') → t D δ S := by
  have m_Canvas_write := V.m_Canvas_write
  have c__law_in := V.c__law_in
  have c__law_roll := V.c__law_roll
  refine ⟨_, (dss_cons (ds_set (i := 15) sc_law.nd rfl (Or.inl rfl) (de_sl rfl de_str do_none (do_some (de_call rfl c__law_roll dfl_nil hr (by decide) rfl paX (da_cons (dv (pv 1)) (da_cons de_int da_nil))))))
  (dss_cons (ds_expr (de_meth (nm := nm_Canvas) rfl m_Canvas_write (by decide +kernel) dfl_nil hr (by decide) paX (dv (pv 5)) (da_cons (de_ixC (n := 0) rfl (dv (pv 7))) (da_cons (de_ixC (n := 1) rfl (dv (pv 7))) (da_cons (dv (pv 15)) (da_cons (de_tup (da_cons de_str (da_cons (dv (pv 9)) (da_cons (dv (pv 10)) da_nil)))) (da_cons (dv (pv 8)) da_nil)))))))
  (dss_one (ds_for poX rfl (di_enumS (by rfl) T.b_enumerate (da_cons (dv (pv 15)) da_nil)) (dg_tup (n := 2) rfl rfl (dgs_cons (dg_name (i := 16) sc_law.nd rfl (Or.inl rfl)) (dgs_cons (dg_name (i := 17) sc_law.nd rfl (Or.inl rfl)) dgs_nil))) (dss_one (ds_if (de_tru rfl (de_call rfl c__law_in dfl_nil hr (by decide) rfl paX (da_cons (dv (pv 11)) (da_cons (de_op (od_add rfl) (de_ixC (n := 0) rfl (dv (pv 7))) (dv (pv 16))) (da_cons (de_ixC (n := 1) rfl (dv (pv 7))) da_nil))))) (dss_cons (ds_set (i := 14) sc_law.nd rfl (Or.inl rfl) (de_tget2 (hu_of hr) (dv (pv 4)) (da_cons (de_op (od_add rfl) (de_ixC (n := 0) rfl (dv (pv 7))) (dv (pv 16))) (da_cons (de_ixC (n := 1) rfl (dv (pv 7))) da_nil)) (de_tup (da_cons de_str (da_cons de_str (da_cons de_str (da_cons de_non da_nil))))) ⟨by rfl, by rfl, by rfl, by rfl⟩))
  (dss_one (ds_asg (de_tup (da_cons (dv (pv 17)) (da_cons de_str (da_cons (de_if (dt_cmp (od_eq rfl (hU_of hr)) (dv (pv 9)) de_str) (de_ixC (n := 2) rfl (dv (pv 14))) (dv (pv 9))) (da_cons (dv (pv 10)) da_nil))))) (dg_subT (hu_of hr) (dv (pv 4)) (da_cons (de_op (od_add rfl) (de_ixC (n := 0) rfl (dv (pv 7))) (dv (pv 16))) (da_cons (de_ixC (n := 1) rfl (dv (pv 7))) da_nil)))))) dss_nil)))))), fun D δ S d m c w h a cl col num p N sl st hN nx => ?_⟩
  obtain ⟨u0, u6, u12, u13, u14, u15, u16, u17, u18, u19, u20, u21, u22, u23, u24, rfl⟩ := sl
  have wh := st.wh
  obtain ⟨x0, y0, z0, hd⟩ := st.d
  walk_at "go"
  refine ⟨d, x0, y0, z0, 9, rfl, hd, ⟨by omega, by omega⟩, fun r x y z hr0 hr1 => ?_⟩
  have st2 := st.roll x y z
  generalize sput S d (.lst [.int x, .int y, .int z]) = S2 at st2 ⊢
  clear hd st
  obtain ⟨k, l1, l2, ⟨hm, hk, hc⟩, kc, ⟨p1, p2⟩, n1, n2⟩ := st2.x
  walk_at "go"
  have tz := text_of hr0 hr1
  generalize cutS "abcdefgh" none (some r) = z at tz ⊢
  have zl : z.length ≤ 8 := by
    unfold textOk at tz
    rw [Bool.and_eq_true, decide_eq_true_eq] at tz
    exact tz.1
  refine ⟨m, a.x, a.y, z, "green", col, num, cl, w, h, k, l1, p, rfl, hm, hk, p1, by omega, by omega, fun l1' q1 nl1 => ?_⟩
  have hc1 : sput S2 k (.dct l1') c = some (.dct l2) := (sput_ne (Ne.symm kc)).trans hc
  walk_at "go"
  rw [enum_text]
  refine forGo_at _ _ (fun i δ S' => ∃ u14 u16 u17 l', δ = [u0, some (.ref d), some (.int w), some (.int h), some (.ref c), some (.ref m), u6, some (arD a), some (arD cl), some (.str col), some (.int num), some (arD (whA cl w h)), u12, u13, u14, some (.str z), u16, u17, u18, u19, u20, u21, u22, u23, u24] ∧ S' = sput (sput S2 k (.dct l1')) c (.dct l') ∧
    PicAt l' (paintP p (inW cl w h a.x a.y (i : Nat)) (wrPx z a.x "green" col num)) ∧ l'.length ≤ l2.length + i) (fun _ _ _ _ => trivial) (fun i x δ S' ex ii nx1 kn => ?_) (fun δ S' ii => ?_) ?_
  · obtain ⟨u14, u16, u17, l', rfl, rfl, hp', hl'⟩ := ii
    have hi : i < z.length := by
      have := (List.getElem?_eq_some_iff.mp ex).1
      rwa [List.length_range] at this
    rw [List.getElem?_range hi] at ex
    cases ex
    have hz : l'.length < sizeLine := by show _ < 16777216; omega
    walk_at "go"
    refine ⟨whA cl w h, a.x + (i : Nat), a.y, rfl, ?_⟩
    walk_at "go"
    have fin : ∀ u14 u16 u17 l4, PicAt l4 (paintP p (inW cl w h a.x a.y ((i + 1 : Nat) : Int)) (wrPx z a.x "green" col num)) → l4.length ≤ l'.length + 1 →
        nx1 [u0, some (.ref d), some (.int w), some (.int h), some (.ref c), some (.ref m), u6, some (arD a), some (arD cl), some (.str col), some (.int num), some (arD (whA cl w h)), u12, u13, u14, some (.str z), u16, u17, u18, u19, u20, u21, u22, u23, u24] (sput (sput S2 k (.dct l1')) c (.dct l4)) := fun u14 u16 u17 l4 h4 n4 => kn _ _ ⟨u14, u16, u17, l4, rfl, rfl, h4, by omega⟩
    refine ift_b (fun hin => ?_) (fun hout => ?_)
    · have hin := inwh_iff.mp hin
      have put := hp'.put (a.x + (i : Nat)) a.y (wrPx z a.x "green" col num (a.x + (i : Nat)) a.y (pg (paintP p (inW cl w h a.x a.y (i : Nat)) (wrPx z a.x "green" col num)) (a.x + (i : Nat)) a.y))
      rw [paint_put (f := wrPx z a.x "green" col num) (B := inW cl w h a.x a.y ((i + 1 : Nat) : Int)) (by omega) (fun c' r' => ?_)] at put
      · walk_at "go"
        have get : (kGet l' [Sum.inl (a.x + (i : Nat)), Sum.inl a.y]).getD (.tup [.str " ", .str "black", .str "white", .non]) = _ := hp'.get (a.x + (i : Nat)) a.y
        generalize pg (paintP p (inW cl w h a.x a.y (i : Nat)) (wrPx z a.x "green" col num)) (a.x + (i : Nat)) a.y = old at put get
        rw [get]
        have es : sg z (a.x + (i : Nat) - a.x).toNat = sg z i := by rw [show (a.x + (i : Nat) - a.x).toNat = i by omega]
        refine ift (fun hn => ?_) (fun hn => ?_)
        · rw [show wrPx z a.x "green" col num (a.x + (i : Nat)) a.y old = ⟨sg z i, "green", old.b, some num⟩ by unfold wrPx; rw [es, if_pos hn]] at put
          walk_at "go"
          rw [sput_sput]
          exact fin _ _ _ _ put (kPut_len _ _ _)
        · rw [show wrPx z a.x "green" col num (a.x + (i : Nat)) a.y old = ⟨sg z i, "green", col, some num⟩ by unfold wrPx; rw [es, if_neg hn]] at put
          walk_at "go"
          rw [sput_sput]
          exact fin _ _ _ _ put (kPut_len _ _ _)
      · refine ⟨fun ⟨⟨y1, y2, y3⟩, v⟩ => ?_, fun y => ?_⟩
        · rcases Int.lt_or_le c' (a.x + (i : Nat)) with y | y
          · exact .inl ⟨⟨y1, y2, y⟩, v⟩
          · exact .inr ⟨by omega, y1⟩
        · rcases y with ⟨⟨y1, y2, y3⟩, v⟩ | ⟨y1, y2⟩
          · exact ⟨⟨y1, y2, by omega⟩, v⟩
          · subst y1 y2
            exact ⟨⟨rfl, by omega, by omega⟩, hin⟩
    · have hout : ¬ inV cl w h (a.x + (i : Nat)) a.y := fun y => by rw [inwh_iff.mpr y] at hout; cases hout
      walk_at "go"
      refine fin _ _ _ _ ?_ (Nat.le_succ _)
      rw [← paint_congr (A := inW cl w h a.x a.y (i : Nat))]
      · exact hp'
      · intro c' r'
        refine ⟨fun ⟨⟨y1, y2, y3⟩, v⟩ => ⟨⟨y1, y2, by omega⟩, v⟩, fun ⟨⟨y1, y2, y3⟩, v⟩ => ⟨⟨y1, y2, ?_⟩, v⟩⟩
        rcases Int.lt_or_le c' (a.x + (i : Nat)) with y | y
        · exact y
        · have e : c' = a.x + (i : Nat) := by omega
          subst y1 e
          exact absurd v hout
  · obtain ⟨u14, u16, u17, l', rfl, rfl, hp', hl'⟩ := ii
    rw [List.length_range] at hp' hl'
    walk_at "go"
    exact nx _ _ (paintP p (inW cl w h a.x a.y z.length) (wrPx z a.x "green" col num)) ⟨_, _, _, _, _, _, _, _, _, _, _, _, _, _, _, _, _, _, _, _, rfl⟩ (st2.two hm hk hc kc q1 hp' (by omega) (by omega) (st2.sg.write tz))
  · refine ⟨_, _, _, l2, rfl, (sput_self hc1).symm, ?_, by omega⟩
    rw [paint_none fun c r y => by omega]
    exact p2
end
end K07

open PySem PySem.Spec PyProof.Rows L2 Pr Dn LamX NdefX

namespace K07
section
variable {P : Program} {w : World} {K : PySem.W.Frag} {mg : Str → Option Value} {base : Heap} {f c0 : Addr} {A0 : Around} {outer : List Env} {s0 : Shared} {HE : Hp} {E : XK} {e : DX}
theorem bl_c (T : Tx K mg) (V : Env07 P w K mg base c0) (hr : Room 14 (A0.deeper (envOfC "law" (defScope s_law) s0.heap.objs.size f (.ref c0)))) :
    ∃ t, PSs (lcx P w K mg base f (.ref c0) A0 outer s0 HE E) bd_c (tDS K E e t) ∧ ∀ (D : DEnds) (δ : DS) (S : Store) (d m c : Addr) (w h : Int) (p : Pic) (N : Nat), SlW δ d m c w h → StP K S d m c w h p N → N ≤ 100000 →
      (∀ δ' S' p', SlW δ' d m c w h → StP K S' d m c w h p' (N + 150) → D.nx δ' S') → t D δ S := by
  have c__law_roll := V.c__law_roll
  obtain ⟨tf, p_f, h_f⟩ := bl_f (f := f) (A0 := A0) (outer := outer) (s0 := s0) (HE := HE) (E := E) (e := e) T V hr
  obtain ⟨tw, p_w, h_w⟩ := bl_w (f := f) (A0 := A0) (outer := outer) (s0 := s0) (HE := HE) (E := E) (e := e) T V hr
  refine ⟨_, (dss_cons (ds_set (i := 7) sc_law.nd rfl (Or.inl rfl) (de_tup (da_cons (de_op od_sub (de_call rfl c__law_roll dfl_nil hr (by decide) rfl paX (da_cons (dv (pv 1)) (da_cons de_int da_nil))) de_int) (da_cons (de_op od_sub (de_call rfl c__law_roll dfl_nil hr (by decide) rfl paX (da_cons (dv (pv 1)) (da_cons de_int da_nil))) de_int) (da_cons (de_call rfl c__law_roll dfl_nil hr (by decide) rfl paX (da_cons (dv (pv 1)) (da_cons de_int da_nil))) (da_cons (de_call rfl c__law_roll dfl_nil hr (by decide) rfl paX (da_cons (dv (pv 1)) (da_cons de_int da_nil))) da_nil))))))
  (dss_cons (ds_set (i := 8) sc_law.nd rfl (Or.inl rfl) (de_ix rfl (de_lst (da_cons (de_tup (da_cons de_int (da_cons de_int (da_cons (dv (pv 2)) (da_cons (dv (pv 3)) da_nil))))) (da_cons (de_tup (da_cons (de_call rfl c__law_roll dfl_nil hr (by decide) rfl paX (da_cons (dv (pv 1)) (da_cons de_int da_nil))) (da_cons (de_call rfl c__law_roll dfl_nil hr (by decide) rfl paX (da_cons (dv (pv 1)) (da_cons de_int da_nil))) (da_cons (de_call rfl c__law_roll dfl_nil hr (by decide) rfl paX (da_cons (dv (pv 1)) (da_cons de_int da_nil))) (da_cons (de_call rfl c__law_roll dfl_nil hr (by decide) rfl paX (da_cons (dv (pv 1)) (da_cons de_int da_nil))) da_nil))))) da_nil))) (de_call rfl c__law_roll dfl_nil hr (by decide) rfl paX (da_cons (dv (pv 1)) (da_cons de_int da_nil)))))
  (dss_cons (ds_par (i := 9) (j := 10) (by rfl) sc_law.nd rfl rfl (by decide) rfl rfl (da_cons (de_ix rfl (de_lst (da_cons de_str (da_cons de_str (da_cons de_str da_nil)))) (de_call rfl c__law_roll dfl_nil hr (by decide) rfl paX (da_cons (dv (pv 1)) (da_cons de_int da_nil)))) (da_cons (de_call rfl c__law_roll dfl_nil hr (by decide) rfl paX (da_cons (dv (pv 1)) (da_cons de_int da_nil))) da_nil)) (by rfl))
  (dss_cons (ds_set (i := 11) sc_law.nd rfl (Or.inl rfl) (de_tup (da_cons (de_callB (cd_max rfl) (by rfl) T.b_max (by decide +kernel) (da_cons de_int (da_cons (de_ixC (n := 0) rfl (dv (pv 8))) da_nil))) (da_cons (de_callB (cd_max rfl) (by rfl) T.b_max (by decide +kernel) (da_cons de_int (da_cons (de_ixC (n := 1) rfl (dv (pv 8))) da_nil))) (da_cons (de_op od_sub (de_callB (cd_min rfl) (by rfl) T.b_min (by decide +kernel) (da_cons (dv (pv 2)) (da_cons (de_op (od_add rfl) (de_ixC (n := 0) rfl (dv (pv 8))) (de_ixC (n := 2) rfl (dv (pv 8)))) da_nil))) (de_callB (cd_max rfl) (by rfl) T.b_max (by decide +kernel) (da_cons de_int (da_cons (de_ixC (n := 0) rfl (dv (pv 8))) da_nil)))) (da_cons (de_op od_sub (de_callB (cd_min rfl) (by rfl) T.b_min (by decide +kernel) (da_cons (dv (pv 3)) (da_cons (de_op (od_add rfl) (de_ixC (n := 1) rfl (dv (pv 8))) (de_ixC (n := 3) rfl (dv (pv 8)))) da_nil))) (de_callB (cd_max rfl) (by rfl) T.b_max (by decide +kernel) (da_cons de_int (da_cons (de_ixC (n := 1) rfl (dv (pv 8))) da_nil)))) da_nil))))))
  (dss_one (ds_if (dt_cmp (od_eq rfl (hU_of hr)) (de_call rfl c__law_roll dfl_nil hr (by decide) rfl paX (da_cons (dv (pv 1)) (da_cons de_int da_nil))) de_int) p_f p_w)))))), fun D δ S0 d m c w h p N sl st hN nx => ?_⟩
  obtain ⟨u0, u6, u7, u8, u9, u10, u11, u12, u13, u14, u15, u16, u17, u18, u19, u20, u21, u22, u23, u24, rfl⟩ := sl
  have wh := st.wh
  obtain ⟨x0, y0, z0, hd0⟩ := st.d
  walk_at "go"
  refine ⟨d, _, _, _, _, rfl, hd0, ⟨by omega, by omega⟩, fun r1 x1 y1 z1 a1 b1 => ?_⟩
  replace st := st.roll x1 y1 z1
  have hd1 : sput S0 d (.lst [.int x1, .int y1, .int z1]) d = some _ := sput_same
  generalize sput S0 d (.lst [.int x1, .int y1, .int z1]) = S1 at st hd1 ⊢
  walk_at "go"
  refine ⟨d, _, _, _, _, rfl, hd1, ⟨by omega, by omega⟩, fun r2 x2 y2 z2 a2 b2 => ?_⟩
  replace st := st.roll x2 y2 z2
  have hd2 : sput S1 d (.lst [.int x2, .int y2, .int z2]) d = some _ := sput_same
  generalize sput S1 d (.lst [.int x2, .int y2, .int z2]) = S2 at st hd2 ⊢
  walk_at "go"
  refine ⟨d, _, _, _, _, rfl, hd2, ⟨by omega, by omega⟩, fun r3 x3 y3 z3 a3 b3 => ?_⟩
  replace st := st.roll x3 y3 z3
  have hd3 : sput S2 d (.lst [.int x3, .int y3, .int z3]) d = some _ := sput_same
  generalize sput S2 d (.lst [.int x3, .int y3, .int z3]) = S3 at st hd3 ⊢
  walk_at "go"
  refine ⟨d, _, _, _, _, rfl, hd3, ⟨by omega, by omega⟩, fun r4 x4 y4 z4 a4 b4 => ?_⟩
  replace st := st.roll x4 y4 z4
  have hd4 : sput S3 d (.lst [.int x4, .int y4, .int z4]) d = some _ := sput_same
  generalize sput S3 d (.lst [.int x4, .int y4, .int z4]) = S4 at st hd4 ⊢
  walk_at "go"
  refine ⟨d, _, _, _, _, rfl, hd4, ⟨by omega, by omega⟩, fun r5 x5 y5 z5 a5 b5 => ?_⟩
  replace st := st.roll x5 y5 z5
  have hd5 : sput S4 d (.lst [.int x5, .int y5, .int z5]) d = some _ := sput_same
  generalize sput S4 d (.lst [.int x5, .int y5, .int z5]) = S5 at st hd5 ⊢
  walk_at "go"
  refine ⟨d, _, _, _, _, rfl, hd5, ⟨by omega, by omega⟩, fun r6 x6 y6 z6 a6 b6 => ?_⟩
  replace st := st.roll x6 y6 z6
  have hd6 : sput S5 d (.lst [.int x6, .int y6, .int z6]) d = some _ := sput_same
  generalize sput S5 d (.lst [.int x6, .int y6, .int z6]) = S6 at st hd6 ⊢
  walk_at "go"
  refine ⟨d, _, _, _, _, rfl, hd6, ⟨by omega, by omega⟩, fun r7 x7 y7 z7 a7 b7 => ?_⟩
  replace st := st.roll x7 y7 z7
  have hd7 : sput S6 d (.lst [.int x7, .int y7, .int z7]) d = some _ := sput_same
  generalize sput S6 d (.lst [.int x7, .int y7, .int z7]) = S7 at st hd7 ⊢
  walk_at "go"
  refine ⟨d, _, _, _, _, rfl, hd7, ⟨by omega, by omega⟩, fun r8 x8 y8 z8 a8 b8 => ?_⟩
  replace st := st.roll x8 y8 z8
  have hd8 : sput S7 d (.lst [.int x8, .int y8, .int z8]) d = some _ := sput_same
  generalize sput S7 d (.lst [.int x8, .int y8, .int z8]) = S8 at st hd8 ⊢
  walk_at "go"
  refine ⟨d, _, _, _, _, rfl, hd8, ⟨by omega, by omega⟩, fun r9 x9 y9 z9 a9 b9 => ?_⟩
  replace st := st.roll x9 y9 z9
  have hd9 : sput S8 d (.lst [.int x9, .int y9, .int z9]) d = some _ := sput_same
  generalize sput S8 d (.lst [.int x9, .int y9, .int z9]) = S9 at st hd9 ⊢
  walk_at "go"
  obtain ⟨cl, hcl, hat⟩ := pickM [(⟨0, 0, w, h⟩ : Ar), ⟨r5, r6, r7, r8⟩] arD rfl a9 b9
  have sc : SmA cl := by
    simp only [List.mem_cons, List.not_mem_nil, or_false] at hcl
    rcases hcl with rfl | rfl
    · exact ⟨by dsimp only; omega, by dsimp only; omega, by dsimp only; omega, by dsimp only; omega⟩
    · exact ⟨by dsimp only; omega, by dsimp only; omega, by dsimp only; omega, by dsimp only; omega⟩
  refine ⟨_, hat, ?_⟩
  walk_at "go"
  refine ⟨d, _, _, _, _, rfl, hd9, ⟨by omega, by omega⟩, fun r10 x10 y10 z10 a10 b10 => ?_⟩
  replace st := st.roll x10 y10 z10
  have hd10 : sput S9 d (.lst [.int x10, .int y10, .int z10]) d = some _ := sput_same
  generalize sput S9 d (.lst [.int x10, .int y10, .int z10]) = S10 at st hd10 ⊢
  walk_at "go"
  obtain ⟨col, _, hat2⟩ := pickM [("red" : Str), "none", "blue"] Dt.str rfl a10 b10
  refine ⟨_, hat2, ?_⟩
  walk_at "go"
  refine ⟨d, _, _, _, _, rfl, hd10, ⟨by omega, by omega⟩, fun r11 x11 y11 z11 a11 b11 => ?_⟩
  replace st := st.roll x11 y11 z11
  have hd11 : sput S10 d (.lst [.int x11, .int y11, .int z11]) d = some _ := sput_same
  generalize sput S10 d (.lst [.int x11, .int y11, .int z11]) = S11 at st hd11 ⊢
  walk_at "go"
  refine ⟨d, _, _, _, _, rfl, hd11, ⟨by omega, by omega⟩, fun r12 x12 y12 z12 a12 b12 => ?_⟩
  replace st := st.roll x12 y12 z12
  have hd12 : sput S11 d (.lst [.int x12, .int y12, .int z12]) d = some _ := sput_same
  generalize sput S11 d (.lst [.int x12, .int y12, .int z12]) = S12 at st hd12 ⊢
  walk_at "go"
  refine ift (fun h1 => ?_) (fun h1 => ?_)
  · refine h_f D _ S12 d m c w h ⟨r1 - 5, r2 - 5, r3, r4⟩ cl col r11 p N ⟨_, _, _, _, _, _, _, _, _, _, _, _, _, _, _, rfl⟩ st ⟨⟨by dsimp only; omega, by dsimp only; omega, by dsimp only; omega, by dsimp only; omega⟩, sc, by dsimp only; omega, by dsimp only; omega⟩ hN nx
  · refine h_w D _ S12 d m c w h ⟨r1 - 5, r2 - 5, r3, r4⟩ cl col r11 p N ⟨_, _, _, _, _, _, _, _, _, _, _, _, _, _, _, rfl⟩ st hN nx
end
end K07

open PySem PySem.Spec PyProof.Rows L2 Pr Dn LamX
namespace K07
/-! how many places two areas share -/
theorem cnt_prod (p q : Nat → Bool) (m : Nat) (hm : 0 < m) : ∀ n, ((List.range (n * m)).filter fun k => p (k / m) && q (k % m)).length = ((List.range n).filter p).length * ((List.range m).filter q).length
  | 0 => by simp
  | n + 1 => by
    have ih := cnt_prod p q m hm n
    rw [Nat.succ_mul, List.range_add, List.filter_append, List.length_append, ih, List.range_succ, List.filter_append, List.length_append, Nat.add_mul, List.filter_map, List.length_map]
    congr 1
    have e : (List.range m).filter ((fun k => p (k / m) && q (k % m)) ∘ fun x => n * m + x) = (List.range m).filter fun j => p n && q j := by
      refine List.filter_congr fun j hj => ?_
      have hj := List.mem_range.mp hj
      show (p ((n * m + j) / m) && q ((n * m + j) % m)) = _
      rw [show (n * m + j) / m = n by rw [Nat.mul_comm, Nat.mul_add_div hm, Nat.div_eq_of_lt hj, Nat.add_zero], show (n * m + j) % m = j by rw [Nat.mul_comm, Nat.mul_add_mod, Nat.mod_eq_of_lt hj]]
    rw [e]
    cases h : p n with
    | true => simp [h]
    | false => simp [h]
theorem cnt_row (x0 x1 : Int) (h0 : 0 ≤ x0) : ∀ n : Nat, ((((List.range n).filter fun (i : Nat) => decide (x0 ≤ (i : Int) ∧ (i : Int) < x1)).length : Nat) : Int) = max 0 (min (n : Int) x1 - x0)
  | 0 => by simp; omega
  | n + 1 => by
    have ih := cnt_row x0 x1 h0 n
    rw [List.range_succ, List.filter_append, List.length_append]
    by_cases h : x0 ≤ (n : Int) ∧ (n : Int) < x1
    · rw [List.filter_cons_of_pos (by rw [decide_eq_true h]), List.filter_nil, List.length_singleton]
      omega
    · rw [List.filter_cons_of_neg (by rw [decide_eq_false h]; decide), List.filter_nil, List.length_nil]
      omega
@[reducible] def spX (k : Nat) : Int := (k : Int) / 20
@[reducible] def spY (k : Nat) : Int := (k : Int) - (k : Int) / 20 * 20
def inB (a b : Ar) (k : Nat) : Bool := inA a (spX k) (spY k) && inA b (spX k) (spY k)
def sharedL (a b : Ar) : List Nat := (List.range 400).filter (inB a b)
structure Sm8 (a : Ar) : Prop where
  x : 0 ≤ a.x ∧ a.x ≤ 8
  y : 0 ≤ a.y ∧ a.y ≤ 8
  w : 0 ≤ a.w ∧ a.w ≤ 8
  h : 0 ≤ a.h ∧ a.h ≤ 8
theorem inA_iff' {a : Ar} {c r : Int} : inA a c r = true ↔ (a.x ≤ c ∧ c < a.x + a.w) ∧ a.y ≤ r ∧ r < a.y + a.h := by
  unfold inA
  rw [Bool.and_eq_true, decide_eq_true_eq, decide_eq_true_eq]
theorem in_meet {a b : Ar} {c r : Int} : (inA a c r && inA b c r) = true ↔ inA (meet a b) c r = true := by
  rw [Bool.and_eq_true, inA_iff', inA_iff', inA_iff']
  unfold meet
  dsimp only
  omega
theorem shared_in {a b : Ar} {k : Nat} (h : k ∈ sharedL a b) : inA (meet a b) (spX k) (spY k) = true := in_meet.mp (List.mem_filter.mp h).2
theorem shared_len {a b : Ar} (ha : Sm8 a) (hb : Sm8 b) : (((sharedL a b).length : Nat) : Int) = (meet a b).w * (meet a b).h := by
  obtain ⟨⟨_, _⟩, ⟨_, _⟩, ⟨_, _⟩, ⟨_, _⟩⟩ := ha
  obtain ⟨⟨_, _⟩, ⟨_, _⟩, ⟨_, _⟩, ⟨_, _⟩⟩ := hb
  have e : sharedL a b = (List.range (20 * 20)).filter fun k => (fun i : Nat => decide (max a.x b.x ≤ (i : Int) ∧ (i : Int) < min (a.x + a.w) (b.x + b.w))) (k / 20) && (fun i : Nat => decide (max a.y b.y ≤ (i : Int) ∧ (i : Int) < min (a.y + a.h) (b.y + b.h))) (k % 20) := by
    unfold sharedL
    refine List.filter_congr fun k _ => ?_
    rw [Bool.eq_iff_iff]
    unfold inB
    rw [Bool.and_eq_true, inA_iff', inA_iff', Bool.and_eq_true, decide_eq_true_eq, decide_eq_true_eq]
    unfold spX spY
    omega
  rw [e, cnt_prod (fun i : Nat => decide (max a.x b.x ≤ (i : Int) ∧ (i : Int) < min (a.x + a.w) (b.x + b.w))) (fun i : Nat => decide (max a.y b.y ≤ (i : Int) ∧ (i : Int) < min (a.y + a.h) (b.y + b.h))) 20 (by decide) 20, Int.natCast_mul, cnt_row _ _ (by omega), cnt_row _ _ (by omega)]
  unfold meet
  dsimp only
  congr 1 <;> omega
theorem shared_le (a b : Ar) : (sharedL a b).length ≤ 400 := Nat.le_trans (List.length_filter_le _ _) (by rw [List.length_range]; exact Nat.le_refl _)
end K07

open PySem PySem.Spec PyProof.Rows L2 Pr Dn LamX NdefX

namespace K07
def SlM (δ : DS) (a b : Ar) : Prop := ∃ u0 u1 u2 u3 u4 u5 u6 u7 u8 u9 u10 u11 u12 u13 u14 u15 u16 u17 u18 u22 u23 u24,  δ = [u0, u1, u2, u3, u4, u5, u6, u7, u8, u9, u10, u11, u12, u13, u14, u15, u16, u17, u18, some (arD a), some (arD b), some (arD (meet a b)), u22, u23, u24]
section
variable {P : Program} {w : World} {K : PySem.W.Frag} {mg : Str → Option Value} {base : Heap} {f c0 : Addr} {A0 : Around} {outer : List Env} {s0 : Shared} {HE : Hp} {E : XK} {e : DX}
theorem bl_s11 (T : Tx K mg) (V : Env07 P w K mg base c0) (hr : Room 14 (A0.deeper (envOfC "law" (defScope s_law) s0.heap.objs.size f (.ref c0)))) :
    ∃ t, PSs (lcx P w K mg base f (.ref c0) A0 outer s0 HE E) bd_s11 (tDS K E e t) ∧ ∀ (D : DEnds) (δ : DS) (S : Store) (a b : Ar), SlM δ a b → Sm8 a → Sm8 b → (∀ δ', SlE δ' → D.nx δ' S) → t D δ S := by
  have c__law_in := V.c__law_in
  refine ⟨_, (dss_cons (ds_setLc (i := 22) (own := [("k", 23)]) rfl sc_law.nd rfl rfl (sw_true rfl rfl rfl (by decide +kernel)) (di_range1 (by rfl) T.b_range (da_cons de_int da_nil)) (blkOk_by (own := [("k", 23)]) (N := sl_law) (sc := defScope s_law) (by decide +kernel)) (fun _ _ _ _ _ => (gw_name (i := 23) sc_law.nd rfl (Or.inl rfl) (by decide))) (fun _ _ _ _ _ => (ts_one (PW.pt (dt_and (de_tru rfl (de_call rfl c__law_in dfl_nil hr (by decide) rfl passL (da_cons (dv (pv 19)) (da_cons (de_op od_fdiv (dv (pv 23)) de_int) (da_cons (de_op od_sub (dv (pv 23)) (de_op od_mul (de_op od_fdiv (dv (pv 23)) de_int) de_int)) da_nil))))) (pw_and1 (de_tru rfl (de_call rfl c__law_in dfl_nil hr (by decide) rfl passL (da_cons (dv (pv 20)) (da_cons (de_op od_fdiv (dv (pv 23)) de_int) (da_cons (de_op od_sub (dv (pv 23)) (de_op od_mul (de_op od_fdiv (dv (pv 23)) de_int) de_int)) da_nil)))))))))) (fun _ _ _ _ _ => (de_tup (da_cons (de_op od_fdiv (dv (pv 23)) de_int) (da_cons (de_op od_sub (dv (pv 23)) (de_op od_mul (de_op od_fdiv (dv (pv 23)) de_int) de_int)) da_nil)))))
  (dss_one (ds_if (PW.pt (dt_or (dt_cmp (od_neN (hW_of hr)) (de_lc (own := [("spot", 24)]) rfl sc_law.nd (di_lst rfl (dv (pv 22))) (blkOk_by (own := [("spot", 24)]) (N := sl_law) (sc := defScope s_law) (by decide +kernel)) (fun _ _ _ _ _ => (gw_name (i := 24) sc_law.nd rfl (Or.inl rfl) (by decide))) (fun _ _ _ _ _ => (ts_one (dt_not (de_tru rfl (de_call rfl c__law_in dfl_nil hr (by decide) rfl passL (da_cons (dv (pv 21)) (da_cons (de_ixC (n := 0) rfl (dv (pv 24))) (da_cons (de_ixC (n := 1) rfl (dv (pv 24))) da_nil)))))))) (fun _ _ _ _ _ => (dv (pv 24)))) (de_lst da_nil)) (dt_or (dt_cmp (od_ne rfl (hU_of hr)) (de_op od_mul (de_ixC (n := 2) rfl (dv (pv 21))) (de_ixC (n := 3) rfl (dv (pv 21)))) (de_callB (cd_len rfl) (by rfl) T.b_len (by decide +kernel) (da_cons (dv (pv 22)) da_nil))) (pw_or1 (dt_cmp od_lt (de_callB (cd_min rfl) (by rfl) T.b_min (by decide +kernel) (da_cons (de_ixC (n := 2) rfl (dv (pv 21))) (da_cons (de_ixC (n := 3) rfl (dv (pv 21))) da_nil))) de_int))))) (dss_one (ds_ret de_bl)) dss_nil))), fun D δ S a b sl ha hb nx => ?_⟩
  obtain ⟨u0, u1, u2, u3, u4, u5, u6, u7, u8, u9, u10, u11, u12, u13, u14, u15, u16, u17, u18, u22, u23, u24, rfl⟩ := sl
  walk_at "go"
  rw [show Int.toNat 400 = 400 from rfl, rangeD0]
  refine lc_choose (fun k : Nat => Dt.int k) (inB a b) (fun k => .tup [.int (spX k), .int (spY k)]) trivial (List.range 400) (fun k hk kY kN hY hN => ?_) ?_
  · have hk := List.mem_range.mp hk
    unfold inB at hY hN
    walk_at "go"
    refine ⟨a, spX k, spY k, rfl, ?_⟩
    walk_at "go"
    refine ift_b (fun h1 => ?_) (fun h1 => ?_)
    · rw [h1] at hY hN
      walk_at "go"
      refine ⟨b, spX k, spY k, rfl, ?_⟩
      walk_at "go"
      refine ift_b (fun h2 => ?_) (fun h2 => ?_)
      · rw [h2] at hY hN
        walk_at "go"
        exact hY rfl
      · rw [h2] at hY hN
        walk_at "go"
        exact hN rfl
    · rw [h1] at hY hN
      walk_at "go"
      exact hN rfl
  · have hl := shared_le a b
    have len := shared_len ha hb
    have sin : ∀ k ∈ sharedL a b, inA (meet a b) (spX k) (spY k) = true := fun k hk => shared_in hk
    rw [show (List.range 400).filter (inB a b) = sharedL a b from rfl]
    generalize sharedL a b = L at hl len sin ⊢
    walk_at "go"
    refine lc_choose (fun k => Dt.tup [.int (spX k), .int (spY k)]) (fun k => !inA (meet a b) (spX k) (spY k)) (fun k => .tup [.int (spX k), .int (spY k)]) trivial L (fun k hk kY kN hY hN => ?_) ?_
    · walk_at "go"
      refine ⟨meet a b, spX k, spY k, rfl, ?_⟩
      walk_at "go"
      refine iftNb (fun h => ?_) (fun h => ?_)
      · rw [sin k hk] at h
        cases h
      · walk_at "go"
        exact hN (by rw [h]; rfl)
    · rw [List.filter_eq_nil_iff.mpr fun k hk => by rw [sin k hk]; decide]
      have hw : 0 ≤ (meet a b).w ∧ (meet a b).w ≤ 100 ∧ 0 ≤ (meet a b).h := by
        obtain ⟨⟨_, _⟩, ⟨_, _⟩, ⟨_, _⟩, ⟨_, _⟩⟩ := ha
        unfold meet
        dsimp only
        omega
      walk_at "go"
      simp only [List.map_nil, List.isEmpty_nil, Bool.not_true]
      walk_at "go"
      rw [List.length_map, len]
      refine iftN_f rfl ?_
      walk_at "go"
      refine ift_pf (by omega) ?_
      walk_at "go"
      exact nx _ ⟨_, _, _, _, _, _, _, _, _, _, _, _, _, _, _, _, _, _, _, _, _, _, _, _, _, rfl⟩
theorem bl_s8 (T : Tx K mg) (V : Env07 P w K mg base c0) (hr : Room 14 (A0.deeper (envOfC "law" (defScope s_law) s0.heap.objs.size f (.ref c0)))) :
    ∃ t, PSs (lcx P w K mg base f (.ref c0) A0 outer s0 HE E) bd_s8 (tDS K E e t) ∧ ∀ (D : DEnds) (δ : DS) (S : Store) (d : Addr), SlD δ d → TbS K S → Dice S d → (∀ δ' S', SlE δ' → TbS K S' → D.nx δ' S') → t D δ S := by
  have c__law_roll := V.c__law_roll
  have c_meeting := V.c_meeting
  obtain ⟨t1, p_s11, h_s11⟩ := bl_s11 (f := f) (A0 := A0) (outer := outer) (s0 := s0) (HE := HE) (E := E) (e := e) T V hr
  refine ⟨_, (dss_cons (ds_set (i := 19) sc_law.nd rfl (Or.inr rfl) (de_tup (da_cons (de_call rfl c__law_roll dfl_nil hr (by decide) rfl paX (da_cons (dv (pv 1)) (da_cons de_int da_nil))) (da_cons (de_call rfl c__law_roll dfl_nil hr (by decide) rfl paX (da_cons (dv (pv 1)) (da_cons de_int da_nil))) (da_cons (de_call rfl c__law_roll dfl_nil hr (by decide) rfl paX (da_cons (dv (pv 1)) (da_cons de_int da_nil))) (da_cons (de_call rfl c__law_roll dfl_nil hr (by decide) rfl paX (da_cons (dv (pv 1)) (da_cons de_int da_nil))) da_nil))))))
  (dss_cons (ds_set (i := 20) sc_law.nd rfl (Or.inr rfl) (de_tup (da_cons (de_call rfl c__law_roll dfl_nil hr (by decide) rfl paX (da_cons (dv (pv 1)) (da_cons de_int da_nil))) (da_cons (de_call rfl c__law_roll dfl_nil hr (by decide) rfl paX (da_cons (dv (pv 1)) (da_cons de_int da_nil))) (da_cons (de_call rfl c__law_roll dfl_nil hr (by decide) rfl paX (da_cons (dv (pv 1)) (da_cons de_int da_nil))) (da_cons (de_call rfl c__law_roll dfl_nil hr (by decide) rfl paX (da_cons (dv (pv 1)) (da_cons de_int da_nil))) da_nil))))))
  (dss_cons (ds_set (i := 21) sc_law.nd rfl (Or.inr rfl) (de_call rfl c_meeting dfl_nil hr (by decide) rfl paX (da_cons (dv (pv 19)) (da_cons (dv (pv 20)) da_nil))))
  p_s11))), fun D δ S0 d sl tb dc nx => ?_⟩
  obtain ⟨u0, u2, u3, u4, u5, u6, u7, u8, u9, u10, u11, u12, u13, u14, u15, u16, u17, u18, u19, u20, u21, u22, u23, u24, rfl⟩ := sl
  obtain ⟨x0, y0, z0, hd0⟩ := dc
  walk_at "go"
  refine ⟨d, _, _, _, _, rfl, hd0, ⟨by omega, by omega⟩, fun r1 x1 y1 z1 a1 b1 => ?_⟩
  replace tb := tb.put hd0 (c' := .lst [.int x1, .int y1, .int z1]) ⟨fun _ z => (by cases z), fun z => (by cases z)⟩
  have hd1 : sput S0 d (.lst [.int x1, .int y1, .int z1]) d = some _ := sput_same
  generalize sput S0 d (.lst [.int x1, .int y1, .int z1]) = S1 at tb hd1 ⊢
  walk_at "go"
  refine ⟨d, _, _, _, _, rfl, hd1, ⟨by omega, by omega⟩, fun r2 x2 y2 z2 a2 b2 => ?_⟩
  replace tb := tb.put hd1 (c' := .lst [.int x2, .int y2, .int z2]) ⟨fun _ z => (by cases z), fun z => (by cases z)⟩
  have hd2 : sput S1 d (.lst [.int x2, .int y2, .int z2]) d = some _ := sput_same
  generalize sput S1 d (.lst [.int x2, .int y2, .int z2]) = S2 at tb hd2 ⊢
  walk_at "go"
  refine ⟨d, _, _, _, _, rfl, hd2, ⟨by omega, by omega⟩, fun r3 x3 y3 z3 a3 b3 => ?_⟩
  replace tb := tb.put hd2 (c' := .lst [.int x3, .int y3, .int z3]) ⟨fun _ z => (by cases z), fun z => (by cases z)⟩
  have hd3 : sput S2 d (.lst [.int x3, .int y3, .int z3]) d = some _ := sput_same
  generalize sput S2 d (.lst [.int x3, .int y3, .int z3]) = S3 at tb hd3 ⊢
  walk_at "go"
  refine ⟨d, _, _, _, _, rfl, hd3, ⟨by omega, by omega⟩, fun r4 x4 y4 z4 a4 b4 => ?_⟩
  replace tb := tb.put hd3 (c' := .lst [.int x4, .int y4, .int z4]) ⟨fun _ z => (by cases z), fun z => (by cases z)⟩
  have hd4 : sput S3 d (.lst [.int x4, .int y4, .int z4]) d = some _ := sput_same
  generalize sput S3 d (.lst [.int x4, .int y4, .int z4]) = S4 at tb hd4 ⊢
  walk_at "go"
  refine ⟨d, _, _, _, _, rfl, hd4, ⟨by omega, by omega⟩, fun r5 x5 y5 z5 a5 b5 => ?_⟩
  replace tb := tb.put hd4 (c' := .lst [.int x5, .int y5, .int z5]) ⟨fun _ z => (by cases z), fun z => (by cases z)⟩
  have hd5 : sput S4 d (.lst [.int x5, .int y5, .int z5]) d = some _ := sput_same
  generalize sput S4 d (.lst [.int x5, .int y5, .int z5]) = S5 at tb hd5 ⊢
  walk_at "go"
  refine ⟨d, _, _, _, _, rfl, hd5, ⟨by omega, by omega⟩, fun r6 x6 y6 z6 a6 b6 => ?_⟩
  replace tb := tb.put hd5 (c' := .lst [.int x6, .int y6, .int z6]) ⟨fun _ z => (by cases z), fun z => (by cases z)⟩
  have hd6 : sput S5 d (.lst [.int x6, .int y6, .int z6]) d = some _ := sput_same
  generalize sput S5 d (.lst [.int x6, .int y6, .int z6]) = S6 at tb hd6 ⊢
  walk_at "go"
  refine ⟨d, _, _, _, _, rfl, hd6, ⟨by omega, by omega⟩, fun r7 x7 y7 z7 a7 b7 => ?_⟩
  replace tb := tb.put hd6 (c' := .lst [.int x7, .int y7, .int z7]) ⟨fun _ z => (by cases z), fun z => (by cases z)⟩
  have hd7 : sput S6 d (.lst [.int x7, .int y7, .int z7]) d = some _ := sput_same
  generalize sput S6 d (.lst [.int x7, .int y7, .int z7]) = S7 at tb hd7 ⊢
  walk_at "go"
  refine ⟨d, _, _, _, _, rfl, hd7, ⟨by omega, by omega⟩, fun r8 x8 y8 z8 a8 b8 => ?_⟩
  replace tb := tb.put hd7 (c' := .lst [.int x8, .int y8, .int z8]) ⟨fun _ z => (by cases z), fun z => (by cases z)⟩
  have hd8 : sput S7 d (.lst [.int x8, .int y8, .int z8]) d = some _ := sput_same
  generalize sput S7 d (.lst [.int x8, .int y8, .int z8]) = S8 at tb hd8 ⊢
  walk_at "go"
  refine ⟨⟨r1, r2, r3, r4⟩, ⟨r5, r6, r7, r8⟩, rfl, ?_⟩
  walk_at "go"
  exact h_s11 D _ S8 ⟨r1, r2, r3, r4⟩ ⟨r5, r6, r7, r8⟩ ⟨_, _, _, _, _, _, _, _, _, _, _, _, _, _, _, _, _, _, _, _, _, _, rfl⟩ ⟨⟨a1, by dsimp only; omega⟩, ⟨a2, by dsimp only; omega⟩, ⟨a3, by dsimp only; omega⟩, ⟨a4, by dsimp only; omega⟩⟩ ⟨⟨a5, by dsimp only; omega⟩, ⟨a6, by dsimp only; omega⟩, ⟨a7, by dsimp only; omega⟩, ⟨a8, by dsimp only; omega⟩⟩ fun δ' s' => nx δ' S8 s' tb
end
end K07

open PySem PySem.Spec PyProof.Rows L2 Pr Dn LamX NdefX

namespace K07
theorem eq_tupStr {l : List Dt} {z : Str} {n : Nat} {S : Store} {q : DK} (h : DatN (.tup l) n) (hn : n ≤ 64) (hq : q (.bl false) S) : dEq (.tup l) (.str z) S q := ⟨⟨h.dat, rfl, Nat.le_trans h.dep hn, Nat.zero_le _⟩, hq⟩
theorem oI_dat (o : Option Int) : DatN (oI o) 0 := by cases o <;> exact ⟨rfl, Nat.le_refl _⟩
theorem str_dat (z : Str) : DatN (.str z) 0 := ⟨rfl, Nat.le_refl _⟩
theorem px_dat (x : Px) : DatN (pxD x) 1 := DatN.tup fun d hd => by
  simp only [List.mem_cons, List.not_mem_nil, or_false] at hd
  rcases hd with rfl | rfl | rfl | rfl
  · exact str_dat _
  · exact str_dat _
  · exact str_dat _
  · exact oI_dat _
theorem px3_dat (x : Px) : DatN (px3 x) 1 := DatN.tup fun d hd => by
  simp only [List.mem_cons, List.not_mem_nil, or_false] at hd
  rcases hd with rfl | rfl | rfl <;> exact str_dat _
section
variable {P : Program} {w : World} {K : PySem.W.Frag} {mg : Str → Option Value} {base : Heap} {f c0 : Addr} {A0 : Around} {outer : List Env} {s0 : Shared} {HE : Hp} {E : XK} {e : DX}
theorem bl_s6 (T : Tx K mg) (V : Env07 P w K mg base c0) (hr : Room 14 (A0.deeper (envOfC "law" (defScope s_law) s0.heap.objs.size f (.ref c0)))) :
    ∃ t, PSs (lcx P w K mg base f (.ref c0) A0 outer s0 HE E) bd_s6 (tDS K E e t) ∧ ∀ (D : DEnds) (δ : DS) (S : Store) (d m c : Addr) (w h : Int) (p : Pic) (N : Nat), SlW δ d m c w h → StP K S d m c w h p N → (∀ δ' S', SlE δ' → TbS K S' → D.nx δ' S') → t D δ S := by
  have c__law_roll := V.c__law_roll
  have m_Canvas_cell := V.m_Canvas_cell
  obtain ⟨fdT, FT⟩ := V.FT
  obtain ⟨oc, od, dV, kV, doc, pm, an, cdv, ct, osl, efd, lkT, hcdT, _, _⟩ := id FT.ex
  have bT : Binds K fdT ["what"] [] := FT.bindsN fun _ _ _ _ _ _ us hl => match us, hl with | [_], _ => rfl
  subst efd
  obtain ⟨t1, p_s8, h_s8⟩ := bl_s8 (f := f) (A0 := A0) (outer := outer) (s0 := s0) (HE := HE) (E := E) (e := e) T V hr
  refine ⟨_, (dss_cons (ds_asg (de_tup (da_cons (de_op od_sub (de_call rfl c__law_roll dfl_nil hr (by decide) rfl paX (da_cons (dv (pv 1)) (da_cons de_int da_nil))) de_int) (da_cons (de_op od_sub (de_call rfl c__law_roll dfl_nil hr (by decide) rfl paX (da_cons (dv (pv 1)) (da_cons de_int da_nil))) de_int) da_nil))) (dg_tup (n := 2) rfl rfl (dgs_cons (dg_name (i := 12) sc_law.nd rfl (Or.inr rfl)) (dgs_cons (dg_name (i := 13) sc_law.nd rfl (Or.inr rfl)) dgs_nil))))
  (dss_cons (ds_if (dt_cmp (od_ne rfl (hU_of hr)) (de_cmp (od_eq rfl (hU_of hr)) (de_told (k := 10) (q := qlam) (fr := ["canvas", "column", "row"]) (js := [5, 12, 13]) rfl (by rfl) T.g__law_told FT.kp lkT hcdT bT sc_law_told rfl (Or.inl rfl) rfl T.g_SizeError T.e_SizeError_SizeError V.TB rfl rfl (hr.mono (by decide)) rfl (by kernel_rfl) (by decide +kernel) rfl (by decide +kernel) (fun _ _ _ _ _ => rfl) (fun f c' cl e' A outer s H E hr => (de_meth (nm := nm_Canvas) rfl m_Canvas_cell (by decide +kernel) dfl_nil hr (by decide) paN (dv (pv 0)) (da_cons (dv (pv 1)) (da_cons (dv (pv 2)) da_nil))))) de_str) (de_or rfl (de_not rfl (de_chain od_le od_lt de_int (dv (pv 12)) (dv (pv 2)))) (pe_one (de_not rfl (de_chain od_le od_lt de_int (dv (pv 13)) (dv (pv 3))))))) (dss_one (ds_ret de_bl)) dss_nil)
  p_s8)), fun D δ S0 d m c w h p N sl st nx => ?_⟩
  obtain ⟨u0, u6, u7, u8, u9, u10, u11, u12, u13, u14, u15, u16, u17, u18, u19, u20, u21, u22, u23, u24, rfl⟩ := sl
  have wh := st.wh
  obtain ⟨x0, y0, z0, hd0⟩ := st.d
  walk_at "go"
  refine ⟨d, _, _, _, _, rfl, hd0, ⟨by omega, by omega⟩, fun r1 x1 y1 z1 a1 b1 => ?_⟩
  replace st := st.roll x1 y1 z1
  have hd1 : sput S0 d (.lst [.int x1, .int y1, .int z1]) d = some _ := sput_same
  generalize sput S0 d (.lst [.int x1, .int y1, .int z1]) = S1 at st hd1 ⊢
  walk_at "go"
  refine ⟨d, _, _, _, _, rfl, hd1, ⟨by omega, by omega⟩, fun r2 x2 y2 z2 a2 b2 => ?_⟩
  replace st := st.roll x2 y2 z2
  have hd2 : sput S1 d (.lst [.int x2, .int y2, .int z2]) d = some _ := sput_same
  generalize sput S1 d (.lst [.int x2, .int y2, .int z2]) = S2 at st hd2 ⊢
  walk_at "go"
  have fin := h_s8 D [u0, some (.ref d), some (.int w), some (.int h), some (.ref c), some (.ref m), u6, u7, u8, u9, u10, u11, some (.int (r1 - 5)), some (.int (r2 - 5)), u14, u15, u16, u17, u18, u19, u20, u21, u22, u23, u24] S2 d ⟨_, _, _, _, _, _, _, _, _, _, _, _, _, _, _, _, _, _, _, _, _, _, _, _, rfl⟩ st.t st.d nx
  refine ⟨st.t.l, ?_⟩
  obtain ⟨k, l1, l2, ⟨hm, hk, hc⟩, kc, ⟨p1, p2⟩, n1, n2⟩ := st.x
  walk_at "go"
  refine ⟨m, r1 - 5, r2 - 5, w, h, k, l1, rfl, hm, hk, fun hin => ?_, fun hout => ?_⟩
  · rw [p1.get]
    refine eq_tupStr (px_dat _) (by decide) ?_
    obtain ⟨⟨i1, i2⟩, i3, i4⟩ := hin
    walk_at "go"
    rw [decide_eq_true i1]
    walk_at "go"
    rw [decide_eq_true i2]
    walk_at "go"
    rw [decide_eq_true i3]
    walk_at "go"
    rw [decide_eq_true i4]
    walk_at "go"
    exact fin
  · walk_at "go"
    rcases Decidable.em (0 ≤ r1 - 5) with i1 | i1
    · rw [decide_eq_true i1]
      walk_at "go"
      rcases Decidable.em (r1 - 5 < w) with i2 | i2
      · rw [decide_eq_true i2]
        walk_at "go"
        rcases Decidable.em (0 ≤ r2 - 5) with i3 | i3
        · rw [decide_eq_true i3]
          walk_at "go"
          rcases Decidable.em (r2 - 5 < h) with i4 | i4
          · exact absurd ⟨⟨i1, i2⟩, i3, i4⟩ hout
          · rw [decide_eq_false i4]
            walk_at "go"
            exact fin
        · rw [decide_eq_false i3]
          walk_at "go"
          exact fin
      · rw [decide_eq_false i2]
        walk_at "go"
        exact fin
    · rw [decide_eq_false i1]
      walk_at "go"
      exact fin
end
end K07

open PySem PySem.Spec PyProof.Rows L2 Pr Dn LamX NdefX

namespace K07
@[reducible] def rowD (p : Pic) (w : Int) (r : Nat) : Dt := .lst ((List.range w.toNat).map fun (c : Nat) => pxD (pg p c r))
def dueD (p : Pic) (w h : Int) : List Dt := (List.range h.toNat).map (rowD p w)
theorem dueD_len (p : Pic) (w h : Int) : (dueD p w h).length = h.toNat := by unfold dueD; rw [List.length_map, List.length_range]
@[reducible] def elD (p : Pic) (w : Int) (r : Nat) : Dt := .lst ((List.range w.toNat).map fun (c : Nat) => oI (pg p c r).n)
theorem len_lt {α : Type} {f : Nat → α} {n : Nat} (h : n < 16777216) : ((List.range n).map f).length < sizeLine := by rw [List.length_map, List.length_range]; exact h
def SlU (δ : DS) (d m c : Addr) (w h : Int) (p : Pic) : Prop := ∃ u0 u6 u7 u8 u9 u10 u11 u12 u13 u14 u15 u16 u17 u19 u20 u21 u22 u23 u24,  δ = [u0, some (.ref d), some (.int w), some (.int h), some (.ref c), some (.ref m), u6, u7, u8, u9, u10, u11, u12, u13, u14, u15, u16, u17, some (.lst (dueD p w h)), u19, u20, u21, u22, u23, u24]
section
variable {P : Program} {w : World} {K : PySem.W.Frag} {mg : Str → Option Value} {base : Heap} {f c0 : Addr} {A0 : Around} {outer : List Env} {s0 : Shared} {HE : Hp} {E : XK} {e : DX}
theorem bl_s5 (T : Tx K mg) (V : Env07 P w K mg base c0) (hr : Room 14 (A0.deeper (envOfC "law" (defScope s_law) s0.heap.objs.size f (.ref c0)))) :
    ∃ t, PSs (lcx P w K mg base f (.ref c0) A0 outer s0 HE E) bd_s5 (tDS K E e t) ∧ ∀ (D : DEnds) (δ : DS) (S : Store) (d m c : Addr) (w h : Int) (p : Pic) (N : Nat), SlU δ d m c w h p → StP K S d m c w h p N → (∀ δ' S', SlE δ' → TbS K S' → D.nx δ' S') → t D δ S := by
  have m_Canvas_letter_rows := V.m_Canvas_letter_rows
  have c_element_at := V.c_element_at
  obtain ⟨t1, p_s6, h_s6⟩ := bl_s6 (f := f) (A0 := A0) (outer := outer) (s0 := s0) (HE := HE) (E := E) (e := e) T V hr
  refine ⟨_, (dss_cons (ds_if (PW.pt (dt_or (dt_cmp (od_neV rfl (hU_of hr)) (de_callTy (cd_listF rfl) (by rfl) T.b_list (by decide +kernel) (da_cons (de_meth0 (nm := nm_Canvas) rfl m_Canvas_letter_rows (by decide +kernel) dfl_nil hr (by decide) paX (dv (pv 5))) da_nil)) (de_lc (own := [("row", 13)]) rfl sc_law.nd (di_lst rfl (dv (pv 18))) (blkOk_by (own := [("row", 13)]) (N := sl_law) (sc := defScope s_law) (by decide +kernel)) (fun _ _ _ _ _ => (gw_name (i := 13) sc_law.nd rfl (Or.inl rfl) (by decide))) (fun _ _ _ _ _ => ts_nil) (fun _ _ _ _ _ => (de_bm rfl is_tx PySem.F.plainAttrs_str PySem.F.slot_str_join PySem.F.type_str_join (md_join rfl) de_str (da_cons (de_lc (own := [("one", 19)]) rfl sc_law.nd (di_lst rfl (dv (pv 13))) (blkOk_by (own := [("one", 19)]) (by kernel_rfl)) (fun _ _ _ _ _ => (gw_name (i := 19) sc_law.nd rfl (Or.inl rfl) (by decide))) (fun _ _ _ _ _ => ts_nil) (fun _ _ _ _ _ => (de_ixC (n := 0) rfl (dv (pv 19))))) da_nil))))) (pw_or1 (dt_cmp (od_neV rfl (hU_of hr)) (de_lc (own := [("row", 13)]) rfl sc_law.nd (di_range1 (by rfl) T.b_range (da_cons (dv (pv 3)) da_nil)) (blkOk_by (own := [("row", 13)]) (N := sl_law) (sc := defScope s_law) (by decide +kernel)) (fun _ _ _ _ _ => (gw_name (i := 13) sc_law.nd rfl (Or.inr rfl) (by decide))) (fun _ _ _ _ _ => ts_nil) (fun _ _ _ _ _ => (de_lc (own := [("column", 12)]) rfl sc_law.nd (di_range1 (by rfl) T.b_range (da_cons (dv (pv 2)) da_nil)) (blkOk_by (own := [("column", 12)]) (by kernel_rfl)) (fun _ _ _ _ _ => (gw_name (i := 12) sc_law.nd rfl (Or.inl rfl) (by decide))) (fun _ _ _ _ _ => ts_nil) (fun _ _ _ _ _ => (de_call rfl c_element_at dfl_nil hr (by decide) rfl passL (da_cons (dv (pv 5)) (da_cons (dv (pv 12)) (da_cons (dv (pv 13)) da_nil)))))))) (de_lc (own := [("row", 13)]) rfl sc_law.nd (di_lst rfl (dv (pv 18))) (blkOk_by (own := [("row", 13)]) (N := sl_law) (sc := defScope s_law) (by decide +kernel)) (fun _ _ _ _ _ => (gw_name (i := 13) sc_law.nd rfl (Or.inl rfl) (by decide))) (fun _ _ _ _ _ => ts_nil) (fun _ _ _ _ _ => (de_lc (own := [("one", 19)]) rfl sc_law.nd (di_lst rfl (dv (pv 13))) (blkOk_by (own := [("one", 19)]) (by kernel_rfl)) (fun _ _ _ _ _ => (gw_name (i := 19) sc_law.nd rfl (Or.inl rfl) (by decide))) (fun _ _ _ _ _ => ts_nil) (fun _ _ _ _ _ => (de_ixC (n := 3) rfl (dv (pv 19))))))))))) (dss_one (ds_ret de_bl)) dss_nil)
  p_s6), fun D δ S d m c w h p N sl st nx => ?_⟩
  obtain ⟨u0, u6, u7, u8, u9, u10, u11, u12, u13, u14, u15, u16, u17, u19, u20, u21, u22, u23, u24, rfl⟩ := sl
  have wh := st.wh
  have sg := st.sg
  have fin := h_s6 D [u0, some (.ref d), some (.int w), some (.int h), some (.ref c), some (.ref m), u6, u7, u8, u9, u10, u11, u12, u13, u14, u15, u16, u17, some (.lst (dueD p w h)), u19, u20, u21, u22, u23, u24] S d m c w h p N ⟨_, _, _, _, _, _, _, _, _, _, _, _, _, _, _, _, _, _, _, _, rfl⟩ st nx
  obtain ⟨k, l1, l2, ⟨hm, hk, hc⟩, kc, ⟨p1, p2⟩, n1, n2⟩ := st.x
  walk_at "go"
  refine ⟨m, w, h, k, l1, p, rfl, hm, hk, p1, sg, by omega, st.t.r, ?_⟩
  walk_at "go"
  have hw : w.toNat < 16777216 := by omega
  have hh : h.toNat < 16777216 := by omega
  refine ⟨by rw [dueD_len]; exact hh, lc_go ?_⟩
  refine lc_map (rowD p w) (fun r : Nat => Dt.str (rowS p w r)) trivial (List.range h.toNat) (fun r hr kY kN hY => ?_) ?_
  · walk_at "go"
    refine ⟨len_lt hw, lc_go ?_⟩
    refine lc_map (fun c : Nat => pxD (pg p c r)) (fun c : Nat => Dt.str (pg p c r).s) trivial (List.range w.toNat) (fun c hc kY2 kN2 hY2 => ?_) ?_
    · walk_at "go"
      exact hY2
    · walk_at "go"
      refine join_go (k := 1) (ys := (List.range w.toNat).map fun (c : Nat) => (pg p c r).s) (.inr (by rw [List.map_map]; rfl)) SOk.empty (fun y hy => ?_) (by rw [List.length_map, List.length_range]; show _ * (1 + 0) ≤ _; omega) hY
      obtain ⟨c, _, rfl⟩ := List.mem_map.mp hy
      exact sg.s _ _
  · walk_at "w"
    refine DatN.ne (n := 1) (DatN.lstM fun r _ => str_dat _) (by decide) ?_
    walk_at "go"
    rw [rangeD0]
    refine ⟨len_lt hh, lc_go ?_⟩
    refine lc_map (fun r : Nat => Dt.int r) (elD p w) trivial (List.range h.toNat) (fun r hr kY kN hY => ?_) ?_
    · have hr := List.mem_range.mp hr
      walk_at "go"
      rw [rangeD0]
      refine ⟨len_lt hw, lc_go ?_⟩
      refine lc_map (fun c : Nat => Dt.int c) (fun c : Nat => oI (pg p c r).n) trivial (List.range w.toNat) (fun c' hc' kY2 kN2 hY2 => ?_) ?_
      · have hc' := List.mem_range.mp hc'
        walk_at "go"
        exact ⟨m, (c' : Nat), (r : Nat), w, h, k, l1, p, rfl, hm, hk, p1, by unfold inC; omega, hY2⟩
      · walk_at "go"
        exact hY
    · walk_at "go"
      refine ⟨by rw [dueD_len]; exact hh, lc_go ?_⟩
      refine lc_map (rowD p w) (elD p w) trivial (List.range h.toNat) (fun r hr kY kN hY => ?_) ?_
      · walk_at "go"
        refine ⟨len_lt hw, lc_go ?_⟩
        refine lc_map (fun c : Nat => pxD (pg p c r)) (fun c : Nat => oI (pg p c r).n) trivial (List.range w.toNat) (fun c' hc' kY2 kN2 hY2 => ?_) ?_
        · walk_at "go"
          exact hY2
        · walk_at "go"
          exact hY
      · walk_at "w"
        refine DatN.ne (n := 2) (DatN.lstM fun r _ => DatN.lstM fun c _ => oI_dat _) (by decide) ?_
        walk_at "go"
        exact fin
end
end K07

open PySem PySem.Spec PyProof.Rows L2 Pr Dn LamX NdefX

namespace K07
section
variable {P : Program} {w : World} {K : PySem.W.Frag} {mg : Str → Option Value} {base : Heap} {f c0 : Addr} {A0 : Around} {outer : List Env} {s0 : Shared} {HE : Hp} {E : XK} {e : DX}
theorem bl_s3 (T : Tx K mg) (V : Env07 P w K mg base c0) (hr : Room 14 (A0.deeper (envOfC "law" (defScope s_law) s0.heap.objs.size f (.ref c0)))) :
    ∃ t, PSs (lcx P w K mg base f (.ref c0) A0 outer s0 HE E) bd_s3 (tDS K E e t) ∧ ∀ (D : DEnds) (δ : DS) (S : Store) (d m c : Addr) (w h : Int) (p : Pic) (N : Nat), SlW δ d m c w h → StP K S d m c w h p N → (∀ δ' S', SlE δ' → TbS K S' → D.nx δ' S') → t D δ S := by
  have m_Canvas_shown := V.m_Canvas_shown
  have m_Canvas_cell := V.m_Canvas_cell
  obtain ⟨t1, p_s5, h_s5⟩ := bl_s5 (f := f) (A0 := A0) (outer := outer) (s0 := s0) (HE := HE) (E := E) (e := e) T V hr
  refine ⟨_, (dss_cons (ds_setLc (i := 18) (own := [("row", 13)]) rfl sc_law.nd rfl rfl (sw_true rfl rfl rfl (by decide +kernel)) (di_range1 (by rfl) T.b_range (da_cons (dv (pv 3)) da_nil)) (blkOk_by (own := [("row", 13)]) (N := sl_law) (sc := defScope s_law) (by decide +kernel)) (fun _ _ _ _ _ => (gw_name (i := 13) sc_law.nd rfl (Or.inr rfl) (by decide))) (fun _ _ _ _ _ => ts_nil) (fun _ _ _ _ _ => (de_lc (own := [("column", 12)]) rfl sc_law.nd (di_range1 (by rfl) T.b_range (da_cons (dv (pv 2)) da_nil)) (blkOk_by (own := [("column", 12)]) (by kernel_rfl)) (fun _ _ _ _ _ => (gw_name (i := 12) sc_law.nd rfl (Or.inl rfl) (by decide))) (fun _ _ _ _ _ => ts_nil) (fun _ _ _ _ _ => (de_tget2 (hu_of hr) (dv (pv 4)) (da_cons (dv (pv 12)) (da_cons (dv (pv 13)) da_nil)) (de_tup (da_cons de_str (da_cons de_str (da_cons de_str (da_cons de_non da_nil))))) ⟨by rfl, by rfl, by rfl, by rfl⟩)))))
  (dss_cons (ds_if (PW.pt (dt_or (dt_cmp (od_neV rfl (hU_of hr)) (de_lc (own := [("row", 13)]) rfl sc_law.nd (di_range1 (by rfl) T.b_range (da_cons (dv (pv 3)) da_nil)) (blkOk_by (own := [("row", 13)]) (N := sl_law) (sc := defScope s_law) (by decide +kernel)) (fun _ _ _ _ _ => (gw_name (i := 13) sc_law.nd rfl (Or.inr rfl) (by decide))) (fun _ _ _ _ _ => ts_nil) (fun _ _ _ _ _ => (de_lc (own := [("column", 12)]) rfl sc_law.nd (di_range1 (by rfl) T.b_range (da_cons (dv (pv 2)) da_nil)) (blkOk_by (own := [("column", 12)]) (by kernel_rfl)) (fun _ _ _ _ _ => (gw_name (i := 12) sc_law.nd rfl (Or.inl rfl) (by decide))) (fun _ _ _ _ _ => ts_nil) (fun _ _ _ _ _ => (de_meth (nm := nm_Canvas) rfl m_Canvas_cell (by decide +kernel) dfl_nil hr (by decide) passL (dv (pv 5)) (da_cons (dv (pv 12)) (da_cons (dv (pv 13)) da_nil))))))) (dv (pv 18))) (pw_or1 (dt_cmp (od_neV rfl (hU_of hr)) (de_meth0 (nm := nm_Canvas) rfl m_Canvas_shown (by decide +kernel) dfl_nil hr (by decide) paX (dv (pv 5))) (de_tupOf rfl (by rfl) T.b_tuple (de_lc (own := [("row", 13)]) rfl sc_law.nd (di_lst rfl (dv (pv 18))) (blkOk_by (own := [("row", 13)]) (N := sl_law) (sc := defScope s_law) (by decide +kernel)) (fun _ _ _ _ _ => (gw_name (i := 13) sc_law.nd rfl (Or.inl rfl) (by decide))) (fun _ _ _ _ _ => ts_nil) (fun _ _ _ _ _ => (de_tupOf rfl (by rfl) T.b_tuple (de_lc (own := [("one", 19)]) rfl sc_law.nd (di_lst rfl (dv (pv 13))) (blkOk_by (own := [("one", 19)]) (by kernel_rfl)) (fun _ _ _ _ _ => (gw_name (i := 19) sc_law.nd rfl (Or.inl rfl) (by decide))) (fun _ _ _ _ _ => ts_nil) (fun _ _ _ _ _ => (de_sl rfl (dv (pv 19)) do_none (do_some de_int)))))))))))) (dss_one (ds_ret de_bl)) dss_nil)
  p_s5)), fun D δ S d m c w h p N sl st nx => ?_⟩
  obtain ⟨u0, u6, u7, u8, u9, u10, u11, u12, u13, u14, u15, u16, u17, u18, u19, u20, u21, u22, u23, u24, rfl⟩ := sl
  have wh := st.wh
  have fin : t1 D [u0, some (.ref d), some (.int w), some (.int h), some (.ref c), some (.ref m), u6, u7, u8, u9, u10, u11, u12, u13, u14, u15, u16, u17, some (.lst (dueD p w h)), u19, u20, u21, u22, u23, u24] S := h_s5 D _ S d m c w h p N ⟨_, _, _, _, _, _, _, _, _, _, _, _, _, _, _, _, _, _, _, rfl⟩ st nx
  obtain ⟨k, l1, l2, ⟨hm, hk, hc⟩, kc, ⟨p1, p2⟩, n1, n2⟩ := st.x
  have hw : w.toNat < 16777216 := by omega
  have hh : h.toNat < 16777216 := by omega
  walk_at "go"
  rw [rangeD0]
  refine ⟨len_lt hh, lc_go ?_⟩
  refine lc_map (fun r : Nat => Dt.int r) (rowD p w) trivial (List.range h.toNat) (fun r hr kY kN hY => ?_) ?_
  · walk_at "go"
    rw [rangeD0]
    refine ⟨len_lt hw, lc_go ?_⟩
    refine lc_map (fun c : Nat => Dt.int c) (fun c : Nat => pxD (pg p c r)) trivial (List.range w.toNat) (fun c' hc' kY2 kN2 hY2 => ?_) ?_
    · walk_at "go"
      have get : (kGet l2 [Sum.inl ((c' : Nat) : Int), Sum.inl ((r : Nat) : Int)]).getD (.tup [.str " ", .str "black", .str "white", .non]) = _ := p2.get c' r
      rw [get]
      exact hY2
    · walk_at "go"
      exact hY
  · rw [show (List.range h.toNat).map (rowD p w) = dueD p w h from rfl]
    walk_at "go"
    rw [rangeD0]
    refine ⟨len_lt hh, lc_go ?_⟩
    refine lc_map (fun r : Nat => Dt.int r) (rowD p w) trivial (List.range h.toNat) (fun r hr kY kN hY => ?_) ?_
    · have hr := List.mem_range.mp hr
      walk_at "go"
      rw [rangeD0]
      refine ⟨len_lt hw, lc_go ?_⟩
      refine lc_map (fun c : Nat => Dt.int c) (fun c : Nat => pxD (pg p c r)) trivial (List.range w.toNat) (fun c' hc' kY2 kN2 hY2 => ?_) ?_
      · have hc' := List.mem_range.mp hc'
        walk_at "go"
        refine ⟨m, (c' : Nat), (r : Nat), w, h, k, l1, rfl, hm, hk, fun _ => ?_, fun y => absurd (show inC w h (c' : Nat) (r : Nat) by unfold inC; omega) y⟩
        rw [p1.get]
        exact hY2
      · walk_at "go"
        exact hY
    · rw [show (List.range h.toNat).map (rowD p w) = dueD p w h from rfl]
      walk_at "w"
      refine DatN.ne (n := 3) (DatN.lstM fun r _ => DatN.lstM fun c _ => px_dat _) (by decide) ?_
      walk_at "go"
      refine ⟨m, w, h, k, l1, p, rfl, hm, hk, p1, by omega, st.t.s, ?_⟩
      walk_at "go"
      refine ⟨by rw [dueD_len]; exact hh, lc_go ?_⟩
      refine lc_map (rowD p w) (fun r : Nat => Dt.tup ((List.range w.toNat).map fun (c : Nat) => px3 (pg p c r))) trivial (List.range h.toNat) (fun r hr kY kN hY => ?_) ?_
      · walk_at "go"
        refine ⟨len_lt hw, lc_go ?_⟩
        refine lc_map (fun c : Nat => pxD (pg p c r)) (fun c : Nat => px3 (pg p c r)) trivial (List.range w.toNat) (fun c' hc' kY2 kN2 hY2 => ?_) ?_
        · walk_at "go"
          exact hY2
        · walk_at "go"
          exact hY
      · walk_at "go"
        refine DatN.ne (n := 3) (DatN.tupM fun r _ => DatN.tupM fun c _ => px3_dat _) (by decide) ?_
        walk_at "go"
        exact fin
end
end K07

open PySem PySem.Spec PyProof.Rows L2 Pr Dn LamX NdefX

namespace K07
section
variable {P : Program} {w : World} {K : PySem.W.Frag} {mg : Str → Option Value} {base : Heap} {f c0 : Addr} {A0 : Around} {outer : List Env} {s0 : Shared} {HE : Hp} {E : XK} {e : DX}
theorem bl_s0 (T : Tx K mg) (V : Env07 P w K mg base c0) (hr : Room 14 (A0.deeper (envOfC "law" (defScope s_law) s0.heap.objs.size f (.ref c0)))) :
    ∃ t, PSs (lcx P w K mg base f (.ref c0) A0 outer s0 HE E) bd_s0 (tDS K E e t) ∧ ∀ (D : DEnds) (δ : DS) (S : Store) (d : Addr), SlD δ d → TbS K S → Dice S d → (∀ δ' S', SlE δ' → TbS K S' → D.nx δ' S') → t D δ S := by
  have c__law_roll := V.c__law_roll
  have k_Canvas := V.k_Canvas
  obtain ⟨tc, p_c, h_c⟩ := bl_c (f := f) (A0 := A0) (outer := outer) (s0 := s0) (HE := HE) (E := E) (e := e) T V hr
  obtain ⟨t3, p_s3, h_s3⟩ := bl_s3 (f := f) (A0 := A0) (outer := outer) (s0 := s0) (HE := HE) (E := E) (e := e) T V hr
  refine ⟨_, (dss_cons (ds_asg (de_tup (da_cons (de_op (od_add rfl) de_int (de_call rfl c__law_roll dfl_nil hr (by decide) rfl paX (da_cons (dv (pv 1)) (da_cons de_int da_nil)))) (da_cons (de_call rfl c__law_roll dfl_nil hr (by decide) rfl paX (da_cons (dv (pv 1)) (da_cons de_int da_nil))) (da_cons de_dnewT da_nil)))) (dg_tup (n := 3) rfl rfl (dgs_cons (dg_name (i := 2) sc_law.nd rfl (Or.inr rfl)) (dgs_cons (dg_name (i := 3) sc_law.nd rfl (Or.inl rfl)) (dgs_cons (dg_name (i := 4) sc_law.nd rfl (Or.inr rfl)) dgs_nil)))))
  (dss_cons (ds_set (i := 5) sc_law.nd rfl (Or.inr rfl) (de_make (nm := nm_Canvas) rfl k_Canvas dfl_nil hr (by decide) rfl paX (da_cons (dv (pv 2)) (da_cons (dv (pv 3)) da_nil))))
  (dss_cons (ds_for poX rfl (di_range1 (by rfl) T.b_range (da_cons (de_call rfl c__law_roll dfl_nil hr (by decide) rfl paX (da_cons (dv (pv 1)) (da_cons de_int da_nil))) da_nil)) (dg_name (i := 6) sc_law.nd rfl (Or.inl rfl)) p_c)
  p_s3))), fun D δ S0 d sl tb dc nx => ?_⟩
  obtain ⟨u0, u2, u3, u4, u5, u6, u7, u8, u9, u10, u11, u12, u13, u14, u15, u16, u17, u18, u19, u20, u21, u22, u23, u24, rfl⟩ := sl
  obtain ⟨x0, y0, z0, hd0⟩ := dc
  walk_at "go"
  refine ⟨d, _, _, _, _, rfl, hd0, ⟨by omega, by omega⟩, fun r1 x1 y1 z1 a1 b1 => ?_⟩
  replace tb := tb.put hd0 (c' := .lst [.int x1, .int y1, .int z1]) ⟨fun _ z => (by cases z), fun z => (by cases z)⟩
  have hd1 : sput S0 d (.lst [.int x1, .int y1, .int z1]) d = some _ := sput_same
  generalize sput S0 d (.lst [.int x1, .int y1, .int z1]) = S1 at tb hd1 ⊢
  walk_at "go"
  refine ⟨d, _, _, _, _, rfl, hd1, ⟨by omega, by omega⟩, fun r2 x2 y2 z2 a2 b2 => ?_⟩
  replace tb := tb.put hd1 (c' := .lst [.int x2, .int y2, .int z2]) ⟨fun _ z => (by cases z), fun z => (by cases z)⟩
  have hd2 : sput S1 d (.lst [.int x2, .int y2, .int z2]) d = some _ := sput_same
  generalize sput S1 d (.lst [.int x2, .int y2, .int z2]) = S2 at tb hd2 ⊢
  walk_at "go"
  intro c hc
  walk_at "go"
  intro m hm
  walk_at "go"
  have hmul : (1 + r1) * r2 ≤ 30 * 20 := Int.mul_le_mul (by omega) (by omega) a2 (by omega)
  have hno : ¬ (1 + r1 < 1 ∨ r2 < 0 ∨ 20000 < (1 + r1) * r2) := by omega
  refine ⟨m, 1 + r1, r2, rfl, sput_same, by omega, fun z => absurd z hno, fun _ k hk => ⟨rfl, ?_⟩⟩
  have cm : c ≠ m := fun z => by rw [z, sput_same] at hm; cases hm
  have mk : m ≠ k := fun z => by rw [z, sput_same] at hk; cases hk
  have hk1 : sput S2 c (.dct []) k = none := by rw [sput_ne (Ne.symm mk)] at hk; exact hk
  have ck : c ≠ k := fun z => by rw [z, sput_same] at hk1; cases hk1
  have dc : d ≠ c := fun z => by rw [z, hc] at hd2; cases hd2
  have hdc : sput S2 c (.dct []) d = some _ := (sput_ne dc).trans hd2
  have dm : d ≠ m := fun z => by rw [z, hm] at hdc; cases hdc
  have dk : d ≠ k := fun z => by rw [z, hk1] at hdc; cases hdc
  have st : StP K (sput (sput (sput (sput S2 c (.dct [])) m (.ins (He.ga K "Canvas") nm_Canvas [])) k (.dct [])) m (cvC K (1 + r1) r2 k)) d m c (1 + r1) r2 (fun _ _ => none) 0 := by
    have t1 := (tb.new (c := .dct []) hc).new (c := .ins (He.ga K "Canvas") nm_Canvas []) hm
    have t2 := t1.new (c := .dct []) hk
    refine ⟨t2.put (p := m) ((sput_ne mk).trans sput_same) ⟨fun _ z => (by cases z), fun z => (by cases z)⟩, ⟨x2, y2, z2, ?_⟩, ⟨k, [], [], ⟨sput_same, (sput_ne (Ne.symm mk)).trans sput_same, ?_⟩, Ne.symm ck, ⟨PicAt.nil, PicAt.nil⟩, Nat.le_refl _, Nat.le_refl _⟩, ⟨fun _ _ => sp_ok⟩, by omega⟩
    · rw [sput_ne dm, sput_ne dk, sput_ne dm]
      exact hdc
    · rw [sput_ne cm, sput_ne ck, sput_ne cm]
      exact sput_same
  generalize sput (sput (sput (sput S2 c (.dct [])) m (.ins (He.ga K "Canvas") nm_Canvas [])) k (.dct [])) m (cvC K (1 + r1) r2 k) = S3 at st ⊢
  obtain ⟨x3, y3, z3, hd3⟩ := st.d
  walk_at "go"
  refine ⟨d, _, _, _, _, rfl, hd3, ⟨by omega, by omega⟩, fun r4 x4 y4 z4 a4 b4 => ?_⟩
  have st := st.roll x4 y4 z4
  walk_at "go"
  refine forGo_rng _ _ (fun i δ S => SlW δ d m c (1 + r1) r2 ∧ ∃ p, StP K S d m c (1 + r1) r2 p (150 * i) ∧ i ≤ 21) (fun i δ S hi ii nx1 kn => ?_) (fun δ S ii => ?_) ⟨⟨_, _, _, _, _, _, _, _, _, _, _, _, _, _, _, _, _, _, _, _, rfl⟩, _, st, by omega⟩
  · obtain ⟨sl, p, st, hi2⟩ := ii
    obtain ⟨u0, u6, u7, u8, u9, u10, u11, u12, u13, u14, u15, u16, u17, u18, u19, u20, u21, u22, u23, u24, rfl⟩ := sl
    walk_at "go"
    refine h_c _ _ S d m c (1 + r1) r2 p (150 * i) ⟨_, _, _, _, _, _, _, _, _, _, _, _, _, _, _, _, _, _, _, _, rfl⟩ st (by omega) fun δ' S' p' sl' st' => kn _ _ ⟨sl', p', ?_, by omega⟩
    rw [show 150 * (i + 1) = 150 * i + 150 by omega]
    exact st'
  · obtain ⟨sl, p, st, hi2⟩ := ii
    exact h_s3 D δ S d m c (1 + r1) r2 p _ sl st nx
end
end K07

open PySem PySem.Spec PyProof.Rows L2 Pr Dn LamX NdefX

namespace K07
section
variable {P : Program} {w : World} {K : PySem.W.Frag} {mg : Str → Option Value} {base : Heap} {f c0 : Addr} {A0 : Around} {outer : List Env} {s0 : Shared} {HE : Hp} {E : XK} {e : DX}
theorem bl_tail (T : Tx K mg) (V : Env07 P w K mg base c0) (hr : Room 14 (A0.deeper (envOfC "law" (defScope s_law) s0.heap.objs.size f (.ref c0)))) :
    ∃ t, PSs (lcx P w K mg base f (.ref c0) A0 outer s0 HE E) bd_tail (tDS K E e t) ∧ ∀ (D : DEnds) (δ : DS) (S : Store), SlE δ → TbS K S → (∀ S', D.rt (.bl true) S') → t D δ S := by
  have k_Canvas := V.k_Canvas
  obtain ⟨fdT, FT⟩ := V.FT
  obtain ⟨oc, od, dV, kV, doc, pm, an, cdv, ct, osl, efd, lkT, hcdT, _, _⟩ := id FT.ex
  have bT : Binds K fdT ["what"] [] := FT.bindsN fun _ _ _ _ _ _ us hl => match us, hl with | [_], _ => rfl
  subst efd
  refine ⟨_, (dss_one (ds_ret (de_and rfl (de_cmp (od_eq rfl (hU_of hr)) (de_told (k := 10) (q := qlam) (fr := []) (js := []) rfl (by rfl) T.g__law_told FT.kp lkT hcdT bT sc_law_told rfl (Or.inl rfl) rfl T.g_SizeError T.e_SizeError_SizeError V.TB rfl rfl (hr.mono (by decide)) rfl (by kernel_rfl) (by decide +kernel) rfl (by decide +kernel) (fun _ _ _ _ _ => rfl) (fun f c' cl e' A outer s H E hr => (de_make (nm := nm_Canvas) rfl k_Canvas dfl_nil hr (by decide) rfl paN (da_cons de_int (da_cons de_int da_nil))))) de_str) (pe_one (de_cmp (od_eq rfl (hU_of hr)) (de_told (k := 10) (q := qlam) (fr := []) (js := []) rfl (by rfl) T.g__law_told FT.kp lkT hcdT bT sc_law_told rfl (Or.inl rfl) rfl T.g_SizeError T.e_SizeError_SizeError V.TB rfl rfl (hr.mono (by decide)) rfl (by kernel_rfl) (by decide +kernel) rfl (by decide +kernel) (fun _ _ _ _ _ => rfl) (fun f c' cl e' A outer s H E hr => (de_make (nm := nm_Canvas) rfl k_Canvas dfl_nil hr (by decide) rfl paN (da_cons de_int (da_cons de_int da_nil))))) de_str))))), fun D δ S sl tb rt => ?_⟩
  obtain ⟨u0, u1, u2, u3, u4, u5, u6, u7, u8, u9, u10, u11, u12, u13, u14, u15, u16, u17, u18, u19, u20, u21, u22, u23, u24, rfl⟩ := sl
  walk_at "go"
  refine ⟨tb.l, ?_⟩
  walk_at "go"
  intro m hm
  refine ⟨m, 0, 5, rfl, sput_same, by omega, fun _ => ?_, fun z => absurd (.inl (by omega)) z⟩
  have tb2 := tb.new (c := .ins (He.ga K "Canvas") nm_Canvas []) hm
  refine ⟨rfl, ?_⟩
  walk_at "go"
  refine ⟨tb2.l, ?_⟩
  walk_at "go"
  intro m2 hm2
  refine ⟨m2, 200, 101, rfl, sput_same, by omega, fun _ => ?_, fun z => absurd (.inr (.inr (by decide))) z⟩
  refine ⟨rfl, ?_⟩
  walk_at "go"
  exact rt _
end
end K07

open PySem PySem.Spec PyProof.Rows L2 Pr Dn LamX NdefX

namespace K07
def cLaw (K : PySem.W.Frag) : DSp := fun ds S q _ => ∃ ns : List Int, ds = [.scr ns] ∧ ns.length ≤ 10000 ∧ TbS K S ∧ ∀ S', q (.bl true) S'
section
variable {P : Program} {w : World} {K : PySem.W.Frag} {mg : Str → Option Value} {base : Heap}
theorem ok_law (T : Tx K mg) (V : ∀ c0, TabB base mg c0 (pL K) → Env07 P w K mg base c0) (c__law_rounds : CalX P w K mg base 2 "_law_rounds" (spD K cRounds) [])
    {f : Addr} {fd : FuncData} (F : FunD K "law" "law" (defArgs s_law) (defBody s_law) (defScope s_law) [] [] f fd) (hTB : ∀ c, fd.code = .ref c → TabB base mg c (pL K)) : FnOk P w K mg base (L2.CX P w) 15 f fd ["script"] (spD K (cLaw K)) := by
  refine dfnC 25 F sc_law hTB (fun ds S q e h => ?_) rfl (fun c0 A outer s H E e TB hr => ?_)
  · obtain ⟨ns, rfl, _⟩ := h
    rfl
  · obtain ⟨t1, p_s0, h_s0⟩ := bl_s0 (f := f) (A0 := A) (outer := outer) (s0 := s) (HE := H) (E := E) (e := e) T (V c0 TB) hr
    obtain ⟨t2, p_tail, h_tail⟩ := bl_tail (f := f) (A0 := A) (outer := outer) (s0 := s) (HE := H) (E := E) (e := e) T (V c0 TB) hr
    refine ⟨_, (dss_cons (ds_for poX rfl (di_lst rfl (de_call rfl c__law_rounds dfl_nil hr (by decide) rfl paX (da_cons (dv (pv 0)) (da_cons de_int da_nil)))) (dg_name (i := 1) sc_law.nd rfl (Or.inl rfl)) p_s0)
  p_tail), fun ds S q h => ?_⟩
    obtain ⟨ns, rfl, nl, tx, kk⟩ := h
    walk_at "go"
    refine ⟨ns, rfl, nl, fun p x n k np => ?_⟩
    have tb : TbS K (sput S p (.lst [.int x, .int n, .int k])) := tx.new np
    walk_at "go"
    refine h_s0 _ _ _ p ⟨_, _, _, _, _, _, _, _, _, _, _, _, _, _, _, _, _, _, _, _, _, _, _, _, rfl⟩ tb ⟨x, n, k, sput_same⟩ fun δ' S' sl' tb' => ?_
    exact ⟨trivial, h_tail _ δ' S' sl' tb' kk⟩
end
abbrev PL_ : Program := PySem.Challenge.rw_pagestack_k07_cells_that_are_painted.prog
theorem law_at_ (w : World) (mg : Str → Option Value) (fa_ : Addr) (h : Heap) {K : PySem.W.Frag} (KX : K.In h) (G : h.Ns mainGlobals mg) (hfa : mg ("law" : Str) = some (.ref fa_)) (c : He.SaysX fa fn ts tf exB w h K) :
    LamX.LawAtS PySem.Challenge.rw_pagestack_k07_cells_that_are_painted w K (L2.CX PL_ w) 15 63 "script" mg fa_ h := by
  have T : Tx K mg := tx_of KX G c.t.d c.more
  have efa := hfa.symm.trans T.g_law
  cases efa
  have hnd : [pL K, pR K, pS K].Nodup := by
    have m := c.more
    unfold exB at m
    exact of_decide_eq_true m
  obtain ⟨fd_Canvas_init, F_Canvas_init⟩ := c.t.d.def_ 0 (d := d_Canvas_init) rfl
  obtain ⟨fd_Canvas_cell, F_Canvas_cell⟩ := c.t.d.def_ 1 (d := d_Canvas_cell) rfl
  obtain ⟨fd_Canvas_fill, F_Canvas_fill⟩ := c.t.d.def_ 2 (d := d_Canvas_fill) rfl
  obtain ⟨fd_Canvas_write, F_Canvas_write⟩ := c.t.d.def_ 3 (d := d_Canvas_write) rfl
  obtain ⟨fd_Canvas_letter_rows, F_Canvas_letter_rows⟩ := c.t.d.def_ 4 (d := d_Canvas_letter_rows) rfl
  obtain ⟨fd_Canvas_shown, F_Canvas_shown⟩ := c.t.d.def_ 5 (d := d_Canvas_shown) rfl
  obtain ⟨fd_meeting, F_meeting⟩ := c.t.d.def_ 6 (d := d_meeting) rfl
  obtain ⟨fd_element_at, F_element_at⟩ := c.t.d.def_ 7 (d := d_element_at) rfl
  obtain ⟨fd_law_dice, F_law_dice⟩ := c.t.d.def_ 8 (d := d_law_dice) rfl
  obtain ⟨fd_law_roll, F_law_roll⟩ := c.t.d.def_ 9 (d := d_law_roll) rfl
  obtain ⟨fd_law_rounds, F_law_rounds⟩ := c.t.d.def_ 10 (d := d_law_rounds) rfl
  obtain ⟨fd_law_told, F_law_told⟩ := c.t.d.def_ 11 (d := d_law_told) rfl
  obtain ⟨fd_law_in, F_law_in⟩ := c.t.d.def_ 12 (d := d_law_in) rfl
  obtain ⟨fd_law, F_law⟩ := c.t.d.def_ 13 (d := d_law) rfl
  refine ⟨fd_law, [He.cT K ("law", none), He.cT K ("Canvas", some "letter_rows"), He.cT K ("Canvas", some "shown")], spD K (cLaw K), fun p hp => ?_, fun p hp => ?_, fun p hp => ?_, fun s u => ?_, fun H a ns hl hbits hP hS => ?_, fun base KB GB TB => ?_⟩
  · simp only [List.mem_cons, List.not_mem_nil, or_false] at hp
    rcases hp with rfl | rfl | rfl
    · exact c.empty ("law", none) List.mem_cons_self
    · exact c.empty ("Canvas", some "letter_rows") (List.mem_cons_of_mem _ List.mem_cons_self)
    · exact c.empty ("Canvas", some "shown") (List.mem_cons_of_mem _ (List.mem_cons_of_mem _ List.mem_cons_self))
  · simp only [List.mem_cons, List.not_mem_nil, or_false] at hp
    rcases hp with rfl | rfl | rfl
    · exact c.out ("law", none) List.mem_cons_self
    · exact c.out ("Canvas", some "letter_rows") (List.mem_cons_of_mem _ List.mem_cons_self)
    · exact c.out ("Canvas", some "shown") (List.mem_cons_of_mem _ (List.mem_cons_of_mem _ List.mem_cons_self))
  · simp only [List.mem_cons, List.not_mem_nil, or_false] at hp
    rcases hp with rfl | rfl | rfl
    · exact PySem.W.codeHd_of_K KX (c.hd ("law", none) List.mem_cons_self)
    · exact PySem.W.codeHd_of_K KX (c.hd ("Canvas", some "letter_rows") (List.mem_cons_of_mem _ List.mem_cons_self))
    · exact PySem.W.codeHd_of_K KX (c.hd ("Canvas", some "shown") (List.mem_cons_of_mem _ (List.mem_cons_of_mem _ List.mem_cons_self)))
  · exact FunD.bindsA (ps := ["script"]) F_law (fun _ _ _ _ _ _ us hl => match us, hl with | [_], _ => rfl) s [u] rfl
  · have nd : (([((He.cT K ("law", none)).2, .tbl qlam), ((He.cT K ("Canvas", some "letter_rows")).2, .gtb), ((He.cT K ("Canvas", some "shown")).2, .gtb)] : List (Addr × Cell)).map (·.1)).Nodup := by simpa using hnd
    refine law_start (T := [((He.cT K ("law", none)).2, .tbl qlam), ((He.cT K ("Canvas", some "letter_rows")).2, .gtb), ((He.cT K ("Canvas", some "shown")).2, .gtb)]) (fun p hp => ?_) hS fun q hq => ⟨ns, rfl, by omega, ⟨tabS_at nd _ List.mem_cons_self, tabS_at nd _ (List.mem_cons_of_mem _ List.mem_cons_self), tabS_at nd _ (List.mem_cons_of_mem _ (List.mem_cons_of_mem _ List.mem_cons_self))⟩, hq⟩
    simp only [List.mem_cons, List.not_mem_nil, or_false] at hp
    rcases hp with rfl | rfl | rfl
    · exact ⟨hP _ List.mem_cons_self, Or.inl ⟨_, rfl⟩⟩
    · exact ⟨hP _ (List.mem_cons_of_mem _ List.mem_cons_self), Or.inr rfl⟩
    · exact ⟨hP _ (List.mem_cons_of_mem _ (List.mem_cons_of_mem _ List.mem_cons_self)), Or.inr rfl⟩
  · have tb_law : ∀ c, fd_law.code = .ref c → TabB base mg c (He.cT K ("law", none)).2 := by
      obtain ⟨oc, od, dV, kV, doc, pm, an, cdv, ct, osl, efd, lk, _, _, _⟩ := F_law.ex
      exact fun c e => tab_at (p := ("law", none)) lk (TB _ List.mem_cons_self) e
    have tb_Canvas_shown : ∀ c, fd_Canvas_shown.code = .ref c → TabB base mg c (He.cT K ("Canvas", some "shown")).2 := by
      obtain ⟨oc, od, dV, kV, doc, pm, an, cdv, ct, osl, efd, lk, _, _, _⟩ := F_Canvas_shown.ex
      exact fun c e => tab_at (p := ("Canvas", some "shown")) lk (TB _ (List.mem_cons_of_mem _ (List.mem_cons_of_mem _ List.mem_cons_self))) e
    have tb_Canvas_letter_rows : ∀ c, fd_Canvas_letter_rows.code = .ref c → TabB base mg c (He.cT K ("Canvas", some "letter_rows")).2 := by
      obtain ⟨oc, od, dV, kV, doc, pm, an, cdv, ct, osl, efd, lk, _, _, _⟩ := F_Canvas_letter_rows.ex
      exact fun c e => tab_at (p := ("Canvas", some "letter_rows")) lk (TB _ (List.mem_cons_of_mem _ List.mem_cons_self)) e
    have k_Canvas : MakX PL_ w K mg base 1 "Canvas" (He.ga K "Canvas") (spD K (cCanvas K)) [] := ⟨⟨_, _, _, [], T.mk_Canvas, ok_Canvas T F_Canvas_init, T.g_Canvas, (F_Canvas_init.bindsN fun _ _ _ _ _ _ us hl => match us, hl with | [_, _, _], _ => rfl), .nil⟩⟩
    have m_Canvas_cell : MetX PL_ w K mg base 1 (He.ga K "Canvas") "cell" (spD K (cCell K)) [] := ⟨⟨_, _, _, [], T.cl_Canvas, T.me_Canvas_cell, ok_cell T F_Canvas_cell, (F_Canvas_cell.bindsN fun _ _ _ _ _ _ us hl => match us, hl with | [_, _, _], _ => rfl), .nil⟩⟩
    have m_Canvas_fill : MetX PL_ w K mg base 2 (He.ga K "Canvas") "fill" (spD K (cFill K)) [] := ⟨⟨_, _, _, [], T.cl_Canvas, T.me_Canvas_fill, ok_fill T m_Canvas_cell F_Canvas_fill, (F_Canvas_fill.bindsN fun _ _ _ _ _ _ us hl => match us, hl with | [_, _, _, _, _], _ => rfl), .nil⟩⟩
    have m_Canvas_write : MetX PL_ w K mg base 2 (He.ga K "Canvas") "write" (spD K (cWrite K)) [] := ⟨⟨_, _, _, [], T.cl_Canvas, T.me_Canvas_write, ok_write T m_Canvas_cell F_Canvas_write, (F_Canvas_write.bindsN fun _ _ _ _ _ _ us hl => match us, hl with | [_, _, _, _, _, _], _ => rfl), .nil⟩⟩
    have m_Canvas_letter_rows : MetX PL_ w K mg base 6 (He.ga K "Canvas") "letter_rows" (spD K (cRows K (pR K))) [] := ⟨⟨_, _, _, [], T.cl_Canvas, T.me_Canvas_letter_rows, (fun F => ok_rows T m_Canvas_cell F tb_Canvas_letter_rows)  F_Canvas_letter_rows, (F_Canvas_letter_rows.bindsN fun _ _ _ _ _ _ us hl => match us, hl with | [_], _ => rfl), .nil⟩⟩
    have m_Canvas_shown : MetX PL_ w K mg base 9 (He.ga K "Canvas") "shown" (spD K (cShown K (pS K))) [] := ⟨⟨_, _, _, [], T.cl_Canvas, T.me_Canvas_shown, (fun F => ok_shown T m_Canvas_cell F tb_Canvas_shown)  F_Canvas_shown, (F_Canvas_shown.bindsN fun _ _ _ _ _ _ us hl => match us, hl with | [_], _ => rfl), .nil⟩⟩
    have c_meeting : CalX PL_ w K mg base 1 "meeting" (spD K cMeet) [] := ⟨⟨_, _, _, [], ok_meeting T F_meeting, T.g_meeting, F_meeting.kp, (F_meeting.bindsN fun _ _ _ _ _ _ us hl => match us, hl with | [_, _], _ => rfl), .nil⟩⟩
    have c_element_at : CalX PL_ w K mg base 2 "element_at" (spD K (cElem K)) [] := ⟨⟨_, _, _, [], ok_elem T m_Canvas_cell F_element_at, T.g_element_at, F_element_at.kp, (F_element_at.bindsN fun _ _ _ _ _ _ us hl => match us, hl with | [_, _, _], _ => rfl), .nil⟩⟩
    have c__law_dice : CalX PL_ w K mg base 1 "_law_dice" (spD K cDice) [] := ⟨⟨_, _, _, [], ok_dice T F_law_dice, T.g__law_dice, F_law_dice.kp, (F_law_dice.bindsN fun _ _ _ _ _ _ us hl => match us, hl with | [_], _ => rfl), .nil⟩⟩
    have c__law_roll : CalX PL_ w K mg base 1 "_law_roll" (spD K Dn.cRoll) [] := ⟨⟨_, _, _, [], ok_roll T F_law_roll, T.g__law_roll, F_law_roll.kp, (F_law_roll.bindsN fun _ _ _ _ _ _ us hl => match us, hl with | [_, _], _ => rfl), .nil⟩⟩
    have c__law_rounds : CalX PL_ w K mg base 2 "_law_rounds" (spD K cRounds) [] := ⟨⟨_, _, _, [], ok_rounds T c__law_dice F_law_rounds, T.g__law_rounds, F_law_rounds.kp, (F_law_rounds.bindsN fun _ _ _ _ _ _ us hl => match us, hl with | [_, _], _ => rfl), .nil⟩⟩
    have c__law_in : CalX PL_ w K mg base 1 "_law_in" (spD K cIn) [] := ⟨⟨_, _, _, [], ok_in T F_law_in, T.g__law_in, F_law_in.kp, (F_law_in.bindsN fun _ _ _ _ _ _ us hl => match us, hl with | [_, _, _], _ => rfl), .nil⟩⟩
    exact ok_law T (fun c0 TBc => ⟨m_Canvas_cell, m_Canvas_fill, m_Canvas_write, m_Canvas_letter_rows, m_Canvas_shown, k_Canvas, c_meeting, c_element_at, c__law_roll, c__law_in, ⟨_, F_law_told⟩, TBc⟩) c__law_rounds F_law tb_law
end K07
open PySem PySem.W PySem.Calls PyProof.Rows
set_option maxHeartbeats 0 in
theorem PySem.Challenge.cw_pagestack_k07_cells_that_are_painted_holds : PySem.Challenge.rw_pagestack_k07_cells_that_are_painted.Holds := by
  w_on; o_law
  refine HandSHeadRun.head_any (r := OpenLaw.row PySem.Challenge.rw_pagestack_k07_cells_that_are_painted) (q := view (OpenLaw.row PySem.Challenge.rw_pagestack_k07_cells_that_are_painted).prog [14]) (H := K07.hk) (ob := K07.ob) (M := 20000) (loose := K07.looseN) (d := HandSHeadRun.topDef (OpenLaw.row PySem.Challenge.rw_pagestack_k07_cells_that_are_painted).prog 14) (kwd := []) K07.ob_eq
    (by kernel_rfl) (fun s => by kernel_rfl) K07.run (by kernel_rfl) (by kernel_rfl) (by kernel_rfl) (by rfl) (by first | assumption | decide +kernel) (by decide +kernel) ⟨rfl, rfl, rfl, rfl, rfl, by decide +kernel⟩ ?hw ?hc
  case hw => w_witness2
  case hc =>
    refine LamX.walk_ofTsE (l := PySem.Challenge.rw_pagestack_k07_cells_that_are_painted) (n := 63) (k := 15) (x := "script") (CX := fun w => L2.CX PySem.Challenge.rw_pagestack_k07_cells_that_are_painted.prog w) rfl (by decide) (by kernel_rfl) ⟨rfl, by decide, by decide⟩ ?F (fun w H s e s' z => ?hX)
    case F =>
      intro w mg fa h Y G hmg0
      obtain ⟨K, KX, c⟩ := Y
      have hmg : mg ("law" : PySem.Str) = some (.ref fa) := by
        have e : (HandSHeadRun.topDef (OpenLaw.row PySem.Challenge.rw_pagestack_k07_cells_that_are_painted).prog 14).name = ("law" : PySem.Str) := by kernel_rfl
        rw [← e]
        exact hmg0
      exact ⟨K, KX, K07.law_at_ w mg fa h KX G hmg c⟩
    case hX =>
      obtain ⟨_, _, _, _, _, _, _, _, _, _, _, _, z⟩ := z
      exact z


