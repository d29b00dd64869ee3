import PyProof.Rows.All
import Wide.All
import OpenK.AllK
import Wide.FinOn
import HandS.ForMost
import HandS.ForExc
import HandS.Defaults
import HandS.Lambda
import HandS.EndTab
import HandS.Walk
import HandS.More
import HandS.Conv
import HandS.TupAny
import HandS.Style
import HandS.NoneIn
import HandS.Nested
import HandS.HeadWalk
import KE.KStateDown
import HandS.Head0
import HandS.Head1
import HandS.Head2
import HandS.HeadEnd
import HandS.HeadHook1
import HandS.HeadHook2
import HandS.HeadHook3
import HandS.HeadHook4
import PySem.Challenge.RW_pagestack_k18_values_that_go_in_time
set_option Elab.async false
set_option linter.all false
set_option maxRecDepth 100000
set_option maxHeartbeats 0
namespace Pr
open PySem PySem.Spec PyProof.Rows L2
/-! ## 1. readings, one step each -/
section
variable {K : PySem.W.Frag} {σ : L2.St} {H : Hp} {Q : VK} {v x y : V} {ta tb tc te : TE} {r r' : R2} {i : Nat} {D : Ends} {QB : Bool → Hp → Prop} {QA : List V → Hp → Prop}
theorem g_var (h : σ[i]? = some (some v)) (q : Q v H) : tVar i σ H Q := ⟨v, h, q⟩
theorem g_c (q : Q v H) : tC v σ H Q := q
theorem g_op (q : ta σ H fun x H1 => tb σ H1 fun y H2 => r x y H2 Q) : tOp r ta tb σ H Q := q
theorem g_un {r : V → Hp → VK → Prop} (q : ta σ H fun x H1 => r x H1 Q) : tUn r ta σ H Q := q
theorem g_I0 {g : Int → Int → V} {a b : Int} (q : Q (g a b) H) : rI0 g (.int a) (.int b) H Q := ⟨a, b, rfl, rfl, q⟩
theorem g_I {C : Int → Int → Prop} {g : Int → Int → V} {a b : Int} (c : C a b) (q : Q (g a b) H) : rI C g (.int a) (.int b) H Q := ⟨a, b, rfl, rfl, c, q⟩
theorem g_U {g : Int → V} {a : Int} (q : Q (g a) H) : rU g (.int a) H Q := ⟨a, rfl, q⟩
/-- == of scalars -/
theorem g_eqI {a b : Int} (q : Q (.bl (decide (a = b))) H) : rEq (.int a) (.int b) H Q := ⟨rfl, by rw [dec_int]; rw [Bool.beq_eq_decide_eq]; exact q⟩
theorem g_neI {a b : Int} (q : Q (.bl (!decide (a = b))) H) : rNe (.int a) (.int b) H Q := ⟨rfl, by rw [dec_int]; rw [Bool.beq_eq_decide_eq]; exact q⟩
theorem g_eqS {a b : Str} (q : Q (.bl (decide (a = b))) H) : rEq (.str a) (.str b) H Q := ⟨rfl, by rw [dec_str]; rw [Bool.beq_eq_decide_eq]; exact q⟩
theorem g_neS {a b : Str} (q : Q (.bl (!decide (a = b))) H) : rNe (.str a) (.str b) H Q := ⟨rfl, by rw [dec_str]; rw [Bool.beq_eq_decide_eq]; exact q⟩
theorem g_eqB {a b : Bool} (q : Q (.bl (decide (a = b))) H) : rEq (.bl a) (.bl b) H Q := ⟨rfl, by rw [dec_bl]; rw [Bool.beq_eq_decide_eq]; exact q⟩
theorem g_neB {a b : Bool} (q : Q (.bl (!decide (a = b))) H) : rNe (.bl a) (.bl b) H Q := ⟨rfl, by rw [dec_bl]; rw [Bool.beq_eq_decide_eq]; exact q⟩
/-- fields -/
def rFld (K : PySem.W.Frag) (f : Str) (x : V) (H1 : Hp) (Q : VK) : Prop := ∃ a C dx fs v, x = .ref a ∧ H1 a = some (.ins C dx fs) ∧ Cls K C ∧ NoAttr K C f ∧ fs.lookup f = some v ∧ Q v H1
theorem g_fld {f : Str} (q : ta σ H fun x H1 => rFld K f x H1 Q) : tFld K ta f σ H Q := q
theorem g_fld1 {f : Str} {a C dx : Addr} {fs : List (Str × V)} (h : H a = some (.ins C dx fs)) (c : Cls K C) (n : NoAttr K C f) (l : fs.lookup f = some v) (q : Q v H) : rFld K f (.ref a) H Q := ⟨a, C, dx, fs, v, rfl, h, c, n, l, q⟩
def rSFld (K : PySem.W.Frag) (f : Str) (x y : V) (H2 : Hp) (N : Hp → Prop) : Prop := ∃ a C dx fs, x = .ref a ∧ H2 a = some (.ins C dx fs) ∧ Cls K C ∧ NoAttr K C f ∧ fs.length < 1000 ∧ N (upd H2 a (.ins C dx (putF f y fs)))
theorem g_sfld {f : Str} {tv : TE} (q : tv σ H fun y H1 => ta σ H1 fun x H2 => rSFld K f x y H2 (D.nx σ)) : sFld K ta tv f D σ H := q
theorem g_sfld1 {f : Str} {a C dx : Addr} {fs fs' : List (Str × V)} {N : Hp → Prop} (h : H a = some (.ins C dx fs)) (c : Cls K C) (n : NoAttr K C f) (l : fs.length < 1000) (e : putF f y fs = fs') (q : N (upd H a (.ins C dx fs'))) : rSFld K f (.ref a) y H N := by
  subst e
  exact ⟨a, C, dx, fs, rfl, h, c, n, l, q⟩
/-- o.f += e, ints -/
theorem g_sfaug {f : Str} {tv : TE} {rd : V → V → Hp → VK → Prop} (q : ta σ H fun x H1 => ∃ a C dx fs v, x = .ref a ∧ H1 a = some (.ins C dx fs) ∧ Cls K C ∧ NoAttr K C f ∧ fs.lookup f = some v ∧
    tv σ H1 fun y H2 => rd v y H2 fun z H3 => ∃ dx' fs', H3 a = some (.ins C dx' fs') ∧ fs'.length < 1000 ∧ D.nx σ (upd H3 a (.ins C dx' (putF f z fs')))) : sFldAug K ta tv rd f D σ H := q
/-- tests -/
theorem g_test (q : te σ H fun x H' => ∃ k, x = .bl k ∧ QB k H') : tTest te σ H QB := q
theorem g_tb (q : te σ H fun x H' => ∃ k, x = .bl k ∧ QB k H') : tB te σ H QB := q
theorem g_bl {b : Bool} (q : QB b H) : ∃ k, V.bl b = .bl k ∧ QB k H := ⟨b, rfl, q⟩
theorem g_and {t u : TT} (q : t σ H fun c H1 => if c = true then u σ H1 QB else QB false H1) : tAnd t u σ H QB := q
theorem g_or {t u : TT} (q : t σ H fun c H1 => if c = true then QB true H1 else u σ H1 QB) : tOr t u σ H QB := q
theorem g_not {t : TT} (q : t σ H fun c H1 => QB (!c) H1) : tNot t σ H QB := q
theorem g_tif {t : TT} (q : t σ H fun c H1 => if c = true then ta σ H1 Q else tb σ H1 Q) : tIf t ta tb σ H Q := q
theorem g_andV (q : ta σ H fun x H1 => ∃ c, x = .bl c ∧ if c = true then tb σ H1 Q else Q (.bl false) H1) : tAndV ta tb σ H Q := q
theorem g_orV (q : ta σ H fun x H1 => ∃ c, x = .bl c ∧ if c = true then Q (.bl true) H1 else tb σ H1 Q) : tOrV ta tb σ H Q := q
theorem g_notV (q : ta σ H fun x H1 => ∃ c, x = .bl c ∧ Q (.bl (!c)) H1) : tNotV ta σ H Q := q
theorem g_blx {b : Bool} {P : Bool → Prop} (q : P b) : ∃ k, V.bl b = .bl k ∧ P k := ⟨b, rfl, q⟩
theorem g_chain (q : ta σ H fun x H1 => tb σ H1 fun y H2 => r x y H2 fun z H3 => ∃ k, z = .bl k ∧ (if k = true then tc σ H3 fun w' H4 => r' y w' H4 Q else Q (.bl false) H3)) : tChain r r' ta tb tc σ H Q := q
/-- arguments, displays -/
theorem g_nil (q : QA [] H) : tNil σ H QA := q
theorem g_cons {t : TA} (q : ta σ H fun x H1 => t σ H1 fun xs H2 => QA (x :: xs) H2) : tCons ta t σ H QA := q
theorem g_tup {t : TA} (q : t σ H fun xs H1 => xs.length ≤ sizeLine ∧ ∀ p, H1 p = none → Q (.ref p) (upd H1 p (.tup xs))) : tTup t σ H Q := q
theorem g_lst {t : TA} (q : t σ H fun xs H1 => xs.length ≤ sizeLine ∧ ∀ p, H1 p = none → Q (.ref p) (upd H1 p (.lst xs))) : tLst t σ H Q := q
theorem g_cb {r : List V → Hp → VK → Prop} {t : TA} (q : t σ H fun vs H1 => r vs H1 Q) : tCB r t σ H Q := q
theorem g_call {sp : Sp} {dvs : List V} {E : XK} {t : TA} (q : t σ H fun vs H1 => sp (vs ++ dvs) H1 Q E) : tCall sp dvs E t σ H Q := q
def rMeth (C : Addr) (m : Str) (x : V) (H1 : Hp) (k : V → Prop) : Prop := ∃ a dx fs, x = .ref a ∧ H1 a = some (.ins C dx fs) ∧ fs.lookup m = none ∧ k x
theorem g_meth {C : Addr} {m : Str} {sp : Sp} {dvs : List V} {E : XK} {t : TA} (q : ta σ H fun x H1 => rMeth C m x H1 fun x => t σ H1 fun vs H2 => sp (x :: (vs ++ dvs)) H2 Q E) : tMeth C m sp dvs E ta t σ H Q := by
  unfold tMeth
  have e : (fun x H1 => ∃ a dx fs, x = V.ref a ∧ H1 a = some (.ins C dx fs) ∧ fs.lookup m = none ∧ t σ H1 fun vs H2 => sp (x :: (vs ++ dvs)) H2 Q E) = fun x H1 => rMeth C m x H1 fun x => t σ H1 fun vs H2 => sp (x :: (vs ++ dvs)) H2 Q E := rfl
  exact q
theorem g_meth1 {C a dx : Addr} {m : Str} {fs : List (Str × V)} {k : V → Prop} (h : H a = some (.ins C dx fs)) (l : fs.lookup m = none) (q : k (.ref a)) : rMeth C m (.ref a) H k := ⟨a, dx, fs, rfl, h, l, q⟩
theorem g_make {C : Addr} {sp : Sp} {dvs : List V} {E : XK} {t : TA} (q : t σ H fun vs H1 => ∀ x dx, H1 x = none → H1 dx = none → dx ≠ x →
  sp (.ref x :: (vs ++ dvs)) (upd (upd H1 dx (.own x)) x (.ins C dx [])) (fun v H2 => v = .non ∧ Q (.ref x) H2) E) : tMake C sp dvs E t σ H Q := q
/-- statements -/
theorem g_seq {t u : TS} (q : t { D with nx := u D } σ H) : tSeq t u D σ H := q
theorem g_if {c : TT} {t u : TS} (q : c σ H fun b H1 => if b = true then t D σ H1 else u D σ H1) : tIfS c t u D σ H := q
theorem g_next (q : D.nx σ H) : tNext D σ H := q
theorem g_brk (q : D.bk σ H) : tBreak D σ H := q
theorem g_cont (q : D.ct σ H) : tCont D σ H := q
theorem g_drop (q : te σ H fun _ H1 => D.nx σ H1) : tDrop te D σ H := q
theorem g_ret (q : te σ H D.rt) : tRet te D σ H := q
theorem g_retN (q : D.rt .non H) : tRetN D σ H := q
theorem g_asg {g : TG} (q : te σ H fun x H1 => g x σ H1 D.nx) : tAsg te g D σ H := q
theorem g_name {N : L2.St → Hp → Prop} (q : N (σ.set i (some v)) H) : gName i v σ H N := q
theorem g_for {wi : TI} {g : TG} {tb : TS} (q : wi σ H fun J H1 => ∃ W : Nat → Nat → L2.St → Hp → Prop, (∃ m, W 0 m σ H1) ∧ ∀ i m σ H, W i m σ H → (J.stop i H ∧ D.nx σ H) ∨ (J.go i H ∧ ∃ N : L2.St → Hp → Prop, (∀ σ' H', N σ' H' → ∃ m', m' < m ∧ W (i + 1) m' σ' H') ∧ ∀ x H', J.yld i H x H' → g x σ H' fun σ2 H2 => tb { D with nx := N, ct := N, bk := D.nx } σ2 H2)) : tFor wi g tb D σ H := q
/-- unpacking -/
theorem g_gtup {n : Nat} {t : List V → L2.St → Hp → (L2.St → Hp → Prop) → Prop} {N : L2.St → Hp → Prop} {a : Addr} {xs : List V} (h : SqT K H a xs) (l : xs.length = n) (q : t xs σ H N) : gTup K n t (.ref a) σ H N := ⟨a, xs, rfl, h, l, q⟩
theorem g_gcons {t : TG} {u : List V → L2.St → Hp → (L2.St → Hp → Prop) → Prop} {N : L2.St → Hp → Prop} {vs : List V} (q : t v σ H fun σ' H' => u vs σ' H' N) : gCons t u (v :: vs) σ H N := ⟨v, vs, rfl, q⟩
theorem g_gnil {N : L2.St → Hp → Prop} (q : N σ H) : gNil [] σ H N := ⟨rfl, q⟩
/-- subscripts -/
theorem g_ixL {p : Addr} {xs : List V} {k : Int} (h : SqL K H p xs) (a : atI xs k = some v) (q : Q v H) : rIxL K (.ref p) (.int k) H Q := ⟨p, xs, k, v, rfl, rfl, h, a, q⟩
theorem g_ixT {p : Addr} {xs : List V} {k : Int} (h : SqT K H p xs) (a : atI xs k = some v) (q : Q v H) : rIxT K (.ref p) (.int k) H Q := ⟨p, xs, k, v, rfl, rfl, h, a, q⟩
theorem g_sub {to ti : TE} {t : V → V → V → Hp → (Hp → Prop) → Prop} {N : L2.St → Hp → Prop} (q : to σ H fun o H1 => ti σ H1 fun j H2 => t o j v H2 fun H3 => N σ H3) : gSub to ti t v σ H N := q
theorem g_setL {p : Addr} {xs : List V} {k : Int} {j : Nat} {N : Hp → Prop} (h : H p = some (.lst xs)) (a : ixN xs.length k = some j) (q : N (upd H p (.lst (xs.set j v)))) : rSetL (.ref p) (.int k) v H N := ⟨p, xs, k, j, rfl, rfl, h, a, q⟩
end
/-! ## 2. tests whose answer is a proposition -/
theorem ifP {p A B : Prop} [Decidable p] (h1 : p → A) (h2 : ¬ p → B) : if decide p = true then A else B := by
  by_cases h : p
  · rw [decide_eq_true h]; exact iteT (h1 h)
  · rw [decide_eq_false h]; exact iteF (h2 h)
theorem ifN {p A B : Prop} [Decidable p] (h1 : ¬ p → A) (h2 : p → B) : if (!decide p) = true then A else B := by
  by_cases h : p
  · rw [decide_eq_true h]; exact iteF (h2 h)
  · rw [decide_eq_false h]; exact iteT (h1 h)
theorem ifPt {p A B : Prop} [Decidable p] (hp : p) (h1 : A) : if decide p = true then A else B := by
  rw [decide_eq_true hp]; exact iteT h1
theorem ifPf {p A B : Prop} [Decidable p] (hp : ¬ p) (h1 : B) : if decide p = true then A else B := by
  rw [decide_eq_false hp]; exact iteF h1
theorem ifNt {p A B : Prop} [Decidable p] (hp : ¬ p) (h1 : A) : if (!decide p) = true then A else B := by
  rw [decide_eq_false hp]; exact iteT h1
theorem ifNf {p A B : Prop} [Decidable p] (hp : p) (h1 : B) : if (!decide p) = true then A else B := by
  rw [decide_eq_true hp]; exact iteF h1
/-! ## 3. heaps -/
/-- all that H tracks but M is as it was -/
def Kp (M : List Addr) (H H' : Hp) : Prop := ∀ b o, H b = some o → b ∉ M → H' b = some o
section
variable {M M' : List Addr} {H H1 H2 : Hp} {p : Addr} {o : HO}
theorem Kp.refl : Kp M H H := fun _ _ h _ => h
theorem Kp.trans (a : Kp M H H1) (b : Kp M H1 H2) : Kp M H H2 := fun c u h n => b c u (a c u h n) n
theorem Kp.mono (a : Kp M H H1) (h : ∀ b, b ∈ M → b ∈ M' ∨ H b = none) : Kp M' H H1 := fun c u e n => a c u e fun m => by
  rcases h c m with z | z
  · exact n z
  · rw [z] at e; cases e
theorem Kp.new (a : Kp M H H1) (n : H1 p = none) : Kp M H (upd H1 p o) := fun c u e m => by
  have z := a c u e m
  rw [upd_ne (ne_of_none z n)]
  exact z
theorem Kp.mut (a : Kp M H H1) (m : p ∈ M) : Kp M H (upd H1 p o) := fun c u e n => by
  rw [upd_ne fun z => n (by rw [z]; exact m)]
  exact a c u e n
theorem Kp.own (a : Kp M H H1) (n : H p = none) : Kp M H (upd H1 p o) := fun c u e m => by
  rw [upd_ne (ne_of_none e n)]
  exact a c u e m
theorem Kp.same (h : Same H H1) : Kp M H H1 := fun c u e _ => h c u e
theorem Kp.to_same (h : Kp [] H H1) : Same H H1 := fun c u e => h c u e (by simp)
theorem Kp.free (h : Kp [] H H1) (n : H1 p = none) : H p = none := (Kp.to_same h).free n
theorem Kp.seq {K : PySem.W.Frag} {a : Addr} {xs : List V} (h : Kp M H H1) (n : a ∉ M) (q : SqL K H a xs) : SqL K H1 a xs := by
  rcases q with (q | ⟨ob, q⟩) | q
  · exact .inl (.inl (h _ _ q n))
  · exact .inl (.inr ⟨ob, h _ _ q n⟩)
  · exact .inr q
theorem Kp.sqT {K : PySem.W.Frag} {a : Addr} {xs : List V} (h : Kp M H H1) (n : a ∉ M) (q : SqT K H a xs) : SqT K H1 a xs := by
  rcases q with (q | ⟨ob, q⟩) | q
  · exact .inl (.inl (h _ _ q n))
  · exact .inl (.inr ⟨ob, h _ _ q n⟩)
  · exact .inr q
end
theorem ne_of_none' {H : Hp} {a b : Addr} {o : HO} (h' : H b = none) (h : H a = some o) : a ≠ b := ne_of_none h h'
theorem upd_free {H : Hp} {a b : Addr} {o : HO} (h : upd H a o b = none) : b ≠ a ∧ H b = none := by
  have n : b ≠ a := fun e => by rw [e, upd_same] at h; cases h
  exact ⟨n, by rw [upd_ne n] at h; exact h⟩
theorem g_notin {K : PySem.W.Frag} {H : Hp} {Q : VK} {x : V} {p : Addr} {xs : List V} (h : SqL K H p xs ∨ SqT K H p xs) (h1 : flatV x = true) (h2 : xs.all flatV = true) (q : Q (.bl (!inV x xs)) H) : rIn K true x (.ref p) H Q := ⟨p, xs, rfl, h, h1, h2, q⟩
/-! ## 4. lists by names (dicts with text keys) -/
section
variable {α : Type}
def aGet (L : List (Str × α)) (k : Str) : Option α := (L.find? fun e => decide (e.1 = k)).map (·.2)
def aDrop (L : List (Str × α)) (k : Str) : List (Str × α) := L.filter fun e => decide (e.1 ≠ k)
def aPut (L : List (Str × α)) (k : Str) (v : α) : List (Str × α) :=
  if (L.any fun e => decide (e.1 = k)) = true then L.map (fun e => if e.1 = k then (e.1, v) else e) else L ++ [(k, v)]
def enc (g : α → V) (L : List (Str × α)) : List (Key × V) := L.map fun e => (Sum.inr e.1, g e.2)
variable {g : α → V}
theorem key_inr (a b : Str) : decide ((Sum.inr a : Key) = Sum.inr b) = decide (a = b) := key_rr a b
theorem enc_len (L : List (Str × α)) : (enc g L).length = L.length := List.length_map ..
theorem enc_keys (L : List (Str × α)) : (enc g L).map (·.1) = (L.map (·.1)).map Sum.inr := by
  unfold enc
  rw [List.map_map, List.map_map]
  rfl
theorem valV_enc (k : Str) : ∀ L : List (Str × α), valV (enc g L) (Sum.inr k) = (aGet L k).map g
  | [] => rfl
  | e :: r => by
    have ih := valV_enc k r
    by_cases h : e.1 = k
    · have h1 : valV (enc g (e :: r)) (Sum.inr k) = some (g e.2) := valV_pos (p := (Sum.inr e.1, g e.2)) (by rw [h])
      rw [h1]
      simp [aGet, List.find?_cons, h]
    · have h1 : valV (enc g (e :: r)) (Sum.inr k) = valV (enc g r) (Sum.inr k) := valV_neg (p := (Sum.inr e.1, g e.2)) (fun z => h (Sum.inr.inj z))
      rw [h1, ih]
      simp [aGet, List.find?_cons, h]
theorem putK_enc (k : Str) (v : α) (L : List (Str × α)) : putK (enc g L) (Sum.inr k) (g v) = enc g (aPut L k v) := by
  have e1 : ((enc g L).any fun kv => decide (kv.1 = (Sum.inr k : Key))) = L.any fun e => decide (e.1 = k) := by
    unfold enc
    rw [List.any_map]
    congr 1
    funext e
    exact key_rr e.1 k
  unfold putK aPut
  rw [e1]
  split
  · unfold enc
    rw [List.map_map, List.map_map]
    refine List.map_congr_left fun e _ => ?_
    show (if (Sum.inr e.1 : Key) = Sum.inr k then ((Sum.inr e.1 : Key), g v) else (Sum.inr e.1, g e.2)) = _
    by_cases h : e.1 = k
    · rw [if_pos (by rw [h])]
      show _ = (Sum.inr (if e.1 = k then (e.1, v) else e).1, g (if e.1 = k then (e.1, v) else e).2)
      rw [if_pos h]
    · rw [if_neg (fun z => h (Sum.inr.inj z))]
      show _ = (Sum.inr (if e.1 = k then (e.1, v) else e).1, g (if e.1 = k then (e.1, v) else e).2)
      rw [if_neg h]
  · unfold enc
    rw [List.map_append]
    rfl
theorem dropK_enc (k : Str) (L : List (Str × α)) : dropK (enc g L) (Sum.inr k) = enc g (aDrop L k) := by
  unfold dropK aDrop enc
  rw [List.filter_map]
  congr 1
  refine List.filter_congr fun e _ => ?_
  exact decide_eq_decide.mpr ⟨fun a z => a (congrArg Sum.inr z), fun a z => a (Sum.inr.inj z)⟩
theorem aGet_mem {L : List (Str × α)} {k : Str} {v : α} (h : aGet L k = some v) : (k, v) ∈ L := by
  unfold aGet at h
  obtain ⟨e, he, rfl⟩ := Option.map_eq_some_iff.mp h
  have h1 := List.mem_of_find?_eq_some he
  have h2 : decide (e.1 = k) = true := List.find?_some (p := fun e : Str × α => decide (e.1 = k)) he
  have h3 : e.1 = k := of_decide_eq_true h2
  rw [← h3]
  exact h1
theorem aGet_none {L : List (Str × α)} {k : Str} : aGet L k = none ↔ ∀ v, (k, v) ∉ L := by
  constructor
  · intro h v m
    unfold aGet at h
    have := List.find?_eq_none.mp (Option.map_eq_none_iff.mp h) _ m
    simp at this
  · intro h
    cases e : aGet L k with
    | none => rfl
    | some v => exact absurd (aGet_mem e) (h v)
theorem aGet_of_mem {L : List (Str × α)} {k : Str} {v : α} (nd : (L.map (·.1)).Nodup) (h : (k, v) ∈ L) : aGet L k = some v := by
  induction L with
  | nil => cases h
  | cons e r ih =>
    obtain ⟨n1, n2⟩ := List.nodup_cons.mp (show (e.1 :: r.map (·.1)).Nodup from nd)
    rcases List.mem_cons.mp h with z | z
    · subst z
      simp [aGet, List.find?_cons]
    · have ne : e.1 ≠ k := fun q => n1 (by rw [q]; exact List.mem_map.mpr ⟨_, z, rfl⟩)
      have := ih n2 z
      simp only [aGet, List.find?_cons, decide_eq_false ne] at this ⊢
      exact this
theorem aDrop_mem {L : List (Str × α)} {k : Str} {e : Str × α} : e ∈ aDrop L k ↔ e ∈ L ∧ e.1 ≠ k := by
  unfold aDrop
  rw [List.mem_filter]
  simp
theorem aPut_new {L : List (Str × α)} {k : Str} (v : α) (h : aGet L k = none) : aPut L k v = L ++ [(k, v)] := by
  unfold aPut
  rw [if_neg]
  intro z
  obtain ⟨e, he, q⟩ := List.any_eq_true.mp z
  exact aGet_none.mp h e.2 (by rw [← of_decide_eq_true q]; exact he)
theorem aPut_mem {L : List (Str × α)} {k : Str} {v : α} {e : Str × α} (h : e ∈ aPut L k v) : e = (k, v) ∨ (e ∈ L ∧ e.1 ≠ k) := by
  unfold aPut at h
  split at h
  · obtain ⟨u, hu, rfl⟩ := List.mem_map.mp h
    by_cases z : u.1 = k
    · rw [if_pos z, z]; exact .inl rfl
    · rw [if_neg z]; exact .inr ⟨hu, z⟩
  · rename_i hn
    rcases List.mem_append.mp h with z | z
    · refine .inr ⟨z, fun q => hn (List.any_eq_true.mpr ⟨e, z, decide_eq_true q⟩)⟩
    · exact .inl (List.mem_singleton.mp z)
theorem aPut_keys {L : List (Str × α)} {k : Str} (v : α) : (aPut L k v).map (·.1) = if (L.any fun e => decide (e.1 = k)) = true then L.map (·.1) else L.map (·.1) ++ [k] := by
  unfold aPut
  split
  · rw [List.map_map]
    refine List.map_congr_left fun e _ => ?_
    show (if e.1 = k then (e.1, v) else e).1 = e.1
    split <;> rfl
  · rw [List.map_append]
    rfl
theorem aPut_nd {L : List (Str × α)} {k : Str} (v : α) (nd : (L.map (·.1)).Nodup) : ((aPut L k v).map (·.1)).Nodup := by
  rw [aPut_keys]
  split
  · exact nd
  · rename_i hn
    refine nd_snoc nd fun m => hn ?_
    obtain ⟨e, he, q⟩ := List.mem_map.mp m
    exact List.any_eq_true.mpr ⟨e, he, decide_eq_true q⟩
theorem aDrop_nd {L : List (Str × α)} {k : Str} (nd : (L.map (·.1)).Nodup) : ((aDrop L k).map (·.1)).Nodup := by
  unfold aDrop
  exact nd.sublist ((List.filter_sublist).map _)
theorem aPut_len {L : List (Str × α)} {k : Str} (v : α) : (aPut L k v).length ≤ L.length + 1 := by
  unfold aPut
  split
  · rw [List.length_map]; omega
  · rw [List.length_append]; exact Nat.le_refl _
theorem aDrop_len {L : List (Str × α)} {k : Str} : (aDrop L k).length ≤ L.length := List.length_filter_le ..
theorem aGet_put (L : List (Str × α)) (k j : Str) (v : α) : aGet (aPut L k v) j = if j = k then some v else aGet L j := by
  have h := valV_put (enc (fun _ => V.non) L) (Sum.inr k) (Sum.inr j) V.non
  unfold aPut aGet
  by_cases a : (L.any fun e => decide (e.1 = k)) = true
  · rw [if_pos a]
    clear h
    induction L with
    | nil => simp at a
    | cons e r ih =>
      rw [List.map_cons, List.find?_cons, List.find?_cons]
      by_cases hk : e.1 = k
      · rw [if_pos hk]
        by_cases hj : e.1 = j
        · have : j = k := hj.symm.trans hk
          subst this
          simp [hk]
        · have njk : ¬ j = k := fun z => hj (hk.trans z.symm)
          simp only [decide_eq_false hj, if_neg njk]
          have e2 : (r.map fun e => if e.1 = k then (e.1, v) else e).find? (fun e => decide (e.1 = j)) = r.find? fun e => decide (e.1 = j) := by
            clear ih a
            induction r with
            | nil => rfl
            | cons u t ih2 =>
              rw [List.map_cons, List.find?_cons, List.find?_cons, ih2]
              by_cases hu : u.1 = k
              · rw [if_pos hu]
                have nj : ¬ u.1 = j := fun z => njk (z.symm.trans hu)
                simp only [decide_eq_false nj]
              · rw [if_neg hu]
          rw [e2]
      · rw [if_neg hk]
        by_cases hj : e.1 = j
        · have njk : ¬ j = k := fun z => hk (hj.trans z)
          simp [hj, njk]
        · simp only [decide_eq_false hj]
          have a2 : (r.any fun e => decide (e.1 = k)) = true := by
            rw [List.any_cons, decide_eq_false hk, Bool.false_or] at a
            exact a
          exact ih a2
  · rw [if_neg a]
    clear h
    have hn : ∀ e ∈ L, e.1 ≠ k := fun e he q => a (List.any_eq_true.mpr ⟨e, he, decide_eq_true q⟩)
    rw [List.find?_append]
    by_cases hj : j = k
    · subst hj
      have e1 : L.find? (fun e => decide (e.1 = j)) = none := List.find?_eq_none.mpr fun e he => by simpa using hn e he
      simp [e1]
    · rw [if_neg hj]
      have e2 : ([(k, v)] : List (Str × α)).find? (fun e => decide (e.1 = j)) = none := by
        rw [List.find?_cons]
        simp only [decide_eq_false (fun z : k = j => hj z.symm)]
        rfl
      rw [e2]
      simp
theorem aGet_drop (L : List (Str × α)) (k j : Str) : aGet (aDrop L k) j = if j = k then none else aGet L j := by
  unfold aDrop aGet
  induction L with
  | nil => simp
  | cons e r ih =>
    rw [List.filter_cons]
    by_cases hk : e.1 = k
    · rw [if_neg (by simp [hk])]
      rw [ih]
      by_cases hj : j = k
      · simp [hj]
      · have : ¬ e.1 = j := fun z => hj (z.symm.trans hk)
        simp [hj, List.find?_cons, this]
    · rw [if_pos (by simp [hk]), List.find?_cons]
      by_cases hj : e.1 = j
      · have : ¬ j = k := fun z => hk (hj.trans z)
        simp [hj, this, List.find?_cons]
      · simp only [decide_eq_false hj]
        rw [ih]
        simp [List.find?_cons, hj]
end
/-! ## 5. defs that may raise, by their promises -/
section
variable (P : Program) (w : World) (K : PySem.W.Frag) (mg : Str → Option Value) (base : Heap)
/-- a def by its name -/
structure CalX (k : Nat) (x : Str) (sp : Sp) (dvs : List V) : Prop where
  ex : ∃ (f : Addr) (fd : FuncData) (ps : List Str) (ds : List Value), FnOk P w K mg base (L2.CX P w) k f fd ps sp ∧ mg x = some (.ref f) ∧ PySem.W.keepIn K (.ref f) = true ∧ Binds K fd ps ds ∧ Vals dvs ds
/-- a class by its name -/
structure MakX (k : Nat) (x : Str) (C : Addr) (sp : Sp) (dvs : List V) : Prop where
  ex : ∃ (f : Addr) (fd : FuncData) (ps : List Str) (ds : List Value), Mk K C f ∧ FnOk P w K mg base (L2.CX P w) k f fd ps sp ∧ mg x = some (.ref C) ∧ Binds K fd ps ds ∧ Vals dvs ds
/-- a method of a class -/
structure MetX (k : Nat) (C : Addr) (m : Str) (sp : Sp) (dvs : List V) : Prop where
  ex : ∃ (f : Addr) (fd : FuncData) (ps : List Str) (ds : List Value), Cls K C ∧ Meth K C m f ∧ FnOk P w K mg base (L2.CX P w) k f fd ps sp ∧ Binds K fd ps ds ∧ Vals dvs ds
end
section
variable {X : Cx} {k j : Nat} {x m : Str} {C : Addr} {sp : Sp} {dvs : List V} {E : XK} {p pos apos : Pos} {e o : Expr} {es : List Expr} {t : TA} {ta : TE}
theorem pe_cX (c : CalX X.prog X.w X.K X.mg X.base k x sp dvs) (hr : Room j X.A) (hk : k ≤ j) (hg : Gl X x) (hx : Passes (L2.CX X.prog X.w) X E) (ha : PA X (e :: es) t) (hdb : (x == ("__debug__" : Str)) = false := by decide)
    (he : starEach (e :: es) X.env = (false, eval e X.env) :: starEach es X.env := by rfl) (hpl : (backTo pos (starEach es X.env)).any (·.1) = false := by rfl) : PE X (.Call (.Name x p) (e :: es) [] pos) (tCall sp dvs E t) := by
  obtain ⟨f, fd, ps, ds, F, hm, kp, hb, hd⟩ := c.ex
  exact pe_call F (hr.mono hk) hg hm kp hb hd hx ha hdb he hpl
theorem pe_cX0 (c : CalX X.prog X.w X.K X.mg X.base k x sp dvs) (hr : Room j X.A) (hk : k ≤ j) (hg : Gl X x) (hx : Passes (L2.CX X.prog X.w) X E) (hdb : (x == ("__debug__" : Str)) = false := by decide) : PE X (.Call (.Name x p) [] [] pos) (tCall sp dvs E tNil) := by
  obtain ⟨f, fd, ps, ds, F, hm, kp, hb, hd⟩ := c.ex
  exact pe_call0 F (hr.mono hk) hg hm kp hb hd hx hdb
theorem pe_mkX (c : MakX X.prog X.w X.K X.mg X.base k x C sp dvs) (hr : Room j X.A) (hk : k + 1 ≤ j) (hg : Gl X x) (hx : Passes (L2.CX X.prog X.w) X E) (ha : PA X (e :: es) t) (hdb : (x == ("__debug__" : Str)) = false := by decide)
    (he : starEach (e :: es) X.env = (false, eval e X.env) :: starEach es X.env := by rfl) (hpl : (backTo pos (starEach es X.env)).any (·.1) = false := by rfl) : PE X (.Call (.Name x p) (e :: es) [] pos) (tMake C sp dvs E t) := by
  obtain ⟨f, fd, ps, ds, M, F, hm, hb, hd⟩ := c.ex
  exact pe_make M F (hr.mono hk) hg hm hb hd hx ha hdb he hpl
theorem pe_mkX0 (c : MakX X.prog X.w X.K X.mg X.base k x C sp dvs) (hr : Room j X.A) (hk : k + 1 ≤ j) (hg : Gl X x) (hx : Passes (L2.CX X.prog X.w) X E) (hdb : (x == ("__debug__" : Str)) = false := by decide) : PE X (.Call (.Name x p) [] [] pos) (tMake C sp dvs E tNil) := by
  obtain ⟨f, fd, ps, ds, M, F, hm, hb, hd⟩ := c.ex
  exact pe_make0 M F (hr.mono hk) hg hm hb hd hx hdb
theorem pe_mX {pl : Sem Bool} (c : MetX X.prog X.w X.K X.mg X.base k C m sp dvs) (hr : Room j X.A) (hk : k ≤ j) (hx : Passes (L2.CX X.prog X.w) X E) (he : PE X o ta) (ha : PA X (e :: es) t)
    (hst : starEach (e :: es) X.env = (false, eval e X.env) :: starEach es X.env := by rfl) (hpl : (backTo pos (starEach es X.env)).any (·.1) = false := by rfl)
    (ht : eval (.Call (.Attribute o m apos) (e :: es) [] pos) X.env = (do
      let ov ← eval o X.env
      standAt apos.atName
      let (f, first) ← holding [ov] (getMethod ov m pl)
      callWith pos f first (backTo pos (starEach (e :: es) X.env)) (backToKw pos (keywordEach [] X.env))) := by rfl) :
    PE X (.Call (.Attribute o m apos) (e :: es) [] pos) (tMeth C m sp dvs E ta t) := by
  obtain ⟨f, fd, ps, ds, c1, M, F, hb, hd⟩ := c.ex
  exact pe_meth he c1 M F (hr.mono hk) hb hd hx ha hst hpl ht
theorem pe_mX0 {pl : Sem Bool} (c : MetX X.prog X.w X.K X.mg X.base k C m sp dvs) (hr : Room j X.A) (hk : k ≤ j) (hx : Passes (L2.CX X.prog X.w) X E) (he : PE X o ta)
    (ht : eval (.Call (.Attribute o m apos) [] [] pos) X.env = (do
      let ov ← eval o X.env
      standAt apos.atName
      let (f, first) ← holding [ov] (getMethod ov m pl)
      callWith pos f first (backTo pos (starEach [] X.env)) (backToKw pos (keywordEach [] X.env))) := by rfl) :
    PE X (.Call (.Attribute o m apos) [] [] pos) (tMeth C m sp dvs E ta tNil) := by
  obtain ⟨f, fd, ps, ds, c1, M, F, hb, hd⟩ := c.ex
  exact pe_meth0 he c1 M F (hr.mono hk) hb hd hx ht
end
/-! ## 6. the context of a def that may raise -/
section
variable {P : Program} {w : World} {K : PySem.W.Frag} {mg : Str → Option Value} {base : Heap} {N : List Str} {qual : Str} {scope : Scope} {f : Addr} {cd : Value} {A : Around} {outer : List Env} {s : Shared} {H : Hp} {E : XK}
theorem tkX : Takes (cxOf (L2.CX P w) P w K mg base N qual scope f cd A outer s H E) (fun cls d _ H => E cls d H) := takes_of rfl rfl rfl rfl
theorem paX : Passes (L2.CX P w) (cxOf (L2.CX P w) P w K mg base N qual scope f cd A outer s H E) E := passes_call tkX fun _ _ _ _ z => z
theorem poX : PassesOwn (model P w) (A.deeper (envOfC qual scope s.heap.objs.size f cd)) (cxOf (L2.CX P w) P w K mg base N qual scope f cd A outer s H E).env (cxOf (L2.CX P w) P w K mg base N qual scope f cd A outer s H E).xe := passes_of rfl
end
theorem hU_of {A : Around} {k : Nat} (hr : Room k A) : A.units + 64 < cLine := by
  have := hr.un
  omega
theorem hV_of {A : Around} {k : Nat} (hr : Room k A) : A.units < cLine := by
  have := hr.un
  omega
/-! ## 7. the rules with the written part said (K), readings by names -/
section
variable {X : Cx} {K : PySem.W.Frag} {e o a b l value : Expr} {es : List Expr} {f : Str} {pos pos' tpos p : Pos} {ta tv tb te tl : TE} {tg : Expr} {t : TA}
theorem pe_fldK (hK : X.K = K) (he : PE X e ta) (hb : attributeBase e f X.env (eval e X.env) = eval e X.env) : PE X (.Attribute e f pos) (tFld K ta f) := by
  subst hK; exact pe_fld he hb
theorem ps_fldK (hK : X.K = K) (ha : PE X o ta) (hv : PE X value tv) (hs : swapsWith value (some (.Attribute o f pos')) pos.line X.env = pure false) : PS X (.Assign [.Attribute o f pos'] value pos) (sFld K ta tv f) := by
  subst hK; exact ps_fld ha hv hs
theorem ps_fldaugK {op : Operator} {rd : V → V → Hp → VK → Prop} (hK : X.K = K) (ha : PE X o ta) (hv : PE X value tv) (hop : InOp X op rd) : PS X (.AugAssign (.Attribute o f tpos) op value pos) (sFldAug K ta tv rd f) := by
  subst hK; exact ps_fldaug ha hv hop
theorem ix_listK (hK : X.K = K) : IxR X (rIxL K) := by subst hK; exact ix_list
theorem ix_tupK (hK : X.K = K) : IxR X (rIxT K) := by subst hK; exact ix_tup
theorem op_inK (hK : X.K = K) : OpR X (compareOp .In) (rIn K false) := by subst hK; exact op_in_seq
theorem op_notInK (hK : X.K = K) : OpR X (compareOp .NotIn) (rIn K true) := by subst hK; exact op_notIn_seq
theorem op_eqDK (hK : X.K = K) (hu : X.A.units + 64 < cLine) : OpR X (compareOp .Eq) (rEqD K) := by subst hK; exact op_eqD hu
theorem op_neDK (hK : X.K = K) (hu : X.A.units + 64 < cLine) : OpR X (compareOp .NotEq) (rNeD K) := by subst hK; exact op_neD hu
def rLenA (K : PySem.W.Frag) : List V → Hp → VK → Prop := fun xs H Q => ∃ x n, xs = [x] ∧ LenV K x H n ∧ Q (.int n) H
theorem call_lenK (hK : X.K = K) : CallR X (.builtin "len") (rLenA K) := by subst hK; exact call_len
def rLenD : List V → Hp → VK → Prop := fun xs H Q => ∃ a kvs, xs = [V.ref a] ∧ H a = some (.dK kvs) ∧ Q (.int kvs.length) H
theorem call_lenDN : CallR X (.builtin "len") rLenD := call_lenD
def tTruK (K : PySem.W.Frag) (ta : TE) : TT := fun σ H Q => ta σ H fun x H' => ∃ k, TruV K x H' k ∧ Q k H'
theorem pt_truthK (hK : X.K = K) (ha : PE X a ta) (he : ∀ whole, isTrue a X.env whole = (do let v ← whole; standAt a.pos; holding [v] (truthy v))) : PT X a (tTruK K ta) := by
  subst hK; exact pt_truth ha he
theorem pe_tupleOfK (hK : X.K = K) (hg : Gl X "tuple") (hm : X.mg "tuple" = none) (ha : PE X a ta) (na : starEach [a] X.env = (false, eval a X.env) :: starEach [] X.env := by rfl) : PE X (.Call (.Name "tuple" p) [a] [] pos) (tThen ta (kTup K)) := by
  subst hK; exact pe_tupleOf hg hm ha na
theorem pi_listK (hK : X.K = K) (hl : PE X l tl) : PI X tg l (iList K tl) := by subst hK; exact pi_list hl
theorem pi_tupK (hK : X.K = K) (hl : PE X l tl) : PI X tg l (iTup K tl) := by subst hK; exact pi_tup hl
theorem sl_listK (hK : X.K = K) : SlR X (rSlL K) := by subst hK; exact sl_list
theorem sl_tupAK (hK : X.K = K) : SlR X (rSlA K) := by subst hK; exact sl_tupA
theorem pg_tupK {k n : Nat} {t : TGs} (hK : X.K = K) (hc : X.calm = true) (h : PGs X es t) (hn : (assignEach es X.env).length = n := by rfl) (hst : (assignEach es X.env).findIdx? (·.1) = none := by rfl) : PG X (.Tuple es k pos) (gTup K n t) := by
  subst hK; exact pg_tup hc h hn hst
theorem pg_unlK {k n : Nat} {t : TGs} (hK : X.K = K) (hc : X.calm = true) (h : PGs X es t) (hn : (assignEach es X.env).length = n := by rfl) (hst : (assignEach es X.env).findIdx? (·.1) = none := by rfl) : PG X (.Tuple es k pos) (gUnl K n t) := by
  subst hK; exact pg_unl hc h hn hst
theorem op_catTK (hK : X.K = K) : OpR X (binaryOp .Add) (rCatT K) := by subst hK; exact op_catT
def rDictP (K : PySem.W.Frag) : List V → Hp → VK → Prop := fun xs H Q => ∃ (a : Addr) (ps : List Addr) (kvs : List (Key × V)), xs = [.ref a] ∧ SqL K H a (ps.map V.ref) ∧ Paired (fun p kv => SqT K H p [kV kv.1, kv.2]) ps kvs ∧ ∀ p, H p = none → Q (.ref p) (upd H p (.dK (mergeK [] kvs)))
theorem call_dictPK (hK : X.K = K) (hc : X.calm = true) : CallR X (.type "dict") (rDictP K) := by subst hK; exact call_dictP hc
theorem cr_sortedSK (hK : X.K = K) : CallR X (.builtin "sorted") (rSortedS K) := by subst hK; exact cr_sortedS
theorem cr_sortedK (hK : X.K = K) : CallR X (.builtin "sorted") (rSorted K) := by subst hK; exact cr_sorted
def rSortD : List V → Hp → VK → Prop := fun xs H Q => ∃ (a : Addr) (kvs : List (Key × V)) (ks : List Str), xs = [.ref a] ∧ Rd H a (.dK kvs) ∧ kvs.map (·.1) = ks.map Sum.inr ∧ ks.length < 64 ∧ ∀ ys p, ys.Perm ks → sortedS ys = true → H p = none → Q (.ref p) (upd H p (.lst (ys.map V.str)))
theorem call_sortedDN (hc : X.calm = true) : CallR X (.builtin "sorted") rSortD := call_sortedD hc
def rAbs : List V → Hp → VK → Prop := fun xs H Q => ∃ i, xs = [.int i] ∧ Q (.int (if i < 0 then -i else i)) H
theorem call_absN : CallR X (.builtin "abs") rAbs := call_abs
def rMin2 : List V → Hp → VK → Prop := fun xs H Q => ∃ i j, xs = [.int i, .int j] ∧ Q (.int (if j < i then j else i)) H
theorem call_min2N (hc : X.calm = true) : CallR X (.builtin "min") rMin2 := call_min2 hc
def rMax2 : List V → Hp → VK → Prop := fun xs H Q => ∃ i j, xs = [.int i, .int j] ∧ Q (.int (if j > i then j else i)) H
theorem call_max2N (hc : X.calm = true) : CallR X (.builtin "max") rMax2 := call_max2 hc
def rInt1 : List V → Hp → VK → Prop := fun xs H Q => (∃ i, xs = [.int i] ∧ Q (.int i) H) ∨ ∃ k, xs = [.bl k] ∧ Q (.int (if k then 1 else 0)) H
theorem call_int1N : CallR X (.type "int") rInt1 := call_int1
def rStrI : List V → Hp → VK → Prop := fun xs H Q => ∃ i, xs = [.int i] ∧ i.natAbs.log2 < 1920 ∧ Q (.str (toString i)) H
theorem call_str_intN : CallR X (.type "str") rStrI := call_str_int
def rEqDict : R2 := fun x y H Q => ∃ a b kvs, x = .ref a ∧ y = .ref b ∧ H a = some (.dK kvs) ∧ H b = some (.dK kvs) ∧ (kvs.map (·.1)).Nodup ∧ (∀ p ∈ kvs, flatB p.2 = true) ∧ Q (.bl true) H
theorem op_eq_dictN (hu : X.A.units < cLine) : OpR X (compareOp .Eq) rEqDict := op_eq_dict hu
def rIsN : R2 := fun x y H Q => y = .non ∧ Q (.bl (decide (x = .non))) H
theorem op_isNN : OpR X (compareOp .Is) rIsN := op_isN
def rNotN : R2 := fun x y H Q => y = .non ∧ Q (.bl (!decide (x = .non))) H
theorem op_notNN : OpR X (compareOp .IsNot) rNotN := op_notN
def rAddS : R2 := fun x y H Q => ∃ i j, x = .str i ∧ y = .str j ∧ i.length + j.length ≤ sizeLine ∧ Q (.str (i ++ j)) H
theorem op_add_strN : OpR X (binaryOp .Add) rAddS := op_add_str
end
/-! ## 8. their readings -/
section
variable {K : PySem.W.Frag} {σ : L2.St} {H : Hp} {Q : VK} {v x y : V} {ta tb tc te td ty tx : TE} {i : Nat} {D : Ends} {QB : Bool → Hp → Prop} {a : Addr} {kvs : List (Key × V)} {k : Key}
theorem g_abs {i : Int} (q : Q (.int (if i < 0 then -i else i)) H) : rAbs [.int i] H Q := ⟨i, rfl, q⟩
theorem g_min {i j : Int} (q : Q (.int (min i j)) H) : rMin2 [.int i, .int j] H Q := ⟨i, j, rfl, by
  have e : (if j < i then j else i) = min i j := by
    rw [Int.min_def]
    split <;> split <;> omega
  rw [e]
  exact q⟩
theorem g_max {i j : Int} (q : Q (.int (max i j)) H) : rMax2 [.int i, .int j] H Q := ⟨i, j, rfl, by
  have e : (if j > i then j else i) = max i j := by
    rw [Int.max_def]
    split <;> split <;> omega
  rw [e]
  exact q⟩
theorem g_int {i : Int} (q : Q (.int i) H) : rInt1 [.int i] H Q := .inl ⟨i, rfl, q⟩
theorem g_intB {b : Bool} (q : Q (.int (if b then 1 else 0)) H) : rInt1 [.bl b] H Q := .inr ⟨b, rfl, q⟩
theorem g_lenL {p : Addr} {xs : List V} (h : SqL K H p xs) (q : Q (.int xs.length) H) : rLenA K [.ref p] H Q := ⟨.ref p, xs.length, rfl, .inl ⟨xs, h, rfl⟩, q⟩
theorem g_lenT {p : Addr} {xs : List V} (h : SqT K H p xs) (q : Q (.int xs.length) H) : rLenA K [.ref p] H Q := ⟨.ref p, xs.length, rfl, .inr ⟨xs, h, rfl⟩, q⟩
theorem g_lenS {z : Str} (h : z.length ≤ sizeLine) (q : Q (.int z.length) H) : rLenA K [.str z] H Q := ⟨.str z, z.length, rfl, ⟨h, rfl⟩, q⟩
theorem g_lenD (h : H a = some (.dK kvs)) (q : Q (.int kvs.length) H) : rLenD [.ref a] H Q := ⟨a, kvs, rfl, h, q⟩
theorem g_isN (q : Q (.bl (decide (x = .non))) H) : rIsN x .non H Q := ⟨rfl, q⟩
theorem g_notN (q : Q (.bl (!decide (x = .non))) H) : rNotN x .non H Q := ⟨rfl, q⟩
theorem g_then {k : V → Hp → VK → Prop} (q : ta σ H fun x H1 => k x H1 Q) : tThen ta k σ H Q := q
theorem g_tupL {p : Addr} {xs : List V} (h : SqL K H p xs) (q : ∀ r, H r = none → Q (.ref r) (upd H r (.tup xs))) : kTup K (.ref p) H Q := .inl ⟨p, xs, rfl, h, q⟩
theorem g_tupT {p : Addr} {xs : List V} (h : SqT K H p xs) (q : Q (.ref p) H) : kTup K (.ref p) H Q := .inr ⟨p, xs, rfl, h, q⟩
theorem g_in {neg : Bool} {p : Addr} {xs : List V} (h : SqL K H p xs ∨ SqT K H p xs) (h1 : flatV x = true) (h2 : xs.all flatV = true) (q : Q (.bl (if neg then !inV x xs else inV x xs)) H) : rIn K neg x (.ref p) H Q := ⟨p, xs, rfl, h, h1, h2, q⟩
theorem g_eqD {d e : PyData} (h1 : Dp K H x d) (h2 : Dp K H y e) (s1 : SeqAt.shaped d = true) (s2 : SeqAt.shaped e = true) (q : Q (.bl (PyData.eqv d e)) H) : rEqD K x y H Q := ⟨d, e, h1, h2, s1, s2, q⟩
theorem g_neD {d e : PyData} (h1 : Dp K H x d) (h2 : Dp K H y e) (s1 : SeqAt.shaped d = true) (s2 : SeqAt.shaped e = true) (q : Q (.bl (!PyData.eqv d e)) H) : rNeD K x y H Q := ⟨d, e, h1, h2, s1, s2, q⟩
/-- dicts -/
theorem kV_inr (z : Str) : V.str z = kV (Sum.inr z) := rfl
def rDGet (x y : V) (H2 : Hp) (Q : VK) : Prop := ∃ a v, x = .ref a ∧ DGet H2 a y (some v) ∧ Q v H2
theorem g_dget (q : td σ H fun x H1 => ty σ H1 fun y H2 => rDGet x y H2 Q) : tDGet td ty σ H Q := q
theorem g_dgetS {z : Str} (h : H a = some (.dK kvs)) (e : valV kvs (Sum.inr z) = some v) (q : Q v H) : rDGet (.ref a) (.str z) H Q := ⟨a, v, rfl, by rw [← e]; exact DGet.k (k := Sum.inr z) h, q⟩
theorem g_dgetF {z : Str} {ob : Obj} (h : H a = some (.frz ob (.dK kvs))) (e : valV kvs (Sum.inr z) = some v) (q : Q v H) : rDGet (.ref a) (.str z) H Q := ⟨a, v, rfl, by rw [← e]; exact .inl ⟨kvs, Sum.inr z, .inr ⟨ob, h⟩, rfl, rfl⟩, q⟩
def rDIn (neg : Bool) (y x : V) (H2 : Hp) (Q : VK) : Prop := ∃ a o, x = .ref a ∧ DGet H2 a y o ∧ Q (.bl (if neg then !o.isSome else o.isSome)) H2
theorem g_din (q : ty σ H fun y H1 => td σ H1 fun x H2 => rDIn false y x H2 Q) : tDIn ty td σ H Q := by
  have e : (fun y H1 => td σ H1 fun x H2 => rDIn false y x H2 Q) = fun y H1 => td σ H1 fun x H2 => ∃ a o, x = .ref a ∧ DGet H2 a y o ∧ Q (.bl o.isSome) H2 := by
    funext y H1
    congr 1
  rw [e] at q
  exact q
theorem g_dnotin (q : ty σ H fun y H1 => td σ H1 fun x H2 => rDIn true y x H2 Q) : tDNotIn ty td σ H Q := by
  have e : (fun y H1 => td σ H1 fun x H2 => rDIn true y x H2 Q) = fun y H1 => td σ H1 fun x H2 => ∃ a o, x = .ref a ∧ DGet H2 a y o ∧ Q (.bl (!o.isSome)) H2 := by
    funext y H1
    congr 1
  rw [e] at q
  exact q
theorem g_dinS {neg : Bool} {z : Str} (h : H a = some (.dK kvs)) (q : Q (.bl (if neg then !(valV kvs (Sum.inr z)).isSome else (valV kvs (Sum.inr z)).isSome)) H) : rDIn neg (.str z) (.ref a) H Q := ⟨a, _, rfl, DGet.k (k := Sum.inr z) h, q⟩
theorem g_dinF {neg : Bool} {z : Str} {ob : Obj} (h : H a = some (.frz ob (.dK kvs))) (q : Q (.bl (if neg then !(valV kvs (Sum.inr z)).isSome else (valV kvs (Sum.inr z)).isSome)) H) : rDIn neg (.str z) (.ref a) H Q := ⟨a, _, rfl, .inl ⟨kvs, Sum.inr z, .inr ⟨ob, h⟩, rfl, rfl⟩, q⟩
def rDPut (v x y : V) (H3 : Hp) (N : Hp → Prop) : Prop := ∃ a H4, x = .ref a ∧ DPut H3 a y v H4 ∧ N H4
theorem g_dput {tv : TE} (q : tv σ H fun v H1 => td σ H1 fun x H2 => ty σ H2 fun y H3 => rDPut v x y H3 (D.nx σ)) : sDPut td ty tv D σ H := q
theorem g_dputS {z : Str} {N : Hp → Prop} (h : H a = some (.dK kvs)) (l : kvs.length < sizeLine) (q : N (upd H a (.dK (putK kvs (Sum.inr z) v)))) : rDPut v (.ref a) (.str z) H N := ⟨a, _, rfl, DPut.k (k := Sum.inr z) h l, q⟩
theorem g_dget1 (q : td σ H fun x H1 => ∃ a, x = .ref a ∧ IsD H1 a ∧ ty σ H1 fun y H2 => ∃ o, DGet H2 a y o ∧ Q (o.getD .non) H2) : tDGet1 td ty σ H Q := q
theorem g_dget2 (q : td σ H fun x H1 => ∃ a, x = .ref a ∧ IsD H1 a ∧ ty σ H1 fun y H2 => tx σ H2 fun z H3 => ∃ o, DGet H3 a y o ∧ Q (o.getD z) H3) : tDGet2 td ty tx σ H Q := q
theorem g_isD {P : Addr → Prop} (h : H a = some (.dK kvs)) (q : P a) : ∃ b, V.ref a = .ref b ∧ IsD H b ∧ P b := ⟨a, rfl, .inl ⟨kvs, .inl h⟩, q⟩
theorem g_dgo {z : Str} {P : Option V → Prop} (h : H a = some (.dK kvs)) (q : P (valV kvs (Sum.inr z))) : ∃ o, DGet H a (.str z) o ∧ P o := ⟨_, DGet.k (k := Sum.inr z) h, q⟩
end
/-! ## 9. comprehensions -/
section
variable {K : PySem.W.Frag} {σ : L2.St} {H H1 : Hp} {Q : VK} {D a : Addr} {tl td : TE} {tt : TT} {te : TE} {i0 : Nat}
/-- what a test, an expression answers, the heap as it was -/
def An (t : TT) (σ : L2.St) (H : Hp) (b : Bool) : Prop := ∀ R : Bool → Hp → Prop, R b H → t σ H R
def Vl (t : TE) (σ : L2.St) (H : Hp) (v : V) : Prop := ∀ R : VK, R v H → t σ H R
theorem an_yes {σ : L2.St} {H : Hp} : An tYes σ H true := fun _ q => q
theorem paired_snoc {α β : Type} {F : α → β → Prop} {a : α} {b : β} (r : F a b) : ∀ {l : List α} {m : List β}, Paired F l m → Paired F (l ++ [a]) (m ++ [b])
  | _, _, .nil => .cons r .nil
  | _, _, .cons h t => .cons h (paired_snoc r t)
theorem wipe_one (σ : L2.St) (i : Nat) : wipe σ [i] = σ.set i none := rfl
theorem wipe_set (σ : L2.St) (i : Nat) (x : Option V) : wipe ((wipe σ [i]).set i x) [i] = wipe σ [i] := by
  rw [wipe_one, wipe_one, List.set_set, List.set_set]
theorem take_snoc {α : Type} {l : List α} {i : Nat} {x : α} (h : l[i]? = some x) : l.take (i + 1) = l.take i ++ [x] := by
  rw [List.take_add_one, h]
  rfl
theorem take_mem {α : Type} {l : List α} {i : Nat} {x : α} (h : l[i]? = some x) : x ∈ l := List.mem_of_getElem? h
/-- element and test leave the heap alone -/
theorem lc_pure {J : It} {G : Hp → Prop} {items : List V} (w : Walk J items.length G (YAt items)) (hG : ∀ l, G (upd H1 D (.lst l))) (hz : items.length < sizeLine) (p : V → Bool) (f : V → V)
    (ht : ∀ x ∈ items, ∀ l, An tt ((wipe σ [i0]).set i0 (some x)) (upd H1 D (.lst l)) (p x)) (he : ∀ x ∈ items, p x = true → ∀ l, Vl te ((wipe σ [i0]).set i0 (some x)) (upd H1 D (.lst l)) (f x)) (q : Q (.ref D) (upd H1 D (.lst ((items.filter p).map f)))) :
    ∃ W : Nat → Nat → Hp → Prop, (∃ m, W 0 m (upd H1 D (.lst []))) ∧ ∀ i m H, W i m H →
      (J.stop i H ∧ Q (.ref D) H) ∨ (J.go i H ∧ ∃ Nx : Hp → Prop, (∀ H', Nx H' → ∃ m', m' < m ∧ W (i + 1) m' H') ∧ ∀ x H', J.yld i H x H' → gName i0 x (wipe σ [i0]) H' fun σ2 H2 => wipe σ2 [i0] = wipe σ [i0] ∧ tt σ2 H2 fun b H3 =>
        if b = true then te σ2 H3 fun y H4 => ∃ acc, H4 D = some (.lst acc) ∧ acc.length < sizeLine ∧ Nx (upd H4 D (.lst (acc ++ [y]))) else Nx H3) := by
  refine lc_it (Qd := fun H => Q (.ref D) H) w (fun i H => H = upd H1 D (.lst (((items.take i).filter p).map f))) rfl (fun i H _ e => by rw [e]; exact hG _) (fun i x H H' hi e y => ?_) (fun H e => by rw [e, List.take_length]; exact q)
  obtain ⟨rfl, hx⟩ := y
  subst e
  have hm := take_mem hx
  show wipe ((wipe σ [i0]).set i0 (some x)) [i0] = wipe σ [i0] ∧ _
  refine ⟨wipe_set σ i0 _, ht x hm _ _ ?_⟩
  have len : (((items.take i).filter p).map f).length < sizeLine := by
    rw [List.length_map]
    have := List.length_filter_le p (items.take i)
    have := List.length_take_le i items
    omega
  cases hp : p x with
  | false =>
    refine iteF ?_
    rw [take_snoc hx, List.filter_append, List.filter_cons, if_neg (by rw [hp]; exact Bool.false_ne_true), List.filter_nil, List.append_nil]
  | true =>
    refine iteT (he x hm hp _ _ ?_)
    refine ⟨_, upd_same, len, ?_⟩
    rw [upd_upd, take_snoc hx, List.filter_append, List.filter_cons, if_pos hp, List.filter_nil, List.map_append]
    all_goals rfl
/-- each element a new tuple -/
theorem lc_tups {J : It} {G : Hp → Prop} {items : List V} (w : Walk J items.length G (YAt items)) (hG : ∀ H', (∀ b o, H1 b = some o → H' b = some o) → G H') (hD : H1 D = none) (hz : items.length < sizeLine) (p : V → Bool) (c : V → List V)
    (ht : ∀ x ∈ items, ∀ H', (∀ b o, H1 b = some o → H' b = some o) → An tt ((wipe σ [i0]).set i0 (some x)) H' (p x))
    (he : ∀ x ∈ items, p x = true → ∀ H', (∀ b o, H1 b = some o → H' b = some o) → ∀ R : VK, (∀ t, H' t = none → R (.ref t) (upd H' t (.tup (c x)))) → te ((wipe σ [i0]).set i0 (some x)) H' R)
    (q : ∀ (H' : Hp) (ps : List Addr), (∀ b o, H1 b = some o → H' b = some o) → H' D = some (.lst (ps.map V.ref)) → Paired (fun t x => H1 t = none ∧ t ≠ D ∧ H' t = some (.tup (c x))) ps (items.filter p) → Q (.ref D) H') :
    ∃ W : Nat → Nat → Hp → Prop, (∃ m, W 0 m (upd H1 D (.lst []))) ∧ ∀ i m H, W i m H →
      (J.stop i H ∧ Q (.ref D) H) ∨ (J.go i H ∧ ∃ Nx : Hp → Prop, (∀ H', Nx H' → ∃ m', m' < m ∧ W (i + 1) m' H') ∧ ∀ x H', J.yld i H x H' → gName i0 x (wipe σ [i0]) H' fun σ2 H2 => wipe σ2 [i0] = wipe σ [i0] ∧ tt σ2 H2 fun b H3 =>
        if b = true then te σ2 H3 fun y H4 => ∃ acc, H4 D = some (.lst acc) ∧ acc.length < sizeLine ∧ Nx (upd H4 D (.lst (acc ++ [y]))) else Nx H3) := by
  refine lc_it (Qd := fun H => Q (.ref D) H) w (fun i H => ∃ ps : List Addr, (∀ b o, H1 b = some o → H b = some o) ∧ H D = some (.lst (ps.map V.ref)) ∧ Paired (fun t x => H1 t = none ∧ t ≠ D ∧ H t = some (.tup (c x))) ps ((items.take i).filter p))
    ⟨[], Kp.to_same (Kp.new Kp.refl hD), upd_same, .nil⟩ (fun i H _ ⟨_, e, _⟩ => hG H e) (fun i x H H' hi hh y => ?_) (fun H ⟨ps, e1, e2, e3⟩ => q H ps e1 e2 (by rw [List.take_length] at e3; exact e3))
  obtain ⟨ps, s1, hDl, hp2⟩ := hh
  obtain ⟨rfl, hx⟩ := y
  have hm := take_mem hx
  show wipe ((wipe σ [i0]).set i0 (some x)) [i0] = wipe σ [i0] ∧ _
  refine ⟨wipe_set σ i0 _, ht x hm _ s1 _ ?_⟩
  cases hp : p x with
  | false =>
    refine iteF ⟨ps, s1, hDl, ?_⟩
    rw [take_snoc hx, List.filter_append, List.filter_cons, if_neg (by rw [hp]; exact Bool.false_ne_true), List.filter_nil, List.append_nil]
    exact hp2
  | true =>
    refine iteT (he x hm hp _ s1 _ fun t nt => ?_)
    have nDt : D ≠ t := ne_of_none hDl nt
    have nt1 : H1 t = none := by
      cases e : H1 t with
      | none => rfl
      | some o => rw [s1 t o e] at nt; cases nt
    have len : (ps.map V.ref).length < sizeLine := by
      rw [List.length_map, Paired.length hp2]
      have := List.length_filter_le p (items.take i)
      have := List.length_take_le i items
      omega
    refine ⟨_, (upd_ne nDt).trans hDl, len, ps ++ [t], ?_, ?_, ?_⟩
    · intro b o e
      rw [upd_ne (ne_of_none e hD), upd_ne (ne_of_none e nt1)]
      exact s1 b o e
    · rw [upd_same, List.map_append]
      rfl
    · rw [take_snoc hx, List.filter_append, List.filter_cons, if_pos hp, List.filter_nil]
      refine paired_snoc ⟨nt1, nDt.symm, by rw [upd_ne nDt.symm, upd_same]⟩ (Paired.mapP hp2 fun u z ⟨h1, h2, h3⟩ => ⟨h1, h2, ?_⟩)
      rw [upd_ne h2, upd_ne (ne_of_none h3 nt)]
      exact h3
/-- what a comprehension asks behind its iterable -/
def LcRun (J : It) (g : TG) (tt : TT) (te : TE) (vs : List Nat) (σ : L2.St) (H1 : Hp) (D : Addr) (Q : VK) : Prop := ∃ W : Nat → Nat → Hp → Prop, (∃ m, W 0 m (upd H1 D (.lst []))) ∧ ∀ i m H, W i m H →
  (J.stop i H ∧ Q (.ref D) H) ∨ (J.go i H ∧ ∃ Nx : Hp → Prop, (∀ H', Nx H' → ∃ m', m' < m ∧ W (i + 1) m' H') ∧ ∀ x H', J.yld i H x H' → g x (wipe σ vs) H' fun σ2 H2 => wipe σ2 vs = wipe σ vs ∧ tt σ2 H2 fun b H3 =>
    if b = true then te σ2 H3 fun y H4 => ∃ acc, H4 D = some (.lst acc) ∧ acc.length < sizeLine ∧ Nx (upd H4 D (.lst (acc ++ [y]))) else Nx H3)
theorem g_lcl {g : TG} {vs : List Nat} (q : tl σ H fun x H1 => ∃ a, x = .ref a ∧ (∃ xs, SqL K H1 a xs) ∧ ∀ D, H1 D = none → LcRun (Itl K a) g tt te vs σ H1 D Q) : tLc (iList K tl) g tt te vs σ H Q := q
theorem r_lclP {xs : List V} (h : SqL K H1 a xs) (hz : xs.length < sizeLine) (p : V → Bool) (f : V → V) (ht : ∀ x ∈ xs, ∀ D l, H1 D = none → An tt ((wipe σ [i0]).set i0 (some x)) (upd H1 D (.lst l)) (p x))
    (he : ∀ x ∈ xs, p x = true → ∀ D l, H1 D = none → Vl te ((wipe σ [i0]).set i0 (some x)) (upd H1 D (.lst l)) (f x)) (q : ∀ D, H1 D = none → Q (.ref D) (upd H1 D (.lst ((xs.filter p).map f)))) :
    ∃ b, V.ref a = .ref b ∧ (∃ xs, SqL K H1 b xs) ∧ ∀ D, H1 D = none → LcRun (Itl K b) (gName i0) tt te [i0] σ H1 D Q :=
  ⟨a, rfl, ⟨xs, h⟩, fun D hD => lc_pure (walk_list (xs := xs)) (fun l => Kp.seq (M := []) (Kp.new Kp.refl hD) (by simp) h) hz p f (fun x hx l => ht x hx D l hD) (fun x hx hp l => he x hx hp D l hD) (q D hD)⟩
theorem r_lclT {xs : List V} (h : SqL K H1 a xs) (hz : xs.length < sizeLine) (p : V → Bool) (c : V → List V) (ht : ∀ x ∈ xs, ∀ H', Same H1 H' → An tt ((wipe σ [i0]).set i0 (some x)) H' (p x))
    (he : ∀ x ∈ xs, p x = true → ∀ H', Same H1 H' → ∀ R : VK, (∀ t, H' t = none → R (.ref t) (upd H' t (.tup (c x)))) → te ((wipe σ [i0]).set i0 (some x)) H' R)
    (q : ∀ (D : Addr) (H' : Hp) (ps : List Addr), H1 D = none → Same H1 H' → H' D = some (.lst (ps.map V.ref)) → Paired (fun t x => H1 t = none ∧ t ≠ D ∧ H' t = some (.tup (c x))) ps (xs.filter p) → Q (.ref D) H') :
    ∃ b, V.ref a = .ref b ∧ (∃ xs, SqL K H1 b xs) ∧ ∀ D, H1 D = none → LcRun (Itl K b) (gName i0) tt te [i0] σ H1 D Q :=
  ⟨a, rfl, ⟨xs, h⟩, fun D hD => lc_tups (walk_list (xs := xs)) (fun H' e => Kp.seq (M := []) (Kp.same e) (by simp) h) hD hz p c ht he fun H' ps e1 e2 e3 => q D H' ps hD e1 e2 e3⟩
/-- over a range -/
theorem g_lcr {g : TG} {vs : List Nat} {ta : TA} (q : ta σ H fun ws H1 => ∃ j : Int, ws = [.int j] ∧ -(2 ^ 62) ≤ j ∧ j < 2 ^ 62 ∧ ∀ D, H1 D = none → LcRun (Itr 0 j.toNat) g tt te vs σ H1 D Q) : tLc (iRng1 ta) g tt te vs σ H Q := q
def rngV (n : Nat) : List V := (List.range n).map fun i : Nat => V.int (i : Int)
theorem rngV_at {n i : Nat} (h : i < n) : (rngV n)[i]? = some (.int (i : Int)) := by
  unfold rngV
  rw [List.getElem?_map, List.getElem?_range h]
  rfl
theorem rngV_len (n : Nat) : (rngV n).length = n := by
  unfold rngV
  rw [List.length_map, List.length_range]
theorem rngV_mem {n : Nat} {x : V} (h : x ∈ rngV n) : ∃ i : Nat, i < n ∧ x = .int (i : Int) := by
  obtain ⟨i, hi, rfl⟩ := List.mem_map.mp h
  exact ⟨i, List.mem_range.mp hi, rfl⟩
theorem walk_rng (n : Nat) : Walk (Itr 0 n) (rngV n).length (fun _ => True) (YAt (rngV n)) := by
  rw [rngV_len]
  refine (walk_range (lo := 0) (n := n)).mono (fun _ h => h) fun i H x H' hi _ y => ?_
  obtain ⟨e1, e2⟩ := y
  refine ⟨e1, ?_⟩
  rw [rngV_at hi, e2]
  show some (V.int (i : Int)) = some (V.int (0 + (i : Int)))
  rw [Int.zero_add]
theorem r_lcrP {j : Int} (h0 : 0 ≤ j) (hz : j < 16777216) (p : V → Bool) (f : V → V) (ht : ∀ x ∈ rngV j.toNat, ∀ D l, H1 D = none → An tt ((wipe σ [i0]).set i0 (some x)) (upd H1 D (.lst l)) (p x))
    (he : ∀ x ∈ rngV j.toNat, p x = true → ∀ D l, H1 D = none → Vl te ((wipe σ [i0]).set i0 (some x)) (upd H1 D (.lst l)) (f x)) (q : ∀ D, H1 D = none → Q (.ref D) (upd H1 D (.lst (((rngV j.toNat).filter p).map f)))) :
    ∃ k : Int, [V.int j] = [.int k] ∧ -(2 ^ 62) ≤ k ∧ k < 2 ^ 62 ∧ ∀ D, H1 D = none → LcRun (Itr 0 k.toNat) (gName i0) tt te [i0] σ H1 D Q :=
  ⟨j, rfl, by omega, by omega, fun D hD => lc_pure (walk_rng j.toNat) (fun _ => trivial) (by rw [rngV_len, sizeLine_eq]; omega) p f (fun x hx l => ht x hx D l hD) (fun x hx hp l => he x hx hp D l hD) (q D hD)⟩
theorem r_lcrT {j : Int} (h0 : 0 ≤ j) (hz : j < 16777216) (p : V → Bool) (c : V → List V) (ht : ∀ x ∈ rngV j.toNat, ∀ H', Same H1 H' → An tt ((wipe σ [i0]).set i0 (some x)) H' (p x))
    (he : ∀ x ∈ rngV j.toNat, p x = true → ∀ H', Same H1 H' → ∀ R : VK, (∀ t, H' t = none → R (.ref t) (upd H' t (.tup (c x)))) → te ((wipe σ [i0]).set i0 (some x)) H' R)
    (q : ∀ (D : Addr) (H' : Hp) (ps : List Addr), H1 D = none → Same H1 H' → H' D = some (.lst (ps.map V.ref)) → Paired (fun t x => H1 t = none ∧ t ≠ D ∧ H' t = some (.tup (c x))) ps ((rngV j.toNat).filter p) → Q (.ref D) H') :
    ∃ k : Int, [V.int j] = [.int k] ∧ -(2 ^ 62) ≤ k ∧ k < 2 ^ 62 ∧ ∀ D, H1 D = none → LcRun (Itr 0 k.toNat) (gName i0) tt te [i0] σ H1 D Q :=
  ⟨j, rfl, by omega, by omega, fun D hD => lc_tups (walk_rng j.toNat) (fun _ _ => trivial) hD (by rw [rngV_len, sizeLine_eq]; omega) p c ht he fun H' ps e1 e2 e3 => q D H' ps hD e1 e2 e3⟩
/-- over a dict's names, the dict locked -/
def keysV (kvs : List (Key × V)) : List V := kvs.map fun e => kV e.1
theorem walk_keysV {d : Addr} {o : Obj} (kvs : List (Key × V)) : Walk (Itk d o kvs) (keysV kvs).length (fun H => H d = some (.frz o (.dK kvs))) (YAt (keysV kvs)) := by
  unfold keysV
  rw [List.length_map]
  refine (walk_keys (kvs := kvs)).mono (fun _ h => h) fun i H x H' hi _ y => ?_
  obtain ⟨e1, k, v, e2, e3⟩ := y
  refine ⟨e1, ?_⟩
  rw [List.getElem?_map, e2, e3]
  rfl
theorem g_lock {t : TE} {d : Addr} {kvs : List (Key × V)} (h : H d = some (.dK kvs)) (q : ∀ od, t σ (upd H d (.frz od (.dK kvs))) fun v H' => H' d = some (.frz od (.dK kvs)) ∧ Q v (upd H' d (.dK kvs))) : tLockE t σ H Q := ⟨d, _, h, trivial, q⟩
theorem g_lcKT {d : Addr} {kvs : List (Key × V)} (h : H d = some (.dK kvs)) (hd : ∀ (H' : Hp) (R : VK), R (.ref d) H' → td σ H' R) (hz : kvs.length < sizeLine) (p : V → Bool) (c : V → List V)
    (ht : ∀ x ∈ keysV kvs, ∀ od H', H' d = some (.frz od (.dK kvs)) → Kp [d] H H' → An tt ((wipe σ [i0]).set i0 (some x)) H' (p x))
    (he : ∀ x ∈ keysV kvs, p x = true → ∀ od H', H' d = some (.frz od (.dK kvs)) → Kp [d] H H' → ∀ R : VK, (∀ t, H' t = none → R (.ref t) (upd H' t (.tup (c x)))) → te ((wipe σ [i0]).set i0 (some x)) H' R)
    (q : ∀ (D : Addr) (H' : Hp) (ps : List Addr), H D = none → Same H H' → H' D = some (.lst (ps.map V.ref)) → Paired (fun t x => H t = none ∧ t ≠ D ∧ H' t = some (.tup (c x))) ps ((keysV kvs).filter p) → Q (.ref D) H') : tLockE (tLc (iKeys td) (gName i0) tt te [i0]) σ H Q := by
  refine g_lock h fun od => ?_
  refine hd _ _ ⟨d, od, rfl, .inl ⟨kvs, upd_same, fun D hD => ?_⟩⟩
  have nDd : D ≠ d := fun e => by rw [e, upd_same] at hD; cases hD
  have hD0 : H D = none := by rw [upd_ne nDd] at hD; exact hD
  have kp : ∀ H', (∀ b o, upd H d (.frz od (.dK kvs)) b = some o → H' b = some o) → Kp [d] H H' := fun H' e b o z m => e b o (by rw [upd_ne (by simpa using m)]; exact z)
  refine lc_tups (Q := fun v H' => H' d = some (.frz od (.dK kvs)) ∧ Q v (upd H' d (.dK kvs))) (walk_keysV kvs) (fun H' e => e _ _ upd_same) hD (by unfold keysV; rw [List.length_map]; exact hz) p c (fun x hx H' e => ht x hx od H' (e _ _ upd_same) (kp H' e)) (fun x hx hp H' e => he x hx hp od H' (e _ _ upd_same) (kp H' e)) fun H' ps e1 e2 e3 => ⟨e1 _ _ upd_same, ?_⟩
  refine q D _ ps hD0 (fun b o z => ?_) (by rw [upd_ne nDd]; exact e2) (Paired.mapP e3 fun t x ⟨h1, h2, h3⟩ => ?_)
  · by_cases hb : b = d
    · rw [hb] at z ⊢
      rw [upd_same, ← h, z]
    · rw [upd_ne hb]
      exact e1 b o (by rw [upd_ne hb]; exact z)
  · have ntd : t ≠ d := fun e => by rw [e, upd_same] at h1; cases h1
    refine ⟨by rw [upd_ne ntd] at h1; exact h1, h2, by rw [upd_ne ntd]; exact h3⟩
end
/-! ## 10. slices, flat data, order of texts -/
section
variable {K : PySem.W.Frag} {σ : L2.St} {H : Hp} {Q : VK} {a : Addr} {te : TE}
theorem g_sl {r : V → Option Int → Option Int → Hp → VK → Prop} {tl th : TO} (q : te σ H fun x H1 => tl σ H1 fun l H2 => th σ H2 fun u H3 => r x l u H3 Q) : tSl r te tl th σ H Q := q
theorem g_nopart {P : Option Int → Hp → Prop} (q : P none H) : tNoPart σ H P := q
theorem g_part {P : Option Int → Hp → Prop} (q : te σ H fun x H1 => ∃ i, x = .int i ∧ P (some i) H1) : tPart te σ H P := q
theorem g_pint {i : Int} {P : Option Int → Hp → Prop} (q : P (some i) H) : ∃ j, V.int i = .int j ∧ P (some j) H := ⟨i, rfl, q⟩
theorem g_slL {xs : List V} {lo hi : Option Int} (h : SqL K H a xs) (q : ∀ p, H p = none → Q (.ref p) (upd H p (.lst (cutV xs lo hi)))) : rSlL K (.ref a) lo hi H Q := ⟨a, xs, rfl, h, q⟩
/-- flat data -/
def strOkS (l : List Str) : Bool := l.all PyData.strOk
theorem dpAll_str : ∀ l : List Str, DpAll K H (l.map V.str) (l.map PyData.str)
  | [] => .nil
  | x :: r => .cons (.str x) (dpAll_str r)
theorem dpAll_int : ∀ l : List Int, DpAll K H (l.map V.int) (l.map PyData.int)
  | [] => .nil
  | x :: r => .cons (.int x) (dpAll_int r)
theorem eqvAll_str : ∀ l m : List Str, PyData.eqvAll (l.map .str) (m.map .str) = decide (l = m)
  | [], [] => rfl
  | [], _ :: _ => rfl
  | _ :: _, [] => rfl
  | x :: l, y :: m => by
    show ((x == y) && PyData.eqvAll (l.map .str) (m.map .str)) = _
    rw [eqvAll_str l m, Bool.beq_eq_decide_eq, ← Bool.decide_and]
    exact decide_eq_decide.mpr ⟨fun ⟨h1, h2⟩ => by rw [h1, h2], fun h => List.cons.inj h⟩
theorem eqvAll_int : ∀ l m : List Int, PyData.eqvAll (l.map .int) (m.map .int) = decide (l = m)
  | [], [] => rfl
  | [], _ :: _ => rfl
  | _ :: _, [] => rfl
  | x :: l, y :: m => by
    show ((x == y) && PyData.eqvAll (l.map .int) (m.map .int)) = _
    rw [eqvAll_int l m, Bool.beq_eq_decide_eq, ← Bool.decide_and]
    exact decide_eq_decide.mpr ⟨fun ⟨h1, h2⟩ => by rw [h1, h2], fun h => List.cons.inj h⟩
theorem lay_str : ∀ l : List Str, strOkS l = true → PyData.canLayAll0 (l.map .str) = true
  | [], _ => rfl
  | x :: r, h => by
    have h : (PyData.strOk x && strOkS r) = true := h
    obtain ⟨h1, h2⟩ := Bool.and_eq_true_iff.mp h
    show (PyData.strOk x && PyData.canLayAll0 (r.map .str)) = true
    rw [h1, lay_str r h2]
    rfl
theorem lay_int : ∀ l : List Int, PyData.canLayAll0 (l.map .int) = true
  | [] => rfl
  | _ :: r => by
    show (true && PyData.canLayAll0 (r.map .int)) = true
    rw [lay_int r]
    rfl
theorem deep_str : ∀ l : List Str, PyData.depthAll (l.map .str) = 0
  | [] => rfl
  | _ :: r => by
    show max 0 (PyData.depthAll (r.map .str)) = 0
    rw [deep_str r]
    rfl
theorem deep_int : ∀ l : List Int, PyData.depthAll (l.map .int) = 0
  | [] => rfl
  | _ :: r => by
    show max 0 (PyData.depthAll (r.map .int)) = 0
    rw [deep_int r]
    rfl
theorem shaped_tstr {l : List Str} (h : strOkS l = true) : SeqAt.shaped (.tuple (l.map .str)) = true := by
  show (PyData.canLayAll0 (l.map .str) && decide (PyData.depthAll (l.map .str) + 1 ≤ 64)) = true
  rw [lay_str l h, deep_str]
  rfl
theorem shaped_lstr {l : List Str} (h : strOkS l = true) : SeqAt.shaped (.list (l.map .str)) = true := by
  show (PyData.canLayAll0 (l.map .str) && decide (PyData.depthAll (l.map .str) + 1 ≤ 64)) = true
  rw [lay_str l h, deep_str]
  rfl
theorem shaped_lint (l : List Int) : SeqAt.shaped (.list (l.map .int)) = true := by
  show (PyData.canLayAll0 (l.map .int) && decide (PyData.depthAll (l.map .int) + 1 ≤ 64)) = true
  rw [lay_int l, deep_int]
  rfl
/-- == of tuples of texts -/
theorem g_neTS {b : Addr} {l m : List Str} (h1 : SqT K H a (l.map V.str)) (h2 : SqT K H b (m.map V.str)) (s1 : strOkS l = true) (s2 : strOkS m = true) (q : Q (.bl (!decide (l = m))) H) : rNeD K (.ref a) (.ref b) H Q :=
  g_neD (.tup h1 (dpAll_str l)) (.tup h2 (dpAll_str m)) (shaped_tstr s1) (shaped_tstr s2) (by rw [show PyData.eqv (.tuple (l.map .str)) (.tuple (m.map .str)) = decide (l = m) from eqvAll_str l m]; exact q)
theorem g_eqTS {b : Addr} {l m : List Str} (h1 : SqT K H a (l.map V.str)) (h2 : SqT K H b (m.map V.str)) (s1 : strOkS l = true) (s2 : strOkS m = true) (q : Q (.bl (decide (l = m))) H) : rEqD K (.ref a) (.ref b) H Q :=
  g_eqD (.tup h1 (dpAll_str l)) (.tup h2 (dpAll_str m)) (shaped_tstr s1) (shaped_tstr s2) (by rw [show PyData.eqv (.tuple (l.map .str)) (.tuple (m.map .str)) = decide (l = m) from eqvAll_str l m]; exact q)
/-- == of lists of ints -/
theorem g_eqLI {b : Addr} {l m : List Int} (h1 : SqL K H a (l.map V.int)) (h2 : SqL K H b (m.map V.int)) (q : Q (.bl (decide (l = m))) H) : rEqD K (.ref a) (.ref b) H Q :=
  g_eqD (.lst h1 (dpAll_int l)) (.lst h2 (dpAll_int m)) (shaped_lint l) (shaped_lint m) (by rw [show PyData.eqv (.list (l.map .int)) (.list (m.map .int)) = decide (l = m) from eqvAll_int l m]; exact q)
theorem g_neLI {b : Addr} {l m : List Int} (h1 : SqL K H a (l.map V.int)) (h2 : SqL K H b (m.map V.int)) (q : Q (.bl (!decide (l = m))) H) : rNeD K (.ref a) (.ref b) H Q :=
  g_neD (.lst h1 (dpAll_int l)) (.lst h2 (dpAll_int m)) (shaped_lint l) (shaped_lint m) (by rw [show PyData.eqv (.list (l.map .int)) (.list (m.map .int)) = decide (l = m) from eqvAll_int l m]; exact q)
/-- x stands at or before y -/
def leS (x y : Str) : Prop := ¬ y.cps.toList < x.cps.toList
theorem leS_trans {x y z : Str} (a : leS x y) (b : leS y z) : leS x z := by
  unfold leS at *
  rw [List.not_lt] at *
  exact List.le_trans a b
theorem leS_antisymm {x y : Str} (a : leS x y) (b : leS y x) : x = y := by
  unfold leS at *
  rw [List.not_lt] at *
  have e := List.le_antisymm a b
  obtain ⟨⟨p⟩⟩ := x
  obtain ⟨⟨q⟩⟩ := y
  have e : p = q := e
  rw [e]
theorem rising_pw : ∀ (r : List Str) (x : Str), risingS x r = true → (x :: r).Pairwise leS
  | [], x, _ => List.pairwise_singleton ..
  | y :: r, x, h => by
    have h : (!ltCps y.cps.toList x.cps.toList && risingS y r) = true := h
    obtain ⟨h1, h2⟩ := Bool.and_eq_true_iff.mp h
    have ih := rising_pw r y h2
    have xy : leS x y := by
      rw [ltCps_eq] at h1
      unfold leS
      simpa using h1
    refine List.pairwise_cons.mpr ⟨fun z hz => ?_, ih⟩
    rcases List.mem_cons.mp hz with e | e
    · rw [e]; exact xy
    · exact leS_trans xy ((List.pairwise_cons.mp ih).1 z e)
theorem sorted_pw {l : List Str} (h : sortedS l = true) : l.Pairwise leS := by
  cases l with
  | nil => exact .nil
  | cons x r => exact rising_pw r x h
theorem pw_unique : ∀ {l m : List Str}, l.Pairwise leS → m.Pairwise leS → l.Perm m → l = m
  | [], m, _, _, p => (List.Perm.nil_eq p)
  | x :: r, m, hl, hm, p => by
    cases m with
    | nil => exact absurd p.length_eq (by simp)
    | cons y t =>
      obtain ⟨l1, l2⟩ := List.pairwise_cons.mp hl
      obtain ⟨m1, m2⟩ := List.pairwise_cons.mp hm
      have e : x = y := by
        rcases List.mem_cons.mp (p.subset List.mem_cons_self) with e | e
        · exact e
        · rcases List.mem_cons.mp (p.symm.subset List.mem_cons_self) with e2 | e2
          · exact e2.symm
          · exact leS_antisymm (l1 y e2) (m1 x e)
      subst e
      rw [pw_unique l2 m2 ((List.perm_cons x).mp p)]
theorem sorted_unique {l m : List Str} (hl : sortedS l = true) (hm : sortedS m = true) (p : l.Perm m) : l = m := pw_unique (sorted_pw hl) (sorted_pw hm) p
theorem sorted_filter {l : List Str} (h : sortedS l = true) (p : Str → Bool) : (l.filter p).Pairwise leS := (sorted_pw h).filter p
end
/-! ## 11. written dicts -/
section
variable {σ : L2.St} {H : Hp} {Q : VK} {tk tv : TE} {r : List (TE × TE)} {R : List (V × V) → Hp → Prop}
theorem g_disp (q : ∀ p, H p = none → tPairs r σ (upd H p (.dK [])) fun ps H2 => H2 p = some (.dK []) ∧ ∃ kvs : List (Key × V), ps = kvs.map (fun kv => (kV kv.1, kv.2)) ∧ kvs.length ≤ 15 ∧ Q (.ref p) (upd H2 p (.dK (mergeK [] kvs)))) : tDisp r σ H Q := q
theorem g_pcons (q : tk σ H fun x H1 => tv σ H1 fun y H2 => tPairs r σ H2 fun ps H3 => R ((x, y) :: ps) H3) : tPairs ((tk, tv) :: r) σ H R := q
theorem g_pnil (q : R [] H) : tPairs [] σ H R := q
theorem g_par {D : Ends} {i j : Nat} {ta : TA} (q : ta σ H fun vs H1 => ∃ v w, vs = [v, w] ∧ D.nx ((σ.set i (some v)).set j (some w)) H1) : tPar i j ta D σ H := q
theorem g_two {x y : V} {F : V → V → Prop} (q : F x y) : ∃ v w, [x, y] = [v, w] ∧ F v w := ⟨x, y, rfl, q⟩
theorem g_dnew (q : ∀ p, H p = none → Q (.ref p) (upd H p (.dK []))) : tDNewK σ H Q := q
end
/-! ## 12. lists by names whose values stand at addresses -/
section
variable {β : Type}
def rf (x : Addr × β) : V := .ref x.1
def pr (L : List (Str × (Addr × β))) : List (Str × β) := L.map fun e => (e.1, e.2.2)
theorem aGet_pr (L : List (Str × (Addr × β))) (k : Str) : aGet (pr L) k = (aGet L k).map (·.2) := by
  unfold aGet pr
  rw [List.find?_map, Option.map_map, Option.map_map]
  rfl
theorem pr_drop (L : List (Str × (Addr × β))) (k : Str) : pr (aDrop L k) = aDrop (pr L) k := by
  unfold aDrop pr
  rw [List.filter_map]
  rfl
theorem pr_keys (L : List (Str × (Addr × β))) : (pr L).map (·.1) = L.map (·.1) := by
  unfold pr
  rw [List.map_map]
  rfl
theorem pr_len (L : List (Str × (Addr × β))) : (pr L).length = L.length := List.length_map ..
theorem pr_app (L M : List (Str × (Addr × β))) : pr (L ++ M) = pr L ++ pr M := List.map_append
theorem pr_put (L : List (Str × (Addr × β))) (k : Str) (a : Addr) (b : β) : pr (aPut L k (a, b)) = aPut (pr L) k b := by
  have e1 : ((pr L).any fun e => decide (e.1 = k)) = L.any fun e => decide (e.1 = k) := by
    unfold pr
    rw [List.any_map]
    rfl
  unfold aPut
  rw [e1]
  split
  · unfold pr
    rw [List.map_map, List.map_map]
    refine List.map_congr_left fun e _ => ?_
    show ((if e.1 = k then (e.1, (a, b)) else e).1, (if e.1 = k then (e.1, (a, b)) else e).2.2) = if e.1 = k then (e.1, b) else (e.1, e.2.2)
    split <;> rfl
  · rw [pr_app]
    rfl
theorem pr_mem {L : List (Str × (Addr × β))} {e : Str × (Addr × β)} (h : e ∈ L) : (e.1, e.2.2) ∈ pr L := List.mem_map.mpr ⟨e, h, rfl⟩
theorem pr_get {L : List (Str × (Addr × β))} {k : Str} {b : β} (h : aGet (pr L) k = some b) : ∃ a, aGet L k = some (a, b) := by
  rw [aGet_pr] at h
  obtain ⟨⟨a, c⟩, h1, h2⟩ := Option.map_eq_some_iff.mp h
  exact ⟨a, by rw [h1, show c = b from h2]⟩
theorem pr_none {L : List (Str × (Addr × β))} {k : Str} (h : aGet (pr L) k = none) : aGet L k = none := by
  rw [aGet_pr] at h
  exact Option.map_eq_none_iff.mp h
theorem enc_get {α : Type} {g : α → V} {L : List (Str × α)} {k : Str} {v : α} (h : aGet L k = some v) : valV (enc g L) (Sum.inr k) = some (g v) := by rw [valV_enc, h]; rfl
theorem enc_none {α : Type} {g : α → V} {L : List (Str × α)} {k : Str} (h : aGet L k = none) : valV (enc g L) (Sum.inr k) = none := by rw [valV_enc, h]; rfl
theorem nd_sub_len {α : Type} [DecidableEq α] : ∀ {l m : List α}, l.Nodup → (∀ x ∈ l, x ∈ m) → l.length ≤ m.length
  | [], _, _, _ => Nat.zero_le _
  | x :: r, m, nd, h => by
    obtain ⟨n1, n2⟩ := List.nodup_cons.mp nd
    have hx := h x List.mem_cons_self
    have := nd_sub_len n2 (m := m.erase x) fun y hy => (List.mem_erase_of_ne fun e => n1 (by rw [← e]; exact hy)).mpr (h y (List.mem_cons_of_mem _ hy))
    have e := List.length_erase_of_mem hx
    have : 0 < m.length := List.length_pos_of_mem hx
    simp only [List.length_cons]
    omega
theorem nd_three {α : Type} {L : List (Str × α)} {a b c : Str} (nd : (L.map (·.1)).Nodup) (h : ∀ e ∈ L, e.1 ∈ [a, b, c]) : L.length ≤ 3 := by
  have := nd_sub_len nd (m := [a, b, c]) fun x hx => by
    obtain ⟨e, he, rfl⟩ := List.mem_map.mp hx
    exact h e he
  rw [List.length_map] at this
  exact this
end
section
variable {H : Hp} {Q : VK} {v : V} {a : Addr} {kvs : List (Key × V)} {z : Str}
theorem g_dinY (h : H a = some (.dK kvs)) (e : valV kvs (Sum.inr z) = some v) (q : Q (.bl true) H) : rDIn false (.str z) (.ref a) H Q := g_dinS h (by rw [e]; exact q)
theorem g_dinN (h : H a = some (.dK kvs)) (e : valV kvs (Sum.inr z) = none) (q : Q (.bl false) H) : rDIn false (.str z) (.ref a) H Q := g_dinS h (by rw [e]; exact q)
theorem g_dniY (h : H a = some (.dK kvs)) (e : valV kvs (Sum.inr z) = some v) (q : Q (.bl false) H) : rDIn true (.str z) (.ref a) H Q := g_dinS h (by rw [e]; exact q)
theorem g_dniN (h : H a = some (.dK kvs)) (e : valV kvs (Sum.inr z) = none) (q : Q (.bl true) H) : rDIn true (.str z) (.ref a) H Q := g_dinS h (by rw [e]; exact q)
end
theorem szl {n : Nat} (h : n ≤ 10000) : n ≤ sizeLine := by rw [sizeLine_eq]; omega
theorem szt {n : Nat} (h : n ≤ 10000) : n < sizeLine := by rw [sizeLine_eq]; omega
theorem enc_rf {β : Type} {L : List (Str × (Addr × β))} {k : Str} {a : Addr} {b : β} (h : aGet L k = some (a, b)) : valV (enc rf L) (Sum.inr k) = some (.ref a) := enc_get h
/-- what is not of a frame's kinds -/
theorem Kp.get {M : List Addr} {H H' : Hp} {a : Addr} {o : HO} (k : Kp M H H') (h : H a = some o) (n : ∀ b ∈ M, H b ≠ some o) : H' a = some o := k _ _ h fun m => n a m h
/-! ## 13. for -/
section
variable {K : PySem.W.Frag} {σ : L2.St} {H : Hp} {v x y : V} {ta tv te td tl ty : TE} {D : Ends} {g : TG} {tb : TS} {a : Addr} {i0 : Nat} {f : Str}
def ForRun (J : It) (g : TG) (tb : TS) (D : Ends) (σ : L2.St) (H : Hp) : Prop := ∃ W : Nat → Nat → L2.St → Hp → Prop, (∃ m, W 0 m σ H) ∧ ∀ i m σ H, W i m σ H →
  (J.stop i H ∧ D.nx σ H) ∨ (J.go i H ∧ ∃ N : L2.St → Hp → Prop, (∀ σ' H', N σ' H' → ∃ m', m' < m ∧ W (i + 1) m' σ' H') ∧ ∀ x H', J.yld i H x H' → g x σ H' fun σ2 H2 => tb { D with nx := N, ct := N, bk := D.nx } σ2 H2)
theorem g_forl (q : tl σ H fun x H1 => ∃ a, x = .ref a ∧ (∃ xs, SqL K H1 a xs) ∧ ForRun (Itl K a) g tb D σ H1) : tFor (iList K tl) g tb D σ H := q
theorem g_forr {ta : TA} (q : ta σ H fun ws H1 => ∃ j : Int, ws = [.int j] ∧ -(2 ^ 62) ≤ j ∧ j < 2 ^ 62 ∧ ForRun (Itr 0 j.toNat) g tb D σ H1) : tFor (iRng1 ta) g tb D σ H := q
theorem run_of {J : It} {items : List V} {G : Hp → Prop} (w : Walk J items.length G (YAt items)) (Pv : Nat → L2.St → Hp → Prop) (h0 : Pv 0 σ H) (hG : ∀ i σ H, Pv i σ H → G H)
    (hb : ∀ i x σ H, i < items.length → items[i]? = some x → Pv i σ H → tb { D with nx := Pv (i + 1), ct := Pv (i + 1), bk := D.nx } (σ.set i0 (some x)) H) (hq : ∀ σ H, Pv items.length σ H → D.nx σ H) : ForRun J (gName i0) tb D σ H :=
  for_it w Pv h0 (fun i σ H _ p => hG i σ H p) (fun i x σ H H' hi p y => by
    obtain ⟨rfl, hx⟩ := y
    exact hb i x σ H' hi hx p) hq
theorem r_forl {xs : List V} (h : SqL K H a xs) (Pv : Nat → L2.St → Hp → Prop) (h0 : Pv 0 σ H) (hG : ∀ i σ H, Pv i σ H → SqL K H a xs)
    (hb : ∀ i x σ H, i < xs.length → xs[i]? = some x → Pv i σ H → tb { D with nx := Pv (i + 1), ct := Pv (i + 1), bk := D.nx } (σ.set i0 (some x)) H) (hq : ∀ σ H, Pv xs.length σ H → D.nx σ H) :
    ∃ b, V.ref a = .ref b ∧ (∃ xs, SqL K H b xs) ∧ ForRun (Itl K b) (gName i0) tb D σ H := ⟨a, rfl, ⟨xs, h⟩, run_of walk_list Pv h0 hG hb hq⟩
theorem r_forr {j : Int} (z0 : 0 ≤ j) (z1 : j < 16777216) (Pv : Nat → L2.St → Hp → Prop) (h0 : Pv 0 σ H)
    (hb : ∀ (i : Nat) σ H, (i : Int) < j → Pv i σ H → tb { D with nx := Pv (i + 1), ct := Pv (i + 1), bk := D.nx } (σ.set i0 (some (.int i))) H) (hq : ∀ σ H, Pv j.toNat σ H → D.nx σ H) :
    ∃ k : Int, [V.int j] = [.int k] ∧ -(2 ^ 62) ≤ k ∧ k < 2 ^ 62 ∧ ForRun (Itr 0 k.toNat) (gName i0) tb D σ H :=
  ⟨j, rfl, by omega, by omega, run_of (walk_rng j.toNat) Pv h0 (fun _ _ _ _ => trivial) (fun i x σ H hi hx p => by
    rw [rngV_len] at hi
    rw [rngV_at hi] at hx
    cases hx
    exact hb i σ H (by omega) p) (by rw [rngV_len]; exact hq)⟩
/-- o.f += e -/
def rFldA (K : PySem.W.Frag) (f : Str) (x : V) (H1 : Hp) (k : Addr → Addr → V → Prop) : Prop := ∃ a C dx fs v, x = .ref a ∧ H1 a = some (.ins C dx fs) ∧ Cls K C ∧ NoAttr K C f ∧ fs.lookup f = some v ∧ k a C v
def rSFldA (f : Str) (z : V) (a C : Addr) (H3 : Hp) (N : Hp → Prop) : Prop := ∃ dx' fs', H3 a = some (.ins C dx' fs') ∧ fs'.length < 1000 ∧ N (upd H3 a (.ins C dx' (putF f z fs')))
theorem g_sfauk {rd : V → V → Hp → VK → Prop} (q : ta σ H fun x H1 => rFldA K f x H1 fun a C v => tv σ H1 fun y H2 => rd v y H2 fun z H3 => rSFldA f z a C H3 (D.nx σ)) : sFldAug K ta tv rd f D σ H := q
theorem g_fldA {a C dx : Addr} {fs : List (Str × V)} {k : Addr → Addr → V → Prop} (h : H a = some (.ins C dx fs)) (c : Cls K C) (n : NoAttr K C f) (l : fs.lookup f = some v) (q : k a C v) : rFldA K f (.ref a) H k := ⟨a, C, dx, fs, v, rfl, h, c, n, l, q⟩
theorem g_sfldA {a C dx : Addr} {fs fs' : List (Str × V)} {N : Hp → Prop} (h : H a = some (.ins C dx fs)) (l : fs.length < 1000) (e : putF f y fs = fs') (q : N (upd H a (.ins C dx fs'))) : rSFldA f y a C H N := by
  subst e
  exact ⟨dx, fs, h, l, q⟩
theorem g_addI {a b : Int} {Q : VK} (q : Q (.int (a + b)) H) : rAdd (.int a) (.int b) H Q := ⟨a, b, rfl, rfl, q⟩
theorem g_ddel (q : td σ H fun x H1 => ty σ H1 fun y H2 => ∃ a kvs k, x = .ref a ∧ H2 a = some (.dK kvs) ∧ y = kV k ∧ (valV kvs k).isSome = true ∧ D.nx σ (upd H2 a (.dK (dropK kvs k)))) : sDDel td ty D σ H := q
theorem g_del1 {kvs : List (Key × V)} {z : Str} {N : Hp → Prop} (h : H a = some (.dK kvs)) (e : (valV kvs (Sum.inr z)).isSome = true) (q : N (upd H a (.dK (dropK kvs (Sum.inr z))))) : ∃ b ws k, V.ref a = .ref b ∧ H b = some (.dK ws) ∧ V.str z = kV k ∧ (valV ws k).isSome = true ∧ N (upd H b (.dK (dropK ws k))) := ⟨a, kvs, .inr z, rfl, h, rfl, e, q⟩
end
theorem aGet_filter {α : Type} (p : Str → Bool) (k : Str) : ∀ L : List (Str × α), aGet (L.filter fun e => p e.1) k = if p k = true then aGet L k else none
  | [] => by cases p k <;> rfl
  | e :: r => by
    have ih := aGet_filter p k r
    rw [List.filter_cons]
    by_cases hk : e.1 = k
    · cases hp : p k with
      | true => rw [if_pos (by rw [hk]; exact hp), if_pos rfl]; simp [aGet, List.find?_cons, hk]
      | false => rw [if_neg (by rw [hk, hp]; exact Bool.false_ne_true), ih, hp]; rfl
    · have e2 : aGet (e :: r) k = aGet r k := by simp [aGet, List.find?_cons, hk]
      rw [e2, ← ih]
      split
      · simp [aGet, List.find?_cons, hk]
      · rfl
theorem pr_filter {β : Type} (p : Str × β → Bool) (L : List (Str × (Addr × β))) : pr (L.filter fun e => p (e.1, e.2.2)) = (pr L).filter p := by
  unfold pr
  rw [List.filter_map]
  rfl
theorem aGet_key {α : Type} {L : List (Str × α)} {k : Str} (h : k ∈ L.map (·.1)) : ∃ v, aGet L k = some v := by
  cases e : aGet L k with
  | some v => exact ⟨v, rfl⟩
  | none =>
    obtain ⟨u, hu, rfl⟩ := List.mem_map.mp h
    exact absurd hu (aGet_none.mp e u.2)
theorem ins_ne {C C' dx dy : Addr} {fs fs' : List (Str × V)} (h : fs.length ≠ fs'.length) : HO.ins C dx fs ≠ HO.ins C' dy fs' := fun z => by
  injection z with _ _ z
  exact h (congrArg List.length z)
theorem not_mem_take {α : Type} {l : List α} {i : Nat} {x : α} (nd : l.Nodup) (h : l[i]? = some x) : x ∉ l.take i := fun m => by
  have e := take_snoc h
  have := nd.sublist (List.take_sublist (i + 1) l)
  rw [e] at this
  exact (List.nodup_append.mp this).2.2 x m x (by simp) rfl
theorem drop_take {α : Type} {L : List (Str × α)} {EE : List Str} {i : Nat} {k : Str} (h : EE[i]? = some k) : aDrop (L.filter fun e => !decide (e.1 ∈ EE.take i)) k = L.filter fun e => !decide (e.1 ∈ EE.take (i + 1)) := by
  unfold aDrop
  rw [List.filter_filter, take_snoc h]
  refine List.filter_congr fun e _ => ?_
  by_cases h1 : e.1 = k
  · simp [h1]
  · simp [h1]
theorem upd_self {H : Hp} {a : Addr} {o : HO} (h : H a = some o) : upd H a o = H := by
  funext b
  by_cases e : b = a
  · rw [e, upd_same, h]
  · rw [upd_ne e]
theorem aDrop_none {α : Type} {L : List (Str × α)} {k : Str} (h : aGet L k = none) : aDrop L k = L := List.filter_eq_self.mpr fun e he => decide_eq_true fun z => aGet_none.mp h e.2 (by rw [← z]; exact he)
theorem g_dpop2 {σ : L2.St} {H : Hp} {Q : VK} {td ty tx : TE} (q : td σ H fun x H1 => ∃ a, x = .ref a ∧ IsD H1 a ∧ ty σ H1 fun y H2 => tx σ H2 fun z H3 => ∃ kvs k, H3 a = some (.dK kvs) ∧ y = kV k ∧
  (∀ v, valV kvs k = some v → Q v (upd H3 a (.dK (dropK kvs k)))) ∧ (valV kvs k = none → Q z H3)) : tDPop2 td ty tx σ H Q := q
/-- d.pop(k, x), the answer not looked at -/
theorem g_popE {α : Type} {g : α → V} {H : Hp} {a : Addr} {z : Str} {L : List (Str × α)} {N : Hp → Prop} (h : H a = some (.dK (enc g L))) (q : N (upd H a (.dK (enc g (aDrop L z))))) :
    ∃ kvs k, H a = some (.dK kvs) ∧ V.str z = kV k ∧ (∀ v, valV kvs k = some v → N (upd H a (.dK (dropK kvs k)))) ∧ (valV kvs k = none → N H) :=
  ⟨_, .inr z, h, rfl, fun _ _ => by rw [dropK_enc]; exact q, fun e => by
    have e2 : aGet L z = none := by
      rw [valV_enc] at e
      exact Option.map_eq_none_iff.mp e
    rw [aDrop_none e2, upd_self h] at q
    exact q⟩
theorem aGet_drop_same {α : Type} (L : List (Str × α)) (k : Str) : aGet (aDrop L k) k = none := by rw [aGet_drop, if_pos rfl]
/-! ## 14. more of lists and dicts -/
section
variable {K : PySem.W.Frag} {σ : L2.St} {H : Hp} {Q : VK} {a b : Addr} {td : TE} {xs zs : List V} {i0 : Nat} {D : Ends} {tb : TS}
theorem g_cat (h1 : H a = some (.lst xs)) (h2 : H b = some (.lst zs)) (l : xs.length + zs.length ≤ sizeLine) (q : ∀ p, H p = none → Q (.ref p) (upd H p (.lst (xs ++ zs)))) : rCat (.ref a) (.ref b) H Q := ⟨a, b, xs, zs, rfl, rfl, h1, h2, l, q⟩
/-- a list taken once or not at all -/
theorem g_repB {c : Bool} (h : H a = some (.lst xs)) (l : xs.length ≤ sizeLine) (q : ∀ p, H p = none → Q (.ref p) (upd H p (.lst (if c then xs else [])))) : rRep (.ref a) (.int (if c then 1 else 0)) H Q := by
  refine ⟨a, _, xs, rfl, rfl, h, ?_, ?_, ?_, fun p hp => ?_⟩
  · cases c <;> decide
  · cases c <;> decide
  · cases c
    · exact Nat.le_trans (Nat.le_of_eq (Nat.mul_zero _)) (Nat.zero_le _)
    · exact Nat.le_trans (Nat.le_of_eq (Nat.mul_one _)) l
  · have e : (List.replicate (if c = true then (1 : Int) else 0).toNat xs).flatten = if c = true then xs else [] := by
      cases c
      · rfl
      · show (xs ++ ([] : List V)) = xs
        rw [List.append_nil]
    rw [e]
    exact q p hp
theorem g_ixS {z : Str} {i : Int} {c : Nat} (l : z.length ≤ sizeLine) (e : atI z.cps.toList i = some c) (q : Q (.str ⟨#[c]⟩) H) : rIxS (.str z) (.int i) H Q := ⟨z, i, c, rfl, rfl, l, e, q⟩
theorem merge_enc {α : Type} {g : α → V} : ∀ (B A : List (Str × α)), ((A ++ B).map (·.1)).Nodup → mergeK (enc g A) (enc g B) = enc g (A ++ B)
  | [], A, _ => by rw [List.append_nil]; rfl
  | e :: B, A, nd => by
    have ne : aGet A e.1 = none := aGet_none.mpr fun v m => by
      rw [List.map_append] at nd
      exact (List.nodup_append.mp nd).2.2 e.1 (List.mem_map.mpr ⟨_, m, rfl⟩) e.1 (by simp) rfl
    show mergeK (putK (enc g A) (Sum.inr e.1) (g e.2)) (enc g B) = _
    rw [putK_enc, aPut_new _ ne, merge_enc B (A ++ [(e.1, e.2)]) (by rw [List.append_assoc]; exact nd), List.append_assoc]
    rfl
/-- dict(pairs), the names all different -/
theorem g_dictN {α : Type} {g : α → V} {ps : List Addr} {L : List (Str × α)} (h : SqL K H a (ps.map V.ref)) (hp : Paired (fun p e => SqT K H p [.str e.1, g e.2]) ps L) (nd : (L.map (·.1)).Nodup) (q : ∀ p, H p = none → Q (.ref p) (upd H p (.dK (enc g L)))) : rDictP K [.ref a] H Q := by
  refine ⟨a, ps, enc g L, rfl, h, ?_, fun p hp => ?_⟩
  · have : ∀ {ps : List Addr} {L : List (Str × α)}, Paired (fun p e => SqT K H p [.str e.1, g e.2]) ps L → Paired (fun p kv => SqT K H p [kV kv.1, kv.2]) ps (enc g L) := by
      intro ps L q
      induction q with
      | nil => exact .nil
      | cons r t ih => exact .cons r ih
    exact this hp
  · have e := merge_enc (g := g) L [] (by simpa using nd)
    rw [show mergeK [] (enc g L) = enc g ([] ++ L) from e]
    exact q p hp
theorem keys_enc {α : Type} {g : α → V} (L : List (Str × α)) : keysV (enc g L) = L.map fun e => V.str e.1 := by
  unfold keysV enc
  rw [List.map_map]
  rfl
theorem paired_flat {α β γ : Type} {F : α → γ → Prop} {f : β → γ} : ∀ {ps : List α} {L : List β}, Paired F ps (L.map f) → Paired (fun p e => F p (f e)) ps L
  | _, [], h => by cases h; exact .nil
  | _, _ :: _, h => by
    cases h with
    | cons r t => exact .cons r (paired_flat t)
theorem paired_mem {α β : Type} {F : α → β → Prop} : ∀ {ps : List α} {L : List β}, Paired F ps L → Paired (fun p e => F p e ∧ e ∈ L) ps L
  | _, _, .nil => .nil
  | _, _, .cons r t => .cons ⟨r, List.mem_cons_self⟩ (Paired.mapP (paired_mem t) fun _ _ h => ⟨h.1, List.mem_cons_of_mem _ h.2⟩)
/-- [(k, d[k]) for k in d if q k] -/
theorem g_lcKN {α : Type} {g : α → V} {d : Addr} {L : List (Str × α)} {tt : TT} {te : TE} (h : H d = some (.dK (enc g L))) (nd : (L.map (·.1)).Nodup) (hd : ∀ (H' : Hp) (R : VK), R (.ref d) H' → td σ H' R) (hz : L.length < sizeLine) (q : Str → Bool)
    (ht : ∀ e ∈ L, ∀ od H', H' d = some (.frz od (.dK (enc g L))) → Kp [d] H H' → An tt ((wipe σ [i0]).set i0 (some (.str e.1))) H' (q e.1))
    (he : ∀ e ∈ L, ∀ od H', H' d = some (.frz od (.dK (enc g L))) → Kp [d] H H' → ∀ R : VK, (∀ t, H' t = none → R (.ref t) (upd H' t (.tup [.str e.1, g e.2]))) → te ((wipe σ [i0]).set i0 (some (.str e.1))) H' R)
    (k : ∀ (D : Addr) (H' : Hp) (ps : List Addr), H D = none → Same H H' → H' D = some (.lst (ps.map V.ref)) → Paired (fun t e => H t = none ∧ t ≠ D ∧ H' t = some (.tup [.str e.1, g e.2])) ps (L.filter fun e => q e.1) → Q (.ref D) H') : tLockE (tLc (iKeys td) (gName i0) tt te [i0]) σ H Q := by
  have back : ∀ x ∈ keysV (enc g L), ∃ e ∈ L, x = .str e.1 := fun x hx => by
    rw [keys_enc] at hx
    obtain ⟨e, he, rfl⟩ := List.mem_map.mp hx
    exact ⟨e, he, rfl⟩
  refine g_lcKT (kvs := enc g L) h hd (by rw [enc_len]; exact hz) (fun v => match v with | .str k => q k | _ => false) (fun v => match v with | .str k => [.str k, (valV (enc g L) (Sum.inr k)).getD .non] | _ => []) (fun x hx od H' e1 e2 => ?_) (fun x hx _ od H' e1 e2 R hR => ?_) fun D H' ps e1 e2 e3 e4 => k D H' ps e1 e2 e3 ?_
  · obtain ⟨e, he, rfl⟩ := back x hx
    exact ht e he od H' e1 e2
  · obtain ⟨e, hm, rfl⟩ := back x hx
    refine he e hm od H' e1 e2 R ?_
    have : valV (enc g L) (Sum.inr e.1) = some (g e.2) := enc_get (aGet_of_mem nd hm)
    have hR : ∀ t, H' t = none → R (.ref t) (upd H' t (.tup [.str e.1, (valV (enc g L) (Sum.inr e.1)).getD .non])) := hR
    rw [this] at hR
    exact hR
  · rw [keys_enc, List.filter_map] at e4
    refine Paired.mapP (paired_mem (paired_flat e4)) fun t e ⟨⟨h1, h2, h3⟩, hm⟩ => ⟨h1, h2, ?_⟩
    have hm := (List.mem_filter.mp hm).1
    have e5 : valV (enc g L) (Sum.inr e.1) = some (g e.2) := enc_get (aGet_of_mem nd hm)
    have h3 : H' t = some (.tup [.str e.1, (valV (enc g L) (Sum.inr e.1)).getD .non]) := h3
    rw [e5] at h3
    exact h3
/-- for over a dict's names, the dict locked -/
theorem r_forK {d : Addr} {kvs : List (Key × V)} (h : H d = some (.dK kvs)) (hd : ∀ (H' : Hp) (R : VK), R (.ref d) H' → td σ H' R) (Pv : Nat → L2.St → Hp → Prop) (h0 : ∀ od, Pv 0 σ (upd H d (.frz od (.dK kvs)))) 
    (hG : ∀ i σ H', Pv i σ H' → Kp [d] H H')
    (hb : ∀ od i x σ H' (D' : Ends), i < kvs.length → (keysV kvs)[i]? = some x → Pv i σ H' → H' d = some (.frz od (.dK kvs)) → (∀ σ H', Pv (i + 1) σ H' → H' d = some (.frz od (.dK kvs)) → D'.nx σ H') → tb D' (σ.set i0 (some x)) H') (hq : ∀ σ H', Pv kvs.length σ H' → D.nx σ (upd H' d (.dK kvs))) :
    tLock (tFor (iKeys td) (gName i0) tb) D σ H := by
  refine ⟨d, _, h, trivial, fun od => hd _ _ ⟨d, od, rfl, .inl ⟨kvs, upd_same, ?_⟩⟩⟩
  have hl : (keysV kvs).length = kvs.length := List.length_map ..
  refine run_of (walk_keysV kvs) (fun i σ H' => Pv i σ H' ∧ H' d = some (.frz od (.dK kvs))) ⟨h0 od, upd_same⟩ (fun _ _ _ z => z.2) (fun i x σ H' hi hx ⟨p, f⟩ => ?_) fun σ H' ⟨p, f⟩ => ⟨f, ?_⟩
  · exact hb od i x σ H' _ (by rw [hl] at hi; exact hi) hx p f fun σ H' p f => ⟨p, f⟩
  · rw [hl] at p
    exact hq σ H' p
end
theorem inV_str (k : Str) : ∀ E : List Str, inV (.str k) (E.map V.str) = decide (k ∈ E)
  | [] => rfl
  | x :: r => by
    have ih := inV_str k r
    show ((x == k) || inV (.str k) (r.map V.str)) = _
    rw [ih, Bool.beq_eq_decide_eq, ← Bool.decide_or]
    exact decide_eq_decide.mpr ⟨fun h => h.elim (fun e => by rw [e]; exact List.mem_cons_self) (List.mem_cons_of_mem _), fun h => (List.mem_cons.mp h).elim (fun e => .inl e.symm) .inr⟩
theorem flat_strs : ∀ E : List Str, (E.map V.str).all flatV = true
  | [] => rfl
  | _ :: r => flat_strs r
theorem g_andB {σ : L2.St} {H : Hp} {Q : VK} {ta tb : TE} {a b : Bool} (h1 : ∀ R : VK, R (.bl a) H → ta σ H R) (h2 : ∀ R : VK, R (.bl b) H → tb σ H R) (q : Q (.bl (a && b)) H) : tAndV ta tb σ H Q := by
  refine h1 _ ⟨a, rfl, ?_⟩
  cases a
  · exact iteF q
  · exact iteT (h2 _ q)
theorem g_orB {σ : L2.St} {H : Hp} {Q : VK} {ta tb : TE} {a b : Bool} (h1 : ∀ R : VK, R (.bl a) H → ta σ H R) (h2 : ∀ R : VK, R (.bl b) H → tb σ H R) (q : Q (.bl (a || b)) H) : tOrV ta tb σ H Q := by
  refine h1 _ ⟨a, rfl, ?_⟩
  cases a
  · exact iteF (h2 _ q)
  · exact iteT q
theorem paired_app {α β : Type} {F : α → β → Prop} : ∀ {l1 : List α} {m1 : List β} {l2 : List α} {m2 : List β}, Paired F l1 m1 → Paired F l2 m2 → Paired F (l1 ++ l2) (m1 ++ m2)
  | _, _, _, _, .nil, q => q
  | _, _, _, _, .cons r t, q => .cons r (paired_app t q)
theorem paired_get {α β : Type} {F : α → β → Prop} : ∀ {l : List α} {m : List β} {i : Nat} {y : β}, Paired F l m → m[i]? = some y → ∃ x, l[i]? = some x ∧ F x y
  | _, _, i, _, .nil, h => by simp at h
  | _, _, 0, _, .cons r _, h => ⟨_, rfl, by rw [← Option.some.inj h]; exact r⟩
  | _, _, i + 1, _, .cons _ t, h => paired_get (i := i) t h
end Pr

/-! lambdas kept in a list, called later -/
namespace Pr
open PySem PySem.Spec PyProof.Rows L2 LamX NdefX
/-- the object at f is the lambda F with the body e -/
def LmO (f : Addr) (F : NF) (e : Expr) : HO := .ext fun h => ∃ (od : Option Addr) (sl : Array (Option Value)) (pm ctv : Value), h.get? f = some (⟨.type "function", od, .func (PySem.W.kla_fn F.name F.qual F.params e F.scope F.cl pm (.ref F.c) ctv), sl⟩ : Obj)
theorem lmO_at {P : Program} {w : World} {H : Hp} {h : Heap} {f : Addr} {F : NF} {e : Expr} (hok : HOk P w H h) (q : H f = some (LmO f F e)) : ∃ (od : Option Addr) (sl : Array (Option Value)) (pm ctv : Value), h.get? f = some (⟨.type "function", od, .func (PySem.W.kla_fn F.name F.qual F.params e F.scope F.cl pm (.ref F.c) ctv), sl⟩ : Obj) := (hok f _ q).1
section
variable {X : Cx} {pins : List (Addr × Obj)} {σ : L2.St} {H : Hp} {s : Shared}
theorem lm_track {F : NF} {e : Expr} {o : Obj} {tk : Nat} {pm ctv : Value} (I : Inv X pins σ H s) (ho : o = { cls := .type "function", data := .func (PySem.W.kla_fn F.name F.qual F.params e F.scope F.cl pm (.ref F.c) ctv) }) :
    Inv X pins σ (upd H s.heap.objs.size (LmO s.heap.objs.size F e)) { s with heap := s.heap.push o, toks := tk } := by
  subst ho
  refine Inv.laid I (fun _ _ z => Heap.get?_push_of_some _ z) (Nat.le_refl _) ⟨⟨none, #[], pm, ctv, Heap.get?_push_size _ rfl⟩, ⟨_, Heap.get?_push_size _ rfl⟩, ?_⟩
  rintro g1 g2 ⟨od, sl, pm2, ct2, z⟩ st
  exact ⟨od, sl, pm2, ct2, st _ z⟩
theorem ext_new {H' : Hp} {b : Addr} {o : HO} (e : ExtN H H') (n : H' b = none) : ExtN H (upd H' b o) := fun c u z q => (upd_ne (ne_of_none (e c u z q) n)).trans (e c u z q)
theorem tabs_new {T : List (Addr × Str)} {H' : Hp} {b : Addr} {o : HO} (t : Tabs T H') (n : H' b = none) : Tabs T (upd H' b o) := t.ext fun _ _ z => (upd_ne (ne_of_none z n)).trans z
/-- a lambda is made and known from now on -/
theorem lm_make {T : List (Addr × Str)} {c P : Addr} {params : Arguments} {body : Expr} {scope : Scope} {pos : Pos} {E : Value → Shared → Prop} {Q : Value → Shared → Prop} (I : Inv X pins σ H s) (TB : TabB X.base X.mg c P) (hcode : X.env.code = .ref c)
    (hm : (P, X.env.qual ++ "<lambda>") ∈ T) (hu : ∀ p ∈ T, p.1 = P → p.2 = X.env.qual ++ "<lambda>") (hT : Tabs T H) (hdef : defaultsOf params X.env = ([], [])) (hfree : ∀ y ∈ scope.names, y.2 = .free → ∃ c, X.env.cells.lookup y.1 = some c)
    (k : ∀ (f c' : Addr) (H' : Hp) (s' : Shared), Inv X pins σ H' s' → ExtN H H' → Tabs T H' → H f = none → H' f = some (LmO f ⟨"<lambda>", X.env.qual ++ "<lambda>", params, [], scope, cloFrom X.env.cells scope.names [], c'⟩ body) → H' c' = some (CodeO c' (X.env.qual ++ "<lambda>")) → Q (.ref f) s') :
    wpAny (model X.prog X.w) X.A (eval (.Lambda params body scope pos) X.env) Q E s := by
  obtain ⟨tab, tabH, tri, told⟩ := hT (P, X.env.qual ++ "<lambda>") hm
  have bmP := TB.bm.keeps I.bk
  have getP : s.heap.get? P = some { cls := .none, data := .fields tab } := I.hok P _ tabH
  have cl0 := closure_ok (scope := scope) hfree
  apply PySem.W.kla_eval hdef
  rcases among : codeAmong pos tab.toList with _ | cv
  · refine PySem.W.kla_makeFunction (P := P) (c := c) (mg := X.mg) (ps := tab) cl0 I.ok.glob (I.mod.glob.keeps I.bk) hcode (TB.code.keeps I.bk) getP tri among TB.gP bmP ?_
    rintro c' ctv h' tk grow ge lt ⟨c2, oc, vs, t, e2, hoc, hd, hv⟩ tabNew
    cases e2
    have freshC : H c' = none := I.hok.fresh ge
    have J := inv_table (t' := tk) (more := #[rawInt pos.line, rawInt pos.col, .ref c']) (h' := h') I tabH (fun b o hb z => grow b o hb z) tabNew ge ⟨oc, vs, t, hoc, hd, hv⟩
    have eN : ExtN H (upd (upd H P (.tbl (tab ++ #[rawInt pos.line, rawInt pos.col, .ref c']))) c' (CodeO c' (X.env.qual ++ "<lambda>"))) := by
      intro b o z n
      have nb : b ≠ P := fun y => n tab (by rw [y, tabH] at z; exact (Option.some.inj z).symm)
      exact (upd_ne (ne_of_none z freshC)).trans ((upd_ne nb).trans z)
    have listE : (tab ++ #[rawInt pos.line, rawInt pos.col, .ref c']).toList = tab.toList ++ [rawInt pos.line, rawInt pos.col, .ref c'] := by simp
    have TN : Tabs T (upd (upd H P (.tbl (tab ++ #[rawInt pos.line, rawInt pos.col, .ref c']))) c' (CodeO c' (X.env.qual ++ "<lambda>"))) := by
      intro p hp
      by_cases at_ : p.1 = P
      · rw [at_, hu p hp at_]
        refine ⟨_, (upd_ne (ne_of_none tabH freshC)).trans upd_same, listE ▸ PySem.TriplesOk_snoc _ _ _ _ tri, ?_⟩
        intro p' cv' hcv
        rw [listE] at hcv
        rcases among_app _ tri hcv with z | z
        · obtain ⟨d, e1, e2⟩ := told p' cv' z
          exact ⟨d, e1, eN _ _ e2 codeO_ne⟩
        · exact ⟨c', z, upd_same⟩
      · obtain ⟨tb, a1, a2, a3⟩ := hT p hp
        refine ⟨tb, (upd_ne (ne_of_none a1 freshC)).trans ((upd_ne at_).trans a1), a2, fun p' cv' hcv => ?_⟩
        obtain ⟨d, e1, e2⟩ := a3 p' cv' hcv
        exact ⟨d, e1, eN _ _ e2 codeO_ne⟩
    have freshF := J.hok.fresh (Nat.le_refl _)
    have J2 := lm_track (F := ⟨"<lambda>", X.env.qual ++ "<lambda>", params, [], scope, cloFrom X.env.cells scope.names [], c'⟩) (e := body) (tk := tk) (pm := (X.mg "__name__").getD .none) (ctv := ctv) J rfl
    exact k h'.objs.size c' _ _ J2 (ext_new eN freshF) (tabs_new TN freshF) (I.hok.fresh (Nat.le_trans ge (Nat.le_of_lt lt))) upd_same ((upd_ne (Nat.ne_of_lt lt)).trans upd_same)
  · obtain ⟨c', rfl, codeH⟩ := told pos cv among
    refine PySem.W.kla_makeFunctionHit (P := P) (c := c) (mg := X.mg) (ps := tab) cl0 I.ok.glob (I.mod.glob.keeps I.bk) hcode (TB.code.keeps I.bk) getP tri among bmP ?_
    intro ctv h' tk grow _
    have J : Inv X pins σ H { s with heap := h', toks := tk } := Inv.kept I grow
    have freshF : H h'.objs.size = none := J.hok.fresh (Nat.le_refl _)
    have J2 := lm_track (F := ⟨"<lambda>", X.env.qual ++ "<lambda>", params, [], scope, cloFrom X.env.cells scope.names [], c'⟩) (e := body) (tk := tk) (pm := (X.mg "__name__").getD .none) (ctv := ctv) J rfl
    exact k h'.objs.size c' _ _ J2 (ext_new (ExtN.refl H) freshF) (tabs_new hT freshF) freshF upd_same ((upd_ne (ne_of_none codeH freshF)).trans codeH)
end
/-- the reading of «lambda: ..» as a value -/
def tMkLam (T : List (Addr × Str)) (e : Expr) (mk : Addr → NF) : TE := fun σ H Q => Tabs T H ∧ ∀ (f c' : Addr) (H' : Hp), ExtN H H' → Tabs T H' → H f = none → H' f = some (LmO f (mk c') e) → H' c' = some (CodeO c' (mk c').qual) → Q (.ref f) H'
theorem pe_lam {X : Cx} {T : List (Addr × Str)} {c P : Addr} {params : Arguments} {body : Expr} {scope : Scope} {pos : Pos} (TB : TabB X.base X.mg c P) (hcode : X.env.code = .ref c) (hm : (P, X.env.qual ++ "<lambda>") ∈ T) (hu : ∀ p ∈ T, p.1 = P → p.2 = X.env.qual ++ "<lambda>")
    (hdef : defaultsOf params X.env = ([], [])) (hfree : ∀ y ∈ scope.names, y.2 = .free → X.env.scope.names.lookup y.1 = some .cell ∨ X.env.scope.names.lookup y.1 = some .free) :
    PE X (.Lambda params body scope pos) (tMkLam T body fun c' => ⟨"<lambda>", X.env.qual ++ "<lambda>", params, [], scope, cloFrom X.env.cells scope.names [], c'⟩) := by
  refine ⟨fun pins s σ H Q I ⟨hT, h⟩ => ?_⟩
  refine lm_make I TB hcode hm hu hT hdef (fun y hy e => (hfree y hy e).elim (fun z => I.ok.has _ (.inl z)) fun z => I.ok.has _ (.inr z)) fun f c' H' s' J eN tN n1 n2 n3 => ?_
  exact ⟨.ref f, H', J, rfl, h f c' H' eN tN n1 n2 n3⟩
/-- what a lambda promises when it is called without arguments: ws tells its captured cells -/
structure LOk (P : Program) (w : World) (K : PySem.W.Frag) (mg : Str → Option Value) (base : Heap) (k : Nat) (f : Addr) (F : NF) (e : Expr) (fr : List Str) (sp : List (Option V) → Hp → VK → XK → Prop) : Prop where
  run : ∀ (A : Around) (outer : List Env) (s : Shared) (H : Hp) (ws : List (Option V)) (Q : VK) (E : XK), Room k A → Env0 P w K mg base A outer s H → H f = some (LmO f F e) → H F.c = some (CodeO F.c F.qual) → CellsAt F.cl fr ws s.heap H → sp ws H Q E →
    codeAny (model P w) A (.call (.ref f) ⟨[], []⟩) (CR (L2.CX P w) outer P w H s Q E) s
section
variable {P : Program} {w : World} {K : PySem.W.Frag} {mg : Str → Option Value} {base : Heap} {k j : Nat} {f : Addr} {F : NF} {e : Expr} {fr N : List Str} {sp : List (Option V) → Hp → VK → XK → Prop}
theorem LOk.mono (o : LOk P w K mg base k f F e fr sp) (h : k ≤ j) : LOk P w K mg base j f F e fr sp := ⟨fun A outer s H ws Q E hr => o.run A outer s H ws Q E (hr.mono h)⟩
/-- a lambda by its body -/
theorem lok_of (S : NScope N [] fr F.scope) (hb : ∀ (pm ctv : Value), bindArgs (PySem.W.kla_fn F.name F.qual F.params e F.scope F.cl pm (.ref F.c) ctv) ⟨[], []⟩ = pure [])
    (body : ∀ (A : Around) (outer : List Env) (s : Shared) (H : Hp) (ws : List (Option V)) (Q : VK) (E : XK), Room k (A.deeper (envF F f s.heap.objs.size)) → ws.length = fr.length → sp ws H Q E → ∃ t, PE (ncx (L2.CX P w) P w K mg base N F f A outer s H E) e t ∧ t (startF N [] ws) H Q) : LOk P w K mg base (k + 1) f F e fr sp := by
  refine ⟨fun A outer s H ws Q E room e0 tr cr cells prom => ?_⟩
  have unlim : s.heap.NoLimit := e0.mod.nolimit.keeps fun b o z => (e0.bs b o z).1
  obtain ⟨od, sl, pm, ctv, obj⟩ := lmO_at e0.hok tr
  obtain ⟨c2, oc, vs, t, cz, oz, dz, vz⟩ := codeO_at e0.hok cr
  apply PySem.W.kla_callFunE room.depth obj rfl S.co S.gen rfl ⟨c2, oc, vs, t, cz, oz, dz, vz⟩
  rw [hb pm ctv]
  refine wpAny_pure (wpAny_newFunctionEnv S.nocell (fun y hy => absurd hy (by simp)) (fun g ns sb => ⟨unlim.fresh _ sb, ?_⟩) S.kind)
  show codeAny _ _ (.expr e (envF F f s.heap.objs.size)) _ _
  obtain ⟨te, der, rd⟩ := body A outer s H ws Q E (room.deeper _) cells.len prom
  have keepG : ∀ b o, s.heap.get? b = some o → g.get? b = some o := fun b o z => sb.extBut b o (Nat.ne_of_lt (Heap.lt_size z)) (Heap.get?_push_of_some _ z)
  have start : Inv (ncx (L2.CX P w) P w K mg base N F f A outer s H E) [] (startF N [] ws) H { s with heap := g, toks := s.toks + ([] : List (Str × Value)).length } := inv_startN (ps := []) (us := []) S room.hd e0 rfl .nil cells ns keepG
  refine PySem.W.kla_codeExpr (wpAny_mono (der.run [] _ _ H Q start rd) (fun u s' hq => ?_) fun _ _ hq => hq)
  obtain ⟨v, H', I', rv, q⟩ := hq
  exact ⟨v, H', I'.os, I'.bare, I'.base, I'.hok, rv, q⟩
end
section
variable {X : Cx} {pins : List (Addr × Obj)} {σ : L2.St} {H : Hp} {s : Shared} {cl : List (Str × Addr)} {fr : List Str} {ws : List (Option V)}
theorem cells_later (C : CellsAt cl fr ws X.s_0.heap X.H_0) (hx : ∀ y c, cl.lookup y = some c → c ∉ X.ex) (I : Inv X pins σ H s) : CellsAt cl fr ws s.heap H := by
  have stay : ∀ y c v, cl.lookup y = some c → X.s_0.heap.IsCell c v → s.heap.IsCell c v := by
    rintro y c v e ⟨o, ho, hd⟩
    obtain ⟨sl, q⟩ := I.base.any ho (C.all y c e).1 (hx y c e)
    exact ⟨_, q, hd⟩
  refine ⟨C.len, fun y c e => ?_, C.inj, fun i y e => ?_⟩
  · obtain ⟨n, v, z⟩ := C.all y c e
    refine ⟨?_, v, stay y c v e z⟩
    obtain ⟨o, ho, _⟩ := z
    exact I.base.free c o ho n (hx y c e)
  · obtain ⟨c, hc, hv⟩ := C.has i y e
    refine ⟨c, hc, fun v ev => ?_⟩
    obtain ⟨u, r, z⟩ := hv v ev
    exact ⟨u, r, stay y c _ hc z⟩
theorem lm_fnAt {f : Addr} {F : NF} {e : Expr} (I : Inv X pins σ H s) (q : H f = some (LmO f F e)) : PySem.W.FnAt f s.heap := by
  obtain ⟨od, sl, pm, ctv, ho⟩ := lmO_at I.hok q
  exact ⟨_, od, _, sl, ho⟩
end
/-- a() in the def that got the lambda f, entered at s -/
theorem pe_actL {X : Cx} {k i : Nat} {f : Addr} {F : NF} {e : Expr} {fr : List Str} {ws : List (Option V)} {sp : List (Option V) → Hp → VK → XK → Prop} {a : Str} {E : XK} {p1 p2 : Pos} (L : LOk X.prog X.w X.K X.mg X.base k f F e fr sp) (hr : Room k X.A)
    (C : CellsAt F.cl fr ws X.s_0.heap X.H_0) (hex : X.ex = []) (hx : Passes (L2.CX X.prog X.w) X E) (hN : X.N[i]? = some a) (hv : Vis X.env.scope a) (hd : (a == ("__debug__" : Str)) = false := by decide) (hcd : (a == ("__classdict__" : Str)) = false := by decide) :
    PE X (.Call (.Name a p1) [] [] p2) (fun σ H Q => σ[i]? = some (some (.ref f)) ∧ H F.c = some (CodeO F.c F.qual) ∧ H f = some (LmO f F e) ∧ sp ws H Q E) := by
  refine ⟨fun pins s σ H Q I ⟨hs, hc, hf, hsp⟩ => ?_⟩
  refine wpAny_Call_Name_kw (thn ((pe_var (pos := p1) hN hv hd hcd).run pins s σ H (fun v H1 => v = .ref f ∧ H1 = H) I ⟨.ref f, hs, rfl, rfl⟩) ?_)
  rintro u s1 ⟨v, H1, I1, r1, rfl, rfl⟩
  obtain rfl : u = Value.ref f := r1
  refine PySem.W.callWith_F0 (lm_fnAt I1 hf) ?_
  have cells := cells_later C (fun y c _ => by rw [hex]; simp) I1
  refine wpAny_call (codeAny_mono (L.run X.A X.stack s1 H1 ws Q E hr I1.env0 hf hc cells hsp) fun r s' hq => ?_)
  rcases r with fl | e'
  · exact hx pins σ H1 s1 _ s' I1 hq
  · rcases e' with _ | _ | _ | u
    all_goals first
      | exact I1.after hq
      | exact False.elim hq
/-- the reading of «told(f)», f a name that holds a lambda; CP: what is known of the captured cells -/
def tToldL (P : Program) (w : World) (K : PySem.W.Frag) (mg : Str → Option Value) (base : Heap) (k i : Nat) (CP : NF → List Str → List (Option V) → Prop) (CS : Addr) (ret : Str) : TE := fun σ H Q =>
  ∃ (f : Addr) (F : NF) (e : Expr) (fr : List Str) (ws : List (Option V)) (sp : List (Option V) → Hp → VK → XK → Prop), σ[i]? = some (some (.ref f)) ∧ CP F fr ws ∧ LOk P w K mg base k f F e fr sp ∧ H f = some (LmO f F e) ∧ H F.c = some (CodeO F.c F.qual) ∧ TTold K CS ret (fun E H' Q' => sp ws H' Q' E) H Q
theorem pe_toldL {X : Cx} {CP : NF → List Str → List (Option V) → Prop} {x a ee ret bn : Str} {g CS : Addr} {k i : Nat} {pg : Arguments} {sg : Scope} {dV kV doc pm cdv ct oc : Value} {an od : Option Addr} {osl : Array (Option Value)} {Ng : List Str} {j : Nat} {p1 p2 p3 p4 p5 p6 p7 p8 p pb pos : Pos}
    (hC : ∀ F fr ws, CP F fr ws → CellsAt F.cl fr ws X.s_0.heap X.H_0 ∧ ∀ y c, F.cl.lookup y = some c → c ∉ X.ex) (hg : Gl X x) (hm : X.mg x = some (.ref g)) (hk : PySem.W.keepIn X.K (.ref g) = true)
    (lk : X.K.lookup g = some ⟨oc, od, .func (PySem.W.fnOf x x pg [.Try [.Return (some (.Call (.Name a p1) [] [] p2)) p3] [.ExceptHandler (some (.Name ee p4)) none [.Return (some (.Constant (.str ret) j p5)) p6] p7] [] [] p8] sg dV kV doc pm an cdv ct), osl⟩) (hcg : PySem.W.codeIn X.K cdv x = true)
    (hb : L2.Binds X.K (PySem.W.fnOf x x pg [.Try [.Return (some (.Call (.Name a p1) [] [] p2)) p3] [.ExceptHandler (some (.Name ee p4)) none [.Return (some (.Constant (.str ret) j p5)) p6] p7] [] [] p8] sg dV kV doc pm an cdv ct) [a] []) (Sg : FnScope Ng [a] sg) (hNg : Ng[0]? = some a) (hva : Vis sg a)
    (hge : sg.names.lookup ee = some .globalImplicit) (hme : X.mg ee = some (.ref CS)) (hde : (ee == ("__debug__" : Str)) = false) (h0 : ∀ f : Addr, (L2.start Ng [V.ref f])[0]? = some (some (V.ref f))) (hr : Room (k + 1) X.A)
    (hN : X.N[i]? = some bn) (hv : Vis X.env.scope bn) (hdb : (x == ("__debug__" : Str)) = false := by decide) (hbd : (bn == ("__debug__" : Str)) = false := by decide) (hbc : (bn == ("__classdict__" : Str)) = false := by decide) (hd : (a == ("__debug__" : Str)) = false := by decide) (hcd : (a == ("__classdict__" : Str)) = false := by decide) :
    PE X (.Call (.Name x p) [.Name bn pb] [] pos) (tToldL X.prog X.w X.K X.mg X.base k i CP CS ret) := by
  refine ⟨fun pins s σ H Q I ⟨f, F, e, fr, ws, sp, hs, cp, L, hf, hc, hT⟩ => ?_⟩
  obtain ⟨cells, cex⟩ := hC F fr ws cp
  refine wpAny_Call_Name_kw (ld_glob I hg hm ?_ hdb)
  refine PySem.W.callWith_K (h₀ := X.base) I.ok.mod.kin hk ?_ (by rfl) (by rfl)
  show wpAny _ _ (spliced ((false, eval (.Name bn pb) X.env) :: backTo pos (starEach [] X.env))) _ _ s
  refine Calls.spliced_cons (thn ((pe_var (pos := pb) hN hv hbd hbc).run pins s σ H (fun v H1 => v = .ref f ∧ H1 = H) I ⟨.ref f, hs, rfl, rfl⟩) ?_)
  rintro u s1 ⟨v, H1, I1, r1, rfl, rfl⟩
  obtain rfl : u = Value.ref f := r1
  refine Calls.spliced_nil ⟨I1.kIn, ?_⟩
  have done : codeAny (model X.prog X.w) X.A (.call (.ref g) ⟨[.ref f], []⟩) (CR C8.CX0 X.stack X.prog X.w H1 s1 Q C8.E0) s1 := by
    refine run_ofS (N := Ng) (ps := [a]) (us := [.ref f]) (vs := [.ref f]) lk hcg Sg hr I1.env0 (hb s1 [.ref f] I1.kIn rfl) (.cons rfl .nil) rfl fun room => ?_
    have G := told_gives (X := X) (Ng := Ng) (x := x) (a := a) (e := ee) (q := F.qual) (ret := ret) (sg := sg) (g := g) (CS := CS) (cdg := cdv) (j := j) (p1 := p1) (p2 := p2) (p3 := p3) (p4 := p4) (p5 := p5) (p6 := p6) (p7 := p7) (p8 := p8) hge hme hde h0
    obtain ⟨t, pt, ht⟩ := G f F.c s1 H1 Q (fun E H' Q' => H' f = some (LmO f F e) ∧ sp ws H' Q' E) (fun W pn xe E q1 q2 tk hW =>
      pe_actL (X := (cxOf C8.CX0 X.prog X.w X.K X.mg X.base Ng x sg g cdv X.A X.stack s1 H1 C8.E0).tr pn xe) L room (cells_later cells cex I1) rfl (passes_call tk hW) hNg hva hd hcd) hc ⟨hf, hT⟩
    exact ⟨t, pt.nox, ht⟩
  refine wpAny_call (codeAny_mono done fun r s2 hq => ?_)
  rcases r with z | z
  · exact (show False from hq).elim
  · rcases z with _ | _ | _ | u
    all_goals first
      | exact I1.after hq
      | exact False.elim hq
end Pr

/-! a list comprehension whose test may lean on the frame's own cells -/
namespace Pr
open PySem PySem.Spec PyProof.Rows L2 LamX NdefX
section
variable {X : Cx}
theorem pe_lcI {elt tg iter : Expr} {ifs : List Expr} {scope : Scope} {own : List (Str × Nat)} {pos : Pos} {wi : TI} {g : TG} {tt : L2.St → TT} {te : TE} (calm : X.calm = true) (nodup : X.N.Nodup) (src : PI X tg iter wi) (blk : BlkOk X.N X.env.scope scope own)
    (gs : ∀ (s : Shared) (H : Hp) (C : Addr) (cl : List (Str × Addr)) (fp : List Addr), PG (X.blk s H scope (compEnvC scope cl C X.env) fp) tg g)
    (ts : ∀ (pins : List (Addr × Obj)) (σ : L2.St) (s : Shared) (H : Hp) (C : Addr) (cl : List (Str × Addr)) (fp : List Addr), Inv X pins σ H s → (∀ b ∈ fp, FpOk X pins H b) → PTs (X.blk s H scope (compEnvC scope cl C X.env) fp) ifs (tt σ))
    (es : ∀ (s : Shared) (H : Hp) (C : Addr) (cl : List (Str × Addr)) (fp : List Addr), PE (X.blk s H scope (compEnvC scope cl C X.env) fp) elt te) (fold : ∀ x, foldedSetIterable iter X.env x = pure x := by intro _; rfl) :
    PE X (.ListComp elt [⟨tg, iter, ifs, 0⟩] scope pos) (fun σ H Q => tLc wi g (tt σ) te (own.map (·.2)) σ H Q) := by
  refine ⟨fun pins s σ H Q I rd => ?_⟩
  rw [eval_ListComp]
  have frees : ∀ y ∈ scope.names, y.2 = .free → ∃ c, X.env.cells.lookup y.1 = some c := by
    intro y hy e
    cases blk.free y hy e with
    | inl z => exact I.ok.has _ (.inl z)
    | inr z => exact I.ok.has _ (.inr z)
  apply wpAny_comprehension_free (use := none) rfl fold (closure_ok frees) blk.kind (fun y hy e => by rw [blk.uniq y hy, e])
  refine thn (src.run pins s σ H _ I rd) fun itx sA ha => thn ha fun itw sB hb => ?_
  obtain ⟨it, fp, tn, J, HB, rfl, IB, turns, stB, fpB, go⟩ := hb
  have room0 : (0 : Nat) ≤ sizeLine := Nat.zero_le _
  refine wpAny_newObj_type (newEnv_comp ?_) room0
  generalize eD : sB.heap.objs.size = D
  have noD : HB D = none := IB.hok.fresh (Nat.le_of_eq eD)
  obtain ⟨W, ⟨m0, W0⟩, turn⟩ := go D noD
  generalize eC : ({ sB with heap := sB.heap.push { cls := .type "list", data := .seq ([] : List Value).toArray } } : Shared) = sC
  have heapC : sC.heap = sB.heap.push { cls := .type "list", data := .seq ([] : List Value).toArray } := by subst eC; rfl
  have IC : Inv X pins σ (upd HB D (.lst [])) sC := by
    subst eC
    refine Inv.laid (t' := sB.toks) IB (fun _ _ e => Heap.get?_push_of_some _ e) (Nat.le_of_eq eD) ⟨Nat.zero_le _, [], 0, .nil, ?_⟩
    subst eD
    exact Heap.get?_push_size _ rfl
  have inB : ∀ b ∈ fp, b < sB.heap.objs.size := by
    intro b hb
    obtain ⟨ob, z, _⟩ := turns.obj _ _ stB b hb
    exact Heap.lt_size z
  have fpC : ∀ b ∈ fp, FpOk X pins (upd HB D (.lst [])) b ∧ b < sC.heap.objs.size := by
    intro b hb
    have lt := inB b hb
    have nD : b ≠ D := by rw [← eD]; exact Nat.ne_of_lt lt
    refine ⟨⟨(upd_ne nD).trans (fpB b hb).1, (fpB b hb).2⟩, ?_⟩
    rw [heapC, Heap.size_push]
    exact Nat.lt_succ_of_lt lt
  have stC : tn 0 sC.heap := turns.keep _ _ _ stB fun _ _ _ e => by rw [heapC]; exact Heap.get?_push_of_some _ e
  have IE := block_start IC blk nodup fpC
  have dg := gs sC (upd HB D (.lst [])) sC.heap.objs.size (cellsFrom (sC.heap.objs.size + 1) scope.names (cloFrom X.env.cells scope.names [])) fp
  have dt := ts pins σ sC (upd HB D (.lst [])) sC.heap.objs.size (cellsFrom (sC.heap.objs.size + 1) scope.names (cloFrom X.env.cells scope.names [])) fp IC (fun b hb => (fpC b hb).1)
  have de := es sC (upd HB D (.lst [])) sC.heap.objs.size (cellsFrom (sC.heap.objs.size + 1) scope.names (cloFrom X.env.cells scope.names [])) fp
  show codeAny _ _ (.compStart (.ListComp elt [⟨tg, iter, ifs, 0⟩] scope pos) 0 (.ref it) (.ref D) (compEnvC scope (cellsFrom (sC.heap.objs.size + 1) scope.names (cloFrom X.env.cells scope.names [])) sC.heap.objs.size X.env)) _ { sC with heap := pushCells (sC.heap.push { cls := .type "dict", data := .dict #[] }) scope.names }
  have nofp : ∀ b ∈ fp, (upd HB D (.lst [])) b = none := fun b hb => (fpC b hb).1.1
  generalize eE : compEnvC scope (cellsFrom (sC.heap.objs.size + 1) scope.names (cloFrom X.env.cells scope.names [])) sC.heap.objs.size X.env = en at IE dg dt de ⊢
  have locE : en.locals = sC.heap.objs.size := by rw [← eE]; rfl
  generalize eH : upd HB D (.lst []) = HC at IC IE dg dt de W0 nofp fpC
  generalize eF : ({ sC with heap := pushCells (sC.heap.push { cls := .type "dict", data := .dict #[] }) scope.names } : Shared) = sE at IE ⊢
  have stE : tn 0 sE.heap := turns.keep _ _ _ stC fun _ _ _ e => by subst eF; exact pushCells_keeps _ _ _ _ (Heap.get?_push_of_some _ e)
  have fpX : ∀ {τ : L2.St} {G : Hp} {z : Shared}, Inv (X.blk sC HC scope en fp) [] τ G z → (∀ b ∈ fp, G b = none) → ∀ b ∈ fp, FpOk (X.blk sC HC scope en fp) [] G b := by
    intro τ G z Iz no b hb
    exact ⟨no b hb, (Iz.ok.exf b hb).1, Iz.ok.exfs b hb, .inl hb, fun x c e => (Iz.ok.exf b hb).2 x c e, fun p hp => absurd (show p ∈ ([] : List (Addr × Obj)) ++ [] from hp) (by simp)⟩
  have loop : codeAny (model X.prog X.w) X.A (.compLoop (.ListComp elt [⟨tg, iter, ifs, 0⟩] scope pos) 0 (.ref it) (.ref D) en) (compPost (model X.prog X.w) X.A X.xe none (EP X pins σ Q) (.ref D) en.locals) sE := by
    refine compLoop_any (fun n z => ∃ i G, Inv (X.blk sC HC scope en fp) [] (wipe σ (own.map (·.2))) G z ∧ tn i z.heap ∧ (∀ b ∈ fp, G b = none) ∧ W i n G) ?_ m0 ⟨0, HC, IE, stE, nofp, W0⟩
    rintro n z5 ⟨i, G5, I5, st5, no5, w5⟩
    rcases turn i n G5 w5 with ⟨stop, fin⟩ | ⟨goes, Nx, nexts, step⟩
    · refine thnF (turns.done (X.blk sC HC scope en fp) rfl rfl rfl calm i [] z5 _ G5 (fun _ _ => False) I5 (fpX I5 no5) st5 stop) ?_
      rintro r z6 ⟨rfl, I6⟩
      have I7 : Inv X pins σ G5 z6 := IC.call' (ch := fp) I6.os I6.base I6.hok I6.bare fun b hb => by
        obtain ⟨⟨q1, q2, q3, q4, q5, q6⟩, _⟩ := fpC b hb
        exact ⟨q4, q2, q5, q6⟩
      have noL : G5 en.locals = none := I6.free
      obtain ⟨mm, ns, _⟩ := I6.loc
      have own_ := IC.fpOk (Nat.le_of_eq locE.symm) noL
      refine ⟨mm, ns, fun h'' sb => ?_⟩
      obtain ⟨f0, f1, f2, f3, f4, f5⟩ := own_
      exact ⟨.ref D, G5, I7.turned (t' := z6.toks) (fun b o hb e => (sb.2 b hb).trans e) f0 f1 f3 f4 f5, rfl, fin⟩
    · refine thnF (turns.item (X.blk sC HC scope en fp) rfl rfl rfl calm i [] z5 _ G5 (fun _ _ => False) I5 (fpX I5 no5) st5 goes) ?_
      rintro r z6 ⟨u, rfl, h6⟩
      refine thnF h6 ?_
      rintro _ z7 ⟨x, G7, I7, r7, y7, st7, no7⟩
      have J7 := I7.pinned (fpX I7 no7) (turns.obj _ _ st7)
      refine thnF (dg.run _ z7 _ G7 x u _ J7 r7 (step x G7 y7)) ?_
      rintro _ z8 ⟨σ8, G8, I8, same8, q8⟩
      refine thnF (dt.run _ z8 σ8 G8 _ I8 q8) ?_
      rintro b z9 ⟨G9, I9, q9⟩
      have back : ∀ {z : Shared} {G : Hp}, Inv (X.blk sC HC scope en fp) ([] ++ pinsAt fp z7.heap) σ8 G z → Nx G → ∃ m, m < n ∧ ∃ i G, Inv (X.blk sC HC scope en fp) [] (wipe σ (own.map (·.2))) G z ∧ tn i z.heap ∧ (∀ b ∈ fp, G b = none) ∧ W i m G := by
        intro z G Iz nx
        obtain ⟨m', less, w'⟩ := nexts G nx
        have pinned : ∀ b ∈ fp, ∀ o, z7.heap.get? b = some o → z.heap.get? b = some o ∧ G b = none := by
          intro b hb o e
          have q := Iz.pin (b, o) (List.mem_append_right _ (List.mem_append_right _ (mem_pinsAt hb e)))
          exact ⟨q.1, q.2.1⟩
        have len8 : (wipe σ (own.map (·.2))).length = σ8.length := by rw [← same8, wipe_length]
        refine ⟨m', less, i + 1, G, (Iz.unpinned (pins := [])).weak len8 (fun j v e => (wipe_some (by rw [same8]; exact e)).1), turns.keep _ _ _ st7 fun b hb o e => (pinned b hb o e).1, fun b hb => ?_, w'⟩
        obtain ⟨o, e, _⟩ := turns.obj _ _ st7 b hb
        exact (pinned b hb o e).2
      cases b
      · exact back I9 q9
      · refine thnF (de.run _ z9 σ8 G9 _ I9 q9) ?_
        rintro vz z10 ⟨yv, G10, I10, r10, acc, hD10, few10, nx⟩
        exact app_ok (X := X.blk sC HC scope en fp) I10 hD10 few10 r10 fun z11 I11 => back I11 nx
  rw [← locE]
  exact codeAny_compStart_list loop (turns.self X.A 0 _ _ _ stE loop)
end
end Pr

namespace K18
open PySem PySem.Spec PyProof.Rows L2 Pr
def top (i : Nat) : Stmt := PySem.Challenge.pw_pagestack_k18_values_that_go_in_time.main.body.getD i (.Pass ⟨0, 0, 0, 0⟩)
abbrev s_Path_init : Stmt := inClass (top 5) 0
abbrev s_Path_is_over : Stmt := inClass (top 5) 1
abbrev s_Path_value_at : Stmt := inClass (top 5) 2
abbrev s_share_of : Stmt := top 6
abbrev s_Mover_init : Stmt := inClass (top 7) 0
abbrev s_Mover_set_way : Stmt := inClass (top 7) 1
abbrev s_Mover_value_now : Stmt := inClass (top 7) 2
abbrev s_Mover_go_to : Stmt := inClass (top 7) 3
abbrev s_Mover_tick : Stmt := inClass (top 7) 4
abbrev s_Mover_moving : Stmt := inClass (top 7) 5
abbrev s_law_dice : Stmt := top 9
abbrev s_law_roll : Stmt := top 10
abbrev s_law_rounds : Stmt := top 11
abbrev s_law_told : Stmt := top 12
abbrev s_law_at : Stmt := top 13
abbrev s_law : Stmt := top 14
theorem sc_Path_init : FnScope ["self", "first", "last", "start", "length", "way"] ["self", "first", "last", "start", "length", "way"] (defScope s_Path_init) := ⟨rfl, rfl, rfl, by decide +kernel, rfl, by decide +kernel, by decide +kernel⟩
theorem sc_Path_is_over : FnScope ["self", "time"] ["self", "time"] (defScope s_Path_is_over) := ⟨rfl, rfl, rfl, by decide +kernel, rfl, by decide +kernel, by decide +kernel⟩
theorem sc_Path_value_at : FnScope ["self", "time", "above", "below"] ["self", "time"] (defScope s_Path_value_at) := ⟨rfl, rfl, rfl, by decide +kernel, rfl, by decide +kernel, by decide +kernel⟩
theorem sc_share_of : FnScope ["gone", "length", "way", "left"] ["gone", "length", "way"] (defScope s_share_of) := ⟨rfl, rfl, rfl, by decide +kernel, rfl, by decide +kernel, by decide +kernel⟩
theorem sc_Mover_init : FnScope ["self"] ["self"] (defScope s_Mover_init) := ⟨rfl, rfl, rfl, by decide +kernel, rfl, by decide +kernel, by decide +kernel⟩
theorem sc_Mover_set_way : FnScope ["self", "name", "length", "way"] ["self", "name", "length", "way"] (defScope s_Mover_set_way) := ⟨rfl, rfl, rfl, by decide +kernel, rfl, by decide +kernel, by decide +kernel⟩
theorem sc_Mover_value_now : FnScope ["self", "name"] ["self", "name"] (defScope s_Mover_value_now) := ⟨rfl, rfl, rfl, by decide +kernel, rfl, by decide +kernel, by decide +kernel⟩
theorem sc_Mover_go_to : FnScope ["self", "name", "last", "length", "way", "here", "old"] ["self", "name", "last"] (defScope s_Mover_go_to) := ⟨rfl, rfl, rfl, by decide +kernel, rfl, by decide +kernel, by decide +kernel⟩
theorem sc_Mover_tick : FnScope ["self", "many", "ended", "name"] ["self", "many"] (defScope s_Mover_tick) := ⟨rfl, rfl, rfl, by decide +kernel, rfl, by decide +kernel, by decide +kernel⟩
theorem sc_Mover_moving : FnScope ["self"] ["self"] (defScope s_Mover_moving) := ⟨rfl, rfl, rfl, by decide +kernel, rfl, by decide +kernel, by decide +kernel⟩
theorem sc_law_dice : FnScope ["cell"] ["cell"] (defScope s_law_dice) := ⟨rfl, rfl, rfl, by decide +kernel, rfl, by decide +kernel, by decide +kernel⟩
theorem sc_law_roll : FnScope ["dice", "many", "found"] ["dice", "many"] (defScope s_law_roll) := ⟨rfl, rfl, rfl, by decide +kernel, rfl, by decide +kernel, by decide +kernel⟩
theorem sc_law_rounds : FnScope ["script", "most", "cells", "cell"] ["script", "most"] (defScope s_law_rounds) := ⟨rfl, rfl, rfl, by decide +kernel, rfl, by decide +kernel, by decide +kernel⟩
theorem sc_law_told : FnScope ["what"] ["what"] (defScope s_law_told) := ⟨rfl, rfl, rfl, by decide +kernel, rfl, by decide +kernel, by decide +kernel⟩
theorem sc_law_at : FnScope ["row", "time", "first", "aim", "start", "length", "way", "gone", "left", "square", "above"] ["row", "time"] (defScope s_law_at) := ⟨rfl, rfl, rfl, by decide +kernel, rfl, by decide +kernel, by decide +kernel⟩
theorem sc_law : FnScope ["script", "dice", "mover", "ways", "rows", "still", "time", "step", "sort", "name", "aim", "length", "way", "here", "many", "ended", "one", "due", "row", "path", "moment", "shares", "fresh", "bad", "gone", "k", "f"] ["script"] (defScope s_law) := ⟨rfl, rfl, rfl, by decide +kernel, rfl, by decide +kernel, by decide +kernel⟩
abbrev sl_Path_init : List Str := ["self", "first", "last", "start", "length", "way"]
abbrev sl_Path_is_over : List Str := ["self", "time"]
abbrev sl_Path_value_at : List Str := ["self", "time", "above", "below"]
abbrev sl_share_of : List Str := ["gone", "length", "way", "left"]
abbrev sl_Mover_init : List Str := ["self"]
abbrev sl_Mover_set_way : List Str := ["self", "name", "length", "way"]
abbrev sl_Mover_value_now : List Str := ["self", "name"]
abbrev sl_Mover_go_to : List Str := ["self", "name", "last", "length", "way", "here", "old"]
abbrev sl_Mover_tick : List Str := ["self", "many", "ended", "name"]
abbrev sl_Mover_moving : List Str := ["self"]
abbrev sl_law_dice : List Str := ["cell"]
abbrev sl_law_roll : List Str := ["dice", "many", "found"]
abbrev sl_law_rounds : List Str := ["script", "most", "cells", "cell"]
abbrev sl_law_told : List Str := ["what"]
abbrev sl_law_at : List Str := ["row", "time", "first", "aim", "start", "length", "way", "gone", "left", "square", "above"]
abbrev sl_law : List Str := ["script", "dice", "mover", "ways", "rows", "still", "time", "step", "sort", "name", "aim", "length", "way", "here", "many", "ended", "one", "due", "row", "path", "moment", "shares", "fresh", "bad", "gone", "k", "f"]
def d_Path_init : He.DefD := ⟨("Path", some "__init__"), "__init__", "Path.__init__", defArgs s_Path_init, defBody s_Path_init, defScope s_Path_init, [], []⟩
def d_Path_is_over : He.DefD := ⟨("Path", some "is_over"), "is_over", "Path.is_over", defArgs s_Path_is_over, defBody s_Path_is_over, defScope s_Path_is_over, [], []⟩
def d_Path_value_at : He.DefD := ⟨("Path", some "value_at"), "value_at", "Path.value_at", defArgs s_Path_value_at, defBody s_Path_value_at, defScope s_Path_value_at, [], []⟩
def d_share_of : He.DefD := ⟨("share_of", none), "share_of", "share_of", defArgs s_share_of, defBody s_share_of, defScope s_share_of, [], []⟩
def d_Mover_init : He.DefD := ⟨("Mover", some "__init__"), "__init__", "Mover.__init__", defArgs s_Mover_init, defBody s_Mover_init, defScope s_Mover_init, [], []⟩
def d_Mover_set_way : He.DefD := ⟨("Mover", some "set_way"), "set_way", "Mover.set_way", defArgs s_Mover_set_way, defBody s_Mover_set_way, defScope s_Mover_set_way, [], []⟩
def d_Mover_value_now : He.DefD := ⟨("Mover", some "value_now"), "value_now", "Mover.value_now", defArgs s_Mover_value_now, defBody s_Mover_value_now, defScope s_Mover_value_now, [], []⟩
def d_Mover_go_to : He.DefD := ⟨("Mover", some "go_to"), "go_to", "Mover.go_to", defArgs s_Mover_go_to, defBody s_Mover_go_to, defScope s_Mover_go_to, [], []⟩
def d_Mover_tick : He.DefD := ⟨("Mover", some "tick"), "tick", "Mover.tick", defArgs s_Mover_tick, defBody s_Mover_tick, defScope s_Mover_tick, [.int (1)], []⟩
def d_Mover_moving : He.DefD := ⟨("Mover", some "moving"), "moving", "Mover.moving", defArgs s_Mover_moving, defBody s_Mover_moving, defScope s_Mover_moving, [], []⟩
def d_law_dice : He.DefD := ⟨("_law_dice", none), "_law_dice", "_law_dice", defArgs s_law_dice, defBody s_law_dice, defScope s_law_dice, [], []⟩
def d_law_roll : He.DefD := ⟨("_law_roll", none), "_law_roll", "_law_roll", defArgs s_law_roll, defBody s_law_roll, defScope s_law_roll, [], []⟩
def d_law_rounds : He.DefD := ⟨("_law_rounds", none), "_law_rounds", "_law_rounds", defArgs s_law_rounds, defBody s_law_rounds, defScope s_law_rounds, [], []⟩
def d_law_told : He.DefD := ⟨("_law_told", none), "_law_told", "_law_told", defArgs s_law_told, defBody s_law_told, defScope s_law_told, [], []⟩
def d_law_at : He.DefD := ⟨("_law_at", none), "_law_at", "_law_at", defArgs s_law_at, defBody s_law_at, defScope s_law_at, [], []⟩
def d_law : He.DefD := ⟨("law", none), "law", "law", defArgs s_law, defBody s_law, defScope s_law, [], []⟩
def fn : List He.DefD := [d_Path_init, d_Path_is_over, d_Path_value_at, d_share_of, d_Mover_init, d_Mover_set_way, d_Mover_value_now, d_Mover_go_to, d_Mover_tick, d_Mover_moving, d_law_dice, d_law_roll, d_law_rounds, d_law_told, d_law_at, d_law]
def fa : List He.Fa := [.glo "PageError", .glo "SizeError", .glo "WAYS", .glo "Path", .glo "share_of", .glo "Mover", .glo "_law_dice", .glo "_law_roll", .glo "_law_rounds", .glo "_law_told", .glo "_law_at", .glo "law", .free "min", .free "tuple", .free "sorted", .free "int", .free "abs", .free "max", .free "range", .free "dict", .exc "PageError", .keep "PageError", .exc "SizeError", .keep "SizeError", .cls "Path", .noat "Path" "first", .noat "Path" "aim", .noat "Path" "start", .noat "Path" "length", .noat "Path" "way", .mkr "Path", .meth "Path" "is_over", .meth "Path" "value_at", .cls "Mover", .noat "Mover" "values_now", .noat "Mover" "paths", .noat "Mover" "ways", .noat "Mover" "time", .mkr "Mover", .meth "Mover" "set_way", .meth "Mover" "value_now", .meth "Mover" "go_to", .meth "Mover" "tick", .meth "Mover" "moving", .exm "SizeError" "SizeError" true]
def tf : List He.Defn := [("law", none)]
def ts : List He.Tab := []
def exB : PySem.W.Frag → Bool := fun K => He.tupB K "WAYS" [.str "even", .str "slow", .str "fast", .str "both"]
abbrev R : PySem.W.OpenRow := PySem.W.OpenLaw.row PySem.Challenge.rw_pagestack_k18_values_that_go_in_time
abbrev hk : PySem.W.Hook := He.hookX 6 fa fn ts tf exB
def ob (s : PySem.W.SharedT) : He.AlX := He.obsX 6 fa fn ts tf exB (HandSHeadRun.getT s)
theorem ob_eq (s : PySem.W.SharedT) : ob s = hk.obs s.abs := He.obsX_eq (HandSHeadRun.getT_eq s)
def looseN : List PySem.Str := ["PageError", "SizeError", "WAYS", "Path", "share_of", "Mover", "_law_dice", "_law_roll", "_law_rounds", "_law_told", "_law_at"]
theorem run (w : World) : HandSHeadRun.RunEq R (PySem.W.view R.prog [14]) hk ob 20000 looseN w := by
  intro os
  kernel_rfl
structure Tx (K : PySem.W.Frag) (mg : Str → Option Value) : Prop where
  g_PageError : mg "PageError" = some (.ref (He.ga K "PageError"))
  g_SizeError : mg "SizeError" = some (.ref (He.ga K "SizeError"))
  g_WAYS : mg "WAYS" = some (.ref (He.ga K "WAYS"))
  g_Path : mg "Path" = some (.ref (He.ga K "Path"))
  g_share_of : mg "share_of" = some (.ref (He.ga K "share_of"))
  g_Mover : mg "Mover" = some (.ref (He.ga K "Mover"))
  g__law_dice : mg "_law_dice" = some (.ref (He.ga K "_law_dice"))
  g__law_roll : mg "_law_roll" = some (.ref (He.ga K "_law_roll"))
  g__law_rounds : mg "_law_rounds" = some (.ref (He.ga K "_law_rounds"))
  g__law_told : mg "_law_told" = some (.ref (He.ga K "_law_told"))
  g__law_at : mg "_law_at" = some (.ref (He.ga K "_law_at"))
  g_law : mg "law" = some (.ref (He.ga K "law"))
  b_min : mg "min" = none
  b_tuple : mg "tuple" = none
  b_sorted : mg "sorted" = none
  b_int : mg "int" = none
  b_abs : mg "abs" = none
  b_max : mg "max" = none
  b_range : mg "range" = none
  b_dict : mg "dict" = none
  x_PageError : PySem.W.excIn K (He.ga K "PageError") He.veBase "ValueError.__new__" = true ∧ PySem.W.keepIn K (.ref (He.ga K "PageError")) = true ∧ PySem.W.subIn K (.ref (He.ga K "PageError")) (.type "BaseException") = some true ∧ PySem.W.typeIn K (.ref (He.ga K "PageError")) = some (.type "type")
  x_SizeError : PySem.W.excIn K (He.ga K "SizeError") He.veBase "ValueError.__new__" = true ∧ PySem.W.keepIn K (.ref (He.ga K "SizeError")) = true ∧ PySem.W.subIn K (.ref (He.ga K "SizeError")) (.type "BaseException") = some true ∧ PySem.W.typeIn K (.ref (He.ga K "SizeError")) = some (.type "type")
  cl_Path : Cls K (He.ga K "Path")
  no_Path_first : NoAttr K (He.ga K "Path") "first"
  no_Path_aim : NoAttr K (He.ga K "Path") "aim"
  no_Path_start : NoAttr K (He.ga K "Path") "start"
  no_Path_length : NoAttr K (He.ga K "Path") "length"
  no_Path_way : NoAttr K (He.ga K "Path") "way"
  mk_Path : Mk K (He.ga K "Path") (He.ma K (He.ga K "Path") "__init__")
  me_Path_is_over : Meth K (He.ga K "Path") "is_over" (He.ma K (He.ga K "Path") "is_over")
  me_Path_value_at : Meth K (He.ga K "Path") "value_at" (He.ma K (He.ga K "Path") "value_at")
  cl_Mover : Cls K (He.ga K "Mover")
  no_Mover_values_now : NoAttr K (He.ga K "Mover") "values_now"
  no_Mover_paths : NoAttr K (He.ga K "Mover") "paths"
  no_Mover_ways : NoAttr K (He.ga K "Mover") "ways"
  no_Mover_time : NoAttr K (He.ga K "Mover") "time"
  mk_Mover : Mk K (He.ga K "Mover") (He.ma K (He.ga K "Mover") "__init__")
  me_Mover_set_way : Meth K (He.ga K "Mover") "set_way" (He.ma K (He.ga K "Mover") "set_way")
  me_Mover_value_now : Meth K (He.ga K "Mover") "value_now" (He.ma K (He.ga K "Mover") "value_now")
  me_Mover_go_to : Meth K (He.ga K "Mover") "go_to" (He.ma K (He.ga K "Mover") "go_to")
  me_Mover_tick : Meth K (He.ga K "Mover") "tick" (He.ma K (He.ga K "Mover") "tick")
  me_Mover_moving : Meth K (He.ga K "Mover") "moving" (He.ma K (He.ga K "Mover") "moving")
  e_SizeError_SizeError : PySem.W.exmOne K (.ref (He.ga K "SizeError")) (.ref (He.ga K "SizeError")) = some true
  t_WAYS : ∀ H, SqT K H (He.ga K "WAYS") (List.map (He.Dv.v K) [.str "even", .str "slow", .str "fast", .str "both"])
theorem tx_of {K : PySem.W.Frag} {h : Heap} {mg : Str → Option Value} (X : K.In h) (G : h.Ns mainGlobals mg) (c : He.SaysD fa fn K) (ex : exB K = true) : Tx K mg := by
  have zz : exB K = true := ex
  unfold exB at zz
  have z0 := zz
  exact {
    g_PageError := He.glo_ok X G (c.fact 0 (f := .glo "PageError") rfl)
    g_SizeError := He.glo_ok X G (c.fact 1 (f := .glo "SizeError") rfl)
    g_WAYS := He.glo_ok X G (c.fact 2 (f := .glo "WAYS") rfl)
    g_Path := He.glo_ok X G (c.fact 3 (f := .glo "Path") rfl)
    g_share_of := He.glo_ok X G (c.fact 4 (f := .glo "share_of") rfl)
    g_Mover := He.glo_ok X G (c.fact 5 (f := .glo "Mover") rfl)
    g__law_dice := He.glo_ok X G (c.fact 6 (f := .glo "_law_dice") rfl)
    g__law_roll := He.glo_ok X G (c.fact 7 (f := .glo "_law_roll") rfl)
    g__law_rounds := He.glo_ok X G (c.fact 8 (f := .glo "_law_rounds") rfl)
    g__law_told := He.glo_ok X G (c.fact 9 (f := .glo "_law_told") rfl)
    g__law_at := He.glo_ok X G (c.fact 10 (f := .glo "_law_at") rfl)
    g_law := He.glo_ok X G (c.fact 11 (f := .glo "law") rfl)
    b_min := He.free_ok X G (c.fact 12 (f := .free "min") rfl)
    b_tuple := He.free_ok X G (c.fact 13 (f := .free "tuple") rfl)
    b_sorted := He.free_ok X G (c.fact 14 (f := .free "sorted") rfl)
    b_int := He.free_ok X G (c.fact 15 (f := .free "int") rfl)
    b_abs := He.free_ok X G (c.fact 16 (f := .free "abs") rfl)
    b_max := He.free_ok X G (c.fact 17 (f := .free "max") rfl)
    b_range := He.free_ok X G (c.fact 18 (f := .free "range") rfl)
    b_dict := He.free_ok X G (c.fact 19 (f := .free "dict") rfl)
    x_PageError := He.exc_ok (c.fact 20 (f := .exc "PageError") rfl)
    x_SizeError := He.exc_ok (c.fact 22 (f := .exc "SizeError") rfl)
    cl_Path := He.cls_ok (c.fact 24 (f := .cls "Path") rfl)
    no_Path_first := He.noat_ok (c.fact 25 (f := .noat "Path" "first") rfl)
    no_Path_aim := He.noat_ok (c.fact 26 (f := .noat "Path" "aim") rfl)
    no_Path_start := He.noat_ok (c.fact 27 (f := .noat "Path" "start") rfl)
    no_Path_length := He.noat_ok (c.fact 28 (f := .noat "Path" "length") rfl)
    no_Path_way := He.noat_ok (c.fact 29 (f := .noat "Path" "way") rfl)
    mk_Path := He.mkr_ok (c.fact 30 (f := .mkr "Path") rfl)
    me_Path_is_over := He.meth_ok (c.fact 31 (f := .meth "Path" "is_over") rfl)
    me_Path_value_at := He.meth_ok (c.fact 32 (f := .meth "Path" "value_at") rfl)
    cl_Mover := He.cls_ok (c.fact 33 (f := .cls "Mover") rfl)
    no_Mover_values_now := He.noat_ok (c.fact 34 (f := .noat "Mover" "values_now") rfl)
    no_Mover_paths := He.noat_ok (c.fact 35 (f := .noat "Mover" "paths") rfl)
    no_Mover_ways := He.noat_ok (c.fact 36 (f := .noat "Mover" "ways") rfl)
    no_Mover_time := He.noat_ok (c.fact 37 (f := .noat "Mover" "time") rfl)
    mk_Mover := He.mkr_ok (c.fact 38 (f := .mkr "Mover") rfl)
    me_Mover_set_way := He.meth_ok (c.fact 39 (f := .meth "Mover" "set_way") rfl)
    me_Mover_value_now := He.meth_ok (c.fact 40 (f := .meth "Mover" "value_now") rfl)
    me_Mover_go_to := He.meth_ok (c.fact 41 (f := .meth "Mover" "go_to") rfl)
    me_Mover_tick := He.meth_ok (c.fact 42 (f := .meth "Mover" "tick") rfl)
    me_Mover_moving := He.meth_ok (c.fact 43 (f := .meth "Mover" "moving") rfl)
    e_SizeError_SizeError := He.exm_ok (c.fact 44 (f := .exm "SizeError" "SizeError" true) rfl)
    t_WAYS := fun H => He.tupB_ok z0 H
  }
def fl_Path (v0 v1 v2 v3 v4 : V) : List (Str × V) := [(("first" : Str), v0), (("aim" : Str), v1), (("start" : Str), v2), (("length" : Str), v3), (("way" : Str), v4)]
section
variable {v0 v1 v2 v3 v4 y : V}
theorem fl_Path_first : (fl_Path v0 v1 v2 v3 v4).lookup ("first" : Str) = some v0 := by kernel_rfl
theorem fp_Path_first : putF "first" y (fl_Path v0 v1 v2 v3 v4) = fl_Path y v1 v2 v3 v4 := by kernel_rfl
theorem fi_Path_0 : putF "first" v0 ([] : List (Str × V)) = ([(("first" : Str), v0)] : List (Str × V)) := by kernel_rfl
theorem fl_Path_aim : (fl_Path v0 v1 v2 v3 v4).lookup ("aim" : Str) = some v1 := by kernel_rfl
theorem fp_Path_aim : putF "aim" y (fl_Path v0 v1 v2 v3 v4) = fl_Path v0 y v2 v3 v4 := by kernel_rfl
theorem fi_Path_1 : putF "aim" v1 ([(("first" : Str), v0)] : List (Str × V)) = ([(("first" : Str), v0), (("aim" : Str), v1)] : List (Str × V)) := by kernel_rfl
theorem fl_Path_start : (fl_Path v0 v1 v2 v3 v4).lookup ("start" : Str) = some v2 := by kernel_rfl
theorem fp_Path_start : putF "start" y (fl_Path v0 v1 v2 v3 v4) = fl_Path v0 v1 y v3 v4 := by kernel_rfl
theorem fi_Path_2 : putF "start" v2 ([(("first" : Str), v0), (("aim" : Str), v1)] : List (Str × V)) = ([(("first" : Str), v0), (("aim" : Str), v1), (("start" : Str), v2)] : List (Str × V)) := by kernel_rfl
theorem fl_Path_length : (fl_Path v0 v1 v2 v3 v4).lookup ("length" : Str) = some v3 := by kernel_rfl
theorem fp_Path_length : putF "length" y (fl_Path v0 v1 v2 v3 v4) = fl_Path v0 v1 v2 y v4 := by kernel_rfl
theorem fi_Path_3 : putF "length" v3 ([(("first" : Str), v0), (("aim" : Str), v1), (("start" : Str), v2)] : List (Str × V)) = ([(("first" : Str), v0), (("aim" : Str), v1), (("start" : Str), v2), (("length" : Str), v3)] : List (Str × V)) := by kernel_rfl
theorem fl_Path_way : (fl_Path v0 v1 v2 v3 v4).lookup ("way" : Str) = some v4 := by kernel_rfl
theorem fp_Path_way : putF "way" y (fl_Path v0 v1 v2 v3 v4) = fl_Path v0 v1 v2 v3 y := by kernel_rfl
theorem fi_Path_4 : putF "way" v4 ([(("first" : Str), v0), (("aim" : Str), v1), (("start" : Str), v2), (("length" : Str), v3)] : List (Str × V)) = (fl_Path v0 v1 v2 v3 v4 : List (Str × V)) := by kernel_rfl
theorem few_Path : (fl_Path v0 v1 v2 v3 v4).length < 1000 := Nat.le_of_ble_eq_true rfl
theorem fm_Path_is_over : (fl_Path v0 v1 v2 v3 v4).lookup ("is_over" : Str) = none := by kernel_rfl
theorem fm_Path_value_at : (fl_Path v0 v1 v2 v3 v4).lookup ("value_at" : Str) = none := by kernel_rfl
end
def fl_Mover (v0 v1 v2 v3 : V) : List (Str × V) := [(("values_now" : Str), v0), (("paths" : Str), v1), (("ways" : Str), v2), (("time" : Str), v3)]
section
variable {v0 v1 v2 v3 y : V}
theorem fl_Mover_values_now : (fl_Mover v0 v1 v2 v3).lookup ("values_now" : Str) = some v0 := by kernel_rfl
theorem fp_Mover_values_now : putF "values_now" y (fl_Mover v0 v1 v2 v3) = fl_Mover y v1 v2 v3 := by kernel_rfl
theorem fi_Mover_0 : putF "values_now" v0 ([] : List (Str × V)) = ([(("values_now" : Str), v0)] : List (Str × V)) := by kernel_rfl
theorem fl_Mover_paths : (fl_Mover v0 v1 v2 v3).lookup ("paths" : Str) = some v1 := by kernel_rfl
theorem fp_Mover_paths : putF "paths" y (fl_Mover v0 v1 v2 v3) = fl_Mover v0 y v2 v3 := by kernel_rfl
theorem fi_Mover_1 : putF "paths" v1 ([(("values_now" : Str), v0)] : List (Str × V)) = ([(("values_now" : Str), v0), (("paths" : Str), v1)] : List (Str × V)) := by kernel_rfl
theorem fl_Mover_ways : (fl_Mover v0 v1 v2 v3).lookup ("ways" : Str) = some v2 := by kernel_rfl
theorem fp_Mover_ways : putF "ways" y (fl_Mover v0 v1 v2 v3) = fl_Mover v0 v1 y v3 := by kernel_rfl
theorem fi_Mover_2 : putF "ways" v2 ([(("values_now" : Str), v0), (("paths" : Str), v1)] : List (Str × V)) = ([(("values_now" : Str), v0), (("paths" : Str), v1), (("ways" : Str), v2)] : List (Str × V)) := by kernel_rfl
theorem fl_Mover_time : (fl_Mover v0 v1 v2 v3).lookup ("time" : Str) = some v3 := by kernel_rfl
theorem fp_Mover_time : putF "time" y (fl_Mover v0 v1 v2 v3) = fl_Mover v0 v1 v2 y := by kernel_rfl
theorem fi_Mover_3 : putF "time" v3 ([(("values_now" : Str), v0), (("paths" : Str), v1), (("ways" : Str), v2)] : List (Str × V)) = (fl_Mover v0 v1 v2 v3 : List (Str × V)) := by kernel_rfl
theorem few_Mover : (fl_Mover v0 v1 v2 v3).length < 1000 := Nat.le_of_ble_eq_true rfl
theorem fm_Mover_set_way : (fl_Mover v0 v1 v2 v3).lookup ("set_way" : Str) = none := by kernel_rfl
theorem fm_Mover_value_now : (fl_Mover v0 v1 v2 v3).lookup ("value_now" : Str) = none := by kernel_rfl
theorem fm_Mover_go_to : (fl_Mover v0 v1 v2 v3).lookup ("go_to" : Str) = none := by kernel_rfl
theorem fm_Mover_tick : (fl_Mover v0 v1 v2 v3).lookup ("tick" : Str) = none := by kernel_rfl
theorem fm_Mover_moving : (fl_Mover v0 v1 v2 v3).lookup ("moving" : Str) = none := by kernel_rfl
end
end K18


namespace K18
open PySem PySem.Spec PyProof.Rows L2 Pr
/-! ## the mathematics -/
def WayOk (w : Str) : Prop := w = "even" ∨ w = "slow" ∨ w = "fast" ∨ w = "both"
def shareOf (gone length : Int) (way : Str) : Int × Int :=
  if way = "even" then (gone, length) else if way = "slow" then (gone * gone, length * length)
  else if way = "fast" then (length * length - (length - gone) * (length - gone), length * length)
  else if 2 * gone ≤ length then (2 * gone * gone, length * length) else (length * length - 2 * (length - gone) * (length - gone), length * length)
structure Row where
  first : Int
  aim : Int
  start : Int
  length : Int
  way : Str
def Row.at (r : Row) (t : Int) : Int :=
  if r.start + r.length ≤ t then r.aim else if t ≤ r.start then r.first
  else r.first + (r.aim - r.first) * (shareOf (t - r.start) r.length r.way).1 / (shareOf (t - r.start) r.length r.way).2
/-- the law's own numerator -/
def above (gone length : Int) (way : Str) : Int :=
  if way = "even" then gone * length else if way = "slow" then gone * gone
  else if way = "fast" then length * length - (length - gone) * (length - gone)
  else if 2 * gone ≤ length then 2 * gone * gone else length * length - 2 * (length - gone) * (length - gone)
def Row.law (r : Row) (t : Int) : Int :=
  if r.start + r.length ≤ t then r.aim else if max 0 (t - r.start) = 0 then r.first
  else r.first + (r.aim - r.first) * above (max 0 (t - r.start)) r.length r.way / (r.length * r.length)
theorem n_ses : ¬ (("slow" : Str) = "even") := by decide +kernel
theorem n_fae : ¬ (("fast" : Str) = "even") := by decide +kernel
theorem n_fas : ¬ (("fast" : Str) = "slow") := by decide +kernel
theorem n_boe : ¬ (("both" : Str) = "even") := by decide +kernel
theorem n_bos : ¬ (("both" : Str) = "slow") := by decide +kernel
theorem n_bof : ¬ (("both" : Str) = "fast") := by decide +kernel
theorem sq_bound {g n : Int} (h0 : 0 ≤ g) (h1 : g ≤ n) (hn : n ≤ 10000) : 0 ≤ g * g ∧ g * g ≤ n * n ∧ n * n ≤ 100000000 ∧ 0 ≤ n * n := by
  have a := Int.mul_nonneg h0 h0
  have b := Int.mul_le_mul h1 h1 h0 (by omega)
  have c : n * n ≤ 10000 * 10000 := Int.mul_le_mul hn hn (by omega) (by omega)
  exact ⟨a, b, by omega, by omega⟩
theorem share_fact {g n : Int} {w : Str} (h0 : 0 ≤ g) (h1 : g ≤ n) (hp : 0 < n) (hn : n ≤ 10000) : 0 ≤ (shareOf g n w).1 ∧ (shareOf g n w).1 ≤ (shareOf g n w).2 ∧ 0 < (shareOf g n w).2 ∧ (shareOf g n w).2 ≤ 100000000 := by
  obtain ⟨a1, a2, a3, a4⟩ := sq_bound h0 h1 hn
  obtain ⟨b1, b2, b3, b4⟩ := sq_bound (g := n - g) (n := n) (by omega) (by omega) hn
  have a5 : 0 < n * n := Int.mul_pos hp hp
  unfold shareOf
  split
  · exact ⟨h0, h1, hp, by show n ≤ 100000000; omega⟩
  · split
    · exact ⟨a1, a2, a5, a3⟩
    · split
      · exact ⟨by show 0 ≤ n * n - (n - g) * (n - g); omega, by show n * n - (n - g) * (n - g) ≤ n * n; omega, a5, a3⟩
      · split
        · rename_i hh
          have c1 : 0 ≤ 2 * g * g := Int.mul_nonneg (by omega) h0
          have c2 : 2 * g * g ≤ n * g := Int.mul_le_mul_of_nonneg_right hh h0
          have c3 : n * g ≤ n * n := Int.mul_le_mul_of_nonneg_left h1 (by omega)
          exact ⟨c1, by show 2 * g * g ≤ n * n; omega, a5, a3⟩
        · rename_i hh
          have c1 : 0 ≤ 2 * (n - g) * (n - g) := Int.mul_nonneg (by omega) (by omega)
          have c2 : 2 * (n - g) * (n - g) ≤ n * (n - g) := Int.mul_le_mul_of_nonneg_right (by omega) (by omega)
          have c3 : n * (n - g) ≤ n * n := Int.mul_le_mul_of_nonneg_left (by omega) (by omega)
          exact ⟨by show 0 ≤ n * n - 2 * (n - g) * (n - g); omega, by show n * n - 2 * (n - g) * (n - g) ≤ n * n; omega, a5, a3⟩
/-- the two readings of a way agree -/
theorem law_at {r : Row} {t : Int} (h0 : 0 ≤ r.length) : r.law t = r.at t := by
  unfold Row.law Row.at
  split
  · rfl
  · rename_i h1
    by_cases h2 : t ≤ r.start
    · rw [if_pos h2, if_pos (by omega)]
    · rw [if_neg h2, if_neg (by omega)]
      have e : max 0 (t - r.start) = t - r.start := by omega
      rw [e]
      congr 1
      generalize t - r.start = g
      have hl : 0 < r.length := by omega
      unfold above shareOf
      split
      · rw [show (r.aim - r.first) * (g * r.length) = (r.aim - r.first) * g * r.length by rw [Int.mul_assoc]]
        exact Int.mul_ediv_mul_of_pos_left _ _ hl
      · split
        · rfl
        · split
          · rfl
          · split <;> rfl
/-- a value stays between where it begins and where it ends -/
theorem at_between {r : Row} {t : Int} (h0 : 0 ≤ r.length) (hn : r.length ≤ 10000) : min r.first r.aim ≤ r.at t ∧ r.at t ≤ max r.first r.aim := by
  unfold Row.at
  split
  · omega
  · rename_i h1
    split
    · omega
    · rename_i h2
      obtain ⟨f1, f2, f3, _⟩ := share_fact (g := t - r.start) (n := r.length) (w := r.way) (by omega) (by omega) (by omega) hn
      generalize (shareOf (t - r.start) r.length r.way).1 = a at *
      generalize (shareOf (t - r.start) r.length r.way).2 = b at *
      by_cases hd : 0 ≤ r.aim - r.first
      · have g1 : 0 ≤ (r.aim - r.first) * a / b := Int.ediv_nonneg (Int.mul_nonneg hd f1) (by omega)
        have g2 : (r.aim - r.first) * a / b ≤ r.aim - r.first := by
          have : (r.aim - r.first) * a ≤ (r.aim - r.first) * b := Int.mul_le_mul_of_nonneg_left f2 hd
          have := Int.ediv_le_ediv f3 this
          rw [Int.mul_ediv_cancel _ (by omega)] at this
          exact this
        omega
      · have g1 : (r.aim - r.first) * a / b ≤ 0 := by
          have h3 : (r.aim - r.first) * a ≤ 0 := Int.mul_nonpos_of_nonpos_of_nonneg (by omega) f1
          have := Int.ediv_le_ediv f3 h3
          rw [Int.zero_ediv] at this
          exact this
        have g2 : r.aim - r.first ≤ (r.aim - r.first) * a / b := by
          have h4 : (r.aim - r.first) * b ≤ (r.aim - r.first) * a := Int.mul_le_mul_of_nonpos_left (by omega) f2
          have := Int.ediv_le_ediv f3 h4
          rw [Int.mul_ediv_cancel _ (by omega)] at this
          exact this
        omega
/-- shares grow -/
theorem share_grows {k n : Int} {w : Str} (h0 : 0 ≤ k) (h1 : k < n) (hn : n ≤ 10000) : (shareOf k n w).1 * (shareOf (k + 1) n w).2 ≤ (shareOf (k + 1) n w).1 * (shareOf k n w).2 := by
  have key : (shareOf k n w).1 ≤ (shareOf (k + 1) n w).1 ∧ (shareOf k n w).2 = (shareOf (k + 1) n w).2 ∧ 0 ≤ (shareOf k n w).2 := by
    have nn : 0 ≤ n * n := Int.mul_nonneg (by omega) (by omega)
    have e1 : (k + 1) * (k + 1) = k * k + 2 * k + 1 := by rw [Int.add_mul, Int.mul_add]; omega
    have e2 : (n - k) * (n - k) = (n - (k + 1)) * (n - (k + 1)) + 2 * (n - (k + 1)) + 1 := by
      have : n - k = (n - (k + 1)) + 1 := by omega
      rw [this, Int.add_mul, Int.mul_add]
      omega
    unfold shareOf
    split
    · exact ⟨by show k ≤ k + 1; omega, rfl, by show 0 ≤ n; omega⟩
    · split
      · exact ⟨by show k * k ≤ (k + 1) * (k + 1); omega, rfl, nn⟩
      · split
        · exact ⟨by show n * n - (n - k) * (n - k) ≤ n * n - (n - (k + 1)) * (n - (k + 1)); omega, rfl, nn⟩
        · by_cases c1 : 2 * (k + 1) ≤ n
          · rw [if_pos (by omega), if_pos c1]
            refine ⟨?_, rfl, nn⟩
            show 2 * k * k ≤ 2 * (k + 1) * (k + 1)
            rw [Int.mul_assoc, Int.mul_assoc, e1]
            omega
          · rw [if_neg c1]
            by_cases c2 : 2 * k ≤ n
            · rw [if_pos c2]
              refine ⟨?_, rfl, nn⟩
              show 2 * k * k ≤ n * n - 2 * (n - (k + 1)) * (n - (k + 1))
              have d1 : 2 * k * k ≤ n * k := Int.mul_le_mul_of_nonneg_right c2 h0
              have d2 : 2 * (n - (k + 1)) * (n - (k + 1)) ≤ n * (n - (k + 1)) := Int.mul_le_mul_of_nonneg_right (by omega) (by omega)
              have d3 : n * (n - (k + 1)) = n * n - n * k - n := by
                rw [show n - (k + 1) = n - k - 1 by omega, Int.mul_sub, Int.mul_sub]
                omega
              omega
            · rw [if_neg c2]
              refine ⟨?_, rfl, nn⟩
              show n * n - 2 * (n - k) * (n - k) ≤ n * n - 2 * (n - (k + 1)) * (n - (k + 1))
              rw [Int.mul_assoc, Int.mul_assoc, e2]
              omega
  obtain ⟨k1, k2, k3⟩ := key
  rw [← k2]
  exact Int.mul_le_mul_of_nonneg_right k1 k3
theorem share_ends {n : Int} {w : Str} (hp : 0 < n) : (shareOf 0 n w).1 = 0 ∧ (shareOf n n w).1 = (shareOf n n w).2 := by
  unfold shareOf
  split
  · exact ⟨rfl, rfl⟩
  · split
    · exact ⟨rfl, rfl⟩
    · split
      · refine ⟨?_, ?_⟩
        · show n * n - (n - 0) * (n - 0) = 0
          rw [Int.sub_zero]; omega
        · show n * n - (n - n) * (n - n) = n * n
          rw [Int.sub_self]; omega
      · rw [if_pos (by omega), if_neg (by omega)]
        refine ⟨rfl, ?_⟩
        show n * n - 2 * (n - n) * (n - n) = n * n
        rw [Int.sub_self]; omega
end K18

open PySem PySem.Spec PyProof.Rows L2 Pr

/-! steps of a reading -/
local macro_rules | `(tactic| walk_at "ne") => `(tactic| first
  | with_reducible assumption
  | exact Ne.symm (by with_reducible assumption)
  | exact ne_of_none' (by with_reducible assumption) (by walk_at "hp")
  | exact Ne.symm (ne_of_none' (by with_reducible assumption) (by walk_at "hp"))
  | exact ne_of (by with_reducible assumption) (by with_reducible assumption) (by intro z; cases z))
local macro_rules | `(tactic| walk_at "hp") => `(tactic| first
  | with_reducible assumption
  | with_reducible exact upd_same
  | exact Eq.trans (upd_ne (by walk_at "ne")) (by walk_at "hp"))
local macro_rules | `(tactic| walk_at "kp") => `(tactic| first
  | with_reducible assumption
  | exact Kp.refl
  | exact Kp.new (by walk_at "kp") (by with_reducible assumption)
  | exact Kp.mut (by walk_at "kp") (by simp)
  | exact Kp.own (by walk_at "kp") (by with_reducible assumption))
local macro_rules | `(tactic| walk_at "sq") => `(tactic| first | with_reducible assumption | ((with_reducible show SqL _ _ _ _); exact SqL.of (by walk_at "hp")) | ((with_reducible show SqT _ _ _ _); exact SqT.of (by walk_at "hp")))
local macro_rules | `(tactic| walk_at "ar") => `(tactic| first | with_reducible assumption | omega | exact And.intro (by omega) (by omega) | exact Or.inr ⟨by omega, by omega⟩ | exact Or.inl ⟨by omega, by omega⟩ | decide)
local macro_rules | `(tactic| walk_at "step") => `(tactic| first
  | with_reducible refine g_seq ?_ | with_reducible refine g_var rfl ?_ | with_reducible refine g_c ?_ | with_reducible refine g_op ?_ | with_reducible refine g_I0 ?_ | with_reducible refine g_test ?_ | with_reducible refine g_bl ?_
  | with_reducible refine g_if ?_ | with_reducible refine g_asg ?_ | with_reducible refine g_name ?_ | with_reducible refine g_ret ?_ | with_reducible refine g_retN ?_ | with_reducible refine g_drop ?_ | with_reducible refine g_next ?_ | with_reducible refine g_cont ?_ | with_reducible refine g_brk ?_
  | with_reducible refine g_cons ?_ | with_reducible refine g_nil ?_ | with_reducible refine g_call ?_ | with_reducible refine g_cb ?_ | with_reducible refine g_fld ?_ | with_reducible refine g_sfld ?_ | with_reducible refine g_meth ?_
  | ((with_reducible show rFld _ _ (V.ref _) _ _); refine g_fld1 (by walk_at "hp") (by walk_at "cls") (by walk_at "noat") (by walk_at "fld") ?_)
  | ((with_reducible show rSFld _ _ (V.ref _) _ _ _); refine g_sfld1 (by walk_at "hp") (by walk_at "cls") (by walk_at "noat") (by walk_at "few") (by walk_at "put") ?_)
  | ((with_reducible show rMeth _ _ (V.ref _) _ _); refine g_meth1 (by walk_at "hp") (by walk_at "nom") ?_)
  | with_reducible refine g_eqI ?_ | with_reducible refine g_neI ?_ | with_reducible refine g_eqS ?_ | with_reducible refine g_neS ?_ | with_reducible refine g_eqB ?_ | with_reducible refine g_neB ?_
  | with_reducible refine g_and ?_ | with_reducible refine g_or ?_ | with_reducible refine g_not ?_ | with_reducible refine g_tb ?_ | with_reducible refine g_tif ?_ | ((with_reducible show tAndV _ _ _ _ _); refine g_andB (by walk_at "vl") (by walk_at "vl") ?_) | ((with_reducible show tOrV _ _ _ _ _); refine g_orB (by walk_at "vl") (by walk_at "vl") ?_) | with_reducible refine g_andV ?_ | with_reducible refine g_orV ?_ | with_reducible refine g_notV ?_ | with_reducible refine g_blx ?_ | with_reducible refine g_chain ?_
  | with_reducible refine g_tup ?_ | with_reducible refine g_lst ?_ | with_reducible refine g_make ?_ | with_reducible refine g_un ?_ | with_reducible refine g_U ?_
  | ((with_reducible show rIxL _ (V.ref _) (V.int _) _ _); refine g_ixL (by walk_at "sq") (by walk_at "ix") ?_)
  | ((with_reducible show rIxT _ (V.ref _) (V.int _) _ _); refine g_ixT (by walk_at "sq") (by walk_at "ix") ?_)
  | ((with_reducible show rI _ _ (V.int _) (V.int _) _ _); refine g_I (by walk_at "ar") ?_)
  | with_reducible refine g_gcons ?_ | with_reducible refine g_gnil ?_ | with_reducible refine g_sub ?_
  | ((with_reducible show gTup _ _ _ (V.ref _) _ _ _); refine g_gtup (by walk_at "sq") (by rfl) ?_)
  | ((with_reducible show rSetL (V.ref _) (V.int _) _ _ _); refine g_setL (by walk_at "hp") (by rfl) ?_)
  | with_reducible refine g_abs ?_ | with_reducible refine g_min ?_ | with_reducible refine g_max ?_ | with_reducible refine g_int ?_ | with_reducible refine g_intB ?_ | with_reducible refine g_isN ?_ | with_reducible refine g_notN ?_ | with_reducible refine g_then ?_
  | with_reducible refine g_dget ?_ | with_reducible refine g_din ?_ | with_reducible refine g_dnotin ?_ | with_reducible refine g_dput ?_ | with_reducible refine g_dget1 ?_ | with_reducible refine g_dget2 ?_
  | with_reducible refine g_dpop2 ?_ | with_reducible refine g_forl ?_ | with_reducible refine g_forr ?_ | with_reducible refine g_sfauk ?_ | with_reducible refine g_addI ?_ | with_reducible refine g_ddel ?_
  | ((with_reducible show rFldA _ _ (V.ref _) _ _); refine g_fldA (by walk_at "hp") (by walk_at "cls") (by walk_at "noat") (by walk_at "fld") ?_)
  | ((with_reducible show rSFldA _ _ _ _ _ _); refine g_sfldA (by walk_at "hp") (by walk_at "few") (by walk_at "put") ?_)
  | with_reducible refine g_par ?_ | with_reducible refine g_two ?_ | with_reducible refine g_pcons ?_ | with_reducible refine g_pnil ?_ | with_reducible refine g_disp ?_ | with_reducible refine g_dnew ?_ | with_reducible refine g_sl ?_ | with_reducible refine g_nopart ?_ | with_reducible refine g_part ?_ | with_reducible refine g_pint ?_ | with_reducible refine g_lcl ?_ | with_reducible refine g_lcr ?_
  | with_reducible refine iteT ?_ | with_reducible refine iteF ?_)
local macro_rules | `(tactic| walk_at "ix") => `(tactic| rfl)
local macro_rules | `(tactic| walk_at "go") => `(tactic| repeat walk_at "step")
local macro_rules | `(tactic| walk_at "vl") => `(tactic| (intro R hR; (walk_at "go"); exact hR))
open K18
local macro_rules | `(tactic| walk_at "cls") => `(tactic| first | with_reducible exact Tx.cl_Path (by assumption) | with_reducible exact Tx.cl_Mover (by assumption))
local macro_rules | `(tactic| walk_at "noat") => `(tactic| first | with_reducible exact Tx.no_Path_first (by assumption) | with_reducible exact Tx.no_Path_aim (by assumption) | with_reducible exact Tx.no_Path_start (by assumption) | with_reducible exact Tx.no_Path_length (by assumption) | with_reducible exact Tx.no_Path_way (by assumption) | with_reducible exact Tx.no_Mover_values_now (by assumption) | with_reducible exact Tx.no_Mover_paths (by assumption) | with_reducible exact Tx.no_Mover_ways (by assumption) | with_reducible exact Tx.no_Mover_time (by assumption))
local macro_rules | `(tactic| walk_at "fld") => `(tactic| first | with_reducible exact fl_Path_first | with_reducible exact fl_Path_aim | with_reducible exact fl_Path_start | with_reducible exact fl_Path_length | with_reducible exact fl_Path_way | with_reducible exact fl_Mover_values_now | with_reducible exact fl_Mover_paths | with_reducible exact fl_Mover_ways | with_reducible exact fl_Mover_time)
local macro_rules | `(tactic| walk_at "put") => `(tactic| first | with_reducible exact fp_Path_first | with_reducible exact fi_Path_0 | with_reducible exact fp_Path_aim | with_reducible exact fi_Path_1 | with_reducible exact fp_Path_start | with_reducible exact fi_Path_2 | with_reducible exact fp_Path_length | with_reducible exact fi_Path_3 | with_reducible exact fp_Path_way | with_reducible exact fi_Path_4 | with_reducible exact fp_Mover_values_now | with_reducible exact fi_Mover_0 | with_reducible exact fp_Mover_paths | with_reducible exact fi_Mover_1 | with_reducible exact fp_Mover_ways | with_reducible exact fi_Mover_2 | with_reducible exact fp_Mover_time | with_reducible exact fi_Mover_3)
local macro_rules | `(tactic| walk_at "nom") => `(tactic| first | with_reducible exact fm_Path_is_over | with_reducible exact fm_Path_value_at | with_reducible exact fm_Mover_set_way | with_reducible exact fm_Mover_value_now | with_reducible exact fm_Mover_go_to | with_reducible exact fm_Mover_tick | with_reducible exact fm_Mover_moving)
local macro_rules | `(tactic| walk_at "few") => `(tactic| first | with_reducible exact few_Path | with_reducible exact few_Mover | exact Nat.le_of_ble_eq_true rfl)

namespace K18
section
variable {P : Program} {w : World} {K : PySem.W.Frag} {mg : Str → Option Value} {base : Heap}
/-- dice: a list of three ints -/
def spRoll : Sp := fun vs H Q _ => ∃ (d : Addr) (x n k m : Int), vs = [.ref d, .int m] ∧ H d = some (.lst [.int x, .int n, .int k]) ∧ 0 < m ∧ m ≤ 100000000 ∧
  ∀ r x' n' k' : Int, 0 ≤ r → r < m → Q (.int r) (upd H d (.lst [.int x', .int n', .int k']))
theorem ok_roll (T : Tx K mg) {f : Addr} {fd : FuncData} (F : FunD K "_law_roll" "_law_roll" (defArgs s_law_roll) (defBody s_law_roll) (defScope s_law_roll) [] [] f fd) : FnOk P w K mg base (L2.CX P w) 1 f fd ["dice", "many"] spRoll := by
  refine F.ok sc_law_roll (fun vs H Q E h => ?_) (fun cdv A outer s H vs Q E hr h => ?_)
  · obtain ⟨d, x, n, k, m, rfl, _⟩ := h
    rfl
  · obtain ⟨d, x, n, k, m, rfl, hd, m0, m1, kk⟩ := h
    refine ⟨_, (pss_cons (ps_if (PW.pt (pw_or (pt_cmpR op_eq (pe_ix (ix_listK (K := K) rfl) (pv 0) pe_int (fun _ _ => rfl)) pe_int (nomark _)) (pw_or1 (PW.pt (pw_and (pt_cmpR op_eq (pe_ix (ix_listK (K := K) rfl) (pv 0) pe_int (fun _ _ => rfl)) pe_int (nomark _)) (pw_and1 (pt_cmpR op_gt (pe_ix (ix_listK (K := K) rfl) (pv 0) pe_int (fun _ _ => rfl)) pe_int (nomark _)))))))) (pss_cons (ps_set (i := 2) sc_law_roll.nd rfl (Or.inl rfl) (pe_op op_mod (pe_callTy call_int1N (by rfl) T.b_int (by decide +kernel) (pa_cons (pe_ix (ix_listK (K := K) rfl) (pv 0) pe_int (fun _ _ => rfl)) pa_nil)) (pv 1)))
  (pss_cons (ps_asg (pe_op op_fdiv (pe_ix (ix_listK (K := K) rfl) (pv 0) pe_int (fun _ _ => rfl)) (pv 1)) (pg_sub (pv 0) pe_int set_list))
  (pss_one (ps_ret (pv 2))))) pss_nil)
  (pss_cons (ps_asg pe_int (pg_sub (pv 0) pe_int set_list))
  (pss_cons (ps_if (pt_cmpR op_gt (pv 1) pe_int (nomark _)) (pss_one ps_never) pss_nil)
  (pss_cons (ps_asg (pe_op op_mod (pe_callTy call_int1N (by rfl) T.b_int (by decide +kernel) (pa_cons (pe_op op_add (pe_op op_add (pe_op op_mul (pe_ix (ix_listK (K := K) rfl) (pv 0) pe_int (fun _ _ => rfl)) pe_int) (pe_op op_mul (pe_ix (ix_listK (K := K) rfl) (pv 0) pe_int (fun _ _ => rfl)) pe_int)) pe_int) pa_nil)) pe_int) (pg_sub (pv 0) pe_int set_list))
  (pss_cons (ps_asg (pe_op op_add (pe_ix (ix_listK (K := K) rfl) (pv 0) pe_int (fun _ _ => rfl)) pe_int) (pg_sub (pv 0) pe_int set_list))
  (pss_one (ps_ret (pe_op op_mod (pe_callTy call_int1N (by rfl) T.b_int (by decide +kernel) (pa_cons (pe_op op_fdiv (pe_ix (ix_listK (K := K) rfl) (pv 0) pe_int (fun _ _ => rfl)) pe_int) pa_nil)) (pv 1))))))))), ?_⟩
    have fin : ∀ (y : Int) (x' n' k' : Int), Q (.int (y % m)) (upd H d (.lst [.int x', .int n', .int k'])) := fun y x' n' k' => kk _ _ _ _ (Int.emod_nonneg _ (by omega)) (Int.emod_lt_of_pos _ m0)
    walk_at "go"
    refine ifP (fun h => ?_) (fun h => ?_)
    · walk_at "go"
      exact fin _ _ _ _
    · walk_at "go"
      refine ifP (fun h => ?_) (fun h => ?_)
      · walk_at "go"
        refine ifP (fun h => ?_) (fun h => ?_)
        · walk_at "go"
          exact fin _ _ _ _
        · walk_at "go"
          refine ifPf (by omega) ?_
          walk_at "go"
          simp only [upd_upd]
          exact fin _ _ _ _
      · walk_at "go"
        refine ifPf (by omega) ?_
        walk_at "go"
        simp only [upd_upd]
        exact fin _ _ _ _
def spShare : Sp := fun vs H Q _ => ∃ (g n : Int) (w : Str), vs = [.int g, .int n, .str w] ∧ 0 ≤ g ∧ g ≤ n ∧ n ≤ 10000 ∧ ∀ p, H p = none → Q (.ref p) (upd H p (.tup [.int (shareOf g n w).1, .int (shareOf g n w).2]))
theorem ok_share (T : Tx K mg) {f : Addr} {fd : FuncData} (F : FunD K "share_of" "share_of" (defArgs s_share_of) (defBody s_share_of) (defScope s_share_of) [] [] f fd) : FnOk P w K mg base (L2.CX P w) 1 f fd ["gone", "length", "way"] spShare := by
  refine F.ok sc_share_of (fun vs H Q E h => ?_) (fun cdv A outer s H vs Q E hr h => ?_)
  · obtain ⟨d, x, n, rfl, _⟩ := h
    rfl
  · obtain ⟨g, n, way, rfl, g0, g1, n1, kk⟩ := h
    refine ⟨_, (pss_cons (ps_set (i := 3) sc_share_of.nd rfl (Or.inl rfl) (pe_op op_sub (pv 1) (pv 0)))
  (pss_cons (ps_if (pt_cmpR op_eq (pv 2) pe_str (nomark _)) (pss_one (ps_ret (pe_tup (pa_cons (pv 0) (pa_cons (pv 1) pa_nil))))) pss_nil)
  (pss_cons (ps_if (pt_cmpR op_eq (pv 2) pe_str (nomark _)) (pss_one (ps_ret (pe_tup (pa_cons (pe_op op_mul (pv 0) (pv 0)) (pa_cons (pe_op op_mul (pv 1) (pv 1)) pa_nil))))) pss_nil)
  (pss_cons (ps_if (pt_cmpR op_eq (pv 2) pe_str (nomark _)) (pss_one (ps_ret (pe_tup (pa_cons (pe_op op_sub (pe_op op_mul (pv 1) (pv 1)) (pe_op op_mul (pv 3) (pv 3))) (pa_cons (pe_op op_mul (pv 1) (pv 1)) pa_nil))))) pss_nil)
  (pss_cons (ps_if (pt_cmpR op_le (pe_op op_mul pe_int (pv 0)) (pv 1) (nomark _)) (pss_one (ps_ret (pe_tup (pa_cons (pe_op op_mul (pe_op op_mul pe_int (pv 0)) (pv 0)) (pa_cons (pe_op op_mul (pv 1) (pv 1)) pa_nil))))) pss_nil)
  (pss_one (ps_ret (pe_tup (pa_cons (pe_op op_sub (pe_op op_mul (pv 1) (pv 1)) (pe_op op_mul (pe_op op_mul pe_int (pv 3)) (pv 3))) (pa_cons (pe_op op_mul (pv 1) (pv 1)) pa_nil)))))))))), ?_⟩
    have two : 2 ≤ sizeLine := by rw [sizeLine_eq]; decide
    have b1 : -(2 ^ 64) < 2 * g ∧ 2 * g < 2 ^ 64 := ⟨by omega, by omega⟩
    unfold shareOf at kk
    walk_at "go"
    refine ifP (fun h => ?_) (fun h => ?_)
    · rw [if_pos h] at kk
      walk_at "go"
      exact ⟨two, kk⟩
    rw [if_neg h] at kk
    walk_at "go"
    refine ifP (fun h => ?_) (fun h => ?_)
    · rw [if_pos h] at kk
      walk_at "go"
      exact ⟨two, kk⟩
    rw [if_neg h] at kk
    walk_at "go"
    refine ifP (fun h => ?_) (fun h => ?_)
    · rw [if_pos h] at kk
      walk_at "go"
      exact ⟨two, kk⟩
    rw [if_neg h] at kk
    walk_at "go"
    refine ifP (fun h => ?_) (fun h => ?_)
    · rw [if_pos h] at kk
      walk_at "go"
      exact ⟨two, kk⟩
    rw [if_neg h] at kk
    walk_at "go"
    exact ⟨two, kk⟩
/-- a Path stands at a -/
def PathAt (K : PySem.W.Frag) (H : Hp) (a : Addr) (r : Row) : Prop := ∃ dx, H a = some (.ins (He.ga K "Path") dx (fl_Path (.int r.first) (.int r.aim) (.int r.start) (.int r.length) (.str r.way)))
theorem PathAt.kp {M : List Addr} {H H' : Hp} {a : Addr} {r : Row} (h : PathAt K H a r) (k : Kp M H H') (n : a ∉ M) : PathAt K H' a r := let ⟨dx, e⟩ := h; ⟨dx, k _ _ e n⟩
def spOver (K : PySem.W.Frag) : Sp := fun vs H Q _ => ∃ (a : Addr) (r : Row) (t : Int), vs = [.ref a, .int t] ∧ PathAt K H a r ∧ Q (.bl (decide (r.start + r.length ≤ t))) H
theorem ok_over (T : Tx K mg) {f : Addr} {fd : FuncData} (F : FunD K "is_over" "Path.is_over" (defArgs s_Path_is_over) (defBody s_Path_is_over) (defScope s_Path_is_over) [] [] f fd) : FnOk P w K mg base (L2.CX P w) 1 f fd ["self", "time"] (spOver K) := by
  refine F.ok sc_Path_is_over (fun vs H Q E h => ?_) (fun cdv A outer s H vs Q E hr h => ?_)
  · obtain ⟨d, x, n, rfl, _⟩ := h
    rfl
  · obtain ⟨a, r, t, rfl, ⟨dx, ha⟩, kk⟩ := h
    refine ⟨_, (pss_one (ps_ret (pe_cmpR op_ge (pv 1) (pe_op op_add (pe_fldK (K := K) rfl (pv 0) rfl) (pe_fldK (K := K) rfl (pv 0) rfl)) (nomark _)))), ?_⟩
    walk_at "go"
    exact kk
def spValAt (K : PySem.W.Frag) : Sp := fun vs H Q _ => ∃ (a : Addr) (r : Row) (t : Int), vs = [.ref a, .int t] ∧ PathAt K H a r ∧ 0 ≤ r.length ∧ r.length ≤ 10000 ∧ ∀ H', Same H H' → Q (.int (r.at t)) H'
theorem ok_valAt (T : Tx K mg) (c_share_of : CalX P w K mg base 1 "share_of" spShare []) (m_Path_is_over : MetX P w K mg base 1 (He.ga K "Path") "is_over" (spOver K) []) {f : Addr} {fd : FuncData}
    (F : FunD K "value_at" "Path.value_at" (defArgs s_Path_value_at) (defBody s_Path_value_at) (defScope s_Path_value_at) [] [] f fd) : FnOk P w K mg base (L2.CX P w) 2 f fd ["self", "time"] (spValAt K) := by
  refine F.ok sc_Path_value_at (fun vs H Q E h => ?_) (fun cdv A outer s H vs Q E hr h => ?_)
  · obtain ⟨d, x, n, rfl, _⟩ := h
    rfl
  · obtain ⟨a, r, t, rfl, pa, l0, l1, kk⟩ := h
    obtain ⟨dx, ha⟩ := id pa
    unfold Row.at at kk
    refine ⟨_, (pss_cons (ps_if (pt_val (pe_mX m_Path_is_over hr (by decide) paX (pv 0) (pa_cons (pv 1) pa_nil))) (pss_one (ps_ret (pe_fldK (K := K) rfl (pv 0) rfl))) pss_nil)
  (pss_cons (ps_if (pt_cmpR op_le (pv 1) (pe_fldK (K := K) rfl (pv 0) rfl) (nomark _)) (pss_one (ps_ret (pe_fldK (K := K) rfl (pv 0) rfl))) pss_nil)
  (pss_cons (ps_asg (pe_cX c_share_of hr (by decide) rfl paX (pa_cons (pe_op op_sub (pv 1) (pe_fldK (K := K) rfl (pv 0) rfl)) (pa_cons (pe_fldK (K := K) rfl (pv 0) rfl) (pa_cons (pe_fldK (K := K) rfl (pv 0) rfl) pa_nil)))) (pg_tupK (K := K) rfl (by rfl) (pgs_cons (pg_name (i := 2) sc_Path_value_at.nd rfl (Or.inl rfl)) (pgs_cons (pg_name (i := 3) sc_Path_value_at.nd rfl (Or.inl rfl)) pgs_nil))))
  (pss_one (ps_ret (pe_op op_add (pe_fldK (K := K) rfl (pv 0) rfl) (pe_op op_fdiv (pe_op op_mul (pe_op op_sub (pe_fldK (K := K) rfl (pv 0) rfl) (pe_fldK (K := K) rfl (pv 0) rfl)) (pv 2)) (pv 3)))))))), ?_⟩
    walk_at "go"
    refine ⟨a, r, t, rfl, pa, ?_⟩
    walk_at "go"
    refine ifP (fun h => ?_) (fun h => ?_)
    · rw [if_pos h] at kk
      walk_at "go"
      exact kk _ (Same.refl H)
    rw [if_neg h] at kk
    walk_at "go"
    refine ifP (fun h => ?_) (fun h => ?_)
    · rw [if_pos h] at kk
      walk_at "go"
      exact kk _ (Same.refl H)
    rw [if_neg h] at kk
    walk_at "go"
    obtain ⟨f1, f2, f3, f4⟩ := share_fact (g := t - r.start) (n := r.length) (w := r.way) (by omega) (by omega) (by omega) l1
    refine ⟨_, _, _, rfl, by omega, by omega, l1, fun p hp => ?_⟩
    generalize shareOf (t - r.start) r.length r.way = sh at *
    obtain ⟨s1, s2⟩ := sh
    dsimp only at f1 f2 f3 f4 kk ⊢
    walk_at "go"
    exact kk _ (Kp.to_same (Kp.new Kp.refl hp))
end
end K18


namespace K18
section
variable {P : Program} {w : World} {K : PySem.W.Frag} {mg : Str → Option Value} {base : Heap}

def spAt : Sp := fun vs H Q _ => ∃ (a : Addr) (r : Row) (t : Int), vs = [.ref a, .int t] ∧ H a = some (.tup [.int r.first, .int r.aim, .int r.start, .int r.length, .str r.way]) ∧ 0 ≤ r.length ∧ r.length ≤ 10000 ∧ WayOk r.way ∧ ∀ H', Same H H' → Q (.int (r.at t)) H'
def wayKvs (x1 x2 x3 x4 : Int) : List (Key × V) := [(.inr "even", .int x1), (.inr "slow", .int x2), (.inr "fast", .int x3), (.inr "both", .int x4)]
theorem way_val {x1 x2 x3 x4 : Int} {w : Str} (h : WayOk w) : valV (mergeK [] (wayKvs x1 x2 x3 x4)) (Sum.inr w) = some (.int (if w = "even" then x1 else if w = "slow" then x2 else if w = "fast" then x3 else x4)) := by
  rcases h with h | h | h | h
  · subst h; rw [if_pos rfl]; kernel_rfl
  · subst h; rw [if_neg n_ses, if_pos rfl]; kernel_rfl
  · subst h; rw [if_neg n_fae, if_neg n_fas, if_pos rfl]; kernel_rfl
  · subst h; rw [if_neg n_boe, if_neg n_bos, if_neg n_bof]; kernel_rfl
theorem four_le (x1 x2 x3 x4 : Int) : (wayKvs x1 x2 x3 x4).length ≤ 15 := by show 4 ≤ 15; decide
theorem above_fact {g n : Int} {w : Str} (h0 : 0 ≤ g) (h1 : g ≤ n) (hn : n ≤ 10000) : 0 ≤ above g n w ∧ above g n w ≤ 100000000 := by
  obtain ⟨a1, a2, a3, a4⟩ := sq_bound h0 h1 hn
  obtain ⟨b1, b2, b3, b4⟩ := sq_bound (g := n - g) (n := n) (by omega) (by omega) hn
  unfold above
  split
  · have c1 : 0 ≤ g * n := Int.mul_nonneg h0 (by omega)
    have c2 : g * n ≤ n * n := Int.mul_le_mul_of_nonneg_right h1 (by omega)
    omega
  · split
    · omega
    · split
      · omega
      · split
        · rename_i hh
          have c1 : 0 ≤ 2 * g * g := Int.mul_nonneg (by omega) h0
          have c2 : 2 * g * g ≤ n * g := Int.mul_le_mul_of_nonneg_right hh h0
          have c3 : n * g ≤ n * n := Int.mul_le_mul_of_nonneg_left h1 (by omega)
          omega
        · rename_i hh
          have c1 : 0 ≤ 2 * (n - g) * (n - g) := Int.mul_nonneg (by omega) (by omega)
          have c2 : 2 * (n - g) * (n - g) ≤ n * (n - g) := Int.mul_le_mul_of_nonneg_right (by omega) (by omega)
          have c3 : n * (n - g) ≤ n * n := Int.mul_le_mul_of_nonneg_left (by omega) (by omega)
          omega
theorem ok_at (T : Tx K mg) {f : Addr} {fd : FuncData}
    (F : FunD K "_law_at" "_law_at" (defArgs s_law_at) (defBody s_law_at) (defScope s_law_at) [] [] f fd) : FnOk P w K mg base (L2.CX P w) 1 f fd ["row", "time"] spAt := by
  refine F.ok sc_law_at (fun vs H Q E h => ?_) (fun cdv A outer s H vs Q E hr h => ?_)
  · obtain ⟨d, x, n, rfl, _⟩ := h
    rfl
  · obtain ⟨a, r, t, rfl, ha, l0, l1, hw, kk⟩ := h
    rw [← law_at l0] at kk
    unfold Row.law at kk
    refine ⟨_, (pss_cons (ps_asg (pv 0) (pg_tupK (K := K) rfl (by rfl) (pgs_cons (pg_name (i := 2) sc_law_at.nd rfl (Or.inl rfl)) (pgs_cons (pg_name (i := 3) sc_law_at.nd rfl (Or.inl rfl)) (pgs_cons (pg_name (i := 4) sc_law_at.nd rfl (Or.inl rfl)) (pgs_cons (pg_name (i := 5) sc_law_at.nd rfl (Or.inl rfl)) (pgs_cons (pg_name (i := 6) sc_law_at.nd rfl (Or.inl rfl)) pgs_nil)))))))
  (pss_cons (ps_set (i := 7) sc_law_at.nd rfl (Or.inl rfl) (pe_callB (call_max2N rfl) (by rfl) T.b_max (by decide +kernel) (pa_cons pe_int (pa_cons (pe_op op_sub (pv 1) (pv 4)) pa_nil))))
  (pss_cons (ps_if (pt_cmpR op_ge (pv 1) (pe_op op_add (pv 4) (pv 5)) (nomark _)) (pss_one (ps_ret (pv 3))) pss_nil)
  (pss_cons (ps_if (pt_cmpR op_eq (pv 7) pe_int (nomark _)) (pss_one (ps_ret (pv 2))) pss_nil)
  (pss_cons (ps_par (i := 8) (j := 9) (by rfl) sc_law_at.nd rfl rfl (by decide) rfl rfl (pa_cons (pe_op op_sub (pv 5) (pv 7)) (pa_cons (pe_op op_mul (pv 5) (pv 5)) pa_nil)) (by rfl))
  (pss_cons (ps_set (i := 10) sc_law_at.nd rfl (Or.inl rfl) (pe_dget (hu_of hr) (pe_disp (pps_cons pe_str (pe_op op_mul (pv 7) (pv 5)) (pps_cons pe_str (pe_op op_mul (pv 7) (pv 7)) (pps_cons pe_str (pe_op op_sub (pv 9) (pe_op op_mul (pv 8) (pv 8))) (pps_cons pe_str (pe_ifExp (pt_cmpR op_le (pe_op op_mul pe_int (pv 7)) (pv 5) (nomark _)) (pe_op op_mul (pe_op op_mul pe_int (pv 7)) (pv 7)) (pe_op op_sub (pv 9) (pe_op op_mul (pe_op op_mul pe_int (pv 8)) (pv 8)))) pps_nil)))) (by rfl) (by rfl) (fun z => by cases z) (by decide)) (pv 6) (fun _ _ => rfl)))
  (pss_one (ps_ret (pe_op op_add (pv 2) (pe_op op_fdiv (pe_op op_mul (pe_op op_sub (pv 3) (pv 2)) (pv 10)) (pv 9))))))))))), ?_⟩
    walk_at "go"
    refine ifP (fun h => ?_) (fun h => ?_)
    · rw [if_pos h] at kk
      walk_at "go"
      exact kk _ (Same.refl H)
    rw [if_neg h] at kk
    walk_at "go"
    refine ifP (fun h => ?_) (fun h => ?_)
    · rw [if_pos h] at kk
      walk_at "go"
      exact kk _ (Same.refl H)
    rw [if_neg h] at kk
    walk_at "go"
    have g0 : 0 < max 0 (t - r.start) := by omega
    have g1 : max 0 (t - r.start) ≤ r.length := by omega
    generalize max 0 (t - r.start) = g at g0 g1 kk ⊢
    generalize r.length = l at *
    intro p hp
    have sq := sq_bound (g := g) (n := l) (by omega) g1 l1
    have sq2 := sq_bound (g := l - g) (n := l) (by omega) (by omega) l1
    have fin : ∀ (m : Int), (2 * g ≤ l → m = 2 * g * g) → (¬ 2 * g ≤ l → m = l * l - 2 * (l - g) * (l - g)) → valV (mergeK [] (wayKvs (g * l) (g * g) (l * l - (l - g) * (l - g)) m)) (Sum.inr r.way) = some (.int (above g l r.way)) := fun m m1 m2 => by
      rw [way_val hw]
      unfold above
      split
      · rfl
      · split
        · rfl
        · split
          · rfl
          · split
            · rw [m1 ‹_›]
            · rw [m2 ‹_›]
    walk_at "go"
    have lp : 0 < l * l := Int.mul_pos (by omega) (by omega)
    have b1 : 0 ≤ g * l ∧ g * l ≤ l * l := ⟨Int.mul_nonneg (by omega) (by omega), Int.mul_le_mul_of_nonneg_right g1 (by omega)⟩
    refine ifP (fun h2 => ?_) (fun h2 => ?_)
    · have d1 : 0 ≤ 2 * g * g := Int.mul_nonneg (by omega) (by omega)
      walk_at "go"
      refine ⟨upd_same, wayKvs _ _ _ _, rfl, four_le _ _ _ _, ?_⟩
      walk_at "go"
      refine g_dgetS upd_same (fin _ (fun _ => rfl) (fun h3 => absurd h2 h3)) ?_
      walk_at "go"
      obtain ⟨a0, a1⟩ := above_fact (w := r.way) (by omega) g1 l1
      generalize above g l r.way = ab at *
      walk_at "go"
      exact kk _ (Kp.to_same (Kp.own (Kp.own Kp.refl hp) hp))
    · have d1 : 0 ≤ 2 * (l - g) * (l - g) := Int.mul_nonneg (by omega) (by omega)
      walk_at "go"
      refine ⟨upd_same, wayKvs _ _ _ _, rfl, four_le _ _ _ _, ?_⟩
      walk_at "go"
      refine g_dgetS upd_same (fin _ (fun h3 => absurd h3 h2) (fun _ => rfl)) ?_
      walk_at "go"
      obtain ⟨a0, a1⟩ := above_fact (w := r.way) (by omega) g1 l1
      generalize above g l r.way = ab at *
      walk_at "go"
      exact kk _ (Kp.to_same (Kp.own (Kp.own Kp.refl hp) hp))
end
end K18


namespace K18
section
variable {P : Program} {w : World} {K : PySem.W.Frag} {mg : Str → Option Value} {base : Heap}
def waysL : List V := List.map (He.Dv.v K) [.str "even", .str "slow", .str "fast", .str "both"]
instance (w : Str) : Decidable (WayOk w) := by unfold WayOk; infer_instance
theorem way_in (w : Str) : inV (.str w) (List.map (He.Dv.v K) [.str "even", .str "slow", .str "fast", .str "both"]) = decide (WayOk w) := by
  show ((("even" : Str) == w) || ((("slow" : Str) == w) || ((("fast" : Str) == w) || ((("both" : Str) == w) || false)))) = _
  rw [Bool.or_false]
  simp only [Bool.beq_eq_decide_eq, ← Bool.decide_or]
  exact decide_eq_decide.mpr ⟨fun h => by rcases h with h | h | h | h <;> simp [WayOk, ← h], fun h => by rcases h with h | h | h | h <;> simp [h]⟩
def spPath (K : PySem.W.Frag) : Sp := fun vs H Q E => ∃ (a dx : Addr) (r : Row), vs = [.ref a, .int r.first, .int r.aim, .int r.start, .int r.length, .str r.way] ∧ H a = some (.ins (He.ga K "Path") dx []) ∧
  ((0 ≤ r.length ∧ WayOk r.way) → Q .non (upd H a (.ins (He.ga K "Path") dx (fl_Path (.int r.first) (.int r.aim) (.int r.start) (.int r.length) (.str r.way))))) ∧
  (¬ (0 ≤ r.length ∧ WayOk r.way) → E (.ref (He.ga K "SizeError")) none H)
theorem ok_path (T : Tx K mg) {f : Addr} {fd : FuncData} (F : FunD K "__init__" "Path.__init__" (defArgs s_Path_init) (defBody s_Path_init) (defScope s_Path_init) [] [] f fd) : FnOk P w K mg base (L2.CX P w) 1 f fd ["self", "first", "last", "start", "length", "way"] (spPath K) := by
  refine F.ok sc_Path_init (fun vs H Q E h => ?_) (fun cdv A outer s H vs Q E hr h => ?_)
  · obtain ⟨d, x, n, rfl, _⟩ := h
    rfl
  · obtain ⟨a, dx, r, rfl, ha, k1, k2⟩ := h
    refine ⟨_, (pss_cons (ps_if (PW.pt (pw_or (pt_cmpR op_lt (pv 4) pe_int (nomark _)) (pw_or1 (pt_cmpR (op_notInK (K := K) rfl) (pv 5) (pe_glob (v := .ref _) rfl T.g_WAYS rfl) (by rfl))))) (pss_one (ps_raise rfl tkX (pmk_own PySem.F.excBase_ValueError T.x_SizeError.1 T.g_SizeError T.x_SizeError.2.1 (raises_own T.x_SizeError.2.2.1 T.x_SizeError.2.2.2) rfl))) pss_nil)
  (pss_cons (ps_fldK (K := K) rfl (pv 0) (pv 1) rfl)
  (pss_cons (ps_fldK (K := K) rfl (pv 0) (pv 2) rfl)
  (pss_cons (ps_fldK (K := K) rfl (pv 0) (pv 3) rfl)
  (pss_cons (ps_fldK (K := K) rfl (pv 0) (pv 4) rfl)
  (pss_one (ps_fldK (K := K) rfl (pv 0) (pv 5) rfl))))))), ?_⟩
    walk_at "go"
    refine ifP (fun h => ?_) (fun h => ?_)
    · walk_at "go"
      exact k2 fun z => absurd z.1 (by omega)
    · walk_at "go"
      refine g_notin (.inr (T.t_WAYS _)) rfl rfl ?_
      rw [way_in]
      walk_at "go"
      refine ifN (fun h2 => ?_) (fun h2 => ?_)
      · walk_at "go"
        exact k2 fun z => h2 z.2
      · walk_at "go"
        have k1 := k1 ⟨by omega, h2⟩
        simp only [upd_upd]
        exact k1

def spMover (K : PySem.W.Frag) : Sp := fun vs H Q _ => ∃ (a dx : Addr), vs = [.ref a] ∧ H a = some (.ins (He.ga K "Mover") dx []) ∧ ∀ (dv dp dw : Addr) (H' : Hp), H dv = none → H dp = none → H dw = none → dv ≠ dp → dv ≠ dw → dp ≠ dw → Kp [a] H H' → H' dv = some (.dK []) → H' dp = some (.dK []) → H' dw = some (.dK []) → H' a = some (.ins (He.ga K "Mover") dx (fl_Mover (.ref dv) (.ref dp) (.ref dw) (.int 0))) → Q .non H'
theorem ok_mover (T : Tx K mg) {f : Addr} {fd : FuncData} (F : FunD K "__init__" "Mover.__init__" (defArgs s_Mover_init) (defBody s_Mover_init) (defScope s_Mover_init) [] [] f fd) : FnOk P w K mg base (L2.CX P w) 1 f fd ["self"] (spMover K) := by
  refine F.ok sc_Mover_init (fun vs H Q E h => ?_) (fun cdv A outer s H vs Q E hr h => ?_)
  · obtain ⟨a, dx, rfl, _⟩ := h
    rfl
  · obtain ⟨a, dx, rfl, ha, kk⟩ := h
    refine ⟨_, (pss_cons (ps_fldK (K := K) rfl (pv 0) pe_dnewK rfl)
  (pss_cons (ps_fldK (K := K) rfl (pv 0) pe_dnewK rfl)
  (pss_cons (ps_fldK (K := K) rfl (pv 0) pe_dnewK rfl)
  (pss_one (ps_fldK (K := K) rfl (pv 0) pe_int rfl))))), ?_⟩
    walk_at "go"
    intro dv nv
    walk_at "go"
    intro dp np
    walk_at "go"
    intro dw nw
    walk_at "go"
    obtain ⟨n1, np⟩ := upd_free np
    obtain ⟨n2, np⟩ := upd_free np
    obtain ⟨m1, nw⟩ := upd_free nw
    obtain ⟨m2, nw⟩ := upd_free nw
    obtain ⟨m3, nw⟩ := upd_free nw
    obtain ⟨m4, nw⟩ := upd_free nw
    have nva : dv ≠ a := ne_of_none' nv ha |>.symm
    exact kk dv dp dw _ nv np nw n2.symm m4.symm m2.symm (.mut (.mut (.own (.mut (.own (.mut (.own .refl nv) (by simp)) np) (by simp)) nw) (by simp)) (by simp)) (by walk_at "hp") (by walk_at "hp") (by walk_at "hp") upd_same
end
end K18


namespace K18
structure Mv where
  S : List (Str × Int)
  R : List (Str × Row)
  W : List (Str × (Int × Str))
  t : Int
structure MvAt (K : PySem.W.Frag) (H : Hp) (m dv dp dw : Addr) (M : Mv) : Prop where
  ob : ∃ dx, H m = some (.ins (He.ga K "Mover") dx (fl_Mover (.ref dv) (.ref dp) (.ref dw) (.int M.t)))
  sv : H dv = some (.dK (enc V.int M.S))
  rv : ∃ L, pr L = M.R ∧ H dp = some (.dK (enc rf L)) ∧ ∀ e ∈ L, PathAt K H e.2.1 e.2.2
  wv : ∃ L : List (Str × (Addr × (Int × Str))), pr L = M.W ∧ H dw = some (.dK (enc rf L)) ∧ ∀ e ∈ L, H e.2.1 = some (.tup [.int e.2.2.1, .str e.2.2.2])
  n1 : dv ≠ dp
  n2 : dv ≠ dw
  n3 : dp ≠ dw
def RowOk (r : Row) : Prop := 0 ≤ r.length ∧ r.length ≤ 10000 ∧ WayOk r.way
structure MvOk (M : Mv) : Prop where
  sn : (M.S.map (·.1)).Nodup
  rn : (M.R.map (·.1)).Nodup
  wn : (M.W.map (·.1)).Nodup
  sk : ∀ e ∈ M.S, e.1 ∈ (["a", "b", "c"] : List Str)
  rk : ∀ e ∈ M.R, e.1 ∈ (["a", "b", "c"] : List Str)
  wk : ∀ e ∈ M.W, e.1 ∈ (["a", "b", "c"] : List Str)
  ro : ∀ e ∈ M.R, RowOk e.2 ∧ e.2.start ≤ M.t ∧ M.t < e.2.start + e.2.length
  wo : ∀ e ∈ M.W, 0 ≤ e.2.1 ∧ e.2.1 ≤ 10000 ∧ WayOk e.2.2
  rs : ∀ k, aGet M.S k = none → aGet M.R k = none
section
variable {P : Program} {w : World} {K : PySem.W.Frag} {mg : Str → Option Value} {base : Heap}
def spSetWay (K : PySem.W.Frag) : Sp := fun vs H Q E => ∃ (m dv dp dw : Addr) (M : Mv) (name way : Str) (l : Int), vs = [.ref m, .str name, .int l, .str way] ∧ MvAt K H m dv dp dw M ∧ M.W.length ≤ 1000 ∧
  ((0 ≤ l ∧ WayOk way) → ∀ H', Kp [dw] H H' → MvAt K H' m dv dp dw ⟨M.S, M.R, aPut M.W name (l, way), M.t⟩ → Q .non H') ∧
  (¬ (0 ≤ l ∧ WayOk way) → ∀ H', Same H H' → E (.ref (He.ga K "SizeError")) none H')
theorem ok_setWay (T : Tx K mg) (k_Path : MakX P w K mg base 1 "Path" (He.ga K "Path") (spPath K) []) {f : Addr} {fd : FuncData} (F : FunD K "set_way" "Mover.set_way" (defArgs s_Mover_set_way) (defBody s_Mover_set_way) (defScope s_Mover_set_way) [] [] f fd) :
    FnOk P w K mg base (L2.CX P w) 3 f fd ["self", "name", "length", "way"] (spSetWay K) := by
  refine F.ok sc_Mover_set_way (fun vs H Q E h => ?_) (fun cdv A outer s H vs Q E hr h => ?_)
  · obtain ⟨m, dv, dp, dw, M, name, way, l, rfl, _⟩ := h
    rfl
  · obtain ⟨m, dv, dp, dw, M, name, way, l, rfl, hm, hl, k1, k2⟩ := h
    refine ⟨_, (pss_cons (ps_expr (pe_mkX k_Path hr (by decide) rfl paX (pa_cons pe_int (pa_cons pe_int (pa_cons pe_int (pa_cons (pv 2) (pa_cons (pv 3) pa_nil)))))))
  (pss_one (ps_dput (hu_of hr) (pe_fldK (K := K) rfl (pv 0) rfl) (pv 1) (pe_tup (pa_cons (pv 2) (pa_cons (pv 3) pa_nil))) rfl))), ?_⟩
    obtain ⟨⟨dx, ob⟩, sv, ⟨LR, er, rv, rp⟩, ⟨LW, ew, wv, wp⟩, n1, n2, n3⟩ := id hm
    walk_at "go"
    intro x dy nx nd nxd
    refine ⟨x, dy, ⟨0, 0, 0, l, way⟩, rfl, upd_same, fun z => ?_, fun z => ?_⟩
    · have k1 := k1 z
      refine ⟨rfl, ?_⟩
      have nwx : dw ≠ x := ne_of_none' nx wv
      have nwd : dw ≠ dy := ne_of_none' nd wv
      walk_at "go"
      refine ⟨szl (Nat.le_of_ble_eq_true rfl), fun tp ntp => ?_⟩
      walk_at "go"
      obtain ⟨n4, ntp⟩ := upd_free ntp
      obtain ⟨n5, ntp⟩ := upd_free ntp
      obtain ⟨n6, ntp⟩ := upd_free ntp
      refine g_dputS (by walk_at "hp") (by rw [enc_len, ← pr_len, ew]; exact szt (by omega)) ?_
      have kp : Kp [dw] H (upd (upd (upd (upd (upd H dy (HO.own x)) x (HO.ins (He.ga K "Path") dy [])) x (HO.ins (He.ga K "Path") dy (fl_Path (.int 0) (.int 0) (.int 0) (.int l) (.str way)))) tp (HO.tup [V.int l, V.str way])) dw
        (.dK (putK (enc rf LW) (Sum.inr name) (.ref tp)))) := .mut (.own (.own (.own (.own .refl nd) nx) nx) ntp) (by simp)
      refine k1 _ kp ⟨⟨dx, kp.get ob (by simp [wv])⟩, kp _ _ sv (by simpa using n2), ⟨LR, er, kp _ _ rv (by simpa using n3), fun e he => ?_⟩, ⟨aPut LW name (tp, (l, way)), by rw [pr_put, ew], ?_, fun e he => ?_⟩, n1, n2, n3⟩
      · obtain ⟨py, pa⟩ := rp e he
        exact ⟨py, kp.get pa (by simp [wv])⟩
      · rw [upd_same, ← putK_enc]
        rfl
      · rcases aPut_mem he with z | ⟨z, _⟩
        · subst z
          have : tp ≠ dw := (ne_of_none' ntp wv).symm
          show upd _ _ _ tp = _
          rw [upd_ne this, upd_same]
        · exact kp.get (wp e z) (by simp [wv])
    · exact k2 z _ (Kp.to_same (.own (.new .refl nd) nx))
theorem lenLe {M : Mv} (h : MvOk M) : M.S.length ≤ 3 ∧ M.R.length ≤ 3 ∧ M.W.length ≤ 3 := ⟨nd_three h.sn h.sk, nd_three h.rn h.rk, nd_three h.wn h.wk⟩
def spNow (K : PySem.W.Frag) : Sp := fun vs H Q E => ∃ (m dv dp dw : Addr) (M : Mv) (name : Str), vs = [.ref m, .str name] ∧ MvAt K H m dv dp dw M ∧
  (∀ r, aGet M.R name = some r → 0 ≤ r.length ∧ r.length ≤ 10000 ∧ ∀ H', Same H H' → Q (.int (r.at M.t)) H') ∧
  (aGet M.R name = none → ∀ v, aGet M.S name = some v → Q (.int v) H) ∧
  (aGet M.R name = none → aGet M.S name = none → E (.ref (He.ga K "SizeError")) none H)
theorem ok_now (T : Tx K mg) (m_Path_value_at : MetX P w K mg base 2 (He.ga K "Path") "value_at" (spValAt K) []) {f : Addr} {fd : FuncData} (F : FunD K "value_now" "Mover.value_now" (defArgs s_Mover_value_now) (defBody s_Mover_value_now) (defScope s_Mover_value_now) [] [] f fd) :
    FnOk P w K mg base (L2.CX P w) 3 f fd ["self", "name"] (spNow K) := by
  refine F.ok sc_Mover_value_now (fun vs H Q E h => ?_) (fun cdv A outer s H vs Q E hr h => ?_)
  · obtain ⟨m, dv, dp, dw, M, name, rfl, _⟩ := h
    rfl
  · obtain ⟨m, dv, dp, dw, M, name, rfl, hm, k1, k2, k3⟩ := h
    refine ⟨_, (pss_cons (ps_if (pt_cmp (pc_din (hu_of hr) (pv 1) (pe_fldK (K := K) rfl (pv 0) rfl))) (pss_one (ps_ret (pe_mX m_Path_value_at hr (by decide) paX (pe_dget (hu_of hr) (pe_fldK (K := K) rfl (pv 0) rfl) (pv 1) (fun _ _ => rfl)) (pa_cons (pe_fldK (K := K) rfl (pv 0) rfl) pa_nil)))) pss_nil)
  (pss_cons (ps_if (pt_cmp (pc_dnotin (hu_of hr) (pv 1) (pe_fldK (K := K) rfl (pv 0) rfl))) (pss_one (ps_raise rfl tkX (pmk_own PySem.F.excBase_ValueError T.x_SizeError.1 T.g_SizeError T.x_SizeError.2.1 (raises_own T.x_SizeError.2.2.1 T.x_SizeError.2.2.2) rfl))) pss_nil)
  (pss_one (ps_ret (pe_dget (hu_of hr) (pe_fldK (K := K) rfl (pv 0) rfl) (pv 1) (fun _ _ => rfl)))))), ?_⟩
    obtain ⟨⟨dx, ob⟩, sv, ⟨LR, er, rv, rp⟩, ⟨LW, ew, wv, wp⟩, n1, n2, n3⟩ := id hm
    walk_at "go"
    cases e : aGet M.R name with
    | some r =>
      obtain ⟨a, ea⟩ := pr_get (by rw [er]; exact e)
      refine g_dinY rv (enc_rf ea) ?_
      walk_at "go"
      refine g_dgetS rv (enc_rf ea) ?_
      obtain ⟨py, pa⟩ := rp _ (aGet_mem ea)
      walk_at "go"
      obtain ⟨l0, l1, k1⟩ := k1 r e
      exact ⟨a, r, M.t, rfl, ⟨py, pa⟩, l0, l1, k1⟩
    | none =>
      refine g_dinN rv (enc_none (pr_none (by rw [er]; exact e))) ?_
      walk_at "go"
      cases es : aGet M.S name with
      | some v =>
        refine g_dniY sv (enc_get es) ?_
        walk_at "go"
        refine g_dgetS sv (enc_get es) ?_
        exact k2 e v es
      | none =>
        refine g_dniN sv (enc_none es) ?_
        walk_at "go"
        exact k3 e es
def isOver (t : Int) (r : Row) : Bool := decide (r.start + r.length ≤ t)
def spMoving (K : PySem.W.Frag) : Sp := fun vs H Q E => ∃ (m dv dp dw : Addr) (M : Mv), vs = [.ref m] ∧ MvAt K H m dv dp dw M ∧ M.R.length ≤ 60 ∧
  ∀ (ys : List Str) (H' : Hp) (p : Addr), ys.Perm (M.R.map (·.1)) → sortedS ys = true → Same H H' → H p = none → H' p = some (.tup (ys.map V.str)) → Q (.ref p) H'
theorem ok_moving (T : Tx K mg) {f : Addr} {fd : FuncData} (F : FunD K "moving" "Mover.moving" (defArgs s_Mover_moving) (defBody s_Mover_moving) (defScope s_Mover_moving) [] [] f fd) :
    FnOk P w K mg base (L2.CX P w) 1 f fd ["self"] (spMoving K) := by
  refine F.ok sc_Mover_moving (fun vs H Q E h => ?_) (fun cdv A outer s H vs Q E hr h => ?_)
  · obtain ⟨m, dv, dp, dw, M, rfl, _⟩ := h
    rfl
  · obtain ⟨m, dv, dp, dw, M, rfl, hm, hl, kk⟩ := h
    refine ⟨_, (pss_one (ps_ret (pe_tupleOfK (K := K) rfl (by rfl) T.b_tuple (pe_callB (call_sortedDN rfl) (by rfl) T.b_sorted (by decide +kernel) (pa_cons (pe_fldK (K := K) rfl (pv 0) rfl) pa_nil))))), ?_⟩
    obtain ⟨⟨dx, ob⟩, sv, ⟨LR, er, rv, rp⟩, ⟨LW, ew, wv, wp⟩, n1, n2, n3⟩ := id hm
    walk_at "go"
    refine ⟨dp, _, M.R.map (·.1), rfl, .inl rv, ?_, ?_, fun ys p pe so hp => ?_⟩
    · rw [enc_keys, ← pr_keys, er]
    · rw [List.length_map]; omega
    · walk_at "go"
      refine g_tupL (SqL.of upd_same) fun r nr => ?_
      obtain ⟨nrp, nr⟩ := upd_free nr
      exact kk ys _ r pe so (Kp.to_same (.new (.new .refl hp) (by rw [upd_ne nrp]; exact nr))) nr upd_same
def ending (K : PySem.W.Frag) (M : Mv) (many : Int) (E : List Str) : Prop := ∃ ys : List Str, ys.Perm (M.R.map (·.1)) ∧ sortedS ys = true ∧ E = ys.filter fun k => ((aGet M.R k).map (isOver (M.t + many))).getD false
def spTick (K : PySem.W.Frag) : Sp := fun vs H Q E => ∃ (m dv dp dw : Addr) (M : Mv) (many : Int), vs = [.ref m, .int many] ∧ MvAt K H m dv dp dw M ∧ M.R.length ≤ 60 ∧ (M.R.map (·.1)).Nodup ∧
  ∀ (ys : List Str) (H' : Hp) (p : Addr), ys.Perm (M.R.map (·.1)) → sortedS ys = true → Kp [m, dp] H H' → H p = none → H' p = some (.tup ((ys.filter fun k => ((aGet M.R k).map (isOver (M.t + many))).getD false).map V.str)) →
    MvAt K H' m dv dp dw ⟨M.S, M.R.filter fun e => !isOver (M.t + many) e.2, M.W, M.t + many⟩ → Q (.ref p) H'
theorem ok_tick (T : Tx K mg) (m_Path_is_over : MetX P w K mg base 1 (He.ga K "Path") "is_over" (spOver K) []) {f : Addr} {fd : FuncData} (F : FunD K "tick" "Mover.tick" (defArgs s_Mover_tick) (defBody s_Mover_tick) (defScope s_Mover_tick) [.int 1] [] f fd) :
    FnOk P w K mg base (L2.CX P w) 2 f fd ["self", "many"] (spTick K) := by
  refine F.ok sc_Mover_tick (fun vs H Q E h => ?_) (fun cdv A outer s H vs Q E hr h => ?_)
  · obtain ⟨m, dv, dp, dw, M, many, rfl, _⟩ := h
    rfl
  · obtain ⟨m, dv, dp, dw, M, many, rfl, hm, hl, nd, kk⟩ := h
    refine ⟨_, (pss_cons (ps_fldaugK (K := K) rfl (pv 0) (pv 1) in_add)
  (pss_cons (ps_setLc (i := 2) (own := [("name", 3)]) (g := gName 3) rfl sc_Mover_tick.nd rfl rfl (sw_true rfl rfl rfl (by decide +kernel)) (pi_listK (K := K) rfl (pe_callB (call_sortedDN rfl) (by rfl) T.b_sorted (by decide +kernel) (pa_cons (pe_fldK (K := K) rfl (pv 0) rfl) pa_nil))) (blkOk_by (own := [("name", 3)]) (N := sl_Mover_tick) (sc := defScope s_Mover_tick) (by decide +kernel)) (fun _ _ _ _ _ => (pg_name (i := 3) sc_Mover_tick.nd rfl (Or.inl rfl))) (fun _ _ _ _ _ => (pts_one (pt_val (pe_mX m_Path_is_over hr (by decide) passL (pe_dget (hu_of hr) (pe_fldK (K := K) rfl (pv 0) rfl) (pv 3) (fun _ _ => rfl)) (pa_cons (pe_fldK (K := K) rfl (pv 0) rfl) pa_nil))))) (fun _ _ _ _ _ => (pv 3)))
  (pss_cons (ps_for poX rfl (pi_listK (K := K) rfl (pv 2)) (pg_name (i := 3) sc_Mover_tick.nd rfl (Or.inl rfl)) (pss_one (ps_ddel (pe_fldK (K := K) rfl (pv 0) rfl) (pv 3))))
  (pss_one (ps_ret (pe_tupleOfK (K := K) rfl (by rfl) T.b_tuple (pv 2))))))), ?_⟩
    obtain ⟨⟨dx, ob⟩, sv, ⟨LR, er, rv, rp⟩, ⟨LW, ew, wv, wp⟩, n1, n2, n3⟩ := id hm
    walk_at "go"
    refine ⟨dp, _, M.R.map (·.1), rfl, .inl (by walk_at "hp"), ?_, ?_, fun ys p pe so hp => ?_⟩
    · rw [enc_keys, ← pr_keys, er]
    · rw [List.length_map]; omega
    obtain ⟨npm, np⟩ := upd_free hp
    have ylen : ys.length ≤ 60 := by rw [pe.length_eq, List.length_map]; exact hl
    generalize eq : (fun k => ((aGet M.R k).map (isOver (M.t + many))).getD false) = q at kk
    walk_at "go"
    refine r_lclP (xs := ys.map V.str) (SqL.of upd_same) (by rw [List.length_map]; exact szt (by omega)) (fun v => match v with | .str k => q k | _ => false) id (fun x hx D l hD => ?_) (fun x hx hp D l hD => ?_) fun D hD => ?_
    · obtain ⟨k, hk, rfl⟩ := List.mem_map.mp hx
      obtain ⟨r, hr⟩ := aGet_key (pe.subset hk)
      obtain ⟨a, ea⟩ := pr_get (by rw [er]; exact hr)
      obtain ⟨py, pa⟩ := rp _ (aGet_mem ea)
      intro R hR
      have eqk : q k = isOver (M.t + many) r := by rw [← eq]; show ((aGet M.R k).map _).getD false = _; rw [hr]; rfl
      have hR : R (q k) _ := hR
      rw [eqk] at hR
      have hD1 := (upd_free hD)
      have hD2 := (upd_free hD1.2)
      walk_at "go"
      refine g_dgetS (by walk_at "hp") (enc_rf ea) ?_
      have am : a ≠ m := ne_of pa ob (ins_ne (by show (5 : Nat) ≠ 4; decide))
      walk_at "go"
      exact ⟨a, r, _, rfl, ⟨py, by walk_at "hp"⟩, _, rfl, hR⟩
    · intro R hR
      walk_at "go"
      exact hR
    · obtain ⟨nDp, hD1⟩ := upd_free hD
      obtain ⟨nDm, hD2⟩ := upd_free hD1
      have eF : List.map id (List.filter (fun v => match v with | .str k => q k | _ => false) (ys.map V.str)) = (ys.filter q).map V.str := by
        rw [List.map_id, List.filter_map]
        rfl
      rw [eF]
      generalize eE : ys.filter q = EE at *
      have ynd : ys.Nodup := pe.nodup_iff.mpr nd
      have end_ : EE.Nodup := by rw [← eE]; exact ynd.sublist List.filter_sublist
      walk_at "go"
      have npD : dp ≠ D := ne_of_none' hD2 rv
      have npp : dp ≠ p := ne_of_none' np rv
      have nmp : dp ≠ m := ne_of rv ob (by intro z; cases z)
      refine r_forl (xs := EE.map V.str) (SqL.of upd_same) (fun i σ H' => (∃ u, σ = [some (.ref m), some (.int many), some (.ref D), u]) ∧
        Kp [dp] (upd (upd (upd H m (.ins (He.ga K "Mover") dx (fl_Mover (V.ref dv) (V.ref dp) (V.ref dw) (V.int (M.t + many))))) p (.lst (ys.map V.str))) D (.lst (EE.map V.str))) H' ∧
        H' dp = some (.dK (enc rf (LR.filter fun e => !decide (e.1 ∈ EE.take i))))) ⟨⟨_, rfl⟩, .refl, ?_⟩ (fun i σ H' h => ?_) (fun i x σ H' hi hx h => ?_) (fun σ H' h => ?_)
      · have e0 : (LR.filter fun e => !decide (e.1 ∈ EE.take 0)) = LR := List.filter_eq_self.mpr fun e _ => by rw [List.take_zero]; rfl
        rw [e0]
        walk_at "hp"
      · exact SqL.of (h.2.1 _ _ upd_same (by simpa using npD.symm))
      · obtain ⟨⟨u, rfl⟩, kp, hd⟩ := h
        have hm' := kp m _ (by walk_at "hp") (by simpa using nmp.symm)
        rw [List.getElem?_map] at hx
        obtain ⟨k, hk, rfl⟩ := Option.map_eq_some_iff.mp hx
        have kE : k ∈ EE := take_mem hk
        have kR : k ∈ LR.map (·.1) := by
          rw [← pr_keys, er]
          exact pe.subset (by rw [← eE] at kE; exact (List.mem_filter.mp kE).1)
        walk_at "go"
        refine g_del1 hd ?_ ⟨⟨_, rfl⟩, .mut kp (by simp), ?_⟩
        · rw [valV_enc, aGet_filter (fun k => !decide (k ∈ EE.take i)), if_pos (by rw [decide_eq_false (not_mem_take end_ hk)]; rfl)]
          obtain ⟨z, ez⟩ := aGet_key kR
          rw [ez]
          rfl
        · rw [upd_same, dropK_enc, drop_take hk]
      · obtain ⟨⟨u, rfl⟩, kp, hd⟩ := h
        rw [List.length_map, List.take_length] at hd
        have hD' := kp D _ upd_same (by simpa using npD.symm)
        walk_at "go"
        refine g_tupL (SqL.of hD') fun r nr => ?_
        have kp0 : Kp [m, dp] H H' := Kp.trans (.own (.own (.mut .refl (by simp)) np) hD2) (kp.mono (by simp))
        have nr0 : H r = none := by
          cases er : H r with
          | none => rfl
          | some o =>
            by_cases hm : r = m
            · rw [hm, kp m _ (by walk_at "hp") (by simpa using nmp.symm)] at nr; cases nr
            · by_cases hd2 : r = dp
              · rw [hd2, hd] at nr; cases nr
              · rw [kp0 r o er (by simp [hm, hd2])] at nr; cases nr
        have kp1 : Kp [m, dp] H (upd H' r (.tup (EE.map V.str))) := .new kp0 nr
        have hm' := kp m _ (by walk_at "hp") (by simpa using nmp.symm)
        have nmr : m ≠ r := ne_of_none' nr hm'
        have ndr : dp ≠ r := ne_of_none' nr hd
        refine kk ys _ r pe so kp1 nr0 (by rw [eE]; exact upd_same) ⟨⟨dx, (upd_ne nmr).trans hm'⟩, kp1 _ _ sv ?_, ⟨_, ?_, (upd_ne ndr).trans hd, fun e he => ?_⟩, ⟨LW, ew, kp1 _ _ wv ?_, fun e he => ?_⟩, n1, n2, n3⟩
        · simp [n1, show dv ≠ m from ne_of sv ob (by intro z; cases z)]
        · rw [pr_filter (fun e => !decide (e.1 ∈ EE)), er]
          refine List.filter_congr fun e he => ?_
          have g1 := aGet_of_mem nd he
          have g2 : q e.1 = isOver (M.t + many) e.2 := by
            rw [← eq]
            show ((aGet M.R e.1).map _).getD false = _
            rw [g1]
            rfl
          have g3 : e.1 ∈ EE ↔ isOver (M.t + many) e.2 = true := by
            rw [← eE, List.mem_filter, g2]
            exact ⟨fun z => z.2, fun z => ⟨pe.symm.subset (List.mem_map.mpr ⟨e, he, rfl⟩), z⟩⟩
          cases hov : isOver (M.t + many) e.2 with
          | true => rw [decide_eq_true (g3.mpr hov)]
          | false => rw [decide_eq_false fun z => by rw [g3.mp z] at hov; cases hov]
        · obtain ⟨py, pa⟩ := rp e (List.mem_filter.mp he).1
          have am : e.2.1 ≠ m := ne_of pa ob (ins_ne (by show (5 : Nat) ≠ 4; decide))
          have ad : e.2.1 ≠ dp := ne_of pa rv (by intro z; cases z)
          exact ⟨py, kp1 _ _ pa (by simp [am, ad])⟩
        · simp [n3.symm, show dw ≠ m from ne_of wv ob (by intro z; cases z)]
        · have am : e.2.1 ≠ m := ne_of (wp e he) ob (by intro z; cases z)
          have ad : e.2.1 ≠ dp := ne_of (wp e he) rv (by intro z; cases z)
          exact kp1 _ _ (wp e he) (by simp [am, ad])
end
end K18


namespace K18
def goWay (M : Mv) (name : Str) : Int × Str := (aGet M.W name).getD (0, "even")
def goLen (M : Mv) (name : Str) (aim : Int) : Int := match aGet M.R name with
  | some r => if aim = r.first then min (goWay M name).1 (M.t - r.start) else (goWay M name).1
  | none => (goWay M name).1
def hereOf (M : Mv) (name : Str) : Int := match aGet M.R name with
  | some r => r.at M.t
  | none => (aGet M.S name).getD 0
def goRows (M : Mv) (name : Str) (aim : Int) : List (Str × Row) :=
  if 0 < goLen M name aim ∧ hereOf M name ≠ aim then aDrop M.R name ++ [(name, ⟨hereOf M name, aim, M.t, goLen M name aim, (goWay M name).2⟩)] else aDrop M.R name
def goM (M : Mv) (name : Str) (aim : Int) : Mv := ⟨aPut M.S name aim, if (aGet M.S name).isSome = true then goRows M name aim else M.R, M.W, M.t⟩
section
variable {P : Program} {w : World} {K : PySem.W.Frag} {mg : Str → Option Value} {base : Heap}
def spGo (K : PySem.W.Frag) : Sp := fun vs H Q E => ∃ (m dv dp dw : Addr) (M : Mv) (name : Str) (aim : Int), vs = [.ref m, .str name, .int aim] ∧ MvAt K H m dv dp dw M ∧ MvOk M ∧
  ∀ H', Kp [dv, dp] H H' → MvAt K H' m dv dp dw (goM M name aim) → Q .non H'
theorem MvAt.same {H H' : Hp} {m dv dp dw : Addr} {M : Mv} (h : MvAt K H m dv dp dw M) (s : Same H H') : MvAt K H' m dv dp dw M := by
  obtain ⟨⟨dx, ob⟩, sv, ⟨LR, er, rv, rp⟩, ⟨LW, ew, wv, wp⟩, n1, n2, n3⟩ := h
  exact ⟨⟨dx, s _ _ ob⟩, s _ _ sv, ⟨LR, er, s _ _ rv, fun e he => let ⟨py, pa⟩ := rp e he; ⟨py, s _ _ pa⟩⟩, ⟨LW, ew, s _ _ wv, fun e he => s _ _ (wp e he)⟩, n1, n2, n3⟩
theorem now_ok {H : Hp} {m dv dp dw : Addr} {M : Mv} {name : Str} {v : Int} {Q : VK} {E : XK} (h : MvAt K H m dv dp dw M) (mo : MvOk M) (es : aGet M.S name = some v) (q : ∀ H2, Same H H2 → Q (.int (hereOf M name)) H2) : spNow K [.ref m, .str name] H Q E := by
  refine ⟨m, dv, dp, dw, M, name, rfl, h, fun r hr => ?_, fun hn u hu => ?_, fun _ hu => ?_⟩
  · obtain ⟨⟨l0, l1, _⟩, _⟩ := mo.ro _ (aGet_mem hr)
    refine ⟨l0, l1, fun H' s => ?_⟩
    have := q H' s
    unfold hereOf at this
    rw [hr] at this
    exact this
  · have := q H (Same.refl H)
    unfold hereOf at this
    rw [hn, hu] at this
    exact this
  · rw [es] at hu; cases hu
theorem MvAt.path {H H' : Hp} {m dv dp dw : Addr} {M : Mv} (h : MvAt K H m dv dp dw M) (kp : Kp [dv, dp] H H') {a : Addr} {r : Row} (pa : PathAt K H a r) : PathAt K H' a r := by
  obtain ⟨py, pa⟩ := pa
  obtain ⟨LR, _, rv, _⟩ := h.rv
  exact ⟨py, kp.get pa (by simp [h.sv, rv])⟩
theorem go_end {H H' : Hp} {m dv dp dw : Addr} {M : Mv} {S' : List (Str × Int)} {R' : List (Str × Row)} {L' : List (Str × (Addr × Row))} (h : MvAt K H m dv dp dw M) (kp : Kp [dv, dp] H H') (hv : H' dv = some (.dK (enc V.int S'))) (e : pr L' = R') (hd : H' dp = some (.dK (enc rf L')))
    (hr : ∀ e ∈ L', PathAt K H' e.2.1 e.2.2) : MvAt K H' m dv dp dw ⟨S', R', M.W, M.t⟩ := by
  obtain ⟨⟨dx, ob⟩, sv, ⟨LR, er, rv, rp⟩, ⟨LW, ew, wv, wp⟩, n1, n2, n3⟩ := h
  exact ⟨⟨dx, kp.get ob (by simp [sv, rv])⟩, hv, ⟨L', e, hd, hr⟩, ⟨LW, ew, kp _ _ wv (by simp [n2.symm, n3.symm]), fun e he => kp.get (wp e he) (by simp [sv, rv])⟩, n1, n2, n3⟩
set_option hygiene false in
local macro_rules | `(tactic| walk_at "tail") => `(tactic| (
  refine g_dputS sv2 (by rw [enc_len]; exact szt (by omega)) ?_
  rw [putK_enc]
  walk_at "go"
  refine g_isD (kvs := enc rf LR) (by walk_at "hp") ?_
  walk_at "go"
  refine g_popE (g := rf) (L := LR) (by walk_at "hp") ?_
  walk_at "go"
  have kp2 : Kp [dv, dp] H (upd (upd H2 dv (.dK (enc V.int (aPut M.S name aim)))) dp (.dK (enc rf (aDrop LR name)))) := .mut (.mut (.same s02) (by simp)) (by simp)
  generalize eH3 : upd (upd H2 dv (.dK (enc V.int (aPut M.S name aim)))) dp (.dK (enc rf (aDrop LR name))) = H3 at kp2 ⊢
  have ob3 : H3 m = some (.ins (He.ga K "Mover") dx (fl_Mover (.ref dv) (.ref dp) (.ref dw) (.int M.t))) := by rw [← eH3]; walk_at "hp"
  have sv3 : H3 dv = some (.dK (enc V.int (aPut M.S name aim))) := by rw [← eH3]; walk_at "hp"
  have rv3 : H3 dp = some (.dK (enc rf (aDrop LR name))) := by rw [← eH3]; walk_at "hp"
  have eM : goM M name aim = ⟨aPut M.S name aim, goRows M name aim, M.W, M.t⟩ := by unfold goM; rw [es]; rfl
  have old : ∀ e ∈ aDrop LR name, PathAt K H e.2.1 e.2.2 := fun e he => rp e (aDrop_mem.mp he).1
  refine ifP (fun h1 => ?_) (fun h1 => ?_)
  · walk_at "go"
    refine ifN (fun h2 => ?_) (fun h2 => ?_)
    · walk_at "go"
      intro x dy nx nd nxd
      refine ⟨x, dy, ⟨hereOf M name, aim, M.t, goLen M name aim, (goWay M name).2⟩, rfl, upd_same, fun _ => ⟨rfl, ?_⟩, fun z => absurd ⟨Int.le_of_lt h1, wok.2.2⟩ z⟩
      have npx : dp ≠ x := ne_of_none' nx rv3
      have npd : dp ≠ dy := ne_of_none' nd rv3
      have nvx : dv ≠ x := ne_of_none' nx sv3
      have nvd : dv ≠ dy := ne_of_none' nd sv3
      walk_at "go"
      refine g_dputS (kvs := enc rf (aDrop LR name)) (by walk_at "hp") (by rw [enc_len]; exact szt (Nat.le_trans aDrop_len (by rw [← pr_len, er]; omega))) ?_
      have e9 : putK (enc rf (aDrop LR name)) (Sum.inr name) (V.ref x) = enc rf (aDrop LR name ++ [(name, (x, (⟨hereOf M name, aim, M.t, goLen M name aim, (goWay M name).2⟩ : Row)))]) := by
        rw [← aPut_new _ (aGet_drop_same LR name), ← putK_enc]
        rfl
      rw [e9]
      have fx : H x = none := by
        cases ex : H x with
        | none => rfl
        | some o => 
          rw [kp2 x o ex (by simp [nvx.symm, npx.symm])] at nx
          cases nx
      have fd : H dy = none := by
        cases ex : H dy with
        | none => rfl
        | some o => 
          rw [kp2 dy o ex (by simp [nvd.symm, npd.symm])] at nd
          cases nd
      have kp3 : Kp [dv, dp] H (upd (upd (upd (upd H3 dy (.own x)) x (.ins (He.ga K "Path") dy [])) x (.ins (He.ga K "Path") dy (fl_Path (.int (hereOf M name)) (.int aim) (.int M.t) (.int (goLen M name aim)) (.str (goWay M name).2)))) dp
        (.dK (enc rf (aDrop LR name ++ [(name, (x, (⟨hereOf M name, aim, M.t, goLen M name aim, (goWay M name).2⟩ : Row)))])))) := .mut (.own (.own (.own kp2 fd) fx) fx) (by simp)
      refine kk _ kp3 ?_
      rw [eM]
      refine go_end (L' := aDrop LR name ++ [(name, (x, (⟨hereOf M name, aim, M.t, goLen M name aim, (goWay M name).2⟩ : Row)))]) hm kp3 (by walk_at "hp") ?_ upd_same fun e he => ?_
      · unfold goRows
        rw [if_pos ⟨h1, h2⟩, pr_app, pr_drop, er]
        rfl
      · rcases List.mem_append.mp he with he | he
        · exact hm.path kp3 (old e he)
        · rw [List.mem_singleton.mp he]
          exact ⟨dy, (upd_ne npx.symm).trans upd_same⟩
    · walk_at "go"
      refine kk _ kp2 ?_
      rw [eM]
      refine go_end (L' := aDrop LR name) hm kp2 sv3 ?_ rv3 fun e he => hm.path kp2 (old e he)
      unfold goRows
      rw [if_neg (fun z => z.2 h2), pr_drop, er]
  · walk_at "go"
    refine kk _ kp2 ?_
    rw [eM]
    refine go_end (L' := aDrop LR name) hm kp2 sv3 ?_ rv3 fun e he => hm.path kp2 (old e he)
    unfold goRows
    rw [if_neg (fun z => h1 z.1), pr_drop, er]))
theorem ok_go (T : Tx K mg) (k_Path : MakX P w K mg base 1 "Path" (He.ga K "Path") (spPath K) []) (m_Path_is_over : MetX P w K mg base 1 (He.ga K "Path") "is_over" (spOver K) [])
    (m_Mover_value_now : MetX P w K mg base 3 (He.ga K "Mover") "value_now" (spNow K) []) {f : Addr} {fd : FuncData} (F : FunD K "go_to" "Mover.go_to" (defArgs s_Mover_go_to) (defBody s_Mover_go_to) (defScope s_Mover_go_to) [] [] f fd) :
    FnOk P w K mg base (L2.CX P w) 4 f fd ["self", "name", "last"] (spGo K) := by
  refine F.ok sc_Mover_go_to (fun vs H Q E h => ?_) (fun cdv A outer s H vs Q E hr h => ?_)
  · obtain ⟨m, dv, dp, dw, M, name, aim, rfl, _⟩ := h
    rfl
  · obtain ⟨m, dv, dp, dw, M, name, aim, rfl, hm, mo, kk⟩ := h
    refine ⟨_, (pss_cons (ps_if (pt_cmp (pc_dnotin (hu_of hr) (pv 1) (pe_fldK (K := K) rfl (pv 0) rfl))) (pss_cons (ps_dput (hu_of hr) (pe_fldK (K := K) rfl (pv 0) rfl) (pv 1) (pv 2) rfl)
  (pss_one ps_retN)) pss_nil)
  (pss_cons (ps_asg (pe_dget2 (hu_of hr) (pe_fldK (K := K) rfl (pv 0) rfl) (pv 1) (pe_tup (pa_cons pe_int (pa_cons pe_str pa_nil))) ⟨by rfl, by rfl, by rfl, by rfl⟩) (pg_tupK (K := K) rfl (by rfl) (pgs_cons (pg_name (i := 3) sc_Mover_go_to.nd rfl (Or.inl rfl)) (pgs_cons (pg_name (i := 4) sc_Mover_go_to.nd rfl (Or.inl rfl)) pgs_nil))))
  (pss_cons (ps_set (i := 5) sc_Mover_go_to.nd rfl (Or.inl rfl) (pe_mX m_Mover_value_now hr (by decide) paX (pv 0) (pa_cons (pv 1) pa_nil)))
  (pss_cons (ps_set (i := 6) sc_Mover_go_to.nd rfl (Or.inl rfl) (pe_dget1 (hu_of hr) (pe_fldK (K := K) rfl (pv 0) rfl) (pv 1) ⟨by rfl, by rfl, by rfl, by rfl⟩))
  (pss_cons (ps_if (PW.pt (pw_and (pt_cmpR op_notNN (pv 6) pe_non (nomark _)) (pw_and (pt_cmpR op_eq (pv 2) (pe_fldK (K := K) rfl (pv 6) rfl) (nomark _)) (pw_and1 (pt_not (pt_val (pe_mX m_Path_is_over hr (by decide) paX (pv 6) (pa_cons (pe_fldK (K := K) rfl (pv 0) rfl) pa_nil)))))))) (pss_one (ps_set (i := 3) sc_Mover_go_to.nd rfl (Or.inl rfl) (pe_callB (call_min2N rfl) (by rfl) T.b_min (by decide +kernel) (pa_cons (pv 3) (pa_cons (pe_op op_sub (pe_fldK (K := K) rfl (pv 0) rfl) (pe_fldK (K := K) rfl (pv 6) rfl)) pa_nil))))) pss_nil)
  (pss_cons (ps_dput (hu_of hr) (pe_fldK (K := K) rfl (pv 0) rfl) (pv 1) (pv 2) rfl)
  (pss_cons (ps_expr (pe_dpop2 (pe_fldK (K := K) rfl (pv 0) rfl) (pv 1) pe_non ⟨by rfl, by rfl, by rfl, by rfl⟩))
  (pss_one (ps_if (PW.pt (pw_and (pt_cmpR op_gt (pv 3) pe_int (nomark _)) (pw_and1 (pt_cmpR op_ne (pv 5) (pv 2) (nomark _))))) (pss_one (ps_dput (hu_of hr) (pe_fldK (K := K) rfl (pv 0) rfl) (pv 1) (pe_mkX k_Path hr (by decide) rfl paX (pa_cons (pv 5) (pa_cons (pv 2) (pa_cons (pe_fldK (K := K) rfl (pv 0) rfl) (pa_cons (pv 3) (pa_cons (pv 4) pa_nil)))))) rfl)) pss_nil))))))))), ?_⟩
    obtain ⟨⟨dx, ob⟩, sv, ⟨LR, er, rv, rp⟩, ⟨LW, ew, wv, wp⟩, n1, n2, n3⟩ := id hm
    obtain ⟨sl, rl, wl⟩ := lenLe mo
    have nvm : m ≠ dv := ne_of ob sv (by intro z; cases z)
    have npm : m ≠ dp := ne_of ob rv (by intro z; cases z)
    walk_at "go"
    cases es : aGet M.S name with
    | none =>
      refine g_dniN sv (enc_none es) ?_
      walk_at "go"
      refine g_dputS sv (by rw [enc_len]; exact szt (by omega)) ?_
      walk_at "go"
      have kp : Kp [dv, dp] H (upd H dv (.dK (putK (enc V.int M.S) (Sum.inr name) (.int aim)))) := .mut .refl (by simp)
      refine kk _ kp ?_
      unfold goM
      rw [es, if_neg (by simp)]
      refine ⟨⟨dx, kp _ _ ob (by simp [nvm, npm])⟩, by rw [upd_same, putK_enc], ⟨LR, er, (upd_ne n1.symm).trans rv, fun e he => ?_⟩, ⟨LW, ew, (upd_ne n2.symm).trans wv, fun e he => ?_⟩, n1, n2, n3⟩
      · obtain ⟨py, pa⟩ := rp e he
        refine (rp e he).kp kp ?_
        simp [show e.2.1 ≠ dv from ne_of pa sv (by intro z; cases z), show e.2.1 ≠ dp from ne_of pa rv (by intro z; cases z)]
      · exact kp.get (wp e he) (by simp [sv, rv])
    | some v =>
      refine g_dniY sv (enc_get es) ?_
      walk_at "go"
      have wok : 0 ≤ (goWay M name).1 ∧ (goWay M name).1 ≤ 10000 ∧ WayOk (goWay M name).2 := by
        unfold goWay
        cases ex : aGet M.W name with
        | none => exact ⟨by decide, by decide, .inl rfl⟩
        | some lw => exact mo.wo _ (aGet_mem ex)
      refine g_isD wv ?_
      walk_at "go"
      refine ⟨szl (Nat.le_of_ble_eq_true rfl), fun tp ntp => ?_⟩
      have nwt : dw ≠ tp := ne_of_none' ntp wv
      refine g_dgo (by walk_at "hp") ?_
      obtain ⟨tz, ez, hz⟩ : ∃ tz, (valV (enc rf LW) (Sum.inr name)).getD (.ref tp) = .ref tz ∧ upd H tp (.tup [.int 0, .str "even"]) tz = some (.tup [.int (goWay M name).1, .str (goWay M name).2]) := by
        unfold goWay
        cases ex : aGet M.W name with
        | none => exact ⟨tp, by rw [enc_none (pr_none (by rw [ew]; exact ex))]; rfl, upd_same⟩
        | some lw =>
          obtain ⟨z, hz⟩ := pr_get (by rw [ew]; exact ex)
          have hz2 := wp _ (aGet_mem hz)
          exact ⟨z, by rw [enc_rf hz]; rfl, (upd_ne (ne_of_none' ntp hz2)).trans hz2⟩
      rw [ez]
      walk_at "go"
      have s1 : Same H (upd H tp (.tup [.int 0, .str "even"])) := Kp.to_same (.new .refl ntp)
      refine now_ok (hm.same s1) mo es (fun H2 s2 => ?_)
      have s02 : Same H H2 := fun b o z => s2 b o (s1 b o z)
      have ob2 := s02 _ _ ob
      have sv2 := s02 _ _ sv
      have rv2 := s02 _ _ rv
      walk_at "go"
      refine g_isD rv2 ?_
      walk_at "go"
      refine g_dgo rv2 ?_
      cases e6 : aGet M.R name with
      | none =>
        rw [enc_none (pr_none (by rw [er]; exact e6)), Option.getD_none]
        have eL : (goWay M name).1 = goLen M name aim := by unfold goLen; rw [e6]
        walk_at "go"
        refine ifNf rfl ?_
        walk_at "go"
        rw [eL]
        walk_at "tail"
      | some r =>
        obtain ⟨a, ea⟩ := pr_get (by rw [er]; exact e6)
        rw [enc_rf ea, Option.getD_some]
        obtain ⟨py, pa⟩ := rp _ (aGet_mem ea)
        have pa2 := s02 _ _ pa
        obtain ⟨ro1, ro2, ro3⟩ := mo.ro _ (aGet_mem e6)
        walk_at "go"
        refine ifNt (p := (V.ref a : V) = V.non) (fun z => by cases z) ?_
        walk_at "go"
        refine ifP (fun hq => ?_) (fun hq => ?_)
        · walk_at "go"
          refine ⟨a, r, _, rfl, ⟨py, pa2⟩, ?_⟩
          walk_at "go"
          have ne : (decide (r.start + r.length ≤ M.t)) = false := decide_eq_false (by show ¬ r.start + r.length ≤ M.t; have : M.t < r.start + r.length := ro3; omega)
          rw [ne]
          walk_at "go"
          rw [if_pos (show (!false) = true from rfl)]
          walk_at "go"
          have eL : min (goWay M name).1 (M.t - r.start) = goLen M name aim := by unfold goLen; rw [e6]; exact (if_pos hq).symm
          rw [eL]
          walk_at "tail"
        · walk_at "go"
          have eL : (goWay M name).1 = goLen M name aim := by unfold goLen; rw [e6]; exact (if_neg hq).symm
          rw [eL]
          walk_at "tail"
end
end K18


namespace K18
def stFor : Stmt → List Stmt
  | .For _ _ b _ _ => b
  | _ => []
def stThen : Stmt → List Stmt
  | .If _ b _ _ => b
  | _ => []
def stElse : Stmt → List Stmt
  | .If _ _ b _ => b
  | _ => []
def nth (l : List Stmt) (i : Nat) : Stmt := l.getD i (.Pass ⟨0, 0, 0, 0⟩)
def bd_dice : List Stmt := stFor (nth (defBody s_law) 0)
def bd_step : List Stmt := stFor (nth bd_dice 1)
def bd_set : List Stmt := stThen (nth bd_step 1)
def bd_e1 : List Stmt := stElse (nth bd_step 1)
def bd_go : List Stmt := stThen (nth bd_e1 0)
def bd_tick : List Stmt := stElse (nth bd_e1 0)
def bd_chk : List Stmt := bd_step.drop 2
def bd_row : List Stmt := bd_dice.drop 2
def RowAt (H : Hp) (a : Addr) (r : Row) : Prop := H a = some (.tup [.int r.first, .int r.aim, .int r.start, .int r.length, .str r.way])
def WayAt (H : Hp) (a : Addr) (x : Int × Str) : Prop := H a = some (.tup [.int x.1, .str x.2])
def DiceAt (H : Hp) (d : Addr) : Prop := ∃ x n k : Int, H d = some (.lst [.int x, .int n, .int k])
/-- the law's things stand beside the Mover's -/
structure LwAt (K : PySem.W.Frag) (H0 H : Hp) (d m dv dp dw wa ra sa : Addr) (M : Mv) : Prop where
  dice : DiceAt H d
  mv : MvAt K H m dv dp dw M
  ok : MvOk M
  wy : ∃ L : List (Str × (Addr × (Int × Str))), pr L = M.W ∧ H wa = some (.dK (enc rf L)) ∧ ∀ e ∈ L, WayAt H e.2.1 e.2.2
  rw_ : ∃ L : List (Str × (Addr × Row)), pr L = M.R ∧ H ra = some (.dK (enc rf L)) ∧ ∀ e ∈ L, RowAt H e.2.1 e.2.2
  st : H sa = some (.dK (enc V.int M.S))
  kp : Kp [d] H0 H
  nw : wa ≠ dv ∧ wa ≠ dp ∧ wa ≠ dw
  nr : ra ≠ dv ∧ ra ≠ dp ∧ ra ≠ dw
  ns : sa ≠ dv ∧ sa ≠ dp ∧ sa ≠ dw
  nl : wa ≠ ra ∧ wa ≠ sa ∧ ra ≠ sa
  f0 : H0 m = none ∧ H0 dv = none ∧ H0 dp = none ∧ H0 dw = none ∧ H0 wa = none ∧ H0 ra = none ∧ H0 sa = none
/-- the slots that the loop keeps -/
def Sl (σ : L2.St) (d m wa ra sa : Addr) (t : Int) : Prop := ∃ (sc u7 u8 u9 u10 u11 u12 u13 u14 u15 u16 u17 u18 u19 u20 u21 u22 u23 u24 u25 u26 : Option V), σ = [sc, some (.ref d), some (.ref m), some (.ref wa), some (.ref ra), some (.ref sa), some (.int t), u7, u8, u9, u10, u11, u12, u13, u14, u15, u16, u17, u18, u19, u20, u21, u22, u23, u24, u25, u26]
section
variable {K : PySem.W.Frag} {H0 H H' : Hp} {d m dv dp dw wa ra sa : Addr} {M : Mv}
theorem LwAt.same (h : LwAt K H0 H d m dv dp dw wa ra sa M) (s : Same H H') : LwAt K H0 H' d m dv dp dw wa ra sa M := by
  obtain ⟨⟨x, n, k, hd⟩, mv, ok, ⟨LW, w1, w2, w3⟩, ⟨LR, r1, r2, r3⟩, st, kp, nw, nr, ns, nl, f0⟩ := h
  exact ⟨⟨x, n, k, s _ _ hd⟩, mv.same s, ok, ⟨LW, w1, s _ _ w2, fun e he => s _ _ (w3 e he)⟩, ⟨LR, r1, s _ _ r2, fun e he => s _ _ (r3 e he)⟩, s _ _ st, kp.trans (.same s), nw, nr, ns, nl, f0⟩
/-- what is not the Mover's may change -/
theorem MvAt.keep {N : List Addr} (h : MvAt K H m dv dp dw M) (kp : Kp N H H') (n1 : dv ∉ N) (n2 : dp ∉ N) (n3 : dw ∉ N) (nt : ∀ b ∈ N, ∀ xs, H b ≠ some (.tup xs)) (ni : ∀ b ∈ N, ∀ C x fs, H b ≠ some (.ins C x fs)) : MvAt K H' m dv dp dw M := by
  obtain ⟨⟨dx, ob⟩, sv, ⟨LR, er, rv, rp⟩, ⟨LW, ew, wv, wp⟩, e1, e2, e3⟩ := h
  refine ⟨⟨dx, kp.get ob fun b hb z => ni b hb _ _ _ z⟩, kp _ _ sv n1, ⟨LR, er, kp _ _ rv n2, fun e he => ?_⟩, ⟨LW, ew, kp _ _ wv n3, fun e he => kp.get (wp e he) fun b hb z => nt b hb _ z⟩, e1, e2, e3⟩
  obtain ⟨py, pa⟩ := rp e he
  exact ⟨py, kp.get pa fun b hb z => ni b hb _ _ _ z⟩
theorem LwAt.roll (h : LwAt K H0 H d m dv dp dw wa ra sa M) (x n k : Int) : LwAt K H0 (upd H d (.lst [.int x, .int n, .int k])) d m dv dp dw wa ra sa M := by
  obtain ⟨⟨x0, n0, k0, hd⟩, mv, ok, ⟨LW, w1, w2, w3⟩, ⟨LR, r1, r2, r3⟩, st, kp, nw, nr, ns, nl, f0⟩ := h
  have kp' : Kp [d] H (upd H d (.lst [.int x, .int n, .int k])) := .mut .refl (by simp)
  refine ⟨⟨x, n, k, upd_same⟩, mv.keep kp' ?_ ?_ ?_ (by simp [hd]) (by simp [hd]), ok, ⟨LW, w1, kp'.get w2 (by simp [hd]), fun e he => kp'.get (w3 e he) (by simp [hd])⟩, ⟨LR, r1, kp'.get r2 (by simp [hd]), fun e he => kp'.get (r3 e he) (by simp [hd])⟩, kp'.get st (by simp [hd]), kp.trans kp', nw, nr, ns, nl, f0⟩
  · simpa using ne_of mv.sv hd (by intro z; cases z)
  · obtain ⟨_, _, rv, _⟩ := mv.rv
    simpa using ne_of rv hd (by intro z; cases z)
  · obtain ⟨_, _, wv, _⟩ := mv.wv
    simpa using ne_of wv hd (by intro z; cases z)
theorem roll_ok {m : Int} {Q : VK} {E : XK} (h : DiceAt H d) (m0 : 0 < m) (m1 : m ≤ 100000000) (q : ∀ r x n k : Int, 0 ≤ r → r < m → Q (.int r) (upd H d (.lst [.int x, .int n, .int k]))) : spRoll [.ref d, .int m] H Q E := by
  obtain ⟨x, n, k, hd⟩ := h
  exact ⟨d, x, n, k, m, rfl, hd, m0, m1, q⟩
theorem lw_roll {m' : Int} {Q : VK} {E : XK} (h : LwAt K H0 H d m dv dp dw wa ra sa M) (m0 : 0 < m') (m1 : m' ≤ 100000000) (q : ∀ (r : Int) (H' : Hp), 0 ≤ r → r < m' → LwAt K H0 H' d m dv dp dw wa ra sa M → Kp [d] H H' → Q (.int r) H') : spRoll [.ref d, .int m'] H Q E :=
  roll_ok h.dice m0 m1 fun r x n k r0 r1 => q r _ r0 r1 (h.roll x n k) (.mut .refl (by simp))
end
theorem keepO {N : List Addr} {H H' : Hp} {a : Addr} {o : HO} (kp : Kp N H H') (dn : ∀ b ∈ N, ∃ kvs, H b = some (.dK kvs)) (h : H a = some o) (n : ∀ kvs, o ≠ .dK kvs) : H' a = some o := kp.get h fun b hb z => by
  obtain ⟨kvs, e⟩ := dn b hb
  rw [e] at z
  exact n kvs (Option.some.inj z).symm
theorem kpOwn {N D : List Addr} {H0 H H' : Hp} (a : Kp D H0 H) (b : Kp N H H') (n : ∀ c ∈ N, H0 c = none) : Kp D H0 H' := fun c o e m => b c o (a c o e m) fun z => by
  rw [n c z] at e
  cases e
theorem LwAt.next {K : PySem.W.Frag} {H0 H H' : Hp} {d m dv dp dw wa ra sa ra' : Addr} {M M' : Mv} {N : List Addr} (h : LwAt K H0 H d m dv dp dw wa ra sa M) (kp : Kp N H H') (dn : ∀ b ∈ N, ∀ xs, H b ≠ some (.lst xs)) (n0 : ∀ b ∈ N, H0 b = none) (mv : MvAt K H' m dv dp dw M') (ok : MvOk M')
    (wy : ∃ L : List (Str × (Addr × (Int × Str))), pr L = M'.W ∧ H' wa = some (.dK (enc rf L)) ∧ ∀ e ∈ L, WayAt H' e.2.1 e.2.2) (rw_ : ∃ L : List (Str × (Addr × Row)), pr L = M'.R ∧ H' ra' = some (.dK (enc rf L)) ∧ ∀ e ∈ L, RowAt H' e.2.1 e.2.2)
    (st : H' sa = some (.dK (enc V.int M'.S))) (nr : ra' ≠ dv ∧ ra' ≠ dp ∧ ra' ≠ dw) (nl : wa ≠ ra' ∧ ra' ≠ sa) (fr : H0 ra' = none) : LwAt K H0 H' d m dv dp dw wa ra' sa M' := by
  obtain ⟨⟨x, n, k, hd⟩, _, _, _, _, _, kp0, nw, _, ns, nl0, f0⟩ := h
  exact ⟨⟨x, n, k, kp.get hd fun b hb => dn b hb _⟩, mv, ok, wy, rw_, st, kpOwn kp0 kp n0, nw, nr, ns, ⟨nl.1, nl0.2.1, nl.2⟩, ⟨f0.1, f0.2.1, f0.2.2.1, f0.2.2.2.1, f0.2.2.2.2.1, fr, f0.2.2.2.2.2.2⟩⟩
theorem MvOk.way {M : Mv} (h : MvOk M) {name : Str} {x : Int × Str} (nm : name ∈ (["a", "b", "c"] : List Str)) (ok : 0 ≤ x.1 ∧ x.1 ≤ 10000 ∧ WayOk x.2) : MvOk ⟨M.S, M.R, aPut M.W name x, M.t⟩ := by
  refine ⟨h.sn, h.rn, aPut_nd _ h.wn, h.sk, h.rk, fun e he => ?_, h.ro, fun e he => ?_, h.rs⟩
  · rcases aPut_mem he with z | ⟨z, _⟩
    · rw [z]; exact nm
    · exact h.wk e z
  · rcases aPut_mem he with z | ⟨z, _⟩
    · rw [z]; exact ok
    · exact h.wo e z
/-- which names have come to their end -/
def overQ (M : Mv) (t : Int) (k : Str) : Bool := ((aGet M.R k).map (isOver t)).getD false
theorem over_mem {M : Mv} {t : Int} {ys : List Str} (nd : (M.R.map (·.1)).Nodup) (pe : ys.Perm (M.R.map (·.1))) {e : Str × Row} (he : e ∈ M.R) : decide (e.1 ∈ ys.filter (overQ M t)) = isOver t e.2 := by
  have g1 := aGet_of_mem nd he
  have g2 : overQ M t e.1 = isOver t e.2 := by
    unfold overQ
    rw [g1]
    rfl
  have g3 : e.1 ∈ ys.filter (overQ M t) ↔ isOver t e.2 = true := by
    rw [List.mem_filter, g2]
    exact ⟨fun z => z.2, fun z => ⟨pe.symm.subset (List.mem_map.mpr ⟨e, he, rfl⟩), z⟩⟩
  cases hov : isOver t e.2 with
  | true => exact decide_eq_true (g3.mpr hov)
  | false => exact decide_eq_false fun z => by rw [g3.mp z] at hov; cases hov
theorem abc_ok {l : List Str} (h : ∀ x ∈ l, x ∈ (["a", "b", "c"] : List Str)) : strOkS l = true := by
  refine List.all_eq_true.mpr fun x hx => ?_
  have := h x hx
  simp only [List.mem_cons, List.not_mem_nil, or_false] at this
  rcases this with e | e | e <;> rw [e] <;> decide +kernel
theorem MvOk.ticked {M : Mv} (h : MvOk M) {many : Int} (h0 : 0 ≤ many) : MvOk ⟨M.S, M.R.filter fun e => !isOver (M.t + many) e.2, M.W, M.t + many⟩ := by
  refine ⟨h.sn, h.rn.sublist (List.filter_sublist.map _), h.wn, h.sk, fun e he => h.rk e (List.mem_filter.mp he).1, h.wk, fun e he => ?_, h.wo, fun k hk => ?_⟩
  · obtain ⟨m, hq⟩ := List.mem_filter.mp he
    obtain ⟨o1, o2, o3⟩ := h.ro e m
    refine ⟨o1, by show e.2.start ≤ M.t + many; omega, ?_⟩
    have hq : (!isOver (M.t + many) e.2) = true := hq
    unfold isOver at hq
    simp at hq
    exact hq
  · refine aGet_none.mpr fun v m => ?_
    exact aGet_none.mp (h.rs k hk) v (List.mem_filter.mp m).1
theorem four_ways {i : Int} (h0 : 0 ≤ i) (h1 : i < 4) : ∃ w, WayOk w ∧ atI [V.str "even", V.str "slow", V.str "fast", V.str "both"] i = some (.str w) := by
  obtain rfl | rfl | rfl | rfl : i = 0 ∨ i = 1 ∨ i = 2 ∨ i = 3 := by omega
  · exact ⟨"even", .inl rfl, rfl⟩
  · exact ⟨"slow", .inr (.inl rfl), rfl⟩
  · exact ⟨"fast", .inr (.inr (.inl rfl)), rfl⟩
  · exact ⟨"both", .inr (.inr (.inr rfl)), rfl⟩
section
variable {P : Program} {w : World} {K : PySem.W.Frag} {mg : Str → Option Value} {base : Heap} {f : Addr} {cdv : Value} {A : Around} {outer : List Env} {s : Shared} {HE : Hp} {E : XK}
abbrev lcx (P : Program) (w : World) (K : PySem.W.Frag) (mg : Str → Option Value) (base : Heap) (f : Addr) (cdv : Value) (A : Around) (outer : List Env) (s : Shared) (HE : Hp) (E : XK) : Cx := cxOf (L2.CX P w) P w K mg base sl_law "law" (defScope s_law) f cdv A outer s HE E
theorem bl_set (T : Tx K mg) (c__law_roll : CalX P w K mg base 1 "_law_roll" spRoll []) (m_Mover_set_way : MetX P w K mg base 3 (He.ga K "Mover") "set_way" (spSetWay K) []) (hr : Room 6 (A.deeper (envOfC "law" (defScope s_law) s.heap.objs.size f cdv))) :
    ∃ t, PSs (lcx P w K mg base f cdv A outer s HE E) bd_set t ∧ ∀ (D : Ends) (H0 H : Hp) (d m dv dp dw wa ra sa : Addr) (M : Mv) (name : Str) (sc u7 u8 u10 u11 u12 u13 u14 u15 u16 u17 u18 u19 u20 u21 u22 u23 u24 u25 u26 : Option V),
      name ∈ (["a", "b", "c"] : List Str) → LwAt K H0 H d m dv dp dw wa ra sa M → (∀ σ' H' ra' M', Sl σ' d m wa ra' sa M'.t → LwAt K H0 H' d m dv dp dw wa ra' sa M' → D.nx σ' H') →
      t D [sc, some (.ref d), some (.ref m), some (.ref wa), some (.ref ra), some (.ref sa), some (.int M.t), u7, u8, some (.str name), u10, u11, u12, u13, u14, u15, u16, u17, u18, u19, u20, u21, u22, u23, u24, u25, u26] H := by
  refine ⟨_, (pss_cons (ps_dput (hu_of hr) (pv 3) (pv 9) (pe_tup (pa_cons (pe_cX c__law_roll hr (by decide) rfl paX (pa_cons (pv 1) (pa_cons pe_int pa_nil))) (pa_cons (pe_ix (ix_listK (K := K) rfl) (pe_lst (pa_cons pe_str (pa_cons pe_str (pa_cons pe_str (pa_cons pe_str pa_nil))))) (pe_cX c__law_roll hr (by decide) rfl paX (pa_cons (pv 1) (pa_cons pe_int pa_nil))) (fun _ _ => rfl)) pa_nil))) rfl)
  (pss_one (ps_expr (pe_mX m_Mover_set_way hr (by decide) paX (pv 2) (pa_cons (pv 9) (pa_cons (pe_ix (ix_tupK (K := K) rfl) (pe_dget (hu_of hr) (pv 3) (pv 9) (fun _ _ => rfl)) pe_int (fun _ _ => rfl)) (pa_cons (pe_ix (ix_tupK (K := K) rfl) (pe_dget (hu_of hr) (pv 3) (pv 9) (fun _ _ => rfl)) pe_int (fun _ _ => rfl)) pa_nil))))))), ?_⟩
  intro D H0 H d m dv dp dw wa ra sa M name sc u7 u8 u10 u11 u12 u13 u14 u15 u16 u17 u18 u19 u20 u21 u22 u23 u24 u25 u26 nm lw kk
  walk_at "go"
  refine lw_roll lw (by decide) (by decide) fun r H1 r0 r1 lw1 kp1 => ?_
  walk_at "go"
  refine ⟨szl (Nat.le_of_ble_eq_true rfl), fun p4 n4 => ?_⟩
  have lw2 := lw1.same (Kp.to_same (.new .refl n4) : Same H1 (upd H1 p4 (.lst [.str "even", .str "slow", .str "fast", .str "both"])))
  walk_at "go"
  refine lw_roll lw2 (by decide) (by decide) fun q H2 q0 q1 lw3 kp3 => ?_
  obtain ⟨wy, wok, ewy⟩ := four_ways q0 q1
  have h4 : H2 p4 = some (.lst [.str "even", .str "slow", .str "fast", .str "both"]) := by
    obtain ⟨x, n, k, hd⟩ := lw1.dice
    exact kp3 _ _ upd_same (by simpa using (ne_of_none' n4 hd).symm)
  refine g_ixL (SqL.of h4) ewy ?_
  walk_at "go"
  refine ⟨szl (Nat.le_of_ble_eq_true rfl), fun p np => ?_⟩
  obtain ⟨LW, ew, wv, wp⟩ := lw3.wy
  have lw5 := lw3.same (Kp.to_same (.new .refl np) : Same H2 (upd H2 p (.tup [.int r, .str wy])))
  have nwp : wa ≠ p := ne_of_none' np wv
  have hp5 : upd H2 p (.tup [.int r, .str wy]) p = some (.tup [.int r, .str wy]) := upd_same
  generalize upd H2 p (.tup [.int r, .str wy]) = H5 at lw5 hp5 ⊢
  clear lw lw1 lw2 lw3 kp1 kp3 wp wv ew LW
  obtain ⟨LW, ew, wv, wp⟩ := lw5.wy
  obtain ⟨sl, rl, wl⟩ := lenLe lw5.ok
  walk_at "go"
  refine g_dputS wv (by rw [enc_len, ← pr_len, ew]; exact szt (by omega)) ?_
  have e1 : putK (enc rf LW) (Sum.inr name) (V.ref p) = enc rf (aPut LW name (p, (r, wy))) := by rw [← putK_enc]; rfl
  rw [e1]
  have kp6 : Kp [wa] H5 (upd H5 wa (.dK (enc rf (aPut LW name (p, (r, wy)))))) := .mut .refl (by simp)
  have dn6 : ∀ b ∈ [wa], ∃ kvs, H5 b = some (.dK kvs) := by simp [wv]
  have mv6 := lw5.mv.keep kp6 (by simp [lw5.nw.1.symm]) (by simp [lw5.nw.2.1.symm]) (by simp [lw5.nw.2.2.symm]) (by simp [wv]) (by simp [wv])
  have hp6 := keepO kp6 dn6 hp5 (by intro _ z; cases z)
  have hw6 : upd H5 wa (.dK (enc rf (aPut LW name (p, (r, wy))))) wa = some (.dK (enc rf (aPut LW name (p, (r, wy))))) := upd_same
  have g6 : aGet (aPut LW name (p, (r, wy))) name = some (p, (r, wy)) := by rw [aGet_put, if_pos rfl]
  generalize upd H5 wa (.dK (enc rf (aPut LW name (p, (r, wy))))) = H6 at kp6 mv6 hp6 hw6 ⊢
  obtain ⟨dx, ob⟩ := mv6.ob
  walk_at "go"
  refine g_dgetS hw6 (enc_rf g6) ?_
  walk_at "go"
  refine g_dgetS hw6 (enc_rf g6) ?_
  walk_at "go"
  refine ⟨m, dv, dp, dw, M, name, wy, r, rfl, mv6, by omega, fun _ H7 kp7 mv7 => ?_, fun z => absurd ⟨r0, wok⟩ z⟩
  obtain ⟨_, _, wdv, _⟩ := lw5.mv.wv
  have kp57 : Kp [wa, dw] H5 H7 := Kp.trans (kp6.mono (by simp)) (kp7.mono (by simp))
  have dn57 : ∀ b ∈ [wa, dw], ∃ kvs, H5 b = some (.dK kvs) := by simp [wv, wdv]
  obtain ⟨LR, er, rv, rp⟩ := lw5.rw_
  refine kk _ H7 ra ⟨M.S, M.R, aPut M.W name (r, wy), M.t⟩ ⟨_, _, _, _, _, _, _, _, _, _, _, _, _, _, _, _, _, _, _, _, _, rfl⟩ (lw5.next kp57 (by simp [wv, wdv]) ?_ mv7 (lw5.ok.way nm ⟨r0, by show r ≤ 10000; omega, wok⟩) ⟨aPut LW name (p, (r, wy)), by rw [pr_put, ew], kp7 _ _ hw6 (by simp [lw5.nw.2.2]), fun e he => ?_⟩
    ⟨LR, er, kp57 _ _ rv ?_, fun e he => keepO kp57 dn57 (rp e he) (by intro _ z; cases z)⟩ (kp57 _ _ lw5.st ?_) lw5.nr ⟨lw5.nl.1, lw5.nl.2.2⟩ lw5.f0.2.2.2.2.2.1)
  · obtain ⟨f1, f2, f3, f4, f5, f6, f7⟩ := lw5.f0
    simp [f4, f5]
  · rcases aPut_mem he with z | ⟨z, _⟩
    · rw [z]
      exact keepO kp57 dn57 hp5 (by intro _ z; cases z)
    · exact keepO kp57 dn57 (wp e z) (by intro _ z; cases z)
  · simp [lw5.nl.1.symm, lw5.nr.2.2]
  · simp [lw5.nl.2.1.symm, lw5.ns.2.2]
end
end K18


namespace K18
section
variable {P : Program} {w : World} {K : PySem.W.Frag} {mg : Str → Option Value} {base : Heap} {f : Addr} {cdv : Value} {A : Around} {outer : List Env} {s : Shared} {HE : Hp} {E : XK}
theorem bl_tick (T : Tx K mg) (c__law_roll : CalX P w K mg base 1 "_law_roll" spRoll []) (m_Mover_tick : MetX P w K mg base 2 (He.ga K "Mover") "tick" (spTick K) []) (hr : Room 6 (A.deeper (envOfC "law" (defScope s_law) s.heap.objs.size f cdv))) :
    ∃ t, PSs (lcx P w K mg base f cdv A outer s HE E) bd_tick t ∧ ∀ (D : Ends) (H0 H : Hp) (d m dv dp dw wa ra sa : Addr) (M : Mv) (sc u7 u8 u9 u10 u11 u12 u13 u14 u15 u16 u17 u18 u19 u20 u21 u22 u23 u24 u25 u26 : Option V),
      LwAt K H0 H d m dv dp dw wa ra sa M → (∀ σ' H' ra' M', Sl σ' d m wa ra' sa M'.t → LwAt K H0 H' d m dv dp dw wa ra' sa M' → D.nx σ' H') →
      t D [sc, some (.ref d), some (.ref m), some (.ref wa), some (.ref ra), some (.ref sa), some (.int M.t), u7, u8, u9, u10, u11, u12, u13, u14, u15, u16, u17, u18, u19, u20, u21, u22, u23, u24, u25, u26] H := by
  refine ⟨_, (pss_cons (ps_set (i := 14) sc_law.nd rfl (Or.inl rfl) (pe_op op_add pe_int (pe_cX c__law_roll hr (by decide) rfl paX (pa_cons (pv 1) (pa_cons pe_int pa_nil)))))
  (pss_cons (ps_set (i := 6) sc_law.nd rfl (Or.inr rfl) (pe_op op_add (pv 6) (pv 14)))
  (pss_cons (ps_set (i := 15) sc_law.nd rfl (Or.inr rfl) (pe_lc (own := [("one", 16)]) (g := gName 16) rfl sc_law.nd (pi_listK (K := K) rfl (pe_callB (call_sortedDN rfl) (by rfl) T.b_sorted (by decide +kernel) (pa_cons (pv 4) pa_nil))) (blkOk_by (own := [("one", 16)]) (N := sl_law) (sc := defScope s_law) (by decide +kernel)) (fun _ _ _ _ _ => (pg_name (i := 16) sc_law.nd rfl (Or.inl rfl))) (fun _ _ _ _ _ => (pts_one (pt_cmpR op_ge (pv 6) (pe_op op_add (pe_ix (ix_tupK (K := K) rfl) (pe_dget (hu_of hr) (pv 4) (pv 16) (fun _ _ => rfl)) pe_int (fun _ _ => rfl)) (pe_ix (ix_tupK (K := K) rfl) (pe_dget (hu_of hr) (pv 4) (pv 16) (fun _ _ => rfl)) pe_int (fun _ _ => rfl))) (nomark _)))) (fun _ _ _ _ _ => (pv 16))))
  (pss_cons (ps_if (pt_cmpR (op_neDK (K := K) rfl (hU_of hr)) (pe_mX m_Mover_tick hr (by decide) paX (pv 2) (pa_cons (pv 14) pa_nil)) (pe_tupleOfK (K := K) rfl (by rfl) T.b_tuple (pv 15)) (nomark _)) (pss_one (ps_ret pe_bl)) pss_nil)
  (pss_one (ps_set (i := 4) sc_law.nd rfl (Or.inr rfl) (pe_callTy (call_dictPK (K := K) rfl rfl) (by rfl) T.b_dict (by decide +kernel) (pa_cons (pe_lock (pe_lc (own := [("one", 16)]) (g := gName 16) rfl sc_law.nd (pi_keys (pv 4)) (blkOk_by (own := [("one", 16)]) (N := sl_law) (sc := defScope s_law) (by decide +kernel)) (fun _ _ _ _ _ => (pg_name (i := 16) sc_law.nd rfl (Or.inl rfl))) (fun _ _ _ _ _ => (pts_one (pt_cmpR (op_notInK (K := K) rfl) (pv 16) (pv 15) (by rfl)))) (fun _ _ _ _ _ => (pe_tup (pa_cons (pv 16) (pa_cons (pe_dget (hu_of hr) (pv 4) (pv 16) (fun _ _ => rfl)) pa_nil)))))) pa_nil)))))))), ?_⟩
  intro D H0 H d m dv dp dw wa ra sa M sc u7 u8 u9 u10 u11 u12 u13 u14 u15 u16 u17 u18 u19 u20 u21 u22 u23 u24 u25 u26 lw kk
  walk_at "go"
  refine lw_roll lw (by decide) (by decide) fun r H1 r0 r1 lw1 kp1 => ?_
  walk_at "go"
  obtain ⟨LR, er, rv, rp⟩ := lw1.rw_
  obtain ⟨sl, rl, wl⟩ := lenLe lw1.ok
  have rn := lw1.ok.rn
  refine ⟨ra, _, M.R.map (·.1), rfl, .inl rv, by rw [enc_keys, ← pr_keys, er], by rw [List.length_map]; omega, fun ys p pe so hp => ?_⟩
  have ylen : ys.length ≤ 3 := by rw [pe.length_eq, List.length_map]; exact rl
  walk_at "go"
  refine r_lclP (xs := ys.map V.str) (SqL.of upd_same) (by rw [List.length_map]; exact szt (by omega)) (fun v => match v with | .str k => overQ M (M.t + (1 + r)) k | _ => false) id (fun x hx D l hD => ?_) (fun x hx hp D l hD => ?_) fun D2 hD => ?_
  · obtain ⟨k, hk, rfl⟩ := List.mem_map.mp hx
    obtain ⟨rr, hr⟩ := aGet_key (pe.subset hk)
    obtain ⟨a, ea⟩ := pr_get (by rw [er]; exact hr)
    have pa := rp _ (aGet_mem ea)
    intro R hR
    have eqk : overQ M (M.t + (1 + r)) k = decide (rr.start + rr.length ≤ M.t + (1 + r)) := by unfold overQ; rw [hr]; rfl
    have hR : R (overQ M (M.t + (1 + r)) k) _ := hR
    rw [eqk] at hR
    unfold RowAt at pa
    walk_at "go"
    refine g_dgetS (by walk_at "hp") (enc_rf ea) ?_
    walk_at "go"
    refine g_dgetS (by walk_at "hp") (enc_rf ea) ?_
    walk_at "go"
    exact hR
  · intro R hR
    walk_at "go"
    exact hR
  · have eF : List.map id (List.filter (fun v => match v with | .str k => overQ M (M.t + (1 + r)) k | _ => false) (ys.map V.str)) = (ys.filter (overQ M (M.t + (1 + r)))).map V.str := by
      rw [List.map_id, List.filter_map]
      rfl
    rw [eF]
    obtain ⟨n2p, hD1⟩ := upd_free hD
    have s3 : Same H1 (upd (upd H1 p (.lst (ys.map V.str))) D2 (.lst ((ys.filter (overQ M (M.t + (1 + r)))).map V.str))) := Kp.to_same (.own (.own .refl hp) hD1)
    have hE3 : upd (upd H1 p (.lst (ys.map V.str))) D2 (.lst ((ys.filter (overQ M (M.t + (1 + r)))).map V.str)) D2 = some (.lst ((ys.filter (overQ M (M.t + (1 + r)))).map V.str)) := upd_same
    have over := fun (e : Str × Row) he => over_mem (t := M.t + (1 + r)) rn pe (e := e) he
    have okE : ∀ x ∈ ys.filter (overQ M (M.t + (1 + r))), x ∈ (["a", "b", "c"] : List Str) := fun x hx => by
      obtain ⟨e, he, z⟩ := List.mem_map.mp (pe.subset (List.mem_filter.mp hx).1)
      rw [← z]
      exact lw1.ok.rk e he
    have lenE : (ys.filter (overQ M (M.t + (1 + r)))).length ≤ 3 := Nat.le_trans (List.length_filter_le _ _) ylen
    have ukey : ∀ ys2 : List Str, ys2.Perm (M.R.map (·.1)) → sortedS ys2 = true → ys2 = ys := fun ys2 p2 s2 => sorted_unique s2 so (p2.trans pe.symm)
    have lw3 := lw1.same s3
    generalize upd (upd H1 p (.lst (ys.map V.str))) D2 (.lst ((ys.filter (overQ M (M.t + (1 + r)))).map V.str)) = H3 at lw3 hE3 ⊢
    clear rp rv er LR
    obtain ⟨LR, er, rv, rp⟩ := lw3.rw_
    obtain ⟨dx, ob⟩ := lw3.mv.ob
    walk_at "go"
    refine ⟨m, dv, dp, dw, M, 1 + r, rfl, lw3.mv, by omega, rn, fun ys2 H4 q pe2 so2 kp4 nq hq4 mv4 => ?_⟩
    rw [ukey ys2 pe2 so2] at hq4
    have hq4 : H4 q = some (.tup ((ys.filter (overQ M (M.t + (1 + r)))).map V.str)) := hq4
    generalize eE : ys.filter (overQ M (M.t + (1 + r))) = EE at hq4 hE3 okE lenE over eF
    obtain ⟨_, _, rdp, _⟩ := lw3.mv.rv
    have nls : ∀ b ∈ [m, dp], ∀ xs, H3 b ≠ some (.lst xs) := by simp [ob, rdp]
    have nts : ∀ b ∈ [m, dp], ∀ xs, H3 b ≠ some (.tup xs) := by simp [ob, rdp]
    have nmr : ra ≠ m := ne_of rv ob (by intro z; cases z)
    have hE4 : H4 D2 = some (.lst (EE.map V.str)) := kp4.get hE3 fun b hb => nls b hb _
    have rv4 : H4 ra = some (.dK (enc rf LR)) := kp4 _ _ rv (by simp [nmr, lw3.nr.2.1])
    walk_at "go"
    refine g_tupL (SqL.of hE4) fun u nu => ?_
    have nqu : q ≠ u := ne_of_none' nu hq4
    refine g_neTS (l := EE) (m := EE) (SqT.of ((upd_ne nqu).trans hq4)) (SqT.of upd_same) (abc_ok okE) (abc_ok okE) ?_
    walk_at "go"
    refine ifNf rfl ?_
    walk_at "go"
    have nE5 : D2 ≠ u := ne_of_none' nu hE4
    have nr5 : ra ≠ u := ne_of_none' nu rv4
    have hE5 : upd H4 u (.tup (EE.map V.str)) D2 = some (.lst (EE.map V.str)) := (upd_ne nE5).trans hE4
    have rv5 : upd H4 u (.tup (EE.map V.str)) ra = some (.dK (enc rf LR)) := (upd_ne nr5).trans rv4
    have s45 : Same H4 (upd H4 u (.tup (EE.map V.str))) := Kp.to_same (.new .refl nu)
    generalize upd H4 u (.tup (EE.map V.str)) = H5 at hE5 rv5 s45 ⊢
    have lnd : (LR.map (·.1)).Nodup := by rw [← pr_keys, er]; exact rn
    refine g_lcKN rv5 lnd (fun H' R hR => ?_) (by rw [← pr_len, er]; exact szt (by omega)) (fun k => !decide (k ∈ EE)) (fun e he od H' hf kp => ?_) (fun e he od H' hf kp R hR => ?_) fun D6 H6 ps n6 s6 h6 pp => ?_
    · walk_at "go"
      exact hR
    · intro R hR
      have nra : D2 ≠ ra := ne_of hE5 rv5 (by intro z; cases z)
      have hE6 := kp _ _ hE5 (by simpa using nra)
      walk_at "go"
      refine g_notin (.inl (SqL.of hE6)) rfl (flat_strs EE) ?_
      rw [inV_str]
      walk_at "go"
      exact hR
    · walk_at "go"
      refine g_dgetF hf (enc_get (aGet_of_mem lnd he)) ?_
      walk_at "go"
      exact ⟨szl (Nat.le_of_ble_eq_true rfl), hR⟩
    · walk_at "go"
      have nd6 : ((LR.filter fun e => !decide (e.1 ∈ EE)).map (·.1)).Nodup := lnd.sublist (List.filter_sublist.map _)
      refine g_dictN (g := rf) (SqL.of h6) (Paired.mapP pp fun t e ⟨_, _, z⟩ => SqT.of z) nd6 fun ra' n7 => ?_
      have kp37 : Kp [m, dp] H3 (upd H6 ra' (.dK (enc rf (LR.filter fun e => !decide (e.1 ∈ EE))))) := .new (kp4.trans ((Kp.same s45).trans (.same s6)) |>.mono (by simp)) n7
      have s47 : Same H4 (upd H6 ra' (.dK (enc rf (LR.filter fun e => !decide (e.1 ∈ EE))))) := Kp.to_same (.new ((Kp.same s45).trans (.same s6)) n7)
      have hra : upd H6 ra' (.dK (enc rf (LR.filter fun e => !decide (e.1 ∈ EE)))) ra' = some (.dK (enc rf (LR.filter fun e => !decide (e.1 ∈ EE)))) := upd_same
      have fresh : ∀ b o, H4 b = some o → ra' ≠ b := fun b o z => (ne_of_none' n7 (s6 _ _ (s45 _ _ z))).symm
      have fr3 : ∀ b o, H3 b = some o → b ≠ m → b ≠ dp → ra' ≠ b := fun b o z z1 z2 => fresh b o (kp4 _ _ z (by simp [z1, z2]))
      have f0' : H0 ra' = none := by
        cases e : H0 ra' with
        | none => rfl
        | some o =>
          exfalso
          obtain ⟨f1, f2, f3, f4, f5, f6, f7⟩ := lw3.f0
          have nm : ra' ≠ m := fun z => by rw [z, f1] at e; cases e
          have nd : ra' ≠ dp := fun z => by rw [z, f3] at e; cases e
          by_cases hd : ra' = d
          · obtain ⟨x, n, k, hdd⟩ := lw3.dice
            have ndm : d ≠ m := ne_of hdd ob (by intro z; cases z)
            have ndd : d ≠ dp := ne_of hdd rdp (by intro z; cases z)
            exact fr3 d _ hdd ndm ndd hd
          · have h3 := lw3.kp ra' o e (by simpa using hd)
            exact fr3 ra' o h3 nm nd rfl
      generalize upd H6 ra' (.dK (enc rf (LR.filter fun e => !decide (e.1 ∈ EE)))) = H7 at kp37 s47 hra ⊢
      obtain ⟨LW, ew, wv, wp⟩ := lw3.wy
      have nwm : wa ≠ m := ne_of wv ob (by intro z; cases z)
      have nsm : sa ≠ m := ne_of lw3.st ob (by intro z; cases z)
      have mv7 := mv4.same s47
      obtain ⟨_, _, dwv, _⟩ := mv4.wv
      obtain ⟨_, _, dpv, _⟩ := mv4.rv
      refine kk _ H7 ra' ⟨M.S, M.R.filter fun e => !isOver (M.t + (1 + r)) e.2, M.W, M.t + (1 + r)⟩ ⟨_, _, _, _, _, _, _, _, _, _, _, _, _, _, _, _, _, _, _, _, _, rfl⟩
        (lw3.next kp37 nls ?_ mv7 (lw3.ok.ticked (by omega)) ⟨LW, ew, kp37 _ _ wv (by simp [nwm, lw3.nw.2.1]), fun e he => kp37.get (wp e he) fun b hb => nts b hb _⟩ ⟨_, ?_, hra, fun e he => ?_⟩ (kp37 _ _ lw3.st (by simp [nsm, lw3.ns.2.1])) ⟨fresh _ _ mv4.sv, fresh _ _ dpv, fresh _ _ dwv⟩ ⟨(fr3 _ _ wv nwm lw3.nw.2.1).symm, fr3 _ _ lw3.st nsm lw3.ns.2.1⟩ f0')
      · obtain ⟨f1, f2, f3, f4, f5, f6, f7⟩ := lw3.f0
        simp [f1, f3]
      · rw [pr_filter (fun e => !decide (e.1 ∈ EE)), er]
        exact List.filter_congr fun e he => by rw [over e he]
      · exact kp37.get (rp e (List.mem_filter.mp he).1) fun b hb => nts b hb _
end
end K18


namespace K18
def bd_go2 : List Stmt := bd_go.drop 1
def bd_go3 : List Stmt := bd_go.drop 4
theorem goWay_ok {M : Mv} (h : MvOk M) (name : Str) : 0 ≤ (goWay M name).1 ∧ (goWay M name).1 ≤ 10000 ∧ WayOk (goWay M name).2 := by
  unfold goWay
  cases ex : aGet M.W name with
  | none => exact ⟨by decide, by decide, .inl rfl⟩
  | some lw => exact h.wo _ (aGet_mem ex)
theorem goLen_le (M : Mv) (name : Str) (aim : Int) : goLen M name aim ≤ (goWay M name).1 := by
  unfold goLen
  split
  · split
    · omega
    · exact Int.le_refl _
  · exact Int.le_refl _
theorem MvOk.gone {M : Mv} (h : MvOk M) {name : Str} {aim : Int} (nm : name ∈ (["a", "b", "c"] : List Str)) : MvOk (goM M name aim) := by
  obtain ⟨w0, w1, w2⟩ := goWay_ok h name
  have dropk : ∀ e ∈ aDrop M.R name, e ∈ M.R ∧ e.1 ≠ name := fun e he => aDrop_mem.mp he
  have mem : ∀ e ∈ (goM M name aim).R, e ∈ M.R ∨ (0 < goLen M name aim ∧ e = (name, ⟨hereOf M name, aim, M.t, goLen M name aim, (goWay M name).2⟩)) := fun e he => by
    have he : e ∈ (if (aGet M.S name).isSome = true then goRows M name aim else M.R) := he
    split at he
    · unfold goRows at he
      split at he
      · rename_i c
        rcases List.mem_append.mp he with z | z
        · exact .inl (dropk e z).1
        · exact .inr ⟨c.1, List.mem_singleton.mp z⟩
      · exact .inl (dropk e he).1
    · exact .inl he
  refine ⟨aPut_nd _ h.sn, ?_, h.wn, fun e he => ?_, fun e he => ?_, h.wk, fun e he => ?_, h.wo, fun k hk => ?_⟩
  · show ((if (aGet M.S name).isSome = true then goRows M name aim else M.R).map (·.1)).Nodup
    split
    · unfold goRows
      split
      · rw [List.map_append]
        refine nd_snoc (aDrop_nd h.rn) fun z => ?_
        obtain ⟨e, he, q⟩ := List.mem_map.mp z
        exact (dropk e he).2 q
      · exact aDrop_nd h.rn
    · exact h.rn
  · rcases aPut_mem he with z | ⟨z, _⟩
    · rw [z]; exact nm
    · exact h.sk e z
  · rcases mem e he with z | ⟨_, z⟩
    · exact h.rk e z
    · rw [z]; exact nm
  · rcases mem e he with z | ⟨c, z⟩
    · exact h.ro e z
    · rw [z]
      have := goLen_le M name aim
      exact ⟨⟨by show 0 ≤ goLen M name aim; omega, by show goLen M name aim ≤ 10000; omega, w2⟩, Int.le_refl _, by show M.t < M.t + goLen M name aim; omega⟩
  · have hk : aGet (aPut M.S name aim) k = none := hk
    rw [aGet_put] at hk
    by_cases hkn : k = name
    · rw [if_pos hkn] at hk; cases hk
    · rw [if_neg hkn] at hk
      refine aGet_none.mpr fun v m => ?_
      rcases mem _ m with z | ⟨_, z⟩
      · exact aGet_none.mp (h.rs k hk) v z
      · exact hkn (congrArg (·.1) z)
section
variable {P : Program} {w : World} {K : PySem.W.Frag} {mg : Str → Option Value} {base : Heap} {f : Addr} {cdv : Value} {A : Around} {outer : List Env} {s : Shared} {HE : Hp} {E : XK}
theorem bl_go3 (T : Tx K mg) (m_Mover_go_to : MetX P w K mg base 4 (He.ga K "Mover") "go_to" (spGo K) []) (hr : Room 6 (A.deeper (envOfC "law" (defScope s_law) s.heap.objs.size f cdv))) :
    ∃ t, PSs (lcx P w K mg base f cdv A outer s HE E) bd_go3 t ∧ ∀ (D : Ends) (H0 H : Hp) (d m dv dp dw wa ra sa : Addr) (M : Mv) (name : Str) (aim : Int) (hv : V) (sc u7 u8 u14 u15 u16 u17 u18 u19 u20 u21 u22 u23 u24 u25 u26 : Option V),
      name ∈ (["a", "b", "c"] : List Str) → LwAt K H0 H d m dv dp dw wa ra sa M → ((hv = .non ∧ aGet M.S name = none) ∨ (hv = .int (hereOf M name) ∧ (aGet M.S name).isSome = true)) → (∀ σ' H' ra' M', Sl σ' d m wa ra' sa M'.t → LwAt K H0 H' d m dv dp dw wa ra' sa M' → D.nx σ' H') →
      t D [sc, some (.ref d), some (.ref m), some (.ref wa), some (.ref ra), some (.ref sa), some (.int M.t), u7, u8, some (.str name), some (.int aim), some (.int (goLen M name aim)), some (.str (goWay M name).2), some hv, u14, u15, u16, u17, u18, u19, u20, u21, u22, u23, u24, u25, u26] H := by
  refine ⟨_, (pss_cons (ps_expr (pe_mX m_Mover_go_to hr (by decide) paX (pv 2) (pa_cons (pv 9) (pa_cons (pv 10) pa_nil))))
  (pss_cons (ps_if (pt_cmpR op_notNN (pv 13) pe_non (nomark _)) (pss_one (ps_set (i := 4) sc_law.nd rfl (Or.inr rfl) (pe_callTy (call_dictPK (K := K) rfl rfl) (by rfl) T.b_dict (by decide +kernel) (pa_cons (pe_op op_cat (pe_lock (pe_lc (own := [("one", 16)]) (g := gName 16) rfl sc_law.nd (pi_keys (pv 4)) (blkOk_by (own := [("one", 16)]) (N := sl_law) (sc := defScope s_law) (by decide +kernel)) (fun _ _ _ _ _ => (pg_name (i := 16) sc_law.nd rfl (Or.inl rfl))) (fun _ _ _ _ _ => (pts_one (pt_cmpR op_ne (pv 16) (pv 9) (nomark _)))) (fun _ _ _ _ _ => (pe_tup (pa_cons (pv 16) (pa_cons (pe_dget (hu_of hr) (pv 4) (pv 16) (fun _ _ => rfl)) pa_nil)))))) (pe_op op_rep (pe_lst (pa_cons (pe_tup (pa_cons (pv 9) (pa_cons (pe_tup (pa_cons (pv 13) (pa_cons (pv 10) (pa_cons (pv 6) (pa_cons (pv 11) (pa_cons (pv 12) pa_nil)))))) pa_nil))) pa_nil)) (pe_callTy call_int1N (by rfl) T.b_int (by decide +kernel) (pa_cons (pe_and (pe_cmpR op_gt (pv 11) pe_int (nomark _)) (pe_one (pe_cmpR op_ne (pv 13) (pv 10) (nomark _)))) pa_nil)))) pa_nil)))) pss_nil)
  (pss_one (ps_dput (hu_of hr) (pv 5) (pv 9) (pv 10) rfl)))), ?_⟩
  intro D H0 H d m dv dp dw wa ra sa M name aim hv sc u7 u8 u14 u15 u16 u17 u18 u19 u20 u21 u22 u23 u24 u25 u26 nm lw hh kk
  obtain ⟨dx, ob⟩ := lw.mv.ob
  obtain ⟨_, _, rdp, _⟩ := lw.mv.rv
  obtain ⟨sl, rl, wl⟩ := lenLe lw.ok
  obtain ⟨LW, ew, wv, wp⟩ := lw.wy
  obtain ⟨LR, er, rv, rp⟩ := lw.rw_
  walk_at "go"
  refine ⟨m, dv, dp, dw, M, name, aim, rfl, lw.mv, lw.ok, fun H1 kp1 mv1 => ?_⟩
  have dls : ∀ b ∈ [dv, dp], ∀ xs, H b ≠ some (.lst xs) := by simp [lw.mv.sv, rdp]
  have dts : ∀ b ∈ [dv, dp], ∀ xs, H b ≠ some (.tup xs) := by simp [lw.mv.sv, rdp]
  have rv1 : H1 ra = some (.dK (enc rf LR)) := kp1 _ _ rv (by simp [lw.nr.1, lw.nr.2.1])
  have wv1 : H1 wa = some (.dK (enc rf LW)) := kp1 _ _ wv (by simp [lw.nw.1, lw.nw.2.1])
  have sv1 : H1 sa = some (.dK (enc V.int M.S)) := kp1 _ _ lw.st (by simp [lw.ns.1, lw.ns.2.1])
  have rp1 : ∀ e ∈ LR, RowAt H1 e.2.1 e.2.2 := fun e he => kp1.get (rp e he) fun b hb => dts b hb _
  have lnd : (LR.map (·.1)).Nodup := by rw [← pr_keys, er]; exact lw.ok.rn
  have fin : ∀ (H2 : Hp) (ra' : Addr) (L' : List (Str × (Addr × Row))) (σ' : L2.St), Same H1 H2 → Sl σ' d m wa ra' sa M.t → pr L' = (goM M name aim).R → H2 ra' = some (.dK (enc rf L')) → (∀ e ∈ L', RowAt H2 e.2.1 e.2.2) → (ra' = ra ∨ H1 ra' = none) →
      D.nx σ' (upd H2 sa (.dK (enc V.int (aPut M.S name aim)))) := fun H2 ra' L' σ' s12 hsl e' h' r' new => by
    have sv2 := s12 _ _ sv1
    have kp12 : Kp [dv, dp] H H2 := kp1.trans (.same s12)
    have kpS : Kp [sa] H2 (upd H2 sa (.dK (enc V.int (aPut M.S name aim)))) := .mut .refl (by simp)
    have kp3 : Kp [dv, dp, sa] H (upd H2 sa (.dK (enc V.int (aPut M.S name aim)))) := Kp.trans (kp12.mono (by simp)) (kpS.mono (by simp))
    have mv2 := mv1.same s12
    have mv3 := mv2.keep kpS (by simp [lw.ns.1.symm]) (by simp [lw.ns.2.1.symm]) (by simp [lw.ns.2.2.symm]) (by simp [sv2]) (by simp [sv2])
    have nsa : ra' ≠ sa := by
      rcases new with z | z
      · rw [z]; exact lw.nl.2.2
      · exact (ne_of_none' z sv1).symm
    have fr : ∀ b o, H1 b = some o → b ≠ ra → b ≠ ra' := fun b o z n => by
      rcases new with q | q
      · rw [q]; exact n
      · exact ne_of_none' q z
    have fr0 : H0 ra' = none := by
      rcases new with q | q
      · rw [q]; exact lw.f0.2.2.2.2.2.1
      · cases e : H0 ra' with
        | none => rfl
        | some o =>
          exfalso
          by_cases hd : ra' = d
          · obtain ⟨x, n, k, hdd⟩ := lw.dice
            rw [hd, kp1.get hdd fun b hb => dls b hb _] at q
            cases q
          · have h3 := lw.kp ra' o e (by simpa using hd)
            by_cases hb : ra' = dv
            · rw [hb, lw.f0.2.1] at e; cases e
            · by_cases hb2 : ra' = dp
              · rw [hb2, lw.f0.2.2.1] at e; cases e
              · rw [kp1 _ _ h3 (by simp [hb, hb2])] at q; cases q
    obtain ⟨f1, f2, f3, f4, f5, f6, f7⟩ := lw.f0
    obtain ⟨_, _, dpv, _⟩ := mv1.rv
    obtain ⟨_, _, dwv, _⟩ := mv1.wv
    refine kk σ' _ ra' (goM M name aim) hsl (lw.next kp3 ?_ (by simp [f2, f3, f7]) mv3 (lw.ok.gone nm) ⟨LW, ew, ?_, fun e he => kp3.get (wp e he) ?_⟩ ⟨L', e', (upd_ne nsa).trans h', fun e he => kpS.get (r' e he) (by simp [sv2])⟩ upd_same
      ⟨(fr _ _ mv1.sv lw.nr.1.symm).symm, (fr _ _ dpv lw.nr.2.1.symm).symm, (fr _ _ dwv lw.nr.2.2.symm).symm⟩ ⟨fr _ _ wv1 lw.nl.1, nsa⟩ fr0)
    · simp [lw.mv.sv, rdp, lw.st]
    · exact kp3 _ _ wv (by simp [lw.nw.1, lw.nw.2.1, lw.nl.2.1])
    · simp [lw.mv.sv, rdp, lw.st]
  walk_at "go"
  rcases hh with ⟨rfl, hS⟩ | ⟨rfl, hS⟩
  · refine ifNf rfl ?_
    walk_at "go"
    refine g_dputS sv1 (by rw [enc_len]; exact szt (by omega)) ?_
    rw [putK_enc]
    refine fin H1 ra LR _ (Same.refl H1) ⟨_, _, _, _, _, _, _, _, _, _, _, _, _, _, _, _, _, _, _, _, _, rfl⟩ ?_ rv1 rp1 (.inl rfl)
    show pr LR = if (aGet M.S name).isSome = true then goRows M name aim else M.R
    rw [hS, if_neg (by simp)]
    exact er
  · refine ifNt (p := (V.int (hereOf M name)) = V.non) (fun z => by cases z) ?_
    walk_at "go"
    refine g_lcKN rv1 lnd (fun H' R hR => ?_) (by rw [← pr_len, er]; exact szt (by omega)) (fun k => !decide (k = name)) (fun e he od H' hf kp => ?_) (fun e he od H' hf kp R hR => ?_) fun D6 H6 ps n6 s6 h6 pp => ?_
    · walk_at "go"
      exact hR
    · intro R hR
      walk_at "go"
      exact hR
    · walk_at "go"
      refine g_dgetF hf (enc_get (aGet_of_mem lnd he)) ?_
      walk_at "go"
      exact ⟨szl (Nat.le_of_ble_eq_true rfl), hR⟩
    · walk_at "go"
      refine ⟨szl (Nat.le_of_ble_eq_true rfl), fun tr n7 => ?_⟩
      walk_at "go"
      refine ⟨szl (Nat.le_of_ble_eq_true rfl), fun tq n8 => ?_⟩
      walk_at "go"
      refine ⟨szl (Nat.le_of_ble_eq_true rfl), fun tl n9 => ?_⟩
      walk_at "go"
      refine g_repB (xs := [.ref tq]) (by walk_at "hp") (szl (Nat.le_of_ble_eq_true rfl)) fun t2 n10 => ?_
      generalize ec : (decide (0 < goLen M name aim) && !decide (hereOf M name = aim)) = c at n10 ⊢
      have rowEq : goRows M name aim = aDrop M.R name ++ (if c = true then [(name, (⟨hereOf M name, aim, M.t, goLen M name aim, (goWay M name).2⟩ : Row))] else []) := by
        unfold goRows
        rw [← ec]
        by_cases z1 : 0 < goLen M name aim
        · by_cases z2 : hereOf M name = aim
          · rw [if_neg (fun z => z.2 z2), if_neg (by simp [z2]), List.append_nil]
          · rw [if_pos ⟨z1, z2⟩, if_pos (by simp [z1, z2])]
        · rw [if_neg (fun z => z1 z.1), if_neg (by simp [z1]), List.append_nil]
      have dropEq : (LR.filter fun e => !decide (e.1 = name)) = aDrop LR name := List.filter_congr fun e _ => (decide_not ..).symm
      rw [dropEq] at pp
      have lps : ps.length ≤ 3 := by rw [Paired.length pp]; exact Nat.le_trans aDrop_len (by rw [← pr_len, er]; exact rl)
      obtain ⟨m1, n8'⟩ := upd_free n8
      obtain ⟨m2, n9'⟩ := upd_free n9
      obtain ⟨m3, n9'⟩ := upd_free n9'
      obtain ⟨m4, n10'⟩ := upd_free n10
      obtain ⟨m5, n10'⟩ := upd_free n10'
      obtain ⟨m6, n10'⟩ := upd_free n10'
      have row_ : ∀ H', Same (upd (upd H6 tr (.tup [.int (hereOf M name), .int aim, .int M.t, .int (goLen M name aim), .str (goWay M name).2])) tq (.tup [.str name, .ref tr])) H' → RowAt H' tr ⟨hereOf M name, aim, M.t, goLen M name aim, (goWay M name).2⟩ ∧ H' tq = some (.tup [.str name, .ref tr]) := fun H' s => ⟨s _ _ ((upd_ne m1.symm).trans upd_same), s _ _ upd_same⟩
      have s68 : Same H6 (upd (upd H6 tr (.tup [.int (hereOf M name), .int aim, .int M.t, .int (goLen M name aim), .str (goWay M name).2])) tq (.tup [.str name, .ref tr])) := Kp.to_same (.own (.own .refl n7) n8')
      have h2' : upd (upd (upd (upd H6 tr (.tup [.int (hereOf M name), .int aim, .int M.t, .int (goLen M name aim), .str (goWay M name).2])) tq (.tup [.str name, .ref tr])) tl (.lst [.ref tq])) t2 (.lst (if c = true then [.ref tq] else [])) t2 = some (.lst (if c = true then [.ref tq] else [])) := upd_same
      have s8 : Same (upd (upd H6 tr (.tup [.int (hereOf M name), .int aim, .int M.t, .int (goLen M name aim), .str (goWay M name).2])) tq (.tup [.str name, .ref tr])) (upd (upd (upd (upd H6 tr (.tup [.int (hereOf M name), .int aim, .int M.t, .int (goLen M name aim), .str (goWay M name).2])) tq (.tup [.str name, .ref tr])) tl (.lst [.ref tq])) t2 (.lst (if c = true then [.ref tq] else []))) := Kp.to_same (.new (.new .refl n9) n10)
      generalize upd (upd H6 tr (.tup [.int (hereOf M name), .int aim, .int M.t, .int (goLen M name aim), .str (goWay M name).2])) tq (.tup [.str name, .ref tr]) = H8 at row_ s68 s8 h2' ⊢
      generalize upd (upd H8 tl (.lst [.ref tq])) t2 (.lst (if c = true then [.ref tq] else [])) = H10 at s8 h2' ⊢
      have h610 := s8 _ _ (s68 _ _ h6)
      walk_at "go"
      refine g_cat h610 h2' ?_ fun lc n11 => ?_
      · rw [List.length_map]
        cases c
        · exact szl (by show ps.length + 0 ≤ 10000; omega)
        · exact szl (by show ps.length + 1 ≤ 10000; omega)
      walk_at "go"
      have sL : Same H10 (upd H10 lc (.lst (ps.map V.ref ++ if c = true then [.ref tq] else []))) := Kp.to_same (.new .refl n11)
      have hL : upd H10 lc (.lst (ps.map V.ref ++ if c = true then [.ref tq] else [])) lc = some (.lst ((ps ++ if c = true then [tq] else []).map V.ref)) := by
        rw [upd_same, List.map_append]
        cases c <;> rfl
      generalize upd H10 lc (.lst (ps.map V.ref ++ if c = true then [.ref tq] else [])) = H11 at sL hL ⊢
      obtain ⟨row11, tq11⟩ := row_ H11 (fun b o z => sL b o (s8 b o z))
      have s611 : Same H6 H11 := fun b o z => sL b o (s8 b o (s68 b o z))
      have nd' : ((aDrop LR name ++ (if c = true then [(name, (tr, (⟨hereOf M name, aim, M.t, goLen M name aim, (goWay M name).2⟩ : Row)))] else [])).map (·.1)).Nodup := by
        rw [List.map_append]
        cases c
        · rw [show (List.map (·.1) (if false = true then [(name, (tr, (⟨hereOf M name, aim, M.t, goLen M name aim, (goWay M name).2⟩ : Row)))] else [])) = [] from rfl, List.append_nil]
          exact aDrop_nd lnd
        · refine nd_snoc (aDrop_nd lnd) fun z => ?_
          obtain ⟨e, he, q⟩ := List.mem_map.mp z
          exact (aDrop_mem.mp he).2 q
      refine g_dictN (g := rf) (SqL.of hL) (L := aDrop LR name ++ (if c = true then [(name, (tr, (⟨hereOf M name, aim, M.t, goLen M name aim, (goWay M name).2⟩ : Row)))] else [])) ?_ nd' fun ra' n12 => ?_
      · refine paired_app (Paired.mapP pp fun t e ⟨_, _, z⟩ => SqT.of (s611 _ _ z)) ?_
        cases c
        · exact .nil
        · exact .cons (SqT.of tq11) .nil
      have s1n : Same H1 (upd H11 ra' (.dK (enc rf (aDrop LR name ++ (if c = true then [(name, (tr, (⟨hereOf M name, aim, M.t, goLen M name aim, (goWay M name).2⟩ : Row)))] else []))))) := Kp.to_same (.new (.same fun b o z => s611 b o (s6 b o z)) n12)
      have sv2 := s1n _ _ sv1
      walk_at "go"
      refine g_dputS sv2 (by rw [enc_len]; exact szt (by omega)) ?_
      rw [putK_enc]
      have s11n : Same H11 (upd H11 ra' (.dK (enc rf (aDrop LR name ++ (if c = true then [(name, (tr, (⟨hereOf M name, aim, M.t, goLen M name aim, (goWay M name).2⟩ : Row)))] else []))))) := Kp.to_same (.new .refl n12)
      refine fin _ ra' _ _ s1n ⟨_, _, _, _, _, _, _, _, _, _, _, _, _, _, _, _, _, _, _, _, _, rfl⟩ ?_ upd_same (fun e he => ?_) (.inr ?_)
      · show _ = if (aGet M.S name).isSome = true then goRows M name aim else M.R
        rw [if_pos hS, rowEq, pr_app, pr_drop, er]
        congr 1
        cases c <;> rfl
      · rcases List.mem_append.mp he with he | he
        · exact s1n _ _ (rp1 e (aDrop_mem.mp he).1)
        · cases c
          · cases he
          · rw [List.mem_singleton.mp he]
            exact s11n _ _ row11
      · cases e : H1 ra' with
        | none => rfl
        | some o => rw [s611 _ _ (s6 _ _ e)] at n12; cases n12
end
end K18


namespace K18
section
variable {P : Program} {w : World} {K : PySem.W.Frag} {mg : Str → Option Value} {base : Heap} {f : Addr} {cdv : Value} {A : Around} {outer : List Env} {s : Shared} {HE : Hp} {E : XK}
theorem bl_go2 (T : Tx K mg) (c__law_at : CalX P w K mg base 1 "_law_at" spAt []) (m_Mover_go_to : MetX P w K mg base 4 (He.ga K "Mover") "go_to" (spGo K) []) (hr : Room 6 (A.deeper (envOfC "law" (defScope s_law) s.heap.objs.size f cdv))) :
    ∃ t, PSs (lcx P w K mg base f cdv A outer s HE E) bd_go2 t ∧ ∀ (D : Ends) (H0 H : Hp) (d m dv dp dw wa ra sa : Addr) (M : Mv) (name : Str) (aim : Int) (sc u7 u8 u11 u12 u13 u14 u15 u16 u17 u18 u19 u20 u21 u22 u23 u24 u25 u26 : Option V),
      name ∈ (["a", "b", "c"] : List Str) → LwAt K H0 H d m dv dp dw wa ra sa M → (∀ σ' H' ra' M', Sl σ' d m wa ra' sa M'.t → LwAt K H0 H' d m dv dp dw wa ra' sa M' → D.nx σ' H') →
      t D [sc, some (.ref d), some (.ref m), some (.ref wa), some (.ref ra), some (.ref sa), some (.int M.t), u7, u8, some (.str name), some (.int aim), u11, u12, u13, u14, u15, u16, u17, u18, u19, u20, u21, u22, u23, u24, u25, u26] H := by
  obtain ⟨t3, p_go3, h3⟩ := bl_go3 (f := f) (cdv := cdv) (A := A) (outer := outer) (s := s) (HE := HE) (E := E) T m_Mover_go_to hr
  refine ⟨_, (pss_cons (ps_asg (pe_dget2 (hu_of hr) (pv 3) (pv 9) (pe_tup (pa_cons pe_int (pa_cons pe_str pa_nil))) ⟨by rfl, by rfl, by rfl, by rfl⟩) (pg_tupK (K := K) rfl (by rfl) (pgs_cons (pg_name (i := 11) sc_law.nd rfl (Or.inl rfl)) (pgs_cons (pg_name (i := 12) sc_law.nd rfl (Or.inl rfl)) pgs_nil))))
  (pss_cons (ps_set (i := 13) sc_law.nd rfl (Or.inl rfl) (pe_ifExp (pt_cmp (pc_din (hu_of hr) (pv 9) (pv 4))) (pe_cX c__law_at hr (by decide) rfl paX (pa_cons (pe_dget (hu_of hr) (pv 4) (pv 9) (fun _ _ => rfl)) (pa_cons (pv 6) pa_nil))) (pe_dget1 (hu_of hr) (pv 5) (pv 9) ⟨by rfl, by rfl, by rfl, by rfl⟩)))
  (pss_cons (ps_if (PW.pt (pw_and (pt_cmp (pc_din (hu_of hr) (pv 9) (pv 4))) (pw_and1 (pt_cmpR op_eq (pv 10) (pe_ix (ix_tupK (K := K) rfl) (pe_dget (hu_of hr) (pv 4) (pv 9) (fun _ _ => rfl)) pe_int (fun _ _ => rfl)) (nomark _))))) (pss_one (ps_set (i := 11) sc_law.nd rfl (Or.inl rfl) (pe_callB (call_min2N rfl) (by rfl) T.b_min (by decide +kernel) (pa_cons (pv 11) (pa_cons (pe_op op_sub (pv 6) (pe_ix (ix_tupK (K := K) rfl) (pe_dget (hu_of hr) (pv 4) (pv 9) (fun _ _ => rfl)) pe_int (fun _ _ => rfl))) pa_nil))))) pss_nil)
  p_go3))), ?_⟩
  intro D H0 H d m dv dp dw wa ra sa M name aim sc u7 u8 u11 u12 u13 u14 u15 u16 u17 u18 u19 u20 u21 u22 u23 u24 u25 u26 nm lw kk
  obtain ⟨LW, ew, wv, wp⟩ := lw.wy
  walk_at "go"
  refine g_isD wv ?_
  walk_at "go"
  refine ⟨szl (Nat.le_of_ble_eq_true rfl), fun tp ntp => ?_⟩
  have nwt : wa ≠ tp := ne_of_none' ntp wv
  refine g_dgo (by walk_at "hp") ?_
  obtain ⟨tz, ez, hz⟩ : ∃ tz, (valV (enc rf LW) (Sum.inr name)).getD (.ref tp) = .ref tz ∧ upd H tp (.tup [.int 0, .str "even"]) tz = some (.tup [.int (goWay M name).1, .str (goWay M name).2]) := by
    unfold goWay
    cases ex : aGet M.W name with
    | none => exact ⟨tp, by rw [enc_none (pr_none (by rw [ew]; exact ex))]; rfl, upd_same⟩
    | some lw' =>
      obtain ⟨z, hz⟩ := pr_get (by rw [ew]; exact ex)
      have hz2 := wp _ (aGet_mem hz)
      exact ⟨z, by rw [enc_rf hz]; rfl, (upd_ne (ne_of_none' ntp hz2)).trans hz2⟩
  rw [ez]
  have lw1 := lw.same (Kp.to_same (.new .refl ntp) : Same H (upd H tp (.tup [.int 0, .str "even"])))
  generalize upd H tp (.tup [.int 0, .str "even"]) = H1 at hz lw1 ⊢
  obtain ⟨LR, er, rv, rp⟩ := lw1.rw_
  walk_at "go"
  cases e6 : aGet M.R name with
  | some r =>
    obtain ⟨a, ea⟩ := pr_get (by rw [er]; exact e6)
    have pa := rp _ (aGet_mem ea)
    obtain ⟨⟨l0, l1, wok⟩, ro2, ro3⟩ := lw.ok.ro _ (aGet_mem e6)
    refine g_dinY rv (enc_rf ea) ?_
    walk_at "go"
    refine g_dgetS rv (enc_rf ea) ?_
    walk_at "go"
    refine ⟨a, r, M.t, rfl, pa, l0, l1, wok, fun H2 s2 => ?_⟩
    have lw2 := lw1.same s2
    have rv2 := s2 _ _ rv
    have pa2 := s2 _ _ pa
    walk_at "go"
    refine g_dinY rv2 (enc_rf ea) ?_
    walk_at "go"
    refine g_dgetS rv2 (enc_rf ea) ?_
    walk_at "go"
    have eh : r.at M.t = hereOf M name := by unfold hereOf; rw [e6]
    have hS : (aGet M.S name).isSome = true := by
      cases es : aGet M.S name with
      | some v => rfl
      | none => rw [lw.ok.rs name es] at e6; cases e6
    refine ifP (fun hq => ?_) (fun hq => ?_)
    · walk_at "go"
      refine g_dgetS rv2 (enc_rf ea) ?_
      walk_at "go"
      have eL : min (goWay M name).1 (M.t - r.start) = goLen M name aim := by unfold goLen; rw [e6]; exact (if_pos hq).symm
      rw [eL, eh]
      exact h3 D H0 H2 d m dv dp dw wa ra sa M name aim _ _ _ _ _ _ _ _ _ _ _ _ _ _ _ _ _ nm lw2 (.inr ⟨rfl, hS⟩) kk
    · walk_at "go"
      have eL : (goWay M name).1 = goLen M name aim := by unfold goLen; rw [e6]; exact (if_neg hq).symm
      rw [eL, eh]
      exact h3 D H0 H2 d m dv dp dw wa ra sa M name aim _ _ _ _ _ _ _ _ _ _ _ _ _ _ _ _ _ nm lw2 (.inr ⟨rfl, hS⟩) kk
  | none =>
    have en := enc_none (g := rf) (pr_none (by rw [er]; exact e6))
    refine g_dinN rv en ?_
    walk_at "go"
    refine g_isD lw1.st ?_
    walk_at "go"
    refine g_dgo lw1.st ?_
    have eL : (goWay M name).1 = goLen M name aim := by unfold goLen; rw [e6]
    cases es : aGet M.S name with
    | none =>
      rw [enc_none es, Option.getD_none]
      walk_at "go"
      refine g_dinN rv en ?_
      walk_at "go"
      rw [eL]
      exact h3 D H0 H1 d m dv dp dw wa ra sa M name aim _ _ _ _ _ _ _ _ _ _ _ _ _ _ _ _ _ nm lw1 (.inl ⟨rfl, es⟩) kk
    | some v =>
      rw [enc_get es, Option.getD_some]
      walk_at "go"
      refine g_dinN rv en ?_
      walk_at "go"
      have eh : v = hereOf M name := by unfold hereOf; rw [e6, es]; rfl
      rw [eL, eh]
      exact h3 D H0 H1 d m dv dp dw wa ra sa M name aim _ _ _ _ _ _ _ _ _ _ _ _ _ _ _ _ _ nm lw1 (.inr ⟨rfl, by rw [es]; rfl⟩) kk
theorem bl_go (T : Tx K mg) (c__law_roll : CalX P w K mg base 1 "_law_roll" spRoll []) (c__law_at : CalX P w K mg base 1 "_law_at" spAt []) (m_Mover_go_to : MetX P w K mg base 4 (He.ga K "Mover") "go_to" (spGo K) []) (hr : Room 6 (A.deeper (envOfC "law" (defScope s_law) s.heap.objs.size f cdv))) :
    ∃ t, PSs (lcx P w K mg base f cdv A outer s HE E) bd_go t ∧ ∀ (D : Ends) (H0 H : Hp) (d m dv dp dw wa ra sa : Addr) (M : Mv) (name : Str) (aim : Int) (sc u7 u8 u11 u12 u13 u14 u15 u16 u17 u18 u19 u20 u21 u22 u23 u24 u25 u26 : Option V),
      name ∈ (["a", "b", "c"] : List Str) → LwAt K H0 H d m dv dp dw wa ra sa M → (∀ σ' H' ra' M', Sl σ' d m wa ra' sa M'.t → LwAt K H0 H' d m dv dp dw wa ra' sa M' → D.nx σ' H') →
      t D [sc, some (.ref d), some (.ref m), some (.ref wa), some (.ref ra), some (.ref sa), some (.int M.t), u7, u8, some (.str name), some (.int aim), u11, u12, u13, u14, u15, u16, u17, u18, u19, u20, u21, u22, u23, u24, u25, u26] H := by
  obtain ⟨t2, p_go2, h2⟩ := bl_go2 (f := f) (cdv := cdv) (A := A) (outer := outer) (s := s) (HE := HE) (E := E) T c__law_at m_Mover_go_to hr
  refine ⟨_, (pss_cons (ps_set (i := 10) sc_law.nd rfl (Or.inl rfl) (pe_ifExp (PW.pt (pw_and (pt_cmp (pc_din (hu_of hr) (pv 9) (pv 4))) (pw_and1 (pt_cmpR op_eq (pe_cX c__law_roll hr (by decide) rfl paX (pa_cons (pv 1) (pa_cons pe_int pa_nil))) pe_int (nomark _))))) (pe_ix (ix_tupK (K := K) rfl) (pe_dget (hu_of hr) (pv 4) (pv 9) (fun _ _ => rfl)) pe_int (fun _ _ => rfl)) (pv 10)))
  p_go2), ?_⟩
  intro D H0 H d m dv dp dw wa ra sa M name aim sc u7 u8 u11 u12 u13 u14 u15 u16 u17 u18 u19 u20 u21 u22 u23 u24 u25 u26 nm lw kk
  obtain ⟨LR, er, rv, rp⟩ := lw.rw_
  walk_at "go"
  cases e6 : aGet M.R name with
  | some r =>
    obtain ⟨a, ea⟩ := pr_get (by rw [er]; exact e6)
    have pa := rp _ (aGet_mem ea)
    refine g_dinY rv (enc_rf ea) ?_
    walk_at "go"
    refine lw_roll lw (by decide) (by decide) fun q H1 q0 q1 lw1 kp1 => ?_
    obtain ⟨x, n, k, hd⟩ := lw.dice
    have rv1 := kp1 _ _ rv (by simpa using ne_of rv hd (by intro z; cases z))
    have pa1 : RowAt H1 a r := kp1 _ _ pa (by simpa using ne_of pa hd (by intro z; cases z))
    walk_at "go"
    refine ifP (fun hq => ?_) (fun hq => ?_)
    · walk_at "go"
      refine g_dgetS rv1 (enc_rf ea) ?_
      unfold RowAt at pa1
      walk_at "go"
      exact h2 D H0 H1 d m dv dp dw wa ra sa M name r.first _ _ _ _ _ _ _ _ _ _ _ _ _ _ _ _ _ _ _ nm lw1 kk
    · walk_at "go"
      exact h2 D H0 H1 d m dv dp dw wa ra sa M name aim _ _ _ _ _ _ _ _ _ _ _ _ _ _ _ _ _ _ _ nm lw1 kk
  | none =>
    refine g_dinN rv (enc_none (g := rf) (pr_none (by rw [er]; exact e6))) ?_
    walk_at "go"
    exact h2 D H0 H d m dv dp dw wa ra sa M name aim _ _ _ _ _ _ _ _ _ _ _ _ _ _ _ _ _ _ _ nm lw kk
end
end K18


namespace K18
section
variable {P : Program} {w : World} {K : PySem.W.Frag} {mg : Str → Option Value} {base : Heap} {f : Addr} {cdv : Value} {A : Around} {outer : List Env} {s : Shared} {HE : Hp} {E : XK}
theorem bl_chk (T : Tx K mg) (c__law_at : CalX P w K mg base 1 "_law_at" spAt []) (m_Mover_moving : MetX P w K mg base 1 (He.ga K "Mover") "moving" (spMoving K) []) (m_Mover_value_now : MetX P w K mg base 3 (He.ga K "Mover") "value_now" (spNow K) [])
    (hr : Room 6 (A.deeper (envOfC "law" (defScope s_law) s.heap.objs.size f cdv))) :
    ∃ t, PSs (lcx P w K mg base f cdv A outer s HE E) bd_chk t ∧ ∀ (D : Ends) (H0 H : Hp) (σ : L2.St) (d m dv dp dw wa ra sa : Addr) (M : Mv), Sl σ d m wa ra sa M.t →
      LwAt K H0 H d m dv dp dw wa ra sa M → (∀ σ' H', Sl σ' d m wa ra sa M.t → LwAt K H0 H' d m dv dp dw wa ra sa M → D.nx σ' H') → t D σ H := by
  refine ⟨_, (pss_cons (ps_if (pt_cmpR (op_neDK (K := K) rfl (hU_of hr)) (pe_mX0 m_Mover_moving hr (by decide) paX (pv 2)) (pe_tupleOfK (K := K) rfl (by rfl) T.b_tuple (pe_callB (call_sortedDN rfl) (by rfl) T.b_sorted (by decide +kernel) (pa_cons (pv 4) pa_nil))) (nomark _)) (pss_one (ps_ret pe_bl)) pss_nil)
  (pss_one (ps_lock (ps_for poX rfl (pi_keys (pv 5)) (pg_name (i := 16) sc_law.nd rfl (Or.inl rfl)) (pss_cons (ps_set (i := 17) sc_law.nd rfl (Or.inl rfl) (pe_ifExp (pt_cmp (pc_din (hu_of hr) (pv 16) (pv 4))) (pe_cX c__law_at hr (by decide) rfl paX (pa_cons (pe_dget (hu_of hr) (pv 4) (pv 16) (fun _ _ => rfl)) (pa_cons (pv 6) pa_nil))) (pe_dget (hu_of hr) (pv 5) (pv 16) (fun _ _ => rfl))))
  (pss_one (ps_if (PW.pt (pw_or (pt_cmpR op_ne (pe_mX m_Mover_value_now hr (by decide) paX (pv 2) (pa_cons (pv 16) pa_nil)) (pv 17) (nomark _)) (pw_or1 (PW.pt (pw_and (pt_cmp (pc_din (hu_of hr) (pv 16) (pv 4))) (pw_and1 (pt_not (pt_chain op_le op_le (pe_callB (call_min2N rfl) (by rfl) T.b_min (by decide +kernel) (pa_cons (pe_ix (ix_tupK (K := K) rfl) (pe_dget (hu_of hr) (pv 4) (pv 16) (fun _ _ => rfl)) pe_int (fun _ _ => rfl)) (pa_cons (pe_ix (ix_tupK (K := K) rfl) (pe_dget (hu_of hr) (pv 4) (pv 16) (fun _ _ => rfl)) pe_int (fun _ _ => rfl)) pa_nil))) (pv 17) (pe_callB (call_max2N rfl) (by rfl) T.b_max (by decide +kernel) (pa_cons (pe_ix (ix_tupK (K := K) rfl) (pe_dget (hu_of hr) (pv 4) (pv 16) (fun _ _ => rfl)) pe_int (fun _ _ => rfl)) (pa_cons (pe_ix (ix_tupK (K := K) rfl) (pe_dget (hu_of hr) (pv 4) (pv 16) (fun _ _ => rfl)) pe_int (fun _ _ => rfl)) pa_nil))))))))))) (pss_one (ps_ret pe_bl)) pss_nil))))))), ?_⟩
  rintro D H0 H σ d m dv dp dw wa ra sa M ⟨sc, u7, u8, u9, u10, u11, u12, u13, u14, u15, u16, u17, u18, u19, u20, u21, u22, u23, u24, u25, u26, rfl⟩ lw kk
  obtain ⟨dx, ob⟩ := lw.mv.ob
  obtain ⟨sl, rl, wl⟩ := lenLe lw.ok
  walk_at "go"
  refine ⟨m, dv, dp, dw, M, rfl, lw.mv, by omega, fun ys H1 q pe so s1 nq hq => ?_⟩
  have lw1 := lw.same s1
  obtain ⟨LR, er, rv, rp⟩ := lw1.rw_
  walk_at "go"
  refine ⟨ra, _, M.R.map (·.1), rfl, .inl rv, by rw [enc_keys, ← pr_keys, er], by rw [List.length_map]; omega, fun ys2 p pe2 so2 np => ?_⟩
  have ey : ys2 = ys := sorted_unique so2 so (pe2.trans pe.symm)
  subst ey
  have okE : ∀ x ∈ ys2, x ∈ (["a", "b", "c"] : List Str) := fun x hx => by
    obtain ⟨e, he, z⟩ := List.mem_map.mp (pe.subset hx)
    rw [← z]
    exact lw1.ok.rk e he
  walk_at "go"
  refine g_tupL (SqL.of upd_same) fun u nu => ?_
  obtain ⟨nup, nu1⟩ := upd_free nu
  have nqp : q ≠ p := ne_of_none' np hq
  have nqu : q ≠ u := ne_of_none' nu1 hq
  refine g_neTS (l := ys2) (m := ys2) (SqT.of ((upd_ne nqu).trans ((upd_ne nqp).trans hq))) (SqT.of upd_same) (abc_ok okE) (abc_ok okE) ?_
  walk_at "go"
  refine ifNf rfl ?_
  walk_at "go"
  have lw2 := lw1.same (Kp.to_same (.new (.new .refl np) nu) : Same H1 (upd (upd H1 p (.lst (ys2.map V.str))) u (.tup (ys2.map V.str))))
  generalize upd (upd H1 p (.lst (ys2.map V.str))) u (.tup (ys2.map V.str)) = H2 at lw2 ⊢
  clear rv rp er LR
  obtain ⟨LR, er, rv, rp⟩ := lw2.rw_
  have st2 := lw2.st
  refine r_forK st2 (fun H' R hR => ?_) (fun i σ H' => Sl σ d m wa ra sa M.t ∧ Kp [sa] H2 H') (fun od => ⟨⟨_, _, _, _, _, _, _, _, _, _, _, _, _, _, _, _, _, _, _, _, _, rfl⟩, .mut .refl (by simp)⟩) (fun i σ H' h => h.2) (fun od i x σ H' D' hi hx h hf nxt => ?_) (fun σ H' h => ?_)
  · walk_at "go"
    exact hR
  · obtain ⟨⟨sc, u7, u8, u9, u10, u11, u12, u13, u14, u15, u16, u17, u18, u19, u20, u21, u22, u23, u24, u25, u26, rfl⟩, kp⟩ := h
    rw [keys_enc, List.getElem?_map] at hx
    obtain ⟨⟨k, v⟩, hk, rfl⟩ := Option.map_eq_some_iff.mp hx
    have es : aGet M.S k = some v := aGet_of_mem lw2.ok.sn (take_mem hk)
    have mv' := lw2.mv.keep kp (by simp [lw2.ns.1.symm]) (by simp [lw2.ns.2.1.symm]) (by simp [lw2.ns.2.2.symm]) (by simp [st2]) (by simp [st2])
    have rv' : H' ra = some (.dK (enc rf LR)) := kp _ _ rv (by simp [lw2.nl.2.2])
    obtain ⟨dx', ob'⟩ := mv'.ob
    walk_at "go"
    cases e6 : aGet M.R k with
    | some r =>
      obtain ⟨a, ea⟩ := pr_get (by rw [er]; exact e6)
      have pa : RowAt H' a r := kp.get (rp _ (aGet_mem ea)) (by simp [st2])
      obtain ⟨⟨l0, l1, wok⟩, ro2, ro3⟩ := lw2.ok.ro _ (aGet_mem e6)
      have eh : hereOf M k = r.at M.t := by unfold hereOf; rw [e6]
      have bet := at_between (r := r) (t := M.t) l0 l1
      refine g_dinY rv' (enc_rf ea) ?_
      walk_at "go"
      refine g_dgetS rv' (enc_rf ea) ?_
      walk_at "go"
      refine ⟨a, r, M.t, rfl, pa, l0, l1, wok, fun H3 s3 => ?_⟩
      have ob3 := s3 _ _ ob'
      walk_at "go"
      refine now_ok (mv'.same s3) lw2.ok es fun H4 s4 => ?_
      rw [eh]
      have pa4 : RowAt H4 a r := s4 _ _ (s3 _ _ pa)
      have rv4 := s4 _ _ (s3 _ _ rv')
      unfold RowAt at pa4
      generalize r.at M.t = va at bet ⊢
      walk_at "go"
      refine ifNf rfl ?_
      walk_at "go"
      refine g_dinY rv4 (enc_rf ea) ?_
      walk_at "go"
      refine g_dgetS rv4 (enc_rf ea) ?_
      walk_at "go"
      refine g_dgetS rv4 (enc_rf ea) ?_
      walk_at "go"
      refine ifPt bet.1 ?_
      walk_at "go"
      refine g_dgetS rv4 (enc_rf ea) ?_
      walk_at "go"
      refine g_dgetS rv4 (enc_rf ea) ?_
      walk_at "go"
      refine ifNf bet.2 ?_
      walk_at "go"
      exact nxt _ _ ⟨⟨_, _, _, _, _, _, _, _, _, _, _, _, _, _, _, _, _, _, _, _, _, rfl⟩, kp.trans (.same fun b o z => s4 _ _ (s3 _ _ z))⟩ (s4 _ _ (s3 _ _ hf))
    | none =>
      refine g_dinN rv' (enc_none (g := rf) (pr_none (by rw [er]; exact e6))) ?_
      have eh : hereOf M k = v := by unfold hereOf; rw [e6, es]; rfl
      walk_at "go"
      refine g_dgetF hf (enc_get es) ?_
      walk_at "go"
      refine now_ok mv' lw2.ok es fun H4 s4 => ?_
      rw [eh]
      have rv4 := s4 _ _ rv'
      walk_at "go"
      refine ifNf rfl ?_
      walk_at "go"
      refine g_dinN rv4 (enc_none (g := rf) (pr_none (by rw [er]; exact e6))) ?_
      walk_at "go"
      refine nxt _ _ ⟨⟨_, _, _, _, _, _, _, _, _, _, _, _, _, _, _, _, _, _, _, _, _, rfl⟩, kp.trans (.same s4)⟩ (s4 _ _ hf)
  · refine kk _ _ h.1 (lw2.same fun b o z => ?_)
    by_cases hb : b = sa
    · rw [hb, st2] at z
      cases z
      rw [hb]
      exact upd_same
    · exact (upd_ne hb).trans (h.2 _ _ z (by simpa using hb))
end
end K18


namespace K18
theorem abc_at {i : Int} (h0 : 0 ≤ i) (h1 : i < 3) : ∃ c : Nat, atI ("abc" : Str).cps.toList i = some c ∧ (⟨#[c]⟩ : Str) ∈ (["a", "b", "c"] : List Str) := by
  obtain rfl | rfl | rfl : i = 0 ∨ i = 1 ∨ i = 2 := by omega
  · exact ⟨97, by kernel_rfl, by decide +kernel⟩
  · exact ⟨98, by kernel_rfl, by decide +kernel⟩
  · exact ⟨99, by kernel_rfl, by decide +kernel⟩
section
variable {P : Program} {w : World} {K : PySem.W.Frag} {mg : Str → Option Value} {base : Heap} {f : Addr} {cdv : Value} {A : Around} {outer : List Env} {s : Shared} {HE : Hp} {E : XK}
theorem bl_step (T : Tx K mg) (c__law_roll : CalX P w K mg base 1 "_law_roll" spRoll []) (c__law_at : CalX P w K mg base 1 "_law_at" spAt []) (m_Mover_set_way : MetX P w K mg base 3 (He.ga K "Mover") "set_way" (spSetWay K) [])
    (m_Mover_go_to : MetX P w K mg base 4 (He.ga K "Mover") "go_to" (spGo K) []) (m_Mover_tick : MetX P w K mg base 2 (He.ga K "Mover") "tick" (spTick K) []) (m_Mover_moving : MetX P w K mg base 1 (He.ga K "Mover") "moving" (spMoving K) [])
    (m_Mover_value_now : MetX P w K mg base 3 (He.ga K "Mover") "value_now" (spNow K) []) (hr : Room 6 (A.deeper (envOfC "law" (defScope s_law) s.heap.objs.size f cdv))) :
    ∃ t, PSs (lcx P w K mg base f cdv A outer s HE E) bd_step t ∧ ∀ (D : Ends) (H0 H : Hp) (σ : L2.St) (d m dv dp dw wa ra sa : Addr) (M : Mv), Sl σ d m wa ra sa M.t →
      LwAt K H0 H d m dv dp dw wa ra sa M → (∀ σ' H' ra' M', Sl σ' d m wa ra' sa M'.t → LwAt K H0 H' d m dv dp dw wa ra' sa M' → D.nx σ' H') → t D σ H := by
  obtain ⟨t1, p_set, h_set⟩ := bl_set (f := f) (cdv := cdv) (A := A) (outer := outer) (s := s) (HE := HE) (E := E) T c__law_roll m_Mover_set_way hr
  obtain ⟨t2, p_go, h_go⟩ := bl_go (f := f) (cdv := cdv) (A := A) (outer := outer) (s := s) (HE := HE) (E := E) T c__law_roll c__law_at m_Mover_go_to hr
  obtain ⟨t3, p_tick, h_tick⟩ := bl_tick (f := f) (cdv := cdv) (A := A) (outer := outer) (s := s) (HE := HE) (E := E) T c__law_roll m_Mover_tick hr
  obtain ⟨t4, p_chk, h_chk⟩ := bl_chk (f := f) (cdv := cdv) (A := A) (outer := outer) (s := s) (HE := HE) (E := E) T c__law_at m_Mover_moving m_Mover_value_now hr
  refine ⟨_, (pss_cons (ps_asg (pe_tup (pa_cons (pe_cX c__law_roll hr (by decide) rfl paX (pa_cons (pv 1) (pa_cons pe_int pa_nil))) (pa_cons (pe_ix ix_str pe_str (pe_cX c__law_roll hr (by decide) rfl paX (pa_cons (pv 1) (pa_cons pe_int pa_nil))) (fun _ _ => rfl)) (pa_cons (pe_op op_sub (pe_cX c__law_roll hr (by decide) rfl paX (pa_cons (pv 1) (pa_cons pe_int pa_nil))) pe_int) pa_nil)))) (pg_tupK (K := K) rfl (by rfl) (pgs_cons (pg_name (i := 8) sc_law.nd rfl (Or.inl rfl)) (pgs_cons (pg_name (i := 9) sc_law.nd rfl (Or.inr rfl)) (pgs_cons (pg_name (i := 10) sc_law.nd rfl (Or.inl rfl)) pgs_nil)))))
  (pss_cons (ps_if (pt_cmpR op_eq (pv 8) pe_int (nomark _)) p_set (pss_one (ps_if (pt_cmpR op_lt (pv 8) pe_int (nomark _)) p_go p_tick)))
  p_chk)), ?_⟩
  rintro D H0 H σ d m dv dp dw wa ra sa M ⟨sc, u7, u8, u9, u10, u11, u12, u13, u14, u15, u16, u17, u18, u19, u20, u21, u22, u23, u24, u25, u26, rfl⟩ lw kk
  walk_at "go"
  refine lw_roll lw (by decide) (by decide) fun r1 H1 r10 r11 lw1 _ => ?_
  walk_at "go"
  refine lw_roll lw1 (by decide) (by decide) fun r2 H2 r20 r21 lw2 _ => ?_
  obtain ⟨c, ec, nm⟩ := abc_at r20 r21
  refine g_ixS (szl (Nat.le_of_ble_eq_true rfl)) ec ?_
  walk_at "go"
  refine lw_roll lw2 (by decide) (by decide) fun r3 H3 r30 r31 lw3 _ => ?_
  walk_at "go"
  refine ⟨szl (Nat.le_of_ble_eq_true rfl), fun tp np => ?_⟩
  have lw4 := lw3.same (Kp.to_same (.new .refl np) : Same H3 (upd H3 tp (.tup [.int r1, .str ⟨#[c]⟩, .int (r3 - 100)])))
  walk_at "go"
  have post : ∀ σ' H' ra' M', Sl σ' d m wa ra' sa M'.t → LwAt K H0 H' d m dv dp dw wa ra' sa M' → t4 D σ' H' := fun σ' H' ra' M' h1 h2 => h_chk D H0 H' σ' d m dv dp dw wa ra' sa M' h1 h2 fun σ2 H2 h3 h4 => kk σ2 H2 ra' M' h3 h4
  refine ifP (fun hq => ?_) (fun hq => ?_)
  · exact h_set _ H0 _ d m dv dp dw wa ra sa M _ _ _ _ _ _ _ _ _ _ _ _ _ _ _ _ _ _ _ _ _ nm lw4 post
  · walk_at "go"
    refine ifP (fun hq2 => ?_) (fun hq2 => ?_)
    · exact h_go _ H0 _ d m dv dp dw wa ra sa M _ _ _ _ _ _ _ _ _ _ _ _ _ _ _ _ _ _ _ _ _ nm lw4 post
    · exact h_tick _ H0 _ d m dv dp dw wa ra sa M _ _ _ _ _ _ _ _ _ _ _ _ _ _ _ _ _ _ _ _ _ lw4 post
end
end K18


namespace K18
def bd_sh : List Stmt := bd_row.drop 3
def Sa (σ : L2.St) : Prop := ∃ (u0 u1 u2 u3 u4 u5 u6 u7 u8 u9 u10 u11 u12 u13 u14 u15 u16 u17 u18 u19 u20 u21 u22 u23 u24 u25 u26 : Option V), σ = [u0, u1, u2, u3, u4, u5, u6, u7, u8, u9, u10, u11, u12, u13, u14, u15, u16, u17, u18, u19, u20, u21, u22, u23, u24, u25, u26]
section
variable {P : Program} {w : World} {K : PySem.W.Frag} {mg : Str → Option Value} {base : Heap} {f : Addr} {cdv : Value} {A : Around} {outer : List Env} {s : Shared} {HE : Hp} {E : XK}
theorem bl_sh (T : Tx K mg) (c_share_of : CalX P w K mg base 1 "share_of" spShare []) (hr : Room 6 (A.deeper (envOfC "law" (defScope s_law) s.heap.objs.size f cdv))) :
    ∃ t, PSs (lcx P w K mg base f cdv A outer s HE E) bd_sh t ∧ ∀ (D : Ends) (H : Hp) (a : Addr) (r : Row) (u0 u1 u2 u3 u4 u5 u6 u7 u8 u9 u10 u11 u12 u13 u14 u15 u16 u17 u19 u20 u21 u22 u23 u24 u25 u26 : Option V), RowAt H a r → RowOk r →
      (∀ σ' H', Sa σ' → Same H H' → D.nx σ' H') → t D [u0, u1, u2, u3, u4, u5, u6, u7, u8, u9, u10, u11, u12, u13, u14, u15, u16, u17, some (.ref a), u19, u20, u21, u22, u23, u24, u25, u26] H := by
  refine ⟨_, (pss_one (ps_if (pt_cmpR op_gt (pe_ix (ix_tupK (K := K) rfl) (pv 18) pe_int (fun _ _ => rfl)) pe_int (nomark _)) (pss_cons (ps_set (i := 21) sc_law.nd rfl (Or.inr rfl) (pe_lc (own := [("gone", 24)]) (g := gName 24) (tt := tYes) rfl sc_law.nd (pi_range1 (by rfl) T.b_range (pa_cons (pe_op op_add (pe_ix (ix_tupK (K := K) rfl) (pv 18) pe_int (fun _ _ => rfl)) pe_int) pa_nil)) (blkOk_by (own := [("gone", 24)]) (N := sl_law) (sc := defScope s_law) (by decide +kernel)) (fun _ _ _ _ _ => (pg_name (i := 24) sc_law.nd rfl (Or.inl rfl))) (fun _ _ _ _ _ => pts_nil) (fun _ _ _ _ _ => (pe_cX c_share_of hr (by decide) rfl passL (pa_cons (pv 24) (pa_cons (pe_ix (ix_tupK (K := K) rfl) (pv 18) pe_int (fun _ _ => rfl)) (pa_cons (pe_ix (ix_tupK (K := K) rfl) (pv 18) pe_int (fun _ _ => rfl)) pa_nil)))))))
  (pss_one (ps_if (PW.pt (pw_or (pt_cmpR (op_neDK (K := K) rfl (hU_of hr)) (pe_lc (own := [("k", 25)]) (g := gName 25) rfl sc_law.nd (pi_range1 (by rfl) T.b_range (pa_cons (pe_ix (ix_tupK (K := K) rfl) (pv 18) pe_int (fun _ _ => rfl)) pa_nil)) (blkOk_by (own := [("k", 25)]) (N := sl_law) (sc := defScope s_law) (by decide +kernel)) (fun _ _ _ _ _ => (pg_name (i := 25) sc_law.nd rfl (Or.inl rfl))) (fun _ _ _ _ _ => (pts_one (pt_cmpR op_gt (pe_op op_mul (pe_ix (ix_tupK (K := K) rfl) (pe_ix (ix_listK (K := K) rfl) (pv 21) (pv 25) (fun _ _ => rfl)) pe_int (fun _ _ => rfl)) (pe_ix (ix_tupK (K := K) rfl) (pe_ix (ix_listK (K := K) rfl) (pv 21) (pe_op op_add (pv 25) pe_int) (fun _ _ => rfl)) pe_int (fun _ _ => rfl))) (pe_op op_mul (pe_ix (ix_tupK (K := K) rfl) (pe_ix (ix_listK (K := K) rfl) (pv 21) (pe_op op_add (pv 25) pe_int) (fun _ _ => rfl)) pe_int (fun _ _ => rfl)) (pe_ix (ix_tupK (K := K) rfl) (pe_ix (ix_listK (K := K) rfl) (pv 21) (pv 25) (fun _ _ => rfl)) pe_int (fun _ _ => rfl))) (nomark _)))) (fun _ _ _ _ _ => (pv 25))) (pe_lst pa_nil) (nomark _)) (pw_or (pt_cmpR op_ne (pe_ix (ix_tupK (K := K) rfl) (pe_ix (ix_listK (K := K) rfl) (pv 21) pe_int (fun _ _ => rfl)) pe_int (fun _ _ => rfl)) pe_int (nomark _)) (pw_or1 (pt_cmpR op_ne (pe_ix (ix_tupK (K := K) rfl) (pe_ix (ix_listK (K := K) rfl) (pv 21) (pe_ix (ix_tupK (K := K) rfl) (pv 18) pe_int (fun _ _ => rfl)) (fun _ _ => rfl)) pe_int (fun _ _ => rfl)) (pe_ix (ix_tupK (K := K) rfl) (pe_ix (ix_listK (K := K) rfl) (pv 21) (pe_ix (ix_tupK (K := K) rfl) (pv 18) pe_int (fun _ _ => rfl)) (fun _ _ => rfl)) pe_int (fun _ _ => rfl)) (nomark _)))))) (pss_one (ps_ret pe_bl)) pss_nil))) pss_nil)), ?_⟩
  intro D H a r u0 u1 u2 u3 u4 u5 u6 u7 u8 u9 u10 u11 u12 u13 u14 u15 u16 u17 u19 u20 u21 u22 u23 u24 u25 u26 ha ⟨l0, l1, wok⟩ kk
  unfold RowAt at ha
  obtain ⟨rf_, ra_, rs_, n, way⟩ := r
  dsimp only at ha l0 l1 wok
  walk_at "go"
  refine ifP (fun pos => ?_) (fun pos => ?_)
  rotate_left
  · walk_at "go"
    exact kk _ _ ⟨_, _, _, _, _, _, _, _, _, _, _, _, _, _, _, _, _, _, _, _, _, _, _, _, _, _, _, rfl⟩ (Same.refl H)
  walk_at "go"
  refine r_lcrT (by omega) (by omega) (fun _ => true) (fun v => match v with | .int g => [.int (shareOf g n way).1, .int (shareOf g n way).2] | _ => []) (fun x hx H' s' => an_yes) (fun x hx _ H' s' R hR => ?_) fun D1 H1 ps n1 s1 h1 pp => ?_
  · obtain ⟨i, hi, rfl⟩ := rngV_mem hx
    have ha' := s' _ _ ha
    walk_at "go"
    exact ⟨_, n, way, rfl, by omega, by omega, l1, hR⟩
  have el : (rngV (n + 1).toNat).filter (fun _ => true) = rngV (n + 1).toNat := List.filter_eq_self.mpr fun _ _ => rfl
  rw [el] at pp
  have ha1 := s1 _ _ ha
  have sh : ∀ i : Nat, (i : Int) ≤ n → ∃ t, atI (ps.map V.ref) (i : Int) = some (.ref t) ∧ ∀ H', Same H1 H' → H' t = some (.tup [.int (shareOf i n way).1, .int (shareOf i n way).2]) := fun i hi => by
    obtain ⟨t, ht, _, _, q⟩ := paired_get pp (rngV_at (n := (n + 1).toNat) (i := i) (by omega))
    exact ⟨t, atI_nat (by rw [List.getElem?_map, ht]; rfl), fun H' s => s _ _ q⟩
  walk_at "go"
  refine r_lcrP (by omega) (by omega) (fun _ => false) id (fun x hx D2 l hD2 => ?_) (fun x hx hp => by cases hp) fun D2 n2 => ?_
  · obtain ⟨i, hi, rfl⟩ := rngV_mem hx
    have hi' : (i : Int) < n := by omega
    have sx : Same H1 (upd H1 D2 (.lst l)) := Kp.to_same (.new .refl hD2)
    have h1x := sx _ _ h1
    obtain ⟨t, et, ht⟩ := sh i (by omega)
    obtain ⟨t2, et2, ht2⟩ := sh (i + 1) (by omega)
    have et2 : atI (ps.map V.ref) ((i : Int) + 1) = some (.ref t2) := et2
    have ht := ht _ sx
    have ht2 := ht2 _ sx
    have ei : ((i + 1 : Nat) : Int) = (i : Int) + 1 := rfl
    rw [ei] at ht2
    obtain ⟨a0, a1, a2, a3⟩ := share_fact (g := i) (n := n) (w := way) (by omega) (by omega) pos l1
    obtain ⟨b0, b1, b2, b3⟩ := share_fact (g := (i : Int) + 1) (n := n) (w := way) (by omega) (by omega) pos l1
    have gr := share_grows (k := (i : Int)) (n := n) (w := way) (by omega) hi' l1
    generalize (shareOf (i : Int) n way).1 = x1 at *
    generalize (shareOf (i : Int) n way).2 = x2 at *
    generalize (shareOf ((i : Int) + 1) n way).1 = y1 at *
    generalize (shareOf ((i : Int) + 1) n way).2 = y2 at *
    intro R hR
    generalize upd H1 D2 (.lst l) = Hx at *
    clear sh pp
    walk_at "go"
    refine g_ixL (SqL.of h1x) et ?_
    walk_at "go"
    refine g_ixL (SqL.of h1x) et2 ?_
    walk_at "go"
    refine g_ixL (SqL.of h1x) et2 ?_
    walk_at "go"
    refine g_ixL (SqL.of h1x) et ?_
    walk_at "go"
    have e : decide (y1 * x2 < x1 * y2) = false := decide_eq_false (by omega)
    rw [e]
    walk_at "go"
    exact hR
  · have e0 : List.map id (List.filter (fun _ => false) (rngV n.toNat)) = ([] : List Int).map V.int := by
      rw [List.filter_eq_nil_iff.mpr fun _ _ => Bool.false_ne_true]
      rfl
    rw [e0]
    walk_at "go"
    refine ⟨Nat.zero_le _, fun p np => ?_⟩
    have npD : D2 ≠ p := (upd_free np).1.symm
    refine g_neLI (l := []) (m := []) (SqL.of ((upd_ne npD).trans upd_same)) (SqL.of upd_same) ?_
    walk_at "go"
    refine ifNf rfl ?_
    have s2 : Same H1 (upd (upd H1 D2 (.lst (([] : List Int).map V.int))) p (.lst [])) := Kp.to_same (.new (.new .refl n2) np)
    generalize upd (upd H1 D2 (.lst (([] : List Int).map V.int))) p (.lst []) = H3 at s2 ⊢
    have h3 := s2 _ _ h1
    have ha3 := s2 _ _ ha1
    obtain ⟨t0, et0, ht0⟩ := sh 0 (by omega)
    have et0 : atI (ps.map V.ref) 0 = some (.ref t0) := et0
    have ht0 := ht0 _ s2
    obtain ⟨tn, etn, htn⟩ := sh n.toNat (by omega)
    have en : ((n.toNat : Nat) : Int) = n := by omega
    rw [en] at etn htn
    have htn := htn _ s2
    obtain ⟨z1, z2⟩ := share_ends (n := n) (w := way) pos
    have e00 : ((0 : Nat) : Int) = 0 := rfl
    rw [e00, z1] at ht0
    rw [z2] at htn
    walk_at "go"
    refine g_ixL (SqL.of h3) et0 ?_
    walk_at "go"
    refine ifNf rfl ?_
    walk_at "go"
    refine g_ixL (SqL.of h3) etn ?_
    walk_at "go"
    refine g_ixL (SqL.of h3) etn ?_
    walk_at "go"
    refine ifNf rfl ?_
    walk_at "go"
    exact kk _ _ ⟨_, _, _, _, _, _, _, _, _, _, _, _, _, _, _, _, _, _, _, _, _, _, _, _, _, _, _, rfl⟩ (fun b o z => s2 _ _ (s1 _ _ z))
end
end K18


namespace K18
section
variable {P : Program} {w : World} {K : PySem.W.Frag} {mg : Str → Option Value} {base : Heap} {f : Addr} {cdv : Value} {A : Around} {outer : List Env} {s : Shared} {HE : Hp} {E : XK}
theorem dice_roll {H0 H : Hp} {d : Addr} {m' : Int} {Q : VK} {E : XK} (h : DiceAt H d) (kp : Kp [d] H0 H) (m0 : 0 < m') (m1 : m' ≤ 100000000) (q : ∀ (r : Int) (H' : Hp), 0 ≤ r → r < m' → DiceAt H' d → Kp [d] H0 H' → Kp [d] H H' → Q (.int r) H') : spRoll [.ref d, .int m'] H Q E :=
  roll_ok h m0 m1 fun r x n k r0 r1 => q r _ r0 r1 ⟨x, n, k, upd_same⟩ (.mut kp (by simp)) (.mut .refl (by simp))
theorem bl_row (T : Tx K mg) (c__law_roll : CalX P w K mg base 1 "_law_roll" spRoll []) (c__law_at : CalX P w K mg base 1 "_law_at" spAt []) (c_share_of : CalX P w K mg base 1 "share_of" spShare []) (k_Path : MakX P w K mg base 1 "Path" (He.ga K "Path") (spPath K) [])
    (m_Path_is_over : MetX P w K mg base 1 (He.ga K "Path") "is_over" (spOver K) []) (m_Path_value_at : MetX P w K mg base 2 (He.ga K "Path") "value_at" (spValAt K) []) (hr : Room 6 (A.deeper (envOfC "law" (defScope s_law) s.heap.objs.size f cdv))) :
    ∃ t, PSs (lcx P w K mg base f cdv A outer s HE E) bd_row t ∧ ∀ (D : Ends) (H0 H : Hp) (d : Addr) (u0 u2 u3 u4 u5 u6 u7 u8 u9 u10 u11 u12 u13 u14 u15 u16 u17 u18 u19 u20 u21 u22 u23 u24 u25 u26 : Option V), DiceAt H d → Kp [d] H0 H →
      (∀ σ' H', Sa σ' → DiceAt H' d → Kp [d] H0 H' → D.nx σ' H') → t D [u0, some (.ref d), u2, u3, u4, u5, u6, u7, u8, u9, u10, u11, u12, u13, u14, u15, u16, u17, u18, u19, u20, u21, u22, u23, u24, u25, u26] H := by
  obtain ⟨t1, p_sh, h_sh⟩ := bl_sh (f := f) (cdv := cdv) (A := A) (outer := outer) (s := s) (HE := HE) (E := E) T c_share_of hr
  refine ⟨_, (pss_cons (ps_set (i := 18) sc_law.nd rfl (Or.inr rfl) (pe_tup (pa_cons (pe_op op_sub (pe_cX c__law_roll hr (by decide) rfl paX (pa_cons (pv 1) (pa_cons pe_int pa_nil))) pe_int) (pa_cons (pe_op op_sub (pe_cX c__law_roll hr (by decide) rfl paX (pa_cons (pv 1) (pa_cons pe_int pa_nil))) pe_int) (pa_cons (pe_cX c__law_roll hr (by decide) rfl paX (pa_cons (pv 1) (pa_cons pe_int pa_nil))) (pa_cons (pe_cX c__law_roll hr (by decide) rfl paX (pa_cons (pv 1) (pa_cons pe_int pa_nil))) (pa_cons (pe_ix (ix_listK (K := K) rfl) (pe_lst (pa_cons pe_str (pa_cons pe_str (pa_cons pe_str (pa_cons pe_str pa_nil))))) (pe_cX c__law_roll hr (by decide) rfl paX (pa_cons (pv 1) (pa_cons pe_int pa_nil))) (fun _ _ => rfl)) pa_nil)))))))
  (pss_cons (ps_set (i := 19) sc_law.nd rfl (Or.inl rfl) (pe_mkX k_Path hr (by decide) rfl paX (pa_cons (pe_ix (ix_tupK (K := K) rfl) (pv 18) pe_int (fun _ _ => rfl)) (pa_cons (pe_ix (ix_tupK (K := K) rfl) (pv 18) pe_int (fun _ _ => rfl)) (pa_cons (pe_ix (ix_tupK (K := K) rfl) (pv 18) pe_int (fun _ _ => rfl)) (pa_cons (pe_ix (ix_tupK (K := K) rfl) (pv 18) pe_int (fun _ _ => rfl)) (pa_cons (pe_ix (ix_tupK (K := K) rfl) (pv 18) pe_int (fun _ _ => rfl)) pa_nil)))))))
  (pss_cons (ps_for poX rfl (pi_range1 (by rfl) T.b_range (pa_cons pe_int pa_nil)) (pg_name (i := 20) sc_law.nd rfl (Or.inl rfl)) (pss_one (ps_if (PW.pt (pw_or (pt_cmpR op_ne (pe_mX m_Path_value_at hr (by decide) paX (pv 19) (pa_cons (pv 20) pa_nil)) (pe_cX c__law_at hr (by decide) rfl paX (pa_cons (pv 18) (pa_cons (pv 20) pa_nil))) (nomark _)) (pw_or1 (pt_cmpR op_ne (pe_mX m_Path_is_over hr (by decide) paX (pv 19) (pa_cons (pv 20) pa_nil)) (pe_cmpR op_ge (pv 20) (pe_op op_add (pe_ix (ix_tupK (K := K) rfl) (pv 18) pe_int (fun _ _ => rfl)) (pe_ix (ix_tupK (K := K) rfl) (pv 18) pe_int (fun _ _ => rfl))) (nomark _)) (nomark _))))) (pss_one (ps_ret pe_bl)) pss_nil)))
  p_sh))), ?_⟩
  intro D H0 H d u0 u2 u3 u4 u5 u6 u7 u8 u9 u10 u11 u12 u13 u14 u15 u16 u17 u18 u19 u20 u21 u22 u23 u24 u25 u26 hd kp kk
  walk_at "go"
  refine dice_roll hd kp (by decide) (by decide) fun r1 H1 r10 r11 hd1 kp1 _ => ?_
  walk_at "go"
  refine dice_roll hd1 kp1 (by decide) (by decide) fun r2 H2 r20 r21 hd2 kp2 _ => ?_
  walk_at "go"
  refine dice_roll hd2 kp2 (by decide) (by decide) fun r3 H3 r30 r31 hd3 kp3 _ => ?_
  walk_at "go"
  refine dice_roll hd3 kp3 (by decide) (by decide) fun r4 H4 r40 r41 hd4 kp4 _ => ?_
  walk_at "go"
  refine ⟨szl (Nat.le_of_ble_eq_true rfl), fun p4 n4 => ?_⟩
  have hd4' : DiceAt (upd H4 p4 (.lst [.str "even", .str "slow", .str "fast", .str "both"])) d := by
    obtain ⟨x, n, k, z⟩ := hd4
    exact ⟨x, n, k, (upd_ne (ne_of_none' n4 z)).trans z⟩
  walk_at "go"
  refine dice_roll hd4' (.new kp4 n4) (by decide) (by decide) fun r5 H5 r50 r51 hd5 kp5 kp45 => ?_
  obtain ⟨wy, wok, ewy⟩ := four_ways r50 r51
  have h4 : H5 p4 = some (.lst [.str "even", .str "slow", .str "fast", .str "both"]) := by
    obtain ⟨x, n, k, z⟩ := hd4
    exact kp45 _ _ upd_same (by simpa using (ne_of_none' n4 z).symm)
  refine g_ixL (SqL.of h4) ewy ?_
  walk_at "go"
  refine ⟨szl (Nat.le_of_ble_eq_true rfl), fun a na => ?_⟩
  have ra : RowAt (upd H5 a (.tup [.int (r1 - 25), .int (r2 - 25), .int r3, .int r4, .str wy])) a ⟨r1 - 25, r2 - 25, r3, r4, wy⟩ := upd_same
  have hd6 : DiceAt (upd H5 a (.tup [.int (r1 - 25), .int (r2 - 25), .int r3, .int r4, .str wy])) d := by
    obtain ⟨x, n, k, z⟩ := hd5
    exact ⟨x, n, k, (upd_ne (ne_of_none' na z)).trans z⟩
  have kp6 : Kp [d] H0 (upd H5 a (.tup [.int (r1 - 25), .int (r2 - 25), .int r3, .int r4, .str wy])) := .new kp5 na
  generalize upd H5 a (.tup [.int (r1 - 25), .int (r2 - 25), .int r3, .int r4, .str wy]) = H6 at ra hd6 kp6 ⊢
  have ra' := ra
  unfold RowAt at ra'
  walk_at "go"
  intro x dy nx nd nxd
  refine ⟨x, dy, ⟨r1 - 25, r2 - 25, r3, r4, wy⟩, rfl, upd_same, fun _ => ⟨rfl, ?_⟩, fun z => absurd ⟨r40, wok⟩ z⟩
  have s7 : Same H6 (upd (upd (upd H6 dy (.own x)) x (.ins (He.ga K "Path") dy [])) x (.ins (He.ga K "Path") dy (fl_Path (.int (r1 - 25)) (.int (r2 - 25)) (.int r3) (.int r4) (.str wy)))) := Kp.to_same (.own (.own (.new .refl nd) nx) nx)
  have pa : PathAt K (upd (upd (upd H6 dy (.own x)) x (.ins (He.ga K "Path") dy [])) x (.ins (He.ga K "Path") dy (fl_Path (.int (r1 - 25)) (.int (r2 - 25)) (.int r3) (.int r4) (.str wy)))) x ⟨r1 - 25, r2 - 25, r3, r4, wy⟩ := ⟨dy, upd_same⟩
  dsimp only
  generalize upd (upd (upd H6 dy (.own x)) x (.ins (He.ga K "Path") dy [])) x (.ins (He.ga K "Path") dy (fl_Path (.int (r1 - 25)) (.int (r2 - 25)) (.int r3) (.int r4) (.str wy))) = H7 at s7 pa ⊢
  have ra7 : RowAt H7 a ⟨r1 - 25, r2 - 25, r3, r4, wy⟩ := s7 _ _ ra
  have hd7 : DiceAt H7 d := let ⟨x, n, k, z⟩ := hd6; ⟨x, n, k, s7 _ _ z⟩
  have kp7 : Kp [d] H0 H7 := kp6.trans (.same s7)
  clear ra ra' hd6 kp6 s7
  obtain ⟨py, pa⟩ := pa
  generalize er : (⟨r1 - 25, r2 - 25, r3, r4, wy⟩ : Row) = r at ra7 pa
  have l0 : 0 ≤ r.length := by rw [← er]; exact r40
  have l1 : r.length ≤ 10000 := by rw [← er]; show r4 ≤ 10000; omega
  have wk : WayOk r.way := by rw [← er]; exact wok
  walk_at "go"
  refine r_forr (by decide) (by decide) (fun i σ H' => (∃ u20, σ = [u0, some (.ref d), u2, u3, u4, u5, u6, u7, u8, u9, u10, u11, u12, u13, u14, u15, u16, u17, some (.ref a), some (.ref x), u20, u21, u22, u23, u24, u25, u26]) ∧ Same H7 H') ⟨⟨_, rfl⟩, Same.refl H7⟩ (fun i σ H' hi h => ?_) (fun σ H' h => ?_)
  · obtain ⟨⟨u, rfl⟩, s8⟩ := h
    have pa8 := s8 _ _ pa
    have ra8 : RowAt H' a r := s8 _ _ ra7
    walk_at "go"
    refine ⟨x, r, i, rfl, ⟨py, pa8⟩, l0, l1, fun H9 s9 => ?_⟩
    have ra9 : RowAt H9 a r := s9 _ _ ra8
    walk_at "go"
    refine ⟨a, r, i, rfl, ra9, l0, l1, wk, fun H10 s10 => ?_⟩
    have pa10 := s10 _ _ (s9 _ _ pa8)
    have ra10 : RowAt H10 a r := s10 _ _ ra9
    walk_at "go"
    refine ifNf rfl ?_
    walk_at "go"
    refine ⟨x, r, i, rfl, ⟨py, pa10⟩, ?_⟩
    unfold RowAt at ra10
    walk_at "go"
    refine ifNf rfl ?_
    walk_at "go"
    exact ⟨⟨_, rfl⟩, fun b o z => s10 _ _ (s9 _ _ (s8 _ _ z))⟩
  · obtain ⟨⟨u, rfl⟩, s8⟩ := h
    refine h_sh _ _ a r _ _ _ _ _ _ _ _ _ _ _ _ _ _ _ _ _ _ _ _ _ _ _ _ _ _ (s8 _ _ ra7) ⟨l0, l1, wk⟩ fun σ' H9 h9 s9 => kk σ' H9 h9 ?_ (kp7.trans (.same fun b o z => s9 _ _ (s8 _ _ z)))
    obtain ⟨x, n, k, z⟩ := hd7
    exact ⟨x, n, k, s9 _ _ (s8 _ _ z)⟩
end
end K18


namespace K18
section
variable {P : Program} {w : World} {K : PySem.W.Frag} {mg : Str → Option Value} {base : Heap} {f : Addr} {cdv : Value} {A : Around} {outer : List Env} {s : Shared} {HE : Hp} {E : XK}
theorem ok0 : MvOk ⟨[], [], [], 0⟩ := ⟨.nil, .nil, .nil, fun _ h => (by cases h), fun _ h => (by cases h), fun _ h => (by cases h), fun _ h => (by cases h), fun _ h => (by cases h), fun _ _ => rfl⟩
theorem bl_dice (T : Tx K mg) (c__law_roll : CalX P w K mg base 1 "_law_roll" spRoll []) (c__law_at : CalX P w K mg base 1 "_law_at" spAt []) (c_share_of : CalX P w K mg base 1 "share_of" spShare []) (k_Path : MakX P w K mg base 1 "Path" (He.ga K "Path") (spPath K) [])
    (k_Mover : MakX P w K mg base 1 "Mover" (He.ga K "Mover") (spMover K) []) (m_Path_is_over : MetX P w K mg base 1 (He.ga K "Path") "is_over" (spOver K) []) (m_Path_value_at : MetX P w K mg base 2 (He.ga K "Path") "value_at" (spValAt K) [])
    (m_Mover_set_way : MetX P w K mg base 3 (He.ga K "Mover") "set_way" (spSetWay K) []) (m_Mover_go_to : MetX P w K mg base 4 (He.ga K "Mover") "go_to" (spGo K) []) (m_Mover_tick : MetX P w K mg base 2 (He.ga K "Mover") "tick" (spTick K) [])
    (m_Mover_moving : MetX P w K mg base 1 (He.ga K "Mover") "moving" (spMoving K) []) (m_Mover_value_now : MetX P w K mg base 3 (He.ga K "Mover") "value_now" (spNow K) []) (hr : Room 6 (A.deeper (envOfC "law" (defScope s_law) s.heap.objs.size f cdv))) :
    ∃ t, PSs (lcx P w K mg base f cdv A outer s HE E) bd_dice t ∧ ∀ (D : Ends) (H : Hp) (d : Addr) (u0 u2 u3 u4 u5 u6 u7 u8 u9 u10 u11 u12 u13 u14 u15 u16 u17 u18 u19 u20 u21 u22 u23 u24 u25 u26 : Option V), DiceAt H d →
      (∀ σ' H', Sa σ' → DiceAt H' d → Kp [d] H H' → D.nx σ' H') → t D [u0, some (.ref d), u2, u3, u4, u5, u6, u7, u8, u9, u10, u11, u12, u13, u14, u15, u16, u17, u18, u19, u20, u21, u22, u23, u24, u25, u26] H := by
  obtain ⟨t1, p_step, h_step⟩ := bl_step (f := f) (cdv := cdv) (A := A) (outer := outer) (s := s) (HE := HE) (E := E) T c__law_roll c__law_at m_Mover_set_way m_Mover_go_to m_Mover_tick m_Mover_moving m_Mover_value_now hr
  obtain ⟨t2, p_row, h_row⟩ := bl_row (f := f) (cdv := cdv) (A := A) (outer := outer) (s := s) (HE := HE) (E := E) T c__law_roll c__law_at c_share_of k_Path m_Path_is_over m_Path_value_at hr
  refine ⟨_, (pss_cons (ps_asg (pe_tup (pa_cons (pe_mkX0 k_Mover hr (by decide) rfl paX) (pa_cons pe_dnewK (pa_cons pe_dnewK (pa_cons pe_dnewK (pa_cons pe_int pa_nil)))))) (pg_tupK (K := K) rfl (by rfl) (pgs_cons (pg_name (i := 2) sc_law.nd rfl (Or.inl rfl)) (pgs_cons (pg_name (i := 3) sc_law.nd rfl (Or.inl rfl)) (pgs_cons (pg_name (i := 4) sc_law.nd rfl (Or.inr rfl)) (pgs_cons (pg_name (i := 5) sc_law.nd rfl (Or.inl rfl)) (pgs_cons (pg_name (i := 6) sc_law.nd rfl (Or.inr rfl)) pgs_nil)))))))
  (pss_cons (ps_for poX rfl (pi_range1 (by rfl) T.b_range (pa_cons (pe_cX c__law_roll hr (by decide) rfl paX (pa_cons (pv 1) (pa_cons pe_int pa_nil))) pa_nil)) (pg_name (i := 7) sc_law.nd rfl (Or.inl rfl)) p_step)
  p_row)), ?_⟩
  intro D H d u0 u2 u3 u4 u5 u6 u7 u8 u9 u10 u11 u12 u13 u14 u15 u16 u17 u18 u19 u20 u21 u22 u23 u24 u25 u26 hd kk
  walk_at "go"
  intro m dx nm ndx nmd
  refine ⟨m, dx, rfl, upd_same, fun dv dp dw H1 f1 f2 f3 e1 e2 e3 kp1 h1 h2 h3 h4 => ⟨rfl, ?_⟩⟩
  obtain ⟨g1, f1⟩ := upd_free f1
  obtain ⟨g1', f1⟩ := upd_free f1
  obtain ⟨g2, f2⟩ := upd_free f2
  obtain ⟨g2', f2⟩ := upd_free f2
  obtain ⟨g3, f3⟩ := upd_free f3
  obtain ⟨g3', f3⟩ := upd_free f3
  have s1 : Same H H1 := fun b o z => kp1 b o ((upd_ne (ne_of_none z nm)).trans ((upd_ne (ne_of_none z ndx)).trans z)) (by simpa using ne_of_none z nm)
  walk_at "go"
  intro wa nwa
  walk_at "go"
  intro ra nra
  walk_at "go"
  intro sa nsa
  walk_at "go"
  refine ⟨szl (Nat.le_of_ble_eq_true rfl), fun tp ntp => ?_⟩
  obtain ⟨a1, nra1⟩ := upd_free nra
  obtain ⟨b1, nsa1⟩ := upd_free nsa
  obtain ⟨b2, nsa2⟩ := upd_free nsa1
  have sx : Same H1 (upd (upd (upd (upd H1 wa (.dK [])) ra (.dK [])) sa (.dK [])) tp (.tup [.ref m, .ref wa, .ref ra, .ref sa, .int 0])) := Kp.to_same (.new (.own (.own (.own .refl nwa) nra1) nsa2) ntp)
  obtain ⟨c1, ntp1⟩ := upd_free ntp
  obtain ⟨c2, ntp2⟩ := upd_free ntp1
  obtain ⟨c3, ntp3⟩ := upd_free ntp2
  have hw : upd (upd (upd (upd H1 wa (.dK [])) ra (.dK [])) sa (.dK [])) tp (.tup [.ref m, .ref wa, .ref ra, .ref sa, .int 0]) wa = some (.dK []) := by rw [upd_ne c3.symm, upd_ne b2.symm, upd_ne a1.symm, upd_same]
  have hra : upd (upd (upd (upd H1 wa (.dK [])) ra (.dK [])) sa (.dK [])) tp (.tup [.ref m, .ref wa, .ref ra, .ref sa, .int 0]) ra = some (.dK []) := by rw [upd_ne c2.symm, upd_ne b1.symm, upd_same]
  have hsa : upd (upd (upd (upd H1 wa (.dK [])) ra (.dK [])) sa (.dK [])) tp (.tup [.ref m, .ref wa, .ref ra, .ref sa, .int 0]) sa = some (.dK []) := by rw [upd_ne c1.symm, upd_same]
  have htp : upd (upd (upd (upd H1 wa (.dK [])) ra (.dK [])) sa (.dK [])) tp (.tup [.ref m, .ref wa, .ref ra, .ref sa, .int 0]) tp = some (.tup [.ref m, .ref wa, .ref ra, .ref sa, .int 0]) := upd_same
  generalize upd (upd (upd (upd H1 wa (.dK [])) ra (.dK [])) sa (.dK [])) tp (.tup [.ref m, .ref wa, .ref ra, .ref sa, .int 0]) = H2 at sx hw hra hsa htp ⊢
  have nz : ∀ {b : Addr}, H1 b = none → H b = none := fun {b} z => by
    cases e : H b with
    | none => rfl
    | some o => rw [s1 _ _ e] at z; cases z
  have nd1 : ∀ {b c : Addr} {o : HO}, H1 b = none → H1 c = some o → b ≠ c := fun z1 z2 => (ne_of_none' z1 z2).symm
  have lw : LwAt K H H2 d m dv dp dw wa ra sa ⟨[], [], [], 0⟩ := by
    obtain ⟨x, n, k, hd⟩ := hd
    exact ⟨⟨x, n, k, sx _ _ (s1 _ _ hd)⟩, ⟨⟨dx, sx _ _ h4⟩, sx _ _ h1, ⟨[], rfl, sx _ _ h2, fun _ h => by cases h⟩, ⟨[], rfl, sx _ _ h3, fun _ h => by cases h⟩, e1, e2, e3⟩, ok0, ⟨[], rfl, hw, fun _ h => by cases h⟩, ⟨[], rfl, hra, fun _ h => by cases h⟩, hsa,
      .same fun b o z => sx _ _ (s1 _ _ z), ⟨nd1 nwa h1, nd1 nwa h2, nd1 nwa h3⟩, ⟨nd1 nra1 h1, nd1 nra1 h2, nd1 nra1 h3⟩, ⟨nd1 nsa2 h1, nd1 nsa2 h2, nd1 nsa2 h3⟩, ⟨a1.symm, b2.symm, b1.symm⟩, ⟨nm, f1, f2, f3, nz nwa, nz nra1, nz nsa2⟩⟩
  walk_at "go"
  refine lw_roll lw (by decide) (by decide) fun r H3 r0 r1 lw3 _ => ?_
  walk_at "go"
  refine r_forr r0 (by omega) (fun i σ H' => ∃ ra M, Sl σ d m wa ra sa M.t ∧ LwAt K H H' d m dv dp dw wa ra sa M) ⟨ra, _, ⟨_, _, _, _, _, _, _, _, _, _, _, _, _, _, _, _, _, _, _, _, _, rfl⟩, lw3⟩ (fun i σ H' hi h => ?_) (fun σ H' h => ?_)
  · obtain ⟨ra, M, ⟨sc, u7, u8, u9, u10, u11, u12, u13, u14, u15, u16, u17, u18, u19, u20, u21, u22, u23, u24, u25, u26, rfl⟩, lw'⟩ := h
    exact h_step _ H H' _ d m dv dp dw wa ra sa M ⟨_, _, _, _, _, _, _, _, _, _, _, _, _, _, _, _, _, _, _, _, _, rfl⟩ lw' fun σ' H' ra' M' z1 z2 => ⟨ra', M', z1, z2⟩
  · obtain ⟨ra, M, ⟨sc, u7, u8, u9, u10, u11, u12, u13, u14, u15, u16, u17, u18, u19, u20, u21, u22, u23, u24, u25, u26, rfl⟩, lw'⟩ := h
    exact h_row _ H H' d _ _ _ _ _ _ _ _ _ _ _ _ _ _ _ _ _ _ _ _ _ _ _ _ _ _ lw'.dice lw'.kp kk
end
end K18


namespace Pr
/-- a comprehension without a test, each element a new object -/
theorem r_lclN {K : PySem.W.Frag} {σ : L2.St} {H1 : Hp} {Q : VK} {a : Addr} {te : TE} {i0 : Nat} {xs : List V} (h : SqL K H1 a xs) (hz : xs.length < sizeLine) (C : HO → Prop)
    (he : ∀ x ∈ xs, ∀ H', Same H1 H' → ∀ R : VK, (∀ t o, H' t = none → C o → R (.ref t) (upd H' t o)) → te ((wipe σ [i0]).set i0 (some x)) H' R)
    (q : ∀ (D : Addr) (H' : Hp) (ps : List Addr), H1 D = none → Same H1 H' → H' D = some (.lst (ps.map V.ref)) → ps.length = xs.length → (∀ p ∈ ps, ∃ o, H' p = some o ∧ C o) → Q (.ref D) H') :
    ∃ b, V.ref a = .ref b ∧ (∃ xs, SqL K H1 b xs) ∧ ∀ D, H1 D = none → LcRun (Itl K b) (gName i0) tYes te [i0] σ H1 D Q := by
  refine ⟨a, rfl, ⟨xs, h⟩, fun D hD => ?_⟩
  refine lc_it (Qd := fun H => Q (.ref D) H) (walk_list (xs := xs)) (fun i H => ∃ ps : List Addr, Same H1 H ∧ H D = some (.lst (ps.map V.ref)) ∧ ps.length = (xs.take i).length ∧ ∀ p ∈ ps, p ≠ D ∧ ∃ o, H p = some o ∧ C o)
    ⟨[], Kp.to_same (.new .refl hD), upd_same, rfl, fun _ z => by cases z⟩ (fun i H _ ⟨_, e, _⟩ => Kp.seq (M := []) (Kp.same e) (by simp) h) (fun i x H H' hi hh y => ?_) (fun H ⟨ps, e1, e2, e3, e4⟩ => q D H ps hD e1 e2 (by rw [e3, List.take_length]) fun p hp => (e4 p hp).2)
  obtain ⟨ps, s1, hl, le, all⟩ := hh
  obtain ⟨rfl, hx⟩ := y
  show wipe ((wipe σ [i0]).set i0 (some x)) [i0] = wipe σ [i0] ∧ _
  refine ⟨wipe_set σ i0 _, ?_⟩
  unfold tYes
  dsimp only
  rw [if_pos rfl]
  refine he x (take_mem hx) _ s1 _ fun t o nt co => ?_
  have nDt : D ≠ t := ne_of_none hl nt
  have nt1 : H1 t = none := by
    cases e : H1 t with
    | none => rfl
    | some u => rw [s1 t u e] at nt; cases nt
  have lt := List.length_take_le i xs
  refine ⟨_, (upd_ne nDt).trans hl, by rw [List.length_map]; omega, ps ++ [t], fun b u e => ?_, ?_, ?_, fun p hp => ?_⟩
  · rw [upd_ne (ne_of_none e hD), upd_ne (ne_of_none e nt1)]
    exact s1 b u e
  · rw [upd_same, List.map_append]
    rfl
  · rw [take_snoc hx, List.length_append, List.length_append, le]
    rfl
  · rcases List.mem_append.mp hp with z | z
    · obtain ⟨n1, u, e, c⟩ := all p z
      exact ⟨n1, u, by rw [upd_ne n1, upd_ne (ne_of_none e nt)]; exact e, c⟩
    · rw [List.mem_singleton.mp z]
      exact ⟨nDt.symm, o, by rw [upd_ne nDt.symm, upd_same], co⟩
theorem cut_int (ns : List Int) (lo hi : Option Int) : ∃ ms : List Int, cutV (ns.map V.int) lo hi = ms.map V.int ∧ ms.length ≤ ns.length := by
  refine ⟨(ns.drop (HT.sIx (ns.map V.int).length 0 lo)).take (HT.sIx (ns.map V.int).length (ns.map V.int).length hi - HT.sIx (ns.map V.int).length 0 lo), ?_, ?_⟩
  · unfold cutV
    rw [List.map_take, List.map_drop]
  · rw [List.length_take, List.length_drop]
    omega
end Pr
namespace K18
section
variable {P : Program} {w : World} {K : PySem.W.Frag} {mg : Str → Option Value} {base : Heap}
def Dice3 (o : HO) : Prop := ∃ x n k : Int, o = .lst [.int x, .int n, .int k]
def spDice : Sp := fun vs H Q _ => ∃ c : Int, vs = [.int c] ∧ ∀ p o, H p = none → Dice3 o → Q (.ref p) (upd H p o)
theorem ok_dice (T : Tx K mg) {f : Addr} {fd : FuncData} (F : FunD K "_law_dice" "_law_dice" (defArgs s_law_dice) (defBody s_law_dice) (defScope s_law_dice) [] [] f fd) : FnOk P w K mg base (L2.CX P w) 1 f fd ["cell"] spDice := by
  refine F.ok sc_law_dice (fun vs H Q E h => ?_) (fun cdv A outer s H vs Q E hr h => ?_)
  · obtain ⟨c, rfl, _⟩ := h
    rfl
  · obtain ⟨c, rfl, kk⟩ := h
    refine ⟨_, (pss_cons (ps_if (pt_chain op_lt op_lt (pe_op op_sub pe_int pe_int) (pv 0) pe_int) (pss_one (ps_ret (pe_lst (pa_cons (pe_callB call_absN (by rfl) T.b_abs (by decide +kernel) (pa_cons (pv 0) pa_nil)) (pa_cons pe_int (pa_cons pe_int pa_nil)))))) pss_nil)
  (pss_one (ps_ret (pe_lst (pa_cons (pv 0) (pa_cons (pe_op op_add pe_int (pe_op op_mod (pe_callTy call_int1N (by rfl) T.b_int (by decide +kernel) (pa_cons (pv 0) pa_nil)) pe_int)) (pa_cons (pe_callTy call_int1N (by rfl) T.b_int (by decide +kernel) (pa_cons (pe_cmpR op_ge (pv 0) (pe_op op_pow pe_int pe_int) (nomark _)) pa_nil)) pa_nil))))))), ?_⟩
    walk_at "go"
    refine ifP (fun h1 => ?_) (fun h1 => ?_)
    · walk_at "go"
      refine ifP (fun h2 => ?_) (fun h2 => ?_)
      · walk_at "go"
        exact ⟨szl (Nat.le_of_ble_eq_true rfl), fun p hp => kk p _ hp ⟨_, _, _, rfl⟩⟩
      · walk_at "go"
        exact ⟨szl (Nat.le_of_ble_eq_true rfl), fun p hp => kk p _ hp ⟨_, _, _, rfl⟩⟩
    · walk_at "go"
      exact ⟨szl (Nat.le_of_ble_eq_true rfl), fun p hp => kk p _ hp ⟨_, _, _, rfl⟩⟩
def spRounds (K : PySem.W.Frag) : Sp := fun vs H Q _ => ∃ (a : Addr) (ns : List Int), vs = [.ref a, .int 1] ∧ SqL K H a (ns.map V.int) ∧ ns.length ≤ 10000 ∧ ∀ (D : Addr) (H' : Hp) (ps : List Addr), H D = none → Same H H' → H' D = some (.lst (ps.map V.ref)) → ps.length ≤ 10000 → (∀ p ∈ ps, DiceAt H' p) → Q (.ref D) H'
theorem ok_rounds (T : Tx K mg) (c__law_dice : CalX P w K mg base 1 "_law_dice" spDice []) {f : Addr} {fd : FuncData} (F : FunD K "_law_rounds" "_law_rounds" (defArgs s_law_rounds) (defBody s_law_rounds) (defScope s_law_rounds) [] [] f fd) : FnOk P w K mg base (L2.CX P w) 2 f fd ["script", "most"] (spRounds K) := by
  refine F.ok sc_law_rounds (fun vs H Q E h => ?_) (fun cdv A outer s H vs Q E hr h => ?_)
  · obtain ⟨a, ns, rfl, _⟩ := h
    rfl
  · obtain ⟨a, ns, rfl, ha, nl, kk⟩ := h
    refine ⟨_, (pss_cons (ps_set (i := 2) sc_law_rounds.nd rfl (Or.inl rfl) (pe_slice (sl_listK (K := K) rfl) (pv 0) po_none (po_some (pv 1))))
  (pss_cons (ps_if (pt_cmpR (op_eqDK (K := K) rfl (hU_of hr)) (pv 2) (pe_lst pa_nil) (nomark _)) (pss_one (ps_set (i := 2) sc_law_rounds.nd rfl (Or.inl rfl) (pe_lst (pa_cons pe_int pa_nil)))) pss_nil)
  (pss_one (ps_ret (pe_lc (own := [("cell", 3)]) (g := gName 3) (tt := tYes) rfl sc_law_rounds.nd (pi_listK (K := K) rfl (pv 2)) (blkOk_by (own := [("cell", 3)]) (N := sl_law_rounds) (sc := defScope s_law_rounds) (by decide +kernel)) (fun _ _ _ _ _ => (pg_name (i := 3) sc_law_rounds.nd rfl (Or.inl rfl))) (fun _ _ _ _ _ => pts_nil) (fun _ _ _ _ _ => (pe_cX c__law_dice hr (by decide) rfl passL (pa_cons (pv 3) pa_nil)))))))), ?_⟩
    walk_at "go"
    refine ⟨1, rfl, ?_⟩
    refine g_slL ha fun p np => ?_
    obtain ⟨ms, em, ml⟩ := cut_int ns none (some 1)
    rw [em]
    walk_at "go"
    refine ⟨Nat.zero_le _, fun e ne => ?_⟩
    have npe : p ≠ e := (upd_free ne).1.symm
    refine g_eqLI (l := ms) (m := []) (SqL.of ((upd_ne npe).trans upd_same)) (SqL.of upd_same) ?_
    walk_at "go"
    have s2 : Same H (upd (upd H p (.lst (ms.map V.int))) e (.lst [])) := Kp.to_same (.new (.new .refl np) ne)
    have h2 : upd (upd H p (.lst (ms.map V.int))) e (.lst []) p = some (.lst (ms.map V.int)) := (upd_ne npe).trans upd_same
    generalize upd (upd H p (.lst (ms.map V.int))) e (.lst []) = H2 at s2 h2 ⊢
    refine ifP (fun h => ?_) (fun h => ?_)
    · walk_at "go"
      refine ⟨szl (Nat.le_of_ble_eq_true rfl), fun z nz => ?_⟩
      walk_at "go"
      have s3 : Same H2 (upd H2 z (.lst [.int 0])) := Kp.to_same (.new .refl nz)
      refine r_lclN (xs := [V.int 0]) (SqL.of upd_same) (szt (Nat.le_of_ble_eq_true rfl)) Dice3 (fun x hx H' s' R hR => ?_) fun D H' ps n1 s1 h1 l1 a1 => ?_
      · rw [List.mem_singleton.mp hx]
        walk_at "go"
        exact ⟨0, rfl, hR⟩
      · refine kk D H' ps ?_ (fun b o z => s1 _ _ (s3 _ _ (s2 _ _ z))) h1 (by rw [l1]; exact Nat.le_of_ble_eq_true rfl) fun p hp => ?_
        · cases e : H D with
          | none => rfl
          | some o => rw [s3 _ _ (s2 _ _ e)] at n1; cases n1
        · obtain ⟨o, z, x, n, k, rfl⟩ := a1 p hp
          exact ⟨x, n, k, z⟩
    · walk_at "go"
      refine r_lclN (xs := ms.map V.int) (SqL.of h2) (by rw [List.length_map]; exact szt (by omega)) Dice3 (fun x hx H' s' R hR => ?_) fun D H' ps n1 s1 h1 l1 a1 => ?_
      · obtain ⟨c, _, rfl⟩ := List.mem_map.mp hx
        walk_at "go"
        exact ⟨c, rfl, hR⟩
      · refine kk D H' ps ?_ (fun b o z => s1 _ _ (s2 _ _ z)) h1 (by rw [l1, List.length_map]; omega) fun p hp => ?_
        · cases e : H D with
          | none => rfl
          | some o => rw [s2 _ _ e] at n1; cases n1
        · obtain ⟨o, z, x, n, k, rfl⟩ := a1 p hp
          exact ⟨x, n, k, z⟩
end
end K18


namespace Pr
open LamX NdefX
/-- what is known of a lambda's captured cells where the comprehension begins -/
def CapP (X : Cx) (σ : L2.St) (F : NF) (fr : List Str) (ws : List (Option V)) : Prop := ∃ js : List Nat, (∀ y ∈ F.scope.names, y.2 = .free → X.env.scope.names.lookup y.1 = some .cell ∨ X.env.scope.names.lookup y.1 = some .free) ∧ F.cl = cloFrom X.env.cells F.scope.names [] ∧ (∀ y ∈ fr, (y, NameKind.free) ∈ F.scope.names) ∧
  js.map (fun j => X.N[j]?) = fr.map some ∧ ws = js.map (slotAt σ)
theorem capP_ok {X : Cx} {pins : List (Addr × Obj)} {σ : L2.St} {s : Shared} {H : Hp} {fp : List Addr} (I : Inv X pins σ H s) (hfp : ∀ b ∈ fp, FpOk X pins H b) (F : NF) (fr : List Str) (ws : List (Option V)) (c : CapP X σ F fr ws) :
    CellsAt F.cl fr ws s.heap H ∧ ∀ y a, F.cl.lookup y = some a → a ∉ fp := by
  obtain ⟨js, hf, hc, hr, hj, hw⟩ := c
  rw [hc, hw]
  refine ⟨cells_of I (Caps.made I.ok hf hr hj), fun y a e m => ?_⟩
  have hfree : ∀ y ∈ F.scope.names, y.2 = .free → ∃ c, X.env.cells.lookup y.1 = some c := fun y hy e => (hf y hy e).elim (fun z => I.ok.has _ (.inl z)) fun z => I.ok.has _ (.inr z)
  obtain ⟨_, _, _, _, z, _⟩ := hfp a m
  exact z y a (clo_cm hfree e) rfl
end Pr
namespace Pr
/-- a comprehension whose test lets nothing through -/
theorem r_lclF {K : PySem.W.Frag} {σ : L2.St} {H1 : Hp} {Q : VK} {a : Addr} {tt : TT} {te : TE} {i0 : Nat} {xs : List V} (h : SqL K H1 a xs)
    (ht : ∀ x ∈ xs, ∀ H', Same H1 H' → ∀ R : Bool → Hp → Prop, (∀ H'', Same H' H'' → R false H'') → tt ((wipe σ [i0]).set i0 (some x)) H' R)
    (q : ∀ (D : Addr) (H' : Hp), H1 D = none → Same H1 H' → H' D = some (.lst []) → Q (.ref D) H') :
    ∃ b, V.ref a = .ref b ∧ (∃ xs, SqL K H1 b xs) ∧ ∀ D, H1 D = none → LcRun (Itl K b) (gName i0) tt te [i0] σ H1 D Q := by
  refine ⟨a, rfl, ⟨xs, h⟩, fun D hD => ?_⟩
  refine lc_it (Qd := fun H => Q (.ref D) H) (walk_list (xs := xs)) (fun i H => Same H1 H ∧ H D = some (.lst [])) ⟨Kp.to_same (.new .refl hD), upd_same⟩ (fun i H _ ⟨e, _⟩ => Kp.seq (M := []) (Kp.same e) (by simp) h) (fun i x H H' hi hh y => ?_) (fun H ⟨e1, e2⟩ => q D H hD e1 e2)
  obtain ⟨s1, hl⟩ := hh
  obtain ⟨rfl, hx⟩ := y
  show wipe ((wipe σ [i0]).set i0 (some x)) [i0] = wipe σ [i0] ∧ _
  exact ⟨wipe_set σ i0 _, ht x (take_mem hx) _ s1 _ fun H'' s2 => iteF ⟨fun b o z => s2 _ _ (s1 _ _ z), s2 _ _ hl⟩⟩
end Pr
namespace K18
open LamX NdefX
def bd_tail : List Stmt := (defBody s_law).drop 1
def lamE (i : Nat) : Expr := match nth bd_tail 1 with
  | (.Assign _ (.List es _) _) => es.getD i (.Name "" ⟨0, 0, 0, 0⟩)
  | _ => .Name "" ⟨0, 0, 0, 0⟩
def laB : Expr → Expr
  | .Lambda _ b _ _ => b
  | e => e
def laS : Expr → Scope
  | .Lambda _ _ s _ => s
  | _ => defScope s_law
def laP : Expr → Arguments
  | .Lambda p _ _ _ => p
  | _ => defArgs s_law
section
variable {P : Program} {w : World} {K : PySem.W.Frag} {mg : Str → Option Value} {base : Heap}
def spL (K : PySem.W.Frag) : List (Option V) → Hp → VK → XK → Prop := fun ws H _ E => ∃ m dv dp dw, ws = [some (.ref m)] ∧ MvAt K H m dv dp dw ⟨[], [], [], 0⟩ ∧ ∀ H', Same H H' → E (.ref (He.ga K "SizeError")) none H'
def spL0 (K : PySem.W.Frag) : List (Option V) → Hp → VK → XK → Prop := fun ws H _ E => ws = [] ∧ ∀ H', Same H H' → E (.ref (He.ga K "SizeError")) none H'
theorem paN {N : List Str} {F : NF} {f : Addr} {A : Around} {outer : List Env} {s : Shared} {H : Hp} {E : XK} : Passes (L2.CX P w) (ncx (L2.CX P w) P w K mg base N F f A outer s H E) E := passes_call (W := fun cls d _ H => E cls d H) (takes_of rfl rfl rfl rfl) fun _ _ _ _ z => z
theorem nsc0 : nscB ["fresh"] [] ["fresh"] (laS (lamE 0)) = true := by decide +kernel
theorem nsc1 : nscB ["fresh"] [] ["fresh"] (laS (lamE 1)) = true := by decide +kernel
theorem nsc2 : nscB ["fresh"] [] ["fresh"] (laS (lamE 2)) = true := by decide +kernel
theorem nsc3 : nscB [] [] [] (laS (lamE 3)) = true := by decide +kernel
theorem MvAt.ext {H H' : Hp} {m dv dp dw : Addr} {M : Mv} (h : MvAt K H m dv dp dw M) (s : ExtN H H') : MvAt K H' m dv dp dw M := by
  obtain ⟨⟨dx, ob⟩, sv, ⟨LR, er, rv, rp⟩, ⟨LW, ew, wv, wp⟩, n1, n2, n3⟩ := h
  exact ⟨⟨dx, s _ _ ob (by intro _ z; cases z)⟩, s _ _ sv (by intro _ z; cases z), ⟨LR, er, s _ _ rv (by intro _ z; cases z), fun e he => let ⟨py, pa⟩ := rp e he; ⟨py, s _ _ pa (by intro _ z; cases z)⟩⟩, ⟨LW, ew, s _ _ wv (by intro _ z; cases z), fun e he => s _ _ (wp e he) (by intro _ z; cases z)⟩, n1, n2, n3⟩
theorem lmO_ne {f : Addr} {F : NF} {e : Expr} (ps : Array Value) : LmO f F e ≠ .tbl ps := fun z => by
  unfold LmO at z
  cases z
theorem lok1 (T : Tx K mg) (m_Mover_set_way : MetX P w K mg base 3 (He.ga K "Mover") "set_way" (spSetWay K) []) (f c' : Addr) (q : Str) (cl : List (Str × Addr)) : LOk P w K mg base 5 f ⟨"<lambda>", q, laP (lamE 0), [], laS (lamE 0), cl, c'⟩ (laB (lamE 0)) ["fresh"] (spL K) := by
  refine lok_of (N := ["fresh"]) (nscope_by nsc0) (fun _ _ => rfl) fun A outer s H ws Q E hr hl h => ?_
  obtain ⟨m, dv, dp, dw, rfl, mv, kk⟩ := h
  refine ⟨_, pe_mX m_Mover_set_way hr (by decide) paN (pv 0) (pa_cons pe_str (pa_cons (pe_un un_neg pe_int) (pa_cons pe_str pa_nil))), ?_⟩
  obtain ⟨dx, ob⟩ := mv.ob
  show tMeth _ _ _ _ _ _ _ [some (V.ref m)] H Q
  walk_at "go"
  exact ⟨m, dv, dp, dw, _, "a", "even", -1, rfl, mv, Nat.zero_le _, fun z => absurd z.1 (by decide), fun _ H' s' => kk H' s'⟩
theorem lok2 (T : Tx K mg) (m_Mover_set_way : MetX P w K mg base 3 (He.ga K "Mover") "set_way" (spSetWay K) []) (f c' : Addr) (q : Str) (cl : List (Str × Addr)) : LOk P w K mg base 5 f ⟨"<lambda>", q, laP (lamE 1), [], laS (lamE 1), cl, c'⟩ (laB (lamE 1)) ["fresh"] (spL K) := by
  refine lok_of (N := ["fresh"]) (nscope_by nsc1) (fun _ _ => rfl) fun A outer s H ws Q E hr hl h => ?_
  obtain ⟨m, dv, dp, dw, rfl, mv, kk⟩ := h
  refine ⟨_, pe_mX m_Mover_set_way hr (by decide) paN (pv 0) (pa_cons pe_str (pa_cons pe_int (pa_cons pe_str pa_nil))), ?_⟩
  obtain ⟨dx, ob⟩ := mv.ob
  show tMeth _ _ _ _ _ _ _ [some (V.ref m)] H Q
  walk_at "go"
  exact ⟨m, dv, dp, dw, _, "a", "odd", 5, rfl, mv, Nat.zero_le _, fun z => absurd z.2 (by decide +kernel), fun _ H' s' => kk H' s'⟩
theorem lok3 (T : Tx K mg) (m_Mover_value_now : MetX P w K mg base 3 (He.ga K "Mover") "value_now" (spNow K) []) (f c' : Addr) (q : Str) (cl : List (Str × Addr)) : LOk P w K mg base 5 f ⟨"<lambda>", q, laP (lamE 2), [], laS (lamE 2), cl, c'⟩ (laB (lamE 2)) ["fresh"] (spL K) := by
  refine lok_of (N := ["fresh"]) (nscope_by nsc2) (fun _ _ => rfl) fun A outer s H ws Q E hr hl h => ?_
  obtain ⟨m, dv, dp, dw, rfl, mv, kk⟩ := h
  refine ⟨_, pe_mX m_Mover_value_now hr (by decide) paN (pv 0) (pa_cons pe_str pa_nil), ?_⟩
  obtain ⟨dx, ob⟩ := mv.ob
  show tMeth _ _ _ _ _ _ _ [some (V.ref m)] H Q
  walk_at "go"
  refine ⟨m, dv, dp, dw, ⟨[], [], [], 0⟩, "a", rfl, mv, ?_, ?_, ?_⟩
  · intro r hr
    exact nomatch (show (none : Option Row) = some r from hr)
  · intro _ v hv
    exact nomatch (show (none : Option Int) = some v from hv)
  · intro _ _
    exact kk H (Same.refl H)
theorem lok4 (T : Tx K mg) (k_Path : MakX P w K mg base 1 "Path" (He.ga K "Path") (spPath K) []) (f c' : Addr) (q : Str) (cl : List (Str × Addr)) : LOk P w K mg base 5 f ⟨"<lambda>", q, laP (lamE 3), [], laS (lamE 3), cl, c'⟩ (laB (lamE 3)) [] (spL0 K) := by
  refine lok_of (N := []) (nscope_by nsc3) (fun _ _ => rfl) fun A outer s H ws Q E hr hl h => ?_
  obtain ⟨rfl, kk⟩ := h
  refine ⟨_, pe_mkX k_Path hr (by decide) rfl paN (pa_cons pe_int (pa_cons pe_int (pa_cons pe_int (pa_cons (pe_un un_neg pe_int) (pa_cons pe_str pa_nil))))), ?_⟩
  show tMake _ _ _ _ _ [] H Q
  walk_at "go"
  intro x dx nx nd nxd
  exact ⟨x, dx, ⟨0, 1, 0, -1, "even"⟩, rfl, upd_same, fun z => absurd z.1 (by show ¬ (0 : Int) ≤ -1; decide), fun _ => kk _ (Kp.to_same (.own (.new .refl nd) nx))⟩
def spLaw (K : PySem.W.Frag) (Pt : Addr) : Sp := fun vs H Q _ => ∃ (a : Addr) (ns : List Int), vs = [.ref a] ∧ SqL K H a (ns.map V.int) ∧ ns.length ≤ 10000 ∧ H Pt = some (.tbl #[]) ∧ ∀ H', Q (.bl true) H'
section
variable {f c Pt : Addr} {A : Around} {outer : List Env} {s : Shared} {HE : Hp} {E : XK}
theorem lamFreeB : ([0, 1, 2, 3].all fun i => (laS (lamE i)).names.all fun y => !decide (y.2 = .free) || decide ((defScope s_law).names.lookup y.1 = some .cell) || decide ((defScope s_law).names.lookup y.1 = some .free)) = true := by decide +kernel
theorem lamFree (i : Nat) (hi : i ∈ [0, 1, 2, 3] := by decide) : ∀ y ∈ (laS (lamE i)).names, y.2 = .free → (defScope s_law).names.lookup y.1 = some .cell ∨ (defScope s_law).names.lookup y.1 = some .free := fun y hy e => by
  have h := List.all_eq_true.mp (List.all_eq_true.mp lamFreeB i hi) y hy
  simp only [Bool.or_eq_true, Bool.not_eq_true', decide_eq_true_eq, decide_eq_false_iff_not] at h
  rcases h with (z | z) | z
  · exact absurd e z
  · exact .inl z
  · exact .inr z
theorem lamFr : ([0, 1, 2].all fun i => decide ((("fresh" : Str), NameKind.free) ∈ (laS (lamE i)).names)) = true := by decide +kernel
theorem lamFr1 (i : Nat) (hi : i ∈ [0, 1, 2] := by decide) : ∀ y ∈ (["fresh"] : List Str), (y, NameKind.free) ∈ (laS (lamE i)).names := fun y hy => by
  rw [List.mem_singleton.mp hy]
  exact of_decide_eq_true (List.all_eq_true.mp lamFr i hi)
/-- it is told of the error -/
theorem toldL (T : Tx K mg) {H : Hp} {Q : VK} {m dv dp dw : Addr} (mv : MvAt K H m dv dp dw ⟨[], [], [], 0⟩) (q : ∀ H', Same H H' → Q (.str "SizeError") H') : TTold K (He.ga K "SizeError") "SizeError" (fun E H' Q' => spL K [some (.ref m)] H' Q' E) H Q :=
  ⟨m, dv, dp, dw, rfl, mv, fun H' s' => ⟨true, T.e_SizeError_SizeError, fun _ => q H' s', fun h => by cases h⟩⟩
theorem toldL0 (T : Tx K mg) {H : Hp} {Q : VK} (q : ∀ H', Same H H' → Q (.str "SizeError") H') : TTold K (He.ga K "SizeError") "SizeError" (fun E H' Q' => spL0 K [] H' Q' E) H Q :=
  ⟨rfl, fun H' s' => ⟨true, T.e_SizeError_SizeError, fun _ => q H' s', fun h => by cases h⟩⟩
theorem notErr : (!decide (("SizeError" : Str) = "SizeError")) = false := by simp
abbrev qn : Str := (envOfC "law" (defScope s_law) 0 0 (.ref 0)).qual ++ "<lambda>"
theorem bl_tail (T : Tx K mg) (k_Path : MakX P w K mg base 1 "Path" (He.ga K "Path") (spPath K) []) (k_Mover : MakX P w K mg base 1 "Mover" (He.ga K "Mover") (spMover K) []) (m_Mover_set_way : MetX P w K mg base 3 (He.ga K "Mover") "set_way" (spSetWay K) [])
    (m_Mover_tick : MetX P w K mg base 2 (He.ga K "Mover") "tick" (spTick K) [.int 1]) (m_Mover_value_now : MetX P w K mg base 3 (He.ga K "Mover") "value_now" (spNow K) []) {fdT : FuncData} (FT : FunD K "_law_told" "_law_told" (defArgs s_law_told) (defBody s_law_told) (defScope s_law_told) [] [] (He.ga K "_law_told") fdT)
    (TB : TabB base mg c Pt) (hr : Room 7 (A.deeper (envOfC "law" (defScope s_law) s.heap.objs.size f (.ref c)))) :
    ∃ t, PSs (lcx P w K mg base f (.ref c) A outer s HE E) bd_tail t ∧ ∀ (D : Ends) (H : Hp) (σ : L2.St), Sa σ → H Pt = some (.tbl #[]) → (∀ H', D.rt (.bl true) H') → t D σ H := by
  obtain ⟨oc, od, dV, kV, doc, pm, an, cdv, ct, osl, efd, lk, hcd, _, _⟩ := FT.ex
  have bT : Binds K fdT ["what"] [] := FT.bindsN fun _ _ _ _ _ _ us hl => match us, hl with | [_], _ => rfl
  subst efd
  refine ⟨_, (pss_cons (ps_set (i := 22) sc_law.nd rfl (Or.inr rfl) (pe_mkX0 k_Mover hr (by decide) rfl paX))
  (pss_cons (ps_set (i := 23) sc_law.nd rfl (Or.inl rfl) (pe_lst (pa_cons (pe_lam (T := [(Pt, qn)]) TB rfl List.mem_cons_self (fun p hp _ => (List.mem_singleton.mp hp) ▸ rfl) rfl (lamFree 0)) (pa_cons (pe_lam (T := [(Pt, qn)]) TB rfl List.mem_cons_self (fun p hp _ => (List.mem_singleton.mp hp) ▸ rfl) rfl (lamFree 1)) (pa_cons (pe_lam (T := [(Pt, qn)]) TB rfl List.mem_cons_self (fun p hp _ => (List.mem_singleton.mp hp) ▸ rfl) rfl (lamFree 2)) (pa_cons (pe_lam (T := [(Pt, qn)]) TB rfl List.mem_cons_self (fun p hp _ => (List.mem_singleton.mp hp) ▸ rfl) rfl (lamFree 3)) pa_nil))))))
  (pss_one (ps_ret (pe_and (pe_cmpR (op_eqDK (K := K) rfl (hU_of hr)) (pe_lcI (own := [("f", 26)]) (g := gName 26) (tt := fun σ => tTest (tOp rNe (tToldL P w K mg base 5 26 (CapP (lcx P w K mg base f (.ref c) A outer s HE E) σ) (He.ga K "SizeError") "SizeError") (tC (.str "SizeError")))) rfl sc_law.nd (pi_listK (K := K) rfl (pv 23)) (blkOk_by (own := [("f", 26)]) (N := sl_law) (sc := defScope s_law) (by decide +kernel)) (fun _ _ _ _ _ => (pg_name (i := 26) sc_law.nd rfl (Or.inl rfl)))
    (fun pins σ s' H' C cl fp I hfp => (pts_one (pt_cmpR op_ne (pe_toldL (k := 5) (i := 26) (g := He.ga K "_law_told") (Ng := sl_law_told) (capP_ok I hfp) rfl T.g__law_told FT.kp lk hcd bT sc_law_told rfl (Or.inl rfl) rfl T.g_SizeError (by decide) (fun _ => rfl) (hr.mono (by decide)) rfl (Or.inl rfl)) pe_str (nomark _)))) (fun _ _ _ _ _ => pe_int)) (pe_lst pa_nil) (nomark _))
    (pe_and (pe_cmpR (op_eq_dictN (hV_of hr)) (pe_fldK (K := K) rfl (pv 22) rfl) pe_dnewK (nomark _)) (pe_one (pe_cmpR (op_eqDK (K := K) rfl (hU_of hr)) (pe_mX0 m_Mover_tick hr (by decide) paX (pv 22)) (pe_tup pa_nil) (nomark _))))))))), ?_⟩
  rintro D H σ ⟨u0, u1, u2, u3, u4, u5, u6, u7, u8, u9, u10, u11, u12, u13, u14, u15, u16, u17, u18, u19, u20, u21, u22, u23, u24, u25, u26, rfl⟩ hP kk
  walk_at "go"
  intro m dx nm ndx nmd
  refine ⟨m, dx, rfl, upd_same, fun dv dp dw H1 f1 f2 f3 e1 e2 e3 kp1 h1 h2 h3 h4 => ⟨rfl, ?_⟩⟩
  have hP1 : H1 Pt = some (.tbl #[]) := kp1 _ _ ((upd_ne (ne_of_none hP nm)).trans ((upd_ne (ne_of_none hP ndx)).trans hP)) (by simpa using ne_of_none hP nm)
  have mv1 : MvAt K H1 m dv dp dw ⟨[], [], [], 0⟩ := ⟨⟨dx, h4⟩, h1, ⟨[], rfl, h2, fun _ h => by cases h⟩, ⟨[], rfl, h3, fun _ h => by cases h⟩, e1, e2, e3⟩
  have tab1 : Tabs [(Pt, qn)] H1 := fun p hp => by
    rw [List.mem_singleton.mp hp]
    exact TabS.nil hP1
  clear f1 f2 f3 h1 h2 h3 h4 kp1 hP1
  walk_at "go"
  refine ⟨tab1, fun g1 c1 H2 x1 tab2 _ o1 k1 => ?_⟩
  walk_at "go"
  refine ⟨tab2, fun g2 c2 H3 x2 tab3 _ o2 k2 => ?_⟩
  walk_at "go"
  refine ⟨tab3, fun g3 c3 H4 x3 tab4 _ o3 k3 => ?_⟩
  walk_at "go"
  refine ⟨tab4, fun g4 c4 H5 x4 tab5 _ o4 k4 => ?_⟩
  have mv5 := (((mv1.ext x1).ext x2).ext x3).ext x4
  have x24 := (x2.trans x3).trans x4
  have x34 := x3.trans x4
  have o1 := x24 _ _ o1 lmO_ne
  have o2 := x34 _ _ o2 lmO_ne
  have o3 := x4 _ _ o3 lmO_ne
  have k1 := x24 _ _ k1 codeO_ne
  have k2 := x34 _ _ k2 codeO_ne
  have k3 := x4 _ _ k3 codeO_ne
  clear x1 x2 x3 x4 x24 x34 tab1 tab2 tab3 tab4 tab5 mv1
  walk_at "go"
  refine ⟨szl (Nat.le_of_ble_eq_true rfl), fun p np => ?_⟩
  walk_at "go"
  have s56 : Same H5 (upd H5 p (.lst [.ref g1, .ref g2, .ref g3, .ref g4])) := Kp.to_same (.new .refl np)
  have h6 : upd H5 p (.lst [.ref g1, .ref g2, .ref g3, .ref g4]) p = some (.lst [.ref g1, .ref g2, .ref g3, .ref g4]) := upd_same
  generalize upd H5 p (.lst [.ref g1, .ref g2, .ref g3, .ref g4]) = H6 at s56 h6 ⊢
  have mv6 := mv5.same s56
  refine r_lclF (SqL.of h6) (fun x hx H7 s67 R hR => ?_) fun D7 H7 n7 s67 h7 => ?_
  · have s57 : Same H5 H7 := fun b o z => s67 _ _ (s56 _ _ z)
    have mv7 := mv6.same s67
    have fin : ∀ H8, Same H7 H8 → rNe (.str "SizeError") (.str "SizeError") H8 fun x H' => ∃ k, x = .bl k ∧ R k H' := fun H8 s8 => g_neS ⟨_, rfl, by rw [notErr]; exact hR H8 s8⟩
    simp only [List.mem_cons, List.not_mem_nil, or_false] at hx
    rcases hx with rfl | rfl | rfl | rfl
    · refine g_test (g_op ⟨g1, _, _, ["fresh"], _, spL K, rfl, ⟨[22], lamFree 0, rfl, lamFr1 0, rfl, rfl⟩, lok1 T m_Mover_set_way g1 c1 _ _, s57 _ _ o1, s57 _ _ k1, toldL T mv7 fun H8 s8 => ?_⟩)
      exact fin H8 s8
    · refine g_test (g_op ⟨g2, _, _, ["fresh"], _, spL K, rfl, ⟨[22], lamFree 1, rfl, lamFr1 1, rfl, rfl⟩, lok2 T m_Mover_set_way g2 c2 _ _, s57 _ _ o2, s57 _ _ k2, toldL T mv7 fun H8 s8 => ?_⟩)
      exact fin H8 s8
    · refine g_test (g_op ⟨g3, _, _, ["fresh"], _, spL K, rfl, ⟨[22], lamFree 2, rfl, lamFr1 2, rfl, rfl⟩, lok3 T m_Mover_value_now g3 c3 _ _, s57 _ _ o3, s57 _ _ k3, toldL T mv7 fun H8 s8 => ?_⟩)
      exact fin H8 s8
    · refine g_test (g_op ⟨g4, _, _, [], _, spL0 K, rfl, ⟨[], lamFree 3, rfl, fun _ h => absurd h (by simp), rfl, rfl⟩, lok4 T k_Path g4 c4 _ _, s57 _ _ o4, s57 _ _ k4, toldL0 T fun H8 s8 => ?_⟩)
      exact fin H8 s8
  have mv7 := mv6.same s67
  walk_at "go"
  refine ⟨Nat.zero_le _, fun p8 n8 => ?_⟩
  have nD8 : D7 ≠ p8 := ne_of_none' n8 h7
  refine g_eqLI (l := []) (m := []) (SqL.of ((upd_ne nD8).trans h7)) (SqL.of upd_same) ?_
  have mv8 := mv7.same (Kp.to_same (.new .refl n8) : Same H7 (upd H7 p8 (.lst [])))
  generalize upd H7 p8 (.lst []) = H8 at mv8 ⊢
  obtain ⟨dx8, ob8⟩ := mv8.ob
  obtain ⟨LW, ew, wv, _⟩ := mv8.wv
  have eLW : LW = [] := List.map_eq_nil_iff.mp ew
  rw [eLW] at wv
  walk_at "go"
  refine ifPt rfl ?_
  walk_at "go"
  intro p9 n9
  have nd9 : dw ≠ p9 := ne_of_none' n9 wv
  refine ⟨dw, p9, [], rfl, rfl, (upd_ne nd9).trans wv, upd_same, .nil, fun _ h => absurd h (by simp), ?_⟩
  walk_at "go"
  have mv9 := mv8.same (Kp.to_same (.new .refl n9) : Same H8 (upd H8 p9 (.dK [])))
  generalize upd H8 p9 (.dK []) = H9 at mv9 ⊢
  obtain ⟨dx9, ob9⟩ := mv9.ob
  walk_at "go"
  refine ⟨m, dv, dp, dw, ⟨[], [], [], 0⟩, 1, rfl, mv9, Nat.zero_le _, .nil, fun ys H10 q pe _ _ nq hq _ => ?_⟩
  have ey : ys = [] := List.perm_nil.mp pe
  rw [ey] at hq
  have hq : H10 q = some (.tup (([] : List Str).map V.str)) := hq
  walk_at "go"
  refine ⟨Nat.zero_le _, fun p11 n11 => ?_⟩
  have nq11 : q ≠ p11 := ne_of_none' n11 hq
  refine g_eqTS (l := []) (m := []) (SqT.of ((upd_ne nq11).trans hq)) (SqT.of upd_same) rfl rfl ?_
  exact kk _
theorem ok_law (T : Tx K mg) (c__law_rounds : CalX P w K mg base 2 "_law_rounds" (spRounds K) []) (c__law_roll : CalX P w K mg base 1 "_law_roll" spRoll []) (c__law_at : CalX P w K mg base 1 "_law_at" spAt []) (c_share_of : CalX P w K mg base 1 "share_of" spShare [])
    (k_Path : MakX P w K mg base 1 "Path" (He.ga K "Path") (spPath K) []) (k_Mover : MakX P w K mg base 1 "Mover" (He.ga K "Mover") (spMover K) []) (m_Path_is_over : MetX P w K mg base 1 (He.ga K "Path") "is_over" (spOver K) []) (m_Path_value_at : MetX P w K mg base 2 (He.ga K "Path") "value_at" (spValAt K) [])
    (m_Mover_set_way : MetX P w K mg base 3 (He.ga K "Mover") "set_way" (spSetWay K) []) (m_Mover_go_to : MetX P w K mg base 4 (He.ga K "Mover") "go_to" (spGo K) []) (m_Mover_tick : MetX P w K mg base 2 (He.ga K "Mover") "tick" (spTick K) []) (m_Mover_tick1 : MetX P w K mg base 2 (He.ga K "Mover") "tick" (spTick K) [.int 1])
    (m_Mover_moving : MetX P w K mg base 1 (He.ga K "Mover") "moving" (spMoving K) []) (m_Mover_value_now : MetX P w K mg base 3 (He.ga K "Mover") "value_now" (spNow K) []) {fdT : FuncData} (FT : FunD K "_law_told" "_law_told" (defArgs s_law_told) (defBody s_law_told) (defScope s_law_told) [] [] (He.ga K "_law_told") fdT)
    {f : Addr} {fd : FuncData} (F : FunD K "law" "law" (defArgs s_law) (defBody s_law) (defScope s_law) [] [] f fd) (hc : ∀ c, fd.code = .ref c → TabB base mg c Pt) : FnOk P w K mg base (L2.CX P w) 8 f fd ["script"] (spLaw K Pt) := by
  obtain ⟨oc, od, dV, kV, doc, pm, an, cdv, ct, osl, rfl, lk, hcd, _, _⟩ := F.ex
  obtain ⟨c, rfl⟩ := He.codeIn_ref hcd
  have TB := hc c rfl
  refine fn_of lk hcd sc_law (fun vs H Q E h => ?_) fun A outer s H vs Q E hr h => ?_
  · obtain ⟨a, ns, rfl, _⟩ := h
    rfl
  · obtain ⟨a, ns, rfl, ha, nl, hP, kk⟩ := h
    obtain ⟨t1, p_dice, h_dice⟩ := bl_dice (f := f) (cdv := .ref c) (A := A) (outer := outer) (s := s) (HE := H) (E := E) T c__law_roll c__law_at c_share_of k_Path k_Mover m_Path_is_over m_Path_value_at m_Mover_set_way m_Mover_go_to m_Mover_tick m_Mover_moving m_Mover_value_now (hr.mono (by decide))
    obtain ⟨t2, p_tail, h_tail⟩ := bl_tail (f := f) (A := A) (outer := outer) (s := s) (HE := H) (E := E) T k_Path k_Mover m_Mover_set_way m_Mover_tick1 m_Mover_value_now FT TB hr
    refine ⟨_, (pss_cons (ps_for poX rfl (pi_listK (K := K) rfl (pe_cX c__law_rounds hr (by decide) rfl paX (pa_cons (pv 0) (pa_cons pe_int pa_nil)))) (pg_name (i := 1) sc_law.nd rfl (Or.inl rfl)) p_dice)
  p_tail), ?_⟩
    walk_at "go"
    refine ⟨a, ns, rfl, ha, nl, fun D H1 ps n1 s1 h1 l1 dc => ?_⟩
    refine r_forl (xs := ps.map V.ref) (SqL.of h1) (fun i σ H' => Sa σ ∧ (∀ b o, H1 b = some o → b ∉ ps → H' b = some o) ∧ ∀ p ∈ ps, DiceAt H' p) ⟨⟨_, _, _, _, _, _, _, _, _, _, _, _, _, _, _, _, _, _, _, _, _, _, _, _, _, _, _, rfl⟩, fun _ _ z _ => z, dc⟩ (fun i σ H' h => ?_) (fun i x σ H' hi hx h => ?_) (fun σ H' h => ?_)
    · refine SqL.of (h.2.1 D _ h1 fun m => ?_)
      obtain ⟨x, n, k, z⟩ := dc D m
      rw [h1] at z
      have z := Option.some.inj z
      injection z with z
      cases ps with
      | nil => cases m
      | cons y r => injection z with z _; cases z
    · obtain ⟨⟨u0, u1, u2, u3, u4, u5, u6, u7, u8, u9, u10, u11, u12, u13, u14, u15, u16, u17, u18, u19, u20, u21, u22, u23, u24, u25, u26, rfl⟩, k1, k2⟩ := h
      rw [List.getElem?_map] at hx
      obtain ⟨d, hd, rfl⟩ := Option.map_eq_some_iff.mp hx
      refine h_dice _ H' d _ _ _ _ _ _ _ _ _ _ _ _ _ _ _ _ _ _ _ _ _ _ _ _ _ _ (k2 d (take_mem hd)) fun σ' H2 z1 z2 z3 => ⟨z1, fun b o e n => z3 b o (k1 b o e n) (by simp only [List.mem_singleton]; exact fun q => n (by rw [q]; exact take_mem hd)), fun p hp => ?_⟩
      by_cases e : p = d
      · rw [e]; exact z2
      · obtain ⟨x, n, k, z⟩ := k2 p hp
        exact ⟨x, n, k, z3 _ _ z (by simpa using e)⟩
    · obtain ⟨z1, k1, k2⟩ := h
      refine h_tail _ H' σ z1 (k1 _ _ (s1 _ _ hP) fun m => ?_) kk
      obtain ⟨x, n, k, z⟩ := dc Pt m
      rw [s1 _ _ hP] at z
      cases z
end
end
end K18


namespace K18
open LamX NdefX
section
variable {P : Program} {w : World} {K : PySem.W.Frag} {mg : Str → Option Value} {base : Heap} {h : Heap}
theorem bind_tick {f : Addr} {fd : FuncData} (F : FunD K "tick" "Mover.tick" (defArgs s_Mover_tick) (defBody s_Mover_tick) (defScope s_Mover_tick) [.int 1] [] f fd) : (∃ ds, Vals [] ds ∧ Binds K fd ["self", "many"] ds) ∧ ∃ ds, Vals [.int 1] ds ∧ Binds K fd ["self", "many"] ds :=
  ⟨F.binds1 2 1 (by simp) rfl fun T kV doc pm an cdv ct us its hu hi => (match us, its, hu, hi with | [_, _], [_], _, _ => ⟨_, rfl, rfl⟩),
   F.binds1 1 0 (by simp) rfl fun T kV doc pm an cdv ct us its hu hi => (match us, its, hu, hi with | [_], [_], _, _ => ⟨_, rfl, rfl⟩)⟩
abbrev PL18 : Program := PySem.Challenge.rw_pagestack_k18_values_that_go_in_time.prog
theorem law_at_ (w : World) (mg : Str → Option Value) (fa_ : Addr) (h : Heap) (KX : K.In h) (G : h.Ns mainGlobals mg) (hfa : mg ("law" : Str) = some (.ref fa_)) (c : He.SaysX fa fn ts tf exB w h K) :
    LamX.LawAtS PySem.Challenge.rw_pagestack_k18_values_that_go_in_time w K (L2.CX PySem.Challenge.rw_pagestack_k18_values_that_go_in_time.prog w) 8 63 "script" mg fa_ h := by
  have T : Tx K mg := tx_of KX G c.t.d c.more
  have efa := hfa.symm.trans T.g_law
  cases efa
  obtain ⟨fd0, F0⟩ := c.t.d.def_ 0 (d := d_Path_init) rfl
  obtain ⟨fd1, F1⟩ := c.t.d.def_ 1 (d := d_Path_is_over) rfl
  obtain ⟨fd2, F2⟩ := c.t.d.def_ 2 (d := d_Path_value_at) rfl
  obtain ⟨fd3, F3⟩ := c.t.d.def_ 3 (d := d_share_of) rfl
  obtain ⟨fd4, F4⟩ := c.t.d.def_ 4 (d := d_Mover_init) rfl
  obtain ⟨fd5, F5⟩ := c.t.d.def_ 5 (d := d_Mover_set_way) rfl
  obtain ⟨fd6, F6⟩ := c.t.d.def_ 6 (d := d_Mover_value_now) rfl
  obtain ⟨fd7, F7⟩ := c.t.d.def_ 7 (d := d_Mover_go_to) rfl
  obtain ⟨fd8, F8⟩ := c.t.d.def_ 8 (d := d_Mover_tick) rfl
  obtain ⟨fd9, F9⟩ := c.t.d.def_ 9 (d := d_Mover_moving) rfl
  obtain ⟨fd10, F10⟩ := c.t.d.def_ 10 (d := d_law_dice) rfl
  obtain ⟨fd11, F11⟩ := c.t.d.def_ 11 (d := d_law_roll) rfl
  obtain ⟨fd12, F12⟩ := c.t.d.def_ 12 (d := d_law_rounds) rfl
  obtain ⟨fd13, F13⟩ := c.t.d.def_ 13 (d := d_law_told) rfl
  obtain ⟨fd14, F14⟩ := c.t.d.def_ 14 (d := d_law_at) rfl
  obtain ⟨fd15, F15⟩ := c.t.d.def_ 15 (d := d_law) rfl
  refine ⟨fd15, [He.cT K ("law", none)], spLaw K (He.cT K ("law", none)).2, fun p hp => ?_, fun p hp => ?_, fun p hp => ?_, fun s u => ?_, fun H a ns hl _ hP hS => ⟨a, ns, rfl, hS, by omega, hP _ List.mem_cons_self, fun _ => rfl⟩, fun base KB GB TB => ?_⟩
  · rw [List.mem_singleton.mp hp]
    exact c.empty ("law", none) List.mem_cons_self
  · rw [List.mem_singleton.mp hp]
    exact c.out ("law", none) List.mem_cons_self
  · rw [List.mem_singleton.mp hp]
    exact PySem.W.codeHd_of_K KX (c.hd ("law", none) List.mem_cons_self)
  · exact FunD.bindsA (ps := ["script"]) F15 (fun _ _ _ _ _ _ us hl => match us, hl with | [_], _ => rfl) s [u] rfl
  · have c_share_of : CalX PL18 w K mg base 1 "share_of" spShare [] := ⟨⟨_, _, _, [], ok_share T F3, T.g_share_of, F3.kp, (F3.bindsN fun _ _ _ _ _ _ us hl => match us, hl with | [_, _, _], _ => rfl), .nil⟩⟩
    have k_Path : MakX PL18 w K mg base 1 "Path" (He.ga K "Path") (spPath K) [] := ⟨⟨_, _, _, [], T.mk_Path, ok_path T F0, T.g_Path, (F0.bindsN fun _ _ _ _ _ _ us hl => match us, hl with | [_, _, _, _, _, _], _ => rfl), .nil⟩⟩
    have k_Mover : MakX PL18 w K mg base 1 "Mover" (He.ga K "Mover") (spMover K) [] := ⟨⟨_, _, _, [], T.mk_Mover, ok_mover T F4, T.g_Mover, (F4.bindsN fun _ _ _ _ _ _ us hl => match us, hl with | [_], _ => rfl), .nil⟩⟩
    have m_Path_is_over : MetX PL18 w K mg base 1 (He.ga K "Path") "is_over" (spOver K) [] := ⟨⟨_, _, _, [], T.cl_Path, T.me_Path_is_over, ok_over T F1, (F1.bindsN fun _ _ _ _ _ _ us hl => match us, hl with | [_, _], _ => rfl), .nil⟩⟩
    have m_Path_value_at : MetX PL18 w K mg base 2 (He.ga K "Path") "value_at" (spValAt K) [] := ⟨⟨_, _, _, [], T.cl_Path, T.me_Path_value_at, ok_valAt T c_share_of m_Path_is_over F2, (F2.bindsN fun _ _ _ _ _ _ us hl => match us, hl with | [_, _], _ => rfl), .nil⟩⟩
    have m_Mover_set_way : MetX PL18 w K mg base 3 (He.ga K "Mover") "set_way" (spSetWay K) [] := ⟨⟨_, _, _, [], T.cl_Mover, T.me_Mover_set_way, ok_setWay T k_Path F5, (F5.bindsN fun _ _ _ _ _ _ us hl => match us, hl with | [_, _, _, _], _ => rfl), .nil⟩⟩
    have m_Mover_value_now : MetX PL18 w K mg base 3 (He.ga K "Mover") "value_now" (spNow K) [] := ⟨⟨_, _, _, [], T.cl_Mover, T.me_Mover_value_now, ok_now T m_Path_value_at F6, (F6.bindsN fun _ _ _ _ _ _ us hl => match us, hl with | [_, _], _ => rfl), .nil⟩⟩
    have m_Mover_go_to : MetX PL18 w K mg base 4 (He.ga K "Mover") "go_to" (spGo K) [] := ⟨⟨_, _, _, [], T.cl_Mover, T.me_Mover_go_to, ok_go T k_Path m_Path_is_over m_Mover_value_now F7, (F7.bindsN fun _ _ _ _ _ _ us hl => match us, hl with | [_, _, _], _ => rfl), .nil⟩⟩
    obtain ⟨⟨ds0, v0, b0⟩, ⟨ds1, v1, b1⟩⟩ := bind_tick F8
    have m_Mover_tick : MetX PL18 w K mg base 2 (He.ga K "Mover") "tick" (spTick K) [] := ⟨⟨_, _, _, ds0, T.cl_Mover, T.me_Mover_tick, ok_tick T m_Path_is_over F8, b0, v0⟩⟩
    have m_Mover_tick1 : MetX PL18 w K mg base 2 (He.ga K "Mover") "tick" (spTick K) [.int 1] := ⟨⟨_, _, _, ds1, T.cl_Mover, T.me_Mover_tick, ok_tick T m_Path_is_over F8, b1, v1⟩⟩
    have m_Mover_moving : MetX PL18 w K mg base 1 (He.ga K "Mover") "moving" (spMoving K) [] := ⟨⟨_, _, _, [], T.cl_Mover, T.me_Mover_moving, ok_moving T F9, (F9.bindsN fun _ _ _ _ _ _ us hl => match us, hl with | [_], _ => rfl), .nil⟩⟩
    have c__law_dice : CalX PL18 w K mg base 1 "_law_dice" spDice [] := ⟨⟨_, _, _, [], ok_dice T F10, T.g__law_dice, F10.kp, (F10.bindsN fun _ _ _ _ _ _ us hl => match us, hl with | [_], _ => rfl), .nil⟩⟩
    have c__law_roll : CalX PL18 w K mg base 1 "_law_roll" spRoll [] := ⟨⟨_, _, _, [], ok_roll T F11, T.g__law_roll, F11.kp, (F11.bindsN fun _ _ _ _ _ _ us hl => match us, hl with | [_, _], _ => rfl), .nil⟩⟩
    have c__law_rounds : CalX PL18 w K mg base 2 "_law_rounds" (spRounds K) [] := ⟨⟨_, _, _, [], ok_rounds T c__law_dice F12, T.g__law_rounds, F12.kp, (F12.bindsN fun _ _ _ _ _ _ us hl => match us, hl with | [_, _], _ => rfl), .nil⟩⟩
    have c__law_at : CalX PL18 w K mg base 1 "_law_at" spAt [] := ⟨⟨_, _, _, [], ok_at T F14, T.g__law_at, F14.kp, (F14.bindsN fun _ _ _ _ _ _ us hl => match us, hl with | [_, _], _ => rfl), .nil⟩⟩
    refine ok_law T c__law_rounds c__law_roll c__law_at c_share_of k_Path k_Mover m_Path_is_over m_Path_value_at m_Mover_set_way m_Mover_go_to m_Mover_tick m_Mover_tick1 m_Mover_moving m_Mover_value_now F13 F15 fun c0 e0 => ?_
    obtain ⟨oc, od, dV, kV, doc, pm, an, cdv, ct, osl, efd, lk, _, _, _⟩ := F15.ex
    have e1 : He.codeOf K ("law", none) = c0 := He.codeOf_eq (p := ("law", none)) lk e0
    have := TB _ List.mem_cons_self
    rw [show (He.cT K ("law", none)).1 = c0 from e1] at this
    exact this
end
end K18
open PySem PySem.W PySem.Calls PyProof.Rows
set_option maxHeartbeats 0 in
theorem PySem.Challenge.cw_pagestack_k18_values_that_go_in_time_holds : PySem.Challenge.rw_pagestack_k18_values_that_go_in_time.Holds := by
  w_on; o_law
  refine HandSHeadRun.head_any (r := OpenLaw.row PySem.Challenge.rw_pagestack_k18_values_that_go_in_time) (q := view (OpenLaw.row PySem.Challenge.rw_pagestack_k18_values_that_go_in_time).prog [14]) (H := K18.hk) (ob := K18.ob) (M := 20000) (loose := K18.looseN) (d := HandSHeadRun.topDef (OpenLaw.row PySem.Challenge.rw_pagestack_k18_values_that_go_in_time).prog 14) (kwd := []) K18.ob_eq
    (by kernel_rfl) (fun s => by kernel_rfl) K18.run (by kernel_rfl) (by kernel_rfl) (by kernel_rfl) (by rfl) (by first | assumption | decide +kernel) (by decide +kernel) ⟨rfl, rfl, rfl, rfl, rfl, by decide +kernel⟩ ?hw ?hc
  case hw => w_witness2
  case hc =>
    refine LamX.walk_ofTsE (l := PySem.Challenge.rw_pagestack_k18_values_that_go_in_time) (n := 63) (k := 8) (x := "script") (CX := fun w => L2.CX PySem.Challenge.rw_pagestack_k18_values_that_go_in_time.prog w) rfl (by decide) (by kernel_rfl) ⟨rfl, by decide, by decide⟩ ?F (fun w H s e s' z => ?hX)
    case F =>
      intro w mg fa h Y G hmg0
      obtain ⟨K, KX, c⟩ := Y
      have hmg : mg ("law" : PySem.Str) = some (.ref fa) := by
        have e : (HandSHeadRun.topDef (OpenLaw.row PySem.Challenge.rw_pagestack_k18_values_that_go_in_time).prog 14).name = ("law" : PySem.Str) := by kernel_rfl
        rw [← e]
        exact hmg0
      exact ⟨K, KX, K18.law_at_ w mg fa h KX G hmg c⟩
    case hX =>
      obtain ⟨_, _, _, _, _, _, _, _, _, _, _, _, z⟩ := z
      exact z

